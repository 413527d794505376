import PyProof.Rows.All
import Wide.All
import OpenK.AllK
import Wide.FinOn
import HandS.ForMost
import HandS.ForExc
import HandS.Wide
import HandS.WideMore
import HandS.Gcd
import HandS.IsInst
import HandS.Defaults
import HandS.MakeKw
import HandS.DictComp
import HandS.Flow
import HandS.More
import HandS.Codes
import PyProof.NoPylong
import PyProof.MeetsIn
import KE.KMathG
import HandS.Head0
import HandS.Head1
import HandS.Head2
import HandS.Head3
import HandS.HeadEnd
import HandS.HeadHook1
import HandS.HeadHook2
import HandS.HeadHook3
import HandS.HeadHook4
import PySem.Challenge.RW_ledbymarks_k02_whole_solutions_and_basis
set_option Elab.async false
set_option linter.all false
set_option maxRecDepth 100000
set_option maxHeartbeats 4000000
/-! DL1: data in place of values: an expression's reading, told by data alone. -/
namespace DL
open PySem PySem.Spec PyProof.Rows L2

/-- data: what a value stands for, without addresses -/
inductive D where
  | non | bl (b : Bool) | int (i : Int) | str (x : Str)
  | lst (xs : List D) | rd (xs : List D) | tup (xs : List D)
  | ins (C : Addr) (ns : List Str) (xs : List D)
  | dct (ks : List Key) (xs : List D)

abbrev dI (ns : List Int) : List D := ns.map D.int

theorem dI_append (a b : List Int) : dI (a ++ b) = dI a ++ dI b := List.map_append
/-! ### heaps -/
def Ex (H H' : Hp) : Prop := ∀ a o, H a = some o → H' a = some o
theorem Ex.refl (H : Hp) : Ex H H := fun _ _ h => h
theorem Ex.trans {H H1 H2 : Hp} (a : Ex H H1) (b : Ex H1 H2) : Ex H H2 := fun x o h => b x o (a x o h)
theorem Ex.new {H : Hp} {p : Addr} {o : HO} (h : H p = none) : Ex H (upd H p o) := fun a u e => by
  rw [upd_ne (ne_of_none e h)]
  exact e
theorem Ex.mut {H H' : Hp} {p : Addr} {o : HO} (e : Ex H H') (h : H p = none) : Ex H (upd H' p o) := fun a u ha => by
  rw [upd_ne (ne_of_none ha h)]
  exact e a u ha
theorem Ex.back {H H' : Hp} {p : Addr} (e : Ex H H') (h : H' p = none) : H p = none := by
  cases h1 : H p with
  | none => rfl
  | some o => rw [e p o h1] at h; cases h
theorem ex_l {K : PySem.W.Frag} {H H' : Hp} {a : Addr} {xs : List V} (e : Ex H H') (h : SqL K H a xs) : SqL K H' a xs := by
  rcases h with (h | ⟨o, h⟩) | h
  · exact .inl (.inl (e _ _ h))
  · exact .inl (.inr ⟨o, e _ _ h⟩)
  · exact .inr h
theorem ex_t {K : PySem.W.Frag} {H H' : Hp} {a : Addr} {xs : List V} (e : Ex H H') (h : SqT K H a xs) : SqT K H' a xs := by
  rcases h with (h | ⟨o, h⟩) | h
  · exact .inl (.inl (e _ _ h))
  · exact .inl (.inr ⟨o, e _ _ h⟩)
  · exact .inr h
/-- what was known grows from H to Hn, the whole heap from H1 to H2; what is new in Hn was free in H1 -/
structure Gr (H H1 Hn H2 : Hp) : Prop where
  kn : Ex H Hn
  inn : Ex Hn H2
  all : Ex H1 H2
  new : ∀ a o, Hn a = some o → H a = none → H1 a = none
theorem Gr.refl {H H1 : Hp} (e : Ex H H1) : Gr H H1 H H1 := ⟨Ex.refl _, e, Ex.refl _, fun a o h n => by rw [n] at h; cases h⟩
theorem Gr.trans {H H1 Hn H2 Hm H3 : Hp} (a : Gr H H1 Hn H2) (b : Gr Hn H2 Hm H3) : Gr H H1 Hm H3 := by
  refine ⟨a.kn.trans b.kn, b.inn, a.all.trans b.all, fun x o h n => ?_⟩
  cases q : Hn x with
  | none => exact a.all.back (b.new x o h q)
  | some u => exact a.new x u q n
/-- a new object is made and known -/
theorem Gr.made {H H1 Hn H2 : Hp} {p : Addr} {o : HO} (a : Gr H H1 Hn H2) (h : H2 p = none) : Gr H H1 (upd Hn p o) (upd H2 p o) := by
  have hn : Hn p = none := a.inn.back h
  refine ⟨a.kn.mut (a.kn.back hn), fun x u q => ?_, a.all.mut (a.all.back h), fun x u q n => ?_⟩
  · by_cases e : x = p
    · subst e; rw [upd_same] at q ⊢; exact q
    · rw [upd_ne e] at q ⊢; exact a.inn x u q
  · by_cases e : x = p
    · subst e; exact a.all.back h
    · rw [upd_ne e] at q; exact a.new x u q n
/-- a new object that stands already becomes known -/
theorem Gr.know {H H1 Hn H2 : Hp} {p : Addr} {o : HO} (a : Gr H H1 Hn H2) (h1 : H1 p = none) (h2 : H2 p = some o) (hn : Hn p = none) : Gr H H1 (upd Hn p o) H2 := by
  refine ⟨a.kn.mut (a.kn.back hn), fun x u q => ?_, a.all, fun x u q n => ?_⟩
  · by_cases e : x = p
    · subst e; rw [upd_same] at q; rw [h2]; exact q
    · rw [upd_ne e] at q; exact a.inn x u q
  · by_cases e : x = p
    · subst e; exact h1
    · rw [upd_ne e] at q; exact a.new x u q n
/-- less is known ahead -/
theorem Gr.drop {H H' H1 Hn H2 : Hp} (e : Ex H H') (e1 : Ex H' H1) (a : Gr H' H1 Hn H2) (h : ∀ a o, Hn a = some o → H' a ≠ none → H a = none → False) : Gr H H1 Hn H2 := by
  refine ⟨e.trans a.kn, a.inn, a.all, fun x o q n => ?_⟩
  cases r : H' x with
  | none => exact a.new x o q r
  | some u => exact (h x o q (by rw [r]; exact fun z => by cases z) n).elim
/-- more is known -/
def un (H Hn : Hp) : Hp := fun a => match Hn a with
  | some o => some o
  | none => H a
theorem un_l {H Hn H2 : Hp} (a : Ex H H2) (b : Ex Hn H2) : Ex H (un H Hn) := fun x o q => by
  unfold un
  cases r : Hn x with
  | none => exact q
  | some u =>
    have h1 := b x u r
    have h2 := a x o q
    rw [h1] at h2
    exact h2
theorem un_r {H Hn : Hp} : Ex Hn (un H Hn) := fun x o q => by
  unfold un
  rw [q]
theorem un_in {H Hn H2 : Hp} (a : Ex H H2) (b : Ex Hn H2) : Ex (un H Hn) H2 := fun x o q => by
  unfold un at q
  cases r : Hn x with
  | none => rw [r] at q; exact a x o q
  | some u => rw [r] at q; exact b x o (r.trans q)
theorem Gr.lift {H H' H1 Hn H2 : Hp} (e1 : Ex H' H1) (a : Gr H H1 Hn H2) (e : Ex H H') : Gr H' H1 (un H' Hn) H2 := by
  have q : Ex H' H2 := e1.trans a.all
  refine ⟨un_l q a.inn, un_in q a.inn, a.all, fun x o r n => ?_⟩
  unfold un at r
  cases z : Hn x with
  | none => rw [z] at r; rw [n] at r; cases r
  | some u => exact a.new x u z (e.back n)

/-! ### a value stands for data -/
mutual
inductive Rp (K : PySem.W.Frag) (H : Hp) : V → D → Prop
  | non : Rp K H .non .non
  | bl (b : Bool) : Rp K H (.bl b) (.bl b)
  | int (i : Int) : Rp K H (.int i) (.int i)
  | str (x : Str) : Rp K H (.str x) (.str x)
  | lst {a : Addr} {xs : List V} {ds : List D} : H a = some (.lst xs) → Rps K H xs ds → Rp K H (.ref a) (.lst ds)
  | rd {a : Addr} {xs : List V} {ds : List D} : SqL K H a xs → Rps K H xs ds → Rp K H (.ref a) (.rd ds)
  | tup {a : Addr} {xs : List V} {ds : List D} : SqT K H a xs → Rps K H xs ds → Rp K H (.ref a) (.tup ds)
  | ins {a C dx : Addr} {fs : List (Str × V)} {ds : List D} : H a = some (.ins C dx fs) → Rps K H (fs.map Prod.snd) ds → Rp K H (.ref a) (.ins C (fs.map Prod.fst) ds)
  | dct {a : Addr} {kvs : List (Key × V)} {ds : List D} : H a = some (.dK kvs) → Rps K H (kvs.map Prod.snd) ds → Rp K H (.ref a) (.dct (kvs.map Prod.fst) ds)
inductive Rps (K : PySem.W.Frag) (H : Hp) : List V → List D → Prop
  | nil : Rps K H [] []
  | cons {v : V} {vs : List V} {d : D} {ds : List D} : Rp K H v d → Rps K H vs ds → Rps K H (v :: vs) (d :: ds)
end
section
variable {K : PySem.W.Frag} {H H' : Hp}
mutual
theorem Rp.mono (e : Ex H H') : ∀ {v : V} {d : D}, Rp K H v d → Rp K H' v d
  | _, _, .non => .non
  | _, _, .bl b => .bl b
  | _, _, .int i => .int i
  | _, _, .str x => .str x
  | _, _, .lst h r => .lst (e _ _ h) (Rps.mono e r)
  | _, _, .rd h r => .rd (ex_l e h) (Rps.mono e r)
  | _, _, .tup h r => .tup (ex_t e h) (Rps.mono e r)
  | _, _, .ins h r => .ins (e _ _ h) (Rps.mono e r)
  | _, _, .dct h r => .dct (e _ _ h) (Rps.mono e r)
theorem Rps.mono (e : Ex H H') : ∀ {vs : List V} {ds : List D}, Rps K H vs ds → Rps K H' vs ds
  | _, _, .nil => .nil
  | _, _, .cons r t => .cons (Rp.mono e r) (Rps.mono e t)
end
theorem Rps.length : ∀ {vs : List V} {ds : List D}, Rps K H vs ds → vs.length = ds.length
  | _, _, .nil => rfl
  | _, _, .cons _ t => congrArg Nat.succ (Rps.length t)
theorem Rps.get : ∀ {vs : List V} {ds : List D} {i : Nat} {d : D}, Rps K H vs ds → ds[i]? = some d → ∃ v, vs[i]? = some v ∧ Rp K H v d
  | _, _, _, _, .nil, e => by simp at e
  | _, _, 0, _, .cons r _, e => by simp at e; subst e; exact ⟨_, rfl, r⟩
  | _, _, i + 1, d, .cons _ t, e => by
    obtain ⟨v, h1, h2⟩ := Rps.get (i := i) (d := d) t (by simpa using e)
    exact ⟨v, by simpa using h1, h2⟩
theorem Rps.getV : ∀ {vs : List V} {ds : List D} {i : Nat} {v : V}, Rps K H vs ds → vs[i]? = some v → ∃ d, ds[i]? = some d ∧ Rp K H v d
  | _, _, _, _, .nil, e => by simp at e
  | _, _, 0, _, .cons r _, e => by simp at e; subst e; exact ⟨_, rfl, r⟩
  | _, _, i + 1, v, .cons _ t, e => by
    obtain ⟨d, h1, h2⟩ := Rps.getV (i := i) (v := v) t (by simpa using e)
    exact ⟨d, by simpa using h1, h2⟩
theorem Rps.append : ∀ {vs ws : List V} {ds es : List D}, Rps K H vs ds → Rps K H ws es → Rps K H (vs ++ ws) (ds ++ es)
  | _, _, _, _, .nil, s => s
  | _, _, _, _, .cons r t, s => .cons r (Rps.append t s)
theorem Rps.one {v : V} {d : D} (h : Rp K H v d) : Rps K H [v] [d] := .cons h .nil
theorem Rps.set {v : V} {d : D} (h : Rp K H v d) : ∀ {vs : List V} {ds : List D} (i : Nat), Rps K H vs ds → Rps K H (vs.set i v) (ds.set i d)
  | _, _, _, .nil => .nil
  | _, _, 0, .cons _ t => .cons h t
  | _, _, i + 1, .cons q t => .cons q (Rps.set h i t)
theorem Rps.take : ∀ {vs : List V} {ds : List D} (n : Nat), Rps K H vs ds → Rps K H (vs.take n) (ds.take n)
  | _, _, 0, _ => .nil
  | _, _, _ + 1, .nil => .nil
  | _, _, n + 1, .cons r t => .cons r (Rps.take n t)
theorem Rps.drop : ∀ {vs : List V} {ds : List D} (n : Nat), Rps K H vs ds → Rps K H (vs.drop n) (ds.drop n)
  | _, _, 0, r => r
  | _, _, _ + 1, .nil => .nil
  | _, _, n + 1, .cons _ t => Rps.drop n t
theorem Rps.toI : ∀ {vs : List V} {ns : List Int}, Rps K H vs (dI ns) → vs = ns.map V.int
  | vs, [], h => by cases h; rfl
  | vs, n :: ns, h => by
    cases h with
    | cons r t =>
      cases r
      rw [Rps.toI (ns := ns) t]
      rfl
theorem Rps.ofInts : ∀ {ns : List Int}, Rps K H (ns.map V.int) (DL.dI ns)
  | [] => .nil
  | n :: ns => .cons (.int n) Rps.ofInts
theorem Rps.rep {v : V} {d : D} (h : Rp K H v d) : ∀ n : Nat, Rps K H (List.replicate n v) (List.replicate n d)
  | 0 => .nil
  | n + 1 => .cons h (Rps.rep h n)
end

/-! ### the slots' data; readings of expressions -/
abbrev Env := List (Option D)
structure ER (K : PySem.W.Frag) (H : Hp) (σ : L2.St) (η : Env) : Prop where
  len : η.length = σ.length
  get : ∀ (i : Nat) (d : D), η[i]? = some (some d) → ∃ v, σ[i]? = some (some v) ∧ Rp K H v d
theorem ER.mono {K : PySem.W.Frag} {H H' : Hp} {σ : L2.St} {η : Env} (e : Ex H H') (h : ER K H σ η) : ER K H' σ η := ⟨h.len, fun i d q => by
  obtain ⟨v, a, b⟩ := h.get i d q
  exact ⟨v, a, b.mono e⟩⟩
theorem ER.set {K : PySem.W.Frag} {H : Hp} {σ : L2.St} {η : Env} {i : Nat} {v : V} {d : D} (h : ER K H σ η) (r : Rp K H v d) : ER K H (σ.set i (some v)) (η.set i (some d)) := ⟨by simp [h.len], fun j e q => by
  by_cases hj : j = i
  · subst hj
    have hl : j < η.length := by
      have := (List.getElem?_eq_some_iff.mp q).1
      simpa using this
    rw [List.getElem?_set_self hl] at q
    cases q
    exact ⟨v, List.getElem?_set_self (by rw [← h.len]; exact hl), r⟩
  · rw [List.getElem?_set_ne (Ne.symm hj)] at q ⊢
    exact h.get j e q⟩
/-- slots forgotten -/
def wipeE (η : Env) : List Nat → Env
  | [] => η
  | v :: vs => (wipeE η vs).set v none
theorem ER.wipe {K : PySem.W.Frag} {H : Hp} {σ : L2.St} {η : Env} (h : ER K H σ η) : ∀ vs : List Nat, ER K H (L2.wipe σ vs) (wipeE η vs)
  | [] => h
  | v :: vs => by
    have ih := ER.wipe h vs
    refine ⟨by unfold wipeE L2.wipe; simp [ih.len], fun j e q => ?_⟩
    unfold wipeE at q
    unfold L2.wipe
    by_cases hj : j = v
    · subst hj
      by_cases hl : j < (wipeE η vs).length
      · rw [List.getElem?_set_self hl] at q
        cases q
      · rw [List.getElem?_eq_none (by simpa using hl)] at q
        cases q
    · rw [List.getElem?_set_ne (Ne.symm hj)] at q ⊢
      exact ih.get j e q
theorem wipe_set {i : Nat} {o : Option V} : ∀ {vs : List Nat} {σ : L2.St}, i ∈ vs → L2.wipe (σ.set i o) vs = L2.wipe σ vs
  | [], _, h => by cases h
  | v :: vs, σ, h => by
    unfold L2.wipe
    by_cases e : i ∈ vs
    · rw [wipe_set e]
    · have ei : i = v := by
        rcases List.mem_cons.mp h with h | h
        · exact h
        · exact absurd h e
      subst ei
      have q : ∀ (ws : List Nat) (τ : L2.St), i ∉ ws → L2.wipe (τ.set i o) ws = (L2.wipe τ ws).set i o := by
        intro ws
        induction ws with
        | nil => intro τ _; rfl
        | cons w ws ih =>
          intro τ hn
          unfold L2.wipe
          rw [ih τ fun z => hn (List.mem_cons_of_mem _ z)]
          exact List.set_comm _ _ fun z => hn (by rw [← z]; exact List.mem_cons_self)
      rw [q vs σ e, List.set_set]
theorem wipe_wipe {σ : L2.St} : ∀ {vs : List Nat}, L2.wipe (L2.wipe σ vs) vs = L2.wipe σ vs := by
  have q : ∀ (ws vs : List Nat) (τ : L2.St), (∀ w ∈ ws, w ∈ vs) → L2.wipe (L2.wipe τ ws) vs = L2.wipe τ vs := by
    intro ws
    induction ws with
    | nil => intro vs τ _; rfl
    | cons w ws ih =>
      intro vs τ h
      show L2.wipe ((L2.wipe τ ws).set w none) vs = _
      rw [wipe_set (h w List.mem_cons_self)]
      exact ih vs τ fun x hx => h x (List.mem_cons_of_mem _ hx)
  exact fun {vs} => q vs vs σ fun _ h => h

def EvD (K : PySem.W.Frag) (te : TE) (η : Env) (d : D) : Prop := ∀ H σ H1, ER K H σ η → Ex H H1 → ∀ Q : VK, (∀ v Hn H2, Gr H H1 Hn H2 → Rp K Hn v d → Q v H2) → te σ H1 Q
/-- a new list -/
def EvL (K : PySem.W.Frag) (te : TE) (η : Env) (ds : List D) : Prop := ∀ H σ H1, ER K H σ η → Ex H H1 → ∀ Q : VK,
  (∀ p vs Hn H2, Gr H H1 Hn H2 → H1 p = none → Hn p = none → H2 p = some (.lst vs) → Rps K Hn vs ds → Q (.ref p) H2) → te σ H1 Q
def EvA (K : PySem.W.Frag) (ta : TA) (η : Env) (ds : List D) : Prop := ∀ H σ H1, ER K H σ η → Ex H H1 → ∀ Q : List V → Hp → Prop, (∀ vs Hn H2, Gr H H1 Hn H2 → Rps K Hn vs ds → Q vs H2) → ta σ H1 Q
def EvT (K : PySem.W.Frag) (tt : TT) (η : Env) (b : Bool) : Prop := ∀ H σ H1, ER K H σ η → Ex H H1 → ∀ Q : Bool → Hp → Prop, (∀ H2, Ex H1 H2 → Q b H2) → tt σ H1 Q
def EvO (K : PySem.W.Frag) (to : TO) (η : Env) (o : Option Int) : Prop := ∀ H σ H1, ER K H σ η → Ex H H1 → ∀ Q : Option Int → Hp → Prop, (∀ H2, Ex H1 H2 → Q o H2) → to σ H1 Q

/-! operations on data -/
def OpD (K : PySem.W.Frag) (r : R2) (a b c : D) : Prop := ∀ x y H H1, Rp K H x a → Rp K H y b → Ex H H1 → ∀ Q : VK, (∀ v Hn H2, Gr H H1 Hn H2 → Rp K Hn v c → Q v H2) → r x y H1 Q
def OpL (K : PySem.W.Frag) (r : R2) (a b : D) (cs : List D) : Prop := ∀ x y H H1, Rp K H x a → Rp K H y b → Ex H H1 → ∀ Q : VK,
  (∀ p vs Hn H2, Gr H H1 Hn H2 → H1 p = none → Hn p = none → H2 p = some (.lst vs) → Rps K Hn vs cs → Q (.ref p) H2) → r x y H1 Q
def UnD (K : PySem.W.Frag) (r : V → Hp → VK → Prop) (a c : D) : Prop := ∀ x H H1, Rp K H x a → Ex H H1 → ∀ Q : VK, (∀ v Hn H2, Gr H H1 Hn H2 → Rp K Hn v c → Q v H2) → r x H1 Q
def CbD (K : PySem.W.Frag) (r : List V → Hp → VK → Prop) (as : List D) (c : D) : Prop := ∀ xs H H1, Rps K H xs as → Ex H H1 → ∀ Q : VK, (∀ v Hn H2, Gr H H1 Hn H2 → Rp K Hn v c → Q v H2) → r xs H1 Q
def CbL (K : PySem.W.Frag) (r : List V → Hp → VK → Prop) (as : List D) (cs : List D) : Prop := ∀ xs H H1, Rps K H xs as → Ex H H1 → ∀ Q : VK,
  (∀ p vs Hn H2, Gr H H1 Hn H2 → H1 p = none → Hn p = none → H2 p = some (.lst vs) → Rps K Hn vs cs → Q (.ref p) H2) → r xs H1 Q

section
variable {K : PySem.W.Frag} {η : Env} {ta tb te : TE} {t u : TT} {a b c d : D} {as cs ds : List D} {r : R2}

/-- a new list is data like others -/
theorem EvL.data (h : EvL K te η ds) : EvD K te η (.lst ds) := fun H σ H1 er e Q q =>
  h H σ H1 er e Q fun p vs Hn H2 g h1 hn h2 rs => q (.ref p) (upd Hn p (.lst vs)) H2 (g.know h1 h2 hn) (.lst upd_same (rs.mono ((Ex.refl Hn).mut hn)))
theorem OpL.data (h : OpL K r a b cs) : OpD K r a b (.lst cs) := fun x y H H1 rx ry e Q q =>
  h x y H H1 rx ry e Q fun p vs Hn H2 g h1 hn h2 rs => q (.ref p) (upd Hn p (.lst vs)) H2 (g.know h1 h2 hn) (.lst upd_same (rs.mono ((Ex.refl Hn).mut hn)))
theorem CbL.data {r : List V → Hp → VK → Prop} (h : CbL K r as cs) : CbD K r as (.lst cs) := fun x H H1 rx e Q q =>
  h x H H1 rx e Q fun p vs Hn H2 g h1 hn h2 rs => q (.ref p) (upd Hn p (.lst vs)) H2 (g.know h1 h2 hn) (.lst upd_same (rs.mono ((Ex.refl Hn).mut hn)))

theorem EvD.is (h : EvD K te η d) (e : d = c) : EvD K te η c := by rw [← e]; exact h
theorem EvA.is {ta : TA} (h : EvA K ta η as) (e : as = cs) : EvA K ta η cs := by rw [← e]; exact h
theorem EvL.is (h : EvL K te η ds) (e : ds = cs) : EvL K te η cs := by rw [← e]; exact h
theorem EvT.is {x y : Bool} (h : EvT K t η x) (e : x = y) : EvT K t η y := by rw [← e]; exact h

theorem ed_var {i : Nat} (h : η[i]? = some (some d)) : EvD K (tVar i) η d := fun H σ H1 er e Q q => by
  obtain ⟨v, a, b⟩ := er.get i d h
  exact ⟨v, a, q v H H1 (Gr.refl e) b⟩
theorem ed_int {i : Int} : EvD K (tC (.int i)) η (.int i) := fun H σ H1 er e Q q => q _ H H1 (Gr.refl e) (.int i)
theorem ed_bl {i : Bool} : EvD K (tC (.bl i)) η (.bl i) := fun H σ H1 er e Q q => q _ H H1 (Gr.refl e) (.bl i)
theorem ed_non : EvD K (tC .non) η .non := fun H σ H1 er e Q q => q _ H H1 (Gr.refl e) .non
theorem ed_str {x : Str} : EvD K (tC (.str x)) η (.str x) := fun H σ H1 er e Q q => q _ H H1 (Gr.refl e) (.str x)
theorem ed_op (ha : EvD K ta η a) (hb : EvD K tb η b) (hr : OpD K r a b c) : EvD K (tOp r ta tb) η c := fun H σ H1 er e Q q =>
  ha H σ H1 er e _ fun x Hn H2 g rx => hb Hn σ H2 (er.mono g.kn) g.inn _ fun y Hm H3 g2 ry => hr x y Hm H3 (rx.mono g2.kn) ry g2.inn Q fun v Hk H4 g3 rv => q v Hk H4 ((g.trans g2).trans g3) rv
theorem el_op (ha : EvD K ta η a) (hb : EvD K tb η b) (hr : OpL K r a b cs) : EvL K (tOp r ta tb) η cs := fun H σ H1 er e Q q =>
  ha H σ H1 er e _ fun x Hn H2 g rx => hb Hn σ H2 (er.mono g.kn) g.inn _ fun y Hm H3 g2 ry => hr x y Hm H3 (rx.mono g2.kn) ry g2.inn Q fun p vs Hk H4 g3 h1 hk h2 rv => q p vs Hk H4 ((g.trans g2).trans g3) ((g.trans g2).all.back h1) hk h2 rv
theorem ed_un {r : V → Hp → VK → Prop} (ha : EvD K ta η a) (hr : UnD K r a c) : EvD K (tUn r ta) η c := fun H σ H1 er e Q q =>
  ha H σ H1 er e _ fun x Hn H2 g rx => hr x Hn H2 rx g.inn Q fun v Hk H4 g3 rv => q v Hk H4 (g.trans g3) rv
theorem ea_nil : EvA K tNil η [] := fun H σ H1 er e Q q => q [] H H1 (Gr.refl e) .nil
theorem ea_cons {tr : TA} (ha : EvD K ta η a) (hr : EvA K tr η as) : EvA K (tCons ta tr) η (a :: as) := fun H σ H1 er e Q q =>
  ha H σ H1 er e _ fun x Hn H2 g rx => hr Hn σ H2 (er.mono g.kn) g.inn _ fun xs Hm H3 g2 rs => q (x :: xs) Hm H3 (g.trans g2) (.cons (rx.mono g2.kn) rs)
theorem ed_cb {r : List V → Hp → VK → Prop} {ta : TA} (ha : EvA K ta η as) (hr : CbD K r as c) : EvD K (tCB r ta) η c := fun H σ H1 er e Q q =>
  ha H σ H1 er e _ fun x Hn H2 g rx => hr x Hn H2 rx g.inn Q fun v Hk H4 g3 rv => q v Hk H4 (g.trans g3) rv
theorem el_cb {r : List V → Hp → VK → Prop} {ta : TA} (ha : EvA K ta η as) (hr : CbL K r as cs) : EvL K (tCB r ta) η cs := fun H σ H1 er e Q q =>
  ha H σ H1 er e _ fun x Hn H2 g rx => hr x Hn H2 rx g.inn Q fun p vs Hk H4 g3 h1 hk h2 rv => q p vs Hk H4 (g.trans g3) (g.all.back h1) hk h2 rv
theorem el_lst {ta : TA} (ha : EvA K ta η as) (hl : as.length ≤ sizeLine) : EvL K (tLst ta) η as := fun H σ H1 er e Q q =>
  ha H σ H1 er e _ fun xs Hn H2 g rs => ⟨by rw [rs.length]; exact hl, fun p hp => q p xs Hn _ ⟨g.kn, (g.inn.mut (g.inn.back hp)), g.all.mut (g.all.back hp), g.new⟩ (g.all.back hp) (g.inn.back hp) upd_same rs⟩
theorem ed_tup {ta : TA} (ha : EvA K ta η as) (hl : as.length ≤ sizeLine) : EvD K (tTup ta) η (.tup as) := fun H σ H1 er e Q q =>
  ha H σ H1 er e _ fun xs Hn H2 g rs => ⟨by rw [rs.length]; exact hl, fun p hp => q (.ref p) _ _ (g.made (o := .tup xs) hp) (.tup (SqT.of upd_same) (rs.mono ((Ex.refl Hn).mut (g.inn.back hp))))⟩

/-! tests -/
theorem et_test {x : Bool} (h : EvD K te η (.bl x)) : EvT K (tTest te) η x := fun H σ H1 er e Q q => h H σ H1 er e _ fun v Hn H2 g rv => by
  cases rv
  exact ⟨x, rfl, q H2 g.all⟩
theorem et_B {x : Bool} (h : EvD K te η (.bl x)) : EvT K (tB te) η x := fun H σ H1 er e Q q => h H σ H1 er e _ fun v Hn H2 g rv => by
  cases rv
  exact ⟨x, rfl, q H2 g.all⟩
theorem et_and {x y : Bool} (h1 : EvT K t η x) (h2 : x = true → EvT K u η y) : EvT K (tAnd t u) η (x && y) := fun H σ H1 er e Q q => h1 H σ H1 er e _ fun H2 e2 => by
  cases x with
  | true =>
    show u σ H2 Q
    exact h2 rfl H σ H2 er (e.trans e2) Q fun H3 e3 => q H3 (e2.trans e3)
  | false =>
    show Q false H2
    exact q H2 e2
theorem et_or {x y : Bool} (h1 : EvT K t η x) (h2 : x = false → EvT K u η y) : EvT K (tOr t u) η (x || y) := fun H σ H1 er e Q q => h1 H σ H1 er e _ fun H2 e2 => by
  cases x with
  | true =>
    show Q true H2
    exact q H2 e2
  | false =>
    show u σ H2 Q
    exact h2 rfl H σ H2 er (e.trans e2) Q fun H3 e3 => q H3 (e2.trans e3)
theorem et_not {x : Bool} (h : EvT K t η x) : EvT K (tNot t) η (!x) := fun H σ H1 er e Q q => h H σ H1 er e _ fun H2 e2 => q H2 e2
theorem ed_if {x : Bool} (h : EvT K t η x) (h1 : x = true → EvD K ta η a) (h2 : x = false → EvD K tb η a) : EvD K (tIf t ta tb) η a := fun H σ H1 er e Q q => h H σ H1 er e _ fun H2 e2 => by
  have w : ∀ Hn H3, Gr H H2 Hn H3 → Gr H H1 Hn H3 := fun Hn H3 g => ⟨g.kn, g.inn, e2.trans g.all, fun x o y n => e2.back (g.new x o y n)⟩
  cases x with
  | true =>
    show ta σ H2 Q
    exact h1 rfl H σ H2 er (e.trans e2) Q fun v Hn H3 g rv => q v Hn H3 (w Hn H3 g) rv
  | false =>
    show tb σ H2 Q
    exact h2 rfl H σ H2 er (e.trans e2) Q fun v Hn H3 g rv => q v Hn H3 (w Hn H3 g) rv
theorem ed_andV {x y : Bool} (h1 : EvD K ta η (.bl x)) (h2 : x = true → EvD K tb η (.bl y)) : EvD K (tAndV ta tb) η (.bl (x && y)) := fun H σ H1 er e Q q => h1 H σ H1 er e _ fun v Hn H2 g rv => by
  cases rv
  refine ⟨x, rfl, ?_⟩
  cases x with
  | true =>
    show tb σ H2 Q
    exact h2 rfl Hn σ H2 (er.mono g.kn) g.inn Q fun v Hm H3 g2 rv => q v Hm H3 (g.trans g2) rv
  | false =>
    show Q (.bl false) H2
    exact q _ Hn H2 g (.bl _)
theorem ed_orV {x y : Bool} (h1 : EvD K ta η (.bl x)) (h2 : x = false → EvD K tb η (.bl y)) : EvD K (tOrV ta tb) η (.bl (x || y)) := fun H σ H1 er e Q q => h1 H σ H1 er e _ fun v Hn H2 g rv => by
  cases rv
  refine ⟨x, rfl, ?_⟩
  cases x with
  | true =>
    show Q (.bl true) H2
    exact q _ Hn H2 g (.bl _)
  | false =>
    show tb σ H2 Q
    exact h2 rfl Hn σ H2 (er.mono g.kn) g.inn Q fun v Hm H3 g2 rv => q v Hm H3 (g.trans g2) rv
theorem ed_notV {x : Bool} (h1 : EvD K ta η (.bl x)) : EvD K (tNotV ta) η (.bl (!x)) := fun H σ H1 er e Q q => h1 H σ H1 er e _ fun v Hn H2 g rv => by
  cases rv
  exact ⟨x, rfl, q _ Hn H2 g (.bl _)⟩

/-! ### operators -/
theorem od_I0 {f : Int → Int → Int} {i j : Int} : OpD K (rI0 fun i j => .int (f i j)) (.int i) (.int j) (.int (f i j)) := fun x y H H1 rx ry e Q q => by
  cases rx; cases ry
  exact ⟨i, j, rfl, rfl, q _ H H1 (Gr.refl e) (.int _)⟩
theorem od_B0 {f : Int → Int → Bool} {i j : Int} : OpD K (rI0 fun i j => .bl (f i j)) (.int i) (.int j) (.bl (f i j)) := fun x y H H1 rx ry e Q q => by
  cases rx; cases ry
  exact ⟨i, j, rfl, rfl, q _ H H1 (Gr.refl e) (.bl _)⟩
theorem od_I {C : Int → Int → Prop} {f : Int → Int → Int} {i j : Int} (hc : C i j) : OpD K (rI C fun i j => .int (f i j)) (.int i) (.int j) (.int (f i j)) := fun x y H H1 rx ry e Q q => by
  cases rx; cases ry
  exact ⟨i, j, rfl, rfl, hc, q _ H H1 (Gr.refl e) (.int _)⟩
theorem ud_I {f : Int → Int} {i : Int} : UnD K (rU fun i => .int (f i)) (.int i) (.int (f i)) := fun x H H1 rx e Q q => by
  cases rx
  exact ⟨i, rfl, q _ H H1 (Gr.refl e) (.int _)⟩
theorem od_eqI {i j : Int} : OpD K rEq (.int i) (.int j) (.bl (decide (i = j))) := fun x y H H1 rx ry e Q q => by
  cases rx; cases ry
  refine ⟨rfl, ?_⟩
  have h : decide (V.int i = V.int j) = decide (i = j) := by
    by_cases h : i = j
    · rw [decide_eq_true h, h]; exact decide_eq_true rfl
    · rw [decide_eq_false h]; exact decide_eq_false fun z => h (V.int.inj z)
  rw [h]
  exact q _ H H1 (Gr.refl e) (.bl _)
theorem od_neI {i j : Int} : OpD K rNe (.int i) (.int j) (.bl (!decide (i = j))) := fun x y H H1 rx ry e Q q => by
  cases rx; cases ry
  refine ⟨rfl, ?_⟩
  have h : decide (V.int i = V.int j) = decide (i = j) := by
    by_cases h : i = j
    · rw [decide_eq_true h, h]; exact decide_eq_true rfl
    · rw [decide_eq_false h]; exact decide_eq_false fun z => h (V.int.inj z)
  rw [h]
  exact q _ H H1 (Gr.refl e) (.bl _)
theorem od_eqS {i j : Str} : OpD K rEq (.str i) (.str j) (.bl (decide (i = j))) := fun x y H H1 rx ry e Q q => by
  cases rx; cases ry
  refine ⟨rfl, ?_⟩
  have h : decide (V.str i = V.str j) = decide (i = j) := by
    by_cases h : i = j
    · rw [decide_eq_true h, h]; exact decide_eq_true rfl
    · rw [decide_eq_false h]; exact decide_eq_false fun z => h (V.str.inj z)
  rw [h]
  exact q _ H H1 (Gr.refl e) (.bl _)
def isN : D → Bool
  | .non => true
  | _ => false
theorem od_isN {a : D} : OpD K (fun x y H Q => y = .non ∧ Q (.bl (decide (x = .non))) H) a .non (.bl (isN a)) := fun x y H H1 rx ry e Q q => by
  cases ry
  refine ⟨rfl, ?_⟩
  have h : decide (x = V.non) = isN a := by cases rx <;> rfl
  rw [h]
  exact q _ H H1 (Gr.refl e) (.bl _)
theorem od_notN {a : D} : OpD K (fun x y H Q => y = .non ∧ Q (.bl (!decide (x = .non))) H) a .non (.bl (!isN a)) := fun x y H H1 rx ry e Q q => by
  cases ry
  refine ⟨rfl, ?_⟩
  have h : decide (x = V.non) = isN a := by cases rx <;> rfl
  rw [h]
  exact q _ H H1 (Gr.refl e) (.bl _)
/-- the items of a list or a tuple -/
def itemsOf : D → Option (List D)
  | .lst xs => some xs
  | .rd xs => some xs
  | .tup xs => some xs
  | _ => none
theorem atI_rps {H : Hp} {vs : List V} {ds : List D} {i : Int} (rs : Rps K H vs ds) (h : atI ds i = some d) : ∃ v, atI vs i = some v ∧ Rp K H v d := by
  unfold atI at h ⊢
  rw [← rs.length] at h
  cases q : ixN vs.length i with
  | none => rw [q] at h; cases h
  | some j =>
    rw [q] at h
    exact rs.get (i := j) h
theorem od_ixL {i : Int} (h : atI ds i = some d) : OpD K (rIxL K) (.lst ds) (.int i) d := fun x y H H1 rx ry e Q q => by
  cases rx with
  | lst hs rs =>
    cases ry
    obtain ⟨v, h1, h2⟩ := atI_rps rs h
    exact ⟨_, _, i, v, rfl, rfl, ex_l e (SqL.of hs), h1, q v H H1 (Gr.refl e) h2⟩
theorem od_ixR {i : Int} (h : atI ds i = some d) : OpD K (rIxL K) (.rd ds) (.int i) d := fun x y H H1 rx ry e Q q => by
  cases rx with
  | rd hs rs =>
    cases ry
    obtain ⟨v, h1, h2⟩ := atI_rps rs h
    exact ⟨_, _, i, v, rfl, rfl, ex_l e hs, h1, q v H H1 (Gr.refl e) h2⟩
theorem od_ixT {i : Int} (h : atI ds i = some d) : OpD K (rIxT K) (.tup ds) (.int i) d := fun x y H H1 rx ry e Q q => by
  cases rx with
  | tup hs rs =>
    cases ry
    obtain ⟨v, h1, h2⟩ := atI_rps rs h
    exact ⟨_, _, i, v, rfl, rfl, ex_t e hs, h1, q v H H1 (Gr.refl e) h2⟩
theorem od_ix {i : Int} {a : D} (ha : itemsOf a = some ds) (h : atI ds i = some d) : OpD K (rIx K) a (.int i) d := fun x y H H1 rx ry e Q q => by
  cases a with
  | lst xs => cases ha; exact .inl (od_ixL h x y H H1 rx ry e Q q)
  | rd xs => cases ha; exact .inl (od_ixR h x y H H1 rx ry e Q q)
  | tup xs => cases ha; exact .inr (.inl (od_ixT h x y H H1 rx ry e Q q))
  | _ => cases ha

theorem ol_cat {xs ys : List D} (hl : xs.length + ys.length ≤ sizeLine) : OpL K rCat (.lst xs) (.lst ys) (xs ++ ys) := fun x y H H1 rx ry e Q q => by
  cases rx with
  | lst hx rsx =>
    cases ry with
    | lst hy rsy =>
      exact ⟨_, _, _, _, rfl, rfl, e _ _ hx, e _ _ hy, by rw [rsx.length, rsy.length]; exact hl, fun p hp => q p _ H _ ⟨Ex.refl _, e.mut (e.back hp), (Ex.refl _).mut hp, (Gr.refl e).new⟩ hp (e.back hp) upd_same (rsx.append rsy)⟩
theorem flat_one {α : Type} (v : α) : ∀ n : Nat, (List.replicate n [v]).flatten = List.replicate n v
  | 0 => rfl
  | n + 1 => by
    rw [List.replicate_succ, List.replicate_succ, List.flatten_cons, flat_one v n]
    rfl
/-- [x] * n -/
theorem ol_rep {z : D} {k : Int} (h0 : 0 ≤ k) (hl : k ≤ 10000000) : OpL K rRep (.lst [z]) (.int k) (List.replicate k.toNat z) := fun x y H H1 rx ry e Q q => by
  cases rx with
  | lst hx rsx =>
    cases ry
    cases rsx with
    | cons rv t =>
      cases t
      refine ⟨_, k, _, rfl, rfl, e _ _ hx, by omega, by omega, by show 1 * k.toNat ≤ sizeLine; rw [PySem.sizeLine_eq]; omega, fun p hp => ?_⟩
      rw [flat_one]
      exact q p _ H _ ⟨Ex.refl _, e.mut (e.back hp), (Ex.refl _).mut hp, (Gr.refl e).new⟩ hp (e.back hp) upd_same (Rps.rep rv _)
/-! parts of slices -/
theorem eo_none : EvO K tNoPart η none := fun H σ H1 er e Q q => q H1 (Ex.refl _)
theorem eo_some {i : Int} (h : EvD K te η (.int i)) : EvO K (tPart te) η (some i) := fun H σ H1 er e Q q => h H σ H1 er e _ fun v Hn H2 g rv => by
  cases rv
  exact ⟨i, rfl, q H2 g.all⟩
def cutD {α : Type} (xs : List α) (lo hi : Option Int) : List α := (xs.drop (HT.sIx xs.length 0 lo)).take (HT.sIx xs.length xs.length hi - HT.sIx xs.length 0 lo)
theorem el_sl {tl th : TO} {lo hi : Option Int} (h : EvD K te η a) (ha : a = .lst ds ∨ a = .rd ds) (h1 : EvO K tl η lo) (h2 : EvO K th η hi) : EvL K (tSl (rSlL K) te tl th) η (cutD ds lo hi) := fun H σ H1 er e Q q =>
  h H σ H1 er e _ fun v Hn H2 g rv => h1 Hn σ H2 (er.mono g.kn) g.inn _ fun H3 e3 => h2 Hn σ H3 (er.mono g.kn) (g.inn.trans e3) _ fun H4 e4 => by
    have e5 : Ex Hn H4 := (g.inn.trans e3).trans e4
    have e6 : Ex H1 H4 := (g.all.trans e3).trans e4
    obtain ⟨p, vs, rfl, hs, rs⟩ : ∃ p vs, v = .ref p ∧ SqL K Hn p vs ∧ Rps K Hn vs ds := by
      rcases ha with rfl | rfl
      · cases rv with
        | lst hs rs => exact ⟨_, _, rfl, SqL.of hs, rs⟩
      · cases rv with
        | rd hs rs => exact ⟨_, _, rfl, hs, rs⟩
    refine ⟨p, vs, rfl, ex_l e5 hs, fun p hp => q p _ Hn _ ⟨g.kn, e5.mut (e5.back hp), e6.mut (e6.back hp), g.new⟩ (e6.back hp) (e5.back hp) upd_same ?_⟩
    unfold L2.cutV cutD
    rw [rs.length]
    exact (rs.drop _).take _

/-! ### built-in functions -/
theorem seq_of {H : Hp} {x : V} (ha : itemsOf a = some ds) (rx : Rp K H x a) : ∃ p vs, x = .ref p ∧ (SqL K H p vs ∨ SqT K H p vs) ∧ Rps K H vs ds := by
  cases rx with
  | lst h r => cases ha; exact ⟨_, _, rfl, .inl (SqL.of h), r⟩
  | rd h r => cases ha; exact ⟨_, _, rfl, .inl h, r⟩
  | tup h r => cases ha; exact ⟨_, _, rfl, .inr h, r⟩
  | _ => cases ha
theorem ex_lt {H H' : Hp} {p : Addr} {vs : List V} (e : Ex H H') (h : SqL K H p vs ∨ SqT K H p vs) : SqL K H' p vs ∨ SqT K H' p vs := h.elim (fun h => .inl (ex_l e h)) fun h => .inr (ex_t e h)
theorem cd_len (ha : itemsOf a = some ds) : CbD K (fun xs H Q => ∃ p ys, xs = [.ref p] ∧ (SqL K H p ys ∨ SqT K H p ys) ∧ Q (.int ys.length) H) [a] (.int ds.length) := fun xs H H1 rx e Q q => by
  cases rx with
  | cons rx t =>
    cases t
    obtain ⟨p, vs, rfl, h, rs⟩ := seq_of ha rx
    refine ⟨p, vs, rfl, ex_lt e h, ?_⟩
    rw [rs.length]
    exact q _ H H1 (Gr.refl e) (.int _)
theorem cl_list (ha : itemsOf a = some ds) : CbL K (fun xs H Q => ∃ p ys, xs = [.ref p] ∧ (SqL K H p ys ∨ SqT K H p ys) ∧ ∀ l, H l = none → Q (.ref l) (upd H l (.lst ys))) [a] ds := fun xs H H1 rx e Q q => by
  cases rx with
  | cons rx t =>
    cases t
    obtain ⟨p, vs, rfl, h, rs⟩ := seq_of ha rx
    exact ⟨p, vs, rfl, ex_lt e h, fun l hl => q l _ H _ ⟨Ex.refl _, e.mut (e.back hl), (Ex.refl _).mut hl, (Gr.refl e).new⟩ hl (e.back hl) upd_same rs⟩
theorem cd_tuple (ha : itemsOf a = some ds) : CbD K (fun xs H Q => ∃ p ys, xs = [.ref p] ∧ ((SqL K H p ys ∧ ∀ l, H l = none → Q (.ref l) (upd H l (.tup ys))) ∨ (SqT K H p ys ∧ Q (.ref p) H))) [a] (.tup ds) := fun xs H H1 rx e Q q => by
  cases rx with
  | cons rx t =>
    cases t
    obtain ⟨p, vs, rfl, h, rs⟩ := seq_of ha rx
    refine ⟨p, vs, rfl, ?_⟩
    rcases h with h | h
    · exact .inl ⟨ex_l e h, fun l hl => q _ _ _ ((Gr.refl e).made (o := .tup vs) hl) (.tup (SqT.of upd_same) (rs.mono ((Ex.refl H).mut (e.back hl))))⟩
    · exact .inr ⟨ex_t e h, q _ H H1 (Gr.refl e) (.tup h rs)⟩
theorem cd_sum {ns : List Int} (ha : a = .lst (dI ns) ∨ a = .rd (dI ns)) : CbD K (rSum K) [a] (.int ns.sum) := fun xs H H1 rx e Q q => by
  cases rx with
  | cons rx t =>
    cases t
    rcases ha with rfl | rfl
    · cases rx with
      | lst h r =>
        have z := r.toI
        subst z
        exact ⟨_, ns, rfl, ex_l e (SqL.of h), q _ H H1 (Gr.refl e) (.int _)⟩
    · cases rx with
      | rd h r =>
        have z := r.toI
        subst z
        exact ⟨_, ns, rfl, ex_l e h, q _ H H1 (Gr.refl e) (.int _)⟩
theorem cd_1 {f : Int → Int} {i : Int} : CbD K (fun xs H Q => ∃ i, xs = [.int i] ∧ Q (.int (f i)) H) [.int i] (.int (f i)) := fun xs H H1 rx e Q q => by
  cases rx with
  | cons rx t =>
    cases t
    cases rx
    exact ⟨i, rfl, q _ H H1 (Gr.refl e) (.int _)⟩
theorem cd_2 {f : Int → Int → Int} {i j : Int} : CbD K (fun xs H Q => ∃ i j, xs = [.int i, .int j] ∧ Q (.int (f i j)) H) [.int i, .int j] (.int (f i j)) := fun xs H H1 rx e Q q => by
  cases rx with
  | cons rx t =>
    cases t with
    | cons ry t =>
      cases t
      cases rx; cases ry
      exact ⟨i, j, rfl, q _ H H1 (Gr.refl e) (.int _)⟩
theorem cd_gcd {i j : Int} : CbD K rGcd [.int i, .int j] (.int ((Nat.gcd i.natAbs j.natAbs : Nat) : Int)) := cd_2 (f := fun a b => ((Nat.gcd a.natAbs b.natAbs : Nat) : Int))
theorem cd_int {i : Int} : CbD K (fun xs H Q => (∃ i, xs = [.int i] ∧ Q (.int i) H) ∨ ∃ k, xs = [.bl k] ∧ Q (.int (if k then 1 else 0)) H) [.int i] (.int i) := fun xs H H1 rx e Q q => by
  cases rx with
  | cons rx t =>
    cases t
    cases rx
    exact .inl ⟨i, rfl, q _ H H1 (Gr.refl e) (.int _)⟩
theorem cd_intB {i : Bool} : CbD K (fun xs H Q => (∃ i, xs = [.int i] ∧ Q (.int i) H) ∨ ∃ k, xs = [.bl k] ∧ Q (.int (if k then 1 else 0)) H) [.bl i] (.int (if i then 1 else 0)) := fun xs H H1 rx e Q q => by
  cases rx with
  | cons rx t =>
    cases t
    cases rx
    exact .inr ⟨i, rfl, q _ H H1 (Gr.refl e) (.int _)⟩
/-- isinstance: x's class (of the data), a class -/
def tyB : D → Option String
  | .non => some "NoneType"
  | .bl _ => some "bool"
  | .int _ => some "int"
  | .str _ => some "str"
  | .lst _ => some "list"
  | .tup _ => some "tuple"
  | .dct _ _ => some "dict"
  | _ => none
theorem ed_ty {n : String} {r : List V → Hp → VK → Prop} {ta : TE} {x : Bool} (ha : EvD K ta η a) (h : ∀ v H H1, Rp K H v a → Ex H H1 → ∀ Q : VK, Q (.bl x) H1 → r [v, .ty n] H1 Q) : EvD K (tCB r (tCons ta (tCons (tC (.ty n)) tNil))) η (.bl x) := fun H σ H1 er e Q q =>
  ha H σ H1 er e _ fun v Hn H2 g rv => h v Hn H2 rv g.inn Q (q _ Hn H2 g (.bl x))
theorem ed_cls {C : Addr} {r : List V → Hp → VK → Prop} {ta : TE} {x : Bool} (ha : EvD K ta η a) (h : ∀ v H H1, Rp K H v a → Ex H H1 → ∀ Q : VK, Q (.bl x) H1 → r [v, .ref C] H1 Q) : EvD K (tCB r (tCons ta (tCons (tC (.ref C)) tNil))) η (.bl x) := fun H σ H1 er e Q q =>
  ha H σ H1 er e _ fun v Hn H2 g rv => h v Hn H2 rv g.inn Q (q _ Hn H2 g (.bl x))
theorem tyx_of {H H1 : Hp} {v : V} {s : String} (ht : tyB a = some s) (r : Rp K H v a) (e : Ex H H1) : TyX K H1 v (.type s) := by
  cases r with
  | non => cases ht; exact .base .non
  | bl b => cases ht; exact .base (.bl b)
  | int i => cases ht; exact .base (.int i)
  | str i => cases ht; exact .base (.str i)
  | lst h _ => cases ht; exact .base (.lst (e _ _ h))
  | tup h _ =>
    cases ht
    rcases ex_t e h with (h | ⟨o, h⟩) | ⟨o, its, n, h1, h2, _⟩
    · exact .base (.tup h)
    · exact .fTuple h
    · exact .kTuple h1 h2
  | dct h _ => cases ht; exact .base (.dK (e _ _ h))
  | _ => cases ht
theorem ed_isi {s n : String} {ta : TE} {x : Bool} (ha : EvD K ta η a) (ht : tyB a = some s) (hk : kitB s n = some x) : EvD K (tCB (rIsi K) (tCons ta (tCons (tC (.ty n)) tNil))) η (.bl x) :=
  ed_ty ha fun v H H1 rv e Q q => ⟨v, .ty n, .type s, .type n, x, rfl, .ty n, tyx_of ht rv e, kit_ty hk, q⟩
/-- .. of an own class, the value a built-in one's -/
theorem ed_isiC {C : Addr} {s : String} {ta : TE} {x : Bool} (ha : EvD K ta η a) (ht : tyB a = some s) (hk : PySem.W.kitOne K (.type s) (.ref C) = some x) : EvD K (tCB (rIsi K) (tCons ta (tCons (tC (.ref C)) tNil))) η (.bl x) :=
  ed_cls ha fun v H H1 rv e Q q => ⟨v, .ref C, .type s, .ref C, x, rfl, .own C, tyx_of ht rv e, hk, q⟩

/-! ### own instances -/
theorem lookup_rps {H : Hp} {f : Str} : ∀ {fs : List (Str × V)} {ds : List D} {d : D}, Rps K H (fs.map Prod.snd) ds → ((fs.map Prod.fst).zip ds).lookup f = some d → ∃ v, fs.lookup f = some v ∧ Rp K H v d
  | [], ds, d, _, h => by simp at h
  | p :: fs, [], d, r, h => by simp at h
  | (k, w) :: fs, e :: ds, d, r, h => by
    cases r with
    | cons r t =>
      have h2 : (match f == k with | true => some e | false => List.lookup f ((fs.map Prod.fst).zip ds)) = some d := h
      show ∃ v, (match f == k with | true => some w | false => List.lookup f fs) = some v ∧ _
      cases q : f == k with
      | true => rw [q] at h2; cases h2; exact ⟨_, rfl, r⟩
      | false => rw [q] at h2; exact lookup_rps t h2
theorem ed_fld {C : Addr} {ns : List Str} {f : Str} (ha : EvD K ta η (.ins C ns ds)) (cl : Cls K C) (na : NoAttr K C f) (hl : (ns.zip ds).lookup f = some d) : EvD K (tFld K ta f) η d := fun H σ H1 er e Q q =>
  ha H σ H1 er e _ fun v Hn H2 g rv => by
    cases rv with
    | ins h r =>
      obtain ⟨w, l, rw'⟩ := lookup_rps r hl
      exact ⟨_, C, _, _, w, rfl, g.inn _ _ h, cl, na, l, q w Hn H2 g rw'⟩

/-! ### calls of own defs -/
inductive Ret where
  | sh (d : D) | ow (ds : List D) | oo (dss : List (List D))
abbrev Cell := Addr × HO
abbrev Rpss (K : PySem.W.Frag) (H : Hp) : List (List V) → List (List D) → Prop := Paired (Rps K H)
def inner (qs : List Addr) (vss : List (List V)) : List Cell := (qs.zip vss).map fun c => (c.1, HO.lst c.2)
/-- a new list of new lists -/
structure NewLL (K : PySem.W.Frag) (H1 Hn H2 : Hp) (p : Addr) (ps : List Addr) (dss : List (List D)) : Prop where
  h1 : H1 p = none
  hn : Hn p = none
  h2 : H2 p = some (.lst (ps.map V.ref))
  cs : ∃ vss, Rpss K Hn vss dss ∧ vss.length = ps.length ∧ ∀ c ∈ inner ps vss, H1 c.1 = none ∧ Hn c.1 = none ∧ H2 c.1 = some c.2
  nd : (p :: ps).Nodup
def OutR (K : PySem.W.Frag) (H H1 : Hp) (r : Ret) (v : V) (H2 : Hp) : Prop := match r with
  | .sh d => ∃ Hn, Gr H H1 Hn H2 ∧ Rp K Hn v d
  | .ow ds => ∃ p vs Hn, v = .ref p ∧ Gr H H1 Hn H2 ∧ H1 p = none ∧ Hn p = none ∧ H2 p = some (.lst vs) ∧ Rps K Hn vs ds
  | .oo dss => ∃ p ps Hn, v = .ref p ∧ Gr H H1 Hn H2 ∧ NewLL K H1 Hn H2 p ps dss
def spT (K : PySem.W.Frag) {α : Type} (enc : α → List D) (pre : α → Prop) (out : α → Ret) : Sp := fun vs H1 Q _ => ∃ H a, Ex H H1 ∧ Rps K H vs (enc a) ∧ pre a ∧ ∀ v H2, OutR K H H1 (out a) v H2 → Q v H2
theorem ed_callA {α : Type} {enc : α → List D} {pre : α → Prop} {out : α → Ret} {E : XK} {ta : TA} {dvs : List V} {dds : List D} (x : α) (ha : EvA K ta η as) (hd : ∀ H, Rps K H dvs dds) (he : as ++ dds = enc x) (hp : pre x) (ho : out x = .sh d) : EvD K (tCall (spT K enc pre out) dvs E ta) η d := fun H σ H1 er e Q q =>
  ha H σ H1 er e _ fun vs Hn H2 g rs => ⟨Hn, x, g.inn, by rw [← he]; exact rs.append (hd Hn), hp, fun v H3 o => by
    rw [ho] at o
    obtain ⟨Hm, g2, r⟩ := o
    exact q v Hm H3 (g.trans g2) r⟩
theorem el_callA {α : Type} {enc : α → List D} {pre : α → Prop} {out : α → Ret} {E : XK} {ta : TA} {dvs : List V} {dds : List D} (x : α) (ha : EvA K ta η as) (hd : ∀ H, Rps K H dvs dds) (he : as ++ dds = enc x) (hp : pre x) (ho : out x = .ow ds) : EvL K (tCall (spT K enc pre out) dvs E ta) η ds := fun H σ H1 er e Q q =>
  ha H σ H1 er e _ fun vs Hn H2 g rs => ⟨Hn, x, g.inn, by rw [← he]; exact rs.append (hd Hn), hp, fun v H3 o => by
    rw [ho] at o
    obtain ⟨p, ws, Hm, rfl, g2, h1, h2, h3, r⟩ := o
    exact q p ws Hm H3 (g.trans g2) (g.all.back h1) h2 h3 r⟩
theorem ed_call {α : Type} {enc : α → List D} {pre : α → Prop} {out : α → Ret} {E : XK} {ta : TA} (x : α) (ha : EvA K ta η (enc x)) (hp : pre x) (ho : out x = .sh d) : EvD K (tCall (spT K enc pre out) [] E ta) η d := ed_callA x ha (dds := []) (fun _ => .nil) (List.append_nil _) hp ho
theorem el_call {α : Type} {enc : α → List D} {pre : α → Prop} {out : α → Ret} {E : XK} {ta : TA} (x : α) (ha : EvA K ta η (enc x)) (hp : pre x) (ho : out x = .ow ds) : EvL K (tCall (spT K enc pre out) [] E ta) η ds := el_callA x ha (dds := []) (fun _ => .nil) (List.append_nil _) hp ho
/-- keywords -/
theorem ed_callK {α : Type} {enc : α → List D} {pre : α → Prop} {out : α → Ret} {E : XK} {t tk : TA} {gV : List V → List V → List V} {bs : List D} (x : α) (ha : EvA K t η as) (hb : EvA K tk η bs) (hg : ∀ H vs zs, Rps K H vs as → Rps K H zs bs → Rps K H (gV vs zs) (enc x)) (hp : pre x) (ho : out x = .sh d) :
    EvD K (tCallK (spT K enc pre out) gV E t tk) η d := fun H σ H1 er e Q q =>
  ha H σ H1 er e _ fun vs Hn H2 g rs => hb Hn σ H2 (er.mono g.kn) g.inn _ fun zs Hk H3 g2 rz => ⟨Hk, x, g2.inn, hg Hk vs zs (rs.mono g2.kn) rz, hp, fun v H3 o => by
    rw [ho] at o
    obtain ⟨Hm, g3, r⟩ := o
    exact q v Hm H3 ((g.trans g2).trans g3) r⟩
/-- a record's __init__: the fields are the arguments -/
def spInit (C : Addr) (fs : List Str) : Sp := fun vs H1 Q _ => ∃ x dx ws, vs = .ref x :: ws ∧ ws.length = fs.length ∧ H1 x = some (.ins C dx []) ∧ Q .non (upd H1 x (.ins C dx (fs.zip ws)))
theorem zip_fst {α β : Type} : ∀ {xs : List α} {ys : List β}, ys.length = xs.length → (xs.zip ys).map Prod.fst = xs
  | [], _, _ => rfl
  | x :: xs, [], h => by simp at h
  | x :: xs, y :: ys, h => by simp [zip_fst (xs := xs) (ys := ys) (by simpa using h)]
theorem zip_snd {α β : Type} : ∀ {xs : List α} {ys : List β}, ys.length = xs.length → (xs.zip ys).map Prod.snd = ys
  | [], [], _ => rfl
  | [], y :: ys, h => by simp at h
  | x :: xs, [], h => by simp at h
  | x :: xs, y :: ys, h => by simp [zip_snd (xs := xs) (ys := ys) (by simpa using h)]
theorem rp_ins {H : Hp} {x dx C : Addr} {fs : List Str} {ws : List V} {es : List D} (h : H x = some (.ins C dx (fs.zip ws))) (hl : ws.length = fs.length) (r : Rps K H ws es) : Rp K H (.ref x) (.ins C fs es) := by
  have q : Rp K H (.ref x) (.ins C ((fs.zip ws).map Prod.fst) es) := .ins h (by rw [zip_snd hl]; exact r)
  rw [zip_fst hl] at q
  exact q
theorem ed_make {C : Addr} {fs : List Str} {E : XK} {ta : TA} (ha : EvA K ta η as) (hl : as.length = fs.length) : EvD K (tMake C (spInit C fs) [] E ta) η (.ins C fs as) := fun H σ H1 er e Q q =>
  ha H σ H1 er e _ fun vs Hn H2 g rs => fun x dx hx hdx hne => by
    rw [List.append_nil]
    refine ⟨x, dx, vs, rfl, rs.length.trans hl, upd_same, rfl, ?_⟩
    rw [upd_upd]
    have g1 := g.made (o := .own x) hdx
    have hx1 : (upd H2 dx (.own x)) x = none := by rw [upd_ne (Ne.symm hne)]; exact hx
    have g2 := g1.made (o := .ins C dx (fs.zip vs)) hx1
    exact q (.ref x) _ _ g2 (rp_ins upd_same (rs.length.trans hl) (rs.mono (((Ex.refl Hn).mut (g.inn.back hdx)).mut (g.inn.back hx))))

/-! ### == of data -/
mutual
def py : D → PyData
  | .non => .none
  | .bl b => .bool b
  | .int i => .int i
  | .str x => .str x
  | .lst xs => .list (pys xs)
  | .rd xs => .list (pys xs)
  | .tup xs => .tuple (pys xs)
  | .ins _ _ _ => .none
  | .dct _ _ => .none
def pys : List D → List PyData
  | [] => []
  | d :: ds => py d :: pys ds
end
mutual
def plain : D → Bool
  | .lst xs => plains xs
  | .rd xs => plains xs
  | .tup xs => plains xs
  | .ins _ _ _ => false
  | .dct _ _ => false
  | _ => true
def plains : List D → Bool
  | [] => true
  | d :: ds => plain d && plains ds
end
mutual
theorem Rp.dp {H : Hp} : ∀ {v : V} {d : D}, Rp K H v d → plain d = true → Dp K H v (py d)
  | _, _, .non, _ => .non
  | _, _, .bl b, _ => .bl b
  | _, _, .int i, _ => .int i
  | _, _, .str x, _ => .str x
  | _, _, .lst h r, p => .lst (SqL.of h) (Rps.dp r p)
  | _, _, .rd h r, p => .lst h (Rps.dp r p)
  | _, _, .tup h r, p => .tup h (Rps.dp r p)
  | _, _, .ins h r, p => by cases p
  | _, _, .dct h r, p => by cases p
theorem Rps.dp {H : Hp} : ∀ {vs : List V} {ds : List D}, Rps K H vs ds → plains ds = true → DpAll K H vs (pys ds)
  | _, _, .nil, _ => .nil
  | _, _, .cons r t, p => .cons (Rp.dp r (Bool.and_eq_true_iff.mp p).1) (Rps.dp t (Bool.and_eq_true_iff.mp p).2)
end
theorem od_eqD (pa : plain a = true) (pb : plain b = true) (sa : SeqAt.shaped (py a) = true) (sb : SeqAt.shaped (py b) = true) : OpD K (rEqD K) a b (.bl (PyData.eqv (py a) (py b))) := fun x y H H1 rx ry e Q q =>
  ⟨_, _, (rx.mono e).dp pa, (ry.mono e).dp pb, sa, sb, q _ H H1 (Gr.refl e) (.bl _)⟩
theorem od_neD (pa : plain a = true) (pb : plain b = true) (sa : SeqAt.shaped (py a) = true) (sb : SeqAt.shaped (py b) = true) : OpD K (rNeD K) a b (.bl (!PyData.eqv (py a) (py b))) := fun x y H H1 rx ry e Q q =>
  ⟨_, _, (rx.mono e).dp pa, (ry.mono e).dp pb, sa, sb, q _ H H1 (Gr.refl e) (.bl _)⟩

/-! ### comprehensions -/
/-- an item goes to the targets -/
def TgD (K : PySem.W.Frag) (vs : List Nat) (g : TG) (η : Env) (d : D) (η' : Env) : Prop := ∀ x H σ H1, ER K H σ η → Rp K H x d → Ex H H1 → ∀ Q : L2.St → Hp → Prop, (∀ σ', ER K H σ' η' → L2.wipe σ' vs = L2.wipe σ vs → Q σ' H1) → g x σ H1 Q
theorem tg_name {vs : List Nat} {i : Nat} (hi : i ∈ vs) : TgD K vs (gName i) η d (η.set i (some d)) := fun x H σ H1 er r e Q q => q _ (er.set r) (wipe_set hi)
/-- (i, j) -/
theorem tg_pair {vs : List Nat} {i j : Nat} {d1 d2 : D} (hi : i ∈ vs) (hj : j ∈ vs) : TgD K vs (gTup K 2 (gCons (gName i) (gCons (gName j) gNil))) η (.tup [d1, d2]) ((η.set i (some d1)).set j (some d2)) := fun x H σ H1 er r e Q q => by
  cases r with
  | tup h rs =>
    cases rs with
    | cons r1 t =>
      cases t with
      | cons r2 t =>
        cases t
        exact ⟨_, _, rfl, ex_t e h, rfl, _, _, rfl, _, _, rfl, rfl, q _ ((er.set r1).set r2) (by rw [wipe_set hj, wipe_set hi])⟩
def given (n : Nat) (f : Nat → Bool) (v : Nat → D) : List D := ((List.range n).filter f).map v
theorem given_yes {n : Nat} {f : Nat → Bool} {v : Nat → D} (h : f n = true) : given (n + 1) f v = given n f v ++ [v n] := by
  unfold given
  rw [List.range_succ, List.filter_append, List.map_append, List.filter_cons, if_pos h] <;> rfl
theorem given_no {n : Nat} {f : Nat → Bool} {v : Nat → D} (h : f n = false) : given (n + 1) f v = given n f v := by
  unfold given
  rw [List.range_succ, List.filter_append, List.map_append, List.filter_cons, if_neg (by rw [h]; decide)]
  show _ ++ [] = _
  rw [List.append_nil]
theorem given_len (n : Nat) (f : Nat → Bool) (v : Nat → D) : (given n f v).length ≤ n := by
  unfold given
  rw [List.length_map]
  have h := List.length_filter_le f (List.range n)
  rw [List.length_range] at h
  exact h
/-- what holds between two turns: the list so far -/
def Cw (K : PySem.W.Frag) (H0 H1 : Hp) (f : Nat → Bool) (v : Nat → D) (Dl : Addr) (i : Nat) (H' : Hp) : Prop := H1 Dl = none ∧ ∃ Hm vs, Gr H0 H1 Hm H' ∧ Hm Dl = none ∧ H' Dl = some (.lst vs) ∧ Rps K Hm vs (given i f v)
theorem cw_start {H0 H1 : Hp} {f : Nat → Bool} {v : Nat → D} {Dl : Addr} (e : Ex H0 H1) (h : H1 Dl = none) : Cw K H0 H1 f v Dl 0 (upd H1 Dl (.lst [])) :=
  ⟨h, H0, [], ⟨Ex.refl _, e.mut (e.back h), (Ex.refl _).mut h, (Gr.refl e).new⟩, e.back h, upd_same, .nil⟩
theorem cw_turn {H0 H1 H' : Hp} {f : Nat → Bool} {v : Nat → D} {Dl : Addr} {i : Nat} {σ2 : L2.St} {η2 : Env} (p : Cw K H0 H1 f v Dl i H') (hi : i < 10000000) (er : ∀ Hm, Ex H0 Hm → Ex Hm H' → ER K Hm σ2 η2) (ht : EvT K t η2 (f i)) (he : f i = true → EvD K te η2 (v i)) :
    t σ2 H' fun b H3 => if b = true then te σ2 H3 fun y H4 => ∃ acc, H4 Dl = some (.lst acc) ∧ acc.length < sizeLine ∧ Cw K H0 H1 f v Dl (i + 1) (upd H4 Dl (.lst (acc ++ [y]))) else Cw K H0 H1 f v Dl (i + 1) H3 := by
  obtain ⟨p0, Hm, vs, g, hD, hD', rs⟩ := p
  have erm := er Hm g.kn g.inn
  refine ht Hm σ2 H' erm g.inn _ fun H3 e3 => ?_
  cases hf : f i with
  | true =>
    show te σ2 H3 fun y H4 => ∃ acc, H4 Dl = some (.lst acc) ∧ acc.length < sizeLine ∧ Cw K H0 H1 f v Dl (i + 1) (upd H4 Dl (.lst (acc ++ [y])))
    refine he hf Hm σ2 H3 erm (g.inn.trans e3) _ fun y Hk H4 g4 ry => ⟨vs, g4.all _ _ (e3 _ _ hD'), ?_, p0, Hk, vs ++ [y], ?_, ?_, upd_same, ?_⟩
    · have q1 := rs.length
      have q2 := given_len i f v
      show vs.length < sizeLine
      rw [PySem.sizeLine_eq]
      omega
    · have hk : Hk Dl = none := by
        cases z : Hk Dl with
        | none => rfl
        | some o =>
          have := g4.new Dl o z hD
          rw [e3 _ _ hD'] at this
          cases this
      exact ⟨g.kn.trans g4.kn, g4.inn.mut hk, ((g.all.trans e3).trans g4.all).mut p0, fun a o q n => by
        cases z : Hm a with
        | none => exact (g.all.trans e3).back (g4.new a o q z)
        | some u => exact g.new a u z n⟩
    · cases z : Hk Dl with
      | none => rfl
      | some o =>
        have := g4.new Dl o z hD
        rw [e3 _ _ hD'] at this
        cases this
    · rw [given_yes hf]
      exact (rs.mono g4.kn).append (.one ry)
  | false =>
    show Cw K H0 H1 f v Dl (i + 1) H3
    refine ⟨p0, Hm, vs, ⟨g.kn, g.inn.trans e3, g.all.trans e3, g.new⟩, hD, e3 _ _ hD', ?_⟩
    rw [given_no hf]
    exact rs
theorem cw_end {H H0 Ha H1 H' : Hp} {f : Nat → Bool} {v : Nat → D} {Dl : Addr} {n : Nat} {Q : VK} (g : Gr H Ha H0 H1) (p : Cw K H0 H1 f v Dl n H')
    (q : ∀ p vs Hn H2, Gr H Ha Hn H2 → Ha p = none → Hn p = none → H2 p = some (.lst vs) → Rps K Hn vs (given n f v) → Q (.ref p) H2) : Q (.ref Dl) H' := by
  obtain ⟨p0, Hm, vs, g2, hD, hD', rs⟩ := p
  exact q Dl vs Hm H' (g.trans g2) (g.all.back p0) hD hD' rs
theorem el_lcL {tl : TE} {tg : TG} {vs : List Nat} (f : Nat → Bool) (v : Nat → D) (h : EvD K tl η a) (ha : a = .lst ds ∨ a = .rd ds) (hz : ds.length ≤ 10000000)
    (hs : ∀ (i : Nat) (d : D), ds[i]? = some d → ∃ η', TgD K vs tg (wipeE η vs) d η' ∧ EvT K t η' (f i) ∧ (f i = true → EvD K te η' (v i))) : EvL K (tLc (iList K tl) tg t te vs) η (given ds.length f v) := fun H σ Ha er e Q q =>
  h H σ Ha er e _ fun x H0 H1 g rx => by
    obtain ⟨p, ws, rfl, hp, rs⟩ : ∃ p ws, x = .ref p ∧ SqL K H0 p ws ∧ Rps K H0 ws ds := by
      rcases ha with rfl | rfl
      · cases rx with
        | lst h r => exact ⟨_, _, rfl, SqL.of h, r⟩
      · cases rx with
        | rd h r => exact ⟨_, _, rfl, h, r⟩
    refine ⟨p, rfl, ⟨ws, ex_l g.inn hp⟩, fun Dl hD => lc_list (xs := ws) (Cw K H0 H1 f v Dl) (cw_start g.inn hD) (fun i H' _ ⟨_, Hm, _, g2, _⟩ => ex_l (g2.kn.trans g2.inn) hp) (fun i x H' hi p => ?_) (fun H' p => cw_end g (by rw [← rs.length]; exact p) q)⟩
    obtain ⟨d, hd, rd⟩ := rs.getV hi
    obtain ⟨η', htg, ht, he⟩ := hs i d hd
    have hl : i < ds.length := (List.getElem?_eq_some_iff.mp hd).1
    have p2 := p
    obtain ⟨_, Hm, _, g2, _⟩ := p2
    refine htg x H0 _ H' ((er.mono g.kn).wipe vs) rd (g2.kn.trans g2.inn) _ fun σ' er' hw => ⟨hw.trans wipe_wipe, ?_⟩
    exact cw_turn p (by omega) (fun Hm e1 _ => er'.mono e1) ht he
theorem el_lcT {tl : TE} {tg : TG} {vs : List Nat} (f : Nat → Bool) (v : Nat → D) (h : EvD K tl η (.tup ds)) (hz : ds.length ≤ 10000000)
    (hs : ∀ (i : Nat) (d : D), ds[i]? = some d → ∃ η', TgD K vs tg (wipeE η vs) d η' ∧ EvT K t η' (f i) ∧ (f i = true → EvD K te η' (v i))) : EvL K (tLc (iTup K tl) tg t te vs) η (given ds.length f v) := fun H σ Ha er e Q q =>
  h H σ Ha er e _ fun x H0 H1 g rx => by
    cases rx with
    | @tup p ws _ hp rs =>
    refine ⟨p, rfl, ⟨ws, ex_t g.inn hp⟩, fun Dl hD => lc_tup (xs := ws) (Cw K H0 H1 f v Dl) (cw_start g.inn hD) (fun i H' _ ⟨_, Hm, _, g2, _⟩ => ex_t (g2.kn.trans g2.inn) hp) (fun i x H' hi p => ?_) (fun H' p => cw_end g (by rw [← rs.length]; exact p) q)⟩
    obtain ⟨d, hd, rd⟩ := rs.getV hi
    obtain ⟨η', htg, ht, he⟩ := hs i d hd
    have hl : i < ds.length := (List.getElem?_eq_some_iff.mp hd).1
    have p2 := p
    obtain ⟨_, Hm, _, g2, _⟩ := p2
    refine htg x H0 _ H' ((er.mono g.kn).wipe vs) rd (g2.kn.trans g2.inn) _ fun σ' er' hw => ⟨hw.trans wipe_wipe, ?_⟩
    exact cw_turn p (by omega) (fun Hm e1 _ => er'.mono e1) ht he
theorem el_lcR {ta : TA} {tg : TG} {vs : List Nat} {n : Int} (f : Nat → Bool) (v : Nat → D) (h : EvA K ta η [.int n]) (hz : n ≤ 10000000) (hn : -10000000 ≤ n)
    (hs : ∀ (i : Nat), (i : Int) < n → ∃ η', TgD K vs tg (wipeE η vs) (.int i) η' ∧ EvT K t η' (f i) ∧ (f i = true → EvD K te η' (v i))) : EvL K (tLc (iRng1 ta) tg t te vs) η (given n.toNat f v) := fun H σ Ha er e Q q =>
  h H σ Ha er e _ fun xs H0 H1 g rx => by
    cases rx with
    | cons rx tt =>
    cases tt
    cases rx
    refine ⟨n, rfl, by omega, by omega, fun Dl hD => lc_range (lo := 0) (n := n.toNat) (Cw K H0 H1 f v Dl) (cw_start g.inn hD) (fun i H' hi p => ?_) (fun H' p => cw_end g p q)⟩
    obtain ⟨η', htg, ht, he⟩ := hs i (by omega)
    have e0 : (0 : Int) + (i : Int) = (i : Int) := Int.zero_add _
    rw [e0]
    have p2 := p
    obtain ⟨_, Hm, _, g2, _⟩ := p2
    refine htg _ H0 _ H' ((er.mono g.kn).wipe vs) (.int i) (g2.kn.trans g2.inn) _ fun σ' er' hw => ⟨hw.trans wipe_wipe, ?_⟩
    exact cw_turn p (by omega) (fun Hm e1 _ => er'.mono e1) ht he
theorem et_yes : EvT K tYes η true := fun H σ H1 er e Q q => q H1 (Ex.refl _)
/-- no test: every item gives -/
theorem given_all (n : Nat) (v : Nat → D) : given n (fun _ => true) v = (List.range n).map v := by
  unfold given
  rw [List.filter_eq_self.mpr fun _ _ => rfl]
theorem range_map {α : Type} (F : α → D) (ds : List α) (v : Nat → D) (h : ∀ (i : Nat) (d : α), ds[i]? = some d → v i = F d) : (List.range ds.length).map v = ds.map F := by
  apply List.ext_getElem
  · simp
  · intro i h1 h2
    rw [List.getElem_map, List.getElem_map, List.getElem_range]
    have hl : i < ds.length := by simpa using h1
    exact h i _ (List.getElem?_eq_getElem hl)
end
end DL

set_option Elab.async false
set_option linter.all false
set_option maxRecDepth 100000
set_option maxHeartbeats 4000000
/-! DL2: statements over slots of data. -/
namespace DL
open PySem PySem.Spec PyProof.Rows L2

/-- a slot: nothing known; data; a list of this def's own; a dict of its own; a list of lists, all its own (with their addresses); a reference to q, which may be one of those -/
inductive Sl where
  | no | sh (d : D) | ow (ds : List D) | od (ks : List Key) (ds : List D)
  | oo (p : Addr) (qs : List Addr) (dss : List (List D)) | al (q : Addr)
def SlR (K : PySem.W.Frag) (H : Hp) (σ : L2.St) (i : Nat) (s : Sl) (cs : List Cell) : Prop := match s with
  | .no => cs = []
  | .sh d => (∃ v, σ[i]? = some (some v) ∧ Rp K H v d) ∧ cs = []
  | .ow ds => ∃ p vs, σ[i]? = some (some (.ref p)) ∧ Rps K H vs ds ∧ cs = [(p, .lst vs)]
  | .od ks ds => ∃ p kvs, σ[i]? = some (some (.ref p)) ∧ kvs.map Prod.fst = ks ∧ Rps K H (kvs.map Prod.snd) ds ∧ cs = [(p, .dK kvs)]
  | .oo p qs dss => ∃ vss, σ[i]? = some (some (.ref p)) ∧ Rpss K H vss dss ∧ vss.length = qs.length ∧ cs = (p, .lst (qs.map V.ref)) :: inner qs vss
  | .al q => σ[i]? = some (some (.ref q)) ∧ cs = []
def repl (css : Nat → List Cell) (i : Nat) (cs : List Cell) (k : Nat) : List Cell := if k = i then cs else css k
theorem repl_pos {css : Nat → List Cell} {i : Nat} {cs : List Cell} {k : Nat} (h : k = i) : repl css i cs k = cs := if_pos h
theorem repl_neg {css : Nat → List Cell} {i : Nat} {cs : List Cell} {k : Nat} (h : ¬ k = i) : repl css i cs k = css k := if_neg h
structure Owns (HE1 H H1 : Hp) (css : Nat → List Cell) : Prop where
  at_ : ∀ i c, c ∈ css i → HE1 c.1 = none ∧ H c.1 = none ∧ H1 c.1 = some c.2
  nd : ∀ i, ((css i).map Prod.fst).Nodup
  di : ∀ i j, i ≠ j → ∀ c ∈ css i, ∀ c' ∈ css j, c.1 ≠ c'.1
structure SS (K : PySem.W.Frag) (HE HE1 H H1 : Hp) (σ : L2.St) (ρ : List Sl) : Prop where
  gr : Gr HE HE1 H H1
  len : ρ.length = σ.length
  own : ∃ css : Nat → List Cell, (∀ i s, ρ[i]? = some s → SlR K H σ i s (css i)) ∧ Owns HE1 H H1 css

def shOf : Sl → Option D
  | .sh d => some d
  | _ => none
def viewOf : Sl → Option D
  | .sh d => some d
  | .ow ds => some (.lst ds)
  | .od ks ds => some (.dct ks ds)
  | .oo _ _ dss => some (.lst (dss.map D.lst))
  | _ => none
abbrev shE (ρ : List Sl) : Env := ρ.map shOf
abbrev viewE (ρ : List Sl) : Env := ρ.map viewOf

section
variable {K : PySem.W.Frag} {HE HE1 H H1 H' H1' : Hp} {σ σ' : L2.St} {ρ : List Sl} {i j : Nat} {s : Sl} {cs : List Cell} {d : D} {ds : List D}
theorem Rpss.mono (e : Ex H H') {vss : List (List V)} {dss : List (List D)} (h : Rpss K H vss dss) : Rpss K H' vss dss := Paired.mapP h fun _ _ r => r.mono e
theorem SlR.mono (e : Ex H H') (h : SlR K H σ i s cs) : SlR K H' σ i s cs := by
  cases s with
  | no => exact h
  | sh d => obtain ⟨⟨v, a, b⟩, c⟩ := h; exact ⟨⟨v, a, b.mono e⟩, c⟩
  | ow ds => obtain ⟨p, vs, a, b, c⟩ := h; exact ⟨p, vs, a, b.mono e, c⟩
  | od ks ds => obtain ⟨p, kvs, a, b, r, c⟩ := h; exact ⟨p, kvs, a, b, r.mono e, c⟩
  | oo p qs dss => obtain ⟨vss, a, b, l, c⟩ := h; exact ⟨vss, a, Rpss.mono e b, l, c⟩
  | al q => exact h
theorem SS.er (h : SS K HE HE1 H H1 σ ρ) : ER K H σ (shE ρ) := ⟨by rw [List.length_map]; exact h.len, fun i d q => by
  obtain ⟨css, hs, _⟩ := h.own
  rw [List.getElem?_map] at q
  cases z : ρ[i]? with
  | none => rw [z] at q; cases q
  | some s =>
    rw [z] at q
    have hr := hs i s z
    cases s with
    | sh d' => cases q; exact hr.1
    | _ => cases q⟩
theorem SS.ex (h : SS K HE HE1 H H1 σ ρ) : Ex H H1 := h.gr.inn
/-- more is known, the heap grows -/
theorem SS.step {Hn H2 : Hp} (h : SS K HE HE1 H H1 σ ρ) (g : Gr H H1 Hn H2) : SS K HE HE1 Hn H2 σ ρ := by
  obtain ⟨css, hs, o⟩ := h.own
  refine ⟨h.gr.trans g, h.len, css, fun i s e => (hs i s e).mono g.kn, ⟨fun i c hc => ?_, o.nd, o.di⟩⟩
  obtain ⟨a, b, c1⟩ := o.at_ i c hc
  refine ⟨a, ?_, g.all _ _ c1⟩
  cases z : Hn c.1 with
  | none => rfl
  | some u =>
    have := g.new _ _ z b
    rw [c1] at this
    cases this
theorem SS.grow {H2 : Hp} (h : SS K HE HE1 H H1 σ ρ) (e : Ex H1 H2) : SS K HE HE1 H H2 σ ρ := h.step ⟨Ex.refl _, h.ex.trans e, e, fun a o q n => by rw [n] at q; cases q⟩
/-- own cells are lists or dicts -/
theorem SlR.kind {H : Hp} {σ : L2.St} {s : Sl} {cs : List Cell} (h : SlR K H σ i s cs) : ∀ c ∈ cs, (∃ xs, c.2 = .lst xs) ∨ ∃ kvs, c.2 = .dK kvs := by
  intro c hc
  cases s with
  | no => rw [show cs = [] from h] at hc; cases hc
  | sh d => rw [h.2] at hc; cases hc
  | ow ds => obtain ⟨p, vs, a, b, e⟩ := h; rw [e] at hc; rw [List.mem_singleton.mp hc]; exact .inl ⟨_, rfl⟩
  | od ks ds => obtain ⟨p, kvs, a, b, r, e⟩ := h; rw [e] at hc; rw [List.mem_singleton.mp hc]; exact .inr ⟨_, rfl⟩
  | oo p qs dss =>
    obtain ⟨vss, a, b, l, e⟩ := h
    rw [e] at hc
    rcases List.mem_cons.mp hc with rfl | hc
    · exact .inl ⟨_, rfl⟩
    · unfold inner at hc
      obtain ⟨x, _, rfl⟩ := List.mem_map.mp hc
      exact .inl ⟨_, rfl⟩
  | al q => rw [h.2] at hc; cases hc
/-- the view: all own objects are known too -/
theorem SS.view2 (h : SS K HE HE1 H H1 σ ρ) : ∃ Hv, Ex H Hv ∧ Ex Hv H1 ∧ (∀ a o, Hv a = some o → H a = some o ∨ (∃ xs, o = .lst xs) ∨ ∃ kvs, o = .dK kvs) ∧ ER K Hv σ (viewE ρ) := by
  classical
  obtain ⟨css, hs, o⟩ := h.own
  let Hv : Hp := fun a => match H a with
    | some u => some u
    | none => if (∃ i c, i < ρ.length ∧ c ∈ css i ∧ c.1 = a) then H1 a else none
  have e1 : Ex H Hv := fun a u q => by show (match H a with | some u => some u | none => _) = _; rw [q]
  have e2 : Ex Hv H1 := fun a u q => by
    have q : (match H a with | some u => some u | none => if (∃ i c, i < ρ.length ∧ c ∈ css i ∧ c.1 = a) then H1 a else none) = some u := q
    cases z : H a with
    | some w => rw [z] at q; cases q; exact h.ex _ _ z
    | none =>
      rw [z] at q
      by_cases hx : ∃ i c, i < ρ.length ∧ c ∈ css i ∧ c.1 = a
      · have q : (if (∃ i c, i < ρ.length ∧ c ∈ css i ∧ c.1 = a) then H1 a else none) = some u := q
        rw [if_pos hx] at q
        exact q
      · have q : (if (∃ i c, i < ρ.length ∧ c ∈ css i ∧ c.1 = a) then H1 a else none) = some u := q
        rw [if_neg hx] at q
        cases q
  have e3 : ∀ i c, i < ρ.length → c ∈ css i → Hv c.1 = some c.2 := fun i c hi hc => by
    obtain ⟨a, b, c1⟩ := o.at_ i c hc
    show (match H c.1 with | some u => some u | none => if (∃ j c', j < ρ.length ∧ c' ∈ css j ∧ c'.1 = c.1) then H1 c.1 else none) = _
    rw [b]
    show (if (∃ j c', j < ρ.length ∧ c' ∈ css j ∧ c'.1 = c.1) then H1 c.1 else none) = _
    rw [if_pos ⟨i, c, hi, hc, rfl⟩]
    exact c1
  have e4 : ∀ a u, Hv a = some u → H a = some u ∨ (∃ xs, u = .lst xs) ∨ ∃ kvs, u = .dK kvs := fun a u q => by
    have q : (match H a with | some u => some u | none => if (∃ i c, i < ρ.length ∧ c ∈ css i ∧ c.1 = a) then H1 a else none) = some u := q
    cases z : H a with
    | some w => rw [z] at q; cases q; exact .inl rfl
    | none =>
      rw [z] at q
      by_cases hx : ∃ i c, i < ρ.length ∧ c ∈ css i ∧ c.1 = a
      · have q : (if (∃ i c, i < ρ.length ∧ c ∈ css i ∧ c.1 = a) then H1 a else none) = some u := q
        rw [if_pos hx] at q
        obtain ⟨i, c, hi, hc, rfl⟩ := hx
        have h1 := (o.at_ i c hc).2.2
        rw [h1] at q
        cases q
        exact .inr ((hs i _ (List.getElem?_eq_getElem hi)).kind c hc)
      · have q : (if (∃ i c, i < ρ.length ∧ c ∈ css i ∧ c.1 = a) then H1 a else none) = some u := q
        rw [if_neg hx] at q
        cases q
  refine ⟨Hv, e1, e2, e4, ⟨by rw [List.length_map]; exact h.len, fun i d q => ?_⟩⟩
  rw [List.getElem?_map] at q
  cases z : ρ[i]? with
  | none => rw [z] at q; cases q
  | some s =>
    rw [z] at q
    have hr := hs i s z
    have hil := (List.getElem?_eq_some_iff.mp z).1
    cases s with
    | no => cases q
    | sh d' =>
      cases q
      obtain ⟨⟨v, a, b⟩, _⟩ := hr
      exact ⟨v, a, b.mono e1⟩
    | ow ds =>
      cases q
      obtain ⟨p, vs, a, b, c⟩ := hr
      exact ⟨_, a, .lst (e3 i (p, .lst vs) hil (by rw [c]; exact List.mem_cons_self)) (b.mono e1)⟩
    | od ks ds =>
      cases q
      obtain ⟨p, kvs, a, b, r, c⟩ := hr
      subst b
      exact ⟨_, a, .dct (e3 i (p, .dK kvs) hil (by rw [c]; exact List.mem_cons_self)) (r.mono e1)⟩
    | oo p qs dss =>
      cases q
      obtain ⟨vss, a, b, l, c⟩ := hr
      refine ⟨_, a, .lst (e3 i (p, .lst (qs.map V.ref)) hil (by rw [c]; exact List.mem_cons_self)) ?_⟩
      have hin : ∀ c' ∈ inner qs vss, Hv c'.1 = some c'.2 := fun c' hc' => e3 i c' hil (by rw [c]; exact List.mem_cons_of_mem _ hc')
      clear c a z
      have go : ∀ (qs : List Addr) (vss : List (List V)) (dss : List (List D)), Rpss K H vss dss → vss.length = qs.length → (∀ c' ∈ inner qs vss, Hv c'.1 = some c'.2) → Rps K Hv (qs.map V.ref) (dss.map D.lst) := by
        intro qs
        induction qs with
        | nil =>
          intro vss dss hp hl _
          cases vss with
          | nil => cases hp; exact .nil
          | cons v vs => cases hl
        | cons q qs ih =>
          intro vss dss hp hl hin
          cases vss with
          | nil => cases hl
          | cons v vs =>
            cases hp with
            | cons r t =>
              exact .cons (.lst (hin (q, .lst v) (by unfold inner; simp)) (r.mono e1)) (ih vs _ t (by simpa using hl) fun c' hc' => hin c' (by unfold inner at hc' ⊢; simp only [List.zip_cons_cons, List.map_cons]; exact List.mem_cons_of_mem _ hc'))
      exact go qs vss dss b l hin
    | al q2 => cases q

theorem SS.view (h : SS K HE HE1 H H1 σ ρ) : ∃ Hv, Ex H Hv ∧ Ex Hv H1 ∧ ER K Hv σ (viewE ρ) := by
  obtain ⟨Hv, a, b, _, c⟩ := h.view2
  exact ⟨Hv, a, b, c⟩
/-- (kept for its form) -/
def free_ (ρ : List Sl) (i : Nat) : Bool := true
theorem SlR.keep {v : V} (h : SlR K H σ j s cs) (hj : j ≠ i) : SlR K H (σ.set i (some v)) j s cs := by
  have g : ∀ m, m ≠ i → (σ.set i (some v))[m]? = σ[m]? := fun m hm => List.getElem?_set_ne (Ne.symm hm)
  cases s with
  | no => exact h
  | sh d => obtain ⟨⟨w, a, b⟩, c⟩ := h; exact ⟨⟨w, by rw [g j hj]; exact a, b⟩, c⟩
  | ow ds => obtain ⟨p, vs, a, b⟩ := h; exact ⟨p, vs, by rw [g j hj]; exact a, b⟩
  | od ks ds => obtain ⟨p, kvs, a, b⟩ := h; exact ⟨p, kvs, by rw [g j hj]; exact a, b⟩
  | oo p qs dss => obtain ⟨vss, a, b⟩ := h; exact ⟨vss, by rw [g j hj]; exact a, b⟩
  | al q => obtain ⟨a, b⟩ := h; exact ⟨by rw [g j hj]; exact a, b⟩
/-- a slot gets a new content: cells cs' -/
theorem SS.put {v : V} {s' : Sl} {cs' : List Cell} {Hn H2 : Hp} (h : SS K HE HE1 H H1 σ ρ) (hf : free_ ρ i = true) (g : Gr H H1 Hn H2) (hs' : i < ρ.length → SlR K Hn (σ.set i (some v)) i s' cs')
    (hc : ∀ c ∈ cs', H1 c.1 = none ∧ Hn c.1 = none ∧ H2 c.1 = some c.2) (hn : (cs'.map Prod.fst).Nodup) : SS K HE HE1 Hn H2 (σ.set i (some v)) (ρ.set i s') := by
  have g2 := (h.step g)
  obtain ⟨css, hs, o⟩ := h.own
  by_cases hi : i < ρ.length
  · refine ⟨g2.gr, by simp [h.len], repl css i cs', fun k s q => ?_, ⟨fun k c hk => ?_, fun k => ?_, fun k m hkm c hk c' hm => ?_⟩⟩
    · by_cases hk : k = i
      · subst hk
        rw [List.getElem?_set_self hi] at q
        cases q
        rw [repl_pos rfl]
        exact hs' hi
      · rw [List.getElem?_set_ne (Ne.symm hk)] at q
        rw [repl_neg hk]
        exact ((hs k s q).mono g.kn).keep hk
    · by_cases hki : k = i
      · rw [repl_pos hki] at hk
        obtain ⟨a, b, b2⟩ := hc c hk
        exact ⟨h.gr.all.back a, b, b2⟩
      · rw [repl_neg hki] at hk
        obtain ⟨a, b, c1⟩ := o.at_ k c hk
        refine ⟨a, ?_, g.all _ _ c1⟩
        cases z : Hn c.1 with
        | none => rfl
        | some u =>
          have := g.new _ _ z b
          rw [c1] at this
          cases this
    · show ((repl css i cs' k).map Prod.fst).Nodup
      by_cases hki : k = i
      · rw [repl_pos hki]; exact hn
      · rw [repl_neg hki]; exact o.nd k
    · have old : ∀ m, m ≠ i → ∀ c' ∈ css m, ∀ c ∈ cs', c.1 ≠ c'.1 := fun m hm c' hc' c hcc z => by
        have q := (o.at_ m c' hc').2.2
        rw [← z, (hc c hcc).1] at q
        cases q
      by_cases hki : k = i
      · have hmi : m ≠ i := fun z => hkm (hki.trans z.symm)
        rw [repl_pos hki] at hk
        rw [repl_neg hmi] at hm
        exact old m hmi c' hm c hk
      · rw [repl_neg hki] at hk
        by_cases hmi : m = i
        · rw [repl_pos hmi] at hm
          exact fun z => old k hki c hk c' hm z.symm
        · rw [repl_neg hmi] at hm
          exact o.di k m hkm c hk c' hm
  · have z1 : ρ.set i s' = ρ := List.set_eq_of_length_le (by omega)
    have z2 : σ.set i (some v) = σ := List.set_eq_of_length_le (by rw [← h.len]; omega)
    rw [z1, z2]
    exact g2
theorem SS.setSh {v : V} {Hn H2 : Hp} (h : SS K HE HE1 H H1 σ ρ) (hf : free_ ρ i = true) (g : Gr H H1 Hn H2) (r : Rp K Hn v d) : SS K HE HE1 Hn H2 (σ.set i (some v)) (ρ.set i (.sh d)) :=
  h.put hf g (fun hi => ⟨⟨v, List.getElem?_set_self (by rw [← h.len]; exact hi), r⟩, rfl⟩) (fun c hc => by cases hc) List.nodup_nil
theorem SS.setOw {p : Addr} {vs : List V} {Hn H2 : Hp} (h : SS K HE HE1 H H1 σ ρ) (hf : free_ ρ i = true) (g : Gr H H1 Hn H2) (h1 : H1 p = none) (hn : Hn p = none) (h2 : H2 p = some (.lst vs)) (r : Rps K Hn vs ds) :
    SS K HE HE1 Hn H2 (σ.set i (some (.ref p))) (ρ.set i (.ow ds)) :=
  h.put hf g (fun hi => ⟨p, vs, List.getElem?_set_self (by rw [← h.len]; exact hi), r, rfl⟩) (fun c hc => by
    rcases List.mem_cons.mp hc with rfl | hc
    · exact ⟨h1, hn, h2⟩
    · cases hc) (by simp)
/-- less is known: a new list of plain numbers told over the view -/
theorem Gr.only {H H1 H2 : Hp} (e : Ex H H1) (e2 : Ex H1 H2) : Gr H H1 H H2 := ⟨Ex.refl _, e.trans e2, e2, fun a o q n => by rw [n] at q; cases q⟩
/-- a slot of its own is written: one cell -/
theorem SS.write {ds : List D} (h : SS K HE HE1 H H1 σ ρ) (hi : ρ[i]? = some (.ow ds)) : ∃ p vs, σ[i]? = some (some (.ref p)) ∧ H1 p = some (.lst vs) ∧ Rps K H vs ds ∧
    ∀ vs' ds', Rps K H vs' ds' → SS K HE HE1 H (upd H1 p (.lst vs')) σ (ρ.set i (.ow ds')) := by
  obtain ⟨css, hs, o⟩ := h.own
  obtain ⟨p, vs, a, b, c⟩ := hs i _ hi
  have hm : (p, HO.lst vs) ∈ css i := by rw [c]; exact List.mem_cons_self
  obtain ⟨n1, n2, n3⟩ := o.at_ i _ hm
  have hil := (List.getElem?_eq_some_iff.mp hi).1
  refine ⟨p, vs, a, n3, b, fun vs' ds' r => ?_⟩
  refine ⟨⟨h.gr.kn, h.ex.mut n2, h.gr.all.mut n1, h.gr.new⟩, by simp [h.len], repl css i [(p, .lst vs')], fun k s q => ?_, ⟨fun k c' hk => ?_, fun k => ?_, fun k m hkm c' hk c2 hm2 => ?_⟩⟩
  · by_cases hk : k = i
    · subst hk
      rw [List.getElem?_set_self hil] at q
      cases q
      rw [repl_pos rfl]
      exact ⟨p, vs', a, r, rfl⟩
    · rw [List.getElem?_set_ne (Ne.symm hk)] at q
      rw [repl_neg hk]
      exact hs k s q
  · by_cases hki : k = i
    · rw [repl_pos hki] at hk
      rcases List.mem_cons.mp hk with rfl | hk
      · exact ⟨n1, n2, upd_same⟩
      · cases hk
    · rw [repl_neg hki] at hk
      obtain ⟨a1, b1, c1⟩ := o.at_ k c' hk
      refine ⟨a1, b1, ?_⟩
      rw [upd_ne (o.di k i hki c' hk _ hm)]
      exact c1
  · show ((repl css i [(p, HO.lst vs')] k).map Prod.fst).Nodup
    by_cases hki : k = i
    · rw [repl_pos hki]; simp
    · rw [repl_neg hki]; exact o.nd k
  · by_cases hki : k = i
    · have hmi : m ≠ i := fun z => hkm (hki.trans z.symm)
      rw [repl_pos hki] at hk
      rw [repl_neg hmi] at hm2
      rcases List.mem_cons.mp hk with rfl | hk
      · exact fun z => o.di m i hmi c2 hm2 _ hm z.symm
      · cases hk
    · rw [repl_neg hki] at hk
      by_cases hmi : m = i
      · rw [repl_pos hmi] at hm2
        rcases List.mem_cons.mp hm2 with rfl | hm2
        · exact (o.di k i hki c' hk (p, HO.lst vs) hm : c'.1 ≠ p)
        · cases hm2
      · rw [repl_neg hmi] at hm2
        exact o.di k m hkm c' hk c2 hm2
theorem SS.writeD {ks : List Key} {ds : List D} (h : SS K HE HE1 H H1 σ ρ) (hi : ρ[i]? = some (.od ks ds)) : ∃ p kvs, σ[i]? = some (some (.ref p)) ∧ H1 p = some (.dK kvs) ∧ kvs.map Prod.fst = ks ∧ Rps K H (kvs.map Prod.snd) ds ∧
    ∀ kvs' ds', Rps K H (kvs'.map Prod.snd) ds' → SS K HE HE1 H (upd H1 p (.dK kvs')) σ (ρ.set i (.od (kvs'.map Prod.fst) ds')) := by
  obtain ⟨css, hs, o⟩ := h.own
  obtain ⟨p, vs, a, ek, b, c⟩ := hs i _ hi
  have hm : (p, HO.dK vs) ∈ css i := by rw [c]; exact List.mem_cons_self
  obtain ⟨n1, n2, n3⟩ := o.at_ i _ hm
  have hil := (List.getElem?_eq_some_iff.mp hi).1
  refine ⟨p, vs, a, n3, ek, b, fun vs' ds' r => ?_⟩
  refine ⟨⟨h.gr.kn, h.ex.mut n2, h.gr.all.mut n1, h.gr.new⟩, by simp [h.len], repl css i [(p, .dK vs')], fun k s q => ?_, ⟨fun k c' hk => ?_, fun k => ?_, fun k m hkm c' hk c2 hm2 => ?_⟩⟩
  · by_cases hk : k = i
    · subst hk
      rw [List.getElem?_set_self hil] at q
      cases q
      rw [repl_pos rfl]
      exact ⟨p, vs', a, rfl, r, rfl⟩
    · rw [List.getElem?_set_ne (Ne.symm hk)] at q
      rw [repl_neg hk]
      exact hs k s q
  · by_cases hki : k = i
    · rw [repl_pos hki] at hk
      rcases List.mem_cons.mp hk with rfl | hk
      · exact ⟨n1, n2, upd_same⟩
      · cases hk
    · rw [repl_neg hki] at hk
      obtain ⟨a1, b1, c1⟩ := o.at_ k c' hk
      refine ⟨a1, b1, ?_⟩
      rw [upd_ne (o.di k i hki c' hk _ hm)]
      exact c1
  · show ((repl css i [(p, HO.dK vs')] k).map Prod.fst).Nodup
    by_cases hki : k = i
    · rw [repl_pos hki]; simp
    · rw [repl_neg hki]; exact o.nd k
  · by_cases hki : k = i
    · have hmi : m ≠ i := fun z => hkm (hki.trans z.symm)
      rw [repl_pos hki] at hk
      rw [repl_neg hmi] at hm2
      rcases List.mem_cons.mp hk with rfl | hk
      · exact fun z => o.di m i hmi c2 hm2 _ hm z.symm
      · cases hk
    · rw [repl_neg hki] at hk
      by_cases hmi : m = i
      · rw [repl_pos hmi] at hm2
        rcases List.mem_cons.mp hm2 with rfl | hm2
        · exact (o.di k i hki c' hk (p, HO.dK vs) hm : c'.1 ≠ p)
        · cases hm2
      · rw [repl_neg hmi] at hm2
        exact o.di k m hkm c' hk c2 hm2
/-- what is its own becomes plain data -/
theorem SS.freeze (h : SS K HE HE1 H H1 σ ρ) (hi : ρ[i]? = some s) (hv : viewOf s = some d) : ∃ Hn, Ex H Hn ∧ SS K HE HE1 Hn H1 σ (ρ.set i (.sh d)) := by
  classical
  obtain ⟨css, hs, o⟩ := h.own
  have hil := (List.getElem?_eq_some_iff.mp hi).1
  -- known: the cells of slot i
  let Hn : Hp := fun a => match H a with
    | some u => some u
    | none => if (∃ c, c ∈ css i ∧ c.1 = a) then H1 a else none
  have e1 : Ex H Hn := fun a u q => by show (match H a with | some u => some u | none => _) = _; rw [q]
  have cs_ : ∀ a, H a = none → ¬ (∃ c, c ∈ css i ∧ c.1 = a) → Hn a = none := fun a q hx => by
    show (match H a with | some u => some u | none => if (∃ c, c ∈ css i ∧ c.1 = a) then H1 a else none) = none
    rw [q]
    show (if (∃ c, c ∈ css i ∧ c.1 = a) then H1 a else none) = none
    rw [if_neg hx]
  have e3 : ∀ c, c ∈ css i → Hn c.1 = some c.2 := fun c hc => by
    obtain ⟨a, b, c1⟩ := o.at_ i c hc
    show (match H c.1 with | some u => some u | none => if (∃ c', c' ∈ css i ∧ c'.1 = c.1) then H1 c.1 else none) = _
    rw [b]
    show (if (∃ c', c' ∈ css i ∧ c'.1 = c.1) then H1 c.1 else none) = _
    rw [if_pos ⟨c, hc, rfl⟩]
    exact c1
  have cases_ : ∀ a u, Hn a = some u → H a = some u ∨ (H a = none ∧ ∃ c, c ∈ css i ∧ c.1 = a ∧ c.2 = u) := fun a u q => by
    cases z : H a with
    | some w =>
      have := e1 a w z
      rw [q] at this
      cases this
      exact .inl rfl
    | none =>
      by_cases hx : ∃ c, c ∈ css i ∧ c.1 = a
      · obtain ⟨c, hc, rfl⟩ := hx
        rw [e3 c hc] at q
        cases q
        exact .inr ⟨rfl, c, hc, rfl, rfl⟩
      · rw [cs_ a z hx] at q
        cases q
  have e2 : Ex Hn H1 := fun a u q => by
    rcases cases_ a u q with z | ⟨_, c, hc, rfl, rfl⟩
    · exact h.ex _ _ z
    · exact (o.at_ i c hc).2.2
  have g : Gr HE HE1 Hn H1 := ⟨h.gr.kn.trans e1, e2, h.gr.all, fun a u q n => by
    rcases cases_ a u q with z | ⟨_, c, hc, rfl, rfl⟩
    · exact h.gr.new a u z n
    · exact (o.at_ i c hc).1⟩
  refine ⟨Hn, e1, g, by simp [h.len], repl css i [], fun k s' q => ?_, ⟨fun k c hk => ?_, fun k => ?_, fun k m hkm c hk c' hm => ?_⟩⟩
  · by_cases hk : k = i
    · subst hk
      rw [List.getElem?_set_self hil] at q
      cases q
      rw [repl_pos rfl]
      refine ⟨?_, rfl⟩
      have hr := hs k s hi
      cases s with
      | no => cases hv
      | sh d' =>
        cases hv
        obtain ⟨⟨v, a, b⟩, _⟩ := hr
        exact ⟨v, a, b.mono e1⟩
      | ow ds =>
        cases hv
        obtain ⟨p, vs, a, b, c⟩ := hr
        exact ⟨_, a, .lst (e3 (p, .lst vs) (by rw [c]; exact List.mem_cons_self)) (b.mono e1)⟩
      | od ks ds =>
        cases hv
        obtain ⟨p, kvs, a, b, r, c⟩ := hr
        subst b
        exact ⟨_, a, .dct (e3 (p, .dK kvs) (by rw [c]; exact List.mem_cons_self)) (r.mono e1)⟩
      | oo p qs dss =>
        cases hv
        obtain ⟨vss, a, b, l, c⟩ := hr
        refine ⟨_, a, .lst (e3 (p, .lst (qs.map V.ref)) (by rw [c]; exact List.mem_cons_self)) ?_⟩
        have hin : ∀ c' ∈ inner qs vss, Hn c'.1 = some c'.2 := fun c' hc' => e3 c' (by rw [c]; exact List.mem_cons_of_mem _ hc')
        clear c a hi hs
        have go : ∀ (qs : List Addr) (vss : List (List V)) (dss : List (List D)), Rpss K H vss dss → vss.length = qs.length → (∀ c' ∈ inner qs vss, Hn c'.1 = some c'.2) → Rps K Hn (qs.map V.ref) (dss.map D.lst) := by
          intro qs
          induction qs with
          | nil =>
            intro vss dss hp hl _
            cases vss with
            | nil => cases hp; exact .nil
            | cons v vs => cases hl
          | cons q qs ih =>
            intro vss dss hp hl hin
            cases vss with
            | nil => cases hl
            | cons v vs =>
              cases hp with
              | cons r t =>
                exact .cons (.lst (hin (q, .lst v) (by unfold inner; simp)) (r.mono e1)) (ih vs _ t (by simpa using hl) fun c' hc' => hin c' (by unfold inner at hc' ⊢; simp only [List.zip_cons_cons, List.map_cons]; exact List.mem_cons_of_mem _ hc'))
        exact go qs vss dss b l hin
      | al q => cases hv
    · rw [List.getElem?_set_ne (Ne.symm hk)] at q
      rw [repl_neg hk]
      exact (hs k s' q).mono e1
  · by_cases hki : k = i
    · rw [repl_pos hki] at hk; cases hk
    · rw [repl_neg hki] at hk
      obtain ⟨a1, b1, c1⟩ := o.at_ k c hk
      exact ⟨a1, cs_ _ b1 fun ⟨c2, h2, z⟩ => o.di i k (Ne.symm hki) c2 h2 c hk z, c1⟩
  · show ((repl css i [] k).map Prod.fst).Nodup
    by_cases hki : k = i
    · rw [repl_pos hki]; exact List.nodup_nil
    · rw [repl_neg hki]; exact o.nd k
  · by_cases hki : k = i
    · rw [repl_pos hki] at hk; cases hk
    · rw [repl_neg hki] at hk
      by_cases hmi : m = i
      · rw [repl_pos hmi] at hm; cases hm
      · rw [repl_neg hmi] at hm
        exact o.di k m hkm c hk c' hm
/-- forgetting -/
theorem SS.forget (h : SS K HE HE1 H H1 σ ρ) (i : Nat) : SS K HE HE1 H H1 σ (ρ.set i .no) := by
  obtain ⟨css, hs, o⟩ := h.own
  refine ⟨h.gr, by simp [h.len], repl css i [], fun k s' q => ?_, ⟨fun k c hk => ?_, fun k => ?_, fun k m hkm c hk c' hm => ?_⟩⟩
  · by_cases hk : k = i
    · subst hk
      by_cases hil : k < ρ.length
      · rw [List.getElem?_set_self hil] at q
        cases q
        show repl css k [] k = []
        exact repl_pos rfl
      · rw [List.getElem?_eq_none (by simpa using hil)] at q
        cases q
    · rw [List.getElem?_set_ne (Ne.symm hk)] at q
      rw [repl_neg hk]
      exact hs k s' q
  · by_cases hki : k = i
    · rw [repl_pos hki] at hk; cases hk
    · rw [repl_neg hki] at hk
      exact o.at_ k c hk
  · show ((repl css i [] k).map Prod.fst).Nodup
    by_cases hki : k = i
    · rw [repl_pos hki]; exact List.nodup_nil
    · rw [repl_neg hki]; exact o.nd k
  · by_cases hki : k = i
    · rw [repl_pos hki] at hk; cases hk
    · rw [repl_neg hki] at hk
      by_cases hmi : m = i
      · rw [repl_pos hmi] at hm; cases hm
      · rw [repl_neg hmi] at hm
        exact o.di k m hkm c hk c' hm
end
end DL

set_option Elab.async false
set_option linter.all false
set_option maxRecDepth 100000
set_option maxHeartbeats 4000000
/-! DL3: what a statement does to the slots. -/
namespace DL
open PySem PySem.Spec PyProof.Rows L2

/-- what is wanted behind a statement, of the slots' data -/
structure DE where
  nx : List Sl → Prop
  rt : Ret → Prop
  bk : List Sl → Prop := fun _ => False
  ct : List Sl → Prop := fun _ => False

def SD (K : PySem.W.Frag) (t : TS) (ρ : List Sl) (D : DE) : Prop := ∀ HE HE1 H H1 σ (E : Ends), SS K HE HE1 H H1 σ ρ →
  (∀ ρ' H' H1' σ', D.nx ρ' → Ex H H' → SS K HE HE1 H' H1' σ' ρ' → E.nx σ' H1') →
  (∀ ρ' H' H1' σ', D.bk ρ' → Ex H H' → SS K HE HE1 H' H1' σ' ρ' → E.bk σ' H1') →
  (∀ ρ' H' H1' σ', D.ct ρ' → Ex H H' → SS K HE HE1 H' H1' σ' ρ' → E.ct σ' H1') →
  (∀ r v H2, D.rt r → OutR K HE HE1 r v H2 → E.rt v H2) → t E σ H1

section
variable {K : PySem.W.Frag} {ρ : List Sl} {D : DE} {t u tu tw tb : TS} {te ta tk tv : TE} {tt : TT} {i j : Nat} {d a : DL.D} {ds : List DL.D}

theorem sd_then (h : SD K t ρ { D with nx := fun ρ' => SD K u ρ' D }) : SD K (tSeq t u) ρ D := fun HE HE1 H H1 σ E ss n b c r =>
  h HE HE1 H H1 σ { E with nx := u E } ss (fun ρ' H' H1' σ' q e ss' => q HE HE1 H' H1' σ' E ss' (fun ρ2 H2 H12 σ2 q2 e2 => n ρ2 H2 H12 σ2 q2 (e.trans e2)) (fun ρ2 H2 H12 σ2 q2 e2 => b ρ2 H2 H12 σ2 q2 (e.trans e2)) (fun ρ2 H2 H12 σ2 q2 e2 => c ρ2 H2 H12 σ2 q2 (e.trans e2)) r) b c r
/-- .. with a word between -/
theorem sd_cut (M : List Sl → Prop) (h : SD K t ρ { D with nx := M }) (k : ∀ ρ', M ρ' → SD K u ρ' D) : SD K (tSeq t u) ρ D :=
  sd_then fun HE HE1 H H1 σ E ss n b c r => h HE HE1 H H1 σ E ss (fun ρ' H' H1' σ' q e ss' => n ρ' H' H1' σ' (k ρ' q) e ss') b c r
theorem SD.imp {D' : DE} (h : SD K t ρ D') (hn : ∀ ρ', D'.nx ρ' → D.nx ρ') (hb : ∀ ρ', D'.bk ρ' → D.bk ρ') (hc : ∀ ρ', D'.ct ρ' → D.ct ρ') (hr : ∀ r, D'.rt r → D.rt r) : SD K t ρ D := fun HE HE1 H H1 σ E ss n b c r =>
  h HE HE1 H H1 σ E ss (fun ρ' H' H1' σ' q => n ρ' H' H1' σ' (hn _ q)) (fun ρ' H' H1' σ' q => b ρ' H' H1' σ' (hb _ q)) (fun ρ' H' H1' σ' q => c ρ' H' H1' σ' (hc _ q)) (fun x v H2 q => r x v H2 (hr _ q))
theorem sd_next (h : D.nx ρ) : SD K tNext ρ D := fun HE HE1 H H1 σ E ss n b c r => n ρ H H1 σ h (Ex.refl _) ss
theorem sd_break (h : D.bk ρ) : SD K tBreak ρ D := fun HE HE1 H H1 σ E ss n b c r => b ρ H H1 σ h (Ex.refl _) ss
theorem sd_cont (h : D.ct ρ) : SD K tCont ρ D := fun HE HE1 H H1 σ E ss n b c r => c ρ H H1 σ h (Ex.refl _) ss
theorem sd_frz {s : Sl} (hi : ρ[i]? = some s) (hv : viewOf s = some d) (h : SD K t (ρ.set i (.sh d)) D) : SD K t ρ D := fun HE HE1 H H1 σ E ss n b c r => by
  obtain ⟨Hn, e, ss'⟩ := ss.freeze hi hv
  exact h HE HE1 Hn H1 σ E ss' (fun ρ' H' H1' σ' q e2 => n ρ' H' H1' σ' q (e.trans e2)) (fun ρ' H' H1' σ' q e2 => b ρ' H' H1' σ' q (e.trans e2)) (fun ρ' H' H1' σ' q e2 => c ρ' H' H1' σ' q (e.trans e2)) r
theorem sd_forget (i : Nat) (h : SD K t (ρ.set i .no) D) : SD K t ρ D := fun HE HE1 H H1 σ E ss n b c r => h HE HE1 H H1 σ E (ss.forget i) n b c r
/-- x = e, plain data -/
theorem sd_asg (h : EvD K te (shE ρ) d) (k : D.nx (ρ.set i (.sh d))) (hf : free_ ρ i = true := by rfl) : SD K (tAsg te (gName i)) ρ D := fun HE HE1 H H1 σ E ss n b c r =>
  h H σ H1 ss.er ss.ex _ fun v Hn H2 g rv => n _ Hn H2 _ k g.kn (ss.setSh hf g rv)
/-- data without addresses -/
def flat : DL.D → Bool
  | .non => true
  | .bl _ => true
  | .int _ => true
  | .str _ => true
  | _ => false
theorem flat_rp {H H' : Hp} {v : V} (hf : flat d = true) (r : Rp K H v d) : Rp K H' v d := by
  cases r with
  | non => exact .non
  | bl b => exact .bl b
  | int i => exact .int i
  | str x => exact .str x
  | _ => cases hf
theorem flat_rps {H H' : Hp} : ∀ {vs : List V} {ds : List DL.D}, ds.all flat = true → Rps K H vs ds → Rps K H' vs ds
  | _, _, _, .nil => .nil
  | _, _, hf, .cons r t => by
    have q := Bool.and_eq_true_iff.mp (show (flat _ && List.all _ flat) = true from hf)
    exact .cons (flat_rp q.1 r) (flat_rps q.2 t)
theorem all_flat (ns : List Int) : (dI ns).all flat = true := by
  rw [List.all_map]
  exact List.all_eq_true.mpr fun _ _ => rfl
/-- x = e, a number or the like, whatever is read -/
theorem sd_asgF (h : EvD K te (viewE ρ) d) (hd : flat d = true) (k : D.nx (ρ.set i (.sh d))) (hf : free_ ρ i = true := by rfl) : SD K (tAsg te (gName i)) ρ D := fun HE HE1 H H1 σ E ss n b c r => by
  obtain ⟨Hv, e1, e2, er⟩ := ss.view
  exact h Hv σ H1 er e2 _ fun v Hn H2 g rv => n _ H H2 _ k (Ex.refl _) (ss.setSh hf (Gr.only ss.ex g.all) (flat_rp hd rv))
/-- x = a new list -/
theorem sd_asgL (h : EvL K te (shE ρ) ds) (k : D.nx (ρ.set i (.ow ds))) (hf : free_ ρ i = true := by rfl) : SD K (tAsg te (gName i)) ρ D := fun HE HE1 H H1 σ E ss n b c r =>
  h H σ H1 ss.er ss.ex _ fun p vs Hn H2 g h1 hn h2 rs => n _ Hn H2 _ k g.kn (ss.setOw hf g h1 hn h2 rs)
/-- .. of numbers, whatever is read -/
theorem sd_asgLF (h : EvL K te (viewE ρ) ds) (hd : ds.all flat = true) (k : D.nx (ρ.set i (.ow ds))) (hf : free_ ρ i = true := by rfl) : SD K (tAsg te (gName i)) ρ D := fun HE HE1 H H1 σ E ss n b c r => by
  obtain ⟨Hv, e1, e2, er⟩ := ss.view
  exact h Hv σ H1 er e2 _ fun p vs Hn H2 g h1 hn h2 rs => n _ H H2 _ k (Ex.refl _) (ss.setOw hf (Gr.only ss.ex g.all) h1 (ss.ex.back h1) h2 (flat_rps hd rs))
/-- x = {} -/
theorem sd_asgD0 (k : D.nx (ρ.set i (.od [] []))) (hf : free_ ρ i = true := by rfl) : SD K (tAsg tDNewK (gName i)) ρ D := fun HE HE1 H H1 σ E ss n b c r => fun p hp =>
  n _ H _ _ k (Ex.refl _) (ss.put hf (Gr.only ss.ex ((Ex.refl _).mut hp)) (fun hi => ⟨p, [], List.getElem?_set_self (by rw [← ss.len]; exact hi), rfl, .nil, rfl⟩) (fun c hc => by
    rcases List.mem_cons.mp hc with rfl | hc
    · exact ⟨hp, ss.ex.back hp, upd_same⟩
    · cases hc) (by simp))
/-- a, b = a pair of data -/
theorem sd_asg2 {d1 d2 : DL.D} (h : EvD K te (shE ρ) (.tup [d1, d2])) (k : D.nx ((ρ.set i (.sh d1)).set j (.sh d2))) (hf : free_ ρ i = true := by rfl) (hg : free_ (ρ.set i (.sh d1)) j = true := by rfl) :
    SD K (tAsg te (gTup K 2 (gCons (gName i) (gCons (gName j) gNil)))) ρ D := fun HE HE1 H H1 σ E ss n b c r =>
  h H σ H1 ss.er ss.ex _ fun v Hn H2 g rv => by
    cases rv with
    | tup hs rs =>
      cases rs with
      | cons r1 t =>
        cases t with
        | cons r2 t =>
          cases t
          have s1 := ss.setSh hf g r1
          exact ⟨_, _, rfl, ex_t g.inn hs, rfl, _, _, rfl, _, _, rfl, rfl, n _ Hn H2 _ k g.kn (s1.setSh hg (Gr.refl g.inn) r2)⟩
/-- f(..) as a statement, its value dropped -/
theorem sd_drop (h : EvD K te (viewE ρ) d) (k : D.nx ρ) : SD K (tDrop te) ρ D := fun HE HE1 H H1 σ E ss n b c r => by
  obtain ⟨Hv, e1, e2, er⟩ := ss.view
  exact h Hv σ H1 er e2 _ fun v Hn H2 g rv => n _ H H2 _ k (Ex.refl _) (ss.grow g.all)
/-- x[k] = e, x a list of its own -/
theorem sd_set {m : Nat} (hi : ρ[i]? = some (.ow ds)) (h : EvD K te (shE ρ) d) (hk : EvD K tk (viewE ρ) (.int (m : Int))) (hm : m < ds.length) (k : D.nx (ρ.set i (.ow (ds.set m d)))) : SD K (tAsg te (gSub (tVar i) tk rSetL)) ρ D := fun HE HE1 H H1 σ E ss n b c r =>
  h H σ H1 ss.er ss.ex _ fun v Hn H2 g rv => by
    have s2 := ss.step g
    obtain ⟨p, vs, hp, hv, rs, wr⟩ := s2.write hi
    obtain ⟨Hv, e1, e2, er⟩ := s2.view
    refine ⟨_, hp, ?_⟩
    refine hk Hv σ H2 er e2 _ fun iv Hm H3 g3 ri => ?_
    cases ri
    have s3 := s2.grow g3.all
    obtain ⟨p', vs', hp', hv', rs', wr'⟩ := s3.write hi
    have ep : p' = p := by rw [hp] at hp'; cases hp'; rfl
    subst ep
    refine ⟨p', vs', (m : Int), m, rfl, rfl, hv', ?_, n _ Hn _ _ k g.kn (wr' _ _ (rs'.set rv m))⟩
    rw [rs'.length]
    unfold ixN
    rw [if_pos (by omega), if_pos (by omega)]
    simp
/-- .. the value a number, whatever is read -/
theorem sd_setF {m : Nat} (hi : ρ[i]? = some (.ow ds)) (h : EvD K te (viewE ρ) d) (hd : flat d = true) (hk : EvD K tk (viewE ρ) (.int (m : Int))) (hm : m < ds.length) (k : D.nx (ρ.set i (.ow (ds.set m d)))) : SD K (tAsg te (gSub (tVar i) tk rSetL)) ρ D := fun HE HE1 H H1 σ E ss n b c r => by
  obtain ⟨Hv0, e10, e20, er0⟩ := ss.view
  refine h Hv0 σ H1 er0 e20 _ fun v Hn0 H2 g0 rv => ?_
  have s2 := ss.grow g0.all
  obtain ⟨p, vs, hp, hv, rs, wr⟩ := s2.write hi
  obtain ⟨Hv, e1, e2, er⟩ := s2.view
  refine ⟨_, hp, ?_⟩
  refine hk Hv σ H2 er e2 _ fun iv Hm H3 g3 ri => ?_
  cases ri
  have s3 := s2.grow g3.all
  obtain ⟨p', vs', hp', hv', rs', wr'⟩ := s3.write hi
  have ep : p' = p := by rw [hp] at hp'; cases hp'; rfl
  subst ep
  refine ⟨p', vs', (m : Int), m, rfl, rfl, hv', ?_, n _ H _ _ k (Ex.refl _) (wr' _ _ (rs'.set (flat_rp hd rv) m))⟩
  rw [rs'.length]
  unfold ixN
  rw [if_pos (by omega), if_pos (by omega)]
  simp
/-- x.append(e) -/
theorem sd_app (hi : ρ[i]? = some (.ow ds)) (h : EvD K te (shE ρ) d) (hl : ds.length < sizeLine) (k : D.nx (ρ.set i (.ow (ds ++ [d])))) : SD K (tDrop (tBM K "list" rAppend (tVar i) (tCons te tNil))) ρ D := fun HE HE1 H H1 σ E ss n b c r => by
  obtain ⟨p, vs, hp, hv, rs, wr⟩ := ss.write hi
  refine ⟨_, hp, .inl ⟨rfl, _, SqL.of hv⟩, ?_⟩
  refine h H σ H1 ss.er ss.ex _ fun v Hn H2 g rv => ?_
  have s2 := ss.step g
  obtain ⟨p', vs', hp', hv', rs', wr'⟩ := s2.write hi
  have ep : p' = p := by rw [hp] at hp'; cases hp'; rfl
  subst ep
  exact ⟨p', vs', v, rfl, rfl, hv', by rw [rs'.length]; exact hl, n _ Hn _ _ k g.kn (wr' _ _ (rs'.append (.one rv)))⟩
theorem sd_appF (hi : ρ[i]? = some (.ow ds)) (h : EvD K te (viewE ρ) d) (hd : flat d = true) (hl : ds.length < sizeLine) (k : D.nx (ρ.set i (.ow (ds ++ [d])))) : SD K (tDrop (tBM K "list" rAppend (tVar i) (tCons te tNil))) ρ D := fun HE HE1 H H1 σ E ss n b c r => by
  obtain ⟨p, vs, hp, hv, rs, wr⟩ := ss.write hi
  refine ⟨_, hp, .inl ⟨rfl, _, SqL.of hv⟩, ?_⟩
  obtain ⟨Hv, e1, e2, er⟩ := ss.view
  refine h Hv σ H1 er e2 _ fun v Hn H2 g rv => ?_
  have s2 := ss.grow g.all
  obtain ⟨p', vs', hp', hv', rs', wr'⟩ := s2.write hi
  have ep : p' = p := by rw [hp] at hp'; cases hp'; rfl
  subst ep
  exact ⟨p', vs', v, rfl, rfl, hv', by rw [rs'.length]; exact hl, n _ H _ _ k (Ex.refl _) (wr' _ _ (rs'.append (.one (flat_rp hd rv))))⟩
/-! dicts -/
def dKey : DL.D → Option Key
  | .int i => some (.inl i)
  | .str x => some (.inr x)
  | _ => none
theorem key_rp {H : Hp} {v : V} {κ : Key} (r : Rp K H v d) (hk : dKey d = some κ) : v = kV κ := by
  cases r with
  | int i => cases hk; rfl
  | str x => cases hk; rfl
  | _ => cases hk
/-- a key that is new -/
theorem sd_putNew {ks : List Key} {κ : Key} {kd : DL.D} (hi : ρ[i]? = some (.od ks ds)) (h : EvD K te (viewE ρ) d) (hd : flat d = true) (hk : EvD K tk (viewE ρ) kd) (hκ : dKey kd = some κ) (hn : κ ∉ ks) (hl : ks.length < sizeLine) (k : D.nx (ρ.set i (.od (ks ++ [κ]) (ds ++ [d])))) :
    SD K (sDPut (tVar i) tk te) ρ D := fun HE HE1 H H1 σ E ss n b c r => by
  obtain ⟨Hv, e1, e2, er⟩ := ss.view
  refine h Hv σ H1 er e2 _ fun v Hn H2 g rv => ?_
  have s2 := ss.grow g.all
  obtain ⟨p, kvs, hp, hv, ek, rs, wr⟩ := s2.writeD hi
  refine ⟨_, hp, ?_⟩
  obtain ⟨Hv2, e12, e22, er2⟩ := s2.view
  refine hk Hv2 σ H2 er2 e22 _ fun w Hn3 H3 g3 rk => ?_
  have ew := key_rp rk hκ
  subst ew
  have s3 := s2.grow g3.all
  obtain ⟨p', kvs', hp', hv', ek', rs', wr'⟩ := s3.writeD hi
  have ep : p' = p := by rw [hp] at hp'; cases hp'; rfl
  subst ep
  have hz : kvs'.length < sizeLine := by
    have := congrArg List.length ek'
    rw [List.length_map] at this
    rw [this]
    exact hl
  refine ⟨p', _, rfl, DPut.k hv' hz, ?_⟩
  have no : (kvs'.any fun kv => decide (kv.1 = κ)) = false := by
    rw [List.any_eq_false]
    intro x hx hd
    exact hn (by rw [← ek', ← of_decide_eq_true hd]; exact List.mem_map_of_mem hx)
  have hput : putK kvs' κ v = kvs' ++ [(κ, v)] := by
    unfold putK
    rw [no]
    rfl
  rw [hput]
  have q := wr' (kvs' ++ [(κ, v)]) (ds ++ [d]) (by rw [List.map_append]; exact rs'.append (.one (flat_rp hd rv)))
  rw [List.map_append, ek'] at q
  exact n _ H _ _ k (Ex.refl _) q
/-! if, return -/
theorem sd_if {x : Bool} (h : EvT K tt (viewE ρ) x) (h1 : x = true → SD K tu ρ D) (h2 : x = false → SD K tw ρ D) : SD K (tIfS tt tu tw) ρ D := fun HE HE1 H H1 σ E ss n b c r => by
  obtain ⟨Hv, e1, e2, er⟩ := ss.view
  refine h Hv σ H1 er e2 _ fun H2 e => ?_
  cases x with
  | true => exact h1 rfl HE HE1 H H2 σ E (ss.grow e) n b c r
  | false => exact h2 rfl HE HE1 H H2 σ E (ss.grow e) n b c r
theorem sd_ret (h : EvD K te (shE ρ) d) (k : D.rt (.sh d)) : SD K (tRet te) ρ D := fun HE HE1 H H1 σ E ss n b c r =>
  h H σ H1 ss.er ss.ex _ fun v Hn H2 g rv => r _ v H2 k ⟨Hn, ss.gr.trans g, rv⟩
theorem sd_retF (h : EvD K te (viewE ρ) d) (hd : flat d = true) (k : D.rt (.sh d)) : SD K (tRet te) ρ D := fun HE HE1 H H1 σ E ss n b c r => by
  obtain ⟨Hv, e1, e2, er⟩ := ss.view
  exact h Hv σ H1 er e2 _ fun v Hn H2 g rv => r _ v H2 k ⟨H, (ss.grow g.all).gr, flat_rp hd rv⟩
theorem sd_retL (h : EvL K te (shE ρ) ds) (k : D.rt (.ow ds)) : SD K (tRet te) ρ D := fun HE HE1 H H1 σ E ss n b c r =>
  h H σ H1 ss.er ss.ex _ fun p vs Hn H2 g h1 hn h2 rs => r _ _ H2 k ⟨p, vs, Hn, rfl, ss.gr.trans g, ss.gr.all.back h1, hn, h2, rs⟩
theorem sd_retLF (h : EvL K te (viewE ρ) ds) (hd : ds.all flat = true) (k : D.rt (.ow ds)) : SD K (tRet te) ρ D := fun HE HE1 H H1 σ E ss n b c r => by
  obtain ⟨Hv, e1, e2, er⟩ := ss.view
  exact h Hv σ H1 er e2 _ fun p vs Hn H2 g h1 hn h2 rs => r _ _ H2 k ⟨p, vs, H, rfl, (ss.grow g.all).gr, ss.gr.all.back h1, ss.ex.back h1, h2, flat_rps hd rs⟩
theorem sd_retO (hi : ρ[i]? = some (.ow ds)) (k : D.rt (.ow ds)) : SD K (tRet (tVar i)) ρ D := fun HE HE1 H H1 σ E ss n b c r => by
  obtain ⟨css, hs, o⟩ := ss.own
  obtain ⟨p, vs, a, rs, e⟩ := hs i _ hi
  have hm : (p, HO.lst vs) ∈ css i := by rw [e]; exact List.mem_cons_self
  obtain ⟨n1, n2, n3⟩ := o.at_ i _ hm
  exact ⟨_, a, r _ _ H1 k ⟨p, vs, H, rfl, ss.gr, n1, n2, n3, rs⟩⟩
theorem sd_retN (k : D.rt (.sh .non)) : SD K tRetN ρ D := fun HE HE1 H H1 σ E ss n b c r => r _ _ H1 k ⟨H, ss.gr, .non⟩

/-! ### loops -/
/-- an item goes to the targets -/
def TgS (K : PySem.W.Frag) (g : TG) (ρ : List Sl) (d : DL.D) (ρ' : List Sl) : Prop := ∀ x HE HE1 H H1 σ, SS K HE HE1 H H1 σ ρ → Rp K H x d → ∀ Q : L2.St → Hp → Prop, (∀ σ', SS K HE HE1 H H1 σ' ρ' → Q σ' H1) → g x σ H1 Q
theorem ts_name (hf : free_ ρ i = true := by rfl) : TgS K (gName i) ρ d (ρ.set i (.sh d)) := fun x HE HE1 H H1 σ ss rx Q q => q _ (ss.setSh hf (Gr.refl ss.ex) rx)
theorem ts_pair {d1 d2 : DL.D} (hf : free_ ρ i = true := by rfl) (hg : free_ (ρ.set i (.sh d1)) j = true := by rfl) : TgS K (gTup K 2 (gCons (gName i) (gCons (gName j) gNil))) ρ (.tup [d1, d2]) ((ρ.set i (.sh d1)).set j (.sh d2)) := fun x HE HE1 H H1 σ ss rx Q q => by
  cases rx with
  | tup hs rs =>
    cases rs with
    | cons r1 t =>
      cases t with
      | cons r2 t =>
        cases t
        exact ⟨_, _, rfl, ex_t ss.ex hs, rfl, _, _, rfl, _, _, rfl, rfl, q _ ((ss.setSh hf (Gr.refl ss.ex) r1).setSh hg (Gr.refl ss.ex) r2)⟩
/-- the loop's word: I at turn m -/
def Lw (K : PySem.W.Frag) (HE HE1 H0 : Hp) (I : Nat → List Sl → Prop) (m : Nat) (σ : L2.St) (H1 : Hp) : Prop := ∃ ρ H, Ex H0 H ∧ I m ρ ∧ SS K HE HE1 H H1 σ ρ
theorem sd_forL {tl : TE} {g : TG} (h : EvD K tl (shE ρ) a) (ha : a = .lst ds ∨ a = .rd ds) (I : Nat → List Sl → Prop) (h0 : I 0 ρ)
    (hs : ∀ m d ρ', ds[m]? = some d → I m ρ' → ∃ ρ2, TgS K g ρ' d ρ2 ∧ SD K tb ρ2 { D with nx := I (m + 1), ct := I (m + 1), bk := D.nx }) (hd : ∀ ρ', I ds.length ρ' → D.nx ρ') : SD K (tFor (iList K tl) g tb) ρ D := fun HE HE1 H H1 σ E ss n b c r =>
  h H σ H1 ss.er ss.ex _ fun x H0 H2 g2 rx => by
    obtain ⟨p, ws, rfl, hp, rs⟩ : ∃ p ws, x = .ref p ∧ SqL K H0 p ws ∧ Rps K H0 ws ds := by
      rcases ha with rfl | rfl
      · cases rx with
        | lst h r => exact ⟨_, _, rfl, SqL.of h, r⟩
      · cases rx with
        | rd h r => exact ⟨_, _, rfl, h, r⟩
    refine ⟨p, rfl, ⟨ws, ex_l g2.inn hp⟩, for_list (Lw K HE HE1 H0 I) ⟨ρ, H0, Ex.refl _, h0, ss.step g2⟩ (fun m σ' H' _ ⟨ρ', H3, e, _, s3⟩ => ex_l (e.trans s3.ex) hp) (fun m x σ' H' hx ⟨ρ', H3, e, hI, s3⟩ => ?_) (fun σ' H' ⟨ρ', H3, e, hI, s3⟩ => n ρ' H3 H' σ' (hd ρ' (by rw [← rs.length]; exact hI)) (g2.kn.trans e) s3)⟩
    obtain ⟨d, hd', rd⟩ := rs.getV hx
    obtain ⟨ρ2, tg, sd⟩ := hs m d ρ' hd' hI
    refine tg x HE HE1 H3 H' σ' s3 (rd.mono e) _ fun σ2 s4 => ?_
    exact sd HE HE1 H3 H' σ2 _ s4 (fun ρ3 H4 H14 σ3 q e4 s5 => ⟨ρ3, H4, e.trans e4, q, s5⟩) (fun ρ3 H4 H14 σ3 q e4 s5 => n ρ3 H4 H14 σ3 q ((g2.kn.trans e).trans e4) s5) (fun ρ3 H4 H14 σ3 q e4 s5 => ⟨ρ3, H4, e.trans e4, q, s5⟩) r
theorem sd_forT {tl : TE} {g : TG} (h : EvD K tl (shE ρ) (.tup ds)) (I : Nat → List Sl → Prop) (h0 : I 0 ρ)
    (hs : ∀ m d ρ', ds[m]? = some d → I m ρ' → ∃ ρ2, TgS K g ρ' d ρ2 ∧ SD K tb ρ2 { D with nx := I (m + 1), ct := I (m + 1), bk := D.nx }) (hd : ∀ ρ', I ds.length ρ' → D.nx ρ') : SD K (tFor (iTup K tl) g tb) ρ D := fun HE HE1 H H1 σ E ss n b c r =>
  h H σ H1 ss.er ss.ex _ fun x H0 H2 g2 rx => by
    cases rx with
    | @tup p ws _ hp rs =>
    refine ⟨p, rfl, ⟨ws, ex_t g2.inn hp⟩, for_tup (Lw K HE HE1 H0 I) ⟨ρ, H0, Ex.refl _, h0, ss.step g2⟩ (fun m σ' H' _ ⟨ρ', H3, e, _, s3⟩ => ex_t (e.trans s3.ex) hp) (fun m x σ' H' hx ⟨ρ', H3, e, hI, s3⟩ => ?_) (fun σ' H' ⟨ρ', H3, e, hI, s3⟩ => n ρ' H3 H' σ' (hd ρ' (by rw [← rs.length]; exact hI)) (g2.kn.trans e) s3)⟩
    obtain ⟨d, hd', rd⟩ := rs.getV hx
    obtain ⟨ρ2, tg, sd⟩ := hs m d ρ' hd' hI
    refine tg x HE HE1 H3 H' σ' s3 (rd.mono e) _ fun σ2 s4 => ?_
    exact sd HE HE1 H3 H' σ2 _ s4 (fun ρ3 H4 H14 σ3 q e4 s5 => ⟨ρ3, H4, e.trans e4, q, s5⟩) (fun ρ3 H4 H14 σ3 q e4 s5 => n ρ3 H4 H14 σ3 q ((g2.kn.trans e).trans e4) s5) (fun ρ3 H4 H14 σ3 q e4 s5 => ⟨ρ3, H4, e.trans e4, q, s5⟩) r
theorem sd_forR {ta : TA} {z : Int} (h : EvA K ta (viewE ρ) [.int z]) (hz : -(2 ^ 62) ≤ z ∧ z < 2 ^ 62) (I : Nat → List Sl → Prop) (h0 : I 0 ρ)
    (hs : ∀ (m : Nat) ρ', (m : Int) < z → I m ρ' → SD K tb (ρ'.set i (.sh (.int (m : Int)))) { D with nx := I (m + 1), ct := I (m + 1), bk := D.nx }) (hd : ∀ ρ', I z.toNat ρ' → D.nx ρ') (hf : ∀ m ρ', I m ρ' → free_ ρ' i = true) : SD K (tFor (iRng1 ta) (gName i) tb) ρ D := fun HE HE1 H H1 σ E ss n b c r => by
  obtain ⟨Hv, e1, e2, er⟩ := ss.view
  refine h Hv σ H1 er e2 _ fun xs Hn H2 g2 rx => ?_
  cases rx with
  | cons rx t =>
    cases t
    cases rx
    have s2 := ss.grow g2.all
    refine ⟨z, rfl, hz.1, hz.2, for_range (lo := 0) (n := z.toNat) (Lw K HE HE1 H I) ⟨ρ, H, Ex.refl _, h0, s2⟩ (fun m σ' H' hm ⟨ρ', H3, e, hI, s3⟩ => ?_) (fun σ' H' ⟨ρ', H3, e, hI, s3⟩ => n ρ' H3 H' σ' (hd ρ' hI) e s3)⟩
    have e0 : (0 : Int) + (m : Int) = (m : Int) := Int.zero_add _
    rw [e0]
    have s4 := s3.setSh (i := i) (hf m ρ' hI) (Gr.refl s3.ex) (.int (m : Int))
    exact hs m ρ' (by omega) hI HE HE1 H3 H' _ _ s4 (fun ρ3 H4 H14 σ3 q e4 s5 => ⟨ρ3, H4, e.trans e4, q, s5⟩) (fun ρ3 H4 H14 σ3 q e4 s5 => n ρ3 H4 H14 σ3 q (e.trans e4) s5) (fun ρ3 H4 H14 σ3 q e4 s5 => ⟨ρ3, H4, e.trans e4, q, s5⟩) r

/-- slots forgotten -/
def fg : List Nat → List Sl → List Sl
  | [], ρ => ρ
  | j :: js, ρ => (fg js ρ).set j .no
theorem SS.fg {HE HE1 H H1 : Hp} {σ : L2.St} (h : SS K HE HE1 H H1 σ ρ) : ∀ js : List Nat, SS K HE HE1 H H1 σ (fg js ρ)
  | [] => h
  | j :: js => (SS.fg h js).forget j
/-- the loops with a name as their target; js: what the body stores and nobody reads afterwards -/
theorem sd_forLn {tl : TE} (js : List Nat) (h : EvD K tl (shE ρ) a) (ha : a = .lst ds ∨ a = .rd ds) (I : Nat → List Sl → Prop) (h0 : I 0 (fg js ρ))
    (hs : ∀ m d ρ', ds[m]? = some d → I m ρ' → free_ ρ' i = true ∧ SD K tb (ρ'.set i (.sh d)) { D with nx := fun ρ2 => I (m + 1) (fg js ρ2), ct := fun ρ2 => I (m + 1) (fg js ρ2), bk := fun ρ2 => D.nx (fg js ρ2) }) (hd : ∀ ρ', I ds.length ρ' → D.nx ρ') : SD K (tFor (iList K tl) (gName i) tb) ρ D := fun HE HE1 H H1 σ E ss n b c r =>
  h H σ H1 ss.er ss.ex _ fun x H0 H2 g2 rx => by
    obtain ⟨p, ws, rfl, hp, rs⟩ : ∃ p ws, x = .ref p ∧ SqL K H0 p ws ∧ Rps K H0 ws ds := by
      rcases ha with rfl | rfl
      · cases rx with
        | lst h r => exact ⟨_, _, rfl, SqL.of h, r⟩
      · cases rx with
        | rd h r => exact ⟨_, _, rfl, h, r⟩
    refine ⟨p, rfl, ⟨ws, ex_l g2.inn hp⟩, for_list (Lw K HE HE1 H0 I) ⟨_, H0, Ex.refl _, h0, (ss.step g2).fg js⟩ (fun m σ' H' _ ⟨ρ', H3, e, _, s3⟩ => ex_l (e.trans s3.ex) hp) (fun m x σ' H' hx ⟨ρ', H3, e, hI, s3⟩ => ?_) (fun σ' H' ⟨ρ', H3, e, hI, s3⟩ => n ρ' H3 H' σ' (hd ρ' (by rw [← rs.length]; exact hI)) (g2.kn.trans e) s3)⟩
    obtain ⟨d, hd', rd⟩ := rs.getV hx
    obtain ⟨hf, sd⟩ := hs m d ρ' hd' hI
    have s4 := s3.setSh (i := i) hf (Gr.refl s3.ex) (rd.mono e)
    exact sd HE HE1 H3 H' _ _ s4 (fun ρ3 H4 H14 σ3 q e4 s5 => ⟨_, H4, e.trans e4, q, s5.fg js⟩) (fun ρ3 H4 H14 σ3 q e4 s5 => n _ H4 H14 σ3 q ((g2.kn.trans e).trans e4) (s5.fg js)) (fun ρ3 H4 H14 σ3 q e4 s5 => ⟨_, H4, e.trans e4, q, s5.fg js⟩) r
theorem sd_forTn {tl : TE} (js : List Nat) (h : EvD K tl (shE ρ) (.tup ds)) (I : Nat → List Sl → Prop) (h0 : I 0 (fg js ρ))
    (hs : ∀ m d ρ', ds[m]? = some d → I m ρ' → free_ ρ' i = true ∧ SD K tb (ρ'.set i (.sh d)) { D with nx := fun ρ2 => I (m + 1) (fg js ρ2), ct := fun ρ2 => I (m + 1) (fg js ρ2), bk := fun ρ2 => D.nx (fg js ρ2) }) (hd : ∀ ρ', I ds.length ρ' → D.nx ρ') : SD K (tFor (iTup K tl) (gName i) tb) ρ D := fun HE HE1 H H1 σ E ss n b c r =>
  h H σ H1 ss.er ss.ex _ fun x H0 H2 g2 rx => by
    cases rx with
    | @tup p ws _ hp rs =>
    refine ⟨p, rfl, ⟨ws, ex_t g2.inn hp⟩, for_tup (Lw K HE HE1 H0 I) ⟨_, H0, Ex.refl _, h0, (ss.step g2).fg js⟩ (fun m σ' H' _ ⟨ρ', H3, e, _, s3⟩ => ex_t (e.trans s3.ex) hp) (fun m x σ' H' hx ⟨ρ', H3, e, hI, s3⟩ => ?_) (fun σ' H' ⟨ρ', H3, e, hI, s3⟩ => n ρ' H3 H' σ' (hd ρ' (by rw [← rs.length]; exact hI)) (g2.kn.trans e) s3)⟩
    obtain ⟨d, hd', rd⟩ := rs.getV hx
    obtain ⟨hf, sd⟩ := hs m d ρ' hd' hI
    have s4 := s3.setSh (i := i) hf (Gr.refl s3.ex) (rd.mono e)
    exact sd HE HE1 H3 H' _ _ s4 (fun ρ3 H4 H14 σ3 q e4 s5 => ⟨_, H4, e.trans e4, q, s5.fg js⟩) (fun ρ3 H4 H14 σ3 q e4 s5 => n _ H4 H14 σ3 q ((g2.kn.trans e).trans e4) (s5.fg js)) (fun ρ3 H4 H14 σ3 q e4 s5 => ⟨_, H4, e.trans e4, q, s5.fg js⟩) r
theorem sd_forRn {ta : TA} {z : Int} (js : List Nat) (h : EvA K ta (viewE ρ) [.int z]) (hz : -(2 ^ 62) ≤ z ∧ z < 2 ^ 62) (I : Nat → List Sl → Prop) (h0 : I 0 (fg js ρ))
    (hs : ∀ (m : Nat) ρ', (m : Int) < z → I m ρ' → free_ ρ' i = true ∧ SD K tb (ρ'.set i (.sh (.int (m : Int)))) { D with nx := fun ρ2 => I (m + 1) (fg js ρ2), ct := fun ρ2 => I (m + 1) (fg js ρ2), bk := fun ρ2 => D.nx (fg js ρ2) }) (hd : ∀ ρ', I z.toNat ρ' → D.nx ρ') : SD K (tFor (iRng1 ta) (gName i) tb) ρ D := fun HE HE1 H H1 σ E ss n b c r => by
  obtain ⟨Hv, e1, e2, er⟩ := ss.view
  refine h Hv σ H1 er e2 _ fun xs Hn H2 g2 rx => ?_
  cases rx with
  | cons rx t =>
    cases t
    cases rx
    have s2 := ss.grow g2.all
    refine ⟨z, rfl, hz.1, hz.2, for_range (lo := 0) (n := z.toNat) (Lw K HE HE1 H I) ⟨_, H, Ex.refl _, h0, s2.fg js⟩ (fun m σ' H' hm ⟨ρ', H3, e, hI, s3⟩ => ?_) (fun σ' H' ⟨ρ', H3, e, hI, s3⟩ => n ρ' H3 H' σ' (hd ρ' hI) e s3)⟩
    have e0 : (0 : Int) + (m : Int) = (m : Int) := Int.zero_add _
    rw [e0]
    obtain ⟨hf, sd⟩ := hs m ρ' (by omega) hI
    have s4 := s3.setSh (i := i) hf (Gr.refl s3.ex) (.int (m : Int))
    exact sd HE HE1 H3 H' _ _ s4 (fun ρ3 H4 H14 σ3 q e4 s5 => ⟨_, H4, e.trans e4, q, s5.fg js⟩) (fun ρ3 H4 H14 σ3 q e4 s5 => n _ H4 H14 σ3 q (e.trans e4) (s5.fg js)) (fun ρ3 H4 H14 σ3 q e4 s5 => ⟨_, H4, e.trans e4, q, s5.fg js⟩) r

/-! ### a def keeps its promise -/
theorem ss_start {HE HE1 : Hp} {N : List Str} {vs : List V} (e : Ex HE HE1) (rs : Rps K HE vs ds) (hl : ds.length ≤ N.length) : SS K HE HE1 HE HE1 (L2.start N vs) (ds.map Sl.sh ++ List.replicate (N.length - ds.length) Sl.no) := by
  have l1 := rs.length
  refine ⟨Gr.refl e, by unfold L2.start; simp [l1], fun _ => [], fun i s q => ?_, ⟨fun i c hc => (by cases hc), fun i => List.nodup_nil, fun i j _ c hc => (by cases hc)⟩⟩
  by_cases hi : i < ds.length
  · rw [List.getElem?_append_left (by simpa using hi), List.getElem?_map, List.getElem?_eq_getElem hi] at q
    cases q
    obtain ⟨v, h1, h2⟩ := rs.get (List.getElem?_eq_getElem hi)
    refine ⟨⟨v, ?_, h2⟩, rfl⟩
    unfold L2.start
    rw [List.getElem?_append_left (by simpa [l1] using hi), List.getElem?_map, h1]
    rfl
  · rw [List.getElem?_append_right (by simpa using hi), List.getElem?_replicate] at q
    split at q
    · cases q; rfl
    · cases q
/-- from the slots' story to the reading at the entry -/
theorem sd_fn {α : Type} {enc : α → List DL.D} {pre : α → Prop} {out : α → Ret} {N : List Str} {vs : List V} {H1 : Hp} {Q : VK} {E : XK} (hsp : spT K enc pre out vs H1 Q E) (hl : ∀ x, (enc x).length ≤ N.length)
    (h : ∀ x, pre x → SD K t ((enc x).map Sl.sh ++ List.replicate (N.length - (enc x).length) Sl.no) { nx := fun _ => out x = .sh .non, rt := fun r => r = out x }) : t { nx := fun _ H' => Q .non H', rt := Q } (L2.start N vs) H1 := by
  obtain ⟨H, x, e, rs, hp, q⟩ := hsp
  refine h x hp H H1 H H1 _ _ (ss_start e rs (hl x)) (fun ρ' H' H1' σ' z _ ss => ?_) (fun _ _ _ _ z => z.elim) (fun _ _ _ _ z => z.elim) (fun r v H2 z o => ?_)
  · refine q _ _ ?_
    rw [show out x = .sh .non from z]
    exact ⟨H', ss.gr, .non⟩
  · rw [z] at o
    exact q v H2 o
theorem spT_len {α : Type} {enc : α → List DL.D} {pre : α → Prop} {out : α → Ret} {n : Nat} {vs : List V} {H1 : Hp} {Q : VK} {E : XK} (hl : ∀ x, (enc x).length = n) (h : spT K enc pre out vs H1 Q E) : vs.length = n := by
  obtain ⟨H, x, _, rs, _⟩ := h
  rw [rs.length, hl x]
end
end DL

set_option Elab.async false
set_option linter.all false
set_option maxRecDepth 100000
set_option maxHeartbeats 4000000
/-! DL4: own defs called; further rules for built-in functions. -/
namespace DL
open PySem PySem.Spec PyProof.Rows L2

/-- a def of the module that keeps a promise; dvs: the defaults that fill up -/
structure CalD (P : Program) (w : World) (K : PySem.W.Frag) (mg : Str → Option Value) (base : Heap) (k : Nat) (x : Str) (ps : List Str) (sp : Sp) (dvs : List V) : Prop where
  ex : ∃ (f : Addr) (fd : FuncData) (ds : List Value), mg x = some (.ref f) ∧ PySem.W.keepIn K (.ref f) = true ∧ FnOk P w K mg base CX0 k f fd ps sp ∧ Binds K fd ps ds ∧ Vals dvs ds ∧ ∃ oc od osl, K.lookup f = some ⟨oc, od, .func fd, osl⟩
abbrev Cal (P : Program) (w : World) (K : PySem.W.Frag) (mg : Str → Option Value) (base : Heap) (k : Nat) (x : Str) (ps : List Str) (sp : Sp) : Prop := CalD P w K mg base k x ps sp []
section
variable {X : Cx} {k : Nat} {x : Str} {ps : List Str} {sp : Sp} {dvs : List V} {p pos : Pos} {e : Expr} {es : List Expr} {t : TA}
theorem pe_cal (C : CalD X.prog X.w X.K X.mg X.base k x ps sp dvs) (hr : Room k X.A) (ha : PA X (e :: es) t) (hg : Gl X x := by rfl) (hdb : (x == ("__debug__" : Str)) = false := by decide)
    (he : starEach (e :: es) X.env = (false, eval e X.env) :: starEach es X.env := by rfl) (hpl : (backTo pos (starEach es X.env)).any (·.1) = false := by rfl) : PE X (.Call (.Name x p) (e :: es) [] pos) (tCall sp dvs E0 t) := by
  obtain ⟨f, fd, ds, hm, hk, F, b, hd, _⟩ := C.ex
  exact pe_call F hr hg hm hk b hd pass0 ha hdb he hpl
end
section
variable {P : Program} {w : World} {K : PySem.W.Frag} {mg : Str → Option Value} {base : Heap} {x qual : Str} {params : Arguments} {body : List Stmt} {scope : Scope} {f : Addr} {fd : FuncData} {N ps : List Str} {k : Nat} {sp : Sp}
theorem ok_mk {dvs : List V} {kws : List (Str × V)} (F : FunD K x qual params body scope dvs kws f fd) (S : FnScope N ps scope) (len : ∀ vs H Q E, sp vs H Q E → vs.length = ps.length)
    (hb : ∀ (cdv : Value) (A : Around) (outer : List PySem.Env) (s : Shared) (H : Hp) (vs : List V) (Q : VK) (E : XK), Room k (A.deeper (envOfC qual scope s.heap.objs.size f cdv)) → sp vs H Q E →
      ∃ t, PSs (cxOf CX0 P w K mg base N qual scope f cdv A outer s H E).nox body t ∧ t { nx := fun _ H' => Q .non H', rt := Q } (L2.start N vs) H) : FnOk P w K mg base CX0 (k + 1) f fd ps sp := by
  refine F.ok S len fun cdv A outer s H vs Q E hr hsp => ?_
  obtain ⟨t, h, q⟩ := hb cdv A outer s H vs Q E hr hsp
  exact ⟨t, h.nox, q⟩
theorem fd_at {dvs : List V} {kws : List (Str × V)} (F : FunD K x qual params body scope dvs kws f fd) : ∃ oc od osl, K.lookup f = some ⟨oc, od, .func fd, osl⟩ := by
  obtain ⟨oc, od, dV, kV, doc, pm, an, cdv, ct, osl, _, lk, _⟩ := F.ex
  exact ⟨oc, od, osl, lk⟩
/-- a def without defaults -/
theorem cal_mk (F : ∃ fd, FunD K x qual params body scope [] [] f fd) (hm : mg x = some (.ref f)) (S : FnScope N ps scope) (len : ∀ vs H Q E, sp vs H Q E → vs.length = ps.length)
    (hbi : ∀ (kV doc pm : Value) (an : Option Addr) (cdv ct : Value) (us : List Value), us.length = ps.length → bindArgs (PySem.W.fnOf x qual params body scope .none kV doc pm an cdv ct) ⟨us, []⟩ = pure (ps.zip us))
    (hb : ∀ (cdv : Value) (A : Around) (outer : List PySem.Env) (s : Shared) (H : Hp) (vs : List V) (Q : VK) (E : XK), Room k (A.deeper (envOfC qual scope s.heap.objs.size f cdv)) → sp vs H Q E →
      ∃ t, PSs (cxOf CX0 P w K mg base N qual scope f cdv A outer s H E).nox body t ∧ t { nx := fun _ H' => Q .non H', rt := Q } (L2.start N vs) H) : Cal P w K mg base (k + 1) x ps sp := by
  obtain ⟨fd, F⟩ := F
  exact ⟨⟨f, fd, [], hm, F.kp, ok_mk F S len hb, F.bindsN hbi, .nil, fd_at F⟩⟩
/-- a def with defaults, all parameters written -/
theorem cal_mkD {dvs : List V} (F : ∃ fd, FunD K x qual params body scope dvs [] f fd) (hm : mg x = some (.ref f)) (S : FnScope N ps scope) (len : ∀ vs H Q E, sp vs H Q E → vs.length = ps.length) (hd : dvs ≠ [])
    (hbi : ∀ (T : Addr) (kV doc pm : Value) (an : Option Addr) (cdv ct : Value) (us its : List Value), us.length = ps.length → its.length = dvs.length →
      ∃ k, bindArgs (PySem.W.fnOf x qual params body scope (.ref T) kV doc pm an cdv ct) ⟨us, []⟩ = seqItems? (.ref T) >>= k ∧ k (some its.toArray) = pure (ps.zip (us ++ its.drop dvs.length)))
    (hb : ∀ (cdv : Value) (A : Around) (outer : List PySem.Env) (s : Shared) (H : Hp) (vs : List V) (Q : VK) (E : XK), Room k (A.deeper (envOfC qual scope s.heap.objs.size f cdv)) → sp vs H Q E →
      ∃ t, PSs (cxOf CX0 P w K mg base N qual scope f cdv A outer s H E).nox body t ∧ t { nx := fun _ H' => Q .non H', rt := Q } (L2.start N vs) H) : Cal P w K mg base (k + 1) x ps sp := by
  obtain ⟨fd, F⟩ := F
  obtain ⟨ds, r, b⟩ := F.binds1 (ps := ps) ps.length dvs.length hd (by omega) hbi
  rw [List.drop_length] at r
  exact ⟨⟨f, fd, ds, hm, F.kp, ok_mk F S len hb, b, r, fd_at F⟩⟩
end

/-! ### keywords alone -/
def tCallK0 (sp : Sp) (m : Nat) (gV : List V → List V) (E : XK) (tk : TA) : TE := fun σ H Q => tk σ H fun zs H1 => zs.length = m ∧ sp (gV zs) H1 Q E
/-- how a call with keywords alone binds -/
structure CalK (P : Program) (w : World) (K : PySem.W.Frag) (mg : Str → Option Value) (base : Heap) (k : Nat) (x : Str) (ps ks : List Str) (sp : Sp) (gV : List V → List V) : Prop where
  ex : ∃ (f : Addr) (fd : FuncData) (g : List Value → List Value → List Value) (gv : List V → List V → List V), mg x = some (.ref f) ∧ PySem.W.keepIn K (.ref f) = true ∧ FnOk P w K mg base CX0 k f fd ps sp ∧ KBn K fd ps 0 ks g gv ∧ ∀ zs, gv [] zs = gV zs
/-- keywords bind in a def without defaults -/
theorem kb0 {K : PySem.W.Frag} {x qual : Str} {params : Arguments} {body : List Stmt} {scope : Scope} {f : Addr} {fd : FuncData} {ps : List Str} (F : FunD K x qual params body scope [] [] f fd) (n : Nat) (ks : List Str) (g : {α : Type} → List α → List α → List α)
    (hrel : ∀ {vs zs : List V} {us ws : List Value}, Vals vs us → Vals zs ws → Vals (g vs zs) (g us ws))
    (h : ∀ (kV doc pm : Value) (an : Option Addr) (cdv ct : Value) (us ws : List Value), us.length = n → ws.length = ks.length → bindArgs (PySem.W.fnOf x qual params body scope .none kV doc pm an cdv ct) ⟨us, ks.zip ws⟩ = pure (ps.zip (g us ws))) :
    KBn K fd ps n ks (fun us ws => g us ws) (fun vs zs => g vs zs) := by
  obtain ⟨oc, od, dV, kV, doc, pm, an, cdv, ct, osl, rfl, lk, hcd, hD, hK⟩ := F.ex
  rcases hD with ⟨_, rfl⟩ | ⟨e, _⟩
  · exact ⟨fun s us ws X l1 l2 => .of_eq (h kV doc pm an cdv ct us ws l1 l2), hrel⟩
  · exact absurd rfl e
theorem calK_of {P : Program} {w : World} {K : PySem.W.Frag} {mg : Str → Option Value} {base : Heap} {k : Nat} {x qual : Str} {params : Arguments} {body : List Stmt} {scope : Scope} {f : Addr} {ps ks : List Str} {sp : Sp} {gV : List V → List V}
    (C : Cal P w K mg base k x ps sp) (F : ∃ fd, FunD K x qual params body scope [] [] f fd) (hm : mg x = some (.ref f)) (g : {α : Type} → List α → List α → List α)
    (hrel : ∀ {vs zs : List V} {us ws : List Value}, Vals vs us → Vals zs ws → Vals (g vs zs) (g us ws))
    (h : ∀ (kV doc pm : Value) (an : Option Addr) (cdv ct : Value) (us ws : List Value), us.length = 0 → ws.length = ks.length → bindArgs (PySem.W.fnOf x qual params body scope .none kV doc pm an cdv ct) ⟨us, ks.zip ws⟩ = pure (ps.zip (g us ws)))
    (hg : ∀ zs : List V, g [] zs = gV zs) : CalK P w K mg base k x ps ks sp gV := by
  obtain ⟨fd, F⟩ := F
  obtain ⟨f', fd', ds, hm', hk, Fo, b, hd, oc, od, osl, lk⟩ := C.ex
  rw [hm] at hm'
  cases hm'
  obtain ⟨oc2, od2, osl2, lk2⟩ := fd_at F
  rw [lk] at lk2
  cases lk2
  exact ⟨⟨f, fd, _, _, hm, hk, Fo, kb0 F 0 ks g hrel h, hg⟩⟩
section
variable {X : Cx} {k : Nat} {x : Str} {ps ks : List Str} {sp : Sp} {p pos : Pos} {kws : List Keyword} {tk : TA} {gV : List V → List V}
theorem pe_calK (C : CalK X.prog X.w X.K X.mg X.base k x ps ks sp gV) (hr : Room k X.A) (hkw : PK X kws tk) (hg : Gl X x := by rfl) (hall : (backToKw pos (keywordEach kws X.env)).all (·.1.isSome) = true := by rfl) (hks : (backToKw pos (keywordEach kws X.env)).filterMap (·.1) = ks := by rfl)
    (hdb : (x == ("__debug__" : Str)) = false := by decide) (hpl : ((backTo pos (starEach [] X.env)).any (·.1) || (backToKw pos (keywordEach kws X.env)).any (·.1.isNone)) = false := by rfl) :
    PE X (.Call (.Name x p) [] kws pos) (tCallK0 sp ks.length gV E0 tk) := by
  obtain ⟨f, fd, g, gv, hm, hk, F, b, eg⟩ := C.ex
  refine ⟨fun pins s σ H Q I h => ?_⟩
  refine wpAny_Call_Name_kw (ld_glob I hg hm ?_ hdb)
  refine PySem.W.callWith_KW0 (h₀ := X.base) I.ok.mod.kin hk hall ?_ hpl
  refine thn (hkw.run pos pins s σ H _ I h) fun ws s2 ⟨zs, H2, I2, rz, l2, q2⟩ => ⟨I2.kIn, ?_⟩
  rw [hks]
  exact run_fnN (us := []) (vs := []) F hr b pass0 I2 .nil rz rfl l2 (by rw [eg]; exact q2)
end
/-! ### own classes -/
structure Mak (P : Program) (w : World) (K : PySem.W.Frag) (mg : Str → Option Value) (base : Heap) (k : Nat) (x : Str) (C : Addr) (fs : List Str) : Prop where
  ex : ∃ (f : Addr) (fd : FuncData) (ps : List Str), mg x = some (.ref C) ∧ Mk K C f ∧ FnOk P w K mg base CX0 k f fd ps (spInit C fs) ∧ Binds K fd ps []
structure MakK (P : Program) (w : World) (K : PySem.W.Frag) (mg : Str → Option Value) (base : Heap) (k : Nat) (x : Str) (C : Addr) (fs ks : List Str) (gV : List V → List V → List V) : Prop where
  ex : ∃ (f : Addr) (fd : FuncData) (ps : List Str) (g : List Value → List Value → List Value), mg x = some (.ref C) ∧ Mk K C f ∧ FnOk P w K mg base CX0 k f fd ps (spInit C fs) ∧ KBn K fd ps 1 ks g gV
section
variable {X : Cx} {k : Nat} {x : Str} {C : Addr} {fs : List Str} {p pos : Pos} {e : Expr} {es : List Expr} {t : TA}
theorem pe_mk (M : Mak X.prog X.w X.K X.mg X.base k x C fs) (hr : Room (k + 1) X.A) (ha : PA X (e :: es) t) (hg : Gl X x := by rfl) (hdb : (x == ("__debug__" : Str)) = false := by decide)
    (he : starEach (e :: es) X.env = (false, eval e X.env) :: starEach es X.env := by rfl) (hpl : (backTo pos (starEach es X.env)).any (·.1) = false := by rfl) : PE X (.Call (.Name x p) (e :: es) [] pos) (tMake C (spInit C fs) [] E0 t) := by
  obtain ⟨f, fd, ps, hm, M, F, b⟩ := M.ex
  exact pe_make M F hr hg hm b .nil pass0 ha hdb he hpl
end
/-- __init__ of a record of two fields -/
theorem init2 {K : PySem.W.Frag} {C : Addr} {f1 f2 : Str} {N : List Str} {vs : List V} {H1 : Hp} {Q : VK} {E : XK} (h : spInit C [f1, f2] vs H1 Q E) (hN : N.length = 3) (cl : Cls K C) (n1 : NoAttr K C f1) (n2 : NoAttr K C f2) (hne : ¬ f1 = f2) :
    (tSeq (sFld K (tVar 0) (tVar 1) f1) (sFld K (tVar 0) (tVar 2) f2)) { nx := fun _ H' => Q .non H', rt := Q } (L2.start N vs) H1 := by
  obtain ⟨x, dx, ws, rfl, hl, hx, q⟩ := h
  match ws, hl with
  | [v1, v2], _ =>
    refine ⟨v1, rfl, .ref x, rfl, x, C, dx, [], rfl, hx, cl, n1, by decide, ?_⟩
    refine ⟨v2, rfl, .ref x, rfl, x, C, dx, [(f1, v1)], rfl, upd_same, cl, n2, by show 1 < 1000; decide, ?_⟩
    rw [upd_upd]
    have e : putF f2 v2 [(f1, v1)] = [(f1, v1), (f2, v2)] := by
      show (if f1 = f2 then _ else _) = _
      rw [if_neg hne]
      rfl
    rw [e]
    exact q
/-- a new instance by keywords alone -/
def tMakeK0 (C : Addr) (m : Nat) (sp : Sp) (gV : List V → List V → List V) (E : XK) (tk : TA) : TE := fun σ H Q => tk σ H fun zs H2 => zs.length = m ∧
  ∀ x dx, H2 x = none → H2 dx = none → dx ≠ x → sp (gV [.ref x] zs) (upd (upd H2 dx (.own x)) x (.ins C dx [])) (fun v H3 => v = .non ∧ Q (.ref x) H3) E
theorem pe_makeK0 {X : Cx} {k : Nat} {x : Str} {ps ks : List Str} {sp : Sp} {p pos : Pos} {kws : List Keyword} {tk : TA} {C f : Addr} {fd : FuncData} {g : List Value → List Value → List Value} {gV : List V → List V → List V} (M : Mk X.K C f) (F : FnOk X.prog X.w X.K X.mg X.base CX0 k f fd ps sp) (hr : Room (k + 1) X.A) (hm : X.mg x = some (.ref C)) (hb : KBn X.K fd ps 1 ks g gV)
    (hkw : PK X kws tk) (hg : Gl X x := by rfl) (hall : (backToKw pos (keywordEach kws X.env)).all (·.1.isSome) = true := by rfl) (hks : (backToKw pos (keywordEach kws X.env)).filterMap (·.1) = ks := by rfl)
    (hdb : (x == ("__debug__" : Str)) = false := by decide) (hpl : ((backTo pos (starEach [] X.env)).any (·.1) || (backToKw pos (keywordEach kws X.env)).any (·.1.isNone)) = false := by rfl) :
    PE X (.Call (.Name x p) [] kws pos) (tMakeK0 C ks.length sp gV E0 tk) := by
  refine ⟨fun pins s σ H Q I h => ?_⟩
  refine wpAny_Call_Name_kw (ld_glob I hg hm ?_ hdb)
  refine PySem.W.callWith_KW0 (h₀ := X.base) I.ok.mod.kin M.kp hall ?_ hpl
  refine thn (hkw.run pos pins s σ H _ I h) fun ws s2 ⟨zs, H2, I2, rz, l2, q2⟩ => ⟨I2.kIn, ?_⟩
  rw [hks]
  exact run_makeN (n := 0) (us := []) (vs := []) M F hr hb pass0 I2 .nil rz rfl l2 q2
section
variable {X : Cx} {k : Nat} {x : Str} {C : Addr} {fs ks : List Str} {p pos : Pos} {kws : List Keyword} {tk : TA} {gV : List V → List V → List V}
theorem pe_mkK (M : MakK X.prog X.w X.K X.mg X.base k x C fs ks gV) (hr : Room (k + 1) X.A) (hkw : PK X kws tk) (hg : Gl X x := by rfl) (hall : (backToKw pos (keywordEach kws X.env)).all (·.1.isSome) = true := by rfl) (hks : (backToKw pos (keywordEach kws X.env)).filterMap (·.1) = ks := by rfl)
    (hdb : (x == ("__debug__" : Str)) = false := by decide) (hpl : ((backTo pos (starEach [] X.env)).any (·.1) || (backToKw pos (keywordEach kws X.env)).any (·.1.isNone)) = false := by rfl) :
    PE X (.Call (.Name x p) [] kws pos) (tMakeK0 C ks.length (spInit C fs) gV E0 tk) := by
  obtain ⟨f, fd, ps, g, hm, M, F, b⟩ := M.ex
  exact pe_makeK0 M F hr hm b hkw hg hall hks hdb hpl
end
section
variable {K : PySem.W.Frag} {η : Env} {d : D} {as bs ds : List D}
theorem ed_callK0 {α : Type} {enc : α → List D} {pre : α → Prop} {out : α → Ret} {E : XK} {tk : TA} {m : Nat} {gV : List V → List V} (x : α) (hb : EvA K tk η bs) (hm : bs.length = m) (hg : ∀ H zs, Rps K H zs bs → Rps K H (gV zs) (enc x)) (hp : pre x) (ho : out x = .sh d) :
    EvD K (tCallK0 (spT K enc pre out) m gV E tk) η d := fun H σ H1 er e Q q =>
  hb H σ H1 er e _ fun zs Hk H3 g2 rz => ⟨rz.length.trans hm, Hk, x, g2.inn, hg Hk zs rz, hp, fun v H4 o => by
    rw [ho] at o
    obtain ⟨Hm, g3, r⟩ := o
    exact q v Hm H4 (g2.trans g3) r⟩
theorem ed_makeK0 {C : Addr} {fs : List Str} {E : XK} {tk : TA} {gV : List V → List V → List V} {m : Nat} (hb : EvA K tk η bs) (hm : bs.length = m) (hg : ∀ (y : V) H zs, Rps K H zs bs → ∃ ws, gV [y] zs = y :: ws ∧ Rps K H ws as) (hl : as.length = fs.length) :
    EvD K (tMakeK0 C m (spInit C fs) gV E tk) η (.ins C fs as) := fun H σ H1 er e Q q =>
  hb H σ H1 er e _ fun zs Hn H2 g rz => ⟨rz.length.trans hm, fun x dx hx hdx hne => by
    obtain ⟨ws, eg, rs⟩ := hg (.ref x) Hn zs rz
    rw [eg]
    refine ⟨x, dx, ws, rfl, rs.length.trans hl, upd_same, rfl, ?_⟩
    rw [upd_upd]
    have g1 := g.made (o := .own x) hdx
    have hx1 : (upd H2 dx (.own x)) x = none := by rw [upd_ne (Ne.symm hne)]; exact hx
    have g2 := g1.made (o := .ins C dx (fs.zip ws)) hx1
    exact q (.ref x) _ _ g2 (rp_ins upd_same (rs.length.trans hl) (rs.mono (((Ex.refl Hn).mut (g.inn.back hdx)).mut (g.inn.back hx))))⟩
end

/-! ### further built-in functions -/
section
variable {X : Cx}
theorem call_min3 (hc : X.calm = true) : CallR X (.builtin "min") (fun xs H Q => ∃ i j k, xs = [.int i, .int j, .int k] ∧ Q (.int (min (min i j) k)) H) := by
  intro pins s σ H xs us Q I r h
  obtain ⟨i, j, k, rfl, q⟩ := h
  obtain ⟨t1, t2, t3, rfl⟩ : ∃ t1 t2 t3, us = [.int i t1, .int j t2, .int k t3] := by
    cases r with
    | cons r1 r =>
      cases r with
      | cons r2 r =>
        cases r with
        | cons r3 r =>
          cases r
          obtain ⟨t1, rfl⟩ := r1
          obtain ⟨t2, rfl⟩ := r2
          obtain ⟨t3, rfl⟩ := r3
          exact ⟨t1, t2, t3, rfl⟩
  refine min_three_ints (I.ok.hd hc) fun h' tk k' => ⟨_, H, I.kept k', ?_, q⟩
  by_cases hj : j < i
  · rw [if_pos hj]
    by_cases hk : k < j
    · rw [if_pos hk]; exact ⟨_, by congr 1; omega⟩
    · rw [if_neg hk]; exact ⟨_, by congr 1; omega⟩
  · rw [if_neg hj]
    by_cases hk : k < i
    · rw [if_pos hk]; exact ⟨_, by congr 1; omega⟩
    · rw [if_neg hk]; exact ⟨_, by congr 1; omega⟩
/-- ** with a great base -/
def CPowW (i j : Int) : Prop := 0 ≤ j ∧ (Builtin.Int.intBits i : Int) * j ≤ 2 ^ 27
theorem op_powW : OpR X (binaryOp .Pow) (rI CPowW fun i j => .int (i ^ j.toNat)) := opI fun _ _ _ _ _ _ _ hc q => pow_int hc.1 hc.2 q
/-- math.lcm of two numbers below 2 ^ 13000 -/
def rLcm : List V → Hp → VK → Prop := fun vs H Q => ∃ a b : Int, vs = [.int a, .int b] ∧ a.natAbs < 2 ^ 13000 ∧ b.natAbs < 2 ^ 13000 ∧ Q (.int ((Nat.lcm a.natAbs b.natAbs : Nat) : Int)) H
theorem cr_lcm : CallR X (.builtin "math.lcm") rLcm := by
  intro pins s σ H vs us Q I r h
  obtain ⟨a, b, rfl, ha, hb, q⟩ := h
  obtain ⟨t, u, rfl⟩ := Vals.int2 r
  have lg : ∀ n : Nat, n < 2 ^ 13000 → n.log2 < 13000 := fun n hn => by
    by_cases h0 : n = 0
    · subst h0; rw [Nat.log2_zero]; decide
    · exact (Nat.log2_lt h0).mpr hn
  have e1 : Nat.lcm 1 a.natAbs = a.natAbs := Nat.lcm_one_left _
  have h1 : ¬(max 1 a.natAbs).log2 / 30 + 1 > 450 := by
    have := lg (max 1 a.natAbs) (by have : (1 : Nat) < 2 ^ 13000 := Nat.one_lt_two_pow (by decide); omega)
    omega
  have h2 : ¬(max a.natAbs b.natAbs).log2 / 30 + 1 > 450 := by
    have := lg (max a.natAbs b.natAbs) (by omega)
    omega
  have hsz : (((((Nat.lcm 1 a.natAbs).lcm b.natAbs : Nat) : Int))).natAbs.log2 < bitsLine := by
    rw [e1, Int.natAbs_natCast, PySem.bitsLine_eq]
    have hle : Nat.lcm a.natAbs b.natAbs ≤ a.natAbs * b.natAbs := by
      unfold Nat.lcm
      exact Nat.div_le_self _ _
    have hlt : Nat.lcm a.natAbs b.natAbs < 2 ^ 26000 := by
      refine Nat.lt_of_le_of_lt hle ?_
      rw [show (26000 : Nat) = 13000 + 13000 from rfl, Nat.pow_add]
      exact Nat.mul_lt_mul'' ha hb
    by_cases h0 : Nat.lcm a.natAbs b.natAbs = 0
    · rw [h0, Nat.log2_zero]; decide
    · have := (Nat.log2_lt h0).mpr hlt
      omega
  have g := PySem.W.mg_run_lcm a t b u h1 h2 hsz
  rw [e1] at g
  exact PySem.call_function_meets PySem.W.MGF.kind_lcm PySem.W.MGF.plain_lcm PySem.W.MGF.entry_lcm (PySem.W.MGF.args_lcm _ _) g.meets ⟨.int _, H, I.tok _, ⟨_, rfl⟩, q⟩
end
section
variable {K : PySem.W.Frag} {i j k : Int}
theorem cd_min3 : CbD K (fun xs H Q => ∃ i j k, xs = [.int i, .int j, .int k] ∧ Q (.int (min (min i j) k)) H) [.int i, .int j, .int k] (.int (min (min i j) k)) := fun xs H H1 rx e Q q => by
  cases rx with
  | cons r1 t =>
    cases t with
    | cons r2 t =>
      cases t with
      | cons r3 t =>
        cases t
        cases r1; cases r2; cases r3
        exact ⟨i, j, k, rfl, q _ H H1 (Gr.refl e) (.int _)⟩
theorem cd_lcm (ha : i.natAbs < 2 ^ 13000) (hb : j.natAbs < 2 ^ 13000) : CbD K rLcm [.int i, .int j] (.int ((Nat.lcm i.natAbs j.natAbs : Nat) : Int)) := fun xs H H1 rx e Q q => by
  cases rx with
  | cons r1 t =>
    cases t with
    | cons r2 t =>
      cases t
      cases r1; cases r2
      exact ⟨i, j, rfl, ha, hb, q _ H H1 (Gr.refl e) (.int _)⟩
end
section
variable {K : PySem.W.Frag} {η : Env} {t u : TT} {ta tb : TE} {y : Bool}
theorem et_orF (h1 : EvT K t η false) (h2 : EvT K u η y) : EvT K (tOr t u) η y := EvT.is (et_or h1 fun _ => h2) (Bool.false_or y)
theorem et_orT (h1 : EvT K t η true) : EvT K (tOr t u) η true := EvT.is (et_or (y := true) h1 fun z => by cases z) rfl
theorem et_andT (h1 : EvT K t η true) (h2 : EvT K u η y) : EvT K (tAnd t u) η y := EvT.is (et_and h1 fun _ => h2) (Bool.true_and y)
theorem et_andF (h1 : EvT K t η false) : EvT K (tAnd t u) η false := EvT.is (et_and (y := true) h1 fun z => by cases z) rfl
theorem ed_orF (h1 : EvD K ta η (.bl false)) (h2 : EvD K tb η (.bl y)) : EvD K (tOrV ta tb) η (.bl y) := EvD.is (ed_orV h1 fun _ => h2) (by rw [Bool.false_or])
theorem ed_andT (h1 : EvD K ta η (.bl true)) (h2 : EvD K tb η (.bl y)) : EvD K (tAndV ta tb) η (.bl y) := EvD.is (ed_andV h1 fun _ => h2) (by rw [Bool.true_and])
end
/-! isinstance of built-in kinds -/
theorem kb_NoneType_int : kitB "NoneType" "int" = some false := by decide +kernel
theorem kb_NoneType_bool : kitB "NoneType" "bool" = some false := by decide +kernel
theorem kb_NoneType_tuple : kitB "NoneType" "tuple" = some false := by decide +kernel
theorem kb_NoneType_list : kitB "NoneType" "list" = some false := by decide +kernel
theorem kb_NoneType_str : kitB "NoneType" "str" = some false := by decide +kernel
theorem kb_NoneType_dict : kitB "NoneType" "dict" = some false := by decide +kernel
theorem kb_bool_int : kitB "bool" "int" = some true := by decide +kernel
theorem kb_bool_bool : kitB "bool" "bool" = some true := by decide +kernel
theorem kb_bool_tuple : kitB "bool" "tuple" = some false := by decide +kernel
theorem kb_bool_list : kitB "bool" "list" = some false := by decide +kernel
theorem kb_bool_str : kitB "bool" "str" = some false := by decide +kernel
theorem kb_bool_dict : kitB "bool" "dict" = some false := by decide +kernel
theorem kb_int_int : kitB "int" "int" = some true := by decide +kernel
theorem kb_int_bool : kitB "int" "bool" = some false := by decide +kernel
theorem kb_int_tuple : kitB "int" "tuple" = some false := by decide +kernel
theorem kb_int_list : kitB "int" "list" = some false := by decide +kernel
theorem kb_int_str : kitB "int" "str" = some false := by decide +kernel
theorem kb_int_dict : kitB "int" "dict" = some false := by decide +kernel
theorem kb_str_int : kitB "str" "int" = some false := by decide +kernel
theorem kb_str_bool : kitB "str" "bool" = some false := by decide +kernel
theorem kb_str_tuple : kitB "str" "tuple" = some false := by decide +kernel
theorem kb_str_list : kitB "str" "list" = some false := by decide +kernel
theorem kb_str_str : kitB "str" "str" = some true := by decide +kernel
theorem kb_str_dict : kitB "str" "dict" = some false := by decide +kernel
theorem kb_list_int : kitB "list" "int" = some false := by decide +kernel
theorem kb_list_bool : kitB "list" "bool" = some false := by decide +kernel
theorem kb_list_tuple : kitB "list" "tuple" = some false := by decide +kernel
theorem kb_list_list : kitB "list" "list" = some true := by decide +kernel
theorem kb_list_str : kitB "list" "str" = some false := by decide +kernel
theorem kb_list_dict : kitB "list" "dict" = some false := by decide +kernel
theorem kb_tuple_int : kitB "tuple" "int" = some false := by decide +kernel
theorem kb_tuple_bool : kitB "tuple" "bool" = some false := by decide +kernel
theorem kb_tuple_tuple : kitB "tuple" "tuple" = some true := by decide +kernel
theorem kb_tuple_list : kitB "tuple" "list" = some false := by decide +kernel
theorem kb_tuple_str : kitB "tuple" "str" = some false := by decide +kernel
theorem kb_tuple_dict : kitB "tuple" "dict" = some false := by decide +kernel
theorem kb_dict_int : kitB "dict" "int" = some false := by decide +kernel
theorem kb_dict_bool : kitB "dict" "bool" = some false := by decide +kernel
theorem kb_dict_tuple : kitB "dict" "tuple" = some false := by decide +kernel
theorem kb_dict_list : kitB "dict" "list" = some false := by decide +kernel
theorem kb_dict_str : kitB "dict" "str" = some false := by decide +kernel
theorem kb_dict_dict : kitB "dict" "dict" = some true := by decide +kernel

/-! the frag written out, for places within comprehensions -/
section
variable {X : Cx} {K : PySem.W.Frag} {tg : Expr} {l e : Expr} {es : List Expr} {tl ta : TE} {f : Str} {pos : Pos} {t : TGs} {k n : Nat}
theorem ix_seqC (h : X.K = K) : IxR X (rIx K) := by subst h; exact ix_seq
theorem sl_listC (h : X.K = K) : L2.SlR X (rSlL K) := by subst h; exact sl_list
theorem pi_listC {l : Expr} (h : X.K = K) (hl : PE X l tl) : PI X tg l (iList K tl) := by subst h; exact pi_list hl
theorem pi_tupC {l : Expr} (h : X.K = K) (hl : PE X l tl) : PI X tg l (iTup K tl) := by subst h; exact pi_tup hl
theorem call_isiC (h : X.K = K) : CallR X (.builtin "isinstance") (rIsi K) := by subst h; exact call_isi
theorem cr_sumC (h : X.K = K) (hc : X.calm = true) : CallR X (.builtin "sum") (rSum K) := by subst h; exact cr_sum hc
theorem op_eqDC (h : X.K = K) (hu : X.A.units + 64 < cLine) : OpR X (compareOp .Eq) (rEqD K) := by subst h; exact op_eqD hu
theorem op_neDC (h : X.K = K) (hu : X.A.units + 64 < cLine) : OpR X (compareOp .NotEq) (rNeD K) := by subst h; exact op_neD hu
theorem call_len_seqC (h : X.K = K) : CallR X (.builtin "len") (fun xs H Q => ∃ p ys, xs = [.ref p] ∧ (SqL K H p ys ∨ SqT K H p ys) ∧ Q (.int ys.length) H) := by subst h; exact call_len_seq
theorem call_list_ofC (h : X.K = K) : CallR X (.type "list") (fun xs H Q => ∃ p ys, xs = [.ref p] ∧ (SqL K H p ys ∨ SqT K H p ys) ∧ ∀ l, H l = none → Q (.ref l) (upd H l (.lst ys))) := by subst h; exact call_list_of
theorem call_tuple_ofC (h : X.K = K) : CallR X (.type "tuple") (fun xs H Q => ∃ p ys, xs = [.ref p] ∧ ((SqL K H p ys ∧ ∀ l, H l = none → Q (.ref l) (upd H l (.tup ys))) ∨ (SqT K H p ys ∧ Q (.ref p) H))) := by subst h; exact call_tuple_of
theorem pe_fldC (h : X.K = K) (he : PE X e ta) (hb : attributeBase e f X.env (eval e X.env) = eval e X.env) : PE X (.Attribute e f pos) (tFld K ta f) := by subst h; exact pe_fld he hb
end
/-- isinstance of an own instance and its class -/
theorem ed_isiI {K : PySem.W.Frag} {η : Env} {C : Addr} {ns : List Str} {ds : List D} {ta : TE} (ha : EvD K ta η (.ins C ns ds)) (c : C8.InsC K C) : EvD K (tCB (rIsi K) (tCons ta (tCons (tC (.ref C)) tNil))) η (.bl true) :=
  ed_cls ha fun v H H1 rv e Q q => by
    cases rv with
    | ins h r => exact ⟨_, .ref C, .ref C, .ref C, true, rfl, .own C, .base (.ins (e _ _ h) c.cl c.ha c.hn c.htk c.hm), c.me, q⟩
/-- a list or a tuple of numbers -/
def seqD (k : Bool) (ds : List D) : D := if k then .tup ds else .lst ds
theorem seqD_items {k : Bool} {ds : List D} : itemsOf (seqD k ds) = some ds := by cases k <;> rfl
end DL

set_option Elab.async false
set_option linter.all false
set_option maxRecDepth 100000
set_option maxHeartbeats 4000000
/-! DL5: own lists of own lists; values without lists; dicts read; further statements. -/
namespace DL
open PySem PySem.Spec PyProof.Rows L2

/-! ### cells -/
theorem inner_fst : ∀ {qs : List Addr} {vss : List (List V)}, vss.length = qs.length → (inner qs vss).map Prod.fst = qs
  | [], [], _ => rfl
  | [], _ :: _, h => by simp at h
  | _ :: _, [], h => by simp at h
  | q :: qs, v :: vss, h => by
    show q :: (inner qs vss).map Prod.fst = _
    rw [inner_fst (by simpa using h)]
theorem inner_snoc : ∀ {qs : List Addr} {vss : List (List V)} {q : Addr} {vs : List V}, vss.length = qs.length → inner (qs ++ [q]) (vss ++ [vs]) = inner qs vss ++ [(q, .lst vs)]
  | [], [], _, _, _ => rfl
  | [], _ :: _, _, _, h => by simp at h
  | _ :: _, [], _, _, h => by simp at h
  | q :: qs, v :: vss, _, _, h => by
    show _ :: inner (qs ++ _) (vss ++ _) = _ :: (inner qs vss ++ _)
    rw [inner_snoc (by simpa using h)]
theorem inner_get : ∀ {qs : List Addr} {vss : List (List V)} {k : Nat} {q : Addr} {vs : List V}, qs[k]? = some q → vss[k]? = some vs → (q, HO.lst vs) ∈ inner qs vss
  | q :: qs, v :: vss, 0, _, _, h1, h2 => by cases h1; cases h2; exact List.mem_cons_self
  | q :: qs, v :: vss, k + 1, _, _, h1, h2 => List.mem_cons_of_mem _ (inner_get (qs := qs) (vss := vss) h1 h2)
  | [], _, _, _, _, h1, _ => by simp at h1
  | _ :: _, [], _, _, _, _, h2 => by simp at h2
theorem inner_set : ∀ {qs : List Addr} {vss : List (List V)} {k : Nat} {q : Addr} {vs : List V} {c : Cell}, c ∈ inner (qs.set k q) (vss.set k vs) → c = (q, .lst vs) ∨ (c ∈ inner qs vss ∧ (∀ q0, qs[k]? = some q0 → (qs.Nodup → vss.length = qs.length → c.1 ≠ q0)))
  | q :: qs, v :: vss, 0, _, _, c, h => by
    rcases List.mem_cons.mp (show c ∈ _ :: inner qs vss from h) with h | h
    · exact .inl h
    · refine .inr ⟨List.mem_cons_of_mem _ h, fun q0 e nd hl z => ?_⟩
      cases e
      have : c.1 ∈ (inner qs vss).map Prod.fst := List.mem_map_of_mem h
      rw [inner_fst (by simpa using hl), z] at this
      exact (List.nodup_cons.mp nd).1 this
  | q :: qs, v :: vss, k + 1, q', vs', c, h => by
    rcases List.mem_cons.mp (show c ∈ (q, HO.lst v) :: inner (qs.set k q') (vss.set k vs') from h) with h | h
    · refine .inr ⟨by rw [h]; exact List.mem_cons_self, fun q0 e nd hl z => ?_⟩
      rw [h] at z
      exact (List.nodup_cons.mp nd).1 (by rw [show q = q0 from z]; exact List.mem_of_getElem? e)
    · rcases inner_set (qs := qs) (vss := vss) h with h | ⟨h, h2⟩
      · exact .inl h
      · exact .inr ⟨List.mem_cons_of_mem _ h, fun q0 e nd hl => h2 q0 e (List.nodup_cons.mp nd).2 (by simpa using hl)⟩
  | [], vss, _, _, _, c, h => by
    cases (show c ∈ ([] : List Cell) from by unfold inner at h; simpa using h)
  | _ :: _, [], _, _, _, c, h => by
    cases (show c ∈ ([] : List Cell) from by unfold inner at h; simpa using h)
theorem nodup_set {α : Type} : ∀ {l : List α} {k : Nat} {x : α}, l.Nodup → x ∉ l → (l.set k x).Nodup
  | [], _, _, h, _ => h
  | y :: l, 0, x, h, hx => List.nodup_cons.mpr ⟨fun z => hx (List.mem_cons_of_mem _ z), (List.nodup_cons.mp h).2⟩
  | y :: l, k + 1, x, h, hx => by
    refine List.nodup_cons.mpr ⟨fun z => ?_, nodup_set (List.nodup_cons.mp h).2 fun z => hx (List.mem_cons_of_mem _ z)⟩
    rcases List.mem_or_eq_of_mem_set z with z | z
    · exact (List.nodup_cons.mp h).1 z
    · exact hx (by rw [z]; exact List.mem_cons_self)
theorem rpss_get {K : PySem.W.Frag} {H : Hp} : ∀ {vss : List (List V)} {dss : List (List D)} {k : Nat} {ds : List D}, Rpss K H vss dss → dss[k]? = some ds → ∃ vs, vss[k]? = some vs ∧ Rps K H vs ds
  | _, _, 0, _, .cons r _, e => by cases e; exact ⟨_, rfl, r⟩
  | _, _, k + 1, _, .cons _ t, e => rpss_get (k := k) t e
  | _, _, _, _, .nil, e => by simp at e
theorem rpss_set {K : PySem.W.Frag} {H : Hp} {vs : List V} {ds : List D} (r : Rps K H vs ds) : ∀ {vss : List (List V)} {dss : List (List D)} (k : Nat), Rpss K H vss dss → Rpss K H (vss.set k vs) (dss.set k ds)
  | _, _, 0, .cons _ t => .cons r t
  | _, _, k + 1, .cons q t => .cons q (rpss_set r k t)
  | _, _, _, .nil => .nil

section
variable {K : PySem.W.Frag} {HE HE1 H H1 H' H1' Hn H2 : Hp} {σ σ' : L2.St} {ρ : List Sl} {i j m : Nat} {s : Sl} {cs : List Cell} {d : D} {ds : List D} {p q : Addr} {qs : List Addr} {dss : List (List D)}
/-- a slot's cells are written -/
theorem SS.re {css : Nat → List Cell} {s' : Sl} {cs' : List Cell} (h : SS K HE HE1 H H1 σ ρ) (hs : ∀ i s, ρ[i]? = some s → SlR K H σ i s (css i)) (o : Owns HE1 H H1 css) (hi : i < ρ.length)
    (hk : ∀ a u, H1 a = some u → (∀ c ∈ css i, c.1 ≠ a) → H1' a = some u) (hc : ∀ c ∈ cs', HE1 c.1 = none ∧ H c.1 = none ∧ H1' c.1 = some c.2 ∧ (∀ k, k ≠ i → ∀ c0 ∈ css k, c0.1 ≠ c.1)) (hn : (cs'.map Prod.fst).Nodup)
    (hs' : SlR K H σ i s' cs') : SS K HE HE1 H H1' σ (ρ.set i s') := by
  have e1 : Ex H H1' := fun a u z => hk a u (h.ex _ _ z) fun c hc0 e => by
    have := (o.at_ i c hc0).2.1
    rw [e, z] at this
    cases this
  have e2 : Ex HE1 H1' := fun a u z => hk a u (h.gr.all _ _ z) fun c hc0 e => by
    have := (o.at_ i c hc0).1
    rw [e, z] at this
    cases this
  refine ⟨⟨h.gr.kn, e1, e2, h.gr.new⟩, by simp [h.len], repl css i cs', fun k s q => ?_, ⟨fun k c' hk' => ?_, fun k => ?_, fun k m hkm c' hk' c2 hm2 => ?_⟩⟩
  · by_cases hki : k = i
    · subst hki
      rw [List.getElem?_set_self hi] at q
      cases q
      rw [repl_pos rfl]
      exact hs'
    · rw [List.getElem?_set_ne (Ne.symm hki)] at q
      rw [repl_neg hki]
      exact hs k s q
  · by_cases hki : k = i
    · rw [repl_pos hki] at hk'
      obtain ⟨a, b, c, _⟩ := hc c' hk'
      exact ⟨a, b, c⟩
    · rw [repl_neg hki] at hk'
      obtain ⟨a, b, c⟩ := o.at_ k c' hk'
      exact ⟨a, b, hk _ _ c fun c0 hc0 e => o.di i k (Ne.symm hki) c0 hc0 c' hk' e⟩
  · show ((repl css i cs' k).map Prod.fst).Nodup
    by_cases hki : k = i
    · rw [repl_pos hki]; exact hn
    · rw [repl_neg hki]; exact o.nd k
  · have old : ∀ k, k ≠ i → ∀ c ∈ css k, ∀ c' ∈ cs', c'.1 ≠ c.1 := fun k hki c hck c' hc' z => (hc c' hc').2.2.2 k hki c hck z.symm
    by_cases hki : k = i
    · have hmi : m ≠ i := fun z => hkm (hki.trans z.symm)
      rw [repl_pos hki] at hk'
      rw [repl_neg hmi] at hm2
      exact old m hmi c2 hm2 c' hk'
    · rw [repl_neg hki] at hk'
      by_cases hmi : m = i
      · rw [repl_pos hmi] at hm2
        exact fun z => old k hki c' hk' c2 hm2 z.symm
      · rw [repl_neg hmi] at hm2
        exact o.di k m hkm c' hk' c2 hm2
/-- what stands behind a slot of lists -/
theorem SS.oo_at (h : SS K HE HE1 H H1 σ ρ) (hi : ρ[i]? = some (.oo p qs dss)) : σ[i]? = some (some (.ref p)) ∧ H1 p = some (.lst (qs.map V.ref)) ∧ (p :: qs).Nodup ∧ qs.length = dss.length ∧
    ∀ (k : Nat) (q : Addr) (ds : List D), qs[k]? = some q → dss[k]? = some ds → ∃ vs, H1 q = some (.lst vs) ∧ Rps K H vs ds ∧ H q = none ∧ HE1 q = none := by
  obtain ⟨css, hs, o⟩ := h.own
  obtain ⟨vss, a, rs, hl, hc⟩ := hs i _ hi
  have hf : (css i).map Prod.fst = p :: qs := by
    rw [hc]
    show p :: (inner qs vss).map Prod.fst = _
    rw [inner_fst hl]
  refine ⟨a, (o.at_ i (p, .lst (qs.map V.ref)) (by rw [hc]; exact List.mem_cons_self)).2.2, by rw [← hf]; exact o.nd i, by rw [← hl]; exact rs.length, fun k q ds hq hd => ?_⟩
  obtain ⟨vs, h1, h2⟩ := rpss_get rs hd
  have hm : (q, HO.lst vs) ∈ css i := by rw [hc]; exact List.mem_cons_of_mem _ (inner_get hq h1)
  obtain ⟨n1, n2, n3⟩ := o.at_ i _ hm
  exact ⟨vs, n3, h2, n2, n1⟩
/-- an inner list is written -/
theorem SS.writeIn {k : Nat} (h : SS K HE HE1 H H1 σ ρ) (hi : ρ[i]? = some (.oo p qs dss)) (hq : qs[k]? = some q) (hd : dss[k]? = some ds) : ∃ vs, H1 q = some (.lst vs) ∧ Rps K H vs ds ∧
    ∀ vs' ds', Rps K H vs' ds' → SS K HE HE1 H (upd H1 q (.lst vs')) σ (ρ.set i (.oo p qs (dss.set k ds'))) := by
  obtain ⟨css, hs, o⟩ := h.own
  obtain ⟨vss, a, rs, hl, hc⟩ := hs i _ hi
  obtain ⟨vs, h1, h2⟩ := rpss_get rs hd
  have hm : (q, HO.lst vs) ∈ css i := by rw [hc]; exact List.mem_cons_of_mem _ (inner_get hq h1)
  obtain ⟨n1, n2, n3⟩ := o.at_ i _ hm
  have hf : (css i).map Prod.fst = p :: qs := by
    rw [hc]
    show p :: (inner qs vss).map Prod.fst = _
    rw [inner_fst hl]
  have nd : (p :: qs).Nodup := by rw [← hf]; exact o.nd i
  have hil := (List.getElem?_eq_some_iff.mp hi).1
  have hkq : k < qs.length := (List.getElem?_eq_some_iff.mp hq).1
  have eq1 : qs.set k q = qs := by
    apply List.ext_getElem?
    intro n
    by_cases hn : n = k
    · subst hn
      rw [List.getElem?_set_self hkq, hq]
    · rw [List.getElem?_set_ne (Ne.symm hn)]
  refine ⟨vs, n3, h2, fun vs' ds' r => ?_⟩
  refine h.re (css := css) (cs' := (p, .lst (qs.map V.ref)) :: inner qs (vss.set k vs')) hs o hil (fun b u z hb => ?_) (fun c hc' => ?_) ?_ ⟨vss.set k vs', a, rpss_set r k rs, by rw [List.length_set]; exact hl, rfl⟩
  · rw [upd_ne (Ne.symm (hb _ hm))]
    exact z
  · have hold : ∀ c0 ∈ css i, c0.1 ≠ q → HE1 c0.1 = none ∧ H c0.1 = none ∧ (upd H1 q (.lst vs')) c0.1 = some c0.2 := fun c0 h0 hne => by
      obtain ⟨m1, m2, m3⟩ := o.at_ i c0 h0
      exact ⟨m1, m2, by rw [upd_ne hne]; exact m3⟩
    rcases List.mem_cons.mp hc' with rfl | hc'
    · have h0 : (p, HO.lst (qs.map V.ref)) ∈ css i := by rw [hc]; exact List.mem_cons_self
      have hne : p ≠ q := fun z => (List.nodup_cons.mp nd).1 (by rw [z]; exact List.mem_of_getElem? hq)
      obtain ⟨a1, a2, a3⟩ := hold _ h0 hne
      exact ⟨a1, a2, a3, fun k hk c0 hc0 => o.di k i hk c0 hc0 _ h0⟩
    · rw [← eq1] at hc'
      rcases inner_set hc' with rfl | ⟨hin, hne⟩
      · exact ⟨n1, n2, upd_same, fun k hk c0 hc0 => (o.di k i hk c0 hc0 (q, .lst vs) hm : c0.1 ≠ q)⟩
      · have h0 : c ∈ css i := by rw [hc]; exact List.mem_cons_of_mem _ hin
        obtain ⟨a1, a2, a3⟩ := hold _ h0 (hne q hq (List.nodup_cons.mp nd).2 hl)
        exact ⟨a1, a2, a3, fun k hk c0 hc0 => o.di k i hk c0 hc0 _ h0⟩
  · show (p :: (inner qs (vss.set k vs')).map Prod.fst).Nodup
    rw [inner_fst (by rw [List.length_set]; exact hl)]
    exact nd
/-- the outer list gets a new inner list -/
theorem SS.writeOut {k : Nat} {vs' : List V} (h0 : SS K HE HE1 H H1 σ ρ) (hi : ρ[i]? = some (.oo p qs dss)) (hk : k < qs.length) (g : Gr H H1 Hn H2) (q1 : H1 q = none) (qn : Hn q = none) (q2 : H2 q = some (.lst vs')) (r : Rps K Hn vs' ds) :
    SS K HE HE1 Hn (upd H2 p (.lst ((qs.set k q).map V.ref))) σ (ρ.set i (.oo p (qs.set k q) (dss.set k ds))) := by
  obtain ⟨css, hs0, o0⟩ := h0.own
  have h := h0.step g
  have hs : ∀ i s, ρ[i]? = some s → SlR K Hn σ i s (css i) := fun i s e => (hs0 i s e).mono g.kn
  have o : Owns HE1 Hn H2 css := ⟨fun i c hc => by
    obtain ⟨a, b, c1⟩ := o0.at_ i c hc
    refine ⟨a, ?_, g.all _ _ c1⟩
    cases z : Hn c.1 with
    | none => rfl
    | some u => exact absurd (g.new _ _ z b) (by rw [c1]; exact fun z => by cases z), o0.nd, o0.di⟩
  obtain ⟨vss, a, rs, hl, hc⟩ := hs i _ hi
  have hf : (css i).map Prod.fst = p :: qs := by
    rw [hc]
    show p :: (inner qs vss).map Prod.fst = _
    rw [inner_fst hl]
  have nd : (p :: qs).Nodup := by rw [← hf]; exact o.nd i
  have hil := (List.getElem?_eq_some_iff.mp hi).1
  obtain ⟨_, oo2, ond, olen, oin⟩ := h0.oo_at hi
  have hpm : (p, HO.lst (qs.map V.ref)) ∈ css i := by rw [hc]; exact List.mem_cons_self
  have hqp : q ≠ p := fun z => by rw [z, oo2] at q1; cases q1
  have hqq : q ∉ qs := fun z => by
    obtain ⟨n, hn, e⟩ := List.mem_iff_getElem.mp z
    obtain ⟨vs, w, _⟩ := oin n q dss[n] (by rw [List.getElem?_eq_getElem hn, e]) (List.getElem?_eq_getElem (by omega))
    rw [q1] at w
    cases w
  refine h.re (css := css) (cs' := (p, .lst ((qs.set k q).map V.ref)) :: inner (qs.set k q) (vss.set k vs')) hs o hil (fun b u z hb => ?_) (fun c hc' => ?_) ?_ ⟨vss.set k vs', a, rpss_set r k rs, by rw [List.length_set, List.length_set]; exact hl, rfl⟩
  · rw [upd_ne (Ne.symm (hb _ hpm))]
    exact z
  · rcases List.mem_cons.mp hc' with rfl | hc'
    · obtain ⟨m1, m2, m3⟩ := o.at_ i _ hpm
      exact ⟨m1, m2, upd_same, fun k hk c0 hc0 => (o.di k i hk c0 hc0 (p, .lst (qs.map V.ref)) hpm : c0.1 ≠ p)⟩
    · rcases inner_set hc' with rfl | ⟨hin, _⟩
      · refine ⟨h0.gr.all.back q1, qn, by rw [upd_ne hqp]; exact q2, fun k _ c0 hc0 z => ?_⟩
        have w := (o0.at_ k c0 hc0).2.2
        rw [show c0.1 = q from z, q1] at w
        cases w
      · have hm : c ∈ css i := by rw [hc]; exact List.mem_cons_of_mem _ hin
        obtain ⟨m1, m2, m3⟩ := o.at_ i c hm
        have hne : c.1 ≠ p := fun z => (List.nodup_cons.mp nd).1 (by
          have : c.1 ∈ (inner qs vss).map Prod.fst := List.mem_map_of_mem hin
          rw [inner_fst hl, z] at this
          exact this)
        exact ⟨m1, m2, by rw [upd_ne hne]; exact m3, fun k hk c0 hc0 => o.di k i hk c0 hc0 _ hm⟩
  · show (p :: (inner (qs.set k q) (vss.set k vs')).map Prod.fst).Nodup
    rw [inner_fst (by rw [List.length_set, List.length_set]; exact hl)]
    refine List.nodup_cons.mpr ⟨fun z => ?_, nodup_set (List.nodup_cons.mp nd).2 hqq⟩
    rcases List.mem_or_eq_of_mem_set z with z | z
    · exact (List.nodup_cons.mp nd).1 z
    · exact hqp z.symm
end
end DL

set_option Elab.async false
set_option linter.all false
set_option maxRecDepth 100000
set_option maxHeartbeats 4000000
/-! DL6: readings that give lists of lists; values without lists; dicts read; further statements. -/
namespace DL
open PySem PySem.Spec PyProof.Rows L2

/-- a new list of new lists -/
def EvLL (K : PySem.W.Frag) (te : TE) (η : Env) (dss : List (List D)) : Prop := ∀ H σ H1, ER K H σ η → Ex H H1 → ∀ Q : VK, (∀ p ps Hn H2, Gr H H1 Hn H2 → NewLL K H1 Hn H2 p ps dss → Q (.ref p) H2) → te σ H1 Q
theorem EvLL.is {K : PySem.W.Frag} {te : TE} {η : Env} {a b : List (List D)} (h : EvLL K te η a) (e : a = b) : EvLL K te η b := by rw [← e]; exact h
section
variable {K : PySem.W.Frag} {η : Env} {ta te : TE} {t : TT} {a d : D} {as ds : List D} {dss : List (List D)}
theorem ell_call {α : Type} {enc : α → List D} {pre : α → Prop} {out : α → Ret} {E : XK} {ta : TA} (x : α) (ha : EvA K ta η (enc x)) (hp : pre x) (ho : out x = .oo dss) : EvLL K (tCall (spT K enc pre out) [] E ta) η dss := fun H σ H1 er e Q q =>
  ha H σ H1 er e _ fun vs Hn H2 g rs => ⟨Hn, x, g.inn, by rw [List.append_nil]; exact rs, hp, fun v H3 o => by
    rw [ho] at o
    obtain ⟨p, ps, Hm, rfl, g2, n⟩ := o
    obtain ⟨vss, r1, r2, r3⟩ := n.cs
    exact q p ps Hm H3 (g.trans g2) ⟨g.all.back n.h1, n.hn, n.h2, ⟨vss, r1, r2, fun c hc => ⟨g.all.back (r3 c hc).1, (r3 c hc).2⟩⟩, n.nd⟩⟩
/-- what holds between two turns: the lists so far -/
def Cwl (K : PySem.W.Frag) (H0 H1 : Hp) (v : Nat → List D) (Dl : Addr) (i : Nat) (H' : Hp) : Prop := H1 Dl = none ∧ ∃ Hm ps vss, Gr H0 H1 Hm H' ∧ Hm Dl = none ∧ H' Dl = some (.lst (ps.map V.ref)) ∧ (Dl :: ps).Nodup ∧
  Rpss K Hm vss ((List.range i).map v) ∧ vss.length = ps.length ∧ ∀ c ∈ inner ps vss, H1 c.1 = none ∧ Hm c.1 = none ∧ H' c.1 = some c.2
theorem el_lcLL {tl : TE} {tg : TG} {vs : List Nat} (v : Nat → List D) (h : EvD K tl η a) (ha : a = .lst ds ∨ a = .rd ds) (hz : ds.length ≤ 10000000)
    (hs : ∀ (i : Nat) (d : D), ds[i]? = some d → ∃ η', TgD K vs tg (wipeE η vs) d η' ∧ EvL K te η' (v i)) : EvLL K (tLc (iList K tl) tg tYes te vs) η ((List.range ds.length).map v) := fun H σ Ha er e Q q =>
  h H σ Ha er e _ fun x H0 H1 g rx => by
    obtain ⟨p, ws, rfl, hp, rs⟩ : ∃ p ws, x = .ref p ∧ SqL K H0 p ws ∧ Rps K H0 ws ds := by
      rcases ha with rfl | rfl
      · cases rx with
        | lst h r => exact ⟨_, _, rfl, SqL.of h, r⟩
      · cases rx with
        | rd h r => exact ⟨_, _, rfl, h, r⟩
    refine ⟨p, rfl, ⟨ws, ex_l g.inn hp⟩, fun Dl hD => lc_list (xs := ws) (Cwl K H0 H1 v Dl) ?_ (fun i H' _ ⟨_, Hm, _, _, g2, _⟩ => ex_l (g2.kn.trans g2.inn) hp) (fun i x H' hi p => ?_) (fun H' p => ?_)⟩
    · exact ⟨hD, H0, [], [], ⟨Ex.refl _, g.inn.mut (g.inn.back hD), (Ex.refl _).mut hD, (Gr.refl g.inn).new⟩, g.inn.back hD, upd_same, by simp, .nil, rfl, fun c hc => by cases hc⟩
    · obtain ⟨d, hd, rd⟩ := rs.getV hi
      obtain ⟨η', htg, he⟩ := hs i d hd
      have hl : i < ds.length := (List.getElem?_eq_some_iff.mp hd).1
      obtain ⟨p0, Hm, ps, vss, g2, hDm, hD', nd, rss, hlen, hc⟩ := p
      refine htg x H0 _ H' ((er.mono g.kn).wipe vs) rd (g2.kn.trans g2.inn) _ fun σ' er' hw => ⟨hw.trans wipe_wipe, ?_⟩
      show te σ' H' _
      refine he Hm σ' H' (er'.mono g2.kn) g2.inn _ fun p' vs' Hn H2 g4 h1 hn h2 r => ?_
      have hpD : p' ≠ Dl := fun z => by rw [z, hD'] at h1; cases h1
      have hnew : ∀ b u, H' b = some u → Hm b = none → Hn b = none := fun b u z n => by
        cases w : Hn b with
        | none => rfl
        | some o =>
          have := g4.new b o w n
          rw [z] at this
          cases this
      have hnD : Hn Dl = none := hnew Dl _ hD' hDm
      have hpp : p' ∉ ps := fun z => by
        obtain ⟨n, hn, en⟩ := List.mem_iff_getElem.mp z
        obtain ⟨w, hw⟩ : ∃ w, vss[n]? = some w := ⟨_, List.getElem?_eq_getElem (by omega)⟩
        have := (hc _ (inner_get (by rw [List.getElem?_eq_getElem hn, en]) hw)).2.2
        rw [h1] at this
        cases this
      refine ⟨ps.map V.ref, g4.all _ _ hD', ?_, p0, Hn, ps ++ [p'], vss ++ [vs'], ?_, hnD, by rw [upd_same, List.map_append]; rfl, ?_, ?_, by simp [hlen], fun c hcc => ?_⟩
      · rw [List.length_map, ← hlen, rss.length, List.length_map, List.length_range, PySem.sizeLine_eq]
        omega
      · exact ⟨g2.kn.trans g4.kn, g4.inn.mut hnD, (g2.all.trans g4.all).mut p0, fun b o z n => by
          cases w : Hm b with
          | none => exact g2.all.back (g4.new b o z w)
          | some u => exact g2.new b u w n⟩
      · have hDp : Dl ∉ ps ++ [p'] := fun z => by
          rcases List.mem_append.mp z with z | z
          · exact (List.nodup_cons.mp nd).1 z
          · exact hpD (List.mem_singleton.mp z).symm
        refine List.nodup_cons.mpr ⟨hDp, List.nodup_append.mpr ⟨(List.nodup_cons.mp nd).2, by simp, fun x hx y hy z => ?_⟩⟩
        rw [List.mem_singleton.mp hy] at z
        exact hpp (by rw [← z]; exact hx)
      · rw [List.range_succ, List.map_append]
        exact Paired.snoc (Rpss.mono g4.kn rss) r
      · rw [inner_snoc hlen] at hcc
        rcases List.mem_append.mp hcc with hcc | hcc
        · obtain ⟨c1, c2, c3⟩ := hc c hcc
          have hne : c.1 ≠ Dl := fun z => (List.nodup_cons.mp nd).1 (by
            have : c.1 ∈ (inner ps vss).map Prod.fst := List.mem_map_of_mem hcc
            rw [inner_fst hlen, z] at this
            exact this)
          exact ⟨c1, hnew _ _ c3 c2, by rw [upd_ne hne]; exact g4.all _ _ c3⟩
        · rw [List.mem_singleton.mp hcc]
          exact ⟨g2.all.back h1, hn, by rw [upd_ne hpD]; exact h2⟩
    · obtain ⟨p0, Hm, ps, vss, g2, hDm, hD', nd, rss, hlen, hc⟩ := p
      exact q Dl ps Hm H' (g.trans g2) ⟨g.all.back p0, hDm, hD', ⟨vss, by rw [← rs.length]; exact rss, hlen, fun c hcc => ⟨g.all.back (hc c hcc).1, (hc c hcc).2⟩⟩, nd⟩

/-! ### dicts read -/
def hasK (ks : List Key) (κ : Key) : Bool := ks.any fun k => decide (k = κ)
theorem hasK_iff {ks : List Key} {κ : Key} : hasK ks κ = true ↔ κ ∈ ks := by
  unfold hasK
  rw [List.any_eq_true]
  constructor
  · rintro ⟨x, hx, h⟩
    rw [← of_decide_eq_true h]
    exact hx
  · intro h
    exact ⟨κ, h, decide_eq_true rfl⟩
theorem valV_of {kvs : List (Key × V)} {κ : Key} : (valV kvs κ).isSome = hasK (kvs.map Prod.fst) κ := by
  unfold hasK
  rw [← valV_any, List.any_map]
  rfl
theorem dc_list {K : PySem.W.Frag} {a : Addr} {xs : List V} {g : TG} {tt : TT} {tk tv : TE} {vs : List Nat} {σ : L2.St} {H1 : Hp} {D : Addr} {Qd : Hp → Prop} (Pv : Nat → Hp → Prop) (h0 : Pv 0 (upd H1 D (.dK []))) (hl : ∀ i H, i ≤ xs.length → Pv i H → SqL K H a xs)
    (hs : ∀ i x H, xs[i]? = some x → Pv i H → g x (L2.wipe σ vs) H fun σ2 H2 => L2.wipe σ2 vs = L2.wipe σ vs ∧ tt σ2 H2 fun b H3 =>
      if b = true then tk σ2 H3 fun y H4 => tv σ2 H4 fun z H5 => ∃ kvs k, y = kV k ∧ H5 D = some (.dK kvs) ∧ kvs.length < sizeLine ∧ Pv (i + 1) (upd H5 D (.dK (putK kvs k z))) else Pv (i + 1) H3) (hd : ∀ H, Pv xs.length H → Qd H) :
    ∃ W : Nat → Nat → Hp → Prop, (∃ m, W 0 m (upd H1 D (.dK []))) ∧ ∀ i m H, W i m H →
      ((Itl K a).stop i H ∧ Qd H) ∨ ((Itl K a).go i H ∧ ∃ Nx : Hp → Prop, (∀ H', Nx H' → ∃ m', m' < m ∧ W (i + 1) m' H') ∧ ∀ x H', (Itl K a).yld i H x H' → g x (L2.wipe σ vs) H' fun σ2 H2 => L2.wipe σ2 vs = L2.wipe σ vs ∧ tt σ2 H2 fun b H3 =>
        if b = true then tk σ2 H3 fun y H4 => tv σ2 H4 fun z H5 => ∃ kvs k, y = kV k ∧ H5 D = some (.dK kvs) ∧ kvs.length < sizeLine ∧ Nx (upd H5 D (.dK (putK kvs k z))) else Nx H3) := by
  refine ⟨fun i m H => m = xs.length - i ∧ i ≤ xs.length ∧ Pv i H, ⟨xs.length, by simp, Nat.zero_le _, h0⟩, ?_⟩
  rintro i m H ⟨rfl, hi, p⟩
  have q := hl i H hi p
  by_cases hlt : i < xs.length
  · refine .inr ⟨⟨xs, xs[i], q, by simp [hlt]⟩, Pv (i + 1), fun H' p' => ⟨xs.length - (i + 1), by omega, rfl, hlt, p'⟩, fun x H' y => ?_⟩
    obtain ⟨e, y⟩ := y
    subst e
    exact hs i x _ (y xs q) p
  · have e : i = xs.length := by omega
    subst e
    exact .inl ⟨⟨xs, q, Nat.le_refl _⟩, hd H p⟩
theorem ed_din {κ : Key} {ks : List Key} (ha : EvD K ta η a) (hk : dKey a = some κ) (hd : EvD K te η (.dct ks ds)) : EvD K (tDIn ta te) η (.bl (hasK ks κ)) := fun H σ H1 er e Q q =>
  ha H σ H1 er e _ fun v Hn H2 g rv => hd Hn σ H2 (er.mono g.kn) g.inn _ fun x Hm H3 g2 rx => by
    have ev := key_rp rv hk
    subst ev
    cases rx with
    | @dct p kvs _ h r =>
      refine ⟨p, _, rfl, DGet.k (g2.inn _ _ h), ?_⟩
      rw [valV_of]
      exact q _ Hm H3 (g.trans g2) (.bl _)
theorem ed_dnotin {κ : Key} {ks : List Key} (ha : EvD K ta η a) (hk : dKey a = some κ) (hd : EvD K te η (.dct ks ds)) : EvD K (tDNotIn ta te) η (.bl (!hasK ks κ)) := fun H σ H1 er e Q q =>
  ha H σ H1 er e _ fun v Hn H2 g rv => hd Hn σ H2 (er.mono g.kn) g.inn _ fun x Hm H3 g2 rx => by
    have ev := key_rp rv hk
    subst ev
    cases rx with
    | @dct p kvs _ h r =>
      refine ⟨p, _, rfl, DGet.k (g2.inn _ _ h), ?_⟩
      rw [valV_of]
      exact q _ Hm H3 (g.trans g2) (.bl _)
/-- {k: c for .. in a list}, the keys new each, the value a number or the like -/
theorem ed_dcL {tl tk tv : TE} {tg : TG} {vs : List Nat} (kf : Nat → Key) (v : D) (hv : flat v = true) (h : EvD K tl η a) (ha : a = .lst ds ∨ a = .rd ds) (hz : ds.length ≤ 10000000)
    (hnd : ∀ i j, i < j → j < ds.length → kf i ≠ kf j) (hs : ∀ (i : Nat) (d : D), ds[i]? = some d → ∃ η' kd, TgD K vs tg (wipeE η vs) d η' ∧ EvD K tk η' kd ∧ dKey kd = some (kf i) ∧ EvD K tv η' v) :
    EvD K (tDc (iList K tl) tg tYes tk tv vs) η (.dct ((List.range ds.length).map kf) (List.replicate ds.length v)) := fun H σ Ha er e Q q =>
  h H σ Ha er e _ fun x H0 H1 g rx => by
    obtain ⟨p, ws, rfl, hp, rs⟩ : ∃ p ws, x = .ref p ∧ SqL K H0 p ws ∧ Rps K H0 ws ds := by
      rcases ha with rfl | rfl
      · cases rx with
        | lst h r => exact ⟨_, _, rfl, SqL.of h, r⟩
      · cases rx with
        | rd h r => exact ⟨_, _, rfl, h, r⟩
    refine ⟨p, rfl, ⟨ws, ex_l g.inn hp⟩, fun Dl hD => ?_⟩
    refine dc_list (xs := ws) (fun i H' => H1 Dl = none ∧ Ex H0 H' ∧ H0 Dl = none ∧ Ex H1 H' ∧ ∃ kvs : List (Key × V), H' Dl = some (.dK kvs) ∧ kvs.map Prod.fst = (List.range i).map kf ∧ Rps K H0 (kvs.map Prod.snd) (List.replicate i v)) ?_ (fun i H' _ ⟨_, e2, _⟩ => ex_l e2 hp) (fun i x H' hi p => ?_) (fun H' p => ?_)
    · exact ⟨hD, g.inn.mut (g.inn.back hD), g.inn.back hD, (Ex.refl _).mut hD, [], upd_same, rfl, .nil⟩
    · obtain ⟨d, hd, rd⟩ := rs.getV hi
      obtain ⟨η', kd, htg, hk, hκ, hval⟩ := hs i d hd
      have hl : i < ds.length := (List.getElem?_eq_some_iff.mp hd).1
      obtain ⟨p0, e2, p1, e3, kvs, hD', hks, hrs⟩ := p
      refine htg x H0 _ H' ((er.mono g.kn).wipe vs) rd e2 _ fun σ' er' hw => ⟨hw.trans wipe_wipe, ?_⟩
      show tk σ' H' _
      refine hk H0 σ' H' er' e2 _ fun kv Hn H2 g4 rk => ?_
      have ek := key_rp rk hκ
      subst ek
      refine hval Hn σ' H2 (er'.mono g4.kn) g4.inn _ fun vv Hm H3 g5 rv => ?_
      have hD3 := g5.all _ _ (g4.all _ _ hD')
      have hlen : kvs.length = i := by
        have := congrArg List.length hks
        simpa using this
      refine ⟨kvs, kf i, rfl, hD3, by rw [hlen, PySem.sizeLine_eq]; omega, p0, ?_, p1, ?_, putK kvs (kf i) vv, upd_same, ?_⟩
      · exact ((g4.kn.trans g5.kn).trans g5.inn).mut p1
      · exact ((e3.trans g4.all).trans g5.all).mut p0
      · have no : (kvs.any fun kv => decide (kv.1 = kf i)) = false := by
          rw [List.any_eq_false]
          intro x hx hdx
          have : kf i ∈ (List.range i).map kf := by rw [← hks, ← of_decide_eq_true hdx]; exact List.mem_map_of_mem hx
          obtain ⟨j, hj, ej⟩ := List.mem_map.mp this
          have hj := List.mem_range.mp hj
          exact hnd j i hj hl ej
        have hput : putK kvs (kf i) vv = kvs ++ [(kf i, vv)] := by
          unfold putK
          rw [no]
          rfl
        rw [hput, List.map_append, List.map_append, hks, List.range_succ, List.map_append]
        refine ⟨rfl, ?_⟩
        rw [List.replicate_succ']
        exact hrs.append (.one (flat_rp hv rv))
    · obtain ⟨p0, e2, p1, e3, kvs, hD', hks, hrs⟩ := p
      rw [rs.length] at hks hrs
      have r : Rp K (upd H0 Dl (.dK kvs)) (.ref Dl) (.dct (kvs.map Prod.fst) (List.replicate ds.length v)) := .dct upd_same (hrs.mono ((Ex.refl _).mut p1))
      rw [hks] at r
      refine q _ (upd H0 Dl (.dK kvs)) H' (g.trans ⟨(Ex.refl _).mut p1, fun b u z => ?_, e3, fun b u z n => ?_⟩) r
      · by_cases hb : b = Dl
        · rw [hb] at z ⊢; rw [upd_same] at z; rw [hD']; exact z
        · rw [upd_ne hb] at z; exact e2 _ _ z
      · by_cases hb : b = Dl
        · rw [hb]; exact p0
        · rw [upd_ne hb] at z; rw [n] at z; cases z
end
/-! ### values without lists -/
mutual
def noL : D → Bool
  | .lst _ => false
  | .rd _ => false
  | .dct _ _ => false
  | .tup xs => noLs xs
  | .ins _ _ xs => noLs xs
  | _ => true
def noLs : List D → Bool
  | [] => true
  | d :: ds => noL d && noLs ds
end
theorem noLs_dI : ∀ ns : List Int, noLs (dI ns) = true
  | [] => rfl
  | _ :: ns => noLs_dI ns
section
variable {K : PySem.W.Frag} {H H' : Hp}
/-- heaps agree but for lists and dicts -/
def ExN (H H' : Hp) : Prop := ∀ a o, H a = some o → (∀ xs, o ≠ .lst xs) → (∀ kvs, o ≠ .dK kvs) → H' a = some o
theorem exn_t {a : Addr} {xs : List V} (e : ExN H H') (h : SqT K H a xs) : SqT K H' a xs := by
  rcases h with (h | ⟨o, h⟩) | h
  · exact .inl (.inl (e _ _ h (fun _ z => by cases z) (fun _ z => by cases z)))
  · exact .inl (.inr ⟨o, e _ _ h (fun _ z => by cases z) (fun _ z => by cases z)⟩)
  · exact .inr h
mutual
theorem Rp.less (e : ExN H H') : ∀ {v : V} {d : D}, Rp K H v d → noL d = true → Rp K H' v d
  | _, _, .non, _ => .non
  | _, _, .bl b, _ => .bl b
  | _, _, .int i, _ => .int i
  | _, _, .str x, _ => .str x
  | _, _, .lst h r, p => by cases p
  | _, _, .rd h r, p => by cases p
  | _, _, .tup h r, p => .tup (exn_t e h) (Rps.less e r p)
  | _, _, .ins h r, p => .ins (e _ _ h (fun _ z => by cases z) (fun _ z => by cases z)) (Rps.less e r p)
  | _, _, .dct h r, p => by cases p
theorem Rps.less (e : ExN H H') : ∀ {vs : List V} {ds : List D}, Rps K H vs ds → noLs ds = true → Rps K H' vs ds
  | _, _, .nil, _ => .nil
  | _, _, .cons r t, p => .cons (Rp.less e r (Bool.and_eq_true_iff.mp p).1) (Rps.less e t (Bool.and_eq_true_iff.mp p).2)
end
end
/-! ### further statements -/
section
variable {K : PySem.W.Frag} {ρ : List Sl} {D : DE} {t u tu tw tb : TS} {te ta tk tv : TE} {tt : TT} {i j : Nat} {d a : DL.D} {ds : List DL.D} {dss : List (List DL.D)} {p q : Addr} {qs : List Addr}

/-! ### readings at a state -/
/-- η tells truly of the slots ρ, and knows nothing but their lists and dicts further -/
def VA (K : PySem.W.Frag) (ρ : List Sl) (η : Env) : Prop := ∀ HE HE1 H H1 σ, SS K HE HE1 H H1 σ ρ → ∃ Hv, Ex H Hv ∧ Ex Hv H1 ∧ (∀ a o, Hv a = some o → H a = some o ∨ (∃ xs, o = .lst xs) ∨ ∃ kvs, o = .dK kvs) ∧ ER K Hv σ η
theorem va_view : VA K ρ (viewE ρ) := fun HE HE1 H H1 σ h => h.view2
theorem va_sh : VA K ρ (shE ρ) := fun HE HE1 H H1 σ h => ⟨H, Ex.refl _, h.ex, fun a o z => .inl z, h.er⟩
theorem paired_of {H Hv H1 : Hp} (e : Ex Hv H1) : ∀ {qs : List Addr} {dss : List (List DL.D)} {k : Nat} {q : Addr} {ds : List DL.D}, Rps K Hv (qs.map V.ref) (dss.map DL.D.lst) → qs[k]? = some q → dss[k]? = some ds → Rp K Hv (.ref q) (.lst ds)
  | _ :: _, _ :: _, 0, _, _, .cons r _, h1, h2 => by cases h1; cases h2; exact r
  | _ :: qs, _ :: dss, k + 1, _, _, .cons _ t, h1, h2 => paired_of (H := H) e (k := k) (qs := qs) (dss := dss) t h1 h2
  | [], _, _, _, _, _, h1, _ => by simp at h1
  | _ :: _, [], _, _, _, _, _, h2 => by simp at h2
/-- .. the slot j, which stands for the k-th list of the slot i -/
theorem va_al {k : Nat} (hj : ρ[j]? = some (.al q)) (hi : ρ[i]? = some (.oo p qs dss)) (hq : qs[k]? = some q) (hd : dss[k]? = some ds) : VA K ρ ((viewE ρ).set j (some (.lst ds))) := fun HE HE1 H H1 σ h => by
  obtain ⟨Hv, e1, e2, e4, er⟩ := h.view2
  refine ⟨Hv, e1, e2, e4, ⟨by rw [List.length_set]; exact er.len, fun m d z => ?_⟩⟩
  by_cases hm : m = j
  · subst hm
    have hl : m < (viewE ρ).length := by
      have := (List.getElem?_eq_some_iff.mp hj).1
      rw [List.length_map]
      exact this
    rw [List.getElem?_set_self hl] at z
    cases z
    obtain ⟨css, hs, o⟩ := h.own
    have ha := (hs m _ hj).1
    refine ⟨_, ha, ?_⟩
    obtain ⟨oo1, oo2, _⟩ := h.oo_at hi
    obtain ⟨v, hv, rv⟩ := er.get i (.lst (dss.map DL.D.lst)) (by rw [List.getElem?_map, hi]; rfl)
    rw [oo1] at hv
    cases hv
    cases rv with
    | lst h0 r =>
      have := e2 _ _ h0
      rw [oo2] at this
      cases this
      exact paired_of (H := H) e2 r hq hd
  · rw [List.getElem?_set_ne (Ne.symm hm)] at z
    exact er.get m d z
/-- data that is new or stood before -/
def EvS (K : PySem.W.Frag) (te : TE) (ρ : List Sl) (d : DL.D) : Prop := ∀ HE HE1 H H1 σ, SS K HE HE1 H H1 σ ρ → ∀ Q : VK, (∀ v Hn H2, Gr H H1 Hn H2 → Rp K Hn v d → Q v H2) → te σ H1 Q
def EvSL (K : PySem.W.Frag) (te : TE) (ρ : List Sl) (ds : List DL.D) : Prop := ∀ HE HE1 H H1 σ, SS K HE HE1 H H1 σ ρ → ∀ Q : VK, (∀ p vs Hn H2, Gr H H1 Hn H2 → H1 p = none → Hn p = none → H2 p = some (.lst vs) → Rps K Hn vs ds → Q (.ref p) H2) → te σ H1 Q
theorem EvS.is (h : EvS K te ρ d) (e : d = a) : EvS K te ρ a := by rw [← e]; exact h
theorem evs_sh (h : EvD K te (shE ρ) d) : EvS K te ρ d := fun HE HE1 H H1 σ ss Q q => h H σ H1 ss.er ss.ex Q q
theorem evs_flatV {η : Env} (va : VA K ρ η) (h : EvD K te η d) (hd : flat d = true) : EvS K te ρ d := fun HE HE1 H H1 σ ss Q q => by
  obtain ⟨Hv, e1, e2, _, er⟩ := va HE HE1 H H1 σ ss
  exact h Hv σ H1 er e2 _ fun v Hn H2 g rv => q v H H2 (Gr.only ss.ex g.all) (flat_rp hd rv)
theorem evs_flat (h : EvD K te (viewE ρ) d) (hd : flat d = true := by rfl) : EvS K te ρ d := evs_flatV va_view h hd
theorem evs_noLV {η : Env} (va : VA K ρ η) (h : EvD K te η d) (hd : noL d = true) : EvS K te ρ d := fun HE HE1 H H1 σ ss Q q => by
  obtain ⟨Hv, e1, e2, e4, er⟩ := va HE HE1 H H1 σ ss
  refine h Hv σ H1 er e2 _ fun v Hn H2 g rv => ?_
  classical
  let Hm : Hp := fun a => match H a with
    | some u => some u
    | none => if H1 a = none then Hn a else none
  have m1 : Ex H Hm := fun a u z => by show (match H a with | some u => some u | none => _) = _; rw [z]
  have m2 : ∀ a u, Hm a = some u → H a = some u ∨ (H a = none ∧ H1 a = none ∧ Hn a = some u) := fun a u z => by
    have z : (match H a with | some u => some u | none => if H1 a = none then Hn a else none) = some u := z
    cases w : H a with
    | some x => rw [w] at z; cases z; exact .inl rfl
    | none =>
      rw [w] at z
      have z : (if H1 a = none then Hn a else none) = some u := z
      by_cases hx : H1 a = none
      · rw [if_pos hx] at z; exact .inr ⟨rfl, hx, z⟩
      · rw [if_neg hx] at z; cases z
  have m3 : ∀ a u, H1 a = none → Hn a = some u → Hm a = some u := fun a u n z => by
    show (match H a with | some u => some u | none => if H1 a = none then Hn a else none) = _
    rw [ss.ex.back n]
    show (if H1 a = none then Hn a else none) = _
    rw [if_pos n]
    exact z
  refine q v Hm H2 ⟨m1, fun a u z => ?_, g.all, fun a u z n => ?_⟩ (rv.less (fun a o z hl hk => ?_) hd)
  · rcases m2 a u z with w | ⟨_, _, w⟩
    · exact g.all _ _ (ss.ex _ _ w)
    · exact g.inn _ _ w
  · rcases m2 a u z with w | ⟨_, w, _⟩
    · rw [n] at w; cases w
    · exact w
  · cases w : Hv a with
    | none => exact m3 a o (g.new a o z w) z
    | some o' =>
      have := g.kn _ _ w
      rw [z] at this
      cases this
      rcases e4 a _ w with x | ⟨xs, x⟩ | ⟨kvs, x⟩
      · exact m1 _ _ x
      · exact absurd x (hl xs)
      · exact absurd x (hk kvs)
theorem evs_noL (h : EvD K te (viewE ρ) d) (hd : noL d = true) : EvS K te ρ d := evs_noLV va_view h hd
theorem evsl_sh (h : EvL K te (shE ρ) ds) : EvSL K te ρ ds := fun HE HE1 H H1 σ ss Q q => h H σ H1 ss.er ss.ex Q q
theorem evsl_flatV {η : Env} (va : VA K ρ η) (h : EvL K te η ds) (hd : ds.all flat = true) : EvSL K te ρ ds := fun HE HE1 H H1 σ ss Q q => by
  obtain ⟨Hv, e1, e2, _, er⟩ := va HE HE1 H H1 σ ss
  exact h Hv σ H1 er e2 _ fun p vs Hn H2 g h1 hn h2 rv => q p vs H H2 (Gr.only ss.ex g.all) h1 (ss.ex.back h1) h2 (flat_rps hd rv)
theorem evsl_flat (h : EvL K te (viewE ρ) ds) (hd : ds.all flat = true) : EvSL K te ρ ds := evsl_flatV va_view h hd
theorem EvSL.data (h : EvSL K te ρ ds) : EvS K te ρ (.lst ds) := fun HE HE1 H H1 σ ss Q q =>
  h HE HE1 H H1 σ ss Q fun p vs Hn H2 g h1 hn h2 rs => q (.ref p) (upd Hn p (.lst vs)) H2 (g.know h1 h2 hn) (.lst upd_same (rs.mono ((Ex.refl Hn).mut hn)))
/-- an item of an own list -/
theorem evs_ix {k : Int} (hi : ρ[i]? = some (.ow ds)) (hk : EvD K tk (viewE ρ) (.int k)) (hd : atI ds k = some d) : EvS K (tOp (rIx K) (tVar i) tk) ρ d := fun HE HE1 H H1 σ ss Q q => by
  obtain ⟨p, vs, hp, hv, rs, _⟩ := ss.write hi
  refine ⟨_, hp, ?_⟩
  obtain ⟨Hv, e1, e2, er⟩ := ss.view
  refine hk Hv σ H1 er e2 _ fun iv Hn H2 g ri => ?_
  cases ri
  obtain ⟨v, h1, h2⟩ := atI_rps rs hd
  exact .inl ⟨p, vs, k, v, rfl, rfl, SqL.of (g.all _ _ hv), h1, q v H H2 (Gr.only ss.ex g.all) h2⟩
/-! the statements -/
theorem sd_asgS (h : EvS K te ρ d) (k : D.nx (ρ.set i (.sh d))) : SD K (tAsg te (gName i)) ρ D := fun HE HE1 H H1 σ E ss n b c r =>
  h HE HE1 H H1 σ ss _ fun v Hn H2 g rv => n _ Hn H2 _ k g.kn (ss.setSh rfl g rv)
theorem sd_asgSL (h : EvSL K te ρ ds) (k : D.nx (ρ.set i (.ow ds))) : SD K (tAsg te (gName i)) ρ D := fun HE HE1 H H1 σ E ss n b c r =>
  h HE HE1 H H1 σ ss _ fun p vs Hn H2 g h1 hn h2 rs => n _ Hn H2 _ k g.kn (ss.setOw rfl g h1 hn h2 rs)
theorem sd_retS (h : EvS K te ρ d) (k : D.rt (.sh d)) : SD K (tRet te) ρ D := fun HE HE1 H H1 σ E ss n b c r =>
  h HE HE1 H H1 σ ss _ fun v Hn H2 g rv => r _ v H2 k ⟨Hn, ss.gr.trans g, rv⟩
theorem sd_retSL (h : EvSL K te ρ ds) (k : D.rt (.ow ds)) : SD K (tRet te) ρ D := fun HE HE1 H H1 σ E ss n b c r =>
  h HE HE1 H H1 σ ss _ fun p vs Hn H2 g h1 hn h2 rs => r _ _ H2 k ⟨p, vs, Hn, rfl, ss.gr.trans g, ss.gr.all.back h1, hn, h2, rs⟩
theorem sd_asg2S {d1 d2 : DL.D} (h : EvS K te ρ (.tup [d1, d2])) (k : D.nx ((ρ.set i (.sh d1)).set j (.sh d2))) : SD K (tAsg te (gTup K 2 (gCons (gName i) (gCons (gName j) gNil)))) ρ D := fun HE HE1 H H1 σ E ss n b c r =>
  h HE HE1 H H1 σ ss _ fun v Hn H2 g rv => by
    cases rv with
    | tup hs rs =>
      cases rs with
      | cons r1 t =>
        cases t with
        | cons r2 t =>
          cases t
          have s1 := ss.setSh (i := i) rfl g r1
          exact ⟨_, _, rfl, ex_t g.inn hs, rfl, _, _, rfl, _, _, rfl, rfl, n _ Hn H2 _ k g.kn (s1.setSh rfl (Gr.refl g.inn) r2)⟩
theorem ixN_at {n m : Nat} (h : m < n) : ixN n (m : Int) = some m := by
  unfold ixN
  rw [if_pos (by omega), if_pos (by omega)]
  simp
theorem sd_setS {m : Nat} (hi : ρ[i]? = some (.ow ds)) (h : EvS K te ρ d) (hk : EvD K tk (viewE ρ) (.int (m : Int))) (hm : m < ds.length) (k : D.nx (ρ.set i (.ow (ds.set m d)))) : SD K (tAsg te (gSub (tVar i) tk rSetL)) ρ D := fun HE HE1 H H1 σ E ss n b c r =>
  h HE HE1 H H1 σ ss _ fun v Hn H2 g rv => by
    have s2 := ss.step g
    obtain ⟨p, vs, hp, hv, rs, wr⟩ := s2.write hi
    obtain ⟨Hv, e1, e2, er⟩ := s2.view
    refine ⟨_, hp, ?_⟩
    refine hk Hv σ H2 er e2 _ fun iv Hm H3 g3 ri => ?_
    cases ri
    have s3 := s2.grow g3.all
    obtain ⟨p', vs', hp', hv', rs', wr'⟩ := s3.write hi
    have ep : p' = p := by rw [hp] at hp'; cases hp'; rfl
    subst ep
    exact ⟨p', vs', (m : Int), m, rfl, rfl, hv', by rw [rs'.length]; exact ixN_at hm, n _ Hn _ _ k g.kn (wr' _ _ (rs'.set rv m))⟩
theorem sd_appS (hi : ρ[i]? = some (.ow ds)) (h : EvS K te ρ d) (hl : ds.length < sizeLine) (k : D.nx (ρ.set i (.ow (ds ++ [d])))) : SD K (tDrop (tBM K "list" rAppend (tVar i) (tCons te tNil))) ρ D := fun HE HE1 H H1 σ E ss n b c r => by
  obtain ⟨p, vs, hp, hv, rs, wr⟩ := ss.write hi
  refine ⟨_, hp, .inl ⟨rfl, _, SqL.of hv⟩, ?_⟩
  refine h HE HE1 H H1 σ ss _ fun v Hn H2 g rv => ?_
  have s2 := ss.step g
  obtain ⟨p', vs', hp', hv', rs', wr'⟩ := s2.write hi
  have ep : p' = p := by rw [hp] at hp'; cases hp'; rfl
  subst ep
  exact ⟨p', vs', v, rfl, rfl, hv', by rw [rs'.length]; exact hl, n _ Hn _ _ k g.kn (wr' _ _ (rs'.append (.one rv)))⟩
theorem sd_asgLL (h : EvLL K te (shE ρ) dss) (k : ∀ p qs, qs.length = dss.length → D.nx (ρ.set i (.oo p qs dss))) : SD K (tAsg te (gName i)) ρ D := fun HE HE1 H H1 σ E ss n b c r =>
  h H σ H1 ss.er ss.ex _ fun p ps Hn H2 g nl => by
    obtain ⟨vss, r1, r2, r3⟩ := nl.cs
    refine n _ Hn H2 _ (k p ps (by rw [← r2]; exact r1.length)) g.kn (ss.put (cs' := (p, .lst (ps.map V.ref)) :: inner ps vss) rfl g (fun hi => ⟨vss, List.getElem?_set_self (by rw [← ss.len]; exact hi), r1, r2, rfl⟩) (fun c hc => ?_) ?_)
    · rcases List.mem_cons.mp hc with rfl | hc
      · exact ⟨nl.h1, nl.hn, nl.h2⟩
      · exact r3 c hc
    · show (p :: (inner ps vss).map Prod.fst).Nodup
      rw [inner_fst r2]
      exact nl.nd
theorem sd_retLL (h : EvLL K te (shE ρ) dss) (k : D.rt (.oo dss)) : SD K (tRet te) ρ D := fun HE HE1 H H1 σ E ss n b c r =>
  h H σ H1 ss.er ss.ex _ fun p ps Hn H2 g nl => by
    obtain ⟨vss, r1, r2, r3⟩ := nl.cs
    exact r _ _ H2 k ⟨p, ps, Hn, rfl, ss.gr.trans g, ⟨ss.gr.all.back nl.h1, nl.hn, nl.h2, ⟨vss, r1, r2, fun c hc => ⟨ss.gr.all.back (r3 c hc).1, (r3 c hc).2⟩⟩, nl.nd⟩⟩
theorem atI_map {α β : Type} {f : α → β} {l : List α} {k : Int} {x : α} (h : atI l k = some x) : atI (l.map f) k = some (f x) := by
  unfold atI at h ⊢
  rw [List.length_map]
  cases z : ixN l.length k with
  | none => rw [z] at h; cases h
  | some n =>
    rw [z] at h
    show (l.map f)[n]? = _
    rw [List.getElem?_map, show l[n]? = some x from h]
    rfl
/-- x = y[e], y a list of own lists -/
theorem sd_asgAl {kk : Int} (hj : ρ[j]? = some (.oo p qs dss)) (hk : EvD K tk (viewE ρ) (.int kk)) (hq : atI qs kk = some q) (k : D.nx (ρ.set i (.al q))) : SD K (tAsg (tOp (rIx K) (tVar j) tk) (gName i)) ρ D := fun HE HE1 H H1 σ E ss n b c r => by
  obtain ⟨oo1, oo2, _⟩ := ss.oo_at hj
  refine ⟨_, oo1, ?_⟩
  obtain ⟨Hv, e1, e2, er⟩ := ss.view
  refine hk Hv σ H1 er e2 _ fun iv Hn H2 g ri => ?_
  cases ri
  refine .inl ⟨p, qs.map V.ref, kk, .ref q, rfl, rfl, SqL.of (g.all _ _ oo2), atI_map hq, ?_⟩
  exact n _ H H2 _ k (Ex.refl _) (ss.put (cs' := []) rfl (Gr.only ss.ex g.all) (fun hi => ⟨List.getElem?_set_self (by rw [← ss.len]; exact hi), rfl⟩) (fun c hc => by cases hc) List.nodup_nil)
/-- y[m] = e, y one of the lists of the slot i -/
theorem sd_setIn {kk m : Nat} (hj : ρ[j]? = some (.al q)) (hi : ρ[i]? = some (.oo p qs dss)) (hq : qs[kk]? = some q) (hd : dss[kk]? = some ds) (h : EvS K te ρ d) (hk : EvD K tk (viewE ρ) (.int (m : Int))) (hm : m < ds.length)
    (k : D.nx (ρ.set i (.oo p qs (dss.set kk (ds.set m d))))) : SD K (tAsg te (gSub (tVar j) tk rSetL)) ρ D := fun HE HE1 H H1 σ E ss n b c r =>
  h HE HE1 H H1 σ ss _ fun v Hn H2 g rv => by
    have s2 := ss.step g
    obtain ⟨css, hs, o⟩ := s2.own
    refine ⟨_, (hs j _ hj).1, ?_⟩
    obtain ⟨Hv, e1, e2, er⟩ := s2.view
    refine hk Hv σ H2 er e2 _ fun iv Hm H3 g3 ri => ?_
    cases ri
    have s3 := s2.grow g3.all
    obtain ⟨vs, hv, rs, wr⟩ := s3.writeIn hi hq hd
    exact ⟨q, vs, (m : Int), m, rfl, rfl, hv, by rw [rs.length]; exact ixN_at hm, n _ Hn _ _ k g.kn (wr _ _ (rs.set rv m))⟩
/-- x[m] = a new list, x a list of own lists -/
theorem sd_setOut {m : Nat} (hi : ρ[i]? = some (.oo p qs dss)) (h : EvSL K te ρ ds) (hk : EvD K tk (viewE ρ) (.int (m : Int))) (hm : m < qs.length) (k : ∀ q, D.nx (ρ.set i (.oo p (qs.set m q) (dss.set m ds)))) : SD K (tAsg te (gSub (tVar i) tk rSetL)) ρ D := fun HE HE1 H H1 σ E ss n b c r =>
  h HE HE1 H H1 σ ss _ fun q vs Hn H2 g h1 hn h2 rs => by
    have s2 := ss.step g
    obtain ⟨oo1, oo2, _⟩ := s2.oo_at hi
    refine ⟨_, oo1, ?_⟩
    obtain ⟨Hv, e1, e2, er⟩ := s2.view
    refine hk Hv σ H2 er e2 _ fun iv Hm H3 g3 ri => ?_
    cases ri
    have gg : Gr H H1 Hn H3 := ⟨g.kn, g.inn.trans g3.all, g.all.trans g3.all, g.new⟩
    refine ⟨p, qs.map V.ref, (m : Int), m, rfl, rfl, g3.all _ _ oo2, by rw [List.length_map]; exact ixN_at hm, ?_⟩
    have w := ss.writeOut (ds := ds) hi hm gg h1 hn (g3.all _ _ h2) rs
    rw [List.map_set] at w
    exact n _ Hn _ _ (k q) g.kn w
/-- for y in x, x a list of own lists, which the body may change -/
theorem sd_forOO (js : List Nat) (hi : ρ[i]? = some (.oo p qs dss)) (I : Nat → List Sl → Prop) (h0 : I 0 (fg js ρ)) (hI : ∀ m ρ', I m ρ' → ∃ dss', ρ'[i]? = some (.oo p qs dss'))
    (hs : ∀ m q ρ', qs[m]? = some q → I m ρ' → SD K tb (ρ'.set j (.al q)) { D with nx := fun ρ2 => I (m + 1) (fg js ρ2), ct := fun ρ2 => I (m + 1) (fg js ρ2), bk := fun ρ2 => D.nx (fg js ρ2) }) (hd : ∀ ρ', I qs.length ρ' → D.nx ρ') : SD K (tFor (iList K (tVar i)) (gName j) tb) ρ D := fun HE HE1 H H1 σ E ss n b c r => by
  obtain ⟨oo1, oo2, _⟩ := ss.oo_at hi
  refine ⟨_, oo1, ?_⟩
  refine ⟨p, rfl, ⟨qs.map V.ref, SqL.of oo2⟩, for_list (xs := qs.map V.ref) (Lw K HE HE1 H I) ⟨_, H, Ex.refl _, h0, ss.fg js⟩ (fun m σ' H' _ ⟨ρ', H3, e, hI', s3⟩ => ?_) (fun m x σ' H' hx ⟨ρ', H3, e, hI', s3⟩ => ?_) (fun σ' H' ⟨ρ', H3, e, hI', s3⟩ => n ρ' H3 H' σ' (hd ρ' (by rw [← List.length_map (f := V.ref)]; exact hI')) e s3)⟩
  · obtain ⟨dss', h'⟩ := hI m ρ' hI'
    exact SqL.of (s3.oo_at h').2.1
  · rw [List.getElem?_map] at hx
    cases hq : qs[m]? with
    | none => rw [hq] at hx; cases hx
    | some q =>
      rw [hq] at hx
      cases hx
      have s4 := s3.put (i := j) (v := .ref q) (s' := .al q) (cs' := []) rfl (Gr.refl s3.ex) (fun hi => ⟨List.getElem?_set_self (by rw [← s3.len]; exact hi), rfl⟩) (fun c hc => by cases hc) List.nodup_nil
      exact hs m q ρ' hq hI' HE HE1 H3 H' _ _ s4 (fun ρ3 H4 H14 σ3 q e4 s5 => ⟨_, H4, e.trans e4, q, s5.fg js⟩) (fun ρ3 H4 H14 σ3 q e4 s5 => n _ H4 H14 σ3 q (e.trans e4) (s5.fg js)) (fun ρ3 H4 H14 σ3 q e4 s5 => ⟨_, H4, e.trans e4, q, s5.fg js⟩) r
/-- for .. in a list, whatever the targets -/
theorem sd_forLg {tl : TE} {g : TG} (js : List Nat) (h : EvD K tl (shE ρ) a) (ha : a = .lst ds ∨ a = .rd ds) (I : Nat → List Sl → Prop) (h0 : I 0 (fg js ρ))
    (hs : ∀ m d ρ', ds[m]? = some d → I m ρ' → ∃ ρ1, TgS K g ρ' d ρ1 ∧ SD K tb ρ1 { D with nx := fun ρ2 => I (m + 1) (fg js ρ2), ct := fun ρ2 => I (m + 1) (fg js ρ2), bk := fun ρ2 => D.nx (fg js ρ2) }) (hd : ∀ ρ', I ds.length ρ' → D.nx ρ') : SD K (tFor (iList K tl) g tb) ρ D := fun HE HE1 H H1 σ E ss n b c r =>
  h H σ H1 ss.er ss.ex _ fun x H0 H2 g2 rx => by
    obtain ⟨p, ws, rfl, hp, rs⟩ : ∃ p ws, x = .ref p ∧ SqL K H0 p ws ∧ Rps K H0 ws ds := by
      rcases ha with rfl | rfl
      · cases rx with
        | lst h r => exact ⟨_, _, rfl, SqL.of h, r⟩
      · cases rx with
        | rd h r => exact ⟨_, _, rfl, h, r⟩
    refine ⟨p, rfl, ⟨ws, ex_l g2.inn hp⟩, for_list (Lw K HE HE1 H0 I) ⟨_, H0, Ex.refl _, h0, (ss.step g2).fg js⟩ (fun m σ' H' _ ⟨ρ', H3, e, _, s3⟩ => ex_l (e.trans s3.ex) hp) (fun m x σ' H' hx ⟨ρ', H3, e, hI, s3⟩ => ?_) (fun σ' H' ⟨ρ', H3, e, hI, s3⟩ => n ρ' H3 H' σ' (hd ρ' (by rw [← rs.length]; exact hI)) (g2.kn.trans e) s3)⟩
    obtain ⟨d, hd', rd⟩ := rs.getV hx
    obtain ⟨ρ1, tg, sd⟩ := hs m d ρ' hd' hI
    refine tg x HE HE1 H3 H' σ' s3 (rd.mono e) _ fun σ2 s4 => ?_
    exact sd HE HE1 H3 H' σ2 _ s4 (fun ρ3 H4 H14 σ3 q e4 s5 => ⟨_, H4, e.trans e4, q, s5.fg js⟩) (fun ρ3 H4 H14 σ3 q e4 s5 => n _ H4 H14 σ3 q ((g2.kn.trans e).trans e4) (s5.fg js)) (fun ρ3 H4 H14 σ3 q e4 s5 => ⟨_, H4, e.trans e4, q, s5.fg js⟩) r
end
/-- slots forgotten after a statement -/
theorem sd_fg {K : PySem.W.Frag} {t : TS} {ρ : List Sl} {D : DE} (js : List Nat) (h : SD K t ρ { D with nx := fun ρ' => D.nx (fg js ρ') }) : SD K t ρ D := fun HE HE1 H H1 σ E ss n b c r =>
  h HE HE1 H H1 σ E ss (fun ρ' H' H1' σ' q e s' => n _ H' H1' σ' q e (s'.fg js)) b c r
theorem atI_zero {α : Type} {d : α} {ds : List α} : atI (d :: ds) 0 = some d := by
  unfold atI ixN
  rw [if_pos (by decide), if_pos (by rw [List.length_cons]; omega)]
  rfl
theorem atI_one {α : Type} {d e : α} {ds : List α} : atI (d :: e :: ds) 1 = some e := by
  unfold atI ixN
  rw [if_pos (by decide), if_pos (by rw [List.length_cons, List.length_cons]; omega)]
  rfl
/-! ### == of equal data -/
mutual
/-- numbers and lists or tuples of such, not deeper than n -/
def shp : Nat → D → Bool
  | _, .int _ => true
  | _, .bl _ => true
  | _, .non => true
  | n + 1, .lst xs => shps n xs
  | n + 1, .rd xs => shps n xs
  | n + 1, .tup xs => shps n xs
  | _, _ => false
def shps : Nat → List D → Bool
  | _, [] => true
  | n, d :: ds => shp n d && shps n ds
end
mutual
theorem shp_ok : ∀ (n : Nat) (d : D), shp n d = true → plain d = true ∧ (py d).canLay0 = true ∧ (py d).depth ≤ n + 1
  | n, .int _, _ => ⟨rfl, by simp [py, PyData.canLay0], by simp [py, PyData.depth]⟩
  | n, .bl _, _ => ⟨rfl, by simp [py, PyData.canLay0], by simp [py, PyData.depth]⟩
  | n, .non, _ => ⟨rfl, by simp [py, PyData.canLay0], by simp [py, PyData.depth]⟩
  | 0, .lst _, h => by simp [shp] at h
  | 0, .rd _, h => by simp [shp] at h
  | 0, .tup _, h => by simp [shp] at h
  | n, .str _, h => by cases n <;> simp [shp] at h
  | n, .ins _ _ _, h => by cases n <;> simp [shp] at h
  | n, .dct _ _, h => by cases n <;> simp [shp] at h
  | n + 1, .lst xs, h => by
    obtain ⟨a, b, c⟩ := shps_ok n xs (by simpa [shp] using h)
    exact ⟨by simpa [plain] using a, by simpa [py, PyData.canLay0] using b, by simp [py, PyData.depth]; omega⟩
  | n + 1, .rd xs, h => by
    obtain ⟨a, b, c⟩ := shps_ok n xs (by simpa [shp] using h)
    exact ⟨by simpa [plain] using a, by simpa [py, PyData.canLay0] using b, by simp [py, PyData.depth]; omega⟩
  | n + 1, .tup xs, h => by
    obtain ⟨a, b, c⟩ := shps_ok n xs (by simpa [shp] using h)
    exact ⟨by simpa [plain] using a, by simpa [py, PyData.canLay0] using b, by simp [py, PyData.depth]; omega⟩
theorem shps_ok : ∀ (n : Nat) (ds : List D), shps n ds = true → plains ds = true ∧ PyData.canLayAll0 (pys ds) = true ∧ PyData.depthAll (pys ds) ≤ n + 1
  | n, [], _ => ⟨rfl, by simp [pys, PyData.canLayAll0], by simp [pys, PyData.depthAll]⟩
  | n, d :: ds, h => by
    have h' : shp n d = true ∧ shps n ds = true := by simpa [shps] using h
    obtain ⟨a, b, c⟩ := shp_ok n d h'.1
    obtain ⟨a2, b2, c2⟩ := shps_ok n ds h'.2
    exact ⟨by simp [plains, a, a2], by simp [pys, PyData.canLayAll0, b, b2], by simp [pys, PyData.depthAll]; omega⟩
end
theorem shps_dI (n : Nat) : ∀ ns : List Int, shps n (dI ns) = true
  | [] => by cases n <;> rfl
  | x :: ns => by
    show (shp n (.int x) && shps n (dI ns)) = true
    rw [shps_dI n ns]
    cases n <;> rfl
theorem shp_shaped {n : Nat} {d : D} (h : shp n d = true) (hn : n < 64) : SeqAt.shaped (py d) = true := by
  obtain ⟨_, b, c⟩ := shp_ok n d h
  unfold SeqAt.shaped
  rw [b, decide_eq_true (by omega)]
  rfl
theorem od_eqSame {K : PySem.W.Frag} {n : Nat} {a b : D} (h : shp n a = true) (h2 : shp n b = true) (hn : n < 64) (e : py a = py b) : OpD K (rEqD K) a b (.bl true) := by
  have q := od_eqD (K := K) (shp_ok n a h).1 (shp_ok n b h2).1 (shp_shaped h hn) (shp_shaped h2 hn)
  rw [← e, SeqAt.eqv_refl _ (shp_ok n a h).2.1] at q
  exact q
theorem od_neSame {K : PySem.W.Frag} {n : Nat} {a b : D} (h : shp n a = true) (h2 : shp n b = true) (hn : n < 64) (e : py a = py b) : OpD K (rNeD K) a b (.bl false) := by
  have q := od_neD (K := K) (shp_ok n a h).1 (shp_ok n b h2).1 (shp_shaped h hn) (shp_shaped h2 hn)
  rw [← e, SeqAt.eqv_refl _ (shp_ok n a h).2.1] at q
  exact q
theorem ed_lst {K : PySem.W.Frag} {η : Env} {ta : TA} {as : List D} (ha : EvA K ta η as) (hl : as.length ≤ sizeLine) : EvD K (tLst ta) η (.lst as) := EvL.data (el_lst ha hl)
/-! ### a dict comprehension that is assigned; pair targets -/
theorem swD {kx vx : Expr} {gs : List Comprehension} {scope : Scope} {pos py : Pos} {y : Str} {l : Nat} {env : PySem.Env} (hk : env.scope.kind = .function) (hy : env.scope.names.lookup y = some .local) (hl : (py.line == pos.line) = true)
    (ha : (scope.names.any fun (n, k) => n == y && (k == .local || k == .cell)) = false) : swapsWith (.DictComp kx vx gs scope pos) (some (.Name y py)) l env = pure true := by
  have ky : env.kindOf y = some .local := hy
  have hb : env.blockKind = .function := by unfold Env.blockKind; rw [hk]; rfl
  unfold swapsWith
  simp only [hb, ky, ha, Expr.pos, hl]
  rfl
theorem ps_setDc {X : Cx} {i : Nat} {y : Str} {py : Pos} {kx vx tg iter : Expr} {ifs : List Expr} {scope : Scope} {own : List (Str × Nat)} {pos spos : Pos} {wi : TI} {g : TG} {tt : TT} {tk tv : TE} (hc : X.calm = true) (hN : X.N.Nodup) (hy : X.N[i]? = some y) (hyl : X.env.scope.names.lookup y = some .local)
    (hsw : swapsWith (.DictComp kx vx [⟨tg, iter, ifs, 0⟩] scope pos) (some (.Name y py)) spos.line X.env = pure true) (hi : PI X tg iter wi) (ok : BlkOk X.N X.env.scope scope own)
    (hg : ∀ (s : Shared) (H : Hp) (C : Addr) (cl : List (Str × Addr)) (fp : List Addr), PG (X.blk s H scope (compEnvC scope cl C X.env) fp) tg g) (ht : ∀ (s : Shared) (H : Hp) (C : Addr) (cl : List (Str × Addr)) (fp : List Addr), PTs (X.blk s H scope (compEnvC scope cl C X.env) fp) ifs tt)
    (hk : ∀ (s : Shared) (H : Hp) (C : Addr) (cl : List (Str × Addr)) (fp : List Addr), PE (X.blk s H scope (compEnvC scope cl C X.env) fp) kx tk)
    (he : ∀ (s : Shared) (H : Hp) (C : Addr) (cl : List (Str × Addr)) (fp : List Addr), PE (X.blk s H scope (compEnvC scope cl C X.env) fp) vx tv) (hs : ∀ x, foldedSetIterable iter X.env x = pure x := by intro _; rfl) :
    PS X (.Assign [.Name y py] (.DictComp kx vx [⟨tg, iter, ifs, 0⟩] scope pos) spos) (tAsg (tDc wi g tt tk tv (own.map (·.2))) (gName i)) := by
  refine ⟨fun pins s σ H D I h => ?_⟩
  rw [exec_Assign_Name_used _ _ _ _ hsw]
  refine wpAny_bind (wpAny_standAt (wpAny_bind ?_))
  show wpAny _ X.A (do let _ ← comprehension (.DictComp kx vx [⟨tg, iter, ifs, 0⟩] scope pos) scope X.env (firstIterPos [⟨tg, iter, ifs, 0⟩] pos) newDict false (eval iter X.env) (some (assign (.Name y py) X.env))) _ _ s
  have h : tDc wi g tt tk tv (own.map (·.2)) σ H (fun x H1 => gName i x σ H1 D.nx) := h
  refine wpAny_bind (thn (dc_core (Qf := fun _ s' => SP X pins D .next s') hc hN I hi ok hg ht hk he hs h fun L C s' m H' I' q hn f => ?_) fun _ s' hq => wpAny_pure (wpAny_pure hq))
  show wpAny _ _ (assign (.Name y py) X.env (.ref L)) _ _ _
  refine wpAny_assign_Name (store_ok2 (v := V.ref L) I' hN hy (.inl hyl) rfl (fun s2 I2 ⟨a, sb, ha⟩ => ?_) (.inr hyl))
  obtain ⟨f0, f1, f2, f3, f4, f5⟩ := f
  have haC : C ≠ a := by
    rcases ha with z | z
    · rw [z]; exact f1
    · exact fun e => f4 y a z e.symm
  refine ⟨m, hn.sameBut sb haC, fun h3 sb3 => ?_⟩
  exact ⟨_, H', I2.turned (t' := s2.toks) (fun b o hb e => (sb3.2 b hb).trans e) f0 f1 f3 f4 f5, q⟩
theorem pg_tupC {X : Cx} {K : PySem.W.Frag} {es : List Expr} {k : Nat} {t : TGs} {n : Nat} {pos : Pos} (hK : X.K = K) (hc : X.calm = true) (h : PGs X es t)
    (hn : (assignEach es X.env).length = n := by rfl) (hst : (assignEach es X.env).findIdx? (·.1) = none := by rfl) : PG X (.Tuple es k pos) (gTup K n t) := by subst hK; exact pg_tup hc h hn hst
end DL

set_option Elab.async false
set_option linter.all false
set_option maxRecDepth 100000
set_option maxHeartbeats 4000000
/-! DL7: // and lcm of numbers of any size. -/
namespace DL
open PySem PySem.Spec PyProof.Rows L2

/-- what the text's objects must say so that nobody looks into a great division -/
def seerB (K : PySem.W.Frag) : Bool :=
  (PySem.W.nsOkIn K cStatics && (PySem.W.nsIn K cStatics "sys.audit-hooks" == some none) && (PySem.W.nsIn K cStatics "sys.dict" == some none)) &&
  ((PySem.W.nsOkIn K sysModules && (PySem.W.nsIn K sysModules "_pylong" == some none)) &&
  (match PySem.W.nsIn K mainGlobals "__builtins__" with
    | some (some (.ref bm)) => (match K.lookup bm with
      | some ob => (ob.cls == .type "module") && (ob.dict == some builtinsNs)
      | none => false)
    | _ => false))
theorem noSeer_of {K : PySem.W.Frag} {mg : Str → Option Value} {base : Heap} (M : Mod K mg base) (h : seerB K = true) : base.NoSeer := by
  unfold seerB at h
  obtain ⟨h1, h2⟩ := Bool.and_eq_true_iff.mp h
  obtain ⟨h2, h3⟩ := Bool.and_eq_true_iff.mp h2
  obtain ⟨h1, a3⟩ := Bool.and_eq_true_iff.mp h1
  obtain ⟨a1, a2⟩ := Bool.and_eq_true_iff.mp h1
  obtain ⟨b1, b2⟩ := Bool.and_eq_true_iff.mp h2
  refine ⟨⟨_, .of_isNs (PySem.W.isNs_of_in M.kin a1), PySem.W.nsMap_none_of_in M.kin a1 (beq_iff_eq.mp a2), PySem.W.nsMap_none_of_in M.kin a1 (beq_iff_eq.mp a3)⟩,
    ⟨_, .of_isNs (PySem.W.isNs_of_in M.kin b1), PySem.W.nsMap_none_of_in M.kin b1 (beq_iff_eq.mp b2)⟩, M.blt, ?_⟩
  split at h3
  · rename_i bm e
    split at h3
    · rename_i ob eo
      obtain ⟨c1, c2⟩ := Bool.and_eq_true_iff.mp h3
      exact ⟨_, bm, ob, M.glob, PySem.W.mg_of M.kin M.glob e, M.kin _ _ eo, beq_iff_eq.mp c1, beq_iff_eq.mp c2⟩
    · cases h3
  · cases h3

/-- room for such a division -/
structure PyF (P : Program) (K : PySem.W.Frag) (stack : List PySem.Env) (A : Around) : Prop where
  tree : P.given.tree = none
  sb : seerB K = true
  fr : ∃ env l, stack = env :: l ∧ env.scope.isGenerator = false ∧ env.scope.isCoroutine = false ∧ env.builtins = builtinsNs ∧ env.globals = mainGlobals
  dp : A.depth + 100 < recursionLimit
/-- the same of a program -/
structure Nos (P : Program) (K : PySem.W.Frag) : Prop where
  tree : P.given.tree = none
  sb : seerB K = true
theorem py_of {P : Program} {K : PySem.W.Frag} {qual : Str} {scope : Scope} {f : Addr} {cdv : Value} {A : Around} {outer : List PySem.Env} {n k : Nat} (N : Nos P K)
    (hr : Room k (A.deeper (envOfC qual scope n f cdv))) (hk : 32 ≤ k) (hg : scope.isGenerator = false) (hc : scope.isCoroutine = false) : PyF P K (envOfC qual scope n f cdv :: outer) (A.deeper (envOfC qual scope n f cdv)) :=
  ⟨N.tree, N.sb, ⟨_, _, rfl, hg, hc, rfl, rfl⟩, by have := hr.dp; omega⟩
section
variable {X : Cx} {pins : List (Addr × Obj)} {σ : List (Option V)} {H : Hp} {s : Shared}
theorem seer_at (hp : PyF X.prog X.K X.stack X.A) (I : Inv X pins σ H s) : SeerAt (model X.prog X.w) X.A s.heap := by
  obtain ⟨env, l, e, g1, g2, g3, g4⟩ := hp.fr
  exact SeerAt.of ((noSeer_of I.ok.mod hp.sb).keeps I.bk) hp.tree (by rw [I.ok.frames, e]) g1 g2 g3 g4
/-- // by a number above zero, of any size -/
theorem op_fdivX (hp : PyF X.prog X.K X.stack X.A) : OpR X (binaryOp .FloorDiv) (rI (fun _ j => 0 < j) fun i j => .int (i / j)) := by
  intro pins s σ H x y v u Q I rx ry h
  obtain ⟨i, j, rfl, rfl, hc, q⟩ := h
  obtain ⟨t, rfl⟩ := rx
  obtain ⟨t', rfl⟩ := ry
  refine floordiv_int (by omega) ?_ (.inr (PylongRoom.of I.nolimit hp.dp (seer_at hp I)))
  rw [Int.fdiv_eq_ediv_of_nonneg i (by omega)]
  exact ⟨.int _, H, I.tok _, ⟨_, rfl⟩, q⟩
end
/-- room for a great divisor's inverse -/
def InvRoom (M : Model) (A : Around) (s : Shared) : Prop :=
  ∀ (u n : Nat) (E : Value → Shared → Prop) (Q : Unit → Shared → Prop), Q () s → wpAny M { A with units := u } (Builtin.roomForPylongsInverse n) Q E s
theorem InvRoom.of {M : Model} {A : Around} {s : Shared} (hl : s.heap.NoLimit) (hd : A.depth + Builtin.pylongFrames < recursionLimit) (hs : SeerAt M A s.heap) : InvRoom M A s := fun u n E Q h => by
  unfold Builtin.roomForPylongsInverse
  by_cases hb : n.log2 / 30 + 1 > 450
  · rw [if_pos hb]
    refine wpAny_bind (hs u s E _ rfl ?_)
    exact wpAny_pylongFrames (A := { A with units := u }) hl hd h
  · rw [if_neg hb]
    exact wpAny_pure h
section
variable {prog : Program} {w : World}
theorem lcm_in (a b : Int) (t u : Tok) (hsz : ((((Nat.lcm 1 a.natAbs).lcm b.natAbs : Nat) : Int)).natAbs.log2 < bitsLine) :
    MeetsIn prog w (Builtin.«math.lcm» ⟨[.int a t, .int b u], []⟩) (fun A R s => InvRoom (model prog w) A s ∧ R (.ok (.ret (.int ((((Nat.lcm 1 a.natAbs).lcm b.natAbs : Nat) : Int)) s.toks))) { s with toks := s.toks + 1 }) :=
  .of_wp fun A R s h => by
    obtain ⟨hp, g, d, tk, os⟩ := s
    obtain ⟨hroom, h⟩ := h
    have r1 : ∀ (n : Nat) (E : Value → Shared → Prop) (Q : Unit → Shared → Prop), Q () (Shared.mk hp g d tk os) → wpAny (model prog w) A.in1 (Builtin.roomForPylongsInverse n) Q E (Shared.mk hp g d tk os) := fun n E Q q => hroom _ n E Q q
    wp_walk using (r1 _ _ _)
    all_goals first | (refine wpAny_ite_false (decide_eq_false (Nat.not_le.mpr hsz)) ?_; wp_walk) | skip
    exact ⟨_, rfl, h⟩
end
section
variable {X : Cx}
/-- math.lcm of two numbers of any size below the line -/
def rLcmX : List V → Hp → VK → Prop := fun vs H Q => ∃ a b : Int, vs = [.int a, .int b] ∧ (a.natAbs < 2 ^ 400000 ∧ b.natAbs < 2 ^ 400000) ∧ Q (.int ((Nat.lcm a.natAbs b.natAbs : Nat) : Int)) H
theorem lcm_small {a b : Nat} (ha : a < 2 ^ 400000) (hb : b < 2 ^ 400000) : (Nat.lcm a b).log2 < bitsLine := by
  have hle : Nat.lcm a b ≤ a * b := Nat.div_le_self _ _
  have hlt : Nat.lcm a b < 2 ^ 800000 := by
    refine Nat.lt_of_le_of_lt hle ?_
    rw [show (800000 : Nat) = 400000 + 400000 from rfl, Nat.pow_add]
    exact Nat.mul_lt_mul'' ha hb
  rw [PySem.bitsLine_eq]
  by_cases h0 : Nat.lcm a b = 0
  · rw [h0, Nat.log2_zero]; decide
  · have := (Nat.log2_lt h0).mpr hlt
    omega
theorem cr_lcmX (hp : PyF X.prog X.K X.stack X.A) : CallR X (.builtin "math.lcm") rLcmX := by
  intro pins s σ H vs us Q I r h
  obtain ⟨a, b, rfl, hz, q⟩ := h
  obtain ⟨t, u, rfl⟩ := Vals.int2 r
  have e1 : Nat.lcm 1 a.natAbs = a.natAbs := Nat.lcm_one_left _
  have hsz : (((((Nat.lcm 1 a.natAbs).lcm b.natAbs : Nat) : Int))).natAbs.log2 < bitsLine := by
    rw [e1, Int.natAbs_natCast]
    exact lcm_small hz.1 hz.2
  have ok := PySem.W.MGF.args_lcm (.int a t) (.int b u)
  refine wpAny_call (codeAny_call_builtin PySem.W.MGF.plain_lcm PySem.W.MGF.entry_lcm ?_)
  have fin := fun (R : Result → Shared → Prop) (hR : R (.ok (.ret (.int ((Nat.lcm a.natAbs b.natAbs : Nat) : Int) s.toks))) { s with toks := s.toks + 1 }) => lcm_in (prog := X.prog) (w := X.w) a b t u hsz X.A R s ⟨InvRoom.of I.nolimit hp.dp (seer_at hp I), by rw [e1]; exact hR⟩
  unfold checkBuiltinCall
  unfold argsOk at ok
  rw [PySem.W.MGF.kind_lcm]
  generalize Manifest.signature? "math.lcm" = sg at ok
  cases sg with
  | none =>
    refine wpAny_pure (fin (wants _ _) ?_)
    exact ⟨.int _, H, I.tok _, ⟨_, rfl⟩, q⟩
  | some g =>
    have ok : Bind.checkArgs "math.lcm" g ⟨[.int a t, .int b u], []⟩ = pure () := ok
    show wpAny _ _ (Bind.checkArgs "math.lcm" g ⟨[.int a t, .int b u], []⟩) _ _ s
    rw [ok]
    refine wpAny_pure (fin (wants _ _) ?_)
    exact ⟨.int _, H, I.tok _, ⟨_, rfl⟩, q⟩
/-! on data -/
theorem od_divX {K : PySem.W.Frag} {i j : Int} (h : 0 < j) : OpD K (rI (fun _ j => 0 < j) fun i j => .int (i / j)) (.int i) (.int j) (.int (i / j)) := od_I h
theorem cd_lcmX {K : PySem.W.Frag} {a b : Int} (ha : a.natAbs < 2 ^ 400000) (hb : b.natAbs < 2 ^ 400000) : CbD K rLcmX [.int a, .int b] (.int ((Nat.lcm a.natAbs b.natAbs : Nat) : Int)) := fun xs H H1 rx e Q q => by
  cases rx with
  | cons r1 t =>
    cases t with
    | cons r2 t =>
      cases t
      cases r1
      cases r2
      exact ⟨a, b, rfl, ⟨ha, hb⟩, q _ H H1 (Gr.refl e) (.int _)⟩
end
end DL

set_option Elab.async false
set_option linter.all false
set_option maxRecDepth 100000
set_option maxHeartbeats 4000000
/-! DL8: loops over a list or a tuple, whichever is handed in. -/
namespace DL
open PySem PySem.Spec PyProof.Rows L2
def iSeq (K : PySem.W.Frag) (tl : TE) : TI := fun σ H R => tl σ H fun x H1 => ∃ a, x = .ref a ∧ (((∃ xs, SqL K H1 a xs) ∧ R (Itl K a) H1) ∨ ((∃ xs, SqT K H1 a xs) ∧ R (Itt K a) H1))
theorem pi_seqC {X : Cx} {K : PySem.W.Frag} {tg l : Expr} {tl : TE} (hK : X.K = K) (hl : PE X l tl) : PI X tg l (iSeq K tl) := by
  subst hK
  constructor
  intro pins s σ H R I h
  refine thn (hl.run pins s σ H _ I h) ?_
  rintro v t ⟨x, Hx, J, rx, a, rfl, hq⟩
  cases rx
  have fr : ∀ c ∈ [t.heap.objs.size], FpOk _ _ _ c := fun c hc => by
    cases (List.mem_singleton.mp hc)
    exact J.fpOk (Nat.le_refl _) (J.hok.fresh (Nat.le_refl _))
  rcases hq with ⟨⟨xs, hx⟩, q⟩ | ⟨⟨xs, hx⟩, q⟩
  · obtain ⟨us, ru, pu, zu⟩ := J.list hx
    refine wpAny_pyIter_list pu.isList ⟨t.heap.objs.size, [t.heap.objs.size], _, _, Hx, rfl, ?_, turn_list a _, ⟨_, Heap.get?_push_size _ rfl, rfl, rfl⟩, fr, q⟩
    exact J.kept (t' := t.toks) fun b o e => Heap.get?_push_of_some _ e
  · obtain ⟨us, ru, pu, zu⟩ := J.tuple hx
    refine wpAny_pyIter_tuple (show t.heap.IsTuple a us.toArray from pu) ⟨t.heap.objs.size, [t.heap.objs.size], _, _, Hx, rfl, ?_, turn_tuple a _, ⟨_, Heap.get?_push_size _ rfl, rfl, rfl⟩, fr, q⟩
    exact J.kept (t' := t.toks) fun b o e => Heap.get?_push_of_some _ e
section
variable {K : PySem.W.Frag} {η : Env} {t : TT} {te : TE} {ds : List D} {k : Bool}
theorem rp_seq {H : Hp} {x : V} (r : Rp K H x (seqD k ds)) : ∃ p ws, x = .ref p ∧ Rps K H ws ds ∧ ((k = false ∧ SqL K H p ws) ∨ (k = true ∧ SqT K H p ws)) := by
  cases k with
  | true =>
    have r : Rp K H x (.tup ds) := r
    cases r with
    | tup h rs => exact ⟨_, _, rfl, rs, .inr ⟨rfl, h⟩⟩
  | false =>
    have r : Rp K H x (.lst ds) := r
    cases r with
    | lst h rs => exact ⟨_, _, rfl, rs, .inl ⟨rfl, SqL.of h⟩⟩
theorem el_lcQ {tl : TE} {tg : TG} {vs : List Nat} (f : Nat → Bool) (v : Nat → D) (h : EvD K tl η (seqD k ds)) (hz : ds.length ≤ 10000000)
    (hs : ∀ (i : Nat) (d : D), ds[i]? = some d → ∃ η', TgD K vs tg (wipeE η vs) d η' ∧ EvT K t η' (f i) ∧ (f i = true → EvD K te η' (v i))) : EvL K (tLc (iSeq K tl) tg t te vs) η (given ds.length f v) := fun H σ Ha er e Q q =>
  h H σ Ha er e _ fun x H0 H1 g rx => by
    obtain ⟨p, ws, rfl, rs, hp⟩ := rp_seq rx
    have turn : ∀ (Dl : Addr) (i : Nat) (x : V) (H' : Hp), ws[i]? = some x → Cw K H0 H1 f v Dl i H' → tg x (L2.wipe σ vs) H' fun σ2 H2 => L2.wipe σ2 vs = L2.wipe σ vs ∧ t σ2 H2 fun b H3 =>
        if b = true then te σ2 H3 fun y H4 => ∃ acc, H4 Dl = some (.lst acc) ∧ acc.length < sizeLine ∧ Cw K H0 H1 f v Dl (i + 1) (upd H4 Dl (.lst (acc ++ [y]))) else Cw K H0 H1 f v Dl (i + 1) H3 := fun Dl i x H' hi p => by
      obtain ⟨d, hd, rd⟩ := rs.getV hi
      obtain ⟨η', htg, ht, he⟩ := hs i d hd
      have hl : i < ds.length := (List.getElem?_eq_some_iff.mp hd).1
      have p2 := p
      obtain ⟨_, Hm, _, g2, _⟩ := p2
      refine htg x H0 _ H' ((er.mono g.kn).wipe vs) rd (g2.kn.trans g2.inn) _ fun σ' er' hw => ⟨hw.trans wipe_wipe, ?_⟩
      exact cw_turn p (by omega) (fun Hm e1 _ => er'.mono e1) ht he
    have fin : ∀ (Dl : Addr) (H' : Hp), Cw K H0 H1 f v Dl ws.length H' → Q (.ref Dl) H' := fun Dl H' p => cw_end g (by rw [← rs.length]; exact p) q
    rcases hp with ⟨_, hp⟩ | ⟨_, hp⟩
    · exact ⟨p, rfl, .inl ⟨⟨ws, ex_l g.inn hp⟩, fun Dl hD => lc_list (xs := ws) (Cw K H0 H1 f v Dl) (cw_start g.inn hD) (fun i H' _ ⟨_, Hm, _, g2, _⟩ => ex_l (g2.kn.trans g2.inn) hp) (turn Dl) (fin Dl)⟩⟩
    · exact ⟨p, rfl, .inr ⟨⟨ws, ex_t g.inn hp⟩, fun Dl hD => lc_tup (xs := ws) (Cw K H0 H1 f v Dl) (cw_start g.inn hD) (fun i H' _ ⟨_, Hm, _, g2, _⟩ => ex_t (g2.kn.trans g2.inn) hp) (turn Dl) (fin Dl)⟩⟩
end
section
variable {K : PySem.W.Frag} {ρ : List Sl} {D : DE} {ds : List DL.D} {k : Bool} {i : Nat} {tb : TS}
theorem sd_forQg {tl : TE} {g : TG} (js : List Nat) (h : EvD K tl (shE ρ) (seqD k ds)) (I : Nat → List Sl → Prop) (h0 : I 0 (fg js ρ))
    (hs : ∀ m d ρ', ds[m]? = some d → I m ρ' → ∃ ρ1, TgS K g ρ' d ρ1 ∧ SD K tb ρ1 { D with nx := fun ρ2 => I (m + 1) (fg js ρ2), ct := fun ρ2 => I (m + 1) (fg js ρ2), bk := fun ρ2 => D.nx (fg js ρ2) }) (hd : ∀ ρ', I ds.length ρ' → D.nx ρ') : SD K (tFor (iSeq K tl) g tb) ρ D := fun HE HE1 H H1 σ E ss n b c r =>
  h H σ H1 ss.er ss.ex _ fun x H0 H2 g2 rx => by
    obtain ⟨p, ws, rfl, rs, hp⟩ := rp_seq rx
    have turn : ∀ m x σ' H', ws[m]? = some x → Lw K HE HE1 H0 I m σ' H' → g x σ' H' fun σ2 H2 => tb { nx := Lw K HE HE1 H0 I (m + 1), ct := Lw K HE HE1 H0 I (m + 1), bk := E.nx, rt := E.rt } σ2 H2 := fun m x σ' H' hx ⟨ρ', H3, e, hI, s3⟩ => by
      obtain ⟨d, hd', rd⟩ := rs.getV hx
      obtain ⟨ρ1, tg, sd⟩ := hs m d ρ' hd' hI
      refine tg x HE HE1 H3 H' σ' s3 (rd.mono e) _ fun σ2 s4 => ?_
      exact sd HE HE1 H3 H' σ2 _ s4 (fun ρ3 H4 H14 σ3 q e4 s5 => ⟨_, H4, e.trans e4, q, s5.fg js⟩) (fun ρ3 H4 H14 σ3 q e4 s5 => n _ H4 H14 σ3 q ((g2.kn.trans e).trans e4) (s5.fg js)) (fun ρ3 H4 H14 σ3 q e4 s5 => ⟨_, H4, e.trans e4, q, s5.fg js⟩) r
    have fin : ∀ σ' H', Lw K HE HE1 H0 I ws.length σ' H' → E.nx σ' H' := fun σ' H' ⟨ρ', H3, e, hI, s3⟩ => n ρ' H3 H' σ' (hd ρ' (by rw [← rs.length]; exact hI)) (g2.kn.trans e) s3
    rcases hp with ⟨_, hp⟩ | ⟨_, hp⟩
    · exact ⟨p, rfl, .inl ⟨⟨ws, ex_l g2.inn hp⟩, for_list (Lw K HE HE1 H0 I) ⟨_, H0, Ex.refl _, h0, (ss.step g2).fg js⟩ (fun m σ' H' _ ⟨ρ', H3, e, _, s3⟩ => ex_l (e.trans s3.ex) hp) turn fin⟩⟩
    · exact ⟨p, rfl, .inr ⟨⟨ws, ex_t g2.inn hp⟩, for_tup (Lw K HE HE1 H0 I) ⟨_, H0, Ex.refl _, h0, (ss.step g2).fg js⟩ (fun m σ' H' _ ⟨ρ', H3, e, _, s3⟩ => ex_t (e.trans s3.ex) hp) turn fin⟩⟩
theorem sd_forQn {tl : TE} (js : List Nat) (h : EvD K tl (shE ρ) (seqD k ds)) (I : Nat → List Sl → Prop) (h0 : I 0 (fg js ρ))
    (hs : ∀ m d ρ', ds[m]? = some d → I m ρ' → SD K tb (ρ'.set i (.sh d)) { D with nx := fun ρ2 => I (m + 1) (fg js ρ2), ct := fun ρ2 => I (m + 1) (fg js ρ2), bk := fun ρ2 => D.nx (fg js ρ2) }) (hd : ∀ ρ', I ds.length ρ' → D.nx ρ') : SD K (tFor (iSeq K tl) (gName i) tb) ρ D :=
  sd_forQg js h I h0 (fun m d ρ' hx hI => ⟨_, ts_name, hs m d ρ' hx hI⟩) hd
end
section
variable {K : PySem.W.Frag} {η : Env} {t : TT} {te : TE}
/-- a comprehension over range(lo, hi) -/
theorem el_lcR2 {ta : TA} {tg : TG} {vs : List Nat} {lo hi : Int} (f : Nat → Bool) (v : Nat → D) (h : EvA K ta η [.int lo, .int hi]) (h1 : -10000000 ≤ lo ∧ lo ≤ 10000000) (h2 : -10000000 ≤ hi ∧ hi ≤ 10000000) (hz : hi - lo ≤ 10000000)
    (hs : ∀ (i : Nat), (i : Int) < hi - lo → ∃ η', TgD K vs tg (wipeE η vs) (.int (lo + i)) η' ∧ EvT K t η' (f i) ∧ (f i = true → EvD K te η' (v i))) : EvL K (tLc (iRng2 ta) tg t te vs) η (given (hi - lo).toNat f v) := fun H σ Ha er e Q q =>
  h H σ Ha er e _ fun xs H0 H1 g rx => by
    cases rx with
    | cons rx tt =>
    cases tt with
    | cons ry tt =>
    cases tt
    cases rx
    cases ry
    refine ⟨lo, hi, rfl, by omega, fun Dl hD => lc_range (lo := lo) (n := (hi - lo).toNat) (Cw K H0 H1 f v Dl) (cw_start g.inn hD) (fun i H' hi p => ?_) (fun H' p => cw_end g p q)⟩
    obtain ⟨η', htg, ht, he⟩ := hs i (by omega)
    have p2 := p
    obtain ⟨_, Hm, _, g2, _⟩ := p2
    refine htg _ H0 _ H' ((er.mono g.kn).wipe vs) (.int (lo + (i : Int))) (g2.kn.trans g2.inn) _ fun σ' er' hw => ⟨hw.trans wipe_wipe, ?_⟩
    exact cw_turn p (by omega) (fun Hm e1 _ => er'.mono e1) ht he
end
end DL

set_option Elab.async false
set_option linter.all false
set_option maxRecDepth 100000
set_option maxHeartbeats 4000000
/-! DLH: what the head shows of the top's objects, of the statics and of the modules. -/
namespace DL
open PySem PySem.Spec PyProof.Rows L2
def asS (g : Addr → Option Obj) (n : Nat) : List Addr := He.asD g n ++ [cStatics, sysModules]
abbrev AlS : Type := He.AlD × Bool
def obsS (n : Nat) (fa : List He.Fa) (fn : List He.DefD) (ex : PySem.W.Frag → Bool) (g : Addr → Option Obj) : AlS := (He.obsD fa fn (He.frG g (asS g n)), ex (He.frG g (asS g n)))
structure SaysS (fa : List He.Fa) (fn : List He.DefD) (ex : PySem.W.Frag → Bool) (K : PySem.W.Frag) : Prop where
  d : He.SaysD fa fn K
  more : ex K = true
def hookS (n : Nat) (fa : List He.Fa) (fn : List He.DefD) (ex : PySem.W.Frag → Bool) : PySem.W.Hook where
  α := AlS
  obs := fun s => obsS n fa fn ex s.heap.get?
  val := fun _ => (He.valD fn, true)
  says := fun _ h => ∃ K : PySem.W.Frag, K.In h ∧ SaysS fa fn ex K
  of := fun _ s e => ⟨He.frG s.heap.get? (asS s.heap.get? n), He.frG_in, congrArg (fun z : AlS => z.1) e, congrArg (fun z : AlS => z.2) e⟩
  keeps := fun _ _ _ ⟨K, hK, c⟩ k => ⟨K, PySem.W.Frag.In.keeps hK k, c⟩
theorem obsS_eq {n : Nat} {fa : List He.Fa} {fn : List He.DefD} {ex : PySem.W.Frag → Bool} {g : Addr → Option Obj} {s : Shared} (h : ∀ a, g a = s.heap.get? a) : obsS n fa fn ex g = (hookS n fa fn ex).obs s := by
  rw [show g = s.heap.get? from funext h]
  rfl
end DL

set_option Elab.async false
set_option linter.all false
set_option maxRecDepth 100000
set_option maxHeartbeats 4000000
namespace K02
open PySem PySem.Spec PyProof.Rows L2
def top (i : Nat) : Stmt := PySem.Challenge.pw_ledbymarks_k02_whole_solutions_and_basis.main.body.getD i (.Pass ⟨0, 0, 0, 0⟩)
abbrev sRatio : Stmt := top 5
abbrev sRow : Stmt := top 7
abbrev sRowOf : Stmt := top 8
abbrev sLowest : Stmt := top 10
abbrev sCleared : Stmt := top 11
abbrev sFreeEntry : Stmt := top 12
abbrev sEliminated : Stmt := top 13
abbrev sBarOf : Stmt := top 15
abbrev sSolved : Stmt := top 16
abbrev sNullVector : Stmt := top 17
abbrev sNullBasis : Stmt := top 18
abbrev sRank : Stmt := top 19
abbrev sLawWhole : Stmt := top 21
abbrev sLawCell : Stmt := top 22
abbrev sLawDigits : Stmt := top 23
abbrev sLawGcd : Stmt := top 24
abbrev sLawCommon : Stmt := top 25
abbrev sLawIsRow : Stmt := top 26
abbrev sLawSum : Stmt := top 27
abbrev sLawLong : Stmt := top 28
abbrev sLawMixed : Stmt := top 29
abbrev sLawTurned : Stmt := top 30
abbrev sLawLowest : Stmt := top 31
abbrev sLawRank : Stmt := top 32
abbrev sLawDense : Stmt := top 33
abbrev sLawTwins : Stmt := top 34
abbrev sLawSizes : Stmt := top 35
abbrev sLawPlanted : Stmt := top 36
abbrev sLawIsBasis : Stmt := top 37
abbrev sLawRanked : Stmt := top 38
abbrev sLawRight : Stmt := top 39
abbrev sLawBothSides : Stmt := top 40
abbrev sLaw : Stmt := top 41
abbrev sZeroBottom_Init : Stmt := inClass (top 3) 0
abbrev sSolution_Init : Stmt := inClass (top 14) 0
structure Txt (K : PySem.W.Frag) (mg : Str → Option Value) : Prop where
  f_Ratio : ∃ fd, FunD K "ratio" "ratio" (defArgs sRatio) (defBody sRatio) (defScope sRatio) [.int 1] [] (He.ga K "ratio") fd
  g_Ratio : mg "ratio" = some (.ref (He.ga K "ratio"))
  f_Row : ∃ fd, FunD K "row" "row" (defArgs sRow) (defBody sRow) (defScope sRow) [.int 1] [] (He.ga K "row") fd
  g_Row : mg "row" = some (.ref (He.ga K "row"))
  f_RowOf : ∃ fd, FunD K "row_of" "row_of" (defArgs sRowOf) (defBody sRowOf) (defScope sRowOf) [] [] (He.ga K "row_of") fd
  g_RowOf : mg "row_of" = some (.ref (He.ga K "row_of"))
  f_Lowest : ∃ fd, FunD K "lowest" "lowest" (defArgs sLowest) (defBody sLowest) (defScope sLowest) [] [] (He.ga K "lowest") fd
  g_Lowest : mg "lowest" = some (.ref (He.ga K "lowest"))
  f_Cleared : ∃ fd, FunD K "cleared" "cleared" (defArgs sCleared) (defBody sCleared) (defScope sCleared) [] [] (He.ga K "cleared") fd
  g_Cleared : mg "cleared" = some (.ref (He.ga K "cleared"))
  f_FreeEntry : ∃ fd, FunD K "free_entry" "free_entry" (defArgs sFreeEntry) (defBody sFreeEntry) (defScope sFreeEntry) [] [] (He.ga K "free_entry") fd
  g_FreeEntry : mg "free_entry" = some (.ref (He.ga K "free_entry"))
  f_Eliminated : ∃ fd, FunD K "eliminated" "eliminated" (defArgs sEliminated) (defBody sEliminated) (defScope sEliminated) [] [] (He.ga K "eliminated") fd
  g_Eliminated : mg "eliminated" = some (.ref (He.ga K "eliminated"))
  f_BarOf : ∃ fd, FunD K "bar_of" "bar_of" (defArgs sBarOf) (defBody sBarOf) (defScope sBarOf) [] [] (He.ga K "bar_of") fd
  g_BarOf : mg "bar_of" = some (.ref (He.ga K "bar_of"))
  f_Solved : ∃ fd, FunD K "solved" "solved" (defArgs sSolved) (defBody sSolved) (defScope sSolved) [] [] (He.ga K "solved") fd
  g_Solved : mg "solved" = some (.ref (He.ga K "solved"))
  f_NullVector : ∃ fd, FunD K "null_vector" "null_vector" (defArgs sNullVector) (defBody sNullVector) (defScope sNullVector) [] [] (He.ga K "null_vector") fd
  g_NullVector : mg "null_vector" = some (.ref (He.ga K "null_vector"))
  f_NullBasis : ∃ fd, FunD K "null_basis" "null_basis" (defArgs sNullBasis) (defBody sNullBasis) (defScope sNullBasis) [] [] (He.ga K "null_basis") fd
  g_NullBasis : mg "null_basis" = some (.ref (He.ga K "null_basis"))
  f_Rank : ∃ fd, FunD K "rank" "rank" (defArgs sRank) (defBody sRank) (defScope sRank) [] [] (He.ga K "rank") fd
  g_Rank : mg "rank" = some (.ref (He.ga K "rank"))
  f_LawWhole : ∃ fd, FunD K "_law_whole" "_law_whole" (defArgs sLawWhole) (defBody sLawWhole) (defScope sLawWhole) [] [] (He.ga K "_law_whole") fd
  g_LawWhole : mg "_law_whole" = some (.ref (He.ga K "_law_whole"))
  f_LawCell : ∃ fd, FunD K "_law_cell" "_law_cell" (defArgs sLawCell) (defBody sLawCell) (defScope sLawCell) [] [] (He.ga K "_law_cell") fd
  g_LawCell : mg "_law_cell" = some (.ref (He.ga K "_law_cell"))
  f_LawDigits : ∃ fd, FunD K "_law_digits" "_law_digits" (defArgs sLawDigits) (defBody sLawDigits) (defScope sLawDigits) [] [] (He.ga K "_law_digits") fd
  g_LawDigits : mg "_law_digits" = some (.ref (He.ga K "_law_digits"))
  f_LawGcd : ∃ fd, FunD K "_law_gcd" "_law_gcd" (defArgs sLawGcd) (defBody sLawGcd) (defScope sLawGcd) [] [] (He.ga K "_law_gcd") fd
  g_LawGcd : mg "_law_gcd" = some (.ref (He.ga K "_law_gcd"))
  f_LawCommon : ∃ fd, FunD K "_law_common" "_law_common" (defArgs sLawCommon) (defBody sLawCommon) (defScope sLawCommon) [] [] (He.ga K "_law_common") fd
  g_LawCommon : mg "_law_common" = some (.ref (He.ga K "_law_common"))
  f_LawIsRow : ∃ fd, FunD K "_law_is_row" "_law_is_row" (defArgs sLawIsRow) (defBody sLawIsRow) (defScope sLawIsRow) [] [] (He.ga K "_law_is_row") fd
  g_LawIsRow : mg "_law_is_row" = some (.ref (He.ga K "_law_is_row"))
  f_LawSum : ∃ fd, FunD K "_law_sum" "_law_sum" (defArgs sLawSum) (defBody sLawSum) (defScope sLawSum) [] [] (He.ga K "_law_sum") fd
  g_LawSum : mg "_law_sum" = some (.ref (He.ga K "_law_sum"))
  f_LawLong : ∃ fd, FunD K "_law_long" "_law_long" (defArgs sLawLong) (defBody sLawLong) (defScope sLawLong) [] [] (He.ga K "_law_long") fd
  g_LawLong : mg "_law_long" = some (.ref (He.ga K "_law_long"))
  f_LawMixed : ∃ fd, FunD K "_law_mixed" "_law_mixed" (defArgs sLawMixed) (defBody sLawMixed) (defScope sLawMixed) [] [] (He.ga K "_law_mixed") fd
  g_LawMixed : mg "_law_mixed" = some (.ref (He.ga K "_law_mixed"))
  f_LawTurned : ∃ fd, FunD K "_law_turned" "_law_turned" (defArgs sLawTurned) (defBody sLawTurned) (defScope sLawTurned) [] [] (He.ga K "_law_turned") fd
  g_LawTurned : mg "_law_turned" = some (.ref (He.ga K "_law_turned"))
  f_LawLowest : ∃ fd, FunD K "_law_lowest" "_law_lowest" (defArgs sLawLowest) (defBody sLawLowest) (defScope sLawLowest) [] [] (He.ga K "_law_lowest") fd
  g_LawLowest : mg "_law_lowest" = some (.ref (He.ga K "_law_lowest"))
  f_LawRank : ∃ fd, FunD K "_law_rank" "_law_rank" (defArgs sLawRank) (defBody sLawRank) (defScope sLawRank) [] [] (He.ga K "_law_rank") fd
  g_LawRank : mg "_law_rank" = some (.ref (He.ga K "_law_rank"))
  f_LawDense : ∃ fd, FunD K "_law_dense" "_law_dense" (defArgs sLawDense) (defBody sLawDense) (defScope sLawDense) [] [] (He.ga K "_law_dense") fd
  g_LawDense : mg "_law_dense" = some (.ref (He.ga K "_law_dense"))
  f_LawTwins : ∃ fd, FunD K "_law_twins" "_law_twins" (defArgs sLawTwins) (defBody sLawTwins) (defScope sLawTwins) [] [] (He.ga K "_law_twins") fd
  g_LawTwins : mg "_law_twins" = some (.ref (He.ga K "_law_twins"))
  f_LawSizes : ∃ fd, FunD K "_law_sizes" "_law_sizes" (defArgs sLawSizes) (defBody sLawSizes) (defScope sLawSizes) [] [] (He.ga K "_law_sizes") fd
  g_LawSizes : mg "_law_sizes" = some (.ref (He.ga K "_law_sizes"))
  f_LawPlanted : ∃ fd, FunD K "_law_planted" "_law_planted" (defArgs sLawPlanted) (defBody sLawPlanted) (defScope sLawPlanted) [] [] (He.ga K "_law_planted") fd
  g_LawPlanted : mg "_law_planted" = some (.ref (He.ga K "_law_planted"))
  f_LawIsBasis : ∃ fd, FunD K "_law_is_basis" "_law_is_basis" (defArgs sLawIsBasis) (defBody sLawIsBasis) (defScope sLawIsBasis) [] [] (He.ga K "_law_is_basis") fd
  g_LawIsBasis : mg "_law_is_basis" = some (.ref (He.ga K "_law_is_basis"))
  f_LawRanked : ∃ fd, FunD K "_law_ranked" "_law_ranked" (defArgs sLawRanked) (defBody sLawRanked) (defScope sLawRanked) [] [] (He.ga K "_law_ranked") fd
  g_LawRanked : mg "_law_ranked" = some (.ref (He.ga K "_law_ranked"))
  f_LawRight : ∃ fd, FunD K "_law_right" "_law_right" (defArgs sLawRight) (defBody sLawRight) (defScope sLawRight) [] [] (He.ga K "_law_right") fd
  g_LawRight : mg "_law_right" = some (.ref (He.ga K "_law_right"))
  f_LawBothSides : ∃ fd, FunD K "_law_both_sides" "_law_both_sides" (defArgs sLawBothSides) (defBody sLawBothSides) (defScope sLawBothSides) [] [] (He.ga K "_law_both_sides") fd
  g_LawBothSides : mg "_law_both_sides" = some (.ref (He.ga K "_law_both_sides"))
  f_Law : ∃ fd, FunD K "law" "law" (defArgs sLaw) (defBody sLaw) (defScope sLaw) [] [] (He.ga K "law") fd
  g_Law : mg "law" = some (.ref (He.ga K "law"))
  g_MarksError : mg "MarksError" = some (.ref (He.ga K "MarksError"))
  g_ZeroBottom : mg "ZeroBottom" = some (.ref (He.ga K "ZeroBottom"))
  f_ZeroBottom_Init : ∃ fd, FunD K "__init__" "ZeroBottom.__init__" (defArgs sZeroBottom_Init) (defBody sZeroBottom_Init) (defScope sZeroBottom_Init) [] [] (He.ma K (He.ga K "ZeroBottom") "__init__") fd
  g_Solution : mg "Solution" = some (.ref (He.ga K "Solution"))
  f_Solution_Init : ∃ fd, FunD K "__init__" "Solution.__init__" (defArgs sSolution_Init) (defBody sSolution_Init) (defScope sSolution_Init) [] [] (He.ma K (He.ga K "Solution") "__init__") fd
  ic_Solution : C8.InsC K (He.ga K "Solution")
  cl_Solution : Cls K (He.ga K "Solution")
  mk_Solution : Mk K (He.ga K "Solution") (He.ma K (He.ga K "Solution") "__init__")
  ki_Solution_tuple : PySem.W.kitOne K (.type "tuple") (.ref (He.ga K "Solution")) = some false
  ki_Solution_list : PySem.W.kitOne K (.type "list") (.ref (He.ga K "Solution")) = some false
  ki_Solution_int : PySem.W.kitOne K (.type "int") (.ref (He.ga K "Solution")) = some false
  ki_Solution_NoneType : PySem.W.kitOne K (.type "NoneType") (.ref (He.ga K "Solution")) = some false
  na_Solution_point : NoAttr K (He.ga K "Solution") "point"
  na_Solution_bar : NoAttr K (He.ga K "Solution") "bar"
  b_ValueError : mg "ValueError" = none
  b_abs : mg "abs" = none
  b_bool : mg "bool" = none
  b_int : mg "int" = none
  b_isinstance : mg "isinstance" = none
  b_len : mg "len" = none
  b_list : mg "list" = none
  b_max : mg "max" = none
  b_min : mg "min" = none
  b_range : mg "range" = none
  b_sum : mg "sum" = none
  b_tuple : mg "tuple" = none
  sb : DL.seerB K = true
  m_gcd : mg "gcd" = some (.builtin "math.gcd")
  m_lcm : mg "lcm" = some (.builtin "math.lcm")
end K02

set_option Elab.async false
set_option linter.all false
set_option maxRecDepth 100000
set_option maxHeartbeats 4000000
/-! plain mathematics of the law's helpers: digits, the greatest common divisor by turns, sums -/
namespace M
open L2
/-- below a power of two, by size -/
def Sm (n : Nat) (x : Int) : Prop := x.natAbs < 2 ^ n
theorem Sm.mono {m n : Nat} {x : Int} (h : Sm m x) (l : m ≤ n) : Sm n x := Nat.lt_of_lt_of_le h (Nat.pow_le_pow_right (by decide) l)
theorem Sm.mul {m n : Nat} {x y : Int} (h : Sm m x) (h2 : Sm n y) : Sm (m + n) (x * y) := by
  unfold Sm
  rw [Int.natAbs_mul, Nat.pow_add]
  exact Nat.mul_lt_mul'' h h2
theorem Sm.add {n : Nat} {x y : Int} (h : Sm n x) (h2 : Sm n y) : Sm (n + 1) (x + y) := by
  unfold Sm at *
  rw [Nat.pow_succ]
  omega
theorem Sm.neg {n : Nat} {x : Int} (h : Sm n x) : Sm n (-x) := by
  unfold Sm at *
  rw [Int.natAbs_neg]
  exact h
theorem Sm.mulW {m n : Nat} {x y : Int} (h : Sm m x) (h2 : Sm n y) (l : m + n ≤ 900000) : CMulW x y :=
  wide_mul (a := m + 1) (b := n + 1) (h.mono (Nat.le_succ _)) (h2.mono (Nat.le_succ _)) (Nat.succ_pos _) (Nat.succ_pos _) (by omega)
theorem Sm.of {n : Nat} {x : Int} (h1 : -(2 ^ n : Nat) < x) (h2 : x < (2 ^ n : Nat)) : Sm n x := by
  unfold Sm
  omega
theorem sm64 {x : Int} (h1 : -(2 ^ 64) < x) (h2 : x < 2 ^ 64) : Sm 64 x := by
  unfold Sm
  omega
theorem divW {x y : Int} {n : Nat} (h : 0 < y) (hy : Sm n y) (l : n ≤ 8999) : CDivW x y := wide_div (b := n + 1) h (hy.mono (Nat.le_succ _)) (Nat.succ_pos _) (by omega)
theorem mulS {x y : Int} (h1 : -(2 ^ 64) < x ∧ x < 2 ^ 64) (h2 : -(2 ^ 64) < y ∧ y < 2 ^ 64) : CMulW x y := (sm64 h1.1 h1.2).mulW (sm64 h2.1 h2.2) (by decide)
theorem mulP {x y z : Int} (h1 : -(2 ^ 64) < x ∧ x < 2 ^ 64) (h2 : -(2 ^ 64) < y ∧ y < 2 ^ 64) (h3 : -(2 ^ 64) < z ∧ z < 2 ^ 64) : CMulW (x * y) z :=
  (Sm.mul (sm64 h1.1 h1.2) (sm64 h2.1 h2.2)).mulW (sm64 h3.1 h3.2) (by decide)
theorem divS {x y : Int} (h : 0 < y) (h2 : y < 2 ^ 64) : CDivW x y := divW h (sm64 (by omega) h2) (by decide)

/-! ### a fold over a taken part -/
theorem foldl_take_succ {α β : Type} (f : β → α → β) (b : β) (l : List α) (m : Nat) (x : α) (h : l[m]? = some x) : (l.take (m + 1)).foldl f b = f ((l.take m).foldl f b) x := by
  rw [List.take_add_one, h, List.foldl_append]
  rfl
theorem foldl_take_all {α β : Type} (f : β → α → β) (b : β) (l : List α) : (l.take l.length).foldl f b = l.foldl f b := by rw [List.take_length]

/-! ### a cell of the script -/
def seedM (ns : List Int) : Int := ns.foldl (fun seed cell => (seed * 31 + cell % 1000003) % 1000003) 17
theorem seedM_lt (ns : List Int) : 0 ≤ seedM ns ∧ seedM ns < 1000003 := by
  have h : ∀ (l : List Int) (s : Int), 0 ≤ s ∧ s < 1000003 → 0 ≤ l.foldl (fun seed cell => (seed * 31 + cell % 1000003) % 1000003) s ∧ l.foldl (fun seed cell => (seed * 31 + cell % 1000003) % 1000003) s < 1000003 := by
    intro l
    induction l with
    | nil => intro s h; exact h
    | cons x l ih => intro s h; exact ih _ (show 0 ≤ (s * 31 + x % 1000003) % 1000003 ∧ (s * 31 + x % 1000003) % 1000003 < 1000003 by omega)
  exact h ns 17 (by decide)
def cellM (ns : List Int) (k : Nat) : Int := if k < ns.length then ns.getD k 0 else ((seedM ns + 7) * ((k : Int) + 3) * 69621) % 2147483647

/-! ### digits -/
def bigD : Int → List Int → List Int
  | _, [] => []
  | rest, s :: ss => (rest % s) :: bigD (rest / s) ss
def nextS (seed : Int) (k : Nat) : Int := (seed * 48271 + 974711 * (k : Int) + 12345) % 2147483647
def smallD : Int → Nat → List Int → List Int
  | _, _, [] => []
  | seed, k, s :: ss => ((nextS seed k * (nextS seed k / 65537 + 3)) % 2147483629 / 19 % s) :: smallD (nextS seed k) (k + 1) ss
def digitsM (cell : Int) (sizes : List Int) : List Int := if cell ≥ 10 ^ 18 then bigD (cell - 10 ^ 18) sizes else smallD (cell % 2147483629) 0 sizes
theorem bigD_len : ∀ (ss : List Int) (r : Int), (bigD r ss).length = ss.length
  | [], _ => rfl
  | s :: ss, r => congrArg Nat.succ (bigD_len ss (r / s))
theorem smallD_len : ∀ (ss : List Int) (r : Int) (k : Nat), (smallD r k ss).length = ss.length
  | [], _, _ => rfl
  | s :: ss, r, k => congrArg Nat.succ (smallD_len ss _ (k + 1))
theorem digitsM_len (c : Int) (ss : List Int) : (digitsM c ss).length = ss.length := by
  unfold digitsM
  split
  · exact bigD_len _ _
  · exact smallD_len _ _ _
theorem take_snoc {α : Type} {l : List α} {m : Nat} {x : α} (h : l[m]? = some x) : l.take (m + 1) = l.take m ++ [x] := by
  rw [List.take_add_one, h]
  rfl
def bigR (r : Int) (l : List Int) : Int := l.foldl (fun r s => r / s) r
theorem bigR_snoc (r s : Int) (l : List Int) : bigR r (l ++ [s]) = bigR r l / s := by
  unfold bigR
  rw [List.foldl_append]
  rfl
theorem bigD_snoc : ∀ (l : List Int) (r s : Int), bigD r (l ++ [s]) = bigD r l ++ [bigR r l % s]
  | [], r, s => rfl
  | x :: l, r, s => by
    show (r % x) :: bigD (r / x) (l ++ [s]) = (r % x) :: (bigD (r / x) l ++ [bigR (r / x) l % s])
    rw [bigD_snoc l]
def seedR : Int → Nat → List Int → Int
  | seed, _, [] => seed
  | seed, k, _ :: l => seedR (nextS seed k) (k + 1) l
theorem seedR_snoc : ∀ (l : List Int) (r : Int) (k : Nat) (s : Int), seedR r k (l ++ [s]) = nextS (seedR r k l) (k + l.length)
  | [], r, k, s => rfl
  | x :: l, r, k, s => by
    show seedR (nextS r k) (k + 1) (l ++ [s]) = nextS (seedR (nextS r k) (k + 1) l) (k + (l.length + 1))
    rw [seedR_snoc l, Nat.add_assoc, Nat.add_comm 1]
def pick (x s : Int) : Int := (x * (x / 65537 + 3)) % 2147483629 / 19 % s
theorem smallD_snoc : ∀ (l : List Int) (r : Int) (k : Nat) (s : Int), smallD r k (l ++ [s]) = smallD r k l ++ [pick (nextS (seedR r k l) (k + l.length)) s]
  | [], r, k, s => rfl
  | x :: l, r, k, s => by
    show (pick (nextS r k) x) :: smallD (nextS r k) (k + 1) (l ++ [s]) = (pick (nextS r k) x) :: (smallD (nextS r k) (k + 1) l ++ [pick (nextS (seedR (nextS r k) (k + 1) l) (k + (l.length + 1))) s])
    rw [smallD_snoc l, Nat.add_assoc, Nat.add_comm 1]
theorem nextS_lt (s : Int) (k : Nat) : 0 ≤ nextS s k ∧ nextS s k < 2147483647 := by
  unfold nextS
  omega
theorem seedR_lt : ∀ (l : List Int) (r : Int) (k : Nat), 0 ≤ r ∧ r < 2147483647 → 0 ≤ seedR r k l ∧ seedR r k l < 2147483647
  | [], _, _, h => h
  | _ :: l, r, k, _ => seedR_lt l _ _ (nextS_lt r k)
/-- each digit is below its size -/
theorem bigD_lt : ∀ (ss : List Int) (r : Int) (i : Nat) (s d : Int), (∀ s ∈ ss, 0 < s) → ss[i]? = some s → (bigD r ss)[i]? = some d → 0 ≤ d ∧ d < s
  | s :: ss, r, 0, _, _, hp, h1, h2 => by
    cases h1; cases h2
    have := hp s List.mem_cons_self
    exact ⟨Int.emod_nonneg _ (by omega), Int.emod_lt_of_pos _ this⟩
  | s :: ss, r, i + 1, s', d, hp, h1, h2 => bigD_lt ss (r / s) i s' d (fun x hx => hp x (List.mem_cons_of_mem _ hx)) h1 h2
  | [], _, _, _, _, _, h1, _ => by simp at h1
theorem smallD_lt : ∀ (ss : List Int) (r : Int) (k i : Nat) (s d : Int), (∀ s ∈ ss, 0 < s) → ss[i]? = some s → (smallD r k ss)[i]? = some d → 0 ≤ d ∧ d < s
  | s :: ss, r, k, 0, _, _, hp, h1, h2 => by
    cases h1; cases h2
    have := hp s List.mem_cons_self
    exact ⟨Int.emod_nonneg _ (by omega), Int.emod_lt_of_pos _ this⟩
  | s :: ss, r, k, i + 1, s', d, hp, h1, h2 => smallD_lt ss _ (k + 1) i s' d (fun x hx => hp x (List.mem_cons_of_mem _ hx)) h1 h2
  | [], _, _, _, _, _, _, h1, _ => by simp at h1
theorem digitsM_lt (c : Int) (ss : List Int) (i : Nat) (s d : Int) (hp : ∀ s ∈ ss, 0 < s) (h1 : ss[i]? = some s) (h2 : (digitsM c ss)[i]? = some d) : 0 ≤ d ∧ d < s := by
  unfold digitsM at h2
  split at h2
  · exact bigD_lt ss _ i s d hp h1 h2
  · exact smallD_lt ss _ 0 i s d hp h1 h2
/-- all digits of one size -/
theorem digitsM_rep (c s : Int) (n : Nat) (hs : 0 < s) : ∀ d ∈ digitsM c (List.replicate n s), 0 ≤ d ∧ d < s := fun d hd => by
  obtain ⟨i, hi, e⟩ := List.mem_iff_getElem.mp hd
  have hl : i < n := by rw [digitsM_len, List.length_replicate] at hi; exact hi
  refine digitsM_lt c _ i s d (fun x hx => ?_) ?_ (by rw [List.getElem?_eq_getElem hi, e])
  · rw [List.eq_of_mem_replicate hx]; exact hs
  · rw [List.getElem?_replicate, if_pos hl]

/-! ### the greatest common divisor by turns -/
/-- a turn halves the product -/
theorem half_turn {l r : Nat} (h : r ≤ l) (h0 : 0 < r) : 2 * (r * (l % r)) ≤ l * r := by
  have h1 : l % r < r := Nat.mod_lt _ h0
  have h2 : l = r * (l / r) + l % r := (Nat.div_add_mod l r).symm
  have h3 : 1 ≤ l / r := (Nat.one_le_div_iff h0).mpr h
  have h4 : r ≤ r * (l / r) := Nat.le_mul_of_pos_right _ h3
  have h5 : 2 * (l % r) ≤ l := by omega
  calc 2 * (r * (l % r)) = r * (2 * (l % r)) := by rw [Nat.mul_left_comm]
    _ ≤ r * l := Nat.mul_le_mul_left _ h5
    _ = l * r := Nat.mul_comm _ _
/-- the word of the loop -/
structure Gw (L0 R0 : Nat) (m : Nat) (l r : Nat) : Prop where
  g : Nat.gcd l r = Nat.gcd L0 R0
  z : m = 0 → l = L0 ∧ r = R0
  b : 0 < m → r < l ∧ l * r * 2 ^ (m - 1) ≤ L0 * R0
theorem Gw.start (L0 R0 : Nat) : Gw L0 R0 0 L0 R0 := ⟨rfl, fun _ => ⟨rfl, rfl⟩, fun h => absurd h (by decide)⟩
theorem Gw.turn {L0 R0 m l r : Nat} (h : Gw L0 R0 m l r) (h0 : 0 < r) : Gw L0 R0 (m + 1) r (l % r) := by
  refine ⟨?_, fun z => by omega, fun _ => ⟨Nat.mod_lt _ h0, ?_⟩⟩
  · rw [← h.g, Nat.gcd_comm l r, Nat.gcd_rec r l, Nat.gcd_comm]
  · rw [Nat.add_sub_cancel]
    cases m with
    | zero =>
      obtain ⟨rfl, rfl⟩ := h.z rfl
      rw [Nat.pow_zero, Nat.mul_one, Nat.mul_comm l r]
      exact Nat.mul_le_mul_left _ (Nat.mod_le _ _)
    | succ m =>
      obtain ⟨h1, h2⟩ := h.b (Nat.succ_pos _)
      have h3 := half_turn (Nat.le_of_lt h1) h0
      rw [Nat.add_sub_cancel] at h2
      calc r * (l % r) * 2 ^ (m + 1) = 2 * (r * (l % r)) * 2 ^ m := by rw [Nat.pow_succ, Nat.mul_comm (2 ^ m) 2, ← Nat.mul_assoc, Nat.mul_comm 2 (r * (l % r))]
        _ ≤ l * r * 2 ^ m := Nat.mul_le_mul_right _ h3
        _ ≤ L0 * R0 := h2
theorem Gw.done {L0 R0 m l r : Nat} (h : Gw L0 R0 m l r) (hm : 100000 ≤ m) (h1 : L0 < 2 ^ 49000) (h2 : R0 < 2 ^ 49000) : r = 0 := by
  rcases Nat.eq_zero_or_pos r with e | e
  · exact e
  · exfalso
    obtain ⟨a, b⟩ := h.b (by omega)
    have c : 1 ≤ l * r := Nat.mul_pos (by omega) e
    have d : 2 ^ (m - 1) ≤ L0 * R0 := Nat.le_trans (Nat.le_mul_of_pos_left _ c) b
    have f : L0 * R0 < 2 ^ 98000 := by
      rw [show (98000 : Nat) = 49000 + 49000 from rfl, Nat.pow_add]
      exact Nat.mul_lt_mul'' h1 h2
    have g : 2 ^ 98000 ≤ 2 ^ (m - 1) := Nat.pow_le_pow_right (by decide) (by omega)
    omega
theorem Gw.end_ {L0 R0 m l r : Nat} (h : Gw L0 R0 m l r) (hr : r = 0) : l = Nat.gcd L0 R0 := by
  rw [← h.g, hr, Nat.gcd_zero_right]
/-- the divisor of a row of numbers -/
def gcdL (ns : List Int) : Nat := ns.foldl (fun g n => Nat.gcd g n.natAbs) 0
theorem gcd_fold : ∀ (ns : List Int) (g : Nat), ns.foldl (fun g n => Nat.gcd g n.natAbs) g = Nat.gcd g (gcdL ns)
  | [], g => by unfold gcdL; rw [List.foldl_nil, List.foldl_nil, Nat.gcd_zero_right]
  | n :: ns, g => by
    unfold gcdL
    rw [List.foldl_cons, List.foldl_cons, gcd_fold ns, gcd_fold ns, Nat.gcd_zero_left, Nat.gcd_assoc]
theorem gcdL_cons (n : Int) (ns : List Int) : gcdL (n :: ns) = Nat.gcd n.natAbs (gcdL ns) := by
  unfold gcdL
  rw [List.foldl_cons, gcd_fold ns, Nat.gcd_zero_left]
  rfl
theorem gcdL_dvd : ∀ (ns : List Int) (n : Int), n ∈ ns → gcdL ns ∣ n.natAbs
  | m :: ns, n, h => by
    rw [gcdL_cons]
    rcases List.mem_cons.mp h with rfl | h
    · exact Nat.gcd_dvd_left _ _
    · exact Nat.dvd_trans (Nat.gcd_dvd_right _ _) (gcdL_dvd ns n h)
  | [], _, h => by cases h
theorem dvd_gcdL (d : Nat) : ∀ (ns : List Int), (∀ n ∈ ns, d ∣ n.natAbs) → d ∣ gcdL ns
  | [], _ => by unfold gcdL; exact Nat.dvd_zero _
  | n :: ns, h => by
    rw [gcdL_cons]
    exact Nat.dvd_gcd (h n List.mem_cons_self) (dvd_gcdL d ns fun m hm => h m (List.mem_cons_of_mem _ hm))
theorem gcdL_lt {k : Nat} {ns : List Int} (hk : 0 < k) (h : ∀ n ∈ ns, Sm k n) : gcdL ns < 2 ^ k := by
  by_cases h0 : gcdL ns = 0
  · rw [h0]; exact Nat.two_pow_pos _
  · have : ∃ n ∈ ns, n.natAbs ≠ 0 := by
      refine Classical.byContradiction fun hn => h0 ?_
      have : (0 : Nat) ∣ gcdL ns := dvd_gcdL 0 ns fun n hm => by
        have := Classical.byContradiction (p := n.natAbs = 0) fun z => hn ⟨n, hm, z⟩
        rw [this]; exact Nat.dvd_refl _
      exact Nat.eq_zero_of_zero_dvd this
    obtain ⟨n, hm, hn⟩ := this
    exact Nat.lt_of_le_of_lt (Nat.le_of_dvd (by omega) (gcdL_dvd ns n hm)) (h n hm)

/-! ### many great numbers of one cell -/
def longD : Int → Int → List Int → List Int
  | _, _, [] => []
  | rest, top, d :: ds => if rest > 0 then (rest % top) :: longD (rest / top) top ds else (((d + 3) ^ 52 + d * 974711) % top) :: longD rest top ds
def longM (cell : Int) (many : Nat) (top : Int) : List Int := longD (cell - 10 ^ 18) top (digitsM (cell % 10 ^ 18) (List.replicate many 2147483629))
theorem longD_len : ∀ (ds : List Int) (rest top : Int), (longD rest top ds).length = ds.length
  | [], _, _ => rfl
  | d :: ds, rest, top => by
    unfold longD
    split
    · exact congrArg Nat.succ (longD_len ds _ _)
    · exact congrArg Nat.succ (longD_len ds _ _)
theorem longM_len (c : Int) (n : Nat) (t : Int) : (longM c n t).length = n := by
  unfold longM
  rw [longD_len, digitsM_len, List.length_replicate]
theorem longD_lt {top : Int} (h : 0 < top) : ∀ (ds : List Int) (rest : Int), ∀ d ∈ longD rest top ds, 0 ≤ d ∧ d < top
  | [], _, _, hd => by cases hd
  | x :: ds, rest, d, hd => by
    unfold longD at hd
    split at hd
    · rcases List.mem_cons.mp hd with rfl | hd
      · exact ⟨Int.emod_nonneg _ (by omega), Int.emod_lt_of_pos _ h⟩
      · exact longD_lt h ds _ d hd
    · rcases List.mem_cons.mp hd with rfl | hd
      · exact ⟨Int.emod_nonneg _ (by omega), Int.emod_lt_of_pos _ h⟩
      · exact longD_lt h ds _ d hd
theorem longM_lt {top : Int} (h : 0 < top) (c : Int) (n : Nat) : ∀ d ∈ longM c n top, 0 ≤ d ∧ d < top := longD_lt h _ _

def longR (top : Int) : Int → List Int → Int
  | rest, [] => rest
  | rest, _ :: ds => if rest > 0 then longR top (rest / top) ds else longR top rest ds
def longP (rest top d : Int) : Int := if rest > 0 then rest % top else ((d + 3) ^ 52 + d * 974711) % top
theorem longD_cons (rest top d : Int) (ds : List Int) : longD rest top (d :: ds) = longP rest top d :: longD (if rest > 0 then rest / top else rest) top ds := by
  unfold longP
  show (if rest > 0 then (rest % top) :: longD (rest / top) top ds else (((d + 3) ^ 52 + d * 974711) % top) :: longD rest top ds) = _
  split <;> rfl
theorem longR_cons (rest top d : Int) (ds : List Int) : longR top rest (d :: ds) = longR top (if rest > 0 then rest / top else rest) ds := by
  show (if rest > 0 then longR top (rest / top) ds else longR top rest ds) = _
  split <;> rfl
theorem longR_snoc (top d : Int) : ∀ (ds : List Int) (rest : Int), longR top rest (ds ++ [d]) = (if longR top rest ds > 0 then longR top rest ds / top else longR top rest ds)
  | [], rest => longR_cons rest top d []
  | x :: ds, rest => by rw [List.cons_append, longR_cons, longR_cons, longR_snoc top d ds]
theorem longD_snoc (top d : Int) : ∀ (ds : List Int) (rest : Int), longD rest top (ds ++ [d]) = longD rest top ds ++ [longP (longR top rest ds) top d]
  | [], rest => longD_cons rest top d []
  | x :: ds, rest => by rw [List.cons_append, longD_cons, longD_cons, longR_cons, longD_snoc top d ds, List.cons_append]
/-! ### sums -/
def dotL : List Int → List Int → Int
  | x :: xs, y :: ys => x * y + dotL xs ys
  | _, _ => 0
/-- rows added up, each multiplied by its number -/
def addRow (f : Int) : List Int → List Int → List Int
  | a :: aim, x :: xs => (a + x * f) :: addRow f aim xs
  | _, _ => []
def mixGo : List Int → List (List Int) → List Int → List Int
  | aim, r :: rs, f :: fs => mixGo (addRow f aim r) rs fs
  | aim, _, _ => aim
def mixedM (rows : List (List Int)) (fs : List Int) : List Int := mixGo (List.replicate (rows.headD []).length 0) rows fs
theorem addRow_len (f : Int) : ∀ (a x : List Int), a.length ≤ x.length → (addRow f a x).length = a.length
  | [], x, _ => by cases x <;> rfl
  | a :: as, [], h => by simp at h
  | a :: as, x :: xs, h => congrArg Nat.succ (addRow_len f as xs (by simpa using h))
theorem addRow_get (f : Int) : ∀ (a x : List Int) (j : Nat) (u v : Int), a[j]? = some u → x[j]? = some v → (addRow f a x)[j]? = some (u + v * f)
  | a :: as, x :: xs, 0, u, v, h1, h2 => by cases h1; cases h2; rfl
  | a :: as, x :: xs, j + 1, u, v, h1, h2 => addRow_get f as xs j u v h1 h2
  | [], _, _, _, _, h1, _ => by simp at h1
  | _ :: _, [], _, _, _, _, h2 => by simp at h2
theorem mixGo_snoc : ∀ (rs : List (List Int)) (fs : List Int) (aim r : List Int) (f : Int), rs.length = fs.length → mixGo aim (rs ++ [r]) (fs ++ [f]) = addRow f (mixGo aim rs fs) r
  | [], [], _, _, _, _ => rfl
  | [], _ :: _, _, _, _, h => by simp at h
  | _ :: _, [], _, _, _, h => by simp at h
  | x :: rs, y :: fs, aim, r, f, h => mixGo_snoc rs fs (addRow y aim x) r f (by simpa using h)
theorem mixGo_len : ∀ (rs : List (List Int)) (fs : List Int) (aim : List Int), (∀ r ∈ rs, aim.length ≤ r.length) → (mixGo aim rs fs).length = aim.length
  | [], _, _, _ => by unfold mixGo; rfl
  | _ :: _, [], _, _ => by unfold mixGo; rfl
  | x :: rs, y :: fs, aim, h => by
    have e := addRow_len y aim x (h x List.mem_cons_self)
    show (mixGo (addRow y aim x) rs fs).length = _
    rw [mixGo_len rs fs _ fun r hr => by rw [e]; exact h r (List.mem_cons_of_mem _ hr), e]
theorem mixGo_long : ∀ (rs : List (List Int)) (fs : List Int) (aim : List Int), rs.length ≤ fs.length → mixGo aim rs (fs.take rs.length) = mixGo aim rs fs
  | [], _, _, _ => by unfold mixGo; rfl
  | x :: rs, [], _, h => by simp at h
  | x :: rs, y :: fs, aim, h => mixGo_long rs fs (addRow y aim x) (by simpa using h)
/-- a list over range(n), by places -/
theorem range_dI {n : Nat} {v : Nat → DL.D} {L : List Int} (hl : L.length = n) (h : ∀ (j : Nat) (x : Int), L[j]? = some x → v j = .int x) : (List.range n).map v = DL.dI L := by
  subst hl
  apply List.ext_getElem
  · simp
  · intro i h1 h2
    rw [List.getElem_map, List.getElem_range, List.getElem_map]
    have hl : i < L.length := by simpa using h1
    exact h i _ (List.getElem?_eq_getElem hl)
/-- the products one by one -/
def mulL : List Int → List Int → List Int
  | x :: xs, y :: ys => (x * y) :: mulL xs ys
  | _, _ => []
theorem mulL_len : ∀ (xs ys : List Int), xs.length ≤ ys.length → (mulL xs ys).length = xs.length
  | [], ys, _ => by cases ys <;> rfl
  | x :: xs, [], h => by simp at h
  | x :: xs, y :: ys, h => congrArg Nat.succ (mulL_len xs ys (by simpa using h))
theorem mulL_get : ∀ (xs ys : List Int) (j : Nat) (u v : Int), xs[j]? = some u → ys[j]? = some v → (mulL xs ys)[j]? = some (u * v)
  | a :: as, x :: xs, 0, u, v, h1, h2 => by cases h1; cases h2; rfl
  | a :: as, x :: xs, j + 1, u, v, h1, h2 => mulL_get as xs j u v h1 h2
  | [], _, _, _, _, h1, _ => by simp at h1
  | _ :: _, [], _, _, _, _, h2 => by simp at h2
theorem mulL_sum : ∀ (xs ys : List Int), (mulL xs ys).sum = dotL xs ys
  | [], ys => by cases ys <;> rfl
  | x :: xs, [] => rfl
  | x :: xs, y :: ys => by
    show (x * y :: mulL xs ys).sum = x * y + dotL xs ys
    rw [List.sum_cons, mulL_sum xs ys]
/-- whether tops over a line are a row in its one form, of a size -/
def isRowM (tops : List Int) (line size : Int) : Bool := decide ((tops.length : Int) = size) && (decide (1 ≤ line) && decide (Nat.gcd (gcdL tops) line.natAbs = 1))
end M

set_option Elab.async false
set_option linter.all false
set_option maxRecDepth 100000
set_option maxHeartbeats 4000000
/-! what the law's own helpers compute -/
namespace M
open L2
/-- below or at B, by size -/
def Bd (B : Nat) (x : Int) : Prop := x.natAbs ≤ B
theorem Bd.mono {m n : Nat} {x : Int} (h : Bd m x) (l : m ≤ n) : Bd n x := Nat.le_trans h l
theorem Bd.mul {m n : Nat} {x y : Int} (h : Bd m x) (h2 : Bd n y) : Bd (m * n) (x * y) := by
  unfold Bd
  rw [Int.natAbs_mul]
  exact Nat.mul_le_mul h h2
theorem Bd.add {m n : Nat} {x y : Int} (h : Bd m x) (h2 : Bd n y) : Bd (m + n) (x + y) := by
  unfold Bd at *
  omega
theorem Bd.sub {m n : Nat} {x y : Int} (h : Bd m x) (h2 : Bd n y) : Bd (m + n) (x - y) := by
  unfold Bd at *
  omega
theorem Bd.neg {m : Nat} {x : Int} (h : Bd m x) : Bd m (-x) := by
  unfold Bd at *
  omega
theorem Bd.zero {m : Nat} : Bd m 0 := Nat.zero_le _
theorem Bd.sm {m n : Nat} {x : Int} (h : Bd m x) (l : m < 2 ^ n) : Sm n x := Nat.lt_of_le_of_lt h l
theorem Bd.smL {m n : Nat} (k : Nat) {x : Int} (h : Bd m x) (l : m < 2 ^ k) (l2 : k ≤ n) : Sm n x := (h.sm l).mono l2
theorem Bd.of {m : Nat} {x : Int} (h1 : -(m : Int) ≤ x) (h2 : x ≤ m) : Bd m x := by
  unfold Bd
  omega
/-- sums -/
def sg : Nat → (Nat → Int) → Int
  | 0, _ => 0
  | n + 1, f => sg n f + f n
theorem sg_congr {f g : Nat → Int} : ∀ n : Nat, (∀ i, i < n → f i = g i) → sg n f = sg n g
  | 0, _ => rfl
  | n + 1, h => by
    show sg n f + f n = sg n g + g n
    rw [sg_congr n fun i hi => h i (by omega), h n (by omega)]
theorem sg_head (f : Nat → Int) : ∀ n : Nat, sg (n + 1) f = f 0 + sg n (fun i => f (i + 1))
  | 0 => by show 0 + f 0 = f 0 + 0; omega
  | n + 1 => by
    show sg (n + 1) f + f (n + 1) = f 0 + (sg n (fun i => f (i + 1)) + f (n + 1))
    rw [sg_head f n]
    omega
theorem sg_add (f g : Nat → Int) : ∀ n : Nat, sg n (fun i => f i + g i) = sg n f + sg n g
  | 0 => rfl
  | n + 1 => by
    show sg n _ + (f n + g n) = (sg n f + f n) + (sg n g + g n)
    rw [sg_add f g n]
    omega
theorem sg_mulL (c : Int) (f : Nat → Int) : ∀ n : Nat, sg n (fun i => c * f i) = c * sg n f
  | 0 => by show 0 = c * 0; rw [Int.mul_zero]
  | n + 1 => by
    show sg n _ + _ = c * (sg n f + f n)
    rw [sg_mulL c f n, Int.mul_add]
theorem sg_mulR (c : Int) (f : Nat → Int) (n : Nat) : sg n (fun i => f i * c) = sg n f * c := by
  rw [Int.mul_comm (sg n f), ← sg_mulL]
  exact sg_congr n fun i _ => Int.mul_comm _ _
theorem sg_zero : ∀ n : Nat, sg n (fun _ => 0) = 0
  | 0 => rfl
  | n + 1 => by show sg n _ + 0 = 0; rw [sg_zero n]; rfl
theorem sg_swap (f : Nat → Nat → Int) (m : Nat) : ∀ n : Nat, sg n (fun i => sg m (fun j => f i j)) = sg m (fun j => sg n (fun i => f i j))
  | 0 => (sg_zero m).symm
  | n + 1 => by
    show sg n _ + sg m _ = sg m (fun j => sg n (fun i => f i j) + f n j)
    rw [sg_add, sg_swap f m n]
theorem sg_bd {f : Nat → Int} {B : Nat} : ∀ n : Nat, (∀ i, i < n → Bd B (f i)) → Bd (n * B) (sg n f)
  | 0, _ => Bd.zero
  | n + 1, h => by
    rw [Nat.succ_mul]
    exact (sg_bd n fun i hi => h i (by omega)).add (h n (by omega))
theorem dotL_sg : ∀ (xs ys : List Int), xs.length ≤ ys.length → dotL xs ys = sg xs.length (fun j => xs.getD j 0 * ys.getD j 0)
  | [], ys, _ => by cases ys <;> rfl
  | x :: xs, [], h => by simp at h
  | x :: xs, y :: ys, h => by
    show x * y + dotL xs ys = sg (xs.length + 1) _
    rw [sg_head, dotL_sg xs ys (by simpa using h)]
    rfl
theorem getD_get {α : Type} {l : List α} {i : Nat} {x d : α} (h : l[i]? = some x) : l.getD i d = x := by
  rw [List.getD_eq_getElem?_getD, h]
  rfl
theorem get_getD {α : Type} {l : List α} {i : Nat} (d : α) (h : i < l.length) : l[i]? = some (l.getD i d) := by
  rw [List.getElem?_eq_getElem h, List.getD_eq_getElem?_getD, List.getElem?_eq_getElem h]
  rfl
theorem getD_mem {α : Type} {l : List α} {i : Nat} (d : α) (h : i < l.length) : l.getD i d ∈ l := List.mem_of_getElem? (get_getD d h)
theorem addRow_getD (f : Int) (a x : List Int) (j : Nat) (h : j < a.length) (h2 : j < x.length) : (addRow f a x).getD j 0 = a.getD j 0 + x.getD j 0 * f :=
  getD_get (addRow_get f a x j _ _ (get_getD 0 h) (get_getD 0 h2))
theorem mixGo_getD (j : Nat) : ∀ (rs : List (List Int)) (fs aim : List Int), j < aim.length → (∀ r ∈ rs, aim.length ≤ r.length) → rs.length ≤ fs.length →
    (mixGo aim rs fs).getD j 0 = aim.getD j 0 + sg rs.length (fun i => (rs.getD i []).getD j 0 * fs.getD i 0)
  | [], fs, aim, _, _, _ => by
    show (mixGo aim [] fs).getD j 0 = _ + 0
    rw [Int.add_zero]
    unfold mixGo
    rfl
  | r :: rs, [], _, _, _, h => by simp at h
  | r :: rs, f :: fs, aim, h, h2, h3 => by
    have hr := h2 r List.mem_cons_self
    have hl := addRow_len f aim r hr
    show (mixGo (addRow f aim r) rs fs).getD j 0 = _
    rw [mixGo_getD j rs fs (addRow f aim r) (by omega) (fun r' hr' => by rw [hl]; exact h2 r' (List.mem_cons_of_mem _ hr')) (by simpa using h3), addRow_getD f aim r j h (by omega)]
    show _ = aim.getD j 0 + sg (rs.length + 1) _
    rw [sg_head]
    show _ = aim.getD j 0 + (r.getD j 0 * f + sg rs.length (fun i => (rs.getD i []).getD j 0 * fs.getD i 0))
    omega
/-- a table: so many rows, each so long -/
structure Tab (many width : Nat) (rows : List (List Int)) : Prop where
  n : rows.length = many
  w : ∀ r ∈ rows, r.length = width
theorem Tab.row {many width : Nat} {rows : List (List Int)} (h : Tab many width rows) {i : Nat} (hi : i < many) : (rows.getD i []).length = width := h.w _ (getD_mem _ (by rw [h.n]; exact hi))
theorem Tab.head {many width : Nat} {rows : List (List Int)} (h : Tab many width rows) (hm : 0 < many) : (rows.headD []).length = width := by
  cases rows with
  | nil => have := h.n; simp at this; omega
  | cons r rs => exact h.w r List.mem_cons_self
theorem mixedM_len {many width : Nat} {rows : List (List Int)} {fs : List Int} (h : Tab many width rows) (hm : 0 < many) : (mixedM rows fs).length = width := by
  unfold mixedM
  rw [mixGo_len _ _ _ fun r hr => by rw [List.length_replicate, h.head hm, h.w r hr]; exact Nat.le_refl _, List.length_replicate, h.head hm]
theorem mixedM_getD {many width : Nat} {rows : List (List Int)} {fs : List Int} (h : Tab many width rows) (hm : 0 < many) (hf : many ≤ fs.length) {j : Nat} (hj : j < width) :
    (mixedM rows fs).getD j 0 = sg many (fun i => (rows.getD i []).getD j 0 * fs.getD i 0) := by
  unfold mixedM
  rw [mixGo_getD j rows fs _ (by rw [List.length_replicate, h.head hm]; exact hj) (fun r hr => by rw [List.length_replicate, h.head hm, h.w r hr]; exact Nat.le_refl _) (by rw [h.n]; exact hf), h.n]
  have : (List.replicate (rows.headD []).length (0 : Int)).getD j 0 = 0 := by
    rw [List.getD_eq_getElem?_getD, List.getElem?_replicate]
    split <;> rfl
  rw [this, Int.zero_add]
theorem mem_getD {α : Type} {l : List α} {x : α} (d : α) (h : x ∈ l) : ∃ i, i < l.length ∧ l.getD i d = x := by
  obtain ⟨i, hi, e⟩ := List.mem_iff_getElem.mp h
  exact ⟨i, hi, getD_get (by rw [List.getElem?_eq_getElem hi, e])⟩
theorem mixedM_bd {many width B F : Nat} {rows : List (List Int)} {fs : List Int} (h : Tab many width rows) (hm : 0 < many) (hf : many ≤ fs.length) (hb : ∀ r ∈ rows, ∀ x ∈ r, Bd B x) (hF : ∀ x ∈ fs, Bd F x) : ∀ x ∈ mixedM rows fs, Bd (many * (B * F)) x := by
  intro x hx
  obtain ⟨j, hj, e⟩ := mem_getD 0 hx
  rw [mixedM_len h hm] at hj
  rw [← e, mixedM_getD h hm hf hj]
  refine sg_bd many fun i hi => ?_
  have hr := h.row hi
  exact (hb _ (getD_mem _ (by rw [h.n]; exact hi)) _ (getD_mem _ (by rw [hr]; exact hj))).mul (hF _ (getD_mem _ (by omega)))

/-! ### choosing by digits -/
def pickL (menu ds : List Int) : List Int := ds.map fun d => menu.getD d.toNat 0
theorem pickL_len (menu ds : List Int) : (pickL menu ds).length = ds.length := List.length_map _
theorem pickL_bd {menu ds : List Int} {B : Nat} (h : ∀ x ∈ menu, Bd B x) (hd : ∀ d ∈ ds, 0 ≤ d ∧ d < (menu.length : Int)) : ∀ x ∈ pickL menu ds, Bd B x := by
  intro x hx
  obtain ⟨d, hm, rfl⟩ := List.mem_map.mp hx
  have := hd d hm
  exact h _ (getD_mem _ (by omega))
def menuM : List Int := [1, 0, -1, 2, -2, 3, 0, 1]
def denseRows (ns : List Int) (width span : Nat) : List (List Int) := (List.range span).map fun k => pickL menuM (digitsM (cellM ns (17 + k)) (List.replicate width 8))
def denseM (ns : List Int) (many width span : Nat) : List (List Int) := (List.range many).map fun i => mixedM (denseRows ns width span) (pickL menuM (digitsM (cellM ns (1 + i)) (List.replicate span 8)))
theorem denseRows_tab (ns : List Int) (width span : Nat) : Tab span width (denseRows ns width span) := ⟨by unfold denseRows; simp, fun r hr => by
  obtain ⟨k, _, rfl⟩ := List.mem_map.mp hr
  rw [pickL_len, digitsM_len, List.length_replicate]⟩
theorem menu_bd : ∀ x ∈ menuM, Bd 3 x := by
  intro x hx
  simp only [menuM, List.mem_cons, List.not_mem_nil, or_false] at hx
  unfold Bd
  omega
theorem pick_menu_bd (c : Int) (n : Nat) : ∀ x ∈ pickL menuM (digitsM c (List.replicate n 8)), Bd 3 x := pickL_bd menu_bd fun d hd => digitsM_rep c 8 n (by decide) d hd
theorem denseRows_bd (ns : List Int) (width span : Nat) : ∀ r ∈ denseRows ns width span, ∀ x ∈ r, Bd 3 x := by
  intro r hr
  obtain ⟨k, _, rfl⟩ := List.mem_map.mp hr
  exact pick_menu_bd _ _
theorem denseM_tab (ns : List Int) {many width span : Nat} (hs : 0 < span) : Tab many width (denseM ns many width span) := ⟨by unfold denseM; simp, fun r hr => by
  obtain ⟨k, _, rfl⟩ := List.mem_map.mp hr
  exact mixedM_len (denseRows_tab ns width span) hs⟩
theorem denseM_bd (ns : List Int) {many width span : Nat} (hs : 0 < span) : ∀ r ∈ denseM ns many width span, ∀ x ∈ r, Bd (span * 9) x := by
  intro r hr
  obtain ⟨k, _, rfl⟩ := List.mem_map.mp hr
  exact mixedM_bd (denseRows_tab ns width span) hs (by rw [pickL_len, digitsM_len, List.length_replicate]; exact Nat.le_refl _) (denseRows_bd ns width span) (pick_menu_bd _ _)
end M

set_option Elab.async false
set_option linter.all false
set_option maxRecDepth 100000
set_option maxHeartbeats 4000000
/-! what the law plants -/
namespace M
open L2
/-- the twelve digits of the head -/
structure HeadOk (h : List Int) : Prop where
  ex : ∃ h0 h1 h2 h3 h4 h5 h6 h7 h8 h9 h10 h11 : Int, h = [h0, h1, h2, h3, h4, h5, h6, h7, h8, h9, h10, h11] ∧ (0 ≤ h0 ∧ h0 < 8) ∧ (0 ≤ h1 ∧ h1 < 16) ∧ (0 ≤ h2 ∧ h2 < 22) ∧ (0 ≤ h3 ∧ h3 < 7) ∧ (0 ≤ h4 ∧ h4 < 60) ∧ (0 ≤ h5 ∧ h5 < 60) ∧ (0 ≤ h6 ∧ h6 < 8) ∧ (0 ≤ h7 ∧ h7 < 23) ∧ (0 ≤ h8 ∧ h8 < 23) ∧ (0 ≤ h9 ∧ h9 < 8) ∧ (0 ≤ h10 ∧ h10 < 60) ∧ (0 ≤ h11 ∧ h11 < 2)
def headSizes : List Int := [8, 16, 22, 7, 60, 60, 8, 23, 23, 8, 60, 2]
theorem list12 {l : List Int} (h : l.length = 12) : ∃ h0 h1 h2 h3 h4 h5 h6 h7 h8 h9 h10 h11 : Int, l = [h0, h1, h2, h3, h4, h5, h6, h7, h8, h9, h10, h11] := by
  match l, h with
  | [h0, h1, h2, h3, h4, h5, h6, h7, h8, h9, h10, h11], _ => exact ⟨h0, h1, h2, h3, h4, h5, h6, h7, h8, h9, h10, h11, rfl⟩
theorem head_ok (c : Int) : HeadOk (digitsM c headSizes) := by
  obtain ⟨h0, h1, h2, h3, h4, h5, h6, h7, h8, h9, h10, h11, e⟩ := list12 (show (digitsM c headSizes).length = 12 by rw [digitsM_len]; rfl)
  have b : ∀ (i : Nat) (s d : Int), headSizes[i]? = some s → (digitsM c headSizes)[i]? = some d → 0 ≤ d ∧ d < s := fun i s d => digitsM_lt c headSizes i s d (by decide)
  rw [e] at b ⊢
  exact ⟨h0, h1, h2, h3, h4, h5, h6, h7, h8, h9, h10, h11, rfl, b 0 8 _ rfl rfl, b 1 16 _ rfl rfl, b 2 22 _ rfl rfl, b 3 7 _ rfl rfl, b 4 60 _ rfl rfl, b 5 60 _ rfl rfl, b 6 8 _ rfl rfl, b 7 23 _ rfl rfl, b 8 23 _ rfl rfl, b 9 8 _ rfl rfl, b 10 60 _ rfl rfl, b 11 2 _ rfl rfl⟩
structure Sz where
  many : Nat
  width : Nat
  span : Nat
  big : Bool
def sizesM (h : List Int) : Sz :=
  if h.getD 0 0 = 7 then ⟨(2 + h.getD 1 0 % 2).toNat, (1 + h.getD 2 0 % 4).toNat, 0, true⟩
  else if h.getD 0 0 = 5 then ⟨(8 + h.getD 1 0 % 9).toNat, (9 + h.getD 2 0).toNat, (min (min (8 + h.getD 1 0 % 9) (9 + h.getD 2 0)) (8 + h.getD 3 0)).toNat, false⟩
  else ⟨(9 + h.getD 1 0 % 5).toNat, (11 + h.getD 2 0 % 8).toNat, (min (9 + h.getD 1 0 % 5) (9 + h.getD 3 0 % 3)).toNat, false⟩
/-- the sizes' bounds -/
structure SzOk (z : Sz) : Prop where
  big : z.big = true → (2 ≤ z.many ∧ z.many ≤ 3) ∧ (1 ≤ z.width ∧ z.width ≤ 4)
  not : z.big = false → (8 ≤ z.many ∧ z.many ≤ 16) ∧ (8 ≤ z.width ∧ z.width ≤ 30) ∧ (1 ≤ z.span ∧ z.span ≤ 24)
theorem sizes_ok {h : List Int} (o : HeadOk h) : SzOk (sizesM h) := by
  obtain ⟨h0, h1, h2, h3, h4, h5, h6, h7, h8, h9, h10, h11, rfl, b0, b1, b2, b3, _⟩ := o.ex
  unfold sizesM
  simp only [List.getD_cons_zero, List.getD_cons_succ]
  split
  · exact ⟨fun _ => ⟨by show 2 ≤ Int.toNat _ ∧ Int.toNat _ ≤ 3; omega, by show 1 ≤ Int.toNat _ ∧ Int.toNat _ ≤ 4; omega⟩, fun z => by cases z⟩
  · split
    · exact ⟨fun z => (by cases z), fun _ => ⟨by show 8 ≤ Int.toNat _ ∧ Int.toNat _ ≤ 16; omega, by show 8 ≤ Int.toNat _ ∧ Int.toNat _ ≤ 30; omega, by show 1 ≤ Int.toNat _ ∧ Int.toNat _ ≤ 24; omega⟩⟩
    · exact ⟨fun z => (by cases z), fun _ => ⟨by show 8 ≤ Int.toNat _ ∧ Int.toNat _ ≤ 16; omega, by show 8 ≤ Int.toNat _ ∧ Int.toNat _ ≤ 30; omega, by show 1 ≤ Int.toNat _ ∧ Int.toNat _ ≤ 24; omega⟩⟩
theorem SzOk.m {z : Sz} (h : SzOk z) : 2 ≤ z.many ∧ z.many ≤ 30 := by
  cases e : z.big with
  | true => have := h.big e; omega
  | false => have := h.not e; omega
theorem SzOk.w {z : Sz} (h : SzOk z) : 1 ≤ z.width ∧ z.width ≤ 30 := by
  cases e : z.big with
  | true => have := h.big e; omega
  | false => have := h.not e; omega
/-- the first m done -/
def mapTo {α : Type} (f : α → α) (m : Nat) (l : List α) : List α := (l.take m).map f ++ l.drop m
theorem mapTo_zero {α : Type} (f : α → α) (l : List α) : mapTo f 0 l = l := rfl
theorem mapTo_all {α : Type} (f : α → α) (l : List α) : mapTo f l.length l = l.map f := by
  unfold mapTo
  rw [List.take_length, List.drop_length, List.append_nil]
theorem mapTo_get {α : Type} (f : α → α) : ∀ (l : List α) (m : Nat), (mapTo f m l)[m]? = l[m]?
  | [], m => by unfold mapTo; simp
  | x :: l, 0 => rfl
  | x :: l, m + 1 => mapTo_get f l m
theorem mapTo_set {α : Type} (f : α → α) : ∀ (l : List α) (m : Nat) (x : α), l[m]? = some x → (mapTo f m l).set m (f x) = mapTo f (m + 1) l
  | y :: l, 0, x, h => by cases h; rfl
  | y :: l, m + 1, x, h => by
    show f y :: (mapTo f m l).set m (f x) = f y :: mapTo f (m + 1) l
    rw [mapTo_set f l m x h]
  | [], m, x, h => by simp at h
theorem mapTo_len {α : Type} (f : α → α) (l : List α) (m : Nat) : (mapTo f m l).length = l.length := by
  unfold mapTo
  rw [List.length_append, List.length_map, List.length_take, List.length_drop]
  omega
def facM : List Int := [1, -1, 2, 0]
def twin1 (rows : List (List Int)) (h : List Int) : List (List Int) :=
  if h.getD 6 0 < 4 then rows.set (h.getD 4 0 % rows.length).toNat ((rows.getD ((h.getD 4 0 + 1 + h.getD 7 0 % max 1 ((rows.length : Int) - 1)) % rows.length).toNat []).map fun x => x * facM.getD (h.getD 6 0).toNat 0) else rows
def colAt (width : Nat) (h : List Int) : Nat := ((h.getD 5 0 + 1 + h.getD 8 0 % max 1 ((width : Int) - 1)) % width).toNat
def twinRow (width : Nat) (h : List Int) (mine : List Int) : List Int := mine.set (h.getD 5 0 % width).toNat (mine.getD (colAt width h) 0 * facM.getD (h.getD 9 0).toNat 0)
def twinsM (width : Nat) (rows : List (List Int)) (h : List Int) : List (List Int) :=
  if h.getD 9 0 < 4 then (twin1 rows h).map (twinRow width h) else twin1 rows h
theorem fac_bd : ∀ x ∈ facM, Bd 2 x := by
  intro x hx
  simp only [facM, List.mem_cons, List.not_mem_nil, or_false] at hx
  unfold Bd
  omega
theorem mem_set {α : Type} {l : List α} {i : Nat} {x y : α} (h : y ∈ l.set i x) : y = x ∨ y ∈ l := by
  rcases List.mem_or_eq_of_mem_set h with h | h
  · exact .inr h
  · exact .inl h
theorem twin1_tab {many width B : Nat} {rows : List (List Int)} {h : List Int} (t : Tab many width rows) (hb : ∀ r ∈ rows, ∀ x ∈ r, Bd B x) (hm : 0 < many) (h6 : 0 ≤ h.getD 6 0) : Tab many width (twin1 rows h) ∧ ∀ r ∈ twin1 rows h, ∀ x ∈ r, Bd (B * 2) x := by
  unfold twin1
  split
  case isTrue hlt =>
    have hr : ∀ k : Int, rows.getD (k % rows.length).toNat [] ∈ rows := fun k => getD_mem _ (by
      have := t.n
      have h1 := Int.emod_nonneg k (show ((rows.length : Nat) : Int) ≠ 0 by omega)
      have h2 := Int.emod_lt_of_pos k (show 0 < ((rows.length : Nat) : Int) by omega)
      omega)
    have hf : Bd 2 (facM.getD (h.getD 6 0).toNat 0) := fac_bd _ (getD_mem _ (by show _ < 4; omega))
    refine ⟨⟨by rw [List.length_set]; exact t.n, fun r hr' => ?_⟩, fun r hr' x hx => ?_⟩
    · rcases mem_set hr' with rfl | hr'
      · rw [List.length_map]
        exact t.w _ (hr _)
      · exact t.w r hr'
    · rcases mem_set hr' with rfl | hr'
      · obtain ⟨y, hy, rfl⟩ := List.mem_map.mp hx
        exact (hb _ (hr _) y hy).mul hf
      · exact (hb r hr' x hx).mono (by omega)
  case isFalse => exact ⟨t, fun r hr x hx => (hb r hr x hx).mono (by omega)⟩
theorem twinsM_tab {many width B : Nat} {rows : List (List Int)} {h : List Int} (t : Tab many width rows) (hb : ∀ r ∈ rows, ∀ x ∈ r, Bd B x) (hm : 0 < many) (hw : 0 < width) (h6 : 0 ≤ h.getD 6 0) (h9 : 0 ≤ h.getD 9 0) : Tab many width (twinsM width rows h) ∧ ∀ r ∈ twinsM width rows h, ∀ x ∈ r, Bd (B * 2 * 2) x := by
  obtain ⟨t1, b1⟩ := twin1_tab t hb hm h6
  unfold twinsM
  split
  case isTrue hlt =>
    have hf : Bd 2 (facM.getD (h.getD 9 0).toNat 0) := fac_bd _ (getD_mem _ (by show _ < 4; omega))
    refine ⟨⟨by rw [List.length_map]; exact t1.n, fun r hr => ?_⟩, fun r hr x hx => ?_⟩
    · obtain ⟨y, hy, rfl⟩ := List.mem_map.mp hr
      unfold twinRow
      rw [List.length_set]
      exact t1.w y hy
    · obtain ⟨y, hy, rfl⟩ := List.mem_map.mp hr
      unfold twinRow at hx
      rcases mem_set hx with rfl | hx
      · have hc : colAt width h < y.length := by
          rw [t1.w y hy]
          unfold colAt
          have h1 := Int.emod_nonneg (h.getD 5 0 + 1 + h.getD 8 0 % max 1 ((width : Int) - 1)) (show ((width : Nat) : Int) ≠ 0 by omega)
          have h2 := Int.emod_lt_of_pos (h.getD 5 0 + 1 + h.getD 8 0 % max 1 ((width : Int) - 1)) (show 0 < ((width : Nat) : Int) by omega)
          omega
        exact (b1 y hy _ (getD_mem _ hc)).mul hf
      · exact (b1 y hy x hx).mono (by omega)
  case isFalse => exact ⟨t1, fun r hr x hx => (b1 r hr x hx).mono (by omega)⟩
/-! ### the planted table -/
def mostM (h3 : Int) : Int := if h3 % 2 = 0 then 10 ^ 100 else 10 ^ 393
def lineL : List Int := [1, 2, 3, 1, 5, 7, 1, 12]
def facL : List Int := [1, 1, 2, -1, 3, 1, 5, -1]
def rowV (ns : List Int) (z : Sz) : List Int := digitsM (cellM ns 34) (List.replicate z.many 8 ++ [8])
def lineM (ns : List Int) (z : Sz) : Int := lineL.getD ((rowV ns z).getD z.many 0).toNat 0
def factorsM (ns : List Int) (z : Sz) : List Int := pickL facL ((rowV ns z).take z.many)
def base0 (ns h : List Int) (z : Sz) : List (List Int) :=
  if z.big then (List.range z.many).map fun i => (longM (cellM ns (1 + i)) z.width (mostM (h.getD 3 0))).map fun x => x - mostM (h.getD 3 0) / 2
  else denseM ns z.many z.width z.span
def topsM (ns : List Int) (z : Sz) : List Int :=
  if z.big then (longM (cellM ns 31) z.width 1999).map fun x => x - 999 else (digitsM (cellM ns 31) (List.replicate z.width 11)).map fun x => x - 5
def baseM (ns h : List Int) (z : Sz) : List (List Int) := twinsM z.width (base0 ns h z) h
def tableM (ns h : List Int) (z : Sz) : List (List Int) := (List.range z.many).map fun i => ((baseM ns h z).getD i []).map fun x => x * lineM ns z * (factorsM ns z).getD i 0
def sumsM (ns h : List Int) (z : Sz) : List Int := (List.range z.many).map fun i => (factorsM ns z).getD i 0 * dotL ((baseM ns h z).getD i []) (topsM ns z)
end M

set_option Elab.async false
set_option linter.all false
set_option maxRecDepth 100000
set_option maxHeartbeats 4000000
set_option exponentiation.threshold 5000
/-! what the law plants: sizes of it -/
namespace M
open L2
def mx0 : Nat := 10 ^ 393
theorem most_pos (x : Int) : 0 < mostM x := by
  unfold mostM
  split <;> decide +kernel
theorem most_le (x : Int) : mostM x ≤ (mx0 : Int) := by
  unfold mostM
  split <;> decide +kernel
theorem mx0_sm : mx0 < 2 ^ 1306 := by decide +kernel
theorem most_sm (x : Int) : Sm 8000 (mostM x) := by
  have h1 := most_pos x
  have h2 := most_le x
  have h3 : (mostM x).natAbs ≤ mx0 := by omega
  exact Nat.lt_of_le_of_lt h3 (Nat.lt_of_lt_of_le mx0_sm (Nat.pow_le_pow_right (by decide) (by decide)))
def B0 (z : Sz) : Nat := if z.big then mx0 else 216
theorem base0_tab (ns h : List Int) {z : Sz} (o : SzOk z) : Tab z.many z.width (base0 ns h z) := by
  unfold base0
  cases e : z.big with
  | true =>
    refine ⟨by simp, fun r hr => ?_⟩
    obtain ⟨i, _, rfl⟩ := List.mem_map.mp hr
    rw [List.length_map, longM_len]
  | false => exact denseM_tab ns (by have := o.not e; omega)
theorem base0_bd (ns h : List Int) {z : Sz} (o : SzOk z) : ∀ r ∈ base0 ns h z, ∀ x ∈ r, Bd (B0 z) x := by
  unfold base0 B0
  cases e : z.big with
  | true =>
    intro r hr x hx
    obtain ⟨i, _, rfl⟩ := List.mem_map.mp hr
    obtain ⟨y, hy, rfl⟩ := List.mem_map.mp hx
    have h1 := longM_lt (most_pos (h.getD 3 0)) _ _ y hy
    have h2 := most_le (h.getD 3 0)
    show Bd mx0 _
    generalize mostM (h.getD 3 0) = m at *
    unfold Bd
    omega
  | false =>
    intro r hr x hx
    have := o.not e
    refine (denseM_bd ns (by omega) r hr x hx).mono ?_
    show z.span * 9 ≤ 216
    omega
theorem tops_len (ns : List Int) (z : Sz) : (topsM ns z).length = z.width := by
  unfold topsM
  split
  · rw [List.length_map, longM_len]
  · rw [List.length_map, digitsM_len, List.length_replicate]
theorem tops_bd (ns : List Int) (z : Sz) : ∀ x ∈ topsM ns z, Bd 999 x := by
  unfold topsM
  intro x hx
  split at hx
  · obtain ⟨y, hy, rfl⟩ := List.mem_map.mp hx
    have h1 := longM_lt (show (0 : Int) < 1999 by decide) _ _ y hy
    unfold Bd
    omega
  · obtain ⟨y, hy, rfl⟩ := List.mem_map.mp hx
    have h1 := digitsM_rep _ 11 _ (by decide) y hy
    unfold Bd
    omega
theorem base_tab (ns : List Int) {h : List Int} {z : Sz} (o : SzOk z) (hh : HeadOk h) : Tab z.many z.width (baseM ns h z) ∧ ∀ r ∈ baseM ns h z, ∀ x ∈ r, Bd (B0 z * 2 * 2) x := by
  obtain ⟨h0, h1, h2, h3, h4, h5, h6, h7, h8, h9, h10, h11, rfl, b0, b1, b2, b3, b4, b5, b6, b7, b8, b9, b10, b11⟩ := hh.ex
  exact twinsM_tab (base0_tab ns _ o) (base0_bd ns _ o) (by have := o.m; omega) (by have := o.w; omega) b6.1 b9.1
theorem rowV_len (ns : List Int) (z : Sz) : (rowV ns z).length = z.many + 1 := by
  unfold rowV
  rw [digitsM_len, List.length_append, List.length_replicate]
  rfl
theorem rowV_lt (ns : List Int) (z : Sz) : ∀ d ∈ rowV ns z, 0 ≤ d ∧ d < 8 := by
  intro d hd
  obtain ⟨i, hi, e⟩ := List.mem_iff_getElem.mp hd
  rw [rowV_len] at hi
  refine digitsM_lt _ (List.replicate z.many 8 ++ [8]) i 8 d (fun s hs => ?_) ?_ (by rw [← e]; exact List.getElem?_eq_getElem _)
  · rcases List.mem_append.mp hs with hs | hs
    · rw [List.eq_of_mem_replicate hs]; decide
    · rw [List.mem_singleton.mp hs]; decide
  · rw [← List.replicate_succ', List.getElem?_replicate, if_pos hi]
theorem lineL_ok : ∀ x ∈ lineL, 1 ≤ x ∧ x ≤ 12 := by decide
theorem facL_ok : ∀ x ∈ facL, x ≠ 0 ∧ -5 ≤ x ∧ x ≤ 5 := by decide
theorem line_ok (ns : List Int) (z : Sz) : 1 ≤ lineM ns z ∧ lineM ns z ≤ 12 := by
  have h := rowV_lt ns z _ (getD_mem (l := rowV ns z) (i := z.many) 0 (by rw [rowV_len]; omega))
  exact lineL_ok _ (getD_mem (l := lineL) 0 (by show _ < 8; omega))
theorem factors_len (ns : List Int) (z : Sz) : (factorsM ns z).length = z.many := by
  unfold factorsM
  rw [pickL_len, List.length_take, rowV_len]
  omega
theorem factors_ok (ns : List Int) (z : Sz) : ∀ x ∈ factorsM ns z, x ≠ 0 ∧ -5 ≤ x ∧ x ≤ 5 := by
  intro x hx
  obtain ⟨d, hd, rfl⟩ := List.mem_map.mp hx
  have h := rowV_lt ns z d (List.mem_of_mem_take hd)
  exact facL_ok _ (getD_mem (l := facL) 0 (by show _ < 8; omega))
theorem table_tab (ns : List Int) {h : List Int} {z : Sz} (o : SzOk z) (hh : HeadOk h) : Tab z.many z.width (tableM ns h z) := by
  refine ⟨by unfold tableM; simp, fun r hr => ?_⟩
  obtain ⟨i, hi, rfl⟩ := List.mem_map.mp hr
  rw [List.length_map]
  exact (base_tab ns o hh).1.row (List.mem_range.mp hi)
theorem table_getD (ns h : List Int) (z : Sz) {i : Nat} (hi : i < z.many) : (tableM ns h z).getD i [] = ((baseM ns h z).getD i []).map fun x => x * lineM ns z * (factorsM ns z).getD i 0 := by
  unfold tableM
  exact getD_get (by rw [List.getElem?_map, List.getElem?_range hi]; rfl)
theorem sums_len (ns h : List Int) (z : Sz) : (sumsM ns h z).length = z.many := by unfold sumsM; simp
theorem sums_getD (ns h : List Int) (z : Sz) {i : Nat} (hi : i < z.many) : (sumsM ns h z).getD i 0 = (factorsM ns z).getD i 0 * dotL ((baseM ns h z).getD i []) (topsM ns z) := by
  unfold sumsM
  exact getD_get (by rw [List.getElem?_map, List.getElem?_range hi]; rfl)
/-- the planted table's numbers -/
theorem table_bd (ns : List Int) {h : List Int} {z : Sz} (o : SzOk z) (hh : HeadOk h) : ∀ r ∈ tableM ns h z, ∀ x ∈ r, Bd (B0 z * 240) x := by
  intro r hr x hx
  obtain ⟨i, hi, rfl⟩ := List.mem_map.mp hr
  obtain ⟨y, hy, rfl⟩ := List.mem_map.mp hx
  obtain ⟨tb, bb⟩ := base_tab ns o hh
  have h1 := bb _ (getD_mem [] (by rw [tb.n]; exact List.mem_range.mp hi)) y hy
  have h2 : Bd 12 (lineM ns z) := by have := line_ok ns z; unfold Bd; omega
  have h3 : Bd 5 ((factorsM ns z).getD i 0) := by
    have := factors_ok ns z _ (getD_mem (l := factorsM ns z) (i := i) 0 (by rw [factors_len]; exact List.mem_range.mp hi))
    unfold Bd; omega
  exact ((h1.mul h2).mul h3).mono (by omega)
theorem dot_bd {xs ys : List Int} {A B : Nat} (hl : xs.length ≤ ys.length) (ha : ∀ x ∈ xs, Bd A x) (hb : ∀ y ∈ ys, Bd B y) : Bd (xs.length * (A * B)) (dotL xs ys) := by
  rw [dotL_sg _ _ hl]
  exact sg_bd _ fun i hi => (ha _ (getD_mem 0 hi)).mul (hb _ (getD_mem 0 (by omega)))
theorem sums_bd (ns : List Int) {h : List Int} {z : Sz} (o : SzOk z) (hh : HeadOk h) : ∀ x ∈ sumsM ns h z, Bd (B0 z * (20 * 30 * 999)) x := by
  intro x hx
  obtain ⟨i, hi, rfl⟩ := List.mem_map.mp hx
  obtain ⟨tb, bb⟩ := base_tab ns o hh
  have hi := List.mem_range.mp hi
  have h3 : Bd 5 ((factorsM ns z).getD i 0) := by
    have := factors_ok ns z _ (getD_mem (l := factorsM ns z) (i := i) 0 (by rw [factors_len]; exact hi))
    unfold Bd; omega
  have h4 := dot_bd (xs := (baseM ns h z).getD i []) (ys := topsM ns z) (by rw [tb.row hi, tops_len]; exact Nat.le_refl _) (bb _ (getD_mem [] (by rw [tb.n]; exact hi))) (tops_bd ns z)
  rw [tb.row hi] at h4
  refine (h3.mul h4).mono ?_
  have := o.w
  calc 5 * (z.width * (B0 z * 2 * 2 * 999)) ≤ 5 * (30 * (B0 z * 2 * 2 * 999)) := Nat.mul_le_mul_left _ (Nat.mul_le_mul_right _ this.2)
    _ = B0 z * (20 * 30 * 999) := by omega
theorem b0_le (z : Sz) : B0 z ≤ mx0 := by
  unfold B0
  split
  · exact Nat.le_refl _
  · decide +kernel
end M

set_option Elab.async false
set_option linter.all false
set_option maxRecDepth 100000
set_option maxHeartbeats 4000000
/-! the program's functions told plainly -/
namespace M
open L2
def lowM (ns : List Int) : List Int := ns.map fun x => x / ((gcdL ns : Nat) : Int)
theorem lowM_len (ns : List Int) : (lowM ns).length = ns.length := List.length_map _
theorem div_one_map (ns : List Int) : ns.map (fun x => x / 1) = ns := by
  rw [show (fun x : Int => x / 1) = id from funext fun x => Int.ediv_one x, List.map_id]
theorem lowM_one {ns : List Int} (h : gcdL ns = 1) : lowM ns = ns := by
  unfold lowM
  rw [h]
  exact div_one_map ns
theorem lowM_zero {ns : List Int} (h : gcdL ns = 0) : lowM ns = ns := by
  unfold lowM
  rw [h]
  refine (List.map_congr_left fun x hx => ?_).trans (List.map_id _)
  have d := gcdL_dvd ns x hx
  rw [h] at d
  have : x.natAbs = 0 := Nat.eq_zero_of_zero_dvd d
  show x / 0 = x
  omega
theorem gcdL_take {ns : List Int} {m : Nat} (h : gcdL (ns.take m) = 1) : gcdL ns = 1 := by
  have : gcdL ns ∣ gcdL (ns.take m) := dvd_gcdL _ _ fun n hn => gcdL_dvd ns n (List.mem_of_mem_take hn)
  rw [h] at this
  exact Nat.dvd_one.mp this
theorem gcdL_snoc {ns : List Int} {m : Nat} {x : Int} (h : ns[m]? = some x) : gcdL (ns.take (m + 1)) = Nat.gcd (gcdL (ns.take m)) x.natAbs := by
  unfold gcdL
  rw [foldl_take_succ _ _ _ _ x h]
def rawM (e c : List Int) (f p : Int) : List Int := (List.range e.length).map fun j => e.getD j 0 * f - c.getD j 0 * p
def clearRow (es : List (List Int)) (a col k : Nat) : List Int :=
  if k = a ∨ (es.getD k []).getD col 0 = 0 then es.getD k [] else lowM (rawM (es.getD k []) (es.getD a []) ((es.getD a []).getD col 0) ((es.getD k []).getD col 0))
def clearedM (es : List (List Int)) (a col : Nat) : List (List Int) := (List.range es.length).map (clearRow es a col)
def freeT (es : List (List Int)) (us : List Nat) (col k : Nat) : Bool := !(us.contains k) && !decide ((es.getD k []).getD col 0 = 0)
def freeM (es : List (List Int)) (us : List Nat) (col : Nat) : Option Nat := (List.range es.length).find? (freeT es us col)
structure El where
  es : List (List Int)
  pv : List (Nat × Nat)
def El.us (s : El) : List Nat := s.pv.map Prod.fst
def flipM (es : List (List Int)) (a col : Nat) : List (List Int) := if (es.getD a []).getD col 0 < 0 then es.set a ((es.getD a []).map fun x => -x) else es
def stepM (s : El) (col : Nat) : El := match freeM s.es s.us col with
  | none => s
  | some a => ⟨clearedM (flipM s.es a col) a col, s.pv ++ [(a, col)]⟩
def elimTo (es : List (List Int)) (c : Nat) : El := (List.range c).foldl stepM ⟨es.map lowM, []⟩
theorem elimTo_succ (es : List (List Int)) (c : Nat) : elimTo es (c + 1) = stepM (elimTo es c) c := by
  unfold elimTo
  rw [List.range_succ, List.foldl_append]
  rfl
/-- the numbers of a turn stay within what the machine's rules allow -/
structure StepOk (n W : Nat) (s : El) (col : Nat) : Prop where
  t : Tab n W s.es
  b : ∀ r ∈ s.es, ∀ x ∈ r, Sm 100000 x
  u : ∀ a ∈ s.us, a < n
  nd : s.us.Nodup
/-- a whole elimination does so -/
structure ElOk (n W : Nat) (es : List (List Int)) (width : Nat) : Prop where
  hn : n ≤ 1000
  hw : W ≤ 1000
  hc : width ≤ W
  t : Tab n W es
  s : ∀ c, c < width → StepOk n W (elimTo es c) c
theorem freeM_some {es : List (List Int)} {us : List Nat} {col a : Nat} (h : freeM es us col = some a) : a < es.length ∧ a ∉ us ∧ (es.getD a []).getD col 0 ≠ 0 := by
  have h1 := List.find?_some h
  have h2 := List.mem_range.mp (List.mem_of_find?_eq_some h)
  unfold freeT at h1
  rw [Bool.and_eq_true, Bool.not_eq_true', Bool.not_eq_true', decide_eq_false_iff_not] at h1
  refine ⟨h2, fun z => ?_, h1.2⟩
  have := List.contains_iff_mem.mpr z
  rw [this] at h1
  cases h1.1
theorem freeM_none {es : List (List Int)} {us : List Nat} {col : Nat} (h : freeM es us col = none) {k : Nat} (hk : k < es.length) (hu : k ∉ us) : (es.getD k []).getD col 0 = 0 := by
  have h1 := List.find?_eq_none.mp h k (List.mem_range.mpr hk)
  unfold freeT at h1
  have h2 : us.contains k = false := by
    cases e : us.contains k with
    | false => rfl
    | true => exact absurd (List.contains_iff_mem.mp e) hu
  rw [h2] at h1
  simpa using h1
theorem flip_tab {n W : Nat} {es : List (List Int)} {a col : Nat} (t : Tab n W es) (ha : a < n) : Tab n W (flipM es a col) := by
  unfold flipM
  split
  · refine ⟨by rw [List.length_set]; exact t.n, fun r hr => ?_⟩
    rcases mem_set hr with rfl | hr
    · rw [List.length_map]; exact t.row ha
    · exact t.w r hr
  · exact t
theorem clearRow_len {n W : Nat} {es : List (List Int)} {a col k : Nat} (t : Tab n W es) (hk : k < n) : (clearRow es a col k).length = W := by
  unfold clearRow
  split
  · exact t.row hk
  · rw [lowM_len]
    unfold rawM
    rw [List.length_map, List.length_range]
    exact t.row hk
theorem cleared_tab {n W : Nat} {es : List (List Int)} {a col : Nat} (t : Tab n W es) : Tab n W (clearedM es a col) := by
  unfold clearedM
  refine ⟨by rw [List.length_map, List.length_range]; exact t.n, fun r hr => ?_⟩
  obtain ⟨k, hk, rfl⟩ := List.mem_map.mp hr
  exact clearRow_len t (by rw [← t.n]; exact List.mem_range.mp hk)
theorem cleared_getD {es : List (List Int)} {a col k : Nat} (hk : k < es.length) : (clearedM es a col).getD k [] = clearRow es a col k := by
  unfold clearedM
  exact getD_get (by rw [List.getElem?_map, List.getElem?_range hk]; rfl)
/-! the answers -/
def ratioM (t b : Int) : Int × Int := (t / ((Nat.gcd t.natAbs b.natAbs : Nat) : Int), b / ((Nat.gcd t.natAbs b.natAbs : Nat) : Int))
def rowM (tops : List Int) (line : Int) : List Int × Int := (tops.map fun x => x / ((gcdL (line :: tops) : Nat) : Int), line / ((gcdL (line :: tops) : Nat) : Int))
def lcmL (bs : List Int) : Nat := bs.foldl (fun l b => Nat.lcm l b.natAbs) 1
def rowOfM (rs : List (Int × Int)) : List Int × Int := rowM (rs.map fun r => r.1 * (((lcmL (rs.map Prod.snd) : Nat) : Int) / r.2)) ((lcmL (rs.map Prod.snd) : Nat) : Int)
def barT (es : List (List Int)) (us : List Nat) (width k : Nat) : Bool := !(us.contains k) && !decide ((es.getD k []).getD width 0 = 0)
def barM (s : El) (width : Nat) : Option (List Int) := match (List.range s.es.length).find? (barT s.es s.us width) with
  | none => none
  | some k => if (s.es.getD k []).getD width 0 < 0 then some ((lowM ((s.es.getD k []).drop (width + 1))).map fun x => -x) else some (lowM ((s.es.getD k []).drop (width + 1)))
def pointM (s : El) (width : Nat) : List (Int × Int) := s.pv.foldl (fun p ac => p.set ac.2 (ratioM ((s.es.getD ac.1 []).getD width 0) ((s.es.getD ac.1 []).getD ac.2 0))) (List.replicate width (0, 1))
def entriesM (table : List (List Int)) (right : List Int) : List (List Int) := (List.range table.length).map fun k => table.getD k [] ++ [right.getD k 0] ++ (List.replicate table.length 0).set k 1
/-- distinct numbers below n are n at most -/
theorem nodup_len : ∀ (us : List Nat) (n : Nat), us.Nodup → (∀ a ∈ us, a < n) → us.length ≤ n := by
  intro us n
  induction n generalizing us with
  | zero =>
    intro _ h
    cases us with
    | nil => exact Nat.le_refl _
    | cons a us => exact absurd (h a List.mem_cons_self) (Nat.not_lt_zero _)
  | succ n ih =>
    intro nd h
    have h1 : (us.erase n).length ≤ n := ih _ (nd.erase n) fun a ha => by
      have h2 := h a (List.mem_of_mem_erase ha)
      have h3 : a ≠ n := fun z => by
        rw [z] at ha
        exact (List.Nodup.not_mem_erase nd) ha
      omega
    have h2 : us.length ≤ (us.erase n).length + 1 := by
      rw [List.length_erase]
      split <;> omega
    omega
end M

set_option Elab.async false
set_option linter.all false
set_option maxRecDepth 100000
set_option maxHeartbeats 4000000
set_option exponentiation.threshold 5000
namespace LS
open PySem PySem.Spec PyProof.Rows L2 DL M
local macro_rules | `(tactic| by_item) => `(tactic| with_reducible first
  | exact DL.ed_var (by with_unfolding_all rfl) | exact DL.ed_int | exact DL.ed_bl | exact DL.ed_non | exact DL.ed_str | exact DL.ea_nil | exact DL.et_yes
  | apply DL.ea_cons | apply DL.ed_op | apply DL.ed_un | apply DL.ed_lst | apply DL.ed_fld | (show L2.Cls _ _; with_reducible assumption) | (show L2.NoAttr _ _ _; with_reducible assumption) | (show List.lookup _ _ = _; with_unfolding_all rfl) | (show List.length _ ≤ PySem.sizeLine; exact Nat.le_of_ble_eq_true (by with_unfolding_all rfl)) | apply DL.ed_isi | apply DL.ed_cb
  | exact DL.od_I0 | exact DL.od_B0 | exact DL.od_eqI | exact DL.od_neI | exact DL.od_eqS | exact DL.od_isN | exact DL.od_notN | (apply DL.od_divX) | apply DL.od_I | apply DL.od_ix | exact DL.ud_I
  | apply DL.cd_len | exact DL.cd_int | exact DL.cd_intB | exact DL.cd_1 | exact DL.cd_gcd | apply DL.cd_lcmX | exact DL.cd_min3 | exact DL.cd_2
  | apply DL.et_test | apply DL.et_B | apply DL.et_not | apply DL.ed_notV
  | (show DL.tyB _ = _; with_unfolding_all rfl) | (show DL.itemsOf _ = _; with_unfolding_all rfl) | exact DL.seqD_items | (show L2.atI _ _ = _; with_reducible assumption) | (show L2.atI _ _ = _; exact L2.atI_nat (by with_reducible assumption)) | exact DL.atI_zero | exact DL.atI_one | (show L2.atI _ _ = _; with_unfolding_all rfl) | (show L2.kitB _ _ = _; first | exact DL.kb_NoneType_int | exact DL.kb_NoneType_bool | exact DL.kb_NoneType_tuple | exact DL.kb_NoneType_list | exact DL.kb_NoneType_str | exact DL.kb_NoneType_dict | exact DL.kb_bool_int | exact DL.kb_bool_bool | exact DL.kb_bool_tuple | exact DL.kb_bool_list | exact DL.kb_bool_str | exact DL.kb_bool_dict | exact DL.kb_int_int | exact DL.kb_int_bool | exact DL.kb_int_tuple | exact DL.kb_int_list | exact DL.kb_int_str | exact DL.kb_int_dict | exact DL.kb_str_int | exact DL.kb_str_bool | exact DL.kb_str_tuple | exact DL.kb_str_list | exact DL.kb_str_str | exact DL.kb_str_dict | exact DL.kb_list_int | exact DL.kb_list_bool | exact DL.kb_list_tuple | exact DL.kb_list_list | exact DL.kb_list_str | exact DL.kb_list_dict | exact DL.kb_tuple_int | exact DL.kb_tuple_bool | exact DL.kb_tuple_tuple | exact DL.kb_tuple_list | exact DL.kb_tuple_str | exact DL.kb_tuple_dict | exact DL.kb_dict_int | exact DL.kb_dict_bool | exact DL.kb_dict_tuple | exact DL.kb_dict_list | exact DL.kb_dict_str | exact DL.kb_dict_dict))
local macro_rules | `(tactic| by_place) => `(tactic| (repeat' by_item))
local macro_rules | `(tactic| by_in) => `(tactic| first | (with_reducible assumption) | (with_reducible exact DL.seqD_items) | (show (0 : Int) < _; omega) | (show (0 : Int) < _; decide +kernel) | exact M.mulS (by omega) (by omega) | exact M.mulP (by omega) (by omega) (by omega) | exact M.divS (by omega) (by omega) | exact ⟨by decide, by decide, by decide⟩ | exact ⟨by decide, by decide, by omega⟩ | exact L2.atI_nat (by assumption) | (show L2.atI _ _ = _; rfl))
section
variable {K : PySem.W.Frag}
theorem get_dI {ns : List Int} {m : Nat} {d : DL.D} (h : (dI ns)[m]? = some d) : ∃ x, ns[m]? = some x ∧ d = .int x := by
  rw [List.getElem?_map] at h
  cases e : ns[m]? with
  | none => rw [e] at h; cases h
  | some x => rw [e] at h; cases h; exact ⟨x, rfl, rfl⟩
theorem dI_get {ns : List Int} {m : Nat} {x : Int} (h : ns[m]? = some x) : (dI ns)[m]? = some (.int x) := by
  rw [List.getElem?_map, h]
  rfl
theorem pow18 : (10 : Int) ^ (18 : Int).toNat = 1000000000000000000 := by decide
/-! _law_whole of a whole number -/
def spLawWhole (K : PySem.W.Frag) : Sp := spT K (α := Int) (fun i => [.int i]) (fun _ => True) (fun _ => .sh (.bl true))
/-! _law_cell -/
def spLawCell (K : PySem.W.Frag) : Sp := spT K (α := List Int × Nat) (fun a => [.rd (dI a.1), .int a.2]) (fun a => a.2 < 1000) (fun a => .sh (.int (cellM a.1 a.2)))
/-! _law_digits -/
def spLawDigits (K : PySem.W.Frag) : Sp := spT K (α := Int × List Int) (fun a => [.int a.1, .lst (dI a.2)]) (fun a => (∀ s ∈ a.2, 0 < s ∧ s < 2 ^ 60) ∧ a.2.length ≤ 1000) (fun a => .ow (dI (digitsM a.1 a.2)))
/-! _law_gcd -/
def spLawGcd (K : PySem.W.Frag) : Sp := spT K (α := Int × Int) (fun a => [.int a.1, .int a.2]) (fun a => Sm 49000 a.1 ∧ Sm 49000 a.2) (fun a => .sh (.int ((Nat.gcd a.1.natAbs a.2.natAbs : Nat) : Int)))
theorem abs_eq (i : Int) : (if i < 0 then -i else i) = ((i.natAbs : Nat) : Int) := by omega
/-! _law_common -/
def spLawCommon (K : PySem.W.Frag) : Sp := spT K (α := Bool × List Int) (fun a => [seqD a.1 (dI a.2)]) (fun a => ∀ n ∈ a.2, Sm 49000 n) (fun a => .sh (.int ((gcdL a.2 : Nat) : Int)))
/-! _law_is_row -/
def spLawIsRow (K : PySem.W.Frag) : Sp := spT K (α := List Int × Int × Int) (fun a => [.tup [.tup (dI a.1), .int a.2.1], .int a.2.2]) (fun a => (∀ n ∈ a.1, Sm 49000 n) ∧ Sm 49000 a.2.1 ∧ a.1.length ≤ 10000) (fun a => .sh (.bl (isRowM a.1 a.2.1 a.2.2)))
/-! _law_sum -/
def spLawSum (K : PySem.W.Frag) : Sp := spT K (α := Bool × Bool × List Int × List Int) (fun a => [seqD a.1 (dI a.2.2.1), seqD a.2.1 (dI a.2.2.2)]) (fun a => a.2.2.1.length ≤ a.2.2.2.length ∧ a.2.2.1.length ≤ 10000 ∧ (∀ x ∈ a.2.2.1, Sm 400000 x) ∧ (∀ x ∈ a.2.2.2, Sm 400000 x)) (fun a => .sh (.int (dotL a.2.2.1 a.2.2.2)))
/-! _law_long -/
def spLawLong (K : PySem.W.Frag) : Sp := spT K (α := Int × Nat × Int) (fun a => [.int a.1, .int a.2.1, .int a.2.2]) (fun a => 0 < a.2.2 ∧ Sm 8000 a.2.2 ∧ a.2.1 ≤ 1000) (fun a => .ow (dI (longM a.1 a.2.1 a.2.2)))
/-- lists of numbers as data -/
def dT (rows : List (List Int)) : List DL.D := rows.map fun r => .lst (dI r)
theorem get_dT {rows : List (List Int)} {m : Nat} {d : DL.D} (h : (dT rows)[m]? = some d) : ∃ r, rows[m]? = some r ∧ d = .lst (dI r) := by
  unfold dT at h
  rw [List.getElem?_map] at h
  cases e : rows[m]? with
  | none => rw [e] at h; cases h
  | some x => rw [e] at h; cases h; exact ⟨x, rfl, rfl⟩
theorem dT_get {rows : List (List Int)} {m : Nat} {r : List Int} (h : rows[m]? = some r) : (dT rows)[m]? = some (.lst (dI r)) := by
  unfold dT
  rw [List.getElem?_map, h]
  rfl
theorem dT_len {rows : List (List Int)} : (dT rows).length = rows.length := List.length_map _
/-! _law_mixed -/
def preMixed (rows : List (List Int)) (fs : List Int) : Prop := rows ≠ [] ∧ (∀ r ∈ rows, r.length = (rows.headD []).length) ∧ rows.length ≤ fs.length ∧ rows.length ≤ 10000 ∧ (rows.headD []).length ≤ 10000 ∧ (∀ r ∈ rows, ∀ x ∈ r, Sm 400000 x) ∧ ∀ x ∈ fs, Sm 400000 x
def spLawMixed (K : PySem.W.Frag) : Sp := spT K (α := Bool × List (List Int) × List Int) (fun a => [.lst (dT a.2.1), seqD a.1 (dI a.2.2)]) (fun a => preMixed a.2.1 a.2.2) (fun a => .ow (dI (mixedM a.2.1 a.2.2)))
/-- [menu[digit] for digit in digits] -/
theorem el_pick {η : DL.Env} {tl te : TE} {i : Nat} {vs : List Nat} {menu ds : List Int} (hm : menu.length < 1000) (h : EvD K tl η (.lst (dI ds))) (hi : i ∈ vs) (hz : ds.length ≤ 10000)
    (hd : ∀ d ∈ ds, 0 ≤ d ∧ d < (menu.length : Int)) (he : ∀ (x : Int), atI (dI menu) x = some (.int (menu.getD x.toNat 0)) → EvD K te ((wipeE η vs).set i (some (.int x))) (.int (menu.getD x.toNat 0))) : EvL K (tLc (iList K tl) (gName i) tYes te vs) η (dI (pickL menu ds)) := by
  refine EvL.is (el_lcL (ds := dI ds) (fun _ => true) (fun j => .int ((pickL menu ds).getD j 0)) h (.inl rfl) (by rw [List.length_map]; omega) fun j d hd' => ?_) ?_
  · obtain ⟨x, hx, rfl⟩ := get_dI hd'
    have hx2 := hd x (List.mem_of_getElem? hx)
    refine ⟨_, tg_name hi, et_yes, fun _ => EvD.is (he x ?_) ?_⟩
    · have e : ((x.toNat : Nat) : Int) = x := by omega
      have g := atI_nat (dI_get (get_getD 0 (show x.toNat < menu.length by omega)))
      rw [e] at g
      exact g
    · have : (pickL menu ds)[j]? = some (menu.getD x.toNat 0) := by
        unfold pickL
        rw [List.getElem?_map, hx]
        rfl
      rw [getD_get this]
  · rw [given_all]
    refine range_dI (by rw [pickL_len, List.length_map]) fun j x h => ?_
    rw [getD_get h]
theorem rep_dI (n : Nat) (x : Int) : List.replicate (n : Int).toNat (DL.D.int x) = dI (List.replicate n x) := by
  rw [Int.toNat_natCast]
  unfold dI
  rw [List.map_replicate]
/-- [x] * n -/
theorem el_rep {η : DL.Env} {ta tb : TE} {n : Nat} {x : Int} (ha : EvD K ta η (.lst [.int x])) (hb : EvD K tb η (.int n)) (hn : n ≤ 10000000) : EvL K (tOp rRep ta tb) η (dI (List.replicate n x)) :=
  EvL.is (el_op ha hb (ol_rep (by omega) (by omega))) (rep_dI n x)
/-! _law_dense -/
def spLawDense (K : PySem.W.Frag) : Sp := spT K (α := List Int × Nat × Nat × Nat) (fun a => [.rd (dI a.1), .int a.2.1, .int a.2.2.1, .int a.2.2.2]) (fun a => a.2.1 ≤ 100 ∧ a.2.2.1 ≤ 100 ∧ 0 < a.2.2.2 ∧ a.2.2.2 ≤ 100) (fun a => .ow (dT (denseM a.1 a.2.1 a.2.2.1 a.2.2.2)))
theorem digs_pre {s : Int} {n : Nat} (h : 0 < s) (h2 : s < 2 ^ 60) (hn : n ≤ 1000) : (∀ x ∈ List.replicate n s, 0 < x ∧ x < 2 ^ 60) ∧ (List.replicate n s).length ≤ 1000 := ⟨fun x hx => by rw [List.eq_of_mem_replicate hx]; exact ⟨h, h2⟩, by rw [List.length_replicate]; exact hn⟩
/-! _law_sizes -/
def szD (z : Sz) : List DL.D := [.int z.many, .int z.width, .int z.span, .bl z.big]
theorem szD_mk {m w s : Int} {b : Bool} (h1 : 0 ≤ m) (h2 : 0 ≤ w) (h3 : 0 ≤ s) : ([.int m, .int w, .int s, .bl b] : List DL.D) = szD ⟨m.toNat, w.toNat, s.toNat, b⟩ := by
  unfold szD
  rw [Int.toNat_of_nonneg h1, Int.toNat_of_nonneg h2, Int.toNat_of_nonneg h3]
def spLawSizes (K : PySem.W.Frag) : Sp := spT K (α := List Int) (fun a => [.lst (dI a)]) (fun a => HeadOk a) (fun a => .ow (szD (sizesM a)))
/-! _law_copy -/
def tT (rows : List (List Int)) : List DL.D := rows.map fun r => .tup (dI r)
def copyOut (rows : List (List Int)) (t : Bool) : Ret := match t with
  | true => .sh (.tup (tT rows))
  | false => .oo (rows.map dI)
def spLawCopy (K : PySem.W.Frag) : Sp := spT K (α := List (List Int) × Bool) (fun a => [.lst (dT a.1), .bl a.2]) (fun a => a.1.length ≤ 10000) (fun a => copyOut a.1 a.2)
theorem range_gen {α β : Type} (F : α → β) (ds : List α) (v : Nat → β) (h : ∀ (i : Nat) (d : α), ds[i]? = some d → v i = F d) : (List.range ds.length).map v = ds.map F := by
  apply List.ext_getElem
  · simp
  · intro i h1 h2
    rw [List.getElem_map, List.getElem_map, List.getElem_range]
    have hl : i < ds.length := by simpa using h1
    exact h i _ (List.getElem?_eq_getElem hl)
/-- [list(mine) for mine in table] -/
theorem ell_copy {η : DL.Env} {tl te : TE} {i : Nat} {vs : List Nat} {rows : List (List Int)} (h : EvD K tl η (.lst (dT rows))) (hi : i ∈ vs) (hz : rows.length ≤ 10000)
    (he : ∀ r : List Int, EvL K te ((wipeE η vs).set i (some (.lst (dI r)))) (dI r)) : EvLL K (tLc (iList K tl) (gName i) tYes te vs) η (rows.map dI) := by
  refine EvLL.is (el_lcLL (ds := dT rows) (fun j => dI (rows.getD j [])) h (.inl rfl) (by rw [dT_len]; omega) fun j d hd => ?_) ?_
  · obtain ⟨r, hr, rfl⟩ := get_dT hd
    refine ⟨_, tg_name hi, ?_⟩
    rw [getD_get hr]
    exact he r
  · rw [dT_len]
    exact range_gen dI rows _ fun j r hr => by rw [getD_get hr]
/-- [F(number) for number in numbers] -/
theorem el_mapI {η : DL.Env} {tl te : TE} {i : Nat} {vs : List Nat} {ds : List Int} (F : Int → Int) (h : EvD K tl η (.lst (dI ds))) (hi : i ∈ vs) (hz : ds.length ≤ 10000)
    (he : ∀ x ∈ ds, EvD K te ((wipeE η vs).set i (some (.int x))) (.int (F x))) : EvL K (tLc (iList K tl) (gName i) tYes te vs) η (dI (ds.map F)) := by
  refine EvL.is (el_lcL (ds := dI ds) (fun _ => true) (fun j => .int ((ds.map F).getD j 0)) h (.inl rfl) (by rw [List.length_map]; omega) fun j d hd' => ?_) ?_
  · obtain ⟨x, hx, rfl⟩ := get_dI hd'
    refine ⟨_, tg_name hi, et_yes, fun _ => EvD.is (he x (List.mem_of_getElem? hx)) ?_⟩
    rw [getD_get (show (ds.map F)[j]? = some (F x) by rw [List.getElem?_map, hx]; rfl)]
  · rw [given_all]
    refine range_dI (by rw [List.length_map, List.length_map]) fun j x h => ?_
    rw [getD_get h]
theorem max2_eq (i j : Int) : (if j > i then j else i) = max i j := by
  rw [Int.max_def]
  split <;> split <;> omega
theorem frz_oo {rows : List (List Int)} : (rows.map dI).map DL.D.lst = dT rows := by
  unfold dT
  rw [List.map_map]
  rfl
theorem dI_set (r : List Int) (c : Nat) (v : Int) : (dI r).set c (.int v) = dI (r.set c v) := by
  unfold dI
  rw [List.map_set]
theorem rows_set (l : List (List Int)) (m : Nat) (r : List Int) : (l.map dI).set m (dI r) = (l.set m r).map dI := by rw [List.map_set]
/-! _law_twins -/
structure PreTwins (width : Nat) (rows : List (List Int)) (h : List Int) : Prop where
  t : Tab rows.length width rows
  m : 1 ≤ rows.length ∧ rows.length ≤ 30
  w : 1 ≤ width ∧ width ≤ 30
  h : HeadOk h
  b : ∀ r ∈ rows, ∀ x ∈ r, Sm 10000 x
def spLawTwins (K : PySem.W.Frag) : Sp := spT K (α := Nat × List (List Int) × List Int) (fun a => [.lst (dT a.2.1), .lst (dI a.2.2)]) (fun a => PreTwins a.1 a.2.1 a.2.2) (fun a => .sh (.lst (dT (twinsM a.1 a.2.1 a.2.2))))
theorem fac_at {x : Int} (h : 0 ≤ x) (h4 : x < 4) : atI [.int 1, .int (-1), .int 2, .int 0] x = some (DL.D.int (facM.getD x.toNat 0)) := by
  have e : ((x.toNat : Nat) : Int) = x := by omega
  have g := atI_nat (dI_get (get_getD (l := facM) 0 (show x.toNat < facM.length by show _ < 4; omega)))
  rw [e] at g
  exact g
theorem atN {α : Type} {l : List α} {x : Int} {v : α} (h : 0 ≤ x) (e : l[x.toNat]? = some v) : atI l x = some v := by
  have g := atI_nat e
  rw [show ((x.toNat : Nat) : Int) = x by omega] at g
  exact g
theorem sm_fac (x : Int) (h : 0 ≤ x) (h4 : x < 4) : Sm 10000 (facM.getD x.toNat 0) := (fac_bd _ (getD_mem (l := facM) _ (show x.toNat < 4 by omega))).smL 10 (by decide) (by decide)
theorem po1 : CPow 10 50 := ⟨by decide, by decide, by decide⟩
theorem po2 : CMulW (10 ^ (50 : Int).toNat) (10 ^ (50 : Int).toNat) := by unfold CMulW; decide +kernel
theorem po3 : CPowW (10 ^ (50 : Int).toNat) 7 := by unfold CPowW; decide +kernel
theorem po4 : CMulW ((10 ^ (50 : Int).toNat) ^ (7 : Int).toNat) (10 ^ (43 : Int).toNat) := by unfold CMulW; decide +kernel
theorem po5 : CPow 10 43 := ⟨by decide, by decide, by decide⟩
theorem po6 : (10 ^ (50 : Int).toNat * 10 ^ (50 : Int).toNat : Int) = 10 ^ 100 := by decide +kernel
theorem po7 : ((10 ^ (50 : Int).toNat) ^ (7 : Int).toNat * 10 ^ (43 : Int).toNat : Int) = 10 ^ 393 := by decide +kernel
theorem most_at {x : Int} : atI [DL.D.int (10 ^ (50 : Int).toNat * 10 ^ (50 : Int).toNat), .int ((10 ^ (50 : Int).toNat) ^ (7 : Int).toNat * 10 ^ (43 : Int).toNat)] (x % 2) = some (.int (mostM x)) := by
  rw [po6, po7]
  unfold mostM
  have h : x % 2 = 0 ∨ x % 2 = 1 := by omega
  rcases h with h | h
  · rw [h, if_pos rfl]
    exact atI_zero
  · rw [h, if_neg (by decide)]
    exact atI_one
theorem dI_at {ns : List Int} {x : Int} (h : 0 ≤ x) (h2 : x.toNat < ns.length) : atI (dI ns) x = some (.int (ns.getD x.toNat 0)) := atN h (dI_get (get_getD 0 h2))
/-- lists made over range(n) -/
theorem el_rangeI {η : DL.Env} {ta : TA} {te : TE} {i : Nat} {vs : List Nat} {n : Nat} (F : Nat → Int) (h : EvA K ta η [.int n]) (hi : i ∈ vs) (hz : n ≤ 10000)
    (he : ∀ j, j < n → EvD K te ((wipeE η vs).set i (some (.int (j : Int)))) (.int (F j))) : EvL K (tLc (iRng1 ta) (gName i) tYes te vs) η (dI ((List.range n).map F)) := by
  refine EvL.is (el_lcR (n := (n : Int)) (fun _ => true) (fun j => .int (F j)) h (by omega) (by omega) fun j hj => ⟨_, tg_name hi, et_yes, fun _ => he j (by omega)⟩) ?_
  rw [given_all, Int.toNat_natCast]
  unfold dI
  rw [List.map_map]
  rfl
theorem el_rangeL {η : DL.Env} {ta : TA} {te : TE} {i : Nat} {vs : List Nat} {n : Nat} (F : Nat → List Int) (h : EvA K ta η [.int n]) (hi : i ∈ vs) (hz : n ≤ 10000)
    (he : ∀ j, j < n → EvL K te ((wipeE η vs).set i (some (.int (j : Int)))) (dI (F j))) : EvL K (tLc (iRng1 ta) (gName i) tYes te vs) η (dT ((List.range n).map F)) := by
  refine EvL.is (el_lcR (n := (n : Int)) (fun _ => true) (fun j => .lst (dI (F j))) h (by omega) (by omega) fun j hj => ⟨_, tg_name hi, et_yes, fun _ => (he j (by omega)).data⟩) ?_
  rw [given_all, Int.toNat_natCast]
  unfold dT
  rw [List.map_map]
  rfl
theorem cut_take {α : Type} (l : List α) (n : Nat) (h : n ≤ l.length) : DL.cutD l none (some (n : Int)) = l.take n := by
  unfold DL.cutD
  have e1 : HT.sIx l.length 0 none = 0 := rfl
  have e2 : HT.sIx l.length l.length (some (n : Int)) = n := by
    rw [HT.sIx_nat]
    omega
  rw [e1, e2, List.drop_zero, Nat.sub_zero]
/-! _law_planted -/
def spLawPlanted (K : PySem.W.Frag) : Sp := spT K (α := List Int × List Int × Sz) (fun a => [.rd (dI a.1), .lst (dI a.2.1), .lst (szD a.2.2)]) (fun a => HeadOk a.2.1 ∧ SzOk a.2.2) (fun a => .ow [.lst (dT (tableM a.1 a.2.1 a.2.2)), .lst (dI (sumsM a.1 a.2.1 a.2.2))])
def gv_Solution_bar_point {α : Type} : List α → List α → List α := fun vs zs => match vs, zs with
  | [x], [b, p] => [x, p, b]
  | _, _ => []
/-- what solved tells -/
inductive Sol where
  | pt (tops : List Int) (line : Int) | bar (b : List Int)
def solD (K : PySem.W.Frag) : Sol → DL.D
  | .pt t l => .ins (He.ga K "Solution") ["point", "bar"] [.tup [.tup (dI t), .int l], .non]
  | .bar b => .ins (He.ga K "Solution") ["point", "bar"] [.non, .tup (dI b)]
def dueS : Sol → Bool
  | .pt _ _ => false
  | .bar _ => true
/-- what the law asks of it -/
structure RightOk (rows : List (List Int)) (right : List Int) (width : Nat) (s : Sol) : Prop where
  t : Tab rows.length width rows
  n : 1 ≤ rows.length ∧ rows.length ≤ 1000
  w : width ≤ 1000
  r : rows.length ≤ right.length
  bt : ∀ r ∈ rows, ∀ x ∈ r, Sm 40000 x
  br : ∀ x ∈ right, Sm 40000 x
  ok : match s with
    | .pt t l => (∀ x ∈ t, Sm 40000 x) ∧ Sm 40000 l ∧ isRowM t l width = true ∧ ∀ i, i < rows.length → dotL (rows.getD i []) t = right.getD i 0 * l
    | .bar b => (∀ x ∈ b, Sm 40000 x) ∧ b.length = rows.length ∧ (∀ x ∈ mixedM rows b, x = 0) ∧ 0 < dotL b right
def spLawRight (K : PySem.W.Frag) : Sp := spT K (α := List (List Int) × List Int × Nat × Sol) (fun a => [.lst (dT a.1), .lst (dI a.2.1), .bl (dueS a.2.2.2), solD K a.2.2.2]) (fun a => RightOk a.1 a.2.1 a.2.2.1 a.2.2.2) (fun _ => .sh (.bl true))
/-- no item is given -/
theorem el_none {η : DL.Env} {tl te : TE} {tt : TT} {i : Nat} {vs : List Nat} {ds : List Int} (h : EvD K tl η (.lst (dI ds))) (hi : i ∈ vs) (hz : ds.length ≤ 10000)
    (he : ∀ x ∈ ds, EvT K tt ((wipeE η vs).set i (some (.int x))) false) : EvL K (tLc (iList K tl) (gName i) tt te vs) η [] := by
  refine EvL.is (el_lcL (ds := dI ds) (fun _ => false) (fun _ => .non) h (.inl rfl) (by rw [List.length_map]; omega) fun j d hd' => ?_) (by unfold given; simp)
  obtain ⟨x, hx, rfl⟩ := get_dI hd'
  exact ⟨_, tg_name hi, he x (List.mem_of_getElem? hx), fun z => by cases z⟩
theorem el_noneT {η : DL.Env} {tl te : TE} {tt : TT} {i : Nat} {vs : List Nat} {ds : List Int} (h : EvD K tl η (.tup (dI ds))) (hi : i ∈ vs) (hz : ds.length ≤ 10000)
    (he : ∀ x ∈ ds, EvT K tt ((wipeE η vs).set i (some (.int x))) false) : EvL K (tLc (iTup K tl) (gName i) tt te vs) η [] := by
  refine EvL.is (el_lcT (ds := dI ds) (fun _ => false) (fun _ => .non) h (by rw [List.length_map]; omega) fun j d hd' => ?_) (by unfold given; simp)
  obtain ⟨x, hx, rfl⟩ := get_dI hd'
  exact ⟨_, tg_name hi, he x (List.mem_of_getElem? hx), fun z => by cases z⟩
theorem el_noneR {η : DL.Env} {ta : TA} {te : TE} {tt : TT} {i : Nat} {vs : List Nat} {n : Nat} (h : EvA K ta η [.int n]) (hi : i ∈ vs) (hz : n ≤ 10000)
    (he : ∀ j, j < n → EvT K tt ((wipeE η vs).set i (some (.int (j : Int)))) false) : EvL K (tLc (iRng1 ta) (gName i) tt te vs) η [] :=
  EvL.is (el_lcR (n := (n : Int)) (fun _ => false) (fun _ => .non) h (by omega) (by omega) fun j hj => ⟨_, tg_name hi, he j (by omega), fun z => by cases z⟩) (by unfold given; simp)
theorem row_sm {t : List Int} {l : Int} {w : Int} (h : isRowM t l w = true) : (t.length : Int) = w ∧ 1 ≤ l := by
  unfold isRowM at h
  rw [Bool.and_eq_true, Bool.and_eq_true, decide_eq_true_iff, decide_eq_true_iff] at h
  exact ⟨h.1, h.2.1⟩
/-! _law_holds -/
def spLawHolds (K : PySem.W.Frag) : Sp := spT K (α := Sol) (fun a => [solD K a]) (fun a => match a with
  | .pt t l => (∀ x ∈ t, Sm 40000 x) ∧ Sm 40000 l ∧ t.length ≤ 1000 ∧ isRowM t l t.length = true
  | .bar b => (∀ x ∈ b, Sm 40000 x) ∧ b.length ≤ 1000) (fun _ => .sh (.bl true))
theorem gv_make (b p : DL.D) (y : V) (H : Hp) (zs : List V) (r : Rps K H zs [b, p]) : ∃ ws, gv_Solution_bar_point [y] zs = y :: ws ∧ Rps K H ws [p, b] := by
  cases r with
  | cons r1 r =>
    cases r with
    | cons r2 r =>
      cases r
      exact ⟨_, rfl, .cons r2 (.cons r1 .nil)⟩
theorem divG {g : Nat} (h : g < 2 ^ 8999) (h0 : 0 < g) (x : Int) : CDivW x (g : Int) := divW (by omega) (by unfold Sm; rw [Int.natAbs_natCast]; exact h) (by decide)
theorem gcd_cast (a : Nat) (x : Int) : ((Nat.gcd ((a : Int)).natAbs x.natAbs : Nat) : Int) = ((Nat.gcd a x.natAbs : Nat) : Int) := by rw [Int.natAbs_natCast]
/-! ratio -/
def spRatio (K : PySem.W.Frag) : Sp := spT K (α := Int × Int) (fun a => [.int a.1, .int a.2]) (fun a => 0 < a.2 ∧ Sm 8999 a.2) (fun a => .sh (.tup [.int (ratioM a.1 a.2).1, .int (ratioM a.1 a.2).2]))
/-! row -/
def spRow (K : PySem.W.Frag) : Sp := spT K (α := List Int × Int) (fun a => [.lst (dI a.1), .int a.2]) (fun a => 0 < a.2 ∧ Sm 8999 a.2 ∧ a.1.length ≤ 10000) (fun a => .sh (.tup [.tup (dI (rowM a.1 a.2).1), .int (rowM a.1 a.2).2]))
theorem gcdL_line {line : Int} {tops : List Int} (h : 0 < line) (h2 : Sm 8999 line) : 0 < gcdL (line :: tops) ∧ gcdL (line :: tops) < 2 ^ 8999 := by
  have d := gcdL_dvd (line :: tops) line List.mem_cons_self
  exact ⟨Nat.pos_of_dvd_of_pos d (by omega), Nat.lt_of_le_of_lt (Nat.le_of_dvd (by omega) d) h2⟩
theorem gcdL_all {line : Int} (h : 0 < line) : ((gcdL [line] : Nat) : Int) = line := by
  rw [gcdL_cons]
  unfold gcdL
  rw [List.foldl_nil, Nat.gcd_zero_right]
  omega
/-! row_of -/
def prD (rs : List (Int × Int)) : List DL.D := rs.map fun r => .tup [.int r.1, .int r.2]
theorem get_prD {rs : List (Int × Int)} {m : Nat} {d : DL.D} (h : (prD rs)[m]? = some d) : ∃ r, rs[m]? = some r ∧ d = .tup [.int r.1, .int r.2] := by
  unfold prD at h
  rw [List.getElem?_map] at h
  cases e : rs[m]? with
  | none => rw [e] at h; cases h
  | some x => rw [e] at h; cases h; exact ⟨x, rfl, rfl⟩
structure PreRowOf (rs : List (Int × Int)) : Prop where
  l : rs.length ≤ 10000
  b : ∀ r ∈ rs, 0 < r.2 ∧ Sm 8999 r.2 ∧ Sm 100000 r.1
  c : lcmL (rs.map Prod.snd) < 2 ^ 8999
def spRowOf (K : PySem.W.Frag) : Sp := spT K (α := List (Int × Int)) (fun a => [.lst (prD a)]) PreRowOf (fun a => .sh (.tup [.tup (dI (rowOfM a).1), .int (rowOfM a).2]))
theorem lcm_fold : ∀ (bs : List Int) (l : Nat), l ∣ bs.foldl (fun l b => Nat.lcm l b.natAbs) l
  | [], l => Nat.dvd_refl l
  | b :: bs, l => Nat.dvd_trans (Nat.dvd_lcm_left l b.natAbs) (lcm_fold bs _)
theorem lcm_pos : ∀ (bs : List Int) (l : Nat), 0 < l → (∀ b ∈ bs, 0 < b) → 0 < bs.foldl (fun l b => Nat.lcm l b.natAbs) l
  | [], l, h, _ => h
  | b :: bs, l, h, hb => lcm_pos bs _ (Nat.lcm_pos h (by have := hb b List.mem_cons_self; omega)) fun c hc => hb c (List.mem_cons_of_mem _ hc)
theorem lcm_take (bs : List Int) (m : Nat) : lcmL (bs.take m) ∣ lcmL bs := by
  have h : lcmL bs = (bs.drop m).foldl (fun l b => Nat.lcm l b.natAbs) (lcmL (bs.take m)) := by
    unfold lcmL
    rw [← List.foldl_append, List.take_append_drop]
  rw [h]
  exact lcm_fold _ _
theorem lcm_dvd : ∀ (bs : List Int) (l : Nat) (b : Int), b ∈ bs → b.natAbs ∣ bs.foldl (fun l b => Nat.lcm l b.natAbs) l
  | c :: bs, l, b, h => by
    rcases List.mem_cons.mp h with rfl | h
    · exact Nat.dvd_trans (Nat.dvd_lcm_right l _) (lcm_fold bs _)
    · exact lcm_dvd bs _ b h
  | [], _, _, h => by cases h
/-! lowest -/
def spLowest (K : PySem.W.Frag) : Sp := spT K (α := Bool × List Int) (fun a => [seqD a.1 (dI a.2)]) (fun a => a.2.length ≤ 10000) (fun a => .ow (dI (lowM a.2)))
/-! cleared -/
structure PreClear (n W : Nat) (es : List (List Int)) (a col : Nat) : Prop where
  hn : n ≤ 1000
  hw : W ≤ 1000
  t : Tab n W es
  ha : a < n
  hc : col < W
  b : ∀ r ∈ es, ∀ x ∈ r, Sm 100000 x
def spCleared (K : PySem.W.Frag) : Sp := spT K (α := Nat × Nat × List (List Int) × Nat × Nat) (fun a => [.lst (dT a.2.2.1), .int a.2.2.2.1, .int a.2.2.2.2]) (fun a => PreClear a.1 a.2.1 a.2.2.1 a.2.2.2.1 a.2.2.2.2) (fun a => .ow (dT (clearedM a.2.2.1 a.2.2.2.1 a.2.2.2.2)))
/-! free_entry -/
def usK (us : List Nat) : List Key := us.map fun (a : Nat) => (Sum.inl (Int.ofNat a) : Key)
def usD (us : List Nat) : DL.D := .dct (usK us) (List.replicate us.length (.bl true))
def optD : Option Nat → DL.D
  | none => .non
  | some k => .int k
theorem hasK_us (us : List Nat) (k : Nat) : hasK (usK us) (.inl (k : Int)) = us.contains k := by
  rw [Bool.eq_iff_iff, hasK_iff, List.contains_iff_mem]
  unfold usK
  rw [List.mem_map]
  constructor
  · rintro ⟨x, hx, e⟩
    have : (x : Int) = k := by cases e; rfl
    have : x = k := by omega
    rw [← this]
    exact hx
  · intro h
    exact ⟨k, h, rfl⟩
theorem find_none {p : Nat → Bool} {n : Nat} (h : ∀ k, k < n → p k = false) : (List.range n).find? p = none := List.find?_eq_none.mpr fun k hk => by rw [h k (List.mem_range.mp hk)]; decide
theorem find_some {p : Nat → Bool} : ∀ {n m : Nat}, m < n → (∀ k, k < m → p k = false) → p m = true → (List.range n).find? p = some m
  | n + 1, m, hm, h, hp => by
    rw [List.range_succ, List.find?_append]
    by_cases e : m < n
    · rw [find_some e h hp]
      rfl
    · have e : m = n := by omega
      subst e
      rw [find_none h]
      show List.find? p [m] = some m
      rw [List.find?_cons, hp]
structure PreFree (n W : Nat) (es : List (List Int)) (col : Nat) : Prop where
  hn : n ≤ 1000
  t : Tab n W es
  hc : col < W
def spFreeEntry (K : PySem.W.Frag) : Sp := spT K (α := Nat × Nat × List (List Int) × List Nat × Nat) (fun a => [.lst (dT a.2.2.1), usD a.2.2.2.1, .int a.2.2.2.2]) (fun a => PreFree a.1 a.2.1 a.2.2.1 a.2.2.2.2) (fun a => .sh (optD (freeM a.2.2.1 a.2.2.2.1 a.2.2.2.2)))
/-! eliminated -/
def pvD (pv : List (Nat × Nat)) : List DL.D := pv.map fun p => .tup [.int p.1, .int p.2]
def tabD (k : Bool) (T : List (List Int)) : DL.D := seqD k (T.map fun r => seqD k (dI r))
def spEliminated (K : PySem.W.Frag) : Sp := spT K (α := Bool × Nat × Nat × List (List Int) × Nat) (fun a => [tabD a.1 a.2.2.2.1, .int a.2.2.2.2]) (fun a => ElOk a.2.1 a.2.2.1 a.2.2.2.1 a.2.2.2.2) (fun a => .sh (.tup [.lst (dT (elimTo a.2.2.2.1 a.2.2.2.2).es), .lst (pvD (elimTo a.2.2.2.1 a.2.2.2.2).pv)]))
theorem get_tab {k : Bool} {T : List (List Int)} {m : Nat} {d : DL.D} (h : (T.map fun r => seqD k (dI r))[m]? = some d) : ∃ r, T[m]? = some r ∧ d = seqD k (dI r) := by
  rw [List.getElem?_map] at h
  cases e : T[m]? with
  | none => rw [e] at h; cases h
  | some x => rw [e] at h; cases h; exact ⟨x, rfl, rfl⟩
/-- [F(number) for number in numbers], a list or a tuple -/
theorem el_mapQ {η : DL.Env} {tl te : TE} {i : Nat} {vs : List Nat} {ds : List Int} {k : Bool} (F : Int → Int) (h : EvD K tl η (seqD k (dI ds))) (hi : i ∈ vs) (hz : ds.length ≤ 10000)
    (he : ∀ x ∈ ds, EvD K te ((wipeE η vs).set i (some (.int x))) (.int (F x))) : EvL K (tLc (iSeq K tl) (gName i) tYes te vs) η (dI (ds.map F)) := by
  refine EvL.is (el_lcQ (ds := dI ds) (fun _ => true) (fun j => .int ((ds.map F).getD j 0)) h (by rw [List.length_map]; omega) fun j d hd' => ?_) ?_
  · obtain ⟨x, hx, rfl⟩ := get_dI hd'
    refine ⟨_, tg_name hi, et_yes, fun _ => EvD.is (he x (List.mem_of_getElem? hx)) ?_⟩
    rw [getD_get (show (ds.map F)[j]? = some (F x) by rw [List.getElem?_map, hx]; rfl)]
  · rw [given_all]
    refine range_dI (by rw [List.length_map, List.length_map]) fun j x h => ?_
    rw [getD_get h]
/-- [F(row) for row in rows], lists or tuples -/
theorem el_mapLQ {η : DL.Env} {tl te : TE} {i : Nat} {vs : List Nat} {rows : List (List Int)} {k : Bool} (F : List Int → List Int) (h : EvD K tl η (tabD k rows)) (hi : i ∈ vs) (hz : rows.length ≤ 10000)
    (he : ∀ r ∈ rows, EvL K te ((wipeE η vs).set i (some (seqD k (dI r)))) (dI (F r))) : EvL K (tLc (iSeq K tl) (gName i) tYes te vs) η (dT (rows.map F)) := by
  refine EvL.is (el_lcQ (ds := rows.map fun r => seqD k (dI r)) (fun _ => true) (fun j => .lst (dI (F (rows.getD j [])))) h (by rw [List.length_map]; omega) fun j d hd => ?_) ?_
  · obtain ⟨r, hr, rfl⟩ := get_tab hd
    refine ⟨_, tg_name hi, et_yes, fun _ => EvD.is (he r (List.mem_of_getElem? hr)).data ?_⟩
    rw [getD_get hr]
  · rw [given_all, List.length_map]
    unfold dT
    rw [List.map_map]
    exact range_gen (fun r => DL.D.lst (dI (F r))) rows _ fun j r hr => by rw [getD_get hr]
theorem el_mapL {η : DL.Env} {tl te : TE} {i : Nat} {vs : List Nat} {rows : List (List Int)} (F : List Int → List Int) (h : EvD K tl η (.lst (dT rows))) (hi : i ∈ vs) (hz : rows.length ≤ 10000)
    (he : ∀ r ∈ rows, EvL K te ((wipeE η vs).set i (some (.lst (dI r)))) (dI (F r))) : EvL K (tLc (iList K tl) (gName i) tYes te vs) η (dT (rows.map F)) := by
  refine EvL.is (el_lcL (ds := dT rows) (fun _ => true) (fun j => .lst (dI (F (rows.getD j [])))) h (.inl rfl) (by rw [dT_len]; omega) fun j d hd => ?_) ?_
  · obtain ⟨r, hr, rfl⟩ := get_dT hd
    refine ⟨_, tg_name hi, et_yes, fun _ => EvD.is (he r (List.mem_of_getElem? hr)).data ?_⟩
    rw [getD_get hr]
  · rw [given_all, dT_len]
    unfold dT
    rw [List.map_map]
    exact range_gen (fun r => DL.D.lst (dI (F r))) rows _ fun j r hr => by rw [getD_get hr]
theorem dT_set (rows : List (List Int)) (m : Nat) (r : List Int) : (dT rows).set m (.lst (dI r)) = dT (rows.set m r) := by
  unfold dT
  rw [List.map_set]
/-! bar_of -/
structure PreBar (n W : Nat) (s : El) (width : Nat) : Prop where
  hn : n ≤ 1000
  hw : W ≤ 1000
  t : Tab n W s.es
  hc : width < W
  nd : s.us.Nodup
  u : ∀ a ∈ s.us, a < n
def barD : Option (List Int) → DL.D
  | none => .non
  | some b => .tup (dI b)
def spBarOf (K : PySem.W.Frag) : Sp := spT K (α := Nat × Nat × El × Nat) (fun a => [.lst (dT a.2.2.1.es), .lst (pvD a.2.2.1.pv), .int a.2.2.2]) (fun a => PreBar a.1 a.2.1 a.2.2.1 a.2.2.2) (fun a => .sh (barD (barM a.2.2.1 a.2.2.2)))
theorem get_pvD {pv : List (Nat × Nat)} {m : Nat} {d : DL.D} (h : (pvD pv)[m]? = some d) : ∃ r, pv[m]? = some r ∧ d = .tup [.int r.1, .int r.2] := by
  unfold pvD at h
  rw [List.getElem?_map] at h
  cases e : pv[m]? with
  | none => rw [e] at h; cases h
  | some x => rw [e] at h; cases h; exact ⟨x, rfl, rfl⟩
theorem nodup_ne : ∀ {us : List Nat} {i j : Nat} {a b : Nat}, us.Nodup → i < j → us[i]? = some a → us[j]? = some b → a ≠ b
  | u :: us, 0, j + 1, a, b, nd, _, h1, h2 => by
    cases h1
    intro e
    subst e
    exact (List.nodup_cons.mp nd).1 (List.mem_of_getElem? h2)
  | u :: us, i + 1, j + 1, a, b, nd, h, h1, h2 => nodup_ne (us := us) (i := i) (j := j) (List.nodup_cons.mp nd).2 (by omega) h1 h2
  | [], _, _, _, _, _, _, h1, _ => by simp at h1
theorem cut_drop {α : Type} (l : List α) (n : Nat) (h : n ≤ l.length) : DL.cutD l (some (n : Int)) none = l.drop n := by
  unfold DL.cutD
  have e1 : HT.sIx l.length l.length none = l.length := rfl
  have e2 : HT.sIx l.length 0 (some (n : Int)) = n := by
    rw [HT.sIx_nat]
    omega
  rw [e1, e2]
  exact List.take_of_length_le (by rw [List.length_drop]; exact Nat.le_refl _)
/-! solved -/
def solM (T : List (List Int)) (b : List Int) (width : Nat) : Sol := match barM (elimTo (entriesM T b) width) width with
  | some x => .bar x
  | none => .pt (rowOfM (pointM (elimTo (entriesM T b) width) width)).1 (rowOfM (pointM (elimTo (entriesM T b) width) width)).2
structure PreSolved (T : List (List Int)) (b : List Int) (n width : Nat) : Prop where
  hn : 1 ≤ n
  t : Tab n width T
  l : b.length = n
  ok : ElOk n (width + 1 + n) (entriesM T b) width
  pb : PreBar n (width + 1 + n) (elimTo (entriesM T b) width) width
  p : ∀ ac ∈ (elimTo (entriesM T b) width).pv, ac.1 < n ∧ ac.2 < width ∧ 0 < ((elimTo (entriesM T b) width).es.getD ac.1 []).getD ac.2 0 ∧ Sm 8999 (((elimTo (entriesM T b) width).es.getD ac.1 []).getD ac.2 0)
  r : PreRowOf (pointM (elimTo (entriesM T b) width) width)
def spSolved (K : PySem.W.Frag) : Sp := spT K (α := Bool × Bool × List (List Int) × List Int × Nat × Nat) (fun a => [tabD a.1 a.2.2.1, seqD a.2.1 (dI a.2.2.2.1)]) (fun a => PreSolved a.2.2.1 a.2.2.2.1 a.2.2.2.2.1 a.2.2.2.2.2) (fun a => .sh (solD K (solM a.2.2.1 a.2.2.2.1 a.2.2.2.2.2)))
theorem prD_set (p : List (Int × Int)) (m : Nat) (r : Int × Int) : (prD p).set m (.tup [.int r.1, .int r.2]) = prD (p.set m r) := by
  unfold prD
  rw [List.map_set]
theorem pt_len : ∀ (pv : List (Nat × Nat)) (F : Nat × Nat → Int × Int) (p : List (Int × Int)), (pv.foldl (fun p ac => p.set ac.2 (F ac)) p).length = p.length
  | [], _, _ => rfl
  | a :: pv, F, p => by
    show (pv.foldl _ (p.set a.2 (F a))).length = _
    rw [pt_len pv F, List.length_set]
theorem seqD_pos {k : Bool} {T : List (List Int)} {m : Nat} (h : m < T.length) : (T.map fun r => seqD k (dI r))[m]? = some (seqD k (dI (T.getD m []))) := by rw [List.getElem?_map, get_getD [] h]; rfl
/-! ### the plan of a run, plainly -/
def headM (ns : List Int) : List Int := digitsM (cellM ns 0) headSizes
def zM (ns : List Int) : Sz := sizesM (headM ns)
def rowsM (ns : List Int) : List (List Int) := tableM ns (headM ns) (zM ns)
def sumM (ns : List Int) : List Int := sumsM ns (headM ns) (zM ns)
def placeM (ns : List Int) : Nat := ((headM ns).getD 10 0 % ((zM ns).many : Int)).toNat
def nextM (ns : List Int) : Nat := (((placeM ns : Int) + 1) % ((zM ns).many : Int)).toNat
def shares0 (ns : List Int) : List Int := (digitsM (cellM ns 32) (List.replicate (zM ns).many 5)).map fun x => x - 2
def sharesM (ns : List Int) : List Int := ((shares0 ns).set (nextM ns) ((shares0 ns).getD (nextM ns) 0 + 3)).set (placeM ns) 0
def otherM (ns : List Int) : List (List Int) := (rowsM ns).set (placeM ns) (mixedM (rowsM ns) (sharesM ns))
def keptM (ns : List Int) : List Int := (sumM ns).set (placeM ns) (dotL (sharesM ns) (sumM ns))
def furTop (z : Sz) : Int := if z.big then (10 ^ 50) ^ 7 * 10 ^ 49 * 9 else 7
def furM (ns : List Int) : Int := (longM (cellM ns 33) 1 (furTop (zM ns))).getD 0 0
def signM (ns : List Int) : Int := if (headM ns).getD 11 0 = 0 then 1 else -1
def raisedM (ns : List Int) : List Int := (keptM ns).set (placeM ns) (dotL (sharesM ns) (sumM ns) + (1 + furM ns) * signM ns)
theorem headOk (ns : List Int) : HeadOk (headM ns) := head_ok _
theorem zOk (ns : List Int) : SzOk (zM ns) := sizes_ok (headOk ns)
theorem rows_tab (ns : List Int) : Tab (zM ns).many (zM ns).width (rowsM ns) := table_tab ns (zOk ns) (headOk ns)
theorem rows_bd (ns : List Int) : ∀ r ∈ rowsM ns, ∀ x ∈ r, Bd (B0 (zM ns) * 240) x := table_bd ns (zOk ns) (headOk ns)
theorem sum_len (ns : List Int) : (sumM ns).length = (zM ns).many := sums_len _ _ _
theorem sum_bd (ns : List Int) : ∀ x ∈ sumM ns, Bd (B0 (zM ns) * 599400) x := sums_bd ns (zOk ns) (headOk ns)
theorem place_lt (ns : List Int) : placeM ns < (zM ns).many := by
  unfold placeM
  have := (zOk ns).m
  have h1 := Int.emod_nonneg ((headM ns).getD 10 0) (show ((zM ns).many : Int) ≠ 0 by omega)
  have h2 := Int.emod_lt_of_pos ((headM ns).getD 10 0) (show 0 < ((zM ns).many : Int) by omega)
  omega
theorem next_lt (ns : List Int) : nextM ns < (zM ns).many := by
  unfold nextM
  have := (zOk ns).m
  have h1 := Int.emod_nonneg ((placeM ns : Int) + 1) (show ((zM ns).many : Int) ≠ 0 by omega)
  have h2 := Int.emod_lt_of_pos ((placeM ns : Int) + 1) (show 0 < ((zM ns).many : Int) by omega)
  omega
theorem shares0_len (ns : List Int) : (shares0 ns).length = (zM ns).many := by
  unfold shares0
  rw [List.length_map, digitsM_len, List.length_replicate]
theorem shares0_bd (ns : List Int) : ∀ x ∈ shares0 ns, Bd 2 x := by
  intro x hx
  obtain ⟨d, hd, rfl⟩ := List.mem_map.mp hx
  have := digitsM_rep _ 5 _ (by decide) d hd
  unfold Bd
  omega
theorem shares_len (ns : List Int) : (sharesM ns).length = (zM ns).many := by
  unfold sharesM
  rw [List.length_set, List.length_set, shares0_len]
theorem shares_bd (ns : List Int) : ∀ x ∈ sharesM ns, Bd 5 x := by
  intro x hx
  unfold sharesM at hx
  rcases mem_set hx with rfl | hx
  · exact Bd.zero
  · rcases mem_set hx with rfl | hx
    · have := shares0_bd ns _ (M.getD_mem (l := shares0 ns) (i := nextM ns) 0 (by rw [shares0_len]; exact next_lt ns))
      unfold Bd at *
      omega
    · exact (shares0_bd ns x hx).mono (by decide)
theorem mix_len (ns : List Int) : (mixedM (rowsM ns) (sharesM ns)).length = (zM ns).width := mixedM_len (rows_tab ns) (by have := (zOk ns).m; omega)
theorem mix_bd (ns : List Int) : ∀ x ∈ mixedM (rowsM ns) (sharesM ns), Bd (B0 (zM ns) * 36000) x := fun x hx =>
  (mixedM_bd (rows_tab ns) (by have := (zOk ns).m; omega) (by rw [shares_len]; exact Nat.le_refl _) (rows_bd ns) (shares_bd ns) x hx).mono (by
    have := (zOk ns).m
    calc (zM ns).many * (B0 (zM ns) * 240 * 5) ≤ 30 * (B0 (zM ns) * 240 * 5) := Nat.mul_le_mul_right _ this.2
      _ = B0 (zM ns) * 36000 := by omega)
theorem dot_bd' (ns : List Int) : Bd (B0 (zM ns) * 89910000) (dotL (sharesM ns) (sumM ns)) := by
  have h := dot_bd (xs := sharesM ns) (ys := sumM ns) (by rw [shares_len, sum_len]; exact Nat.le_refl _) (shares_bd ns) (sum_bd ns)
  rw [shares_len] at h
  refine h.mono ?_
  have := (zOk ns).m
  calc (zM ns).many * (5 * (B0 (zM ns) * 599400)) ≤ 30 * (5 * (B0 (zM ns) * 599400)) := Nat.mul_le_mul_right _ this.2
    _ = B0 (zM ns) * 89910000 := by omega
theorem toSm {z : Sz} {x : Int} {k : Nat} (hx : Bd (B0 z * k) x) (hk : k ≤ 2 ^ 90) : Sm 1400 x :=
  Nat.lt_of_le_of_lt (Nat.le_trans hx (Nat.mul_le_mul_right _ (b0_le z))) (Nat.lt_of_le_of_lt (Nat.mul_le_mul_left _ hk) (by decide +kernel))
theorem furTop_pos (z : Sz) : 0 < furTop z := by
  unfold furTop
  split <;> decide +kernel
theorem furTop_sm (z : Sz) : Sm 1400 (furTop z) := by
  unfold furTop Sm
  split <;> decide +kernel
theorem fur_lt (ns : List Int) : 0 ≤ furM ns ∧ furM ns < furTop (zM ns) := longM_lt (furTop_pos _) _ _ _ (M.getD_mem 0 (by rw [longM_len]; decide))
theorem other_tab (ns : List Int) : Tab (zM ns).many (zM ns).width (otherM ns) := by
  refine ⟨by unfold otherM; rw [List.length_set]; exact (rows_tab ns).n, fun r hr => ?_⟩
  unfold otherM at hr
  rcases mem_set hr with rfl | hr
  · exact mix_len ns
  · exact (rows_tab ns).w r hr
theorem kept_len (ns : List Int) : (keptM ns).length = (zM ns).many := by
  unfold keptM
  rw [List.length_set, sum_len]
/-- the first m places of o, then those of r -/
def over (m : Nat) (o r : List Int) : List Int := o.take m ++ r.drop m
theorem over_set : ∀ (m : Nat) (o r : List Int) (x : Int), o[m]? = some x → m < r.length → (over m o r).set m x = over (m + 1) o r
  | 0, a :: o, b :: r, x, h, _ => by cases h; rfl
  | m + 1, a :: o, b :: r, x, h, h2 => by
    show a :: (over m o r).set m x = a :: over (m + 1) o r
    rw [over_set m o r x h (by simpa using h2)]
  | 0, [], _, _, h, _ => by simp at h
  | m + 1, [], _, _, h, _ => by simp at h
  | 0, _ :: _, [], _, _, h => by simp at h
  | m + 1, _ :: _, [], _, _, h => by simp at h
theorem over_all (o r : List Int) (h : r.length = o.length) : over o.length o r = o := by
  unfold over
  rw [List.take_length, ← h, List.drop_length, List.append_nil]
theorem over_len (m : Nat) (o r : List Int) (h : r.length = o.length) (hm : m ≤ o.length) : (over m o r).length = o.length := by
  unfold over
  rw [List.length_append, List.length_take, List.length_drop]
  omega
/-- what the plain mathematics owes the walk -/
structure LawOk (ns : List Int) : Prop where
  p1 : PreSolved (rowsM ns) (sumM ns) (zM ns).many (zM ns).width
  p2 : PreSolved (otherM ns) (raisedM ns) (zM ns).many (zM ns).width
  p3 : PreSolved (otherM ns) (keptM ns) (zM ns).many (zM ns).width
  s1 : ∃ t l, solM (rowsM ns) (sumM ns) (zM ns).width = .pt t l ∧ RightOk (rowsM ns) (sumM ns) (zM ns).width (.pt t l)
  s2 : ∃ b, solM (otherM ns) (raisedM ns) (zM ns).width = .bar b ∧ RightOk (otherM ns) (raisedM ns) (zM ns).width (.bar b)
  s3 : ∃ t l, solM (otherM ns) (keptM ns) (zM ns).width = .pt t l ∧ RightOk (otherM ns) (keptM ns) (zM ns).width (.pt t l)
/-! law -/
def gv_Solved_right_table : List V → List V := fun zs => match zs with
  | [r, t] => [t, r]
  | _ => []
def spLaw (K : PySem.W.Frag) : Sp := spT K (α := List Int) (fun a => [.rd (dI a)]) LawOk (fun _ => .sh (.bl true))
theorem noL_sol (s : Sol) : noL (solD K s) = true := by
  cases s with
  | pt t l =>
    show (noLs [DL.D.tup (dI t), .int l] && _) = true
    show ((noLs (dI t) && _) && _) = true
    rw [noLs_dI]
    rfl
  | bar b => simp [solD, noL, noLs, noLs_dI]
theorem po8 : CMulW ((10 ^ (50 : Int).toNat) ^ (7 : Int).toNat) (10 ^ (49 : Int).toNat) := by unfold CMulW; decide +kernel
theorem po9 : CPow 10 49 := ⟨by decide, by decide, by decide⟩
theorem po10 : CMulW ((10 ^ (50 : Int).toNat) ^ (7 : Int).toNat * 10 ^ (49 : Int).toNat) 9 := by unfold CMulW; decide +kernel
theorem fur_at (z : Sz) : atI [DL.D.int 7, .int ((10 ^ (50 : Int).toNat) ^ (7 : Int).toNat * 10 ^ (49 : Int).toNat * 9)] (if z.big then 1 else 0) = some (.int (furTop z)) := by
  unfold furTop
  cases z.big with
  | true => exact atI_one
  | false => exact atI_zero
theorem sh_dT (rows : List (List Int)) : shp 2 (.lst (dT rows)) = true := by
  show shps 1 (dT rows) = true
  induction rows with
  | nil => rfl
  | cons r rs ih =>
    show (shp 1 (.lst (dI r)) && shps 1 (dT rs)) = true
    rw [ih, Bool.and_true]
    exact shps_dI 0 r
theorem tab_f (rows : List (List Int)) : tabD false rows = .lst (dT rows) := rfl
theorem tab_t (rows : List (List Int)) : tabD true rows = .tup (tT rows) := rfl
end
end LS

set_option Elab.async false
set_option linter.all false
set_option maxRecDepth 100000
set_option maxHeartbeats 4000000
/-! small whole solutions of homogeneous equations -/
namespace M
theorem pigeon {f : Nat → Nat} {N R : Nat} (h : R < N) (hf : ∀ t, t < N → f t < R) : ∃ t1 t2, t1 < t2 ∧ t2 < N ∧ f t1 = f t2 := by
  refine Classical.byContradiction fun hn => ?_
  have hd : ((List.range N).map f).Nodup := by
    unfold List.Nodup
    rw [List.pairwise_map]
    refine List.pairwise_lt_range.imp_of_mem fun {a b} ha hb hab => ?_
    intro e
    exact hn ⟨a, b, hab, List.mem_range.mp hb, e⟩
  have := nodup_len _ R hd fun a ha => by
    obtain ⟨t, ht, rfl⟩ := List.mem_map.mp ha
    exact hf t (List.mem_range.mp ht)
  rw [List.length_map, List.length_range] at this
  omega
def code (R : Nat) : List Nat → Nat
  | [] => 0
  | v :: vs => v + R * code R vs
theorem code_lt {R : Nat} : ∀ vs : List Nat, (∀ v ∈ vs, v < R) → code R vs < R ^ vs.length
  | [], _ => by show 0 < R ^ 0; rw [Nat.pow_zero]; decide
  | v :: vs, h => by
    have h1 := h v List.mem_cons_self
    have h2 := code_lt vs fun x hx => h x (List.mem_cons_of_mem _ hx)
    show v + R * code R vs < R ^ (vs.length + 1)
    rw [Nat.pow_succ, Nat.mul_comm (R ^ vs.length) R]
    have h3 : R * (code R vs + 1) ≤ R * R ^ vs.length := Nat.mul_le_mul_left _ h2
    rw [Nat.mul_add] at h3
    omega
theorem code_inj {R : Nat} : ∀ vs ws : List Nat, vs.length = ws.length → (∀ v ∈ vs, v < R) → (∀ w ∈ ws, w < R) → code R vs = code R ws → vs = ws
  | [], [], _, _, _, _ => rfl
  | [], _ :: _, h, _, _, _ => by simp at h
  | _ :: _, [], h, _, _, _ => by simp at h
  | v :: vs, w :: ws, h, h1, h2, e => by
    have a := h1 v List.mem_cons_self
    have b := h2 w List.mem_cons_self
    have e : v + R * code R vs = w + R * code R ws := e
    have e1 : (v + R * code R vs) % R = v := by rw [Nat.add_mul_mod_self_left, Nat.mod_eq_of_lt a]
    have e2 : (w + R * code R ws) % R = w := by rw [Nat.add_mul_mod_self_left, Nat.mod_eq_of_lt b]
    have e3 : v = w := by rw [← e1, ← e2, e]
    subst e3
    have e4 : R * code R vs = R * code R ws := by omega
    have e5 := Nat.eq_of_mul_eq_mul_left (by omega) e4
    rw [code_inj vs ws (by simpa using h) (fun x hx => h1 x (List.mem_cons_of_mem _ hx)) (fun x hx => h2 x (List.mem_cons_of_mem _ hx)) e5]
/-- the k-th digit of t -/
def dig (R t k : Nat) : Nat := t / R ^ k % R
theorem dig_eq {R : Nat} (hR : 0 < R) : ∀ (n t u : Nat), t < R ^ n → u < R ^ n → (∀ k, k < n → dig R t k = dig R u k) → t = u
  | 0, t, u, h1, h2, _ => by rw [Nat.pow_zero] at h1 h2; omega
  | n + 1, t, u, h1, h2, h => by
    have e0 := h 0 (by omega)
    unfold dig at e0
    rw [Nat.pow_zero, Nat.div_one, Nat.div_one] at e0
    have e1 : t / R = u / R := by
      refine dig_eq hR n _ _ ?_ ?_ fun k hk => ?_
      · rw [Nat.div_lt_iff_lt_mul hR, ← Nat.pow_succ]; exact h1
      · rw [Nat.div_lt_iff_lt_mul hR, ← Nat.pow_succ]; exact h2
      · have := h (k + 1) (by omega)
        unfold dig at this ⊢
        rw [Nat.div_div_eq_div_mul, Nat.div_div_eq_div_mul, Nat.mul_comm R, ← Nat.pow_succ]
        exact this
    have a := Nat.div_add_mod t R
    have b := Nat.div_add_mod u R
    rw [e1, e0] at a
    omega
/-- small solutions -/
theorem siegel (n B : Nat) (eqs : List (Nat → Int)) (hB : 1 ≤ B) (h : eqs.length < n) (hb : ∀ e ∈ eqs, ∀ k, k < n → Bd B (e k)) :
    ∃ x : Nat → Int, (∃ k, k < n ∧ x k ≠ 0) ∧ (∀ k, k < n → Bd ((2 * n * B) ^ eqs.length) (x k)) ∧ ∀ e ∈ eqs, sg n (fun k => x k * e k) = 0 := by
  have hn : 1 ≤ n := by omega
  generalize hm : eqs.length = m at h
  let H : Nat := (2 * n * B) ^ m
  let R : Nat := 2 * (n * (H * B)) + 1
  let v : Nat → (Nat → Int) → Int := fun t e => sg n (fun k => ((dig (H + 1) t k : Nat) : Int) * e k)
  let C : Nat → List Nat := fun t => eqs.map fun e => (v t e + ((n * (H * B) : Nat) : Int)).toNat
  have dl : ∀ t k, dig (H + 1) t k ≤ H := fun t k => by
    have : t / (H + 1) ^ k % (H + 1) < H + 1 := Nat.mod_lt _ (Nat.succ_pos H)
    unfold dig
    omega
  have vb : ∀ t, ∀ e ∈ eqs, Bd (n * (H * B)) (v t e) := fun t e he => sg_bd n fun k hk => by
    have d := dl t k
    exact (show Bd H (((dig (H + 1) t k : Nat) : Int)) by unfold Bd; omega).mul (hb e he k hk)
  have cl : ∀ t, ∀ x ∈ C t, x < R := fun t x hx => by
    obtain ⟨e, he, rfl⟩ := List.mem_map.mp hx
    have := vb t e he
    unfold Bd at this
    show (v t e + ((n * (H * B) : Nat) : Int)).toNat < 2 * (n * (H * B)) + 1
    omega
  have hlt : R ^ m < (H + 1) ^ n := by
    have h1 : 1 ≤ 2 * n * B := Nat.mul_pos (by omega) hB
    have h2 : R ≤ (H + 1) * (2 * n * B) := by
      show 2 * (n * (H * B)) + 1 ≤ _
      rw [Nat.add_mul, Nat.one_mul]
      have : H * (2 * n * B) = 2 * (n * (H * B)) := by
        rw [Nat.mul_assoc 2 n B, Nat.mul_left_comm H 2, Nat.mul_left_comm H n B]
      omega
    calc R ^ m ≤ ((H + 1) * (2 * n * B)) ^ m := Nat.pow_le_pow_left h2 m
      _ = (H + 1) ^ m * H := by rw [Nat.mul_pow]
      _ < (H + 1) ^ m * (H + 1) := Nat.mul_lt_mul_of_pos_left (Nat.lt_succ_self H) (Nat.pow_pos (Nat.succ_pos H))
      _ = (H + 1) ^ (m + 1) := (Nat.pow_succ ..).symm
      _ ≤ (H + 1) ^ n := Nat.pow_le_pow_right (Nat.succ_pos H) (by omega)
  obtain ⟨t1, t2, h12, h2n, he⟩ := pigeon (f := fun t => code R (C t)) hlt fun t _ => by
    have := code_lt (C t) (cl t)
    rw [show (C t).length = m by show (eqs.map _).length = m; rw [List.length_map]; exact hm] at this
    exact this
  have hC := code_inj (C t1) (C t2) (by show (eqs.map _).length = (eqs.map _).length; rw [List.length_map, List.length_map]) (cl t1) (cl t2) he
  refine ⟨fun k => ((dig (H + 1) t1 k : Nat) : Int) - ((dig (H + 1) t2 k : Nat) : Int), ?_, fun k hk => ?_, fun e hE => ?_⟩
  · refine Classical.byContradiction fun hn => ?_
    have : t1 = t2 := dig_eq (R := H + 1) (Nat.succ_pos H) n t1 t2 (by omega) h2n fun k hk => by
      have := Classical.byContradiction (p := ((dig (H + 1) t1 k : Nat) : Int) - ((dig (H + 1) t2 k : Nat) : Int) = 0) fun z => hn ⟨k, hk, z⟩
      omega
    omega
  · have a := dl t1 k
    have b := dl t2 k
    show Int.natAbs (((dig (H + 1) t1 k : Nat) : Int) - ((dig (H + 1) t2 k : Nat) : Int)) ≤ H
    omega
  · have h1 : (v t1 e + ((n * (H * B) : Nat) : Int)).toNat = (v t2 e + ((n * (H * B) : Nat) : Int)).toNat := by
      have q := List.map_inj_left.mp hC e hE
      exact q
    have b1 := vb t1 e hE
    have b2 := vb t2 e hE
    unfold Bd at b1 b2
    have h2 : v t1 e = v t2 e := by omega
    have h3 : sg n (fun k => (((dig (H + 1) t1 k : Nat) : Int) - ((dig (H + 1) t2 k : Nat) : Int)) * e k) = v t1 e - v t2 e := by
      show _ = sg n _ - sg n _
      rw [show ∀ a b : Int, a - b = a + (-1) * b from fun a b => by omega, ← sg_mulL, ← sg_add]
      refine sg_congr n fun k _ => ?_
      rw [Int.sub_mul]
      omega
    rw [h3, h2]
    omega
end M

set_option Elab.async false
set_option linter.all false
set_option maxRecDepth 100000
set_option maxHeartbeats 4000000
/-! elimination led by marks: what holds between two turns -/
namespace M
theorem gcdL_mul (b : Int) : ∀ l : List Int, gcdL (l.map fun x => b * x) = b.natAbs * gcdL l
  | [] => by
    show gcdL [] = b.natAbs * gcdL []
    unfold gcdL
    rw [List.foldl_nil, Nat.mul_zero]
  | x :: l => by
    rw [List.map_cons, gcdL_cons, gcdL_cons, gcdL_mul b l, Int.natAbs_mul, Nat.gcd_mul_left]
theorem gcdL_neg (l : List Int) : gcdL (l.map fun x => -x) = gcdL l := by
  have h := gcdL_mul (-1) l
  rw [show (fun x : Int => -1 * x) = fun x => -x from funext fun x => by omega] at h
  rw [h]
  show 1 * _ = _
  rw [Nat.one_mul]
/-- lowM: the numbers by their divisor -/
theorem lowM_mul (l : List Int) (j : Nat) : ((gcdL l : Nat) : Int) * (lowM l).getD j 0 = l.getD j 0 := by
  unfold lowM
  by_cases h : j < l.length
  · have e : (l.map fun x => x / ((gcdL l : Nat) : Int))[j]? = some (l.getD j 0 / ((gcdL l : Nat) : Int)) := by rw [List.getElem?_map, get_getD 0 h]; rfl
    rw [getD_get e]
    refine Int.mul_ediv_cancel' ?_
    exact Int.ofNat_dvd_left.mpr (gcdL_dvd l _ (getD_mem 0 h))
  · have e1 : l.getD j 0 = 0 := by rw [List.getD_eq_getElem?_getD, List.getElem?_eq_none (by omega)]; rfl
    have e2 : (l.map fun x => x / ((gcdL l : Nat) : Int)).getD j 0 = 0 := by rw [List.getD_eq_getElem?_getD, List.getElem?_eq_none (by rw [List.length_map]; omega)]; rfl
    rw [e1, e2, Int.mul_zero]
theorem ext_getD {l m : List Int} (h : l.length = m.length) (e : ∀ j, l.getD j 0 = m.getD j 0) : l = m := by
  apply List.ext_getElem h
  intro i h1 h2
  have := e i
  rw [getD_get (List.getElem?_eq_getElem h1), getD_get (List.getElem?_eq_getElem h2)] at this
  exact this
theorem lowM_prim {l : List Int} (h : 0 < gcdL l) : gcdL (lowM l) = 1 := by
  have e : (lowM l).map (fun x => ((gcdL l : Nat) : Int) * x) = l := by
    refine ext_getD (by rw [List.length_map, lowM_len]) fun j => ?_
    rw [← lowM_mul l j]
    by_cases hj : j < (lowM l).length
    · rw [getD_get (show ((lowM l).map _)[j]? = some (((gcdL l : Nat) : Int) * (lowM l).getD j 0) by rw [List.getElem?_map, get_getD 0 hj]; rfl)]
    · rw [List.getD_eq_getElem?_getD, List.getElem?_eq_none (by rw [List.length_map]; omega), List.getD_eq_getElem?_getD, List.getElem?_eq_none (by omega)]
      show (0 : Int) = _ * 0
      rw [Int.mul_zero]
  have h2 := gcdL_mul ((gcdL l : Nat) : Int) (lowM l)
  rw [e, Int.natAbs_natCast] at h2
  have h3 : gcdL l * 1 = gcdL l * gcdL (lowM l) := by rw [Nat.mul_one]; exact h2
  exact (Nat.eq_of_mul_eq_mul_left h h3).symm
theorem gcdL_pos {l : List Int} {x : Int} (h : x ∈ l) (hx : x ≠ 0) : 0 < gcdL l := Nat.pos_of_dvd_of_pos (gcdL_dvd l x h) (by omega)
theorem gcdL_le {l : List Int} {x : Int} (h : x ∈ l) (hx : x ≠ 0) : gcdL l ≤ x.natAbs := Nat.le_of_dvd (by omega) (gcdL_dvd l x h)
theorem rawM_getD (e c : List Int) (f p : Int) {j : Nat} (h : j < e.length) : (rawM e c f p).getD j 0 = e.getD j 0 * f - c.getD j 0 * p := by
  unfold rawM
  exact getD_get (by rw [List.getElem?_map, List.getElem?_range h]; rfl)
/-- entry j of row r -/
def En (es : List (List Int)) (r j : Nat) : Int := (es.getD r []).getD j 0
/-- what holds after c columns -/
structure EInv (n width : Nat) (L : Nat → Nat → Int) (s : El) (c : Nat) : Prop where
  tab : Tab n (width + 1 + n) s.es
  lin : ∀ r, r < n → ∀ j, j ≤ width → En s.es r j = sg n (fun k => En s.es r (width + 1 + k) * L k j)
  pos : ∀ ac ∈ s.pv, ac.1 < n ∧ ac.2 < c ∧ 0 < En s.es ac.1 ac.2
  col : ∀ ac ∈ s.pv, ∀ r, r < n → r ≠ ac.1 → En s.es r ac.2 = 0
  nd : s.us.Nodup
  free : ∀ r, r < n → r ∉ s.us → ∀ c', c' < c → En s.es r c' = 0
  sup : ∀ r, r < n → ∀ k, k < n → En s.es r (width + 1 + k) ≠ 0 → k ∈ s.us ∨ k = r
  own : ∀ r, r < n → r ∉ s.us → En s.es r (width + 1 + r) ≠ 0
  prim : ∀ r, r < n → gcdL (s.es.getD r []) = 1
  sol : ∀ (x : Nat → Int) (d : Int), (∀ r, r < n → sg width (fun j => En s.es r j * x j) = d * En s.es r width) → ∀ k, k < n → sg width (fun j => L k j * x j) = d * L k width
  inj : ∀ z : Nat → Int, (∀ k, k < n → z k ≠ 0 → k ∈ s.us) → (∀ ac ∈ s.pv, sg n (fun k => z k * L k ac.2) = 0) → ∀ k, k < n → z k = 0
theorem us_lt {n width : Nat} {L : Nat → Nat → Int} {s : El} {c : Nat} (h : EInv n width L s c) : ∀ a ∈ s.us, a < n := fun a ha => by
  obtain ⟨ac, hac, rfl⟩ := List.mem_map.mp ha
  exact (h.pos ac hac).1
/-- a turn without a pivot -/
theorem EInv.skip {n width : Nat} {L : Nat → Nat → Int} {s : El} {c : Nat} (h : EInv n width L s c) (hf : ∀ r, r < n → r ∉ s.us → En s.es r c = 0) : EInv n width L s (c + 1) :=
  ⟨h.tab, h.lin, fun ac ha => ⟨(h.pos ac ha).1, Nat.lt_succ_of_lt (h.pos ac ha).2.1, (h.pos ac ha).2.2⟩, h.col, h.nd, fun r hr hu c' hc' => by
    by_cases e : c' = c
    · rw [e]; exact hf r hr hu
    · exact h.free r hr hu c' (by omega), h.sup, h.own, h.prim, h.sol, h.inj⟩
theorem cancel {g a b : Int} (hg : g ≠ 0) (h : g * a = g * b) : a = b := Int.eq_of_mul_eq_mul_left hg h
/-- a turn with the pivot row a -/
theorem EInv.turn {n width : Nat} {L : Nat → Nat → Int} {s : El} {c a : Nat} (h : EInv n width L s c) (hc : c < width) (ha : a < n) (hau : a ∉ s.us) (hne : En s.es a c ≠ 0) (es' : List (List Int)) (t' : Tab n (width + 1 + n) es') (sgn : Int) (hs : sgn = 1 ∨ sgn = -1)
    (hrow : ∀ j, j < width + 1 + n → En es' a j = sgn * En s.es a j) (hpos : 0 < En es' a c) (hprim : ∀ r, r < n → gcdL (es'.getD r []) = 1)
    (hoth : ∀ r, r < n → r ≠ a → ∃ g f p : Int, 0 < g ∧ 0 < f ∧ (∀ j, j < width + 1 + n → g * En es' r j = f * En s.es r j - p * En es' a j) ∧ En es' r c = 0) : EInv n width L ⟨es', s.pv ++ [(a, c)]⟩ (c + 1) := by
  have hus : (El.mk es' (s.pv ++ [(a, c)])).us = s.us ++ [a] := by
    unfold El.us
    rw [List.map_append]
    rfl
  have s0 : sgn ≠ 0 := by omega
  have linA : ∀ j, j ≤ width → En es' a j = sg n (fun k => En es' a (width + 1 + k) * L k j) := fun j hj => by
    rw [hrow j (by omega), h.lin a ha j hj, ← sg_mulL]
    refine sg_congr n fun k hk => ?_
    rw [hrow (width + 1 + k) (by omega), Int.mul_assoc]
  have memu : ∀ {k : Nat}, k ∈ (El.mk es' (s.pv ++ [(a, c)])).us ↔ k ∈ s.us ∨ k = a := fun {k} => by
    rw [hus, List.mem_append, List.mem_singleton]
  have aold : ∀ ac ∈ s.pv, En es' a ac.2 = 0 := fun ac hac => by
    have h1 := (h.pos ac hac)
    rw [hrow ac.2 (by omega), h.col ac hac a ha (fun z => hau (by rw [z]; exact List.mem_map_of_mem hac)), Int.mul_zero]
  have asup : ∀ k, k < n → En es' a (width + 1 + k) ≠ 0 → k ∈ s.us ∨ k = a := fun k hk hn => by
    refine h.sup a ha k hk fun z => hn ?_
    rw [hrow (width + 1 + k) (by omega), z, Int.mul_zero]
  refine ⟨t', fun r hr j hj => ?_, fun ac hac => ?_, fun ac hac r hr hra => ?_, ?_, fun r hr hu c' hc' => ?_, fun r hr k hk hn => ?_, fun r hr hu => ?_, hprim, fun x d hx => ?_, fun z hz hz2 => ?_⟩
  · show En es' r j = sg n (fun k => En es' r (width + 1 + k) * L k j)
    by_cases e : r = a
    · rw [e]; exact linA j hj
    · obtain ⟨g, f, p, hg, hf, hj', _⟩ := hoth r hr e
      refine cancel (g := g) (by omega) ?_
      rw [hj' j (by omega), h.lin r hr j hj, linA j hj, ← sg_mulL, ← sg_mulL, ← sg_mulL, show ∀ u v : Int, u - v = u + (-1) * v from fun u v => by omega, ← sg_mulL, ← sg_add]
      refine sg_congr n fun k hk => ?_
      rw [← Int.mul_assoc g, hj' (width + 1 + k) (by omega), Int.sub_mul, Int.mul_assoc, Int.mul_assoc]
      omega
  · rcases List.mem_append.mp hac with hac | hac
    · obtain ⟨h1, h2, h3⟩ := h.pos ac hac
      refine ⟨h1, by omega, ?_⟩
      show 0 < En es' ac.1 ac.2
      have hne' : ac.1 ≠ a := fun z => hau (by rw [← z]; exact List.mem_map_of_mem hac)
      obtain ⟨g, f, p, hg, hf, hj', _⟩ := hoth ac.1 h1 hne'
      have e := hj' ac.2 (by omega)
      rw [aold ac hac, Int.mul_zero, Int.sub_zero] at e
      have : 0 < f * En s.es ac.1 ac.2 := Int.mul_pos hf h3
      rw [← e] at this
      exact Int.pos_of_mul_pos_right this (by omega)
    · rw [List.mem_singleton.mp hac]
      exact ⟨ha, by show c < c + 1; omega, hpos⟩
  · show En es' r ac.2 = 0
    rcases List.mem_append.mp hac with hac | hac
    · by_cases e : r = a
      · rw [e]; exact aold ac hac
      · obtain ⟨g, f, p, hg, hf, hj', _⟩ := hoth r hr e
        have e2 := hj' ac.2 (by have := (h.pos ac hac).2.1; omega)
        rw [aold ac hac, h.col ac hac r hr hra, Int.mul_zero, Int.mul_zero] at e2
        exact cancel (g := g) (by omega) (by rw [e2, Int.mul_zero]; rfl)
    · rw [List.mem_singleton.mp hac] at hra ⊢
      obtain ⟨_, _, _, _, _, _, e⟩ := hoth r hr hra
      exact e
  · rw [hus]
    refine List.nodup_append.mpr ⟨h.nd, by simp, fun x hx y hy e => ?_⟩
    rw [List.mem_singleton.mp hy] at e
    exact hau (by rw [← e]; exact hx)
  · show En es' r c' = 0
    have hra : r ≠ a := fun z => hu (memu.mpr (.inr z))
    have hru : r ∉ s.us := fun z => hu (memu.mpr (.inl z))
    obtain ⟨g, f, p, hg, hf, hj', e0⟩ := hoth r hr hra
    by_cases e : c' = c
    · rw [e]; exact e0
    · have e2 := hj' c' (by omega)
      rw [hrow c' (by omega), h.free r hr hru c' (by omega), h.free a ha hau c' (by omega), Int.mul_zero, Int.mul_zero, Int.mul_zero] at e2
      exact cancel (g := g) (by omega) (by rw [e2, Int.mul_zero]; rfl)
  · have hn : En es' r (width + 1 + k) ≠ 0 := hn
    by_cases e : r = a
    · rw [e] at hn ⊢
      rcases asup k hk hn with q | q
      · exact .inl (memu.mpr (.inl q))
      · exact .inr q
    · obtain ⟨g, f, p, hg, hf, hj', e0⟩ := hoth r hr e
      have e2 := hj' (width + 1 + k) (by omega)
      by_cases q1 : En s.es r (width + 1 + k) = 0
      · by_cases q2 : En es' a (width + 1 + k) = 0
        · rw [q1, q2, Int.mul_zero, Int.mul_zero] at e2
          exact absurd (cancel (g := g) (by omega) (by rw [e2, Int.mul_zero]; rfl)) hn
        · exact .inl (memu.mpr (asup k hk q2))
      · rcases h.sup r hr k hk q1 with q | q
        · exact .inl (memu.mpr (.inl q))
        · exact .inr q
  · show En es' r (width + 1 + r) ≠ 0
    have hra : r ≠ a := fun z => hu (memu.mpr (.inr z))
    have hru : r ∉ s.us := fun z => hu (memu.mpr (.inl z))
    obtain ⟨g, f, p, hg, hf, hj', e0⟩ := hoth r hr hra
    have e2 := hj' (width + 1 + r) (by omega)
    have q2 : En es' a (width + 1 + r) = 0 := Classical.byContradiction fun q => by
      rcases asup r hr q with q | q
      · exact hru q
      · exact hra q
    rw [q2, Int.mul_zero, Int.sub_zero] at e2
    intro z
    rw [z, Int.mul_zero] at e2
    exact Int.mul_ne_zero (by omega) (h.own r hr hru) e2.symm
  · refine h.sol x d fun r hr => ?_
    have hA : sg width (fun j => En s.es a j * x j) = d * En s.es a width := by
      have e := hx a ha
      refine cancel (g := sgn) s0 ?_
      have e1 : sg width (fun j => En es' a j * x j) = sgn * sg width (fun j => En s.es a j * x j) := by
        rw [← sg_mulL]
        refine sg_congr width fun j hj => ?_
        rw [hrow j (by omega), Int.mul_assoc]
      have e2 : En es' a width = sgn * En s.es a width := hrow width (by omega)
      rw [← e1]
      show _ = sgn * (d * En s.es a width)
      rw [Int.mul_left_comm, ← e2]
      exact e
    by_cases e : r = a
    · rw [e]; exact hA
    · obtain ⟨g, f, p, hg, hf, hj', e0⟩ := hoth r hr e
      have er : sg width (fun j => En es' r j * x j) = d * En es' r width := hx r hr
      have ea : sg width (fun j => En es' a j * x j) = d * En es' a width := hx a ha
      refine cancel (g := f) (by omega) ?_
      have e1 : f * sg width (fun j => En s.es r j * x j) = g * sg width (fun j => En es' r j * x j) + p * sg width (fun j => En es' a j * x j) := by
        rw [← sg_mulL, ← sg_mulL, ← sg_mulL, ← sg_add]
        refine sg_congr width fun j hj => ?_
        have := hj' j (by omega)
        have q : f * En s.es r j = g * En es' r j + p * En es' a j := by omega
        rw [← Int.mul_assoc, q, Int.add_mul, Int.mul_assoc, Int.mul_assoc]
      have e2 : f * En s.es r width = g * En es' r width + p * En es' a width := by
        have := hj' width (by omega)
        omega
      rw [e1, er, ea, Int.mul_left_comm f, e2, Int.mul_add, Int.mul_left_comm d g, Int.mul_left_comm d p]
  · have own := h.own a ha hau
    let m : Nat → Int := fun k => En s.es a (width + 1 + k)
    let y : Nat → Int := fun k => m a * z k - z a * m k
    have ycomb : ∀ j, sg n (fun k => y k * L k j) = m a * sg n (fun k => z k * L k j) - z a * sg n (fun k => m k * L k j) := fun j => by
      rw [show ∀ u v : Int, u - v = u + (-1) * v from fun u v => by omega, ← sg_mulL, ← sg_mulL, ← sg_mulL, ← sg_add]
      refine sg_congr n fun k _ => ?_
      show (m a * z k - z a * m k) * L k j = _
      rw [Int.sub_mul, Int.mul_assoc, Int.mul_assoc]
      omega
    have ysup : ∀ k, k < n → y k ≠ 0 → k ∈ s.us := fun k hk hy => by
      refine Classical.byContradiction fun hnu => hy ?_
      by_cases e : k = a
      · subst e
        show m k * z k - z k * m k = 0
        rw [Int.mul_comm]
        omega
      · have z0 : z k = 0 := Classical.byContradiction fun q => by
          rcases memu.mp (hz k hk q) with q | q
          · exact hnu q
          · exact e q
        have m0 : m k = 0 := Classical.byContradiction fun q => by
          rcases h.sup a ha k hk q with q | q
          · exact hnu q
          · exact e q
        show m a * z k - z a * m k = 0
        rw [z0, m0, Int.mul_zero, Int.mul_zero]
        rfl
    have mcomb : ∀ j, j ≤ width → sg n (fun k => m k * L k j) = En s.es a j := fun j hj => (h.lin a ha j hj).symm
    have y0 := h.inj y ysup fun ac hac => by
      have hcc := h.pos ac hac
      rw [ycomb, hz2 ac (List.mem_append_left _ hac), mcomb ac.2 (by omega), h.free a ha hau ac.2 hcc.2.1, Int.mul_zero, Int.mul_zero]
      rfl
    have za : z a = 0 := by
      have q := ycomb c
      rw [show sg n (fun k => y k * L k c) = 0 from by rw [sg_congr n (g := fun _ => 0) fun k hk => by rw [y0 k hk, Int.zero_mul], sg_zero], hz2 (a, c) (List.mem_append_right _ (List.mem_singleton.mpr rfl)), mcomb c (by omega), Int.mul_zero] at q
      have : z a * En s.es a c = 0 := by omega
      rcases Int.mul_eq_zero.mp this with w | w
      · exact w
      · exact absurd w hne
    intro k hk
    have q := y0 k hk
    have q : m a * z k - z a * m k = 0 := q
    rw [za, Int.zero_mul, Int.sub_zero] at q
    rcases Int.mul_eq_zero.mp q with w | w
    · exact absurd w own
    · exact w
end M

set_option Elab.async false
set_option linter.all false
set_option maxRecDepth 100000
set_option maxHeartbeats 4000000
/-! the elimination of a table: invariants from the start to the end, sizes -/
namespace M
def LT (T : List (List Int)) (b : List Int) (width : Nat) : Nat → Nat → Int := fun k c => if c < width then (T.getD k []).getD c 0 else b.getD k 0
theorem sg_single {n c : Nat} {f : Nat → Int} (hc : c < n) (h : ∀ j, j < n → j ≠ c → f j = 0) : sg n f = f c := by
  induction n with
  | zero => omega
  | succ n ih =>
    show sg n f + f n = f c
    by_cases e : c = n
    · subst e
      rw [sg_congr c (g := fun _ => 0) fun i hi => h i (by omega) (by omega), sg_zero, Int.zero_add]
    · rw [ih (by omega) fun j hj hne => h j (by omega) hne, h n (by omega) (fun z => e z.symm), Int.add_zero]
theorem map_neg_getD (l : List Int) (j : Nat) : (l.map fun x => -x).getD j 0 = -(l.getD j 0) := by
  rw [List.getD_eq_getElem?_getD, List.getD_eq_getElem?_getD, List.getElem?_map]
  cases l[j]? <;> rfl
section
variable {T : List (List Int)} {b : List Int} {n width : Nat}
theorem entries_row (t : Tab n width T) (hb : b.length = n) {k : Nat} (hk : k < n) : (entriesM T b).getD k [] = T.getD k [] ++ [b.getD k 0] ++ (List.replicate n 0).set k 1 := by
  unfold entriesM
  rw [t.n]
  exact getD_get (by rw [List.getElem?_map, List.getElem?_range hk]; rfl)
theorem entries_len (t : Tab n width T) (hb : b.length = n) : (entriesM T b).length = n := by
  unfold entriesM
  rw [List.length_map, List.length_range, t.n]
theorem row_len (t : Tab n width T) {k : Nat} (hk : k < n) : (T.getD k [] ++ [b.getD k 0] ++ (List.replicate n (0 : Int)).set k 1).length = width + 1 + n := by
  rw [List.length_append, List.length_append, t.row hk, List.length_set, List.length_replicate]
  rfl
theorem entries_tab (t : Tab n width T) (hb : b.length = n) : Tab n (width + 1 + n) (entriesM T b) := ⟨entries_len t hb, fun r hr => by
  obtain ⟨k, hk, e⟩ := mem_getD [] hr
  rw [entries_len t hb] at hk
  rw [← e, entries_row t hb hk, row_len t hk]⟩
theorem entries_low (t : Tab n width T) (hb : b.length = n) {k j : Nat} (hk : k < n) (hj : j ≤ width) : En (entriesM T b) k j = LT T b width k j := by
  unfold En LT
  rw [entries_row t hb hk]
  have hl := t.row hk
  by_cases e : j < width
  · rw [if_pos e, List.append_assoc, List.getD_eq_getElem?_getD, List.getElem?_append_left (by omega), ← List.getD_eq_getElem?_getD]
  · have e : j = width := by omega
    subst e
    rw [if_neg (by omega), List.getD_eq_getElem?_getD, List.getElem?_append_left (by rw [List.length_append]; show j < _ + 1; omega), List.getElem?_append_right (by omega), show j - (T.getD k []).length = 0 by omega]
    rfl
theorem entries_mark (t : Tab n width T) (hb : b.length = n) {k i : Nat} (hk : k < n) (hi : i < n) : En (entriesM T b) k (width + 1 + i) = if i = k then 1 else 0 := by
  unfold En
  rw [entries_row t hb hk]
  have hl := t.row hk
  rw [List.getD_eq_getElem?_getD, List.getElem?_append_right (by rw [List.length_append]; show _ + 1 ≤ _; omega), show width + 1 + i - (T.getD k [] ++ [b.getD k 0]).length = i by rw [List.length_append]; show width + 1 + i - (_ + 1) = i; omega]
  by_cases e : i = k
  · rw [if_pos e, e, List.getElem?_set_self (by rw [List.length_replicate]; exact hk)]
    rfl
  · rw [if_neg e, List.getElem?_set_ne (fun z => e z.symm), List.getElem?_replicate, if_pos hi]
    rfl
theorem entries_gcd (t : Tab n width T) (hb : b.length = n) : ∀ e ∈ entriesM T b, gcdL e = 1 := by
  intro e he
  obtain ⟨k, hk, rfl⟩ := mem_getD [] he
  rw [entries_len t hb] at hk
  have h1 := entries_mark t hb hk hk
  rw [if_pos rfl] at h1
  have hm : (1 : Int) ∈ (entriesM T b).getD k [] := by
    rw [← h1]
    exact getD_mem 0 (by rw [entries_row t hb hk, row_len t hk]; omega)
  exact Nat.dvd_one.mp (gcdL_dvd _ 1 hm)
theorem entries_map (t : Tab n width T) (hb : b.length = n) : (entriesM T b).map lowM = entriesM T b := by
  refine (List.map_congr_left fun e he => ?_).trans (List.map_id _)
  exact lowM_one (entries_gcd t hb e he)
theorem start (t : Tab n width T) (hb : b.length = n) : EInv n width (LT T b width) (elimTo (entriesM T b) 0) 0 := by
  have e0 : elimTo (entriesM T b) 0 = ⟨entriesM T b, []⟩ := by
    unfold elimTo
    rw [entries_map t hb]
    rfl
  rw [e0]
  have lin : ∀ r, r < n → ∀ j, sg n (fun k => En (entriesM T b) r (width + 1 + k) * LT T b width k j) = LT T b width r j := fun r hr j => by
    rw [sg_single hr fun k hk hne => by rw [entries_mark t hb hr hk, if_neg hne, Int.zero_mul], entries_mark t hb hr hr, if_pos rfl, Int.one_mul]
  refine ⟨entries_tab t hb, fun r hr j hj => ?_, fun ac h => (by cases h), fun ac h => (by cases h), List.nodup_nil, fun r hr hu c' hc' => by omega, fun r hr k hk hn => ?_, fun r hr _ => ?_, fun r hr => ?_, fun x d hx k hk => ?_, fun z hz _ k hk => ?_⟩
  · show En (entriesM T b) r j = _
    rw [lin r hr j, entries_low t hb hr hj]
  · have hn : En (entriesM T b) r (width + 1 + k) ≠ 0 := hn
    rw [entries_mark t hb hr hk] at hn
    by_cases e : k = r
    · exact .inr e
    · rw [if_neg e] at hn
      exact absurd rfl hn
  · show En (entriesM T b) r (width + 1 + r) ≠ 0
    rw [entries_mark t hb hr hr, if_pos rfl]
    decide
  · exact entries_gcd t hb _ (getD_mem [] (by rw [entries_len t hb]; exact hr))
  · have h := hx k hk
    have h1 : En (entriesM T b) k width = LT T b width k width := entries_low t hb hk (Nat.le_refl _)
    have h : sg width (fun j => En (entriesM T b) k j * x j) = d * En (entriesM T b) k width := h
    rw [h1] at h
    rw [← h]
    refine sg_congr width fun j hj => ?_
    rw [entries_low t hb hk (by omega)]
  · exact Classical.byContradiction fun q => by cases hz k hk q
end
section
variable {n width : Nat} {L : Nat → Nat → Int} {s : El} {c : Nat}
theorem flip_row (es : List (List Int)) (a col : Nat) (ha : a < es.length) : ∃ sgn : Int, (sgn = 1 ∨ sgn = -1) ∧ (∀ j, En (flipM es a col) a j = sgn * En es a j) ∧ (En es a col ≠ 0 → 0 < En (flipM es a col) a col) ∧ gcdL ((flipM es a col).getD a []) = gcdL (es.getD a []) := by
  unfold flipM
  by_cases h : (es.getD a []).getD col 0 < 0
  · rw [if_pos h]
    have e : (es.set a ((es.getD a []).map fun x => -x)).getD a [] = (es.getD a []).map fun x => -x := getD_get (List.getElem?_set_self ha)
    refine ⟨-1, .inr rfl, fun j => ?_, fun _ => ?_, ?_⟩
    · unfold En
      rw [e, map_neg_getD]
      omega
    · unfold En
      rw [e, map_neg_getD]
      omega
    · rw [e, gcdL_neg]
  · rw [if_neg h]
    refine ⟨1, .inl rfl, fun j => by rw [Int.one_mul], fun hn => ?_, rfl⟩
    unfold En at hn ⊢
    omega
theorem flip_oth (es : List (List Int)) {a col r : Nat} (h : r ≠ a) : (flipM es a col).getD r [] = es.getD r [] := by
  unfold flipM
  split
  · rw [List.getD_eq_getElem?_getD, List.getElem?_set_ne (Ne.symm h), ← List.getD_eq_getElem?_getD]
  · rfl
theorem getD_ge {l : List Int} {j : Nat} (h : l.length ≤ j) : l.getD j 0 = 0 := by
  rw [List.getD_eq_getElem?_getD, List.getElem?_eq_none h]
  rfl
/-- the raw row of a turn has a mark that is not zero -/
theorem raw_mark (h : EInv n width L s c) (hc : c < width) {a : Nat} (ha : a < n) (hau : a ∉ s.us) (hne : En s.es a c ≠ 0) {r : Nat} (hr : r < n) (hra : r ≠ a) :
    ∃ k, k < n ∧ En s.es r (width + 1 + k) * En (flipM s.es a c) a c - En (flipM s.es a c) a (width + 1 + k) * En s.es r c ≠ 0 := by
  obtain ⟨sgn, hs, hrow, hpos, _⟩ := flip_row s.es a c (by rw [h.tab.n]; exact ha)
  have hp := hpos hne
  by_cases hu : r ∈ s.us
  · -- a used row: at its own column
    obtain ⟨ac, hac, he⟩ := List.mem_map.mp hu
    obtain ⟨h1, h2, h3⟩ := h.pos ac hac
    refine Classical.byContradiction fun hno => ?_
    have hall : ∀ k, k < n → En s.es r (width + 1 + k) * En (flipM s.es a c) a c = En (flipM s.es a c) a (width + 1 + k) * En s.es r c := fun k hk => by
      have := Classical.byContradiction (p := En s.es r (width + 1 + k) * En (flipM s.es a c) a c - En (flipM s.es a c) a (width + 1 + k) * En s.es r c = 0) fun z => hno ⟨k, hk, z⟩
      omega
    have e1 : En s.es r ac.2 * En (flipM s.es a c) a c = sgn * En s.es a ac.2 * En s.es r c := by
      rw [h.lin r hr ac.2 (by omega), h.lin a ha ac.2 (by omega), ← sg_mulR, ← sg_mulL, ← sg_mulR]
      refine sg_congr n fun k hk => ?_
      have := hall k hk
      rw [hrow (width + 1 + k)] at this
      rw [Int.mul_right_comm, this, ← Int.mul_assoc, Int.mul_right_comm]
    have e2 : En s.es a ac.2 = 0 := h.col ac hac a ha fun z => hau (by rw [z]; exact List.mem_map_of_mem hac)
    rw [e2, Int.mul_zero, Int.zero_mul] at e1
    have hr' : 0 < En s.es r ac.2 := by rw [← he]; exact h3
    have := Int.mul_pos hr' hp
    omega
  · refine ⟨r, hr, ?_⟩
    have z : En s.es a (width + 1 + r) = 0 := Classical.byContradiction fun q => by
      rcases h.sup a ha r hr q with q | q
      · exact hu q
      · exact hra q
    rw [hrow (width + 1 + r), z, Int.mul_zero, Int.zero_mul, Int.sub_zero]
    exact Int.mul_ne_zero (h.own r hr hu) (by omega)
theorem EInv.step (h : EInv n width L s c) (hc : c < width) : EInv n width L (stepM s c) (c + 1) := by
  unfold stepM
  cases hf : freeM s.es s.us c with
  | none => exact h.skip fun r hr hu => freeM_none hf (by rw [h.tab.n]; exact hr) hu
  | some a =>
    obtain ⟨ha, hau, hne⟩ := freeM_some hf
    rw [h.tab.n] at ha
    obtain ⟨sgn, hs, hrow, hpos, hg⟩ := flip_row s.es a c (by rw [h.tab.n]; exact ha)
    have hp := hpos hne
    have t1 := flip_tab (col := c) h.tab ha
    have ca : (clearedM (flipM s.es a c) a c).getD a [] = (flipM s.es a c).getD a [] := by
      rw [cleared_getD (by rw [t1.n]; exact ha)]
      unfold clearRow
      rw [if_pos (.inl rfl)]
    have enA : ∀ j, En (clearedM (flipM s.es a c) a c) a j = En (flipM s.es a c) a j := fun j => by unfold En; rw [ca]
    -- the rows of the others
    have oth : ∀ r, r < n → r ≠ a → (En s.es r c = 0 ∧ (clearedM (flipM s.es a c) a c).getD r [] = s.es.getD r []) ∨
        (0 < gcdL (rawM (s.es.getD r []) ((flipM s.es a c).getD a []) (En (flipM s.es a c) a c) (En s.es r c)) ∧ (clearedM (flipM s.es a c) a c).getD r [] = lowM (rawM (s.es.getD r []) ((flipM s.es a c).getD a []) (En (flipM s.es a c) a c) (En s.es r c))) := fun r hr hra => by
      have e : (clearedM (flipM s.es a c) a c).getD r [] = clearRow (flipM s.es a c) a c r := cleared_getD (by rw [t1.n]; exact hr)
      have fr := flip_oth s.es (col := c) hra
      unfold clearRow at e
      rw [fr] at e
      by_cases z : En s.es r c = 0
      · left
        rw [if_pos (.inr z)] at e
        exact ⟨z, e⟩
      · right
        rw [if_neg (fun q => q.elim hra z)] at e
        refine ⟨?_, e⟩
        obtain ⟨k, hk, hkn⟩ := raw_mark h hc ha hau hne hr hra
        have hl : (s.es.getD r []).length = width + 1 + n := h.tab.row hr
        have q := rawM_getD (s.es.getD r []) ((flipM s.es a c).getD a []) (En (flipM s.es a c) a c) (En s.es r c) (j := width + 1 + k) (by omega)
        refine gcdL_pos (x := En s.es r (width + 1 + k) * En (flipM s.es a c) a c - En (flipM s.es a c) a (width + 1 + k) * En s.es r c) ?_ hkn
        rw [show En s.es r (width + 1 + k) * En (flipM s.es a c) a c - En (flipM s.es a c) a (width + 1 + k) * En s.es r c = (rawM (s.es.getD r []) ((flipM s.es a c).getD a []) (En (flipM s.es a c) a c) (En s.es r c)).getD (width + 1 + k) 0 from q.symm]
        exact getD_mem 0 (by unfold rawM; rw [List.length_map, List.length_range]; omega)
    refine h.turn hc ha hau hne _ (cleared_tab t1) sgn hs (fun j _ => by rw [enA, hrow]) (by rw [enA]; exact hp) (fun r hr => ?_) fun r hr hra => ?_
    · by_cases e : r = a
      · rw [e, ca, hg]; exact h.prim a ha
      · rcases oth r hr e with ⟨_, q⟩ | ⟨g0, q⟩
        · rw [q]; exact h.prim r hr
        · rw [q]; exact lowM_prim g0
    · rcases oth r hr hra with ⟨z, q⟩ | ⟨g0, q⟩
      · refine ⟨1, 1, 0, by decide, by decide, fun j _ => ?_, ?_⟩
        · have : En (clearedM (flipM s.es a c) a c) r j = En s.es r j := by unfold En; rw [q]
          rw [this, Int.zero_mul, Int.sub_zero]
        · have : En (clearedM (flipM s.es a c) a c) r c = En s.es r c := by unfold En; rw [q]
          rw [this, z]
      · have hl : (s.es.getD r []).length = width + 1 + n := h.tab.row hr
        have main : ∀ j, j < width + 1 + n → ((gcdL (rawM (s.es.getD r []) ((flipM s.es a c).getD a []) (En (flipM s.es a c) a c) (En s.es r c)) : Nat) : Int) * En (clearedM (flipM s.es a c) a c) r j = En (flipM s.es a c) a c * En s.es r j - En s.es r c * En (clearedM (flipM s.es a c) a c) a j := fun j hj => by
          have e1 : En (clearedM (flipM s.es a c) a c) r j = (lowM (rawM (s.es.getD r []) ((flipM s.es a c).getD a []) (En (flipM s.es a c) a c) (En s.es r c))).getD j 0 := congrArg (fun l : List Int => l.getD j 0) q
          rw [e1, lowM_mul, rawM_getD _ _ _ _ (by omega), enA]
          show En s.es r j * En (flipM s.es a c) a c - En (flipM s.es a c) a j * En s.es r c = _
          rw [Int.mul_comm (En s.es r j), Int.mul_comm (En (flipM s.es a c) a j)]
        refine ⟨_, En (flipM s.es a c) a c, En s.es r c, by omega, hp, main, ?_⟩
        have e := main c (by omega)
        rw [enA] at e
        have e : ((gcdL (rawM (s.es.getD r []) ((flipM s.es a c).getD a []) (En (flipM s.es a c) a c) (En s.es r c)) : Nat) : Int) * En (clearedM (flipM s.es a c) a c) r c = 0 := by
          rw [e, Int.mul_comm]
          omega
        rcases Int.mul_eq_zero.mp e with w | w
        · omega
        · exact w
end
/-- at every turn -/
theorem elim_inv {T : List (List Int)} {b : List Int} {n width : Nat} (t : Tab n width T) (hb : b.length = n) : ∀ c, c ≤ width → EInv n width (LT T b width) (elimTo (entriesM T b) c) c
  | 0, _ => start t hb
  | c + 1, h => by
    rw [elimTo_succ]
    exact (elim_inv t hb c (by omega)).step (by omega)
end M

set_option Elab.async false
set_option linter.all false
set_option maxRecDepth 100000
set_option maxHeartbeats 4000000
set_option exponentiation.threshold 300
/-! sizes of the numbers of an elimination -/
namespace M
theorem fst_inj : ∀ {pv : List (Nat × Nat)} {x y : Nat × Nat}, (pv.map Prod.fst).Nodup → x ∈ pv → y ∈ pv → x.1 = y.1 → x = y
  | p :: pv, x, y, nd, hx, hy, e => by
    have nd := List.nodup_cons.mp (show (p.1 :: pv.map Prod.fst).Nodup from nd)
    rcases List.mem_cons.mp hx with hx | hx
    · rcases List.mem_cons.mp hy with hy | hy
      · rw [hx, hy]
      · exact absurd (List.mem_map_of_mem (f := Prod.fst) hy) (by rw [← e, hx]; exact nd.1)
    · rcases List.mem_cons.mp hy with hy | hy
      · exact absurd (List.mem_map_of_mem (f := Prod.fst) hx) (by rw [e, hy]; exact nd.1)
      · exact fst_inj nd.2 hx hy e
  | [], _, _, _, h, _, _ => by cases h
theorem nodup_filter {α : Type} {l : List α} (p : α → Bool) (h : l.Nodup) : (l.filter p).Nodup := List.Pairwise.filter _ h
theorem nodup_range (n : Nat) : (List.range n).Nodup := List.nodup_range
section
variable {n width B : Nat} {L : Nat → Nat → Int} {s : El} {c : Nat}
/-- the equations of the marks of row r -/
def eqsOf (L : Nat → Nat → Int) (s : El) (n r : Nat) : List (Nat → Int) :=
  ((s.pv.filter fun ac => decide (ac.1 ≠ r)).map fun ac k => L k ac.2) ++ (((List.range n).filter fun k => !(s.us.contains k) && decide (k ≠ r)).map fun k0 k => if k = k0 then 1 else 0)
theorem eqs_len (h : EInv n width L s c) {r : Nat} (hr : r < n) : (eqsOf L s n r).length + 1 ≤ n := by
  unfold eqsOf
  rw [List.length_append, List.length_map, List.length_map]
  have e1 : (s.pv.filter fun ac => decide (ac.1 ≠ r)).length = (s.us.filter fun k => decide (k ≠ r)).length := by
    unfold El.us
    rw [List.filter_map, List.length_map]
    rfl
  rw [e1]
  have nd : ((s.us.filter fun k => decide (k ≠ r)) ++ ((List.range n).filter fun k => !(s.us.contains k) && decide (k ≠ r)) ++ [r]).Nodup := by
    refine List.nodup_append.mpr ⟨List.nodup_append.mpr ⟨nodup_filter _ h.nd, nodup_filter _ (nodup_range n), fun x hx y hy e => ?_⟩, by simp, fun x hx y hy e => ?_⟩
    · have h1 := (List.mem_filter.mp hx).1
      have h2 := (List.mem_filter.mp hy).2
      rw [Bool.and_eq_true, Bool.not_eq_true'] at h2
      rw [← e, List.contains_iff_mem.mpr h1] at h2
      cases h2.1
    · rw [List.mem_singleton.mp hy] at e
      rcases List.mem_append.mp hx with hx | hx
      · exact of_decide_eq_true (List.mem_filter.mp hx).2 e
      · have h2 := (List.mem_filter.mp hx).2
        rw [Bool.and_eq_true] at h2
        exact of_decide_eq_true h2.2 e
  have := nodup_len _ n nd fun a ha => by
    rcases List.mem_append.mp ha with ha | ha
    · rcases List.mem_append.mp ha with ha | ha
      · exact us_lt h a (List.mem_filter.mp ha).1
      · exact List.mem_range.mp (List.mem_filter.mp ha).1
    · rw [List.mem_singleton.mp ha]; exact hr
  rw [List.length_append, List.length_append] at this
  exact this
/-- a row's numbers share no divisor: what divides all multiples divides the factor -/
theorem dvd_of_row {row : List Int} {a b : Int} (h : gcdL row = 1) (hd : ∀ x ∈ row, a ∣ b * x) : a ∣ b := by
  have h1 : a.natAbs ∣ gcdL (row.map fun x => b * x) := dvd_gcdL _ _ fun y hy => by
    obtain ⟨x, hx, rfl⟩ := List.mem_map.mp hy
    exact Int.natAbs_dvd_natAbs.mpr (hd x hx)
  rw [gcdL_mul, h, Nat.mul_one] at h1
  exact Int.natAbs_dvd_natAbs.mp h1
theorem marks_bd (h : EInv n width L s c) (hc : c ≤ width) (hB : 1 ≤ B) (hL : ∀ k, k < n → ∀ j, j ≤ width → Bd B (L k j)) {r : Nat} (hr : r < n) : ∀ k, k < n → Bd ((2 * n * B) ^ (n - 1)) (En s.es r (width + 1 + k)) := by
  have hn : 1 ≤ n := by omega
  have el := eqs_len h hr
  obtain ⟨z, ⟨k0, hk0, hz0⟩, zb, zq⟩ := siegel n B (eqsOf L s n r) hB (by omega) fun e he k hk => by
    rcases List.mem_append.mp he with he | he
    · obtain ⟨ac, hac, rfl⟩ := List.mem_map.mp he
      exact hL k hk _ (by have := (h.pos ac (List.mem_filter.mp hac).1).2.1; omega)
    · obtain ⟨q, hq, rfl⟩ := List.mem_map.mp he
      show Bd B (if k = q then 1 else 0)
      split
      · exact hB
      · exact Bd.zero
  have zP : ∀ ac ∈ s.pv, ac.1 ≠ r → sg n (fun k => z k * L k ac.2) = 0 := fun ac hac hne =>
    zq _ (List.mem_append_left _ (List.mem_map.mpr ⟨ac, List.mem_filter.mpr ⟨hac, decide_eq_true hne⟩, rfl⟩))
  have zO : ∀ k, k < n → k ∉ s.us → k ≠ r → z k = 0 := fun k hk hu hne => by
    have q := zq (fun k' => if k' = k then 1 else 0) (List.mem_append_right _ (List.mem_map.mpr ⟨k, List.mem_filter.mpr ⟨List.mem_range.mpr hk, by
      rw [Bool.and_eq_true, Bool.not_eq_true']
      refine ⟨?_, decide_eq_true hne⟩
      cases e : s.us.contains k with
      | false => rfl
      | true => exact absurd (List.contains_iff_mem.mp e) hu⟩, rfl⟩))
    rw [sg_single hk fun j hj hjk => by show z j * (if j = k then 1 else 0) = 0; rw [if_neg hjk, Int.mul_zero]] at q
    rw [if_pos rfl, Int.mul_one] at q
    exact q
  let m : Nat → Int := fun k => En s.es r (width + 1 + k)
  have lin : ∀ j, j ≤ width → sg n (fun k => m k * L k j) = En s.es r j := fun j hj => (h.lin r hr j hj).symm
  -- proportional
  have prop : ∃ a b : Int, a ≠ 0 ∧ ∀ k, k < n → a * z k = b * m k := by
    have mk : ∀ a b : Int, (∀ k, k < n → a * z k - b * m k ≠ 0 → k ∈ s.us) → (∀ ac ∈ s.pv, a * sg n (fun k => z k * L k ac.2) - b * En s.es r ac.2 = 0) → ∀ k, k < n → a * z k = b * m k := fun a b h1 h2 k hk => by
      have q := h.inj (fun k => a * z k - b * m k) h1 (fun ac hac => by
        have e : sg n (fun k => (a * z k - b * m k) * L k ac.2) = a * sg n (fun k => z k * L k ac.2) - b * sg n (fun k => m k * L k ac.2) := by
          rw [show ∀ u v : Int, u - v = u + (-1) * v from fun u v => by omega, ← sg_mulL, ← sg_mulL, ← sg_mulL, ← sg_add]
          refine sg_congr n fun k _ => ?_
          rw [Int.sub_mul, Int.mul_assoc, Int.mul_assoc]
          omega
        rw [e, lin ac.2 (by have := (h.pos ac hac).2.1; omega)]
        exact h2 ac hac) k hk
      have q : a * z k - b * m k = 0 := q
      omega
    by_cases hu : r ∈ s.us
    · obtain ⟨ac, hac, he⟩ := List.mem_map.mp hu
      obtain ⟨h1, h2, h3⟩ := h.pos ac hac
      rw [he] at h3
      refine ⟨En s.es r ac.2, sg n (fun k => z k * L k ac.2), by omega, mk _ _ (fun k hk hne => ?_) fun ac' hac' => ?_⟩
      · refine Classical.byContradiction fun hnu => hne ?_
        have kr : k ≠ r := fun q => hnu (by rw [q]; exact hu)
        have m0 : m k = 0 := Classical.byContradiction fun q => by
          rcases h.sup r hr k hk q with q | q
          · exact hnu q
          · exact kr q
        rw [zO k hk hnu kr, m0, Int.mul_zero, Int.mul_zero]
        rfl
      · by_cases e : ac'.1 = r
        · have : ac' = ac := fst_inj h.nd hac' hac (by rw [e, he])
          rw [this, Int.mul_comm]
          omega
        · rw [zP ac' hac' e, h.col ac' hac' r hr (fun q => e q.symm), Int.mul_zero, Int.mul_zero]
          rfl
    · refine ⟨m r, z r, h.own r hr hu, mk _ _ (fun k hk hne => ?_) fun ac' hac' => ?_⟩
      · refine Classical.byContradiction fun hnu => hne ?_
        by_cases kr : k = r
        · rw [kr, Int.mul_comm]
          omega
        · have m0 : m k = 0 := Classical.byContradiction fun q => by
            rcases h.sup r hr k hk q with q | q
            · exact hnu q
            · exact kr q
          rw [zO k hk hnu kr, m0, Int.mul_zero, Int.mul_zero]
          rfl
      · have e : ac'.1 ≠ r := fun q => hu (by rw [← q]; exact List.mem_map_of_mem hac')
        rw [zP ac' hac' e, h.col ac' hac' r hr (fun q => e q.symm), Int.mul_zero, Int.mul_zero]
        rfl
  obtain ⟨a, b, ha, hab⟩ := prop
  have hl : (s.es.getD r []).length = width + 1 + n := h.tab.row hr
  have hdv : a ∣ b := dvd_of_row (h.prim r hr) fun x hx => by
    obtain ⟨j, hj, rfl⟩ := mem_getD 0 hx
    show a ∣ b * En s.es r j
    by_cases hjw : j ≤ width
    · rw [← lin j hjw, ← sg_mulL, sg_congr n (g := fun k => a * (z k * L k j)) fun k hk => by rw [← Int.mul_assoc, ← hab k hk, Int.mul_assoc], sg_mulL]
      exact Int.dvd_mul_right _ _
    · have e : j = width + 1 + (j - (width + 1)) := by omega
      rw [e]
      show a ∣ b * m (j - (width + 1))
      rw [← hab _ (by omega)]
      exact Int.dvd_mul_right _ _
  obtain ⟨t, rfl⟩ := hdv
  have zt : ∀ k, k < n → z k = t * m k := fun k hk => by
    have := hab k hk
    rw [Int.mul_assoc] at this
    exact cancel ha this
  have t0 : t ≠ 0 := fun q => hz0 (by rw [zt k0 hk0, q, Int.zero_mul])
  intro k hk
  have h1 : (m k).natAbs ≤ (z k).natAbs := by
    rw [zt k hk, Int.natAbs_mul]
    exact Nat.le_mul_of_pos_left _ (by omega)
  have h2 := zb k hk
  have h3 : (2 * n * B) ^ (eqsOf L s n r).length ≤ (2 * n * B) ^ (n - 1) := Nat.pow_le_pow_right (Nat.mul_pos (by omega) hB) (by omega)
  exact Nat.le_trans h1 (Nat.le_trans h2 h3)
/-- every number of the table under way -/
theorem all_bd (h : EInv n width L s c) (hc : c ≤ width) (hB : 1 ≤ B) (hL : ∀ k, k < n → ∀ j, j ≤ width → Bd B (L k j)) {r : Nat} (hr : r < n) : ∀ j, Bd ((2 * n * B) ^ n) (En s.es r j) := by
  have hn : 1 ≤ n := by omega
  have mb := marks_bd h hc hB hL hr
  have hp : 1 ≤ 2 * n * B := Nat.mul_pos (by omega) hB
  have hl : (s.es.getD r []).length = width + 1 + n := h.tab.row hr
  have e : (2 * n * B) ^ n = (2 * n * B) ^ (n - 1) * (2 * n * B) := by
    rw [← Nat.pow_succ]
    congr 1
    omega
  intro j
  by_cases hj : j ≤ width
  · rw [h.lin r hr j hj]
    refine (sg_bd n fun k hk => (mb k hk).mul (hL k hk j hj)).mono ?_
    rw [e]
    generalize (2 * n * B) ^ (n - 1) = S
    calc n * (S * B) = S * (n * B) := Nat.mul_left_comm _ _ _
      _ ≤ S * (2 * n * B) := Nat.mul_le_mul_left _ (by rw [Nat.mul_assoc]; omega)
  · by_cases hj2 : j < width + 1 + n
    · have e2 : j = width + 1 + (j - (width + 1)) := by omega
      rw [e2]
      exact (mb (j - (width + 1)) (by omega)).mono (Nat.pow_le_pow_right hp (by omega))
    · unfold En
      rw [getD_ge (by omega)]
      exact Bd.zero
end
/-- sizes that the machine's rules allow -/
structure Fits (n width B : Nat) : Prop where
  n1 : 1 ≤ n
  n2 : n ≤ 100
  w2 : width ≤ 100
  b : 1 ≤ B
  m : (2 * n * B) ^ (n - 1) ≤ 2 ^ 2700
  e : (2 * n * B) ^ n ≤ 2 ^ 4050
  d : (2 * (width + 1) * B) ^ width ≤ 2 ^ 8900
section
variable {T : List (List Int)} {b : List Int} {n width B : Nat}
theorem LT_bd (t : Tab n width T) (hb : b.length = n) (hT : ∀ r ∈ T, ∀ x ∈ r, Bd B x) (hR : ∀ x ∈ b, Bd B x) : ∀ k, k < n → ∀ j, j ≤ width → Bd B (LT T b width k j) := fun k hk j hj => by
  unfold LT
  split
  · exact hT _ (getD_mem [] (by rw [t.n]; exact hk)) _ (getD_mem 0 (by rw [t.row hk]; assumption))
  · exact hR _ (getD_mem 0 (by omega))
theorem sm_of {m k : Nat} {x : Int} (h : Bd m x) (l : m ≤ 2 ^ k) (j : Nat) (lj : k < j) : Sm j x := Nat.lt_of_le_of_lt (Nat.le_trans h l) (Nat.pow_lt_pow_right (by decide) lj)
theorem raw_gcd {s : El} {c : Nat} {L : Nat → Nat → Int} (f : Fits n width B) (h : EInv n width L s c) (hc : c < width) (hL : ∀ k, k < n → ∀ j, j ≤ width → Bd B (L k j)) {a : Nat} (hf : freeM s.es s.us c = some a) {r : Nat} (hr : r < n) (hra : r ≠ a) :
    gcdL (rawM ((flipM s.es a c).getD r []) ((flipM s.es a c).getD a []) (((flipM s.es a c).getD a []).getD c 0) (((flipM s.es a c).getD r []).getD c 0)) < 2 ^ 8999 := by
  obtain ⟨ha, hau, hne⟩ := freeM_some hf
  rw [h.tab.n] at ha
  obtain ⟨k, hk, hkn⟩ := raw_mark h hc ha hau hne hr hra
  obtain ⟨sgn, hs, hrow, _, _⟩ := flip_row s.es a c (by rw [h.tab.n]; exact ha)
  rw [flip_oth s.es hra]
  have hl : (s.es.getD r []).length = width + 1 + n := h.tab.row hr
  have q := rawM_getD (s.es.getD r []) ((flipM s.es a c).getD a []) (((flipM s.es a c).getD a []).getD c 0) ((s.es.getD r []).getD c 0) (j := width + 1 + k) (by omega)
  have hm : (rawM (s.es.getD r []) ((flipM s.es a c).getD a []) (((flipM s.es a c).getD a []).getD c 0) ((s.es.getD r []).getD c 0)).getD (width + 1 + k) 0 ∈ rawM (s.es.getD r []) ((flipM s.es a c).getD a []) (((flipM s.es a c).getD a []).getD c 0) ((s.es.getD r []).getD c 0) :=
    getD_mem 0 (by unfold rawM; rw [List.length_map, List.length_range]; omega)
  refine Nat.lt_of_le_of_lt (gcdL_le hm (by rw [q]; exact hkn)) ?_
  rw [q]
  have m1 := marks_bd h (by omega) f.b hL hr k hk
  have m2 := marks_bd h (by omega) f.b hL ha k hk
  have e1 := all_bd h (by omega) f.b hL hr c
  have e2 := all_bd h (by omega) f.b hL ha c
  have sg1 : ∀ j, (En (flipM s.es a c) a j).natAbs = (En s.es a j).natAbs := fun j => by
    rcases hs with q | q
    · rw [hrow j, q, Int.one_mul]
    · rw [hrow j, q]
      omega
  have m2' : Bd ((2 * n * B) ^ (n - 1)) (En (flipM s.es a c) a (width + 1 + k)) := by unfold Bd; rw [sg1]; exact m2
  have e2' : Bd ((2 * n * B) ^ n) (En (flipM s.es a c) a c) := by unfold Bd; rw [sg1]; exact e2
  have tot := (m1.mul e2').sub (m2'.mul e1)
  refine Nat.lt_of_le_of_lt tot ?_
  have := Nat.mul_le_mul f.m f.e
  rw [← Nat.pow_add 2 2700 4050] at this
  refine Nat.lt_of_le_of_lt (Nat.add_le_add this this) ?_
  rw [show (2 : Nat) ^ (2700 + 4050) + 2 ^ (2700 + 4050) = 2 ^ (2700 + 4050 + 1) by rw [Nat.pow_succ]; omega]
  exact Nat.pow_lt_pow_right (by decide) (by decide)
theorem row_mem_bd {s : El} {c : Nat} {L : Nat → Nat → Int} (f : Fits n width B) (h : EInv n width L s c) (hc : c ≤ width) (hL : ∀ k, k < n → ∀ j, j ≤ width → Bd B (L k j)) : ∀ r ∈ s.es, ∀ x ∈ r, Bd ((2 * n * B) ^ n) x := fun r hr x hx => by
  obtain ⟨k, hk, rfl⟩ := mem_getD [] hr
  obtain ⟨j, hj, rfl⟩ := mem_getD 0 hx
  rw [h.tab.n] at hk
  exact all_bd h hc f.b hL hk j
theorem elOk (f : Fits n width B) (t : Tab n width T) (hb : b.length = n) (hT : ∀ r ∈ T, ∀ x ∈ r, Bd B x) (hR : ∀ x ∈ b, Bd B x) : ElOk n (width + 1 + n) (entriesM T b) width := by
  have hL := LT_bd t hb hT hR
  refine ⟨by have := f.n2; omega, by have := f.n2; have := f.w2; omega, by omega, entries_tab t hb, fun c hc => ?_⟩
  have h := elim_inv t hb c (by omega)
  exact ⟨h.tab, fun r hr x hx => sm_of (row_mem_bd f h (by omega) hL r hr x hx) f.e _ (by decide), us_lt h, h.nd⟩
end
end M

set_option Elab.async false
set_option linter.all false
set_option maxRecDepth 100000
set_option maxHeartbeats 4000000
/-! LA1: rows of whole numbers: spans up to factors, independence, rank -/
namespace M
/-- a sum of the rows A k, k < n, up to a factor -/
def Spn (n w : Nat) (A : Nat → Nat → Int) (v : Nat → Int) : Prop := ∃ (d : Int) (z : Nat → Int), d ≠ 0 ∧ ∀ j, j < w → d * v j = sg n (fun k => z k * A k j)
section
variable {n m r w : Nat} {A B P Q : Nat → Nat → Int} {u v : Nat → Int}
theorem Spn.row {k : Nat} (hk : k < n) : Spn n w A (A k) := ⟨1, fun i => if i = k then 1 else 0, by decide, fun j _ => by
  rw [sg_single hk fun i hi hne => by show (if i = k then (1 : Int) else 0) * _ = 0; rw [if_neg hne, Int.zero_mul]]
  show 1 * A k j = (if k = k then (1 : Int) else 0) * A k j
  rw [if_pos rfl]⟩
theorem Spn.zero : Spn n w A (fun _ => 0) := ⟨1, fun _ => 0, by decide, fun j _ => by
  rw [sg_congr n (g := fun _ => 0) fun k _ => Int.zero_mul _, sg_zero]
  rfl⟩
theorem Spn.add (h : Spn n w A u) (h' : Spn n w A v) : Spn n w A (fun j => u j + v j) := by
  obtain ⟨d, z, hd, e⟩ := h
  obtain ⟨d', z', hd', e'⟩ := h'
  refine ⟨d * d', fun k => d' * z k + d * z' k, Int.mul_ne_zero hd hd', fun j hj => ?_⟩
  rw [sg_congr n (g := fun k => d' * (z k * A k j) + d * (z' k * A k j)) fun k _ => by grind, sg_add, sg_mulL, sg_mulL, ← e j hj, ← e' j hj]
  grind
theorem Spn.smul (c : Int) (h : Spn n w A u) : Spn n w A (fun j => c * u j) := by
  obtain ⟨d, z, hd, e⟩ := h
  refine ⟨d, fun k => c * z k, hd, fun j hj => ?_⟩
  rw [sg_congr n (g := fun k => c * (z k * A k j)) fun k _ => by grind, sg_mulL, ← e j hj]
  grind
theorem Spn.div {c : Int} (hc : c ≠ 0) (h : Spn n w A (fun j => c * u j)) : Spn n w A u := by
  obtain ⟨d, z, hd, e⟩ := h
  exact ⟨d * c, z, Int.mul_ne_zero hd hc, fun j hj => by rw [Int.mul_assoc]; exact e j hj⟩
theorem Spn.congr (h : Spn n w A u) (e : ∀ j, j < w → u j = v j) : Spn n w A v := by
  obtain ⟨d, z, hd, q⟩ := h
  exact ⟨d, z, hd, fun j hj => by rw [← e j hj]; exact q j hj⟩
theorem Spn.sum (y : Nat → Int) : ∀ m : Nat, (∀ i, i < m → Spn n w A (B i)) → Spn n w A (fun j => sg m (fun i => y i * B i j))
  | 0, _ => Spn.zero
  | m + 1, h => (Spn.sum y m fun i hi => h i (by omega)).add ((h m (by omega)).smul (y m))
theorem Spn.trans (h : Spn m w B v) (hB : ∀ i, i < m → Spn n w A (B i)) : Spn n w A v := by
  obtain ⟨d, z, hd, e⟩ := h
  exact Spn.div hd ((Spn.sum z m hB).congr fun j hj => (e j hj).symm)
theorem Spn.neg (h : Spn n w A u) : Spn n w A (fun j => -u j) := (h.smul (-1)).congr fun j _ => by omega
/-- no row is a sum of the others -/
def Ind (m w : Nat) (P : Nat → Nat → Int) : Prop := ∀ z : Nat → Int, (∀ j, j < w → sg m (fun k => z k * P k j) = 0) → ∀ k, k < m → z k = 0
theorem bd_ex1 (f : Nat → Int) : ∀ m : Nat, ∃ B : Nat, 1 ≤ B ∧ ∀ i, i < m → Bd B (f i)
  | 0 => ⟨1, Nat.le_refl _, fun i h => absurd h (Nat.not_lt_zero i)⟩
  | m + 1 => by
    obtain ⟨B, h1, h2⟩ := bd_ex1 f m
    refine ⟨B + (f m).natAbs, by omega, fun i hi => ?_⟩
    by_cases e : i = m
    · rw [e]; unfold Bd; omega
    · exact (h2 i (by omega)).mono (by omega)
theorem bd_ex (f : Nat → Nat → Int) (m : Nat) : ∀ r : Nat, ∃ B : Nat, 1 ≤ B ∧ ∀ i, i < m → ∀ l, l < r → Bd B (f i l)
  | 0 => ⟨1, Nat.le_refl _, fun i _ l h => absurd h (Nat.not_lt_zero l)⟩
  | r + 1 => by
    obtain ⟨B, h1, h2⟩ := bd_ex f m r
    obtain ⟨C, h3, h4⟩ := bd_ex1 (fun i => f i r) m
    refine ⟨B + C, by omega, fun i hi l hl => ?_⟩
    by_cases e : l = r
    · rw [e]; exact (h4 i hi).mono (by omega)
    · exact (h2 i hi l (by omega)).mono (by omega)
/-- more unknowns than equations: a solution that is not zero -/
theorem homog (f : Nat → Nat → Int) (n r : Nat) (h : r < n) : ∃ x : Nat → Int, (∃ k, k < n ∧ x k ≠ 0) ∧ ∀ l, l < r → sg n (fun k => x k * f k l) = 0 := by
  obtain ⟨B, h1, h2⟩ := bd_ex f n r
  obtain ⟨x, a, _, c⟩ := siegel n B ((List.range r).map fun l k => f k l) h1 (by simpa using h) fun e he k hk => by
    obtain ⟨l, hl, rfl⟩ := List.mem_map.mp he
    exact h2 k hk l (List.mem_range.mp hl)
  exact ⟨x, a, fun l hl => c (fun k => f k l) (List.mem_map.mpr ⟨l, List.mem_range.mpr hl, rfl⟩)⟩
theorem steinitz (hi : Ind m w P) (hs : ∀ i, i < m → Spn r w Q (P i)) : m ≤ r := by
  refine Nat.not_lt.mp fun hlt => ?_
  have : ∃ (d : Nat → Int) (c : Nat → Nat → Int), ∀ i, i < m → d i ≠ 0 ∧ ∀ j, j < w → d i * P i j = sg r (fun l => c i l * Q l j) := by
    refine ⟨fun i => if h : i < m then (hs i h).choose else 0, fun i => if h : i < m then (hs i h).choose_spec.choose else fun _ => 0, fun i hi => ?_⟩
    have q := (hs i hi).choose_spec.choose_spec
    simp only [dif_pos hi]
    exact q
  obtain ⟨d, c, hc⟩ := this
  obtain ⟨x, ⟨k, hk, hx⟩, e⟩ := homog c m r hlt
  have z := hi (fun i => x i * d i) (fun j hj => by
    rw [sg_congr m (g := fun i => sg r (fun l => x i * c i l * Q l j)) fun i hi => by
      rw [Int.mul_assoc, (hc i hi).2 j hj, ← sg_mulL]
      exact sg_congr r fun l _ => by grind]
    rw [sg_swap, sg_congr r (g := fun _ => 0) fun l hl => by rw [sg_mulR, e l hl, Int.zero_mul], sg_zero]) k hk
  rcases Int.mul_eq_zero.mp z with z | z
  · exact hx z
  · exact (hc k hk).1 z
/-- r is the rank of n rows -/
def Rk (n w : Nat) (A : Nat → Nat → Int) (r : Nat) : Prop := ∃ P : Nat → Nat → Int, Ind r w P ∧ (∀ i, i < r → Spn n w A (P i)) ∧ ∀ k, k < n → Spn r w P (A k)
theorem Rk.of_span {n' : Nat} {A' : Nat → Nat → Int} (h : Rk n w A r) (h1 : ∀ k, k < n' → Spn n w A (A' k)) (h2 : ∀ k, k < n → Spn n' w A' (A k)) : Rk n' w A' r := by
  obtain ⟨P, a, b, c⟩ := h
  exact ⟨P, a, fun i hi => (b i hi).trans h2, fun k hk => (h1 k hk).trans c⟩
theorem Rk.le (h : Rk n w A r) (hi : Ind m w P) (hs : ∀ i, i < m → Spn n w A (P i)) : m ≤ r := by
  obtain ⟨R, a, b, c⟩ := h
  exact steinitz hi fun i hi => (hs i hi).trans c
theorem Rk.ge (h : Rk n w A r) (hs : ∀ k, k < n → Spn m w P (A k)) : r ≤ m := by
  obtain ⟨R, a, b, c⟩ := h
  exact steinitz a fun i hi => (b i hi).trans hs
theorem Rk.uniq {r' : Nat} (h : Rk n w A r) (h' : Rk n w A r') : r = r' := by
  obtain ⟨R, a, b, _⟩ := id h'
  have h1 := h.le a b
  obtain ⟨R, a, b, _⟩ := id h
  have h2 := h'.le a b
  omega
theorem Rk.ind (h : Ind n w A) : Rk n w A n := ⟨A, h, fun i hi => .row hi, fun k hk => .row hk⟩
/-- the columns have the same rank as the rows -/
theorem Rk.turn {r' : Nat} (h : Rk n w A r) (h' : Rk w n (fun j k => A k j) r') : r' ≤ r := by
  obtain ⟨P, a, b, c⟩ := h
  -- the rows over one common factor
  have : ∃ (d : Nat → Int) (z : Nat → Nat → Int), ∀ k, k < n → d k ≠ 0 ∧ ∀ j, j < w → d k * A k j = sg r (fun l => z k l * P l j) := by
    refine ⟨fun i => if h : i < n then (c i h).choose else 0, fun i => if h : i < n then (c i h).choose_spec.choose else fun _ => 0, fun i hi => ?_⟩
    have q := (c i hi).choose_spec.choose_spec
    simp only [dif_pos hi]
    exact q
  obtain ⟨d, z, hz⟩ := this
  -- the columns scaled by d row by row
  obtain ⟨R, a', b', c'⟩ := h'
  have ind' : Ind r' n (fun i k => d k * R i k) := fun y hy => a' y fun k hk => by
    have q := hy k hk
    rw [sg_congr r' (g := fun i => d k * (y i * R i k)) fun i _ => by grind, sg_mulL] at q
    rcases Int.mul_eq_zero.mp q with q | q
    · exact absurd q (hz k hk).1
    · exact q
  refine steinitz ind' (r := r) (Q := fun l k => z k l) fun i hi => ?_
  obtain ⟨e, y, he, hy⟩ := b' i hi
  refine ⟨e, fun l => sg w (fun j => y j * P l j), he, fun k hk => ?_⟩
  show e * (d k * R i k) = _
  rw [Int.mul_left_comm, hy k hk, ← sg_mulL, sg_congr w (g := fun j => sg r (fun l => y j * P l j * z k l)) fun j hj => by
    rw [Int.mul_left_comm, (hz k hk).2 j hj, ← sg_mulL]
    exact sg_congr r fun l _ => by grind]
  rw [sg_swap]
  exact sg_congr r fun l _ => by rw [sg_mulR]
theorem Rk.turned {r' : Nat} (h : Rk n w A r) (h' : Rk w n (fun j k => A k j) r') : r' = r := by
  have h1 := h.turn h'
  have h2 := Rk.turn h' (A := fun j k => A k j) (r' := r) h
  omega
end
end M

set_option Elab.async false
set_option linter.all false
set_option maxRecDepth 100000
set_option maxHeartbeats 4000000
/-! LA2: the elimination of plain rows -/
namespace M
theorem low_rel (l : List Int) : ∃ g : Int, 0 < g ∧ ∀ j, g * (lowM l).getD j 0 = l.getD j 0 := by
  by_cases h : gcdL l = 0
  · exact ⟨1, by decide, fun j => by rw [lowM_zero h, Int.one_mul]⟩
  · exact ⟨((gcdL l : Nat) : Int), by omega, lowM_mul l⟩
theorem low_prim2 (l : List Int) : gcdL (lowM l) ≤ 1 := by
  by_cases h : gcdL l = 0
  · rw [lowM_zero h, h]; decide
  · rw [lowM_prim (by omega)]; decide
theorem find_congr {α : Type} {p q : α → Bool} : ∀ l : List α, (∀ x ∈ l, p x = q x) → l.find? p = l.find? q
  | [], _ => rfl
  | x :: l, h => by
    rw [List.find?_cons, List.find?_cons, h x List.mem_cons_self, find_congr l fun y hy => h y (List.mem_cons_of_mem _ hy)]
section
variable {n w W : Nat} {es : List (List Int)} {a c : Nat}
/-- the rows behind a turn -/
theorem clear_at (t : Tab n W es) (ha : a < n) (hc : c < W) (hne : En es a c ≠ 0) :
    ∃ sgn : Int, (sgn = 1 ∨ sgn = -1) ∧ (∀ j, En (clearedM (flipM es a c) a c) a j = sgn * En es a j) ∧ 0 < En (clearedM (flipM es a c) a c) a c ∧ gcdL ((clearedM (flipM es a c) a c).getD a []) = gcdL (es.getD a []) ∧ sgn * En es a c = En (clearedM (flipM es a c) a c) a c ∧
      ∀ r, r < n → r ≠ a → (En es r c = 0 ∧ (clearedM (flipM es a c) a c).getD r [] = es.getD r []) ∨
        (En es r c ≠ 0 ∧ gcdL ((clearedM (flipM es a c) a c).getD r []) ≤ 1 ∧ ∃ g : Int, 0 < g ∧ ∀ j, j < W → g * En (clearedM (flipM es a c) a c) r j = En (clearedM (flipM es a c) a c) a c * En es r j - En es r c * En (clearedM (flipM es a c) a c) a j) := by
  obtain ⟨sgn, hs, hrow, hpos, hg⟩ := flip_row es a c (by rw [t.n]; exact ha)
  have t1 := flip_tab (col := c) t ha
  have ca : (clearedM (flipM es a c) a c).getD a [] = (flipM es a c).getD a [] := by
    rw [cleared_getD (by rw [t1.n]; exact ha)]
    unfold clearRow
    rw [if_pos (.inl rfl)]
  have enA : ∀ j, En (clearedM (flipM es a c) a c) a j = En (flipM es a c) a j := fun j => by unfold En; rw [ca]
  refine ⟨sgn, hs, fun j => by rw [enA, hrow], by rw [enA]; exact hpos hne, by rw [ca, hg], by rw [enA, hrow], fun r hr hra => ?_⟩
  have e : (clearedM (flipM es a c) a c).getD r [] = clearRow (flipM es a c) a c r := cleared_getD (by rw [t1.n]; exact hr)
  have fr := flip_oth es (col := c) hra
  unfold clearRow at e
  rw [fr] at e
  by_cases z : En es r c = 0
  · left
    rw [if_pos (.inr z)] at e
    exact ⟨z, e⟩
  · right
    rw [if_neg (fun q => q.elim hra z)] at e
    have hl : (es.getD r []).length = W := t.row hr
    obtain ⟨g, g0, hg⟩ := low_rel (rawM (es.getD r []) ((flipM es a c).getD a []) (((flipM es a c).getD a []).getD c 0) ((es.getD r []).getD c 0))
    refine ⟨z, by rw [e]; exact low_prim2 _, g, g0, fun j hj => ?_⟩
    have e1 : En (clearedM (flipM es a c) a c) r j = _ := congrArg (fun l : List Int => l.getD j 0) e
    rw [e1, hg, rawM_getD _ _ _ _ (by omega), enA, enA]
    show En es r j * En (flipM es a c) a c - En (flipM es a c) a j * En es r c = _
    grind
/-- .. in one form -/
theorem clear_rel (t : Tab n W es) (ha : a < n) (hc : c < W) (hne : En es a c ≠ 0) {r : Nat} (hr : r < n) (hra : r ≠ a) :
    ∃ g f p : Int, 0 < g ∧ 0 < f ∧ (∀ j, j < W → g * En (clearedM (flipM es a c) a c) r j = f * En es r j - p * En (clearedM (flipM es a c) a c) a j) ∧ En (clearedM (flipM es a c) a c) r c = 0 := by
  obtain ⟨sgn, hs, h1, h2, _, _, h3⟩ := clear_at t ha hc hne
  rcases h3 r hr hra with ⟨z, e⟩ | ⟨z, _, g, g0, e⟩
  · have q : ∀ j, En (clearedM (flipM es a c) a c) r j = En es r j := fun j => by unfold En; rw [e]
    exact ⟨1, 1, 0, by decide, by decide, fun j _ => by rw [q]; omega, by rw [q]; exact z⟩
  · refine ⟨g, _, _, g0, h2, e, ?_⟩
    have q := e c hc
    have q : g * En (clearedM (flipM es a c) a c) r c = 0 := by rw [q]; grind
    rcases Int.mul_eq_zero.mp q with q | q
    · omega
    · exact q
end
/-- what holds after c columns -/
structure UInv (n w : Nat) (L : Nat → Nat → Int) (s : El) (c : Nat) : Prop where
  tab : Tab n w s.es
  up : ∀ r, r < n → Spn n w L (En s.es r)
  dn : ∀ r, r < n → Spn n w (En s.es) (L r)
  pos : ∀ ac ∈ s.pv, ac.1 < n ∧ ac.2 < c ∧ 0 < En s.es ac.1 ac.2
  col : ∀ ac ∈ s.pv, ∀ r, r < n → r ≠ ac.1 → En s.es r ac.2 = 0
  nd : s.us.Nodup
  free : ∀ r, r < n → r ∉ s.us → ∀ c', c' < c → En s.es r c' = 0
  prim : ∀ r, r < n → gcdL (s.es.getD r []) ≤ 1
  inc : (s.pv.map Prod.snd).Pairwise (· < ·)
section
variable {n w : Nat} {L : Nat → Nat → Int} {s : El} {c : Nat}
theorem UInv.step (h : UInv n w L s c) (hc : c < w) : UInv n w L (stepM s c) (c + 1) := by
  unfold stepM
  cases hf : freeM s.es s.us c with
  | none =>
    exact ⟨h.tab, h.up, h.dn, fun ac ha => ⟨(h.pos ac ha).1, Nat.lt_succ_of_lt (h.pos ac ha).2.1, (h.pos ac ha).2.2⟩, h.col, h.nd, fun r hr hu c' hc' => by
      by_cases e : c' = c
      · rw [e]; exact freeM_none hf (by rw [h.tab.n]; exact hr) hu
      · exact h.free r hr hu c' (by omega), h.prim, h.inc⟩
  | some a =>
    obtain ⟨ha, hau, hne⟩ := freeM_some hf
    rw [h.tab.n] at ha
    obtain ⟨sgn, hs, h1, h2, h4, _, h3⟩ := clear_at h.tab ha hc hne
    have rel := fun {r} (hr : r < n) (hra : r ≠ a) => clear_rel h.tab ha hc hne (r := r) hr hra
    have t' : Tab n w (clearedM (flipM s.es a c) a c) := cleared_tab (flip_tab h.tab ha)
    show UInv n w L ⟨clearedM (flipM s.es a c) a c, s.pv ++ [(a, c)]⟩ (c + 1)
    generalize clearedM (flipM s.es a c) a c = es' at *
    have s0 : sgn ≠ 0 := by omega
    have hus : (El.mk es' (s.pv ++ [(a, c)])).us = s.us ++ [a] := by
      unfold El.us
      rw [List.map_append]
      rfl
    have aold : ∀ ac ∈ s.pv, En es' a ac.2 = 0 := fun ac hac => by
      rw [h1, h.col ac hac a ha (fun z => hau (by rw [z]; exact List.mem_map_of_mem hac)), Int.mul_zero]
    refine ⟨t', fun r hr => ?_, fun r hr => (h.dn r hr).trans fun k hk => ?_, fun ac hac => ?_, fun ac hac r hr hra => ?_, ?_, fun r hr hu c' hc' => ?_, fun r hr => ?_, ?_⟩
    · have upa : Spn n w L (En es' a) := ((h.up a ha).smul sgn).congr fun j _ => (h1 j).symm
      by_cases e : r = a
      · rw [e]; exact upa
      · obtain ⟨g, f, p, g0, f0, q, _⟩ := rel hr e
        exact Spn.div (c := g) (by omega) ((((h.up r hr).smul f).add (upa.smul (-p))).congr fun j hj => by rw [q j hj]; grind)
    · show Spn n w (En es') (En s.es k)
      by_cases e : k = a
      · rw [e]; exact Spn.div s0 ((Spn.row ha).congr fun j _ => h1 j)
      · obtain ⟨g, f, p, g0, f0, q, _⟩ := rel hk e
        exact Spn.div (c := f) (by omega) ((((Spn.row (A := En es') hk).smul g).add ((Spn.row ha).smul p)).congr fun j hj => by rw [q j hj]; grind)
    · rcases List.mem_append.mp hac with hac | hac
      · obtain ⟨b1, b2, b3⟩ := h.pos ac hac
        refine ⟨b1, by omega, ?_⟩
        show 0 < En es' ac.1 ac.2
        have hne' : ac.1 ≠ a := fun z => hau (by rw [← z]; exact List.mem_map_of_mem hac)
        obtain ⟨g, f, p, g0, f0, q, _⟩ := rel b1 hne'
        have e := q ac.2 (by omega)
        rw [aold ac hac, Int.mul_zero, Int.sub_zero] at e
        have : 0 < f * En s.es ac.1 ac.2 := Int.mul_pos f0 b3
        rw [← e] at this
        exact Int.pos_of_mul_pos_right this (by omega)
      · rw [List.mem_singleton.mp hac]
        exact ⟨ha, by show c < c + 1; omega, h2⟩
    · show En es' r ac.2 = 0
      rcases List.mem_append.mp hac with hac | hac
      · by_cases e : r = a
        · rw [e]; exact aold ac hac
        · obtain ⟨g, f, p, g0, f0, q, _⟩ := rel hr e
          have e2 := q ac.2 (by have := (h.pos ac hac).2.1; omega)
          rw [aold ac hac, h.col ac hac r hr hra, Int.mul_zero, Int.mul_zero] at e2
          exact cancel (g := g) (by omega) (by rw [e2, Int.mul_zero]; rfl)
      · rw [List.mem_singleton.mp hac] at hra ⊢
        obtain ⟨_, _, _, _, _, _, e⟩ := rel hr hra
        exact e
    · rw [hus]
      refine List.nodup_append.mpr ⟨h.nd, by simp, fun x hx y hy e => ?_⟩
      rw [List.mem_singleton.mp hy] at e
      exact hau (by rw [← e]; exact hx)
    · show En es' r c' = 0
      rw [hus] at hu
      have hra : r ≠ a := fun z => hu (by rw [z]; exact List.mem_append_right _ (List.mem_singleton.mpr rfl))
      have hru : r ∉ s.us := fun z => hu (List.mem_append_left _ z)
      obtain ⟨g, f, p, g0, f0, q, e0⟩ := rel hr hra
      by_cases e : c' = c
      · rw [e]; exact e0
      · have e2 := q c' (by omega)
        rw [h1 c', h.free r hr hru c' (by omega), h.free a ha hau c' (by omega), Int.mul_zero, Int.mul_zero, Int.mul_zero] at e2
        exact cancel (g := g) (by omega) (by rw [e2, Int.mul_zero]; rfl)
    · show gcdL (es'.getD r []) ≤ 1
      by_cases e : r = a
      · rw [e, h4]; exact h.prim a ha
      · rcases h3 r hr e with ⟨_, q⟩ | ⟨_, q, _⟩
        · rw [q]; exact h.prim r hr
        · exact q
    · show ((s.pv ++ [(a, c)]).map Prod.snd).Pairwise (· < ·)
      rw [List.map_append]
      refine List.pairwise_append.mpr ⟨h.inc, List.pairwise_singleton _ _, fun x hx y hy => ?_⟩
      obtain ⟨ac, hac, rfl⟩ := List.mem_map.mp hx
      rw [List.mem_singleton.mp hy]
      exact (h.pos ac hac).2.1
end
section
variable {T : List (List Int)} {n w : Nat}
theorem ustart (t : Tab n w T) : UInv n w (En T) (elimTo T 0) 0 := by
  have e0 : elimTo T 0 = ⟨T.map lowM, []⟩ := rfl
  have row : ∀ r, r < n → (T.map lowM).getD r [] = lowM (T.getD r []) := fun r hr => getD_get (by rw [List.getElem?_map, get_getD [] (by rw [t.n]; exact hr)]; rfl)
  have en : ∀ r, r < n → ∃ g : Int, 0 < g ∧ ∀ j, g * En (T.map lowM) r j = En T r j := fun r hr => by
    obtain ⟨g, g0, h⟩ := low_rel (T.getD r [])
    refine ⟨g, g0, fun j => ?_⟩
    unfold En
    rw [row r hr]
    exact h j
  rw [e0]
  refine ⟨⟨by rw [List.length_map]; exact t.n, fun r hr => ?_⟩, fun r hr => ?_, fun r hr => ?_, fun ac h => (by cases h), fun ac h => (by cases h), List.nodup_nil, fun r hr hu c' hc' => by omega, fun r hr => ?_, List.Pairwise.nil⟩
  · obtain ⟨y, hy, rfl⟩ := List.mem_map.mp hr
    rw [lowM_len]
    exact t.w y hy
  · obtain ⟨g, g0, h⟩ := en r hr
    exact Spn.div (c := g) (by omega) ((Spn.row hr).congr fun j _ => (h j).symm)
  · obtain ⟨g, g0, h⟩ := en r hr
    exact ((Spn.row (A := En (T.map lowM)) hr).smul g).congr fun j _ => h j
  · show gcdL ((T.map lowM).getD r []) ≤ 1
    rw [row r hr]
    exact low_prim2 _
theorem uinv (t : Tab n w T) : ∀ c, c ≤ w → UInv n w (En T) (elimTo T c) c
  | 0, _ => ustart t
  | c + 1, h => by
    rw [elimTo_succ]
    exact (uinv t c (by omega)).step (by omega)
end
/-! ### beside the elimination led by marks -/
structure Sim (n w : Nat) (s u : El) : Prop where
  pv : s.pv = u.pv
  rel : ∀ r, r < n → ∃ g f : Int, 0 < g ∧ 0 < f ∧ ∀ j, j < w → g * En s.es r j = f * En u.es r j
section
variable {n w W : Nat} {s u : El} {c : Nat}
theorem Sim.zero (h : Sim n w s u) {r j : Nat} (hr : r < n) (hj : j < w) : En s.es r j = 0 ↔ En u.es r j = 0 := by
  obtain ⟨g, f, g0, f0, e⟩ := h.rel r hr
  have e := e j hj
  constructor
  · intro z
    rw [z, Int.mul_zero] at e
    rcases Int.mul_eq_zero.mp e.symm with q | q
    · omega
    · exact q
  · intro z
    rw [z, Int.mul_zero] at e
    rcases Int.mul_eq_zero.mp e with q | q
    · omega
    · exact q
theorem Sim.step (h : Sim n w s u) (ts : Tab n W s.es) (tu : Tab n w u.es) (hW : w ≤ W) (hc : c < w) : Sim n w (stepM s c) (stepM u c) := by
  have hus : s.us = u.us := by unfold El.us; rw [h.pv]
  have hfr : freeM s.es s.us c = freeM u.es u.us c := by
    unfold freeM
    rw [ts.n, tu.n, hus]
    refine find_congr _ fun k hk => ?_
    unfold freeT
    congr 2
    exact decide_eq_decide.mpr (h.zero (List.mem_range.mp hk) hc)
  unfold stepM
  rw [hfr]
  cases hf : freeM u.es u.us c with
  | none => exact h
  | some a =>
    obtain ⟨ha, hau, hne⟩ := freeM_some hf
    rw [tu.n] at ha
    have hne2 : En s.es a c ≠ 0 := fun z => hne ((h.zero ha hc).mp z)
    obtain ⟨s1, hs1, p1, p2, _, p3, p4⟩ := clear_at ts ha (by omega) hne2
    obtain ⟨u1, hu1, q1, q2, _, q3, q4⟩ := clear_at tu ha hc hne
    refine ⟨by show s.pv ++ _ = u.pv ++ _; rw [h.pv], fun r hr => ?_⟩
    show ∃ g f : Int, 0 < g ∧ 0 < f ∧ ∀ j, j < w → g * En (clearedM (flipM s.es a c) a c) r j = f * En (clearedM (flipM u.es a c) a c) r j
    generalize clearedM (flipM s.es a c) a c = S at *
    generalize clearedM (flipM u.es a c) a c = U at *
    obtain ⟨g, f, g0, f0, e⟩ := h.rel a ha
    have hsu : s1 = u1 := by
      have e1 := e c hc
      have a1 : g * En S a c = s1 * (g * En s.es a c) := by rw [← p3]; grind
      have a2 : f * En U a c = u1 * (f * En u.es a c) := by rw [← q3]; grind
      have b1 := Int.mul_pos g0 p2
      have b2 := Int.mul_pos f0 q2
      rcases hs1 with rfl | rfl <;> rcases hu1 with rfl | rfl <;> first | rfl | omega
    have ea : ∀ j, j < w → g * En S a j = f * En U a j := fun j hj => by rw [p1, q1, hsu]; have := e j hj; grind
    by_cases er : r = a
    · subst er
      exact ⟨g, f, g0, f0, ea⟩
    · obtain ⟨g', f', g0', f0', e'⟩ := h.rel r hr
      rcases p4 r hr er with ⟨z, k⟩ | ⟨z, _, x, x0, k⟩
      · rcases q4 r hr er with ⟨_, l⟩ | ⟨y, _⟩
        · refine ⟨g', f', g0', f0', fun j hj => ?_⟩
          have k1 : En S r j = En s.es r j := by unfold En; rw [k]
          have l1 : En U r j = En u.es r j := by unfold En; rw [l]
          rw [k1, l1]
          exact e' j hj
        · exact absurd ((h.zero hr hc).mp z) y
      · rcases q4 r hr er with ⟨y, _⟩ | ⟨_, _, y, y0, l⟩
        · exact absurd ((h.zero hr hc).mpr y) z
        · refine ⟨g * g' * x, f * f' * y, Int.mul_pos (Int.mul_pos g0 g0') x0, Int.mul_pos (Int.mul_pos f0 f0') y0, fun j hj => ?_⟩
          have k1 := k j (by omega)
          have l1 := l j hj
          have m1 := ea c hc
          have m2 := ea j hj
          have m3 := e' j hj
          have m4 := e' c hc
          calc g * g' * x * En S r j = g * g' * (x * En S r j) := by grind
            _ = (g * En S a c) * (g' * En s.es r j) - (g' * En s.es r c) * (g * En S a j) := by rw [k1]; grind
            _ = (f * En U a c) * (f' * En u.es r j) - (f' * En u.es r c) * (f * En U a j) := by rw [m1, m2, m3, m4]
            _ = f * f' * y * En U r j := by
              have : f * f' * y * En U r j = f * f' * (y * En U r j) := by grind
              rw [this, l1]
              grind
end
section
variable {T : List (List Int)} {n w B : Nat}
theorem sim (t : Tab n w T) : ∀ c, c ≤ w → Sim n w (elimTo (entriesM T (List.replicate n 0)) c) (elimTo T c)
  | 0, _ => by
    have hb : (List.replicate n (0 : Int)).length = n := List.length_replicate ..
    have e0 : elimTo (entriesM T (List.replicate n 0)) 0 = ⟨entriesM T (List.replicate n 0), []⟩ := by
      unfold elimTo
      rw [entries_map t hb]
      rfl
    have e1 : elimTo T 0 = ⟨T.map lowM, []⟩ := rfl
    rw [e0, e1]
    refine ⟨rfl, fun r hr => ?_⟩
    obtain ⟨g, g0, h⟩ := low_rel (T.getD r [])
    refine ⟨1, g, by decide, g0, fun j hj => ?_⟩
    show 1 * En (entriesM T (List.replicate n 0)) r j = g * En (T.map lowM) r j
    rw [entries_low t hb hr (by omega), Int.one_mul]
    have q : (T.map lowM).getD r [] = lowM (T.getD r []) := getD_get (by rw [List.getElem?_map, get_getD [] (by rw [t.n]; exact hr)]; rfl)
    unfold En LT
    rw [q, h j, if_pos hj]
  | c + 1, h => by
    rw [elimTo_succ, elimTo_succ]
    have hb : (List.replicate n (0 : Int)).length = n := List.length_replicate ..
    exact (sim t c (by omega)).step (elim_inv t hb c (by omega)).tab (uinv t c (by omega)).tab (by omega) (by omega)
/-- a primitive row is no greater than its multiples -/
theorem prim_le {row : List Int} {v : Nat → Int} {g f : Int} {W : Nat} (hp : gcdL row ≤ 1) (hW : row.length ≤ W) (hf : f ≠ 0) (hg : g ≠ 0) (e : ∀ j, j < W → g * v j = f * row.getD j 0) : ∀ j, j < W → (row.getD j 0).natAbs ≤ (v j).natAbs := by
  intro j hj
  by_cases h0 : gcdL row = 0
  · have : row.getD j 0 = 0 := by
      by_cases hl : j < row.length
      · have d := gcdL_dvd row _ (getD_mem 0 hl)
        rw [h0] at d
        have := Nat.eq_zero_of_zero_dvd d
        omega
      · exact getD_ge (by omega)
    rw [this]
    exact Nat.zero_le _
  · have h1 : gcdL row = 1 := by omega
    have hd : g ∣ f := dvd_of_row h1 fun x hx => by
      obtain ⟨i, hi, rfl⟩ := mem_getD 0 hx
      rw [← e i (by omega)]
      exact Int.dvd_mul_right _ _
    obtain ⟨k, rfl⟩ := hd
    have := e j hj
    rw [Int.mul_assoc] at this
    have := cancel hg this
    rw [this, Int.natAbs_mul]
    refine Nat.le_mul_of_pos_left _ ?_
    have : k ≠ 0 := fun z => hf (by rw [z, Int.mul_zero])
    omega
theorem u_bd (t : Tab n w T) (hB : 1 ≤ B) (hT : ∀ r ∈ T, ∀ x ∈ r, Bd B x) {c : Nat} (hc : c ≤ w) {r : Nat} (hr : r < n) : ∀ j, Bd ((2 * n * B) ^ n) (En (elimTo T c).es r j) := by
  intro j
  have hb : (List.replicate n (0 : Int)).length = n := List.length_replicate ..
  have hI := elim_inv t hb c hc
  have hU := uinv t c hc
  have hL : ∀ k, k < n → ∀ j, j ≤ w → Bd B (LT T (List.replicate n 0) w k j) := LT_bd t hb hT fun x hx => by rw [List.eq_of_mem_replicate hx]; exact Bd.zero
  have b := all_bd hI hc hB hL hr
  have hl : ((elimTo T c).es.getD r []).length = w := hU.tab.row hr
  by_cases hj : j < w
  · obtain ⟨g, f, g0, f0, e⟩ := (sim t c hc).rel r hr
    exact Nat.le_trans (prim_le (hU.prim r hr) (W := w) (by omega) (by omega) (by omega) e j hj) (b j)
  · unfold En
    rw [getD_ge (by omega)]
    exact Bd.zero
end
end M

set_option Elab.async false
set_option linter.all false
set_option maxRecDepth 100000
set_option maxHeartbeats 4000000
/-! LA3: the null vectors behind an elimination -/
namespace M
theorem Spn.orth {n w : Nat} {A : Nat → Nat → Int} {v x : Nat → Int} (h : Spn n w A v) (hx : ∀ k, k < n → sg w (fun j => A k j * x j) = 0) : sg w (fun j => v j * x j) = 0 := by
  obtain ⟨d, z, hd, e⟩ := h
  refine cancel (g := d) hd ?_
  rw [Int.mul_zero, ← sg_mulL, sg_congr w (g := fun j => sg n (fun k => z k * A k j * x j)) fun j hj => by rw [← Int.mul_assoc, e j hj, ← sg_mulR], sg_swap, sg_congr n (g := fun _ => 0) fun k hk => by
    rw [sg_congr w (g := fun j => z k * (A k j * x j)) fun j _ => by grind, sg_mulL, hx k hk, Int.mul_zero], sg_zero]
theorem sg_two {w a b : Nat} {f : Nat → Int} (ha : a < w) (hb : b < w) (hab : a ≠ b) (h : ∀ j, j < w → j ≠ a → j ≠ b → f j = 0) : sg w f = f a + f b := by
  have e : sg w f = sg w (fun j => if j = a then f a else 0) + sg w (fun j => if j = a then 0 else f j) := by
    rw [← sg_add]
    refine sg_congr w fun j _ => ?_
    by_cases q : j = a
    · rw [if_pos q, if_pos q, q]; omega
    · rw [if_neg q, if_neg q]; omega
  rw [e, sg_single ha fun j _ q => if_neg q, sg_single hb fun j hj q => by
    by_cases z : j = a
    · rw [if_pos z]
    · rw [if_neg z]; exact h j hj z q]
  rw [if_pos rfl, if_neg (fun z => hab z.symm)]
theorem set_get (l : List Int) (p i : Nat) (v : Int) (hp : p < l.length) : (l.set p v).getD i 0 = if i = p then v else l.getD i 0 := by
  by_cases e : i = p
  · rw [if_pos e, e]
    exact getD_get (List.getElem?_set_self hp)
  · rw [if_neg e, List.getD_eq_getElem?_getD, List.getElem?_set_ne (Ne.symm e), ← List.getD_eq_getElem?_getD]
theorem fold_set {α : Type} (g : α → Nat) (F : α → Int) : ∀ (l : List α) (v : List Int), (∀ a ∈ l, g a < v.length) → (l.map g).Nodup →
    (l.foldl (fun v a => v.set (g a) (F a)) v).length = v.length ∧ (∀ a ∈ l, (l.foldl (fun v a => v.set (g a) (F a)) v).getD (g a) 0 = F a) ∧ ∀ j, j ∉ l.map g → (l.foldl (fun v a => v.set (g a) (F a)) v).getD j 0 = v.getD j 0
  | [], v, _, _ => ⟨rfl, fun a h => (by cases h), fun _ _ => rfl⟩
  | a :: l, v, hl, nd => by
    have nd := List.nodup_cons.mp (show (g a :: l.map g).Nodup from nd)
    have hl1 := hl a List.mem_cons_self
    obtain ⟨h1, h2, h3⟩ := fold_set g F l (v.set (g a) (F a)) (fun b hb => by rw [List.length_set]; exact hl b (List.mem_cons_of_mem _ hb)) nd.2
    refine ⟨by rw [List.foldl_cons, h1, List.length_set], fun b hb => ?_, fun j hj => ?_⟩
    · rw [List.foldl_cons]
      by_cases e : g b ∈ l.map g
      · obtain ⟨b', hb', eb⟩ := List.mem_map.mp e
        rcases List.mem_cons.mp hb with rfl | hb
        · exact absurd e nd.1
        · exact h2 b hb
      · rw [h3 _ e]
        rcases List.mem_cons.mp hb with rfl | hb
        · rw [set_get _ _ _ _ hl1, if_pos rfl]
        · exact absurd (List.mem_map_of_mem hb) e
    · have hj : j ≠ g a ∧ j ∉ l.map g := by
        rw [List.map_cons, List.mem_cons] at hj
        exact ⟨fun z => hj (.inl z), fun z => hj (.inr z)⟩
      rw [List.foldl_cons, h3 j hj.2, set_get _ _ _ _ hl1, if_neg hj.1]
/-! what the program's functions compute -/
def lineN (s : El) (f : Nat) : Nat := s.pv.foldl (fun l ac => if En s.es ac.1 f = 0 then l else Nat.lcm l (En s.es ac.1 ac.2).natAbs) 1
def cellN (s : El) (f : Nat) (ac : Nat × Nat) : Int := -(En s.es ac.1 f) * ((lineN s f : Int) / En s.es ac.1 ac.2)
def vecM (s : El) (w f : Nat) : List Int := s.pv.foldl (fun v ac => v.set ac.2 (cellN s f ac)) ((List.replicate w 0).set f (lineN s f : Int))
def nullV (s : El) (w f : Nat) : List Int := lowM (vecM s w f)
def takenM (s : El) : List Nat := s.pv.map Prod.snd
def freesM (s : El) (w : Nat) : List Nat := (List.range w).filter fun f => !((takenM s).contains f)
def basisM (T : List (List Int)) (w : Nat) : List (List Int) := (freesM (elimTo T w) w).map (nullV (elimTo T w) w)
theorem line_dvd (s : El) (f : Nat) : ∀ (pv : List (Nat × Nat)) (l : Nat), l ∣ pv.foldl (fun l ac => if En s.es ac.1 f = 0 then l else Nat.lcm l (En s.es ac.1 ac.2).natAbs) l ∧ ∀ ac ∈ pv, En s.es ac.1 f ≠ 0 → (En s.es ac.1 ac.2).natAbs ∣ pv.foldl (fun l ac => if En s.es ac.1 f = 0 then l else Nat.lcm l (En s.es ac.1 ac.2).natAbs) l
  | [], l => ⟨Nat.dvd_refl _, fun ac h => by cases h⟩
  | a :: pv, l => by
    obtain ⟨h1, h2⟩ := line_dvd s f pv (if En s.es a.1 f = 0 then l else Nat.lcm l (En s.es a.1 a.2).natAbs)
    refine ⟨Nat.dvd_trans ?_ h1, fun ac hac hne => ?_⟩
    · split
      · exact Nat.dvd_refl _
      · exact Nat.dvd_lcm_left _ _
    · rcases List.mem_cons.mp hac with rfl | hac
      · rw [if_neg hne] at h1
        rw [List.foldl_cons, if_neg hne]
        exact Nat.dvd_trans (Nat.dvd_lcm_right _ _) h1
      · exact h2 ac hac hne
theorem line_pos (s : El) (f : Nat) : ∀ (pv : List (Nat × Nat)) (l : Nat), 0 < l → (∀ ac ∈ pv, 0 < En s.es ac.1 ac.2) → 0 < pv.foldl (fun l ac => if En s.es ac.1 f = 0 then l else Nat.lcm l (En s.es ac.1 ac.2).natAbs) l
  | [], l, h, _ => h
  | a :: pv, l, h, hp => by
    refine line_pos s f pv _ ?_ fun ac hac => hp ac (List.mem_cons_of_mem _ hac)
    show 0 < if En s.es a.1 f = 0 then l else Nat.lcm l (En s.es a.1 a.2).natAbs
    split
    · exact h
    · exact Nat.lcm_pos h (by have := hp a List.mem_cons_self; omega)
theorem line_le (s : El) (f X : Nat) (hX : 1 ≤ X) : ∀ (pv : List (Nat × Nat)) (l : Nat), (∀ ac ∈ pv, Bd X (En s.es ac.1 ac.2)) → pv.foldl (fun l ac => if En s.es ac.1 f = 0 then l else Nat.lcm l (En s.es ac.1 ac.2).natAbs) l ≤ l * X ^ pv.length
  | [], l, _ => by rw [List.foldl_nil, List.length_nil, Nat.pow_zero, Nat.mul_one]; exact Nat.le_refl _
  | a :: pv, l, hp => by
    refine Nat.le_trans (line_le s f X hX pv _ fun ac hac => hp ac (List.mem_cons_of_mem _ hac)) ?_
    rw [List.length_cons, Nat.pow_succ, Nat.mul_comm (X ^ pv.length) X, ← Nat.mul_assoc]
    refine Nat.mul_le_mul_right _ ?_
    show (if En s.es a.1 f = 0 then l else Nat.lcm l (En s.es a.1 a.2).natAbs) ≤ l * X
    split
    · exact Nat.le_mul_of_pos_right _ hX
    · refine Nat.le_trans (Nat.div_le_self _ _) (Nat.mul_le_mul_left _ (hp a List.mem_cons_self))
/-- a solution that belongs to a free column -/
structure NullOk (w : Nat) (s : El) (f : Nat) (x : Nat → Int) : Prop where
  pos : 0 < x f
  out : ∀ j, j < w → j ≠ f → j ∉ takenM s → x j = 0
  inn : ∀ ac ∈ s.pv, En s.es ac.1 ac.2 * x ac.2 + En s.es ac.1 f * x f = 0
theorem taken_nd {n w c : Nat} {L : Nat → Nat → Int} {s : El} (h : UInv n w L s c) : (takenM s).Nodup := h.inc.imp fun hlt => Nat.ne_of_lt hlt
section
variable {n w : Nat} {L : Nat → Nat → Int} {s : El} {f : Nat}
theorem vec_ok (h : UInv n w L s w) (hf : f < w) (hfp : f ∉ takenM s) : NullOk w s f (fun j => (vecM s w f).getD j 0) ∧ (vecM s w f).length = w := by
  have h0 : ((List.replicate w (0 : Int)).set f (lineN s f : Int)).length = w := by rw [List.length_set, List.length_replicate]
  obtain ⟨h1, h2, h3⟩ := fold_set Prod.snd (cellN s f) s.pv ((List.replicate w 0).set f (lineN s f : Int)) (fun ac hac => by rw [h0]; exact (h.pos ac hac).2.1) (taken_nd h)
  have lp : 0 < lineN s f := line_pos s f s.pv 1 (by decide) fun ac hac => (h.pos ac hac).2.2
  have rep : ∀ j, ((List.replicate w (0 : Int)).set f (lineN s f : Int)).getD j 0 = if j = f then (lineN s f : Int) else 0 := fun j => by
    rw [set_get _ _ _ _ (by rw [List.length_replicate]; exact hf)]
    split
    · rfl
    · rw [List.getD_eq_getElem?_getD, List.getElem?_replicate]
      split <;> rfl
  have ef : (vecM s w f).getD f 0 = (lineN s f : Int) := by
    unfold vecM
    rw [h3 f hfp, rep, if_pos rfl]
  refine ⟨⟨by show 0 < (vecM s w f).getD f 0; rw [ef]; omega, fun j hj hjf hjt => ?_, fun ac hac => ?_⟩, h1.trans h0⟩
  · show (vecM s w f).getD j 0 = 0
    unfold vecM
    rw [h3 j hjt, rep, if_neg hjf]
  · show En s.es ac.1 ac.2 * (vecM s w f).getD ac.2 0 + En s.es ac.1 f * (vecM s w f).getD f 0 = 0
    have ec : (vecM s w f).getD ac.2 0 = cellN s f ac := h2 ac hac
    rw [ec, ef]
    unfold cellN
    by_cases e : En s.es ac.1 f = 0
    · rw [e]; grind
    · have d := (line_dvd s f s.pv 1).2 ac hac e
      have d : (En s.es ac.1 ac.2).natAbs ∣ lineN s f := d
      have d2 : En s.es ac.1 ac.2 ∣ (lineN s f : Int) := Int.natAbs_dvd_natAbs.mp (by rw [Int.natAbs_natCast]; exact d)
      have m := Int.mul_ediv_cancel' d2
      generalize (lineN s f : Int) / En s.es ac.1 ac.2 = q at m
      rw [← m]
      grind
theorem null_ok (h : UInv n w L s w) (hf : f < w) (hfp : f ∉ takenM s) : NullOk w s f (fun j => (nullV s w f).getD j 0) ∧ (nullV s w f).length = w ∧ gcdL (nullV s w f) = 1 := by
  obtain ⟨v, l⟩ := vec_ok h hf hfp
  have gp : 0 < gcdL (vecM s w f) := gcdL_pos (x := (vecM s w f).getD f 0) (getD_mem 0 (by omega)) (by have := v.pos; have : 0 < (vecM s w f).getD f 0 := this; omega)
  have m := lowM_mul (vecM s w f)
  have g0 : (0 : Int) < ((gcdL (vecM s w f) : Nat) : Int) := by omega
  refine ⟨⟨?_, fun j hj hjf hjt => ?_, fun ac hac => ?_⟩, by unfold nullV; rw [lowM_len, l], lowM_prim gp⟩
  · have e := m f
    have q : 0 < (vecM s w f).getD f 0 := v.pos
    rw [← e] at q
    exact Int.pos_of_mul_pos_right q (by omega)
  · have e := m j
    have q : (vecM s w f).getD j 0 = 0 := v.out j hj hjf hjt
    rw [q] at e
    rcases Int.mul_eq_zero.mp e with z | z
    · omega
    · exact z
  · have q := v.inn ac hac
    have e1 := m f
    have e2 := m ac.2
    refine cancel (g := ((gcdL (vecM s w f) : Nat) : Int)) (by omega) ?_
    rw [Int.mul_zero]
    show ((gcdL (vecM s w f) : Nat) : Int) * (En s.es ac.1 ac.2 * (lowM (vecM s w f)).getD ac.2 0 + En s.es ac.1 f * (lowM (vecM s w f)).getD f 0) = 0
    have q : En s.es ac.1 ac.2 * (vecM s w f).getD ac.2 0 + En s.es ac.1 f * (vecM s w f).getD f 0 = 0 := q
    rw [← e1, ← e2] at q
    grind
/-- a row that is used, over numbers that are zero at all other free columns -/
theorem used_row (h : UInv n w L s w) (hf : f < w) (hfp : f ∉ takenM s) {y : Nat → Int} (hy : ∀ j, j < w → j ≠ f → j ∉ takenM s → y j = 0) {ac : Nat × Nat} (hac : ac ∈ s.pv) : sg w (fun j => En s.es ac.1 j * y j) = En s.es ac.1 ac.2 * y ac.2 + En s.es ac.1 f * y f := by
  obtain ⟨a1, a2, a3⟩ := h.pos ac hac
  refine sg_two a2 hf (fun z => hfp (by rw [← z]; exact List.mem_map_of_mem hac)) fun j hj h1 h2 => ?_
  by_cases e : j ∈ takenM s
  · obtain ⟨bc, hbc, rfl⟩ := List.mem_map.mp e
    rw [h.col bc hbc ac.1 a1 (fun z => h1 (by rw [fst_inj h.nd hac hbc z])), Int.zero_mul]
  · rw [hy j hj h2 e, Int.mul_zero]
theorem NullOk.zero (h : UInv n w L s w) (hf : f < w) (hfp : f ∉ takenM s) {x : Nat → Int} (k : NullOk w s f x) : ∀ r, r < n → sg w (fun j => En s.es r j * x j) = 0 := by
  intro r hr
  by_cases hu : r ∈ s.us
  · obtain ⟨ac, hac, rfl⟩ := List.mem_map.mp hu
    rw [used_row h hf hfp k.out hac]
    exact k.inn ac hac
  · rw [sg_congr w (g := fun _ => 0) fun j hj => by rw [h.free r hr hu j hj, Int.zero_mul], sg_zero]
theorem NullOk.sol (h : UInv n w L s w) (hf : f < w) (hfp : f ∉ takenM s) {x : Nat → Int} (k : NullOk w s f x) : ∀ r, r < n → sg w (fun j => L r j * x j) = 0 := fun r hr => (h.dn r hr).orth (k.zero h hf hfp)
/-- solutions that are zero at all other free columns are multiples -/
theorem NullOk.prop (h : UInv n w L s w) (hf : f < w) (hfp : f ∉ takenM s) {x y : Nat → Int} (k : NullOk w s f x) (hy : ∀ j, j < w → j ≠ f → j ∉ takenM s → y j = 0) (hE : ∀ r, r ∈ s.us → sg w (fun j => En s.es r j * y j) = 0) : ∀ j, j < w → x f * y j = y f * x j := by
  intro j hj
  by_cases e : j ∈ takenM s
  · obtain ⟨ac, hac, rfl⟩ := List.mem_map.mp e
    have q := hE ac.1 (List.mem_map_of_mem hac)
    rw [used_row h hf hfp hy hac] at q
    have q2 := k.inn ac hac
    have p := (h.pos ac hac).2.2
    refine cancel (g := En s.es ac.1 ac.2) (by omega) ?_
    grind
  · by_cases e2 : j = f
    · rw [e2]; exact Int.mul_comm _ _
    · rw [hy j hj e2 e, k.out j hj e2 e]; grind
/-! the free columns -/
theorem mem_frees {s : El} {w f : Nat} : f ∈ freesM s w ↔ f < w ∧ f ∉ takenM s := by
  unfold freesM
  rw [List.mem_filter, List.mem_range, Bool.not_eq_true']
  refine and_congr_right fun _ => ?_
  rw [← Bool.not_eq_true, List.contains_iff_mem]
theorem nd_le : ∀ (l m : List Nat), l.Nodup → (∀ x ∈ l, x ∈ m) → l.length ≤ m.length
  | [], m, _, _ => Nat.zero_le _
  | a :: l, m, nd, h => by
    have nd := List.nodup_cons.mp nd
    have h1 := nd_le l (m.erase a) nd.2 fun x hx => (List.mem_erase_of_ne (fun z => nd.1 (by rw [← z]; exact hx))).mpr (h x (List.mem_cons_of_mem _ hx))
    have h2 := h a List.mem_cons_self
    have h3 := List.length_erase_of_mem h2
    have h4 := List.length_pos_of_mem h2
    rw [List.length_cons]
    omega
theorem filter_len (p : Nat → Bool) : ∀ l : List Nat, (l.filter p).length + (l.filter fun x => !(p x)).length = l.length
  | [] => rfl
  | x :: l => by
    have := filter_len p l
    rw [List.filter_cons, List.filter_cons]
    cases p x <;> simp <;> omega
theorem frees_len (h : UInv n w L s w) : (freesM s w).length + s.pv.length = w := by
  have e1 := filter_len (fun f => !((takenM s).contains f)) (List.range w)
  rw [List.length_range] at e1
  have e2 : ((List.range w).filter fun x => !(!((takenM s).contains x))).length = s.pv.length := by
    have hl : (takenM s).length = s.pv.length := List.length_map _
    rw [← hl]
    refine Nat.le_antisymm ?_ ?_
    · refine nd_le _ _ (List.Pairwise.filter _ List.nodup_range) fun x hx => ?_
      have := (List.mem_filter.mp hx).2
      rw [Bool.not_not, List.contains_iff_mem] at this
      exact this
    · refine nd_le _ _ (taken_nd h) fun x hx => ?_
      refine List.mem_filter.mpr ⟨List.mem_range.mpr ?_, by rw [Bool.not_not, List.contains_iff_mem]; exact hx⟩
      obtain ⟨ac, hac, rfl⟩ := List.mem_map.mp hx
      exact (h.pos ac hac).2.1
  have e3 : freesM s w = (List.range w).filter fun f => !((takenM s).contains f) := rfl
  rw [← e3] at e1
  omega
theorem frees_nd (s : El) (w : Nat) : (freesM s w).Nodup := List.Pairwise.filter _ List.nodup_range
theorem frees_at {i : Nat} (hi : i < (freesM s w).length) : (freesM s w).getD i 0 < w ∧ (freesM s w).getD i 0 ∉ takenM s := mem_frees.mp (getD_mem 0 hi)
theorem nd_inj {l : List Nat} (nd : l.Nodup) {i j : Nat} (hi : i < l.length) (hj : j < l.length) (e : l.getD i 0 = l.getD j 0) : i = j := by
  have g : ∀ k (hk : k < l.length), l.getD k 0 = l[k] := fun k hk => by rw [List.getD_eq_getElem?_getD, List.getElem?_eq_getElem hk]; rfl
  have p := List.pairwise_iff_getElem.mp nd
  rw [g i hi, g j hj] at e
  rcases Nat.lt_trichotomy i j with h | h | h
  · exact absurd e (p i j hi hj h)
  · exact h
  · exact absurd e.symm (p j i hj hi h)
/-- the null vectors one by one -/
def nullF (s : El) (w : Nat) : Nat → Nat → Int := fun i j => (nullV s w ((freesM s w).getD i 0)).getD j 0
theorem nullF_ok (h : UInv n w L s w) {i : Nat} (hi : i < (freesM s w).length) : NullOk w s ((freesM s w).getD i 0) (nullF s w i) := (null_ok h (frees_at hi).1 (frees_at hi).2).1
theorem nullF_at (h : UInv n w L s w) {i k : Nat} (hi : i < (freesM s w).length) (hk : k < (freesM s w).length) : nullF s w i ((freesM s w).getD k 0) ≠ 0 ↔ i = k := by
  constructor
  · intro hne
    refine Classical.byContradiction fun e => hne ((nullF_ok h hi).out _ (frees_at hk).1 (fun z => e (nd_inj (frees_nd s w) hk hi z).symm) (frees_at hk).2)
  · rintro rfl
    have := (nullF_ok h hi).pos
    omega
theorem null_ind (h : UInv n w L s w) : Ind (freesM s w).length w (nullF s w) := fun z hz k hk => by
  have q := hz _ (frees_at hk).1
  rw [sg_single hk fun i hi hne => by
    have : nullF s w i ((freesM s w).getD k 0) = 0 := Classical.byContradiction fun y => hne ((nullF_at h hi hk).mp y)
    rw [this, Int.mul_zero]] at q
  rcases Int.mul_eq_zero.mp q with q | q
  · exact q
  · exact absurd q ((nullF_at h hk hk).mpr rfl)
/-- products -/
def prN : Nat → (Nat → Int) → Int
  | 0, _ => 1
  | n + 1, f => prN n f * f n
theorem prN_ne {f : Nat → Int} : ∀ n : Nat, (∀ i, i < n → f i ≠ 0) → prN n f ≠ 0
  | 0, _ => by show (1 : Int) ≠ 0; decide
  | n + 1, h => Int.mul_ne_zero (prN_ne n fun i hi => h i (by omega)) (h n (by omega))
theorem prN_dvd {f : Nat → Int} : ∀ (n i : Nat), i < n → f i ∣ prN n f
  | n + 1, i, h => by
    by_cases e : i = n
    · rw [e]; exact Int.dvd_mul_left _ _
    · exact Int.dvd_trans (prN_dvd n i (by omega)) (Int.dvd_mul_right _ _)
/-- every solution is a sum of the null vectors -/
theorem null_span (h : UInv n w L s w) {y : Nat → Int} (hy : ∀ r, r < n → sg w (fun j => En s.es r j * y j) = 0) : Spn (freesM s w).length w (nullF s w) y := by
  let m := (freesM s w).length
  let F : Nat → Nat := fun i => (freesM s w).getD i 0
  let own : Nat → Int := fun i => nullF s w i (F i)
  have own0 : ∀ i, i < m → own i ≠ 0 := fun i hi => (nullF_at h hi hi).mpr rfl
  let D : Int := prN m own
  have D0 : D ≠ 0 := prN_ne m own0
  let z : Nat → Int := fun i => D / own i * y (F i)
  have zi : ∀ i, i < m → own i * (D / own i) = D := fun i hi => Int.mul_ediv_cancel' (prN_dvd m i hi)
  let x : Nat → Int := fun j => D * y j - sg m (fun i => z i * nullF s w i j)
  have xf : ∀ k, k < m → x (F k) = 0 := fun k hk => by
    show D * y (F k) - sg m (fun i => z i * nullF s w i (F k)) = 0
    rw [sg_single hk fun i hi hne => by
      have : nullF s w i (F k) = 0 := Classical.byContradiction fun q => hne ((nullF_at h hi hk).mp q)
      rw [this, Int.mul_zero]]
    show D * y (F k) - D / own k * y (F k) * own k = 0
    have := zi k hk
    grind
  have xE : ∀ r, r < n → sg w (fun j => En s.es r j * x j) = 0 := fun r hr => by
    rw [sg_congr w (g := fun j => D * (En s.es r j * y j) + (-1) * sg m (fun i => z i * (En s.es r j * nullF s w i j))) fun j _ => by
      show En s.es r j * (D * y j - sg m (fun i => z i * nullF s w i j)) = _
      rw [Int.mul_sub, ← sg_mulL, sg_congr m (f := fun i => En s.es r j * (z i * nullF s w i j)) (g := fun i => z i * (En s.es r j * nullF s w i j)) fun i _ => by grind]
      grind, sg_add, sg_mulL, sg_mulL, hy r hr, sg_swap, sg_congr m (g := fun _ => 0) fun i hi => by
        rw [sg_mulL, (nullF_ok h hi).zero h (frees_at hi).1 (frees_at hi).2 r hr, Int.mul_zero], sg_zero]
    omega
  have x0 : ∀ j, j < w → x j = 0 := fun j hj => by
    by_cases e : j ∈ takenM s
    · obtain ⟨ac, hac, rfl⟩ := List.mem_map.mp e
      have q := xE ac.1 (h.pos ac hac).1
      rw [sg_single (h.pos ac hac).2.1 fun j hj hne => by
        by_cases e : j ∈ takenM s
        · obtain ⟨bc, hbc, rfl⟩ := List.mem_map.mp e
          rw [h.col bc hbc ac.1 (h.pos ac hac).1 (fun z => hne (by rw [fst_inj h.nd hac hbc z])), Int.zero_mul]
        · obtain ⟨k, hk, rfl⟩ := mem_getD 0 (mem_frees.mpr ⟨hj, e⟩)
          rw [show x ((freesM s w).getD k 0) = 0 from xf k hk, Int.mul_zero]] at q
      have p := (h.pos ac hac).2.2
      rcases Int.mul_eq_zero.mp q with q | q
      · omega
      · exact q
    · obtain ⟨k, hk, rfl⟩ := mem_getD 0 (mem_frees.mpr ⟨hj, e⟩)
      exact xf k hk
  refine ⟨D, z, D0, fun j hj => ?_⟩
  have := x0 j hj
  have this : D * y j - sg m (fun i => z i * nullF s w i j) = 0 := this
  show D * y j = sg m (fun i => z i * nullF s w i j)
  omega
/-- the rank is the number of the pivots -/
theorem rank_pv (h : UInv n w L s w) : Rk n w L s.pv.length := by
  have hl : s.us.length = s.pv.length := List.length_map _
  have at_ : ∀ i, i < s.pv.length → ∃ ac, ac ∈ s.pv ∧ s.us.getD i 0 = ac.1 ∧ s.pv[i]? = some ac := fun i hi => ⟨s.pv[i], List.getElem_mem hi, by
    unfold El.us
    exact getD_get (by rw [List.getElem?_map, List.getElem?_eq_getElem hi]; rfl), List.getElem?_eq_getElem hi⟩
  refine ⟨fun i => En s.es (s.us.getD i 0), fun z hz k hk => ?_, fun i hi => ?_, fun k hk => (h.dn k hk).trans fun r hr => ?_⟩
  · obtain ⟨ac, hac, e, _⟩ := at_ k hk
    have q := hz ac.2 (h.pos ac hac).2.1
    rw [sg_single hk fun i hi hne => by
      obtain ⟨bc, hbc, e2, _⟩ := at_ i hi
      show z i * En s.es (s.us.getD i 0) ac.2 = 0
      rw [h.col ac hac _ (by rw [e2]; exact (h.pos bc hbc).1) (fun z => hne (nd_inj h.nd (by omega) (by omega) (by rw [z, e]))), Int.mul_zero]] at q
    have q : z k * En s.es (s.us.getD k 0) ac.2 = 0 := q
    rw [e] at q
    have p := (h.pos ac hac).2.2
    rcases Int.mul_eq_zero.mp q with q | q
    · exact q
    · omega
  · obtain ⟨ac, hac, e, _⟩ := at_ i hi
    show Spn n w L (En s.es (s.us.getD i 0))
    rw [e]
    exact h.up _ (h.pos ac hac).1
  · by_cases hu : r ∈ s.us
    · obtain ⟨i, hi, e⟩ := mem_getD 0 hu
      rw [← e]
      exact Spn.row (A := fun i => En s.es (s.us.getD i 0)) (by omega)
    · exact Spn.zero.congr fun j hj => (h.free r hr hu j hj).symm
end
end M

set_option Elab.async false
set_option linter.all false
set_option maxRecDepth 100000
set_option maxHeartbeats 4000000
/-! LA4: sizes of null vectors, and of the null vectors of these -/
namespace M
theorem sg_supp (w : Nat) : ∀ (S : List Nat) (f : Nat → Int), S.Nodup → (∀ k ∈ S, k < w) → (∀ k, k < w → k ∉ S → f k = 0) → sg w f = sg S.length (fun i => f (S.getD i 0))
  | [], f, _, _, h => by
    rw [sg_congr w (g := fun _ => 0) fun k hk => h k hk (by simp), sg_zero]
    rfl
  | a :: S, f, nd, hS, h => by
    have nd := List.nodup_cons.mp nd
    have ih := sg_supp w S (fun k => if k = a then 0 else f k) nd.2 (fun k hk => hS k (List.mem_cons_of_mem _ hk)) fun k hk hn => by
      show (if k = a then 0 else f k) = 0
      split
      · rfl
      · rename_i q
        exact h k hk fun z => (List.mem_cons.mp z).elim q hn
    have e : sg w f = sg w (fun k => if k = a then f a else 0) + sg w (fun k => if k = a then 0 else f k) := by
      rw [← sg_add]
      refine sg_congr w fun j _ => ?_
      by_cases q : j = a
      · rw [if_pos q, if_pos q, q]; omega
      · rw [if_neg q, if_neg q]; omega
    rw [e, ih, sg_single (hS a List.mem_cons_self) fun j _ q => if_neg q, if_pos rfl, List.length_cons, sg_head]
    show f a + _ = f a + _
    congr 1
    refine sg_congr _ fun i hi => ?_
    show (if S.getD i 0 = a then 0 else f (S.getD i 0)) = f (S.getD i 0)
    rw [if_neg fun z => nd.1 (by rw [← z]; exact getD_mem 0 hi)]
/-- small solutions with a support -/
theorem siegelS (S : List Nat) (w B : Nat) (eqs : List (Nat → Int)) (nd : S.Nodup) (hS : ∀ k ∈ S, k < w) (hB : 1 ≤ B) (h : eqs.length < S.length) (hb : ∀ e ∈ eqs, ∀ k, k < w → Bd B (e k)) :
    ∃ x : Nat → Int, (∃ k, k ∈ S ∧ x k ≠ 0) ∧ (∀ k, k ∉ S → x k = 0) ∧ (∀ k, Bd ((2 * S.length * B) ^ eqs.length) (x k)) ∧ ∀ e ∈ eqs, sg w (fun k => x k * e k) = 0 := by
  obtain ⟨y, ⟨i0, hi0, hy0⟩, yb, yq⟩ := siegel S.length B (eqs.map fun e i => e (S.getD i 0)) hB (by rw [List.length_map]; exact h) fun e he k hk => by
    obtain ⟨e', he', rfl⟩ := List.mem_map.mp he
    exact hb e' he' _ (hS _ (getD_mem 0 hk))
  rw [List.length_map] at yb
  have ix : ∀ i, i < S.length → S.idxOf (S.getD i 0) = i := fun i hi => by
    have h1 : S.idxOf (S.getD i 0) < S.length := List.idxOf_lt_length_of_mem (getD_mem 0 hi)
    refine nd_inj nd h1 hi ?_
    have := List.getElem_idxOf h1
    rw [List.getD_eq_getElem?_getD, List.getElem?_eq_getElem h1]
    exact this
  refine ⟨fun k => if k ∈ S then y (S.idxOf k) else 0, ⟨S.getD i0 0, getD_mem 0 hi0, ?_⟩, fun k hk => if_neg hk, fun k => ?_, fun e he => ?_⟩
  · show (if _ then _ else _) ≠ (0 : Int)
    rw [if_pos (getD_mem 0 hi0), ix i0 hi0]
    exact hy0
  · show Bd _ (if _ then _ else _)
    split
    · rename_i hk
      exact yb _ (List.idxOf_lt_length_of_mem hk)
    · exact Bd.zero
  · rw [sg_supp w S _ nd hS fun k _ hk => by show (if k ∈ S then y (S.idxOf k) else 0) * e k = 0; rw [if_neg hk, Int.zero_mul]]
    refine Eq.trans ?_ (yq (fun i => e (S.getD i 0)) (List.mem_map_of_mem he))
    refine sg_congr _ fun i hi => ?_
    show (if S.getD i 0 ∈ S then y (S.idxOf (S.getD i 0)) else 0) * e (S.getD i 0) = y i * e (S.getD i 0)
    rw [if_pos (getD_mem 0 hi), ix i hi]
section
variable {T : List (List Int)} {n w B : Nat}
theorem rep_len (n : Nat) : (List.replicate n (0 : Int)).length = n := List.length_replicate ..
/-- used rows are sums of the used rows of the table -/
theorem used_orth (t : Tab n w T) {x : Nat → Int} (hx : ∀ k ∈ (elimTo T w).us, sg w (fun j => En T k j * x j) = 0) : ∀ r ∈ (elimTo T w).us, sg w (fun j => En (elimTo T w).es r j * x j) = 0 := by
  intro r hr
  have hI := elim_inv t (rep_len n) w (Nat.le_refl _)
  have hS := sim t w (Nat.le_refl _)
  have hU := uinv t w (Nat.le_refl _)
  have hus : (elimTo (entriesM T (List.replicate n 0)) w).us = (elimTo T w).us := by unfold El.us; rw [hS.pv]
  have hrn : r < n := us_lt hI r (by rw [hus]; exact hr)
  obtain ⟨g, f, g0, f0, e⟩ := hS.rel r hrn
  have m : sg w (fun j => En (elimTo (entriesM T (List.replicate n 0)) w).es r j * x j) = 0 := by
    rw [sg_congr w (g := fun j => sg n (fun k => En (elimTo (entriesM T (List.replicate n 0)) w).es r (w + 1 + k) * (En T k j * x j))) fun j hj => by
      rw [hI.lin r hrn j (by omega), ← sg_mulR]
      refine sg_congr n fun k _ => ?_
      show _ * LT T (List.replicate n 0) w k j * x j = _
      unfold LT
      rw [if_pos hj, Int.mul_assoc]
      rfl, sg_swap, sg_congr n (g := fun _ => 0) fun k hk => by
        rw [sg_mulL]
        by_cases q : En (elimTo (entriesM T (List.replicate n 0)) w).es r (w + 1 + k) = 0
        · rw [q, Int.zero_mul]
        · have ku : k ∈ (elimTo T w).us := by
            rcases hI.sup r hrn k hk q with z | z
            · rw [← hus]; exact z
            · rw [z]; exact hr
          rw [hx k ku, Int.mul_zero], sg_zero]
  refine cancel (g := f) (by omega) ?_
  rw [Int.mul_zero, ← sg_mulL, sg_congr w (g := fun j => g * (En (elimTo (entriesM T (List.replicate n 0)) w).es r j * x j)) fun j hj => by rw [← Int.mul_assoc, ← e j hj, Int.mul_assoc], sg_mulL, m, Int.mul_zero]
theorem tab_bd (t : Tab n w T) (hT : ∀ r ∈ T, ∀ x ∈ r, Bd B x) {k : Nat} (hk : k < n) : ∀ j, Bd B (En T k j) := fun j => by
  unfold En
  by_cases hj : j < (T.getD k []).length
  · exact hT _ (getD_mem [] (by rw [t.n]; exact hk)) _ (getD_mem 0 hj)
  · rw [getD_ge (by omega)]; exact Bd.zero
theorem us_lt' (t : Tab n w T) : ∀ a ∈ (elimTo T w).us, a < n := fun a ha => by
  obtain ⟨ac, hac, rfl⟩ := List.mem_map.mp ha
  exact ((uinv t w (Nat.le_refl _)).pos ac hac).1
theorem null_bd (t : Tab n w T) (hB : 1 ≤ B) (hT : ∀ r ∈ T, ∀ x ∈ r, Bd B x) {f : Nat} (hf : f < w) (hfp : f ∉ takenM (elimTo T w)) : ∀ j, Bd ((2 * ((elimTo T w).pv.length + 1) * B) ^ (elimTo T w).pv.length) ((nullV (elimTo T w) w f).getD j 0) := by
  have hU := uinv t w (Nat.le_refl _)
  have hus := us_lt' t
  have orth := fun {x : Nat → Int} hx => used_orth (x := x) t hx
  generalize elimTo T w = s at hU hus orth hfp ⊢
  have tl : (takenM s).length = s.pv.length := List.length_map _
  have ul : s.us.length = s.pv.length := List.length_map _
  obtain ⟨x, ⟨k0, hk0, hx0⟩, xs, xb, xq⟩ := siegelS (takenM s ++ [f]) w B (s.us.map fun k j => En T k j) (List.nodup_append.mpr ⟨taken_nd hU, by simp, fun a ha b hb e => by
      rw [List.mem_singleton.mp hb] at e
      exact hfp (by rw [← e]; exact ha)⟩) (fun k hk => by
      rcases List.mem_append.mp hk with hk | hk
      · obtain ⟨ac, hac, rfl⟩ := List.mem_map.mp hk
        exact (hU.pos ac hac).2.1
      · rw [List.mem_singleton.mp hk]; exact hf) hB (by rw [List.length_map, List.length_append, tl, ul]; exact Nat.lt_succ_self _) fun e he k hk => by
      obtain ⟨k', hk', rfl⟩ := List.mem_map.mp he
      exact tab_bd t hT (hus k' hk') k
  rw [List.length_map, List.length_append, tl, ul] at xb
  obtain ⟨no, nl, np⟩ := null_ok hU hf hfp
  have xE := orth (x := x) fun k hk => by
    rw [← xq (fun j => En T k j) (List.mem_map.mpr ⟨k, hk, rfl⟩)]
    exact sg_congr w fun j _ => Int.mul_comm _ _
  have pr := no.prop hU hf hfp (fun j hj hjf hjt => xs j fun z => by
    rcases List.mem_append.mp z with z | z
    · exact hjt z
    · exact hjf (List.mem_singleton.mp z)) xE
  have k0w : k0 < w := by
    rcases List.mem_append.mp hk0 with hk | hk
    · obtain ⟨ac, hac, rfl⟩ := List.mem_map.mp hk
      exact (hU.pos ac hac).2.1
    · rw [List.mem_singleton.mp hk]; exact hf
  have xf : x f ≠ 0 := fun z => by
    have q := pr k0 k0w
    rw [z, Int.zero_mul] at q
    rcases Int.mul_eq_zero.mp q with q | q
    · have := no.pos
      omega
    · exact hx0 q
  intro j
  by_cases hj : j < w
  · exact Nat.le_trans (prim_le (row := nullV s w f) (v := x) (W := w) (by omega) (by omega) xf (by have := no.pos; omega) pr j hj) (xb j)
  · rw [getD_ge (by omega)]
    exact Bd.zero
end
/-- the null vectors as a table -/
theorem basis_row {T : List (List Int)} {w i : Nat} (hi : i < (freesM (elimTo T w) w).length) : (basisM T w).getD i [] = nullV (elimTo T w) w ((freesM (elimTo T w) w).getD i 0) := by
  unfold basisM
  exact getD_get (by rw [List.getElem?_map, get_getD 0 hi]; rfl)
theorem basis_len (T : List (List Int)) (w : Nat) : (basisM T w).length = (freesM (elimTo T w) w).length := List.length_map _
theorem basis_tab {T : List (List Int)} {n w : Nat} (t : Tab n w T) : Tab (freesM (elimTo T w) w).length w (basisM T w) := ⟨basis_len T w, fun r hr => by
  obtain ⟨f, hf, rfl⟩ := List.mem_map.mp hr
  have := mem_frees.mp hf
  exact (null_ok (uinv t w (Nat.le_refl _)) this.1 this.2).2.1⟩
theorem basis_en {T : List (List Int)} {w i : Nat} (hi : i < (freesM (elimTo T w) w).length) (j : Nat) : En (basisM T w) i j = nullF (elimTo T w) w i j := by
  unfold En nullF
  rw [basis_row hi]
section
variable {T : List (List Int)} {n w B : Nat}
theorem basis_zero (t : Tab n w T) {i : Nat} (hi : i < (freesM (elimTo T w) w).length) : ∀ k, k < n → sg w (fun j => En T k j * En (basisM T w) i j) = 0 := fun k hk => by
  have hU := uinv t w (Nat.le_refl _)
  rw [sg_congr w (g := fun j => En T k j * nullF (elimTo T w) w i j) fun j _ => by rw [basis_en hi]]
  exact (nullF_ok hU hi).sol hU (frees_at hi).1 (frees_at hi).2 k hk
theorem basis_ind (t : Tab n w T) : Ind (freesM (elimTo T w) w).length w (En (basisM T w)) := fun z hz => null_ind (uinv t w (Nat.le_refl _)) z fun j hj => by
  rw [← hz j hj]
  exact sg_congr _ fun i hi => by rw [basis_en hi]
theorem basis_bd (t : Tab n w T) (hB : 1 ≤ B) (hT : ∀ r ∈ T, ∀ x ∈ r, Bd B x) : ∀ r ∈ basisM T w, ∀ x ∈ r, Bd ((2 * ((elimTo T w).pv.length + 1) * B) ^ (elimTo T w).pv.length) x := fun r hr x hx => by
  obtain ⟨f, hf, rfl⟩ := List.mem_map.mp hr
  obtain ⟨j, hj, rfl⟩ := mem_getD 0 hx
  have := mem_frees.mp hf
  exact null_bd t hB hT this.1 this.2 j
/-- all of the basis' rows are pivots -/
theorem basis_full (t : Tab n w T) : (elimTo (basisM T w) w).pv.length = (freesM (elimTo T w) w).length := (rank_pv (uinv (basis_tab t) w (Nat.le_refl _))).uniq (Rk.ind (basis_ind t))
theorem basis2_len (t : Tab n w T) : (freesM (elimTo (basisM T w) w) w).length = (elimTo T w).pv.length := by
  have h1 := frees_len (uinv (basis_tab t) w (Nat.le_refl _))
  have h2 := frees_len (uinv t w (Nat.le_refl _))
  have h3 := basis_full t
  omega
theorem null2_bd (t : Tab n w T) (hB : 1 ≤ B) (hT : ∀ r ∈ T, ∀ x ∈ r, Bd B x) : ∀ r ∈ basisM (basisM T w) w, ∀ x ∈ r, Bd (n * ((2 * (elimTo T w).pv.length * B) ^ ((elimTo T w).pv.length - 1) * B)) x := fun r hr x hx => by
  obtain ⟨f, hf, rfl⟩ := List.mem_map.mp hr
  obtain ⟨j, hj, rfl⟩ := mem_getD 0 hx
  obtain ⟨fw, fp⟩ := mem_frees.mp hf
  have hI := elim_inv t (rep_len n) w (Nat.le_refl _)
  have hS := sim t w (Nat.le_refl _)
  have hU := uinv t w (Nat.le_refl _)
  have hU2 := uinv (basis_tab t) w (Nat.le_refl _)
  have l2 := basis2_len t
  have bz := fun {i} hi => basis_zero t (i := i) hi
  have husN := us_lt' t
  have hus : (elimTo (entriesM T (List.replicate n 0)) w).us = (elimTo T w).us := by unfold El.us; rw [hS.pv]
  have ul : (elimTo T w).us.length = (elimTo T w).pv.length := List.length_map _
  have p1 : 1 ≤ (elimTo T w).pv.length := by rw [← l2]; exact List.length_pos_of_mem hf
  have el : ((freesM (elimTo (basisM T w) w) w).erase f).length = (elimTo T w).pv.length - 1 := by rw [List.length_erase_of_mem hf, l2]
  obtain ⟨y, ⟨k0, hk0, hy0⟩, ys, yb, yq⟩ := siegelS (elimTo T w).us n B (((freesM (elimTo (basisM T w) w) w).erase f).map fun c k => En T k c) hU.nd husN hB (by rw [List.length_map, el, ul]; omega) fun e he k hk => by
    obtain ⟨c, hc, rfl⟩ := List.mem_map.mp he
    exact tab_bd t hT hk c
  rw [List.length_map, el, ul] at yb
  let u : Nat → Int := fun j => sg n (fun k => y k * En T k j)
  have uz : ∀ c, c < w → c ≠ f → c ∉ takenM (elimTo (basisM T w) w) → u c = 0 := fun c hc hcf hct => yq (fun k => En T k c) (List.mem_map.mpr ⟨c, (List.mem_erase_of_ne hcf).mpr (mem_frees.mpr ⟨hc, hct⟩), rfl⟩)
  have uN : ∀ i, i < (freesM (elimTo T w) w).length → sg w (fun j => En (basisM T w) i j * u j) = 0 := fun i hi => by
    rw [sg_congr w (g := fun j => sg n (fun k => y k * (En T k j * En (basisM T w) i j))) fun j _ => by
      show En (basisM T w) i j * sg n (fun k => y k * En T k j) = _
      rw [← sg_mulL]
      exact sg_congr n fun k _ => by grind, sg_swap, sg_congr n (g := fun _ => 0) fun k hk => by rw [sg_mulL, bz hi k hk, Int.mul_zero], sg_zero]
  have une : ¬ ∀ j, j < w → u j = 0 := fun q => hy0 (hI.inj y (fun k _ hk => by rw [hus]; exact Classical.byContradiction fun z => hk (ys k z)) (fun ac hac => by
    have hc := (hI.pos ac hac).2.1
    rw [← q ac.2 hc]
    refine sg_congr n fun k _ => ?_
    unfold LT
    rw [if_pos hc]
    rfl) k0 (husN k0 hk0))
  have uE : ∀ r, r ∈ (elimTo (basisM T w) w).us → sg w (fun j => En (elimTo (basisM T w) w).es r j * u j) = 0 := fun r hr => (hU2.up r (us_lt' (basis_tab t) r hr)).orth uN
  obtain ⟨no, nl, np⟩ := null_ok hU2 fw fp
  have pr := no.prop hU2 fw fp uz uE
  have uf : u f ≠ 0 := fun z => une fun j hj => by
    have q := pr j hj
    rw [z, Int.zero_mul] at q
    rcases Int.mul_eq_zero.mp q with q | q
    · have := no.pos
      omega
    · exact q
  have jw : j < w := by omega
  refine Nat.le_trans (prim_le (row := nullV (elimTo (basisM T w) w) w f) (v := u) (W := w) (by omega) (by omega) uf (by have := no.pos; omega) pr j jw) ?_
  exact sg_bd n fun k hk => (yb k).mul (tab_bd t hT hk j)
end
end M

set_option Elab.async false
set_option linter.all false
set_option maxRecDepth 100000
set_option maxHeartbeats 4000000
/-! LA5: the law's own elimination -/
namespace M
structure Rs where
  es : List (List Int)
  q : Nat
def placesM (es : List (List Int)) (q c : Nat) : List Nat := (List.range es.length).filter fun k => decide (q ≤ k) && !decide ((es.getD k []).getD c 0 = 0)
def swapM (es : List (List Int)) (q a : Nat) : List (List Int) := (es.set a (es.getD q [])).set q (es.getD a [])
def downM (ch : List Int) (c : Nat) (es : List (List Int)) (k : Nat) : List (List Int) := es.set k (lowM (rawM (es.getD k []) ch (ch.getD c 0) ((es.getD k []).getD c 0)))
def stepR (s : Rs) (c : Nat) : Rs := match placesM s.es s.q c with
  | [] => s
  | a :: ps => ⟨ps.foldl (downM (s.es.getD a []) c) (swapM s.es s.q a), s.q + 1⟩
def rankTo (es : List (List Int)) (c : Nat) : Rs := (List.range c).foldl stepR ⟨es.map lowM, 0⟩
theorem rankTo_succ (es : List (List Int)) (c : Nat) : rankTo es (c + 1) = stepR (rankTo es c) c := by
  unfold rankTo
  rw [List.range_succ, List.foldl_append]
  rfl
theorem mem_places {es : List (List Int)} {q c k : Nat} : k ∈ placesM es q c ↔ k < es.length ∧ q ≤ k ∧ En es k c ≠ 0 := by
  unfold placesM
  rw [List.mem_filter, List.mem_range, Bool.and_eq_true, decide_eq_true_iff, Bool.not_eq_true', decide_eq_false_iff_not]
  rfl
theorem set_getL (l : List (List Int)) (p i : Nat) (v : List Int) (hp : p < l.length) : (l.set p v).getD i [] = if i = p then v else l.getD i [] := by
  by_cases e : i = p
  · rw [if_pos e, e]
    exact getD_get (List.getElem?_set_self hp)
  · rw [if_neg e, List.getD_eq_getElem?_getD, List.getElem?_set_ne (Ne.symm e), ← List.getD_eq_getElem?_getD]
theorem down_len (ch : List Int) (c : Nat) : ∀ (ps : List Nat) (es : List (List Int)), (ps.foldl (downM ch c) es).length = es.length
  | [], _ => rfl
  | p :: ps, es => by
    rw [List.foldl_cons, down_len ch c ps]
    exact List.length_set ..
theorem down_at (ch : List Int) (c : Nat) : ∀ (ps : List Nat) (es : List (List Int)), ps.Nodup → (∀ k ∈ ps, k < es.length) → ∀ k, (ps.foldl (downM ch c) es).getD k [] = if k ∈ ps then lowM (rawM (es.getD k []) ch (ch.getD c 0) ((es.getD k []).getD c 0)) else es.getD k []
  | [], es, _, _, k => by rw [if_neg (by simp)]; rfl
  | p :: ps, es, nd, h, k => by
    have nd := List.nodup_cons.mp nd
    have hp := h p List.mem_cons_self
    rw [List.foldl_cons, down_at ch c ps (downM ch c es p) nd.2 (fun x hx => by show x < (es.set p _).length; rw [List.length_set]; exact h x (List.mem_cons_of_mem _ hx)) k]
    have e : (downM ch c es p).getD k [] = if k = p then lowM (rawM (es.getD p []) ch (ch.getD c 0) ((es.getD p []).getD c 0)) else es.getD k [] := set_getL es p k _ hp
    by_cases h1 : k ∈ ps
    · have kp : k ≠ p := fun z => nd.1 (by rw [← z]; exact h1)
      rw [if_pos h1, e, if_neg kp, if_pos (List.mem_cons_of_mem _ h1)]
    · rw [if_neg h1, e]
      by_cases kp : k = p
      · rw [if_pos kp, if_pos (by rw [kp]; exact List.mem_cons_self), kp]
      · rw [if_neg kp, if_neg fun z => (List.mem_cons.mp z).elim kp h1]
section
variable {n w c : Nat} {s : Rs}
/-- the rows behind a step with a pivot -/
theorem stepR_at (t : Tab n w s.es) (hc : c < w) {a : Nat} {ps : List Nat} (hp : placesM s.es s.q c = a :: ps) :
    (s.q ≤ a ∧ a < n ∧ En s.es a c ≠ 0) ∧ (stepR s c).q = s.q + 1 ∧ Tab n w (stepR s c).es ∧ (stepR s c).es.getD s.q [] = s.es.getD a [] ∧ (∀ i, i < s.q → (stepR s c).es.getD i [] = s.es.getD i []) ∧
      ∀ k, s.q < k → k < n → (En s.es (if k = a then s.q else k) c = 0 ∧ (stepR s c).es.getD k [] = s.es.getD (if k = a then s.q else k) []) ∨
        (En s.es (if k = a then s.q else k) c ≠ 0 ∧ gcdL ((stepR s c).es.getD k []) ≤ 1 ∧ ∃ g : Int, 0 < g ∧ ∀ j, j < w → g * En (stepR s c).es k j = En s.es a c * En s.es (if k = a then s.q else k) j - En s.es (if k = a then s.q else k) c * En s.es a j) := by
  have hst : stepR s c = ⟨ps.foldl (downM (s.es.getD a []) c) (swapM s.es s.q a), s.q + 1⟩ := by unfold stepR; rw [hp]
  have ha := mem_places.mp (show a ∈ placesM s.es s.q c by rw [hp]; exact List.mem_cons_self)
  rw [t.n] at ha
  obtain ⟨an, qa, ane⟩ := ha
  have sorted : (a :: ps).Pairwise (· < ·) := by rw [← hp]; exact List.Pairwise.filter _ List.pairwise_lt_range
  have gt : ∀ k ∈ ps, a < k := (List.pairwise_cons.mp sorted).1
  have psnd : ps.Nodup := (List.pairwise_cons.mp sorted).2.imp fun h => Nat.ne_of_lt h
  have sl : (swapM s.es s.q a).length = n := by unfold swapM; rw [List.length_set, List.length_set, t.n]
  have psn : ∀ k ∈ ps, k < (swapM s.es s.q a).length := fun k hk => by
    have := mem_places.mp (show k ∈ placesM s.es s.q c by rw [hp]; exact List.mem_cons_of_mem _ hk)
    rw [sl, ← t.n]; exact this.1
  have sw : ∀ k, (swapM s.es s.q a).getD k [] = if k = s.q then s.es.getD a [] else if k = a then s.es.getD s.q [] else s.es.getD k [] := fun k => by
    unfold swapM
    rw [set_getL _ _ _ _ (by rw [List.length_set, t.n]; omega), set_getL _ _ _ _ (by rw [t.n]; omega)]
  have at_ := down_at (s.es.getD a []) c ps (swapM s.es s.q a) psnd psn
  have tl : ∀ k, k < n → (s.es.getD k []).length = w := fun k hk => t.row hk
  have swl : ∀ k, k < n → ((swapM s.es s.q a).getD k []).length = w := fun k hk => by
    rw [sw]
    split
    · exact tl a an
    · split
      · exact tl s.q (by omega)
      · exact tl k hk
  refine ⟨⟨qa, an, ane⟩, by rw [hst], by
    rw [hst]
    refine ⟨by show (ps.foldl (downM (s.es.getD a []) c) (swapM s.es s.q a)).length = n; rw [down_len, sl], fun r hr => ?_⟩
    obtain ⟨k, hk, rfl⟩ := mem_getD [] hr
    have hk : k < n := by
      have hk : k < (ps.foldl (downM (s.es.getD a []) c) (swapM s.es s.q a)).length := hk
      rw [down_len, sl] at hk; exact hk
    show ((ps.foldl (downM (s.es.getD a []) c) (swapM s.es s.q a)).getD k []).length = w
    rw [at_]
    split
    · rw [lowM_len]
      unfold rawM
      rw [List.length_map, List.length_range]
      exact swl k hk
    · exact swl k hk, by
    rw [hst]
    show (ps.foldl (downM (s.es.getD a []) c) (swapM s.es s.q a)).getD s.q [] = _
    rw [at_, if_neg fun z => by have := gt _ z; omega, sw, if_pos rfl], fun i hi => by
    rw [hst]
    show (ps.foldl (downM (s.es.getD a []) c) (swapM s.es s.q a)).getD i [] = _
    rw [at_, if_neg fun z => by have := gt _ z; omega, sw, if_neg (by omega), if_neg (by omega)], fun k hk hkn => ?_⟩
  have swk : (swapM s.es s.q a).getD k [] = s.es.getD (if k = a then s.q else k) [] := by
    rw [sw, if_neg (by omega)]
    split <;> rfl
  have ek : (stepR s c).es.getD k [] = if k ∈ ps then lowM (rawM (s.es.getD (if k = a then s.q else k) []) (s.es.getD a []) (En s.es a c) (En s.es (if k = a then s.q else k) c)) else s.es.getD (if k = a then s.q else k) [] := by
    rw [hst]
    show (ps.foldl (downM (s.es.getD a []) c) (swapM s.es s.q a)).getD k [] = _
    rw [at_, swk]
    rfl
  by_cases hm : k ∈ ps
  · right
    have ka : k ≠ a := fun z => by have := gt _ hm; omega
    have kne := (mem_places.mp (show k ∈ placesM s.es s.q c by rw [hp]; exact List.mem_cons_of_mem _ hm)).2.2
    rw [if_pos hm] at ek
    rw [if_neg ka] at ek ⊢
    obtain ⟨g, g0, hg⟩ := low_rel (rawM (s.es.getD k []) (s.es.getD a []) (En s.es a c) (En s.es k c))
    refine ⟨kne, by rw [ek]; exact low_prim2 _, g, g0, fun j hj => ?_⟩
    have e1 : En (stepR s c).es k j = _ := congrArg (fun l : List Int => l.getD j 0) ek
    rw [e1, hg, rawM_getD _ _ _ _ (by rw [tl k hkn]; exact hj)]
    show En s.es k j * En s.es a c - En s.es a j * En s.es k c = _
    grind
  · left
    rw [if_neg hm] at ek
    refine ⟨Classical.byContradiction fun z => ?_, ek⟩
    by_cases ka : k = a
    · rw [if_pos ka] at z
      have : s.q ∈ placesM s.es s.q c := mem_places.mpr ⟨by rw [t.n]; omega, Nat.le_refl _, z⟩
      rw [hp] at this
      rcases List.mem_cons.mp this with h | h
      · omega
      · have := gt _ h; omega
    · rw [if_neg ka] at z
      have : k ∈ placesM s.es s.q c := mem_places.mpr ⟨by rw [t.n]; exact hkn, by omega, z⟩
      rw [hp] at this
      exact (List.mem_cons.mp this).elim ka hm
end
/-- what holds after c columns -/
structure LInv (n w B : Nat) (L : Nat → Nat → Int) (s : Rs) (o cs : Nat → Nat) (c : Nat) : Prop where
  tab : Tab n w s.es
  q : s.q ≤ n
  on : ∀ r, r < n → o r < n
  oi : ∀ r r', r < n → r' < n → o r = o r' → r = r'
  up : ∀ r, r < n → Spn n w L (En s.es r)
  dn : ∀ k, k < n → Spn n w (En s.es) (L k)
  prim : ∀ r, r < n → gcdL (s.es.getD r []) ≤ 1
  cl : ∀ i, i < s.q → cs i < c
  piv : ∀ i, i < s.q → En s.es i (cs i) ≠ 0
  van : ∀ i, i < s.q → ∀ k, i < k → k < n → En s.es k (cs i) = 0
  free : ∀ k, s.q ≤ k → k < n → ∀ c', c' < c → En s.es k c' = 0
  mks : ∀ r, s.q ≤ r → r < n → ∃ (d : Int) (z : Nat → Int), d ≠ 0 ∧ (∀ k, k < n → z k ≠ 0 → (∃ i, i < s.q ∧ k = o i) ∨ k = o r) ∧ z (o r) ≠ 0 ∧ ∀ j, j < w → d * En s.es r j = sg n (fun k => z k * L k j)
  inj : ∀ z : Nat → Int, (∀ k, k < n → z k ≠ 0 → ∃ i, i < s.q ∧ k = o i) → (∀ i, i < s.q → sg n (fun k => z k * L k (cs i)) = 0) → ∀ k, k < n → z k = 0
  bd : ∀ r, r < n → ∀ j, Bd ((2 * n * B) ^ n) (En s.es r j)
section
variable {n w B c : Nat} {L : Nat → Nat → Int} {s : Rs} {o cs : Nat → Nat}
theorem sg_comb (n : Nat) (a b : Int) (f g : Nat → Int) (L : Nat → Int) : sg n (fun k => (a * f k - b * g k) * L k) = a * sg n (fun k => f k * L k) - b * sg n (fun k => g k * L k) := by
  rw [show ∀ u v : Int, u - v = u + (-1) * v from fun u v => by omega, ← sg_mulL, ← sg_mulL, ← sg_mulL, ← sg_add]
  exact sg_congr n fun k _ => by grind
/-- an unused row is small -/
theorem unused_bd (tab : Tab n w s.es) (hq : s.q ≤ n) (on : ∀ r, r < n → o r < n) (oi : ∀ r r', r < n → r' < n → o r = o r' → r = r')
    (inj : ∀ z : Nat → Int, (∀ k, k < n → z k ≠ 0 → ∃ i, i < s.q ∧ k = o i) → (∀ i, i < s.q → sg n (fun k => z k * L k (cs i)) = 0) → ∀ k, k < n → z k = 0) (cl : ∀ i, i < s.q → cs i < w)
    (hB : 1 ≤ B) (hL : ∀ k, k < n → ∀ j, Bd B (L k j)) {r : Nat} (hr : s.q ≤ r) (hrn : r < n) (prim : gcdL (s.es.getD r []) ≤ 1) (van : ∀ i, i < s.q → En s.es r (cs i) = 0)
    (mk : ∃ (d : Int) (z : Nat → Int), d ≠ 0 ∧ (∀ k, k < n → z k ≠ 0 → (∃ i, i < s.q ∧ k = o i) ∨ k = o r) ∧ z (o r) ≠ 0 ∧ ∀ j, j < w → d * En s.es r j = sg n (fun k => z k * L k j)) : ∀ j, Bd ((2 * n * B) ^ n) (En s.es r j) := by
  obtain ⟨d, z, d0, zs, zr, ze⟩ := mk
  have und : ((List.range s.q).map o).Nodup := by
    unfold List.Nodup
    rw [List.pairwise_map]
    refine List.pairwise_lt_range.imp_of_mem fun {a b} ha hb hab e => ?_
    have := oi a b (by have := List.mem_range.mp ha; omega) (by have := List.mem_range.mp hb; omega) e
    omega
  have mem : ∀ k, k ∈ (List.range s.q).map o ↔ ∃ i, i < s.q ∧ k = o i := fun k => by
    rw [List.mem_map]
    exact ⟨fun ⟨i, hi, e⟩ => ⟨i, List.mem_range.mp hi, e.symm⟩, fun ⟨i, hi, e⟩ => ⟨i, List.mem_range.mpr hi, e.symm⟩⟩
  have rnot : o r ∉ (List.range s.q).map o := fun h => by
    obtain ⟨i, hi, e⟩ := (mem _).mp h
    have := oi r i hrn (by omega) e
    omega
  have sl : ((List.range s.q).map o ++ [o r]).length = s.q + 1 := by rw [List.length_append, List.length_map, List.length_range]; rfl
  obtain ⟨y, ⟨k0, hk0, hy0⟩, ys, yb, yq⟩ := siegelS ((List.range s.q).map o ++ [o r]) n B ((List.range s.q).map fun i k => L k (cs i)) (List.nodup_append.mpr ⟨und, by simp, fun a ha b hb e => by
      rw [List.mem_singleton.mp hb] at e
      exact rnot (by rw [← e]; exact ha)⟩) (fun k hk => by
      rcases List.mem_append.mp hk with hk | hk
      · obtain ⟨i, hi, rfl⟩ := (mem k).mp hk
        exact on i (by omega)
      · rw [List.mem_singleton.mp hk]; exact on r hrn) hB (by rw [List.length_map, List.length_range, sl]; exact Nat.lt_succ_self _) fun e he k hk => by
      obtain ⟨i, hi, rfl⟩ := List.mem_map.mp he
      exact hL k hk _
  rw [List.length_map, List.length_range, sl] at yb
  have k0n : k0 < n := by
    rcases List.mem_append.mp hk0 with hk | hk
    · obtain ⟨i, hi, rfl⟩ := (mem k0).mp hk
      exact on i (by omega)
    · rw [List.mem_singleton.mp hk]; exact on r hrn
  have prop := inj (fun k => z (o r) * y k - y (o r) * z k) (fun k hk hne => by
    refine Classical.byContradiction fun hno => hne ?_
    show z (o r) * y k - y (o r) * z k = 0
    by_cases e : k = o r
    · rw [e, Int.mul_comm]; omega
    · have y0 : y k = 0 := ys k fun h => by
        rcases List.mem_append.mp h with h | h
        · exact hno ((mem k).mp h)
        · exact e (List.mem_singleton.mp h)
      have z0 : z k = 0 := Classical.byContradiction fun q => by
        rcases zs k hk q with h | h
        · exact hno h
        · exact e h
      rw [y0, z0, Int.mul_zero, Int.mul_zero]; rfl) (fun i hi => by
    rw [sg_comb, ← ze (cs i) (cl i hi), van i hi, yq (fun k => L k (cs i)) (List.mem_map.mpr ⟨i, List.mem_range.mpr hi, rfl⟩)]
    grind)
  have prop : ∀ k, k < n → z (o r) * y k = y (o r) * z k := fun k hk => by
    have : z (o r) * y k - y (o r) * z k = 0 := prop k hk
    omega
  have yr : y (o r) ≠ 0 := fun q => by
    have := prop k0 k0n
    rw [q, Int.zero_mul] at this
    rcases Int.mul_eq_zero.mp this with h | h
    · exact zr h
    · exact hy0 h
  have rel : ∀ j, j < w → z (o r) * sg n (fun k => y k * L k j) = y (o r) * d * (s.es.getD r []).getD j 0 := fun j hj => by
    have e := ze j hj
    rw [Int.mul_assoc]
    show _ = y (o r) * (d * En s.es r j)
    rw [e, ← sg_mulL, ← sg_mulL]
    refine sg_congr n fun k hk => ?_
    have := prop k hk
    grind
  intro j
  by_cases hj : j < w
  · refine Nat.le_trans (prim_le prim (W := w) (by rw [tab.row hrn]; exact Nat.le_refl _) (Int.mul_ne_zero yr d0) zr rel j hj) ?_
    refine (sg_bd n fun k hk => (yb k).mul (hL k hk j)).mono ?_
    have h1 : (2 * (s.q + 1) * B) ^ s.q ≤ (2 * n * B) ^ (n - 1) := by
      have hb : 2 * (s.q + 1) * B ≤ 2 * n * B := Nat.mul_le_mul_right _ (by omega)
      exact Nat.le_trans (Nat.pow_le_pow_left hb _) (Nat.pow_le_pow_right (Nat.mul_pos (by omega) hB) (by omega))
    have e : (2 * n * B) ^ n = (2 * n * B) ^ (n - 1) * (2 * n * B) := by
      rw [← Nat.pow_succ]
      congr 1
      omega
    rw [e]
    calc n * ((2 * (s.q + 1) * B) ^ s.q * B) ≤ n * ((2 * n * B) ^ (n - 1) * B) := Nat.mul_le_mul_left _ (Nat.mul_le_mul_right _ h1)
      _ = (2 * n * B) ^ (n - 1) * (n * B) := Nat.mul_left_comm _ _ _
      _ ≤ (2 * n * B) ^ (n - 1) * (2 * n * B) := Nat.mul_le_mul_left _ (by rw [Nat.mul_assoc]; omega)
  · unfold En
    rw [getD_ge (by rw [tab.row hrn]; omega)]
    exact Bd.zero
theorem LInv.skip (h : LInv n w B L s o cs c) (hp : placesM s.es s.q c = []) : LInv n w B L (stepR s c) o cs (c + 1) := by
  have e : stepR s c = s := by unfold stepR; rw [hp]
  rw [e]
  exact ⟨h.tab, h.q, h.on, h.oi, h.up, h.dn, h.prim, fun i hi => Nat.lt_succ_of_lt (h.cl i hi), h.piv, h.van, fun k hk hkn c' hc' => by
    by_cases q : c' = c
    · rw [q]
      refine Classical.byContradiction fun z => ?_
      have : k ∈ placesM s.es s.q c := mem_places.mpr ⟨by rw [h.tab.n]; exact hkn, hk, z⟩
      rw [hp] at this
      cases this
    · exact h.free k hk hkn c' (by omega), h.mks, h.inj, h.bd⟩
theorem LInv.turn (h : LInv n w B L s o cs c) (hc : c < w) (hB : 1 ≤ B) (hL : ∀ k, k < n → ∀ j, Bd B (L k j)) {a : Nat} {ps : List Nat} (hp : placesM s.es s.q c = a :: ps) :
    LInv n w B L (stepR s c) (fun k => if k = s.q then o a else if k = a then o s.q else o k) (fun i => if i = s.q then c else cs i) (c + 1) := by
  obtain ⟨⟨qa, an, ane⟩, hq', t', rq, rlow, rhi⟩ := stepR_at h.tab hc hp
  generalize stepR s c = s' at hq' t' rq rlow rhi ⊢
  have eq_ : ∀ j, En s'.es s.q j = En s.es a j := fun j => by unfold En; rw [rq]
  have elow : ∀ i, i < s.q → ∀ j, En s'.es i j = En s.es i j := fun i hi j => by unfold En; rw [rlow i hi]
  -- a later row and its pivot row, in one form
  have rel : ∀ k, s.q < k → k < n → ∃ g f p : Int, g ≠ 0 ∧ f ≠ 0 ∧ (∀ j, j < w → g * En s'.es k j = f * En s.es (if k = a then s.q else k) j - p * En s.es a j) ∧ En s'.es k c = 0 := fun k hk hkn => by
    rcases rhi k hk hkn with ⟨z, e⟩ | ⟨z, _, g, g0, e⟩
    · have q : ∀ j, En s'.es k j = En s.es (if k = a then s.q else k) j := fun j => by
        show (s'.es.getD k []).getD j 0 = _
        rw [e]
        rfl
      exact ⟨1, 1, 0, by decide, by decide, fun j _ => by rw [q]; omega, by rw [q]; exact z⟩
    · refine ⟨g, _, _, by omega, ane, e, ?_⟩
      have q := e c hc
      have q : g * En s'.es k c = 0 := by rw [q]; grind
      rcases Int.mul_eq_zero.mp q with q | q
      · omega
      · exact q
  have src : ∀ k, s.q < k → k < n → s.q ≤ (if k = a then s.q else k) ∧ (if k = a then s.q else k) < n ∧ (if k = a then s.q else k) ≠ a := fun k hk hkn => by
    split
    · omega
    · omega
  have free' : ∀ k, s.q < k → k < n → ∀ c', c' < c + 1 → En s'.es k c' = 0 := fun k hk hkn c' hc' => by
    obtain ⟨g, f, p, g0, f0, e, e0⟩ := rel k hk hkn
    obtain ⟨s1, s2, s3⟩ := src k hk hkn
    by_cases q : c' = c
    · rw [q]; exact e0
    · have e2 := e c' (by omega)
      rw [h.free _ s1 s2 c' (by omega), h.free a qa an c' (by omega), Int.mul_zero, Int.mul_zero] at e2
      exact cancel (g := g) g0 (by rw [e2, Int.mul_zero]; rfl)
  have oi' : ∀ r r', r < n → r' < n → (if r = s.q then o a else if r = a then o s.q else o r) = (if r' = s.q then o a else if r' = a then o s.q else o r') → r = r' := fun r r' hr hr' e => by
    have qn : s.q < n := by omega
    have i1 := h.oi
    by_cases a1 : r = s.q <;> by_cases a2 : r' = s.q
    · rw [a1, a2]
    · rw [if_pos a1, if_neg a2] at e
      by_cases b2 : r' = a
      · rw [if_pos b2] at e
        have := i1 a s.q an qn e
        omega
      · rw [if_neg b2] at e
        have := i1 a r' an hr' e
        omega
    · rw [if_neg a1, if_pos a2] at e
      by_cases b1 : r = a
      · rw [if_pos b1] at e
        have := i1 s.q a qn an e
        omega
      · rw [if_neg b1] at e
        have := i1 r a hr an e
        omega
    · rw [if_neg a1, if_neg a2] at e
      by_cases b1 : r = a <;> by_cases b2 : r' = a
      · rw [b1, b2]
      · rw [if_pos b1, if_neg b2] at e
        have := i1 s.q r' qn hr' e
        omega
      · rw [if_neg b1, if_pos b2] at e
        have := i1 r s.q hr qn e
        omega
      · rw [if_neg b1, if_neg b2] at e
        exact i1 r r' hr hr' e
  have on' : ∀ r, r < n → (if r = s.q then o a else if r = a then o s.q else o r) < n := fun r hr => by
    split
    · exact h.on a an
    · split
      · exact h.on _ (by omega)
      · exact h.on r hr
  -- the used ones
  have used' : ∀ k : Nat, (∃ i, i < s'.q ∧ k = (if i = s.q then o a else if i = a then o s.q else o i)) ↔ (∃ i, i < s.q ∧ k = o i) ∨ k = o a := fun k => by
    rw [hq']
    constructor
    · rintro ⟨i, hi, e⟩
      by_cases q : i = s.q
      · rw [if_pos q] at e; exact .inr e
      · rw [if_neg q, if_neg (by omega)] at e
        exact .inl ⟨i, by omega, e⟩
    · rintro (⟨i, hi, e⟩ | e)
      · exact ⟨i, by omega, by rw [if_neg (by omega), if_neg (by omega)]; exact e⟩
      · exact ⟨s.q, by omega, by rw [if_pos rfl]; exact e⟩
  obtain ⟨da, za, da0, zas, zar, zae⟩ := h.mks a qa an
  have inj' : ∀ z : Nat → Int, (∀ k, k < n → z k ≠ 0 → ∃ i, i < s'.q ∧ k = (if i = s.q then o a else if i = a then o s.q else o i)) → (∀ i, i < s'.q → sg n (fun k => z k * L k (if i = s.q then c else cs i)) = 0) → ∀ k, k < n → z k = 0 := fun z hz hz2 => by
    have y0 := h.inj (fun k => za (o a) * z k - z (o a) * za k) (fun k hk hne => by
      refine Classical.byContradiction fun hno => hne ?_
      show za (o a) * z k - z (o a) * za k = 0
      by_cases e : k = o a
      · rw [e, Int.mul_comm]; omega
      · have z0 : z k = 0 := Classical.byContradiction fun q => by
          rcases (used' k).mp (hz k hk q) with h | h
          · exact hno h
          · exact e h
        have m0 : za k = 0 := Classical.byContradiction fun q => by
          rcases zas k hk q with h | h
          · exact hno h
          · exact e h
        rw [z0, m0, Int.mul_zero, Int.mul_zero]; rfl) (fun i hi => by
      have e1 := hz2 i (by omega)
      rw [if_neg (by omega)] at e1
      rw [sg_comb, e1, ← zae (cs i) (by have := h.cl i hi; omega), h.free a qa an _ (h.cl i hi)]
      grind)
    have zoa : z (o a) = 0 := by
      have e1 := hz2 s.q (by omega)
      rw [if_pos rfl] at e1
      have e2 := sg_comb n (za (o a)) (z (o a)) z za (fun k => L k c)
      have e3 : sg n (fun k => (za (o a) * z k - z (o a) * za k) * L k c) = 0 := by
        rw [sg_congr n (g := fun _ => 0) fun k hk => by
          have : za (o a) * z k - z (o a) * za k = 0 := y0 k hk
          rw [this, Int.zero_mul], sg_zero]
      rw [e3, e1, ← zae c hc, Int.mul_zero] at e2
      have : z (o a) * (da * En s.es a c) = 0 := by omega
      rcases Int.mul_eq_zero.mp this with q | q
      · exact q
      · exact absurd q (Int.mul_ne_zero da0 ane)
    intro k hk
    have : za (o a) * z k - z (o a) * za k = 0 := y0 k hk
    rw [zoa, Int.zero_mul, Int.sub_zero] at this
    rcases Int.mul_eq_zero.mp this with q | q
    · exact absurd q zar
    · exact q
  have mk' : ∀ r, s'.q ≤ r → r < n → ∃ (d : Int) (z : Nat → Int), d ≠ 0 ∧ (∀ k, k < n → z k ≠ 0 → (∃ i, i < s'.q ∧ k = (if i = s.q then o a else if i = a then o s.q else o i)) ∨ k = (if r = s.q then o a else if r = a then o s.q else o r)) ∧ z (if r = s.q then o a else if r = a then o s.q else o r) ≠ 0 ∧ ∀ j, j < w → d * En s'.es r j = sg n (fun k => z k * L k j) := fun r hr hrn => by
    have hr : s.q < r := by omega
    obtain ⟨g, f, p, g0, f0, e, _⟩ := rel r hr hrn
    obtain ⟨s1, s2, s3⟩ := src r hr hrn
    have eo : (if r = s.q then o a else if r = a then o s.q else o r) = o (if r = a then s.q else r) := by
      rw [if_neg (by omega)]
      split <;> rfl
    rw [eo]
    generalize (if r = a then s.q else r) = b at e s1 s2 s3
    obtain ⟨db, zb, db0, zbs, zbr, zbe⟩ := h.mks b s1 s2
    have zab : za (o b) = 0 := Classical.byContradiction fun q => by
      rcases zas (o b) (h.on b s2) q with ⟨i, hi, e⟩ | e
      · have := h.oi b i s2 (by omega) e
        omega
      · exact s3 (h.oi b a s2 an e)
    refine ⟨g * da * db, fun k => f * da * zb k - p * db * za k, Int.mul_ne_zero (Int.mul_ne_zero g0 da0) db0, fun k hk hne => ?_, ?_, fun j hj => ?_⟩
    · by_cases q : zb k = 0
      · have : za k ≠ 0 := fun z => hne (by show f * da * zb k - p * db * za k = 0; rw [q, z, Int.mul_zero, Int.mul_zero]; rfl)
        rcases zas k hk this with h | h
        · exact .inl ((used' k).mpr (.inl h))
        · exact .inl ((used' k).mpr (.inr h))
      · rcases zbs k hk q with h | h
        · exact .inl ((used' k).mpr (.inl h))
        · exact .inr h
    · show f * da * zb (o b) - p * db * za (o b) ≠ 0
      rw [zab, Int.mul_zero, Int.sub_zero]
      exact Int.mul_ne_zero (Int.mul_ne_zero f0 da0) zbr
    · rw [sg_comb, ← zbe j hj, ← zae j hj]
      have := e j hj
      calc g * da * db * En s'.es r j = da * db * (g * En s'.es r j) := by grind
        _ = _ := by rw [this]; grind
  have prim' : ∀ r, r < n → gcdL (s'.es.getD r []) ≤ 1 := fun r hr => by
    by_cases q1 : r < s.q
    · rw [rlow r q1]; exact h.prim r hr
    · by_cases q2 : r = s.q
      · rw [q2, rq]; exact h.prim a an
      · rcases rhi r (by omega) hr with ⟨_, e⟩ | ⟨_, e, _⟩
        · rw [e]; exact h.prim _ (src r (by omega) hr).2.1
        · exact e
  have van' : ∀ i, i < s'.q → ∀ k, i < k → k < n → En s'.es k (if i = s.q then c else cs i) = 0 := fun i hi k hik hkn => by
    by_cases q : i = s.q
    · rw [if_pos q]
      exact free' k (by omega) hkn c (by omega)
    · rw [if_neg q]
      have hi' : i < s.q := by omega
      by_cases q1 : k < s.q
      · rw [elow k q1]; exact h.van i hi' k hik hkn
      · by_cases q2 : k = s.q
        · rw [q2, eq_]; exact h.free a qa an _ (h.cl i hi')
        · exact free' k (by omega) hkn _ (by have := h.cl i hi'; omega)
  have cl' : ∀ i, i < s'.q → (if i = s.q then c else cs i) < c + 1 := fun i hi => by
    split
    · omega
    · have := h.cl i (by omega)
      omega
  refine ⟨t', by omega, on', oi', fun r hr => ?_, fun k hk => (h.dn k hk).trans fun r hr => ?_, prim', cl', fun i hi => ?_, van', fun k hk hkn c' hc' => free' k (by omega) hkn c' hc', mk', inj', fun r hr j => ?_⟩
  · by_cases q1 : r < s.q
    · exact (h.up r hr).congr fun j _ => (elow r q1 j).symm
    · by_cases q2 : r = s.q
      · rw [q2]; exact (h.up a an).congr fun j _ => (eq_ j).symm
      · obtain ⟨g, f, p, g0, f0, e, _⟩ := rel r (by omega) hr
        obtain ⟨s1, s2, s3⟩ := src r (by omega) hr
        exact Spn.div g0 ((((h.up _ s2).smul f).add ((h.up a an).smul (-p))).congr fun j hj => by rw [e j hj]; grind)
  · show Spn n w (En s'.es) (En s.es r)
    have ra : Spn n w (En s'.es) (En s.es a) := (Spn.row (A := En s'.es) (show s.q < n by omega)).congr fun j _ => eq_ j
    by_cases q1 : r < s.q
    · exact (Spn.row hr).congr fun j _ => elow r q1 j
    · by_cases q2 : r = a
      · rw [q2]; exact ra
      · -- the row stands at r, or at a when r = q
        have : ∃ k, s.q < k ∧ k < n ∧ (if k = a then s.q else k) = r := by
          by_cases q3 : r = s.q
          · exact ⟨a, by omega, an, by rw [if_pos rfl, q3]⟩
          · exact ⟨r, by omega, hr, by rw [if_neg q2]⟩
        obtain ⟨k, k1, k2, k3⟩ := this
        obtain ⟨g, f, p, g0, f0, e, _⟩ := rel k k1 k2
        rw [k3] at e
        exact Spn.div (c := f) f0 ((((Spn.row (A := En s'.es) k2).smul g).add (ra.smul p)).congr fun j hj => by rw [e j hj]; grind)
  · show En s'.es i (if i = s.q then c else cs i) ≠ 0
    by_cases q : i = s.q
    · rw [if_pos q, q, eq_]; exact ane
    · rw [if_neg q, elow i (by omega)]; exact h.piv i (by omega)
  · by_cases q1 : r < s.q
    · rw [elow r q1]; exact h.bd r hr j
    · by_cases q2 : r = s.q
      · rw [q2, eq_]; exact h.bd a an j
      · exact unused_bd t' (by omega) on' oi' inj' (fun i hi => by have := cl' i hi; omega) hB hL (show s'.q ≤ r by omega) hr (prim' r hr) (fun i hi => van' i hi r (by omega) hr) (mk' r (by omega) hr) j
end
section
variable {T : List (List Int)} {n w B : Nat}
theorem lstart (t : Tab n w T) (hB : 1 ≤ B) (hT : ∀ r ∈ T, ∀ x ∈ r, Bd B x) : LInv n w B (En T) (rankTo T 0) (fun k => k) (fun _ => 0) 0 := by
  have h0 := ustart t
  have es : (rankTo T 0).es = (elimTo T 0).es := rfl
  have q0 : (rankTo T 0).q = 0 := rfl
  have mk : ∀ r, r < n → ∃ (d : Int) (z : Nat → Int), d ≠ 0 ∧ (∀ k, k < n → z k ≠ 0 → (∃ i, i < (rankTo T 0).q ∧ k = i) ∨ k = r) ∧ z r ≠ 0 ∧ ∀ j, j < w → d * En (rankTo T 0).es r j = sg n (fun k => z k * En T k j) := fun r hr => by
    obtain ⟨g, g0, e⟩ := low_rel (T.getD r [])
    refine ⟨g, fun k => if k = r then 1 else 0, by omega, fun k hk hne => ?_, by show (if r = r then (1 : Int) else 0) ≠ 0; rw [if_pos rfl]; decide, fun j hj => ?_⟩
    · by_cases q : k = r
      · exact .inr q
      · exact absurd (if_neg q) hne
    · rw [sg_single hr fun k hk hne => by show (if k = r then (1 : Int) else 0) * _ = 0; rw [if_neg hne, Int.zero_mul]]
      show g * ((T.map lowM).getD r []).getD j 0 = (if r = r then (1 : Int) else 0) * En T r j
      rw [if_pos rfl, Int.one_mul, show (T.map lowM).getD r [] = lowM (T.getD r []) from getD_get (by rw [List.getElem?_map, get_getD [] (by rw [t.n]; exact hr)]; rfl)]
      exact e j
  have inj : ∀ z : Nat → Int, (∀ k, k < n → z k ≠ 0 → ∃ i, i < (rankTo T 0).q ∧ k = i) → (∀ i, i < (rankTo T 0).q → sg n (fun k => z k * En T k 0) = 0) → ∀ k, k < n → z k = 0 := fun z hz _ k hk => Classical.byContradiction fun q => by
    obtain ⟨i, hi, _⟩ := hz k hk q
    rw [q0] at hi
    omega
  refine ⟨h0.tab, Nat.zero_le _, fun r hr => hr, fun r r' _ _ e => e, h0.up, h0.dn, h0.prim, fun i hi => absurd hi (Nat.not_lt_zero i), fun i hi => absurd hi (Nat.not_lt_zero i), fun i hi => absurd hi (Nat.not_lt_zero i), fun k _ _ c' hc' => absurd hc' (Nat.not_lt_zero c'), fun r _ hr => mk r hr, inj, fun r hr => ?_⟩
  exact unused_bd (s := rankTo T 0) (o := fun k => k) (cs := fun _ => 0) h0.tab (Nat.zero_le _) (fun r hr => hr) (fun r r' _ _ e => e) inj (fun i hi => absurd hi (Nat.not_lt_zero i)) hB (fun k hk => tab_bd t hT hk) (Nat.zero_le _) hr (h0.prim r hr) (fun i hi => absurd hi (Nat.not_lt_zero i)) (mk r hr)
theorem linv (t : Tab n w T) (hB : 1 ≤ B) (hT : ∀ r ∈ T, ∀ x ∈ r, Bd B x) : ∀ c, c ≤ w → ∃ o cs, LInv n w B (En T) (rankTo T c) o cs c
  | 0, _ => ⟨_, _, lstart t hB hT⟩
  | c + 1, hc => by
    obtain ⟨o, cs, h⟩ := linv t hB hT c (by omega)
    rw [rankTo_succ]
    cases hp : placesM (rankTo T c).es (rankTo T c).q c with
    | nil => exact ⟨_, _, h.skip hp⟩
    | cons a ps => exact ⟨_, _, h.turn (by omega) hB (fun k hk => tab_bd t hT hk) hp⟩
/-- the law's rank is the rank -/
theorem rank_law (t : Tab n w T) : Rk n w (En T) (rankTo T w).q := by
  have : ∃ B, 1 ≤ B ∧ ∀ r ∈ T, ∀ x ∈ r, Bd B x := by
    obtain ⟨B, h1, h2⟩ := bd_ex (En T) n w
    refine ⟨B, h1, fun r hr x hx => ?_⟩
    obtain ⟨k, hk, rfl⟩ := mem_getD [] hr
    obtain ⟨j, hj, rfl⟩ := mem_getD 0 hx
    rw [t.n] at hk
    rw [t.row hk] at hj
    exact h2 k hk j hj
  obtain ⟨B, hB, hT⟩ := this
  obtain ⟨o, cs, h⟩ := linv t hB hT w (Nat.le_refl _)
  generalize rankTo T w = s at h
  refine ⟨En s.es, fun z hz => ?_, fun i hi => h.up i (by have := h.q; omega), fun k hk => (h.dn k hk).trans fun r hr => ?_⟩
  · -- triangular
    have go : ∀ m k, k < s.q → k < m → z k = 0 := by
      intro m
      induction m with
      | zero => intro k _ hk; omega
      | succ m ih =>
        intro k hk hkm
        by_cases e : k = m
        · subst e
          have q := hz (cs k) (h.cl k hk)
          rw [sg_single hk fun i hi hne => by
            by_cases g : i < k
            · rw [ih i hi g, Int.zero_mul]
            · rw [h.van k hk i (by omega) (by have := h.q; omega), Int.mul_zero]] at q
          rcases Int.mul_eq_zero.mp q with q | q
          · exact q
          · exact absurd q (h.piv k hk)
        · exact ih k hk (by omega)
    exact fun k hk => go s.q k hk hk
  · by_cases g : r < s.q
    · exact Spn.row g
    · exact Spn.zero.congr fun j hj => (h.free r (by omega) hr j hj).symm
theorem law_rank_eq (t : Tab n w T) {r : Nat} (h : Rk n w (En T) r) : (rankTo T w).q = r := (rank_law t).uniq h
theorem law_rank_pv (t : Tab n w T) : (rankTo T w).q = (elimTo T w).pv.length := law_rank_eq t (rank_pv (uinv t w (Nat.le_refl _)))
/-- sizes of the law's elimination -/
theorem law_bd (t : Tab n w T) (hB : 1 ≤ B) (hT : ∀ r ∈ T, ∀ x ∈ r, Bd B x) {c : Nat} (hc : c ≤ w) : Tab n w (rankTo T c).es ∧ (rankTo T c).q ≤ n ∧ ∀ r, r < n → ∀ j, Bd ((2 * n * B) ^ n) (En (rankTo T c).es r j) := by
  obtain ⟨o, cs, h⟩ := linv t hB hT c hc
  exact ⟨h.tab, h.q, h.bd⟩
end
end M

set_option Elab.async false
set_option linter.all false
set_option maxRecDepth 100000
set_option maxHeartbeats 4000000
/-! LA6: the rank with one more column -/
namespace M
/-- one more column -/
def aug (w : Nat) (A : Nat → Nat → Int) (b : Nat → Int) : Nat → Nat → Int := fun k j => if j < w then A k j else b k
section
variable {n w r : Nat} {A : Nat → Nat → Int} {b x y : Nat → Int}
theorem aug_lt {k j : Nat} (h : j < w) : aug w A b k j = A k j := if_pos h
theorem aug_w {k : Nat} : aug w A b k w = b k := if_neg (by omega)
theorem rk_choose (h : Rk n w A r) : ∃ (P : Nat → Nat → Int) (d : Nat → Int) (c : Nat → Nat → Int), Ind r w P ∧ (∀ i, i < r → d i ≠ 0 ∧ ∀ j, j < w → d i * P i j = sg n (fun k => c i k * A k j)) ∧ ∀ k, k < n → Spn r w P (A k) := by
  obtain ⟨P, a, b, c⟩ := h
  refine ⟨P, fun i => if h : i < r then (b i h).choose else 0, fun i => if h : i < r then (b i h).choose_spec.choose else fun _ => 0, a, fun i hi => ?_, c⟩
  have q := (b i hi).choose_spec.choose_spec
  simp only [dif_pos hi]
  exact q
theorem rk_aug_point (h : Rk n w A r) {l : Int} (hl : l ≠ 0) (hx : ∀ k, k < n → sg w (fun j => A k j * x j) = l * b k) : Rk n (w + 1) (aug w A b) r := by
  obtain ⟨P, a, hb, hc⟩ := h
  refine ⟨fun i j => if j < w then l * P i j else sg w (fun j => P i j * x j), fun z hz => a z fun j hj => ?_, fun i hi => ?_, fun k hk => ?_⟩
  · have q := hz j (by omega)
    rw [sg_congr r (g := fun k => l * (z k * P k j)) fun k _ => by show z k * (if j < w then _ else _) = _; rw [if_pos hj]; grind, sg_mulL] at q
    rcases Int.mul_eq_zero.mp q with q | q
    · exact absurd q hl
    · exact q
  · obtain ⟨d, c, hd, e⟩ := hb i hi
    refine ⟨d, fun k => l * c k, hd, fun j hj => ?_⟩
    show d * (if j < w then l * P i j else sg w (fun j => P i j * x j)) = _
    by_cases q : j < w
    · rw [if_pos q, sg_congr n (g := fun k => l * (c k * A k j)) fun k _ => by rw [aug_lt q]; grind, sg_mulL, ← e j q]
      grind
    · have jw : j = w := by omega
      subst jw
      rw [if_neg q, sg_congr n (g := fun k => c k * sg j (fun i => A k i * x i)) fun k hk => by rw [aug_w, hx k hk]; grind, ← sg_mulL]
      rw [sg_congr j (g := fun i' => sg n (fun k => c k * (A k i' * x i'))) fun i' hi' => by rw [← Int.mul_assoc, e i' hi', ← sg_mulR]; exact sg_congr n fun k _ => by grind, sg_swap]
      exact sg_congr n fun k _ => by rw [sg_mulL]
  · obtain ⟨d, z, hd, e⟩ := hc k hk
    refine ⟨d * l, z, Int.mul_ne_zero hd hl, fun j hj => ?_⟩
    by_cases q : j < w
    · rw [aug_lt q, sg_congr r (g := fun i => l * (z i * P i j)) fun i _ => by show z i * (if j < w then _ else _) = _; rw [if_pos q]; grind, sg_mulL, ← e j q]
      grind
    · have jw : j = w := by omega
      subst jw
      rw [aug_w, Int.mul_assoc, ← hx k hk, ← sg_mulL, sg_congr r (g := fun i => z i * sg j (fun i' => P i i' * x i')) fun i _ => by show z i * (if j < j then _ else _) = _; rw [if_neg q]]
      rw [sg_congr j (g := fun i' => sg r (fun i => z i * (P i i' * x i'))) fun i' hi' => by rw [← Int.mul_assoc, e i' hi', ← sg_mulR]; exact sg_congr r fun i _ => by grind, sg_swap]
      exact sg_congr r fun i _ => by rw [sg_mulL]
theorem sg_augw (c : Nat → Int) : sg n (fun k => c k * aug w A b k w) = sg n (fun k => c k * b k) := sg_congr n fun k _ => by rw [aug_w]
theorem rk_aug_bar (h : Rk n w A r) (hy : ∀ j, j < w → sg n (fun k => y k * A k j) = 0) (hb : sg n (fun k => y k * b k) ≠ 0) : Rk n (w + 1) (aug w A b) (r + 1) := by
  obtain ⟨P, d, c, a, hd, hc⟩ := rk_choose h
  let P' : Nat → Nat → Int := fun i j => if i < r then sg n (fun k => c i k * aug w A b k j) else sg n (fun k => y k * aug w A b k j)
  have p1 : ∀ i, i < r → ∀ j, P' i j = sg n (fun k => c i k * aug w A b k j) := fun i hi j => if_pos hi
  have p2 : ∀ j, P' r j = sg n (fun k => y k * aug w A b k j) := fun j => if_neg (by omega)
  have low : ∀ (u : Nat → Int) (j : Nat), j < w → sg n (fun k => u k * aug w A b k j) = sg n (fun k => u k * A k j) := fun u j hj => sg_congr n fun k _ => by rw [aug_lt hj]
  have e1 : Spn (r + 1) (w + 1) P' (fun j => if j < w then 0 else 1) := by
    refine Spn.div hb ((Spn.row (A := P') (show r < r + 1 by omega)).congr fun j hj => ?_)
    rw [p2]
    by_cases q : j < w
    · rw [low _ j q, hy j q, if_pos q, Int.mul_zero]
    · have jw : j = w := by omega
      rw [jw, sg_augw, if_neg (by omega), Int.mul_one]
  refine ⟨P', fun z hz => ?_, fun i hi => ?_, fun k hk => ?_⟩
  · have zr : ∀ i, i < r → z i = 0 := fun i hi => by
      have q := a (fun i => z i * d i) (fun j hj => by
        have q := hz j (by omega)
        have q : sg r (fun k => z k * P' k j) + z r * P' r j = 0 := q
        rw [p2, low _ j hj, hy j hj, Int.mul_zero, Int.add_zero] at q
        rw [← q]
        refine sg_congr r fun i hi => ?_
        rw [p1 i hi, low _ j hj, ← (hd i hi).2 j hj, Int.mul_assoc]) i hi
      rcases Int.mul_eq_zero.mp q with q | q
      · exact q
      · exact absurd q (hd i hi).1
    intro k hk
    by_cases e : k < r
    · exact zr k e
    · have kr : k = r := by omega
      subst kr
      have q := hz w (by omega)
      have q : sg k (fun i => z i * P' i w) + z k * P' k w = 0 := q
      rw [sg_congr k (g := fun _ => 0) fun i hi => by rw [zr i hi, Int.zero_mul], sg_zero, p2, sg_augw, Int.zero_add] at q
      rcases Int.mul_eq_zero.mp q with q | q
      · exact q
      · exact absurd q hb
  · by_cases e : i < r
    · exact ⟨1, c i, by decide, fun j _ => by rw [p1 i e, Int.one_mul]⟩
    · have ir : i = r := by omega
      rw [ir]
      exact ⟨1, y, by decide, fun j _ => by rw [p2, Int.one_mul]⟩
  · have ui : ∀ i, i < r → Spn (r + 1) (w + 1) P' (fun j => if j < w then P i j else 0) := fun i hi => by
      refine Spn.div (hd i hi).1 (((Spn.row (A := P') (show i < r + 1 by omega)).add (e1.smul (-(sg n (fun k => c i k * b k))))).congr fun j hj => ?_)
      rw [p1 i hi]
      by_cases q : j < w
      · rw [low _ j q, ← (hd i hi).2 j q, if_pos q, if_pos q]
        grind
      · have jw : j = w := by omega
        rw [jw, sg_augw, if_neg (by omega), if_neg (by omega)]
        grind
    obtain ⟨dk, z, hdk, e⟩ := hc k hk
    refine Spn.div hdk (((Spn.sum (B := fun i j => if j < w then P i j else 0) z r ui).add (e1.smul (dk * b k))).congr fun j hj => ?_)
    by_cases q : j < w
    · show sg r (fun i => z i * (if j < w then P i j else 0)) + dk * b k * (if j < w then 0 else 1) = dk * aug w A b k j
      rw [aug_lt q, e j q, if_pos q, sg_congr r (g := fun i => z i * P i j) fun i _ => by rw [if_pos q]]
      grind
    · have jw : j = w := by omega
      rw [jw]
      show sg r (fun i => z i * (if w < w then P i w else 0)) + dk * b k * (if w < w then 0 else 1) = dk * aug w A b k w
      rw [aug_w, if_neg (by omega), sg_congr r (g := fun _ => 0) fun i _ => by rw [if_neg (by omega), Int.mul_zero], sg_zero]
      grind
/-- the same rows -/
theorem Rk.same {A' : Nat → Nat → Int} (h : Rk n w A r) (e : ∀ k, k < n → ∀ j, j < w → A' k j = A k j) : Rk n w A' r :=
  h.of_span (fun k hk => (Spn.row hk).congr fun j hj => (e k hk j hj).symm) fun k hk => (Spn.row (A := A') hk).congr fun j hj => e k hk j hj
end
end M

set_option Elab.async false
set_option linter.all false
set_option maxRecDepth 100000
set_option maxHeartbeats 4000000
set_option exponentiation.threshold 5000
namespace LS
open PySem PySem.Spec PyProof.Rows L2 DL M
local macro_rules | `(tactic| by_item) => `(tactic| with_reducible first
  | exact DL.ed_var (by with_unfolding_all rfl) | exact DL.ed_int | exact DL.ed_bl | exact DL.ed_non | exact DL.ed_str | exact DL.ea_nil | exact DL.et_yes
  | apply DL.ea_cons | apply DL.ed_op | apply DL.ed_un | apply DL.ed_lst | apply DL.ed_fld | (show L2.Cls _ _; with_reducible assumption) | (show L2.NoAttr _ _ _; with_reducible assumption) | (show List.lookup _ _ = _; with_unfolding_all rfl) | (show List.length _ ≤ PySem.sizeLine; exact Nat.le_of_ble_eq_true (by with_unfolding_all rfl)) | apply DL.ed_isi | apply DL.ed_cb
  | exact DL.od_I0 | exact DL.od_B0 | exact DL.od_eqI | exact DL.od_neI | exact DL.od_eqS | exact DL.od_isN | exact DL.od_notN | (apply DL.od_divX) | apply DL.od_I | apply DL.od_ix | exact DL.ud_I
  | apply DL.cd_len | exact DL.cd_int | exact DL.cd_intB | exact DL.cd_1 | exact DL.cd_gcd | apply DL.cd_lcmX | exact DL.cd_min3 | exact DL.cd_2
  | apply DL.et_test | apply DL.et_B | apply DL.et_not | apply DL.ed_notV
  | (show DL.tyB _ = _; with_unfolding_all rfl) | (show DL.itemsOf _ = _; with_unfolding_all rfl) | exact DL.seqD_items | (show L2.atI _ _ = _; with_reducible assumption) | (show L2.atI _ _ = _; exact L2.atI_nat (by with_reducible assumption)) | exact DL.atI_zero | exact DL.atI_one | (show L2.atI _ _ = _; with_unfolding_all rfl) | (show L2.kitB _ _ = _; first | exact DL.kb_NoneType_int | exact DL.kb_NoneType_bool | exact DL.kb_NoneType_tuple | exact DL.kb_NoneType_list | exact DL.kb_NoneType_str | exact DL.kb_NoneType_dict | exact DL.kb_bool_int | exact DL.kb_bool_bool | exact DL.kb_bool_tuple | exact DL.kb_bool_list | exact DL.kb_bool_str | exact DL.kb_bool_dict | exact DL.kb_int_int | exact DL.kb_int_bool | exact DL.kb_int_tuple | exact DL.kb_int_list | exact DL.kb_int_str | exact DL.kb_int_dict | exact DL.kb_str_int | exact DL.kb_str_bool | exact DL.kb_str_tuple | exact DL.kb_str_list | exact DL.kb_str_str | exact DL.kb_str_dict | exact DL.kb_list_int | exact DL.kb_list_bool | exact DL.kb_list_tuple | exact DL.kb_list_list | exact DL.kb_list_str | exact DL.kb_list_dict | exact DL.kb_tuple_int | exact DL.kb_tuple_bool | exact DL.kb_tuple_tuple | exact DL.kb_tuple_list | exact DL.kb_tuple_str | exact DL.kb_tuple_dict | exact DL.kb_dict_int | exact DL.kb_dict_bool | exact DL.kb_dict_tuple | exact DL.kb_dict_list | exact DL.kb_dict_str | exact DL.kb_dict_dict))
local macro_rules | `(tactic| by_place) => `(tactic| (repeat' by_item))
local macro_rules | `(tactic| by_in) => `(tactic| first | (with_reducible assumption) | (with_reducible exact DL.seqD_items) | (show (0 : Int) < _; omega) | (show (0 : Int) < _; decide +kernel) | exact M.mulS (by omega) (by omega) | exact M.mulP (by omega) (by omega) (by omega) | exact M.divS (by omega) (by omega) | exact ⟨by decide, by decide, by decide⟩ | exact ⟨by decide, by decide, by omega⟩ | exact L2.atI_nat (by assumption) | (show L2.atI _ _ = _; rfl))
section
variable {K : PySem.W.Frag}
/-! null_vector -/
structure PreNull (n w : Nat) (s : El) (f : Nat) : Prop where
  hn : n ≤ 1000
  hw : w ≤ 1000
  t : Tab n w s.es
  hf : f < w
  p : ∀ ac ∈ s.pv, ac.1 < n ∧ ac.2 < w ∧ 0 < En s.es ac.1 ac.2
  b : ∀ r ∈ s.es, ∀ x ∈ r, Sm 100000 x
  l : lineN s f < 2 ^ 350000
def spNullVector (K : PySem.W.Frag) : Sp := spT K (α := Nat × El × Nat × Nat) (fun a => [.lst (dT a.2.1.es), .lst (pvD a.2.1.pv), .int a.2.2.1, .int a.2.2.2]) (fun a => PreNull a.1 a.2.2.1 a.2.1 a.2.2.2) (fun a => .sh (.tup (dI (nullV a.2.1 a.2.2.1 a.2.2.2))))
def lineG (s : El) (f : Nat) : Nat → Nat × Nat → Nat := fun l ac => if En s.es ac.1 f = 0 then l else Nat.lcm l (En s.es ac.1 ac.2).natAbs
theorem line_part (s : El) (f m : Nat) (hp : ∀ ac ∈ s.pv, 0 < En s.es ac.1 ac.2) : (s.pv.take m).foldl (lineG s f) 1 ≤ lineN s f := by
  have h : lineN s f = (s.pv.drop m).foldl (lineG s f) ((s.pv.take m).foldl (lineG s f) 1) := by
    rw [← List.foldl_append, List.take_append_drop]
    rfl
  have d := (line_dvd s f (s.pv.drop m) ((s.pv.take m).foldl (lineG s f) 1)).1
  have l0 := line_pos s f s.pv 1 (by decide) hp
  refine Nat.le_of_dvd l0 ?_
  show _ ∣ lineN s f
  rw [h]
  exact d
/-! null_basis, rank -/
structure PreBasis (n w : Nat) (T : List (List Int)) : Prop where
  ok : ElOk n w T w
  nd : (elimTo T w).pv.length ≤ 1000 ∧ (takenM (elimTo T w)).Nodup
  nv : ∀ f, f < w → PreNull n w (elimTo T w) f
def spNullBasis (K : PySem.W.Frag) : Sp := spT K (α := Bool × Nat × Nat × List (List Int)) (fun a => [tabD a.1 a.2.2.2, .int a.2.2.1]) (fun a => PreBasis a.2.1 a.2.2.1 a.2.2.2) (fun a => .sh (.tup (tT (basisM a.2.2.2 a.2.2.1))))
def spRank (K : PySem.W.Frag) : Sp := spT K (α := Bool × Nat × Nat × List (List Int)) (fun a => [tabD a.1 a.2.2.2, .int a.2.2.1]) (fun a => PreBasis a.2.1 a.2.2.1 a.2.2.2) (fun a => .sh (.int ((a.2.2.1 : Int) - ((basisM a.2.2.2 a.2.2.1).length : Int))))
def gv_NullBasis_width_table : List V → List V := fun zs => match zs with
  | [w, t] => [t, w]
  | _ => []
def gv_Rank_width_table : List V → List V := fun zs => match zs with
  | [w, t] => [t, w]
  | _ => []
/-! _law_turned -/
def turnM (T : List (List Int)) (w : Nat) : List (List Int) := (List.range w).map fun j => T.map fun r => r.getD j 0
def spLawTurned (K : PySem.W.Frag) : Sp := spT K (α := Nat × Nat × List (List Int)) (fun a => [.lst (dT a.2.2)]) (fun a => Tab a.1 a.2.1 a.2.2 ∧ 0 < a.1 ∧ a.1 ≤ 1000 ∧ a.2.1 ≤ 1000) (fun a => .ow (dT (turnM a.2.2 a.2.1)))
/-! _law_lowest -/
def spLawLowest (K : PySem.W.Frag) : Sp := spT K (α := Bool × List Int) (fun a => [seqD a.1 (dI a.2)]) (fun a => (∀ n ∈ a.2, Sm 49000 n) ∧ a.2.length ≤ 10000) (fun a => .ow (dI (lowM a.2)))
theorem low_max (ns : List Int) : ns.map (fun x => x / max 1 ((gcdL ns : Nat) : Int)) = lowM ns := by
  by_cases h : gcdL ns = 0
  · rw [lowM_zero h, h]
    show ns.map (fun x => x / 1) = ns
    exact div_one_map ns
  · unfold lowM
    rw [show max 1 ((gcdL ns : Nat) : Int) = ((gcdL ns : Nat) : Int) by omega]
/-! _law_rank -/
structure PreRank (n w : Nat) (T : List (List Int)) : Prop where
  hn : n ≤ 1000
  hw : w ≤ 1000
  t : Tab n w T
  b : ∀ r ∈ T, ∀ x ∈ r, Sm 49000 x
  s : ∀ c, c < w → Tab n w (rankTo T c).es ∧ (rankTo T c).q ≤ n ∧ ∀ r ∈ (rankTo T c).es, ∀ x ∈ r, Sm 24000 x
def spLawRank (K : PySem.W.Frag) : Sp := spT K (α := Bool × Nat × Nat × List (List Int)) (fun a => [tabD a.1 a.2.2.2, .int a.2.2.1]) (fun a => PreRank a.2.1 a.2.2.1 a.2.2.2) (fun a => .sh (.int ((rankTo a.2.2.2 a.2.2.1).q : Int)))
theorem places_eq (es : List (List Int)) (q c : Nat) (h : q ≤ es.length) : placesM es q c = ((List.range (es.length - q)).filter fun i => !decide ((es.getD (q + i) []).getD c 0 = 0)).map (q + ·) := by
  unfold placesM
  have e : List.range es.length = List.range q ++ (List.range (es.length - q)).map (q + ·) := by rw [← List.range_add]; congr 1; omega
  rw [e, List.filter_append, List.filter_map, List.filter_eq_nil_iff.mpr fun a ha => ?_, List.nil_append]
  · congr 1
    refine List.filter_congr fun i _ => ?_
    show (decide (q ≤ q + i) && !decide ((es.getD (q + i) []).getD c 0 = 0)) = _
    rw [decide_eq_true (by omega), Bool.true_and]
  · have := List.mem_range.mp ha
    rw [decide_eq_false (show ¬ q ≤ a by omega)]
    simp
end
end LS

set_option Elab.async false
set_option linter.all false
set_option maxRecDepth 100000
set_option maxHeartbeats 4000000
set_option exponentiation.threshold 5000
namespace K02
open PySem PySem.Spec PyProof.Rows L2 DL M LS
local macro_rules | `(tactic| by_item) => `(tactic| with_reducible first
  | exact DL.ed_var (by with_unfolding_all rfl) | exact DL.ed_int | exact DL.ed_bl | exact DL.ed_non | exact DL.ed_str | exact DL.ea_nil | exact DL.et_yes
  | apply DL.ea_cons | apply DL.ed_op | apply DL.ed_un | apply DL.ed_lst | apply DL.ed_fld | (show L2.Cls _ _; with_reducible assumption) | (show L2.NoAttr _ _ _; with_reducible assumption) | (show List.lookup _ _ = _; with_unfolding_all rfl) | (show List.length _ ≤ PySem.sizeLine; exact Nat.le_of_ble_eq_true (by with_unfolding_all rfl)) | apply DL.ed_isi | apply DL.ed_cb
  | exact DL.od_I0 | exact DL.od_B0 | exact DL.od_eqI | exact DL.od_neI | exact DL.od_eqS | exact DL.od_isN | exact DL.od_notN | (apply DL.od_divX) | apply DL.od_I | apply DL.od_ix | exact DL.ud_I
  | apply DL.cd_len | exact DL.cd_int | exact DL.cd_intB | exact DL.cd_1 | exact DL.cd_gcd | apply DL.cd_lcmX | exact DL.cd_min3 | exact DL.cd_2
  | apply DL.et_test | apply DL.et_B | apply DL.et_not | apply DL.ed_notV
  | (show DL.tyB _ = _; with_unfolding_all rfl) | (show DL.itemsOf _ = _; with_unfolding_all rfl) | exact DL.seqD_items | (show L2.atI _ _ = _; with_reducible assumption) | (show L2.atI _ _ = _; exact L2.atI_nat (by with_reducible assumption)) | exact DL.atI_zero | exact DL.atI_one | (show L2.atI _ _ = _; with_unfolding_all rfl) | (show L2.kitB _ _ = _; first | exact DL.kb_NoneType_int | exact DL.kb_NoneType_bool | exact DL.kb_NoneType_tuple | exact DL.kb_NoneType_list | exact DL.kb_NoneType_str | exact DL.kb_NoneType_dict | exact DL.kb_bool_int | exact DL.kb_bool_bool | exact DL.kb_bool_tuple | exact DL.kb_bool_list | exact DL.kb_bool_str | exact DL.kb_bool_dict | exact DL.kb_int_int | exact DL.kb_int_bool | exact DL.kb_int_tuple | exact DL.kb_int_list | exact DL.kb_int_str | exact DL.kb_int_dict | exact DL.kb_str_int | exact DL.kb_str_bool | exact DL.kb_str_tuple | exact DL.kb_str_list | exact DL.kb_str_str | exact DL.kb_str_dict | exact DL.kb_list_int | exact DL.kb_list_bool | exact DL.kb_list_tuple | exact DL.kb_list_list | exact DL.kb_list_str | exact DL.kb_list_dict | exact DL.kb_tuple_int | exact DL.kb_tuple_bool | exact DL.kb_tuple_tuple | exact DL.kb_tuple_list | exact DL.kb_tuple_str | exact DL.kb_tuple_dict | exact DL.kb_dict_int | exact DL.kb_dict_bool | exact DL.kb_dict_tuple | exact DL.kb_dict_list | exact DL.kb_dict_str | exact DL.kb_dict_dict))
local macro_rules | `(tactic| by_place) => `(tactic| (repeat' by_item))
local macro_rules | `(tactic| by_in) => `(tactic| first | (with_reducible assumption) | (with_reducible exact DL.seqD_items) | (show (0 : Int) < _; omega) | (show (0 : Int) < _; decide +kernel) | exact M.mulS (by omega) (by omega) | exact M.mulP (by omega) (by omega) (by omega) | exact M.divS (by omega) (by omega) | exact ⟨by decide, by decide, by decide⟩ | exact ⟨by decide, by decide, by omega⟩ | exact L2.atI_nat (by assumption) | (show L2.atI _ _ = _; rfl))
section
variable {P : Program} {w : World} {K : PySem.W.Frag} {mg : Str → Option Value} {base : Heap}
theorem scLawWhole : FnScope ["value"] ["value"] (defScope sLawWhole) := ⟨rfl, rfl, rfl, by decide +kernel, rfl, by decide +kernel, by decide +kernel⟩
theorem okLawWhole (T : Txt K mg)  : Cal P w K mg base 1 "_law_whole" ["value"] (spLawWhole K) := by
  refine cal_mk T.f_LawWhole T.g_LawWhole scLawWhole (fun vs H Q E h => spT_len (n := 1) (fun _ => rfl) h) (fun _ _ _ _ _ _ us hl => match us, hl with | [_], _ => rfl) (fun cdv A outer s H vs Q E hr h => ?_)
  refine ⟨_, (pss_one (ps_ret (pe_and (pe_callB (DL.call_isiC (K := K) rfl) (by rfl) T.b_isinstance (by decide +kernel) (pa_cons (pv 0) (pa_cons (pe_bltn (v := .ty "int") (by rfl) T.b_int (by decide +kernel) rfl) pa_nil))) (pe_one (pe_not (pe_callB (DL.call_isiC (K := K) rfl) (by rfl) T.b_isinstance (by decide +kernel) (pa_cons (pv 0) (pa_cons (pe_bltn (v := .ty "bool") (by rfl) T.b_bool (by decide +kernel) rfl) pa_nil)))))))), ?_⟩
  refine sd_fn h (fun _ => Nat.le_of_ble_eq_true rfl) ?_
  try dsimp only [L2.cxOf]
  intro i _
  show SD K _ [.sh (.int i)] _
  refine sd_retF (d := .bl true) (EvD.is (ed_andV (x := true) (y := true) ?_ fun _ => ?_) rfl) rfl rfl
  · by_place
  · refine EvD.is (ed_notV (x := false) ?_) rfl
    by_place
theorem scLawCell : FnScope ["script", "k", "seed", "cell"] ["script", "k"] (defScope sLawCell) := ⟨rfl, rfl, rfl, by decide +kernel, rfl, by decide +kernel, by decide +kernel⟩
theorem okLawCell (T : Txt K mg)  : Cal P w K mg base 1 "_law_cell" ["script", "k"] (spLawCell K) := by
  refine cal_mk T.f_LawCell T.g_LawCell scLawCell (fun vs H Q E h => spT_len (n := 2) (fun _ => rfl) h) (fun _ _ _ _ _ _ us hl => match us, hl with | [_, _], _ => rfl) (fun cdv A outer s H vs Q E hr h => ?_)
  refine ⟨_, (pss_cons (ps_if (pt_cmpR op_lt (pv 1) (pe_callB (DL.call_len_seqC (K := K) rfl) (by rfl) T.b_len (by decide +kernel) (pa_cons (pv 0) pa_nil)) (nomark _))
      (pss_one (ps_ret (pe_ix (DL.ix_seqC (K := K) rfl) (pv 0) (pv 1) (fun _ _ => rfl))))
      pss_nil)
      (pss_cons (ps_set (i := 2) scLawCell.nd rfl (by first | exact Or.inl rfl | exact Or.inr rfl) pe_int)
      (pss_cons (ps_for PassesOwn.never rfl (DL.pi_listC (K := K) rfl (pv 0)) (pg_name (i := 3) scLawCell.nd rfl (by first | exact Or.inl rfl | exact Or.inr rfl))
      (pss_one (ps_set (i := 2) scLawCell.nd rfl (by first | exact Or.inl rfl | exact Or.inr rfl) (pe_op op_mod (pe_callTy call_int1 (by rfl) T.b_int (by decide +kernel) (pa_cons (pe_op op_add (pe_op op_mulW (pv 2) pe_int) (pe_op op_mod (pe_callTy call_int1 (by rfl) T.b_int (by decide +kernel) (pa_cons (pv 3) pa_nil)) pe_int)) pa_nil)) pe_int))))
      (pss_one (ps_ret (pe_op op_mod (pe_callTy call_int1 (by rfl) T.b_int (by decide +kernel) (pa_cons (pe_op op_mulW (pe_op op_mulW (pe_op op_add (pv 2) pe_int) (pe_op op_add (pv 1) pe_int)) pe_int) pa_nil)) pe_int)))))), ?_⟩
  refine sd_fn h (fun _ => Nat.le_of_ble_eq_true rfl) ?_
  try dsimp only [L2.cxOf]
  intro ⟨ns, k⟩ hk
  have hk : k < 1000 := hk
  show SD K _ [.sh (.rd (dI ns)), .sh (.int k), .no, .no] _
  refine sd_then (sd_if (x := decide (k < ns.length)) (EvT.is (by by_place) ?_) (fun h => ?_) (fun h => sd_next ?_))
  · simp
  · have h1 : k < ns.length := of_decide_eq_true h
    have h2 : ns[k]? = some (cellM ns k) := by
      unfold cellM
      rw [if_pos h1, List.getD_eq_getElem?_getD, List.getElem?_eq_getElem h1]
      rfl
    exact sd_ret (d := .int (cellM ns k)) (ed_op (by by_place) (by by_place) (od_ix (ds := dI ns) rfl (atI_nat (dI_get h2)))) rfl
  · have h1 : ¬ k < ns.length := of_decide_eq_false h
    show SD K _ [.sh (.rd (dI ns)), .sh (.int k), .no, .no] _
    refine sd_then (sd_asg (d := .int 17) (by by_place) ?_)
    show SD K _ [.sh (.rd (dI ns)), .sh (.int k), .sh (.int 17), .no] _
    refine sd_then (sd_forLn [3] (a := .rd (dI ns)) (ds := dI ns) (by by_place) (.inr rfl) (fun m ρ => ρ = [.sh (.rd (dI ns)), .sh (.int k), .sh (.int (seedM (ns.take m))), .no]) rfl (fun m d ρ hd hI => ?_) (fun ρ hI => ?_))
    · subst hI
      obtain ⟨x, hx, rfl⟩ := get_dI hd
      refine ⟨rfl, ?_⟩
      show SD K _ [.sh (.rd (dI ns)), .sh (.int k), .sh (.int (seedM (ns.take m))), .sh (.int x)] _
      have hb := seedM_lt (ns.take m)
      refine sd_asg (d := .int (seedM (ns.take (m + 1)))) (EvD.is (by by_place <;> by_in) ?_) rfl
      unfold seedM
      rw [foldl_take_succ _ _ _ _ x hx]
    · subst hI
      rw [List.length_map, List.take_length]
      have hb := seedM_lt ns
      refine sd_ret (d := .int (cellM ns k)) (EvD.is (by by_place <;> by_in) ?_) rfl
      unfold cellM
      rw [if_neg h1]
theorem scLawDigits : FnScope ["cell", "sizes", "found", "rest", "size", "seed", "k"] ["cell", "sizes"] (defScope sLawDigits) := ⟨rfl, rfl, rfl, by decide +kernel, rfl, by decide +kernel, by decide +kernel⟩
theorem okLawDigits (T : Txt K mg)  : Cal P w K mg base 1 "_law_digits" ["cell", "sizes"] (spLawDigits K) := by
  refine cal_mk T.f_LawDigits T.g_LawDigits scLawDigits (fun vs H Q E h => spT_len (n := 2) (fun _ => rfl) h) (fun _ _ _ _ _ _ us hl => match us, hl with | [_, _], _ => rfl) (fun cdv A outer s H vs Q E hr h => ?_)
  refine ⟨_, (pss_cons (ps_set (i := 2) scLawDigits.nd rfl (by first | exact Or.inl rfl | exact Or.inr rfl) (pe_lst pa_nil))
      (pss_cons (ps_set (i := 3) scLawDigits.nd rfl (by first | exact Or.inl rfl | exact Or.inr rfl) (pe_callTy call_int1 (by rfl) T.b_int (by decide +kernel) (pa_cons (pv 0) pa_nil)))
      (pss_cons (ps_if (pt_cmpR op_ge (pv 3) (pe_op op_pow pe_int pe_int) (nomark _))
      (pss_cons (ps_set (i := 3) scLawDigits.nd rfl (by first | exact Or.inl rfl | exact Or.inr rfl) (pe_op op_sub (pv 3) (pe_op op_pow pe_int pe_int)))
      (pss_cons (ps_for PassesOwn.never rfl (DL.pi_listC (K := K) rfl (pv 1)) (pg_name (i := 4) scLawDigits.nd rfl (by first | exact Or.inl rfl | exact Or.inr rfl))
      (pss_cons (ps_expr (pe_bm PySem.F.plainAttrs_list PySem.F.slot_list_append PySem.F.type_list_append mt_append (pv 2) (pa_cons (pe_op op_mod (pe_callTy call_int1 (by rfl) T.b_int (by decide +kernel) (pa_cons (pv 3) pa_nil)) (pv 4)) pa_nil)))
      (pss_one (ps_set (i := 3) scLawDigits.nd rfl (by first | exact Or.inl rfl | exact Or.inr rfl) (pe_op op_fdivW (pe_callTy call_int1 (by rfl) T.b_int (by decide +kernel) (pa_cons (pv 3) pa_nil)) (pv 4))))))
      (pss_one (ps_ret (pv 2)))))
      pss_nil)
      (pss_cons (ps_set (i := 5) scLawDigits.nd rfl (by first | exact Or.inl rfl | exact Or.inr rfl) (pe_op op_mod (pe_callTy call_int1 (by rfl) T.b_int (by decide +kernel) (pa_cons (pv 3) pa_nil)) pe_int))
      (pss_cons (ps_for PassesOwn.never rfl (pi_range1 (by rfl) T.b_range (pa_cons (pe_callB (DL.call_len_seqC (K := K) rfl) (by rfl) T.b_len (by decide +kernel) (pa_cons (pv 1) pa_nil)) pa_nil)) (pg_name (i := 6) scLawDigits.nd rfl (by first | exact Or.inl rfl | exact Or.inr rfl))
      (pss_cons (ps_set (i := 5) scLawDigits.nd rfl (by first | exact Or.inl rfl | exact Or.inr rfl) (pe_op op_mod (pe_callTy call_int1 (by rfl) T.b_int (by decide +kernel) (pa_cons (pe_op op_add (pe_op op_add (pe_op op_mulW (pv 5) pe_int) (pe_op op_mulW pe_int (pv 6))) pe_int) pa_nil)) pe_int))
      (pss_one (ps_expr (pe_bm PySem.F.plainAttrs_list PySem.F.slot_list_append PySem.F.type_list_append mt_append (pv 2) (pa_cons (pe_op op_mod (pe_op op_fdivW (pe_op op_mod (pe_callTy call_int1 (by rfl) T.b_int (by decide +kernel) (pa_cons (pe_op op_mulW (pv 5) (pe_op op_add (pe_op op_fdivW (pv 5) pe_int) pe_int)) pa_nil)) pe_int) pe_int) (pe_ix (DL.ix_seqC (K := K) rfl) (pv 1) (pv 6) (fun _ _ => rfl))) pa_nil))))))
      (pss_one (ps_ret (pv 2)))))))), ?_⟩
  refine sd_fn h (fun _ => Nat.le_of_ble_eq_true rfl) ?_
  try dsimp only [L2.cxOf]
  intro ⟨cell, sizes⟩ hp
  obtain ⟨hs, hl⟩ : (∀ s ∈ sizes, 0 < s ∧ s < 2 ^ 60) ∧ sizes.length ≤ 1000 := hp
  show SD K _ [.sh (.int cell), .sh (.lst (dI sizes)), .no, .no, .no, .no, .no] _
  refine sd_then (sd_asgL (ds := []) (el_lst ea_nil (by decide)) ?_)
  refine sd_then (sd_asg (d := .int cell) (by by_place) ?_)
  show SD K _ [.sh (.int cell), .sh (.lst (dI sizes)), .ow [], .sh (.int cell), .no, .no, .no] _
  have szl : sizes.length < sizeLine := by rw [PySem.sizeLine_eq]; omega
  refine sd_then (sd_if (x := decide (cell ≥ 10 ^ 18)) (EvT.is (by by_place <;> by_in) ?_) (fun h => ?_) (fun h => sd_next ?_))
  · rw [pow18]; rfl
  · have h1 : cell ≥ 10 ^ 18 := of_decide_eq_true h
    refine sd_then (sd_asg (d := .int (cell - 10 ^ 18)) (EvD.is (by by_place <;> by_in) (by rw [pow18]; rfl)) ?_)
    show SD K _ [.sh (.int cell), .sh (.lst (dI sizes)), .ow [], .sh (.int (cell - 10 ^ 18)), .no, .no, .no] _
    refine sd_then (sd_forLn [4] (a := .lst (dI sizes)) (ds := dI sizes) (by by_place) (.inl rfl) (fun m ρ => ρ = [.sh (.int cell), .sh (.lst (dI sizes)), .ow (dI (bigD (cell - 10 ^ 18) (sizes.take m))), .sh (.int (bigR (cell - 10 ^ 18) (sizes.take m))), .no, .no, .no]) rfl (fun m d ρ hd hI => ?_) (fun ρ hI => ?_))
    · subst hI
      obtain ⟨x, hx, rfl⟩ := get_dI hd
      have hx2 := hs x (List.mem_of_getElem? hx)
      have hm : m < sizes.length := (List.getElem?_eq_some_iff.mp hx).1
      refine ⟨rfl, ?_⟩
      show SD K _ [.sh (.int cell), .sh (.lst (dI sizes)), .ow (dI (bigD (cell - 10 ^ 18) (sizes.take m))), .sh (.int (bigR (cell - 10 ^ 18) (sizes.take m))), .sh (.int x), .no, .no] _
      refine sd_then (sd_app (i := 2) (d := .int (bigR (cell - 10 ^ 18) (sizes.take m) % x)) rfl (by by_place <;> by_in) (by rw [List.length_map, bigD_len, List.length_take]; omega) ?_)
      show SD K _ [.sh (.int cell), .sh (.lst (dI sizes)), .ow (dI (bigD (cell - 10 ^ 18) (sizes.take m)) ++ [.int (bigR (cell - 10 ^ 18) (sizes.take m) % x)]), .sh (.int (bigR (cell - 10 ^ 18) (sizes.take m))), .sh (.int x), .no, .no] _
      refine sd_asg (d := .int (bigR (cell - 10 ^ 18) (sizes.take m) / x)) (by by_place <;> by_in) ?_
      rw [take_snoc hx, bigD_snoc, bigR_snoc, dI_append]
      rfl
    · subst hI
      rw [List.length_map, List.take_length]
      refine sd_retO (i := 2) rfl ?_
      show Ret.ow _ = Ret.ow _
      rw [show digitsM (cell, sizes).1 (cell, sizes).2 = bigD (cell - 10 ^ 18) sizes from if_pos h1]
  · have h1 : ¬ cell ≥ 10 ^ 18 := of_decide_eq_false h
    refine sd_then (sd_asg (d := .int (cell % 2147483629)) (by by_place <;> by_in) ?_)
    show SD K _ [.sh (.int cell), .sh (.lst (dI sizes)), .ow [], .sh (.int cell), .no, .sh (.int (cell % 2147483629)), .no] _
    have h0 : 0 ≤ cell % 2147483629 ∧ cell % 2147483629 < 2147483647 := by omega
    refine sd_then (sd_forRn [6] (z := (sizes.length : Int)) (EvA.is (by by_place) (by rw [List.length_map])) (by omega) (fun m ρ => ρ = [.sh (.int cell), .sh (.lst (dI sizes)), .ow (dI (smallD (cell % 2147483629) 0 (sizes.take m))), .sh (.int cell), .no, .sh (.int (seedR (cell % 2147483629) 0 (sizes.take m))), .no]) rfl (fun m ρ hm hI => ?_) (fun ρ hI => ?_))
    · subst hI
      refine ⟨rfl, ?_⟩
      have hm : m < sizes.length := by omega
      have hx : sizes[m]? = some sizes[m] := List.getElem?_eq_getElem hm
      have hx2 := hs _ (List.mem_of_getElem? hx)
      have hb := seedR_lt (sizes.take m) _ 0 h0
      have hn := nextS_lt (seedR (cell % 2147483629) 0 (sizes.take m)) m
      show SD K _ [.sh (.int cell), .sh (.lst (dI sizes)), .ow (dI (smallD (cell % 2147483629) 0 (sizes.take m))), .sh (.int cell), .no, .sh (.int (seedR (cell % 2147483629) 0 (sizes.take m))), .sh (.int m)] _
      refine sd_then (sd_asg (d := .int (nextS (seedR (cell % 2147483629) 0 (sizes.take m)) m)) (EvD.is (by by_place <;> by_in) (by rfl)) ?_)
      show SD K _ [.sh (.int cell), .sh (.lst (dI sizes)), .ow (dI (smallD (cell % 2147483629) 0 (sizes.take m))), .sh (.int cell), .no, .sh (.int (nextS (seedR (cell % 2147483629) 0 (sizes.take m)) m)), .sh (.int m)] _
      have hg := dI_get hx
      refine sd_app (i := 2) (d := .int (pick (nextS (seedR (cell % 2147483629) 0 (sizes.take m)) m) sizes[m])) rfl (EvD.is (by by_place <;> by_in) (by rfl)) (by rw [List.length_map, smallD_len, List.length_take]; omega) ?_
      have ht : (sizes.take m).length = m := by rw [List.length_take]; omega
      rw [take_snoc hx, smallD_snoc, seedR_snoc, ht, Nat.zero_add, dI_append]
      rfl
    · subst hI
      rw [Int.toNat_natCast, List.take_length]
      refine sd_retO (i := 2) rfl ?_
      show Ret.ow _ = Ret.ow _
      rw [show digitsM (cell, sizes).1 (cell, sizes).2 = smallD (cell % 2147483629) 0 sizes from if_neg h1]
theorem scLawGcd : FnScope ["one", "two", "left", "right", "turn", "held"] ["one", "two"] (defScope sLawGcd) := ⟨rfl, rfl, rfl, by decide +kernel, rfl, by decide +kernel, by decide +kernel⟩
theorem okLawGcd (T : Txt K mg)  : Cal P w K mg base 1 "_law_gcd" ["one", "two"] (spLawGcd K) := by
  refine cal_mk T.f_LawGcd T.g_LawGcd scLawGcd (fun vs H Q E h => spT_len (n := 2) (fun _ => rfl) h) (fun _ _ _ _ _ _ us hl => match us, hl with | [_, _], _ => rfl) (fun cdv A outer s H vs Q E hr h => ?_)
  refine ⟨_, (pss_cons (ps_set (i := 2) scLawGcd.nd rfl (by first | exact Or.inl rfl | exact Or.inr rfl) (pe_callB call_abs (by rfl) T.b_abs (by decide +kernel) (pa_cons (pv 0) pa_nil)))
      (pss_cons (ps_set (i := 3) scLawGcd.nd rfl (by first | exact Or.inl rfl | exact Or.inr rfl) (pe_callB call_abs (by rfl) T.b_abs (by decide +kernel) (pa_cons (pv 1) pa_nil)))
      (pss_cons (ps_for PassesOwn.never rfl (pi_range1 (by rfl) T.b_range (pa_cons pe_int pa_nil)) (pg_name (i := 4) scLawGcd.nd rfl (by first | exact Or.inl rfl | exact Or.inr rfl))
      (pss_cons (ps_if (pt_cmpR op_eq (pv 3) pe_int (nomark _))
      (pss_one ps_break)
      pss_nil)
      (pss_cons (ps_set (i := 5) scLawGcd.nd rfl (by first | exact Or.inl rfl | exact Or.inr rfl) (pe_op op_mod (pe_callTy call_int1 (by rfl) T.b_int (by decide +kernel) (pa_cons (pv 2) pa_nil)) (pv 3)))
      (pss_cons (ps_set (i := 2) scLawGcd.nd rfl (by first | exact Or.inl rfl | exact Or.inr rfl) (pv 3))
      (pss_one (ps_set (i := 3) scLawGcd.nd rfl (by first | exact Or.inl rfl | exact Or.inr rfl) (pv 5)))))))
      (pss_one (ps_ret (pv 2)))))), ?_⟩
  refine sd_fn h (fun _ => Nat.le_of_ble_eq_true rfl) ?_
  try dsimp only [L2.cxOf]
  intro ⟨one, two⟩ hp
  obtain ⟨h1, h2⟩ : Sm 49000 one ∧ Sm 49000 two := hp
  show SD K _ [.sh (.int one), .sh (.int two), .no, .no, .no, .no] _
  refine sd_then (sd_asg (d := .int ((one.natAbs : Nat) : Int)) (EvD.is (by by_place) (by rw [abs_eq])) ?_)
  refine sd_then (sd_asg (d := .int ((two.natAbs : Nat) : Int)) (EvD.is (by by_place) (by rw [abs_eq])) ?_)
  show SD K _ [.sh (.int one), .sh (.int two), .sh (.int ((one.natAbs : Nat) : Int)), .sh (.int ((two.natAbs : Nat) : Int)), .no, .no] _
  refine sd_cut (fun ρ => ρ = [.sh (.int one), .sh (.int two), .sh (.int ((Nat.gcd one.natAbs two.natAbs : Nat) : Int)), .sh (.int 0), .no, .no]) (sd_forRn [4, 5] (z := 100000) (by by_place) (by decide)
    (fun m ρ => ∃ l r : Nat, ρ = [.sh (.int one), .sh (.int two), .sh (.int (l : Int)), .sh (.int (r : Int)), .no, .no] ∧ Gw one.natAbs two.natAbs m l r) ⟨_, _, rfl, Gw.start _ _⟩ (fun m ρ hm hI => ?_) (fun ρ hI => ?_)) (fun ρ hM => ?_)
  · obtain ⟨l, r, rfl, G⟩ := hI
    refine ⟨rfl, ?_⟩
    show SD K _ [.sh (.int one), .sh (.int two), .sh (.int (l : Int)), .sh (.int (r : Int)), .sh (.int (m : Int)), .no] _
    refine sd_then (sd_if (x := decide ((r : Int) = 0)) (by by_place) (fun h => sd_break ?_) (fun h => sd_next ?_))
    · have h0 : r = 0 := by have := of_decide_eq_true h; omega
      subst h0
      show [_, _, _, _, _, _] = _
      rw [G.end_ rfl]
      rfl
    · have h0 : ¬ (r : Int) = 0 := of_decide_eq_false h
      refine sd_then (sd_asg (d := .int (((l % r : Nat)) : Int)) (EvD.is (by by_place <;> by_in) (by rw [Int.natCast_emod])) ?_)
      show SD K _ [.sh (.int one), .sh (.int two), .sh (.int (l : Int)), .sh (.int (r : Int)), .sh (.int (m : Int)), .sh (.int (((l % r : Nat)) : Int))] _
      refine sd_then (sd_asg (d := .int (r : Int)) (by by_place) ?_)
      refine sd_asg (d := .int (((l % r : Nat)) : Int)) (by by_place) ?_
      exact ⟨r, l % r, rfl, G.turn (by omega)⟩
  · obtain ⟨l, r, rfl, G⟩ := hI
    have h0 : r = 0 := G.done (show 100000 ≤ 100000 from Nat.le_refl _) h1 h2
    subst h0
    show [_, _, _, _, _, _] = _
    rw [G.end_ rfl]
    rfl
  · subst hM
    exact sd_ret (by by_place) rfl
theorem scLawCommon : FnScope ["numbers", "common", "number"] ["numbers"] (defScope sLawCommon) := ⟨rfl, rfl, rfl, by decide +kernel, rfl, by decide +kernel, by decide +kernel⟩
theorem okLawCommon (T : Txt K mg) (c_LawGcd : Cal P w K mg base 1 "_law_gcd" ["one", "two"] (spLawGcd K)) : Cal P w K mg base 2 "_law_common" ["numbers"] (spLawCommon K) := by
  refine cal_mk T.f_LawCommon T.g_LawCommon scLawCommon (fun vs H Q E h => spT_len (n := 1) (fun _ => rfl) h) (fun _ _ _ _ _ _ us hl => match us, hl with | [_], _ => rfl) (fun cdv A outer s H vs Q E hr h => ?_)
  refine ⟨_, (pss_cons (ps_set (i := 1) scLawCommon.nd rfl (by first | exact Or.inl rfl | exact Or.inr rfl) pe_int)
      (pss_cons (ps_for PassesOwn.never rfl (DL.pi_seqC (K := K) rfl (pv 0)) (pg_name (i := 2) scLawCommon.nd rfl (by first | exact Or.inl rfl | exact Or.inr rfl))
      (pss_one (ps_set (i := 1) scLawCommon.nd rfl (by first | exact Or.inl rfl | exact Or.inr rfl) (DL.pe_cal c_LawGcd (hr.mono (by decide)) (pa_cons (pv 1) (pa_cons (pv 2) pa_nil))))))
      (pss_one (ps_ret (pv 1))))), ?_⟩
  refine sd_fn h (fun _ => Nat.le_of_ble_eq_true rfl) ?_
  try dsimp only [L2.cxOf]
  intro ⟨k, ns⟩ hp
  have hp : ∀ n ∈ ns, Sm 49000 n := hp
  show SD K _ [.sh (seqD k (dI ns)), .no, .no] _
  refine sd_then (sd_asg (d := .int 0) (by by_place) ?_)
  show SD K _ [.sh (seqD k (dI ns)), .sh (.int 0), .no] _
  refine sd_then (sd_forQn [2] (ds := dI ns) (by by_place) (fun m ρ => ρ = [.sh (seqD k (dI ns)), .sh (.int ((gcdL (ns.take m) : Nat) : Int)), .no]) rfl (fun m d ρ hd hI => ?_) (fun ρ hI => ?_))
  · subst hI
    obtain ⟨x, hx, rfl⟩ := get_dI hd
    show SD K _ [.sh (seqD k (dI ns)), .sh (.int ((gcdL (ns.take m) : Nat) : Int)), .sh (.int x)] _
    have hg : gcdL (ns.take m) < 2 ^ 49000 := gcdL_lt (by decide) fun n hn => hp n (List.mem_of_mem_take hn)
    refine sd_asg (d := .int ((gcdL (ns.take (m + 1)) : Nat) : Int)) (ed_call (((gcdL (ns.take m) : Nat) : Int), x) (by by_place) ⟨?_, hp x (List.mem_of_getElem? hx)⟩ ?_) rfl
    · show (((gcdL (ns.take m) : Nat) : Int)).natAbs < 2 ^ 49000
      rw [Int.natAbs_natCast]
      exact hg
    · show Ret.sh (.int ((Nat.gcd (((gcdL (ns.take m) : Nat) : Int)).natAbs x.natAbs : Nat) : Int)) = _
      rw [Int.natAbs_natCast]
      unfold gcdL
      rw [foldl_take_succ _ _ _ _ x hx]
  · subst hI
    rw [List.length_map, List.take_length]
    exact sd_ret (by by_place) rfl
theorem scLawIsRow : FnScope ["value", "size", "top"] ["value", "size"] (defScope sLawIsRow) := ⟨rfl, rfl, rfl, by decide +kernel, rfl, by decide +kernel, by decide +kernel⟩
theorem okLawIsRow (T : Txt K mg) (c_LawWhole : Cal P w K mg base 1 "_law_whole" ["value"] (spLawWhole K)) (c_LawGcd : Cal P w K mg base 1 "_law_gcd" ["one", "two"] (spLawGcd K)) (c_LawCommon : Cal P w K mg base 2 "_law_common" ["numbers"] (spLawCommon K)) : Cal P w K mg base 3 "_law_is_row" ["value", "size"] (spLawIsRow K) := by
  refine cal_mk T.f_LawIsRow T.g_LawIsRow scLawIsRow (fun vs H Q E h => spT_len (n := 2) (fun _ => rfl) h) (fun _ _ _ _ _ _ us hl => match us, hl with | [_, _], _ => rfl) (fun cdv A outer s H vs Q E hr h => ?_)
  refine ⟨_, (pss_cons (ps_if (PW.pt (pw_or (pt_not (pt_val (pe_callB (DL.call_isiC (K := K) rfl) (by rfl) T.b_isinstance (by decide +kernel) (pa_cons (pv 0) (pa_cons (pe_bltn (v := .ty "tuple") (by rfl) T.b_tuple (by decide +kernel) rfl) pa_nil))))) (pw_or (pt_cmpR op_ne (pe_callB (DL.call_len_seqC (K := K) rfl) (by rfl) T.b_len (by decide +kernel) (pa_cons (pv 0) pa_nil)) pe_int (nomark _)) (pw_or (pt_not (pt_val (pe_callB (DL.call_isiC (K := K) rfl) (by rfl) T.b_isinstance (by decide +kernel) (pa_cons (pe_ix (DL.ix_seqC (K := K) rfl) (pv 0) pe_int (fun _ _ => rfl)) (pa_cons (pe_bltn (v := .ty "tuple") (by rfl) T.b_tuple (by decide +kernel) rfl) pa_nil))))) (pw_or1 (pt_cmpR op_ne (pe_callB (DL.call_len_seqC (K := K) rfl) (by rfl) T.b_len (by decide +kernel) (pa_cons (pe_ix (DL.ix_seqC (K := K) rfl) (pv 0) pe_int (fun _ _ => rfl)) pa_nil)) (pv 1) (nomark _)))))))
      (pss_one (ps_ret pe_bl))
      pss_nil)
      (pss_cons (ps_if (PW.pt (pw_or (pt_not (pt_val (DL.pe_cal c_LawWhole (hr.mono (by decide)) (pa_cons (pe_ix (DL.ix_seqC (K := K) rfl) (pv 0) pe_int (fun _ _ => rfl)) pa_nil)))) (pw_or (pt_cmpR op_lt (pe_ix (DL.ix_seqC (K := K) rfl) (pv 0) pe_int (fun _ _ => rfl)) pe_int (nomark _)) (pw_or1 (pt_cmpR op_gt (pe_callB (DL.call_len_seqC (K := K) rfl) (by rfl) T.b_len (by decide +kernel) (pa_cons (pe_lc (own := [("top", 2)]) (g := gName 2) (by rfl) scLawIsRow.nd (DL.pi_tupC (K := K) rfl (pe_ix (DL.ix_seqC (K := K) rfl) (pv 0) pe_int (fun _ _ => rfl))) (blkOk_by (own := [("top", 2)]) (by kernel_rfl)) (fun _ _ _ _ _ => (pg_name (i := 2) scLawIsRow.nd rfl (by first | exact Or.inl rfl | exact Or.inr rfl))) (fun _ _ _ _ _ => (pts_one (pt_not (pt_val (DL.pe_cal c_LawWhole (hr.mono (by decide)) (pa_cons (pv 2) pa_nil)))))) (fun _ _ _ _ _ => (pv 2))) pa_nil)) pe_int (nomark _))))))
      (pss_one (ps_ret pe_bl))
      pss_nil)
      (pss_one (ps_ret (pe_cmpR op_eq (DL.pe_cal c_LawGcd (hr.mono (by decide)) (pa_cons (DL.pe_cal c_LawCommon (hr.mono (by decide)) (pa_cons (pe_ix (DL.ix_seqC (K := K) rfl) (pv 0) pe_int (fun _ _ => rfl)) pa_nil)) (pa_cons (pe_ix (DL.ix_seqC (K := K) rfl) (pv 0) pe_int (fun _ _ => rfl)) pa_nil))) pe_int (nomark _)))))), ?_⟩
  refine sd_fn h (fun _ => Nat.le_of_ble_eq_true rfl) ?_
  try dsimp only [L2.cxOf]
  intro ⟨tops, line, size⟩ hp
  obtain ⟨h1, h2, h3⟩ : (∀ n ∈ tops, Sm 49000 n) ∧ Sm 49000 line ∧ tops.length ≤ 10000 := hp
  show SD K _ [.sh (.tup [.tup (dI tops), .int line]), .sh (.int size), .no] _
  refine sd_then (sd_if (x := !decide ((tops.length : Int) = size)) (et_orF (EvT.is (by by_place) (by rfl)) (et_orF (EvT.is (by by_place) (by rfl)) (et_orF (EvT.is (by by_place <;> by_in) (by rfl)) (EvT.is (by by_place <;> by_in) (by rw [List.length_map]))))) (fun h => ?_) (fun h => sd_next ?_))
  · refine sd_ret (d := .bl false) (by by_place) ?_
    have h0 : decide ((tops.length : Int) = size) = false := by simpa using h
    show Ret.sh _ = Ret.sh (.bl (isRowM tops line size))
    unfold isRowM
    rw [h0]
    rfl
  · have h0 : decide ((tops.length : Int) = size) = true := by simpa using h
    show SD K _ [.sh (.tup [.tup (dI tops), .int line]), .sh (.int size), .no] _
    refine sd_then (sd_if (x := decide (line < 1)) (et_orF (EvT.is (et_not (x := true) (et_B (ed_call line (by by_place <;> by_in) trivial rfl))) (by rfl)) (EvT.is (et_or (x := decide (line < 1)) (y := false) (by by_place <;> by_in) fun _ => ?_) (by simp))) (fun h => ?_) (fun h => sd_next ?_))
    · refine EvT.is (et_test (ed_op (a := .int 0) (EvD.is (ed_cb (ea_cons (EvL.data (EvL.is (el_lcT (ds := dI tops) (fun _ => false) (fun _ => .non) (by by_place <;> by_in) (by rw [List.length_map]; omega) fun i d hd => ?_) ?_)) ea_nil) (cd_len (ds := []) rfl)) (by rfl)) (by by_place) od_B0)) (by rfl)
      · obtain ⟨x, hx, rfl⟩ := get_dI hd
        refine ⟨_, tg_name (by decide), ?_, fun z => by cases z⟩
        exact EvT.is (et_not (x := true) (et_B (ed_call x (by by_place) trivial rfl))) (by rfl)
      · unfold given
        simp
    · refine sd_ret (d := .bl false) (by by_place) ?_
      have h4 : line < 1 := of_decide_eq_true h
      have h5 : decide (1 ≤ line) = false := decide_eq_false (by omega)
      show Ret.sh _ = Ret.sh (.bl (isRowM tops line size))
      unfold isRowM
      rw [h5]
      simp
    · have h4 : ¬ line < 1 := of_decide_eq_false h
      have h5 : decide (1 ≤ line) = true := decide_eq_true (by omega)
      show SD K _ [.sh (.tup [.tup (dI tops), .int line]), .sh (.int size), .no] _
      have hg : gcdL tops < 2 ^ 49000 := gcdL_lt (by decide) h1
      refine sd_ret (d := .bl (isRowM tops line size)) (EvD.is (ed_op (a := .int ((Nat.gcd (gcdL tops) line.natAbs : Nat) : Int)) (ed_call (((gcdL tops : Nat) : Int), line) (ea_cons (ed_call (true, tops) (by by_place <;> by_in) h1 rfl) (by by_place <;> by_in)) ⟨?_, h2⟩ ?_) (by by_place) (by by_place)) ?_) rfl
      · show (((gcdL tops : Nat) : Int)).natAbs < 2 ^ 49000
        rw [Int.natAbs_natCast]
        exact hg
      · show Ret.sh (.int ((Nat.gcd (((gcdL tops : Nat) : Int)).natAbs line.natAbs : Nat) : Int)) = _
        rw [Int.natAbs_natCast]
      · unfold isRowM
        rw [h0, h5, Bool.true_and, Bool.true_and]
        congr 1
        apply decide_eq_decide.mpr
        omega
theorem scLawSum : FnScope ["parts", "tops", "j"] ["parts", "tops"] (defScope sLawSum) := ⟨rfl, rfl, rfl, by decide +kernel, rfl, by decide +kernel, by decide +kernel⟩
theorem okLawSum (T : Txt K mg)  : Cal P w K mg base 1 "_law_sum" ["parts", "tops"] (spLawSum K) := by
  refine cal_mk T.f_LawSum T.g_LawSum scLawSum (fun vs H Q E h => spT_len (n := 2) (fun _ => rfl) h) (fun _ _ _ _ _ _ us hl => match us, hl with | [_, _], _ => rfl) (fun cdv A outer s H vs Q E hr h => ?_)
  refine ⟨_, (pss_one (ps_ret (pe_callB (DL.cr_sumC (K := K) rfl rfl) (by rfl) T.b_sum (by decide +kernel) (pa_cons (pe_lc (own := [("j", 2)]) (g := gName 2) (by rfl) scLawSum.nd (pi_range1 (by rfl) T.b_range (pa_cons (pe_callB (DL.call_len_seqC (K := K) rfl) (by rfl) T.b_len (by decide +kernel) (pa_cons (pv 0) pa_nil)) pa_nil)) (blkOk_by (own := [("j", 2)]) (by kernel_rfl)) (fun _ _ _ _ _ => (pg_name (i := 2) scLawSum.nd rfl (by first | exact Or.inl rfl | exact Or.inr rfl))) (fun _ _ _ _ _ => pts_nil) (fun _ _ _ _ _ => (pe_op op_mulW (pe_ix (DL.ix_seqC (K := K) rfl) (pv 0) (pv 2) (fun _ _ => rfl)) (pe_ix (DL.ix_seqC (K := K) rfl) (pv 1) (pv 2) (fun _ _ => rfl))))) pa_nil)))), ?_⟩
  refine sd_fn h (fun _ => Nat.le_of_ble_eq_true rfl) ?_
  try dsimp only [L2.cxOf]
  intro ⟨kp, kt, ps, ts⟩ hp
  obtain ⟨hl, h1, h2, h3⟩ : ps.length ≤ ts.length ∧ ps.length ≤ 10000 ∧ (∀ x ∈ ps, Sm 400000 x) ∧ (∀ x ∈ ts, Sm 400000 x) := hp
  show SD K _ [.sh (seqD kp (dI ps)), .sh (seqD kt (dI ts)), .no] _
  refine sd_ret (d := .int (dotL ps ts)) (EvD.is (ed_cb (ea_cons (EvL.data (EvL.is (cs := dI (mulL ps ts)) (el_lcR (n := (ps.length : Int)) (fun _ => true) (fun j => .int ((mulL ps ts).getD j 0)) (EvA.is (by by_place <;> by_in) (by rw [List.length_map])) (by omega) (by omega) fun j hj => ?_) ?_)) ea_nil) (cd_sum (ns := mulL ps ts) (.inl rfl))) (by rw [mulL_sum])) rfl
  · have hj : j < ps.length := by omega
    have e1 : ps[j]? = some ps[j] := List.getElem?_eq_getElem hj
    have e2 : ts[j]? = some ts[j] := List.getElem?_eq_getElem (by omega)
    have g1 := dI_get e1
    have g2 := dI_get e2
    have c : CMulW ps[j] ts[j] := Sm.mulW (h2 _ (List.getElem_mem _)) (h3 _ (List.getElem_mem _)) (by decide)
    refine ⟨_, tg_name (by decide), et_yes, fun _ => EvD.is (by by_place <;> by_in) ?_⟩
    rw [List.getD_eq_getElem?_getD, mulL_get _ _ _ _ _ e1 e2]
    rfl
  · rw [given_all]
    refine range_dI (by rw [mulL_len _ _ hl, Int.toNat_natCast]) fun j x h => ?_
    rw [List.getD_eq_getElem?_getD, h]
    rfl
theorem scLawLong : FnScope ["cell", "many", "top", "rest", "found", "digit"] ["cell", "many", "top"] (defScope sLawLong) := ⟨rfl, rfl, rfl, by decide +kernel, rfl, by decide +kernel, by decide +kernel⟩
theorem okLawLong (T : Txt K mg) (c_LawDigits : Cal P w K mg base 1 "_law_digits" ["cell", "sizes"] (spLawDigits K)) : Cal P w K mg base 2 "_law_long" ["cell", "many", "top"] (spLawLong K) := by
  refine cal_mk T.f_LawLong T.g_LawLong scLawLong (fun vs H Q E h => spT_len (n := 3) (fun _ => rfl) h) (fun _ _ _ _ _ _ us hl => match us, hl with | [_, _, _], _ => rfl) (fun cdv A outer s H vs Q E hr h => ?_)
  refine ⟨_, (pss_cons (ps_set (i := 3) scLawLong.nd rfl (by first | exact Or.inl rfl | exact Or.inr rfl) (pe_op op_sub (pe_callTy call_int1 (by rfl) T.b_int (by decide +kernel) (pa_cons (pv 0) pa_nil)) (pe_op op_pow pe_int pe_int)))
      (pss_cons (ps_set (i := 4) scLawLong.nd rfl (by first | exact Or.inl rfl | exact Or.inr rfl) (pe_lst pa_nil))
      (pss_cons (ps_for PassesOwn.never rfl (DL.pi_listC (K := K) rfl (DL.pe_cal c_LawDigits (hr.mono (by decide)) (pa_cons (pe_op op_mod (pe_callTy call_int1 (by rfl) T.b_int (by decide +kernel) (pa_cons (pv 0) pa_nil)) (pe_op op_pow pe_int pe_int)) (pa_cons (pe_op op_rep (pe_lst (pa_cons pe_int pa_nil)) (pv 1)) pa_nil)))) (pg_name (i := 5) scLawLong.nd rfl (by first | exact Or.inl rfl | exact Or.inr rfl))
      (pss_one (ps_if (pt_cmpR op_gt (pv 3) pe_int (nomark _))
      (pss_cons (ps_expr (pe_bm PySem.F.plainAttrs_list PySem.F.slot_list_append PySem.F.type_list_append mt_append (pv 4) (pa_cons (pe_op op_mod (pe_callTy call_int1 (by rfl) T.b_int (by decide +kernel) (pa_cons (pv 3) pa_nil)) (pv 2)) pa_nil)))
      (pss_one (ps_set (i := 3) scLawLong.nd rfl (by first | exact Or.inl rfl | exact Or.inr rfl) (pe_op op_fdivW (pe_callTy call_int1 (by rfl) T.b_int (by decide +kernel) (pa_cons (pv 3) pa_nil)) (pv 2)))))
      (pss_one (ps_expr (pe_bm PySem.F.plainAttrs_list PySem.F.slot_list_append PySem.F.type_list_append mt_append (pv 4) (pa_cons (pe_op op_mod (pe_callTy call_int1 (by rfl) T.b_int (by decide +kernel) (pa_cons (pe_op op_add (pe_op op_pow (pe_op op_add (pv 5) pe_int) pe_int) (pe_op op_mulW (pv 5) pe_int)) pa_nil)) (pv 2)) pa_nil)))))))
      (pss_one (ps_ret (pv 4)))))), ?_⟩
  refine sd_fn h (fun _ => Nat.le_of_ble_eq_true rfl) ?_
  try dsimp only [L2.cxOf]
  intro ⟨cell, many, top⟩ hp
  obtain ⟨h1, h2, h3⟩ : 0 < top ∧ Sm 8000 top ∧ many ≤ 1000 := hp
  show SD K _ [.sh (.int cell), .sh (.int many), .sh (.int top), .no, .no, .no] _
  refine sd_then (sd_asg (d := .int (cell - 10 ^ 18)) (EvD.is (by by_place <;> by_in) (by rw [pow18]; rfl)) ?_)
  refine sd_then (sd_asgL (ds := []) (el_lst ea_nil (by decide)) ?_)
  show SD K _ [.sh (.int cell), .sh (.int many), .sh (.int top), .sh (.int (cell - 10 ^ 18)), .ow [], .no] _
  have hrep : DL.D.lst (List.replicate (many : Int).toNat (.int 2147483629)) = .lst (dI (List.replicate many 2147483629)) := by
    rw [Int.toNat_natCast]
    unfold dI
    rw [List.map_replicate]
  refine sd_then (sd_forLn [5] (a := .lst (dI (digitsM (cell % 10 ^ 18) (List.replicate many 2147483629)))) (ds := dI (digitsM (cell % 10 ^ 18) (List.replicate many 2147483629)))
    (EvL.data (el_call ((cell % 10 ^ 18), List.replicate many 2147483629) (ea_cons (EvD.is (by by_place <;> by_in) (by rw [pow18]; rfl)) (ea_cons (EvD.is (EvL.data (el_op (EvL.data (el_lst (by by_place) (by decide))) (by by_place) (ol_rep (by omega) (by omega)))) hrep) ea_nil)) ⟨fun s hs => ?_, ?_⟩ rfl)) (.inl rfl)
    (fun m ρ => ρ = [.sh (.int cell), .sh (.int many), .sh (.int top), .sh (.int (longR top (cell - 10 ^ 18) ((digitsM (cell % 10 ^ 18) (List.replicate many 2147483629)).take m))), .ow (dI (longD (cell - 10 ^ 18) top ((digitsM (cell % 10 ^ 18) (List.replicate many 2147483629)).take m))), .no]) rfl (fun m d ρ hd hI => ?_) (fun ρ hI => ?_))
  · rw [List.eq_of_mem_replicate hs]
    decide
  · show (List.replicate many (2147483629 : Int)).length ≤ 1000
    rw [List.length_replicate]
    exact h3
  · subst hI
    obtain ⟨x, hx, rfl⟩ := get_dI hd
    have hb := digitsM_rep (cell % 10 ^ 18) 2147483629 many (by decide) x (List.mem_of_getElem? hx)
    have hm : m < many := by
      have := (List.getElem?_eq_some_iff.mp hx).1
      rw [digitsM_len, List.length_replicate] at this
      exact this
    generalize digitsM (cell % 10 ^ 18) (List.replicate many 2147483629) = ds at hx
    refine ⟨rfl, ?_⟩
    show SD K _ [.sh (.int cell), .sh (.int many), .sh (.int top), .sh (.int (longR top (cell - 10 ^ 18) (ds.take m))), .ow (dI (longD (cell - 10 ^ 18) top (ds.take m))), .sh (.int x)] _
    have hz : (dI (longD (cell - 10 ^ 18) top (ds.take m))).length < sizeLine := by
      rw [List.length_map, longD_len, List.length_take, PySem.sizeLine_eq]
      omega
    refine sd_if (x := decide (longR top (cell - 10 ^ 18) (ds.take m) > 0)) (by by_place) (fun h => ?_) (fun h => ?_)
    · have h := of_decide_eq_true h
      have cd : CDivW (longR top (cell - 10 ^ 18) (ds.take m)) top := divW h1 h2 (by decide)
      refine sd_then (sd_app (i := 4) (d := .int (longR top (cell - 10 ^ 18) (ds.take m) % top)) rfl (by by_place <;> by_in) hz ?_)
      refine sd_asg (d := .int (longR top (cell - 10 ^ 18) (ds.take m) / top)) (by by_place <;> by_in) ?_
      rw [take_snoc hx, longD_snoc, longR_snoc, if_pos h, dI_append]
      unfold longP
      rw [if_pos h]
      rfl
    · have h := of_decide_eq_false h
      refine sd_app (i := 4) (d := .int (((x + 3) ^ 52 + x * 974711) % top)) rfl (EvD.is (by by_place <;> by_in) (by rfl)) hz ?_
      rw [take_snoc hx, longD_snoc, longR_snoc, if_neg h, dI_append]
      unfold longP
      rw [if_neg h]
      rfl
  · subst hI
    rw [List.length_map, List.take_length]
    exact sd_retO (i := 4) rfl rfl
theorem scLawMixed : FnScope ["rows", "factors", "aim", "i", "j"] ["rows", "factors"] (defScope sLawMixed) := ⟨rfl, rfl, rfl, by decide +kernel, rfl, by decide +kernel, by decide +kernel⟩
theorem okLawMixed (T : Txt K mg)  : Cal P w K mg base 1 "_law_mixed" ["rows", "factors"] (spLawMixed K) := by
  refine cal_mk T.f_LawMixed T.g_LawMixed scLawMixed (fun vs H Q E h => spT_len (n := 2) (fun _ => rfl) h) (fun _ _ _ _ _ _ us hl => match us, hl with | [_, _], _ => rfl) (fun cdv A outer s H vs Q E hr h => ?_)
  refine ⟨_, (pss_cons (ps_set (i := 2) scLawMixed.nd rfl (by first | exact Or.inl rfl | exact Or.inr rfl) (pe_op op_rep (pe_lst (pa_cons pe_int pa_nil)) (pe_callB (DL.call_len_seqC (K := K) rfl) (by rfl) T.b_len (by decide +kernel) (pa_cons (pe_ix (DL.ix_seqC (K := K) rfl) (pv 0) pe_int (fun _ _ => rfl)) pa_nil))))
      (pss_cons (ps_for PassesOwn.never rfl (pi_range1 (by rfl) T.b_range (pa_cons (pe_callB (DL.call_len_seqC (K := K) rfl) (by rfl) T.b_len (by decide +kernel) (pa_cons (pv 0) pa_nil)) pa_nil)) (pg_name (i := 3) scLawMixed.nd rfl (by first | exact Or.inl rfl | exact Or.inr rfl))
      (pss_one (ps_set (i := 2) scLawMixed.nd rfl (by first | exact Or.inl rfl | exact Or.inr rfl) (pe_lc (own := [("j", 4)]) (g := gName 4) (by rfl) scLawMixed.nd (pi_range1 (by rfl) T.b_range (pa_cons (pe_callB (DL.call_len_seqC (K := K) rfl) (by rfl) T.b_len (by decide +kernel) (pa_cons (pv 2) pa_nil)) pa_nil)) (blkOk_by (own := [("j", 4)]) (by kernel_rfl)) (fun _ _ _ _ _ => (pg_name (i := 4) scLawMixed.nd rfl (by first | exact Or.inl rfl | exact Or.inr rfl))) (fun _ _ _ _ _ => pts_nil) (fun _ _ _ _ _ => (pe_op op_add (pe_ix (DL.ix_seqC (K := K) rfl) (pv 2) (pv 4) (fun _ _ => rfl)) (pe_op op_mulW (pe_ix (DL.ix_seqC (K := K) rfl) (pe_ix (DL.ix_seqC (K := K) rfl) (pv 0) (pv 3) (fun _ _ => rfl)) (pv 4) (fun _ _ => rfl)) (pe_ix (DL.ix_seqC (K := K) rfl) (pv 1) (pv 3) (fun _ _ => rfl)))))))))
      (pss_one (ps_ret (pv 2))))), ?_⟩
  refine sd_fn h (fun _ => Nat.le_of_ble_eq_true rfl) ?_
  try dsimp only [L2.cxOf]
  intro ⟨kf, rows, fs⟩ hp
  obtain ⟨h0, h1, h2, h3, h4, h5, h6⟩ : preMixed rows fs := hp
  obtain ⟨r0, rs, rfl⟩ := List.exists_cons_of_ne_nil h0
  have h1 : ∀ r ∈ r0 :: rs, r.length = r0.length := h1
  have h4 : r0.length ≤ 10000 := h4
  show SD K _ [.sh (.lst (dT (r0 :: rs))), .sh (seqD kf (dI fs)), .no, .no, .no] _
  have hz : (.lst (List.replicate ((dI r0).length : Int).toNat (.int 0)) : DL.D) = .lst (dI (List.replicate r0.length 0)) := by
    rw [Int.toNat_natCast, List.length_map]
    unfold dI
    rw [List.map_replicate]
  have g0 : atI (dT (r0 :: rs)) 0 = some (.lst (dI r0)) := atI_zero
  refine sd_then (sd_asgL (ds := dI (List.replicate r0.length 0)) (EvL.is (el_op (EvL.data (el_lst (by by_place) (by decide))) (by by_place) (ol_rep (by omega) (by rw [List.length_map]; omega))) (DL.D.lst.inj hz)) ?_)
  show SD K _ [.sh (.lst (dT (r0 :: rs))), .sh (seqD kf (dI fs)), .ow (dI (List.replicate r0.length 0)), .no, .no] _
  refine sd_then (sd_forRn [3, 4] (z := ((r0 :: rs).length : Int)) (EvA.is (by by_place) (by rw [dT_len])) (by omega)
    (fun m ρ => ρ = [.sh (.lst (dT (r0 :: rs))), .sh (seqD kf (dI fs)), .ow (dI (mixGo (List.replicate r0.length 0) ((r0 :: rs).take m) (fs.take m))), .no, .no]) rfl (fun m ρ hm hI => ?_) (fun ρ hI => ?_))
  · subst hI
    have hm : m < (r0 :: rs).length := by omega
    generalize hR : r0 :: rs = R at *
    have e1 : R[m]? = some R[m] := List.getElem?_eq_getElem hm
    have e2 : fs[m]? = some fs[m] := List.getElem?_eq_getElem (by omega)
    have g1 := dT_get e1
    have g2 := dI_get e2
    refine ⟨rfl, ?_⟩
    show SD K _ [.sh (.lst (dT R)), .sh (seqD kf (dI fs)), .ow (dI (mixGo (List.replicate r0.length 0) (R.take m) (fs.take m))), .sh (.int m), .no] _
    have hlen : (mixGo (List.replicate r0.length 0) (R.take m) (fs.take m)).length = r0.length := by
      rw [mixGo_len _ _ _ fun r hr => by rw [List.length_replicate, h1 r (List.mem_of_mem_take hr)]; exact Nat.le_refl _, List.length_replicate]
    generalize hA : mixGo (List.replicate r0.length 0) (R.take m) (fs.take m) = aim at *
    have hrl : R[m].length = r0.length := h1 _ (List.getElem_mem _)
    refine sd_asgLF (ds := dI (addRow fs[m] aim R[m])) (EvL.is (el_lcR (n := (aim.length : Int)) (fun _ => true) (fun j => .int ((addRow fs[m] aim R[m]).getD j 0)) (EvA.is (by by_place) (by rw [List.length_map])) (by omega) (by omega) fun j hj => ?_) ?_) (all_flat _) ?_
    · have hj : j < aim.length := by omega
      have e3 : aim[j]? = some aim[j] := List.getElem?_eq_getElem hj
      have e4 : R[m][j]? = some R[m][j] := List.getElem?_eq_getElem (by omega)
      have g3 := dI_get e3
      have g4 := dI_get e4
      have c : CMulW R[m][j] fs[m] := Sm.mulW (h5 _ (List.getElem_mem _) _ (List.getElem_mem _)) (h6 _ (List.getElem_mem _)) (by decide)
      refine ⟨_, tg_name (by decide), et_yes, fun _ => EvD.is (by by_place <;> by_in) ?_⟩
      rw [List.getD_eq_getElem?_getD, addRow_get _ _ _ _ _ _ e3 e4]
      rfl
    · rw [given_all]
      refine range_dI (by rw [addRow_len _ _ _ (by omega), Int.toNat_natCast]) fun j x h => ?_
      rw [List.getD_eq_getElem?_getD, h]
      rfl
    · show [_, _, _, _, _] = _
      rw [take_snoc e1, take_snoc e2, mixGo_snoc _ _ _ _ _ (by rw [List.length_take, List.length_take]; omega), hA]
  · subst hI
    refine sd_retO (i := 2) rfl ?_
    show Ret.ow _ = Ret.ow (dI (mixedM (r0 :: rs) fs))
    rw [Int.toNat_natCast, List.take_length, mixGo_long _ _ _ h2]
    rfl
theorem scRatio : FnScope ["top", "bottom", "common"] ["top", "bottom"] (defScope sRatio) := ⟨rfl, rfl, rfl, by decide +kernel, rfl, by decide +kernel, by decide +kernel⟩
theorem okRatio (T : Txt K mg)  : Cal P w K mg base 1 "ratio" ["top", "bottom"] (spRatio K) := by
  refine cal_mkD T.f_Ratio T.g_Ratio scRatio (fun vs H Q E h => spT_len (n := 2) (fun _ => rfl) h) (by simp) (fun _ _ _ _ _ _ _ us its hl hi => match us, hl, its, hi with | [_, _], _, [_], _ => ⟨_, rfl, rfl⟩) (fun cdv A outer s H vs Q E hr h => ?_)
  refine ⟨_, (pss_cons (ps_if (pt_cmpR op_eq (pv 1) pe_int (nomark _))
      (pss_one ps_never)
      pss_nil)
      (pss_cons (ps_if (pt_cmpR op_lt (pv 1) pe_int (nomark _))
      (pss_cons (ps_set (i := 0) scRatio.nd rfl (by first | exact Or.inl rfl | exact Or.inr rfl) (pe_un un_neg (pv 0)))
      (pss_one (ps_set (i := 1) scRatio.nd rfl (by first | exact Or.inl rfl | exact Or.inr rfl) (pe_un un_neg (pv 1)))))
      pss_nil)
      (pss_cons (ps_set (i := 2) scRatio.nd rfl (by first | exact Or.inl rfl | exact Or.inr rfl) (pe_callBfun cr_gcd (by rfl) T.m_gcd (pa_cons (pv 0) (pa_cons (pv 1) pa_nil))))
      (pss_one (ps_ret (pe_tup (pa_cons (pe_op op_fdivW (pv 0) (pv 2)) (pa_cons (pe_op op_fdivW (pv 1) (pv 2)) pa_nil)))))))), ?_⟩
  refine sd_fn h (fun _ => Nat.le_of_ble_eq_true rfl) ?_
  try dsimp only [L2.cxOf]
  intro ⟨t, b⟩ hp
  obtain ⟨h0, h1⟩ : 0 < b ∧ Sm 8999 b := hp
  show SD K _ [.sh (.int t), .sh (.int b), .no] _
  refine sd_then (sd_if (x := false) (EvT.is (by by_place) (decide_eq_false (by omega))) (fun h => by cases h) (fun _ => sd_next ?_))
  show SD K _ [.sh (.int t), .sh (.int b), .no] _
  refine sd_then (sd_if (x := false) (EvT.is (by by_place) (decide_eq_false (by omega))) (fun h => by cases h) (fun _ => sd_next ?_))
  show SD K _ [.sh (.int t), .sh (.int b), .no] _
  refine sd_then (sd_asg (d := .int ((Nat.gcd t.natAbs b.natAbs : Nat) : Int)) (by by_place) ?_)
  have g1 : 0 < Nat.gcd t.natAbs b.natAbs := Nat.gcd_pos_of_pos_right _ (by omega)
  have g2 : Nat.gcd t.natAbs b.natAbs < 2 ^ 8999 := Nat.lt_of_le_of_lt (Nat.le_of_dvd (by omega) (Nat.gcd_dvd_right _ _)) h1
  have c1 := divG g2 g1 t
  have c2 := divG g2 g1 b
  show SD K _ [.sh (.int t), .sh (.int b), .sh (.int ((Nat.gcd t.natAbs b.natAbs : Nat) : Int))] _
  exact sd_ret (d := .tup [.int (t / ((Nat.gcd t.natAbs b.natAbs : Nat) : Int)), .int (b / ((Nat.gcd t.natAbs b.natAbs : Nat) : Int))]) (ed_tup (by by_place <;> by_in) (Nat.le_of_ble_eq_true rfl)) rfl
theorem scRow : FnScope ["tops", "line", "numbers", "number", "common"] ["tops", "line"] (defScope sRow) := ⟨rfl, rfl, rfl, by decide +kernel, rfl, by decide +kernel, by decide +kernel⟩
theorem okRow (T : Txt K mg)  : Cal P w K mg base 1 "row" ["tops", "line"] (spRow K) := by
  refine cal_mkD T.f_Row T.g_Row scRow (fun vs H Q E h => spT_len (n := 2) (fun _ => rfl) h) (by simp) (fun _ _ _ _ _ _ _ us its hl hi => match us, hl, its, hi with | [_, _], _, [_], _ => ⟨_, rfl, rfl⟩) (fun cdv A outer s H vs Q E hr h => ?_)
  refine ⟨_, (pss_cons (ps_set (i := 2) scRow.nd rfl (by first | exact Or.inl rfl | exact Or.inr rfl) (pe_callTy (DL.call_list_ofC (K := K) rfl) (by rfl) T.b_list (by decide +kernel) (pa_cons (pv 0) pa_nil)))
      (pss_cons (ps_if (pt_cmpR op_lt (pv 1) pe_int (nomark _))
      (pss_cons (ps_setLc (i := 2) (own := [("number", 3)]) (g := gName 3) (by rfl) scRow.nd rfl rfl (sw_true rfl rfl rfl (by decide +kernel)) (DL.pi_listC (K := K) rfl (pv 2)) (blkOk_by (own := [("number", 3)]) (by kernel_rfl)) (fun _ _ _ _ _ => (pg_name (i := 3) scRow.nd rfl (by first | exact Or.inl rfl | exact Or.inr rfl))) (fun _ _ _ _ _ => pts_nil) (fun _ _ _ _ _ => (pe_un un_neg (pv 3))))
      (pss_one (ps_set (i := 1) scRow.nd rfl (by first | exact Or.inl rfl | exact Or.inr rfl) (pe_un un_neg (pv 1)))))
      pss_nil)
      (pss_cons (ps_set (i := 4) scRow.nd rfl (by first | exact Or.inl rfl | exact Or.inr rfl) (pv 1))
      (pss_cons (ps_for PassesOwn.never rfl (DL.pi_listC (K := K) rfl (pv 2)) (pg_name (i := 3) scRow.nd rfl (by first | exact Or.inl rfl | exact Or.inr rfl))
      (pss_one (ps_set (i := 4) scRow.nd rfl (by first | exact Or.inl rfl | exact Or.inr rfl) (pe_callBfun cr_gcd (by rfl) T.m_gcd (pa_cons (pv 4) (pa_cons (pv 3) pa_nil))))))
      (pss_one (ps_ret (pe_tup (pa_cons (pe_callTy (DL.call_tuple_ofC (K := K) rfl) (by rfl) T.b_tuple (by decide +kernel) (pa_cons (pe_lc (own := [("number", 3)]) (g := gName 3) (by rfl) scRow.nd (DL.pi_listC (K := K) rfl (pv 2)) (blkOk_by (own := [("number", 3)]) (by kernel_rfl)) (fun _ _ _ _ _ => (pg_name (i := 3) scRow.nd rfl (by first | exact Or.inl rfl | exact Or.inr rfl))) (fun _ _ _ _ _ => pts_nil) (fun _ _ _ _ _ => (pe_op op_fdivW (pv 3) (pv 4)))) pa_nil)) (pa_cons (pe_op op_fdivW (pv 1) (pv 4)) pa_nil))))))))), ?_⟩
  refine sd_fn h (fun _ => Nat.le_of_ble_eq_true rfl) ?_
  try dsimp only [L2.cxOf]
  intro ⟨tops, line⟩ hp
  obtain ⟨h0, h1, h2⟩ : 0 < line ∧ Sm 8999 line ∧ tops.length ≤ 10000 := hp
  show SD K _ [.sh (.lst (dI tops)), .sh (.int line), .no, .no, .no] _
  refine sd_then (sd_asgL (ds := dI tops) (el_cb (by by_place) (cl_list rfl)) (sd_frz (i := 2) rfl rfl ?_))
  show SD K _ [.sh (.lst (dI tops)), .sh (.int line), .sh (.lst (dI tops)), .no, .no] _
  refine sd_then (sd_if (x := false) (EvT.is (by by_place) (decide_eq_false (by omega))) (fun h => by cases h) (fun _ => sd_next ?_))
  show SD K _ [.sh (.lst (dI tops)), .sh (.int line), .sh (.lst (dI tops)), .no, .no] _
  refine sd_then (sd_asg (d := .int line) (by by_place) ?_)
  show SD K _ [.sh (.lst (dI tops)), .sh (.int line), .sh (.lst (dI tops)), .no, .sh (.int line)] _
  refine sd_then (sd_forLn [3] (ds := dI tops) (by by_place) (.inl rfl) (fun m ρ => ρ = [.sh (.lst (dI tops)), .sh (.int line), .sh (.lst (dI tops)), .no, .sh (.int ((gcdL (line :: tops.take m) : Nat) : Int))]) ?_ (fun m d ρ hd hI => ?_) (fun ρ hI => ?_))
  · show [_, _, _, _, _] = _
    rw [List.take_zero, gcdL_all h0]
  · subst hI
    obtain ⟨x, hx, rfl⟩ := get_dI hd
    refine ⟨rfl, ?_⟩
    show SD K _ [.sh (.lst (dI tops)), .sh (.int line), .sh (.lst (dI tops)), .sh (.int x), .sh (.int ((gcdL (line :: tops.take m) : Nat) : Int))] _
    refine sd_asg (d := .int ((gcdL (line :: tops.take (m + 1)) : Nat) : Int)) (EvD.is (by by_place) ?_) rfl
    rw [gcd_cast, show gcdL (line :: tops.take (m + 1)) = Nat.gcd (gcdL (line :: tops.take m)) x.natAbs from gcdL_snoc (ns := line :: tops) (m := m + 1) (by simpa using hx)]
  · subst hI
    rw [List.length_map, List.take_length]
    obtain ⟨g1, g2⟩ := gcdL_line (tops := tops) h0 h1
    have c1 : ∀ x : Int, CDivW x ((gcdL (line :: tops) : Nat) : Int) := divG g2 g1
    have c2 := c1 line
    exact sd_ret (d := .tup [.tup (dI (tops.map fun x => x / ((gcdL (line :: tops) : Nat) : Int))), .int (line / ((gcdL (line :: tops) : Nat) : Int))]) (ed_tup (ea_cons (ed_cb (ea_cons (EvL.data (el_mapI (i := 3) (fun x => x / ((gcdL (line :: tops) : Nat) : Int)) (by by_place) (by decide) h2 fun x hx => by
      have c3 := c1 x
      by_place <;> by_in)) ea_nil) (cd_tuple rfl)) (by by_place <;> by_in)) (Nat.le_of_ble_eq_true rfl)) rfl
theorem scRowOf : FnScope ["ratios", "line", "one"] ["ratios"] (defScope sRowOf) := ⟨rfl, rfl, rfl, by decide +kernel, rfl, by decide +kernel, by decide +kernel⟩
theorem okRowOf (T : Txt K mg) (c_Row : Cal P w K mg base 1 "row" ["tops", "line"] (spRow K)) : Cal P w K mg base 2 "row_of" ["ratios"] (spRowOf K) := by
  refine cal_mk T.f_RowOf T.g_RowOf scRowOf (fun vs H Q E h => spT_len (n := 1) (fun _ => rfl) h) (fun _ _ _ _ _ _ us hl => match us, hl with | [_], _ => rfl) (fun cdv A outer s H vs Q E hr h => ?_)
  refine ⟨_, (pss_cons (ps_set (i := 1) scRowOf.nd rfl (by first | exact Or.inl rfl | exact Or.inr rfl) pe_int)
      (pss_cons (ps_for PassesOwn.never rfl (DL.pi_listC (K := K) rfl (pv 0)) (pg_name (i := 2) scRowOf.nd rfl (by first | exact Or.inl rfl | exact Or.inr rfl))
      (pss_one (ps_set (i := 1) scRowOf.nd rfl (by first | exact Or.inl rfl | exact Or.inr rfl) (pe_callBfun DL.cr_lcm (by rfl) T.m_lcm (pa_cons (pv 1) (pa_cons (pe_ix (DL.ix_seqC (K := K) rfl) (pv 2) pe_int (fun _ _ => rfl)) pa_nil))))))
      (pss_one (ps_ret (DL.pe_cal c_Row (hr.mono (by decide)) (pa_cons (pe_lc (own := [("one", 2)]) (g := gName 2) (by rfl) scRowOf.nd (DL.pi_listC (K := K) rfl (pv 0)) (blkOk_by (own := [("one", 2)]) (by kernel_rfl)) (fun _ _ _ _ _ => (pg_name (i := 2) scRowOf.nd rfl (by first | exact Or.inl rfl | exact Or.inr rfl))) (fun _ _ _ _ _ => pts_nil) (fun _ _ _ _ _ => (pe_op op_mulW (pe_ix (DL.ix_seqC (K := K) rfl) (pv 2) pe_int (fun _ _ => rfl)) (pe_op op_fdivW (pv 1) (pe_ix (DL.ix_seqC (K := K) rfl) (pv 2) pe_int (fun _ _ => rfl)))))) (pa_cons (pv 1) pa_nil))))))), ?_⟩
  refine sd_fn h (fun _ => Nat.le_of_ble_eq_true rfl) ?_
  try dsimp only [L2.cxOf]
  intro rs hp
  obtain ⟨hl, hb, hc⟩ : PreRowOf rs := hp
  have b0 : ∀ b ∈ rs.map Prod.snd, 0 < b := fun b h => by
    obtain ⟨r, hr, rfl⟩ := List.mem_map.mp h
    exact (hb r hr).1
  have lp : 0 < lcmL (rs.map Prod.snd) := lcm_pos _ 1 (by decide) b0
  have lsm : ∀ k, Sm 12000 ((lcmL ((rs.map Prod.snd).take k) : Nat) : Int) := fun k => by
    unfold Sm
    rw [Int.natAbs_natCast]
    exact Nat.lt_of_le_of_lt (Nat.le_of_dvd lp (lcm_take _ k)) (Nat.lt_of_lt_of_le hc (Nat.pow_le_pow_right (by decide) (by decide)))
  show SD K _ [.sh (.lst (prD rs)), .no, .no] _
  refine sd_then (sd_asg (d := .int 1) (by by_place) ?_)
  show SD K _ [.sh (.lst (prD rs)), .sh (.int 1), .no] _
  refine sd_then (sd_forLn [2] (ds := prD rs) (by by_place) (.inl rfl) (fun m ρ => ρ = [.sh (.lst (prD rs)), .sh (.int ((lcmL ((rs.map Prod.snd).take m) : Nat) : Int)), .no]) rfl (fun m d ρ hd hI => ?_) (fun ρ hI => ?_))
  · subst hI
    obtain ⟨x, hx, rfl⟩ := get_prD hd
    refine ⟨rfl, ?_⟩
    show SD K _ [.sh (.lst (prD rs)), .sh (.int ((lcmL ((rs.map Prod.snd).take m) : Nat) : Int)), .sh (.tup [.int x.1, .int x.2])] _
    obtain ⟨x0, x1, x2⟩ := hb x (List.mem_of_getElem? hx)
    refine sd_asg (d := .int ((lcmL ((rs.map Prod.snd).take (m + 1)) : Nat) : Int)) (EvD.is (ed_cb (as := [.int ((lcmL ((rs.map Prod.snd).take m) : Nat) : Int), .int x.2]) (by by_place) (cd_lcm ((lsm m).mono (by decide)) (x1.mono (by decide)))) ?_) rfl
    rw [Int.natAbs_natCast]
    unfold lcmL
    rw [foldl_take_succ _ _ _ _ x.2 (by rw [List.getElem?_map, hx]; rfl)]
  · subst hI
    rw [show (prD rs).length = (rs.map Prod.snd).length by unfold prD; rw [List.length_map, List.length_map], List.take_length]
    generalize hL : lcmL (rs.map Prod.snd) = L at lp hc
    have Lsm : Sm 8999 (L : Int) := by unfold Sm; rw [Int.natAbs_natCast]; exact hc
    refine sd_ret (ed_call (rs.map fun r => r.1 * ((L : Int) / r.2), (L : Int)) (ea_cons (EvL.data (EvL.is (el_lcL (ds := prD rs) (fun _ => true) (fun j => .int ((rs.map fun r => r.1 * ((L : Int) / r.2)).getD j 0)) (by by_place) (.inl rfl) (by unfold prD; rw [List.length_map]; omega) fun j d hd => ?_) ?_)) (by by_place)) ⟨by show 0 < (L : Int); omega, Lsm, by show (rs.map _).length ≤ 10000; rw [List.length_map]; exact hl⟩ ?_) rfl
    · obtain ⟨x, hx, rfl⟩ := get_prD hd
      obtain ⟨x0, x1, x2⟩ := hb x (List.mem_of_getElem? hx)
      have c1 : CDivW (L : Int) x.2 := divW x0 x1 (by decide)
      have q : Sm 8999 ((L : Int) / x.2) := by
        unfold Sm at *
        have : ((L : Int) / x.2).natAbs ≤ (L : Int).natAbs := Int.natAbs_ediv_le_natAbs _ _
        omega
      have c2 : CMulW x.1 ((L : Int) / x.2) := x2.mulW q (by decide)
      refine ⟨_, tg_name (by decide), et_yes, fun _ => EvD.is (by by_place <;> by_in) ?_⟩
      rw [getD_get (show (rs.map fun r => r.1 * ((L : Int) / r.2))[j]? = some (x.1 * ((L : Int) / x.2)) by rw [List.getElem?_map, hx]; rfl)]
    · rw [given_all]
      refine range_dI (by unfold prD; rw [List.length_map, List.length_map]) fun j x h => ?_
      rw [getD_get h]
    · show Ret.sh _ = Ret.sh _
      unfold rowOfM
      rw [hL]
theorem scLowest : FnScope ["numbers", "common", "number"] ["numbers"] (defScope sLowest) := ⟨rfl, rfl, rfl, by decide +kernel, rfl, by decide +kernel, by decide +kernel⟩
theorem okLowest (T : Txt K mg)  (N : DL.Nos P K) : Cal P w K mg base 33 "lowest" ["numbers"] (spLowest K) := by
  refine cal_mk T.f_Lowest T.g_Lowest scLowest (fun vs H Q E h => spT_len (n := 1) (fun _ => rfl) h) (fun _ _ _ _ _ _ us hl => match us, hl with | [_], _ => rfl) (fun cdv A outer s H vs Q E hr h => ?_)
  have hp := DL.py_of (outer := outer) N hr (by decide) (by decide +kernel) (by decide +kernel)
  refine ⟨_, (pss_cons (ps_set (i := 1) scLowest.nd rfl (by first | exact Or.inl rfl | exact Or.inr rfl) pe_int)
      (pss_cons (ps_for PassesOwn.never rfl (DL.pi_seqC (K := K) rfl (pv 0)) (pg_name (i := 2) scLowest.nd rfl (by first | exact Or.inl rfl | exact Or.inr rfl))
      (pss_cons (ps_set (i := 1) scLowest.nd rfl (by first | exact Or.inl rfl | exact Or.inr rfl) (pe_callBfun cr_gcd (by rfl) T.m_gcd (pa_cons (pv 1) (pa_cons (pv 2) pa_nil))))
      (pss_one (ps_if (pt_cmpR op_eq (pv 1) pe_int (nomark _))
      (pss_one (ps_ret (pe_callTy (DL.call_list_ofC (K := K) rfl) (by rfl) T.b_list (by decide +kernel) (pa_cons (pv 0) pa_nil))))
      pss_nil))))
      (pss_cons (ps_if (pt_cmpR op_eq (pv 1) pe_int (nomark _))
      (pss_one (ps_ret (pe_callTy (DL.call_list_ofC (K := K) rfl) (by rfl) T.b_list (by decide +kernel) (pa_cons (pv 0) pa_nil))))
      pss_nil)
      (pss_one (ps_ret (pe_lc (own := [("number", 2)]) (g := gName 2) (by rfl) scLowest.nd (DL.pi_seqC (K := K) rfl (pv 0)) (blkOk_by (own := [("number", 2)]) (by kernel_rfl)) (fun _ _ _ _ _ => (pg_name (i := 2) scLowest.nd rfl (by first | exact Or.inl rfl | exact Or.inr rfl))) (fun _ _ _ _ _ => pts_nil) (fun _ _ _ _ _ => (pe_op (DL.op_fdivX hp) (pv 2) (pv 1))))))))), ?_⟩
  refine sd_fn h (fun _ => Nat.le_of_ble_eq_true rfl) ?_
  try dsimp only [L2.cxOf]
  intro ⟨k, ns⟩ h2
  have h2 : ns.length ≤ 10000 := h2
  show SD K _ [.sh (seqD k (dI ns)), .no, .no] _
  refine sd_then (sd_asg (d := .int 0) (by by_place) ?_)
  show SD K _ [.sh (seqD k (dI ns)), .sh (.int 0), .no] _
  refine sd_cut (fun ρ => ρ = [.sh (seqD k (dI ns)), .sh (.int ((gcdL ns : Nat) : Int)), .no])
    (sd_forQn [2] (ds := dI ns) (by by_place) (fun m ρ => ρ = [.sh (seqD k (dI ns)), .sh (.int ((gcdL (ns.take m) : Nat) : Int)), .no]) rfl (fun m d ρ hd hI => ?_) (fun ρ hI => ?_)) (fun ρ hM => ?_)
  · subst hI
    obtain ⟨x, hx, rfl⟩ := get_dI hd
    show SD K _ [.sh (seqD k (dI ns)), .sh (.int ((gcdL (ns.take m) : Nat) : Int)), .sh (.int x)] _
    refine sd_then (sd_asg (d := .int ((gcdL (ns.take (m + 1)) : Nat) : Int)) (EvD.is (by by_place) (by rw [gcd_cast, gcdL_snoc hx])) ?_)
    show SD K _ [.sh (seqD k (dI ns)), .sh (.int ((gcdL (ns.take (m + 1)) : Nat) : Int)), .sh (.int x)] _
    refine sd_if (x := decide (((gcdL (ns.take (m + 1)) : Nat) : Int) = 1)) (by by_place) (fun h => ?_) (fun h => sd_next rfl)
    have h : gcdL (ns.take (m + 1)) = 1 := by have := of_decide_eq_true h; omega
    exact sd_retL (el_cb (by by_place) (cl_list seqD_items)) (by show Ret.ow _ = Ret.ow (dI (lowM ns)); rw [lowM_one (gcdL_take h)])
  · subst hI
    rw [List.length_map, List.take_length]
  · subst hM
    refine sd_then (sd_if (x := decide (((gcdL ns : Nat) : Int) = 0)) (by by_place) (fun h => ?_) (fun h => sd_next ?_))
    · have h : gcdL ns = 0 := by have := of_decide_eq_true h; omega
      exact sd_retL (el_cb (by by_place) (cl_list seqD_items)) (by show Ret.ow _ = Ret.ow (dI (lowM ns)); rw [lowM_zero h])
    · have h : gcdL ns ≠ 0 := by have := of_decide_eq_false h; omega
      have c1 : (0 : Int) < ((gcdL ns : Nat) : Int) := by omega
      show SD K _ [.sh (seqD k (dI ns)), .sh (.int ((gcdL ns : Nat) : Int)), .no] _
      exact sd_retL (el_mapQ (i := 2) (fun x => x / ((gcdL ns : Nat) : Int)) (by by_place) (by decide) h2 fun x hx => by
        by_place <;> by_in) rfl
theorem scCleared : FnScope ["entries", "at", "column", "chosen", "factor", "result", "k", "entry", "part", "j"] ["entries", "at", "column"] (defScope sCleared) := ⟨rfl, rfl, rfl, by decide +kernel, rfl, by decide +kernel, by decide +kernel⟩
theorem okCleared (T : Txt K mg) (c_Lowest : Cal P w K mg base 33 "lowest" ["numbers"] (spLowest K)) : Cal P w K mg base 34 "cleared" ["entries", "at", "column"] (spCleared K) := by
  refine cal_mk T.f_Cleared T.g_Cleared scCleared (fun vs H Q E h => spT_len (n := 3) (fun _ => rfl) h) (fun _ _ _ _ _ _ us hl => match us, hl with | [_, _, _], _ => rfl) (fun cdv A outer s H vs Q E hr h => ?_)
  refine ⟨_, (pss_cons (ps_set (i := 3) scCleared.nd rfl (by first | exact Or.inl rfl | exact Or.inr rfl) (pe_ix (DL.ix_seqC (K := K) rfl) (pv 0) (pv 1) (fun _ _ => rfl)))
      (pss_cons (ps_set (i := 4) scCleared.nd rfl (by first | exact Or.inl rfl | exact Or.inr rfl) (pe_ix (DL.ix_seqC (K := K) rfl) (pv 3) (pv 2) (fun _ _ => rfl)))
      (pss_cons (ps_set (i := 5) scCleared.nd rfl (by first | exact Or.inl rfl | exact Or.inr rfl) (pe_lst pa_nil))
      (pss_cons (ps_for PassesOwn.never rfl (pi_range1 (by rfl) T.b_range (pa_cons (pe_callB (DL.call_len_seqC (K := K) rfl) (by rfl) T.b_len (by decide +kernel) (pa_cons (pv 0) pa_nil)) pa_nil)) (pg_name (i := 6) scCleared.nd rfl (by first | exact Or.inl rfl | exact Or.inr rfl))
      (pss_cons (ps_set (i := 7) scCleared.nd rfl (by first | exact Or.inl rfl | exact Or.inr rfl) (pe_ix (DL.ix_seqC (K := K) rfl) (pv 0) (pv 6) (fun _ _ => rfl)))
      (pss_one (ps_if (PW.pt (pw_or (pt_cmpR op_eq (pv 6) (pv 1) (nomark _)) (pw_or1 (pt_cmpR op_eq (pe_ix (DL.ix_seqC (K := K) rfl) (pv 7) (pv 2) (fun _ _ => rfl)) pe_int (nomark _)))))
      (pss_one (ps_expr (pe_bm PySem.F.plainAttrs_list PySem.F.slot_list_append PySem.F.type_list_append mt_append (pv 5) (pa_cons (pv 7) pa_nil))))
      (pss_cons (ps_set (i := 8) scCleared.nd rfl (by first | exact Or.inl rfl | exact Or.inr rfl) (pe_ix (DL.ix_seqC (K := K) rfl) (pv 7) (pv 2) (fun _ _ => rfl)))
      (pss_one (ps_expr (pe_bm PySem.F.plainAttrs_list PySem.F.slot_list_append PySem.F.type_list_append mt_append (pv 5) (pa_cons (DL.pe_cal c_Lowest (hr.mono (by decide)) (pa_cons (pe_lc (own := [("j", 9)]) (g := gName 9) (by rfl) scCleared.nd (pi_range1 (by rfl) T.b_range (pa_cons (pe_callB (DL.call_len_seqC (K := K) rfl) (by rfl) T.b_len (by decide +kernel) (pa_cons (pv 7) pa_nil)) pa_nil)) (blkOk_by (own := [("j", 9)]) (by kernel_rfl)) (fun _ _ _ _ _ => (pg_name (i := 9) scCleared.nd rfl (by first | exact Or.inl rfl | exact Or.inr rfl))) (fun _ _ _ _ _ => pts_nil) (fun _ _ _ _ _ => (pe_op op_sub (pe_op op_mulW (pe_ix (DL.ix_seqC (K := K) rfl) (pv 7) (pv 9) (fun _ _ => rfl)) (pv 4)) (pe_op op_mulW (pe_ix (DL.ix_seqC (K := K) rfl) (pv 3) (pv 9) (fun _ _ => rfl)) (pv 8))))) pa_nil)) pa_nil)))))))))
      (pss_one (ps_ret (pv 5))))))), ?_⟩
  refine sd_fn h (fun _ => Nat.le_of_ble_eq_true rfl) ?_
  try dsimp only [L2.cxOf]
  intro ⟨n, W, es, a, col⟩ hp
  obtain ⟨hn, hw, t, ha, hc, b⟩ : PreClear n W es a col := hp
  have hl : es.length = n := t.n
  have ga := dT_get (get_getD (l := es) (i := a) [] (by omega))
  have la : (es.getD a []).length = W := t.row ha
  have gf := dI_get (get_getD (l := es.getD a []) (i := col) 0 (by omega))
  have ba : ∀ x ∈ es.getD a [], Sm 100000 x := b _ (M.getD_mem [] (by omega))
  generalize hA : es.getD a [] = A at ga la gf ba
  generalize hF : A.getD col 0 = F at gf
  have fF : Sm 100000 F := by rw [← hF]; exact ba _ (M.getD_mem 0 (by omega))
  show SD K _ [.sh (.lst (dT es)), .sh (.int a), .sh (.int col), .no, .no, .no, .no, .no, .no, .no] _
  refine sd_then (sd_asg (d := .lst (dI A)) (by by_place) ?_)
  refine sd_then (sd_asg (d := .int F) (by by_place) ?_)
  refine sd_then (sd_asgL (ds := []) (el_lst ea_nil (by decide)) ?_)
  show SD K _ [.sh (.lst (dT es)), .sh (.int a), .sh (.int col), .sh (.lst (dI A)), .sh (.int F), .ow [], .no, .no, .no, .no] _
  refine sd_then (sd_forRn [6, 7, 8] (z := (n : Int)) (EvA.is (by by_place) (by rw [dT_len, hl])) (by omega) (fun m ρ => ρ = [.sh (.lst (dT es)), .sh (.int a), .sh (.int col), .sh (.lst (dI A)), .sh (.int F), .ow (dT ((List.range m).map (clearRow es a col))), .no, .no, .no, .no]) rfl (fun m ρ hm hI => ?_) (fun ρ hI => ?_))
  · subst hI
    have hm : m < n := by omega
    refine ⟨rfl, ?_⟩
    have gm := dT_get (get_getD (l := es) (i := m) [] (by omega))
    have lm : (es.getD m []).length = W := t.row hm
    have gp := dI_get (get_getD (l := es.getD m []) (i := col) 0 (by omega))
    have bm : ∀ x ∈ es.getD m [], Sm 100000 x := b _ (M.getD_mem [] (by omega))
    have hcr : clearRow es a col m = if m = a ∨ (es.getD m []).getD col 0 = 0 then es.getD m [] else lowM (rawM (es.getD m []) A F ((es.getD m []).getD col 0)) := by unfold clearRow; rw [hA, hF]
    generalize hE : es.getD m [] = E at gm lm gp bm hcr
    generalize hP : E.getD col 0 = p at gp hcr
    have fp : Sm 100000 p := by rw [← hP]; exact bm _ (M.getD_mem 0 (by omega))
    have hsz : (dT ((List.range m).map (clearRow es a col))).length < sizeLine := by
      rw [dT_len, List.length_map, List.length_range, PySem.sizeLine_eq]
      omega
    have hsn : dT ((List.range (m + 1)).map (clearRow es a col)) = dT ((List.range m).map (clearRow es a col)) ++ [.lst (dI (clearRow es a col m))] := by
      unfold dT
      rw [List.range_succ, List.map_append, List.map_append]
      rfl
    show SD K _ [.sh (.lst (dT es)), .sh (.int a), .sh (.int col), .sh (.lst (dI A)), .sh (.int F), .ow (dT ((List.range m).map (clearRow es a col))), .sh (.int m), .no, .no, .no] _
    refine sd_then (sd_asg (d := .lst (dI E)) (by by_place) ?_)
    show SD K _ [.sh (.lst (dT es)), .sh (.int a), .sh (.int col), .sh (.lst (dI A)), .sh (.int F), .ow (dT ((List.range m).map (clearRow es a col))), .sh (.int m), .sh (.lst (dI E)), .no, .no] _
    refine sd_if (x := decide ((m : Int) = a) || decide (p = 0)) (et_or (by by_place) fun _ => by by_place) (fun h => ?_) (fun h => ?_)
    · have h : m = a ∨ p = 0 := by
        rcases Bool.or_eq_true_iff.mp h with h | h
        · exact .inl (by have := of_decide_eq_true h; omega)
        · exact .inr (of_decide_eq_true h)
      refine sd_app (i := 5) (d := .lst (dI E)) rfl (by by_place) hsz ?_
      rw [hsn, hcr, if_pos h]
      rfl
    · have h : ¬ (m = a ∨ p = 0) := by
        rw [Bool.or_eq_false_iff] at h
        have h1 := of_decide_eq_false h.1
        have h2 := of_decide_eq_false h.2
        omega
      refine sd_then (sd_asg (d := .int p) (by by_place) ?_)
      show SD K _ [.sh (.lst (dT es)), .sh (.int a), .sh (.int col), .sh (.lst (dI A)), .sh (.int F), .ow (dT ((List.range m).map (clearRow es a col))), .sh (.int m), .sh (.lst (dI E)), .sh (.int p), .no] _
      refine sd_app (i := 5) (d := .lst (dI (lowM (rawM E A F p)))) rfl (EvL.data (el_call (false, rawM E A F p) (ea_cons (EvL.data (el_rangeI (i := 9) (n := E.length) (fun j => E.getD j 0 * F - A.getD j 0 * p) (EvA.is (by by_place) (by rw [List.length_map])) (by decide) (by omega) fun j hj => ?_)) ea_nil) ?_ rfl)) hsz ?_
      · have g1 := dI_get (get_getD (l := E) (i := j) 0 hj)
        have g2 := dI_get (get_getD (l := A) (i := j) 0 (by omega))
        have c1 : CMulW (E.getD j 0) F := (bm _ (M.getD_mem 0 hj)).mulW fF (by decide)
        have c2 : CMulW (A.getD j 0) p := (ba _ (M.getD_mem 0 (by omega))).mulW fp (by decide)
        by_place <;> by_in
      · show (rawM E A F p).length ≤ 10000
        unfold rawM
        rw [List.length_map, List.length_range]
        omega
      · rw [hsn, hcr, if_neg h]
        rfl
  · subst hI
    refine sd_retO (i := 5) rfl ?_
    show Ret.ow _ = Ret.ow (dT (clearedM es a col))
    unfold clearedM
    rw [Int.toNat_natCast, hl]
theorem scFreeEntry : FnScope ["entries", "used", "column", "k"] ["entries", "used", "column"] (defScope sFreeEntry) := ⟨rfl, rfl, rfl, by decide +kernel, rfl, by decide +kernel, by decide +kernel⟩
theorem okFreeEntry (T : Txt K mg)  : Cal P w K mg base 1 "free_entry" ["entries", "used", "column"] (spFreeEntry K) := by
  refine cal_mk T.f_FreeEntry T.g_FreeEntry scFreeEntry (fun vs H Q E h => spT_len (n := 3) (fun _ => rfl) h) (fun _ _ _ _ _ _ us hl => match us, hl with | [_, _, _], _ => rfl) (fun cdv A outer s H vs Q E hr h => ?_)
  refine ⟨_, (pss_cons (ps_for PassesOwn.never rfl (pi_range1 (by rfl) T.b_range (pa_cons (pe_callB (DL.call_len_seqC (K := K) rfl) (by rfl) T.b_len (by decide +kernel) (pa_cons (pv 0) pa_nil)) pa_nil)) (pg_name (i := 3) scFreeEntry.nd rfl (by first | exact Or.inl rfl | exact Or.inr rfl))
      (pss_one (ps_if (PW.pt (pw_and (pt_cmp (pc_dnotin (hu_of hr) (pv 3) (pv 1)) (by rfl)) (pw_and1 (pt_cmpR op_ne (pe_ix (DL.ix_seqC (K := K) rfl) (pe_ix (DL.ix_seqC (K := K) rfl) (pv 0) (pv 3) (fun _ _ => rfl)) (pv 2) (fun _ _ => rfl)) pe_int (nomark _)))))
      (pss_one (ps_ret (pv 3)))
      pss_nil)))
      (pss_one (ps_ret pe_non))), ?_⟩
  refine sd_fn h (fun _ => Nat.le_of_ble_eq_true rfl) ?_
  try dsimp only [L2.cxOf]
  intro ⟨n, W, es, us, col⟩ hp
  obtain ⟨hn, t, hc⟩ : PreFree n W es col := hp
  have hl : es.length = n := t.n
  show SD K _ [.sh (.lst (dT es)), .sh (.dct (usK us) (List.replicate us.length (.bl true))), .sh (.int col), .no] { nx := _, rt := fun r => r = .sh (optD (freeM es us col)) }
  generalize List.replicate us.length (DL.D.bl true) = vals
  refine sd_cut (fun ρ => ρ = [.sh (.lst (dT es)), .sh (.dct (usK us) vals), .sh (.int col), .no] ∧ ∀ k, k < n → freeT es us col k = false)
    (sd_forRn [3] (z := (n : Int)) (EvA.is (by by_place) (by rw [dT_len, hl])) (by omega) (fun m ρ => ρ = [.sh (.lst (dT es)), .sh (.dct (usK us) vals), .sh (.int col), .no] ∧ ∀ k, k < m → freeT es us col k = false) ⟨rfl, fun k hk => by omega⟩ (fun m ρ hm hI => ?_) (fun ρ hI => ?_)) (fun ρ hM => ?_)
  · obtain ⟨rfl, hI⟩ := hI
    have hm : m < n := by omega
    refine ⟨rfl, ?_⟩
    have gm := dT_get (get_getD (l := es) (i := m) [] (by omega))
    have lm : (es.getD m []).length = W := t.row hm
    have gp := dI_get (get_getD (l := es.getD m []) (i := col) 0 (by omega))
    show SD K _ [.sh (.lst (dT es)), .sh (.dct (usK us) vals), .sh (.int col), .sh (.int m)] _
    refine sd_if (x := freeT es us col m) (EvT.is (et_and (x := !hasK (usK us) (.inl (m : Int))) (et_B (ed_dnotin (a := .int m) (by by_place) rfl (by by_place))) fun _ => by by_place) (by rw [hasK_us]; rfl)) (fun h => ?_) (fun h => sd_next ?_)
    · refine sd_ret (d := .int m) (by by_place) ?_
      show Ret.sh _ = Ret.sh _
      unfold freeM
      rw [find_some (by omega) hI h]
      rfl
    · refine ⟨rfl, fun k hk => ?_⟩
      by_cases e : k = m
      · rw [e]; exact h
      · exact hI k (by omega)
  · obtain ⟨rfl, hI⟩ := hI
    exact ⟨rfl, fun k hk => hI k (by omega)⟩
  · obtain ⟨rfl, hI⟩ := hM
    refine sd_ret (d := .non) (by by_place) ?_
    show Ret.sh _ = Ret.sh _
    unfold freeM
    rw [find_none fun k hk => hI k (by omega)]
    rfl
theorem scEliminated : FnScope ["entries", "width", "entry", "used", "pivots", "column", "at", "number"] ["entries", "width"] (defScope sEliminated) := ⟨rfl, rfl, rfl, by decide +kernel, rfl, by decide +kernel, by decide +kernel⟩
theorem okEliminated (T : Txt K mg) (c_Lowest : Cal P w K mg base 33 "lowest" ["numbers"] (spLowest K)) (c_FreeEntry : Cal P w K mg base 1 "free_entry" ["entries", "used", "column"] (spFreeEntry K)) (c_Cleared : Cal P w K mg base 34 "cleared" ["entries", "at", "column"] (spCleared K)) : Cal P w K mg base 35 "eliminated" ["entries", "width"] (spEliminated K) := by
  refine cal_mk T.f_Eliminated T.g_Eliminated scEliminated (fun vs H Q E h => spT_len (n := 2) (fun _ => rfl) h) (fun _ _ _ _ _ _ us hl => match us, hl with | [_, _], _ => rfl) (fun cdv A outer s H vs Q E hr h => ?_)
  refine ⟨_, (pss_cons (ps_setLc (i := 0) (own := [("entry", 2)]) (g := gName 2) (by rfl) scEliminated.nd rfl rfl (sw_true rfl rfl rfl (by decide +kernel)) (DL.pi_seqC (K := K) rfl (pv 0)) (blkOk_by (own := [("entry", 2)]) (by kernel_rfl)) (fun _ _ _ _ _ => (pg_name (i := 2) scEliminated.nd rfl (by first | exact Or.inl rfl | exact Or.inr rfl))) (fun _ _ _ _ _ => pts_nil) (fun _ _ _ _ _ => (DL.pe_cal c_Lowest (hr.mono (by decide)) (pa_cons (pv 2) pa_nil))))
      (pss_cons (ps_set (i := 3) scEliminated.nd rfl (by first | exact Or.inl rfl | exact Or.inr rfl) pe_dnewK)
      (pss_cons (ps_set (i := 4) scEliminated.nd rfl (by first | exact Or.inl rfl | exact Or.inr rfl) (pe_lst pa_nil))
      (pss_cons (ps_for PassesOwn.never rfl (pi_range1 (by rfl) T.b_range (pa_cons (pv 1) pa_nil)) (pg_name (i := 5) scEliminated.nd rfl (by first | exact Or.inl rfl | exact Or.inr rfl))
      (pss_cons (ps_set (i := 6) scEliminated.nd rfl (by first | exact Or.inl rfl | exact Or.inr rfl) (DL.pe_cal c_FreeEntry (hr.mono (by decide)) (pa_cons (pv 0) (pa_cons (pv 3) (pa_cons (pv 5) pa_nil)))))
      (pss_one (ps_if (pt_cmpR op_notN (pv 6) pe_non (nomark _))
      (pss_cons (ps_if (pt_cmpR op_lt (pe_ix (DL.ix_seqC (K := K) rfl) (pe_ix (DL.ix_seqC (K := K) rfl) (pv 0) (pv 6) (fun _ _ => rfl)) (pv 5) (fun _ _ => rfl)) pe_int (nomark _))
      (pss_one (ps_asg (pe_lc (own := [("number", 7)]) (g := gName 7) (by rfl) scEliminated.nd (DL.pi_seqC (K := K) rfl (pe_ix (DL.ix_seqC (K := K) rfl) (pv 0) (pv 6) (fun _ _ => rfl))) (blkOk_by (own := [("number", 7)]) (by kernel_rfl)) (fun _ _ _ _ _ => (pg_name (i := 7) scEliminated.nd rfl (by first | exact Or.inl rfl | exact Or.inr rfl))) (fun _ _ _ _ _ => pts_nil) (fun _ _ _ _ _ => (pe_un un_neg (pv 7)))) (pg_sub (pv 0) (pv 6) set_list)))
      pss_nil)
      (pss_cons (ps_set (i := 0) scEliminated.nd rfl (by first | exact Or.inl rfl | exact Or.inr rfl) (DL.pe_cal c_Cleared (hr.mono (by decide)) (pa_cons (pv 0) (pa_cons (pv 6) (pa_cons (pv 5) pa_nil)))))
      (pss_cons (ps_dput (hu_of hr) (pv 3) (pv 6) pe_bl rfl)
      (pss_one (ps_expr (pe_bm PySem.F.plainAttrs_list PySem.F.slot_list_append PySem.F.type_list_append mt_append (pv 4) (pa_cons (pe_tup (pa_cons (pv 6) (pa_cons (pv 5) pa_nil))) pa_nil)))))))
      pss_nil))))
      (pss_one (ps_ret (pe_tup (pa_cons (pv 0) (pa_cons (pv 4) pa_nil))))))))), ?_⟩
  refine sd_fn h (fun _ => Nat.le_of_ble_eq_true rfl) ?_
  try dsimp only [L2.cxOf]
  intro ⟨k, n, W, es, width⟩ hp
  obtain ⟨hn, hw, hc, t, st⟩ : ElOk n W es width := hp
  show SD K _ [.sh (tabD k es), .sh (.int width), .no, .no, .no, .no, .no, .no] _
  refine sd_then (sd_asgL (ds := dT (es.map lowM)) (el_mapLQ (k := k) (i := 2) lowM (by by_place) (by decide) (by rw [t.n]; omega) fun r hr => el_call (k, r) (by by_place) (by show r.length ≤ 10000; rw [t.w r hr]; omega) rfl) ?_)
  refine sd_then (sd_asgD0 ?_)
  refine sd_then (sd_asgL (ds := []) (el_lst ea_nil (by decide)) ?_)
  show SD K _ [.ow (dT (es.map lowM)), .sh (.int width), .no, .od [] [], .ow [], .no, .no, .no] _
  refine sd_then (sd_forRn [5, 6, 7] (z := (width : Int)) (by by_place) (by omega) (fun m ρ => ρ = [.ow (dT (elimTo es m).es), .sh (.int width), .no, .od (usK (elimTo es m).us) (List.replicate (elimTo es m).us.length (.bl true)), .ow (pvD (elimTo es m).pv), .no, .no, .no]) rfl (fun m ρ hm hI => ?_) (fun ρ hI => ?_))
  · subst hI
    have hm : m < width := by omega
    refine ⟨rfl, ?_⟩
    obtain ⟨t1, b1, u1, nd1⟩ := st m hm
    rw [elimTo_succ]
    generalize elimTo es m = s at t1 b1 u1 nd1
    show SD K _ [.ow (dT s.es), .sh (.int width), .no, .od (usK s.us) (List.replicate s.us.length (.bl true)), .ow (pvD s.pv), .sh (.int m), .no, .no] _
    refine sd_then (sd_asgF (d := optD (freeM s.es s.us m)) (ed_call (n, W, s.es, s.us, m) (by by_place) ⟨hn, t1, by show m < W; omega⟩ rfl) (by cases freeM s.es s.us m <;> rfl) ?_)
    show SD K _ [.ow (dT s.es), .sh (.int width), .no, .od (usK s.us) (List.replicate s.us.length (.bl true)), .ow (pvD s.pv), .sh (.int m), .sh (optD (freeM s.es s.us m)), .no] _
    cases hf : freeM s.es s.us m with
    | none =>
      show SD K _ [.ow (dT s.es), .sh (.int width), .no, .od (usK s.us) (List.replicate s.us.length (.bl true)), .ow (pvD s.pv), .sh (.int m), .sh .non, .no] _
      refine sd_if (x := false) (EvT.is (by by_place) (by rfl)) (fun h => by cases h) (fun _ => sd_next ?_)
      show [_, _, _, _, _, _, _, _] = _
      rw [show stepM s m = s by unfold stepM; rw [hf]]
    | some a =>
      obtain ⟨ha, hau, hne⟩ := freeM_some hf
      rw [t1.n] at ha
      have ga := dT_get (get_getD (l := s.es) (i := a) [] (by rw [t1.n]; exact ha))
      have la : (s.es.getD a []).length = W := t1.row ha
      have gp := dI_get (get_getD (l := s.es.getD a []) (i := m) 0 (by omega))
      show SD K _ [.ow (dT s.es), .sh (.int width), .no, .od (usK s.us) (List.replicate s.us.length (.bl true)), .ow (pvD s.pv), .sh (.int m), .sh (.int a), .no] _
      refine sd_if (x := true) (EvT.is (by by_place) (by rfl)) (fun _ => ?_) (fun h => by cases h)
      refine sd_cut (fun ρ => ρ = [.ow (dT (flipM s.es a m)), .sh (.int width), .no, .od (usK s.us) (List.replicate s.us.length (.bl true)), .ow (pvD s.pv), .sh (.int m), .sh (.int a), .no]) (sd_if (x := decide ((s.es.getD a []).getD m 0 < 0)) (by by_place) (fun h => ?_) (fun h => sd_next ?_)) (fun ρ hM => ?_)
      · have h := of_decide_eq_true h
        refine sd_setS (i := 0) (m := a) (d := .lst (dI ((s.es.getD a []).map fun x => -x))) rfl (EvSL.data (evsl_flat (el_mapQ (k := false) (i := 7) (fun x => -x) (show EvD K _ _ (DL.D.lst (dI (s.es.getD a []))) from by by_place) (by decide) (by omega) fun x hx => by by_place) (all_flat _))) (by by_place) (by rw [dT_len, t1.n]; exact ha) ?_
        show [_, _, _, _, _, _, _, _] = _
        rw [dT_set, show flipM s.es a m = s.es.set a ((s.es.getD a []).map fun x => -x) from if_pos h]
      · have h := of_decide_eq_false h
        rw [show flipM s.es a m = s.es from if_neg h]
      · subst hM
        refine sd_frz (i := 0) rfl rfl ?_
        show SD K _ [.sh (.lst (dT (flipM s.es a m))), .sh (.int width), .no, .od (usK s.us) (List.replicate s.us.length (.bl true)), .ow (pvD s.pv), .sh (.int m), .sh (.int a), .no] _
        have t2 := flip_tab (col := m) t1 ha
        have b2 : ∀ r ∈ flipM s.es a m, ∀ x ∈ r, Sm 100000 x := by
          intro r hr x hx
          unfold flipM at hr
          split at hr
          · rcases mem_set hr with rfl | hr
            · obtain ⟨y, hy, rfl⟩ := List.mem_map.mp hx
              exact (b1 _ (M.getD_mem [] (by rw [t1.n]; exact ha)) y hy).neg
            · exact b1 r hr x hx
          · exact b1 r hr x hx
        refine sd_then (sd_asgL (ds := dT (clearedM (flipM s.es a m) a m)) (el_call (n, W, flipM s.es a m, a, m) (by by_place) ⟨hn, hw, t2, ha, by show m < W; omega, b2⟩ rfl) ?_)
        show SD K _ [.ow (dT (clearedM (flipM s.es a m) a m)), .sh (.int width), .no, .od (usK s.us) (List.replicate s.us.length (.bl true)), .ow (pvD s.pv), .sh (.int m), .sh (.int a), .no] _
        have ul : s.us.length ≤ n := by
          have hs : s.us ⊆ List.range n := fun x hx => List.mem_range.mpr (u1 x hx)
          have := nodup_len s.us n nd1 u1
          exact this
        refine sd_then (sd_putNew (i := 3) (ks := usK s.us) (κ := .inl (a : Int)) (kd := .int a) (d := .bl true) rfl (by by_place) rfl (by by_place) rfl (fun z => ?_) (by unfold usK; rw [List.length_map, PySem.sizeLine_eq]; omega) ?_)
        · have h1 := hasK_us s.us a
          rw [hasK_iff.mpr z] at h1
          exact hau (List.contains_iff_mem.mp h1.symm)
        · show SD K _ [.ow (dT (clearedM (flipM s.es a m) a m)), .sh (.int width), .no, .od (usK s.us ++ [.inl (a : Int)]) (List.replicate s.us.length (.bl true) ++ [.bl true]), .ow (pvD s.pv), .sh (.int m), .sh (.int a), .no] _
          refine sd_app (i := 4) (d := .tup [.int a, .int m]) rfl (ed_tup (by by_place) (Nat.le_of_ble_eq_true rfl)) (by unfold pvD; rw [List.length_map, PySem.sizeLine_eq]; have : s.us.length = s.pv.length := List.length_map _; omega) ?_
          show [_, _, _, _, _, _, _, _] = _
          have e : stepM s m = ⟨clearedM (flipM s.es a m) a m, s.pv ++ [(a, m)]⟩ := by unfold stepM; rw [hf]
          have e2 : (stepM s m).us = s.us ++ [a] := by rw [e]; unfold El.us; rw [List.map_append]; rfl
          rw [e2, List.length_append, show s.us.length + [a].length = s.us.length + 1 from rfl, List.replicate_succ', e]
          unfold usK pvD
          rw [List.map_append, List.map_append]
          rfl
  · subst hI
    rw [Int.toNat_natCast]
    refine sd_frz (i := 0) rfl rfl (sd_frz (i := 4) rfl rfl ?_)
    generalize elimTo es width = s
    show SD K _ [.sh (.lst (dT s.es)), .sh (.int width), .no, .od (usK s.us) (List.replicate s.us.length (.bl true)), .sh (.lst (pvD s.pv)), .no, .no, .no] _
    exact sd_ret (d := .tup [.lst (dT s.es), .lst (pvD s.pv)]) (ed_tup (by by_place) (Nat.le_of_ble_eq_true rfl)) rfl
theorem scBarOf : FnScope ["entries", "pivots", "width", "used", "at", "_", "k", "right", "bar", "number"] ["entries", "pivots", "width"] (defScope sBarOf) := ⟨rfl, rfl, rfl, by decide +kernel, rfl, by decide +kernel, by decide +kernel⟩
theorem okBarOf (T : Txt K mg) (c_Lowest : Cal P w K mg base 33 "lowest" ["numbers"] (spLowest K)) : Cal P w K mg base 34 "bar_of" ["entries", "pivots", "width"] (spBarOf K) := by
  refine cal_mk T.f_BarOf T.g_BarOf scBarOf (fun vs H Q E h => spT_len (n := 3) (fun _ => rfl) h) (fun _ _ _ _ _ _ us hl => match us, hl with | [_, _, _], _ => rfl) (fun cdv A outer s H vs Q E hr h => ?_)
  refine ⟨_, (pss_cons (DL.ps_setDc (i := 3) (own := [("at", 4), ("_", 5)]) (by rfl) scBarOf.nd rfl rfl (DL.swD rfl rfl rfl (by decide +kernel)) (DL.pi_listC (K := K) rfl (pv 1)) (blkOk_by (own := [("at", 4), ("_", 5)]) (by kernel_rfl)) (fun _ _ _ _ _ => (DL.pg_tupC (K := K) (n := 2) rfl rfl (pgs_cons (pg_name (i := 4) scBarOf.nd rfl (by first | exact Or.inl rfl | exact Or.inr rfl)) (pgs_cons (pg_name (i := 5) scBarOf.nd rfl (by first | exact Or.inl rfl | exact Or.inr rfl)) pgs_nil)))) (fun _ _ _ _ _ => pts_nil) (fun _ _ _ _ _ => (pv 4)) (fun _ _ _ _ _ => pe_bl))
      (pss_cons (ps_for PassesOwn.never rfl (pi_range1 (by rfl) T.b_range (pa_cons (pe_callB (DL.call_len_seqC (K := K) rfl) (by rfl) T.b_len (by decide +kernel) (pa_cons (pv 0) pa_nil)) pa_nil)) (pg_name (i := 6) scBarOf.nd rfl (by first | exact Or.inl rfl | exact Or.inr rfl))
      (pss_cons (ps_set (i := 7) scBarOf.nd rfl (by first | exact Or.inl rfl | exact Or.inr rfl) (pe_ix (DL.ix_seqC (K := K) rfl) (pe_ix (DL.ix_seqC (K := K) rfl) (pv 0) (pv 6) (fun _ _ => rfl)) (pv 2) (fun _ _ => rfl)))
      (pss_one (ps_if (PW.pt (pw_and (pt_cmp (pc_dnotin (hu_of hr) (pv 6) (pv 3)) (by rfl)) (pw_and1 (pt_cmpR op_ne (pv 7) pe_int (nomark _)))))
      (pss_cons (ps_set (i := 8) scBarOf.nd rfl (by first | exact Or.inl rfl | exact Or.inr rfl) (DL.pe_cal c_Lowest (hr.mono (by decide)) (pa_cons (pe_slice (DL.sl_listC (K := K) rfl) (pe_ix (DL.ix_seqC (K := K) rfl) (pv 0) (pv 6) (fun _ _ => rfl)) (po_some (pe_op op_add (pv 2) pe_int)) po_none) pa_nil)))
      (pss_cons (ps_if (pt_cmpR op_lt (pv 7) pe_int (nomark _))
      (pss_one (ps_ret (pe_callTy (DL.call_tuple_ofC (K := K) rfl) (by rfl) T.b_tuple (by decide +kernel) (pa_cons (pe_lc (own := [("number", 9)]) (g := gName 9) (by rfl) scBarOf.nd (DL.pi_listC (K := K) rfl (pv 8)) (blkOk_by (own := [("number", 9)]) (by kernel_rfl)) (fun _ _ _ _ _ => (pg_name (i := 9) scBarOf.nd rfl (by first | exact Or.inl rfl | exact Or.inr rfl))) (fun _ _ _ _ _ => pts_nil) (fun _ _ _ _ _ => (pe_un un_neg (pv 9)))) pa_nil))))
      pss_nil)
      (pss_one (ps_ret (pe_callTy (DL.call_tuple_ofC (K := K) rfl) (by rfl) T.b_tuple (by decide +kernel) (pa_cons (pv 8) pa_nil))))))
      pss_nil))))
      (pss_one (ps_ret pe_non)))), ?_⟩
  refine sd_fn h (fun _ => Nat.le_of_ble_eq_true rfl) ?_
  try dsimp only [L2.cxOf]
  intro ⟨n, W, s, width⟩ hp
  obtain ⟨hn, hw, t, hc, nd, u⟩ : PreBar n W s width := hp
  have hl : s.es.length = n := t.n
  have ul : s.us.length = s.pv.length := List.length_map _
  have un : s.us.length ≤ n := nodup_len _ _ nd u
  show SD K _ [.sh (.lst (dT s.es)), .sh (.lst (pvD s.pv)), .sh (.int width), .no, .no, .no, .no, .no, .no, .no] { nx := _, rt := fun r => r = .sh (barD (barM s width)) }
  have hus : (.dct ((List.range (pvD s.pv).length).map fun i => (Sum.inl (Int.ofNat (s.us.getD i 0)) : Key)) (List.replicate (pvD s.pv).length (.bl true)) : DL.D) = usD s.us := by
    unfold usD usK
    rw [show (pvD s.pv).length = s.us.length by unfold pvD; rw [List.length_map, ul]]
    congr 1
    exact range_gen (fun a => (Sum.inl (Int.ofNat a) : Key)) s.us _ fun i d h => by rw [getD_get h]
  refine sd_then (sd_asg (d := usD s.us) (EvD.is (ed_dcL (ds := pvD s.pv) (fun i => (Sum.inl (Int.ofNat (s.us.getD i 0)) : Key)) (.bl true) rfl (by by_place) (.inl rfl) (by unfold pvD; rw [List.length_map]; omega) (fun i j hij hj e => ?_) fun i d hd => ?_) hus) ?_)
  · have hj : j < s.us.length := by unfold pvD at hj; rw [List.length_map] at hj; omega
    have e : s.us.getD i 0 = s.us.getD j 0 := by
      have := Sum.inl.inj e
      exact Int.ofNat.inj this
    exact nodup_ne nd hij (get_getD 0 (by omega)) (get_getD 0 hj) e
  · obtain ⟨r, hr, rfl⟩ := get_pvD hd
    have e : s.us.getD i 0 = r.1 := getD_get (by unfold El.us; rw [List.getElem?_map, hr]; rfl)
    exact ⟨_, .int r.1, tg_pair (i := 4) (j := 5) (by decide) (by decide), by by_place, by rw [e]; rfl, by by_place⟩
  · show SD K _ [.sh (.lst (dT s.es)), .sh (.lst (pvD s.pv)), .sh (.int width), .sh (.dct (usK s.us) (List.replicate s.us.length (.bl true))), .no, .no, .no, .no, .no, .no] _
    generalize List.replicate s.us.length (DL.D.bl true) = vals
    refine sd_cut (fun ρ => ρ = [.sh (.lst (dT s.es)), .sh (.lst (pvD s.pv)), .sh (.int width), .sh (.dct (usK s.us) vals), .no, .no, .no, .no, .no, .no] ∧ ∀ k, k < n → barT s.es s.us width k = false)
      (sd_forRn [6, 7, 8, 9] (z := (n : Int)) (EvA.is (by by_place) (by rw [dT_len, hl])) (by omega) (fun m ρ => ρ = [.sh (.lst (dT s.es)), .sh (.lst (pvD s.pv)), .sh (.int width), .sh (.dct (usK s.us) vals), .no, .no, .no, .no, .no, .no] ∧ ∀ k, k < m → barT s.es s.us width k = false) ⟨rfl, fun k hk => by omega⟩ (fun m ρ hm hI => ?_) (fun ρ hI => ?_)) (fun ρ hM => ?_)
    · obtain ⟨rfl, hI⟩ := hI
      have hm : m < n := by omega
      refine ⟨rfl, ?_⟩
      have gm := dT_get (get_getD (l := s.es) (i := m) [] (by omega))
      have lm : (s.es.getD m []).length = W := t.row hm
      have gp := dI_get (get_getD (l := s.es.getD m []) (i := width) 0 (by omega))
      show SD K _ [.sh (.lst (dT s.es)), .sh (.lst (pvD s.pv)), .sh (.int width), .sh (.dct (usK s.us) vals), .no, .no, .sh (.int m), .no, .no, .no] _
      refine sd_then (sd_asg (d := .int ((s.es.getD m []).getD width 0)) (by by_place) ?_)
      show SD K _ [.sh (.lst (dT s.es)), .sh (.lst (pvD s.pv)), .sh (.int width), .sh (.dct (usK s.us) vals), .no, .no, .sh (.int m), .sh (.int ((s.es.getD m []).getD width 0)), .no, .no] _
      refine sd_if (x := barT s.es s.us width m) (EvT.is (et_and (x := !hasK (usK s.us) (.inl (m : Int))) (et_B (ed_dnotin (a := .int m) (by by_place) rfl (by by_place))) fun _ => by by_place) (by rw [hasK_us]; rfl)) (fun h => ?_) (fun h => sd_next ?_)
      · have hT := h
        unfold barT at h
        rw [Bool.and_eq_true, Bool.not_eq_true', Bool.not_eq_true', decide_eq_false_iff_not] at h
        have hmu : m ∉ s.us := fun z => by
          rw [List.contains_iff_mem.mpr z] at h
          cases h.1
        have hfind : (List.range s.es.length).find? (barT s.es s.us width) = some m := find_some (by omega) hI hT
        generalize hE : s.es.getD m [] = E at gm lm gp h
        generalize hV : E.getD width 0 = v at gp h
        have lowl : (lowM (E.drop (width + 1))).length = W - (width + 1) := by rw [lowM_len, List.length_drop, lm]
        refine sd_then (sd_asgL (ds := dI (lowM (E.drop (width + 1)))) (el_call (false, E.drop (width + 1)) (ea_cons (EvL.data (EvL.is (el_sl (ds := dI E) (by by_place) (.inl rfl) (eo_some (i := ((width + 1 : Nat) : Int)) (EvD.is (by by_place) (by rw [Int.natCast_add]; rfl))) eo_none) (by rw [cut_drop _ _ (by rw [List.length_map]; omega)]; unfold dI; rw [List.map_drop]))) ea_nil) (by show (E.drop (width + 1)).length ≤ 10000; rw [List.length_drop]; omega) rfl) (sd_frz (i := 8) rfl rfl ?_))
        show SD K _ [.sh (.lst (dT s.es)), .sh (.lst (pvD s.pv)), .sh (.int width), .sh (.dct (usK s.us) vals), .no, .no, .sh (.int m), .sh (.int v), .sh (.lst (dI (lowM (E.drop (width + 1))))), .no] _
        have hb : barM s width = if v < 0 then some ((lowM (E.drop (width + 1))).map fun x => -x) else some (lowM (E.drop (width + 1))) := by
          unfold barM
          rw [hfind]
          show (if (s.es.getD m []).getD width 0 < 0 then _ else _) = _
          rw [hE, hV]
        refine sd_then (sd_if (x := decide (v < 0)) (by by_place) (fun h2 => ?_) (fun h2 => sd_next ?_))
        · have h2 := of_decide_eq_true h2
          refine sd_ret (d := .tup (dI ((lowM (E.drop (width + 1))).map fun x => -x))) (ed_cb (ea_cons (EvL.data (el_mapI (i := 9) (fun x => -x) (by by_place) (by decide) (by omega) fun x hx => by by_place)) ea_nil) (cd_tuple rfl)) ?_
          rw [hb, if_pos h2]
          rfl
        · have h2 := of_decide_eq_false h2
          show SD K _ [.sh (.lst (dT s.es)), .sh (.lst (pvD s.pv)), .sh (.int width), .sh (.dct (usK s.us) vals), .no, .no, .sh (.int m), .sh (.int v), .sh (.lst (dI (lowM (E.drop (width + 1))))), .no] _
          refine sd_ret (d := .tup (dI (lowM (E.drop (width + 1))))) (ed_cb (by by_place) (cd_tuple rfl)) ?_
          rw [hb, if_neg h2]
          rfl
      · refine ⟨rfl, fun k hk => ?_⟩
        by_cases e : k = m
        · rw [e]; exact h
        · exact hI k (by omega)
    · obtain ⟨rfl, hI⟩ := hI
      exact ⟨rfl, fun k hk => hI k (by omega)⟩
    · obtain ⟨rfl, hI⟩ := hM
      refine sd_ret (d := .non) (by by_place) ?_
      show Ret.sh _ = Ret.sh _
      unfold barM
      rw [find_none fun k hk => hI k (by omega)]
      rfl
theorem scSolution_Init : FnScope ["self", "point", "bar"] ["self", "point", "bar"] (defScope sSolution_Init) := ⟨rfl, rfl, rfl, by decide +kernel, rfl, by decide +kernel, by decide +kernel⟩
theorem initSolution (T : Txt K mg) : ∃ fd, FunD K "__init__" "Solution.__init__" (defArgs sSolution_Init) (defBody sSolution_Init) (defScope sSolution_Init) [] [] (He.ma K (He.ga K "Solution") "__init__") fd ∧ FnOk P w K mg base CX0 1 (He.ma K (He.ga K "Solution") "__init__") fd ["self", "point", "bar"] (spInit (He.ga K "Solution") ["point", "bar"]) := by
  obtain ⟨fd, F⟩ := T.f_Solution_Init
  exact ⟨fd, F, ok_mk F scSolution_Init (fun vs H Q E ⟨x, dx, ws, e, hl, _⟩ => by rw [e]; exact congrArg Nat.succ hl) fun cdv A outer s H vs Q E hr h => ⟨_, (pss_cons (ps_fld (pv 0) (pv 1) rfl)
      (pss_one (ps_fld (pv 0) (pv 2) rfl))), init2 h rfl T.cl_Solution T.na_Solution_point T.na_Solution_bar (by decide)⟩⟩
theorem mkSolution (T : Txt K mg) : Mak P w K mg base 1 "Solution" (He.ga K "Solution") ["point", "bar"] := by
  obtain ⟨fd, F, ok⟩ := initSolution (P := P) (w := w) (base := base) T
  exact ⟨_, fd, _, T.g_Solution, T.mk_Solution, ok, F.bindsN (fun _ _ _ _ _ _ us hl => match us, hl with | [_, _, _], _ => rfl)⟩
theorem mkSolution_bar_point (T : Txt K mg) : MakK P w K mg base 1 "Solution" (He.ga K "Solution") ["point", "bar"] ["bar", "point"] gv_Solution_bar_point := by
  obtain ⟨fd, F, ok⟩ := initSolution (P := P) (w := w) (base := base) T
  refine ⟨_, fd, _, _, T.g_Solution, T.mk_Solution, ok, kb0 F 1 ["bar", "point"] gv_Solution_bar_point (fun {vs zs us ws} r1 r2 => ?_) (fun _ _ _ _ _ _ us ws l1 l2 => match us, ws, l1, l2 with | [_], [_, _], _, _ => rfl)⟩
  cases r1 with
  | nil => exact .nil
  | cons a r1 =>
    cases r1 with
    | cons b r1 => exact .nil
    | nil =>
      cases r2 with
      | nil => exact .nil
      | cons c r2 =>
        cases r2 with
        | nil => exact .nil
        | cons d r2 =>
          cases r2 with
          | nil => exact .cons a (.cons d (.cons c .nil))
          | cons e r2 => exact .nil
theorem scSolved : FnScope ["table", "right", "width", "size", "entries", "k", "marks", "pivots", "bar", "point", "at", "column"] ["table", "right"] (defScope sSolved) := ⟨rfl, rfl, rfl, by decide +kernel, rfl, by decide +kernel, by decide +kernel⟩
theorem okSolved (T : Txt K mg) (c_Eliminated : Cal P w K mg base 35 "eliminated" ["entries", "width"] (spEliminated K)) (c_BarOf : Cal P w K mg base 34 "bar_of" ["entries", "pivots", "width"] (spBarOf K)) (c_Ratio : Cal P w K mg base 1 "ratio" ["top", "bottom"] (spRatio K)) (c_RowOf : Cal P w K mg base 2 "row_of" ["ratios"] (spRowOf K)) (m_Solution : Mak P w K mg base 1 "Solution" (He.ga K "Solution") ["point", "bar"]) : Cal P w K mg base 36 "solved" ["table", "right"] (spSolved K) := by
  refine cal_mk T.f_Solved T.g_Solved scSolved (fun vs H Q E h => spT_len (n := 2) (fun _ => rfl) h) (fun _ _ _ _ _ _ us hl => match us, hl with | [_, _], _ => rfl) (fun cdv A outer s H vs Q E hr h => ?_)
  refine ⟨_, (pss_cons (ps_set (i := 2) scSolved.nd rfl (by first | exact Or.inl rfl | exact Or.inr rfl) (pe_callB (DL.call_len_seqC (K := K) rfl) (by rfl) T.b_len (by decide +kernel) (pa_cons (pe_ix (DL.ix_seqC (K := K) rfl) (pv 0) pe_int (fun _ _ => rfl)) pa_nil)))
      (pss_cons (ps_set (i := 3) scSolved.nd rfl (by first | exact Or.inl rfl | exact Or.inr rfl) (pe_callB (DL.call_len_seqC (K := K) rfl) (by rfl) T.b_len (by decide +kernel) (pa_cons (pv 0) pa_nil)))
      (pss_cons (ps_set (i := 4) scSolved.nd rfl (by first | exact Or.inl rfl | exact Or.inr rfl) (pe_lst pa_nil))
      (pss_cons (ps_for PassesOwn.never rfl (pi_range1 (by rfl) T.b_range (pa_cons (pv 3) pa_nil)) (pg_name (i := 5) scSolved.nd rfl (by first | exact Or.inl rfl | exact Or.inr rfl))
      (pss_cons (ps_set (i := 6) scSolved.nd rfl (by first | exact Or.inl rfl | exact Or.inr rfl) (pe_op op_rep (pe_lst (pa_cons pe_int pa_nil)) (pv 3)))
      (pss_cons (ps_asg pe_int (pg_sub (pv 6) (pv 5) set_list))
      (pss_one (ps_expr (pe_bm PySem.F.plainAttrs_list PySem.F.slot_list_append PySem.F.type_list_append mt_append (pv 4) (pa_cons (pe_op op_cat (pe_op op_cat (pe_callTy (DL.call_list_ofC (K := K) rfl) (by rfl) T.b_list (by decide +kernel) (pa_cons (pe_ix (DL.ix_seqC (K := K) rfl) (pv 0) (pv 5) (fun _ _ => rfl)) pa_nil)) (pe_lst (pa_cons (pe_ix (DL.ix_seqC (K := K) rfl) (pv 1) (pv 5) (fun _ _ => rfl)) pa_nil))) (pv 6)) pa_nil)))))))
      (pss_cons (ps_asg (DL.pe_cal c_Eliminated (hr.mono (by decide)) (pa_cons (pv 4) (pa_cons (pv 2) pa_nil))) (DL.pg_tupC (K := K) (n := 2) rfl rfl (pgs_cons (pg_name (i := 4) scSolved.nd rfl (by first | exact Or.inl rfl | exact Or.inr rfl)) (pgs_cons (pg_name (i := 7) scSolved.nd rfl (by first | exact Or.inl rfl | exact Or.inr rfl)) pgs_nil))))
      (pss_cons (ps_set (i := 8) scSolved.nd rfl (by first | exact Or.inl rfl | exact Or.inr rfl) (DL.pe_cal c_BarOf (hr.mono (by decide)) (pa_cons (pv 4) (pa_cons (pv 7) (pa_cons (pv 2) pa_nil)))))
      (pss_cons (ps_if (pt_cmpR op_notN (pv 8) pe_non (nomark _))
      (pss_one (ps_ret (DL.pe_mk m_Solution (hr.mono (by decide)) (pa_cons pe_non (pa_cons (pv 8) pa_nil)))))
      pss_nil)
      (pss_cons (ps_set (i := 9) scSolved.nd rfl (by first | exact Or.inl rfl | exact Or.inr rfl) (pe_op op_rep (pe_lst (pa_cons (pe_tup (pa_cons pe_int (pa_cons pe_int pa_nil))) pa_nil)) (pv 2)))
      (pss_cons (ps_for PassesOwn.never rfl (DL.pi_listC (K := K) rfl (pv 7)) (DL.pg_tupC (K := K) (n := 2) rfl rfl (pgs_cons (pg_name (i := 10) scSolved.nd rfl (by first | exact Or.inl rfl | exact Or.inr rfl)) (pgs_cons (pg_name (i := 11) scSolved.nd rfl (by first | exact Or.inl rfl | exact Or.inr rfl)) pgs_nil)))
      (pss_one (ps_asg (DL.pe_cal c_Ratio (hr.mono (by decide)) (pa_cons (pe_ix (DL.ix_seqC (K := K) rfl) (pe_ix (DL.ix_seqC (K := K) rfl) (pv 4) (pv 10) (fun _ _ => rfl)) (pv 2) (fun _ _ => rfl)) (pa_cons (pe_ix (DL.ix_seqC (K := K) rfl) (pe_ix (DL.ix_seqC (K := K) rfl) (pv 4) (pv 10) (fun _ _ => rfl)) (pv 11) (fun _ _ => rfl)) pa_nil))) (pg_sub (pv 9) (pv 11) set_list))))
      (pss_one (ps_ret (DL.pe_mk m_Solution (hr.mono (by decide)) (pa_cons (DL.pe_cal c_RowOf (hr.mono (by decide)) (pa_cons (pv 9) pa_nil)) (pa_cons pe_non pa_nil)))))))))))))), ?_⟩
  refine sd_fn h (fun _ => Nat.le_of_ble_eq_true rfl) ?_
  try dsimp only [L2.cxOf]
  intro ⟨kt, kr, T', b, n, width⟩ hp
  obtain ⟨hn, t, l, e, pb, pp, pr⟩ : PreSolved T' b n width := hp
  have n1 := e.hn
  have w1 := e.hw
  have hl : T'.length = n := t.n
  have g0 : atI (T'.map fun r => seqD kt (dI r)) 0 = some (seqD kt (dI (T'.getD 0 []))) := atI_nat (j := 0) (seqD_pos (by omega))
  have r0 : (T'.getD 0 []).length = width := t.row (by omega)
  show SD K _ [.sh (seqD kt (T'.map fun r => seqD kt (dI r))), .sh (seqD kr (dI b)), .no, .no, .no, .no, .no, .no, .no, .no, .no, .no] { nx := _, rt := fun r => r = .sh (solD K (solM T' b width)) }
  refine sd_then (sd_asg (d := .int width) (EvD.is (by by_place) (by rw [List.length_map, r0])) ?_)
  refine sd_then (sd_asg (d := .int n) (EvD.is (by by_place) (by rw [List.length_map, hl])) ?_)
  refine sd_then (sd_asgL (ds := []) (el_lst ea_nil (by decide)) ?_)
  show SD K _ [.sh (seqD kt (T'.map fun r => seqD kt (dI r))), .sh (seqD kr (dI b)), .sh (.int width), .sh (.int n), .ow [], .no, .no, .no, .no, .no, .no, .no] _
  let G : Nat → List Int := fun k => T'.getD k [] ++ [b.getD k 0] ++ (List.replicate n 0).set k 1
  have hG : entriesM T' b = (List.range n).map G := by unfold entriesM; rw [hl]
  refine sd_cut (fun ρ => ρ = [.sh (seqD kt (T'.map fun r => seqD kt (dI r))), .sh (seqD kr (dI b)), .sh (.int width), .sh (.int n), .ow (dT (entriesM T' b)), .no, .no, .no, .no, .no, .no, .no])
    (sd_forRn [5, 6] (z := (n : Int)) (by by_place) (by omega) (fun m ρ => ρ = [.sh (seqD kt (T'.map fun r => seqD kt (dI r))), .sh (seqD kr (dI b)), .sh (.int width), .sh (.int n), .ow (dT ((List.range m).map G)), .no, .no, .no, .no, .no, .no, .no]) rfl (fun m ρ hm hI => ?_) (fun ρ hI => ?_)) (fun ρ hM => ?_)
  · subst hI
    have hm : m < n := by omega
    refine ⟨rfl, ?_⟩
    have gm := seqD_pos (k := kt) (T := T') (m := m) (by omega)
    have gb := dI_get (get_getD (l := b) (i := m) 0 (by omega))
    have rm : (T'.getD m []).length = width := t.row hm
    show SD K _ [.sh (seqD kt (T'.map fun r => seqD kt (dI r))), .sh (seqD kr (dI b)), .sh (.int width), .sh (.int n), .ow (dT ((List.range m).map G)), .sh (.int m), .no, .no, .no, .no, .no, .no] _
    refine sd_then (sd_asgL (ds := dI (List.replicate n 0)) (el_rep (by by_place) (by by_place) (by omega)) ?_)
    show SD K _ [.sh (seqD kt (T'.map fun r => seqD kt (dI r))), .sh (seqD kr (dI b)), .sh (.int width), .sh (.int n), .ow (dT ((List.range m).map G)), .sh (.int m), .ow (dI (List.replicate n 0)), .no, .no, .no, .no, .no] _
    refine sd_then (sd_set (i := 6) (m := m) (d := .int 1) rfl (by by_place) (by by_place) (by rw [List.length_map, List.length_replicate]; exact hm) ?_)
    refine sd_frz (i := 6) rfl rfl ?_
    rw [dI_set]
    show SD K _ [.sh (seqD kt (T'.map fun r => seqD kt (dI r))), .sh (seqD kr (dI b)), .sh (.int width), .sh (.int n), .ow (dT ((List.range m).map G)), .sh (.int m), .sh (.lst (dI ((List.replicate n 0).set m 1))), .no, .no, .no, .no, .no] _
    have sl : (dI (T'.getD m [])).length = width := by rw [List.length_map]; exact rm
    refine sd_app (i := 4) (d := .lst (dI (G m))) rfl (EvD.is (EvL.data (el_op (EvL.data (el_op (EvL.data (el_cb (by by_place) (cl_list seqD_items))) (by by_place) (ol_cat (by rw [sl, PySem.sizeLine_eq]; show width + 1 ≤ _; omega)))) (by by_place) (ol_cat (by rw [List.length_append, sl, List.length_map, List.length_set, List.length_replicate, PySem.sizeLine_eq]; show width + 1 + n ≤ _; omega)))) ?_) (by rw [dT_len, List.length_map, List.length_range, PySem.sizeLine_eq]; omega) ?_
    · show DL.D.lst _ = DL.D.lst (dI (T'.getD m [] ++ [b.getD m 0] ++ (List.replicate n 0).set m 1))
      rw [dI_append, dI_append]
      rfl
    · show [_, _, _, _, _, _, _, _, _, _, _, _] = _
      unfold dT
      rw [List.range_succ, List.map_append, List.map_append]
      rfl
  · subst hI
    rw [Int.toNat_natCast, hG]
  · subst hM
    refine sd_frz (i := 4) rfl rfl ?_
    show SD K _ [.sh (seqD kt (T'.map fun r => seqD kt (dI r))), .sh (seqD kr (dI b)), .sh (.int width), .sh (.int n), .sh (.lst (dT (entriesM T' b))), .no, .no, .no, .no, .no, .no, .no] _
    refine sd_then (sd_asg2 (i := 4) (j := 7) (ed_call (false, n, width + 1 + n, entriesM T' b, width) (by by_place) e rfl) ?_)
    have hsol : solM T' b width = match barM (elimTo (entriesM T' b) width) width with
      | some x => .bar x
      | none => .pt (rowOfM (pointM (elimTo (entriesM T' b) width) width)).1 (rowOfM (pointM (elimTo (entriesM T' b) width) width)).2 := rfl
    generalize elimTo (entriesM T' b) width = s at pb pp pr hsol
    show SD K _ [.sh (seqD kt (T'.map fun r => seqD kt (dI r))), .sh (seqD kr (dI b)), .sh (.int width), .sh (.int n), .sh (.lst (dT s.es)), .no, .no, .sh (.lst (pvD s.pv)), .no, .no, .no, .no] _
    refine sd_then (sd_asg (d := barD (barM s width)) (ed_call (n, width + 1 + n, s, width) (by by_place) pb rfl) ?_)
    show SD K _ [.sh (seqD kt (T'.map fun r => seqD kt (dI r))), .sh (seqD kr (dI b)), .sh (.int width), .sh (.int n), .sh (.lst (dT s.es)), .no, .no, .sh (.lst (pvD s.pv)), .sh (barD (barM s width)), .no, .no, .no] _
    cases hb : barM s width with
    | some x =>
      rw [hb] at hsol
      show SD K _ [.sh (seqD kt (T'.map fun r => seqD kt (dI r))), .sh (seqD kr (dI b)), .sh (.int width), .sh (.int n), .sh (.lst (dT s.es)), .no, .no, .sh (.lst (pvD s.pv)), .sh (.tup (dI x)), .no, .no, .no] _
      refine sd_then (sd_if (x := true) (EvT.is (by by_place) (by rfl)) (fun _ => ?_) (fun h => by cases h))
      refine sd_ret (d := .ins (He.ga K "Solution") ["point", "bar"] [.non, .tup (dI x)]) (ed_make (by by_place) rfl) ?_
      rw [hsol]
      rfl
    | none =>
      rw [hb] at hsol
      show SD K _ [.sh (seqD kt (T'.map fun r => seqD kt (dI r))), .sh (seqD kr (dI b)), .sh (.int width), .sh (.int n), .sh (.lst (dT s.es)), .no, .no, .sh (.lst (pvD s.pv)), .sh .non, .no, .no, .no] _
      refine sd_then (sd_if (x := false) (EvT.is (by by_place) (by rfl)) (fun h => by cases h) (fun _ => sd_next ?_))
      show SD K _ [.sh (seqD kt (T'.map fun r => seqD kt (dI r))), .sh (seqD kr (dI b)), .sh (.int width), .sh (.int n), .sh (.lst (dT s.es)), .no, .no, .sh (.lst (pvD s.pv)), .sh .non, .no, .no, .no] _
      have h01 : List.replicate (width : Int).toNat (DL.D.tup [.int 0, .int 1]) = prD (List.replicate width (0, 1)) := by
        rw [Int.toNat_natCast]
        unfold prD
        rw [List.map_replicate]
      refine sd_then (sd_asgL (ds := prD (List.replicate width (0, 1))) (EvL.is (el_op (ed_lst (ea_cons (ed_tup (by by_place) (Nat.le_of_ble_eq_true rfl)) ea_nil) (Nat.le_of_ble_eq_true rfl)) (by by_place) (ol_rep (by omega) (by omega))) h01) ?_)
      show SD K _ [.sh (seqD kt (T'.map fun r => seqD kt (dI r))), .sh (seqD kr (dI b)), .sh (.int width), .sh (.int n), .sh (.lst (dT s.es)), .no, .no, .sh (.lst (pvD s.pv)), .sh .non, .ow (prD (List.replicate width (0, 1))), .no, .no] _
      let F : Nat × Nat → Int × Int := fun ac => ratioM ((s.es.getD ac.1 []).getD width 0) ((s.es.getD ac.1 []).getD ac.2 0)
      have hP : pointM s width = s.pv.foldl (fun p ac => p.set ac.2 (F ac)) (List.replicate width (0, 1)) := rfl
      refine sd_cut (fun ρ => ρ = [.sh (seqD kt (T'.map fun r => seqD kt (dI r))), .sh (seqD kr (dI b)), .sh (.int width), .sh (.int n), .sh (.lst (dT s.es)), .no, .no, .sh (.lst (pvD s.pv)), .sh .non, .ow (prD (pointM s width)), .no, .no])
        (sd_forLg [10, 11] (ds := pvD s.pv) (by by_place) (.inl rfl) (fun m ρ => ρ = [.sh (seqD kt (T'.map fun r => seqD kt (dI r))), .sh (seqD kr (dI b)), .sh (.int width), .sh (.int n), .sh (.lst (dT s.es)), .no, .no, .sh (.lst (pvD s.pv)), .sh .non, .ow (prD ((s.pv.take m).foldl (fun p ac => p.set ac.2 (F ac)) (List.replicate width (0, 1)))), .no, .no]) rfl (fun m d ρ hd hI => ?_) (fun ρ hI => ?_)) (fun ρ hM => ?_)
      · subst hI
        obtain ⟨r, hr, rfl⟩ := get_pvD hd
        obtain ⟨p1, p2, p3, p4⟩ := pp r (List.mem_of_getElem? hr)
        refine ⟨_, ts_pair (i := 10) (j := 11), ?_⟩
        have gr := dT_get (get_getD (l := s.es) (i := r.1) [] (by rw [pb.t.n]; exact p1))
        have lr : (s.es.getD r.1 []).length = width + 1 + n := pb.t.row p1
        have gw := dI_get (get_getD (l := s.es.getD r.1 []) (i := width) 0 (by omega))
        have gc := dI_get (get_getD (l := s.es.getD r.1 []) (i := r.2) 0 (by omega))
        show SD K _ [.sh (seqD kt (T'.map fun r => seqD kt (dI r))), .sh (seqD kr (dI b)), .sh (.int width), .sh (.int n), .sh (.lst (dT s.es)), .no, .no, .sh (.lst (pvD s.pv)), .sh .non, .ow (prD ((s.pv.take m).foldl (fun p ac => p.set ac.2 (F ac)) (List.replicate width (0, 1)))), .sh (.int r.1), .sh (.int r.2)] _
        refine sd_set (i := 9) (m := r.2) (d := .tup [.int (F r).1, .int (F r).2]) rfl (ed_call ((s.es.getD r.1 []).getD width 0, (s.es.getD r.1 []).getD r.2 0) (by by_place) ⟨p3, p4⟩ rfl) (by by_place) (by unfold prD; rw [List.length_map, pt_len, List.length_replicate]; exact p2) ?_
        show [_, _, _, _, _, _, _, _, _, _, _, _] = _
        rw [prD_set, foldl_take_succ _ _ _ _ r hr]
      · subst hI
        rw [show (pvD s.pv).length = s.pv.length from List.length_map _, List.take_length, hP]
      · subst hM
        refine sd_frz (i := 9) rfl rfl ?_
        show SD K _ [.sh (seqD kt (T'.map fun r => seqD kt (dI r))), .sh (seqD kr (dI b)), .sh (.int width), .sh (.int n), .sh (.lst (dT s.es)), .no, .no, .sh (.lst (pvD s.pv)), .sh .non, .sh (.lst (prD (pointM s width))), .no, .no] _
        refine sd_ret (d := .ins (He.ga K "Solution") ["point", "bar"] [.tup [.tup (dI (rowOfM (pointM s width)).1), .int (rowOfM (pointM s width)).2], .non]) (ed_make (ea_cons (ed_call (pointM s width) (by by_place) pr rfl) (by by_place)) rfl) ?_
        rw [hsol]
        rfl
end
end K02

set_option Elab.async false
set_option linter.all false
set_option maxRecDepth 100000
set_option maxHeartbeats 4000000
set_option exponentiation.threshold 5000
namespace K02
open PySem PySem.Spec PyProof.Rows L2 DL M LS
local macro_rules | `(tactic| by_item) => `(tactic| with_reducible first
  | exact DL.ed_var (by with_unfolding_all rfl) | exact DL.ed_int | exact DL.ed_bl | exact DL.ed_non | exact DL.ed_str | exact DL.ea_nil | exact DL.et_yes
  | apply DL.ea_cons | apply DL.ed_op | apply DL.ed_un | apply DL.ed_lst | apply DL.ed_fld | (show L2.Cls _ _; with_reducible assumption) | (show L2.NoAttr _ _ _; with_reducible assumption) | (show List.lookup _ _ = _; with_unfolding_all rfl) | (show List.length _ ≤ PySem.sizeLine; exact Nat.le_of_ble_eq_true (by with_unfolding_all rfl)) | apply DL.ed_isi | apply DL.ed_cb
  | exact DL.od_I0 | exact DL.od_B0 | exact DL.od_eqI | exact DL.od_neI | exact DL.od_eqS | exact DL.od_isN | exact DL.od_notN | (apply DL.od_divX) | apply DL.od_I | apply DL.od_ix | exact DL.ud_I
  | apply DL.cd_len | exact DL.cd_int | exact DL.cd_intB | exact DL.cd_1 | exact DL.cd_gcd | apply DL.cd_lcmX | exact DL.cd_min3 | exact DL.cd_2
  | apply DL.et_test | apply DL.et_B | apply DL.et_not | apply DL.ed_notV
  | (show DL.tyB _ = _; with_unfolding_all rfl) | (show DL.itemsOf _ = _; with_unfolding_all rfl) | exact DL.seqD_items | (show L2.atI _ _ = _; with_reducible assumption) | (show L2.atI _ _ = _; exact L2.atI_nat (by with_reducible assumption)) | exact DL.atI_zero | exact DL.atI_one | (show L2.atI _ _ = _; with_unfolding_all rfl) | (show L2.kitB _ _ = _; first | exact DL.kb_NoneType_int | exact DL.kb_NoneType_bool | exact DL.kb_NoneType_tuple | exact DL.kb_NoneType_list | exact DL.kb_NoneType_str | exact DL.kb_NoneType_dict | exact DL.kb_bool_int | exact DL.kb_bool_bool | exact DL.kb_bool_tuple | exact DL.kb_bool_list | exact DL.kb_bool_str | exact DL.kb_bool_dict | exact DL.kb_int_int | exact DL.kb_int_bool | exact DL.kb_int_tuple | exact DL.kb_int_list | exact DL.kb_int_str | exact DL.kb_int_dict | exact DL.kb_str_int | exact DL.kb_str_bool | exact DL.kb_str_tuple | exact DL.kb_str_list | exact DL.kb_str_str | exact DL.kb_str_dict | exact DL.kb_list_int | exact DL.kb_list_bool | exact DL.kb_list_tuple | exact DL.kb_list_list | exact DL.kb_list_str | exact DL.kb_list_dict | exact DL.kb_tuple_int | exact DL.kb_tuple_bool | exact DL.kb_tuple_tuple | exact DL.kb_tuple_list | exact DL.kb_tuple_str | exact DL.kb_tuple_dict | exact DL.kb_dict_int | exact DL.kb_dict_bool | exact DL.kb_dict_tuple | exact DL.kb_dict_list | exact DL.kb_dict_str | exact DL.kb_dict_dict))
local macro_rules | `(tactic| by_place) => `(tactic| (repeat' by_item))
local macro_rules | `(tactic| by_in) => `(tactic| first | (with_reducible assumption) | (with_reducible exact DL.seqD_items) | (show (0 : Int) < _; omega) | (show (0 : Int) < _; decide +kernel) | exact M.mulS (by omega) (by omega) | exact M.mulP (by omega) (by omega) (by omega) | exact M.divS (by omega) (by omega) | exact ⟨by decide, by decide, by decide⟩ | exact ⟨by decide, by decide, by omega⟩ | exact L2.atI_nat (by assumption) | (show L2.atI _ _ = _; rfl))
section
variable {P : Program} {w : World} {K : PySem.W.Frag} {mg : Str → Option Value} {base : Heap}
theorem scNullVector : FnScope ["entries", "pivots", "width", "free", "line", "at", "column", "vector"] ["entries", "pivots", "width", "free"] (defScope sNullVector) := ⟨rfl, rfl, rfl, by decide +kernel, rfl, by decide +kernel, by decide +kernel⟩
theorem okNullVector (T : Txt K mg) (c_Lowest : Cal P w K mg base 33 "lowest" ["numbers"] (spLowest K)) (N : DL.Nos P K) : Cal P w K mg base 34 "null_vector" ["entries", "pivots", "width", "free"] (spNullVector K) := by
  refine cal_mk T.f_NullVector T.g_NullVector scNullVector (fun vs H Q E h => spT_len (n := 4) (fun _ => rfl) h) (fun _ _ _ _ _ _ us hl => match us, hl with | [_, _, _, _], _ => rfl) (fun cdv A outer s H vs Q E hr h => ?_)
  have hp := DL.py_of (outer := outer) N hr (by decide) (by decide +kernel) (by decide +kernel)
  refine ⟨_, (pss_cons (ps_set (i := 4) scNullVector.nd rfl (by first | exact Or.inl rfl | exact Or.inr rfl) pe_int)
      (pss_cons (ps_for PassesOwn.never rfl (DL.pi_listC (K := K) rfl (pv 1)) (DL.pg_tupC (K := K) (n := 2) rfl rfl (pgs_cons (pg_name (i := 5) scNullVector.nd rfl (by first | exact Or.inl rfl | exact Or.inr rfl)) (pgs_cons (pg_name (i := 6) scNullVector.nd rfl (by first | exact Or.inl rfl | exact Or.inr rfl)) pgs_nil)))
      (pss_one (ps_if (pt_cmpR op_ne (pe_ix (DL.ix_seqC (K := K) rfl) (pe_ix (DL.ix_seqC (K := K) rfl) (pv 0) (pv 5) (fun _ _ => rfl)) (pv 3) (fun _ _ => rfl)) pe_int (nomark _))
      (pss_one (ps_set (i := 4) scNullVector.nd rfl (by first | exact Or.inl rfl | exact Or.inr rfl) (pe_callBfun (DL.cr_lcmX hp) (by rfl) T.m_lcm (pa_cons (pv 4) (pa_cons (pe_ix (DL.ix_seqC (K := K) rfl) (pe_ix (DL.ix_seqC (K := K) rfl) (pv 0) (pv 5) (fun _ _ => rfl)) (pv 6) (fun _ _ => rfl)) pa_nil)))))
      pss_nil)))
      (pss_cons (ps_set (i := 7) scNullVector.nd rfl (by first | exact Or.inl rfl | exact Or.inr rfl) (pe_op op_rep (pe_lst (pa_cons pe_int pa_nil)) (pv 2)))
      (pss_cons (ps_asg (pv 4) (pg_sub (pv 7) (pv 3) set_list))
      (pss_cons (ps_for PassesOwn.never rfl (DL.pi_listC (K := K) rfl (pv 1)) (DL.pg_tupC (K := K) (n := 2) rfl rfl (pgs_cons (pg_name (i := 5) scNullVector.nd rfl (by first | exact Or.inl rfl | exact Or.inr rfl)) (pgs_cons (pg_name (i := 6) scNullVector.nd rfl (by first | exact Or.inl rfl | exact Or.inr rfl)) pgs_nil)))
      (pss_one (ps_asg (pe_op op_mulW (pe_un un_neg (pe_ix (DL.ix_seqC (K := K) rfl) (pe_ix (DL.ix_seqC (K := K) rfl) (pv 0) (pv 5) (fun _ _ => rfl)) (pv 3) (fun _ _ => rfl))) (pe_op (DL.op_fdivX hp) (pv 4) (pe_ix (DL.ix_seqC (K := K) rfl) (pe_ix (DL.ix_seqC (K := K) rfl) (pv 0) (pv 5) (fun _ _ => rfl)) (pv 6) (fun _ _ => rfl)))) (pg_sub (pv 7) (pv 6) set_list))))
      (pss_one (ps_ret (pe_callTy (DL.call_tuple_ofC (K := K) rfl) (by rfl) T.b_tuple (by decide +kernel) (pa_cons (DL.pe_cal c_Lowest (hr.mono (by decide)) (pa_cons (pv 7) pa_nil)) pa_nil))))))))), ?_⟩
  refine sd_fn h (fun _ => Nat.le_of_ble_eq_true rfl) ?_
  try dsimp only [L2.cxOf]
  intro ⟨n, s, w, f⟩ hp
  obtain ⟨hn, hw, t, hf, pp, b, hl⟩ : PreNull n w s f := hp
  have tl : s.es.length = n := t.n
  have lpos := line_pos s f s.pv 1 (by decide) fun ac hac => (pp ac hac).2.2
  have lpos : 0 < lineN s f := lpos
  have part := fun m => line_part s f m fun ac hac => (pp ac hac).2.2
  have p0 : (2 : Nat) ^ 350000 ≤ 2 ^ 400000 := Nat.pow_le_pow_right (by decide) (by decide)
  have p1 : (2 : Nat) ^ 100000 ≤ 2 ^ 400000 := Nat.pow_le_pow_right (by decide) (by decide)
  have bel : ∀ r, r < n → ∀ j, Sm 100000 (En s.es r j) := fun r hr j => by
    unfold En
    by_cases hj : j < (s.es.getD r []).length
    · exact b _ (M.getD_mem [] (by omega)) _ (M.getD_mem 0 hj)
    · rw [getD_ge (by omega)]
      exact Nat.two_pow_pos _
  have cellw : ∀ ac, ac ∈ s.pv → CMulW (-(En s.es ac.1 f)) (((lineN s f : Nat) : Int) / En s.es ac.1 ac.2) := fun ac hac => by
    obtain ⟨a1, a2, a3⟩ := pp ac hac
    refine (bel ac.1 a1 f).neg.mulW (n := 350000) ?_ (by decide)
    unfold Sm
    refine Nat.lt_of_le_of_lt ?_ hl
    have h1 := Int.ediv_le_self (En s.es ac.1 ac.2) (show (0 : Int) ≤ ((lineN s f : Nat) : Int) by omega)
    have h2 := Int.ediv_nonneg (show (0 : Int) ≤ ((lineN s f : Nat) : Int) by omega) (show 0 ≤ En s.es ac.1 ac.2 by omega)
    omega
  show SD K _ [.sh (.lst (dT s.es)), .sh (.lst (pvD s.pv)), .sh (.int w), .sh (.int f), .no, .no, .no, .no] { nx := _, rt := fun r => r = .sh (.tup (dI (nullV s w f))) }
  refine sd_then (sd_asg (d := .int 1) (by by_place) ?_)
  show SD K _ [.sh (.lst (dT s.es)), .sh (.lst (pvD s.pv)), .sh (.int w), .sh (.int f), .sh (.int 1), .no, .no, .no] _
  refine sd_cut (fun ρ => ρ = [.sh (.lst (dT s.es)), .sh (.lst (pvD s.pv)), .sh (.int w), .sh (.int f), .sh (.int ((lineN s f : Nat) : Int)), .no, .no, .no])
    (sd_forLg [5, 6] (ds := pvD s.pv) (by by_place) (.inl rfl) (fun m ρ => ρ = [.sh (.lst (dT s.es)), .sh (.lst (pvD s.pv)), .sh (.int w), .sh (.int f), .sh (.int (((s.pv.take m).foldl (lineG s f) 1 : Nat) : Int)), .no, .no, .no]) rfl (fun m d ρ hd hI => ?_) (fun ρ hI => ?_)) (fun ρ hM => ?_)
  · subst hI
    obtain ⟨r, hr, rfl⟩ := get_pvD hd
    obtain ⟨a1, a2, a3⟩ := pp r (List.mem_of_getElem? hr)
    refine ⟨_, ts_pair (i := 5) (j := 6), ?_⟩
    have gr := dT_get (get_getD (l := s.es) (i := r.1) [] (by omega))
    have lr : (s.es.getD r.1 []).length = w := t.row a1
    have gf := dI_get (get_getD (l := s.es.getD r.1 []) (i := f) 0 (by omega))
    have gc := dI_get (get_getD (l := s.es.getD r.1 []) (i := r.2) 0 (by omega))
    have e1 : (s.es.getD r.1 []).getD f 0 = En s.es r.1 f := rfl
    have e2 : (s.es.getD r.1 []).getD r.2 0 = En s.es r.1 r.2 := rfl
    rw [e1] at gf
    rw [e2] at gc
    have hs : (s.pv.take (m + 1)).foldl (lineG s f) 1 = lineG s f ((s.pv.take m).foldl (lineG s f) 1) r := foldl_take_succ _ _ _ _ r hr
    have hpm := part m
    generalize (s.pv.take m).foldl (lineG s f) 1 = l at hs hpm
    show SD K _ [.sh (.lst (dT s.es)), .sh (.lst (pvD s.pv)), .sh (.int w), .sh (.int f), .sh (.int (l : Int)), .sh (.int r.1), .sh (.int r.2), .no] _
    have h1 : ((l : Int)).natAbs < 2 ^ 400000 := by rw [Int.natAbs_natCast]; omega
    have h2 : (En s.es r.1 r.2).natAbs < 2 ^ 400000 := Nat.lt_of_lt_of_le (bel r.1 a1 r.2) p1
    refine sd_if (x := !decide (En s.es r.1 f = 0)) (EvT.is (by by_place) (by rfl)) (fun h => ?_) (fun h => sd_next ?_)
    · have h : ¬ En s.es r.1 f = 0 := by simpa using h
      refine sd_asg (d := .int ((Nat.lcm l (En s.es r.1 r.2).natAbs : Nat) : Int)) (EvD.is (by by_place <;> by_in) (by rw [Int.natAbs_natCast])) ?_
      show [_, _, _, _, _, _, _, _] = _
      rw [hs]
      unfold lineG
      rw [if_neg h]
    · have h : En s.es r.1 f = 0 := by simpa using h
      show [_, _, _, _, _, _, _, _] = _
      rw [hs]
      unfold lineG
      rw [if_pos h]
  · subst hI
    rw [show (pvD s.pv).length = s.pv.length from List.length_map _, List.take_length]
    rfl
  · subst hM
    refine sd_then (sd_asgL (ds := dI (List.replicate w 0)) (el_rep (by by_place) (by by_place) (by omega)) ?_)
    show SD K _ [.sh (.lst (dT s.es)), .sh (.lst (pvD s.pv)), .sh (.int w), .sh (.int f), .sh (.int ((lineN s f : Nat) : Int)), .no, .no, .ow (dI (List.replicate w 0))] _
    refine sd_then (sd_set (i := 7) (m := f) (d := .int ((lineN s f : Nat) : Int)) rfl (by by_place) (by by_place) (by rw [List.length_map, List.length_replicate]; exact hf) ?_)
    rw [dI_set]
    show SD K _ [.sh (.lst (dT s.es)), .sh (.lst (pvD s.pv)), .sh (.int w), .sh (.int f), .sh (.int ((lineN s f : Nat) : Int)), .no, .no, .ow (dI ((List.replicate w 0).set f ((lineN s f : Nat) : Int)))] _
    have v0l : ((List.replicate w (0 : Int)).set f ((lineN s f : Nat) : Int)).length = w := by rw [List.length_set, List.length_replicate]
    have vl : ∀ l : List (Nat × Nat), (l.foldl (fun v ac => v.set ac.2 (cellN s f ac)) ((List.replicate w (0 : Int)).set f ((lineN s f : Nat) : Int))).length = w := fun l => by
      have : ∀ (l : List (Nat × Nat)) (v : List Int), (l.foldl (fun v ac => v.set ac.2 (cellN s f ac)) v).length = v.length := by
        intro l
        induction l with
        | nil => intro v; rfl
        | cons a l ih => intro v; rw [List.foldl_cons, ih, List.length_set]
      rw [this, v0l]
    have hvec : vecM s w f = s.pv.foldl (fun v ac => v.set ac.2 (cellN s f ac)) ((List.replicate w (0 : Int)).set f ((lineN s f : Nat) : Int)) := rfl
    have hnv : nullV s w f = lowM (vecM s w f) := rfl
    generalize (List.replicate w (0 : Int)).set f ((lineN s f : Nat) : Int) = v0 at vl hvec
    have hcell : ∀ ac, cellN s f ac = -(En s.es ac.1 f) * (((lineN s f : Nat) : Int) / En s.es ac.1 ac.2) := fun _ => rfl
    generalize hln : ((lineN s f : Nat) : Int) = ln at hcell cellw
    refine sd_cut (fun ρ => ρ = [.sh (.lst (dT s.es)), .sh (.lst (pvD s.pv)), .sh (.int w), .sh (.int f), .sh (.int ln), .no, .no, .ow (dI (vecM s w f))])
      (sd_forLg [5, 6] (ds := pvD s.pv) (by by_place) (.inl rfl) (fun m ρ => ρ = [.sh (.lst (dT s.es)), .sh (.lst (pvD s.pv)), .sh (.int w), .sh (.int f), .sh (.int ln), .no, .no, .ow (dI ((s.pv.take m).foldl (fun v ac => v.set ac.2 (cellN s f ac)) v0))]) rfl (fun m d ρ hd hI => ?_) (fun ρ hI => ?_)) (fun ρ hM => ?_)
    · subst hI
      obtain ⟨r, hr, rfl⟩ := get_pvD hd
      obtain ⟨a1, a2, a3⟩ := pp r (List.mem_of_getElem? hr)
      refine ⟨_, ts_pair (i := 5) (j := 6), ?_⟩
      have gr := dT_get (get_getD (l := s.es) (i := r.1) [] (by omega))
      have lr : (s.es.getD r.1 []).length = w := t.row a1
      have gf := dI_get (get_getD (l := s.es.getD r.1 []) (i := f) 0 (by omega))
      have gc := dI_get (get_getD (l := s.es.getD r.1 []) (i := r.2) 0 (by omega))
      have e1 : (s.es.getD r.1 []).getD f 0 = En s.es r.1 f := rfl
      have e2 : (s.es.getD r.1 []).getD r.2 0 = En s.es r.1 r.2 := rfl
      rw [e1] at gf
      rw [e2] at gc
      have cw := cellw r (List.mem_of_getElem? hr)
      show SD K _ [.sh (.lst (dT s.es)), .sh (.lst (pvD s.pv)), .sh (.int w), .sh (.int f), .sh (.int ln), .sh (.int r.1), .sh (.int r.2), .ow (dI ((s.pv.take m).foldl (fun v ac => v.set ac.2 (cellN s f ac)) v0))] _
      refine sd_set (i := 7) (m := r.2) (d := .int (cellN s f r)) rfl (EvD.is (by by_place <;> by_in) (by rw [hcell])) (by by_place) (by rw [List.length_map, vl]; exact a2) ?_
      show [_, _, _, _, _, _, _, _] = _
      rw [dI_set, foldl_take_succ _ _ _ _ r hr]
    · subst hI
      rw [show (pvD s.pv).length = s.pv.length from List.length_map _, List.take_length, hvec]
    · subst hM
      refine sd_frz (i := 7) rfl rfl ?_
      show SD K _ [.sh (.lst (dT s.es)), .sh (.lst (pvD s.pv)), .sh (.int w), .sh (.int f), .sh (.int ln), .no, .no, .sh (.lst (dI (vecM s w f)))] _
      refine sd_ret (d := .tup (dI (nullV s w f))) (ed_cb (ea_cons (EvL.data (el_call (false, vecM s w f) (by by_place) (by show (vecM s w f).length ≤ 10000; rw [hvec, vl]; omega) rfl)) ea_nil) (cd_tuple rfl)) rfl
theorem scNullBasis : FnScope ["table", "width", "entries", "pivots", "taken", "_", "column", "free"] ["table", "width"] (defScope sNullBasis) := ⟨rfl, rfl, rfl, by decide +kernel, rfl, by decide +kernel, by decide +kernel⟩
theorem okNullBasis (T : Txt K mg) (c_Eliminated : Cal P w K mg base 35 "eliminated" ["entries", "width"] (spEliminated K)) (c_NullVector : Cal P w K mg base 34 "null_vector" ["entries", "pivots", "width", "free"] (spNullVector K)) : Cal P w K mg base 36 "null_basis" ["table", "width"] (spNullBasis K) := by
  refine cal_mk T.f_NullBasis T.g_NullBasis scNullBasis (fun vs H Q E h => spT_len (n := 2) (fun _ => rfl) h) (fun _ _ _ _ _ _ us hl => match us, hl with | [_, _], _ => rfl) (fun cdv A outer s H vs Q E hr h => ?_)
  refine ⟨_, (pss_cons (ps_asg (DL.pe_cal c_Eliminated (hr.mono (by decide)) (pa_cons (pv 0) (pa_cons (pv 1) pa_nil))) (DL.pg_tupC (K := K) (n := 2) rfl rfl (pgs_cons (pg_name (i := 2) scNullBasis.nd rfl (by first | exact Or.inl rfl | exact Or.inr rfl)) (pgs_cons (pg_name (i := 3) scNullBasis.nd rfl (by first | exact Or.inl rfl | exact Or.inr rfl)) pgs_nil))))
      (pss_cons (ps_set (i := 4) scNullBasis.nd rfl (by first | exact Or.inl rfl | exact Or.inr rfl) (pe_dc (own := [("_", 5), ("column", 6)]) (by rfl) scNullBasis.nd (DL.pi_listC (K := K) rfl (pv 3)) (blkOk_by (own := [("_", 5), ("column", 6)]) (by kernel_rfl)) (fun _ _ _ _ _ => (DL.pg_tupC (K := K) (n := 2) rfl rfl (pgs_cons (pg_name (i := 5) scNullBasis.nd rfl (by first | exact Or.inl rfl | exact Or.inr rfl)) (pgs_cons (pg_name (i := 6) scNullBasis.nd rfl (by first | exact Or.inl rfl | exact Or.inr rfl)) pgs_nil)))) (fun _ _ _ _ _ => pts_nil) (fun _ _ _ _ _ => (pv 6)) (fun _ _ _ _ _ => pe_bl)))
      (pss_one (ps_ret (pe_callTy (DL.call_tuple_ofC (K := K) rfl) (by rfl) T.b_tuple (by decide +kernel) (pa_cons (pe_lc (own := [("free", 7)]) (g := gName 7) (by rfl) scNullBasis.nd (pi_range1 (by rfl) T.b_range (pa_cons (pv 1) pa_nil)) (blkOk_by (own := [("free", 7)]) (by kernel_rfl)) (fun _ _ _ _ _ => (pg_name (i := 7) scNullBasis.nd rfl (by first | exact Or.inl rfl | exact Or.inr rfl))) (fun _ _ _ _ _ => (pts_one (pt_cmp (pc_dnotin (hu_of hr) (pv 7) (pv 4)) (by rfl)))) (fun _ _ _ _ _ => (DL.pe_cal c_NullVector (hr.mono (by decide)) (pa_cons (pv 2) (pa_cons (pv 3) (pa_cons (pv 1) (pa_cons (pv 7) pa_nil))))))) pa_nil)))))), ?_⟩
  refine sd_fn h (fun _ => Nat.le_of_ble_eq_true rfl) ?_
  try dsimp only [L2.cxOf]
  intro ⟨k, n, w, T'⟩ hp
  obtain ⟨ok, ⟨pn, nd⟩, nv⟩ : PreBasis n w T' := hp
  have hw : w ≤ 1000 := ok.hw
  show SD K _ [.sh (tabD k T'), .sh (.int w), .no, .no, .no, .no, .no, .no] { nx := _, rt := fun r => r = .sh (.tup (tT (basisM T' w))) }
  refine sd_then (sd_asg2 (i := 2) (j := 3) (ed_call (k, n, w, T', w) (by by_place) ok rfl) ?_)
  have hb : basisM T' w = (freesM (elimTo T' w) w).map (nullV (elimTo T' w) w) := rfl
  generalize elimTo T' w = s at pn nd nv hb
  show SD K _ [.sh (tabD k T'), .sh (.int w), .sh (.lst (dT s.es)), .sh (.lst (pvD s.pv)), .no, .no, .no, .no] _
  have tl : (takenM s).length = s.pv.length := List.length_map _
  have hus : (.dct ((List.range (pvD s.pv).length).map fun i => (Sum.inl (Int.ofNat ((takenM s).getD i 0)) : Key)) (List.replicate (pvD s.pv).length (.bl true)) : DL.D) = usD (takenM s) := by
    unfold usD usK
    rw [show (pvD s.pv).length = (takenM s).length by unfold pvD; rw [List.length_map, tl]]
    congr 1
    exact range_gen (fun a => (Sum.inl (Int.ofNat a) : Key)) (takenM s) _ fun i d h => by rw [getD_get h]
  refine sd_then (sd_asg (d := usD (takenM s)) (EvD.is (ed_dcL (ds := pvD s.pv) (fun i => (Sum.inl (Int.ofNat ((takenM s).getD i 0)) : Key)) (.bl true) rfl (by by_place) (.inl rfl) (by unfold pvD; rw [List.length_map]; omega) (fun i j hij hj e => ?_) fun i d hd => ?_) hus) ?_)
  · have hj : j < (takenM s).length := by unfold pvD at hj; rw [List.length_map] at hj; omega
    have e : (takenM s).getD i 0 = (takenM s).getD j 0 := by
      have := Sum.inl.inj e
      exact Int.ofNat.inj this
    exact nodup_ne nd hij (get_getD 0 (by omega)) (get_getD 0 hj) e
  · obtain ⟨r, hr, rfl⟩ := get_pvD hd
    have e : (takenM s).getD i 0 = r.2 := getD_get (by unfold takenM; rw [List.getElem?_map, hr]; rfl)
    exact ⟨_, .int r.2, tg_pair (i := 5) (j := 6) (by decide) (by decide), by by_place, by rw [e]; rfl, by by_place⟩
  · show SD K _ [.sh (tabD k T'), .sh (.int w), .sh (.lst (dT s.es)), .sh (.lst (pvD s.pv)), .sh (.dct (usK (takenM s)) (List.replicate (takenM s).length (.bl true))), .no, .no, .no] _
    generalize List.replicate (takenM s).length (DL.D.bl true) = vals
    refine sd_ret (d := .tup (tT (basisM T' w))) (ed_cb (ea_cons (EvL.data (EvL.is (el_lcR (n := (w : Int)) (fun i => !((takenM s).contains i)) (fun i => .tup (dI (nullV s w i))) (by by_place) (by omega) (by omega) fun i hi => ⟨_, tg_name (i := 7) (by decide), EvT.is (et_B (ed_dnotin (κ := .inl (i : Int)) (a := .int i) (by by_place) rfl (by by_place))) (by rw [hasK_us]), fun _ => ed_call (n, s, w, i) (by by_place) (nv i (by omega)) rfl⟩) ?_)) ea_nil) (cd_tuple rfl)) rfl
    rw [Int.toNat_natCast, hb]
    unfold given tT freesM
    rw [List.map_map]
    rfl
theorem scRank : FnScope ["table", "width"] ["table", "width"] (defScope sRank) := ⟨rfl, rfl, rfl, by decide +kernel, rfl, by decide +kernel, by decide +kernel⟩
theorem okRank (T : Txt K mg) (c_NullBasis : Cal P w K mg base 36 "null_basis" ["table", "width"] (spNullBasis K)) : Cal P w K mg base 37 "rank" ["table", "width"] (spRank K) := by
  refine cal_mk T.f_Rank T.g_Rank scRank (fun vs H Q E h => spT_len (n := 2) (fun _ => rfl) h) (fun _ _ _ _ _ _ us hl => match us, hl with | [_, _], _ => rfl) (fun cdv A outer s H vs Q E hr h => ?_)
  refine ⟨_, (pss_one (ps_ret (pe_op op_sub (pv 1) (pe_callB (DL.call_len_seqC (K := K) rfl) (by rfl) T.b_len (by decide +kernel) (pa_cons (DL.pe_cal c_NullBasis (hr.mono (by decide)) (pa_cons (pv 0) (pa_cons (pv 1) pa_nil))) pa_nil))))), ?_⟩
  refine sd_fn h (fun _ => Nat.le_of_ble_eq_true rfl) ?_
  try dsimp only [L2.cxOf]
  intro ⟨k, n, w, T'⟩ hp
  have hp : PreBasis n w T' := hp
  show SD K _ [.sh (tabD k T'), .sh (.int w)] _
  refine sd_ret (d := .int ((w : Int) - ((basisM T' w).length : Int))) (EvD.is (ed_op (by by_place) (ed_cb (ea_cons (ed_call (k, n, w, T') (by by_place) hp rfl) ea_nil) (cd_len (ds := tT (basisM T' w)) rfl)) od_I0) (by unfold tT; rw [List.length_map])) rfl
theorem scLawTurned : FnScope ["table", "mine", "j"] ["table"] (defScope sLawTurned) := ⟨rfl, rfl, rfl, by decide +kernel, rfl, by decide +kernel, by decide +kernel⟩
theorem okLawTurned (T : Txt K mg)  : Cal P w K mg base 1 "_law_turned" ["table"] (spLawTurned K) := by
  refine cal_mk T.f_LawTurned T.g_LawTurned scLawTurned (fun vs H Q E h => spT_len (n := 1) (fun _ => rfl) h) (fun _ _ _ _ _ _ us hl => match us, hl with | [_], _ => rfl) (fun cdv A outer s H vs Q E hr h => ?_)
  refine ⟨_, (pss_one (ps_ret (pe_lc (own := [("j", 2)]) (g := gName 2) (by rfl) scLawTurned.nd (pi_range1 (by rfl) T.b_range (pa_cons (pe_callB (DL.call_len_seqC (K := K) rfl) (by rfl) T.b_len (by decide +kernel) (pa_cons (pe_ix (DL.ix_seqC (K := K) rfl) (pv 0) pe_int (fun _ _ => rfl)) pa_nil)) pa_nil)) (blkOk_by (own := [("j", 2)]) (by kernel_rfl)) (fun _ _ _ _ _ => (pg_name (i := 2) scLawTurned.nd rfl (by first | exact Or.inl rfl | exact Or.inr rfl))) (fun _ _ _ _ _ => pts_nil) (fun _ _ _ _ _ => (pe_lc (own := [("mine", 1)]) (g := gName 1) (by rfl) scLawTurned.nd (DL.pi_listC (K := K) rfl (pv 0)) (blkOk_by (own := [("mine", 1)]) (by kernel_rfl)) (fun _ _ _ _ _ => (pg_name (i := 1) scLawTurned.nd rfl (by first | exact Or.inl rfl | exact Or.inr rfl))) (fun _ _ _ _ _ => pts_nil) (fun _ _ _ _ _ => (pe_ix (DL.ix_seqC (K := K) rfl) (pv 1) (pv 2) (fun _ _ => rfl)))))))), ?_⟩
  refine sd_fn h (fun _ => Nat.le_of_ble_eq_true rfl) ?_
  try dsimp only [L2.cxOf]
  intro ⟨n, w, T'⟩ hp
  obtain ⟨t, n0, n1, w1⟩ : Tab n w T' ∧ 0 < n ∧ n ≤ 1000 ∧ w ≤ 1000 := hp
  have g0 : atI (dT T') 0 = some (.lst (dI (T'.getD 0 []))) := atI_nat (j := 0) (dT_get (get_getD [] (by rw [t.n]; exact n0)))
  have r0 : (T'.getD 0 []).length = w := t.row n0
  show SD K _ [.sh (.lst (dT T')), .no, .no] _
  refine sd_retL (el_rangeL (i := 2) (n := w) (fun j => T'.map fun r => r.getD j 0) (EvA.is (by by_place) (by rw [List.length_map, r0])) (by decide) (by omega) fun j hj => ?_) rfl
  refine EvL.is (el_lcL (ds := dT T') (fun _ => true) (fun i => .int ((T'.getD i []).getD j 0)) (by by_place) (.inl rfl) (by rw [dT_len, t.n]; omega) fun i d hd => ?_) ?_
  · obtain ⟨r, hr, rfl⟩ := get_dT hd
    have g := dI_get (get_getD (l := r) (i := j) 0 (by rw [t.w r (List.mem_of_getElem? hr)]; exact hj))
    refine ⟨_, tg_name (i := 1) (by decide), et_yes, fun _ => ?_⟩
    rw [getD_get hr]
    by_place
  · rw [given_all, dT_len]
    refine range_dI (by rw [List.length_map]) fun i x h => ?_
    rw [List.getElem?_map] at h
    cases e : T'[i]? with
    | none => rw [e] at h; cases h
    | some r => rw [e] at h; cases h; rw [getD_get e]
theorem scLawLowest : FnScope ["numbers", "common", "number"] ["numbers"] (defScope sLawLowest) := ⟨rfl, rfl, rfl, by decide +kernel, rfl, by decide +kernel, by decide +kernel⟩
theorem okLawLowest (T : Txt K mg) (c_LawCommon : Cal P w K mg base 2 "_law_common" ["numbers"] (spLawCommon K)) (N : DL.Nos P K) : Cal P w K mg base 33 "_law_lowest" ["numbers"] (spLawLowest K) := by
  refine cal_mk T.f_LawLowest T.g_LawLowest scLawLowest (fun vs H Q E h => spT_len (n := 1) (fun _ => rfl) h) (fun _ _ _ _ _ _ us hl => match us, hl with | [_], _ => rfl) (fun cdv A outer s H vs Q E hr h => ?_)
  have hp := DL.py_of (outer := outer) N hr (by decide) (by decide +kernel) (by decide +kernel)
  refine ⟨_, (pss_cons (ps_set (i := 1) scLawLowest.nd rfl (by first | exact Or.inl rfl | exact Or.inr rfl) (pe_callB (call_max2 rfl) (by rfl) T.b_max (by decide +kernel) (pa_cons pe_int (pa_cons (DL.pe_cal c_LawCommon (hr.mono (by decide)) (pa_cons (pv 0) pa_nil)) pa_nil))))
      (pss_one (ps_ret (pe_lc (own := [("number", 2)]) (g := gName 2) (by rfl) scLawLowest.nd (DL.pi_seqC (K := K) rfl (pv 0)) (blkOk_by (own := [("number", 2)]) (by kernel_rfl)) (fun _ _ _ _ _ => (pg_name (i := 2) scLawLowest.nd rfl (by first | exact Or.inl rfl | exact Or.inr rfl))) (fun _ _ _ _ _ => pts_nil) (fun _ _ _ _ _ => (pe_op (DL.op_fdivX hp) (pv 2) (pv 1))))))), ?_⟩
  refine sd_fn h (fun _ => Nat.le_of_ble_eq_true rfl) ?_
  try dsimp only [L2.cxOf]
  intro ⟨k, ns⟩ hp
  obtain ⟨h1, h2⟩ : (∀ n ∈ ns, Sm 49000 n) ∧ ns.length ≤ 10000 := hp
  show SD K _ [.sh (seqD k (dI ns)), .no, .no] _
  refine sd_then (sd_asg (d := .int (max 1 ((gcdL ns : Nat) : Int))) (EvD.is (ed_cb (ea_cons (by by_place) (ea_cons (ed_call (k, ns) (by by_place) h1 rfl) ea_nil)) cd_2) (by rw [max2_eq])) ?_)
  have mp : (0 : Int) < max 1 ((gcdL ns : Nat) : Int) := by omega
  have lm := low_max ns
  generalize max 1 ((gcdL ns : Nat) : Int) = m at mp lm
  show SD K _ [.sh (seqD k (dI ns)), .sh (.int m), .no] _
  refine sd_retL (el_mapQ (i := 2) (fun x => x / m) (by by_place) (by decide) h2 fun x hx => by by_place <;> by_in) ?_
  show Ret.ow _ = Ret.ow (dI (lowM ns))
  rw [lm]
end
end K02

set_option Elab.async false
set_option linter.all false
set_option maxRecDepth 100000
set_option maxHeartbeats 4000000
set_option exponentiation.threshold 5000
namespace K02
open PySem PySem.Spec PyProof.Rows L2 DL M LS
local macro_rules | `(tactic| by_item) => `(tactic| with_reducible first
  | exact DL.ed_var (by with_unfolding_all rfl) | exact DL.ed_int | exact DL.ed_bl | exact DL.ed_non | exact DL.ed_str | exact DL.ea_nil | exact DL.et_yes
  | apply DL.ea_cons | apply DL.ed_op | apply DL.ed_un | apply DL.ed_lst | apply DL.ed_fld | (show L2.Cls _ _; with_reducible assumption) | (show L2.NoAttr _ _ _; with_reducible assumption) | (show List.lookup _ _ = _; with_unfolding_all rfl) | (show List.length _ ≤ PySem.sizeLine; exact Nat.le_of_ble_eq_true (by with_unfolding_all rfl)) | apply DL.ed_isi | apply DL.ed_cb
  | exact DL.od_I0 | exact DL.od_B0 | exact DL.od_eqI | exact DL.od_neI | exact DL.od_eqS | exact DL.od_isN | exact DL.od_notN | (apply DL.od_divX) | apply DL.od_I | apply DL.od_ix | exact DL.ud_I
  | apply DL.cd_len | exact DL.cd_int | exact DL.cd_intB | exact DL.cd_1 | exact DL.cd_gcd | apply DL.cd_lcmX | exact DL.cd_min3 | exact DL.cd_2
  | apply DL.et_test | apply DL.et_B | apply DL.et_not | apply DL.ed_notV
  | (show DL.tyB _ = _; with_unfolding_all rfl) | (show DL.itemsOf _ = _; with_unfolding_all rfl) | exact DL.seqD_items | (show L2.atI _ _ = _; with_reducible assumption) | (show L2.atI _ _ = _; exact L2.atI_nat (by with_reducible assumption)) | exact DL.atI_zero | exact DL.atI_one | (show L2.atI _ _ = _; with_unfolding_all rfl) | (show L2.kitB _ _ = _; first | exact DL.kb_NoneType_int | exact DL.kb_NoneType_bool | exact DL.kb_NoneType_tuple | exact DL.kb_NoneType_list | exact DL.kb_NoneType_str | exact DL.kb_NoneType_dict | exact DL.kb_bool_int | exact DL.kb_bool_bool | exact DL.kb_bool_tuple | exact DL.kb_bool_list | exact DL.kb_bool_str | exact DL.kb_bool_dict | exact DL.kb_int_int | exact DL.kb_int_bool | exact DL.kb_int_tuple | exact DL.kb_int_list | exact DL.kb_int_str | exact DL.kb_int_dict | exact DL.kb_str_int | exact DL.kb_str_bool | exact DL.kb_str_tuple | exact DL.kb_str_list | exact DL.kb_str_str | exact DL.kb_str_dict | exact DL.kb_list_int | exact DL.kb_list_bool | exact DL.kb_list_tuple | exact DL.kb_list_list | exact DL.kb_list_str | exact DL.kb_list_dict | exact DL.kb_tuple_int | exact DL.kb_tuple_bool | exact DL.kb_tuple_tuple | exact DL.kb_tuple_list | exact DL.kb_tuple_str | exact DL.kb_tuple_dict | exact DL.kb_dict_int | exact DL.kb_dict_bool | exact DL.kb_dict_tuple | exact DL.kb_dict_list | exact DL.kb_dict_str | exact DL.kb_dict_dict))
local macro_rules | `(tactic| by_place) => `(tactic| (repeat' by_item))
local macro_rules | `(tactic| by_in) => `(tactic| first | (with_reducible assumption) | (with_reducible exact DL.seqD_items) | (show (0 : Int) < _; omega) | (show (0 : Int) < _; decide +kernel) | exact M.mulS (by omega) (by omega) | exact M.mulP (by omega) (by omega) (by omega) | exact M.divS (by omega) (by omega) | exact ⟨by decide, by decide, by decide⟩ | exact ⟨by decide, by decide, by omega⟩ | exact L2.atI_nat (by assumption) | (show L2.atI _ _ = _; rfl))
theorem take_not {ps : List Nat} (nd : ps.Nodup) {i p : Nat} (h : ps[i]? = some p) : p ∉ ps.take i := fun hm => by
  obtain ⟨j, hj, e⟩ := List.mem_iff_getElem.mp hm
  rw [List.length_take] at hj
  rw [List.getElem_take] at e
  exact nodup_ne nd (show j < i by omega) (by rw [List.getElem?_eq_getElem (by omega), e]) h rfl
section
variable {P : Program} {w : World} {K : PySem.W.Frag} {mg : Str → Option Value} {base : Heap}
theorem scLawRank : FnScope ["rows", "width", "left", "mine", "found", "column", "places", "k", "chosen", "part", "top", "j"] ["rows", "width"] (defScope sLawRank) := ⟨rfl, rfl, rfl, by decide +kernel, rfl, by decide +kernel, by decide +kernel⟩
theorem okLawRank (T : Txt K mg) (c_LawLowest : Cal P w K mg base 33 "_law_lowest" ["numbers"] (spLawLowest K)) : Cal P w K mg base 34 "_law_rank" ["rows", "width"] (spLawRank K) := by
  refine cal_mk T.f_LawRank T.g_LawRank scLawRank (fun vs H Q E h => spT_len (n := 2) (fun _ => rfl) h) (fun _ _ _ _ _ _ us hl => match us, hl with | [_, _], _ => rfl) (fun cdv A outer s H vs Q E hr h => ?_)
  refine ⟨_, (pss_cons (ps_set (i := 2) scLawRank.nd rfl (by first | exact Or.inl rfl | exact Or.inr rfl) (pe_lc (own := [("mine", 3)]) (g := gName 3) (by rfl) scLawRank.nd (DL.pi_seqC (K := K) rfl (pv 0)) (blkOk_by (own := [("mine", 3)]) (by kernel_rfl)) (fun _ _ _ _ _ => (pg_name (i := 3) scLawRank.nd rfl (by first | exact Or.inl rfl | exact Or.inr rfl))) (fun _ _ _ _ _ => pts_nil) (fun _ _ _ _ _ => (DL.pe_cal c_LawLowest (hr.mono (by decide)) (pa_cons (pv 3) pa_nil)))))
      (pss_cons (ps_set (i := 4) scLawRank.nd rfl (by first | exact Or.inl rfl | exact Or.inr rfl) pe_int)
      (pss_cons (ps_for PassesOwn.never rfl (pi_range1 (by rfl) T.b_range (pa_cons (pv 1) pa_nil)) (pg_name (i := 5) scLawRank.nd rfl (by first | exact Or.inl rfl | exact Or.inr rfl))
      (pss_cons (ps_setLc (i := 6) (own := [("k", 7)]) (g := gName 7) (by rfl) scLawRank.nd rfl rfl (sw_true rfl rfl rfl (by decide +kernel)) (pi_range2 (by rfl) T.b_range (pa_cons (pv 4) (pa_cons (pe_callB (DL.call_len_seqC (K := K) rfl) (by rfl) T.b_len (by decide +kernel) (pa_cons (pv 2) pa_nil)) pa_nil))) (blkOk_by (own := [("k", 7)]) (by kernel_rfl)) (fun _ _ _ _ _ => (pg_name (i := 7) scLawRank.nd rfl (by first | exact Or.inl rfl | exact Or.inr rfl))) (fun _ _ _ _ _ => (pts_one (pt_cmpR op_ne (pe_ix (DL.ix_seqC (K := K) rfl) (pe_ix (DL.ix_seqC (K := K) rfl) (pv 2) (pv 7) (fun _ _ => rfl)) (pv 5) (fun _ _ => rfl)) pe_int (nomark _)))) (fun _ _ _ _ _ => (pv 7)))
      (pss_one (ps_if (pt_cmpR op_gt (pe_callB (DL.call_len_seqC (K := K) rfl) (by rfl) T.b_len (by decide +kernel) (pa_cons (pv 6) pa_nil)) pe_int (nomark _))
      (pss_cons (ps_set (i := 8) scLawRank.nd rfl (by first | exact Or.inl rfl | exact Or.inr rfl) (pe_ix (DL.ix_seqC (K := K) rfl) (pv 2) (pe_ix (DL.ix_seqC (K := K) rfl) (pv 6) pe_int (fun _ _ => rfl)) (fun _ _ => rfl)))
      (pss_cons (ps_asg (pe_ix (DL.ix_seqC (K := K) rfl) (pv 2) (pv 4) (fun _ _ => rfl)) (pg_sub (pv 2) (pe_ix (DL.ix_seqC (K := K) rfl) (pv 6) pe_int (fun _ _ => rfl)) set_list))
      (pss_cons (ps_asg (pv 8) (pg_sub (pv 2) (pv 4) set_list))
      (pss_cons (ps_for PassesOwn.never rfl (DL.pi_listC (K := K) rfl (pe_slice (DL.sl_listC (K := K) rfl) (pv 6) (po_some pe_int) po_none)) (pg_name (i := 7) scLawRank.nd rfl (by first | exact Or.inl rfl | exact Or.inr rfl))
      (pss_cons (ps_set (i := 9) scLawRank.nd rfl (by first | exact Or.inl rfl | exact Or.inr rfl) (pe_ix (DL.ix_seqC (K := K) rfl) (pe_ix (DL.ix_seqC (K := K) rfl) (pv 2) (pv 7) (fun _ _ => rfl)) (pv 5) (fun _ _ => rfl)))
      (pss_cons (ps_set (i := 10) scLawRank.nd rfl (by first | exact Or.inl rfl | exact Or.inr rfl) (pe_ix (DL.ix_seqC (K := K) rfl) (pv 8) (pv 5) (fun _ _ => rfl)))
      (pss_one (ps_asg (DL.pe_cal c_LawLowest (hr.mono (by decide)) (pa_cons (pe_lc (own := [("j", 11)]) (g := gName 11) (by rfl) scLawRank.nd (pi_range1 (by rfl) T.b_range (pa_cons (pv 1) pa_nil)) (blkOk_by (own := [("j", 11)]) (by kernel_rfl)) (fun _ _ _ _ _ => (pg_name (i := 11) scLawRank.nd rfl (by first | exact Or.inl rfl | exact Or.inr rfl))) (fun _ _ _ _ _ => pts_nil) (fun _ _ _ _ _ => (pe_op op_sub (pe_op op_mulW (pe_ix (DL.ix_seqC (K := K) rfl) (pe_ix (DL.ix_seqC (K := K) rfl) (pv 2) (pv 7) (fun _ _ => rfl)) (pv 11) (fun _ _ => rfl)) (pv 10)) (pe_op op_mulW (pe_ix (DL.ix_seqC (K := K) rfl) (pv 8) (pv 11) (fun _ _ => rfl)) (pv 9))))) pa_nil)) (pg_sub (pv 2) (pv 7) set_list))))))
      (pss_one (ps_set (i := 4) scLawRank.nd rfl (by first | exact Or.inl rfl | exact Or.inr rfl) (pe_op op_add (pv 4) pe_int)))))))
      pss_nil))))
      (pss_one (ps_ret (pv 4)))))), ?_⟩
  refine sd_fn h (fun _ => Nat.le_of_ble_eq_true rfl) ?_
  try dsimp only [L2.cxOf]
  intro ⟨k, n, w, T'⟩ hp
  obtain ⟨hn, hw, t, b, st⟩ : PreRank n w T' := hp
  show SD K _ [.sh (tabD k T'), .sh (.int w), .no, .no, .no, .no, .no, .no, .no, .no, .no, .no] { nx := _, rt := fun r => r = .sh (.int ((rankTo T' w).q : Int)) }
  refine sd_then (sd_asgL (ds := dT (T'.map lowM)) (el_mapLQ (k := k) (i := 3) lowM (by by_place) (by decide) (by rw [t.n]; omega) fun r hr => el_call (k, r) (by by_place) ⟨b r hr, by show r.length ≤ 10000; rw [t.w r hr]; omega⟩ rfl) ?_)
  refine sd_then (sd_asg (d := .int 0) (by by_place) ?_)
  show SD K _ [.sh (tabD k T'), .sh (.int w), .ow (dT (T'.map lowM)), .no, .sh (.int 0), .no, .no, .no, .no, .no, .no, .no] _
  refine sd_then (sd_forRn [5, 6, 7, 8, 9, 10] (z := (w : Int)) (by by_place) (by omega) (fun m ρ => ρ = [.sh (tabD k T'), .sh (.int w), .ow (dT (rankTo T' m).es), .no, .sh (.int ((rankTo T' m).q : Int)), .no, .no, .no, .no, .no, .no, .no]) rfl (fun m ρ hm hI => ?_) (fun ρ hI => ?_))
  · subst hI
    have hm : m < w := by omega
    refine ⟨rfl, ?_⟩
    obtain ⟨t1, q1, b1⟩ := st m hm
    rw [rankTo_succ]
    generalize rankTo T' m = s at t1 q1 b1
    have hl : s.es.length = n := t1.n
    have hpl : placesM s.es s.q m = ((List.range (n - s.q)).filter fun i => !decide ((s.es.getD (s.q + i) []).getD m 0 = 0)).map (s.q + ·) := by rw [places_eq _ _ _ (by omega), hl]
    show SD K _ [.sh (tabD k T'), .sh (.int w), .ow (dT s.es), .no, .sh (.int (s.q : Int)), .sh (.int (m : Int)), .no, .no, .no, .no, .no, .no] _
    refine sd_then (sd_asgSL (ds := dI ((placesM s.es s.q m).map fun k : Nat => (k : Int))) (evsl_flat (EvL.is (el_lcR2 (lo := (s.q : Int)) (hi := (n : Int)) (fun i => !decide ((s.es.getD (s.q + i) []).getD m 0 = 0)) (fun i => .int ((s.q : Int) + (i : Int))) (EvA.is (by by_place) (by rw [dT_len, hl])) (by omega) (by omega) (by omega) fun i hi => ⟨_, tg_name (i := 7) (by decide), ?_, fun _ => by by_place⟩) ?_) (all_flat _)) ?_)
    · have hi : s.q + i < n := by omega
      have g1 : atI (dT s.es) ((s.q : Int) + (i : Int)) = some (.lst (dI (s.es.getD (s.q + i) []))) := by
        rw [← Int.natCast_add]
        exact atI_nat (dT_get (get_getD [] (by omega)))
      have g2 := dI_get (get_getD (l := s.es.getD (s.q + i) []) (i := m) 0 (by rw [t1.row hi]; exact hm))
      exact EvT.is (by by_place) (by rfl)
    · rw [hpl]
      unfold given dI
      rw [List.map_map, List.map_map, show ((n : Int) - (s.q : Int)).toNat = n - s.q by omega]
      rfl
    have mp := fun {k} => mem_places (es := s.es) (q := s.q) (c := m) (k := k)
    cases hps : placesM s.es s.q m with
    | nil =>
      show SD K _ [.sh (tabD k T'), .sh (.int w), .ow (dT s.es), .no, .sh (.int (s.q : Int)), .sh (.int (m : Int)), .ow [], .no, .no, .no, .no, .no] _
      refine sd_if (x := false) (EvT.is (by by_place) (by rfl)) (fun h => by cases h) (fun _ => sd_next ?_)
      show [_, _, _, _, _, _, _, _, _, _, _, _] = _
      rw [show stepR s m = s by unfold stepR; rw [hps]]
    | cons a ps =>
      have ha := mp.mp (show a ∈ placesM s.es s.q m by rw [hps]; exact List.mem_cons_self)
      rw [hl] at ha
      obtain ⟨an, qa, ane⟩ := ha
      have hmem : ∀ p ∈ ps, p < n ∧ s.q ≤ p := fun p hp => by
        have := mp.mp (show p ∈ placesM s.es s.q m by rw [hps]; exact List.mem_cons_of_mem _ hp)
        rw [hl] at this
        exact ⟨this.1, this.2.1⟩
      have sorted : (a :: ps).Pairwise (· < ·) := by rw [← hps]; exact List.Pairwise.filter _ List.pairwise_lt_range
      have gt : ∀ p ∈ ps, a < p := (List.pairwise_cons.mp sorted).1
      have psnd : ps.Nodup := (List.pairwise_cons.mp sorted).2.imp fun h => Nat.ne_of_lt h
      have hst : stepR s m = ⟨ps.foldl (downM (s.es.getD a []) m) (swapM s.es s.q a), s.q + 1⟩ := by unfold stepR; rw [hps]
      have pl : ps.length ≤ n := nodup_len ps n psnd fun p hp => (hmem p hp).1
      have ga := dT_get (get_getD (l := s.es) (i := a) [] (by omega))
      have gq := dT_get (get_getD (l := s.es) (i := s.q) [] (by omega))
      have la : (s.es.getD a []).length = w := t1.row an
      have swl : (swapM s.es s.q a).length = n := by unfold swapM; rw [List.length_set, List.length_set, hl]
      have sw : ∀ p, a < p → (swapM s.es s.q a).getD p [] = s.es.getD p [] := fun p hp => by
        unfold swapM
        rw [set_getL _ _ _ _ (by rw [List.length_set]; omega), set_getL _ _ _ _ (by omega), if_neg (by omega), if_neg (by omega)]
      have ba : ∀ x ∈ s.es.getD a [], Sm 24000 x := b1 _ (M.getD_mem [] (by omega))
      have hswd : (dT s.es).set a (.lst (dI (s.es.getD s.q []))) = dT (s.es.set a (s.es.getD s.q [])) := dT_set _ _ _
      have gtop := dI_get (get_getD (l := s.es.getD a []) (i := m) 0 (by omega))
      show SD K _ [.sh (tabD k T'), .sh (.int w), .ow (dT s.es), .no, .sh (.int (s.q : Int)), .sh (.int (m : Int)), .ow (.int (a : Int) :: dI (ps.map fun k : Nat => (k : Int))), .no, .no, .no, .no, .no] _
      refine sd_if (x := true) (EvT.is (by by_place) (by rw [decide_eq_true (by rw [List.length_cons]; omega)])) (fun _ => ?_) (fun h => by cases h)
      refine sd_then (sd_asgS (i := 8) (d := .lst (dI (s.es.getD a []))) (evs_ix (i := 2) (k := (a : Int)) rfl (by by_place) (atI_nat ga)) ?_)
      show SD K _ [.sh (tabD k T'), .sh (.int w), .ow (dT s.es), .no, .sh (.int (s.q : Int)), .sh (.int (m : Int)), .ow (.int (a : Int) :: dI (ps.map fun k : Nat => (k : Int))), .no, .sh (.lst (dI (s.es.getD a []))), .no, .no, .no] _
      refine sd_then (sd_setS (i := 2) (m := a) (d := .lst (dI (s.es.getD s.q []))) rfl (evs_ix (i := 2) (k := (s.q : Int)) rfl (by by_place) (atI_nat gq)) (by by_place) (by rw [dT_len, hl]; exact an) ?_)
      rw [hswd]
      show SD K _ [.sh (tabD k T'), .sh (.int w), .ow (dT (s.es.set a (s.es.getD s.q []))), .no, .sh (.int (s.q : Int)), .sh (.int (m : Int)), .ow (.int (a : Int) :: dI (ps.map fun k : Nat => (k : Int))), .no, .sh (.lst (dI (s.es.getD a []))), .no, .no, .no] _
      refine sd_then (sd_setS (i := 2) (m := s.q) (d := .lst (dI (s.es.getD a []))) rfl (evs_sh (by by_place)) (by by_place) (by rw [dT_len, List.length_set, hl]; omega) ?_)
      rw [dT_set, show (s.es.set a (s.es.getD s.q [])).set s.q (s.es.getD a []) = swapM s.es s.q a from rfl]
      refine sd_frz (i := 6) rfl rfl ?_
      have hA : ∀ p, p ∈ ps → s.es.getD p [] ∈ s.es := fun p hp => M.getD_mem [] (by have := (hmem p hp).1; omega)
      generalize hAA : s.es.getD a [] = A at *
      generalize swapM s.es s.q a = S at *
      show SD K _ [.sh (tabD k T'), .sh (.int w), .ow (dT S), .no, .sh (.int (s.q : Int)), .sh (.int (m : Int)), .sh (.lst (.int (a : Int) :: dI (ps.map fun k : Nat => (k : Int)))), .no, .sh (.lst (dI A)), .no, .no, .no] _
      have dl := down_len A m
      refine sd_cut (fun ρ => ρ = [.sh (tabD k T'), .sh (.int w), .ow (dT (ps.foldl (downM A m) S)), .no, .sh (.int (s.q : Int)), .sh (.int (m : Int)), .sh (.lst (.int (a : Int) :: dI (ps.map fun k : Nat => (k : Int)))), .no, .sh (.lst (dI A)), .no, .no, .no])
        (sd_forLn [7, 9, 10] (i := 7) (a := .lst (dI (ps.map fun k : Nat => (k : Int)))) (ds := dI (ps.map fun k : Nat => (k : Int))) (EvL.data (EvL.is (el_sl (ds := .int (a : Int) :: dI (ps.map fun k : Nat => (k : Int))) (by by_place) (.inl rfl) (eo_some (i := ((1 : Nat) : Int)) (EvD.is (by by_place) (by rfl : DL.D.int 1 = DL.D.int ((1 : Nat) : Int)))) eo_none) (by rw [cut_drop _ _ (by rw [List.length_cons]; omega)]; rfl))) (.inl rfl)
          (fun i ρ => ρ = [.sh (tabD k T'), .sh (.int w), .ow (dT ((ps.take i).foldl (downM A m) S)), .no, .sh (.int (s.q : Int)), .sh (.int (m : Int)), .sh (.lst (.int (a : Int) :: dI (ps.map fun k : Nat => (k : Int)))), .no, .sh (.lst (dI A)), .no, .no, .no]) rfl (fun i d ρ hd hI => ?_) (fun ρ hI => ?_)) (fun ρ hM => ?_)
      · subst hI
        obtain ⟨x, hx, rfl⟩ := get_dI hd
        rw [List.getElem?_map] at hx
        obtain ⟨p, hp, rfl⟩ := Option.map_eq_some_iff.mp hx
        have hpm := List.mem_of_getElem? hp
        obtain ⟨pn, pq⟩ := hmem p hpm
        refine ⟨rfl, ?_⟩
        have e1 : ((ps.take i).foldl (downM A m) S).getD p [] = s.es.getD p [] := by
          rw [down_at A m (ps.take i) S (psnd.sublist (List.take_sublist _ _)) (fun k hk => by rw [swl]; exact (hmem k (List.mem_of_mem_take hk)).1), if_neg (take_not psnd hp), sw p (gt p hpm)]
        have e2 : (ps.take (i + 1)).foldl (downM A m) S = downM A m ((ps.take i).foldl (downM A m) S) p := foldl_take_succ _ _ _ _ p hp
        have e3 : ((ps.take i).foldl (downM A m) S).length = n := by rw [dl, swl]
        have e4 : (ps.take (i + 1)).foldl (downM A m) S = ((ps.take i).foldl (downM A m) S).set p (lowM (rawM (s.es.getD p []) A (A.getD m 0) ((s.es.getD p []).getD m 0))) := by
          rw [e2]
          show ((ps.take i).foldl (downM A m) S).set p (lowM (rawM (((ps.take i).foldl (downM A m) S).getD p []) A (A.getD m 0) ((((ps.take i).foldl (downM A m) S).getD p []).getD m 0))) = _
          rw [e1]
        rw [e4]
        have hpA := b1 _ (hA p hpm)
        have lr : (s.es.getD p []).length = w := t1.row pn
        have gp : (dT ((ps.take i).foldl (downM A m) S))[p]? = some (.lst (dI (s.es.getD p []))) := by rw [← e1]; exact dT_get (get_getD [] (by omega))
        generalize (ps.take i).foldl (downM A m) S = Z at e3 gp ⊢
        generalize s.es.getD p [] = R at lr gp hpA ⊢
        have gR := dI_get (get_getD (l := R) (i := m) 0 (by omega))
        have c0 : Sm 24000 (R.getD m 0) := hpA _ (M.getD_mem 0 (by omega))
        have c1 : Sm 24000 (A.getD m 0) := ba _ (M.getD_mem 0 (by omega))
        have raws : ∀ x ∈ rawM R A (A.getD m 0) (R.getD m 0), Sm 49000 x := fun x hx => by
          unfold rawM at hx
          obtain ⟨j, hj, rfl⟩ := List.mem_map.mp hx
          have hj := List.mem_range.mp hj
          have d1 := (hpA _ (M.getD_mem 0 hj)).mul c1
          have d2 := (ba _ (M.getD_mem (l := A) (i := j) 0 (by omega))).mul c0
          rw [show ∀ u v : Int, u - v = u + -v from fun u v => by omega]
          exact (d1.add d2.neg).mono (by decide)
        generalize hpart : R.getD m 0 = part at gR c0 raws
        generalize htop : A.getD m 0 = top at gtop c1 raws
        show SD K _ [.sh (tabD k T'), .sh (.int w), .ow (dT Z), .no, .sh (.int (s.q : Int)), .sh (.int (m : Int)), .sh (.lst (.int (a : Int) :: dI (ps.map fun k : Nat => (k : Int)))), .sh (.int (p : Int)), .sh (.lst (dI A)), .no, .no, .no] _
        refine sd_then (sd_asgF (d := .int part) (by by_place) rfl ?_)
        refine sd_then (sd_asg (d := .int top) (by by_place) ?_)
        show SD K _ [.sh (tabD k T'), .sh (.int w), .ow (dT Z), .no, .sh (.int (s.q : Int)), .sh (.int (m : Int)), .sh (.lst (.int (a : Int) :: dI (ps.map fun k : Nat => (k : Int)))), .sh (.int (p : Int)), .sh (.lst (dI A)), .sh (.int part), .sh (.int top), .no] _
        refine sd_setS (i := 2) (m := p) (d := .lst (dI (lowM (rawM R A top part)))) rfl (EvSL.data (evsl_flat (el_call (false, rawM R A top part) (ea_cons (EvL.data (EvL.is (el_rangeI (i := 11) (n := w) (fun j => R.getD j 0 * top - A.getD j 0 * part) (by by_place) (by decide) (by omega) fun j hj => ?_) (by unfold rawM; rw [lr]))) ea_nil) ⟨raws, by show (rawM R A top part).length ≤ 10000; unfold rawM; rw [List.length_map, List.length_range]; omega⟩ rfl) (all_flat _))) (by by_place) (by rw [dT_len, e3]; exact pn) ?_
        · have g1 := dI_get (get_getD (l := R) (i := j) 0 (by omega))
          have g2 := dI_get (get_getD (l := A) (i := j) 0 (by omega))
          have m1 : CMulW (R.getD j 0) top := (hpA _ (M.getD_mem 0 (by omega))).mulW c1 (by decide)
          have m2 : CMulW (A.getD j 0) part := (ba _ (M.getD_mem 0 (by omega))).mulW c0 (by decide)
          by_place <;> by_in
        · show [_, _, _, _, _, _, _, _, _, _, _, _] = _
          rw [dT_set]
      · subst hI
        rw [List.length_map, List.length_map, List.take_length]
      · subst hM
        refine sd_asg (d := .int ((s.q + 1 : Nat) : Int)) (EvD.is (by by_place) (by rw [Int.natCast_add]; rfl)) ?_
        show [_, _, _, _, _, _, _, _, _, _, _, _] = _
        rw [hst]
  · subst hI
    rw [Int.toNat_natCast]
    exact sd_ret (by by_place) rfl
end
end K02

set_option Elab.async false
set_option linter.all false
set_option maxRecDepth 100000
set_option maxHeartbeats 4000000
set_option exponentiation.threshold 5000
namespace K02
open PySem PySem.Spec PyProof.Rows L2 DL M LS
local macro_rules | `(tactic| by_item) => `(tactic| with_reducible first
  | exact DL.ed_var (by with_unfolding_all rfl) | exact DL.ed_int | exact DL.ed_bl | exact DL.ed_non | exact DL.ed_str | exact DL.ea_nil | exact DL.et_yes
  | apply DL.ea_cons | apply DL.ed_op | apply DL.ed_un | apply DL.ed_lst | apply DL.ed_fld | (show L2.Cls _ _; with_reducible assumption) | (show L2.NoAttr _ _ _; with_reducible assumption) | (show List.lookup _ _ = _; with_unfolding_all rfl) | (show List.length _ ≤ PySem.sizeLine; exact Nat.le_of_ble_eq_true (by with_unfolding_all rfl)) | apply DL.ed_isi | apply DL.ed_cb
  | exact DL.od_I0 | exact DL.od_B0 | exact DL.od_eqI | exact DL.od_neI | exact DL.od_eqS | exact DL.od_isN | exact DL.od_notN | (apply DL.od_divX) | apply DL.od_I | apply DL.od_ix | exact DL.ud_I
  | apply DL.cd_len | exact DL.cd_int | exact DL.cd_intB | exact DL.cd_1 | exact DL.cd_gcd | apply DL.cd_lcmX | exact DL.cd_min3 | exact DL.cd_2
  | apply DL.et_test | apply DL.et_B | apply DL.et_not | apply DL.ed_notV
  | (show DL.tyB _ = _; with_unfolding_all rfl) | (show DL.itemsOf _ = _; with_unfolding_all rfl) | exact DL.seqD_items | (show L2.atI _ _ = _; with_reducible assumption) | (show L2.atI _ _ = _; exact L2.atI_nat (by with_reducible assumption)) | exact DL.atI_zero | exact DL.atI_one | (show L2.atI _ _ = _; with_unfolding_all rfl) | (show L2.kitB _ _ = _; first | exact DL.kb_NoneType_int | exact DL.kb_NoneType_bool | exact DL.kb_NoneType_tuple | exact DL.kb_NoneType_list | exact DL.kb_NoneType_str | exact DL.kb_NoneType_dict | exact DL.kb_bool_int | exact DL.kb_bool_bool | exact DL.kb_bool_tuple | exact DL.kb_bool_list | exact DL.kb_bool_str | exact DL.kb_bool_dict | exact DL.kb_int_int | exact DL.kb_int_bool | exact DL.kb_int_tuple | exact DL.kb_int_list | exact DL.kb_int_str | exact DL.kb_int_dict | exact DL.kb_str_int | exact DL.kb_str_bool | exact DL.kb_str_tuple | exact DL.kb_str_list | exact DL.kb_str_str | exact DL.kb_str_dict | exact DL.kb_list_int | exact DL.kb_list_bool | exact DL.kb_list_tuple | exact DL.kb_list_list | exact DL.kb_list_str | exact DL.kb_list_dict | exact DL.kb_tuple_int | exact DL.kb_tuple_bool | exact DL.kb_tuple_tuple | exact DL.kb_tuple_list | exact DL.kb_tuple_str | exact DL.kb_tuple_dict | exact DL.kb_dict_int | exact DL.kb_dict_bool | exact DL.kb_dict_tuple | exact DL.kb_dict_list | exact DL.kb_dict_str | exact DL.kb_dict_dict))
local macro_rules | `(tactic| by_place) => `(tactic| (repeat' by_item))
local macro_rules | `(tactic| by_in) => `(tactic| first | (with_reducible assumption) | (with_reducible exact DL.seqD_items) | (show (0 : Int) < _; omega) | (show (0 : Int) < _; decide +kernel) | exact M.mulS (by omega) (by omega) | exact M.mulP (by omega) (by omega) (by omega) | exact M.divS (by omega) (by omega) | exact ⟨by decide, by decide, by decide⟩ | exact ⟨by decide, by decide, by omega⟩ | exact L2.atI_nat (by assumption) | (show L2.atI _ _ = _; rfl))
theorem min2_eq (i j : Int) : (if j < i then j else i) = min i j := by
  rw [Int.min_def]
  split <;> split <;> omega
section
variable {P : Program} {w : World} {K : PySem.W.Frag} {mg : Str → Option Value} {base : Heap}
theorem scLawDense : FnScope ["script", "many", "width", "span", "menu", "rows", "k", "digit", "table", "i"] ["script", "many", "width", "span"] (defScope sLawDense) := ⟨rfl, rfl, rfl, by decide +kernel, rfl, by decide +kernel, by decide +kernel⟩
theorem okLawDense (T : Txt K mg) (c_LawDigits : Cal P w K mg base 1 "_law_digits" ["cell", "sizes"] (spLawDigits K)) (c_LawCell : Cal P w K mg base 1 "_law_cell" ["script", "k"] (spLawCell K)) (c_LawMixed : Cal P w K mg base 1 "_law_mixed" ["rows", "factors"] (spLawMixed K)) : Cal P w K mg base 2 "_law_dense" ["script", "many", "width", "span"] (spLawDense K) := by
  refine cal_mk T.f_LawDense T.g_LawDense scLawDense (fun vs H Q E h => spT_len (n := 4) (fun _ => rfl) h) (fun _ _ _ _ _ _ us hl => match us, hl with | [_, _, _, _], _ => rfl) (fun cdv A outer s H vs Q E hr h => ?_)
  refine ⟨_, (pss_cons (ps_set (i := 4) scLawDense.nd rfl (by first | exact Or.inl rfl | exact Or.inr rfl) (pe_lst (pa_cons pe_int (pa_cons pe_int (pa_cons (pe_un un_neg pe_int) (pa_cons pe_int (pa_cons (pe_un un_neg pe_int) (pa_cons pe_int (pa_cons pe_int (pa_cons pe_int pa_nil))))))))))
      (pss_cons (ps_set (i := 5) scLawDense.nd rfl (by first | exact Or.inl rfl | exact Or.inr rfl) (pe_lst pa_nil))
      (pss_cons (ps_for PassesOwn.never rfl (pi_range1 (by rfl) T.b_range (pa_cons (pv 3) pa_nil)) (pg_name (i := 6) scLawDense.nd rfl (by first | exact Or.inl rfl | exact Or.inr rfl))
      (pss_one (ps_expr (pe_bm PySem.F.plainAttrs_list PySem.F.slot_list_append PySem.F.type_list_append mt_append (pv 5) (pa_cons (pe_lc (own := [("digit", 7)]) (g := gName 7) (by rfl) scLawDense.nd (DL.pi_listC (K := K) rfl (DL.pe_cal c_LawDigits (hr.mono (by decide)) (pa_cons (DL.pe_cal c_LawCell (hr.mono (by decide)) (pa_cons (pv 0) (pa_cons (pe_op op_add pe_int (pv 6)) pa_nil))) (pa_cons (pe_op op_rep (pe_lst (pa_cons pe_int pa_nil)) (pv 2)) pa_nil)))) (blkOk_by (own := [("digit", 7)]) (by kernel_rfl)) (fun _ _ _ _ _ => (pg_name (i := 7) scLawDense.nd rfl (by first | exact Or.inl rfl | exact Or.inr rfl))) (fun _ _ _ _ _ => pts_nil) (fun _ _ _ _ _ => (pe_ix (DL.ix_seqC (K := K) rfl) (pv 4) (pv 7) (fun _ _ => rfl)))) pa_nil)))))
      (pss_cons (ps_set (i := 8) scLawDense.nd rfl (by first | exact Or.inl rfl | exact Or.inr rfl) (pe_lst pa_nil))
      (pss_cons (ps_for PassesOwn.never rfl (pi_range1 (by rfl) T.b_range (pa_cons (pv 1) pa_nil)) (pg_name (i := 9) scLawDense.nd rfl (by first | exact Or.inl rfl | exact Or.inr rfl))
      (pss_one (ps_expr (pe_bm PySem.F.plainAttrs_list PySem.F.slot_list_append PySem.F.type_list_append mt_append (pv 8) (pa_cons (DL.pe_cal c_LawMixed (hr.mono (by decide)) (pa_cons (pv 5) (pa_cons (pe_lc (own := [("digit", 7)]) (g := gName 7) (by rfl) scLawDense.nd (DL.pi_listC (K := K) rfl (DL.pe_cal c_LawDigits (hr.mono (by decide)) (pa_cons (DL.pe_cal c_LawCell (hr.mono (by decide)) (pa_cons (pv 0) (pa_cons (pe_op op_add pe_int (pv 9)) pa_nil))) (pa_cons (pe_op op_rep (pe_lst (pa_cons pe_int pa_nil)) (pv 3)) pa_nil)))) (blkOk_by (own := [("digit", 7)]) (by kernel_rfl)) (fun _ _ _ _ _ => (pg_name (i := 7) scLawDense.nd rfl (by first | exact Or.inl rfl | exact Or.inr rfl))) (fun _ _ _ _ _ => pts_nil) (fun _ _ _ _ _ => (pe_ix (DL.ix_seqC (K := K) rfl) (pv 4) (pv 7) (fun _ _ => rfl)))) pa_nil))) pa_nil)))))
      (pss_one (ps_ret (pv 8)))))))), ?_⟩
  refine sd_fn h (fun _ => Nat.le_of_ble_eq_true rfl) ?_
  try dsimp only [L2.cxOf]
  intro ⟨ns, many, width, span⟩ hp
  obtain ⟨h1, h2, h3, h4⟩ : many ≤ 100 ∧ width ≤ 100 ∧ 0 < span ∧ span ≤ 100 := hp
  show SD K _ [.sh (.rd (dI ns)), .sh (.int many), .sh (.int width), .sh (.int span), .no, .no, .no, .no, .no, .no] _
  refine sd_then (sd_asgL (ds := dI menuM) (EvL.is (el_lst (by by_place) (by decide)) (by rfl)) (sd_frz (i := 4) rfl rfl ?_))
  refine sd_then (sd_asgL (ds := []) (el_lst ea_nil (by decide)) ?_)
  show SD K _ [.sh (.rd (dI ns)), .sh (.int many), .sh (.int width), .sh (.int span), .sh (.lst (dI menuM)), .ow [], .no, .no, .no, .no] _
  refine sd_cut (fun ρ => ρ = [.sh (.rd (dI ns)), .sh (.int many), .sh (.int width), .sh (.int span), .sh (.lst (dI menuM)), .ow (dT (denseRows ns width span)), .no, .no, .no, .no])
    (sd_forRn [6, 7] (z := (span : Int)) (by by_place) (by omega) (fun m ρ => ρ = [.sh (.rd (dI ns)), .sh (.int many), .sh (.int width), .sh (.int span), .sh (.lst (dI menuM)), .ow (dT (denseRows ns width m)), .no, .no, .no, .no]) rfl (fun m ρ hm hI => ?_) (fun ρ hI => ?_)) (fun ρ hM => ?_)
  · subst hI
    refine ⟨rfl, ?_⟩
    show SD K _ [.sh (.rd (dI ns)), .sh (.int many), .sh (.int width), .sh (.int span), .sh (.lst (dI menuM)), .ow (dT (denseRows ns width m)), .sh (.int m), .no, .no, .no] _
    refine sd_app (i := 5) (d := .lst (dI (pickL menuM (digitsM (cellM ns (17 + m)) (List.replicate width 8))))) rfl (EvL.data (el_pick (i := 7) (by decide)
      (EvL.data (el_call (cellM ns (17 + m), List.replicate width 8) (ea_cons (ed_call (ns, 17 + m) (EvA.is (by by_place) (by show _ = [DL.D.rd (dI ns), DL.D.int ((17 + m : Nat) : Int)]; rw [Int.natCast_add]; rfl)) (by show 17 + m < 1000; omega) rfl) (ea_cons (EvL.data (el_rep (ed_lst (by by_place) (by decide)) (by by_place) (by omega))) ea_nil)) (digs_pre (by decide) (by decide) (by omega)) rfl))
      (by decide) (by rw [digitsM_len, List.length_replicate]; omega) (fun d hd => digitsM_rep _ 8 width (by decide) d hd) (fun x hx => by by_place))) (by rw [dT_len, (denseRows_tab ns width m).n, PySem.sizeLine_eq]; omega) ?_
    show [_, _, _, _, _, _, _, _, _, _] = _
    unfold denseRows dT
    rw [List.range_succ, List.map_append, List.map_append]
    rfl
  · subst hI
    rw [Int.toNat_natCast]
  · subst hM
    refine sd_then (sd_asgL (ds := []) (el_lst ea_nil (by decide)) ?_)
    refine sd_frz (i := 5) rfl rfl ?_
    show SD K _ [.sh (.rd (dI ns)), .sh (.int many), .sh (.int width), .sh (.int span), .sh (.lst (dI menuM)), .sh (.lst (dT (denseRows ns width span))), .no, .no, .ow [], .no] _
    refine sd_then (sd_forRn [7, 9] (z := (many : Int)) (by by_place) (by omega) (fun m ρ => ρ = [.sh (.rd (dI ns)), .sh (.int many), .sh (.int width), .sh (.int span), .sh (.lst (dI menuM)), .sh (.lst (dT (denseRows ns width span))), .no, .no, .ow (dT (denseM ns m width span)), .no]) rfl (fun m ρ hm hI => ?_) (fun ρ hI => ?_))
    · subst hI
      refine ⟨rfl, ?_⟩
      show SD K _ [.sh (.rd (dI ns)), .sh (.int many), .sh (.int width), .sh (.int span), .sh (.lst (dI menuM)), .sh (.lst (dT (denseRows ns width span))), .no, .no, .ow (dT (denseM ns m width span)), .sh (.int m)] _
      have tb := denseRows_tab ns width span
      refine sd_app (i := 8) (d := .lst (dI (mixedM (denseRows ns width span) (pickL menuM (digitsM (cellM ns (1 + m)) (List.replicate span 8)))))) rfl (EvL.data (el_call (false, denseRows ns width span, pickL menuM (digitsM (cellM ns (1 + m)) (List.replicate span 8))) (ea_cons (by by_place) (ea_cons (EvL.data (el_pick (i := 7) (by decide)
        (EvL.data (el_call (cellM ns (1 + m), List.replicate span 8) (ea_cons (ed_call (ns, 1 + m) (EvA.is (by by_place) (by show _ = [DL.D.rd (dI ns), DL.D.int ((1 + m : Nat) : Int)]; rw [Int.natCast_add]; rfl)) (by show 1 + m < 1000; omega) rfl) (ea_cons (EvL.data (el_rep (ed_lst (by by_place) (by decide)) (by by_place) (by omega))) ea_nil)) (digs_pre (by decide) (by decide) (by omega)) rfl))
        (by decide) (by rw [digitsM_len, List.length_replicate]; omega) (fun d hd => digitsM_rep _ 8 span (by decide) d hd) (fun x hx => by by_place))) ea_nil)) ?_ rfl)) (by rw [dT_len, (denseM_tab ns h3).n, PySem.sizeLine_eq]; omega) ?_
      · refine ⟨fun z => ?_, fun r hr => by rw [tb.head h3, tb.w r hr], ?_, ?_, ?_, fun r hr x hx => (denseRows_bd ns width span r hr x hx).smL 10 (by decide) (by decide), fun x hx => (pick_menu_bd _ _ x hx).smL 10 (by decide) (by decide)⟩
        · have := tb.n
          rw [show denseRows ns width span = [] from z] at this
          simp at this
          omega
        · show (denseRows ns width span).length ≤ (pickL menuM (digitsM (cellM ns (1 + m)) (List.replicate span 8))).length
          rw [tb.n, pickL_len, digitsM_len, List.length_replicate]
          exact Nat.le_refl _
        · show (denseRows ns width span).length ≤ 10000
          rw [tb.n]
          omega
        · show ((denseRows ns width span).headD []).length ≤ 10000
          rw [tb.head h3]
          omega
      · show [_, _, _, _, _, _, _, _, _, _] = _
        unfold denseM dT
        rw [List.range_succ, List.map_append, List.map_append]
        rfl
    · subst hI
      exact sd_retO (i := 8) rfl (by rw [Int.toNat_natCast])
theorem scLawTwins : FnScope ["table", "head", "many", "width", "rows", "mine", "factor", "twin", "number", "at"] ["table", "head"] (defScope sLawTwins) := ⟨rfl, rfl, rfl, by decide +kernel, rfl, by decide +kernel, by decide +kernel⟩
theorem okLawTwins (T : Txt K mg)  : Cal P w K mg base 1 "_law_twins" ["table", "head"] (spLawTwins K) := by
  refine cal_mk T.f_LawTwins T.g_LawTwins scLawTwins (fun vs H Q E h => spT_len (n := 2) (fun _ => rfl) h) (fun _ _ _ _ _ _ us hl => match us, hl with | [_, _], _ => rfl) (fun cdv A outer s H vs Q E hr h => ?_)
  refine ⟨_, (pss_cons (ps_set (i := 2) scLawTwins.nd rfl (by first | exact Or.inl rfl | exact Or.inr rfl) (pe_callB (DL.call_len_seqC (K := K) rfl) (by rfl) T.b_len (by decide +kernel) (pa_cons (pv 0) pa_nil)))
      (pss_cons (ps_set (i := 3) scLawTwins.nd rfl (by first | exact Or.inl rfl | exact Or.inr rfl) (pe_callB (DL.call_len_seqC (K := K) rfl) (by rfl) T.b_len (by decide +kernel) (pa_cons (pe_ix (DL.ix_seqC (K := K) rfl) (pv 0) pe_int (fun _ _ => rfl)) pa_nil)))
      (pss_cons (ps_setLc (i := 4) (own := [("mine", 5)]) (g := gName 5) (by rfl) scLawTwins.nd rfl rfl (sw_true rfl rfl rfl (by decide +kernel)) (DL.pi_listC (K := K) rfl (pv 0)) (blkOk_by (own := [("mine", 5)]) (by kernel_rfl)) (fun _ _ _ _ _ => (pg_name (i := 5) scLawTwins.nd rfl (by first | exact Or.inl rfl | exact Or.inr rfl))) (fun _ _ _ _ _ => pts_nil) (fun _ _ _ _ _ => (pe_callTy (DL.call_list_ofC (K := K) rfl) (by rfl) T.b_list (by decide +kernel) (pa_cons (pv 5) pa_nil))))
      (pss_cons (ps_if (pt_cmpR op_lt (pe_ix (DL.ix_seqC (K := K) rfl) (pv 1) pe_int (fun _ _ => rfl)) pe_int (nomark _))
      (pss_cons (ps_set (i := 6) scLawTwins.nd rfl (by first | exact Or.inl rfl | exact Or.inr rfl) (pe_ix (DL.ix_seqC (K := K) rfl) (pe_lst (pa_cons pe_int (pa_cons (pe_un un_neg pe_int) (pa_cons pe_int (pa_cons pe_int pa_nil))))) (pe_ix (DL.ix_seqC (K := K) rfl) (pv 1) pe_int (fun _ _ => rfl)) (fun _ _ => rfl)))
      (pss_cons (ps_set (i := 7) scLawTwins.nd rfl (by first | exact Or.inl rfl | exact Or.inr rfl) (pe_ix (DL.ix_seqC (K := K) rfl) (pv 4) (pe_op op_mod (pe_callTy call_int1 (by rfl) T.b_int (by decide +kernel) (pa_cons (pe_op op_add (pe_op op_add (pe_ix (DL.ix_seqC (K := K) rfl) (pv 1) pe_int (fun _ _ => rfl)) pe_int) (pe_op op_mod (pe_callTy call_int1 (by rfl) T.b_int (by decide +kernel) (pa_cons (pe_ix (DL.ix_seqC (K := K) rfl) (pv 1) pe_int (fun _ _ => rfl)) pa_nil)) (pe_callB (call_max2 rfl) (by rfl) T.b_max (by decide +kernel) (pa_cons pe_int (pa_cons (pe_op op_sub (pv 2) pe_int) pa_nil))))) pa_nil)) (pv 2)) (fun _ _ => rfl)))
      (pss_one (ps_asg (pe_lc (own := [("number", 8)]) (g := gName 8) (by rfl) scLawTwins.nd (DL.pi_listC (K := K) rfl (pv 7)) (blkOk_by (own := [("number", 8)]) (by kernel_rfl)) (fun _ _ _ _ _ => (pg_name (i := 8) scLawTwins.nd rfl (by first | exact Or.inl rfl | exact Or.inr rfl))) (fun _ _ _ _ _ => pts_nil) (fun _ _ _ _ _ => (pe_op op_mulW (pv 8) (pv 6)))) (pg_sub (pv 4) (pe_op op_mod (pe_callTy call_int1 (by rfl) T.b_int (by decide +kernel) (pa_cons (pe_ix (DL.ix_seqC (K := K) rfl) (pv 1) pe_int (fun _ _ => rfl)) pa_nil)) (pv 2)) set_list)))))
      pss_nil)
      (pss_cons (ps_if (pt_cmpR op_lt (pe_ix (DL.ix_seqC (K := K) rfl) (pv 1) pe_int (fun _ _ => rfl)) pe_int (nomark _))
      (pss_cons (ps_set (i := 6) scLawTwins.nd rfl (by first | exact Or.inl rfl | exact Or.inr rfl) (pe_ix (DL.ix_seqC (K := K) rfl) (pe_lst (pa_cons pe_int (pa_cons (pe_un un_neg pe_int) (pa_cons pe_int (pa_cons pe_int pa_nil))))) (pe_ix (DL.ix_seqC (K := K) rfl) (pv 1) pe_int (fun _ _ => rfl)) (fun _ _ => rfl)))
      (pss_cons (ps_set (i := 9) scLawTwins.nd rfl (by first | exact Or.inl rfl | exact Or.inr rfl) (pe_op op_mod (pe_callTy call_int1 (by rfl) T.b_int (by decide +kernel) (pa_cons (pe_op op_add (pe_op op_add (pe_ix (DL.ix_seqC (K := K) rfl) (pv 1) pe_int (fun _ _ => rfl)) pe_int) (pe_op op_mod (pe_callTy call_int1 (by rfl) T.b_int (by decide +kernel) (pa_cons (pe_ix (DL.ix_seqC (K := K) rfl) (pv 1) pe_int (fun _ _ => rfl)) pa_nil)) (pe_callB (call_max2 rfl) (by rfl) T.b_max (by decide +kernel) (pa_cons pe_int (pa_cons (pe_op op_sub (pv 3) pe_int) pa_nil))))) pa_nil)) (pv 3)))
      (pss_one (ps_for PassesOwn.never rfl (DL.pi_listC (K := K) rfl (pv 4)) (pg_name (i := 5) scLawTwins.nd rfl (by first | exact Or.inl rfl | exact Or.inr rfl))
      (pss_one (ps_asg (pe_op op_mulW (pe_ix (DL.ix_seqC (K := K) rfl) (pv 5) (pv 9) (fun _ _ => rfl)) (pv 6)) (pg_sub (pv 5) (pe_op op_mod (pe_callTy call_int1 (by rfl) T.b_int (by decide +kernel) (pa_cons (pe_ix (DL.ix_seqC (K := K) rfl) (pv 1) pe_int (fun _ _ => rfl)) pa_nil)) (pv 3)) set_list)))))))
      pss_nil)
      (pss_one (ps_ret (pv 4)))))))), ?_⟩
  refine sd_fn h (fun _ => Nat.le_of_ble_eq_true rfl) ?_
  try dsimp only [L2.cxOf]
  intro ⟨width, R, L⟩ hp
  obtain ⟨hT, hm, hw, hH, hb⟩ : PreTwins width R L := hp
  obtain ⟨h0, h1, h2, h3, h4, h5, h6, h7, h8, h9, h10, h11, hL, b0, b1, b2, b3, b4, b5, b6, b7, b8, b9, b10, b11⟩ := hH.ex
  have a4 : atI (dI L) 4 = some (.int h4) := by rw [hL]; rfl
  have a5 : atI (dI L) 5 = some (.int h5) := by rw [hL]; rfl
  have a6 : atI (dI L) 6 = some (.int h6) := by rw [hL]; rfl
  have a7 : atI (dI L) 7 = some (.int h7) := by rw [hL]; rfl
  have a8 : atI (dI L) 8 = some (.int h8) := by rw [hL]; rfl
  have a9 : atI (dI L) 9 = some (.int h9) := by rw [hL]; rfl
  have l4 : L.getD 4 0 = h4 := by rw [hL]; rfl
  have l5 : L.getD 5 0 = h5 := by rw [hL]; rfl
  have l6 : L.getD 6 0 = h6 := by rw [hL]; rfl
  have l7 : L.getD 7 0 = h7 := by rw [hL]; rfl
  have l8 : L.getD 8 0 = h8 := by rw [hL]; rfl
  have l9 : L.getD 9 0 = h9 := by rw [hL]; rfl
  have g0 : atI (dT R) 0 = some (.lst (dI (R.headD []))) := by
    cases R with
    | nil => exact absurd hm.1 (by simp)
    | cons r rs => exact atI_zero
  have hd0 : (R.headD []).length = width := hT.head (by omega)
  show SD K _ [.sh (.lst (dT R)), .sh (.lst (dI L)), .no, .no, .no, .no, .no, .no, .no, .no] _
  refine sd_then (sd_asg (d := .int R.length) (EvD.is (by by_place) (by rw [dT_len])) ?_)
  refine sd_then (sd_asg (d := .int width) (EvD.is (by by_place) (by rw [List.length_map, hd0])) ?_)
  show SD K _ [.sh (.lst (dT R)), .sh (.lst (dI L)), .sh (.int R.length), .sh (.int width), .no, .no, .no, .no, .no, .no] _
  refine sd_then (sd_asgLL (ell_copy (rows := R) (by by_place) (by decide) (by omega) fun r => el_cb (ea_cons (by by_place) ea_nil) (cl_list rfl)) fun p qs hq => ?_)
  rw [List.length_map] at hq
  show SD K _ [.sh (.lst (dT R)), .sh (.lst (dI L)), .sh (.int R.length), .sh (.int width), .oo p qs (R.map dI), .no, .no, .no, .no, .no] _
  have t1 := twin1_tab (h := L) (B := 2 ^ 10000) hT (fun r hr x hx => Nat.le_of_lt (hb r hr x hx)) hm.1 (by omega)
  have tw1 : Tab R.length width (twin1 R L) := t1.1
  have tb1 : ∀ r ∈ twin1 R L, ∀ x ∈ r, Sm 20000 x := fun r hr x hx => (t1.2 r hr x hx).sm (by rw [← Nat.pow_succ]; exact Nat.pow_lt_pow_right (by decide) (by decide))
  have mx : ∀ n : Int, 0 < (if n > 1 then n else 1) := fun n => by split <;> omega
  have mxm := mx ((R.length : Int) - 1)
  have mxw := mx ((width : Int) - 1)
  refine sd_cut (fun ρ => ∃ qs', qs'.length = R.length ∧ ρ = [.sh (.lst (dT R)), .sh (.lst (dI L)), .sh (.int R.length), .sh (.int width), .oo p qs' ((twin1 R L).map dI), .no, .no, .no, .no, .no])
    (sd_if (x := decide (h6 < 4)) (by by_place) (fun h => sd_fg [6, 7] ?_) (fun h => sd_next ?_)) (fun ρ hM => ?_)
  · have h := of_decide_eq_true h
    have gf := fac_at b6.1 h
    refine sd_then (sd_asg (d := .int (facM.getD h6.toNat 0)) (by by_place) ?_)
    generalize hk1 : (h4 + 1 + h7 % max 1 ((R.length : Int) - 1)) % (R.length : Int) = k1
    have k1a : 0 ≤ k1 := by rw [← hk1]; exact Int.emod_nonneg _ (by omega)
    have k1b : k1 < R.length := by rw [← hk1]; exact Int.emod_lt_of_pos _ (by omega)
    have q1 : qs[k1.toNat]? = some (qs[k1.toNat]'(by omega)) := List.getElem?_eq_getElem _
    have d1 : (R.map dI)[k1.toNat]? = some (dI (R.getD k1.toNat [])) := by rw [List.getElem?_map, get_getD [] (show k1.toNat < R.length by omega)]; rfl
    show SD K _ [.sh (.lst (dT R)), .sh (.lst (dI L)), .sh (.int R.length), .sh (.int width), .oo p qs (R.map dI), .no, .sh (.int (facM.getD h6.toNat 0)), .no, .no, .no] _
    refine sd_then (sd_asgAl (j := 4) (kk := k1) rfl (EvD.is (by by_place <;> by_in) (by rw [max2_eq, hk1])) (atN k1a q1) ?_)
    show SD K _ [.sh (.lst (dT R)), .sh (.lst (dI L)), .sh (.int R.length), .sh (.int width), .oo p qs (R.map dI), .no, .sh (.int (facM.getD h6.toNat 0)), .al (qs[k1.toNat]'(by omega)), .no, .no] _
    have k2a : 0 ≤ h4 % (R.length : Int) := Int.emod_nonneg _ (by omega)
    have k2b : h4 % (R.length : Int) < R.length := Int.emod_lt_of_pos _ (by omega)
    have sf := sm_fac h6 b6.1 h
    have hrow : (R.getD k1.toNat []).length = width := hT.row (by omega)
    refine sd_setOut (i := 4) (m := (h4 % (R.length : Int)).toNat) (ds := dI ((R.getD k1.toNat []).map fun x => x * facM.getD h6.toNat 0)) rfl
      (evsl_flatV (va_al (j := 7) (i := 4) (k := k1.toNat) rfl rfl q1 d1) (el_mapI (i := 8) _ (by by_place) (by decide) (by omega) fun x hx => ?_) (all_flat _)) (EvD.is (by by_place <;> by_in) (by rw [Int.toNat_of_nonneg k2a])) (by omega) fun q => ?_
    · have c : CMulW x (facM.getD h6.toNat 0) := (hb _ (getD_mem _ (by omega)) x hx).mulW sf (by decide)
      by_place <;> by_in
    · refine ⟨qs.set (h4 % (R.length : Int)).toNat q, by rw [List.length_set]; exact hq, ?_⟩
      rw [rows_set, show twin1 R L = R.set (h4 % (R.length : Int)).toNat ((R.getD k1.toNat []).map fun x => x * facM.getD h6.toNat 0) by unfold twin1; rw [l6, l4, l7, if_pos h, hk1]]
      rfl
  · have h := of_decide_eq_false h
    refine ⟨qs, hq, ?_⟩
    rw [show twin1 R L = R from if_neg (by rw [l6]; exact h)]
  · obtain ⟨qs', hq', rfl⟩ := hM
    generalize hR1 : twin1 R L = R1 at tw1 tb1
    have n1 : R1.length = R.length := tw1.n
    refine sd_cut (fun ρ => ρ = [.sh (.lst (dT R)), .sh (.lst (dI L)), .sh (.int R.length), .sh (.int width), .oo p qs' ((twinsM width R L).map dI), .no, .no, .no, .no, .no])
      (sd_if (x := decide (h9 < 4)) (by by_place) (fun h => sd_fg [6, 9] ?_) (fun h => sd_next ?_)) (fun ρ hM => ?_)
    · have h := of_decide_eq_true h
      have gf := fac_at b9.1 h
      refine sd_then (sd_asg (d := .int (facM.getD h9.toNat 0)) (by by_place) ?_)
      have hc1 : (h5 + 1 + h8 % max 1 ((width : Int) - 1)) % (width : Int) = ((colAt width L : Nat) : Int) := by
        unfold colAt
        rw [l5, l8, Int.toNat_of_nonneg (Int.emod_nonneg _ (by omega))]
      have hc2 : colAt width L < width := by
        have := Int.emod_lt_of_pos (h5 + 1 + h8 % max 1 ((width : Int) - 1)) (show 0 < (width : Int) by omega)
        omega
      refine sd_then (sd_asg (d := .int ((colAt width L : Nat) : Int)) (EvD.is (by by_place <;> by_in) (by rw [max2_eq, hc1])) ?_)
      have sf := sm_fac h9 b9.1 h
      refine sd_forOO [5] (i := 4) (j := 5) rfl (fun m ρ => ρ = [.sh (.lst (dT R)), .sh (.lst (dI L)), .sh (.int R.length), .sh (.int width), .oo p qs' ((mapTo (twinRow width L) m R1).map dI), .no, .sh (.int (facM.getD h9.toNat 0)), .no, .no, .sh (.int ((colAt width L : Nat) : Int))]) rfl (fun m ρ hI => by subst hI; exact ⟨_, rfl⟩) (fun m q ρ hqm hI => ?_) (fun ρ hI => ?_)
      · subst hI
        have hm1 : m < R1.length := by
          have := (List.getElem?_eq_some_iff.mp hqm).1
          omega
        have e1 : R1[m]? = some (R1.getD m []) := get_getD [] hm1
        have hrl : (R1.getD m []).length = width := tw1.row (by omega)
        have d1 : ((mapTo (twinRow width L) m R1).map dI)[m]? = some (dI (R1.getD m [])) := by rw [List.getElem?_map, mapTo_get, e1]; rfl
        have g1 := dI_get (get_getD (l := R1.getD m []) (i := colAt width L) 0 (by omega))
        have k2a : 0 ≤ h5 % (width : Int) := Int.emod_nonneg _ (by omega)
        have k2b : h5 % (width : Int) < width := Int.emod_lt_of_pos _ (by omega)
        have c : CMulW ((R1.getD m []).getD (colAt width L) 0) (facM.getD h9.toNat 0) := (tb1 _ (M.getD_mem [] hm1) _ (M.getD_mem 0 (by omega))).mulW sf (by decide)
        show SD K _ [.sh (.lst (dT R)), .sh (.lst (dI L)), .sh (.int R.length), .sh (.int width), .oo p qs' ((mapTo (twinRow width L) m R1).map dI), .al q, .sh (.int (facM.getD h9.toNat 0)), .no, .no, .sh (.int ((colAt width L : Nat) : Int))] _
        refine sd_setIn (j := 5) (i := 4) (kk := m) (m := (h5 % (width : Int)).toNat) (d := .int ((R1.getD m []).getD (colAt width L) 0 * facM.getD h9.toNat 0)) rfl rfl hqm d1 (evs_flatV (va_al (j := 5) (i := 4) (k := m) rfl rfl hqm d1) (by by_place <;> by_in) rfl) (EvD.is (by by_place <;> by_in) (by rw [Int.toNat_of_nonneg k2a])) (by rw [List.length_map]; omega) ?_
        show [_, _, _, _, _, _, _, _, _, _] = _
        rw [dI_set, rows_set, show (R1.getD m []).set (h5 % (width : Int)).toNat ((R1.getD m []).getD (colAt width L) 0 * facM.getD h9.toNat 0) = twinRow width L (R1.getD m []) by unfold twinRow; rw [l5, l9], mapTo_set _ _ _ _ e1]
      · subst hI
        show [_, _, _, _, _, _, _, _, _, _] = _
        rw [show qs'.length = R1.length by omega, mapTo_all, show twinsM width R L = R1.map (twinRow width L) by unfold twinsM; rw [l9, if_pos h, hR1]]
    · have h := of_decide_eq_false h
      rw [show twinsM width R L = R1 by unfold twinsM; rw [l9, if_neg h, hR1]]
    · subst hM
      refine sd_frz (i := 4) (d := .lst (dT (twinsM width R L))) rfl (by show some _ = some _; rw [frz_oo]) ?_
      exact sd_ret (by by_place) rfl
theorem scLawSizes : FnScope ["head", "many"] ["head"] (defScope sLawSizes) := ⟨rfl, rfl, rfl, by decide +kernel, rfl, by decide +kernel, by decide +kernel⟩
theorem okLawSizes (T : Txt K mg)  : Cal P w K mg base 1 "_law_sizes" ["head"] (spLawSizes K) := by
  refine cal_mk T.f_LawSizes T.g_LawSizes scLawSizes (fun vs H Q E h => spT_len (n := 1) (fun _ => rfl) h) (fun _ _ _ _ _ _ us hl => match us, hl with | [_], _ => rfl) (fun cdv A outer s H vs Q E hr h => ?_)
  refine ⟨_, (pss_cons (ps_if (pt_cmpR op_eq (pe_ix (DL.ix_seqC (K := K) rfl) (pv 0) pe_int (fun _ _ => rfl)) pe_int (nomark _))
      (pss_one (ps_ret (pe_lst (pa_cons (pe_op op_add pe_int (pe_op op_mod (pe_callTy call_int1 (by rfl) T.b_int (by decide +kernel) (pa_cons (pe_ix (DL.ix_seqC (K := K) rfl) (pv 0) pe_int (fun _ _ => rfl)) pa_nil)) pe_int)) (pa_cons (pe_op op_add pe_int (pe_op op_mod (pe_callTy call_int1 (by rfl) T.b_int (by decide +kernel) (pa_cons (pe_ix (DL.ix_seqC (K := K) rfl) (pv 0) pe_int (fun _ _ => rfl)) pa_nil)) pe_int)) (pa_cons pe_int (pa_cons pe_bl pa_nil)))))))
      pss_nil)
      (pss_cons (ps_if (pt_cmpR op_eq (pe_ix (DL.ix_seqC (K := K) rfl) (pv 0) pe_int (fun _ _ => rfl)) pe_int (nomark _))
      (pss_one (ps_ret (pe_lst (pa_cons (pe_op op_add pe_int (pe_op op_mod (pe_callTy call_int1 (by rfl) T.b_int (by decide +kernel) (pa_cons (pe_ix (DL.ix_seqC (K := K) rfl) (pv 0) pe_int (fun _ _ => rfl)) pa_nil)) pe_int)) (pa_cons (pe_op op_add pe_int (pe_ix (DL.ix_seqC (K := K) rfl) (pv 0) pe_int (fun _ _ => rfl))) (pa_cons (pe_callB (DL.call_min3 rfl) (by rfl) T.b_min (by decide +kernel) (pa_cons (pe_op op_add pe_int (pe_op op_mod (pe_callTy call_int1 (by rfl) T.b_int (by decide +kernel) (pa_cons (pe_ix (DL.ix_seqC (K := K) rfl) (pv 0) pe_int (fun _ _ => rfl)) pa_nil)) pe_int)) (pa_cons (pe_op op_add pe_int (pe_ix (DL.ix_seqC (K := K) rfl) (pv 0) pe_int (fun _ _ => rfl))) (pa_cons (pe_op op_add pe_int (pe_ix (DL.ix_seqC (K := K) rfl) (pv 0) pe_int (fun _ _ => rfl))) pa_nil)))) (pa_cons pe_bl pa_nil)))))))
      pss_nil)
      (pss_cons (ps_set (i := 1) scLawSizes.nd rfl (by first | exact Or.inl rfl | exact Or.inr rfl) (pe_op op_add pe_int (pe_op op_mod (pe_callTy call_int1 (by rfl) T.b_int (by decide +kernel) (pa_cons (pe_ix (DL.ix_seqC (K := K) rfl) (pv 0) pe_int (fun _ _ => rfl)) pa_nil)) pe_int)))
      (pss_one (ps_ret (pe_lst (pa_cons (pv 1) (pa_cons (pe_op op_add pe_int (pe_op op_mod (pe_callTy call_int1 (by rfl) T.b_int (by decide +kernel) (pa_cons (pe_ix (DL.ix_seqC (K := K) rfl) (pv 0) pe_int (fun _ _ => rfl)) pa_nil)) pe_int)) (pa_cons (pe_callB (call_min2 rfl) (by rfl) T.b_min (by decide +kernel) (pa_cons (pv 1) (pa_cons (pe_op op_add pe_int (pe_op op_mod (pe_callTy call_int1 (by rfl) T.b_int (by decide +kernel) (pa_cons (pe_ix (DL.ix_seqC (K := K) rfl) (pv 0) pe_int (fun _ _ => rfl)) pa_nil)) pe_int)) pa_nil))) (pa_cons pe_bl pa_nil)))))))))), ?_⟩
  refine sd_fn h (fun _ => Nat.le_of_ble_eq_true rfl) ?_
  try dsimp only [L2.cxOf]
  intro h hp
  obtain ⟨h0, h1, h2, h3, h4, h5, h6, h7, h8, h9, h10, h11, rfl, b0, b1, b2, b3, _⟩ := (show HeadOk h from hp).ex
  generalize hL : [h0, h1, h2, h3, h4, h5, h6, h7, h8, h9, h10, h11] = L
  have a0 : atI (dI L) 0 = some (.int h0) := by rw [← hL]; rfl
  have a1 : atI (dI L) 1 = some (.int h1) := by rw [← hL]; rfl
  have a2 : atI (dI L) 2 = some (.int h2) := by rw [← hL]; rfl
  have a3 : atI (dI L) 3 = some (.int h3) := by rw [← hL]; rfl
  show SD K _ [.sh (.lst (dI L)), .no] _
  refine sd_then (sd_if (x := decide (h0 = 7)) (by by_place) (fun h => ?_) (fun h => sd_next ?_))
  · have h := of_decide_eq_true h
    refine sd_retL (ds := szD (sizesM L)) (EvL.is (el_lst (by by_place <;> by_in) (Nat.le_of_ble_eq_true rfl)) ?_) rfl
    rw [szD_mk (by omega) (by omega) (by omega), ← hL]
    congr 1
    unfold sizesM
    simp only [List.getD_cons_zero, List.getD_cons_succ]
    rw [if_pos h]
    rfl
  · have h := of_decide_eq_false h
    show SD K _ [.sh (.lst (dI L)), .no] _
    refine sd_then (sd_if (x := decide (h0 = 5)) (by by_place) (fun h' => ?_) (fun h' => sd_next ?_))
    · have h' := of_decide_eq_true h'
      refine sd_retL (ds := szD (sizesM L)) (EvL.is (el_lst (by by_place <;> by_in) (Nat.le_of_ble_eq_true rfl)) ?_) rfl
      rw [szD_mk (by omega) (by omega) (by omega), ← hL]
      congr 1
      unfold sizesM
      simp only [List.getD_cons_zero, List.getD_cons_succ]
      rw [if_neg h, if_pos h']
    · have h' := of_decide_eq_false h'
      show SD K _ [.sh (.lst (dI L)), .no] _
      refine sd_then (sd_asg (d := .int (9 + h1 % 5)) (by by_place <;> by_in) ?_)
      show SD K _ [.sh (.lst (dI L)), .sh (.int (9 + h1 % 5))] _
      refine sd_retL (ds := szD (sizesM L)) (EvL.is (el_lst (by by_place <;> by_in) (Nat.le_of_ble_eq_true rfl)) ?_) rfl
      rw [min2_eq, szD_mk (by omega) (by omega) (by omega), ← hL]
      congr 1
      unfold sizesM
      simp only [List.getD_cons_zero, List.getD_cons_succ]
      rw [if_neg h, if_neg h']
theorem scLawPlanted : FnScope ["script", "head", "sizes", "most", "row_v", "line", "base", "i", "number", "tops", "digit", "factors", "table"] ["script", "head", "sizes"] (defScope sLawPlanted) := ⟨rfl, rfl, rfl, by decide +kernel, rfl, by decide +kernel, by decide +kernel⟩
theorem okLawPlanted (T : Txt K mg) (c_LawDigits : Cal P w K mg base 1 "_law_digits" ["cell", "sizes"] (spLawDigits K)) (c_LawCell : Cal P w K mg base 1 "_law_cell" ["script", "k"] (spLawCell K)) (c_LawLong : Cal P w K mg base 2 "_law_long" ["cell", "many", "top"] (spLawLong K)) (c_LawDense : Cal P w K mg base 2 "_law_dense" ["script", "many", "width", "span"] (spLawDense K)) (c_LawTwins : Cal P w K mg base 1 "_law_twins" ["table", "head"] (spLawTwins K)) (c_LawSum : Cal P w K mg base 1 "_law_sum" ["parts", "tops"] (spLawSum K)) : Cal P w K mg base 3 "_law_planted" ["script", "head", "sizes"] (spLawPlanted K) := by
  refine cal_mk T.f_LawPlanted T.g_LawPlanted scLawPlanted (fun vs H Q E h => spT_len (n := 3) (fun _ => rfl) h) (fun _ _ _ _ _ _ us hl => match us, hl with | [_, _, _], _ => rfl) (fun cdv A outer s H vs Q E hr h => ?_)
  refine ⟨_, (pss_cons (ps_set (i := 3) scLawPlanted.nd rfl (by first | exact Or.inl rfl | exact Or.inr rfl) (pe_ix (DL.ix_seqC (K := K) rfl) (pe_lst (pa_cons (pe_op op_mulW (pe_op op_pow pe_int pe_int) (pe_op op_pow pe_int pe_int)) (pa_cons (pe_op op_mulW (pe_op op_powW (pe_op op_pow pe_int pe_int) pe_int) (pe_op op_pow pe_int pe_int)) pa_nil))) (pe_op op_mod (pe_callTy call_int1 (by rfl) T.b_int (by decide +kernel) (pa_cons (pe_ix (DL.ix_seqC (K := K) rfl) (pv 1) pe_int (fun _ _ => rfl)) pa_nil)) pe_int) (fun _ _ => rfl)))
      (pss_cons (ps_set (i := 4) scLawPlanted.nd rfl (by first | exact Or.inl rfl | exact Or.inr rfl) (DL.pe_cal c_LawDigits (hr.mono (by decide)) (pa_cons (DL.pe_cal c_LawCell (hr.mono (by decide)) (pa_cons (pv 0) (pa_cons pe_int pa_nil))) (pa_cons (pe_op op_cat (pe_op op_rep (pe_lst (pa_cons pe_int pa_nil)) (pe_ix (DL.ix_seqC (K := K) rfl) (pv 2) pe_int (fun _ _ => rfl))) (pe_lst (pa_cons pe_int pa_nil))) pa_nil))))
      (pss_cons (ps_set (i := 5) scLawPlanted.nd rfl (by first | exact Or.inl rfl | exact Or.inr rfl) (pe_ix (DL.ix_seqC (K := K) rfl) (pe_lst (pa_cons pe_int (pa_cons pe_int (pa_cons pe_int (pa_cons pe_int (pa_cons pe_int (pa_cons pe_int (pa_cons pe_int (pa_cons pe_int pa_nil))))))))) (pe_ix (DL.ix_seqC (K := K) rfl) (pv 4) (pe_ix (DL.ix_seqC (K := K) rfl) (pv 2) pe_int (fun _ _ => rfl)) (fun _ _ => rfl)) (fun _ _ => rfl)))
      (pss_cons (ps_if (pt_val (pe_ix (DL.ix_seqC (K := K) rfl) (pv 2) pe_int (fun _ _ => rfl)))
      (pss_cons (ps_set (i := 6) scLawPlanted.nd rfl (by first | exact Or.inl rfl | exact Or.inr rfl) (pe_lst pa_nil))
      (pss_cons (ps_for PassesOwn.never rfl (pi_range1 (by rfl) T.b_range (pa_cons (pe_ix (DL.ix_seqC (K := K) rfl) (pv 2) pe_int (fun _ _ => rfl)) pa_nil)) (pg_name (i := 7) scLawPlanted.nd rfl (by first | exact Or.inl rfl | exact Or.inr rfl))
      (pss_one (ps_expr (pe_bm PySem.F.plainAttrs_list PySem.F.slot_list_append PySem.F.type_list_append mt_append (pv 6) (pa_cons (pe_lc (own := [("number", 8)]) (g := gName 8) (by rfl) scLawPlanted.nd (DL.pi_listC (K := K) rfl (DL.pe_cal c_LawLong (hr.mono (by decide)) (pa_cons (DL.pe_cal c_LawCell (hr.mono (by decide)) (pa_cons (pv 0) (pa_cons (pe_op op_add pe_int (pv 7)) pa_nil))) (pa_cons (pe_ix (DL.ix_seqC (K := K) rfl) (pv 2) pe_int (fun _ _ => rfl)) (pa_cons (pv 3) pa_nil))))) (blkOk_by (own := [("number", 8)]) (by kernel_rfl)) (fun _ _ _ _ _ => (pg_name (i := 8) scLawPlanted.nd rfl (by first | exact Or.inl rfl | exact Or.inr rfl))) (fun _ _ _ _ _ => pts_nil) (fun _ _ _ _ _ => (pe_op op_sub (pv 8) (pe_op op_fdivW (pv 3) pe_int)))) pa_nil)))))
      (pss_one (ps_set (i := 9) scLawPlanted.nd rfl (by first | exact Or.inl rfl | exact Or.inr rfl) (pe_lc (own := [("number", 8)]) (g := gName 8) (by rfl) scLawPlanted.nd (DL.pi_listC (K := K) rfl (DL.pe_cal c_LawLong (hr.mono (by decide)) (pa_cons (DL.pe_cal c_LawCell (hr.mono (by decide)) (pa_cons (pv 0) (pa_cons pe_int pa_nil))) (pa_cons (pe_ix (DL.ix_seqC (K := K) rfl) (pv 2) pe_int (fun _ _ => rfl)) (pa_cons pe_int pa_nil))))) (blkOk_by (own := [("number", 8)]) (by kernel_rfl)) (fun _ _ _ _ _ => (pg_name (i := 8) scLawPlanted.nd rfl (by first | exact Or.inl rfl | exact Or.inr rfl))) (fun _ _ _ _ _ => pts_nil) (fun _ _ _ _ _ => (pe_op op_sub (pv 8) pe_int)))))))
      (pss_cons (ps_set (i := 6) scLawPlanted.nd rfl (by first | exact Or.inl rfl | exact Or.inr rfl) (DL.pe_cal c_LawDense (hr.mono (by decide)) (pa_cons (pv 0) (pa_cons (pe_ix (DL.ix_seqC (K := K) rfl) (pv 2) pe_int (fun _ _ => rfl)) (pa_cons (pe_ix (DL.ix_seqC (K := K) rfl) (pv 2) pe_int (fun _ _ => rfl)) (pa_cons (pe_ix (DL.ix_seqC (K := K) rfl) (pv 2) pe_int (fun _ _ => rfl)) pa_nil))))))
      (pss_one (ps_set (i := 9) scLawPlanted.nd rfl (by first | exact Or.inl rfl | exact Or.inr rfl) (pe_lc (own := [("digit", 10)]) (g := gName 10) (by rfl) scLawPlanted.nd (DL.pi_listC (K := K) rfl (DL.pe_cal c_LawDigits (hr.mono (by decide)) (pa_cons (DL.pe_cal c_LawCell (hr.mono (by decide)) (pa_cons (pv 0) (pa_cons pe_int pa_nil))) (pa_cons (pe_op op_rep (pe_lst (pa_cons pe_int pa_nil)) (pe_ix (DL.ix_seqC (K := K) rfl) (pv 2) pe_int (fun _ _ => rfl))) pa_nil)))) (blkOk_by (own := [("digit", 10)]) (by kernel_rfl)) (fun _ _ _ _ _ => (pg_name (i := 10) scLawPlanted.nd rfl (by first | exact Or.inl rfl | exact Or.inr rfl))) (fun _ _ _ _ _ => pts_nil) (fun _ _ _ _ _ => (pe_op op_sub (pv 10) pe_int)))))))
      (pss_cons (ps_set (i := 6) scLawPlanted.nd rfl (by first | exact Or.inl rfl | exact Or.inr rfl) (DL.pe_cal c_LawTwins (hr.mono (by decide)) (pa_cons (pv 6) (pa_cons (pv 1) pa_nil))))
      (pss_cons (ps_set (i := 11) scLawPlanted.nd rfl (by first | exact Or.inl rfl | exact Or.inr rfl) (pe_lc (own := [("digit", 10)]) (g := gName 10) (by rfl) scLawPlanted.nd (DL.pi_listC (K := K) rfl (pe_slice (DL.sl_listC (K := K) rfl) (pv 4) po_none (po_some (pe_ix (DL.ix_seqC (K := K) rfl) (pv 2) pe_int (fun _ _ => rfl))))) (blkOk_by (own := [("digit", 10)]) (by kernel_rfl)) (fun _ _ _ _ _ => (pg_name (i := 10) scLawPlanted.nd rfl (by first | exact Or.inl rfl | exact Or.inr rfl))) (fun _ _ _ _ _ => pts_nil) (fun _ _ _ _ _ => (pe_ix (DL.ix_seqC (K := K) rfl) (pe_lst (pa_cons pe_int (pa_cons pe_int (pa_cons pe_int (pa_cons (pe_un un_neg pe_int) (pa_cons pe_int (pa_cons pe_int (pa_cons pe_int (pa_cons (pe_un un_neg pe_int) pa_nil))))))))) (pv 10) (fun _ _ => rfl)))))
      (pss_cons (ps_setLc (i := 12) (own := [("i", 7)]) (g := gName 7) (by rfl) scLawPlanted.nd rfl rfl (sw_true rfl rfl rfl (by decide +kernel)) (pi_range1 (by rfl) T.b_range (pa_cons (pe_ix (DL.ix_seqC (K := K) rfl) (pv 2) pe_int (fun _ _ => rfl)) pa_nil)) (blkOk_by (own := [("i", 7)]) (by kernel_rfl)) (fun _ _ _ _ _ => (pg_name (i := 7) scLawPlanted.nd rfl (by first | exact Or.inl rfl | exact Or.inr rfl))) (fun _ _ _ _ _ => pts_nil) (fun _ _ _ _ _ => (pe_lc (own := [("number", 8)]) (g := gName 8) (by rfl) scLawPlanted.nd (DL.pi_listC (K := K) rfl (pe_ix (DL.ix_seqC (K := K) rfl) (pv 6) (pv 7) (fun _ _ => rfl))) (blkOk_by (own := [("number", 8)]) (by kernel_rfl)) (fun _ _ _ _ _ => (pg_name (i := 8) scLawPlanted.nd rfl (by first | exact Or.inl rfl | exact Or.inr rfl))) (fun _ _ _ _ _ => pts_nil) (fun _ _ _ _ _ => (pe_op op_mulW (pe_op op_mulW (pv 8) (pv 5)) (pe_ix (DL.ix_seqC (K := K) rfl) (pv 11) (pv 7) (fun _ _ => rfl)))))))
      (pss_one (ps_ret (pe_lst (pa_cons (pv 12) (pa_cons (pe_lc (own := [("i", 7)]) (g := gName 7) (by rfl) scLawPlanted.nd (pi_range1 (by rfl) T.b_range (pa_cons (pe_ix (DL.ix_seqC (K := K) rfl) (pv 2) pe_int (fun _ _ => rfl)) pa_nil)) (blkOk_by (own := [("i", 7)]) (by kernel_rfl)) (fun _ _ _ _ _ => (pg_name (i := 7) scLawPlanted.nd rfl (by first | exact Or.inl rfl | exact Or.inr rfl))) (fun _ _ _ _ _ => pts_nil) (fun _ _ _ _ _ => (pe_op op_mulW (pe_ix (DL.ix_seqC (K := K) rfl) (pv 11) (pv 7) (fun _ _ => rfl)) (DL.pe_cal c_LawSum (hr.mono (by decide)) (pa_cons (pe_ix (DL.ix_seqC (K := K) rfl) (pv 6) (pv 7) (fun _ _ => rfl)) (pa_cons (pv 9) pa_nil)))))) pa_nil)))))))))))), ?_⟩
  refine sd_fn h (fun _ => Nat.le_of_ble_eq_true rfl) ?_
  try dsimp only [L2.cxOf]
  intro ⟨ns, L, z⟩ hp
  obtain ⟨hH, hz⟩ : HeadOk L ∧ SzOk z := hp
  have a3 : atI (dI L) 3 = some (.int (L.getD 3 0)) := by
    obtain ⟨h0, h1, h2, h3, h4, h5, h6, h7, h8, h9, h10, h11, rfl, _⟩ := hH.ex
    rfl
  have s0 : atI (szD z) 0 = some (.int z.many) := atI_zero
  have s1 : atI (szD z) 1 = some (.int z.width) := atI_one
  have s2 : atI (szD z) 2 = some (.int z.span) := rfl
  have s3 : atI (szD z) 3 = some (.bl z.big) := rfl
  have zm := hz.m
  have zw := hz.w
  generalize hS : szD z = S at s0 s1 s2 s3 ⊢
  show SD K _ [.sh (.rd (dI ns)), .sh (.lst (dI L)), .sh (.lst S), .no, .no, .no, .no, .no, .no, .no, .no, .no, .no] _
  have mo := most_at (x := L.getD 3 0)
  have p1 := po1
  have p2 := po2
  have p3 := po3
  have p4 := po4
  have p5 := po5
  refine sd_then (sd_asg (d := .int (mostM (L.getD 3 0))) (by by_place <;> by_in) ?_)
  have hrv := rowV_len ns z
  have hrl := rowV_lt ns z
  refine sd_then (sd_asgL (ds := dI (rowV ns z)) (el_call (cellM ns 34, List.replicate z.many 8 ++ [8]) (ea_cons (ed_call (ns, 34) (EvA.is (by by_place) (by rfl)) (by show 34 < 1000; decide) rfl)
    (ea_cons (EvD.is (EvL.data (el_op (EvL.data (el_rep (by by_place) (by by_place) (by omega))) (by by_place) (ol_cat (by rw [List.length_map, List.length_replicate, PySem.sizeLine_eq]; show z.many + 1 ≤ _; omega)))) (by rw [dI_append]; rfl)) ea_nil)) ⟨fun s hs => ?_, ?_⟩ rfl) (sd_frz (i := 4) rfl rfl ?_))
  · rcases List.mem_append.mp hs with hs | hs
    · rw [List.eq_of_mem_replicate hs]; decide
    · rw [List.mem_singleton.mp hs]; decide
  · show (List.replicate z.many (8 : Int) ++ [8]).length ≤ 1000
    rw [List.length_append, List.length_replicate]
    show z.many + 1 ≤ 1000
    omega
  show SD K _ [.sh (.rd (dI ns)), .sh (.lst (dI L)), .sh (.lst S), .sh (.int (mostM (L.getD 3 0))), .sh (.lst (dI (rowV ns z))), .no, .no, .no, .no, .no, .no, .no, .no] _
  have v1 : atI (dI (rowV ns z)) (z.many : Int) = some (.int ((rowV ns z).getD z.many 0)) := atI_nat (dI_get (get_getD 0 (by omega)))
  have v2 := hrl _ (M.getD_mem (l := rowV ns z) (i := z.many) 0 (by omega))
  have v3 : atI [.int 1, .int 2, .int 3, .int 1, .int 5, .int 7, .int 1, .int 12] ((rowV ns z).getD z.many 0) = some (DL.D.int (lineM ns z)) := dI_at (ns := lineL) v2.1 (by show _ < 8; omega)
  refine sd_then (sd_asg (d := .int (lineM ns z)) (by by_place <;> by_in) ?_)
  show SD K _ [.sh (.rd (dI ns)), .sh (.lst (dI L)), .sh (.lst S), .sh (.int (mostM (L.getD 3 0))), .sh (.lst (dI (rowV ns z))), .sh (.int (lineM ns z)), .no, .no, .no, .no, .no, .no, .no] _
  have mp := most_pos (L.getD 3 0)
  have ms := most_sm (L.getD 3 0)
  generalize hmo : mostM (L.getD 3 0) = most at mp ms ⊢
  clear mo p1 p2 p3 p4 p5
  have l0 := line_ok ns z
  generalize hli : lineM ns z = line at l0 ⊢
  refine sd_cut (fun ρ => ρ = [.sh (.rd (dI ns)), .sh (.lst (dI L)), .sh (.lst S), .sh (.int most), .sh (.lst (dI (rowV ns z))), .sh (.int line), .ow (dT (base0 ns L z)), .no, .no, .ow (dI (topsM ns z)), .no, .no, .no])
    (sd_if (x := z.big) (by by_place) (fun h => ?_) (fun h => ?_)) (fun ρ hM => ?_)
  · refine sd_then (sd_asgL (ds := []) (el_lst ea_nil (by decide)) ?_)
    show SD K _ [.sh (.rd (dI ns)), .sh (.lst (dI L)), .sh (.lst S), .sh (.int most), .sh (.lst (dI (rowV ns z))), .sh (.int line), .ow [], .no, .no, .no, .no, .no, .no] _
    let G : Nat → List Int := fun i => (longM (cellM ns (1 + i)) z.width most).map fun x => x - most / 2
    refine sd_cut (fun ρ => ρ = [.sh (.rd (dI ns)), .sh (.lst (dI L)), .sh (.lst S), .sh (.int most), .sh (.lst (dI (rowV ns z))), .sh (.int line), .ow (dT (base0 ns L z)), .no, .no, .no, .no, .no, .no])
      (sd_forRn [7, 8] (z := (z.many : Int)) (by by_place) (by omega) (fun m ρ => ρ = [.sh (.rd (dI ns)), .sh (.lst (dI L)), .sh (.lst S), .sh (.int most), .sh (.lst (dI (rowV ns z))), .sh (.int line), .ow (dT ((List.range m).map G)), .no, .no, .no, .no, .no, .no]) rfl (fun m ρ hm hI => ?_) (fun ρ hI => ?_)) (fun ρ hM => ?_)
    · subst hI
      refine ⟨rfl, ?_⟩
      show SD K _ [.sh (.rd (dI ns)), .sh (.lst (dI L)), .sh (.lst S), .sh (.int most), .sh (.lst (dI (rowV ns z))), .sh (.int line), .ow (dT ((List.range m).map G)), .sh (.int m), .no, .no, .no, .no, .no] _
      refine sd_app (i := 6) (d := .lst (dI (G m))) rfl (EvL.data (el_mapI (i := 8) (fun x => x - most / 2) (EvL.data (el_call (cellM ns (1 + m), z.width, most) (ea_cons (ed_call (ns, 1 + m) (EvA.is (by by_place) (by show _ = [DL.D.rd (dI ns), DL.D.int ((1 + m : Nat) : Int)]; rw [Int.natCast_add]; rfl)) (by show 1 + m < 1000; omega) rfl) (by by_place)) ⟨mp, ms, by show z.width ≤ 1000; omega⟩ rfl)) (by decide) (by rw [longM_len]; omega) fun x hx => by by_place <;> by_in)) (by rw [dT_len, List.length_map, List.length_range, PySem.sizeLine_eq]; omega) ?_
      show [_, _, _, _, _, _, _, _, _, _, _, _, _] = _
      unfold dT
      rw [List.range_succ, List.map_append, List.map_append]
      rfl
    · subst hI
      rw [Int.toNat_natCast, show base0 ns L z = (List.range z.many).map G by unfold base0; rw [h, hmo]; rfl]
    · subst hM
      refine sd_asgL (ds := dI (topsM ns z)) (EvL.is (el_mapI (i := 8) (fun x => x - 999) (EvL.data (el_call (cellM ns 31, z.width, 1999) (ea_cons (ed_call (ns, 31) (EvA.is (by by_place) (by rfl)) (by show 31 < 1000; decide) rfl) (by by_place)) ⟨by show (0 : Int) < 1999; decide, (show Sm 11 1999 by unfold Sm; decide).mono (by decide), by show z.width ≤ 1000; omega⟩ rfl)) (by decide) (by show List.length (longM _ z.width _) ≤ _; rw [longM_len]; omega) fun x hx => by by_place) ?_) rfl
      unfold topsM
      rw [h]
      rfl
  · have zn := hz.not h
    refine sd_then (sd_asgL (ds := dT (base0 ns L z)) (EvL.is (el_call (ns, z.many, z.width, z.span) (by by_place) ⟨by show z.many ≤ 100; omega, by show z.width ≤ 100; omega, by show 0 < z.span; omega, by show z.span ≤ 100; omega⟩ rfl) (by unfold base0; rw [h]; rfl)) ?_)
    show SD K _ [.sh (.rd (dI ns)), .sh (.lst (dI L)), .sh (.lst S), .sh (.int most), .sh (.lst (dI (rowV ns z))), .sh (.int line), .ow (dT (base0 ns L z)), .no, .no, .no, .no, .no, .no] _
    refine sd_asgL (ds := dI (topsM ns z)) (EvL.is (el_mapI (i := 10) (fun x => x - 5) (EvL.data (el_call (cellM ns 31, List.replicate z.width 11) (ea_cons (ed_call (ns, 31) (EvA.is (by by_place) (by rfl)) (by show 31 < 1000; decide) rfl) (ea_cons (EvL.data (el_rep (by by_place) (by by_place) (by omega))) ea_nil)) (digs_pre (by decide) (by decide) (by omega)) rfl)) (by decide) (by rw [digitsM_len, List.length_replicate]; omega) fun x hx => by by_place) ?_) rfl
    unfold topsM
    rw [h]
    rfl
  · subst hM
    refine sd_frz (i := 6) rfl rfl (sd_frz (i := 9) rfl rfl ?_)
    show SD K _ [.sh (.rd (dI ns)), .sh (.lst (dI L)), .sh (.lst S), .sh (.int most), .sh (.lst (dI (rowV ns z))), .sh (.int line), .sh (.lst (dT (base0 ns L z))), .no, .no, .sh (.lst (dI (topsM ns z))), .no, .no, .no] _
    have t0 := base0_tab ns L hz
    have b0 := base0_bd ns L hz
    have bl := b0_le z
    have bsm : ∀ k : Nat, k ≤ 2 ^ 90 → mx0 * k < 2 ^ 1400 := fun k hk => Nat.lt_of_le_of_lt (Nat.mul_le_mul_left _ hk) (by decide +kernel)
    have toSm : ∀ (x : Int) (k : Nat), Bd (B0 z * k) x → k ≤ 2 ^ 90 → Sm 1400 x := fun x k hx hk => Nat.lt_of_le_of_lt (Nat.le_trans hx (Nat.mul_le_mul_right _ bl)) (bsm k hk)
    refine sd_then (sd_asg (d := .lst (dT (baseM ns L z))) (ed_call (z.width, base0 ns L z, L) (by by_place) ⟨by rw [t0.n]; exact t0, by rw [t0.n]; omega, zw, hH, fun r hr x hx => (toSm x 1 (by rw [Nat.mul_one]; exact b0 r hr x hx) (by decide)).mono (by decide)⟩ rfl) ?_)
    obtain ⟨tb, bb⟩ := base_tab ns hz hH
    have bb : ∀ r ∈ baseM ns L z, ∀ x ∈ r, Sm 1400 x := fun r hr x hx => toSm x 4 (by have := bb r hr x hx; rw [Nat.mul_assoc] at this; exact this) (by decide)
    show SD K _ [.sh (.rd (dI ns)), .sh (.lst (dI L)), .sh (.lst S), .sh (.int most), .sh (.lst (dI (rowV ns z))), .sh (.int line), .sh (.lst (dT (baseM ns L z))), .no, .no, .sh (.lst (dI (topsM ns z))), .no, .no, .no] _
    refine sd_then (sd_asgL (ds := dI (factorsM ns z)) (el_pick (i := 10) (menu := facL) (by decide) (EvL.data (EvL.is (el_sl (ds := dI (rowV ns z)) (by by_place) (.inl rfl) eo_none (eo_some (i := (z.many : Int)) (by by_place))) (by rw [cut_take _ _ (by rw [List.length_map]; omega)]; unfold dI; rw [List.map_take])))
      (by decide) (by rw [List.length_take]; omega) (fun d hd => hrl d (List.mem_of_mem_take hd)) (fun x hx => by
        have hx' : atI [.int 1, .int 1, .int 2, .int (-1), .int 3, .int 1, .int 5, .int (-1)] x = some (DL.D.int (facL.getD x.toNat 0)) := hx
        by_place)) (sd_frz (i := 11) rfl rfl ?_))
    have fl := factors_len ns z
    have fo := factors_ok ns z
    show SD K _ [.sh (.rd (dI ns)), .sh (.lst (dI L)), .sh (.lst S), .sh (.int most), .sh (.lst (dI (rowV ns z))), .sh (.int line), .sh (.lst (dT (baseM ns L z))), .no, .no, .sh (.lst (dI (topsM ns z))), .no, .sh (.lst (dI (factorsM ns z))), .no] _
    have lsm : Sm 64 line := by unfold Sm; omega
    refine sd_then (sd_asgL (ds := dT (tableM ns L z)) (EvL.is (el_rangeL (i := 7) (n := z.many) (fun i => ((baseM ns L z).getD i []).map fun x => x * line * (factorsM ns z).getD i 0) (by by_place) (by decide) (by omega) fun j hj => ?_) (by unfold tableM; rw [hli])) (sd_frz (i := 12) rfl rfl ?_))
    · have g1 := dT_get (get_getD (l := baseM ns L z) (i := j) [] (by rw [tb.n]; exact hj))
      have g2 := dI_get (get_getD (l := factorsM ns z) (i := j) 0 (by omega))
      have fj := fo _ (M.getD_mem (l := factorsM ns z) (i := j) 0 (by omega))
      have fsm : Sm 64 ((factorsM ns z).getD j 0) := by unfold Sm; omega
      refine el_mapI (i := 8) _ (by by_place) (by decide) (by rw [tb.row hj]; omega) fun x hx => ?_
      have xs := bb _ (M.getD_mem [] (by rw [tb.n]; exact hj)) x hx
      have c1 : CMulW x line := xs.mulW lsm (by decide)
      have c2 : CMulW (x * line) ((factorsM ns z).getD j 0) := (xs.mul lsm).mulW fsm (by decide)
      by_place <;> by_in
    · show SD K _ [.sh (.rd (dI ns)), .sh (.lst (dI L)), .sh (.lst S), .sh (.int most), .sh (.lst (dI (rowV ns z))), .sh (.int line), .sh (.lst (dT (baseM ns L z))), .no, .no, .sh (.lst (dI (topsM ns z))), .no, .sh (.lst (dI (factorsM ns z))), .sh (.lst (dT (tableM ns L z)))] _
      refine sd_retL (el_lst (ea_cons (by by_place) (ea_cons (EvL.data (el_rangeI (i := 7) (n := z.many) (fun i => (factorsM ns z).getD i 0 * dotL ((baseM ns L z).getD i []) (topsM ns z)) (by by_place) (by decide) (by omega) fun j hj => ?_)) ea_nil)) (Nat.le_of_ble_eq_true rfl)) rfl
      have g1 := dT_get (get_getD (l := baseM ns L z) (i := j) [] (by rw [tb.n]; exact hj))
      have g2 := dI_get (get_getD (l := factorsM ns z) (i := j) 0 (by omega))
      have fj := fo _ (M.getD_mem (l := factorsM ns z) (i := j) 0 (by omega))
      have fsm : Sm 64 ((factorsM ns z).getD j 0) := by unfold Sm; omega
      have tl := tops_len ns z
      have rl : ((baseM ns L z).getD j []).length = z.width := tb.row hj
      have bj := bb _ (M.getD_mem [] (by rw [tb.n]; exact hj))
      have dsm : Sm 3000 (dotL ((baseM ns L z).getD j []) (topsM ns z)) := by
        have d := dot_bd (A := 2 ^ 1400) (B := 999) (xs := (baseM ns L z).getD j []) (ys := topsM ns z) (by omega) (fun x hx => Nat.le_of_lt (bj x hx)) (tops_bd ns z)
        refine d.sm (Nat.lt_of_le_of_lt (Nat.mul_le_mul_right _ (show _ ≤ 30 by omega)) ?_)
        decide +kernel
      refine ed_op (by by_place) (ed_call (false, false, (baseM ns L z).getD j [], topsM ns z) (EvA.is (by by_place) (by rfl)) ⟨?_, ?_, fun x hx => (bj x hx).mono (by decide), fun x hx => (tops_bd ns z x hx).smL 10 (by decide) (by decide)⟩ rfl) (od_I (fsm.mulW dsm (by decide)))
      · show ((baseM ns L z).getD j []).length ≤ (topsM ns z).length
        omega
      · show ((baseM ns L z).getD j []).length ≤ 10000
        omega
theorem scLawRight : FnScope ["table", "right", "barred", "told", "tops", "i", "bar", "number"] ["table", "right", "barred", "told"] (defScope sLawRight) := ⟨rfl, rfl, rfl, by decide +kernel, rfl, by decide +kernel, by decide +kernel⟩
theorem okLawRight (T : Txt K mg) (c_LawIsRow : Cal P w K mg base 3 "_law_is_row" ["value", "size"] (spLawIsRow K)) (c_LawSum : Cal P w K mg base 1 "_law_sum" ["parts", "tops"] (spLawSum K)) (c_LawWhole : Cal P w K mg base 1 "_law_whole" ["value"] (spLawWhole K)) (c_LawMixed : Cal P w K mg base 1 "_law_mixed" ["rows", "factors"] (spLawMixed K)) : Cal P w K mg base 4 "_law_right" ["table", "right", "barred", "told"] (spLawRight K) := by
  refine cal_mk T.f_LawRight T.g_LawRight scLawRight (fun vs H Q E h => spT_len (n := 4) (fun _ => rfl) h) (fun _ _ _ _ _ _ us hl => match us, hl with | [_, _, _, _], _ => rfl) (fun cdv A outer s H vs Q E hr h => ?_)
  refine ⟨_, (pss_cons (ps_if (pt_not (pt_val (pe_callB (DL.call_isiC (K := K) rfl) (by rfl) T.b_isinstance (by decide +kernel) (pa_cons (pv 3) (pa_cons (pe_glob (v := .ref (He.ga K "Solution")) (by rfl) T.g_Solution rfl) pa_nil)))))
      (pss_one (ps_ret pe_bl))
      pss_nil)
      (pss_cons (ps_if (pt_not (pt_val (pv 2)))
      (pss_cons (ps_if (PW.pt (pw_or (pt_cmpR op_notN (DL.pe_fldC (K := K) rfl (pv 3) rfl) pe_non (nomark _)) (pw_or1 (pt_not (pt_val (DL.pe_cal c_LawIsRow (hr.mono (by decide)) (pa_cons (DL.pe_fldC (K := K) rfl (pv 3) rfl) (pa_cons (pe_callB (DL.call_len_seqC (K := K) rfl) (by rfl) T.b_len (by decide +kernel) (pa_cons (pe_ix (DL.ix_seqC (K := K) rfl) (pv 0) pe_int (fun _ _ => rfl)) pa_nil)) pa_nil))))))))
      (pss_one (ps_ret pe_bl))
      pss_nil)
      (pss_cons (ps_set (i := 4) scLawRight.nd rfl (by first | exact Or.inl rfl | exact Or.inr rfl) (pe_ix (DL.ix_seqC (K := K) rfl) (DL.pe_fldC (K := K) rfl (pv 3) rfl) pe_int (fun _ _ => rfl)))
      (pss_one (ps_ret (pe_cmpR op_eq (pe_callB (DL.call_len_seqC (K := K) rfl) (by rfl) T.b_len (by decide +kernel) (pa_cons (pe_lc (own := [("i", 5)]) (g := gName 5) (by rfl) scLawRight.nd (pi_range1 (by rfl) T.b_range (pa_cons (pe_callB (DL.call_len_seqC (K := K) rfl) (by rfl) T.b_len (by decide +kernel) (pa_cons (pv 0) pa_nil)) pa_nil)) (blkOk_by (own := [("i", 5)]) (by kernel_rfl)) (fun _ _ _ _ _ => (pg_name (i := 5) scLawRight.nd rfl (by first | exact Or.inl rfl | exact Or.inr rfl))) (fun _ _ _ _ _ => (pts_one (pt_cmpR op_ne (DL.pe_cal c_LawSum (hr.mono (by decide)) (pa_cons (pe_ix (DL.ix_seqC (K := K) rfl) (pv 0) (pv 5) (fun _ _ => rfl)) (pa_cons (pv 4) pa_nil))) (pe_op op_mulW (pe_ix (DL.ix_seqC (K := K) rfl) (pv 1) (pv 5) (fun _ _ => rfl)) (pe_ix (DL.ix_seqC (K := K) rfl) (DL.pe_fldC (K := K) rfl (pv 3) rfl) pe_int (fun _ _ => rfl))) (nomark _)))) (fun _ _ _ _ _ => (pv 5))) pa_nil)) pe_int (nomark _))))))
      pss_nil)
      (pss_cons (ps_set (i := 6) scLawRight.nd rfl (by first | exact Or.inl rfl | exact Or.inr rfl) (DL.pe_fldC (K := K) rfl (pv 3) rfl))
      (pss_cons (ps_if (PW.pt (pw_or (pt_cmpR op_notN (DL.pe_fldC (K := K) rfl (pv 3) rfl) pe_non (nomark _)) (pw_or (pt_not (pt_val (pe_callB (DL.call_isiC (K := K) rfl) (by rfl) T.b_isinstance (by decide +kernel) (pa_cons (pv 6) (pa_cons (pe_bltn (v := .ty "tuple") (by rfl) T.b_tuple (by decide +kernel) rfl) pa_nil))))) (pw_or1 (pt_cmpR op_ne (pe_callB (DL.call_len_seqC (K := K) rfl) (by rfl) T.b_len (by decide +kernel) (pa_cons (pv 6) pa_nil)) (pe_callB (DL.call_len_seqC (K := K) rfl) (by rfl) T.b_len (by decide +kernel) (pa_cons (pv 0) pa_nil)) (nomark _))))))
      (pss_one (ps_ret pe_bl))
      pss_nil)
      (pss_cons (ps_if (pt_cmpR op_gt (pe_callB (DL.call_len_seqC (K := K) rfl) (by rfl) T.b_len (by decide +kernel) (pa_cons (pe_lc (own := [("number", 7)]) (g := gName 7) (by rfl) scLawRight.nd (DL.pi_tupC (K := K) rfl (pv 6)) (blkOk_by (own := [("number", 7)]) (by kernel_rfl)) (fun _ _ _ _ _ => (pg_name (i := 7) scLawRight.nd rfl (by first | exact Or.inl rfl | exact Or.inr rfl))) (fun _ _ _ _ _ => (pts_one (pt_not (pt_val (DL.pe_cal c_LawWhole (hr.mono (by decide)) (pa_cons (pv 7) pa_nil)))))) (fun _ _ _ _ _ => (pv 7))) pa_nil)) pe_int (nomark _))
      (pss_one (ps_ret pe_bl))
      pss_nil)
      (pss_one (ps_ret (pe_and (pe_cmpR op_eq (pe_callB (DL.call_len_seqC (K := K) rfl) (by rfl) T.b_len (by decide +kernel) (pa_cons (pe_lc (own := [("number", 7)]) (g := gName 7) (by rfl) scLawRight.nd (DL.pi_listC (K := K) rfl (DL.pe_cal c_LawMixed (hr.mono (by decide)) (pa_cons (pv 0) (pa_cons (pv 6) pa_nil)))) (blkOk_by (own := [("number", 7)]) (by kernel_rfl)) (fun _ _ _ _ _ => (pg_name (i := 7) scLawRight.nd rfl (by first | exact Or.inl rfl | exact Or.inr rfl))) (fun _ _ _ _ _ => (pts_one (pt_cmpR op_ne (pv 7) pe_int (nomark _)))) (fun _ _ _ _ _ => (pv 7))) pa_nil)) pe_int (nomark _)) (pe_one (pe_cmpR op_gt (DL.pe_cal c_LawSum (hr.mono (by decide)) (pa_cons (pv 6) (pa_cons (pv 1) pa_nil))) pe_int (nomark _))))))))))), ?_⟩
  refine sd_fn h (fun _ => Nat.le_of_ble_eq_true rfl) ?_
  try dsimp only [L2.cxOf]
  intro ⟨R, right, width, sol⟩ hp
  obtain ⟨hT, hn, hw, hr, bt, br, ok⟩ : RightOk R right width sol := hp
  have hd0 : (R.headD []).length = width := hT.head (by omega)
  have g0 : atI (dT R) 0 = some (.lst (dI (R.headD []))) := by
    cases R with
    | nil => exact absurd hn.1 (by simp)
    | cons r rs => exact atI_zero
  show SD K _ [.sh (.lst (dT R)), .sh (.lst (dI right)), .sh (.bl (dueS sol)), .sh (solD K sol), .no, .no, .no, .no] { nx := _, rt := fun r => r = .sh (.bl true) }
  have cl := T.cl_Solution
  have n1 := T.na_Solution_point
  have n2 := T.na_Solution_bar
  have ic := T.ic_Solution
  have zn : ∀ m : Nat, m < 10000 → m < sizeLine := fun m h => by rw [PySem.sizeLine_eq]; omega
  cases sol with
  | pt t l =>
    obtain ⟨b1, b2, b3, b4⟩ := ok
    have hl := row_sm b3
    show SD K _ [.sh (.lst (dT R)), .sh (.lst (dI right)), .sh (.bl false), .sh (.ins (He.ga K "Solution") ["point", "bar"] [.tup [.tup (dI t), .int l], .non]), .no, .no, .no, .no] _
    generalize He.ga K "Solution" = C at cl n1 n2 ic
    refine sd_then (sd_if (x := false) (EvT.is (et_not (x := true) (et_B (ed_isiI (C := C) (by by_place) ic))) (by rfl)) (fun h => by cases h) (fun h => sd_next ?_))
    show SD K _ [.sh (.lst (dT R)), .sh (.lst (dI right)), .sh (.bl false), .sh (.ins C ["point", "bar"] [.tup [.tup (dI t), .int l], .non]), .no, .no, .no, .no] _
    refine sd_then (sd_if (x := true) (EvT.is (et_not (x := false) (et_B (by by_place))) (by rfl)) (fun _ => ?_) (fun h => by cases h))
    refine sd_then (sd_if (x := false) (et_orF (EvT.is (by by_place) (by rfl)) (EvT.is (et_not (x := true) (et_B (ed_call (t, l, (width : Int)) (EvA.is (by by_place) (by rw [List.length_map, hd0])) ⟨fun x hx => (b1 x hx).mono (by decide), b2.mono (by decide), by show t.length ≤ 10000; omega⟩ ?_))) (by rfl))) (fun h => by cases h) (fun h => sd_next ?_))
    · show Ret.sh (.bl (isRowM t l width)) = _
      rw [b3]
    refine sd_then (sd_asg (d := .tup (dI t)) (by by_place) ?_)
    show SD K _ [.sh (.lst (dT R)), .sh (.lst (dI right)), .sh (.bl false), .sh (.ins C ["point", "bar"] [.tup [.tup (dI t), .int l], .non]), .sh (.tup (dI t)), .no, .no, .no] _
    refine sd_ret (d := .bl true) (EvD.is (ed_op (a := .int 0) (EvD.is (ed_cb (ea_cons (EvL.data (el_noneR (i := 5) (n := R.length) (EvA.is (by by_place) (by rw [dT_len])) (by decide) (by omega) fun j hj => ?_)) ea_nil) (cd_len (ds := []) rfl)) (by rfl)) (by by_place) (by by_place)) (by rfl)) rfl
    have g1 := dT_get (get_getD (l := R) (i := j) [] hj)
    have g2 := dI_get (get_getD (l := right) (i := j) 0 (by omega))
    have rl := hT.row hj
    have c : CMulW (right.getD j 0) l := (br _ (M.getD_mem 0 (by omega))).mulW b2 (by decide)
    refine EvT.is (et_test (ed_op (a := .int (dotL (R.getD j []) t)) (ed_call (false, true, R.getD j [], t) (EvA.is (by by_place) (by rfl)) ⟨?_, ?_, fun x hx => (bt _ (M.getD_mem [] hj) x hx).mono (by decide), fun x hx => (b1 x hx).mono (by decide)⟩ rfl) (by by_place <;> by_in) (by by_place))) ?_
    · show (R.getD j []).length ≤ t.length
      omega
    · show (R.getD j []).length ≤ 10000
      omega
    · rw [b4 j hj, decide_eq_true rfl]
      rfl
  | bar b =>
    obtain ⟨b1, b2, b3, b4⟩ := ok
    show SD K _ [.sh (.lst (dT R)), .sh (.lst (dI right)), .sh (.bl true), .sh (.ins (He.ga K "Solution") ["point", "bar"] [.non, .tup (dI b)]), .no, .no, .no, .no] _
    generalize He.ga K "Solution" = C at cl n1 n2 ic
    refine sd_then (sd_if (x := false) (EvT.is (et_not (x := true) (et_B (ed_isiI (C := C) (by by_place) ic))) (by rfl)) (fun h => by cases h) (fun h => sd_next ?_))
    show SD K _ [.sh (.lst (dT R)), .sh (.lst (dI right)), .sh (.bl true), .sh (.ins C ["point", "bar"] [.non, .tup (dI b)]), .no, .no, .no, .no] _
    refine sd_then (sd_if (x := false) (EvT.is (et_not (x := true) (et_B (by by_place))) (by rfl)) (fun h => by cases h) (fun _ => sd_next ?_))
    show SD K _ [.sh (.lst (dT R)), .sh (.lst (dI right)), .sh (.bl true), .sh (.ins C ["point", "bar"] [.non, .tup (dI b)]), .no, .no, .no, .no] _
    refine sd_then (sd_asg (d := .tup (dI b)) (by by_place) ?_)
    show SD K _ [.sh (.lst (dT R)), .sh (.lst (dI right)), .sh (.bl true), .sh (.ins C ["point", "bar"] [.non, .tup (dI b)]), .no, .no, .sh (.tup (dI b)), .no] _
    refine sd_then (sd_if (x := false) (et_orF (EvT.is (by by_place) (by rfl)) (et_orF (EvT.is (by by_place) (by rfl)) (EvT.is (by by_place) (by rw [List.length_map, dT_len, b2, decide_eq_true rfl]; rfl)))) (fun h => by cases h) (fun h => sd_next ?_))
    show SD K _ [.sh (.lst (dT R)), .sh (.lst (dI right)), .sh (.bl true), .sh (.ins C ["point", "bar"] [.non, .tup (dI b)]), .no, .no, .sh (.tup (dI b)), .no] _
    refine sd_then (sd_if (x := false) (EvT.is (et_test (ed_op (a := .int 0) (EvD.is (ed_cb (ea_cons (EvL.data (el_noneT (i := 7) (ds := b) (by by_place) (by decide) (by omega) fun x hx => EvT.is (et_not (x := true) (et_B (ed_call x (by by_place) trivial rfl))) (by rfl))) ea_nil) (cd_len (ds := []) rfl)) (by rfl)) (by by_place) (by by_place))) (by rfl)) (fun h => by cases h) (fun h => sd_next ?_))
    show SD K _ [.sh (.lst (dT R)), .sh (.lst (dI right)), .sh (.bl true), .sh (.ins C ["point", "bar"] [.non, .tup (dI b)]), .no, .no, .sh (.tup (dI b)), .no] _
    have ml : (mixedM R b).length = width := mixedM_len hT (by omega)
    refine sd_ret (d := .bl true) (EvD.is (ed_andV (x := true) (y := true) (EvD.is (ed_op (a := .int 0) (EvD.is (ed_cb (ea_cons (EvL.data (el_none (i := 7) (ds := mixedM R b) (EvL.data (el_call (true, R, b) (EvA.is (by by_place) (by rfl)) ?_ rfl)) (by decide) (by omega) fun x hx => ?_)) ea_nil) (cd_len (ds := []) rfl)) (by rfl)) (by by_place) (by by_place)) (by rfl))
      fun _ => EvD.is (ed_op (a := .int (dotL b right)) (ed_call (true, false, b, right) (EvA.is (by by_place) (by rfl)) ⟨by show b.length ≤ right.length; omega, by show b.length ≤ 10000; omega, fun x hx => (b1 x hx).mono (by decide), fun x hx => (br x hx).mono (by decide)⟩ rfl) (by by_place) (by by_place)) ?_) (by rfl)) rfl
    · refine ⟨fun z => ?_, fun r hr => by rw [hd0]; exact hT.w r hr, by show R.length ≤ b.length; omega, by show R.length ≤ 10000; omega, by show (R.headD []).length ≤ 10000; omega, fun r hr x hx => (bt r hr x hx).mono (by decide), fun x hx => (b1 x hx).mono (by decide)⟩
      rw [show R = [] from z] at hn
      exact absurd hn.1 (by simp)
    · refine EvT.is (by by_place) (y := false) ?_
      rw [b3 x hx]
      rfl
    · rw [decide_eq_true b4]
end
end K02

set_option Elab.async false
set_option linter.all false
set_option maxRecDepth 100000
set_option maxHeartbeats 4000000
set_option exponentiation.threshold 5000
namespace LS
open PySem PySem.Spec PyProof.Rows L2 DL M
local macro_rules | `(tactic| by_item) => `(tactic| with_reducible first
  | exact DL.ed_var (by with_unfolding_all rfl) | exact DL.ed_int | exact DL.ed_bl | exact DL.ed_non | exact DL.ed_str | exact DL.ea_nil | exact DL.et_yes
  | apply DL.ea_cons | apply DL.ed_op | apply DL.ed_un | apply DL.ed_lst | apply DL.ed_fld | (show L2.Cls _ _; with_reducible assumption) | (show L2.NoAttr _ _ _; with_reducible assumption) | (show List.lookup _ _ = _; with_unfolding_all rfl) | (show List.length _ ≤ PySem.sizeLine; exact Nat.le_of_ble_eq_true (by with_unfolding_all rfl)) | apply DL.ed_isi | apply DL.ed_cb
  | exact DL.od_I0 | exact DL.od_B0 | exact DL.od_eqI | exact DL.od_neI | exact DL.od_eqS | exact DL.od_isN | exact DL.od_notN | (apply DL.od_divX) | apply DL.od_I | apply DL.od_ix | exact DL.ud_I
  | apply DL.cd_len | exact DL.cd_int | exact DL.cd_intB | exact DL.cd_1 | exact DL.cd_gcd | apply DL.cd_lcmX | exact DL.cd_min3 | exact DL.cd_2
  | apply DL.et_test | apply DL.et_B | apply DL.et_not | apply DL.ed_notV
  | (show DL.tyB _ = _; with_unfolding_all rfl) | (show DL.itemsOf _ = _; with_unfolding_all rfl) | exact DL.seqD_items | (show L2.atI _ _ = _; with_reducible assumption) | (show L2.atI _ _ = _; exact L2.atI_nat (by with_reducible assumption)) | exact DL.atI_zero | exact DL.atI_one | (show L2.atI _ _ = _; with_unfolding_all rfl) | (show L2.kitB _ _ = _; first | exact DL.kb_NoneType_int | exact DL.kb_NoneType_bool | exact DL.kb_NoneType_tuple | exact DL.kb_NoneType_list | exact DL.kb_NoneType_str | exact DL.kb_NoneType_dict | exact DL.kb_bool_int | exact DL.kb_bool_bool | exact DL.kb_bool_tuple | exact DL.kb_bool_list | exact DL.kb_bool_str | exact DL.kb_bool_dict | exact DL.kb_int_int | exact DL.kb_int_bool | exact DL.kb_int_tuple | exact DL.kb_int_list | exact DL.kb_int_str | exact DL.kb_int_dict | exact DL.kb_str_int | exact DL.kb_str_bool | exact DL.kb_str_tuple | exact DL.kb_str_list | exact DL.kb_str_str | exact DL.kb_str_dict | exact DL.kb_list_int | exact DL.kb_list_bool | exact DL.kb_list_tuple | exact DL.kb_list_list | exact DL.kb_list_str | exact DL.kb_list_dict | exact DL.kb_tuple_int | exact DL.kb_tuple_bool | exact DL.kb_tuple_tuple | exact DL.kb_tuple_list | exact DL.kb_tuple_str | exact DL.kb_tuple_dict | exact DL.kb_dict_int | exact DL.kb_dict_bool | exact DL.kb_dict_tuple | exact DL.kb_dict_list | exact DL.kb_dict_str | exact DL.kb_dict_dict))
local macro_rules | `(tactic| by_place) => `(tactic| (repeat' by_item))
local macro_rules | `(tactic| by_in) => `(tactic| first | (with_reducible assumption) | (with_reducible exact DL.seqD_items) | (show (0 : Int) < _; omega) | (show (0 : Int) < _; decide +kernel) | exact M.mulS (by omega) (by omega) | exact M.mulP (by omega) (by omega) (by omega) | exact M.divS (by omega) (by omega) | exact ⟨by decide, by decide, by decide⟩ | exact ⟨by decide, by decide, by omega⟩ | exact L2.atI_nat (by assumption) | (show L2.atI _ _ = _; rfl))
section
variable {K : PySem.W.Frag}
theorem get_tT {rows : List (List Int)} {m : Nat} {d : DL.D} (h : (tT rows)[m]? = some d) : ∃ r, rows[m]? = some r ∧ d = .tup (dI r) := by
  unfold tT at h
  rw [List.getElem?_map] at h
  cases e : rows[m]? with
  | none => rw [e] at h; cases h
  | some x => rw [e] at h; cases h; exact ⟨x, rfl, rfl⟩
theorem tT_len {rows : List (List Int)} : (tT rows).length = rows.length := List.length_map _
theorem noL_tT (rows : List (List Int)) : noL (.tup (tT rows)) = true := by
  show noLs (tT rows) = true
  induction rows with
  | nil => rfl
  | cons r rs ih =>
    show (noL (.tup (dI r)) && noLs (tT rs)) = true
    rw [ih, Bool.and_true]
    exact noLs_dI r
/-- [tuple(mine) for mine in table] -/
theorem el_tups {η : DL.Env} {tl te : TE} {i : Nat} {vs : List Nat} {rows : List (List Int)} (h : EvD K tl η (.lst (dT rows))) (hi : i ∈ vs) (hz : rows.length ≤ 10000)
    (he : ∀ r ∈ rows, EvD K te ((wipeE η vs).set i (some (.lst (dI r)))) (.tup (dI r))) : EvL K (tLc (iList K tl) (gName i) tYes te vs) η (tT rows) := by
  refine EvL.is (el_lcL (ds := dT rows) (fun _ => true) (fun j => .tup (dI (rows.getD j []))) h (.inl rfl) (by rw [dT_len]; omega) fun j d hd => ?_) ?_
  · obtain ⟨r, hr, rfl⟩ := get_dT hd
    refine ⟨_, tg_name hi, et_yes, fun _ => EvD.is (he r (List.mem_of_getElem? hr)) ?_⟩
    rw [getD_get hr]
  · rw [given_all, dT_len]
    exact range_gen (fun r => DL.D.tup (dI r)) rows _ fun j r hr => by rw [getD_get hr]
/-- [list(one) for one in told], a tuple of tuples -/
theorem el_lists {η : DL.Env} {tl te : TE} {i : Nat} {vs : List Nat} {rows : List (List Int)} (h : EvD K tl η (.tup (tT rows))) (hi : i ∈ vs) (hz : rows.length ≤ 10000)
    (he : ∀ r ∈ rows, EvL K te ((wipeE η vs).set i (some (.tup (dI r)))) (dI r)) : EvL K (tLc (iTup K tl) (gName i) tYes te vs) η (dT rows) := by
  refine EvL.is (el_lcT (ds := tT rows) (fun _ => true) (fun j => .lst (dI (rows.getD j []))) h (by rw [tT_len]; omega) fun j d hd => ?_) ?_
  · obtain ⟨r, hr, rfl⟩ := get_tT hd
    refine ⟨_, tg_name hi, et_yes, fun _ => EvD.is (he r (List.mem_of_getElem? hr)).data ?_⟩
    rw [getD_get hr]
  · rw [given_all, tT_len]
    exact range_gen (fun r => DL.D.lst (dI r)) rows _ fun j r hr => by rw [getD_get hr]
/-- no row is given -/
theorem el_noneRows {η : DL.Env} {tl te : TE} {tt : TT} {i : Nat} {vs : List Nat} {rows : List (List Int)} (h : EvD K tl η (.lst (dT rows))) (hi : i ∈ vs) (hz : rows.length ≤ 10000)
    (he : ∀ r ∈ rows, EvT K tt ((wipeE η vs).set i (some (.lst (dI r)))) false) : EvL K (tLc (iList K tl) (gName i) tt te vs) η [] := by
  refine EvL.is (el_lcL (ds := dT rows) (fun _ => false) (fun _ => .non) h (.inl rfl) (by rw [dT_len]; omega) fun j d hd' => ?_) (by unfold given; simp)
  obtain ⟨x, hx, rfl⟩ := get_dT hd'
  exact ⟨_, tg_name hi, he x (List.mem_of_getElem? hx), fun z => by cases z⟩
theorem el_noneTups {η : DL.Env} {tl te : TE} {tt : TT} {i : Nat} {vs : List Nat} {rows : List (List Int)} (h : EvD K tl η (.tup (tT rows))) (hi : i ∈ vs) (hz : rows.length ≤ 10000)
    (he : ∀ r ∈ rows, EvT K tt ((wipeE η vs).set i (some (.tup (dI r)))) false) : EvL K (tLc (iTup K tl) (gName i) tt te vs) η [] := by
  refine EvL.is (el_lcT (ds := tT rows) (fun _ => false) (fun _ => .non) h (by rw [tT_len]; omega) fun j d hd' => ?_) (by unfold given; simp)
  obtain ⟨x, hx, rfl⟩ := get_tT hd'
  exact ⟨_, tg_name hi, he x (List.mem_of_getElem? hx), fun z => by cases z⟩
/-! _law_is_basis -/
structure IsOk (n w : Nat) (B T : List (List Int)) (sp : Int) : Prop where
  l : (B.length : Int) = w - sp
  tb : Tab B.length w B
  tt : Tab n w T
  n1 : n ≤ 1000
  b1 : B.length ≤ 1000
  w1 : w ≤ 1000
  bb : ∀ r ∈ B, ∀ x ∈ r, Sm 400000 x
  bt : ∀ r ∈ T, ∀ x ∈ r, Sm 400000 x
  z : ∀ m ∈ T, ∀ b ∈ B, dotL m b = 0
  pr : PreRank B.length w B
  rk : ((rankTo B w).q : Int) = w - sp
def spLawIsBasis (K : PySem.W.Frag) : Sp := spT K (α := Nat × Nat × List (List Int) × List (List Int) × Int) (fun a => [.tup (tT a.2.2.1), .lst (dT a.2.2.2.1), .int a.2.1, .int a.2.2.2.2]) (fun a => IsOk a.1 a.2.1 a.2.2.1 a.2.2.2.1 a.2.2.2.2) (fun _ => .sh (.bl true))
/-! _law_ranked -/
def RankedOk (n w : Nat) (T : List (List Int)) (due : Int) : Prop := PreBasis n w T ∧ (w : Int) - ((basisM T w).length : Int) = due
def spLawRanked (K : PySem.W.Frag) : Sp := spT K (α := Bool × Nat × Nat × List (List Int) × Int) (fun a => [tabD a.1 a.2.2.2.1, .int a.2.2.1, .int a.2.2.2.2]) (fun a => RankedOk a.2.1 a.2.2.1 a.2.2.2.1 a.2.2.2.2) (fun _ => .sh (.bl true))
/-! _law_both_sides -/
def augM (T : List (List Int)) (b : List Int) (n : Nat) : List (List Int) := (List.range n).map fun i => T.getD i [] ++ [b.getD i 0]
structure BothOk (n w : Nat) (O : List (List Int)) (kp ra : List Int) (sp : Nat) (b : List Int) : Prop where
  t : Tab n w O
  n0 : 0 < n ∧ n ≤ 1000
  w0 : 0 < w ∧ w ≤ 1000
  lk : kp.length = n
  lr : ra.length = n
  pt : PreBasis w n (turnM O w)
  is : IsOk w n (basisM (turnM O w) n) (turnM O w) sp
  rt : RankedOk w n (turnM O w) sp
  k0 : ∀ y ∈ basisM (turnM O w) n, dotL y kp = 0
  r1 : ∃ y ∈ basisM (turnM O w) n, dotL y ra ≠ 0
  bk : ∀ x ∈ kp, Sm 400000 x
  br : ∀ x ∈ ra, Sm 400000 x
  ps : PreSolved O ra n w
  so : solM O ra w = .bar b
  ok : RightOk O ra w (.bar b)
  pk : RankedOk n (w + 1) (augM O kp n) sp
  pr : RankedOk n (w + 1) (augM O ra n) (sp + 1)
def spLawBothSides (K : PySem.W.Frag) : Sp := spT K (α := Nat × Nat × List (List Int) × List Int × List Int × Nat × List Int) (fun a => [.lst (dT a.2.2.1), .lst (dI a.2.2.2.1), .lst (dI a.2.2.2.2.1), .int a.2.2.2.2.2.1]) (fun a => BothOk a.1 a.2.1 a.2.2.1 a.2.2.2.1 a.2.2.2.2.1 a.2.2.2.2.2.1 a.2.2.2.2.2.2) (fun _ => .sh (.bl true))
end
end LS

set_option Elab.async false
set_option linter.all false
set_option maxRecDepth 100000
set_option maxHeartbeats 4000000
set_option exponentiation.threshold 5000
namespace K02
open PySem PySem.Spec PyProof.Rows L2 DL M LS
local macro_rules | `(tactic| by_item) => `(tactic| with_reducible first
  | exact DL.ed_var (by with_unfolding_all rfl) | exact DL.ed_int | exact DL.ed_bl | exact DL.ed_non | exact DL.ed_str | exact DL.ea_nil | exact DL.et_yes
  | apply DL.ea_cons | apply DL.ed_op | apply DL.ed_un | apply DL.ed_lst | apply DL.ed_fld | (show L2.Cls _ _; with_reducible assumption) | (show L2.NoAttr _ _ _; with_reducible assumption) | (show List.lookup _ _ = _; with_unfolding_all rfl) | (show List.length _ ≤ PySem.sizeLine; exact Nat.le_of_ble_eq_true (by with_unfolding_all rfl)) | apply DL.ed_isi | apply DL.ed_cb
  | exact DL.od_I0 | exact DL.od_B0 | exact DL.od_eqI | exact DL.od_neI | exact DL.od_eqS | exact DL.od_isN | exact DL.od_notN | (apply DL.od_divX) | apply DL.od_I | apply DL.od_ix | exact DL.ud_I
  | apply DL.cd_len | exact DL.cd_int | exact DL.cd_intB | exact DL.cd_1 | exact DL.cd_gcd | apply DL.cd_lcmX | exact DL.cd_min3 | exact DL.cd_2
  | apply DL.et_test | apply DL.et_B | apply DL.et_not | apply DL.ed_notV
  | (show DL.tyB _ = _; with_unfolding_all rfl) | (show DL.itemsOf _ = _; with_unfolding_all rfl) | exact DL.seqD_items | (show L2.atI _ _ = _; with_reducible assumption) | (show L2.atI _ _ = _; exact L2.atI_nat (by with_reducible assumption)) | exact DL.atI_zero | exact DL.atI_one | (show L2.atI _ _ = _; with_unfolding_all rfl) | (show L2.kitB _ _ = _; first | exact DL.kb_NoneType_int | exact DL.kb_NoneType_bool | exact DL.kb_NoneType_tuple | exact DL.kb_NoneType_list | exact DL.kb_NoneType_str | exact DL.kb_NoneType_dict | exact DL.kb_bool_int | exact DL.kb_bool_bool | exact DL.kb_bool_tuple | exact DL.kb_bool_list | exact DL.kb_bool_str | exact DL.kb_bool_dict | exact DL.kb_int_int | exact DL.kb_int_bool | exact DL.kb_int_tuple | exact DL.kb_int_list | exact DL.kb_int_str | exact DL.kb_int_dict | exact DL.kb_str_int | exact DL.kb_str_bool | exact DL.kb_str_tuple | exact DL.kb_str_list | exact DL.kb_str_str | exact DL.kb_str_dict | exact DL.kb_list_int | exact DL.kb_list_bool | exact DL.kb_list_tuple | exact DL.kb_list_list | exact DL.kb_list_str | exact DL.kb_list_dict | exact DL.kb_tuple_int | exact DL.kb_tuple_bool | exact DL.kb_tuple_tuple | exact DL.kb_tuple_list | exact DL.kb_tuple_str | exact DL.kb_tuple_dict | exact DL.kb_dict_int | exact DL.kb_dict_bool | exact DL.kb_dict_tuple | exact DL.kb_dict_list | exact DL.kb_dict_str | exact DL.kb_dict_dict))
local macro_rules | `(tactic| by_place) => `(tactic| (repeat' by_item))
local macro_rules | `(tactic| by_in) => `(tactic| first | (with_reducible assumption) | (with_reducible exact DL.seqD_items) | (show (0 : Int) < _; omega) | (show (0 : Int) < _; decide +kernel) | exact M.mulS (by omega) (by omega) | exact M.mulP (by omega) (by omega) (by omega) | exact M.divS (by omega) (by omega) | exact ⟨by decide, by decide, by decide⟩ | exact ⟨by decide, by decide, by omega⟩ | exact L2.atI_nat (by assumption) | (show L2.atI _ _ = _; rfl))
section
variable {P : Program} {w : World} {K : PySem.W.Frag} {mg : Str → Option Value} {base : Heap}
theorem kNullBasis_width_table (T : Txt K mg) (c : Cal P w K mg base 36 "null_basis" ["table", "width"] (spNullBasis K)) : CalK P w K mg base 36 "null_basis" ["table", "width"] ["width", "table"] (spNullBasis K) gv_NullBasis_width_table := by
  refine calK_of c T.f_NullBasis T.g_NullBasis (fun us ws => match ws with | [a, b] => [b, a] | _ => []) (fun {vs zs us ws} _ r => ?_) (fun kV doc pm an cdv ct us ws hu hw => ?_) (fun zs => ?_)
  · cases r with
    | nil => exact .nil
    | cons a r2 =>
      cases r2 with
      | nil => exact .nil
      | cons b r2 =>
        cases r2 with
        | nil => exact .cons b (.cons a .nil)
        | cons e r2 => exact .nil
  · match us, ws, hu, hw with
    | [], [_, _], _, _ => rfl
  · cases zs with
    | nil => rfl
    | cons a r2 =>
      cases r2 with
      | nil => rfl
      | cons b r2 => cases r2 <;> rfl
theorem kRank_width_table (T : Txt K mg) (c : Cal P w K mg base 37 "rank" ["table", "width"] (spRank K)) : CalK P w K mg base 37 "rank" ["table", "width"] ["width", "table"] (spRank K) gv_Rank_width_table := by
  refine calK_of c T.f_Rank T.g_Rank (fun us ws => match ws with | [a, b] => [b, a] | _ => []) (fun {vs zs us ws} _ r => ?_) (fun kV doc pm an cdv ct us ws hu hw => ?_) (fun zs => ?_)
  · cases r with
    | nil => exact .nil
    | cons a r2 =>
      cases r2 with
      | nil => exact .nil
      | cons b r2 =>
        cases r2 with
        | nil => exact .cons b (.cons a .nil)
        | cons e r2 => exact .nil
  · match us, ws, hu, hw with
    | [], [_, _], _, _ => rfl
  · cases zs with
    | nil => rfl
    | cons a r2 =>
      cases r2 with
      | nil => rfl
      | cons b r2 => cases r2 <;> rfl
theorem scLawIsBasis : FnScope ["told", "table", "width", "span", "one", "top", "mine"] ["told", "table", "width", "span"] (defScope sLawIsBasis) := ⟨rfl, rfl, rfl, by decide +kernel, rfl, by decide +kernel, by decide +kernel⟩
theorem okLawIsBasis (T : Txt K mg) (c_LawWhole : Cal P w K mg base 1 "_law_whole" ["value"] (spLawWhole K)) (c_LawSum : Cal P w K mg base 1 "_law_sum" ["parts", "tops"] (spLawSum K)) (c_LawRank : Cal P w K mg base 34 "_law_rank" ["rows", "width"] (spLawRank K)) : Cal P w K mg base 35 "_law_is_basis" ["told", "table", "width", "span"] (spLawIsBasis K) := by
  refine cal_mk T.f_LawIsBasis T.g_LawIsBasis scLawIsBasis (fun vs H Q E h => spT_len (n := 4) (fun _ => rfl) h) (fun _ _ _ _ _ _ us hl => match us, hl with | [_, _, _, _], _ => rfl) (fun cdv A outer s H vs Q E hr h => ?_)
  refine ⟨_, (pss_cons (ps_if (PW.pt (pw_or (pt_not (pt_val (pe_callB (DL.call_isiC (K := K) rfl) (by rfl) T.b_isinstance (by decide +kernel) (pa_cons (pv 0) (pa_cons (pe_bltn (v := .ty "tuple") (by rfl) T.b_tuple (by decide +kernel) rfl) pa_nil))))) (pw_or1 (pt_cmpR op_ne (pe_callB (DL.call_len_seqC (K := K) rfl) (by rfl) T.b_len (by decide +kernel) (pa_cons (pv 0) pa_nil)) (pe_op op_sub (pv 2) (pv 3)) (nomark _)))))
      (pss_one (ps_ret pe_bl))
      pss_nil)
      (pss_cons (ps_for PassesOwn.never rfl (DL.pi_tupC (K := K) rfl (pv 0)) (pg_name (i := 4) scLawIsBasis.nd rfl (by first | exact Or.inl rfl | exact Or.inr rfl))
      (pss_cons (ps_if (PW.pt (pw_or (pt_not (pt_val (pe_callB (DL.call_isiC (K := K) rfl) (by rfl) T.b_isinstance (by decide +kernel) (pa_cons (pv 4) (pa_cons (pe_bltn (v := .ty "tuple") (by rfl) T.b_tuple (by decide +kernel) rfl) pa_nil))))) (pw_or (pt_cmpR op_ne (pe_callB (DL.call_len_seqC (K := K) rfl) (by rfl) T.b_len (by decide +kernel) (pa_cons (pv 4) pa_nil)) (pv 2) (nomark _)) (pw_or1 (pt_cmpR op_gt (pe_callB (DL.call_len_seqC (K := K) rfl) (by rfl) T.b_len (by decide +kernel) (pa_cons (pe_lc (own := [("top", 5)]) (g := gName 5) (by rfl) scLawIsBasis.nd (DL.pi_tupC (K := K) rfl (pv 4)) (blkOk_by (own := [("top", 5)]) (by kernel_rfl)) (fun _ _ _ _ _ => (pg_name (i := 5) scLawIsBasis.nd rfl (by first | exact Or.inl rfl | exact Or.inr rfl))) (fun _ _ _ _ _ => (pts_one (pt_not (pt_val (DL.pe_cal c_LawWhole (hr.mono (by decide)) (pa_cons (pv 5) pa_nil)))))) (fun _ _ _ _ _ => (pv 5))) pa_nil)) pe_int (nomark _))))))
      (pss_one (ps_ret pe_bl))
      pss_nil)
      (pss_one (ps_if (pt_cmpR op_gt (pe_callB (DL.call_len_seqC (K := K) rfl) (by rfl) T.b_len (by decide +kernel) (pa_cons (pe_lc (own := [("mine", 6)]) (g := gName 6) (by rfl) scLawIsBasis.nd (DL.pi_listC (K := K) rfl (pv 1)) (blkOk_by (own := [("mine", 6)]) (by kernel_rfl)) (fun _ _ _ _ _ => (pg_name (i := 6) scLawIsBasis.nd rfl (by first | exact Or.inl rfl | exact Or.inr rfl))) (fun _ _ _ _ _ => (pts_one (pt_cmpR op_ne (DL.pe_cal c_LawSum (hr.mono (by decide)) (pa_cons (pv 6) (pa_cons (pv 4) pa_nil))) pe_int (nomark _)))) (fun _ _ _ _ _ => (pv 6))) pa_nil)) pe_int (nomark _))
      (pss_one (ps_ret pe_bl))
      pss_nil))))
      (pss_one (ps_ret (pe_cmpR op_eq (DL.pe_cal c_LawRank (hr.mono (by decide)) (pa_cons (pv 0) (pa_cons (pv 2) pa_nil))) (pe_op op_sub (pv 2) (pv 3)) (nomark _)))))), ?_⟩
  refine sd_fn h (fun _ => Nat.le_of_ble_eq_true rfl) ?_
  try dsimp only [L2.cxOf]
  intro ⟨n, w, B, T', sp⟩ hp
  obtain ⟨l, tb, tt, n1, b1, w1, bb, bt, z, pr, rk⟩ : IsOk n w B T' sp := hp
  show SD K _ [.sh (.tup (tT B)), .sh (.lst (dT T')), .sh (.int w), .sh (.int sp), .no, .no, .no] _
  refine sd_then (sd_if (x := false) (et_orF (EvT.is (by by_place) (by rfl)) (EvT.is (by by_place) (by rw [tT_len, l, decide_eq_true rfl]; rfl))) (fun h => by cases h) (fun _ => sd_next ?_))
  show SD K _ [.sh (.tup (tT B)), .sh (.lst (dT T')), .sh (.int w), .sh (.int sp), .no, .no, .no] _
  refine sd_then (sd_forTn [4] (i := 4) (ds := tT B) (by by_place) (fun m ρ => ρ = [.sh (.tup (tT B)), .sh (.lst (dT T')), .sh (.int w), .sh (.int sp), .no, .no, .no]) rfl (fun m d ρ hd hI => ?_) (fun ρ hI => ?_))
  · subst hI
    obtain ⟨r, hr, rfl⟩ := get_tT hd
    have hm := List.mem_of_getElem? hr
    have rl := tb.w r hm
    refine ⟨rfl, ?_⟩
    show SD K _ [.sh (.tup (tT B)), .sh (.lst (dT T')), .sh (.int w), .sh (.int sp), .sh (.tup (dI r)), .no, .no] _
    refine sd_then (sd_if (x := false) (et_orF (EvT.is (by by_place) (by rfl)) (et_orF (EvT.is (by by_place) (by rw [List.length_map, rl, decide_eq_true rfl]; rfl)) (EvT.is (et_test (ed_op (a := .int 0) (EvD.is (ed_cb (ea_cons (EvL.data (el_noneT (i := 5) (ds := r) (by by_place) (by decide) (by omega) fun x hx => EvT.is (et_not (x := true) (et_B (ed_call x (by by_place) trivial rfl))) (by rfl))) ea_nil) (cd_len (ds := []) rfl)) (by rfl)) (by by_place) (by by_place))) (by rfl)))) (fun h => by cases h) (fun _ => sd_next ?_))
    show SD K _ [.sh (.tup (tT B)), .sh (.lst (dT T')), .sh (.int w), .sh (.int sp), .sh (.tup (dI r)), .no, .no] _
    refine sd_if (x := false) (EvT.is (et_test (ed_op (a := .int 0) (EvD.is (ed_cb (ea_cons (EvL.data (el_noneRows (i := 6) (rows := T') (by by_place) (by decide) (by rw [tt.n]; omega) fun x hx => ?_)) ea_nil) (cd_len (ds := []) rfl)) (by rfl)) (by by_place) (by by_place))) (by rfl)) (fun h => by cases h) (fun _ => sd_next ?_)
    · have xl := tt.w x hx
      refine EvT.is (et_test (ed_op (a := .int (dotL x r)) (ed_call (false, true, x, r) (EvA.is (by by_place) (by rfl)) ⟨by show x.length ≤ r.length; omega, by show x.length ≤ 10000; omega, bt x hx, bb r hm⟩ rfl) (by by_place) (by by_place))) ?_
      rw [z x hx r hm, decide_eq_true rfl]
      rfl
    · rfl
  · subst hI
    refine sd_ret (d := .bl true) (EvD.is (ed_op (ed_call (true, B.length, w, B) (EvA.is (by by_place) (by rfl)) pr rfl) (by by_place) (by by_place)) (by rw [rk, decide_eq_true rfl])) rfl
theorem scLawRanked : FnScope ["rows", "wide", "due", "told"] ["rows", "wide", "due"] (defScope sLawRanked) := ⟨rfl, rfl, rfl, by decide +kernel, rfl, by decide +kernel, by decide +kernel⟩
theorem okLawRanked (T : Txt K mg) (c_Rank : Cal P w K mg base 37 "rank" ["table", "width"] (spRank K)) (c_LawWhole : Cal P w K mg base 1 "_law_whole" ["value"] (spLawWhole K)) (c_Rank_width_table : CalK P w K mg base 37 "rank" ["table", "width"] ["width", "table"] (spRank K) gv_Rank_width_table) : Cal P w K mg base 38 "_law_ranked" ["rows", "wide", "due"] (spLawRanked K) := by
  refine cal_mk T.f_LawRanked T.g_LawRanked scLawRanked (fun vs H Q E h => spT_len (n := 3) (fun _ => rfl) h) (fun _ _ _ _ _ _ us hl => match us, hl with | [_, _, _], _ => rfl) (fun cdv A outer s H vs Q E hr h => ?_)
  refine ⟨_, (pss_cons (ps_set (i := 3) scLawRanked.nd rfl (by first | exact Or.inl rfl | exact Or.inr rfl) (pe_ifExp (pt_cmpR op_eq (pe_op op_mod (pe_callTy call_int1 (by rfl) T.b_int (by decide +kernel) (pa_cons (pv 1) pa_nil)) pe_int) pe_int (nomark _)) (DL.pe_calK c_Rank_width_table (hr.mono (by decide)) (pk_cons (pv 1) (pk_cons (pv 0) pk_nil))) (DL.pe_cal c_Rank (hr.mono (by decide)) (pa_cons (pv 0) (pa_cons (pv 1) pa_nil)))))
      (pss_one (ps_ret (pe_and (DL.pe_cal c_LawWhole (hr.mono (by decide)) (pa_cons (pv 3) pa_nil)) (pe_one (pe_cmpR op_eq (pv 3) (pv 2) (nomark _))))))), ?_⟩
  refine sd_fn h (fun _ => Nat.le_of_ble_eq_true rfl) ?_
  try dsimp only [L2.cxOf]
  intro ⟨k, n, w, T', due⟩ hp
  obtain ⟨pb, e⟩ : RankedOk n w T' due := hp
  show SD K _ [.sh (tabD k T'), .sh (.int w), .sh (.int due), .no] _
  refine sd_then (sd_asg (d := .int due) (ed_if (x := decide ((w : Int) % 2 = 0)) (by by_place <;> by_in) (fun _ => ed_callK0 (bs := [.int w, tabD k T']) (k, n, w, T') (by by_place) rfl (fun H zs r => ?_) pb (by show Ret.sh (.int _) = _; rw [← e])) (fun _ => ed_call (k, n, w, T') (by by_place) pb (by show Ret.sh (.int _) = _; rw [← e]))) ?_)
  · cases r with
    | cons ra r =>
      cases r with
      | cons rb r =>
        cases r
        exact .cons rb (.cons ra .nil)
  show SD K _ [.sh (tabD k T'), .sh (.int w), .sh (.int due), .sh (.int due)] _
  refine sd_ret (d := .bl true) (EvD.is (ed_andV (x := true) (y := true) (ed_call due (by by_place) trivial rfl) fun _ => EvD.is (by by_place) (by rw [decide_eq_true rfl])) (by rfl)) rfl
end
end K02

set_option Elab.async false
set_option linter.all false
set_option maxRecDepth 100000
set_option maxHeartbeats 4000000
set_option exponentiation.threshold 5000
namespace K02
open PySem PySem.Spec PyProof.Rows L2 DL M LS
local macro_rules | `(tactic| by_item) => `(tactic| with_reducible first
  | exact DL.ed_var (by with_unfolding_all rfl) | exact DL.ed_int | exact DL.ed_bl | exact DL.ed_non | exact DL.ed_str | exact DL.ea_nil | exact DL.et_yes
  | apply DL.ea_cons | apply DL.ed_op | apply DL.ed_un | apply DL.ed_lst | apply DL.ed_fld | (show L2.Cls _ _; with_reducible assumption) | (show L2.NoAttr _ _ _; with_reducible assumption) | (show List.lookup _ _ = _; with_unfolding_all rfl) | (show List.length _ ≤ PySem.sizeLine; exact Nat.le_of_ble_eq_true (by with_unfolding_all rfl)) | apply DL.ed_isi | apply DL.ed_cb
  | exact DL.od_I0 | exact DL.od_B0 | exact DL.od_eqI | exact DL.od_neI | exact DL.od_eqS | exact DL.od_isN | exact DL.od_notN | (apply DL.od_divX) | apply DL.od_I | apply DL.od_ix | exact DL.ud_I
  | apply DL.cd_len | exact DL.cd_int | exact DL.cd_intB | exact DL.cd_1 | exact DL.cd_gcd | apply DL.cd_lcmX | exact DL.cd_min3 | exact DL.cd_2
  | apply DL.et_test | apply DL.et_B | apply DL.et_not | apply DL.ed_notV
  | (show DL.tyB _ = _; with_unfolding_all rfl) | (show DL.itemsOf _ = _; with_unfolding_all rfl) | exact DL.seqD_items | (show L2.atI _ _ = _; with_reducible assumption) | (show L2.atI _ _ = _; exact L2.atI_nat (by with_reducible assumption)) | exact DL.atI_zero | exact DL.atI_one | (show L2.atI _ _ = _; with_unfolding_all rfl) | (show L2.kitB _ _ = _; first | exact DL.kb_NoneType_int | exact DL.kb_NoneType_bool | exact DL.kb_NoneType_tuple | exact DL.kb_NoneType_list | exact DL.kb_NoneType_str | exact DL.kb_NoneType_dict | exact DL.kb_bool_int | exact DL.kb_bool_bool | exact DL.kb_bool_tuple | exact DL.kb_bool_list | exact DL.kb_bool_str | exact DL.kb_bool_dict | exact DL.kb_int_int | exact DL.kb_int_bool | exact DL.kb_int_tuple | exact DL.kb_int_list | exact DL.kb_int_str | exact DL.kb_int_dict | exact DL.kb_str_int | exact DL.kb_str_bool | exact DL.kb_str_tuple | exact DL.kb_str_list | exact DL.kb_str_str | exact DL.kb_str_dict | exact DL.kb_list_int | exact DL.kb_list_bool | exact DL.kb_list_tuple | exact DL.kb_list_list | exact DL.kb_list_str | exact DL.kb_list_dict | exact DL.kb_tuple_int | exact DL.kb_tuple_bool | exact DL.kb_tuple_tuple | exact DL.kb_tuple_list | exact DL.kb_tuple_str | exact DL.kb_tuple_dict | exact DL.kb_dict_int | exact DL.kb_dict_bool | exact DL.kb_dict_tuple | exact DL.kb_dict_list | exact DL.kb_dict_str | exact DL.kb_dict_dict))
local macro_rules | `(tactic| by_place) => `(tactic| (repeat' by_item))
local macro_rules | `(tactic| by_in) => `(tactic| first | (with_reducible assumption) | (with_reducible exact DL.seqD_items) | (show (0 : Int) < _; omega) | (show (0 : Int) < _; decide +kernel) | exact M.mulS (by omega) (by omega) | exact M.mulP (by omega) (by omega) (by omega) | exact M.divS (by omega) (by omega) | exact ⟨by decide, by decide, by decide⟩ | exact ⟨by decide, by decide, by omega⟩ | exact L2.atI_nat (by assumption) | (show L2.atI _ _ = _; rfl))
section
variable {P : Program} {w : World} {K : PySem.W.Frag} {mg : Str → Option Value} {base : Heap}
theorem kSolved_right_table (T : Txt K mg) (c : Cal P w K mg base 36 "solved" ["table", "right"] (spSolved K)) : CalK P w K mg base 36 "solved" ["table", "right"] ["right", "table"] (spSolved K) gv_Solved_right_table := by
  refine calK_of c T.f_Solved T.g_Solved (fun us ws => match ws with | [a, b] => [b, a] | _ => []) (fun {vs zs us ws} _ r => ?_) (fun kV doc pm an cdv ct us ws hu hw => ?_) (fun zs => ?_)
  · cases r with
    | nil => exact .nil
    | cons a r2 =>
      cases r2 with
      | nil => exact .nil
      | cons b r2 =>
        cases r2 with
        | nil => exact .cons b (.cons a .nil)
        | cons e r2 => exact .nil
  · match us, ws, hu, hw with
    | [], [_, _], _, _ => rfl
  · cases zs with
    | nil => rfl
    | cons a r2 =>
      cases r2 with
      | nil => rfl
      | cons b r2 => cases r2 <;> rfl
theorem scLawBothSides : FnScope ["rows", "kept", "raised", "span", "many", "wide", "turned", "left", "mine", "one", "i"] ["rows", "kept", "raised", "span"] (defScope sLawBothSides) := ⟨rfl, rfl, rfl, by decide +kernel, rfl, by decide +kernel, by decide +kernel⟩
theorem okLawBothSides (T : Txt K mg) (c_LawTurned : Cal P w K mg base 1 "_law_turned" ["table"] (spLawTurned K)) (c_NullBasis : Cal P w K mg base 36 "null_basis" ["table", "width"] (spNullBasis K)) (c_LawRanked : Cal P w K mg base 38 "_law_ranked" ["rows", "wide", "due"] (spLawRanked K)) (c_LawIsBasis : Cal P w K mg base 35 "_law_is_basis" ["told", "table", "width", "span"] (spLawIsBasis K)) (c_LawSum : Cal P w K mg base 1 "_law_sum" ["parts", "tops"] (spLawSum K)) (c_LawRight : Cal P w K mg base 4 "_law_right" ["table", "right", "barred", "told"] (spLawRight K)) (c_Solved_right_table : CalK P w K mg base 36 "solved" ["table", "right"] ["right", "table"] (spSolved K) gv_Solved_right_table) : Cal P w K mg base 39 "_law_both_sides" ["rows", "kept", "raised", "span"] (spLawBothSides K) := by
  refine cal_mk T.f_LawBothSides T.g_LawBothSides scLawBothSides (fun vs H Q E h => spT_len (n := 4) (fun _ => rfl) h) (fun _ _ _ _ _ _ us hl => match us, hl with | [_, _, _, _], _ => rfl) (fun cdv A outer s H vs Q E hr h => ?_)
  refine ⟨_, (pss_cons (ps_set (i := 4) scLawBothSides.nd rfl (by first | exact Or.inl rfl | exact Or.inr rfl) (pe_callB (DL.call_len_seqC (K := K) rfl) (by rfl) T.b_len (by decide +kernel) (pa_cons (pv 0) pa_nil)))
      (pss_cons (ps_set (i := 5) scLawBothSides.nd rfl (by first | exact Or.inl rfl | exact Or.inr rfl) (pe_callB (DL.call_len_seqC (K := K) rfl) (by rfl) T.b_len (by decide +kernel) (pa_cons (pe_ix (DL.ix_seqC (K := K) rfl) (pv 0) pe_int (fun _ _ => rfl)) pa_nil)))
      (pss_cons (ps_set (i := 6) scLawBothSides.nd rfl (by first | exact Or.inl rfl | exact Or.inr rfl) (DL.pe_cal c_LawTurned (hr.mono (by decide)) (pa_cons (pv 0) pa_nil)))
      (pss_cons (ps_set (i := 7) scLawBothSides.nd rfl (by first | exact Or.inl rfl | exact Or.inr rfl) (DL.pe_cal c_NullBasis (hr.mono (by decide)) (pa_cons (pe_callTy (DL.call_tuple_ofC (K := K) rfl) (by rfl) T.b_tuple (by decide +kernel) (pa_cons (pe_lc (own := [("mine", 8)]) (g := gName 8) (by rfl) scLawBothSides.nd (DL.pi_listC (K := K) rfl (pv 6)) (blkOk_by (own := [("mine", 8)]) (by kernel_rfl)) (fun _ _ _ _ _ => (pg_name (i := 8) scLawBothSides.nd rfl (by first | exact Or.inl rfl | exact Or.inr rfl))) (fun _ _ _ _ _ => pts_nil) (fun _ _ _ _ _ => (pe_callTy (DL.call_tuple_ofC (K := K) rfl) (by rfl) T.b_tuple (by decide +kernel) (pa_cons (pv 8) pa_nil)))) pa_nil)) (pa_cons (pv 4) pa_nil))))
      (pss_cons (ps_if (PW.pt (pw_or (pt_not (pt_val (DL.pe_cal c_LawIsBasis (hr.mono (by decide)) (pa_cons (pv 7) (pa_cons (pv 6) (pa_cons (pv 4) (pa_cons (pv 3) pa_nil))))))) (pw_or1 (pt_not (pt_val (DL.pe_cal c_LawRanked (hr.mono (by decide)) (pa_cons (pe_lc (own := [("mine", 8)]) (g := gName 8) (by rfl) scLawBothSides.nd (DL.pi_listC (K := K) rfl (pv 6)) (blkOk_by (own := [("mine", 8)]) (by kernel_rfl)) (fun _ _ _ _ _ => (pg_name (i := 8) scLawBothSides.nd rfl (by first | exact Or.inl rfl | exact Or.inr rfl))) (fun _ _ _ _ _ => pts_nil) (fun _ _ _ _ _ => (pe_callTy (DL.call_list_ofC (K := K) rfl) (by rfl) T.b_list (by decide +kernel) (pa_cons (pv 8) pa_nil)))) (pa_cons (pv 4) (pa_cons (pv 3) pa_nil)))))))))
      (pss_one (ps_ret pe_bl))
      pss_nil)
      (pss_cons (ps_if (pt_cmpR op_gt (pe_callB (DL.call_len_seqC (K := K) rfl) (by rfl) T.b_len (by decide +kernel) (pa_cons (pe_lc (own := [("one", 9)]) (g := gName 9) (by rfl) scLawBothSides.nd (DL.pi_tupC (K := K) rfl (pv 7)) (blkOk_by (own := [("one", 9)]) (by kernel_rfl)) (fun _ _ _ _ _ => (pg_name (i := 9) scLawBothSides.nd rfl (by first | exact Or.inl rfl | exact Or.inr rfl))) (fun _ _ _ _ _ => (pts_one (pt_cmpR op_ne (DL.pe_cal c_LawSum (hr.mono (by decide)) (pa_cons (pv 9) (pa_cons (pv 1) pa_nil))) pe_int (nomark _)))) (fun _ _ _ _ _ => (pv 9))) pa_nil)) pe_int (nomark _))
      (pss_one (ps_ret pe_bl))
      pss_nil)
      (pss_cons (ps_if (pt_cmpR op_eq (pe_callB (DL.call_len_seqC (K := K) rfl) (by rfl) T.b_len (by decide +kernel) (pa_cons (pe_lc (own := [("one", 9)]) (g := gName 9) (by rfl) scLawBothSides.nd (DL.pi_tupC (K := K) rfl (pv 7)) (blkOk_by (own := [("one", 9)]) (by kernel_rfl)) (fun _ _ _ _ _ => (pg_name (i := 9) scLawBothSides.nd rfl (by first | exact Or.inl rfl | exact Or.inr rfl))) (fun _ _ _ _ _ => (pts_one (pt_cmpR op_ne (DL.pe_cal c_LawSum (hr.mono (by decide)) (pa_cons (pv 9) (pa_cons (pv 2) pa_nil))) pe_int (nomark _)))) (fun _ _ _ _ _ => (pv 9))) pa_nil)) pe_int (nomark _))
      (pss_one (ps_ret pe_bl))
      pss_nil)
      (pss_cons (ps_if (pt_not (pt_val (DL.pe_cal c_LawRight (hr.mono (by decide)) (pa_cons (pv 0) (pa_cons (pv 2) (pa_cons pe_bl (pa_cons (DL.pe_calK c_Solved_right_table (hr.mono (by decide)) (pk_cons (pe_callTy (DL.call_list_ofC (K := K) rfl) (by rfl) T.b_list (by decide +kernel) (pa_cons (pv 2) pa_nil)) (pk_cons (pe_lc (own := [("mine", 8)]) (g := gName 8) (by rfl) scLawBothSides.nd (DL.pi_listC (K := K) rfl (pv 0)) (blkOk_by (own := [("mine", 8)]) (by kernel_rfl)) (fun _ _ _ _ _ => (pg_name (i := 8) scLawBothSides.nd rfl (by first | exact Or.inl rfl | exact Or.inr rfl))) (fun _ _ _ _ _ => pts_nil) (fun _ _ _ _ _ => (pe_callTy (DL.call_list_ofC (K := K) rfl) (by rfl) T.b_list (by decide +kernel) (pa_cons (pv 8) pa_nil)))) pk_nil))) pa_nil)))))))
      (pss_one (ps_ret pe_bl))
      pss_nil)
      (pss_cons (ps_if (pt_not (pt_val (DL.pe_cal c_LawRanked (hr.mono (by decide)) (pa_cons (pe_lc (own := [("i", 10)]) (g := gName 10) (by rfl) scLawBothSides.nd (pi_range1 (by rfl) T.b_range (pa_cons (pv 4) pa_nil)) (blkOk_by (own := [("i", 10)]) (by kernel_rfl)) (fun _ _ _ _ _ => (pg_name (i := 10) scLawBothSides.nd rfl (by first | exact Or.inl rfl | exact Or.inr rfl))) (fun _ _ _ _ _ => pts_nil) (fun _ _ _ _ _ => (pe_op op_cat (pe_ix (DL.ix_seqC (K := K) rfl) (pv 0) (pv 10) (fun _ _ => rfl)) (pe_lst (pa_cons (pe_ix (DL.ix_seqC (K := K) rfl) (pv 1) (pv 10) (fun _ _ => rfl)) pa_nil))))) (pa_cons (pe_op op_add (pv 5) pe_int) (pa_cons (pv 3) pa_nil))))))
      (pss_one (ps_ret pe_bl))
      pss_nil)
      (pss_one (ps_ret (DL.pe_cal c_LawRanked (hr.mono (by decide)) (pa_cons (pe_callTy (DL.call_tuple_ofC (K := K) rfl) (by rfl) T.b_tuple (by decide +kernel) (pa_cons (pe_lc (own := [("i", 10)]) (g := gName 10) (by rfl) scLawBothSides.nd (pi_range1 (by rfl) T.b_range (pa_cons (pv 4) pa_nil)) (blkOk_by (own := [("i", 10)]) (by kernel_rfl)) (fun _ _ _ _ _ => (pg_name (i := 10) scLawBothSides.nd rfl (by first | exact Or.inl rfl | exact Or.inr rfl))) (fun _ _ _ _ _ => pts_nil) (fun _ _ _ _ _ => (pe_callTy (DL.call_tuple_ofC (K := K) rfl) (by rfl) T.b_tuple (by decide +kernel) (pa_cons (pe_op op_cat (pe_ix (DL.ix_seqC (K := K) rfl) (pv 0) (pv 10) (fun _ _ => rfl)) (pe_lst (pa_cons (pe_ix (DL.ix_seqC (K := K) rfl) (pv 2) (pv 10) (fun _ _ => rfl)) pa_nil))) pa_nil)))) pa_nil)) (pa_cons (pe_op op_add (pv 5) pe_int) (pa_cons (pe_op op_add (pv 3) pe_int) pa_nil))))))))))))))), ?_⟩
  refine sd_fn h (fun _ => Nat.le_of_ble_eq_true rfl) ?_
  try dsimp only [L2.cxOf]
  intro ⟨n, w, O, kp, ra, sp, b⟩ hp
  obtain ⟨t, ⟨n0, n1⟩, ⟨w0, w1⟩, lk, lr, pt, is, rt, k0, ⟨y1, hy1, hy2⟩, bk, br, ps, so, ok, pk, pr⟩ : BothOk n w O kp ra sp b := hp
  have g0 : atI (dT O) 0 = some (.lst (dI (O.getD 0 []))) := atI_nat (j := 0) (dT_get (get_getD [] (by rw [t.n]; exact n0)))
  have r0 : (O.getD 0 []).length = w := t.row n0
  have tn : (turnM O w).length = w := by unfold turnM; rw [List.length_map, List.length_range]
  have hL := is.b1
  have htb := is.tb
  have hbb := is.bb
  show SD K _ [.sh (.lst (dT O)), .sh (.lst (dI kp)), .sh (.lst (dI ra)), .sh (.int sp), .no, .no, .no, .no, .no, .no, .no] _
  refine sd_then (sd_asg (d := .int n) (EvD.is (by by_place) (by rw [dT_len, t.n])) ?_)
  refine sd_then (sd_asg (d := .int w) (EvD.is (by by_place) (by rw [List.length_map, r0])) ?_)
  refine sd_then (sd_asgL (ds := dT (turnM O w)) (el_call (n, w, O) (by by_place) ⟨t, n0, n1, w1⟩ rfl) (sd_frz (i := 6) rfl rfl ?_))
  generalize hN : turnM O w = N at pt is rt k0 hy1 tn hL htb hbb
  show SD K _ [.sh (.lst (dT O)), .sh (.lst (dI kp)), .sh (.lst (dI ra)), .sh (.int sp), .sh (.int n), .sh (.int w), .sh (.lst (dT N)), .no, .no, .no, .no] _
  refine sd_then (sd_asg (d := .tup (tT (basisM N n))) (ed_call (true, w, n, N) (EvA.is (ea_cons (ed_cb (ea_cons (EvL.data (el_tups (i := 8) (rows := N) (by by_place) (by decide) (by omega) fun r hr => ed_cb (by by_place) (cd_tuple rfl))) ea_nil) (cd_tuple rfl)) (by by_place)) (by rfl)) pt rfl) ?_)
  show SD K _ [.sh (.lst (dT O)), .sh (.lst (dI kp)), .sh (.lst (dI ra)), .sh (.int sp), .sh (.int n), .sh (.int w), .sh (.lst (dT N)), .sh (.tup (tT (basisM N n))), .no, .no, .no] _
  refine sd_then (sd_if (x := false) (et_orF (EvT.is (et_not (x := true) (et_B (ed_call (w, n, basisM N n, N, (sp : Int)) (EvA.is (by by_place) (by rfl)) is rfl))) (by rfl)) (EvT.is (et_not (x := true) (et_B (ed_call (false, w, n, N, (sp : Int)) (EvA.is (ea_cons (EvL.data (el_mapL (i := 8) (fun r => r) (by by_place) (by decide) (by omega) fun r hr => el_cb (by by_place) (cl_list rfl))) (by by_place)) (by rw [List.map_id']; rfl)) rt rfl))) (by rfl))) (fun h => by cases h) (fun _ => sd_next ?_))
  show SD K _ [.sh (.lst (dT O)), .sh (.lst (dI kp)), .sh (.lst (dI ra)), .sh (.int sp), .sh (.int n), .sh (.int w), .sh (.lst (dT N)), .sh (.tup (tT (basisM N n))), .no, .no, .no] _
  generalize basisM N n = B at is k0 hy1 hL htb hbb
  refine sd_then (sd_if (x := false) (EvT.is (et_test (ed_op (a := .int 0) (EvD.is (ed_cb (ea_cons (EvL.data (el_noneTups (i := 9) (rows := B) (by by_place) (by decide) (by omega) fun x hx => ?_)) ea_nil) (cd_len (ds := []) rfl)) (by rfl)) (by by_place) (by by_place))) (by rfl)) (fun h => by cases h) (fun _ => sd_next ?_))
  · have xl := htb.w x hx
    refine EvT.is (et_test (ed_op (a := .int (dotL x kp)) (ed_call (true, false, x, kp) (EvA.is (by by_place) (by rfl)) ⟨by show x.length ≤ kp.length; omega, by show x.length ≤ 10000; omega, hbb x hx, bk⟩ rfl) (by by_place) (by by_place))) ?_
    rw [k0 x hx, decide_eq_true rfl]
    rfl
  show SD K _ [.sh (.lst (dT O)), .sh (.lst (dI kp)), .sh (.lst (dI ra)), .sh (.int sp), .sh (.int n), .sh (.int w), .sh (.lst (dT N)), .sh (.tup (tT B)), .no, .no, .no] _
  obtain ⟨i1, hi1, ei1⟩ := mem_getD [] hy1
  refine sd_then (sd_if (x := false) (EvT.is (et_test (ed_op (ed_cb (ea_cons (EvL.data (el_lcT (ds := tT B) (fun i => !decide (dotL (B.getD i []) ra = 0)) (fun i => .tup (dI (B.getD i []))) (by by_place) (by rw [tT_len]; omega) fun i d hd => ?_)) ea_nil) (cd_len rfl)) (by by_place) (by by_place))) ?_) (fun h => by cases h) (fun _ => sd_next ?_))
  · obtain ⟨x, hx, rfl⟩ := get_tT hd
    have hm := List.mem_of_getElem? hx
    have xl := htb.w x hm
    refine ⟨_, tg_name (i := 9) (by decide), EvT.is (et_test (ed_op (a := .int (dotL x ra)) (ed_call (true, false, x, ra) (EvA.is (by by_place) (by rfl)) ⟨by show x.length ≤ ra.length; omega, by show x.length ≤ 10000; omega, hbb x hm, br⟩ rfl) (by by_place) (by by_place))) (by rw [getD_get hx]), fun _ => ?_⟩
    rw [getD_get hx]
    by_place
  · refine decide_eq_false fun z => ?_
    have z : (given (tT B).length (fun i => !decide (dotL (B.getD i []) ra = 0)) (fun i => DL.D.tup (dI (B.getD i [])))).length = 0 := by omega
    unfold given at z
    rw [List.length_map, tT_len] at z
    have hmem : i1 ∈ (List.range B.length).filter fun i => !decide (dotL (B.getD i []) ra = 0) := List.mem_filter.mpr ⟨List.mem_range.mpr hi1, by rw [ei1, decide_eq_false hy2]; rfl⟩
    have := List.length_pos_of_mem hmem
    omega
  show SD K _ [.sh (.lst (dT O)), .sh (.lst (dI kp)), .sh (.lst (dI ra)), .sh (.int sp), .sh (.int n), .sh (.int w), .sh (.lst (dT N)), .sh (.tup (tT B)), .no, .no, .no] _
  refine sd_then (sd_if (x := false) (EvT.is (et_not (x := true) (et_B (ed_call (O, ra, w, .bar b) (EvA.is (ea_cons (by by_place) (ea_cons (by by_place) (ea_cons (by by_place) (ea_cons (ed_callK0 (bs := [.lst (dI ra), .lst (dT O)]) (false, false, O, ra, n, w) (ea_cons (EvL.data (el_cb (by by_place) (cl_list rfl))) (ea_cons (EvL.data (EvL.is (el_mapL (i := 8) (fun r => r) (by by_place) (by decide) (by rw [t.n]; omega) fun r hr => el_cb (by by_place) (cl_list rfl)) (by rw [List.map_id']))) ea_nil)) rfl (fun H zs r => ?_) ps (by show Ret.sh (solD K (solM O ra w)) = _; rw [so])) ea_nil)))) (by rfl)) ok rfl))) (by rfl)) (fun h => by cases h) (fun _ => sd_next ?_))
  · cases r with
    | cons ra r =>
      cases r with
      | cons rb r =>
        cases r
        exact .cons rb (.cons ra .nil)
  show SD K _ [.sh (.lst (dT O)), .sh (.lst (dI kp)), .sh (.lst (dI ra)), .sh (.int sp), .sh (.int n), .sh (.int w), .sh (.lst (dT N)), .sh (.tup (tT B)), .no, .no, .no] _
  have rowAt : ∀ (v : List Int) (j : Nat), j < n → v.length = n → atI (dT O) (j : Int) = some (.lst (dI (O.getD j []))) ∧ atI (dI v) (j : Int) = some (.int (v.getD j 0)) ∧ (O.getD j []).length = w := fun v j hj hv => ⟨atI_nat (dT_get (get_getD [] (by rw [t.n]; exact hj))), atI_nat (dI_get (get_getD 0 (by omega))), t.row hj⟩
  refine sd_then (sd_if (x := false) (EvT.is (et_not (x := true) (et_B (ed_call (false, n, w + 1, augM O kp n, (sp : Int)) (EvA.is (ea_cons (EvL.data (el_rangeL (i := 10) (n := n) (fun i => O.getD i [] ++ [kp.getD i 0]) (by by_place) (by decide) (by omega) fun j hj => ?_)) (by by_place)) (by rfl)) pk rfl))) (by rfl)) (fun h => by cases h) (fun _ => sd_next ?_))
  · obtain ⟨q1, q2, q3⟩ := rowAt kp j hj lk
    refine EvL.is (el_op (by by_place) (EvL.data (el_lst (by by_place) (Nat.le_of_ble_eq_true rfl))) (ol_cat (by rw [List.length_map, q3, PySem.sizeLine_eq]; show w + 1 ≤ _; omega))) ?_
    rw [dI_append]
    rfl
  show SD K _ [.sh (.lst (dT O)), .sh (.lst (dI kp)), .sh (.lst (dI ra)), .sh (.int sp), .sh (.int n), .sh (.int w), .sh (.lst (dT N)), .sh (.tup (tT B)), .no, .no, .no] _
  refine sd_ret (d := .bl true) (ed_call (true, n, w + 1, augM O ra n, (sp : Int) + 1) (EvA.is (ea_cons (ed_cb (ea_cons (EvL.data (el_lcR (n := (n : Int)) (fun _ => true) (fun j => .tup (dI (O.getD j [] ++ [ra.getD j 0]))) (by by_place) (by omega) (by omega) fun j hj => ⟨_, tg_name (i := 10) (by decide), et_yes, fun _ => ?_⟩)) ea_nil) (cd_tuple rfl)) (by by_place)) ?_) pr rfl) rfl
  · obtain ⟨q1, q2, q3⟩ := rowAt ra j (by omega) lr
    refine ed_cb (ea_cons (EvL.data (ds := dI (O.getD j [] ++ [ra.getD j 0])) ?_) ea_nil) (cd_tuple rfl)
    refine EvL.is (el_op (by by_place) (EvL.data (el_lst (by by_place) (Nat.le_of_ble_eq_true rfl))) (ol_cat (by rw [List.length_map, q3, PySem.sizeLine_eq]; show w + 1 ≤ _; omega))) ?_
    rw [dI_append]
    rfl
  · rw [given_all, Int.toNat_natCast, tab_t]
    unfold tT augM
    rw [List.map_map]
    rfl
end
end K02

set_option Elab.async false
set_option linter.all false
set_option maxRecDepth 100000
set_option maxHeartbeats 4000000
set_option exponentiation.threshold 5000
namespace K02
open PySem PySem.Spec PyProof.Rows L2 DL M LS
local macro_rules | `(tactic| by_item) => `(tactic| with_reducible first
  | exact DL.ed_var (by with_unfolding_all rfl) | exact DL.ed_int | exact DL.ed_bl | exact DL.ed_non | exact DL.ed_str | exact DL.ea_nil | exact DL.et_yes
  | apply DL.ea_cons | apply DL.ed_op | apply DL.ed_un | apply DL.ed_lst | apply DL.ed_fld | (show L2.Cls _ _; with_reducible assumption) | (show L2.NoAttr _ _ _; with_reducible assumption) | (show List.lookup _ _ = _; with_unfolding_all rfl) | (show List.length _ ≤ PySem.sizeLine; exact Nat.le_of_ble_eq_true (by with_unfolding_all rfl)) | apply DL.ed_isi | apply DL.ed_cb
  | exact DL.od_I0 | exact DL.od_B0 | exact DL.od_eqI | exact DL.od_neI | exact DL.od_eqS | exact DL.od_isN | exact DL.od_notN | (apply DL.od_divX) | apply DL.od_I | apply DL.od_ix | exact DL.ud_I
  | apply DL.cd_len | exact DL.cd_int | exact DL.cd_intB | exact DL.cd_1 | exact DL.cd_gcd | apply DL.cd_lcmX | exact DL.cd_min3 | exact DL.cd_2
  | apply DL.et_test | apply DL.et_B | apply DL.et_not | apply DL.ed_notV
  | (show DL.tyB _ = _; with_unfolding_all rfl) | (show DL.itemsOf _ = _; with_unfolding_all rfl) | exact DL.seqD_items | (show L2.atI _ _ = _; with_reducible assumption) | (show L2.atI _ _ = _; exact L2.atI_nat (by with_reducible assumption)) | exact DL.atI_zero | exact DL.atI_one | (show L2.atI _ _ = _; with_unfolding_all rfl) | (show L2.kitB _ _ = _; first | exact DL.kb_NoneType_int | exact DL.kb_NoneType_bool | exact DL.kb_NoneType_tuple | exact DL.kb_NoneType_list | exact DL.kb_NoneType_str | exact DL.kb_NoneType_dict | exact DL.kb_bool_int | exact DL.kb_bool_bool | exact DL.kb_bool_tuple | exact DL.kb_bool_list | exact DL.kb_bool_str | exact DL.kb_bool_dict | exact DL.kb_int_int | exact DL.kb_int_bool | exact DL.kb_int_tuple | exact DL.kb_int_list | exact DL.kb_int_str | exact DL.kb_int_dict | exact DL.kb_str_int | exact DL.kb_str_bool | exact DL.kb_str_tuple | exact DL.kb_str_list | exact DL.kb_str_str | exact DL.kb_str_dict | exact DL.kb_list_int | exact DL.kb_list_bool | exact DL.kb_list_tuple | exact DL.kb_list_list | exact DL.kb_list_str | exact DL.kb_list_dict | exact DL.kb_tuple_int | exact DL.kb_tuple_bool | exact DL.kb_tuple_tuple | exact DL.kb_tuple_list | exact DL.kb_tuple_str | exact DL.kb_tuple_dict | exact DL.kb_dict_int | exact DL.kb_dict_bool | exact DL.kb_dict_tuple | exact DL.kb_dict_list | exact DL.kb_dict_str | exact DL.kb_dict_dict))
local macro_rules | `(tactic| by_place) => `(tactic| (repeat' by_item))
local macro_rules | `(tactic| by_in) => `(tactic| first | (with_reducible assumption) | (with_reducible exact DL.seqD_items) | (show (0 : Int) < _; omega) | (show (0 : Int) < _; decide +kernel) | exact M.mulS (by omega) (by omega) | exact M.mulP (by omega) (by omega) (by omega) | exact M.divS (by omega) (by omega) | exact ⟨by decide, by decide, by decide⟩ | exact ⟨by decide, by decide, by omega⟩ | exact L2.atI_nat (by assumption) | (show L2.atI _ _ = _; rfl))
/-- what the plain mathematics owes the walk -/
structure LawOk (R O : List (List Int)) (U Kp Ra : List Int) (n w : Nat) : Prop where
  sp : PreRank n w R
  pb : PreBasis n w R
  is1 : IsOk n w (basisM R w) R ((rankTo R w).q : Int)
  p1 : PreSolved R U n w
  s1 : ∃ t l, solM R U w = .pt t l ∧ RightOk R U w (.pt t l)
  pb2 : PreBasis (basisM R w).length w (basisM R w)
  is2 : IsOk (basisM R w).length w (basisM (basisM R w) w) (basisM R w) ((w : Int) - ((rankTo R w).q : Int))
  rk1 : RankedOk n w R ((rankTo R w).q : Int)
  rk2 : RankedOk (basisM R w).length w (basisM R w) ((w : Int) - ((rankTo R w).q : Int))
  spO : PreRank n w O
  rkO : RankedOk n w O ((rankTo O w).q : Int)
  both : ∃ b, BothOk n w O Kp Ra (rankTo O w).q b
def spLaw (K : PySem.W.Frag) : Sp := spT K (α := List Int) (fun a => [.rd (dI a)]) (fun ns => LawOk (rowsM ns) (otherM ns) (sumM ns) (keptM ns) (raisedM ns) (zM ns).many (zM ns).width) (fun _ => .sh (.bl true))
section
variable {P : Program} {w : World} {K : PySem.W.Frag} {mg : Str → Option Value} {base : Heap}
theorem scLaw : FnScope ["script", "head", "sizes", "planted", "rows", "sums", "wide", "span", "handed", "mine", "basis", "first", "one", "place", "shares", "digit", "other", "kept", "raised", "further", "j", "fewer", "again"] ["script"] (defScope sLaw) := ⟨rfl, rfl, rfl, by decide +kernel, rfl, by decide +kernel, by decide +kernel⟩
theorem okLaw (T : Txt K mg) (c_LawDigits : Cal P w K mg base 1 "_law_digits" ["cell", "sizes"] (spLawDigits K)) (c_LawCell : Cal P w K mg base 1 "_law_cell" ["script", "k"] (spLawCell K)) (c_LawSizes : Cal P w K mg base 1 "_law_sizes" ["head"] (spLawSizes K)) (c_LawPlanted : Cal P w K mg base 3 "_law_planted" ["script", "head", "sizes"] (spLawPlanted K)) (c_LawRank : Cal P w K mg base 34 "_law_rank" ["rows", "width"] (spLawRank K)) (c_LawIsBasis : Cal P w K mg base 35 "_law_is_basis" ["told", "table", "width", "span"] (spLawIsBasis K)) (c_LawRight : Cal P w K mg base 4 "_law_right" ["table", "right", "barred", "told"] (spLawRight K)) (c_Solved : Cal P w K mg base 36 "solved" ["table", "right"] (spSolved K)) (c_NullBasis : Cal P w K mg base 36 "null_basis" ["table", "width"] (spNullBasis K)) (c_LawRanked : Cal P w K mg base 38 "_law_ranked" ["rows", "wide", "due"] (spLawRanked K)) (c_LawMixed : Cal P w K mg base 1 "_law_mixed" ["rows", "factors"] (spLawMixed K)) (c_LawSum : Cal P w K mg base 1 "_law_sum" ["parts", "tops"] (spLawSum K)) (c_LawLong : Cal P w K mg base 2 "_law_long" ["cell", "many", "top"] (spLawLong K)) (c_LawBothSides : Cal P w K mg base 39 "_law_both_sides" ["rows", "kept", "raised", "span"] (spLawBothSides K)) (c_NullBasis_width_table : CalK P w K mg base 36 "null_basis" ["table", "width"] ["width", "table"] (spNullBasis K) gv_NullBasis_width_table) : Cal P w K mg base 40 "law" ["script"] (spLaw K) := by
  refine cal_mk T.f_Law T.g_Law scLaw (fun vs H Q E h => spT_len (n := 1) (fun _ => rfl) h) (fun _ _ _ _ _ _ us hl => match us, hl with | [_], _ => rfl) (fun cdv A outer s H vs Q E hr h => ?_)
  refine ⟨_, (pss_cons (ps_set (i := 1) scLaw.nd rfl (by first | exact Or.inl rfl | exact Or.inr rfl) (DL.pe_cal c_LawDigits (hr.mono (by decide)) (pa_cons (DL.pe_cal c_LawCell (hr.mono (by decide)) (pa_cons (pv 0) (pa_cons pe_int pa_nil))) (pa_cons (pe_lst (pa_cons pe_int (pa_cons pe_int (pa_cons pe_int (pa_cons pe_int (pa_cons pe_int (pa_cons pe_int (pa_cons pe_int (pa_cons pe_int (pa_cons pe_int (pa_cons pe_int (pa_cons pe_int (pa_cons pe_int pa_nil))))))))))))) pa_nil))))
      (pss_cons (ps_set (i := 2) scLaw.nd rfl (by first | exact Or.inl rfl | exact Or.inr rfl) (DL.pe_cal c_LawSizes (hr.mono (by decide)) (pa_cons (pv 1) pa_nil)))
      (pss_cons (ps_set (i := 3) scLaw.nd rfl (by first | exact Or.inl rfl | exact Or.inr rfl) (DL.pe_cal c_LawPlanted (hr.mono (by decide)) (pa_cons (pv 0) (pa_cons (pv 1) (pa_cons (pv 2) pa_nil)))))
      (pss_cons (ps_set (i := 4) scLaw.nd rfl (by first | exact Or.inl rfl | exact Or.inr rfl) (pe_ix (DL.ix_seqC (K := K) rfl) (pv 3) pe_int (fun _ _ => rfl)))
      (pss_cons (ps_set (i := 5) scLaw.nd rfl (by first | exact Or.inl rfl | exact Or.inr rfl) (pe_ix (DL.ix_seqC (K := K) rfl) (pv 3) pe_int (fun _ _ => rfl)))
      (pss_cons (ps_set (i := 6) scLaw.nd rfl (by first | exact Or.inl rfl | exact Or.inr rfl) (pe_ix (DL.ix_seqC (K := K) rfl) (pv 2) pe_int (fun _ _ => rfl)))
      (pss_cons (ps_set (i := 7) scLaw.nd rfl (by first | exact Or.inl rfl | exact Or.inr rfl) (DL.pe_cal c_LawRank (hr.mono (by decide)) (pa_cons (pv 4) (pa_cons (pv 6) pa_nil))))
      (pss_cons (ps_setLc (i := 8) (own := [("mine", 9)]) (g := gName 9) (by rfl) scLaw.nd rfl rfl (sw_true rfl rfl rfl (by decide +kernel)) (DL.pi_listC (K := K) rfl (pv 4)) (blkOk_by (own := [("mine", 9)]) (by kernel_rfl)) (fun _ _ _ _ _ => (pg_name (i := 9) scLaw.nd rfl (by first | exact Or.inl rfl | exact Or.inr rfl))) (fun _ _ _ _ _ => pts_nil) (fun _ _ _ _ _ => (pe_callTy (DL.call_list_ofC (K := K) rfl) (by rfl) T.b_list (by decide +kernel) (pa_cons (pv 9) pa_nil))))
      (pss_cons (ps_set (i := 10) scLaw.nd rfl (by first | exact Or.inl rfl | exact Or.inr rfl) (DL.pe_calK c_NullBasis_width_table (hr.mono (by decide)) (pk_cons (pv 6) (pk_cons (pv 8) pk_nil))))
      (pss_cons (ps_if (PW.pt (pw_or (pt_not (pt_val (DL.pe_cal c_LawIsBasis (hr.mono (by decide)) (pa_cons (pv 10) (pa_cons (pv 4) (pa_cons (pv 6) (pa_cons (pv 7) pa_nil))))))) (pw_or1 (pt_cmpR (DL.op_neDC (K := K) rfl hr.units) (pv 8) (pv 4) (nomark _)))))
      (pss_one (ps_ret pe_bl))
      pss_nil)
      (pss_cons (ps_setLc (i := 11) (own := [("one", 12)]) (g := gName 12) (by rfl) scLaw.nd rfl rfl (sw_true rfl rfl rfl (by decide +kernel)) (DL.pi_tupC (K := K) rfl (pv 10)) (blkOk_by (own := [("one", 12)]) (by kernel_rfl)) (fun _ _ _ _ _ => (pg_name (i := 12) scLaw.nd rfl (by first | exact Or.inl rfl | exact Or.inr rfl))) (fun _ _ _ _ _ => pts_nil) (fun _ _ _ _ _ => (pe_callTy (DL.call_list_ofC (K := K) rfl) (by rfl) T.b_list (by decide +kernel) (pa_cons (pv 12) pa_nil))))
      (pss_cons (ps_if (pt_not (pt_val (DL.pe_cal c_LawRight (hr.mono (by decide)) (pa_cons (pv 4) (pa_cons (pv 5) (pa_cons pe_bl (pa_cons (DL.pe_cal c_Solved (hr.mono (by decide)) (pa_cons (pe_callTy (DL.call_tuple_ofC (K := K) rfl) (by rfl) T.b_tuple (by decide +kernel) (pa_cons (pe_lc (own := [("mine", 9)]) (g := gName 9) (by rfl) scLaw.nd (DL.pi_listC (K := K) rfl (pv 4)) (blkOk_by (own := [("mine", 9)]) (by kernel_rfl)) (fun _ _ _ _ _ => (pg_name (i := 9) scLaw.nd rfl (by first | exact Or.inl rfl | exact Or.inr rfl))) (fun _ _ _ _ _ => pts_nil) (fun _ _ _ _ _ => (pe_callTy (DL.call_tuple_ofC (K := K) rfl) (by rfl) T.b_tuple (by decide +kernel) (pa_cons (pv 9) pa_nil)))) pa_nil)) (pa_cons (pe_callTy (DL.call_tuple_ofC (K := K) rfl) (by rfl) T.b_tuple (by decide +kernel) (pa_cons (pv 5) pa_nil)) pa_nil))) pa_nil)))))))
      (pss_one (ps_ret pe_bl))
      pss_nil)
      (pss_cons (ps_if (pt_not (pt_val (DL.pe_cal c_LawIsBasis (hr.mono (by decide)) (pa_cons (DL.pe_cal c_NullBasis (hr.mono (by decide)) (pa_cons (pv 10) (pa_cons (pv 6) pa_nil))) (pa_cons (pv 11) (pa_cons (pv 6) (pa_cons (pe_op op_sub (pv 6) (pv 7)) pa_nil)))))))
      (pss_one (ps_ret pe_bl))
      pss_nil)
      (pss_cons (ps_if (PW.pt (pw_or (pt_not (pt_val (DL.pe_cal c_LawRanked (hr.mono (by decide)) (pa_cons (pv 8) (pa_cons (pv 6) (pa_cons (pv 7) pa_nil)))))) (pw_or1 (pt_not (pt_val (DL.pe_cal c_LawRanked (hr.mono (by decide)) (pa_cons (pv 10) (pa_cons (pv 6) (pa_cons (pe_op op_sub (pv 6) (pv 7)) pa_nil)))))))))
      (pss_one (ps_ret pe_bl))
      pss_nil)
      (pss_cons (ps_set (i := 13) scLaw.nd rfl (by first | exact Or.inl rfl | exact Or.inr rfl) (pe_op op_mod (pe_callTy call_int1 (by rfl) T.b_int (by decide +kernel) (pa_cons (pe_ix (DL.ix_seqC (K := K) rfl) (pv 1) pe_int (fun _ _ => rfl)) pa_nil)) (pe_ix (DL.ix_seqC (K := K) rfl) (pv 2) pe_int (fun _ _ => rfl))))
      (pss_cons (ps_setLc (i := 14) (own := [("digit", 15)]) (g := gName 15) (by rfl) scLaw.nd rfl rfl (sw_true rfl rfl rfl (by decide +kernel)) (DL.pi_listC (K := K) rfl (DL.pe_cal c_LawDigits (hr.mono (by decide)) (pa_cons (DL.pe_cal c_LawCell (hr.mono (by decide)) (pa_cons (pv 0) (pa_cons pe_int pa_nil))) (pa_cons (pe_op op_rep (pe_lst (pa_cons pe_int pa_nil)) (pe_ix (DL.ix_seqC (K := K) rfl) (pv 2) pe_int (fun _ _ => rfl))) pa_nil)))) (blkOk_by (own := [("digit", 15)]) (by kernel_rfl)) (fun _ _ _ _ _ => (pg_name (i := 15) scLaw.nd rfl (by first | exact Or.inl rfl | exact Or.inr rfl))) (fun _ _ _ _ _ => pts_nil) (fun _ _ _ _ _ => (pe_op op_sub (pv 15) pe_int)))
      (pss_cons (ps_asg (pe_op op_add (pe_ix (DL.ix_seqC (K := K) rfl) (pv 14) (pe_op op_mod (pe_callTy call_int1 (by rfl) T.b_int (by decide +kernel) (pa_cons (pe_op op_add (pv 13) pe_int) pa_nil)) (pe_ix (DL.ix_seqC (K := K) rfl) (pv 2) pe_int (fun _ _ => rfl))) (fun _ _ => rfl)) pe_int) (pg_sub (pv 14) (pe_op op_mod (pe_callTy call_int1 (by rfl) T.b_int (by decide +kernel) (pa_cons (pe_op op_add (pv 13) pe_int) pa_nil)) (pe_ix (DL.ix_seqC (K := K) rfl) (pv 2) pe_int (fun _ _ => rfl))) set_list))
      (pss_cons (ps_asg pe_int (pg_sub (pv 14) (pv 13) set_list))
      (pss_cons (ps_setLc (i := 16) (own := [("mine", 9)]) (g := gName 9) (by rfl) scLaw.nd rfl rfl (sw_true rfl rfl rfl (by decide +kernel)) (DL.pi_listC (K := K) rfl (pv 4)) (blkOk_by (own := [("mine", 9)]) (by kernel_rfl)) (fun _ _ _ _ _ => (pg_name (i := 9) scLaw.nd rfl (by first | exact Or.inl rfl | exact Or.inr rfl))) (fun _ _ _ _ _ => pts_nil) (fun _ _ _ _ _ => (pe_callTy (DL.call_list_ofC (K := K) rfl) (by rfl) T.b_list (by decide +kernel) (pa_cons (pv 9) pa_nil))))
      (pss_cons (ps_asg (DL.pe_cal c_LawMixed (hr.mono (by decide)) (pa_cons (pv 4) (pa_cons (pv 14) pa_nil))) (pg_sub (pv 16) (pv 13) set_list))
      (pss_cons (ps_set (i := 17) scLaw.nd rfl (by first | exact Or.inl rfl | exact Or.inr rfl) (pe_callTy (DL.call_list_ofC (K := K) rfl) (by rfl) T.b_list (by decide +kernel) (pa_cons (pv 5) pa_nil)))
      (pss_cons (ps_asg (DL.pe_cal c_LawSum (hr.mono (by decide)) (pa_cons (pv 14) (pa_cons (pv 5) pa_nil))) (pg_sub (pv 17) (pv 13) set_list))
      (pss_cons (ps_set (i := 18) scLaw.nd rfl (by first | exact Or.inl rfl | exact Or.inr rfl) (pe_callTy (DL.call_list_ofC (K := K) rfl) (by rfl) T.b_list (by decide +kernel) (pa_cons (pv 17) pa_nil)))
      (pss_cons (ps_set (i := 19) scLaw.nd rfl (by first | exact Or.inl rfl | exact Or.inr rfl) (pe_ix (DL.ix_seqC (K := K) rfl) (DL.pe_cal c_LawLong (hr.mono (by decide)) (pa_cons (DL.pe_cal c_LawCell (hr.mono (by decide)) (pa_cons (pv 0) (pa_cons pe_int pa_nil))) (pa_cons pe_int (pa_cons (pe_ix (DL.ix_seqC (K := K) rfl) (pe_lst (pa_cons pe_int (pa_cons (pe_op op_mulW (pe_op op_mulW (pe_op op_powW (pe_op op_pow pe_int pe_int) pe_int) (pe_op op_pow pe_int pe_int)) pe_int) pa_nil))) (pe_callTy call_int1 (by rfl) T.b_int (by decide +kernel) (pa_cons (pe_ix (DL.ix_seqC (K := K) rfl) (pv 2) pe_int (fun _ _ => rfl)) pa_nil)) (fun _ _ => rfl)) pa_nil)))) pe_int (fun _ _ => rfl)))
      (pss_cons (ps_asg (pe_op op_add (pe_ix (DL.ix_seqC (K := K) rfl) (pv 17) (pv 13) (fun _ _ => rfl)) (pe_op op_mulW (pe_op op_add pe_int (pv 19)) (pe_ix (DL.ix_seqC (K := K) rfl) (pe_lst (pa_cons pe_int (pa_cons (pe_un un_neg pe_int) pa_nil))) (pe_ix (DL.ix_seqC (K := K) rfl) (pv 1) pe_int (fun _ _ => rfl)) (fun _ _ => rfl)))) (pg_sub (pv 18) (pv 13) set_list))
      (pss_cons (ps_set (i := 9) scLaw.nd rfl (by first | exact Or.inl rfl | exact Or.inr rfl) (pe_ix (DL.ix_seqC (K := K) rfl) (pv 8) (pv 13) (fun _ _ => rfl)))
      (pss_cons (ps_for PassesOwn.never rfl (pi_range1 (by rfl) T.b_range (pa_cons (pv 6) pa_nil)) (pg_name (i := 20) scLaw.nd rfl (by first | exact Or.inl rfl | exact Or.inr rfl))
      (pss_one (ps_asg (pe_ix (DL.ix_seqC (K := K) rfl) (pe_ix (DL.ix_seqC (K := K) rfl) (pv 16) (pv 13) (fun _ _ => rfl)) (pv 20) (fun _ _ => rfl)) (pg_sub (pv 9) (pv 20) set_list))))
      (pss_cons (ps_set (i := 21) scLaw.nd rfl (by first | exact Or.inl rfl | exact Or.inr rfl) (DL.pe_cal c_LawRank (hr.mono (by decide)) (pa_cons (pv 16) (pa_cons (pv 6) pa_nil))))
      (pss_cons (ps_if (PW.pt (pw_or (pt_not (pt_val (DL.pe_cal c_LawRanked (hr.mono (by decide)) (pa_cons (pv 8) (pa_cons (pv 6) (pa_cons (pv 21) pa_nil)))))) (pw_or (pt_cmpR (DL.op_neDC (K := K) rfl hr.units) (pv 8) (pv 16) (nomark _)) (pw_or1 (pt_not (pt_val (DL.pe_cal c_LawBothSides (hr.mono (by decide)) (pa_cons (pv 16) (pa_cons (pv 17) (pa_cons (pv 18) (pa_cons (pv 21) pa_nil)))))))))))
      (pss_one (ps_ret pe_bl))
      pss_nil)
      (pss_cons (ps_set (i := 22) scLaw.nd rfl (by first | exact Or.inl rfl | exact Or.inr rfl) (DL.pe_cal c_NullBasis (hr.mono (by decide)) (pa_cons (pv 4) (pa_cons (pv 6) pa_nil))))
      (pss_one (ps_ret (pe_and (DL.pe_cal c_LawIsBasis (hr.mono (by decide)) (pa_cons (pv 22) (pa_cons (pv 4) (pa_cons (pv 6) (pa_cons (pv 7) pa_nil))))) (pe_one (pe_cmpR (DL.op_eqDC (K := K) rfl hr.units) (pe_lc (own := [("one", 12)]) (g := gName 12) (by rfl) scLaw.nd (DL.pi_tupC (K := K) rfl (pv 22)) (blkOk_by (own := [("one", 12)]) (by kernel_rfl)) (fun _ _ _ _ _ => (pg_name (i := 12) scLaw.nd rfl (by first | exact Or.inl rfl | exact Or.inr rfl))) (fun _ _ _ _ _ => pts_nil) (fun _ _ _ _ _ => (pe_callTy (DL.call_list_ofC (K := K) rfl) (by rfl) T.b_list (by decide +kernel) (pa_cons (pv 12) pa_nil)))) (pv 11) (nomark _)))))))))))))))))))))))))))))))))))), ?_⟩
  refine sd_fn h (fun _ => Nat.le_of_ble_eq_true rfl) ?_
  try dsimp only [L2.cxOf]
  intro ns hp
  have hp : LawOk (rowsM ns) (otherM ns) (sumM ns) (keptM ns) (raisedM ns) (zM ns).many (zM ns).width := hp
  have hH := headOk ns
  have hz := zOk ns
  have zm := hz.m
  have zw := hz.w
  have rt := rows_tab ns
  have rb := rows_bd ns
  have sl := sum_len ns
  have sb := sum_bd ns
  have pl := place_lt ns
  have nl := next_lt ns
  have s0l := shares0_len ns
  show SD K _ [.sh (.rd (dI ns)), .no, .no, .no, .no, .no, .no, .no, .no, .no, .no, .no, .no, .no, .no, .no, .no, .no, .no, .no, .no, .no, .no] _
  refine sd_then (sd_asgL (ds := dI (headM ns)) (el_call (cellM ns 0, headSizes) (ea_cons (ed_call (ns, 0) (EvA.is (by by_place) (by rfl)) (by show 0 < 1000; decide) rfl) (EvA.is (by by_place) (by rfl))) (show (∀ s ∈ headSizes, 0 < s ∧ s < 2 ^ 60) ∧ headSizes.length ≤ 1000 from by decide) rfl) (sd_frz (i := 1) rfl rfl ?_))
  show SD K _ [.sh (.rd (dI ns)), .sh (.lst (dI (headM ns))), .no, .no, .no, .no, .no, .no, .no, .no, .no, .no, .no, .no, .no, .no, .no, .no, .no, .no, .no, .no, .no] _
  have hhd : (headM ns).length = 12 := by unfold headM; rw [digitsM_len]; rfl
  have hsz : sizesM (headM ns) = zM ns := rfl
  have hro : tableM ns (headM ns) (zM ns) = rowsM ns := rfl
  have hsu : sumsM ns (headM ns) (zM ns) = sumM ns := rfl
  have hpl : (headM ns).getD 10 0 % ((zM ns).many : Int) = ((placeM ns : Nat) : Int) := by unfold placeM; rw [Int.toNat_of_nonneg (Int.emod_nonneg _ (by omega))]
  have hnx : ((placeM ns : Int) + 1) % ((zM ns).many : Int) = ((nextM ns : Nat) : Int) := by unfold nextM; rw [Int.toNat_of_nonneg (Int.emod_nonneg _ (by omega))]
  have a10 : atI (dI (headM ns)) 10 = some (.int ((headM ns).getD 10 0)) := dI_at (x := 10) (by decide) (by rw [hhd]; decide)
  have a11 : atI (dI (headM ns)) 11 = some (.int ((headM ns).getD 11 0)) := dI_at (x := 11) (by decide) (by rw [hhd]; decide)
  have h11 : 0 ≤ (headM ns).getD 11 0 ∧ (headM ns).getD 11 0 < 2 := by
    obtain ⟨h0, h1, h2, h3, h4, h5, h6, h7, h8, h9, h10, h11, e, b0, b1, b2, b3, b4, b5, b6, b7, b8, b9, b10, b11⟩ := hH.ex
    rw [e]
    exact b11
  have aS : atI [.int 1, .int (-1)] ((headM ns).getD 11 0) = some (DL.D.int (signM ns)) := by
    unfold signM
    have : (headM ns).getD 11 0 = 0 ∨ (headM ns).getD 11 0 = 1 := by omega
    rcases this with h | h
    · rw [h, if_pos rfl]; exact atI_zero
    · rw [h, if_neg (by decide)]; exact atI_one
  generalize hHd : headM ns = hd at *
  refine sd_then (sd_asgL (ds := szD (zM ns)) (el_call hd (by by_place) hH (by show Ret.ow (szD (sizesM hd)) = _; rw [hsz])) (sd_frz (i := 2) rfl rfl ?_))
  have s0 : atI (szD (zM ns)) 0 = some (.int (zM ns).many) := atI_zero
  have s1 : atI (szD (zM ns)) 1 = some (.int (zM ns).width) := atI_one
  have s3 : atI (szD (zM ns)) 3 = some (.bl (zM ns).big) := rfl
  show SD K _ [.sh (.rd (dI ns)), .sh (.lst (dI hd)), .sh (.lst (szD (zM ns))), .no, .no, .no, .no, .no, .no, .no, .no, .no, .no, .no, .no, .no, .no, .no, .no, .no, .no, .no, .no] _
  refine sd_then (sd_asgL (ds := [.lst (dT (rowsM ns)), .lst (dI (sumM ns))]) (el_call (ns, hd, zM ns) (by by_place) ⟨hH, hz⟩ (by show Ret.ow [.lst (dT (tableM ns hd (zM ns))), .lst (dI (sumsM ns hd (zM ns)))] = _; rw [hro, hsu])) (sd_frz (i := 3) rfl rfl ?_))
  generalize hS : szD (zM ns) = S at s0 s1 s3
  have fA := fur_at (zM ns)
  have fT := furTop_pos (zM ns)
  have fS := furTop_sm (zM ns)
  have fur : (longM (cellM ns 33) 1 (furTop (zM ns))).getD 0 0 = furM ns := rfl
  have fb := fur_lt ns
  have dsm := toSm (dot_bd' ns) (by decide)
  have mb : ∀ x ∈ mixedM (rowsM ns) (sharesM ns), Sm 1400 x := fun x hx => toSm (mix_bd ns x hx) (by decide)
  have ml := mix_len ns
  have shl := shares_len ns
  have shb := shares_bd ns
  have rsm : ∀ r ∈ rowsM ns, ∀ x ∈ r, Sm 1400 x := fun r hr x hx => toSm (rb r hr x hx) (by decide)
  have ssm : ∀ x ∈ sumM ns, Sm 1400 x := fun x hx => toSm (sb x hx) (by decide)
  have hsh : sharesM ns = ((shares0 ns).set (nextM ns) ((shares0 ns).getD (nextM ns) 0 + 3)).set (placeM ns) 0 := rfl
  have hot : otherM ns = (rowsM ns).set (placeM ns) (mixedM (rowsM ns) (sharesM ns)) := rfl
  have hke : keptM ns = (sumM ns).set (placeM ns) (dotL (sharesM ns) (sumM ns)) := rfl
  have hra : raisedM ns = (keptM ns).set (placeM ns) (dotL (sharesM ns) (sumM ns) + (1 + furM ns) * signM ns) := rfl
  have hs0 : shares0 ns = (digitsM (cellM ns 32) (List.replicate (zM ns).many 5)).map fun x => x - 2 := rfl
  have kl := kept_len ns
  have hsg0 : Sm 10 (signM ns) := by unfold signM Sm; split <;> decide
  generalize hMany : (zM ns).many = many at *
  generalize hWidth : (zM ns).width = width at *
  generalize rowsM ns = R at *
  generalize sumM ns = U at *
  generalize placeM ns = pl0 at *
  generalize nextM ns = nx0 at *
  generalize shares0 ns = sh0 at *
  generalize sharesM ns = sh1 at *
  generalize otherM ns = O at *
  generalize keptM ns = Kp at *
  generalize raisedM ns = Ra at *
  generalize furTop (zM ns) = ft at *
  generalize furM ns = fu at *
  generalize signM ns = sg1 at *
  have hsg : Sm 10 sg1 := hsg0
  generalize (zM ns).big = big at *
  obtain ⟨lsp, lpb, lis1, lp1, ⟨t1, l1, e1, r1⟩, lpb2, lis2, lrk1, lrk2, lspO, lrkO, ⟨bb, lboth⟩⟩ := hp
  have shR := sh_dT R
  have shO := sh_dT O
  have shB := sh_dT (basisM R width)
  have Bl := lis1.b1
  generalize hB : basisM R width = B at *
  have nB := noL_tT B
  generalize hq : (rankTo R width).q = q at *
  generalize hqO : (rankTo O width).q = qO at *
  have On : O.length = R.length := by rw [hot, List.length_set]
  have Rn := rt.n
  show SD K _ [.sh (.rd (dI ns)), .sh (.lst (dI hd)), .sh (.lst S), .sh (.lst [.lst (dT R), .lst (dI U)]), .no, .no, .no, .no, .no, .no, .no, .no, .no, .no, .no, .no, .no, .no, .no, .no, .no, .no, .no] _
  refine sd_then (sd_asg (d := .lst (dT R)) (by by_place) ?_)
  refine sd_then (sd_asg (d := .lst (dI U)) (by by_place) ?_)
  refine sd_then (sd_asg (d := .int width) (by by_place) ?_)
  show SD K _ [.sh (.rd (dI ns)), .sh (.lst (dI hd)), .sh (.lst S), .sh (.lst [.lst (dT R), .lst (dI U)]), .sh (.lst (dT R)), .sh (.lst (dI U)), .sh (.int width), .no, .no, .no, .no, .no, .no, .no, .no, .no, .no, .no, .no, .no, .no, .no, .no] _
  refine sd_then (sd_asg (d := .int (q : Int)) (ed_call (false, many, width, R) (EvA.is (by by_place) (by rfl)) lsp (by show Ret.sh (.int ((rankTo R width).q : Int)) = _; rw [hq])) ?_)
  show SD K _ [.sh (.rd (dI ns)), .sh (.lst (dI hd)), .sh (.lst S), .sh (.lst [.lst (dT R), .lst (dI U)]), .sh (.lst (dT R)), .sh (.lst (dI U)), .sh (.int width), .sh (.int (q : Int)), .no, .no, .no, .no, .no, .no, .no, .no, .no, .no, .no, .no, .no, .no, .no] _
  refine sd_then (sd_asgLL (ell_copy (i := 9) (rows := R) (by by_place) (by decide) (by omega) fun r => el_cb (by by_place) (cl_list rfl)) fun p qs hqs => ?_)
  rw [List.length_map, Rn] at hqs
  show SD K _ [.sh (.rd (dI ns)), .sh (.lst (dI hd)), .sh (.lst S), .sh (.lst [.lst (dT R), .lst (dI U)]), .sh (.lst (dT R)), .sh (.lst (dI U)), .sh (.int width), .sh (.int (q : Int)), .oo p qs (R.map dI), .no, .no, .no, .no, .no, .no, .no, .no, .no, .no, .no, .no, .no, .no] _
  have gvB : ∀ (X : List (List Int)) (H : Hp) (zs : List V), Rps K H zs [.int width, .lst ((X.map dI).map DL.D.lst)] → Rps K H (gv_NullBasis_width_table zs) [tabD false X, .int width] := fun X H zs r => by
    cases r with
    | cons ra r =>
      cases r with
      | cons rb r =>
        cases r
        rw [frz_oo] at rb
        exact .cons rb (.cons ra .nil)
  refine sd_then (sd_asgS (d := .tup (tT B)) (evs_noL (ed_callK0 (bs := [.int width, .lst ((R.map dI).map DL.D.lst)]) (false, many, width, R) (by by_place) rfl (gvB R) lpb (by show Ret.sh (.tup (tT (basisM R width))) = _; rw [hB])) nB) ?_)
  show SD K _ [.sh (.rd (dI ns)), .sh (.lst (dI hd)), .sh (.lst S), .sh (.lst [.lst (dT R), .lst (dI U)]), .sh (.lst (dT R)), .sh (.lst (dI U)), .sh (.int width), .sh (.int (q : Int)), .oo p qs (R.map dI), .no, .sh (.tup (tT B)), .no, .no, .no, .no, .no, .no, .no, .no, .no, .no, .no, .no] _
  refine sd_then (sd_if (x := false) (et_orF (EvT.is (et_not (x := true) (et_B (ed_call (many, width, B, R, (q : Int)) (EvA.is (by by_place) (by rfl)) lis1 rfl))) (by rfl)) (et_test (ed_op (a := .lst (dT R)) (EvD.is (by by_place) (by rw [frz_oo])) (by by_place) (od_neSame shR shR (by decide) rfl)))) (fun h => by cases h) (fun _ => sd_next ?_))
  show SD K _ [.sh (.rd (dI ns)), .sh (.lst (dI hd)), .sh (.lst S), .sh (.lst [.lst (dT R), .lst (dI U)]), .sh (.lst (dT R)), .sh (.lst (dI U)), .sh (.int width), .sh (.int (q : Int)), .oo p qs (R.map dI), .no, .sh (.tup (tT B)), .no, .no, .no, .no, .no, .no, .no, .no, .no, .no, .no, .no] _
  refine sd_then (sd_asgL (ds := dT B) (el_lists (i := 12) (by by_place) (by decide) (by omega) fun r hr => el_cb (by by_place) (cl_list rfl)) (sd_frz (i := 11) rfl rfl ?_))
  show SD K _ [.sh (.rd (dI ns)), .sh (.lst (dI hd)), .sh (.lst S), .sh (.lst [.lst (dT R), .lst (dI U)]), .sh (.lst (dT R)), .sh (.lst (dI U)), .sh (.int width), .sh (.int (q : Int)), .oo p qs (R.map dI), .no, .sh (.tup (tT B)), .sh (.lst (dT B)), .no, .no, .no, .no, .no, .no, .no, .no, .no, .no, .no] _
  refine sd_then (sd_if (x := false) (EvT.is (et_not (x := true) (et_B (ed_call (R, U, width, .pt t1 l1) (EvA.is (ea_cons (by by_place) (ea_cons (by by_place) (ea_cons (by by_place) (ea_cons (ed_call (true, true, R, U, many, width) (EvA.is (ea_cons (ed_cb (ea_cons (EvL.data (el_tups (i := 9) (rows := R) (by by_place) (by decide) (by omega) fun r hr => ed_cb (by by_place) (cd_tuple rfl))) ea_nil) (cd_tuple rfl)) (ea_cons (ed_cb (by by_place) (cd_tuple rfl)) ea_nil)) (by rfl)) lp1 (by show Ret.sh (solD K (solM R U width)) = _; rw [e1])) ea_nil)))) (by rfl)) r1 rfl))) (by rfl)) (fun h => by cases h) (fun _ => sd_next ?_))
  show SD K _ [.sh (.rd (dI ns)), .sh (.lst (dI hd)), .sh (.lst S), .sh (.lst [.lst (dT R), .lst (dI U)]), .sh (.lst (dT R)), .sh (.lst (dI U)), .sh (.int width), .sh (.int (q : Int)), .oo p qs (R.map dI), .no, .sh (.tup (tT B)), .sh (.lst (dT B)), .no, .no, .no, .no, .no, .no, .no, .no, .no, .no, .no] _
  refine sd_then (sd_if (x := false) (EvT.is (et_not (x := true) (et_B (ed_call (B.length, width, basisM B width, B, (width : Int) - (q : Int)) (EvA.is (ea_cons (ed_call (true, B.length, width, B) (EvA.is (by by_place) (by rfl)) lpb2 rfl) (by by_place)) (by rfl)) lis2 rfl))) (by rfl)) (fun h => by cases h) (fun _ => sd_next ?_))
  show SD K _ [.sh (.rd (dI ns)), .sh (.lst (dI hd)), .sh (.lst S), .sh (.lst [.lst (dT R), .lst (dI U)]), .sh (.lst (dT R)), .sh (.lst (dI U)), .sh (.int width), .sh (.int (q : Int)), .oo p qs (R.map dI), .no, .sh (.tup (tT B)), .sh (.lst (dT B)), .no, .no, .no, .no, .no, .no, .no, .no, .no, .no, .no] _
  refine sd_then (sd_if (x := false) (et_orF (EvT.is (et_not (x := true) (et_B (ed_call (false, many, width, R, (q : Int)) (EvA.is (by by_place) (by rw [frz_oo]; rfl)) lrk1 rfl))) (by rfl)) (EvT.is (et_not (x := true) (et_B (ed_call (true, B.length, width, B, (width : Int) - (q : Int)) (EvA.is (by by_place) (by rfl)) lrk2 rfl))) (by rfl))) (fun h => by cases h) (fun _ => sd_next ?_))
  show SD K _ [.sh (.rd (dI ns)), .sh (.lst (dI hd)), .sh (.lst S), .sh (.lst [.lst (dT R), .lst (dI U)]), .sh (.lst (dT R)), .sh (.lst (dI U)), .sh (.int width), .sh (.int (q : Int)), .oo p qs (R.map dI), .no, .sh (.tup (tT B)), .sh (.lst (dT B)), .no, .no, .no, .no, .no, .no, .no, .no, .no, .no, .no] _
  refine sd_then (sd_asg (d := .int (pl0 : Int)) (EvD.is (by by_place <;> by_in) (by rw [hpl])) ?_)
  show SD K _ [.sh (.rd (dI ns)), .sh (.lst (dI hd)), .sh (.lst S), .sh (.lst [.lst (dT R), .lst (dI U)]), .sh (.lst (dT R)), .sh (.lst (dI U)), .sh (.int width), .sh (.int (q : Int)), .oo p qs (R.map dI), .no, .sh (.tup (tT B)), .sh (.lst (dT B)), .no, .sh (.int (pl0 : Int)), .no, .no, .no, .no, .no, .no, .no, .no, .no] _
  refine sd_then (sd_asgL (ds := dI sh0) (EvL.is (el_mapI (i := 15) (fun x => x - 2) (EvL.data (el_call (cellM ns 32, List.replicate many 5) (ea_cons (ed_call (ns, 32) (EvA.is (by by_place) (by rfl)) (by show 32 < 1000; decide) rfl) (ea_cons (EvL.data (el_rep (by by_place) (by by_place) (by omega))) ea_nil)) (digs_pre (by decide) (by decide) (by omega)) rfl)) (by decide) (by rw [digitsM_len, List.length_replicate]; omega) fun x hx => by by_place) (by rw [hs0])) ?_)
  show SD K _ [.sh (.rd (dI ns)), .sh (.lst (dI hd)), .sh (.lst S), .sh (.lst [.lst (dT R), .lst (dI U)]), .sh (.lst (dT R)), .sh (.lst (dI U)), .sh (.int width), .sh (.int (q : Int)), .oo p qs (R.map dI), .no, .sh (.tup (tT B)), .sh (.lst (dT B)), .no, .sh (.int (pl0 : Int)), .ow (dI sh0), .no, .no, .no, .no, .no, .no, .no, .no] _
  have gsh := dI_get (get_getD (l := sh0) (i := nx0) 0 (by omega))
  have gat : atI (dI sh0) (((pl0 : Int) + 1) % (many : Int)) = some (.int (sh0.getD nx0 0)) := by rw [hnx]; exact atI_nat gsh
  refine sd_then (sd_setF (i := 14) (m := nx0) (d := .int (sh0.getD nx0 0 + 3)) rfl (by by_place <;> by_in) rfl (EvD.is (by by_place <;> by_in) (by rw [hnx])) (by rw [List.length_map]; omega) ?_)
  rw [dI_set]
  show SD K _ [.sh (.rd (dI ns)), .sh (.lst (dI hd)), .sh (.lst S), .sh (.lst [.lst (dT R), .lst (dI U)]), .sh (.lst (dT R)), .sh (.lst (dI U)), .sh (.int width), .sh (.int (q : Int)), .oo p qs (R.map dI), .no, .sh (.tup (tT B)), .sh (.lst (dT B)), .no, .sh (.int (pl0 : Int)), .ow (dI (sh0.set nx0 (sh0.getD nx0 0 + 3))), .no, .no, .no, .no, .no, .no, .no, .no] _
  refine sd_then (sd_setF (i := 14) (m := pl0) (d := .int 0) rfl (by by_place) rfl (by by_place) (by rw [List.length_map, List.length_set]; omega) ?_)
  rw [dI_set, ← hsh]
  refine sd_frz (i := 14) rfl rfl ?_
  show SD K _ [.sh (.rd (dI ns)), .sh (.lst (dI hd)), .sh (.lst S), .sh (.lst [.lst (dT R), .lst (dI U)]), .sh (.lst (dT R)), .sh (.lst (dI U)), .sh (.int width), .sh (.int (q : Int)), .oo p qs (R.map dI), .no, .sh (.tup (tT B)), .sh (.lst (dT B)), .no, .sh (.int (pl0 : Int)), .sh (.lst (dI sh1)), .no, .no, .no, .no, .no, .no, .no, .no] _
  refine sd_then (sd_asgL (ds := dT R) (EvL.is (el_mapL (i := 9) (fun r => r) (by by_place) (by decide) (by omega) fun r hr => el_cb (by by_place) (cl_list rfl)) (by rw [List.map_id'])) ?_)
  show SD K _ [.sh (.rd (dI ns)), .sh (.lst (dI hd)), .sh (.lst S), .sh (.lst [.lst (dT R), .lst (dI U)]), .sh (.lst (dT R)), .sh (.lst (dI U)), .sh (.int width), .sh (.int (q : Int)), .oo p qs (R.map dI), .no, .sh (.tup (tT B)), .sh (.lst (dT B)), .no, .sh (.int (pl0 : Int)), .sh (.lst (dI sh1)), .no, .ow (dT R), .no, .no, .no, .no, .no, .no] _
  have hd0 : (R.headD []).length = width := rt.head (by omega)
  refine sd_then (sd_set (i := 16) (m := pl0) (d := .lst (dI (mixedM R sh1))) rfl (EvL.data (el_call (false, R, sh1) (EvA.is (by by_place) (by rfl)) ⟨fun z => ?_, fun r hr => by rw [hd0]; exact rt.w r hr, by show R.length ≤ sh1.length; omega, by show R.length ≤ 10000; omega, by show (R.headD []).length ≤ 10000; omega, fun r hr x hx => (rsm r hr x hx).mono (by decide), fun x hx => (shb x hx).smL 10 (by decide) (by decide)⟩ rfl)) (by by_place) (by rw [dT_len]; omega) ?_)
  · rw [show R = [] from z] at Rn
    simp at Rn
    omega
  rw [dT_set, ← hot]
  refine sd_frz (i := 16) rfl rfl ?_
  show SD K _ [.sh (.rd (dI ns)), .sh (.lst (dI hd)), .sh (.lst S), .sh (.lst [.lst (dT R), .lst (dI U)]), .sh (.lst (dT R)), .sh (.lst (dI U)), .sh (.int width), .sh (.int (q : Int)), .oo p qs (R.map dI), .no, .sh (.tup (tT B)), .sh (.lst (dT B)), .no, .sh (.int (pl0 : Int)), .sh (.lst (dI sh1)), .no, .sh (.lst (dT O)), .no, .no, .no, .no, .no, .no] _
  refine sd_then (sd_asgL (ds := dI U) (el_cb (by by_place) (cl_list rfl)) ?_)
  show SD K _ [.sh (.rd (dI ns)), .sh (.lst (dI hd)), .sh (.lst S), .sh (.lst [.lst (dT R), .lst (dI U)]), .sh (.lst (dT R)), .sh (.lst (dI U)), .sh (.int width), .sh (.int (q : Int)), .oo p qs (R.map dI), .no, .sh (.tup (tT B)), .sh (.lst (dT B)), .no, .sh (.int (pl0 : Int)), .sh (.lst (dI sh1)), .no, .sh (.lst (dT O)), .ow (dI U), .no, .no, .no, .no, .no] _
  refine sd_then (sd_setF (i := 17) (m := pl0) (d := .int (dotL sh1 U)) rfl (ed_call (false, false, sh1, U) (EvA.is (by by_place) (by rfl)) ⟨by show sh1.length ≤ U.length; omega, by show sh1.length ≤ 10000; omega, fun x hx => (shb x hx).smL 10 (by decide) (by decide), fun x hx => (ssm x hx).mono (by decide)⟩ rfl) rfl (by by_place) (by rw [List.length_map]; omega) ?_)
  rw [dI_set, ← hke]
  refine sd_frz (i := 17) rfl rfl ?_
  show SD K _ [.sh (.rd (dI ns)), .sh (.lst (dI hd)), .sh (.lst S), .sh (.lst [.lst (dT R), .lst (dI U)]), .sh (.lst (dT R)), .sh (.lst (dI U)), .sh (.int width), .sh (.int (q : Int)), .oo p qs (R.map dI), .no, .sh (.tup (tT B)), .sh (.lst (dT B)), .no, .sh (.int (pl0 : Int)), .sh (.lst (dI sh1)), .no, .sh (.lst (dT O)), .sh (.lst (dI Kp)), .no, .no, .no, .no, .no] _
  refine sd_then (sd_asgL (ds := dI Kp) (el_cb (by by_place) (cl_list rfl)) ?_)
  show SD K _ [.sh (.rd (dI ns)), .sh (.lst (dI hd)), .sh (.lst S), .sh (.lst [.lst (dT R), .lst (dI U)]), .sh (.lst (dT R)), .sh (.lst (dI U)), .sh (.int width), .sh (.int (q : Int)), .oo p qs (R.map dI), .no, .sh (.tup (tT B)), .sh (.lst (dT B)), .no, .sh (.int (pl0 : Int)), .sh (.lst (dI sh1)), .no, .sh (.lst (dT O)), .sh (.lst (dI Kp)), .ow (dI Kp), .no, .no, .no, .no] _
  have p1' := po1
  have p3' := po3
  have p8' := po8
  have p9' := po9
  have p10' := po10
  have fur0 : atI (dI (longM (cellM ns 33) 1 ft)) 0 = some (.int fu) := by
    rw [← fur]
    exact dI_at (x := 0) (by decide) (by rw [longM_len]; decide)
  refine sd_then (sd_asg (d := .int fu) (ed_op (EvL.data (el_call (cellM ns 33, 1, ft) (ea_cons (ed_call (ns, 33) (EvA.is (by by_place) (by rfl)) (by show 33 < 1000; decide) rfl) (EvA.is (ea_cons (by by_place) (ea_cons (by by_place <;> by_in) ea_nil)) (by rfl))) ⟨fT, fS.mono (by decide), by show 1 ≤ 1000; decide⟩ rfl)) (by by_place) (od_ix rfl fur0)) ?_)
  clear p1' p3' p8' p9' p10'
  show SD K _ [.sh (.rd (dI ns)), .sh (.lst (dI hd)), .sh (.lst S), .sh (.lst [.lst (dT R), .lst (dI U)]), .sh (.lst (dT R)), .sh (.lst (dI U)), .sh (.int width), .sh (.int (q : Int)), .oo p qs (R.map dI), .no, .sh (.tup (tT B)), .sh (.lst (dT B)), .no, .sh (.int (pl0 : Int)), .sh (.lst (dI sh1)), .no, .sh (.lst (dT O)), .sh (.lst (dI Kp)), .ow (dI Kp), .sh (.int fu), .no, .no, .no] _
  have gk : (dI Kp)[pl0]? = some (.int (dotL sh1 U)) := dI_get (by rw [hke, List.getElem?_set_self (by omega)])
  have cs : CMulW (1 + fu) sg1 := by
    have f1 : Sm 1401 (1 + fu) := Sm.add ((show Sm 1 1 by unfold Sm; decide).mono (by decide)) (by
      unfold Sm at fS ⊢
      omega)
    have f2 : Sm 10 sg1 := hsg
    exact f1.mulW f2 (by decide)
  refine sd_then (sd_setF (i := 18) (m := pl0) (d := .int (dotL sh1 U + (1 + fu) * sg1)) rfl (by by_place <;> by_in) rfl (by by_place) (by rw [List.length_map]; omega) ?_)
  rw [dI_set, ← hra]
  refine sd_frz (i := 18) rfl rfl ?_
  show SD K _ [.sh (.rd (dI ns)), .sh (.lst (dI hd)), .sh (.lst S), .sh (.lst [.lst (dT R), .lst (dI U)]), .sh (.lst (dT R)), .sh (.lst (dI U)), .sh (.int width), .sh (.int (q : Int)), .oo p qs (R.map dI), .no, .sh (.tup (tT B)), .sh (.lst (dT B)), .no, .sh (.int (pl0 : Int)), .sh (.lst (dI sh1)), .no, .sh (.lst (dT O)), .sh (.lst (dI Kp)), .sh (.lst (dI Ra)), .sh (.int fu), .no, .no, .no] _
  -- the table handed is changed in its place
  have q0 : qs[pl0]? = some (qs[pl0]'(by omega)) := List.getElem?_eq_getElem _
  generalize hqq : qs[pl0]'(by omega) = qa at q0
  refine sd_then (sd_asgAl (j := 8) (kk := (pl0 : Int)) rfl (by by_place) (atI_nat q0) ?_)
  show SD K _ [.sh (.rd (dI ns)), .sh (.lst (dI hd)), .sh (.lst S), .sh (.lst [.lst (dT R), .lst (dI U)]), .sh (.lst (dT R)), .sh (.lst (dI U)), .sh (.int width), .sh (.int (q : Int)), .oo p qs (R.map dI), .al qa, .sh (.tup (tT B)), .sh (.lst (dT B)), .no, .sh (.int (pl0 : Int)), .sh (.lst (dI sh1)), .no, .sh (.lst (dT O)), .sh (.lst (dI Kp)), .sh (.lst (dI Ra)), .sh (.int fu), .no, .no, .no] _
  have er : R[pl0]? = some (R.getD pl0 []) := get_getD [] (by omega)
  have lr : (R.getD pl0 []).length = width := rt.row pl
  generalize hr0 : R.getD pl0 [] = r0 at er lr
  have eo : O[pl0]? = some (mixedM R sh1) := by rw [hot, List.getElem?_set_self (by omega)]
  generalize hmx : mixedM R sh1 = mx at eo ml hot
  have go := dT_get eo
  have hov0 : R.set pl0 (over 0 mx r0) = R := by
    apply List.ext_getElem?
    intro k
    by_cases hk : k = pl0
    · rw [hk, List.getElem?_set_self (by omega), er]
      rfl
    · rw [List.getElem?_set_ne (Ne.symm hk)]
  refine sd_cut (fun ρ => ρ = [.sh (.rd (dI ns)), .sh (.lst (dI hd)), .sh (.lst S), .sh (.lst [.lst (dT R), .lst (dI U)]), .sh (.lst (dT R)), .sh (.lst (dI U)), .sh (.int width), .sh (.int (q : Int)), .oo p qs (O.map dI), .al qa, .sh (.tup (tT B)), .sh (.lst (dT B)), .no, .sh (.int (pl0 : Int)), .sh (.lst (dI sh1)), .no, .sh (.lst (dT O)), .sh (.lst (dI Kp)), .sh (.lst (dI Ra)), .sh (.int fu), .no, .no, .no])
    (sd_forRn [20] (z := (width : Int)) (by by_place) (by omega) (fun m ρ => ρ = [.sh (.rd (dI ns)), .sh (.lst (dI hd)), .sh (.lst S), .sh (.lst [.lst (dT R), .lst (dI U)]), .sh (.lst (dT R)), .sh (.lst (dI U)), .sh (.int width), .sh (.int (q : Int)), .oo p qs ((R.set pl0 (over m mx r0)).map dI), .al qa, .sh (.tup (tT B)), .sh (.lst (dT B)), .no, .sh (.int (pl0 : Int)), .sh (.lst (dI sh1)), .no, .sh (.lst (dT O)), .sh (.lst (dI Kp)), .sh (.lst (dI Ra)), .sh (.int fu), .no, .no, .no]) ?_ (fun m ρ hm hI => ?_) (fun ρ hI => ?_)) (fun ρ hM => ?_)
  · show [_, _, _, _, _, _, _, _, _, _, _, _, _, _, _, _, _, _, _, _, _, _, _] = _
    rw [hov0]
  · subst hI
    have hm : m < width := by omega
    refine ⟨rfl, ?_⟩
    have em : mx[m]? = some (mx.getD m 0) := get_getD 0 (by omega)
    have gm := dI_get em
    have d1 : ((R.set pl0 (over m mx r0)).map dI)[pl0]? = some (dI (over m mx r0)) := by rw [List.getElem?_map, List.getElem?_set_self (by omega)]; rfl
    have lo : (over m mx r0).length = width := by rw [over_len _ _ _ (by omega) (by omega)]; exact ml
    show SD K _ [.sh (.rd (dI ns)), .sh (.lst (dI hd)), .sh (.lst S), .sh (.lst [.lst (dT R), .lst (dI U)]), .sh (.lst (dT R)), .sh (.lst (dI U)), .sh (.int width), .sh (.int (q : Int)), .oo p qs ((R.set pl0 (over m mx r0)).map dI), .al qa, .sh (.tup (tT B)), .sh (.lst (dT B)), .no, .sh (.int (pl0 : Int)), .sh (.lst (dI sh1)), .no, .sh (.lst (dT O)), .sh (.lst (dI Kp)), .sh (.lst (dI Ra)), .sh (.int fu), .sh (.int m), .no, .no] _
    refine sd_setIn (j := 9) (i := 8) (kk := pl0) (m := m) (d := .int (mx.getD m 0)) rfl rfl q0 d1 (evs_flat (by by_place)) (by by_place) (by rw [List.length_map]; omega) ?_
    show [_, _, _, _, _, _, _, _, _, _, _, _, _, _, _, _, _, _, _, _, _, _, _] = _
    rw [dI_set, rows_set, over_set _ _ _ _ em (by omega), List.set_set]
  · subst hI
    show [_, _, _, _, _, _, _, _, _, _, _, _, _, _, _, _, _, _, _, _, _, _, _] = _
    rw [Int.toNat_natCast, ← ml, over_all _ _ (by omega), ← hot]
  · subst hM
    refine sd_forget 9 ?_
    show SD K _ [.sh (.rd (dI ns)), .sh (.lst (dI hd)), .sh (.lst S), .sh (.lst [.lst (dT R), .lst (dI U)]), .sh (.lst (dT R)), .sh (.lst (dI U)), .sh (.int width), .sh (.int (q : Int)), .oo p qs (O.map dI), .no, .sh (.tup (tT B)), .sh (.lst (dT B)), .no, .sh (.int (pl0 : Int)), .sh (.lst (dI sh1)), .no, .sh (.lst (dT O)), .sh (.lst (dI Kp)), .sh (.lst (dI Ra)), .sh (.int fu), .no, .no, .no] _
    refine sd_then (sd_asg (d := .int (qO : Int)) (ed_call (false, many, width, O) (EvA.is (by by_place) (by rfl)) lspO (by show Ret.sh (.int ((rankTo O width).q : Int)) = _; rw [hqO])) ?_)
    show SD K _ [.sh (.rd (dI ns)), .sh (.lst (dI hd)), .sh (.lst S), .sh (.lst [.lst (dT R), .lst (dI U)]), .sh (.lst (dT R)), .sh (.lst (dI U)), .sh (.int width), .sh (.int (q : Int)), .oo p qs (O.map dI), .no, .sh (.tup (tT B)), .sh (.lst (dT B)), .no, .sh (.int (pl0 : Int)), .sh (.lst (dI sh1)), .no, .sh (.lst (dT O)), .sh (.lst (dI Kp)), .sh (.lst (dI Ra)), .sh (.int fu), .no, .sh (.int (qO : Int)), .no] _
    refine sd_then (sd_if (x := false) (et_orF (EvT.is (et_not (x := true) (et_B (ed_call (false, many, width, O, (qO : Int)) (EvA.is (by by_place) (by rw [frz_oo]; rfl)) lrkO rfl))) (by rfl)) (et_orF (et_test (ed_op (a := .lst (dT O)) (EvD.is (by by_place) (by rw [frz_oo])) (by by_place) (od_neSame shO shO (by decide) rfl))) (EvT.is (et_not (x := true) (et_B (ed_call (many, width, O, Kp, Ra, qO, bb) (EvA.is (by by_place) (by rfl)) lboth rfl))) (by rfl)))) (fun h => by cases h) (fun _ => sd_next ?_))
    refine sd_forget 8 ?_
    show SD K _ [.sh (.rd (dI ns)), .sh (.lst (dI hd)), .sh (.lst S), .sh (.lst [.lst (dT R), .lst (dI U)]), .sh (.lst (dT R)), .sh (.lst (dI U)), .sh (.int width), .sh (.int (q : Int)), .no, .no, .sh (.tup (tT B)), .sh (.lst (dT B)), .no, .sh (.int (pl0 : Int)), .sh (.lst (dI sh1)), .no, .sh (.lst (dT O)), .sh (.lst (dI Kp)), .sh (.lst (dI Ra)), .sh (.int fu), .no, .sh (.int (qO : Int)), .no] _
    refine sd_then (sd_asg (d := .tup (tT B)) (ed_call (false, many, width, R) (EvA.is (by by_place) (by rfl)) lpb (by show Ret.sh (.tup (tT (basisM R width))) = _; rw [hB])) ?_)
    show SD K _ [.sh (.rd (dI ns)), .sh (.lst (dI hd)), .sh (.lst S), .sh (.lst [.lst (dT R), .lst (dI U)]), .sh (.lst (dT R)), .sh (.lst (dI U)), .sh (.int width), .sh (.int (q : Int)), .no, .no, .sh (.tup (tT B)), .sh (.lst (dT B)), .no, .sh (.int (pl0 : Int)), .sh (.lst (dI sh1)), .no, .sh (.lst (dT O)), .sh (.lst (dI Kp)), .sh (.lst (dI Ra)), .sh (.int fu), .no, .sh (.int (qO : Int)), .sh (.tup (tT B))] _
    refine sd_ret (d := .bl true) (EvD.is (ed_andV (x := true) (y := true) (ed_call (many, width, B, R, (q : Int)) (EvA.is (by by_place) (by rfl)) lis1 rfl) fun _ => ed_op (EvL.data (el_lists (i := 12) (rows := B) (by by_place) (by decide) (by omega) fun r hr => el_cb (by by_place) (cl_list rfl))) (by by_place) (od_eqSame shB shB (by decide) rfl)) (by rfl)) rfl
end
end K02

set_option Elab.async false
set_option linter.all false
set_option maxRecDepth 100000
set_option maxHeartbeats 4000000
set_option exponentiation.threshold 300
/-! the answers of solved are right -/
namespace LS
open L2 M DL
section
variable {n width B : Nat} {L : Nat → Nat → Int} {s : El}
theorem drop_getD (l : List Int) (k i : Nat) : (l.drop k).getD i 0 = l.getD (k + i) 0 := by
  rw [List.getD_eq_getElem?_getD, List.getD_eq_getElem?_getD, List.getElem?_drop]
theorem bar_none (h : EInv n width L s width) (hb : barM s width = none) {k : Nat} (hk : k < n) (hu : k ∉ s.us) : En s.es k width = 0 := by
  unfold barM at hb
  cases hf : (List.range s.es.length).find? (barT s.es s.us width) with
  | some k => rw [hf] at hb; simp only [] at hb; split at hb <;> cases hb
  | none =>
    have h1 := List.find?_eq_none.mp hf k (List.mem_range.mpr (by rw [h.tab.n]; exact hk))
    unfold barT at h1
    have h2 : s.us.contains k = false := by
      cases e : s.us.contains k with
      | false => rfl
      | true => exact absurd (List.contains_iff_mem.mp e) hu
    rw [h2] at h1
    simpa [En] using h1
theorem bar_some (h : EInv n width L s width) (hB : 1 ≤ B) (hL : ∀ k, k < n → ∀ j, j ≤ width → Bd B (L k j)) {x : List Int} (hb : barM s width = some x) :
    x.length = n ∧ (∀ j, j < width → sg n (fun k => x.getD k 0 * L k j) = 0) ∧ 0 < sg n (fun k => x.getD k 0 * L k width) ∧ ∀ y ∈ x, Bd ((2 * n * B) ^ (n - 1)) y := by
  unfold barM at hb
  cases hf : (List.range s.es.length).find? (barT s.es s.us width) with
  | none => rw [hf] at hb; cases hb
  | some k =>
    rw [hf] at hb
    have h1 := List.find?_some hf
    have hk := List.mem_range.mp (List.mem_of_find?_eq_some hf)
    rw [h.tab.n] at hk
    unfold barT at h1
    rw [Bool.and_eq_true, Bool.not_eq_true', Bool.not_eq_true', decide_eq_false_iff_not] at h1
    have hu : k ∉ s.us := fun z => by
      rw [List.contains_iff_mem.mpr z] at h1
      cases h1.1
    have hne : En s.es k width ≠ 0 := h1.2
    have hl : (s.es.getD k []).length = width + 1 + n := h.tab.row hk
    have mk : ∀ i, ((s.es.getD k []).drop (width + 1)).getD i 0 = En s.es k (width + 1 + i) := fun i => drop_getD _ _ _
    have dl : ((s.es.getD k []).drop (width + 1)).length = n := by rw [List.length_drop, hl]; omega
    have own := h.own k hk hu
    have gp : 0 < gcdL ((s.es.getD k []).drop (width + 1)) := gcdL_pos (x := En s.es k (width + 1 + k)) (by rw [← mk k]; exact M.getD_mem 0 (by omega)) own
    have ml : ∀ i, ((gcdL ((s.es.getD k []).drop (width + 1)) : Nat) : Int) * (lowM ((s.es.getD k []).drop (width + 1))).getD i 0 = En s.es k (width + 1 + i) := fun i => by rw [lowM_mul, mk]
    have ll : (lowM ((s.es.getD k []).drop (width + 1))).length = n := by rw [lowM_len, dl]
    have hb : (if En s.es k width < 0 then some ((lowM ((s.es.getD k []).drop (width + 1))).map fun x => -x) else some (lowM ((s.es.getD k []).drop (width + 1)))) = some x := hb
    generalize gcdL ((s.es.getD k []).drop (width + 1)) = g at gp ml
    generalize lowM ((s.es.getD k []).drop (width + 1)) = low at hb ml ll
    have lb : ∀ i, i < n → Bd ((2 * n * B) ^ (n - 1)) (low.getD i 0) := fun i hi => by
      have q := marks_bd h (Nat.le_refl _) hB hL hk i hi
      rw [← ml i] at q
      unfold Bd at q ⊢
      rw [Int.natAbs_mul, Int.natAbs_natCast] at q
      exact Nat.le_trans (Nat.le_mul_of_pos_left _ gp) q
    have cb : ∀ j, j ≤ width → (g : Int) * sg n (fun i => low.getD i 0 * L i j) = En s.es k j := fun j hj => by
      rw [h.lin k hk j hj, ← sg_mulL]
      refine sg_congr n fun i hi => ?_
      rw [← Int.mul_assoc, ml i]
    have g0 : (g : Int) ≠ 0 := by omega
    have zero : ∀ j, j < width → sg n (fun i => low.getD i 0 * L i j) = 0 := fun j hj => by
      have q := cb j (by omega)
      rw [h.free k hk hu j hj] at q
      rcases Int.mul_eq_zero.mp q with w | w
      · exact absurd w g0
      · exact w
    have cw := cb width (Nat.le_refl _)
    by_cases hlt : En s.es k width < 0
    · rw [if_pos hlt] at hb
      cases hb
      have e : ∀ j, sg n (fun i => (low.map fun x => -x).getD i 0 * L i j) = -sg n (fun i => low.getD i 0 * L i j) := fun j => by
        rw [show -sg n (fun i => low.getD i 0 * L i j) = (-1) * sg n (fun i => low.getD i 0 * L i j) by omega, ← sg_mulL]
        refine sg_congr n fun i _ => ?_
        rw [map_neg_getD, Int.neg_mul]
        omega
      refine ⟨by rw [List.length_map, ll], fun j hj => by rw [e, zero j hj]; rfl, ?_, fun y hy => ?_⟩
      · rw [e]
        have : sg n (fun i => low.getD i 0 * L i width) < 0 := by
          refine Int.not_le.mp fun q => ?_
          have := Int.mul_nonneg (show 0 ≤ (g : Int) by omega) q
          omega
        omega
      · obtain ⟨v, hv, rfl⟩ := List.mem_map.mp hy
        obtain ⟨i, hi, rfl⟩ := mem_getD 0 hv
        exact (lb i (by omega)).neg
    · rw [if_neg hlt] at hb
      cases hb
      refine ⟨ll, zero, ?_, fun y hy => ?_⟩
      · refine Int.not_le.mp fun q => ?_
        have := Int.mul_nonneg (show 0 ≤ (g : Int) by omega) (show 0 ≤ -sg n (fun i => x.getD i 0 * L i width) by omega)
        rw [Int.mul_neg] at this
        omega
      · obtain ⟨i, hi, rfl⟩ := mem_getD 0 hy
        exact lb i (by omega)
/-! the point -/
theorem fold_out {α : Type} (F : Nat × Nat → α) : ∀ (pv : List (Nat × Nat)) (p : List α) (j : Nat), j ∉ pv.map Prod.snd → (pv.foldl (fun p ac => p.set ac.2 (F ac)) p)[j]? = p[j]?
  | [], _, _, _ => rfl
  | a :: pv, p, j, h => by
    show (pv.foldl _ (p.set a.2 (F a)))[j]? = _
    have h : j ∉ a.2 :: pv.map Prod.snd := h
    rw [fold_out F pv _ j fun z => h (List.mem_cons_of_mem _ z), List.getElem?_set_ne fun z => h (by rw [← z]; exact List.mem_cons_self)]
theorem fold_in {α : Type} (F : Nat × Nat → α) : ∀ (pv : List (Nat × Nat)) (p : List α) (ac : Nat × Nat), (pv.map Prod.snd).Nodup → ac ∈ pv → ac.2 < p.length → (pv.foldl (fun p ac => p.set ac.2 (F ac)) p)[ac.2]? = some (F ac)
  | a :: pv, p, ac, nd, h, hl => by
    show (pv.foldl _ (p.set a.2 (F a)))[ac.2]? = _
    have nd := List.nodup_cons.mp (show (a.2 :: pv.map Prod.snd).Nodup from nd)
    rcases List.mem_cons.mp h with rfl | h
    · rw [fold_out F pv _ _ nd.1, List.getElem?_set_self hl]
    · exact fold_in F pv _ ac nd.2 h (by rw [List.length_set]; exact hl)
  | [], _, _, _, h, _ => by cases h
theorem snd_inj (h : EInv n width L s width) {x y : Nat × Nat} (hx : x ∈ s.pv) (hy : y ∈ s.pv) (e : x.2 = y.2) : x = y := by
  refine fst_inj h.nd hx hy (Classical.byContradiction fun hne => ?_)
  have h1 := (h.pos y hy)
  have h2 := h.col x hx y.1 h1.1 (fun z => hne z.symm)
  rw [e] at h2
  omega
theorem snd_nodup (h : EInv n width L s width) : (s.pv.map Prod.snd).Nodup := by
  have nd := h.nd
  unfold El.us List.Nodup at nd
  rw [List.pairwise_map] at nd
  unfold List.Nodup
  rw [List.pairwise_map]
  refine nd.imp_of_mem fun {a b} ha hb hne e => hne ?_
  rw [snd_inj h ha hb e]
structure PtOk (n width : Nat) (s : El) (P : List (Int × Int)) : Prop where
  len : P.length = width
  inn : ∀ ac ∈ s.pv, P.getD ac.2 (0, 1) = ratioM (En s.es ac.1 width) (En s.es ac.1 ac.2)
  out : ∀ j, j ∉ s.pv.map Prod.snd → P.getD j (0, 1) = (0, 1)
theorem pt_ok (h : EInv n width L s width) : PtOk n width s (pointM s width) := by
  unfold pointM
  refine ⟨by rw [pt_len, List.length_replicate], fun ac hac => ?_, fun j hj => ?_⟩
  · exact getD_get (fold_in (fun ac => ratioM ((s.es.getD ac.1 []).getD width 0) ((s.es.getD ac.1 []).getD ac.2 0)) s.pv _ ac (snd_nodup h) hac (by rw [List.length_replicate]; exact (h.pos ac hac).2.1))
  · rw [List.getD_eq_getElem?_getD, fold_out _ s.pv _ j hj, List.getElem?_replicate]
    split <;> rfl
theorem ratio_ok {t b : Int} (hb : 0 < b) : ∃ h : Nat, h = Nat.gcd t.natAbs b.natAbs ∧ 0 < h ∧ (ratioM t b).1 * h = t ∧ (ratioM t b).2 * h = b ∧ 0 < (ratioM t b).2 := by
  have g0 : 0 < Nat.gcd t.natAbs b.natAbs := Nat.gcd_pos_of_pos_right _ (by omega)
  have e1 : (ratioM t b).1 * ((Nat.gcd t.natAbs b.natAbs : Nat) : Int) = t := Int.ediv_mul_cancel (Int.ofNat_dvd_left.mpr (Nat.gcd_dvd_left _ _))
  have e2 : (ratioM t b).2 * ((Nat.gcd t.natAbs b.natAbs : Nat) : Int) = b := Int.ediv_mul_cancel (Int.ofNat_dvd_left.mpr (Nat.gcd_dvd_right _ _))
  refine ⟨_, rfl, g0, e1, e2, ?_⟩
  refine Int.not_le.mp fun q => ?_
  have := Int.mul_nonneg (show 0 ≤ -(ratioM t b).2 by omega) (show 0 ≤ ((Nat.gcd t.natAbs b.natAbs : Nat) : Int) by omega)
  rw [Int.neg_mul, e2] at this
  omega
theorem lcm_le : ∀ (bs : List Int) (l m : Nat), l ∣ m → (∀ b ∈ bs, b.natAbs ∣ m) → bs.foldl (fun l b => Nat.lcm l b.natAbs) l ∣ m
  | [], _, _, h, _ => h
  | b :: bs, l, m, h, hb => lcm_le bs _ m (Nat.lcm_dvd h (hb b List.mem_cons_self)) fun c hc => hb c (List.mem_cons_of_mem _ hc)
/-- the line below all the point's ratios is small -/
theorem line_small (h : EInv n width L s width) (hB : 1 ≤ B) (hL : ∀ k, k < n → ∀ j, j ≤ width → Bd B (L k j)) : lcmL ((pointM s width).map Prod.snd) ≤ (2 * (width + 1) * B) ^ width := by
  have po := pt_ok h
  let eqs : List (Nat → Int) := (s.us.map fun k j => if j < width then L k j else -(L k width)) ++ (((List.range width).filter fun j => !((s.pv.map Prod.snd).contains j)).map fun j0 j => if j = j0 then 1 else 0)
  have el : eqs.length ≤ width := by
    show ((s.us.map _) ++ _).length ≤ width
    rw [List.length_append, List.length_map, List.length_map]
    have nd : ((s.pv.map Prod.snd) ++ ((List.range width).filter fun j => !((s.pv.map Prod.snd).contains j))).Nodup := by
      refine List.nodup_append.mpr ⟨snd_nodup h, nodup_filter _ (nodup_range _), fun x hx y hy e => ?_⟩
      have h2 := (List.mem_filter.mp hy).2
      rw [Bool.not_eq_true'] at h2
      rw [← e, List.contains_iff_mem.mpr hx] at h2
      cases h2
    have := nodup_len _ width nd fun a ha => by
      rcases List.mem_append.mp ha with ha | ha
      · obtain ⟨ac, hac, rfl⟩ := List.mem_map.mp ha
        exact (h.pos ac hac).2.1
      · exact List.mem_range.mp (List.mem_filter.mp ha).1
    rw [List.length_append, List.length_map] at this
    have ul : s.us.length = s.pv.length := List.length_map _
    omega
  obtain ⟨x, ⟨k0, hk0, hx0⟩, xb, xq⟩ := siegel (width + 1) B eqs hB (by omega) fun e he k hk => by
    rcases List.mem_append.mp he with he | he
    · obtain ⟨q, hq, rfl⟩ := List.mem_map.mp he
      have hqn := us_lt h q hq
      show Bd B (if k < width then L q k else -(L q width))
      split
      · exact hL q hqn k (by omega)
      · exact (hL q hqn width (Nat.le_refl _)).neg
    · obtain ⟨q, hq, rfl⟩ := List.mem_map.mp he
      show Bd B (if k = q then 1 else 0)
      split
      · exact hB
      · exact Bd.zero
  have xr : ∀ k ∈ s.us, sg width (fun j => L k j * x j) = x width * L k width := fun k hk => by
    have q := xq _ (List.mem_append_left _ (List.mem_map.mpr ⟨k, hk, rfl⟩))
    have q : sg width (fun j => x j * (if j < width then L k j else -(L k width))) + x width * (if width < width then L k width else -(L k width)) = 0 := q
    rw [if_neg (by omega), Int.mul_neg, sg_congr width (g := fun j => L k j * x j) fun j hj => by rw [if_pos hj, Int.mul_comm]] at q
    omega
  have xo : ∀ j, j < width → j ∉ s.pv.map Prod.snd → x j = 0 := fun j hj hn => by
    have q := xq (fun j' => if j' = j then 1 else 0) (List.mem_append_right _ (List.mem_map.mpr ⟨j, List.mem_filter.mpr ⟨List.mem_range.mpr hj, by
      rw [Bool.not_eq_true']
      cases e : (s.pv.map Prod.snd).contains j with
      | false => rfl
      | true => exact absurd (List.contains_iff_mem.mp e) hn⟩, rfl⟩))
    rw [sg_single (c := j) (by omega) fun i hi hij => by show x i * (if i = j then 1 else 0) = 0; rw [if_neg hij, Int.mul_zero]] at q
    rw [if_pos rfl, Int.mul_one] at q
    exact q
  have xc : ∀ ac ∈ s.pv, En s.es ac.1 ac.2 * x ac.2 = x width * En s.es ac.1 width := fun ac hac => by
    obtain ⟨h1, h2, h3⟩ := h.pos ac hac
    have e1 : sg width (fun j => En s.es ac.1 j * x j) = En s.es ac.1 ac.2 * x ac.2 := sg_single h2 fun j hj hne => by
      by_cases hp : j ∈ s.pv.map Prod.snd
      · obtain ⟨ac', hac', e⟩ := List.mem_map.mp hp
        have : ac.1 ≠ ac'.1 := fun z => hne (by rw [← e, fst_inj h.nd hac hac' z])
        rw [← e, h.col ac' hac' ac.1 h1 this, Int.zero_mul]
      · rw [xo j hj hp, Int.mul_zero]
    rw [← e1, h.lin ac.1 h1 width (Nat.le_refl _), ← sg_mulL]
    rw [sg_congr width (g := fun j => sg n (fun k => En s.es ac.1 (width + 1 + k) * L k j * x j)) fun j hj => by rw [h.lin ac.1 h1 j (by omega), ← sg_mulR], sg_swap]
    refine sg_congr n fun k hk => ?_
    by_cases hu : k ∈ s.us
    · rw [sg_congr width (g := fun j => En s.es ac.1 (width + 1 + k) * (L k j * x j)) fun j _ => Int.mul_assoc _ _ _, sg_mulL, xr k hu, Int.mul_left_comm]
    · have m0 : En s.es ac.1 (width + 1 + k) = 0 := Classical.byContradiction fun q => by
        rcases h.sup ac.1 h1 k hk q with q | q
        · exact hu q
        · exact hu (by rw [q]; exact List.mem_map_of_mem hac)
      rw [m0, sg_congr width (g := fun _ => 0) fun j _ => by rw [Int.zero_mul, Int.zero_mul], sg_zero, Int.zero_mul, Int.mul_zero]
  have d0 : x width ≠ 0 := fun z => hx0 (by
    by_cases e : k0 = width
    · rw [e, z]
    · by_cases hp : k0 ∈ s.pv.map Prod.snd
      · obtain ⟨ac, hac, e2⟩ := List.mem_map.mp hp
        have q := xc ac hac
        rw [z, Int.zero_mul, e2] at q
        rcases Int.mul_eq_zero.mp q with w | w
        · have := (h.pos ac hac).2.2
          rw [e2] at this
          omega
        · exact w
      · exact xo k0 (by omega) hp)
  have dv : lcmL ((pointM s width).map Prod.snd) ∣ (x width).natAbs := by
    refine lcm_le _ 1 _ (Nat.one_dvd _) fun b hb => ?_
    obtain ⟨r, hr, rfl⟩ := List.mem_map.mp hb
    obtain ⟨j, hj, rfl⟩ := mem_getD (0, 1) hr
    by_cases hp : j ∈ s.pv.map Prod.snd
    · obtain ⟨ac, hac, rfl⟩ := List.mem_map.mp hp
      rw [po.inn ac hac]
      have h3 := (h.pos ac hac).2.2
      obtain ⟨g, hg, g0, e1, e2, e3⟩ := ratio_ok (t := En s.es ac.1 width) h3
      have q1 : (En s.es ac.1 ac.2).natAbs ∣ (x width).natAbs * (En s.es ac.1 width).natAbs := by
        rw [← Int.natAbs_mul, ← xc ac hac, Int.natAbs_mul]
        exact Nat.dvd_mul_right _ _
      have q2 : (En s.es ac.1 ac.2).natAbs ∣ (x width).natAbs * (En s.es ac.1 ac.2).natAbs := Nat.dvd_mul_left _ _
      have q3 := Nat.dvd_gcd q1 q2
      rw [Nat.gcd_mul_left, ← hg] at q3
      have q4 : (En s.es ac.1 ac.2).natAbs = (ratioM (En s.es ac.1 width) (En s.es ac.1 ac.2)).2.natAbs * g := by
        have := congrArg Int.natAbs e2
        rw [Int.natAbs_mul, Int.natAbs_natCast] at this
        exact this.symm
      rw [q4] at q3
      exact Nat.dvd_of_mul_dvd_mul_right g0 q3
    · rw [po.out j hp]
      exact Nat.one_dvd _
  refine Nat.le_trans (Nat.le_of_dvd (by omega) dv) (Nat.le_trans (xb width (by omega)) ?_)
  exact Nat.pow_le_pow_right (Nat.mul_pos (by omega) hB) el
end
end LS

set_option Elab.async false
set_option linter.all false
set_option maxRecDepth 100000
set_option maxHeartbeats 4000000
set_option exponentiation.threshold 300
namespace LS
open L2 M DL
section
variable {T : List (List Int)} {b : List Int} {n width B : Nat}
/-- the point solves the rows under way -/
theorem point_rows {L : Nat → Nat → Int} {s : El} (h : EInv n width L s width) (hn : barM s width = none) :
    (∀ j, j < width → ((rowOfM (pointM s width)).1.getD j 0) * ((gcdL (((lcmL ((pointM s width).map Prod.snd) : Nat) : Int) :: (pointM s width).map fun r => r.1 * (((lcmL ((pointM s width).map Prod.snd) : Nat) : Int) / r.2)) : Nat) : Int) = ((pointM s width).map fun r => r.1 * (((lcmL ((pointM s width).map Prod.snd) : Nat) : Int) / r.2)).getD j 0) ∧
    (rowOfM (pointM s width)).1.length = width ∧ isRowM (rowOfM (pointM s width)).1 (rowOfM (pointM s width)).2 width = true ∧ ∀ k, k < n → sg width (fun j => L k j * (rowOfM (pointM s width)).1.getD j 0) = (rowOfM (pointM s width)).2 * L k width := by
  have po := pt_ok h
  generalize pointM s width = P at po
  have bpos : ∀ r ∈ P, 0 < r.2 := fun r hr => by
    obtain ⟨j, hj, rfl⟩ := mem_getD (0, 1) hr
    by_cases hp : j ∈ s.pv.map Prod.snd
    · obtain ⟨ac, hac, rfl⟩ := List.mem_map.mp hp
      rw [po.inn ac hac]
      obtain ⟨_, _, _, _, _, e⟩ := ratio_ok (t := En s.es ac.1 width) (h.pos ac hac).2.2
      exact e
    · rw [po.out j hp]; decide
  have Dp : 0 < lcmL (P.map Prod.snd) := lcm_pos _ 1 (by decide) fun b hb => by
    obtain ⟨r, hr, rfl⟩ := List.mem_map.mp hb
    exact bpos r hr
  have bd : ∀ r ∈ P, r.2.natAbs ∣ lcmL (P.map Prod.snd) := fun r hr => lcm_dvd _ 1 r.2 (List.mem_map_of_mem hr)
  have hrow : rowOfM P = rowM (P.map fun r => r.1 * (((lcmL (P.map Prod.snd) : Nat) : Int) / r.2)) ((lcmL (P.map Prod.snd) : Nat) : Int) := rfl
  generalize lcmL (P.map Prod.snd) = Dn at Dp bd hrow ⊢
  let X : Nat → Int := fun j => (P.getD j (0, 1)).1 * ((Dn : Int) / (P.getD j (0, 1)).2)
  have Xg : ∀ j, j < width → (P.map fun r => r.1 * ((Dn : Int) / r.2)).getD j 0 = X j := fun j hj => getD_get (by rw [List.getElem?_map, get_getD (0, 1) (show j < P.length by rw [po.len]; exact hj)]; rfl)
  have xl : (P.map fun r => r.1 * ((Dn : Int) / r.2)).length = width := by rw [List.length_map, po.len]
  generalize (P.map fun r => r.1 * ((Dn : Int) / r.2)) = xs at Xg xl hrow ⊢
  have gl : 0 < gcdL ((Dn : Int) :: xs) := gcdL_pos (x := (Dn : Int)) List.mem_cons_self (by omega)
  have low : lowM ((Dn : Int) :: xs) = (rowOfM P).2 :: (rowOfM P).1 := by rw [hrow]; rfl
  have mulj : ∀ j, ((gcdL ((Dn : Int) :: xs) : Nat) : Int) * (lowM ((Dn : Int) :: xs)).getD j 0 = ((Dn : Int) :: xs).getD j 0 := lowM_mul _
  have prim := lowM_prim gl
  generalize hg : gcdL ((Dn : Int) :: xs) = g at gl mulj ⊢
  rw [low] at mulj prim
  generalize rowOfM P = ro at hrow low mulj prim ⊢
  have line : (g : Int) * ro.2 = (Dn : Int) := mulj 0
  have tops : ∀ j, (g : Int) * ro.1.getD j 0 = xs.getD j 0 := fun j => mulj (j + 1)
  have rl : ro.1.length = width := by
    have := congrArg List.length low
    rw [lowM_len, List.length_cons, List.length_cons] at this
    omega
  have l1 : 1 ≤ ro.2 := by
    refine Int.not_lt.mp fun q => ?_
    have := Int.mul_nonneg (show 0 ≤ (g : Int) by omega) (show 0 ≤ -ro.2 by omega)
    rw [Int.mul_neg] at this
    omega
  refine ⟨fun j hj => by rw [Int.mul_comm]; exact tops j, rl, ?_, ?_⟩
  · unfold isRowM
    rw [Bool.and_eq_true, Bool.and_eq_true, decide_eq_true_iff, decide_eq_true_iff, decide_eq_true_iff]
    refine ⟨by rw [rl], l1, ?_⟩
    rw [gcdL_cons, Nat.gcd_comm] at prim
    exact prim
  · have rows : ∀ r, r < n → sg width (fun j => En s.es r j * X j) = (Dn : Int) * En s.es r width := fun r hr => by
      by_cases hu : r ∈ s.us
      · obtain ⟨ac, hac, rfl⟩ := List.mem_map.mp hu
        obtain ⟨h1, h2, h3⟩ := h.pos ac hac
        have e1 : sg width (fun j => En s.es ac.1 j * X j) = En s.es ac.1 ac.2 * X ac.2 := sg_single h2 fun j hj hne => by
          by_cases hp : j ∈ s.pv.map Prod.snd
          · obtain ⟨ac', hac', e⟩ := List.mem_map.mp hp
            have : ac.1 ≠ ac'.1 := fun z => hne (by rw [← e, fst_inj h.nd hac hac' z])
            rw [← e, h.col ac' hac' ac.1 h1 this, Int.zero_mul]
          · show _ * ((P.getD j (0, 1)).1 * _) = 0
            rw [po.out j hp]
            show _ * (0 * _) = (0 : Int)
            rw [Int.zero_mul, Int.mul_zero]
        rw [e1]
        obtain ⟨g', hg', g0, q1, q2, q3⟩ := ratio_ok (t := En s.es ac.1 width) h3
        have bdv := bd (P.getD ac.2 (0, 1)) (M.getD_mem (0, 1) (by rw [po.len]; exact h2))
        show En s.es ac.1 ac.2 * ((P.getD ac.2 (0, 1)).1 * ((Dn : Int) / (P.getD ac.2 (0, 1)).2)) = _
        rw [po.inn ac hac] at bdv ⊢
        generalize ratioM (En s.es ac.1 width) (En s.es ac.1 ac.2) = rt at q1 q2 q3 bdv ⊢
        have e3 : rt.2 * ((Dn : Int) / rt.2) = (Dn : Int) := Int.mul_ediv_cancel' (Int.natAbs_dvd_natAbs.mp (by rw [Int.natAbs_natCast]; exact bdv))
        rw [← q1, ← q2]
        calc rt.2 * (g' : Int) * (rt.1 * ((Dn : Int) / rt.2)) = rt.1 * (g' : Int) * (rt.2 * ((Dn : Int) / rt.2)) := by
              rw [Int.mul_assoc, Int.mul_assoc, Int.mul_left_comm (rt.2), Int.mul_left_comm (rt.2) rt.1, Int.mul_left_comm (g' : Int) rt.1]
          _ = (Dn : Int) * (rt.1 * (g' : Int)) := by rw [e3, Int.mul_comm]
      · rw [bar_none h hn hr hu, Int.mul_zero, sg_congr width (g := fun _ => 0) fun j hj => by rw [h.free r hr hu j hj, Int.zero_mul], sg_zero]
    have sol := h.sol X (Dn : Int) rows
    intro k hk
    refine cancel (g := (g : Int)) (by omega) ?_
    rw [← sg_mulL, sg_congr width (g := fun j => L k j * X j) fun j hj => by rw [Int.mul_left_comm, tops j, Xg j hj], sol k hk, ← line, Int.mul_assoc]
theorem LT_lt (k j : Nat) (h : j < width) : LT T b width k j = (T.getD k []).getD j 0 := if_pos h
theorem LT_w (k : Nat) : LT T b width k width = b.getD k 0 := if_neg (by omega)
/-- solved may be run on it -/
theorem solve_pre (f : Fits n width B) (t : Tab n width T) (hb : b.length = n) (hT : ∀ r ∈ T, ∀ x ∈ r, Bd B x) (hR : ∀ x ∈ b, Bd B x) : PreSolved T b n width := by
  have hL := LT_bd t hb hT hR
  have h := elim_inv t hb width (Nat.le_refl _)
  have n2 := f.n2
  have w2 := f.w2
  have po := pt_ok h
  have ls := line_small h f.b hL
  refine ⟨f.n1, t, hb, elOk f t hb hT hR, ⟨by omega, by omega, h.tab, by omega, h.nd, us_lt h⟩, fun ac hac => ?_, ?_⟩
  · obtain ⟨h1, h2, h3⟩ := h.pos ac hac
    exact ⟨h1, h2, h3, sm_of (all_bd h (Nat.le_refl _) f.b hL h1 ac.2) f.e _ (by decide)⟩
  · refine ⟨by rw [po.len]; omega, fun r hr => ?_, Nat.lt_of_le_of_lt (Nat.le_trans ls f.d) (Nat.pow_lt_pow_right (by decide) (by decide))⟩
    obtain ⟨j, hj, rfl⟩ := mem_getD (0, 1) hr
    by_cases hp : j ∈ (elimTo (entriesM T b) width).pv.map Prod.snd
    · obtain ⟨ac, hac, rfl⟩ := List.mem_map.mp hp
      rw [po.inn ac hac]
      obtain ⟨h1, h2, h3⟩ := h.pos ac hac
      obtain ⟨g, _, g0, q1, q2, q3⟩ := ratio_ok (t := En (elimTo (entriesM T b) width).es ac.1 width) h3
      have a1 := all_bd h (Nat.le_refl _) f.b hL h1 ac.2
      have a2 := all_bd h (Nat.le_refl _) f.b hL h1 width
      have le : ∀ {u v : Int}, u * (g : Int) = v → u.natAbs ≤ v.natAbs := fun {u v} e => by
        rw [← e, Int.natAbs_mul, Int.natAbs_natCast]
        exact Nat.le_mul_of_pos_right _ g0
      exact ⟨q3, sm_of (Nat.le_trans (le q2) a1) f.e _ (by decide), sm_of (Nat.le_trans (le q1) a2) f.e _ (by decide)⟩
    · rw [po.out j hp]
      exact ⟨by decide, Nat.one_lt_two_pow (by decide), by show (0 : Int).natAbs < _; exact Nat.two_pow_pos _⟩
theorem fits_sm (f : Fits n width B) {x : Int} (h : Bd B x) : Sm 40000 x := by
  have : B ≤ (2 * n * B) ^ n := by
    have h1 : B ≤ 2 * n * B := Nat.le_mul_of_pos_left _ (by have := f.n1; omega)
    exact Nat.le_trans h1 (Nat.le_self_pow (by have := f.n1; omega) _)
  exact sm_of (h.mono this) f.e _ (by decide)
theorem dot_row (t : Tab n width T) {xs : List Int} (hx : xs.length = width) {k : Nat} (hk : k < n) : dotL (T.getD k []) xs = sg width (fun j => LT T b width k j * xs.getD j 0) := by
  rw [dotL_sg _ _ (by rw [t.row hk, hx]; exact Nat.le_refl _), t.row hk]
  exact sg_congr width fun j hj => by rw [LT_lt k j hj]
/-- what solved tells is right -/
theorem solve_right (f : Fits n width B) (t : Tab n width T) (hb : b.length = n) (hT : ∀ r ∈ T, ∀ x ∈ r, Bd B x) (hR : ∀ x ∈ b, Bd B x) : RightOk T b width (solM T b width) := by
  have hL := LT_bd t hb hT hR
  have h := elim_inv t hb width (Nat.le_refl _)
  have n2 := f.n2
  have w2 := f.w2
  refine ⟨by rw [t.n]; exact t, by rw [t.n]; exact ⟨f.n1, by omega⟩, by omega, by rw [t.n, hb]; exact Nat.le_refl _, fun r hr x hx => fits_sm f (hT r hr x hx), fun x hx => fits_sm f (hR x hx), ?_⟩
  unfold solM
  cases hbar : barM (elimTo (entriesM T b) width) width with
  | some x =>
    obtain ⟨x1, x2, x3, x4⟩ := bar_some h f.b hL hbar
    refine ⟨fun y hy => sm_of (x4 y hy) f.m _ (by decide), by rw [x1, t.n], fun y hy => ?_, ?_⟩
    · obtain ⟨j, hj, rfl⟩ := mem_getD 0 hy
      rw [mixedM_len t f.n1] at hj
      rw [mixedM_getD t f.n1 (by rw [x1]; exact Nat.le_refl _) hj]
      exact (sg_congr n fun i hi => by rw [LT_lt i j hj, Int.mul_comm]).trans (x2 j hj)
    · rw [dotL_sg _ _ (by rw [x1, hb]; exact Nat.le_refl _), x1]
      rw [sg_congr n (g := fun k => x.getD k 0 * LT T b width k width) fun i hi => by rw [LT_w]]
      exact x3
  | none =>
    obtain ⟨p1, p2, p3, p4⟩ := point_rows h hbar
    have pre := solve_pre f t hb hT hR
    have ls := line_small h f.b hL
    have po := pt_ok h
    refine ⟨fun y hy => ?_, ?_, p3, fun i hi => ?_⟩
    · obtain ⟨j, hj, rfl⟩ := mem_getD 0 hy
      rw [p2] at hj
      have e := p1 j hj
      have hm : ((pointM (elimTo (entriesM T b) width) width).map fun r => r.1 * (((lcmL ((pointM (elimTo (entriesM T b) width) width).map Prod.snd) : Nat) : Int) / r.2))[j]? = some (((pointM (elimTo (entriesM T b) width) width).getD j (0, 1)).1 * (((lcmL ((pointM (elimTo (entriesM T b) width) width).map Prod.snd) : Nat) : Int) / ((pointM (elimTo (entriesM T b) width) width).getD j (0, 1)).2)) := by
        rw [List.getElem?_map, get_getD (0, 1) (show j < (pointM (elimTo (entriesM T b) width) width).length by rw [po.len]; exact hj)]
        rfl
      rw [getD_get hm] at e
      obtain ⟨_, _, b3⟩ := pre.r.b _ (M.getD_mem (l := pointM (elimTo (entriesM T b) width) width) (0, 1) (by rw [po.len]; exact hj))
      have g0 : 0 < gcdL (((lcmL ((pointM (elimTo (entriesM T b) width) width).map Prod.snd) : Nat) : Int) :: (pointM (elimTo (entriesM T b) width) width).map fun r => r.1 * (((lcmL ((pointM (elimTo (entriesM T b) width) width).map Prod.snd) : Nat) : Int) / r.2)) := by
        refine gcdL_pos (x := ((lcmL ((pointM (elimTo (entriesM T b) width) width).map Prod.snd) : Nat) : Int)) List.mem_cons_self ?_
        have := lcm_pos ((pointM (elimTo (entriesM T b) width) width).map Prod.snd) 1 (by decide) fun c hc => by
          obtain ⟨r, hr, rfl⟩ := List.mem_map.mp hc
          exact (pre.r.b r hr).1
        show ((lcmL _ : Nat) : Int) ≠ 0
        unfold lcmL
        omega
      have b4 : Sm 30000 ((pointM (elimTo (entriesM T b) width) width).getD j (0, 1)).1 := by
        by_cases hp : j ∈ (elimTo (entriesM T b) width).pv.map Prod.snd
        · obtain ⟨ac, hac, rfl⟩ := List.mem_map.mp hp
          rw [po.inn ac hac]
          obtain ⟨h1, h2, h3⟩ := h.pos ac hac
          obtain ⟨g, _, g1, q1, q2, q3⟩ := ratio_ok (t := En (elimTo (entriesM T b) width).es ac.1 width) h3
          have a2 := all_bd h (Nat.le_refl _) f.b hL h1 width
          have le : ∀ {u v : Int}, u * (g : Int) = v → u.natAbs ≤ v.natAbs := fun {u v} e => by
            rw [← e, Int.natAbs_mul, Int.natAbs_natCast]
            exact Nat.le_mul_of_pos_right _ g1
          exact sm_of (Nat.le_trans (le q1) a2) f.e _ (by decide)
        · rw [po.out j hp]
          exact Nat.two_pow_pos _
      have b5 : Sm 9000 (((lcmL ((pointM (elimTo (entriesM T b) width) width).map Prod.snd) : Nat) : Int) / ((pointM (elimTo (entriesM T b) width) width).getD j (0, 1)).2) := by
        have q := Int.natAbs_ediv_le_natAbs ((lcmL ((pointM (elimTo (entriesM T b) width) width).map Prod.snd) : Nat) : Int) ((pointM (elimTo (entriesM T b) width) width).getD j (0, 1)).2
        rw [Int.natAbs_natCast] at q
        exact Nat.lt_of_le_of_lt (Nat.le_trans q (Nat.le_trans ls f.d)) (Nat.pow_lt_pow_right (by decide) (by decide))
      have b6 := (b4.mul b5).mono (show 30000 + 9000 ≤ 40000 by decide)
      rw [← e] at b6
      unfold Sm at b6 ⊢
      rw [Int.natAbs_mul, Int.natAbs_natCast] at b6
      exact Nat.lt_of_le_of_lt (Nat.le_mul_of_pos_right _ g0) b6
    · have l1 := (row_sm p3).2
      have : (rowOfM (pointM (elimTo (entriesM T b) width) width)).2.natAbs ≤ lcmL ((pointM (elimTo (entriesM T b) width) width).map Prod.snd) := by
        show (((lcmL ((pointM (elimTo (entriesM T b) width) width).map Prod.snd) : Nat) : Int) / _).natAbs ≤ _
        have q := Int.natAbs_ediv_le_natAbs ((lcmL ((pointM (elimTo (entriesM T b) width) width).map Prod.snd) : Nat) : Int) ((gcdL (((lcmL ((pointM (elimTo (entriesM T b) width) width).map Prod.snd) : Nat) : Int) :: (pointM (elimTo (entriesM T b) width) width).map fun r => r.1 * (((lcmL ((pointM (elimTo (entriesM T b) width) width).map Prod.snd) : Nat) : Int) / r.2)) : Nat) : Int)
        rw [Int.natAbs_natCast] at q
        exact q
      exact Nat.lt_of_le_of_lt (Nat.le_trans this (Nat.le_trans ls f.d)) (Nat.pow_lt_pow_right (by decide) (by decide))
    · rw [t.n] at hi
      rw [dot_row (b := b) t p2 hi, p4 i hi, LT_w, Int.mul_comm]
end
end LS

set_option Elab.async false
set_option linter.all false
set_option maxRecDepth 100000
set_option maxHeartbeats 4000000
set_option exponentiation.threshold 2000
namespace LS
open L2 M DL
theorem dotL_scale (c d : Int) : ∀ xs ys : List Int, dotL (xs.map fun x => x * c * d) ys = c * d * dotL xs ys
  | [], ys => by
    show (0 : Int) = c * d * dotL [] ys
    rw [show dotL [] ys = 0 by cases ys <;> rfl, Int.mul_zero]
  | x :: xs, [] => by
    show (0 : Int) = c * d * 0
    rw [Int.mul_zero]
  | x :: xs, y :: ys => by
    show x * c * d * y + dotL (xs.map fun x => x * c * d) ys = c * d * (x * y + dotL xs ys)
    rw [dotL_scale c d xs ys, Int.mul_add]
    congr 1
    rw [Int.mul_assoc x c d, Int.mul_comm x (c * d), Int.mul_assoc]
section
variable {T : List (List Int)} {b xs sh x : List Int} {n width : Nat}
theorem mix_dot (t : Tab n width T) (hn : 1 ≤ n) (hs : n ≤ sh.length) (hx : xs.length = width) : dotL (mixedM T sh) xs = sg n (fun i => sh.getD i 0 * dotL (T.getD i []) xs) := by
  rw [dotL_sg _ _ (by rw [mixedM_len t hn, hx]; exact Nat.le_refl _), mixedM_len t hn]
  rw [sg_congr width (g := fun j => sg n (fun i => (T.getD i []).getD j 0 * sh.getD i 0 * xs.getD j 0)) fun j hj => by rw [mixedM_getD t hn hs hj, ← sg_mulR], sg_swap]
  refine sg_congr n fun i hi => ?_
  rw [dotL_sg _ _ (by rw [t.row hi, hx]; exact Nat.le_refl _), t.row hi, ← sg_mulL]
  refine sg_congr width fun j hj => ?_
  rw [Int.mul_comm ((T.getD i []).getD j 0), Int.mul_assoc]
/-- a bar and a point exclude each other -/
theorem no_bar (t : Tab n width T) (hn : 1 ≤ n) (hb : b.length = n) (hx : xs.length = width) {l : Int} (hl : 1 ≤ l) (h : ∀ i, i < n → dotL (T.getD i []) xs = b.getD i 0 * l) (hxl : x.length = n) (h0 : ∀ y ∈ mixedM T x, y = 0) (hp : 0 < dotL x b) : False := by
  have e1 : dotL (mixedM T x) xs = 0 := by
    rw [dotL_sg _ _ (by rw [mixedM_len t hn, hx]; exact Nat.le_refl _), sg_congr _ (g := fun _ => 0) fun j hj => by rw [h0 _ (M.getD_mem 0 hj), Int.zero_mul], sg_zero]
  rw [mix_dot t hn (by omega) hx, sg_congr n (g := fun i => x.getD i 0 * b.getD i 0 * l) fun i hi => by rw [h i hi, Int.mul_assoc], sg_mulR] at e1
  rw [dotL_sg _ _ (by rw [hxl, hb]; exact Nat.le_refl _), hxl] at hp
  have := Int.mul_pos hp (show 0 < l by omega)
  omega
end
theorem pow_fit {X k : Nat} (n m : Nat) (h : X ≤ 2 ^ k) (hm : k * n ≤ m) : X ^ n ≤ 2 ^ m := by
  refine Nat.le_trans (Nat.pow_le_pow_left h n) ?_
  rw [← Nat.pow_mul]
  exact Nat.pow_le_pow_right (by decide) hm
/-- one bound of all numbers of a run -/
def Bz (z : Sz) : Nat := B0 z * 89910000 + (furTop z).toNat + 1
theorem bz_big {z : Sz} (h : z.big = true) : Bz z ≤ 2 ^ 1333 := by
  unfold Bz B0 furTop
  rw [h]
  show mx0 * 89910000 + ((10 ^ 50) ^ 7 * 10 ^ 49 * 9 : Int).toNat + 1 ≤ _
  decide +kernel
theorem bz_not {z : Sz} (h : z.big = false) : Bz z ≤ 2 ^ 35 := by
  unfold Bz B0 furTop
  rw [h]
  decide +kernel
theorem fits (ns : List Int) : Fits (zM ns).many (zM ns).width (Bz (zM ns)) := by
  have hz := zOk ns
  generalize zM ns = z at hz
  have hm := hz.m
  have hw := hz.w
  have b1 : 1 ≤ Bz z := by unfold Bz; omega
  cases e : z.big with
  | true =>
    obtain ⟨m, w⟩ := hz.big e
    have hb := bz_big e
    generalize Bz z = B at b1 hb
    have h1 : 2 * z.many * B ≤ 2 ^ 1336 := Nat.le_trans (Nat.mul_le_mul (show 2 * z.many ≤ 2 ^ 3 by omega) hb) (by rw [← Nat.pow_add]; exact Nat.le_refl _)
    have h2 : 2 * (z.width + 1) * B ≤ 2 ^ 1337 := Nat.le_trans (Nat.mul_le_mul (show 2 * (z.width + 1) ≤ 2 ^ 4 by omega) hb) (by rw [← Nat.pow_add]; exact Nat.le_refl _)
    exact ⟨by omega, by omega, by omega, b1, pow_fit _ _ h1 (by omega), pow_fit _ _ h1 (by omega), pow_fit _ _ h2 (by omega)⟩
  | false =>
    obtain ⟨m, w, _⟩ := hz.not e
    have hb := bz_not e
    generalize Bz z = B at b1 hb
    have h1 : 2 * z.many * B ≤ 2 ^ 41 := Nat.le_trans (Nat.mul_le_mul (show 2 * z.many ≤ 2 ^ 6 by omega) hb) (by rw [← Nat.pow_add]; exact Nat.le_refl _)
    have h2 : 2 * (z.width + 1) * B ≤ 2 ^ 41 := Nat.le_trans (Nat.mul_le_mul (show 2 * (z.width + 1) ≤ 2 ^ 6 by omega) hb) (by rw [← Nat.pow_add]; exact Nat.le_refl _)
    exact ⟨by omega, by omega, by omega, b1, pow_fit _ _ h1 (by omega), pow_fit _ _ h1 (by omega), pow_fit _ _ h2 (by omega)⟩
theorem le3 {a b c : Nat} (h : a ≤ b) : a ≤ b + c + 1 := by omega
theorem bz_of {z : Sz} {k : Nat} {x : Int} (h : Bd (B0 z * k) x) (hk : k ≤ 89910000) : Bd (Bz z) x := Bd.mono h (le3 (Nat.mul_le_mul_left (B0 z) hk))
section
variable (ns : List Int)
theorem rows_bz : ∀ r ∈ rowsM ns, ∀ x ∈ r, Bd (Bz (zM ns)) x := fun r hr x hx => bz_of (rows_bd ns r hr x hx) (by decide)
theorem sum_bz : ∀ x ∈ sumM ns, Bd (Bz (zM ns)) x := fun x hx => bz_of (sum_bd ns x hx) (by decide)
theorem other_bz : ∀ r ∈ otherM ns, ∀ x ∈ r, Bd (Bz (zM ns)) x := fun r hr x hx => by
  unfold otherM at hr
  rcases mem_set hr with rfl | hr
  · exact bz_of (mix_bd ns x hx) (by decide)
  · exact rows_bz ns r hr x hx
theorem kept_bz : ∀ x ∈ keptM ns, Bd (Bz (zM ns)) x := fun x hx => by
  unfold keptM at hx
  rcases mem_set hx with rfl | hx
  · exact bz_of (dot_bd' ns) (by decide)
  · exact sum_bz ns x hx
theorem raised_bz : ∀ x ∈ raisedM ns, Bd (Bz (zM ns)) x := fun x hx => by
  unfold raisedM at hx
  rcases mem_set hx with rfl | hx
  · have h1 := dot_bd' ns
    have h2 := fur_lt ns
    have h3 : Bd (furTop (zM ns)).toNat ((1 + furM ns) * signM ns) := by
      unfold signM Bd
      split
      · rw [Int.mul_one]; omega
      · omega
    refine (h1.add h3).mono ?_
    unfold Bz
    omega
  · exact kept_bz ns x hx
theorem raised_len : (raisedM ns).length = (zM ns).many := by
  unfold raisedM
  rw [List.length_set, kept_len]
/-- the planted point -/
theorem planted : ∀ i, i < (zM ns).many → dotL ((rowsM ns).getD i []) (topsM ns (zM ns)) = (sumM ns).getD i 0 * lineM ns (zM ns) := fun i hi => by
  show dotL ((tableM ns (headM ns) (zM ns)).getD i []) _ = (sumsM ns (headM ns) (zM ns)).getD i 0 * _
  rw [table_getD _ _ _ hi, sums_getD _ _ _ hi, dotL_scale, Int.mul_assoc, Int.mul_comm]
theorem many1 : 1 ≤ (zM ns).many := by have := (zOk ns).m; omega
theorem set_getD {α : Type} (l : List α) (p i : Nat) (v d : α) (hp : p < l.length) : (l.set p v).getD i d = if i = p then v else l.getD i d := by
  by_cases e : i = p
  · rw [if_pos e, e]
    exact getD_get (List.getElem?_set_self hp)
  · rw [if_neg e, List.getD_eq_getElem?_getD, List.getElem?_set_ne (Ne.symm e), ← List.getD_eq_getElem?_getD]
theorem other_at (i : Nat) : (otherM ns).getD i [] = if i = placeM ns then mixedM (rowsM ns) (sharesM ns) else (rowsM ns).getD i [] := set_getD _ _ _ _ _ (by rw [(rows_tab ns).n]; exact place_lt ns)
theorem kept_at (i : Nat) : (keptM ns).getD i 0 = if i = placeM ns then dotL (sharesM ns) (sumM ns) else (sumM ns).getD i 0 := set_getD _ _ _ _ _ (by rw [sum_len]; exact place_lt ns)
theorem raised_at (i : Nat) : (raisedM ns).getD i 0 = if i = placeM ns then dotL (sharesM ns) (sumM ns) + (1 + furM ns) * signM ns else (keptM ns).getD i 0 := set_getD _ _ _ _ _ (by rw [kept_len]; exact place_lt ns)
theorem share_dot : dotL (sharesM ns) (sumM ns) = sg (zM ns).many (fun i => (sharesM ns).getD i 0 * (sumM ns).getD i 0) := by
  rw [dotL_sg _ _ (by rw [shares_len, sum_len]; exact Nat.le_refl _), shares_len]
theorem planted2 : ∀ i, i < (zM ns).many → dotL ((otherM ns).getD i []) (topsM ns (zM ns)) = (keptM ns).getD i 0 * lineM ns (zM ns) := fun i hi => by
  rw [other_at, kept_at]
  by_cases e : i = placeM ns
  · rw [if_pos e, if_pos e, mix_dot (rows_tab ns) (many1 ns) (by rw [shares_len]; exact Nat.le_refl _) (tops_len _ _), share_dot, ← sg_mulR]
    exact sg_congr _ fun k hk => by rw [planted ns k hk, Int.mul_assoc]
  · rw [if_neg e, if_neg e]
    exact planted ns i hi
theorem no_point {t : List Int} {l : Int} (hl : 1 ≤ l) (ht : t.length = (zM ns).width) (h : ∀ i, i < (zM ns).many → dotL ((otherM ns).getD i []) t = (raisedM ns).getD i 0 * l) : False := by
  have hp := place_lt ns
  have e := h _ hp
  rw [other_at, if_pos rfl, raised_at, if_pos rfl, mix_dot (rows_tab ns) (many1 ns) (by rw [shares_len]; exact Nat.le_refl _) ht] at e
  have e2 : sg (zM ns).many (fun i => (sharesM ns).getD i 0 * dotL ((rowsM ns).getD i []) t) = dotL (sharesM ns) (sumM ns) * l := by
    rw [share_dot, ← sg_mulR]
    refine sg_congr _ fun k hk => ?_
    by_cases q : k = placeM ns
    · have s0 : (sharesM ns).getD k 0 = 0 := by
        unfold sharesM
        rw [set_getD _ _ _ _ _ (by rw [List.length_set, shares0_len]; exact hp), if_pos q]
      rw [s0, Int.zero_mul, Int.zero_mul, Int.zero_mul]
    · have e3 := h k hk
      rw [other_at, if_neg q, raised_at, if_neg q, kept_at, if_neg q] at e3
      rw [e3, Int.mul_assoc]
  rw [e2, Int.add_mul] at e
  have e4 : (1 + furM ns) * signM ns * l = 0 := by omega
  have f1 := fur_lt ns
  have f2 : signM ns ≠ 0 := by unfold signM; split <;> decide
  rcases Int.mul_eq_zero.mp e4 with w | w
  · rcases Int.mul_eq_zero.mp w with w | w
    · omega
    · exact f2 w
  · omega
end
end LS

set_option Elab.async false
set_option linter.all false
set_option maxRecDepth 100000
set_option maxHeartbeats 4000000
set_option exponentiation.threshold 2000
namespace LS
open L2 M DL
section
variable {T : List (List Int)} {n w B kb : Nat}
theorem pre_rank (t : Tab n w T) (hn : n ≤ 1000) (hw : w ≤ 1000) (hB : 1 ≤ B) (hT : ∀ r ∈ T, ∀ x ∈ r, Bd B x) (h1 : B ≤ 2 ^ 23000) (h2 : (2 * n * B) ^ n ≤ 2 ^ 23000) : PreRank n w T :=
  ⟨hn, hw, t, fun r hr x hx => sm_of (hT r hr x hx) h1 _ (by decide), fun c hc => by
    obtain ⟨a, b, d⟩ := law_bd t hB hT (show c ≤ w by omega)
    refine ⟨a, b, fun r hr x hx => ?_⟩
    obtain ⟨k, hk, rfl⟩ := mem_getD [] hr
    obtain ⟨j, hj, rfl⟩ := mem_getD 0 hx
    rw [a.n] at hk
    exact sm_of (d k hk j) h2 _ (by decide)⟩
theorem pre_basis (t : Tab n w T) (hn : n ≤ 1000) (hw : w ≤ 1000) (hB : 1 ≤ B) (hT : ∀ r ∈ T, ∀ x ∈ r, Bd B x) (h2 : (2 * n * B) ^ n ≤ 2 ^ 11000) (hp : (elimTo T w).pv.length ≤ 30) : PreBasis n w T := by
  have bd : ∀ c, c ≤ w → ∀ r ∈ (elimTo T c).es, ∀ x ∈ r, Bd (2 ^ 11000) x := fun c hc r hr x hx => by
    obtain ⟨k, hk, rfl⟩ := mem_getD [] hr
    obtain ⟨j, hj, rfl⟩ := mem_getD 0 hx
    have hU := uinv t c hc
    rw [hU.tab.n] at hk
    exact (u_bd t hB hT hc hk j).mono h2
  have hU := uinv t w (Nat.le_refl _)
  refine ⟨⟨hn, hw, Nat.le_refl _, t, fun c hc => ?_⟩, ⟨by omega, taken_nd hU⟩, fun f hf => ⟨hn, hw, hU.tab, hf, fun ac hac => hU.pos ac hac, fun r hr x hx => sm_of (bd w (Nat.le_refl _) r hr x hx) (Nat.le_refl _) _ (by decide), ?_⟩⟩
  · have hU := uinv t c (show c ≤ w by omega)
    refine ⟨hU.tab, fun r hr x hx => sm_of (bd c (by omega) r hr x hx) (Nat.le_refl _) _ (by decide), fun a ha => ?_, hU.nd⟩
    obtain ⟨ac, hac, rfl⟩ := List.mem_map.mp ha
    exact (hU.pos ac hac).1
  · have l := line_le (elimTo T w) f (2 ^ 11000) (Nat.one_le_two_pow) (elimTo T w).pv 1 fun ac hac => by
      have p := hU.pos ac hac
      exact (u_bd t hB hT (Nat.le_refl _) p.1 ac.2).mono h2
    rw [Nat.one_mul, ← Nat.pow_mul] at l
    refine Nat.lt_of_le_of_lt l (Nat.pow_lt_pow_right (by decide) ?_)
    omega
theorem pv_le (t : Tab n w T) : (elimTo T w).pv.length ≤ n ∧ (elimTo T w).pv.length ≤ w := by
  have hU := uinv t w (Nat.le_refl _)
  have h1 := frees_len hU
  have h2 := nodup_len _ n hU.nd fun a ha => us_lt' t a ha
  have h3 : (elimTo T w).us.length = (elimTo T w).pv.length := List.length_map _
  omega
theorem is_ok (t : Tab n w T) (hn : n ≤ 1000) (hw : w ≤ 1000) (sp : Int) (hsp : sp = ((elimTo T w).pv.length : Int)) (bb : ∀ r ∈ basisM T w, ∀ x ∈ r, Sm 400000 x) (bt : ∀ r ∈ T, ∀ x ∈ r, Sm 400000 x) (pr : PreRank (basisM T w).length w (basisM T w)) : IsOk n w (basisM T w) T sp := by
  have hU := uinv t w (Nat.le_refl _)
  have h1 := frees_len hU
  have hl := basis_len T w
  have tb := basis_tab t
  refine ⟨by rw [hl]; omega, by rw [hl]; exact tb, t, hn, by rw [hl]; omega, hw, bb, bt, fun m hm b hb => ?_, pr, ?_⟩
  · obtain ⟨k, hk, rfl⟩ := mem_getD [] hm
    obtain ⟨i, hi, rfl⟩ := mem_getD [] hb
    rw [t.n] at hk
    rw [hl] at hi
    rw [dotL_sg _ _ (by rw [t.row hk, tb.row hi]; exact Nat.le_refl _), t.row hk]
    exact basis_zero t hi k hk
  · rw [law_rank_eq tb (Rk.ind (basis_ind t))]
    omega
theorem ranked (t : Tab n w T) (pb : PreBasis n w T) (due : Int) (hd : due = ((elimTo T w).pv.length : Int)) : RankedOk n w T due := by
  have h1 := frees_len (uinv t w (Nat.le_refl _))
  exact ⟨pb, by rw [basis_len]; omega⟩
/-- numbers small enough for all that is asked -/
structure Small (n w B kb : Nat) : Prop where
  n0 : 1 ≤ n
  w0 : 1 ≤ w
  n1 : n ≤ 30
  w1 : w ≤ 30
  hB : 1 ≤ B
  k : 64 * B ≤ 2 ^ kb
  dn : kb * n ≤ 11000
  dw : kb * w ≤ 11000
  c : ∀ p m, p ≤ n → p ≤ w → (p + m = w ∨ p + m = n) → (kb * p + 6) * m ≤ 11000
  c2 : ∀ p, p ≤ n → p ≤ w → (kb * p + kb + 6) * p ≤ 22999
theorem Small.symm (s : Small n w B kb) : Small w n B kb := ⟨s.w0, s.n0, s.w1, s.n1, s.hB, s.k, s.dw, s.dn, fun p m h1 h2 h => s.c p m h2 h1 h.symm, fun p h1 h2 => s.c2 p h2 h1⟩
theorem Small.bk (s : Small n w B kb) : B ≤ 2 ^ kb := Nat.le_trans (Nat.le_mul_of_pos_left _ (by decide)) s.k
theorem Small.rows (s : Small n w B kb) : (2 * n * B) ^ n ≤ 2 ^ 11000 := pow_fit n 11000 (Nat.le_trans (Nat.mul_le_mul_right _ (show 2 * n ≤ 64 by have := s.n1; omega)) s.k) s.dn
theorem Small.kb1 (s : Small n w B kb) : kb ≤ 11000 := Nat.le_trans (Nat.le_mul_of_pos_right _ s.n0) s.dn
theorem Small.null (s : Small n w B kb) {p : Nat} (hp : p ≤ n) : (2 * (p + 1) * B) ^ p ≤ 2 ^ (kb * p) := pow_fit p _ (Nat.le_trans (Nat.mul_le_mul_right _ (show 2 * (p + 1) ≤ 64 by have := s.n1; omega)) s.k) (Nat.le_refl _)
theorem p11 {a : Nat} (h : a ≤ 11000) : (2 : Nat) ^ a ≤ 2 ^ 23000 := Nat.pow_le_pow_right (by decide) (by omega)
theorem sm400 {b : Nat} {x : Int} (h : Bd b x) (l : b ≤ 2 ^ 23000) : Sm 400000 x := sm_of h l _ (by decide)
theorem Small.all (s : Small n w B kb) (t : Tab n w T) (hT : ∀ r ∈ T, ∀ x ∈ r, Bd B x) : PreRank n w T ∧ PreBasis n w T ∧ IsOk n w (basisM T w) T ((elimTo T w).pv.length : Int) ∧
    PreBasis (basisM T w).length w (basisM T w) ∧ IsOk (basisM T w).length w (basisM (basisM T w) w) (basisM T w) ((w : Int) - ((elimTo T w).pv.length : Int)) := by
  have n1 := s.n1
  have w1 := s.w1
  have hp := pv_le t
  have hl := basis_len T w
  have tb := basis_tab t
  have fl := frees_len (uinv t w (Nat.le_refl _))
  have bN := basis_bd t s.hB hT
  have bk := s.bk
  have kb1 := s.kb1
  have bsm : ∀ r ∈ T, ∀ x ∈ r, Sm 400000 x := fun r hr x hx => sm400 (hT r hr x hx) (Nat.le_trans bk (p11 kb1))
  have pr := pre_rank t (by omega) (by omega) s.hB hT (Nat.le_trans bk (p11 kb1)) (Nat.le_trans s.rows (p11 (Nat.le_refl _)))
  have pb := pre_basis t (by omega) (by omega) s.hB hT s.rows (by omega)
  have nl := s.null hp.1
  have nx : (2 : Nat) ^ (kb * (elimTo T w).pv.length) ≤ 2 ^ 11000 := Nat.pow_le_pow_right (by decide) (Nat.le_trans (Nat.mul_le_mul_left _ hp.1) s.dn)
  have N1 : 1 ≤ (2 * ((elimTo T w).pv.length + 1) * B) ^ (elimTo T w).pv.length := Nat.pow_pos (Nat.mul_pos (by omega) s.hB)
  have cN := s.c (elimTo T w).pv.length (freesM (elimTo T w) w).length hp.1 hp.2 (.inl (by omega))
  have c2N := s.c2 (elimTo T w).pv.length hp.1 hp.2
  have full := basis_full t
  have l2 := basis2_len t
  have b2 := null2_bd t s.hB hT
  have tN := tb
  rw [← hl] at tN cN
  -- the basis' rows under elimination
  have rowsN : (2 * (basisM T w).length * (2 * ((elimTo T w).pv.length + 1) * B) ^ (elimTo T w).pv.length) ^ (basisM T w).length ≤ 2 ^ 11000 := by
    have h1 : 2 * (basisM T w).length * (2 * ((elimTo T w).pv.length + 1) * B) ^ (elimTo T w).pv.length ≤ 2 ^ (kb * (elimTo T w).pv.length + 6) := by
      rw [Nat.pow_add, Nat.mul_comm (2 ^ _)]
      exact Nat.mul_le_mul (show _ ≤ 2 ^ 6 by omega) nl
    exact pow_fit _ 11000 h1 cN
  have prN := pre_rank tN (by omega) (by omega) N1 bN (Nat.le_trans nl (Nat.le_trans nx (p11 (Nat.le_refl _)))) (Nat.le_trans rowsN (p11 (Nat.le_refl _)))
  have pbN := pre_basis tN (by omega) (by omega) N1 bN rowsN (by rw [full]; omega)
  have smN : ∀ r ∈ basisM T w, ∀ x ∈ r, Sm 400000 x := fun r hr x hx => sm400 (bN r hr x hx) (Nat.le_trans nl (Nat.le_trans nx (p11 (Nat.le_refl _))))
  have is1 := is_ok t (by omega) (by omega) _ rfl smN bsm prN
  -- the basis' basis
  have hl2 := basis_len (basisM T w) w
  rw [l2] at hl2
  have tb2 := basis_tab tN
  rw [l2, ← hl2] at tb2
  have b2le : n * ((2 * (elimTo T w).pv.length * B) ^ ((elimTo T w).pv.length - 1) * B) ≤ 2 ^ (kb * (elimTo T w).pv.length + kb) := by
    have h0 : n * B ≤ 2 ^ kb := Nat.le_trans (Nat.mul_le_mul_right _ (show n ≤ 64 by omega)) s.k
    have h1 : (2 * (elimTo T w).pv.length * B) ^ ((elimTo T w).pv.length - 1) ≤ 2 ^ (kb * (elimTo T w).pv.length) := pow_fit _ _ (Nat.le_trans (Nat.mul_le_mul_right _ (show 2 * (elimTo T w).pv.length ≤ 64 by omega)) s.k) (Nat.mul_le_mul_left _ (by omega))
    rw [Nat.mul_left_comm, Nat.pow_add]
    exact Nat.mul_le_mul h1 h0
  have B1 : 1 ≤ 2 ^ (kb * (elimTo T w).pv.length + kb) := Nat.one_le_two_pow
  have bN2 : ∀ r ∈ basisM (basisM T w) w, ∀ x ∈ r, Bd (2 ^ (kb * (elimTo T w).pv.length + kb)) x := fun r hr x hx => (b2 r hr x hx).mono b2le
  have e2 : (2 : Nat) ^ (kb * (elimTo T w).pv.length + kb) ≤ 2 ^ 23000 := Nat.pow_le_pow_right (by decide) (by
    have := Nat.le_trans (Nat.mul_le_mul_left kb hp.1) s.dn
    omega)
  have rowsN2 : (2 * (basisM (basisM T w) w).length * 2 ^ (kb * (elimTo T w).pv.length + kb)) ^ (basisM (basisM T w) w).length ≤ 2 ^ 23000 := by
    have h1 : 2 * (basisM (basisM T w) w).length * 2 ^ (kb * (elimTo T w).pv.length + kb) ≤ 2 ^ (kb * (elimTo T w).pv.length + kb + 6) := by
      rw [Nat.pow_add 2 _ 6, Nat.mul_comm (2 ^ _) (2 ^ 6)]
      exact Nat.mul_le_mul_right _ (show _ ≤ 2 ^ 6 by omega)
    refine pow_fit _ 23000 h1 ?_
    rw [hl2]
    omega
  have prN2 := pre_rank tb2 (by omega) (by omega) B1 bN2 e2 rowsN2
  have smN2 : ∀ r ∈ basisM (basisM T w) w, ∀ x ∈ r, Sm 400000 x := fun r hr x hx => sm400 (bN2 r hr x hx) e2
  have is2 := is_ok tN (by omega) (by omega) ((w : Int) - ((elimTo T w).pv.length : Int)) (by rw [full]; omega) smN2 smN prN2
  exact ⟨pr, pb, is1, pbN, is2⟩
end
/-! the table turned -/
section
variable {O : List (List Int)} {n w B : Nat}
theorem turn_tab (t : Tab n w O) : Tab w n (turnM O w) := ⟨by unfold turnM; rw [List.length_map, List.length_range], fun r hr => by
  obtain ⟨j, _, rfl⟩ := List.mem_map.mp hr
  rw [List.length_map, t.n]⟩
theorem turn_en (t : Tab n w O) {j k : Nat} (hj : j < w) (hk : k < n) : En (turnM O w) j k = En O k j := by
  have e : (turnM O w).getD j [] = O.map fun r => r.getD j 0 := by
    unfold turnM
    exact getD_get (by rw [List.getElem?_map, List.getElem?_range hj]; rfl)
  unfold En
  rw [e]
  exact getD_get (by rw [List.getElem?_map, get_getD [] (by rw [t.n]; exact hk)]; rfl)
theorem turn_bd (t : Tab n w O) (hO : ∀ r ∈ O, ∀ x ∈ r, Bd B x) : ∀ r ∈ turnM O w, ∀ x ∈ r, Bd B x := fun r hr x hx => by
  obtain ⟨j, hj, rfl⟩ := List.mem_map.mp hr
  obtain ⟨r', hr', rfl⟩ := List.mem_map.mp hx
  exact hO r' hr' _ (M.getD_mem 0 (by rw [t.w r' hr']; exact List.mem_range.mp hj))
theorem turn_rank (t : Tab n w O) : (elimTo (turnM O w) n).pv.length = (elimTo O w).pv.length := by
  have h1 := rank_pv (uinv t w (Nat.le_refl _))
  have h2 := rank_pv (uinv (turn_tab t) n (Nat.le_refl _))
  exact h1.turned (h2.same fun k hk j hj => (turn_en t hk hj).symm)
/-! one more column -/
theorem aug_tab (t : Tab n w O) (b : List Int) : Tab n (w + 1) (augM O b n) := ⟨by unfold augM; rw [List.length_map, List.length_range], fun r hr => by
  obtain ⟨i, hi, rfl⟩ := List.mem_map.mp hr
  rw [List.length_append, t.row (List.mem_range.mp hi)]
  rfl⟩
theorem aug_en (t : Tab n w O) (b : List Int) {k j : Nat} (hk : k < n) (hj : j < w + 1) : En (augM O b n) k j = aug w (En O) (fun k => b.getD k 0) k j := by
  have e : (augM O b n).getD k [] = O.getD k [] ++ [b.getD k 0] := by
    unfold augM
    exact getD_get (by rw [List.getElem?_map, List.getElem?_range hk]; rfl)
  have hl := t.row hk
  unfold En
  rw [e]
  by_cases q : j < w
  · rw [aug_lt q, List.getD_eq_getElem?_getD, List.getElem?_append_left (by omega), ← List.getD_eq_getElem?_getD]
  · have jw : j = w := by omega
    subst jw
    rw [aug_w, List.getD_eq_getElem?_getD, List.getElem?_append_right (by omega), show j - (O.getD k []).length = 0 by omega]
    rfl
theorem aug_bd (t : Tab n w O) {b : List Int} (hl : b.length = n) (hO : ∀ r ∈ O, ∀ x ∈ r, Bd B x) (hb : ∀ x ∈ b, Bd B x) : ∀ r ∈ augM O b n, ∀ x ∈ r, Bd B x := fun r hr x hx => by
  obtain ⟨i, hi, rfl⟩ := List.mem_map.mp hr
  have hi := List.mem_range.mp hi
  rcases List.mem_append.mp hx with hx | hx
  · exact hO _ (M.getD_mem [] (by rw [t.n]; exact hi)) x hx
  · rw [List.mem_singleton.mp hx]
    exact hb _ (M.getD_mem 0 (by omega))
theorem aug_rank (t : Tab n w O) (b : List Int) {r : Nat} (h : Rk n (w + 1) (aug w (En O) fun k => b.getD k 0) r) : (elimTo (augM O b n) (w + 1)).pv.length = r :=
  (rank_pv (uinv (aug_tab t b) (w + 1) (Nat.le_refl _))).uniq (h.same fun k hk j hj => aug_en t b hk hj)
end
end LS

set_option Elab.async false
set_option linter.all false
set_option maxRecDepth 100000
set_option maxHeartbeats 4000000
set_option exponentiation.threshold 2000
namespace K02
open L2 M DL LS
theorem small (ns : List Int) : ∃ kb, Small (zM ns).many (zM ns).width (Bz (zM ns)) kb := by
  have hz := zOk ns
  generalize zM ns = z at hz
  have b1 : 1 ≤ Bz z := by unfold Bz; omega
  cases e : z.big with
  | true =>
    obtain ⟨m, w⟩ := hz.big e
    have hb := bz_big e
    have d1 : ∀ p, p < 4 → (1339 * p + 6) * (4 - p) ≤ 11000 := by decide
    have d2 : ∀ p, p < 4 → (1339 * p + 1339 + 6) * p ≤ 22999 := by decide
    refine ⟨1339, by omega, by omega, by omega, by omega, b1, ?_, by omega, by omega, fun p m h1 h2 h => Nat.le_trans (Nat.mul_le_mul_left _ (by omega)) (d1 p (by omega)), fun p h1 h2 => d2 p (by omega)⟩
    exact Nat.le_trans (Nat.mul_le_mul_left 64 hb) (by rw [show (64 : Nat) = 2 ^ 6 from rfl, ← Nat.pow_add]; exact Nat.le_refl _)
  | false =>
    obtain ⟨m, w, _⟩ := hz.not e
    have hb := bz_not e
    have d1 : ∀ p, p < 17 → (41 * p + 6) * (30 - p) ≤ 11000 := by decide
    have d2 : ∀ p, p < 17 → (41 * p + 41 + 6) * p ≤ 22999 := by decide
    refine ⟨41, by omega, by omega, by omega, by omega, b1, ?_, by omega, by omega, fun p m h1 h2 h => Nat.le_trans (Nat.mul_le_mul_left _ (by omega)) (d1 p (by omega)), fun p h1 h2 => d2 p (by omega)⟩
    exact Nat.le_trans (Nat.mul_le_mul_left 64 hb) (by rw [show (64 : Nat) = 2 ^ 6 from rfl, ← Nat.pow_add]; exact Nat.le_refl _)
section
variable (ns : List Int)
theorem both_ok {kb : Nat} (s : Small (zM ns).many (zM ns).width (Bz (zM ns)) kb) : ∃ b, BothOk (zM ns).many (zM ns).width (otherM ns) (keptM ns) (raisedM ns) (rankTo (otherM ns) (zM ns).width).q b := by
  have f := fits ns
  have ot := other_tab ns
  have ob := other_bz ns
  have r2 := solve_right f ot (raised_len ns) ob (raised_bz ns)
  have ps := solve_pre f ot (raised_len ns) ob (raised_bz ns)
  have l1 := (line_ok ns (zM ns)).1
  have pl := planted2 ns
  have np := fun {t l} h1 h2 h3 => no_point ns (t := t) (l := l) h1 h2 h3
  have kl := kept_len ns
  have rl := raised_len ns
  have kz := kept_bz ns
  have rz := raised_bz ns
  have tl := tops_len ns (zM ns)
  generalize topsM ns (zM ns) = X at pl tl
  generalize lineM ns (zM ns) = l at l1 pl
  generalize otherM ns = O at *
  generalize keptM ns = Kp at *
  generalize raisedM ns = Ra at *
  generalize Bz (zM ns) = B at *
  generalize (zM ns).many = n at *
  generalize (zM ns).width = w at *
  have n1 := s.n1
  have w1 := s.w1
  have n0 := s.n0
  have w0 := s.w0
  have hq := law_rank_pv ot
  have tt := turn_tab ot
  obtain ⟨_, pt, is, _, _⟩ := s.symm.all tt (turn_bd ot ob)
  have tr := turn_rank ot
  rw [tr, ← hq] at is
  have rk := rank_pv (uinv ot w (Nat.le_refl _))
  rw [← hq] at rk
  rw [← hq] at tr
  have bsm : B ≤ 2 ^ 23000 := Nat.le_trans s.bk (p11 s.kb1)
  -- the planted point as a sum
  have px : ∀ k, k < n → sg w (fun j => En O k j * X.getD j 0) = l * Kp.getD k 0 := fun k hk => by
    have q := pl k hk
    rw [dotL_sg _ _ (by rw [ot.row hk, tl]; exact Nat.le_refl _), ot.row hk] at q
    rw [Int.mul_comm l, ← q]
    rfl
  cases e : solM O Ra w with
  | pt t l' =>
    rw [e] at r2
    obtain ⟨_, _, q3, q4⟩ := r2.ok
    have hl := row_sm q3
    refine (np hl.2 (by omega) fun i hi => q4 i ?_).elim
    rw [ot.n]; exact hi
  | bar b =>
    rw [e] at r2
    obtain ⟨x1, x2, x3, x4⟩ := r2.ok
    have bl : b.length = n := by rw [x2, ot.n]
    have by0 : ∀ j, j < w → sg n (fun k => b.getD k 0 * En O k j) = 0 := fun j hj => by
      have q := mixedM_getD ot n0 (by rw [bl]; exact Nat.le_refl _) hj (fs := b)
      rw [x3 _ (M.getD_mem 0 (by rw [mixedM_len ot n0]; exact hj))] at q
      refine Eq.trans (sg_congr n fun k _ => ?_) q.symm
      exact Int.mul_comm _ _
    have bp : 0 < sg n (fun k => b.getD k 0 * Ra.getD k 0) := by
      rw [dotL_sg _ _ (by rw [bl, rl]; exact Nat.le_refl _), bl] at x4
      exact x4
    have bt := basis_tab tt
    have bnl := basis_len (turnM O w) n
    have hU := uinv tt n (Nat.le_refl _)
    have pkb := pre_basis (aug_tab ot Kp) (show n ≤ 1000 by omega) (show w + 1 ≤ 1000 by omega) s.hB (aug_bd ot kl ob kz) s.rows (by have := pv_le (aug_tab ot Kp); omega)
    have prb := pre_basis (aug_tab ot Ra) (show n ≤ 1000 by omega) (show w + 1 ≤ 1000 by omega) s.hB (aug_bd ot rl ob rz) s.rows (by have := pv_le (aug_tab ot Ra); omega)
    have ak := aug_rank ot Kp (rk_aug_point rk (show l ≠ 0 by omega) px)
    have ar := aug_rank ot Ra (rk_aug_bar rk by0 (by omega))
    refine ⟨b, ot, ⟨n0, by omega⟩, ⟨w0, by omega⟩, kl, rl, pt, is, ranked tt pt _ (by rw [tr]), fun y hy => ?_, ?_, fun x hx => sm400 (kz x hx) bsm, fun x hx => sm400 (rz x hx) bsm, ps, e, r2, ranked (aug_tab ot Kp) pkb _ (by rw [ak]), ranked (aug_tab ot Ra) prb _ (by rw [ar, Int.natCast_add]; rfl)⟩
    · obtain ⟨i, hi, rfl⟩ := mem_getD [] hy
      rw [bnl] at hi
      rw [dotL_sg _ _ (by rw [bt.row hi, kl]; exact Nat.le_refl _), bt.row hi]
      refine cancel (g := l) (by omega) ?_
      rw [Int.mul_zero, ← sg_mulL, sg_congr n (g := fun k => sg w (fun j => X.getD j 0 * (En (turnM O w) j k * En (basisM (turnM O w) n) i k))) fun k hk => by
        rw [Int.mul_left_comm, ← px k hk, ← sg_mulL]
        refine sg_congr w fun j hj => ?_
        rw [turn_en ot hj hk]
        show En (basisM (turnM O w) n) i k * _ = _
        grind, sg_swap, sg_congr w (g := fun _ => 0) fun j hj => by rw [sg_mulL, basis_zero tt hi j hj, Int.mul_zero], sg_zero]
    · refine Classical.byContradiction fun hno => ?_
      have all0 : ∀ y ∈ basisM (turnM O w) n, dotL y Ra = 0 := fun y hy => Classical.byContradiction fun q => hno ⟨y, hy, q⟩
      have sp := null_span hU (y := fun k => b.getD k 0) fun r hr => (hU.up r hr).orth fun j hj => by
        rw [sg_congr n (g := fun k => b.getD k 0 * En O k j) fun k hk => by rw [turn_en ot hj hk, Int.mul_comm]]
        exact by0 j hj
      have z := sp.orth (x := fun k => Ra.getD k 0) fun i hi => by
        have q := all0 ((basisM (turnM O w) n).getD i []) (M.getD_mem [] (by rw [bnl]; exact hi))
        rw [dotL_sg _ _ (by rw [bt.row hi, rl]; exact Nat.le_refl _), bt.row hi] at q
        refine Eq.trans (sg_congr n fun k _ => ?_) q
        rw [← basis_en hi]
        rfl
      have z : sg n (fun k => b.getD k 0 * Ra.getD k 0) = 0 := z
      omega
/-- all that the walk wants -/
theorem lawOk : LawOk (rowsM ns) (otherM ns) (sumM ns) (keptM ns) (raisedM ns) (zM ns).many (zM ns).width := by
  obtain ⟨kb, s⟩ := small ns
  have bo := both_ok ns s
  have f := fits ns
  have rt := rows_tab ns
  have ot := other_tab ns
  have r1 := solve_right f rt (sum_len ns) (rows_bz ns) (sum_bz ns)
  have l1 := (line_ok ns (zM ns)).1
  obtain ⟨pr, pb, is1, pbN, is2⟩ := s.all rt (rows_bz ns)
  obtain ⟨prO, pbO, _, _, _⟩ := s.all ot (other_bz ns)
  have q1 := law_rank_pv rt
  have q2 := law_rank_pv ot
  have fl := frees_len (uinv rt (zM ns).width (Nat.le_refl _))
  have tN := basis_tab rt
  have full := basis_full rt
  rw [← basis_len] at tN full fl
  rw [← q1] at is1 is2 fl
  refine ⟨pr, pb, is1, solve_pre f rt (sum_len ns) (rows_bz ns) (sum_bz ns), ?_, pbN, is2, ranked rt pb _ (by rw [q1]), ranked tN pbN _ (by rw [full]; omega), prO, ranked ot pbO _ (by rw [q2]), bo⟩
  cases e : solM (rowsM ns) (sumM ns) (zM ns).width with
  | pt t l => rw [e] at r1; exact ⟨t, l, rfl, r1⟩
  | bar x =>
    rw [e] at r1
    obtain ⟨_, q2, q3, q4⟩ := r1.ok
    exact (no_bar rt (many1 ns) (sum_len ns) (tops_len ns _) l1 (planted ns) (by rw [q2, rt.n]) q3 q4).elim
end
end K02

set_option Elab.async false
set_option linter.all false
set_option maxRecDepth 100000
set_option maxHeartbeats 0
namespace K02
open PySem PySem.Spec PyProof.Rows L2
/-! ### the head: facts by names -/
def dRatio : He.DefD := ⟨("ratio", none), "ratio", "ratio", defArgs sRatio, defBody sRatio, defScope sRatio, [.int 1], []⟩
def dRow : He.DefD := ⟨("row", none), "row", "row", defArgs sRow, defBody sRow, defScope sRow, [.int 1], []⟩
def dRowOf : He.DefD := ⟨("row_of", none), "row_of", "row_of", defArgs sRowOf, defBody sRowOf, defScope sRowOf, [], []⟩
def dLowest : He.DefD := ⟨("lowest", none), "lowest", "lowest", defArgs sLowest, defBody sLowest, defScope sLowest, [], []⟩
def dCleared : He.DefD := ⟨("cleared", none), "cleared", "cleared", defArgs sCleared, defBody sCleared, defScope sCleared, [], []⟩
def dFreeEntry : He.DefD := ⟨("free_entry", none), "free_entry", "free_entry", defArgs sFreeEntry, defBody sFreeEntry, defScope sFreeEntry, [], []⟩
def dEliminated : He.DefD := ⟨("eliminated", none), "eliminated", "eliminated", defArgs sEliminated, defBody sEliminated, defScope sEliminated, [], []⟩
def dBarOf : He.DefD := ⟨("bar_of", none), "bar_of", "bar_of", defArgs sBarOf, defBody sBarOf, defScope sBarOf, [], []⟩
def dSolved : He.DefD := ⟨("solved", none), "solved", "solved", defArgs sSolved, defBody sSolved, defScope sSolved, [], []⟩
def dNullVector : He.DefD := ⟨("null_vector", none), "null_vector", "null_vector", defArgs sNullVector, defBody sNullVector, defScope sNullVector, [], []⟩
def dNullBasis : He.DefD := ⟨("null_basis", none), "null_basis", "null_basis", defArgs sNullBasis, defBody sNullBasis, defScope sNullBasis, [], []⟩
def dRank : He.DefD := ⟨("rank", none), "rank", "rank", defArgs sRank, defBody sRank, defScope sRank, [], []⟩
def dLawWhole : He.DefD := ⟨("_law_whole", none), "_law_whole", "_law_whole", defArgs sLawWhole, defBody sLawWhole, defScope sLawWhole, [], []⟩
def dLawCell : He.DefD := ⟨("_law_cell", none), "_law_cell", "_law_cell", defArgs sLawCell, defBody sLawCell, defScope sLawCell, [], []⟩
def dLawDigits : He.DefD := ⟨("_law_digits", none), "_law_digits", "_law_digits", defArgs sLawDigits, defBody sLawDigits, defScope sLawDigits, [], []⟩
def dLawGcd : He.DefD := ⟨("_law_gcd", none), "_law_gcd", "_law_gcd", defArgs sLawGcd, defBody sLawGcd, defScope sLawGcd, [], []⟩
def dLawCommon : He.DefD := ⟨("_law_common", none), "_law_common", "_law_common", defArgs sLawCommon, defBody sLawCommon, defScope sLawCommon, [], []⟩
def dLawIsRow : He.DefD := ⟨("_law_is_row", none), "_law_is_row", "_law_is_row", defArgs sLawIsRow, defBody sLawIsRow, defScope sLawIsRow, [], []⟩
def dLawSum : He.DefD := ⟨("_law_sum", none), "_law_sum", "_law_sum", defArgs sLawSum, defBody sLawSum, defScope sLawSum, [], []⟩
def dLawLong : He.DefD := ⟨("_law_long", none), "_law_long", "_law_long", defArgs sLawLong, defBody sLawLong, defScope sLawLong, [], []⟩
def dLawMixed : He.DefD := ⟨("_law_mixed", none), "_law_mixed", "_law_mixed", defArgs sLawMixed, defBody sLawMixed, defScope sLawMixed, [], []⟩
def dLawTurned : He.DefD := ⟨("_law_turned", none), "_law_turned", "_law_turned", defArgs sLawTurned, defBody sLawTurned, defScope sLawTurned, [], []⟩
def dLawLowest : He.DefD := ⟨("_law_lowest", none), "_law_lowest", "_law_lowest", defArgs sLawLowest, defBody sLawLowest, defScope sLawLowest, [], []⟩
def dLawRank : He.DefD := ⟨("_law_rank", none), "_law_rank", "_law_rank", defArgs sLawRank, defBody sLawRank, defScope sLawRank, [], []⟩
def dLawDense : He.DefD := ⟨("_law_dense", none), "_law_dense", "_law_dense", defArgs sLawDense, defBody sLawDense, defScope sLawDense, [], []⟩
def dLawTwins : He.DefD := ⟨("_law_twins", none), "_law_twins", "_law_twins", defArgs sLawTwins, defBody sLawTwins, defScope sLawTwins, [], []⟩
def dLawSizes : He.DefD := ⟨("_law_sizes", none), "_law_sizes", "_law_sizes", defArgs sLawSizes, defBody sLawSizes, defScope sLawSizes, [], []⟩
def dLawPlanted : He.DefD := ⟨("_law_planted", none), "_law_planted", "_law_planted", defArgs sLawPlanted, defBody sLawPlanted, defScope sLawPlanted, [], []⟩
def dLawIsBasis : He.DefD := ⟨("_law_is_basis", none), "_law_is_basis", "_law_is_basis", defArgs sLawIsBasis, defBody sLawIsBasis, defScope sLawIsBasis, [], []⟩
def dLawRanked : He.DefD := ⟨("_law_ranked", none), "_law_ranked", "_law_ranked", defArgs sLawRanked, defBody sLawRanked, defScope sLawRanked, [], []⟩
def dLawRight : He.DefD := ⟨("_law_right", none), "_law_right", "_law_right", defArgs sLawRight, defBody sLawRight, defScope sLawRight, [], []⟩
def dLawBothSides : He.DefD := ⟨("_law_both_sides", none), "_law_both_sides", "_law_both_sides", defArgs sLawBothSides, defBody sLawBothSides, defScope sLawBothSides, [], []⟩
def dLaw : He.DefD := ⟨("law", none), "law", "law", defArgs sLaw, defBody sLaw, defScope sLaw, [], []⟩
def dZeroBottom_Init : He.DefD := ⟨("ZeroBottom", some "__init__"), "__init__", "ZeroBottom.__init__", defArgs sZeroBottom_Init, defBody sZeroBottom_Init, defScope sZeroBottom_Init, [], []⟩
def dSolution_Init : He.DefD := ⟨("Solution", some "__init__"), "__init__", "Solution.__init__", defArgs sSolution_Init, defBody sSolution_Init, defScope sSolution_Init, [], []⟩
def fn : List He.DefD := [dRatio, dRow, dRowOf, dLowest, dCleared, dFreeEntry, dEliminated, dBarOf, dSolved, dNullVector, dNullBasis, dRank, dLawWhole, dLawCell, dLawDigits, dLawGcd, dLawCommon, dLawIsRow, dLawSum, dLawLong, dLawMixed, dLawTurned, dLawLowest, dLawRank, dLawDense, dLawTwins, dLawSizes, dLawPlanted, dLawIsBasis, dLawRanked, dLawRight, dLawBothSides, dLaw, dZeroBottom_Init, dSolution_Init]
def fa : List He.Fa := [.glo "ratio", .glo "row", .glo "row_of", .glo "lowest", .glo "cleared", .glo "free_entry", .glo "eliminated", .glo "bar_of", .glo "solved", .glo "null_vector", .glo "null_basis", .glo "rank", .glo "_law_whole", .glo "_law_cell", .glo "_law_digits", .glo "_law_gcd", .glo "_law_common", .glo "_law_is_row", .glo "_law_sum", .glo "_law_long", .glo "_law_mixed", .glo "_law_turned", .glo "_law_lowest", .glo "_law_rank", .glo "_law_dense", .glo "_law_twins", .glo "_law_sizes", .glo "_law_planted", .glo "_law_is_basis", .glo "_law_ranked", .glo "_law_right", .glo "_law_both_sides", .glo "law", .glo "MarksError", .glo "ZeroBottom", .glo "Solution", .free "ValueError", .free "abs", .free "bool", .free "int", .free "isinstance", .free "len", .free "list", .free "max", .free "min", .free "range", .free "sum", .free "tuple", .cls "Solution", .mkr "Solution", .noat "Solution" "point", .noat "Solution" "bar"]
def exs (K : PySem.W.Frag) : List Bool := [He.eqO (PySem.W.nsIn K mainGlobals "gcd") (some (some (.builtin "math.gcd"))), He.eqO (PySem.W.nsIn K mainGlobals "lcm") (some (some (.builtin "math.lcm"))), decide (PySem.W.kitOne K (.type "tuple") (.ref (He.ga K "Solution")) = some false), decide (PySem.W.kitOne K (.type "list") (.ref (He.ga K "Solution")) = some false), decide (PySem.W.kitOne K (.type "int") (.ref (He.ga K "Solution")) = some false), decide (PySem.W.kitOne K (.type "NoneType") (.ref (He.ga K "Solution")) = some false), He.eqO (PySem.W.specialIn K (.builtin "object.__class__") "__get__") (some (some (.builtin "getset_descriptor.__get__"))), decide (PySem.W.takesIn K (.builtin "object.__class__") = some true), He.eqO (PySem.W.findIn K (.ref (He.ga K "Solution")) "__class__") (some (some (.builtin "object.__class__"))), decide (PySem.W.mroIn K (He.ga K "Solution") (.type "object") = some true), decide (PySem.W.kitOne K (.ref (He.ga K "Solution")) (.ref (He.ga K "Solution")) = some true), DL.seerB K]
def ex (K : PySem.W.Frag) : Bool := (exs K).all id
abbrev R : PySem.W.OpenRow := PySem.W.OpenLaw.row PySem.Challenge.rw_ledbymarks_k02_whole_solutions_and_basis
def loose0 : List PySem.Str := ["ratio", "row", "row_of", "lowest", "cleared", "free_entry", "eliminated", "bar_of", "solved", "null_vector", "null_basis", "rank", "_law_whole", "_law_cell", "_law_digits", "_law_gcd", "_law_common", "_law_is_row", "_law_sum", "_law_long", "_law_mixed", "_law_turned", "_law_lowest", "_law_rank", "_law_dense", "_law_twins", "_law_sizes", "_law_planted", "_law_is_basis", "_law_ranked"]
def loose1 : List PySem.Str := ["_law_right", "_law_both_sides", "MarksError", "ZeroBottom", "Solution"]
def loose : List PySem.Str := loose0 ++ loose1
abbrev hk : PySem.W.Hook := DL.hookS 4 fa fn ex
def ob (s : PySem.W.SharedT) : DL.AlS := DL.obsS 4 fa fn ex (HandSHeadRun.getT s)
theorem ob_eq (s : PySem.W.SharedT) : ob s = hk.obs s.abs := DL.obsS_eq (HandSHeadRun.getT_eq s)
theorem run (w : World) : HandSHeadRun.RunEqI R (PySem.W.view R.prog [0, 41]) hk ob 4000 loose w := by
  unfold HandSHeadRun.RunEqI
  kernel_rfl
section
variable {K : PySem.W.Frag} {h : Heap} {mg : Str → Option Value} {w : World}
theorem ex_at (c : ex K = true) (i : Nat) {b : Bool} (h : (exs K)[i]? = some b := by rfl) : b = true := List.all_eq_true.mp c b (List.mem_of_getElem? h)
theorem txt_of (X : K.In h) (G : h.Ns mainGlobals mg) (c : DL.SaysS fa fn ex K) : Txt K mg where
  f_Ratio := c.d.def_ 0 (d := dRatio) rfl
  g_Ratio := He.glo_ok X G (c.d.fact 0 (f := .glo "ratio") rfl)
  f_Row := c.d.def_ 1 (d := dRow) rfl
  g_Row := He.glo_ok X G (c.d.fact 1 (f := .glo "row") rfl)
  f_RowOf := c.d.def_ 2 (d := dRowOf) rfl
  g_RowOf := He.glo_ok X G (c.d.fact 2 (f := .glo "row_of") rfl)
  f_Lowest := c.d.def_ 3 (d := dLowest) rfl
  g_Lowest := He.glo_ok X G (c.d.fact 3 (f := .glo "lowest") rfl)
  f_Cleared := c.d.def_ 4 (d := dCleared) rfl
  g_Cleared := He.glo_ok X G (c.d.fact 4 (f := .glo "cleared") rfl)
  f_FreeEntry := c.d.def_ 5 (d := dFreeEntry) rfl
  g_FreeEntry := He.glo_ok X G (c.d.fact 5 (f := .glo "free_entry") rfl)
  f_Eliminated := c.d.def_ 6 (d := dEliminated) rfl
  g_Eliminated := He.glo_ok X G (c.d.fact 6 (f := .glo "eliminated") rfl)
  f_BarOf := c.d.def_ 7 (d := dBarOf) rfl
  g_BarOf := He.glo_ok X G (c.d.fact 7 (f := .glo "bar_of") rfl)
  f_Solved := c.d.def_ 8 (d := dSolved) rfl
  g_Solved := He.glo_ok X G (c.d.fact 8 (f := .glo "solved") rfl)
  f_NullVector := c.d.def_ 9 (d := dNullVector) rfl
  g_NullVector := He.glo_ok X G (c.d.fact 9 (f := .glo "null_vector") rfl)
  f_NullBasis := c.d.def_ 10 (d := dNullBasis) rfl
  g_NullBasis := He.glo_ok X G (c.d.fact 10 (f := .glo "null_basis") rfl)
  f_Rank := c.d.def_ 11 (d := dRank) rfl
  g_Rank := He.glo_ok X G (c.d.fact 11 (f := .glo "rank") rfl)
  f_LawWhole := c.d.def_ 12 (d := dLawWhole) rfl
  g_LawWhole := He.glo_ok X G (c.d.fact 12 (f := .glo "_law_whole") rfl)
  f_LawCell := c.d.def_ 13 (d := dLawCell) rfl
  g_LawCell := He.glo_ok X G (c.d.fact 13 (f := .glo "_law_cell") rfl)
  f_LawDigits := c.d.def_ 14 (d := dLawDigits) rfl
  g_LawDigits := He.glo_ok X G (c.d.fact 14 (f := .glo "_law_digits") rfl)
  f_LawGcd := c.d.def_ 15 (d := dLawGcd) rfl
  g_LawGcd := He.glo_ok X G (c.d.fact 15 (f := .glo "_law_gcd") rfl)
  f_LawCommon := c.d.def_ 16 (d := dLawCommon) rfl
  g_LawCommon := He.glo_ok X G (c.d.fact 16 (f := .glo "_law_common") rfl)
  f_LawIsRow := c.d.def_ 17 (d := dLawIsRow) rfl
  g_LawIsRow := He.glo_ok X G (c.d.fact 17 (f := .glo "_law_is_row") rfl)
  f_LawSum := c.d.def_ 18 (d := dLawSum) rfl
  g_LawSum := He.glo_ok X G (c.d.fact 18 (f := .glo "_law_sum") rfl)
  f_LawLong := c.d.def_ 19 (d := dLawLong) rfl
  g_LawLong := He.glo_ok X G (c.d.fact 19 (f := .glo "_law_long") rfl)
  f_LawMixed := c.d.def_ 20 (d := dLawMixed) rfl
  g_LawMixed := He.glo_ok X G (c.d.fact 20 (f := .glo "_law_mixed") rfl)
  f_LawTurned := c.d.def_ 21 (d := dLawTurned) rfl
  g_LawTurned := He.glo_ok X G (c.d.fact 21 (f := .glo "_law_turned") rfl)
  f_LawLowest := c.d.def_ 22 (d := dLawLowest) rfl
  g_LawLowest := He.glo_ok X G (c.d.fact 22 (f := .glo "_law_lowest") rfl)
  f_LawRank := c.d.def_ 23 (d := dLawRank) rfl
  g_LawRank := He.glo_ok X G (c.d.fact 23 (f := .glo "_law_rank") rfl)
  f_LawDense := c.d.def_ 24 (d := dLawDense) rfl
  g_LawDense := He.glo_ok X G (c.d.fact 24 (f := .glo "_law_dense") rfl)
  f_LawTwins := c.d.def_ 25 (d := dLawTwins) rfl
  g_LawTwins := He.glo_ok X G (c.d.fact 25 (f := .glo "_law_twins") rfl)
  f_LawSizes := c.d.def_ 26 (d := dLawSizes) rfl
  g_LawSizes := He.glo_ok X G (c.d.fact 26 (f := .glo "_law_sizes") rfl)
  f_LawPlanted := c.d.def_ 27 (d := dLawPlanted) rfl
  g_LawPlanted := He.glo_ok X G (c.d.fact 27 (f := .glo "_law_planted") rfl)
  f_LawIsBasis := c.d.def_ 28 (d := dLawIsBasis) rfl
  g_LawIsBasis := He.glo_ok X G (c.d.fact 28 (f := .glo "_law_is_basis") rfl)
  f_LawRanked := c.d.def_ 29 (d := dLawRanked) rfl
  g_LawRanked := He.glo_ok X G (c.d.fact 29 (f := .glo "_law_ranked") rfl)
  f_LawRight := c.d.def_ 30 (d := dLawRight) rfl
  g_LawRight := He.glo_ok X G (c.d.fact 30 (f := .glo "_law_right") rfl)
  f_LawBothSides := c.d.def_ 31 (d := dLawBothSides) rfl
  g_LawBothSides := He.glo_ok X G (c.d.fact 31 (f := .glo "_law_both_sides") rfl)
  f_Law := c.d.def_ 32 (d := dLaw) rfl
  g_Law := He.glo_ok X G (c.d.fact 32 (f := .glo "law") rfl)
  g_MarksError := He.glo_ok X G (c.d.fact 33 (f := .glo "MarksError") rfl)
  g_ZeroBottom := He.glo_ok X G (c.d.fact 34 (f := .glo "ZeroBottom") rfl)
  f_ZeroBottom_Init := c.d.def_ 33 (d := dZeroBottom_Init) rfl
  g_Solution := He.glo_ok X G (c.d.fact 35 (f := .glo "Solution") rfl)
  f_Solution_Init := c.d.def_ 34 (d := dSolution_Init) rfl
  ic_Solution := ⟨He.cls_ok (c.d.fact 48 (f := .cls "Solution") rfl), He.eqO_ok (ex_at c.more 8), He.eqO_ok (ex_at c.more 6), of_decide_eq_true (ex_at c.more 7), of_decide_eq_true (ex_at c.more 9), of_decide_eq_true (ex_at c.more 10)⟩
  cl_Solution := He.cls_ok (c.d.fact 48 (f := .cls "Solution") rfl)
  mk_Solution := He.mkr_ok (c.d.fact 49 (f := .mkr "Solution") rfl)
  ki_Solution_tuple := of_decide_eq_true (ex_at c.more 2)
  ki_Solution_list := of_decide_eq_true (ex_at c.more 3)
  ki_Solution_int := of_decide_eq_true (ex_at c.more 4)
  ki_Solution_NoneType := of_decide_eq_true (ex_at c.more 5)
  na_Solution_point := He.noat_ok (c.d.fact 50 (f := .noat "Solution" "point") rfl)
  na_Solution_bar := He.noat_ok (c.d.fact 51 (f := .noat "Solution" "bar") rfl)
  b_ValueError := He.free_ok X G (c.d.fact 36 (f := .free "ValueError") rfl)
  b_abs := He.free_ok X G (c.d.fact 37 (f := .free "abs") rfl)
  b_bool := He.free_ok X G (c.d.fact 38 (f := .free "bool") rfl)
  b_int := He.free_ok X G (c.d.fact 39 (f := .free "int") rfl)
  b_isinstance := He.free_ok X G (c.d.fact 40 (f := .free "isinstance") rfl)
  b_len := He.free_ok X G (c.d.fact 41 (f := .free "len") rfl)
  b_list := He.free_ok X G (c.d.fact 42 (f := .free "list") rfl)
  b_max := He.free_ok X G (c.d.fact 43 (f := .free "max") rfl)
  b_min := He.free_ok X G (c.d.fact 44 (f := .free "min") rfl)
  b_range := He.free_ok X G (c.d.fact 45 (f := .free "range") rfl)
  b_sum := He.free_ok X G (c.d.fact 46 (f := .free "sum") rfl)
  b_tuple := He.free_ok X G (c.d.fact 47 (f := .free "tuple") rfl)
  sb := ex_at c.more 11
  m_gcd := PySem.W.mg_of X G (He.eqO_ok (ex_at c.more 0))
  m_lcm := PySem.W.mg_of X G (He.eqO_ok (ex_at c.more 1))
end
end K02

set_option Elab.async false
set_option linter.all false
set_option maxRecDepth 100000
set_option maxHeartbeats 0
namespace K02
open PySem PySem.Spec PyProof.Rows L2 DL M LS
section
variable {P : Program} {w : World} {K : PySem.W.Frag} {mg : Str → Option Value} {base : Heap}
theorem law_cal (T : Txt K mg) (N : DL.Nos P K) : Cal P w K mg base 40 "law" ["script"] (spLaw K) := by
  have c_LawDigits := okLawDigits (P := P) (w := w) (base := base) T 
  have c_LawCell := okLawCell (P := P) (w := w) (base := base) T 
  have c_LawSizes := okLawSizes (P := P) (w := w) (base := base) T 
  have c_LawLong := okLawLong (P := P) (w := w) (base := base) T c_LawDigits
  have c_LawMixed := okLawMixed (P := P) (w := w) (base := base) T 
  have c_LawDense := okLawDense (P := P) (w := w) (base := base) T c_LawDigits c_LawCell c_LawMixed
  have c_LawTwins := okLawTwins (P := P) (w := w) (base := base) T 
  have c_LawSum := okLawSum (P := P) (w := w) (base := base) T 
  have c_LawPlanted := okLawPlanted (P := P) (w := w) (base := base) T c_LawDigits c_LawCell c_LawLong c_LawDense c_LawTwins c_LawSum
  have c_LawGcd := okLawGcd (P := P) (w := w) (base := base) T 
  have c_LawCommon := okLawCommon (P := P) (w := w) (base := base) T c_LawGcd
  have c_LawLowest := okLawLowest (P := P) (w := w) (base := base) T c_LawCommon N
  have c_LawRank := okLawRank (P := P) (w := w) (base := base) T c_LawLowest
  have c_LawWhole := okLawWhole (P := P) (w := w) (base := base) T 
  have c_LawIsBasis := okLawIsBasis (P := P) (w := w) (base := base) T c_LawWhole c_LawSum c_LawRank
  have c_LawIsRow := okLawIsRow (P := P) (w := w) (base := base) T c_LawWhole c_LawGcd c_LawCommon
  have c_LawRight := okLawRight (P := P) (w := w) (base := base) T c_LawIsRow c_LawSum c_LawWhole c_LawMixed
  have c_Lowest := okLowest (P := P) (w := w) (base := base) T N
  have c_FreeEntry := okFreeEntry (P := P) (w := w) (base := base) T 
  have c_Cleared := okCleared (P := P) (w := w) (base := base) T c_Lowest
  have c_Eliminated := okEliminated (P := P) (w := w) (base := base) T c_Lowest c_FreeEntry c_Cleared
  have c_BarOf := okBarOf (P := P) (w := w) (base := base) T c_Lowest
  have c_Ratio := okRatio (P := P) (w := w) (base := base) T 
  have c_Row := okRow (P := P) (w := w) (base := base) T 
  have c_RowOf := okRowOf (P := P) (w := w) (base := base) T c_Row
  have c_Solved := okSolved (P := P) (w := w) (base := base) T c_Eliminated c_BarOf c_Ratio c_RowOf (mkSolution T)
  have c_NullVector := okNullVector (P := P) (w := w) (base := base) T c_Lowest N
  have c_NullBasis := okNullBasis (P := P) (w := w) (base := base) T c_Eliminated c_NullVector
  have c_Rank := okRank (P := P) (w := w) (base := base) T c_NullBasis
  have c_Rank_width_table := kRank_width_table (P := P) (w := w) (base := base) T c_Rank
  have c_LawRanked := okLawRanked (P := P) (w := w) (base := base) T c_Rank c_LawWhole c_Rank_width_table
  have c_LawTurned := okLawTurned (P := P) (w := w) (base := base) T 
  have c_Solved_right_table := kSolved_right_table (P := P) (w := w) (base := base) T c_Solved
  have c_LawBothSides := okLawBothSides (P := P) (w := w) (base := base) T c_LawTurned c_NullBasis c_LawRanked c_LawIsBasis c_LawSum c_LawRight c_Solved_right_table
  have c_NullBasis_width_table := kNullBasis_width_table (P := P) (w := w) (base := base) T c_NullBasis
  have c_Law := okLaw (P := P) (w := w) (base := base) T c_LawDigits c_LawCell c_LawSizes c_LawPlanted c_LawRank c_LawIsBasis c_LawRight c_Solved c_NullBasis c_LawRanked c_LawMixed c_LawSum c_LawLong c_LawBothSides c_NullBasis_width_table
  exact c_Law
theorem facts {h : Heap} {f : Addr} (ht : P.given.tree = none) (X : K.In h) (G : h.Ns mainGlobals mg) (hfa : mg ("law" : Str) = some (.ref f)) (c : DL.SaysS fa fn ex K) :
    ∃ fd : FuncData, (∀ (s : Shared) (v : Value), BindsTo s fd ⟨[v], []⟩ [("script", v)]) ∧ ∀ base : Heap, K.In base → base.Ns mainGlobals mg → FnOk P w K mg base CX0 40 f fd ["script"] (spLaw K) := by
  have T : Txt K mg := txt_of X G c
  obtain ⟨fd, F⟩ := T.f_Law
  have e := hfa.symm.trans T.g_Law
  cases e
  have b := FunD.bindsA (ps := ["script"]) F fun _ _ _ _ _ _ us hl => match us, hl with | [_], _ => rfl
  refine ⟨fd, fun s v => b s [v] rfl, fun base _ _ => ?_⟩
  obtain ⟨f', fd', ds, hm', hk, Fo, b', hd, oc, od, osl, lk⟩ := (law_cal (P := P) (w := w) (base := base) T ⟨ht, T.sb⟩).ex
  rw [hfa] at hm'
  cases hm'
  obtain ⟨oc2, od2, osl2, lk2⟩ := fd_at F
  rw [lk] at lk2
  cases lk2
  exact Fo
end
end K02
open PySem PySem.W PySem.Calls PyProof.Rows
theorem PySem.Challenge.cw_ledbymarks_k02_whole_solutions_and_basis_holds : PySem.Challenge.rw_ledbymarks_k02_whole_solutions_and_basis.Holds := by
  w_on; o_law
  refine HandSHeadRun.head_imp (r := OpenLaw.row PySem.Challenge.rw_ledbymarks_k02_whole_solutions_and_basis) (q := view (OpenLaw.row PySem.Challenge.rw_ledbymarks_k02_whole_solutions_and_basis).prog [0, 41]) (H := K02.hk) (ob := K02.ob) (M := 4000) (loose := K02.loose) (d := HandSHeadRun.topDef (OpenLaw.row PySem.Challenge.rw_ledbymarks_k02_whole_solutions_and_basis).prog 41) (kwd := []) K02.ob_eq
    K02.run (by kernel_rfl) (by kernel_rfl) (by kernel_rfl) (by rfl) (by first | assumption | decide +kernel) (by decide +kernel) ⟨rfl, rfl, rfl, rfl, rfl, by decide +kernel⟩ ?hw ?hc
  case hw => w_witness2
  case hc =>
    refine L2.walk_ofE (l := PySem.Challenge.rw_ledbymarks_k02_whole_solutions_and_basis) (n := 63) (k := 40) (x := "script") (CX := L2.CX0) rfl (by decide) (by kernel_rfl) ⟨rfl, by decide, by decide⟩ ?F (fun _ _ _ _ z => z)
    intro w mg fa h Y G hmg0
    obtain ⟨K, KX, c⟩ := Y
    have hmg : mg ("law" : PySem.Str) = some (.ref fa) := by
      have e : (HandSHeadRun.topDef (OpenLaw.row PySem.Challenge.rw_ledbymarks_k02_whole_solutions_and_basis).prog 41).name = ("law" : PySem.Str) := by kernel_rfl
      rw [← e]
      exact hmg0
    have ht : (PySem.Challenge.rw_ledbymarks_k02_whole_solutions_and_basis).prog.given.tree = none := by first | rfl | kernel_rfl
    obtain ⟨fd, hb, hF⟩ := K02.facts (P := (PySem.Challenge.rw_ledbymarks_k02_whole_solutions_and_basis).prog) (w := w) ht KX G hmg c
    refine ⟨K, fd, K02.spLaw K, KX, hb, fun H a ns hl _ hS => ?_, hF⟩
    exact ⟨H, ns, DL.Ex.refl H, .cons (.rd hS DL.Rps.ofInts) .nil, K02.lawOk ns, fun v H2 ⟨Hn, g, r⟩ => by
      cases r
      rfl⟩

