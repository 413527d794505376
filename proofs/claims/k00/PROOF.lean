import PyProof.Rows.All
import Wide.All
import OpenK.AllK
import Wide.FinOn
import HandS.ForMost
import HandS.ForExc
import HandS.Wide
import HandS.WideMore
import HandS.Gcd
import HandS.IsInst
import HandS.Defaults
import HandS.MakeKw
import HandS.DictComp
import HandS.Flow
import HandS.More
import HandS.Codes
import PyProof.NoPylong
import PyProof.MeetsIn
import KE.KMathG
import HandS.Head0
import HandS.Head1
import HandS.Head2
import HandS.Head3
import HandS.HeadEnd
import HandS.HeadHook1
import HandS.HeadHook2
import HandS.HeadHook3
import HandS.HeadHook4
import HandS.Conv
import HandS.Exc
import HandS.ExcOwn
import HandS.ExcInit
import HandS.ExcField
import HandS.ExcCtx
import HandS.HotCalls
import KE.KExcIs
import PySem.Challenge.RW_ledbymarks_k00_whole_two_arithmetics
set_option Elab.async false
set_option linter.all false
set_option maxRecDepth 100000
set_option maxHeartbeats 4000000
/-! DL1: data in place of values: an expression's reading, told by data alone. -/
namespace DL
open PySem PySem.Spec PyProof.Rows L2

/-- data: what a value stands for, without addresses -/
inductive D where
  | non | bl (b : Bool) | int (i : Int) | str (x : Str)
  | lst (xs : List D) | rd (xs : List D) | tup (xs : List D)
  | ins (C : Addr) (ns : List Str) (xs : List D)
  | dct (ks : List Key) (xs : List D)

abbrev dI (ns : List Int) : List D := ns.map D.int

theorem dI_append (a b : List Int) : dI (a ++ b) = dI a ++ dI b := List.map_append
/-! ### heaps -/
def Ex (H H' : Hp) : Prop := ∀ a o, H a = some o → H' a = some o
theorem Ex.refl (H : Hp) : Ex H H := fun _ _ h => h
theorem Ex.trans {H H1 H2 : Hp} (a : Ex H H1) (b : Ex H1 H2) : Ex H H2 := fun x o h => b x o (a x o h)
theorem Ex.new {H : Hp} {p : Addr} {o : HO} (h : H p = none) : Ex H (upd H p o) := fun a u e => by
  rw [upd_ne (ne_of_none e h)]
  exact e
theorem Ex.mut {H H' : Hp} {p : Addr} {o : HO} (e : Ex H H') (h : H p = none) : Ex H (upd H' p o) := fun a u ha => by
  rw [upd_ne (ne_of_none ha h)]
  exact e a u ha
theorem Ex.back {H H' : Hp} {p : Addr} (e : Ex H H') (h : H' p = none) : H p = none := by
  cases h1 : H p with
  | none => rfl
  | some o => rw [e p o h1] at h; cases h
theorem ex_l {K : PySem.W.Frag} {H H' : Hp} {a : Addr} {xs : List V} (e : Ex H H') (h : SqL K H a xs) : SqL K H' a xs := by
  rcases h with (h | ⟨o, h⟩) | h
  · exact .inl (.inl (e _ _ h))
  · exact .inl (.inr ⟨o, e _ _ h⟩)
  · exact .inr h
theorem ex_t {K : PySem.W.Frag} {H H' : Hp} {a : Addr} {xs : List V} (e : Ex H H') (h : SqT K H a xs) : SqT K H' a xs := by
  rcases h with (h | ⟨o, h⟩) | h
  · exact .inl (.inl (e _ _ h))
  · exact .inl (.inr ⟨o, e _ _ h⟩)
  · exact .inr h
/-- what was known grows from H to Hn, the whole heap from H1 to H2; what is new in Hn was free in H1 -/
structure Gr (H H1 Hn H2 : Hp) : Prop where
  kn : Ex H Hn
  inn : Ex Hn H2
  all : Ex H1 H2
  new : ∀ a o, Hn a = some o → H a = none → H1 a = none
theorem Gr.refl {H H1 : Hp} (e : Ex H H1) : Gr H H1 H H1 := ⟨Ex.refl _, e, Ex.refl _, fun a o h n => by rw [n] at h; cases h⟩
theorem Gr.trans {H H1 Hn H2 Hm H3 : Hp} (a : Gr H H1 Hn H2) (b : Gr Hn H2 Hm H3) : Gr H H1 Hm H3 := by
  refine ⟨a.kn.trans b.kn, b.inn, a.all.trans b.all, fun x o h n => ?_⟩
  cases q : Hn x with
  | none => exact a.all.back (b.new x o h q)
  | some u => exact a.new x u q n
/-- a new object is made and known -/
theorem Gr.made {H H1 Hn H2 : Hp} {p : Addr} {o : HO} (a : Gr H H1 Hn H2) (h : H2 p = none) : Gr H H1 (upd Hn p o) (upd H2 p o) := by
  have hn : Hn p = none := a.inn.back h
  refine ⟨a.kn.mut (a.kn.back hn), fun x u q => ?_, a.all.mut (a.all.back h), fun x u q n => ?_⟩
  · by_cases e : x = p
    · subst e; rw [upd_same] at q ⊢; exact q
    · rw [upd_ne e] at q ⊢; exact a.inn x u q
  · by_cases e : x = p
    · subst e; exact a.all.back h
    · rw [upd_ne e] at q; exact a.new x u q n
/-- a new object that stands already becomes known -/
theorem Gr.know {H H1 Hn H2 : Hp} {p : Addr} {o : HO} (a : Gr H H1 Hn H2) (h1 : H1 p = none) (h2 : H2 p = some o) (hn : Hn p = none) : Gr H H1 (upd Hn p o) H2 := by
  refine ⟨a.kn.mut (a.kn.back hn), fun x u q => ?_, a.all, fun x u q n => ?_⟩
  · by_cases e : x = p
    · subst e; rw [upd_same] at q; rw [h2]; exact q
    · rw [upd_ne e] at q; exact a.inn x u q
  · by_cases e : x = p
    · subst e; exact h1
    · rw [upd_ne e] at q; exact a.new x u q n
/-- less is known ahead -/
theorem Gr.drop {H H' H1 Hn H2 : Hp} (e : Ex H H') (e1 : Ex H' H1) (a : Gr H' H1 Hn H2) (h : ∀ a o, Hn a = some o → H' a ≠ none → H a = none → False) : Gr H H1 Hn H2 := by
  refine ⟨e.trans a.kn, a.inn, a.all, fun x o q n => ?_⟩
  cases r : H' x with
  | none => exact a.new x o q r
  | some u => exact (h x o q (by rw [r]; exact fun z => by cases z) n).elim
/-- more is known -/
def un (H Hn : Hp) : Hp := fun a => match Hn a with
  | some o => some o
  | none => H a
theorem un_l {H Hn H2 : Hp} (a : Ex H H2) (b : Ex Hn H2) : Ex H (un H Hn) := fun x o q => by
  unfold un
  cases r : Hn x with
  | none => exact q
  | some u =>
    have h1 := b x u r
    have h2 := a x o q
    rw [h1] at h2
    exact h2
theorem un_r {H Hn : Hp} : Ex Hn (un H Hn) := fun x o q => by
  unfold un
  rw [q]
theorem un_in {H Hn H2 : Hp} (a : Ex H H2) (b : Ex Hn H2) : Ex (un H Hn) H2 := fun x o q => by
  unfold un at q
  cases r : Hn x with
  | none => rw [r] at q; exact a x o q
  | some u => rw [r] at q; exact b x o (r.trans q)
theorem Gr.lift {H H' H1 Hn H2 : Hp} (e1 : Ex H' H1) (a : Gr H H1 Hn H2) (e : Ex H H') : Gr H' H1 (un H' Hn) H2 := by
  have q : Ex H' H2 := e1.trans a.all
  refine ⟨un_l q a.inn, un_in q a.inn, a.all, fun x o r n => ?_⟩
  unfold un at r
  cases z : Hn x with
  | none => rw [z] at r; rw [n] at r; cases r
  | some u => exact a.new x u z (e.back n)

/-! ### a value stands for data -/
mutual
inductive Rp (K : PySem.W.Frag) (H : Hp) : V → D → Prop
  | non : Rp K H .non .non
  | bl (b : Bool) : Rp K H (.bl b) (.bl b)
  | int (i : Int) : Rp K H (.int i) (.int i)
  | str (x : Str) : Rp K H (.str x) (.str x)
  | lst {a : Addr} {xs : List V} {ds : List D} : H a = some (.lst xs) → Rps K H xs ds → Rp K H (.ref a) (.lst ds)
  | rd {a : Addr} {xs : List V} {ds : List D} : SqL K H a xs → Rps K H xs ds → Rp K H (.ref a) (.rd ds)
  | tup {a : Addr} {xs : List V} {ds : List D} : SqT K H a xs → Rps K H xs ds → Rp K H (.ref a) (.tup ds)
  | ins {a C dx : Addr} {fs : List (Str × V)} {ds : List D} : H a = some (.ins C dx fs) → Rps K H (fs.map Prod.snd) ds → Rp K H (.ref a) (.ins C (fs.map Prod.fst) ds)
  | dct {a : Addr} {kvs : List (Key × V)} {ds : List D} : H a = some (.dK kvs) → Rps K H (kvs.map Prod.snd) ds → Rp K H (.ref a) (.dct (kvs.map Prod.fst) ds)
inductive Rps (K : PySem.W.Frag) (H : Hp) : List V → List D → Prop
  | nil : Rps K H [] []
  | cons {v : V} {vs : List V} {d : D} {ds : List D} : Rp K H v d → Rps K H vs ds → Rps K H (v :: vs) (d :: ds)
end
section
variable {K : PySem.W.Frag} {H H' : Hp}
mutual
theorem Rp.mono (e : Ex H H') : ∀ {v : V} {d : D}, Rp K H v d → Rp K H' v d
  | _, _, .non => .non
  | _, _, .bl b => .bl b
  | _, _, .int i => .int i
  | _, _, .str x => .str x
  | _, _, .lst h r => .lst (e _ _ h) (Rps.mono e r)
  | _, _, .rd h r => .rd (ex_l e h) (Rps.mono e r)
  | _, _, .tup h r => .tup (ex_t e h) (Rps.mono e r)
  | _, _, .ins h r => .ins (e _ _ h) (Rps.mono e r)
  | _, _, .dct h r => .dct (e _ _ h) (Rps.mono e r)
theorem Rps.mono (e : Ex H H') : ∀ {vs : List V} {ds : List D}, Rps K H vs ds → Rps K H' vs ds
  | _, _, .nil => .nil
  | _, _, .cons r t => .cons (Rp.mono e r) (Rps.mono e t)
end
theorem Rps.length : ∀ {vs : List V} {ds : List D}, Rps K H vs ds → vs.length = ds.length
  | _, _, .nil => rfl
  | _, _, .cons _ t => congrArg Nat.succ (Rps.length t)
theorem Rps.get : ∀ {vs : List V} {ds : List D} {i : Nat} {d : D}, Rps K H vs ds → ds[i]? = some d → ∃ v, vs[i]? = some v ∧ Rp K H v d
  | _, _, _, _, .nil, e => by simp at e
  | _, _, 0, _, .cons r _, e => by simp at e; subst e; exact ⟨_, rfl, r⟩
  | _, _, i + 1, d, .cons _ t, e => by
    obtain ⟨v, h1, h2⟩ := Rps.get (i := i) (d := d) t (by simpa using e)
    exact ⟨v, by simpa using h1, h2⟩
theorem Rps.getV : ∀ {vs : List V} {ds : List D} {i : Nat} {v : V}, Rps K H vs ds → vs[i]? = some v → ∃ d, ds[i]? = some d ∧ Rp K H v d
  | _, _, _, _, .nil, e => by simp at e
  | _, _, 0, _, .cons r _, e => by simp at e; subst e; exact ⟨_, rfl, r⟩
  | _, _, i + 1, v, .cons _ t, e => by
    obtain ⟨d, h1, h2⟩ := Rps.getV (i := i) (v := v) t (by simpa using e)
    exact ⟨d, by simpa using h1, h2⟩
theorem Rps.append : ∀ {vs ws : List V} {ds es : List D}, Rps K H vs ds → Rps K H ws es → Rps K H (vs ++ ws) (ds ++ es)
  | _, _, _, _, .nil, s => s
  | _, _, _, _, .cons r t, s => .cons r (Rps.append t s)
theorem Rps.one {v : V} {d : D} (h : Rp K H v d) : Rps K H [v] [d] := .cons h .nil
theorem Rps.set {v : V} {d : D} (h : Rp K H v d) : ∀ {vs : List V} {ds : List D} (i : Nat), Rps K H vs ds → Rps K H (vs.set i v) (ds.set i d)
  | _, _, _, .nil => .nil
  | _, _, 0, .cons _ t => .cons h t
  | _, _, i + 1, .cons q t => .cons q (Rps.set h i t)
theorem Rps.take : ∀ {vs : List V} {ds : List D} (n : Nat), Rps K H vs ds → Rps K H (vs.take n) (ds.take n)
  | _, _, 0, _ => .nil
  | _, _, _ + 1, .nil => .nil
  | _, _, n + 1, .cons r t => .cons r (Rps.take n t)
theorem Rps.drop : ∀ {vs : List V} {ds : List D} (n : Nat), Rps K H vs ds → Rps K H (vs.drop n) (ds.drop n)
  | _, _, 0, r => r
  | _, _, _ + 1, .nil => .nil
  | _, _, n + 1, .cons _ t => Rps.drop n t
theorem Rps.toI : ∀ {vs : List V} {ns : List Int}, Rps K H vs (dI ns) → vs = ns.map V.int
  | vs, [], h => by cases h; rfl
  | vs, n :: ns, h => by
    cases h with
    | cons r t =>
      cases r
      rw [Rps.toI (ns := ns) t]
      rfl
theorem Rps.ofInts : ∀ {ns : List Int}, Rps K H (ns.map V.int) (DL.dI ns)
  | [] => .nil
  | n :: ns => .cons (.int n) Rps.ofInts
theorem Rps.rep {v : V} {d : D} (h : Rp K H v d) : ∀ n : Nat, Rps K H (List.replicate n v) (List.replicate n d)
  | 0 => .nil
  | n + 1 => .cons h (Rps.rep h n)
end

/-! ### the slots' data; readings of expressions -/
abbrev Env := List (Option D)
structure ER (K : PySem.W.Frag) (H : Hp) (σ : L2.St) (η : Env) : Prop where
  len : η.length = σ.length
  get : ∀ (i : Nat) (d : D), η[i]? = some (some d) → ∃ v, σ[i]? = some (some v) ∧ Rp K H v d
theorem ER.mono {K : PySem.W.Frag} {H H' : Hp} {σ : L2.St} {η : Env} (e : Ex H H') (h : ER K H σ η) : ER K H' σ η := ⟨h.len, fun i d q => by
  obtain ⟨v, a, b⟩ := h.get i d q
  exact ⟨v, a, b.mono e⟩⟩
theorem ER.set {K : PySem.W.Frag} {H : Hp} {σ : L2.St} {η : Env} {i : Nat} {v : V} {d : D} (h : ER K H σ η) (r : Rp K H v d) : ER K H (σ.set i (some v)) (η.set i (some d)) := ⟨by simp [h.len], fun j e q => by
  by_cases hj : j = i
  · subst hj
    have hl : j < η.length := by
      have := (List.getElem?_eq_some_iff.mp q).1
      simpa using this
    rw [List.getElem?_set_self hl] at q
    cases q
    exact ⟨v, List.getElem?_set_self (by rw [← h.len]; exact hl), r⟩
  · rw [List.getElem?_set_ne (Ne.symm hj)] at q ⊢
    exact h.get j e q⟩
/-- slots forgotten -/
def wipeE (η : Env) : List Nat → Env
  | [] => η
  | v :: vs => (wipeE η vs).set v none
theorem ER.wipe {K : PySem.W.Frag} {H : Hp} {σ : L2.St} {η : Env} (h : ER K H σ η) : ∀ vs : List Nat, ER K H (L2.wipe σ vs) (wipeE η vs)
  | [] => h
  | v :: vs => by
    have ih := ER.wipe h vs
    refine ⟨by unfold wipeE L2.wipe; simp [ih.len], fun j e q => ?_⟩
    unfold wipeE at q
    unfold L2.wipe
    by_cases hj : j = v
    · subst hj
      by_cases hl : j < (wipeE η vs).length
      · rw [List.getElem?_set_self hl] at q
        cases q
      · rw [List.getElem?_eq_none (by simpa using hl)] at q
        cases q
    · rw [List.getElem?_set_ne (Ne.symm hj)] at q ⊢
      exact ih.get j e q
theorem wipe_set {i : Nat} {o : Option V} : ∀ {vs : List Nat} {σ : L2.St}, i ∈ vs → L2.wipe (σ.set i o) vs = L2.wipe σ vs
  | [], _, h => by cases h
  | v :: vs, σ, h => by
    unfold L2.wipe
    by_cases e : i ∈ vs
    · rw [wipe_set e]
    · have ei : i = v := by
        rcases List.mem_cons.mp h with h | h
        · exact h
        · exact absurd h e
      subst ei
      have q : ∀ (ws : List Nat) (τ : L2.St), i ∉ ws → L2.wipe (τ.set i o) ws = (L2.wipe τ ws).set i o := by
        intro ws
        induction ws with
        | nil => intro τ _; rfl
        | cons w ws ih =>
          intro τ hn
          unfold L2.wipe
          rw [ih τ fun z => hn (List.mem_cons_of_mem _ z)]
          exact List.set_comm _ _ fun z => hn (by rw [← z]; exact List.mem_cons_self)
      rw [q vs σ e, List.set_set]
theorem wipe_wipe {σ : L2.St} : ∀ {vs : List Nat}, L2.wipe (L2.wipe σ vs) vs = L2.wipe σ vs := by
  have q : ∀ (ws vs : List Nat) (τ : L2.St), (∀ w ∈ ws, w ∈ vs) → L2.wipe (L2.wipe τ ws) vs = L2.wipe τ vs := by
    intro ws
    induction ws with
    | nil => intro vs τ _; rfl
    | cons w ws ih =>
      intro vs τ h
      show L2.wipe ((L2.wipe τ ws).set w none) vs = _
      rw [wipe_set (h w List.mem_cons_self)]
      exact ih vs τ fun x hx => h x (List.mem_cons_of_mem _ hx)
  exact fun {vs} => q vs vs σ fun _ h => h

def EvD (K : PySem.W.Frag) (te : TE) (η : Env) (d : D) : Prop := ∀ H σ H1, ER K H σ η → Ex H H1 → ∀ Q : VK, (∀ v Hn H2, Gr H H1 Hn H2 → Rp K Hn v d → Q v H2) → te σ H1 Q
/-- a new list -/
def EvL (K : PySem.W.Frag) (te : TE) (η : Env) (ds : List D) : Prop := ∀ H σ H1, ER K H σ η → Ex H H1 → ∀ Q : VK,
  (∀ p vs Hn H2, Gr H H1 Hn H2 → H1 p = none → Hn p = none → H2 p = some (.lst vs) → Rps K Hn vs ds → Q (.ref p) H2) → te σ H1 Q
def EvA (K : PySem.W.Frag) (ta : TA) (η : Env) (ds : List D) : Prop := ∀ H σ H1, ER K H σ η → Ex H H1 → ∀ Q : List V → Hp → Prop, (∀ vs Hn H2, Gr H H1 Hn H2 → Rps K Hn vs ds → Q vs H2) → ta σ H1 Q
def EvT (K : PySem.W.Frag) (tt : TT) (η : Env) (b : Bool) : Prop := ∀ H σ H1, ER K H σ η → Ex H H1 → ∀ Q : Bool → Hp → Prop, (∀ H2, Ex H1 H2 → Q b H2) → tt σ H1 Q
def EvO (K : PySem.W.Frag) (to : TO) (η : Env) (o : Option Int) : Prop := ∀ H σ H1, ER K H σ η → Ex H H1 → ∀ Q : Option Int → Hp → Prop, (∀ H2, Ex H1 H2 → Q o H2) → to σ H1 Q

/-! operations on data -/
def OpD (K : PySem.W.Frag) (r : R2) (a b c : D) : Prop := ∀ x y H H1, Rp K H x a → Rp K H y b → Ex H H1 → ∀ Q : VK, (∀ v Hn H2, Gr H H1 Hn H2 → Rp K Hn v c → Q v H2) → r x y H1 Q
def OpL (K : PySem.W.Frag) (r : R2) (a b : D) (cs : List D) : Prop := ∀ x y H H1, Rp K H x a → Rp K H y b → Ex H H1 → ∀ Q : VK,
  (∀ p vs Hn H2, Gr H H1 Hn H2 → H1 p = none → Hn p = none → H2 p = some (.lst vs) → Rps K Hn vs cs → Q (.ref p) H2) → r x y H1 Q
def UnD (K : PySem.W.Frag) (r : V → Hp → VK → Prop) (a c : D) : Prop := ∀ x H H1, Rp K H x a → Ex H H1 → ∀ Q : VK, (∀ v Hn H2, Gr H H1 Hn H2 → Rp K Hn v c → Q v H2) → r x H1 Q
def CbD (K : PySem.W.Frag) (r : List V → Hp → VK → Prop) (as : List D) (c : D) : Prop := ∀ xs H H1, Rps K H xs as → Ex H H1 → ∀ Q : VK, (∀ v Hn H2, Gr H H1 Hn H2 → Rp K Hn v c → Q v H2) → r xs H1 Q
def CbL (K : PySem.W.Frag) (r : List V → Hp → VK → Prop) (as : List D) (cs : List D) : Prop := ∀ xs H H1, Rps K H xs as → Ex H H1 → ∀ Q : VK,
  (∀ p vs Hn H2, Gr H H1 Hn H2 → H1 p = none → Hn p = none → H2 p = some (.lst vs) → Rps K Hn vs cs → Q (.ref p) H2) → r xs H1 Q

section
variable {K : PySem.W.Frag} {η : Env} {ta tb te : TE} {t u : TT} {a b c d : D} {as cs ds : List D} {r : R2}

/-- a new list is data like others -/
theorem EvL.data (h : EvL K te η ds) : EvD K te η (.lst ds) := fun H σ H1 er e Q q =>
  h H σ H1 er e Q fun p vs Hn H2 g h1 hn h2 rs => q (.ref p) (upd Hn p (.lst vs)) H2 (g.know h1 h2 hn) (.lst upd_same (rs.mono ((Ex.refl Hn).mut hn)))
theorem OpL.data (h : OpL K r a b cs) : OpD K r a b (.lst cs) := fun x y H H1 rx ry e Q q =>
  h x y H H1 rx ry e Q fun p vs Hn H2 g h1 hn h2 rs => q (.ref p) (upd Hn p (.lst vs)) H2 (g.know h1 h2 hn) (.lst upd_same (rs.mono ((Ex.refl Hn).mut hn)))
theorem CbL.data {r : List V → Hp → VK → Prop} (h : CbL K r as cs) : CbD K r as (.lst cs) := fun x H H1 rx e Q q =>
  h x H H1 rx e Q fun p vs Hn H2 g h1 hn h2 rs => q (.ref p) (upd Hn p (.lst vs)) H2 (g.know h1 h2 hn) (.lst upd_same (rs.mono ((Ex.refl Hn).mut hn)))

theorem EvD.is (h : EvD K te η d) (e : d = c) : EvD K te η c := by rw [← e]; exact h
theorem EvA.is {ta : TA} (h : EvA K ta η as) (e : as = cs) : EvA K ta η cs := by rw [← e]; exact h
theorem EvL.is (h : EvL K te η ds) (e : ds = cs) : EvL K te η cs := by rw [← e]; exact h
theorem EvT.is {x y : Bool} (h : EvT K t η x) (e : x = y) : EvT K t η y := by rw [← e]; exact h

theorem ed_var {i : Nat} (h : η[i]? = some (some d)) : EvD K (tVar i) η d := fun H σ H1 er e Q q => by
  obtain ⟨v, a, b⟩ := er.get i d h
  exact ⟨v, a, q v H H1 (Gr.refl e) b⟩
theorem ed_int {i : Int} : EvD K (tC (.int i)) η (.int i) := fun H σ H1 er e Q q => q _ H H1 (Gr.refl e) (.int i)
theorem ed_bl {i : Bool} : EvD K (tC (.bl i)) η (.bl i) := fun H σ H1 er e Q q => q _ H H1 (Gr.refl e) (.bl i)
theorem ed_non : EvD K (tC .non) η .non := fun H σ H1 er e Q q => q _ H H1 (Gr.refl e) .non
theorem ed_str {x : Str} : EvD K (tC (.str x)) η (.str x) := fun H σ H1 er e Q q => q _ H H1 (Gr.refl e) (.str x)
theorem ed_op (ha : EvD K ta η a) (hb : EvD K tb η b) (hr : OpD K r a b c) : EvD K (tOp r ta tb) η c := fun H σ H1 er e Q q =>
  ha H σ H1 er e _ fun x Hn H2 g rx => hb Hn σ H2 (er.mono g.kn) g.inn _ fun y Hm H3 g2 ry => hr x y Hm H3 (rx.mono g2.kn) ry g2.inn Q fun v Hk H4 g3 rv => q v Hk H4 ((g.trans g2).trans g3) rv
theorem el_op (ha : EvD K ta η a) (hb : EvD K tb η b) (hr : OpL K r a b cs) : EvL K (tOp r ta tb) η cs := fun H σ H1 er e Q q =>
  ha H σ H1 er e _ fun x Hn H2 g rx => hb Hn σ H2 (er.mono g.kn) g.inn _ fun y Hm H3 g2 ry => hr x y Hm H3 (rx.mono g2.kn) ry g2.inn Q fun p vs Hk H4 g3 h1 hk h2 rv => q p vs Hk H4 ((g.trans g2).trans g3) ((g.trans g2).all.back h1) hk h2 rv
theorem ed_un {r : V → Hp → VK → Prop} (ha : EvD K ta η a) (hr : UnD K r a c) : EvD K (tUn r ta) η c := fun H σ H1 er e Q q =>
  ha H σ H1 er e _ fun x Hn H2 g rx => hr x Hn H2 rx g.inn Q fun v Hk H4 g3 rv => q v Hk H4 (g.trans g3) rv
theorem ea_nil : EvA K tNil η [] := fun H σ H1 er e Q q => q [] H H1 (Gr.refl e) .nil
theorem ea_cons {tr : TA} (ha : EvD K ta η a) (hr : EvA K tr η as) : EvA K (tCons ta tr) η (a :: as) := fun H σ H1 er e Q q =>
  ha H σ H1 er e _ fun x Hn H2 g rx => hr Hn σ H2 (er.mono g.kn) g.inn _ fun xs Hm H3 g2 rs => q (x :: xs) Hm H3 (g.trans g2) (.cons (rx.mono g2.kn) rs)
theorem ed_cb {r : List V → Hp → VK → Prop} {ta : TA} (ha : EvA K ta η as) (hr : CbD K r as c) : EvD K (tCB r ta) η c := fun H σ H1 er e Q q =>
  ha H σ H1 er e _ fun x Hn H2 g rx => hr x Hn H2 rx g.inn Q fun v Hk H4 g3 rv => q v Hk H4 (g.trans g3) rv
theorem el_cb {r : List V → Hp → VK → Prop} {ta : TA} (ha : EvA K ta η as) (hr : CbL K r as cs) : EvL K (tCB r ta) η cs := fun H σ H1 er e Q q =>
  ha H σ H1 er e _ fun x Hn H2 g rx => hr x Hn H2 rx g.inn Q fun p vs Hk H4 g3 h1 hk h2 rv => q p vs Hk H4 (g.trans g3) (g.all.back h1) hk h2 rv
theorem el_lst {ta : TA} (ha : EvA K ta η as) (hl : as.length ≤ sizeLine) : EvL K (tLst ta) η as := fun H σ H1 er e Q q =>
  ha H σ H1 er e _ fun xs Hn H2 g rs => ⟨by rw [rs.length]; exact hl, fun p hp => q p xs Hn _ ⟨g.kn, (g.inn.mut (g.inn.back hp)), g.all.mut (g.all.back hp), g.new⟩ (g.all.back hp) (g.inn.back hp) upd_same rs⟩
theorem ed_tup {ta : TA} (ha : EvA K ta η as) (hl : as.length ≤ sizeLine) : EvD K (tTup ta) η (.tup as) := fun H σ H1 er e Q q =>
  ha H σ H1 er e _ fun xs Hn H2 g rs => ⟨by rw [rs.length]; exact hl, fun p hp => q (.ref p) _ _ (g.made (o := .tup xs) hp) (.tup (SqT.of upd_same) (rs.mono ((Ex.refl Hn).mut (g.inn.back hp))))⟩

/-! tests -/
theorem et_test {x : Bool} (h : EvD K te η (.bl x)) : EvT K (tTest te) η x := fun H σ H1 er e Q q => h H σ H1 er e _ fun v Hn H2 g rv => by
  cases rv
  exact ⟨x, rfl, q H2 g.all⟩
theorem et_B {x : Bool} (h : EvD K te η (.bl x)) : EvT K (tB te) η x := fun H σ H1 er e Q q => h H σ H1 er e _ fun v Hn H2 g rv => by
  cases rv
  exact ⟨x, rfl, q H2 g.all⟩
theorem et_and {x y : Bool} (h1 : EvT K t η x) (h2 : x = true → EvT K u η y) : EvT K (tAnd t u) η (x && y) := fun H σ H1 er e Q q => h1 H σ H1 er e _ fun H2 e2 => by
  cases x with
  | true =>
    show u σ H2 Q
    exact h2 rfl H σ H2 er (e.trans e2) Q fun H3 e3 => q H3 (e2.trans e3)
  | false =>
    show Q false H2
    exact q H2 e2
theorem et_or {x y : Bool} (h1 : EvT K t η x) (h2 : x = false → EvT K u η y) : EvT K (tOr t u) η (x || y) := fun H σ H1 er e Q q => h1 H σ H1 er e _ fun H2 e2 => by
  cases x with
  | true =>
    show Q true H2
    exact q H2 e2
  | false =>
    show u σ H2 Q
    exact h2 rfl H σ H2 er (e.trans e2) Q fun H3 e3 => q H3 (e2.trans e3)
theorem et_not {x : Bool} (h : EvT K t η x) : EvT K (tNot t) η (!x) := fun H σ H1 er e Q q => h H σ H1 er e _ fun H2 e2 => q H2 e2
theorem ed_if {x : Bool} (h : EvT K t η x) (h1 : x = true → EvD K ta η a) (h2 : x = false → EvD K tb η a) : EvD K (tIf t ta tb) η a := fun H σ H1 er e Q q => h H σ H1 er e _ fun H2 e2 => by
  have w : ∀ Hn H3, Gr H H2 Hn H3 → Gr H H1 Hn H3 := fun Hn H3 g => ⟨g.kn, g.inn, e2.trans g.all, fun x o y n => e2.back (g.new x o y n)⟩
  cases x with
  | true =>
    show ta σ H2 Q
    exact h1 rfl H σ H2 er (e.trans e2) Q fun v Hn H3 g rv => q v Hn H3 (w Hn H3 g) rv
  | false =>
    show tb σ H2 Q
    exact h2 rfl H σ H2 er (e.trans e2) Q fun v Hn H3 g rv => q v Hn H3 (w Hn H3 g) rv
theorem ed_andV {x y : Bool} (h1 : EvD K ta η (.bl x)) (h2 : x = true → EvD K tb η (.bl y)) : EvD K (tAndV ta tb) η (.bl (x && y)) := fun H σ H1 er e Q q => h1 H σ H1 er e _ fun v Hn H2 g rv => by
  cases rv
  refine ⟨x, rfl, ?_⟩
  cases x with
  | true =>
    show tb σ H2 Q
    exact h2 rfl Hn σ H2 (er.mono g.kn) g.inn Q fun v Hm H3 g2 rv => q v Hm H3 (g.trans g2) rv
  | false =>
    show Q (.bl false) H2
    exact q _ Hn H2 g (.bl _)
theorem ed_orV {x y : Bool} (h1 : EvD K ta η (.bl x)) (h2 : x = false → EvD K tb η (.bl y)) : EvD K (tOrV ta tb) η (.bl (x || y)) := fun H σ H1 er e Q q => h1 H σ H1 er e _ fun v Hn H2 g rv => by
  cases rv
  refine ⟨x, rfl, ?_⟩
  cases x with
  | true =>
    show Q (.bl true) H2
    exact q _ Hn H2 g (.bl _)
  | false =>
    show tb σ H2 Q
    exact h2 rfl Hn σ H2 (er.mono g.kn) g.inn Q fun v Hm H3 g2 rv => q v Hm H3 (g.trans g2) rv
theorem ed_notV {x : Bool} (h1 : EvD K ta η (.bl x)) : EvD K (tNotV ta) η (.bl (!x)) := fun H σ H1 er e Q q => h1 H σ H1 er e _ fun v Hn H2 g rv => by
  cases rv
  exact ⟨x, rfl, q _ Hn H2 g (.bl _)⟩

/-! ### operators -/
theorem od_I0 {f : Int → Int → Int} {i j : Int} : OpD K (rI0 fun i j => .int (f i j)) (.int i) (.int j) (.int (f i j)) := fun x y H H1 rx ry e Q q => by
  cases rx; cases ry
  exact ⟨i, j, rfl, rfl, q _ H H1 (Gr.refl e) (.int _)⟩
theorem od_B0 {f : Int → Int → Bool} {i j : Int} : OpD K (rI0 fun i j => .bl (f i j)) (.int i) (.int j) (.bl (f i j)) := fun x y H H1 rx ry e Q q => by
  cases rx; cases ry
  exact ⟨i, j, rfl, rfl, q _ H H1 (Gr.refl e) (.bl _)⟩
theorem od_I {C : Int → Int → Prop} {f : Int → Int → Int} {i j : Int} (hc : C i j) : OpD K (rI C fun i j => .int (f i j)) (.int i) (.int j) (.int (f i j)) := fun x y H H1 rx ry e Q q => by
  cases rx; cases ry
  exact ⟨i, j, rfl, rfl, hc, q _ H H1 (Gr.refl e) (.int _)⟩
theorem ud_I {f : Int → Int} {i : Int} : UnD K (rU fun i => .int (f i)) (.int i) (.int (f i)) := fun x H H1 rx e Q q => by
  cases rx
  exact ⟨i, rfl, q _ H H1 (Gr.refl e) (.int _)⟩
theorem od_eqI {i j : Int} : OpD K rEq (.int i) (.int j) (.bl (decide (i = j))) := fun x y H H1 rx ry e Q q => by
  cases rx; cases ry
  refine ⟨rfl, ?_⟩
  have h : decide (V.int i = V.int j) = decide (i = j) := by
    by_cases h : i = j
    · rw [decide_eq_true h, h]; exact decide_eq_true rfl
    · rw [decide_eq_false h]; exact decide_eq_false fun z => h (V.int.inj z)
  rw [h]
  exact q _ H H1 (Gr.refl e) (.bl _)
theorem od_neI {i j : Int} : OpD K rNe (.int i) (.int j) (.bl (!decide (i = j))) := fun x y H H1 rx ry e Q q => by
  cases rx; cases ry
  refine ⟨rfl, ?_⟩
  have h : decide (V.int i = V.int j) = decide (i = j) := by
    by_cases h : i = j
    · rw [decide_eq_true h, h]; exact decide_eq_true rfl
    · rw [decide_eq_false h]; exact decide_eq_false fun z => h (V.int.inj z)
  rw [h]
  exact q _ H H1 (Gr.refl e) (.bl _)
theorem od_eqS {i j : Str} : OpD K rEq (.str i) (.str j) (.bl (decide (i = j))) := fun x y H H1 rx ry e Q q => by
  cases rx; cases ry
  refine ⟨rfl, ?_⟩
  have h : decide (V.str i = V.str j) = decide (i = j) := by
    by_cases h : i = j
    · rw [decide_eq_true h, h]; exact decide_eq_true rfl
    · rw [decide_eq_false h]; exact decide_eq_false fun z => h (V.str.inj z)
  rw [h]
  exact q _ H H1 (Gr.refl e) (.bl _)
def isN : D → Bool
  | .non => true
  | _ => false
theorem od_isN {a : D} : OpD K (fun x y H Q => y = .non ∧ Q (.bl (decide (x = .non))) H) a .non (.bl (isN a)) := fun x y H H1 rx ry e Q q => by
  cases ry
  refine ⟨rfl, ?_⟩
  have h : decide (x = V.non) = isN a := by cases rx <;> rfl
  rw [h]
  exact q _ H H1 (Gr.refl e) (.bl _)
theorem od_notN {a : D} : OpD K (fun x y H Q => y = .non ∧ Q (.bl (!decide (x = .non))) H) a .non (.bl (!isN a)) := fun x y H H1 rx ry e Q q => by
  cases ry
  refine ⟨rfl, ?_⟩
  have h : decide (x = V.non) = isN a := by cases rx <;> rfl
  rw [h]
  exact q _ H H1 (Gr.refl e) (.bl _)
/-- the items of a list or a tuple -/
def itemsOf : D → Option (List D)
  | .lst xs => some xs
  | .rd xs => some xs
  | .tup xs => some xs
  | _ => none
theorem atI_rps {H : Hp} {vs : List V} {ds : List D} {i : Int} (rs : Rps K H vs ds) (h : atI ds i = some d) : ∃ v, atI vs i = some v ∧ Rp K H v d := by
  unfold atI at h ⊢
  rw [← rs.length] at h
  cases q : ixN vs.length i with
  | none => rw [q] at h; cases h
  | some j =>
    rw [q] at h
    exact rs.get (i := j) h
theorem od_ixL {i : Int} (h : atI ds i = some d) : OpD K (rIxL K) (.lst ds) (.int i) d := fun x y H H1 rx ry e Q q => by
  cases rx with
  | lst hs rs =>
    cases ry
    obtain ⟨v, h1, h2⟩ := atI_rps rs h
    exact ⟨_, _, i, v, rfl, rfl, ex_l e (SqL.of hs), h1, q v H H1 (Gr.refl e) h2⟩
theorem od_ixR {i : Int} (h : atI ds i = some d) : OpD K (rIxL K) (.rd ds) (.int i) d := fun x y H H1 rx ry e Q q => by
  cases rx with
  | rd hs rs =>
    cases ry
    obtain ⟨v, h1, h2⟩ := atI_rps rs h
    exact ⟨_, _, i, v, rfl, rfl, ex_l e hs, h1, q v H H1 (Gr.refl e) h2⟩
theorem od_ixT {i : Int} (h : atI ds i = some d) : OpD K (rIxT K) (.tup ds) (.int i) d := fun x y H H1 rx ry e Q q => by
  cases rx with
  | tup hs rs =>
    cases ry
    obtain ⟨v, h1, h2⟩ := atI_rps rs h
    exact ⟨_, _, i, v, rfl, rfl, ex_t e hs, h1, q v H H1 (Gr.refl e) h2⟩
theorem od_ix {i : Int} {a : D} (ha : itemsOf a = some ds) (h : atI ds i = some d) : OpD K (rIx K) a (.int i) d := fun x y H H1 rx ry e Q q => by
  cases a with
  | lst xs => cases ha; exact .inl (od_ixL h x y H H1 rx ry e Q q)
  | rd xs => cases ha; exact .inl (od_ixR h x y H H1 rx ry e Q q)
  | tup xs => cases ha; exact .inr (.inl (od_ixT h x y H H1 rx ry e Q q))
  | _ => cases ha

theorem ol_cat {xs ys : List D} (hl : xs.length + ys.length ≤ sizeLine) : OpL K rCat (.lst xs) (.lst ys) (xs ++ ys) := fun x y H H1 rx ry e Q q => by
  cases rx with
  | lst hx rsx =>
    cases ry with
    | lst hy rsy =>
      exact ⟨_, _, _, _, rfl, rfl, e _ _ hx, e _ _ hy, by rw [rsx.length, rsy.length]; exact hl, fun p hp => q p _ H _ ⟨Ex.refl _, e.mut (e.back hp), (Ex.refl _).mut hp, (Gr.refl e).new⟩ hp (e.back hp) upd_same (rsx.append rsy)⟩
theorem flat_one {α : Type} (v : α) : ∀ n : Nat, (List.replicate n [v]).flatten = List.replicate n v
  | 0 => rfl
  | n + 1 => by
    rw [List.replicate_succ, List.replicate_succ, List.flatten_cons, flat_one v n]
    rfl
/-- [x] * n -/
theorem ol_rep {z : D} {k : Int} (h0 : 0 ≤ k) (hl : k ≤ 10000000) : OpL K rRep (.lst [z]) (.int k) (List.replicate k.toNat z) := fun x y H H1 rx ry e Q q => by
  cases rx with
  | lst hx rsx =>
    cases ry
    cases rsx with
    | cons rv t =>
      cases t
      refine ⟨_, k, _, rfl, rfl, e _ _ hx, by omega, by omega, by show 1 * k.toNat ≤ sizeLine; rw [PySem.sizeLine_eq]; omega, fun p hp => ?_⟩
      rw [flat_one]
      exact q p _ H _ ⟨Ex.refl _, e.mut (e.back hp), (Ex.refl _).mut hp, (Gr.refl e).new⟩ hp (e.back hp) upd_same (Rps.rep rv _)
/-! parts of slices -/
theorem eo_none : EvO K tNoPart η none := fun H σ H1 er e Q q => q H1 (Ex.refl _)
theorem eo_some {i : Int} (h : EvD K te η (.int i)) : EvO K (tPart te) η (some i) := fun H σ H1 er e Q q => h H σ H1 er e _ fun v Hn H2 g rv => by
  cases rv
  exact ⟨i, rfl, q H2 g.all⟩
def cutD {α : Type} (xs : List α) (lo hi : Option Int) : List α := (xs.drop (HT.sIx xs.length 0 lo)).take (HT.sIx xs.length xs.length hi - HT.sIx xs.length 0 lo)
theorem el_sl {tl th : TO} {lo hi : Option Int} (h : EvD K te η a) (ha : a = .lst ds ∨ a = .rd ds) (h1 : EvO K tl η lo) (h2 : EvO K th η hi) : EvL K (tSl (rSlL K) te tl th) η (cutD ds lo hi) := fun H σ H1 er e Q q =>
  h H σ H1 er e _ fun v Hn H2 g rv => h1 Hn σ H2 (er.mono g.kn) g.inn _ fun H3 e3 => h2 Hn σ H3 (er.mono g.kn) (g.inn.trans e3) _ fun H4 e4 => by
    have e5 : Ex Hn H4 := (g.inn.trans e3).trans e4
    have e6 : Ex H1 H4 := (g.all.trans e3).trans e4
    obtain ⟨p, vs, rfl, hs, rs⟩ : ∃ p vs, v = .ref p ∧ SqL K Hn p vs ∧ Rps K Hn vs ds := by
      rcases ha with rfl | rfl
      · cases rv with
        | lst hs rs => exact ⟨_, _, rfl, SqL.of hs, rs⟩
      · cases rv with
        | rd hs rs => exact ⟨_, _, rfl, hs, rs⟩
    refine ⟨p, vs, rfl, ex_l e5 hs, fun p hp => q p _ Hn _ ⟨g.kn, e5.mut (e5.back hp), e6.mut (e6.back hp), g.new⟩ (e6.back hp) (e5.back hp) upd_same ?_⟩
    unfold L2.cutV cutD
    rw [rs.length]
    exact (rs.drop _).take _

/-! ### built-in functions -/
theorem seq_of {H : Hp} {x : V} (ha : itemsOf a = some ds) (rx : Rp K H x a) : ∃ p vs, x = .ref p ∧ (SqL K H p vs ∨ SqT K H p vs) ∧ Rps K H vs ds := by
  cases rx with
  | lst h r => cases ha; exact ⟨_, _, rfl, .inl (SqL.of h), r⟩
  | rd h r => cases ha; exact ⟨_, _, rfl, .inl h, r⟩
  | tup h r => cases ha; exact ⟨_, _, rfl, .inr h, r⟩
  | _ => cases ha
theorem ex_lt {H H' : Hp} {p : Addr} {vs : List V} (e : Ex H H') (h : SqL K H p vs ∨ SqT K H p vs) : SqL K H' p vs ∨ SqT K H' p vs := h.elim (fun h => .inl (ex_l e h)) fun h => .inr (ex_t e h)
theorem cd_len (ha : itemsOf a = some ds) : CbD K (fun xs H Q => ∃ p ys, xs = [.ref p] ∧ (SqL K H p ys ∨ SqT K H p ys) ∧ Q (.int ys.length) H) [a] (.int ds.length) := fun xs H H1 rx e Q q => by
  cases rx with
  | cons rx t =>
    cases t
    obtain ⟨p, vs, rfl, h, rs⟩ := seq_of ha rx
    refine ⟨p, vs, rfl, ex_lt e h, ?_⟩
    rw [rs.length]
    exact q _ H H1 (Gr.refl e) (.int _)
theorem cl_list (ha : itemsOf a = some ds) : CbL K (fun xs H Q => ∃ p ys, xs = [.ref p] ∧ (SqL K H p ys ∨ SqT K H p ys) ∧ ∀ l, H l = none → Q (.ref l) (upd H l (.lst ys))) [a] ds := fun xs H H1 rx e Q q => by
  cases rx with
  | cons rx t =>
    cases t
    obtain ⟨p, vs, rfl, h, rs⟩ := seq_of ha rx
    exact ⟨p, vs, rfl, ex_lt e h, fun l hl => q l _ H _ ⟨Ex.refl _, e.mut (e.back hl), (Ex.refl _).mut hl, (Gr.refl e).new⟩ hl (e.back hl) upd_same rs⟩
theorem cd_tuple (ha : itemsOf a = some ds) : CbD K (fun xs H Q => ∃ p ys, xs = [.ref p] ∧ ((SqL K H p ys ∧ ∀ l, H l = none → Q (.ref l) (upd H l (.tup ys))) ∨ (SqT K H p ys ∧ Q (.ref p) H))) [a] (.tup ds) := fun xs H H1 rx e Q q => by
  cases rx with
  | cons rx t =>
    cases t
    obtain ⟨p, vs, rfl, h, rs⟩ := seq_of ha rx
    refine ⟨p, vs, rfl, ?_⟩
    rcases h with h | h
    · exact .inl ⟨ex_l e h, fun l hl => q _ _ _ ((Gr.refl e).made (o := .tup vs) hl) (.tup (SqT.of upd_same) (rs.mono ((Ex.refl H).mut (e.back hl))))⟩
    · exact .inr ⟨ex_t e h, q _ H H1 (Gr.refl e) (.tup h rs)⟩
theorem cd_sum {ns : List Int} (ha : a = .lst (dI ns) ∨ a = .rd (dI ns)) : CbD K (rSum K) [a] (.int ns.sum) := fun xs H H1 rx e Q q => by
  cases rx with
  | cons rx t =>
    cases t
    rcases ha with rfl | rfl
    · cases rx with
      | lst h r =>
        have z := r.toI
        subst z
        exact ⟨_, ns, rfl, ex_l e (SqL.of h), q _ H H1 (Gr.refl e) (.int _)⟩
    · cases rx with
      | rd h r =>
        have z := r.toI
        subst z
        exact ⟨_, ns, rfl, ex_l e h, q _ H H1 (Gr.refl e) (.int _)⟩
theorem cd_1 {f : Int → Int} {i : Int} : CbD K (fun xs H Q => ∃ i, xs = [.int i] ∧ Q (.int (f i)) H) [.int i] (.int (f i)) := fun xs H H1 rx e Q q => by
  cases rx with
  | cons rx t =>
    cases t
    cases rx
    exact ⟨i, rfl, q _ H H1 (Gr.refl e) (.int _)⟩
theorem cd_2 {f : Int → Int → Int} {i j : Int} : CbD K (fun xs H Q => ∃ i j, xs = [.int i, .int j] ∧ Q (.int (f i j)) H) [.int i, .int j] (.int (f i j)) := fun xs H H1 rx e Q q => by
  cases rx with
  | cons rx t =>
    cases t with
    | cons ry t =>
      cases t
      cases rx; cases ry
      exact ⟨i, j, rfl, q _ H H1 (Gr.refl e) (.int _)⟩
theorem cd_gcd {i j : Int} : CbD K rGcd [.int i, .int j] (.int ((Nat.gcd i.natAbs j.natAbs : Nat) : Int)) := cd_2 (f := fun a b => ((Nat.gcd a.natAbs b.natAbs : Nat) : Int))
theorem cd_int {i : Int} : CbD K (fun xs H Q => (∃ i, xs = [.int i] ∧ Q (.int i) H) ∨ ∃ k, xs = [.bl k] ∧ Q (.int (if k then 1 else 0)) H) [.int i] (.int i) := fun xs H H1 rx e Q q => by
  cases rx with
  | cons rx t =>
    cases t
    cases rx
    exact .inl ⟨i, rfl, q _ H H1 (Gr.refl e) (.int _)⟩
theorem cd_intB {i : Bool} : CbD K (fun xs H Q => (∃ i, xs = [.int i] ∧ Q (.int i) H) ∨ ∃ k, xs = [.bl k] ∧ Q (.int (if k then 1 else 0)) H) [.bl i] (.int (if i then 1 else 0)) := fun xs H H1 rx e Q q => by
  cases rx with
  | cons rx t =>
    cases t
    cases rx
    exact .inr ⟨i, rfl, q _ H H1 (Gr.refl e) (.int _)⟩
/-- isinstance: x's class (of the data), a class -/
def tyB : D → Option String
  | .non => some "NoneType"
  | .bl _ => some "bool"
  | .int _ => some "int"
  | .str _ => some "str"
  | .lst _ => some "list"
  | .tup _ => some "tuple"
  | .dct _ _ => some "dict"
  | _ => none
theorem ed_ty {n : String} {r : List V → Hp → VK → Prop} {ta : TE} {x : Bool} (ha : EvD K ta η a) (h : ∀ v H H1, Rp K H v a → Ex H H1 → ∀ Q : VK, Q (.bl x) H1 → r [v, .ty n] H1 Q) : EvD K (tCB r (tCons ta (tCons (tC (.ty n)) tNil))) η (.bl x) := fun H σ H1 er e Q q =>
  ha H σ H1 er e _ fun v Hn H2 g rv => h v Hn H2 rv g.inn Q (q _ Hn H2 g (.bl x))
theorem ed_cls {C : Addr} {r : List V → Hp → VK → Prop} {ta : TE} {x : Bool} (ha : EvD K ta η a) (h : ∀ v H H1, Rp K H v a → Ex H H1 → ∀ Q : VK, Q (.bl x) H1 → r [v, .ref C] H1 Q) : EvD K (tCB r (tCons ta (tCons (tC (.ref C)) tNil))) η (.bl x) := fun H σ H1 er e Q q =>
  ha H σ H1 er e _ fun v Hn H2 g rv => h v Hn H2 rv g.inn Q (q _ Hn H2 g (.bl x))
theorem tyx_of {H H1 : Hp} {v : V} {s : String} (ht : tyB a = some s) (r : Rp K H v a) (e : Ex H H1) : TyX K H1 v (.type s) := by
  cases r with
  | non => cases ht; exact .base .non
  | bl b => cases ht; exact .base (.bl b)
  | int i => cases ht; exact .base (.int i)
  | str i => cases ht; exact .base (.str i)
  | lst h _ => cases ht; exact .base (.lst (e _ _ h))
  | tup h _ =>
    cases ht
    rcases ex_t e h with (h | ⟨o, h⟩) | ⟨o, its, n, h1, h2, _⟩
    · exact .base (.tup h)
    · exact .fTuple h
    · exact .kTuple h1 h2
  | dct h _ => cases ht; exact .base (.dK (e _ _ h))
  | _ => cases ht
theorem ed_isi {s n : String} {ta : TE} {x : Bool} (ha : EvD K ta η a) (ht : tyB a = some s) (hk : kitB s n = some x) : EvD K (tCB (rIsi K) (tCons ta (tCons (tC (.ty n)) tNil))) η (.bl x) :=
  ed_ty ha fun v H H1 rv e Q q => ⟨v, .ty n, .type s, .type n, x, rfl, .ty n, tyx_of ht rv e, kit_ty hk, q⟩
/-- .. of an own class, the value a built-in one's -/
theorem ed_isiC {C : Addr} {s : String} {ta : TE} {x : Bool} (ha : EvD K ta η a) (ht : tyB a = some s) (hk : PySem.W.kitOne K (.type s) (.ref C) = some x) : EvD K (tCB (rIsi K) (tCons ta (tCons (tC (.ref C)) tNil))) η (.bl x) :=
  ed_cls ha fun v H H1 rv e Q q => ⟨v, .ref C, .type s, .ref C, x, rfl, .own C, tyx_of ht rv e, hk, q⟩

/-! ### own instances -/
theorem lookup_rps {H : Hp} {f : Str} : ∀ {fs : List (Str × V)} {ds : List D} {d : D}, Rps K H (fs.map Prod.snd) ds → ((fs.map Prod.fst).zip ds).lookup f = some d → ∃ v, fs.lookup f = some v ∧ Rp K H v d
  | [], ds, d, _, h => by simp at h
  | p :: fs, [], d, r, h => by simp at h
  | (k, w) :: fs, e :: ds, d, r, h => by
    cases r with
    | cons r t =>
      have h2 : (match f == k with | true => some e | false => List.lookup f ((fs.map Prod.fst).zip ds)) = some d := h
      show ∃ v, (match f == k with | true => some w | false => List.lookup f fs) = some v ∧ _
      cases q : f == k with
      | true => rw [q] at h2; cases h2; exact ⟨_, rfl, r⟩
      | false => rw [q] at h2; exact lookup_rps t h2
theorem ed_fld {C : Addr} {ns : List Str} {f : Str} (ha : EvD K ta η (.ins C ns ds)) (cl : Cls K C) (na : NoAttr K C f) (hl : (ns.zip ds).lookup f = some d) : EvD K (tFld K ta f) η d := fun H σ H1 er e Q q =>
  ha H σ H1 er e _ fun v Hn H2 g rv => by
    cases rv with
    | ins h r =>
      obtain ⟨w, l, rw'⟩ := lookup_rps r hl
      exact ⟨_, C, _, _, w, rfl, g.inn _ _ h, cl, na, l, q w Hn H2 g rw'⟩

/-! ### calls of own defs -/
inductive Ret where
  | sh (d : D) | ow (ds : List D) | oo (dss : List (List D))
abbrev Cell := Addr × HO
abbrev Rpss (K : PySem.W.Frag) (H : Hp) : List (List V) → List (List D) → Prop := Paired (Rps K H)
def inner (qs : List Addr) (vss : List (List V)) : List Cell := (qs.zip vss).map fun c => (c.1, HO.lst c.2)
/-- a new list of new lists -/
structure NewLL (K : PySem.W.Frag) (H1 Hn H2 : Hp) (p : Addr) (ps : List Addr) (dss : List (List D)) : Prop where
  h1 : H1 p = none
  hn : Hn p = none
  h2 : H2 p = some (.lst (ps.map V.ref))
  cs : ∃ vss, Rpss K Hn vss dss ∧ vss.length = ps.length ∧ ∀ c ∈ inner ps vss, H1 c.1 = none ∧ Hn c.1 = none ∧ H2 c.1 = some c.2
  nd : (p :: ps).Nodup
def OutR (K : PySem.W.Frag) (H H1 : Hp) (r : Ret) (v : V) (H2 : Hp) : Prop := match r with
  | .sh d => ∃ Hn, Gr H H1 Hn H2 ∧ Rp K Hn v d
  | .ow ds => ∃ p vs Hn, v = .ref p ∧ Gr H H1 Hn H2 ∧ H1 p = none ∧ Hn p = none ∧ H2 p = some (.lst vs) ∧ Rps K Hn vs ds
  | .oo dss => ∃ p ps Hn, v = .ref p ∧ Gr H H1 Hn H2 ∧ NewLL K H1 Hn H2 p ps dss
def spT (K : PySem.W.Frag) {α : Type} (enc : α → List D) (pre : α → Prop) (out : α → Ret) : Sp := fun vs H1 Q _ => ∃ H a, Ex H H1 ∧ Rps K H vs (enc a) ∧ pre a ∧ ∀ v H2, OutR K H H1 (out a) v H2 → Q v H2
theorem ed_callA {α : Type} {enc : α → List D} {pre : α → Prop} {out : α → Ret} {E : XK} {ta : TA} {dvs : List V} {dds : List D} (x : α) (ha : EvA K ta η as) (hd : ∀ H, Rps K H dvs dds) (he : as ++ dds = enc x) (hp : pre x) (ho : out x = .sh d) : EvD K (tCall (spT K enc pre out) dvs E ta) η d := fun H σ H1 er e Q q =>
  ha H σ H1 er e _ fun vs Hn H2 g rs => ⟨Hn, x, g.inn, by rw [← he]; exact rs.append (hd Hn), hp, fun v H3 o => by
    rw [ho] at o
    obtain ⟨Hm, g2, r⟩ := o
    exact q v Hm H3 (g.trans g2) r⟩
theorem el_callA {α : Type} {enc : α → List D} {pre : α → Prop} {out : α → Ret} {E : XK} {ta : TA} {dvs : List V} {dds : List D} (x : α) (ha : EvA K ta η as) (hd : ∀ H, Rps K H dvs dds) (he : as ++ dds = enc x) (hp : pre x) (ho : out x = .ow ds) : EvL K (tCall (spT K enc pre out) dvs E ta) η ds := fun H σ H1 er e Q q =>
  ha H σ H1 er e _ fun vs Hn H2 g rs => ⟨Hn, x, g.inn, by rw [← he]; exact rs.append (hd Hn), hp, fun v H3 o => by
    rw [ho] at o
    obtain ⟨p, ws, Hm, rfl, g2, h1, h2, h3, r⟩ := o
    exact q p ws Hm H3 (g.trans g2) (g.all.back h1) h2 h3 r⟩
theorem ed_call {α : Type} {enc : α → List D} {pre : α → Prop} {out : α → Ret} {E : XK} {ta : TA} (x : α) (ha : EvA K ta η (enc x)) (hp : pre x) (ho : out x = .sh d) : EvD K (tCall (spT K enc pre out) [] E ta) η d := ed_callA x ha (dds := []) (fun _ => .nil) (List.append_nil _) hp ho
theorem el_call {α : Type} {enc : α → List D} {pre : α → Prop} {out : α → Ret} {E : XK} {ta : TA} (x : α) (ha : EvA K ta η (enc x)) (hp : pre x) (ho : out x = .ow ds) : EvL K (tCall (spT K enc pre out) [] E ta) η ds := el_callA x ha (dds := []) (fun _ => .nil) (List.append_nil _) hp ho
/-- keywords -/
theorem ed_callK {α : Type} {enc : α → List D} {pre : α → Prop} {out : α → Ret} {E : XK} {t tk : TA} {gV : List V → List V → List V} {bs : List D} (x : α) (ha : EvA K t η as) (hb : EvA K tk η bs) (hg : ∀ H vs zs, Rps K H vs as → Rps K H zs bs → Rps K H (gV vs zs) (enc x)) (hp : pre x) (ho : out x = .sh d) :
    EvD K (tCallK (spT K enc pre out) gV E t tk) η d := fun H σ H1 er e Q q =>
  ha H σ H1 er e _ fun vs Hn H2 g rs => hb Hn σ H2 (er.mono g.kn) g.inn _ fun zs Hk H3 g2 rz => ⟨Hk, x, g2.inn, hg Hk vs zs (rs.mono g2.kn) rz, hp, fun v H3 o => by
    rw [ho] at o
    obtain ⟨Hm, g3, r⟩ := o
    exact q v Hm H3 ((g.trans g2).trans g3) r⟩
/-- a record's __init__: the fields are the arguments -/
def spInit (C : Addr) (fs : List Str) : Sp := fun vs H1 Q _ => ∃ x dx ws, vs = .ref x :: ws ∧ ws.length = fs.length ∧ H1 x = some (.ins C dx []) ∧ Q .non (upd H1 x (.ins C dx (fs.zip ws)))
theorem zip_fst {α β : Type} : ∀ {xs : List α} {ys : List β}, ys.length = xs.length → (xs.zip ys).map Prod.fst = xs
  | [], _, _ => rfl
  | x :: xs, [], h => by simp at h
  | x :: xs, y :: ys, h => by simp [zip_fst (xs := xs) (ys := ys) (by simpa using h)]
theorem zip_snd {α β : Type} : ∀ {xs : List α} {ys : List β}, ys.length = xs.length → (xs.zip ys).map Prod.snd = ys
  | [], [], _ => rfl
  | [], y :: ys, h => by simp at h
  | x :: xs, [], h => by simp at h
  | x :: xs, y :: ys, h => by simp [zip_snd (xs := xs) (ys := ys) (by simpa using h)]
theorem rp_ins {H : Hp} {x dx C : Addr} {fs : List Str} {ws : List V} {es : List D} (h : H x = some (.ins C dx (fs.zip ws))) (hl : ws.length = fs.length) (r : Rps K H ws es) : Rp K H (.ref x) (.ins C fs es) := by
  have q : Rp K H (.ref x) (.ins C ((fs.zip ws).map Prod.fst) es) := .ins h (by rw [zip_snd hl]; exact r)
  rw [zip_fst hl] at q
  exact q
theorem ed_make {C : Addr} {fs : List Str} {E : XK} {ta : TA} (ha : EvA K ta η as) (hl : as.length = fs.length) : EvD K (tMake C (spInit C fs) [] E ta) η (.ins C fs as) := fun H σ H1 er e Q q =>
  ha H σ H1 er e _ fun vs Hn H2 g rs => fun x dx hx hdx hne => by
    rw [List.append_nil]
    refine ⟨x, dx, vs, rfl, rs.length.trans hl, upd_same, rfl, ?_⟩
    rw [upd_upd]
    have g1 := g.made (o := .own x) hdx
    have hx1 : (upd H2 dx (.own x)) x = none := by rw [upd_ne (Ne.symm hne)]; exact hx
    have g2 := g1.made (o := .ins C dx (fs.zip vs)) hx1
    exact q (.ref x) _ _ g2 (rp_ins upd_same (rs.length.trans hl) (rs.mono (((Ex.refl Hn).mut (g.inn.back hdx)).mut (g.inn.back hx))))

/-! ### == of data -/
mutual
def py : D → PyData
  | .non => .none
  | .bl b => .bool b
  | .int i => .int i
  | .str x => .str x
  | .lst xs => .list (pys xs)
  | .rd xs => .list (pys xs)
  | .tup xs => .tuple (pys xs)
  | .ins _ _ _ => .none
  | .dct _ _ => .none
def pys : List D → List PyData
  | [] => []
  | d :: ds => py d :: pys ds
end
mutual
def plain : D → Bool
  | .lst xs => plains xs
  | .rd xs => plains xs
  | .tup xs => plains xs
  | .ins _ _ _ => false
  | .dct _ _ => false
  | _ => true
def plains : List D → Bool
  | [] => true
  | d :: ds => plain d && plains ds
end
mutual
theorem Rp.dp {H : Hp} : ∀ {v : V} {d : D}, Rp K H v d → plain d = true → Dp K H v (py d)
  | _, _, .non, _ => .non
  | _, _, .bl b, _ => .bl b
  | _, _, .int i, _ => .int i
  | _, _, .str x, _ => .str x
  | _, _, .lst h r, p => .lst (SqL.of h) (Rps.dp r p)
  | _, _, .rd h r, p => .lst h (Rps.dp r p)
  | _, _, .tup h r, p => .tup h (Rps.dp r p)
  | _, _, .ins h r, p => by cases p
  | _, _, .dct h r, p => by cases p
theorem Rps.dp {H : Hp} : ∀ {vs : List V} {ds : List D}, Rps K H vs ds → plains ds = true → DpAll K H vs (pys ds)
  | _, _, .nil, _ => .nil
  | _, _, .cons r t, p => .cons (Rp.dp r (Bool.and_eq_true_iff.mp p).1) (Rps.dp t (Bool.and_eq_true_iff.mp p).2)
end
theorem od_eqD (pa : plain a = true) (pb : plain b = true) (sa : SeqAt.shaped (py a) = true) (sb : SeqAt.shaped (py b) = true) : OpD K (rEqD K) a b (.bl (PyData.eqv (py a) (py b))) := fun x y H H1 rx ry e Q q =>
  ⟨_, _, (rx.mono e).dp pa, (ry.mono e).dp pb, sa, sb, q _ H H1 (Gr.refl e) (.bl _)⟩
theorem od_neD (pa : plain a = true) (pb : plain b = true) (sa : SeqAt.shaped (py a) = true) (sb : SeqAt.shaped (py b) = true) : OpD K (rNeD K) a b (.bl (!PyData.eqv (py a) (py b))) := fun x y H H1 rx ry e Q q =>
  ⟨_, _, (rx.mono e).dp pa, (ry.mono e).dp pb, sa, sb, q _ H H1 (Gr.refl e) (.bl _)⟩

/-! ### comprehensions -/
/-- an item goes to the targets -/
def TgD (K : PySem.W.Frag) (vs : List Nat) (g : TG) (η : Env) (d : D) (η' : Env) : Prop := ∀ x H σ H1, ER K H σ η → Rp K H x d → Ex H H1 → ∀ Q : L2.St → Hp → Prop, (∀ σ', ER K H σ' η' → L2.wipe σ' vs = L2.wipe σ vs → Q σ' H1) → g x σ H1 Q
theorem tg_name {vs : List Nat} {i : Nat} (hi : i ∈ vs) : TgD K vs (gName i) η d (η.set i (some d)) := fun x H σ H1 er r e Q q => q _ (er.set r) (wipe_set hi)
/-- (i, j) -/
theorem tg_pair {vs : List Nat} {i j : Nat} {d1 d2 : D} (hi : i ∈ vs) (hj : j ∈ vs) : TgD K vs (gTup K 2 (gCons (gName i) (gCons (gName j) gNil))) η (.tup [d1, d2]) ((η.set i (some d1)).set j (some d2)) := fun x H σ H1 er r e Q q => by
  cases r with
  | tup h rs =>
    cases rs with
    | cons r1 t =>
      cases t with
      | cons r2 t =>
        cases t
        exact ⟨_, _, rfl, ex_t e h, rfl, _, _, rfl, _, _, rfl, rfl, q _ ((er.set r1).set r2) (by rw [wipe_set hj, wipe_set hi])⟩
def given (n : Nat) (f : Nat → Bool) (v : Nat → D) : List D := ((List.range n).filter f).map v
theorem given_yes {n : Nat} {f : Nat → Bool} {v : Nat → D} (h : f n = true) : given (n + 1) f v = given n f v ++ [v n] := by
  unfold given
  rw [List.range_succ, List.filter_append, List.map_append, List.filter_cons, if_pos h] <;> rfl
theorem given_no {n : Nat} {f : Nat → Bool} {v : Nat → D} (h : f n = false) : given (n + 1) f v = given n f v := by
  unfold given
  rw [List.range_succ, List.filter_append, List.map_append, List.filter_cons, if_neg (by rw [h]; decide)]
  show _ ++ [] = _
  rw [List.append_nil]
theorem given_len (n : Nat) (f : Nat → Bool) (v : Nat → D) : (given n f v).length ≤ n := by
  unfold given
  rw [List.length_map]
  have h := List.length_filter_le f (List.range n)
  rw [List.length_range] at h
  exact h
/-- what holds between two turns: the list so far -/
def Cw (K : PySem.W.Frag) (H0 H1 : Hp) (f : Nat → Bool) (v : Nat → D) (Dl : Addr) (i : Nat) (H' : Hp) : Prop := H1 Dl = none ∧ ∃ Hm vs, Gr H0 H1 Hm H' ∧ Hm Dl = none ∧ H' Dl = some (.lst vs) ∧ Rps K Hm vs (given i f v)
theorem cw_start {H0 H1 : Hp} {f : Nat → Bool} {v : Nat → D} {Dl : Addr} (e : Ex H0 H1) (h : H1 Dl = none) : Cw K H0 H1 f v Dl 0 (upd H1 Dl (.lst [])) :=
  ⟨h, H0, [], ⟨Ex.refl _, e.mut (e.back h), (Ex.refl _).mut h, (Gr.refl e).new⟩, e.back h, upd_same, .nil⟩
theorem cw_turn {H0 H1 H' : Hp} {f : Nat → Bool} {v : Nat → D} {Dl : Addr} {i : Nat} {σ2 : L2.St} {η2 : Env} (p : Cw K H0 H1 f v Dl i H') (hi : i < 10000000) (er : ∀ Hm, Ex H0 Hm → Ex Hm H' → ER K Hm σ2 η2) (ht : EvT K t η2 (f i)) (he : f i = true → EvD K te η2 (v i)) :
    t σ2 H' fun b H3 => if b = true then te σ2 H3 fun y H4 => ∃ acc, H4 Dl = some (.lst acc) ∧ acc.length < sizeLine ∧ Cw K H0 H1 f v Dl (i + 1) (upd H4 Dl (.lst (acc ++ [y]))) else Cw K H0 H1 f v Dl (i + 1) H3 := by
  obtain ⟨p0, Hm, vs, g, hD, hD', rs⟩ := p
  have erm := er Hm g.kn g.inn
  refine ht Hm σ2 H' erm g.inn _ fun H3 e3 => ?_
  cases hf : f i with
  | true =>
    show te σ2 H3 fun y H4 => ∃ acc, H4 Dl = some (.lst acc) ∧ acc.length < sizeLine ∧ Cw K H0 H1 f v Dl (i + 1) (upd H4 Dl (.lst (acc ++ [y])))
    refine he hf Hm σ2 H3 erm (g.inn.trans e3) _ fun y Hk H4 g4 ry => ⟨vs, g4.all _ _ (e3 _ _ hD'), ?_, p0, Hk, vs ++ [y], ?_, ?_, upd_same, ?_⟩
    · have q1 := rs.length
      have q2 := given_len i f v
      show vs.length < sizeLine
      rw [PySem.sizeLine_eq]
      omega
    · have hk : Hk Dl = none := by
        cases z : Hk Dl with
        | none => rfl
        | some o =>
          have := g4.new Dl o z hD
          rw [e3 _ _ hD'] at this
          cases this
      exact ⟨g.kn.trans g4.kn, g4.inn.mut hk, ((g.all.trans e3).trans g4.all).mut p0, fun a o q n => by
        cases z : Hm a with
        | none => exact (g.all.trans e3).back (g4.new a o q z)
        | some u => exact g.new a u z n⟩
    · cases z : Hk Dl with
      | none => rfl
      | some o =>
        have := g4.new Dl o z hD
        rw [e3 _ _ hD'] at this
        cases this
    · rw [given_yes hf]
      exact (rs.mono g4.kn).append (.one ry)
  | false =>
    show Cw K H0 H1 f v Dl (i + 1) H3
    refine ⟨p0, Hm, vs, ⟨g.kn, g.inn.trans e3, g.all.trans e3, g.new⟩, hD, e3 _ _ hD', ?_⟩
    rw [given_no hf]
    exact rs
theorem cw_end {H H0 Ha H1 H' : Hp} {f : Nat → Bool} {v : Nat → D} {Dl : Addr} {n : Nat} {Q : VK} (g : Gr H Ha H0 H1) (p : Cw K H0 H1 f v Dl n H')
    (q : ∀ p vs Hn H2, Gr H Ha Hn H2 → Ha p = none → Hn p = none → H2 p = some (.lst vs) → Rps K Hn vs (given n f v) → Q (.ref p) H2) : Q (.ref Dl) H' := by
  obtain ⟨p0, Hm, vs, g2, hD, hD', rs⟩ := p
  exact q Dl vs Hm H' (g.trans g2) (g.all.back p0) hD hD' rs
theorem el_lcL {tl : TE} {tg : TG} {vs : List Nat} (f : Nat → Bool) (v : Nat → D) (h : EvD K tl η a) (ha : a = .lst ds ∨ a = .rd ds) (hz : ds.length ≤ 10000000)
    (hs : ∀ (i : Nat) (d : D), ds[i]? = some d → ∃ η', TgD K vs tg (wipeE η vs) d η' ∧ EvT K t η' (f i) ∧ (f i = true → EvD K te η' (v i))) : EvL K (tLc (iList K tl) tg t te vs) η (given ds.length f v) := fun H σ Ha er e Q q =>
  h H σ Ha er e _ fun x H0 H1 g rx => by
    obtain ⟨p, ws, rfl, hp, rs⟩ : ∃ p ws, x = .ref p ∧ SqL K H0 p ws ∧ Rps K H0 ws ds := by
      rcases ha with rfl | rfl
      · cases rx with
        | lst h r => exact ⟨_, _, rfl, SqL.of h, r⟩
      · cases rx with
        | rd h r => exact ⟨_, _, rfl, h, r⟩
    refine ⟨p, rfl, ⟨ws, ex_l g.inn hp⟩, fun Dl hD => lc_list (xs := ws) (Cw K H0 H1 f v Dl) (cw_start g.inn hD) (fun i H' _ ⟨_, Hm, _, g2, _⟩ => ex_l (g2.kn.trans g2.inn) hp) (fun i x H' hi p => ?_) (fun H' p => cw_end g (by rw [← rs.length]; exact p) q)⟩
    obtain ⟨d, hd, rd⟩ := rs.getV hi
    obtain ⟨η', htg, ht, he⟩ := hs i d hd
    have hl : i < ds.length := (List.getElem?_eq_some_iff.mp hd).1
    have p2 := p
    obtain ⟨_, Hm, _, g2, _⟩ := p2
    refine htg x H0 _ H' ((er.mono g.kn).wipe vs) rd (g2.kn.trans g2.inn) _ fun σ' er' hw => ⟨hw.trans wipe_wipe, ?_⟩
    exact cw_turn p (by omega) (fun Hm e1 _ => er'.mono e1) ht he
theorem el_lcT {tl : TE} {tg : TG} {vs : List Nat} (f : Nat → Bool) (v : Nat → D) (h : EvD K tl η (.tup ds)) (hz : ds.length ≤ 10000000)
    (hs : ∀ (i : Nat) (d : D), ds[i]? = some d → ∃ η', TgD K vs tg (wipeE η vs) d η' ∧ EvT K t η' (f i) ∧ (f i = true → EvD K te η' (v i))) : EvL K (tLc (iTup K tl) tg t te vs) η (given ds.length f v) := fun H σ Ha er e Q q =>
  h H σ Ha er e _ fun x H0 H1 g rx => by
    cases rx with
    | @tup p ws _ hp rs =>
    refine ⟨p, rfl, ⟨ws, ex_t g.inn hp⟩, fun Dl hD => lc_tup (xs := ws) (Cw K H0 H1 f v Dl) (cw_start g.inn hD) (fun i H' _ ⟨_, Hm, _, g2, _⟩ => ex_t (g2.kn.trans g2.inn) hp) (fun i x H' hi p => ?_) (fun H' p => cw_end g (by rw [← rs.length]; exact p) q)⟩
    obtain ⟨d, hd, rd⟩ := rs.getV hi
    obtain ⟨η', htg, ht, he⟩ := hs i d hd
    have hl : i < ds.length := (List.getElem?_eq_some_iff.mp hd).1
    have p2 := p
    obtain ⟨_, Hm, _, g2, _⟩ := p2
    refine htg x H0 _ H' ((er.mono g.kn).wipe vs) rd (g2.kn.trans g2.inn) _ fun σ' er' hw => ⟨hw.trans wipe_wipe, ?_⟩
    exact cw_turn p (by omega) (fun Hm e1 _ => er'.mono e1) ht he
theorem el_lcR {ta : TA} {tg : TG} {vs : List Nat} {n : Int} (f : Nat → Bool) (v : Nat → D) (h : EvA K ta η [.int n]) (hz : n ≤ 10000000) (hn : -10000000 ≤ n)
    (hs : ∀ (i : Nat), (i : Int) < n → ∃ η', TgD K vs tg (wipeE η vs) (.int i) η' ∧ EvT K t η' (f i) ∧ (f i = true → EvD K te η' (v i))) : EvL K (tLc (iRng1 ta) tg t te vs) η (given n.toNat f v) := fun H σ Ha er e Q q =>
  h H σ Ha er e _ fun xs H0 H1 g rx => by
    cases rx with
    | cons rx tt =>
    cases tt
    cases rx
    refine ⟨n, rfl, by omega, by omega, fun Dl hD => lc_range (lo := 0) (n := n.toNat) (Cw K H0 H1 f v Dl) (cw_start g.inn hD) (fun i H' hi p => ?_) (fun H' p => cw_end g p q)⟩
    obtain ⟨η', htg, ht, he⟩ := hs i (by omega)
    have e0 : (0 : Int) + (i : Int) = (i : Int) := Int.zero_add _
    rw [e0]
    have p2 := p
    obtain ⟨_, Hm, _, g2, _⟩ := p2
    refine htg _ H0 _ H' ((er.mono g.kn).wipe vs) (.int i) (g2.kn.trans g2.inn) _ fun σ' er' hw => ⟨hw.trans wipe_wipe, ?_⟩
    exact cw_turn p (by omega) (fun Hm e1 _ => er'.mono e1) ht he
theorem et_yes : EvT K tYes η true := fun H σ H1 er e Q q => q H1 (Ex.refl _)
/-- no test: every item gives -/
theorem given_all (n : Nat) (v : Nat → D) : given n (fun _ => true) v = (List.range n).map v := by
  unfold given
  rw [List.filter_eq_self.mpr fun _ _ => rfl]
theorem range_map {α : Type} (F : α → D) (ds : List α) (v : Nat → D) (h : ∀ (i : Nat) (d : α), ds[i]? = some d → v i = F d) : (List.range ds.length).map v = ds.map F := by
  apply List.ext_getElem
  · simp
  · intro i h1 h2
    rw [List.getElem_map, List.getElem_map, List.getElem_range]
    have hl : i < ds.length := by simpa using h1
    exact h i _ (List.getElem?_eq_getElem hl)
end
end DL

set_option Elab.async false
set_option linter.all false
set_option maxRecDepth 100000
set_option maxHeartbeats 4000000
/-! DL2: statements over slots of data. -/
namespace DL
open PySem PySem.Spec PyProof.Rows L2

/-- a slot: nothing known; data; a list of this def's own; a dict of its own; a list of lists, all its own (with their addresses); a reference to q, which may be one of those -/
inductive Sl where
  | no | sh (d : D) | ow (ds : List D) | od (ks : List Key) (ds : List D)
  | oo (p : Addr) (qs : List Addr) (dss : List (List D)) | al (q : Addr)
def SlR (K : PySem.W.Frag) (H : Hp) (σ : L2.St) (i : Nat) (s : Sl) (cs : List Cell) : Prop := match s with
  | .no => cs = []
  | .sh d => (∃ v, σ[i]? = some (some v) ∧ Rp K H v d) ∧ cs = []
  | .ow ds => ∃ p vs, σ[i]? = some (some (.ref p)) ∧ Rps K H vs ds ∧ cs = [(p, .lst vs)]
  | .od ks ds => ∃ p kvs, σ[i]? = some (some (.ref p)) ∧ kvs.map Prod.fst = ks ∧ Rps K H (kvs.map Prod.snd) ds ∧ cs = [(p, .dK kvs)]
  | .oo p qs dss => ∃ vss, σ[i]? = some (some (.ref p)) ∧ Rpss K H vss dss ∧ vss.length = qs.length ∧ cs = (p, .lst (qs.map V.ref)) :: inner qs vss
  | .al q => σ[i]? = some (some (.ref q)) ∧ cs = []
def repl (css : Nat → List Cell) (i : Nat) (cs : List Cell) (k : Nat) : List Cell := if k = i then cs else css k
theorem repl_pos {css : Nat → List Cell} {i : Nat} {cs : List Cell} {k : Nat} (h : k = i) : repl css i cs k = cs := if_pos h
theorem repl_neg {css : Nat → List Cell} {i : Nat} {cs : List Cell} {k : Nat} (h : ¬ k = i) : repl css i cs k = css k := if_neg h
structure Owns (HE1 H H1 : Hp) (css : Nat → List Cell) : Prop where
  at_ : ∀ i c, c ∈ css i → HE1 c.1 = none ∧ H c.1 = none ∧ H1 c.1 = some c.2
  nd : ∀ i, ((css i).map Prod.fst).Nodup
  di : ∀ i j, i ≠ j → ∀ c ∈ css i, ∀ c' ∈ css j, c.1 ≠ c'.1
structure SS (K : PySem.W.Frag) (HE HE1 H H1 : Hp) (σ : L2.St) (ρ : List Sl) : Prop where
  gr : Gr HE HE1 H H1
  len : ρ.length = σ.length
  own : ∃ css : Nat → List Cell, (∀ i s, ρ[i]? = some s → SlR K H σ i s (css i)) ∧ Owns HE1 H H1 css

def shOf : Sl → Option D
  | .sh d => some d
  | _ => none
def viewOf : Sl → Option D
  | .sh d => some d
  | .ow ds => some (.lst ds)
  | .od ks ds => some (.dct ks ds)
  | .oo _ _ dss => some (.lst (dss.map D.lst))
  | _ => none
abbrev shE (ρ : List Sl) : Env := ρ.map shOf
abbrev viewE (ρ : List Sl) : Env := ρ.map viewOf

section
variable {K : PySem.W.Frag} {HE HE1 H H1 H' H1' : Hp} {σ σ' : L2.St} {ρ : List Sl} {i j : Nat} {s : Sl} {cs : List Cell} {d : D} {ds : List D}
theorem Rpss.mono (e : Ex H H') {vss : List (List V)} {dss : List (List D)} (h : Rpss K H vss dss) : Rpss K H' vss dss := Paired.mapP h fun _ _ r => r.mono e
theorem SlR.mono (e : Ex H H') (h : SlR K H σ i s cs) : SlR K H' σ i s cs := by
  cases s with
  | no => exact h
  | sh d => obtain ⟨⟨v, a, b⟩, c⟩ := h; exact ⟨⟨v, a, b.mono e⟩, c⟩
  | ow ds => obtain ⟨p, vs, a, b, c⟩ := h; exact ⟨p, vs, a, b.mono e, c⟩
  | od ks ds => obtain ⟨p, kvs, a, b, r, c⟩ := h; exact ⟨p, kvs, a, b, r.mono e, c⟩
  | oo p qs dss => obtain ⟨vss, a, b, l, c⟩ := h; exact ⟨vss, a, Rpss.mono e b, l, c⟩
  | al q => exact h
theorem SS.er (h : SS K HE HE1 H H1 σ ρ) : ER K H σ (shE ρ) := ⟨by rw [List.length_map]; exact h.len, fun i d q => by
  obtain ⟨css, hs, _⟩ := h.own
  rw [List.getElem?_map] at q
  cases z : ρ[i]? with
  | none => rw [z] at q; cases q
  | some s =>
    rw [z] at q
    have hr := hs i s z
    cases s with
    | sh d' => cases q; exact hr.1
    | _ => cases q⟩
theorem SS.ex (h : SS K HE HE1 H H1 σ ρ) : Ex H H1 := h.gr.inn
/-- more is known, the heap grows -/
theorem SS.step {Hn H2 : Hp} (h : SS K HE HE1 H H1 σ ρ) (g : Gr H H1 Hn H2) : SS K HE HE1 Hn H2 σ ρ := by
  obtain ⟨css, hs, o⟩ := h.own
  refine ⟨h.gr.trans g, h.len, css, fun i s e => (hs i s e).mono g.kn, ⟨fun i c hc => ?_, o.nd, o.di⟩⟩
  obtain ⟨a, b, c1⟩ := o.at_ i c hc
  refine ⟨a, ?_, g.all _ _ c1⟩
  cases z : Hn c.1 with
  | none => rfl
  | some u =>
    have := g.new _ _ z b
    rw [c1] at this
    cases this
theorem SS.grow {H2 : Hp} (h : SS K HE HE1 H H1 σ ρ) (e : Ex H1 H2) : SS K HE HE1 H H2 σ ρ := h.step ⟨Ex.refl _, h.ex.trans e, e, fun a o q n => by rw [n] at q; cases q⟩
/-- own cells are lists or dicts -/
theorem SlR.kind {H : Hp} {σ : L2.St} {s : Sl} {cs : List Cell} (h : SlR K H σ i s cs) : ∀ c ∈ cs, (∃ xs, c.2 = .lst xs) ∨ ∃ kvs, c.2 = .dK kvs := by
  intro c hc
  cases s with
  | no => rw [show cs = [] from h] at hc; cases hc
  | sh d => rw [h.2] at hc; cases hc
  | ow ds => obtain ⟨p, vs, a, b, e⟩ := h; rw [e] at hc; rw [List.mem_singleton.mp hc]; exact .inl ⟨_, rfl⟩
  | od ks ds => obtain ⟨p, kvs, a, b, r, e⟩ := h; rw [e] at hc; rw [List.mem_singleton.mp hc]; exact .inr ⟨_, rfl⟩
  | oo p qs dss =>
    obtain ⟨vss, a, b, l, e⟩ := h
    rw [e] at hc
    rcases List.mem_cons.mp hc with rfl | hc
    · exact .inl ⟨_, rfl⟩
    · unfold inner at hc
      obtain ⟨x, _, rfl⟩ := List.mem_map.mp hc
      exact .inl ⟨_, rfl⟩
  | al q => rw [h.2] at hc; cases hc
/-- the view: all own objects are known too -/
theorem SS.view2 (h : SS K HE HE1 H H1 σ ρ) : ∃ Hv, Ex H Hv ∧ Ex Hv H1 ∧ (∀ a o, Hv a = some o → H a = some o ∨ (∃ xs, o = .lst xs) ∨ ∃ kvs, o = .dK kvs) ∧ ER K Hv σ (viewE ρ) := by
  classical
  obtain ⟨css, hs, o⟩ := h.own
  let Hv : Hp := fun a => match H a with
    | some u => some u
    | none => if (∃ i c, i < ρ.length ∧ c ∈ css i ∧ c.1 = a) then H1 a else none
  have e1 : Ex H Hv := fun a u q => by show (match H a with | some u => some u | none => _) = _; rw [q]
  have e2 : Ex Hv H1 := fun a u q => by
    have q : (match H a with | some u => some u | none => if (∃ i c, i < ρ.length ∧ c ∈ css i ∧ c.1 = a) then H1 a else none) = some u := q
    cases z : H a with
    | some w => rw [z] at q; cases q; exact h.ex _ _ z
    | none =>
      rw [z] at q
      by_cases hx : ∃ i c, i < ρ.length ∧ c ∈ css i ∧ c.1 = a
      · have q : (if (∃ i c, i < ρ.length ∧ c ∈ css i ∧ c.1 = a) then H1 a else none) = some u := q
        rw [if_pos hx] at q
        exact q
      · have q : (if (∃ i c, i < ρ.length ∧ c ∈ css i ∧ c.1 = a) then H1 a else none) = some u := q
        rw [if_neg hx] at q
        cases q
  have e3 : ∀ i c, i < ρ.length → c ∈ css i → Hv c.1 = some c.2 := fun i c hi hc => by
    obtain ⟨a, b, c1⟩ := o.at_ i c hc
    show (match H c.1 with | some u => some u | none => if (∃ j c', j < ρ.length ∧ c' ∈ css j ∧ c'.1 = c.1) then H1 c.1 else none) = _
    rw [b]
    show (if (∃ j c', j < ρ.length ∧ c' ∈ css j ∧ c'.1 = c.1) then H1 c.1 else none) = _
    rw [if_pos ⟨i, c, hi, hc, rfl⟩]
    exact c1
  have e4 : ∀ a u, Hv a = some u → H a = some u ∨ (∃ xs, u = .lst xs) ∨ ∃ kvs, u = .dK kvs := fun a u q => by
    have q : (match H a with | some u => some u | none => if (∃ i c, i < ρ.length ∧ c ∈ css i ∧ c.1 = a) then H1 a else none) = some u := q
    cases z : H a with
    | some w => rw [z] at q; cases q; exact .inl rfl
    | none =>
      rw [z] at q
      by_cases hx : ∃ i c, i < ρ.length ∧ c ∈ css i ∧ c.1 = a
      · have q : (if (∃ i c, i < ρ.length ∧ c ∈ css i ∧ c.1 = a) then H1 a else none) = some u := q
        rw [if_pos hx] at q
        obtain ⟨i, c, hi, hc, rfl⟩ := hx
        have h1 := (o.at_ i c hc).2.2
        rw [h1] at q
        cases q
        exact .inr ((hs i _ (List.getElem?_eq_getElem hi)).kind c hc)
      · have q : (if (∃ i c, i < ρ.length ∧ c ∈ css i ∧ c.1 = a) then H1 a else none) = some u := q
        rw [if_neg hx] at q
        cases q
  refine ⟨Hv, e1, e2, e4, ⟨by rw [List.length_map]; exact h.len, fun i d q => ?_⟩⟩
  rw [List.getElem?_map] at q
  cases z : ρ[i]? with
  | none => rw [z] at q; cases q
  | some s =>
    rw [z] at q
    have hr := hs i s z
    have hil := (List.getElem?_eq_some_iff.mp z).1
    cases s with
    | no => cases q
    | sh d' =>
      cases q
      obtain ⟨⟨v, a, b⟩, _⟩ := hr
      exact ⟨v, a, b.mono e1⟩
    | ow ds =>
      cases q
      obtain ⟨p, vs, a, b, c⟩ := hr
      exact ⟨_, a, .lst (e3 i (p, .lst vs) hil (by rw [c]; exact List.mem_cons_self)) (b.mono e1)⟩
    | od ks ds =>
      cases q
      obtain ⟨p, kvs, a, b, r, c⟩ := hr
      subst b
      exact ⟨_, a, .dct (e3 i (p, .dK kvs) hil (by rw [c]; exact List.mem_cons_self)) (r.mono e1)⟩
    | oo p qs dss =>
      cases q
      obtain ⟨vss, a, b, l, c⟩ := hr
      refine ⟨_, a, .lst (e3 i (p, .lst (qs.map V.ref)) hil (by rw [c]; exact List.mem_cons_self)) ?_⟩
      have hin : ∀ c' ∈ inner qs vss, Hv c'.1 = some c'.2 := fun c' hc' => e3 i c' hil (by rw [c]; exact List.mem_cons_of_mem _ hc')
      clear c a z
      have go : ∀ (qs : List Addr) (vss : List (List V)) (dss : List (List D)), Rpss K H vss dss → vss.length = qs.length → (∀ c' ∈ inner qs vss, Hv c'.1 = some c'.2) → Rps K Hv (qs.map V.ref) (dss.map D.lst) := by
        intro qs
        induction qs with
        | nil =>
          intro vss dss hp hl _
          cases vss with
          | nil => cases hp; exact .nil
          | cons v vs => cases hl
        | cons q qs ih =>
          intro vss dss hp hl hin
          cases vss with
          | nil => cases hl
          | cons v vs =>
            cases hp with
            | cons r t =>
              exact .cons (.lst (hin (q, .lst v) (by unfold inner; simp)) (r.mono e1)) (ih vs _ t (by simpa using hl) fun c' hc' => hin c' (by unfold inner at hc' ⊢; simp only [List.zip_cons_cons, List.map_cons]; exact List.mem_cons_of_mem _ hc'))
      exact go qs vss dss b l hin
    | al q2 => cases q

theorem SS.view (h : SS K HE HE1 H H1 σ ρ) : ∃ Hv, Ex H Hv ∧ Ex Hv H1 ∧ ER K Hv σ (viewE ρ) := by
  obtain ⟨Hv, a, b, _, c⟩ := h.view2
  exact ⟨Hv, a, b, c⟩
/-- (kept for its form) -/
def free_ (ρ : List Sl) (i : Nat) : Bool := true
theorem SlR.keep {v : V} (h : SlR K H σ j s cs) (hj : j ≠ i) : SlR K H (σ.set i (some v)) j s cs := by
  have g : ∀ m, m ≠ i → (σ.set i (some v))[m]? = σ[m]? := fun m hm => List.getElem?_set_ne (Ne.symm hm)
  cases s with
  | no => exact h
  | sh d => obtain ⟨⟨w, a, b⟩, c⟩ := h; exact ⟨⟨w, by rw [g j hj]; exact a, b⟩, c⟩
  | ow ds => obtain ⟨p, vs, a, b⟩ := h; exact ⟨p, vs, by rw [g j hj]; exact a, b⟩
  | od ks ds => obtain ⟨p, kvs, a, b⟩ := h; exact ⟨p, kvs, by rw [g j hj]; exact a, b⟩
  | oo p qs dss => obtain ⟨vss, a, b⟩ := h; exact ⟨vss, by rw [g j hj]; exact a, b⟩
  | al q => obtain ⟨a, b⟩ := h; exact ⟨by rw [g j hj]; exact a, b⟩
/-- a slot gets a new content: cells cs' -/
theorem SS.put {v : V} {s' : Sl} {cs' : List Cell} {Hn H2 : Hp} (h : SS K HE HE1 H H1 σ ρ) (hf : free_ ρ i = true) (g : Gr H H1 Hn H2) (hs' : i < ρ.length → SlR K Hn (σ.set i (some v)) i s' cs')
    (hc : ∀ c ∈ cs', H1 c.1 = none ∧ Hn c.1 = none ∧ H2 c.1 = some c.2) (hn : (cs'.map Prod.fst).Nodup) : SS K HE HE1 Hn H2 (σ.set i (some v)) (ρ.set i s') := by
  have g2 := (h.step g)
  obtain ⟨css, hs, o⟩ := h.own
  by_cases hi : i < ρ.length
  · refine ⟨g2.gr, by simp [h.len], repl css i cs', fun k s q => ?_, ⟨fun k c hk => ?_, fun k => ?_, fun k m hkm c hk c' hm => ?_⟩⟩
    · by_cases hk : k = i
      · subst hk
        rw [List.getElem?_set_self hi] at q
        cases q
        rw [repl_pos rfl]
        exact hs' hi
      · rw [List.getElem?_set_ne (Ne.symm hk)] at q
        rw [repl_neg hk]
        exact ((hs k s q).mono g.kn).keep hk
    · by_cases hki : k = i
      · rw [repl_pos hki] at hk
        obtain ⟨a, b, b2⟩ := hc c hk
        exact ⟨h.gr.all.back a, b, b2⟩
      · rw [repl_neg hki] at hk
        obtain ⟨a, b, c1⟩ := o.at_ k c hk
        refine ⟨a, ?_, g.all _ _ c1⟩
        cases z : Hn c.1 with
        | none => rfl
        | some u =>
          have := g.new _ _ z b
          rw [c1] at this
          cases this
    · show ((repl css i cs' k).map Prod.fst).Nodup
      by_cases hki : k = i
      · rw [repl_pos hki]; exact hn
      · rw [repl_neg hki]; exact o.nd k
    · have old : ∀ m, m ≠ i → ∀ c' ∈ css m, ∀ c ∈ cs', c.1 ≠ c'.1 := fun m hm c' hc' c hcc z => by
        have q := (o.at_ m c' hc').2.2
        rw [← z, (hc c hcc).1] at q
        cases q
      by_cases hki : k = i
      · have hmi : m ≠ i := fun z => hkm (hki.trans z.symm)
        rw [repl_pos hki] at hk
        rw [repl_neg hmi] at hm
        exact old m hmi c' hm c hk
      · rw [repl_neg hki] at hk
        by_cases hmi : m = i
        · rw [repl_pos hmi] at hm
          exact fun z => old k hki c hk c' hm z.symm
        · rw [repl_neg hmi] at hm
          exact o.di k m hkm c hk c' hm
  · have z1 : ρ.set i s' = ρ := List.set_eq_of_length_le (by omega)
    have z2 : σ.set i (some v) = σ := List.set_eq_of_length_le (by rw [← h.len]; omega)
    rw [z1, z2]
    exact g2
theorem SS.setSh {v : V} {Hn H2 : Hp} (h : SS K HE HE1 H H1 σ ρ) (hf : free_ ρ i = true) (g : Gr H H1 Hn H2) (r : Rp K Hn v d) : SS K HE HE1 Hn H2 (σ.set i (some v)) (ρ.set i (.sh d)) :=
  h.put hf g (fun hi => ⟨⟨v, List.getElem?_set_self (by rw [← h.len]; exact hi), r⟩, rfl⟩) (fun c hc => by cases hc) List.nodup_nil
theorem SS.setOw {p : Addr} {vs : List V} {Hn H2 : Hp} (h : SS K HE HE1 H H1 σ ρ) (hf : free_ ρ i = true) (g : Gr H H1 Hn H2) (h1 : H1 p = none) (hn : Hn p = none) (h2 : H2 p = some (.lst vs)) (r : Rps K Hn vs ds) :
    SS K HE HE1 Hn H2 (σ.set i (some (.ref p))) (ρ.set i (.ow ds)) :=
  h.put hf g (fun hi => ⟨p, vs, List.getElem?_set_self (by rw [← h.len]; exact hi), r, rfl⟩) (fun c hc => by
    rcases List.mem_cons.mp hc with rfl | hc
    · exact ⟨h1, hn, h2⟩
    · cases hc) (by simp)
/-- less is known: a new list of plain numbers told over the view -/
theorem Gr.only {H H1 H2 : Hp} (e : Ex H H1) (e2 : Ex H1 H2) : Gr H H1 H H2 := ⟨Ex.refl _, e.trans e2, e2, fun a o q n => by rw [n] at q; cases q⟩
/-- a slot of its own is written: one cell -/
theorem SS.write {ds : List D} (h : SS K HE HE1 H H1 σ ρ) (hi : ρ[i]? = some (.ow ds)) : ∃ p vs, σ[i]? = some (some (.ref p)) ∧ H1 p = some (.lst vs) ∧ Rps K H vs ds ∧
    ∀ vs' ds', Rps K H vs' ds' → SS K HE HE1 H (upd H1 p (.lst vs')) σ (ρ.set i (.ow ds')) := by
  obtain ⟨css, hs, o⟩ := h.own
  obtain ⟨p, vs, a, b, c⟩ := hs i _ hi
  have hm : (p, HO.lst vs) ∈ css i := by rw [c]; exact List.mem_cons_self
  obtain ⟨n1, n2, n3⟩ := o.at_ i _ hm
  have hil := (List.getElem?_eq_some_iff.mp hi).1
  refine ⟨p, vs, a, n3, b, fun vs' ds' r => ?_⟩
  refine ⟨⟨h.gr.kn, h.ex.mut n2, h.gr.all.mut n1, h.gr.new⟩, by simp [h.len], repl css i [(p, .lst vs')], fun k s q => ?_, ⟨fun k c' hk => ?_, fun k => ?_, fun k m hkm c' hk c2 hm2 => ?_⟩⟩
  · by_cases hk : k = i
    · subst hk
      rw [List.getElem?_set_self hil] at q
      cases q
      rw [repl_pos rfl]
      exact ⟨p, vs', a, r, rfl⟩
    · rw [List.getElem?_set_ne (Ne.symm hk)] at q
      rw [repl_neg hk]
      exact hs k s q
  · by_cases hki : k = i
    · rw [repl_pos hki] at hk
      rcases List.mem_cons.mp hk with rfl | hk
      · exact ⟨n1, n2, upd_same⟩
      · cases hk
    · rw [repl_neg hki] at hk
      obtain ⟨a1, b1, c1⟩ := o.at_ k c' hk
      refine ⟨a1, b1, ?_⟩
      rw [upd_ne (o.di k i hki c' hk _ hm)]
      exact c1
  · show ((repl css i [(p, HO.lst vs')] k).map Prod.fst).Nodup
    by_cases hki : k = i
    · rw [repl_pos hki]; simp
    · rw [repl_neg hki]; exact o.nd k
  · by_cases hki : k = i
    · have hmi : m ≠ i := fun z => hkm (hki.trans z.symm)
      rw [repl_pos hki] at hk
      rw [repl_neg hmi] at hm2
      rcases List.mem_cons.mp hk with rfl | hk
      · exact fun z => o.di m i hmi c2 hm2 _ hm z.symm
      · cases hk
    · rw [repl_neg hki] at hk
      by_cases hmi : m = i
      · rw [repl_pos hmi] at hm2
        rcases List.mem_cons.mp hm2 with rfl | hm2
        · exact (o.di k i hki c' hk (p, HO.lst vs) hm : c'.1 ≠ p)
        · cases hm2
      · rw [repl_neg hmi] at hm2
        exact o.di k m hkm c' hk c2 hm2
theorem SS.writeD {ks : List Key} {ds : List D} (h : SS K HE HE1 H H1 σ ρ) (hi : ρ[i]? = some (.od ks ds)) : ∃ p kvs, σ[i]? = some (some (.ref p)) ∧ H1 p = some (.dK kvs) ∧ kvs.map Prod.fst = ks ∧ Rps K H (kvs.map Prod.snd) ds ∧
    ∀ kvs' ds', Rps K H (kvs'.map Prod.snd) ds' → SS K HE HE1 H (upd H1 p (.dK kvs')) σ (ρ.set i (.od (kvs'.map Prod.fst) ds')) := by
  obtain ⟨css, hs, o⟩ := h.own
  obtain ⟨p, vs, a, ek, b, c⟩ := hs i _ hi
  have hm : (p, HO.dK vs) ∈ css i := by rw [c]; exact List.mem_cons_self
  obtain ⟨n1, n2, n3⟩ := o.at_ i _ hm
  have hil := (List.getElem?_eq_some_iff.mp hi).1
  refine ⟨p, vs, a, n3, ek, b, fun vs' ds' r => ?_⟩
  refine ⟨⟨h.gr.kn, h.ex.mut n2, h.gr.all.mut n1, h.gr.new⟩, by simp [h.len], repl css i [(p, .dK vs')], fun k s q => ?_, ⟨fun k c' hk => ?_, fun k => ?_, fun k m hkm c' hk c2 hm2 => ?_⟩⟩
  · by_cases hk : k = i
    · subst hk
      rw [List.getElem?_set_self hil] at q
      cases q
      rw [repl_pos rfl]
      exact ⟨p, vs', a, rfl, r, rfl⟩
    · rw [List.getElem?_set_ne (Ne.symm hk)] at q
      rw [repl_neg hk]
      exact hs k s q
  · by_cases hki : k = i
    · rw [repl_pos hki] at hk
      rcases List.mem_cons.mp hk with rfl | hk
      · exact ⟨n1, n2, upd_same⟩
      · cases hk
    · rw [repl_neg hki] at hk
      obtain ⟨a1, b1, c1⟩ := o.at_ k c' hk
      refine ⟨a1, b1, ?_⟩
      rw [upd_ne (o.di k i hki c' hk _ hm)]
      exact c1
  · show ((repl css i [(p, HO.dK vs')] k).map Prod.fst).Nodup
    by_cases hki : k = i
    · rw [repl_pos hki]; simp
    · rw [repl_neg hki]; exact o.nd k
  · by_cases hki : k = i
    · have hmi : m ≠ i := fun z => hkm (hki.trans z.symm)
      rw [repl_pos hki] at hk
      rw [repl_neg hmi] at hm2
      rcases List.mem_cons.mp hk with rfl | hk
      · exact fun z => o.di m i hmi c2 hm2 _ hm z.symm
      · cases hk
    · rw [repl_neg hki] at hk
      by_cases hmi : m = i
      · rw [repl_pos hmi] at hm2
        rcases List.mem_cons.mp hm2 with rfl | hm2
        · exact (o.di k i hki c' hk (p, HO.dK vs) hm : c'.1 ≠ p)
        · cases hm2
      · rw [repl_neg hmi] at hm2
        exact o.di k m hkm c' hk c2 hm2
/-- what is its own becomes plain data -/
theorem SS.freeze (h : SS K HE HE1 H H1 σ ρ) (hi : ρ[i]? = some s) (hv : viewOf s = some d) : ∃ Hn, Ex H Hn ∧ SS K HE HE1 Hn H1 σ (ρ.set i (.sh d)) := by
  classical
  obtain ⟨css, hs, o⟩ := h.own
  have hil := (List.getElem?_eq_some_iff.mp hi).1
  -- known: the cells of slot i
  let Hn : Hp := fun a => match H a with
    | some u => some u
    | none => if (∃ c, c ∈ css i ∧ c.1 = a) then H1 a else none
  have e1 : Ex H Hn := fun a u q => by show (match H a with | some u => some u | none => _) = _; rw [q]
  have cs_ : ∀ a, H a = none → ¬ (∃ c, c ∈ css i ∧ c.1 = a) → Hn a = none := fun a q hx => by
    show (match H a with | some u => some u | none => if (∃ c, c ∈ css i ∧ c.1 = a) then H1 a else none) = none
    rw [q]
    show (if (∃ c, c ∈ css i ∧ c.1 = a) then H1 a else none) = none
    rw [if_neg hx]
  have e3 : ∀ c, c ∈ css i → Hn c.1 = some c.2 := fun c hc => by
    obtain ⟨a, b, c1⟩ := o.at_ i c hc
    show (match H c.1 with | some u => some u | none => if (∃ c', c' ∈ css i ∧ c'.1 = c.1) then H1 c.1 else none) = _
    rw [b]
    show (if (∃ c', c' ∈ css i ∧ c'.1 = c.1) then H1 c.1 else none) = _
    rw [if_pos ⟨c, hc, rfl⟩]
    exact c1
  have cases_ : ∀ a u, Hn a = some u → H a = some u ∨ (H a = none ∧ ∃ c, c ∈ css i ∧ c.1 = a ∧ c.2 = u) := fun a u q => by
    cases z : H a with
    | some w =>
      have := e1 a w z
      rw [q] at this
      cases this
      exact .inl rfl
    | none =>
      by_cases hx : ∃ c, c ∈ css i ∧ c.1 = a
      · obtain ⟨c, hc, rfl⟩ := hx
        rw [e3 c hc] at q
        cases q
        exact .inr ⟨rfl, c, hc, rfl, rfl⟩
      · rw [cs_ a z hx] at q
        cases q
  have e2 : Ex Hn H1 := fun a u q => by
    rcases cases_ a u q with z | ⟨_, c, hc, rfl, rfl⟩
    · exact h.ex _ _ z
    · exact (o.at_ i c hc).2.2
  have g : Gr HE HE1 Hn H1 := ⟨h.gr.kn.trans e1, e2, h.gr.all, fun a u q n => by
    rcases cases_ a u q with z | ⟨_, c, hc, rfl, rfl⟩
    · exact h.gr.new a u z n
    · exact (o.at_ i c hc).1⟩
  refine ⟨Hn, e1, g, by simp [h.len], repl css i [], fun k s' q => ?_, ⟨fun k c hk => ?_, fun k => ?_, fun k m hkm c hk c' hm => ?_⟩⟩
  · by_cases hk : k = i
    · subst hk
      rw [List.getElem?_set_self hil] at q
      cases q
      rw [repl_pos rfl]
      refine ⟨?_, rfl⟩
      have hr := hs k s hi
      cases s with
      | no => cases hv
      | sh d' =>
        cases hv
        obtain ⟨⟨v, a, b⟩, _⟩ := hr
        exact ⟨v, a, b.mono e1⟩
      | ow ds =>
        cases hv
        obtain ⟨p, vs, a, b, c⟩ := hr
        exact ⟨_, a, .lst (e3 (p, .lst vs) (by rw [c]; exact List.mem_cons_self)) (b.mono e1)⟩
      | od ks ds =>
        cases hv
        obtain ⟨p, kvs, a, b, r, c⟩ := hr
        subst b
        exact ⟨_, a, .dct (e3 (p, .dK kvs) (by rw [c]; exact List.mem_cons_self)) (r.mono e1)⟩
      | oo p qs dss =>
        cases hv
        obtain ⟨vss, a, b, l, c⟩ := hr
        refine ⟨_, a, .lst (e3 (p, .lst (qs.map V.ref)) (by rw [c]; exact List.mem_cons_self)) ?_⟩
        have hin : ∀ c' ∈ inner qs vss, Hn c'.1 = some c'.2 := fun c' hc' => e3 c' (by rw [c]; exact List.mem_cons_of_mem _ hc')
        clear c a hi hs
        have go : ∀ (qs : List Addr) (vss : List (List V)) (dss : List (List D)), Rpss K H vss dss → vss.length = qs.length → (∀ c' ∈ inner qs vss, Hn c'.1 = some c'.2) → Rps K Hn (qs.map V.ref) (dss.map D.lst) := by
          intro qs
          induction qs with
          | nil =>
            intro vss dss hp hl _
            cases vss with
            | nil => cases hp; exact .nil
            | cons v vs => cases hl
          | cons q qs ih =>
            intro vss dss hp hl hin
            cases vss with
            | nil => cases hl
            | cons v vs =>
              cases hp with
              | cons r t =>
                exact .cons (.lst (hin (q, .lst v) (by unfold inner; simp)) (r.mono e1)) (ih vs _ t (by simpa using hl) fun c' hc' => hin c' (by unfold inner at hc' ⊢; simp only [List.zip_cons_cons, List.map_cons]; exact List.mem_cons_of_mem _ hc'))
        exact go qs vss dss b l hin
      | al q => cases hv
    · rw [List.getElem?_set_ne (Ne.symm hk)] at q
      rw [repl_neg hk]
      exact (hs k s' q).mono e1
  · by_cases hki : k = i
    · rw [repl_pos hki] at hk; cases hk
    · rw [repl_neg hki] at hk
      obtain ⟨a1, b1, c1⟩ := o.at_ k c hk
      exact ⟨a1, cs_ _ b1 fun ⟨c2, h2, z⟩ => o.di i k (Ne.symm hki) c2 h2 c hk z, c1⟩
  · show ((repl css i [] k).map Prod.fst).Nodup
    by_cases hki : k = i
    · rw [repl_pos hki]; exact List.nodup_nil
    · rw [repl_neg hki]; exact o.nd k
  · by_cases hki : k = i
    · rw [repl_pos hki] at hk; cases hk
    · rw [repl_neg hki] at hk
      by_cases hmi : m = i
      · rw [repl_pos hmi] at hm; cases hm
      · rw [repl_neg hmi] at hm
        exact o.di k m hkm c hk c' hm
/-- forgetting -/
theorem SS.forget (h : SS K HE HE1 H H1 σ ρ) (i : Nat) : SS K HE HE1 H H1 σ (ρ.set i .no) := by
  obtain ⟨css, hs, o⟩ := h.own
  refine ⟨h.gr, by simp [h.len], repl css i [], fun k s' q => ?_, ⟨fun k c hk => ?_, fun k => ?_, fun k m hkm c hk c' hm => ?_⟩⟩
  · by_cases hk : k = i
    · subst hk
      by_cases hil : k < ρ.length
      · rw [List.getElem?_set_self hil] at q
        cases q
        show repl css k [] k = []
        exact repl_pos rfl
      · rw [List.getElem?_eq_none (by simpa using hil)] at q
        cases q
    · rw [List.getElem?_set_ne (Ne.symm hk)] at q
      rw [repl_neg hk]
      exact hs k s' q
  · by_cases hki : k = i
    · rw [repl_pos hki] at hk; cases hk
    · rw [repl_neg hki] at hk
      exact o.at_ k c hk
  · show ((repl css i [] k).map Prod.fst).Nodup
    by_cases hki : k = i
    · rw [repl_pos hki]; exact List.nodup_nil
    · rw [repl_neg hki]; exact o.nd k
  · by_cases hki : k = i
    · rw [repl_pos hki] at hk; cases hk
    · rw [repl_neg hki] at hk
      by_cases hmi : m = i
      · rw [repl_pos hmi] at hm; cases hm
      · rw [repl_neg hmi] at hm
        exact o.di k m hkm c hk c' hm
end
end DL

set_option Elab.async false
set_option linter.all false
set_option maxRecDepth 100000
set_option maxHeartbeats 4000000
/-! DL3: what a statement does to the slots. -/
namespace DL
open PySem PySem.Spec PyProof.Rows L2

/-- what is wanted behind a statement, of the slots' data -/
structure DE where
  nx : List Sl → Prop
  rt : Ret → Prop
  bk : List Sl → Prop := fun _ => False
  ct : List Sl → Prop := fun _ => False

def SD (K : PySem.W.Frag) (t : TS) (ρ : List Sl) (D : DE) : Prop := ∀ HE HE1 H H1 σ (E : Ends), SS K HE HE1 H H1 σ ρ →
  (∀ ρ' H' H1' σ', D.nx ρ' → Ex H H' → SS K HE HE1 H' H1' σ' ρ' → E.nx σ' H1') →
  (∀ ρ' H' H1' σ', D.bk ρ' → Ex H H' → SS K HE HE1 H' H1' σ' ρ' → E.bk σ' H1') →
  (∀ ρ' H' H1' σ', D.ct ρ' → Ex H H' → SS K HE HE1 H' H1' σ' ρ' → E.ct σ' H1') →
  (∀ r v H2, D.rt r → OutR K HE HE1 r v H2 → E.rt v H2) → t E σ H1

section
variable {K : PySem.W.Frag} {ρ : List Sl} {D : DE} {t u tu tw tb : TS} {te ta tk tv : TE} {tt : TT} {i j : Nat} {d a : DL.D} {ds : List DL.D}

theorem sd_then (h : SD K t ρ { D with nx := fun ρ' => SD K u ρ' D }) : SD K (tSeq t u) ρ D := fun HE HE1 H H1 σ E ss n b c r =>
  h HE HE1 H H1 σ { E with nx := u E } ss (fun ρ' H' H1' σ' q e ss' => q HE HE1 H' H1' σ' E ss' (fun ρ2 H2 H12 σ2 q2 e2 => n ρ2 H2 H12 σ2 q2 (e.trans e2)) (fun ρ2 H2 H12 σ2 q2 e2 => b ρ2 H2 H12 σ2 q2 (e.trans e2)) (fun ρ2 H2 H12 σ2 q2 e2 => c ρ2 H2 H12 σ2 q2 (e.trans e2)) r) b c r
/-- .. with a word between -/
theorem sd_cut (M : List Sl → Prop) (h : SD K t ρ { D with nx := M }) (k : ∀ ρ', M ρ' → SD K u ρ' D) : SD K (tSeq t u) ρ D :=
  sd_then fun HE HE1 H H1 σ E ss n b c r => h HE HE1 H H1 σ E ss (fun ρ' H' H1' σ' q e ss' => n ρ' H' H1' σ' (k ρ' q) e ss') b c r
theorem SD.imp {D' : DE} (h : SD K t ρ D') (hn : ∀ ρ', D'.nx ρ' → D.nx ρ') (hb : ∀ ρ', D'.bk ρ' → D.bk ρ') (hc : ∀ ρ', D'.ct ρ' → D.ct ρ') (hr : ∀ r, D'.rt r → D.rt r) : SD K t ρ D := fun HE HE1 H H1 σ E ss n b c r =>
  h HE HE1 H H1 σ E ss (fun ρ' H' H1' σ' q => n ρ' H' H1' σ' (hn _ q)) (fun ρ' H' H1' σ' q => b ρ' H' H1' σ' (hb _ q)) (fun ρ' H' H1' σ' q => c ρ' H' H1' σ' (hc _ q)) (fun x v H2 q => r x v H2 (hr _ q))
theorem sd_next (h : D.nx ρ) : SD K tNext ρ D := fun HE HE1 H H1 σ E ss n b c r => n ρ H H1 σ h (Ex.refl _) ss
theorem sd_break (h : D.bk ρ) : SD K tBreak ρ D := fun HE HE1 H H1 σ E ss n b c r => b ρ H H1 σ h (Ex.refl _) ss
theorem sd_cont (h : D.ct ρ) : SD K tCont ρ D := fun HE HE1 H H1 σ E ss n b c r => c ρ H H1 σ h (Ex.refl _) ss
theorem sd_frz {s : Sl} (hi : ρ[i]? = some s) (hv : viewOf s = some d) (h : SD K t (ρ.set i (.sh d)) D) : SD K t ρ D := fun HE HE1 H H1 σ E ss n b c r => by
  obtain ⟨Hn, e, ss'⟩ := ss.freeze hi hv
  exact h HE HE1 Hn H1 σ E ss' (fun ρ' H' H1' σ' q e2 => n ρ' H' H1' σ' q (e.trans e2)) (fun ρ' H' H1' σ' q e2 => b ρ' H' H1' σ' q (e.trans e2)) (fun ρ' H' H1' σ' q e2 => c ρ' H' H1' σ' q (e.trans e2)) r
theorem sd_forget (i : Nat) (h : SD K t (ρ.set i .no) D) : SD K t ρ D := fun HE HE1 H H1 σ E ss n b c r => h HE HE1 H H1 σ E (ss.forget i) n b c r
/-- x = e, plain data -/
theorem sd_asg (h : EvD K te (shE ρ) d) (k : D.nx (ρ.set i (.sh d))) (hf : free_ ρ i = true := by rfl) : SD K (tAsg te (gName i)) ρ D := fun HE HE1 H H1 σ E ss n b c r =>
  h H σ H1 ss.er ss.ex _ fun v Hn H2 g rv => n _ Hn H2 _ k g.kn (ss.setSh hf g rv)
/-- data without addresses -/
def flat : DL.D → Bool
  | .non => true
  | .bl _ => true
  | .int _ => true
  | .str _ => true
  | _ => false
theorem flat_rp {H H' : Hp} {v : V} (hf : flat d = true) (r : Rp K H v d) : Rp K H' v d := by
  cases r with
  | non => exact .non
  | bl b => exact .bl b
  | int i => exact .int i
  | str x => exact .str x
  | _ => cases hf
theorem flat_rps {H H' : Hp} : ∀ {vs : List V} {ds : List DL.D}, ds.all flat = true → Rps K H vs ds → Rps K H' vs ds
  | _, _, _, .nil => .nil
  | _, _, hf, .cons r t => by
    have q := Bool.and_eq_true_iff.mp (show (flat _ && List.all _ flat) = true from hf)
    exact .cons (flat_rp q.1 r) (flat_rps q.2 t)
theorem all_flat (ns : List Int) : (dI ns).all flat = true := by
  rw [List.all_map]
  exact List.all_eq_true.mpr fun _ _ => rfl
/-- x = e, a number or the like, whatever is read -/
theorem sd_asgF (h : EvD K te (viewE ρ) d) (hd : flat d = true) (k : D.nx (ρ.set i (.sh d))) (hf : free_ ρ i = true := by rfl) : SD K (tAsg te (gName i)) ρ D := fun HE HE1 H H1 σ E ss n b c r => by
  obtain ⟨Hv, e1, e2, er⟩ := ss.view
  exact h Hv σ H1 er e2 _ fun v Hn H2 g rv => n _ H H2 _ k (Ex.refl _) (ss.setSh hf (Gr.only ss.ex g.all) (flat_rp hd rv))
/-- x = a new list -/
theorem sd_asgL (h : EvL K te (shE ρ) ds) (k : D.nx (ρ.set i (.ow ds))) (hf : free_ ρ i = true := by rfl) : SD K (tAsg te (gName i)) ρ D := fun HE HE1 H H1 σ E ss n b c r =>
  h H σ H1 ss.er ss.ex _ fun p vs Hn H2 g h1 hn h2 rs => n _ Hn H2 _ k g.kn (ss.setOw hf g h1 hn h2 rs)
/-- .. of numbers, whatever is read -/
theorem sd_asgLF (h : EvL K te (viewE ρ) ds) (hd : ds.all flat = true) (k : D.nx (ρ.set i (.ow ds))) (hf : free_ ρ i = true := by rfl) : SD K (tAsg te (gName i)) ρ D := fun HE HE1 H H1 σ E ss n b c r => by
  obtain ⟨Hv, e1, e2, er⟩ := ss.view
  exact h Hv σ H1 er e2 _ fun p vs Hn H2 g h1 hn h2 rs => n _ H H2 _ k (Ex.refl _) (ss.setOw hf (Gr.only ss.ex g.all) h1 (ss.ex.back h1) h2 (flat_rps hd rs))
/-- x = {} -/
theorem sd_asgD0 (k : D.nx (ρ.set i (.od [] []))) (hf : free_ ρ i = true := by rfl) : SD K (tAsg tDNewK (gName i)) ρ D := fun HE HE1 H H1 σ E ss n b c r => fun p hp =>
  n _ H _ _ k (Ex.refl _) (ss.put hf (Gr.only ss.ex ((Ex.refl _).mut hp)) (fun hi => ⟨p, [], List.getElem?_set_self (by rw [← ss.len]; exact hi), rfl, .nil, rfl⟩) (fun c hc => by
    rcases List.mem_cons.mp hc with rfl | hc
    · exact ⟨hp, ss.ex.back hp, upd_same⟩
    · cases hc) (by simp))
/-- a, b = a pair of data -/
theorem sd_asg2 {d1 d2 : DL.D} (h : EvD K te (shE ρ) (.tup [d1, d2])) (k : D.nx ((ρ.set i (.sh d1)).set j (.sh d2))) (hf : free_ ρ i = true := by rfl) (hg : free_ (ρ.set i (.sh d1)) j = true := by rfl) :
    SD K (tAsg te (gTup K 2 (gCons (gName i) (gCons (gName j) gNil)))) ρ D := fun HE HE1 H H1 σ E ss n b c r =>
  h H σ H1 ss.er ss.ex _ fun v Hn H2 g rv => by
    cases rv with
    | tup hs rs =>
      cases rs with
      | cons r1 t =>
        cases t with
        | cons r2 t =>
          cases t
          have s1 := ss.setSh hf g r1
          exact ⟨_, _, rfl, ex_t g.inn hs, rfl, _, _, rfl, _, _, rfl, rfl, n _ Hn H2 _ k g.kn (s1.setSh hg (Gr.refl g.inn) r2)⟩
/-- f(..) as a statement, its value dropped -/
theorem sd_drop (h : EvD K te (viewE ρ) d) (k : D.nx ρ) : SD K (tDrop te) ρ D := fun HE HE1 H H1 σ E ss n b c r => by
  obtain ⟨Hv, e1, e2, er⟩ := ss.view
  exact h Hv σ H1 er e2 _ fun v Hn H2 g rv => n _ H H2 _ k (Ex.refl _) (ss.grow g.all)
/-- x[k] = e, x a list of its own -/
theorem sd_set {m : Nat} (hi : ρ[i]? = some (.ow ds)) (h : EvD K te (shE ρ) d) (hk : EvD K tk (viewE ρ) (.int (m : Int))) (hm : m < ds.length) (k : D.nx (ρ.set i (.ow (ds.set m d)))) : SD K (tAsg te (gSub (tVar i) tk rSetL)) ρ D := fun HE HE1 H H1 σ E ss n b c r =>
  h H σ H1 ss.er ss.ex _ fun v Hn H2 g rv => by
    have s2 := ss.step g
    obtain ⟨p, vs, hp, hv, rs, wr⟩ := s2.write hi
    obtain ⟨Hv, e1, e2, er⟩ := s2.view
    refine ⟨_, hp, ?_⟩
    refine hk Hv σ H2 er e2 _ fun iv Hm H3 g3 ri => ?_
    cases ri
    have s3 := s2.grow g3.all
    obtain ⟨p', vs', hp', hv', rs', wr'⟩ := s3.write hi
    have ep : p' = p := by rw [hp] at hp'; cases hp'; rfl
    subst ep
    refine ⟨p', vs', (m : Int), m, rfl, rfl, hv', ?_, n _ Hn _ _ k g.kn (wr' _ _ (rs'.set rv m))⟩
    rw [rs'.length]
    unfold ixN
    rw [if_pos (by omega), if_pos (by omega)]
    simp
/-- .. the value a number, whatever is read -/
theorem sd_setF {m : Nat} (hi : ρ[i]? = some (.ow ds)) (h : EvD K te (viewE ρ) d) (hd : flat d = true) (hk : EvD K tk (viewE ρ) (.int (m : Int))) (hm : m < ds.length) (k : D.nx (ρ.set i (.ow (ds.set m d)))) : SD K (tAsg te (gSub (tVar i) tk rSetL)) ρ D := fun HE HE1 H H1 σ E ss n b c r => by
  obtain ⟨Hv0, e10, e20, er0⟩ := ss.view
  refine h Hv0 σ H1 er0 e20 _ fun v Hn0 H2 g0 rv => ?_
  have s2 := ss.grow g0.all
  obtain ⟨p, vs, hp, hv, rs, wr⟩ := s2.write hi
  obtain ⟨Hv, e1, e2, er⟩ := s2.view
  refine ⟨_, hp, ?_⟩
  refine hk Hv σ H2 er e2 _ fun iv Hm H3 g3 ri => ?_
  cases ri
  have s3 := s2.grow g3.all
  obtain ⟨p', vs', hp', hv', rs', wr'⟩ := s3.write hi
  have ep : p' = p := by rw [hp] at hp'; cases hp'; rfl
  subst ep
  refine ⟨p', vs', (m : Int), m, rfl, rfl, hv', ?_, n _ H _ _ k (Ex.refl _) (wr' _ _ (rs'.set (flat_rp hd rv) m))⟩
  rw [rs'.length]
  unfold ixN
  rw [if_pos (by omega), if_pos (by omega)]
  simp
/-- x.append(e) -/
theorem sd_app (hi : ρ[i]? = some (.ow ds)) (h : EvD K te (shE ρ) d) (hl : ds.length < sizeLine) (k : D.nx (ρ.set i (.ow (ds ++ [d])))) : SD K (tDrop (tBM K "list" rAppend (tVar i) (tCons te tNil))) ρ D := fun HE HE1 H H1 σ E ss n b c r => by
  obtain ⟨p, vs, hp, hv, rs, wr⟩ := ss.write hi
  refine ⟨_, hp, .inl ⟨rfl, _, SqL.of hv⟩, ?_⟩
  refine h H σ H1 ss.er ss.ex _ fun v Hn H2 g rv => ?_
  have s2 := ss.step g
  obtain ⟨p', vs', hp', hv', rs', wr'⟩ := s2.write hi
  have ep : p' = p := by rw [hp] at hp'; cases hp'; rfl
  subst ep
  exact ⟨p', vs', v, rfl, rfl, hv', by rw [rs'.length]; exact hl, n _ Hn _ _ k g.kn (wr' _ _ (rs'.append (.one rv)))⟩
theorem sd_appF (hi : ρ[i]? = some (.ow ds)) (h : EvD K te (viewE ρ) d) (hd : flat d = true) (hl : ds.length < sizeLine) (k : D.nx (ρ.set i (.ow (ds ++ [d])))) : SD K (tDrop (tBM K "list" rAppend (tVar i) (tCons te tNil))) ρ D := fun HE HE1 H H1 σ E ss n b c r => by
  obtain ⟨p, vs, hp, hv, rs, wr⟩ := ss.write hi
  refine ⟨_, hp, .inl ⟨rfl, _, SqL.of hv⟩, ?_⟩
  obtain ⟨Hv, e1, e2, er⟩ := ss.view
  refine h Hv σ H1 er e2 _ fun v Hn H2 g rv => ?_
  have s2 := ss.grow g.all
  obtain ⟨p', vs', hp', hv', rs', wr'⟩ := s2.write hi
  have ep : p' = p := by rw [hp] at hp'; cases hp'; rfl
  subst ep
  exact ⟨p', vs', v, rfl, rfl, hv', by rw [rs'.length]; exact hl, n _ H _ _ k (Ex.refl _) (wr' _ _ (rs'.append (.one (flat_rp hd rv))))⟩
/-! dicts -/
def dKey : DL.D → Option Key
  | .int i => some (.inl i)
  | .str x => some (.inr x)
  | _ => none
theorem key_rp {H : Hp} {v : V} {κ : Key} (r : Rp K H v d) (hk : dKey d = some κ) : v = kV κ := by
  cases r with
  | int i => cases hk; rfl
  | str x => cases hk; rfl
  | _ => cases hk
/-- a key that is new -/
theorem sd_putNew {ks : List Key} {κ : Key} {kd : DL.D} (hi : ρ[i]? = some (.od ks ds)) (h : EvD K te (viewE ρ) d) (hd : flat d = true) (hk : EvD K tk (viewE ρ) kd) (hκ : dKey kd = some κ) (hn : κ ∉ ks) (hl : ks.length < sizeLine) (k : D.nx (ρ.set i (.od (ks ++ [κ]) (ds ++ [d])))) :
    SD K (sDPut (tVar i) tk te) ρ D := fun HE HE1 H H1 σ E ss n b c r => by
  obtain ⟨Hv, e1, e2, er⟩ := ss.view
  refine h Hv σ H1 er e2 _ fun v Hn H2 g rv => ?_
  have s2 := ss.grow g.all
  obtain ⟨p, kvs, hp, hv, ek, rs, wr⟩ := s2.writeD hi
  refine ⟨_, hp, ?_⟩
  obtain ⟨Hv2, e12, e22, er2⟩ := s2.view
  refine hk Hv2 σ H2 er2 e22 _ fun w Hn3 H3 g3 rk => ?_
  have ew := key_rp rk hκ
  subst ew
  have s3 := s2.grow g3.all
  obtain ⟨p', kvs', hp', hv', ek', rs', wr'⟩ := s3.writeD hi
  have ep : p' = p := by rw [hp] at hp'; cases hp'; rfl
  subst ep
  have hz : kvs'.length < sizeLine := by
    have := congrArg List.length ek'
    rw [List.length_map] at this
    rw [this]
    exact hl
  refine ⟨p', _, rfl, DPut.k hv' hz, ?_⟩
  have no : (kvs'.any fun kv => decide (kv.1 = κ)) = false := by
    rw [List.any_eq_false]
    intro x hx hd
    exact hn (by rw [← ek', ← of_decide_eq_true hd]; exact List.mem_map_of_mem hx)
  have hput : putK kvs' κ v = kvs' ++ [(κ, v)] := by
    unfold putK
    rw [no]
    rfl
  rw [hput]
  have q := wr' (kvs' ++ [(κ, v)]) (ds ++ [d]) (by rw [List.map_append]; exact rs'.append (.one (flat_rp hd rv)))
  rw [List.map_append, ek'] at q
  exact n _ H _ _ k (Ex.refl _) q
/-! if, return -/
theorem sd_if {x : Bool} (h : EvT K tt (viewE ρ) x) (h1 : x = true → SD K tu ρ D) (h2 : x = false → SD K tw ρ D) : SD K (tIfS tt tu tw) ρ D := fun HE HE1 H H1 σ E ss n b c r => by
  obtain ⟨Hv, e1, e2, er⟩ := ss.view
  refine h Hv σ H1 er e2 _ fun H2 e => ?_
  cases x with
  | true => exact h1 rfl HE HE1 H H2 σ E (ss.grow e) n b c r
  | false => exact h2 rfl HE HE1 H H2 σ E (ss.grow e) n b c r
theorem sd_ret (h : EvD K te (shE ρ) d) (k : D.rt (.sh d)) : SD K (tRet te) ρ D := fun HE HE1 H H1 σ E ss n b c r =>
  h H σ H1 ss.er ss.ex _ fun v Hn H2 g rv => r _ v H2 k ⟨Hn, ss.gr.trans g, rv⟩
theorem sd_retF (h : EvD K te (viewE ρ) d) (hd : flat d = true) (k : D.rt (.sh d)) : SD K (tRet te) ρ D := fun HE HE1 H H1 σ E ss n b c r => by
  obtain ⟨Hv, e1, e2, er⟩ := ss.view
  exact h Hv σ H1 er e2 _ fun v Hn H2 g rv => r _ v H2 k ⟨H, (ss.grow g.all).gr, flat_rp hd rv⟩
theorem sd_retL (h : EvL K te (shE ρ) ds) (k : D.rt (.ow ds)) : SD K (tRet te) ρ D := fun HE HE1 H H1 σ E ss n b c r =>
  h H σ H1 ss.er ss.ex _ fun p vs Hn H2 g h1 hn h2 rs => r _ _ H2 k ⟨p, vs, Hn, rfl, ss.gr.trans g, ss.gr.all.back h1, hn, h2, rs⟩
theorem sd_retLF (h : EvL K te (viewE ρ) ds) (hd : ds.all flat = true) (k : D.rt (.ow ds)) : SD K (tRet te) ρ D := fun HE HE1 H H1 σ E ss n b c r => by
  obtain ⟨Hv, e1, e2, er⟩ := ss.view
  exact h Hv σ H1 er e2 _ fun p vs Hn H2 g h1 hn h2 rs => r _ _ H2 k ⟨p, vs, H, rfl, (ss.grow g.all).gr, ss.gr.all.back h1, ss.ex.back h1, h2, flat_rps hd rs⟩
theorem sd_retO (hi : ρ[i]? = some (.ow ds)) (k : D.rt (.ow ds)) : SD K (tRet (tVar i)) ρ D := fun HE HE1 H H1 σ E ss n b c r => by
  obtain ⟨css, hs, o⟩ := ss.own
  obtain ⟨p, vs, a, rs, e⟩ := hs i _ hi
  have hm : (p, HO.lst vs) ∈ css i := by rw [e]; exact List.mem_cons_self
  obtain ⟨n1, n2, n3⟩ := o.at_ i _ hm
  exact ⟨_, a, r _ _ H1 k ⟨p, vs, H, rfl, ss.gr, n1, n2, n3, rs⟩⟩
theorem sd_retN (k : D.rt (.sh .non)) : SD K tRetN ρ D := fun HE HE1 H H1 σ E ss n b c r => r _ _ H1 k ⟨H, ss.gr, .non⟩

/-! ### loops -/
/-- an item goes to the targets -/
def TgS (K : PySem.W.Frag) (g : TG) (ρ : List Sl) (d : DL.D) (ρ' : List Sl) : Prop := ∀ x HE HE1 H H1 σ, SS K HE HE1 H H1 σ ρ → Rp K H x d → ∀ Q : L2.St → Hp → Prop, (∀ σ', SS K HE HE1 H H1 σ' ρ' → Q σ' H1) → g x σ H1 Q
theorem ts_name (hf : free_ ρ i = true := by rfl) : TgS K (gName i) ρ d (ρ.set i (.sh d)) := fun x HE HE1 H H1 σ ss rx Q q => q _ (ss.setSh hf (Gr.refl ss.ex) rx)
theorem ts_pair {d1 d2 : DL.D} (hf : free_ ρ i = true := by rfl) (hg : free_ (ρ.set i (.sh d1)) j = true := by rfl) : TgS K (gTup K 2 (gCons (gName i) (gCons (gName j) gNil))) ρ (.tup [d1, d2]) ((ρ.set i (.sh d1)).set j (.sh d2)) := fun x HE HE1 H H1 σ ss rx Q q => by
  cases rx with
  | tup hs rs =>
    cases rs with
    | cons r1 t =>
      cases t with
      | cons r2 t =>
        cases t
        exact ⟨_, _, rfl, ex_t ss.ex hs, rfl, _, _, rfl, _, _, rfl, rfl, q _ ((ss.setSh hf (Gr.refl ss.ex) r1).setSh hg (Gr.refl ss.ex) r2)⟩
/-- the loop's word: I at turn m -/
def Lw (K : PySem.W.Frag) (HE HE1 H0 : Hp) (I : Nat → List Sl → Prop) (m : Nat) (σ : L2.St) (H1 : Hp) : Prop := ∃ ρ H, Ex H0 H ∧ I m ρ ∧ SS K HE HE1 H H1 σ ρ
theorem sd_forL {tl : TE} {g : TG} (h : EvD K tl (shE ρ) a) (ha : a = .lst ds ∨ a = .rd ds) (I : Nat → List Sl → Prop) (h0 : I 0 ρ)
    (hs : ∀ m d ρ', ds[m]? = some d → I m ρ' → ∃ ρ2, TgS K g ρ' d ρ2 ∧ SD K tb ρ2 { D with nx := I (m + 1), ct := I (m + 1), bk := D.nx }) (hd : ∀ ρ', I ds.length ρ' → D.nx ρ') : SD K (tFor (iList K tl) g tb) ρ D := fun HE HE1 H H1 σ E ss n b c r =>
  h H σ H1 ss.er ss.ex _ fun x H0 H2 g2 rx => by
    obtain ⟨p, ws, rfl, hp, rs⟩ : ∃ p ws, x = .ref p ∧ SqL K H0 p ws ∧ Rps K H0 ws ds := by
      rcases ha with rfl | rfl
      · cases rx with
        | lst h r => exact ⟨_, _, rfl, SqL.of h, r⟩
      · cases rx with
        | rd h r => exact ⟨_, _, rfl, h, r⟩
    refine ⟨p, rfl, ⟨ws, ex_l g2.inn hp⟩, for_list (Lw K HE HE1 H0 I) ⟨ρ, H0, Ex.refl _, h0, ss.step g2⟩ (fun m σ' H' _ ⟨ρ', H3, e, _, s3⟩ => ex_l (e.trans s3.ex) hp) (fun m x σ' H' hx ⟨ρ', H3, e, hI, s3⟩ => ?_) (fun σ' H' ⟨ρ', H3, e, hI, s3⟩ => n ρ' H3 H' σ' (hd ρ' (by rw [← rs.length]; exact hI)) (g2.kn.trans e) s3)⟩
    obtain ⟨d, hd', rd⟩ := rs.getV hx
    obtain ⟨ρ2, tg, sd⟩ := hs m d ρ' hd' hI
    refine tg x HE HE1 H3 H' σ' s3 (rd.mono e) _ fun σ2 s4 => ?_
    exact sd HE HE1 H3 H' σ2 _ s4 (fun ρ3 H4 H14 σ3 q e4 s5 => ⟨ρ3, H4, e.trans e4, q, s5⟩) (fun ρ3 H4 H14 σ3 q e4 s5 => n ρ3 H4 H14 σ3 q ((g2.kn.trans e).trans e4) s5) (fun ρ3 H4 H14 σ3 q e4 s5 => ⟨ρ3, H4, e.trans e4, q, s5⟩) r
theorem sd_forT {tl : TE} {g : TG} (h : EvD K tl (shE ρ) (.tup ds)) (I : Nat → List Sl → Prop) (h0 : I 0 ρ)
    (hs : ∀ m d ρ', ds[m]? = some d → I m ρ' → ∃ ρ2, TgS K g ρ' d ρ2 ∧ SD K tb ρ2 { D with nx := I (m + 1), ct := I (m + 1), bk := D.nx }) (hd : ∀ ρ', I ds.length ρ' → D.nx ρ') : SD K (tFor (iTup K tl) g tb) ρ D := fun HE HE1 H H1 σ E ss n b c r =>
  h H σ H1 ss.er ss.ex _ fun x H0 H2 g2 rx => by
    cases rx with
    | @tup p ws _ hp rs =>
    refine ⟨p, rfl, ⟨ws, ex_t g2.inn hp⟩, for_tup (Lw K HE HE1 H0 I) ⟨ρ, H0, Ex.refl _, h0, ss.step g2⟩ (fun m σ' H' _ ⟨ρ', H3, e, _, s3⟩ => ex_t (e.trans s3.ex) hp) (fun m x σ' H' hx ⟨ρ', H3, e, hI, s3⟩ => ?_) (fun σ' H' ⟨ρ', H3, e, hI, s3⟩ => n ρ' H3 H' σ' (hd ρ' (by rw [← rs.length]; exact hI)) (g2.kn.trans e) s3)⟩
    obtain ⟨d, hd', rd⟩ := rs.getV hx
    obtain ⟨ρ2, tg, sd⟩ := hs m d ρ' hd' hI
    refine tg x HE HE1 H3 H' σ' s3 (rd.mono e) _ fun σ2 s4 => ?_
    exact sd HE HE1 H3 H' σ2 _ s4 (fun ρ3 H4 H14 σ3 q e4 s5 => ⟨ρ3, H4, e.trans e4, q, s5⟩) (fun ρ3 H4 H14 σ3 q e4 s5 => n ρ3 H4 H14 σ3 q ((g2.kn.trans e).trans e4) s5) (fun ρ3 H4 H14 σ3 q e4 s5 => ⟨ρ3, H4, e.trans e4, q, s5⟩) r
theorem sd_forR {ta : TA} {z : Int} (h : EvA K ta (viewE ρ) [.int z]) (hz : -(2 ^ 62) ≤ z ∧ z < 2 ^ 62) (I : Nat → List Sl → Prop) (h0 : I 0 ρ)
    (hs : ∀ (m : Nat) ρ', (m : Int) < z → I m ρ' → SD K tb (ρ'.set i (.sh (.int (m : Int)))) { D with nx := I (m + 1), ct := I (m + 1), bk := D.nx }) (hd : ∀ ρ', I z.toNat ρ' → D.nx ρ') (hf : ∀ m ρ', I m ρ' → free_ ρ' i = true) : SD K (tFor (iRng1 ta) (gName i) tb) ρ D := fun HE HE1 H H1 σ E ss n b c r => by
  obtain ⟨Hv, e1, e2, er⟩ := ss.view
  refine h Hv σ H1 er e2 _ fun xs Hn H2 g2 rx => ?_
  cases rx with
  | cons rx t =>
    cases t
    cases rx
    have s2 := ss.grow g2.all
    refine ⟨z, rfl, hz.1, hz.2, for_range (lo := 0) (n := z.toNat) (Lw K HE HE1 H I) ⟨ρ, H, Ex.refl _, h0, s2⟩ (fun m σ' H' hm ⟨ρ', H3, e, hI, s3⟩ => ?_) (fun σ' H' ⟨ρ', H3, e, hI, s3⟩ => n ρ' H3 H' σ' (hd ρ' hI) e s3)⟩
    have e0 : (0 : Int) + (m : Int) = (m : Int) := Int.zero_add _
    rw [e0]
    have s4 := s3.setSh (i := i) (hf m ρ' hI) (Gr.refl s3.ex) (.int (m : Int))
    exact hs m ρ' (by omega) hI HE HE1 H3 H' _ _ s4 (fun ρ3 H4 H14 σ3 q e4 s5 => ⟨ρ3, H4, e.trans e4, q, s5⟩) (fun ρ3 H4 H14 σ3 q e4 s5 => n ρ3 H4 H14 σ3 q (e.trans e4) s5) (fun ρ3 H4 H14 σ3 q e4 s5 => ⟨ρ3, H4, e.trans e4, q, s5⟩) r

/-- slots forgotten -/
def fg : List Nat → List Sl → List Sl
  | [], ρ => ρ
  | j :: js, ρ => (fg js ρ).set j .no
theorem SS.fg {HE HE1 H H1 : Hp} {σ : L2.St} (h : SS K HE HE1 H H1 σ ρ) : ∀ js : List Nat, SS K HE HE1 H H1 σ (fg js ρ)
  | [] => h
  | j :: js => (SS.fg h js).forget j
/-- the loops with a name as their target; js: what the body stores and nobody reads afterwards -/
theorem sd_forLn {tl : TE} (js : List Nat) (h : EvD K tl (shE ρ) a) (ha : a = .lst ds ∨ a = .rd ds) (I : Nat → List Sl → Prop) (h0 : I 0 (fg js ρ))
    (hs : ∀ m d ρ', ds[m]? = some d → I m ρ' → free_ ρ' i = true ∧ SD K tb (ρ'.set i (.sh d)) { D with nx := fun ρ2 => I (m + 1) (fg js ρ2), ct := fun ρ2 => I (m + 1) (fg js ρ2), bk := fun ρ2 => D.nx (fg js ρ2) }) (hd : ∀ ρ', I ds.length ρ' → D.nx ρ') : SD K (tFor (iList K tl) (gName i) tb) ρ D := fun HE HE1 H H1 σ E ss n b c r =>
  h H σ H1 ss.er ss.ex _ fun x H0 H2 g2 rx => by
    obtain ⟨p, ws, rfl, hp, rs⟩ : ∃ p ws, x = .ref p ∧ SqL K H0 p ws ∧ Rps K H0 ws ds := by
      rcases ha with rfl | rfl
      · cases rx with
        | lst h r => exact ⟨_, _, rfl, SqL.of h, r⟩
      · cases rx with
        | rd h r => exact ⟨_, _, rfl, h, r⟩
    refine ⟨p, rfl, ⟨ws, ex_l g2.inn hp⟩, for_list (Lw K HE HE1 H0 I) ⟨_, H0, Ex.refl _, h0, (ss.step g2).fg js⟩ (fun m σ' H' _ ⟨ρ', H3, e, _, s3⟩ => ex_l (e.trans s3.ex) hp) (fun m x σ' H' hx ⟨ρ', H3, e, hI, s3⟩ => ?_) (fun σ' H' ⟨ρ', H3, e, hI, s3⟩ => n ρ' H3 H' σ' (hd ρ' (by rw [← rs.length]; exact hI)) (g2.kn.trans e) s3)⟩
    obtain ⟨d, hd', rd⟩ := rs.getV hx
    obtain ⟨hf, sd⟩ := hs m d ρ' hd' hI
    have s4 := s3.setSh (i := i) hf (Gr.refl s3.ex) (rd.mono e)
    exact sd HE HE1 H3 H' _ _ s4 (fun ρ3 H4 H14 σ3 q e4 s5 => ⟨_, H4, e.trans e4, q, s5.fg js⟩) (fun ρ3 H4 H14 σ3 q e4 s5 => n _ H4 H14 σ3 q ((g2.kn.trans e).trans e4) (s5.fg js)) (fun ρ3 H4 H14 σ3 q e4 s5 => ⟨_, H4, e.trans e4, q, s5.fg js⟩) r
theorem sd_forTn {tl : TE} (js : List Nat) (h : EvD K tl (shE ρ) (.tup ds)) (I : Nat → List Sl → Prop) (h0 : I 0 (fg js ρ))
    (hs : ∀ m d ρ', ds[m]? = some d → I m ρ' → free_ ρ' i = true ∧ SD K tb (ρ'.set i (.sh d)) { D with nx := fun ρ2 => I (m + 1) (fg js ρ2), ct := fun ρ2 => I (m + 1) (fg js ρ2), bk := fun ρ2 => D.nx (fg js ρ2) }) (hd : ∀ ρ', I ds.length ρ' → D.nx ρ') : SD K (tFor (iTup K tl) (gName i) tb) ρ D := fun HE HE1 H H1 σ E ss n b c r =>
  h H σ H1 ss.er ss.ex _ fun x H0 H2 g2 rx => by
    cases rx with
    | @tup p ws _ hp rs =>
    refine ⟨p, rfl, ⟨ws, ex_t g2.inn hp⟩, for_tup (Lw K HE HE1 H0 I) ⟨_, H0, Ex.refl _, h0, (ss.step g2).fg js⟩ (fun m σ' H' _ ⟨ρ', H3, e, _, s3⟩ => ex_t (e.trans s3.ex) hp) (fun m x σ' H' hx ⟨ρ', H3, e, hI, s3⟩ => ?_) (fun σ' H' ⟨ρ', H3, e, hI, s3⟩ => n ρ' H3 H' σ' (hd ρ' (by rw [← rs.length]; exact hI)) (g2.kn.trans e) s3)⟩
    obtain ⟨d, hd', rd⟩ := rs.getV hx
    obtain ⟨hf, sd⟩ := hs m d ρ' hd' hI
    have s4 := s3.setSh (i := i) hf (Gr.refl s3.ex) (rd.mono e)
    exact sd HE HE1 H3 H' _ _ s4 (fun ρ3 H4 H14 σ3 q e4 s5 => ⟨_, H4, e.trans e4, q, s5.fg js⟩) (fun ρ3 H4 H14 σ3 q e4 s5 => n _ H4 H14 σ3 q ((g2.kn.trans e).trans e4) (s5.fg js)) (fun ρ3 H4 H14 σ3 q e4 s5 => ⟨_, H4, e.trans e4, q, s5.fg js⟩) r
theorem sd_forRn {ta : TA} {z : Int} (js : List Nat) (h : EvA K ta (viewE ρ) [.int z]) (hz : -(2 ^ 62) ≤ z ∧ z < 2 ^ 62) (I : Nat → List Sl → Prop) (h0 : I 0 (fg js ρ))
    (hs : ∀ (m : Nat) ρ', (m : Int) < z → I m ρ' → free_ ρ' i = true ∧ SD K tb (ρ'.set i (.sh (.int (m : Int)))) { D with nx := fun ρ2 => I (m + 1) (fg js ρ2), ct := fun ρ2 => I (m + 1) (fg js ρ2), bk := fun ρ2 => D.nx (fg js ρ2) }) (hd : ∀ ρ', I z.toNat ρ' → D.nx ρ') : SD K (tFor (iRng1 ta) (gName i) tb) ρ D := fun HE HE1 H H1 σ E ss n b c r => by
  obtain ⟨Hv, e1, e2, er⟩ := ss.view
  refine h Hv σ H1 er e2 _ fun xs Hn H2 g2 rx => ?_
  cases rx with
  | cons rx t =>
    cases t
    cases rx
    have s2 := ss.grow g2.all
    refine ⟨z, rfl, hz.1, hz.2, for_range (lo := 0) (n := z.toNat) (Lw K HE HE1 H I) ⟨_, H, Ex.refl _, h0, s2.fg js⟩ (fun m σ' H' hm ⟨ρ', H3, e, hI, s3⟩ => ?_) (fun σ' H' ⟨ρ', H3, e, hI, s3⟩ => n ρ' H3 H' σ' (hd ρ' hI) e s3)⟩
    have e0 : (0 : Int) + (m : Int) = (m : Int) := Int.zero_add _
    rw [e0]
    obtain ⟨hf, sd⟩ := hs m ρ' (by omega) hI
    have s4 := s3.setSh (i := i) hf (Gr.refl s3.ex) (.int (m : Int))
    exact sd HE HE1 H3 H' _ _ s4 (fun ρ3 H4 H14 σ3 q e4 s5 => ⟨_, H4, e.trans e4, q, s5.fg js⟩) (fun ρ3 H4 H14 σ3 q e4 s5 => n _ H4 H14 σ3 q (e.trans e4) (s5.fg js)) (fun ρ3 H4 H14 σ3 q e4 s5 => ⟨_, H4, e.trans e4, q, s5.fg js⟩) r

/-! ### a def keeps its promise -/
theorem ss_start {HE HE1 : Hp} {N : List Str} {vs : List V} (e : Ex HE HE1) (rs : Rps K HE vs ds) (hl : ds.length ≤ N.length) : SS K HE HE1 HE HE1 (L2.start N vs) (ds.map Sl.sh ++ List.replicate (N.length - ds.length) Sl.no) := by
  have l1 := rs.length
  refine ⟨Gr.refl e, by unfold L2.start; simp [l1], fun _ => [], fun i s q => ?_, ⟨fun i c hc => (by cases hc), fun i => List.nodup_nil, fun i j _ c hc => (by cases hc)⟩⟩
  by_cases hi : i < ds.length
  · rw [List.getElem?_append_left (by simpa using hi), List.getElem?_map, List.getElem?_eq_getElem hi] at q
    cases q
    obtain ⟨v, h1, h2⟩ := rs.get (List.getElem?_eq_getElem hi)
    refine ⟨⟨v, ?_, h2⟩, rfl⟩
    unfold L2.start
    rw [List.getElem?_append_left (by simpa [l1] using hi), List.getElem?_map, h1]
    rfl
  · rw [List.getElem?_append_right (by simpa using hi), List.getElem?_replicate] at q
    split at q
    · cases q; rfl
    · cases q
/-- from the slots' story to the reading at the entry -/
theorem sd_fn {α : Type} {enc : α → List DL.D} {pre : α → Prop} {out : α → Ret} {N : List Str} {vs : List V} {H1 : Hp} {Q : VK} {E : XK} (hsp : spT K enc pre out vs H1 Q E) (hl : ∀ x, (enc x).length ≤ N.length)
    (h : ∀ x, pre x → SD K t ((enc x).map Sl.sh ++ List.replicate (N.length - (enc x).length) Sl.no) { nx := fun _ => out x = .sh .non, rt := fun r => r = out x }) : t { nx := fun _ H' => Q .non H', rt := Q } (L2.start N vs) H1 := by
  obtain ⟨H, x, e, rs, hp, q⟩ := hsp
  refine h x hp H H1 H H1 _ _ (ss_start e rs (hl x)) (fun ρ' H' H1' σ' z _ ss => ?_) (fun _ _ _ _ z => z.elim) (fun _ _ _ _ z => z.elim) (fun r v H2 z o => ?_)
  · refine q _ _ ?_
    rw [show out x = .sh .non from z]
    exact ⟨H', ss.gr, .non⟩
  · rw [z] at o
    exact q v H2 o
theorem spT_len {α : Type} {enc : α → List DL.D} {pre : α → Prop} {out : α → Ret} {n : Nat} {vs : List V} {H1 : Hp} {Q : VK} {E : XK} (hl : ∀ x, (enc x).length = n) (h : spT K enc pre out vs H1 Q E) : vs.length = n := by
  obtain ⟨H, x, _, rs, _⟩ := h
  rw [rs.length, hl x]
end
end DL

set_option Elab.async false
set_option linter.all false
set_option maxRecDepth 100000
set_option maxHeartbeats 4000000
/-! DL4: own defs called; further rules for built-in functions. -/
namespace DL
open PySem PySem.Spec PyProof.Rows L2

/-- a def of the module that keeps a promise; dvs: the defaults that fill up -/
structure CalD (P : Program) (w : World) (K : PySem.W.Frag) (mg : Str → Option Value) (base : Heap) (k : Nat) (x : Str) (ps : List Str) (sp : Sp) (dvs : List V) : Prop where
  ex : ∃ (f : Addr) (fd : FuncData) (ds : List Value), mg x = some (.ref f) ∧ PySem.W.keepIn K (.ref f) = true ∧ FnOk P w K mg base CX0 k f fd ps sp ∧ Binds K fd ps ds ∧ Vals dvs ds ∧ ∃ oc od osl, K.lookup f = some ⟨oc, od, .func fd, osl⟩
abbrev Cal (P : Program) (w : World) (K : PySem.W.Frag) (mg : Str → Option Value) (base : Heap) (k : Nat) (x : Str) (ps : List Str) (sp : Sp) : Prop := CalD P w K mg base k x ps sp []
section
variable {X : Cx} {k : Nat} {x : Str} {ps : List Str} {sp : Sp} {dvs : List V} {p pos : Pos} {e : Expr} {es : List Expr} {t : TA}
theorem pe_cal (C : CalD X.prog X.w X.K X.mg X.base k x ps sp dvs) (hr : Room k X.A) (ha : PA X (e :: es) t) (hg : Gl X x := by rfl) (hdb : (x == ("__debug__" : Str)) = false := by decide)
    (he : starEach (e :: es) X.env = (false, eval e X.env) :: starEach es X.env := by rfl) (hpl : (backTo pos (starEach es X.env)).any (·.1) = false := by rfl) : PE X (.Call (.Name x p) (e :: es) [] pos) (tCall sp dvs E0 t) := by
  obtain ⟨f, fd, ds, hm, hk, F, b, hd, _⟩ := C.ex
  exact pe_call F hr hg hm hk b hd pass0 ha hdb he hpl
end
section
variable {P : Program} {w : World} {K : PySem.W.Frag} {mg : Str → Option Value} {base : Heap} {x qual : Str} {params : Arguments} {body : List Stmt} {scope : Scope} {f : Addr} {fd : FuncData} {N ps : List Str} {k : Nat} {sp : Sp}
theorem ok_mk {dvs : List V} {kws : List (Str × V)} (F : FunD K x qual params body scope dvs kws f fd) (S : FnScope N ps scope) (len : ∀ vs H Q E, sp vs H Q E → vs.length = ps.length)
    (hb : ∀ (cdv : Value) (A : Around) (outer : List PySem.Env) (s : Shared) (H : Hp) (vs : List V) (Q : VK) (E : XK), Room k (A.deeper (envOfC qual scope s.heap.objs.size f cdv)) → sp vs H Q E →
      ∃ t, PSs (cxOf CX0 P w K mg base N qual scope f cdv A outer s H E).nox body t ∧ t { nx := fun _ H' => Q .non H', rt := Q } (L2.start N vs) H) : FnOk P w K mg base CX0 (k + 1) f fd ps sp := by
  refine F.ok S len fun cdv A outer s H vs Q E hr hsp => ?_
  obtain ⟨t, h, q⟩ := hb cdv A outer s H vs Q E hr hsp
  exact ⟨t, h.nox, q⟩
theorem fd_at {dvs : List V} {kws : List (Str × V)} (F : FunD K x qual params body scope dvs kws f fd) : ∃ oc od osl, K.lookup f = some ⟨oc, od, .func fd, osl⟩ := by
  obtain ⟨oc, od, dV, kV, doc, pm, an, cdv, ct, osl, _, lk, _⟩ := F.ex
  exact ⟨oc, od, osl, lk⟩
/-- a def without defaults -/
theorem cal_mk (F : ∃ fd, FunD K x qual params body scope [] [] f fd) (hm : mg x = some (.ref f)) (S : FnScope N ps scope) (len : ∀ vs H Q E, sp vs H Q E → vs.length = ps.length)
    (hbi : ∀ (kV doc pm : Value) (an : Option Addr) (cdv ct : Value) (us : List Value), us.length = ps.length → bindArgs (PySem.W.fnOf x qual params body scope .none kV doc pm an cdv ct) ⟨us, []⟩ = pure (ps.zip us))
    (hb : ∀ (cdv : Value) (A : Around) (outer : List PySem.Env) (s : Shared) (H : Hp) (vs : List V) (Q : VK) (E : XK), Room k (A.deeper (envOfC qual scope s.heap.objs.size f cdv)) → sp vs H Q E →
      ∃ t, PSs (cxOf CX0 P w K mg base N qual scope f cdv A outer s H E).nox body t ∧ t { nx := fun _ H' => Q .non H', rt := Q } (L2.start N vs) H) : Cal P w K mg base (k + 1) x ps sp := by
  obtain ⟨fd, F⟩ := F
  exact ⟨⟨f, fd, [], hm, F.kp, ok_mk F S len hb, F.bindsN hbi, .nil, fd_at F⟩⟩
/-- a def with defaults, all parameters written -/
theorem cal_mkD {dvs : List V} (F : ∃ fd, FunD K x qual params body scope dvs [] f fd) (hm : mg x = some (.ref f)) (S : FnScope N ps scope) (len : ∀ vs H Q E, sp vs H Q E → vs.length = ps.length) (hd : dvs ≠ [])
    (hbi : ∀ (T : Addr) (kV doc pm : Value) (an : Option Addr) (cdv ct : Value) (us its : List Value), us.length = ps.length → its.length = dvs.length →
      ∃ k, bindArgs (PySem.W.fnOf x qual params body scope (.ref T) kV doc pm an cdv ct) ⟨us, []⟩ = seqItems? (.ref T) >>= k ∧ k (some its.toArray) = pure (ps.zip (us ++ its.drop dvs.length)))
    (hb : ∀ (cdv : Value) (A : Around) (outer : List PySem.Env) (s : Shared) (H : Hp) (vs : List V) (Q : VK) (E : XK), Room k (A.deeper (envOfC qual scope s.heap.objs.size f cdv)) → sp vs H Q E →
      ∃ t, PSs (cxOf CX0 P w K mg base N qual scope f cdv A outer s H E).nox body t ∧ t { nx := fun _ H' => Q .non H', rt := Q } (L2.start N vs) H) : Cal P w K mg base (k + 1) x ps sp := by
  obtain ⟨fd, F⟩ := F
  obtain ⟨ds, r, b⟩ := F.binds1 (ps := ps) ps.length dvs.length hd (by omega) hbi
  rw [List.drop_length] at r
  exact ⟨⟨f, fd, ds, hm, F.kp, ok_mk F S len hb, b, r, fd_at F⟩⟩
end

/-! ### keywords alone -/
def tCallK0 (sp : Sp) (m : Nat) (gV : List V → List V) (E : XK) (tk : TA) : TE := fun σ H Q => tk σ H fun zs H1 => zs.length = m ∧ sp (gV zs) H1 Q E
/-- how a call with keywords alone binds -/
structure CalK (P : Program) (w : World) (K : PySem.W.Frag) (mg : Str → Option Value) (base : Heap) (k : Nat) (x : Str) (ps ks : List Str) (sp : Sp) (gV : List V → List V) : Prop where
  ex : ∃ (f : Addr) (fd : FuncData) (g : List Value → List Value → List Value) (gv : List V → List V → List V), mg x = some (.ref f) ∧ PySem.W.keepIn K (.ref f) = true ∧ FnOk P w K mg base CX0 k f fd ps sp ∧ KBn K fd ps 0 ks g gv ∧ ∀ zs, gv [] zs = gV zs
/-- keywords bind in a def without defaults -/
theorem kb0 {K : PySem.W.Frag} {x qual : Str} {params : Arguments} {body : List Stmt} {scope : Scope} {f : Addr} {fd : FuncData} {ps : List Str} (F : FunD K x qual params body scope [] [] f fd) (n : Nat) (ks : List Str) (g : {α : Type} → List α → List α → List α)
    (hrel : ∀ {vs zs : List V} {us ws : List Value}, Vals vs us → Vals zs ws → Vals (g vs zs) (g us ws))
    (h : ∀ (kV doc pm : Value) (an : Option Addr) (cdv ct : Value) (us ws : List Value), us.length = n → ws.length = ks.length → bindArgs (PySem.W.fnOf x qual params body scope .none kV doc pm an cdv ct) ⟨us, ks.zip ws⟩ = pure (ps.zip (g us ws))) :
    KBn K fd ps n ks (fun us ws => g us ws) (fun vs zs => g vs zs) := by
  obtain ⟨oc, od, dV, kV, doc, pm, an, cdv, ct, osl, rfl, lk, hcd, hD, hK⟩ := F.ex
  rcases hD with ⟨_, rfl⟩ | ⟨e, _⟩
  · exact ⟨fun s us ws X l1 l2 => .of_eq (h kV doc pm an cdv ct us ws l1 l2), hrel⟩
  · exact absurd rfl e
theorem calK_of {P : Program} {w : World} {K : PySem.W.Frag} {mg : Str → Option Value} {base : Heap} {k : Nat} {x qual : Str} {params : Arguments} {body : List Stmt} {scope : Scope} {f : Addr} {ps ks : List Str} {sp : Sp} {gV : List V → List V}
    (C : Cal P w K mg base k x ps sp) (F : ∃ fd, FunD K x qual params body scope [] [] f fd) (hm : mg x = some (.ref f)) (g : {α : Type} → List α → List α → List α)
    (hrel : ∀ {vs zs : List V} {us ws : List Value}, Vals vs us → Vals zs ws → Vals (g vs zs) (g us ws))
    (h : ∀ (kV doc pm : Value) (an : Option Addr) (cdv ct : Value) (us ws : List Value), us.length = 0 → ws.length = ks.length → bindArgs (PySem.W.fnOf x qual params body scope .none kV doc pm an cdv ct) ⟨us, ks.zip ws⟩ = pure (ps.zip (g us ws)))
    (hg : ∀ zs : List V, g [] zs = gV zs) : CalK P w K mg base k x ps ks sp gV := by
  obtain ⟨fd, F⟩ := F
  obtain ⟨f', fd', ds, hm', hk, Fo, b, hd, oc, od, osl, lk⟩ := C.ex
  rw [hm] at hm'
  cases hm'
  obtain ⟨oc2, od2, osl2, lk2⟩ := fd_at F
  rw [lk] at lk2
  cases lk2
  exact ⟨⟨f, fd, _, _, hm, hk, Fo, kb0 F 0 ks g hrel h, hg⟩⟩
section
variable {X : Cx} {k : Nat} {x : Str} {ps ks : List Str} {sp : Sp} {p pos : Pos} {kws : List Keyword} {tk : TA} {gV : List V → List V}
theorem pe_calK (C : CalK X.prog X.w X.K X.mg X.base k x ps ks sp gV) (hr : Room k X.A) (hkw : PK X kws tk) (hg : Gl X x := by rfl) (hall : (backToKw pos (keywordEach kws X.env)).all (·.1.isSome) = true := by rfl) (hks : (backToKw pos (keywordEach kws X.env)).filterMap (·.1) = ks := by rfl)
    (hdb : (x == ("__debug__" : Str)) = false := by decide) (hpl : ((backTo pos (starEach [] X.env)).any (·.1) || (backToKw pos (keywordEach kws X.env)).any (·.1.isNone)) = false := by rfl) :
    PE X (.Call (.Name x p) [] kws pos) (tCallK0 sp ks.length gV E0 tk) := by
  obtain ⟨f, fd, g, gv, hm, hk, F, b, eg⟩ := C.ex
  refine ⟨fun pins s σ H Q I h => ?_⟩
  refine wpAny_Call_Name_kw (ld_glob I hg hm ?_ hdb)
  refine PySem.W.callWith_KW0 (h₀ := X.base) I.ok.mod.kin hk hall ?_ hpl
  refine thn (hkw.run pos pins s σ H _ I h) fun ws s2 ⟨zs, H2, I2, rz, l2, q2⟩ => ⟨I2.kIn, ?_⟩
  rw [hks]
  exact run_fnN (us := []) (vs := []) F hr b pass0 I2 .nil rz rfl l2 (by rw [eg]; exact q2)
end
/-! ### own classes -/
structure Mak (P : Program) (w : World) (K : PySem.W.Frag) (mg : Str → Option Value) (base : Heap) (k : Nat) (x : Str) (C : Addr) (fs : List Str) : Prop where
  ex : ∃ (f : Addr) (fd : FuncData) (ps : List Str), mg x = some (.ref C) ∧ Mk K C f ∧ FnOk P w K mg base CX0 k f fd ps (spInit C fs) ∧ Binds K fd ps []
structure MakK (P : Program) (w : World) (K : PySem.W.Frag) (mg : Str → Option Value) (base : Heap) (k : Nat) (x : Str) (C : Addr) (fs ks : List Str) (gV : List V → List V → List V) : Prop where
  ex : ∃ (f : Addr) (fd : FuncData) (ps : List Str) (g : List Value → List Value → List Value), mg x = some (.ref C) ∧ Mk K C f ∧ FnOk P w K mg base CX0 k f fd ps (spInit C fs) ∧ KBn K fd ps 1 ks g gV
section
variable {X : Cx} {k : Nat} {x : Str} {C : Addr} {fs : List Str} {p pos : Pos} {e : Expr} {es : List Expr} {t : TA}
theorem pe_mk (M : Mak X.prog X.w X.K X.mg X.base k x C fs) (hr : Room (k + 1) X.A) (ha : PA X (e :: es) t) (hg : Gl X x := by rfl) (hdb : (x == ("__debug__" : Str)) = false := by decide)
    (he : starEach (e :: es) X.env = (false, eval e X.env) :: starEach es X.env := by rfl) (hpl : (backTo pos (starEach es X.env)).any (·.1) = false := by rfl) : PE X (.Call (.Name x p) (e :: es) [] pos) (tMake C (spInit C fs) [] E0 t) := by
  obtain ⟨f, fd, ps, hm, M, F, b⟩ := M.ex
  exact pe_make M F hr hg hm b .nil pass0 ha hdb he hpl
end
/-- __init__ of a record of two fields -/
theorem init2 {K : PySem.W.Frag} {C : Addr} {f1 f2 : Str} {N : List Str} {vs : List V} {H1 : Hp} {Q : VK} {E : XK} (h : spInit C [f1, f2] vs H1 Q E) (hN : N.length = 3) (cl : Cls K C) (n1 : NoAttr K C f1) (n2 : NoAttr K C f2) (hne : ¬ f1 = f2) :
    (tSeq (sFld K (tVar 0) (tVar 1) f1) (sFld K (tVar 0) (tVar 2) f2)) { nx := fun _ H' => Q .non H', rt := Q } (L2.start N vs) H1 := by
  obtain ⟨x, dx, ws, rfl, hl, hx, q⟩ := h
  match ws, hl with
  | [v1, v2], _ =>
    refine ⟨v1, rfl, .ref x, rfl, x, C, dx, [], rfl, hx, cl, n1, by decide, ?_⟩
    refine ⟨v2, rfl, .ref x, rfl, x, C, dx, [(f1, v1)], rfl, upd_same, cl, n2, by show 1 < 1000; decide, ?_⟩
    rw [upd_upd]
    have e : putF f2 v2 [(f1, v1)] = [(f1, v1), (f2, v2)] := by
      show (if f1 = f2 then _ else _) = _
      rw [if_neg hne]
      rfl
    rw [e]
    exact q
/-- a new instance by keywords alone -/
def tMakeK0 (C : Addr) (m : Nat) (sp : Sp) (gV : List V → List V → List V) (E : XK) (tk : TA) : TE := fun σ H Q => tk σ H fun zs H2 => zs.length = m ∧
  ∀ x dx, H2 x = none → H2 dx = none → dx ≠ x → sp (gV [.ref x] zs) (upd (upd H2 dx (.own x)) x (.ins C dx [])) (fun v H3 => v = .non ∧ Q (.ref x) H3) E
theorem pe_makeK0 {X : Cx} {k : Nat} {x : Str} {ps ks : List Str} {sp : Sp} {p pos : Pos} {kws : List Keyword} {tk : TA} {C f : Addr} {fd : FuncData} {g : List Value → List Value → List Value} {gV : List V → List V → List V} (M : Mk X.K C f) (F : FnOk X.prog X.w X.K X.mg X.base CX0 k f fd ps sp) (hr : Room (k + 1) X.A) (hm : X.mg x = some (.ref C)) (hb : KBn X.K fd ps 1 ks g gV)
    (hkw : PK X kws tk) (hg : Gl X x := by rfl) (hall : (backToKw pos (keywordEach kws X.env)).all (·.1.isSome) = true := by rfl) (hks : (backToKw pos (keywordEach kws X.env)).filterMap (·.1) = ks := by rfl)
    (hdb : (x == ("__debug__" : Str)) = false := by decide) (hpl : ((backTo pos (starEach [] X.env)).any (·.1) || (backToKw pos (keywordEach kws X.env)).any (·.1.isNone)) = false := by rfl) :
    PE X (.Call (.Name x p) [] kws pos) (tMakeK0 C ks.length sp gV E0 tk) := by
  refine ⟨fun pins s σ H Q I h => ?_⟩
  refine wpAny_Call_Name_kw (ld_glob I hg hm ?_ hdb)
  refine PySem.W.callWith_KW0 (h₀ := X.base) I.ok.mod.kin M.kp hall ?_ hpl
  refine thn (hkw.run pos pins s σ H _ I h) fun ws s2 ⟨zs, H2, I2, rz, l2, q2⟩ => ⟨I2.kIn, ?_⟩
  rw [hks]
  exact run_makeN (n := 0) (us := []) (vs := []) M F hr hb pass0 I2 .nil rz rfl l2 q2
section
variable {X : Cx} {k : Nat} {x : Str} {C : Addr} {fs ks : List Str} {p pos : Pos} {kws : List Keyword} {tk : TA} {gV : List V → List V → List V}
theorem pe_mkK (M : MakK X.prog X.w X.K X.mg X.base k x C fs ks gV) (hr : Room (k + 1) X.A) (hkw : PK X kws tk) (hg : Gl X x := by rfl) (hall : (backToKw pos (keywordEach kws X.env)).all (·.1.isSome) = true := by rfl) (hks : (backToKw pos (keywordEach kws X.env)).filterMap (·.1) = ks := by rfl)
    (hdb : (x == ("__debug__" : Str)) = false := by decide) (hpl : ((backTo pos (starEach [] X.env)).any (·.1) || (backToKw pos (keywordEach kws X.env)).any (·.1.isNone)) = false := by rfl) :
    PE X (.Call (.Name x p) [] kws pos) (tMakeK0 C ks.length (spInit C fs) gV E0 tk) := by
  obtain ⟨f, fd, ps, g, hm, M, F, b⟩ := M.ex
  exact pe_makeK0 M F hr hm b hkw hg hall hks hdb hpl
end
section
variable {K : PySem.W.Frag} {η : Env} {d : D} {as bs ds : List D}
theorem ed_callK0 {α : Type} {enc : α → List D} {pre : α → Prop} {out : α → Ret} {E : XK} {tk : TA} {m : Nat} {gV : List V → List V} (x : α) (hb : EvA K tk η bs) (hm : bs.length = m) (hg : ∀ H zs, Rps K H zs bs → Rps K H (gV zs) (enc x)) (hp : pre x) (ho : out x = .sh d) :
    EvD K (tCallK0 (spT K enc pre out) m gV E tk) η d := fun H σ H1 er e Q q =>
  hb H σ H1 er e _ fun zs Hk H3 g2 rz => ⟨rz.length.trans hm, Hk, x, g2.inn, hg Hk zs rz, hp, fun v H4 o => by
    rw [ho] at o
    obtain ⟨Hm, g3, r⟩ := o
    exact q v Hm H4 (g2.trans g3) r⟩
theorem ed_makeK0 {C : Addr} {fs : List Str} {E : XK} {tk : TA} {gV : List V → List V → List V} {m : Nat} (hb : EvA K tk η bs) (hm : bs.length = m) (hg : ∀ (y : V) H zs, Rps K H zs bs → ∃ ws, gV [y] zs = y :: ws ∧ Rps K H ws as) (hl : as.length = fs.length) :
    EvD K (tMakeK0 C m (spInit C fs) gV E tk) η (.ins C fs as) := fun H σ H1 er e Q q =>
  hb H σ H1 er e _ fun zs Hn H2 g rz => ⟨rz.length.trans hm, fun x dx hx hdx hne => by
    obtain ⟨ws, eg, rs⟩ := hg (.ref x) Hn zs rz
    rw [eg]
    refine ⟨x, dx, ws, rfl, rs.length.trans hl, upd_same, rfl, ?_⟩
    rw [upd_upd]
    have g1 := g.made (o := .own x) hdx
    have hx1 : (upd H2 dx (.own x)) x = none := by rw [upd_ne (Ne.symm hne)]; exact hx
    have g2 := g1.made (o := .ins C dx (fs.zip ws)) hx1
    exact q (.ref x) _ _ g2 (rp_ins upd_same (rs.length.trans hl) (rs.mono (((Ex.refl Hn).mut (g.inn.back hdx)).mut (g.inn.back hx))))⟩
end

/-! ### further built-in functions -/
section
variable {X : Cx}
theorem call_min3 (hc : X.calm = true) : CallR X (.builtin "min") (fun xs H Q => ∃ i j k, xs = [.int i, .int j, .int k] ∧ Q (.int (min (min i j) k)) H) := by
  intro pins s σ H xs us Q I r h
  obtain ⟨i, j, k, rfl, q⟩ := h
  obtain ⟨t1, t2, t3, rfl⟩ : ∃ t1 t2 t3, us = [.int i t1, .int j t2, .int k t3] := by
    cases r with
    | cons r1 r =>
      cases r with
      | cons r2 r =>
        cases r with
        | cons r3 r =>
          cases r
          obtain ⟨t1, rfl⟩ := r1
          obtain ⟨t2, rfl⟩ := r2
          obtain ⟨t3, rfl⟩ := r3
          exact ⟨t1, t2, t3, rfl⟩
  refine min_three_ints (I.ok.hd hc) fun h' tk k' => ⟨_, H, I.kept k', ?_, q⟩
  by_cases hj : j < i
  · rw [if_pos hj]
    by_cases hk : k < j
    · rw [if_pos hk]; exact ⟨_, by congr 1; omega⟩
    · rw [if_neg hk]; exact ⟨_, by congr 1; omega⟩
  · rw [if_neg hj]
    by_cases hk : k < i
    · rw [if_pos hk]; exact ⟨_, by congr 1; omega⟩
    · rw [if_neg hk]; exact ⟨_, by congr 1; omega⟩
/-- ** with a great base -/
def CPowW (i j : Int) : Prop := 0 ≤ j ∧ (Builtin.Int.intBits i : Int) * j ≤ 2 ^ 27
theorem op_powW : OpR X (binaryOp .Pow) (rI CPowW fun i j => .int (i ^ j.toNat)) := opI fun _ _ _ _ _ _ _ hc q => pow_int hc.1 hc.2 q
/-- math.lcm of two numbers below 2 ^ 13000 -/
def rLcm : List V → Hp → VK → Prop := fun vs H Q => ∃ a b : Int, vs = [.int a, .int b] ∧ a.natAbs < 2 ^ 13000 ∧ b.natAbs < 2 ^ 13000 ∧ Q (.int ((Nat.lcm a.natAbs b.natAbs : Nat) : Int)) H
theorem cr_lcm : CallR X (.builtin "math.lcm") rLcm := by
  intro pins s σ H vs us Q I r h
  obtain ⟨a, b, rfl, ha, hb, q⟩ := h
  obtain ⟨t, u, rfl⟩ := Vals.int2 r
  have lg : ∀ n : Nat, n < 2 ^ 13000 → n.log2 < 13000 := fun n hn => by
    by_cases h0 : n = 0
    · subst h0; rw [Nat.log2_zero]; decide
    · exact (Nat.log2_lt h0).mpr hn
  have e1 : Nat.lcm 1 a.natAbs = a.natAbs := Nat.lcm_one_left _
  have h1 : ¬(max 1 a.natAbs).log2 / 30 + 1 > 450 := by
    have := lg (max 1 a.natAbs) (by have : (1 : Nat) < 2 ^ 13000 := Nat.one_lt_two_pow (by decide); omega)
    omega
  have h2 : ¬(max a.natAbs b.natAbs).log2 / 30 + 1 > 450 := by
    have := lg (max a.natAbs b.natAbs) (by omega)
    omega
  have hsz : (((((Nat.lcm 1 a.natAbs).lcm b.natAbs : Nat) : Int))).natAbs.log2 < bitsLine := by
    rw [e1, Int.natAbs_natCast, PySem.bitsLine_eq]
    have hle : Nat.lcm a.natAbs b.natAbs ≤ a.natAbs * b.natAbs := by
      unfold Nat.lcm
      exact Nat.div_le_self _ _
    have hlt : Nat.lcm a.natAbs b.natAbs < 2 ^ 26000 := by
      refine Nat.lt_of_le_of_lt hle ?_
      rw [show (26000 : Nat) = 13000 + 13000 from rfl, Nat.pow_add]
      exact Nat.mul_lt_mul'' ha hb
    by_cases h0 : Nat.lcm a.natAbs b.natAbs = 0
    · rw [h0, Nat.log2_zero]; decide
    · have := (Nat.log2_lt h0).mpr hlt
      omega
  have g := PySem.W.mg_run_lcm a t b u h1 h2 hsz
  rw [e1] at g
  exact PySem.call_function_meets PySem.W.MGF.kind_lcm PySem.W.MGF.plain_lcm PySem.W.MGF.entry_lcm (PySem.W.MGF.args_lcm _ _) g.meets ⟨.int _, H, I.tok _, ⟨_, rfl⟩, q⟩
end
section
variable {K : PySem.W.Frag} {i j k : Int}
theorem cd_min3 : CbD K (fun xs H Q => ∃ i j k, xs = [.int i, .int j, .int k] ∧ Q (.int (min (min i j) k)) H) [.int i, .int j, .int k] (.int (min (min i j) k)) := fun xs H H1 rx e Q q => by
  cases rx with
  | cons r1 t =>
    cases t with
    | cons r2 t =>
      cases t with
      | cons r3 t =>
        cases t
        cases r1; cases r2; cases r3
        exact ⟨i, j, k, rfl, q _ H H1 (Gr.refl e) (.int _)⟩
theorem cd_lcm (ha : i.natAbs < 2 ^ 13000) (hb : j.natAbs < 2 ^ 13000) : CbD K rLcm [.int i, .int j] (.int ((Nat.lcm i.natAbs j.natAbs : Nat) : Int)) := fun xs H H1 rx e Q q => by
  cases rx with
  | cons r1 t =>
    cases t with
    | cons r2 t =>
      cases t
      cases r1; cases r2
      exact ⟨i, j, rfl, ha, hb, q _ H H1 (Gr.refl e) (.int _)⟩
end
section
variable {K : PySem.W.Frag} {η : Env} {t u : TT} {ta tb : TE} {y : Bool}
theorem et_orF (h1 : EvT K t η false) (h2 : EvT K u η y) : EvT K (tOr t u) η y := EvT.is (et_or h1 fun _ => h2) (Bool.false_or y)
theorem et_orT (h1 : EvT K t η true) : EvT K (tOr t u) η true := EvT.is (et_or (y := true) h1 fun z => by cases z) rfl
theorem et_andT (h1 : EvT K t η true) (h2 : EvT K u η y) : EvT K (tAnd t u) η y := EvT.is (et_and h1 fun _ => h2) (Bool.true_and y)
theorem et_andF (h1 : EvT K t η false) : EvT K (tAnd t u) η false := EvT.is (et_and (y := true) h1 fun z => by cases z) rfl
theorem ed_orF (h1 : EvD K ta η (.bl false)) (h2 : EvD K tb η (.bl y)) : EvD K (tOrV ta tb) η (.bl y) := EvD.is (ed_orV h1 fun _ => h2) (by rw [Bool.false_or])
theorem ed_andT (h1 : EvD K ta η (.bl true)) (h2 : EvD K tb η (.bl y)) : EvD K (tAndV ta tb) η (.bl y) := EvD.is (ed_andV h1 fun _ => h2) (by rw [Bool.true_and])
end
/-! isinstance of built-in kinds -/
theorem kb_NoneType_int : kitB "NoneType" "int" = some false := by decide +kernel
theorem kb_NoneType_bool : kitB "NoneType" "bool" = some false := by decide +kernel
theorem kb_NoneType_tuple : kitB "NoneType" "tuple" = some false := by decide +kernel
theorem kb_NoneType_list : kitB "NoneType" "list" = some false := by decide +kernel
theorem kb_NoneType_str : kitB "NoneType" "str" = some false := by decide +kernel
theorem kb_NoneType_dict : kitB "NoneType" "dict" = some false := by decide +kernel
theorem kb_bool_int : kitB "bool" "int" = some true := by decide +kernel
theorem kb_bool_bool : kitB "bool" "bool" = some true := by decide +kernel
theorem kb_bool_tuple : kitB "bool" "tuple" = some false := by decide +kernel
theorem kb_bool_list : kitB "bool" "list" = some false := by decide +kernel
theorem kb_bool_str : kitB "bool" "str" = some false := by decide +kernel
theorem kb_bool_dict : kitB "bool" "dict" = some false := by decide +kernel
theorem kb_int_int : kitB "int" "int" = some true := by decide +kernel
theorem kb_int_bool : kitB "int" "bool" = some false := by decide +kernel
theorem kb_int_tuple : kitB "int" "tuple" = some false := by decide +kernel
theorem kb_int_list : kitB "int" "list" = some false := by decide +kernel
theorem kb_int_str : kitB "int" "str" = some false := by decide +kernel
theorem kb_int_dict : kitB "int" "dict" = some false := by decide +kernel
theorem kb_str_int : kitB "str" "int" = some false := by decide +kernel
theorem kb_str_bool : kitB "str" "bool" = some false := by decide +kernel
theorem kb_str_tuple : kitB "str" "tuple" = some false := by decide +kernel
theorem kb_str_list : kitB "str" "list" = some false := by decide +kernel
theorem kb_str_str : kitB "str" "str" = some true := by decide +kernel
theorem kb_str_dict : kitB "str" "dict" = some false := by decide +kernel
theorem kb_list_int : kitB "list" "int" = some false := by decide +kernel
theorem kb_list_bool : kitB "list" "bool" = some false := by decide +kernel
theorem kb_list_tuple : kitB "list" "tuple" = some false := by decide +kernel
theorem kb_list_list : kitB "list" "list" = some true := by decide +kernel
theorem kb_list_str : kitB "list" "str" = some false := by decide +kernel
theorem kb_list_dict : kitB "list" "dict" = some false := by decide +kernel
theorem kb_tuple_int : kitB "tuple" "int" = some false := by decide +kernel
theorem kb_tuple_bool : kitB "tuple" "bool" = some false := by decide +kernel
theorem kb_tuple_tuple : kitB "tuple" "tuple" = some true := by decide +kernel
theorem kb_tuple_list : kitB "tuple" "list" = some false := by decide +kernel
theorem kb_tuple_str : kitB "tuple" "str" = some false := by decide +kernel
theorem kb_tuple_dict : kitB "tuple" "dict" = some false := by decide +kernel
theorem kb_dict_int : kitB "dict" "int" = some false := by decide +kernel
theorem kb_dict_bool : kitB "dict" "bool" = some false := by decide +kernel
theorem kb_dict_tuple : kitB "dict" "tuple" = some false := by decide +kernel
theorem kb_dict_list : kitB "dict" "list" = some false := by decide +kernel
theorem kb_dict_str : kitB "dict" "str" = some false := by decide +kernel
theorem kb_dict_dict : kitB "dict" "dict" = some true := by decide +kernel

/-! the frag written out, for places within comprehensions -/
section
variable {X : Cx} {K : PySem.W.Frag} {tg : Expr} {l e : Expr} {es : List Expr} {tl ta : TE} {f : Str} {pos : Pos} {t : TGs} {k n : Nat}
theorem ix_seqC (h : X.K = K) : IxR X (rIx K) := by subst h; exact ix_seq
theorem sl_listC (h : X.K = K) : L2.SlR X (rSlL K) := by subst h; exact sl_list
theorem pi_listC {l : Expr} (h : X.K = K) (hl : PE X l tl) : PI X tg l (iList K tl) := by subst h; exact pi_list hl
theorem pi_tupC {l : Expr} (h : X.K = K) (hl : PE X l tl) : PI X tg l (iTup K tl) := by subst h; exact pi_tup hl
theorem call_isiC (h : X.K = K) : CallR X (.builtin "isinstance") (rIsi K) := by subst h; exact call_isi
theorem cr_sumC (h : X.K = K) (hc : X.calm = true) : CallR X (.builtin "sum") (rSum K) := by subst h; exact cr_sum hc
theorem op_eqDC (h : X.K = K) (hu : X.A.units + 64 < cLine) : OpR X (compareOp .Eq) (rEqD K) := by subst h; exact op_eqD hu
theorem op_neDC (h : X.K = K) (hu : X.A.units + 64 < cLine) : OpR X (compareOp .NotEq) (rNeD K) := by subst h; exact op_neD hu
theorem call_len_seqC (h : X.K = K) : CallR X (.builtin "len") (fun xs H Q => ∃ p ys, xs = [.ref p] ∧ (SqL K H p ys ∨ SqT K H p ys) ∧ Q (.int ys.length) H) := by subst h; exact call_len_seq
theorem call_list_ofC (h : X.K = K) : CallR X (.type "list") (fun xs H Q => ∃ p ys, xs = [.ref p] ∧ (SqL K H p ys ∨ SqT K H p ys) ∧ ∀ l, H l = none → Q (.ref l) (upd H l (.lst ys))) := by subst h; exact call_list_of
theorem call_tuple_ofC (h : X.K = K) : CallR X (.type "tuple") (fun xs H Q => ∃ p ys, xs = [.ref p] ∧ ((SqL K H p ys ∧ ∀ l, H l = none → Q (.ref l) (upd H l (.tup ys))) ∨ (SqT K H p ys ∧ Q (.ref p) H))) := by subst h; exact call_tuple_of
theorem pe_fldC (h : X.K = K) (he : PE X e ta) (hb : attributeBase e f X.env (eval e X.env) = eval e X.env) : PE X (.Attribute e f pos) (tFld K ta f) := by subst h; exact pe_fld he hb
end
/-- isinstance of an own instance and its class -/
theorem ed_isiI {K : PySem.W.Frag} {η : Env} {C : Addr} {ns : List Str} {ds : List D} {ta : TE} (ha : EvD K ta η (.ins C ns ds)) (c : C8.InsC K C) : EvD K (tCB (rIsi K) (tCons ta (tCons (tC (.ref C)) tNil))) η (.bl true) :=
  ed_cls ha fun v H H1 rv e Q q => by
    cases rv with
    | ins h r => exact ⟨_, .ref C, .ref C, .ref C, true, rfl, .own C, .base (.ins (e _ _ h) c.cl c.ha c.hn c.htk c.hm), c.me, q⟩
/-- a list or a tuple of numbers -/
def seqD (k : Bool) (ds : List D) : D := if k then .tup ds else .lst ds
theorem seqD_items {k : Bool} {ds : List D} : itemsOf (seqD k ds) = some ds := by cases k <;> rfl
end DL

set_option Elab.async false
set_option linter.all false
set_option maxRecDepth 100000
set_option maxHeartbeats 4000000
/-! DL5: own lists of own lists; values without lists; dicts read; further statements. -/
namespace DL
open PySem PySem.Spec PyProof.Rows L2

/-! ### cells -/
theorem inner_fst : ∀ {qs : List Addr} {vss : List (List V)}, vss.length = qs.length → (inner qs vss).map Prod.fst = qs
  | [], [], _ => rfl
  | [], _ :: _, h => by simp at h
  | _ :: _, [], h => by simp at h
  | q :: qs, v :: vss, h => by
    show q :: (inner qs vss).map Prod.fst = _
    rw [inner_fst (by simpa using h)]
theorem inner_snoc : ∀ {qs : List Addr} {vss : List (List V)} {q : Addr} {vs : List V}, vss.length = qs.length → inner (qs ++ [q]) (vss ++ [vs]) = inner qs vss ++ [(q, .lst vs)]
  | [], [], _, _, _ => rfl
  | [], _ :: _, _, _, h => by simp at h
  | _ :: _, [], _, _, h => by simp at h
  | q :: qs, v :: vss, _, _, h => by
    show _ :: inner (qs ++ _) (vss ++ _) = _ :: (inner qs vss ++ _)
    rw [inner_snoc (by simpa using h)]
theorem inner_get : ∀ {qs : List Addr} {vss : List (List V)} {k : Nat} {q : Addr} {vs : List V}, qs[k]? = some q → vss[k]? = some vs → (q, HO.lst vs) ∈ inner qs vss
  | q :: qs, v :: vss, 0, _, _, h1, h2 => by cases h1; cases h2; exact List.mem_cons_self
  | q :: qs, v :: vss, k + 1, _, _, h1, h2 => List.mem_cons_of_mem _ (inner_get (qs := qs) (vss := vss) h1 h2)
  | [], _, _, _, _, h1, _ => by simp at h1
  | _ :: _, [], _, _, _, _, h2 => by simp at h2
theorem inner_set : ∀ {qs : List Addr} {vss : List (List V)} {k : Nat} {q : Addr} {vs : List V} {c : Cell}, c ∈ inner (qs.set k q) (vss.set k vs) → c = (q, .lst vs) ∨ (c ∈ inner qs vss ∧ (∀ q0, qs[k]? = some q0 → (qs.Nodup → vss.length = qs.length → c.1 ≠ q0)))
  | q :: qs, v :: vss, 0, _, _, c, h => by
    rcases List.mem_cons.mp (show c ∈ _ :: inner qs vss from h) with h | h
    · exact .inl h
    · refine .inr ⟨List.mem_cons_of_mem _ h, fun q0 e nd hl z => ?_⟩
      cases e
      have : c.1 ∈ (inner qs vss).map Prod.fst := List.mem_map_of_mem h
      rw [inner_fst (by simpa using hl), z] at this
      exact (List.nodup_cons.mp nd).1 this
  | q :: qs, v :: vss, k + 1, q', vs', c, h => by
    rcases List.mem_cons.mp (show c ∈ (q, HO.lst v) :: inner (qs.set k q') (vss.set k vs') from h) with h | h
    · refine .inr ⟨by rw [h]; exact List.mem_cons_self, fun q0 e nd hl z => ?_⟩
      rw [h] at z
      exact (List.nodup_cons.mp nd).1 (by rw [show q = q0 from z]; exact List.mem_of_getElem? e)
    · rcases inner_set (qs := qs) (vss := vss) h with h | ⟨h, h2⟩
      · exact .inl h
      · exact .inr ⟨List.mem_cons_of_mem _ h, fun q0 e nd hl => h2 q0 e (List.nodup_cons.mp nd).2 (by simpa using hl)⟩
  | [], vss, _, _, _, c, h => by
    cases (show c ∈ ([] : List Cell) from by unfold inner at h; simpa using h)
  | _ :: _, [], _, _, _, c, h => by
    cases (show c ∈ ([] : List Cell) from by unfold inner at h; simpa using h)
theorem nodup_set {α : Type} : ∀ {l : List α} {k : Nat} {x : α}, l.Nodup → x ∉ l → (l.set k x).Nodup
  | [], _, _, h, _ => h
  | y :: l, 0, x, h, hx => List.nodup_cons.mpr ⟨fun z => hx (List.mem_cons_of_mem _ z), (List.nodup_cons.mp h).2⟩
  | y :: l, k + 1, x, h, hx => by
    refine List.nodup_cons.mpr ⟨fun z => ?_, nodup_set (List.nodup_cons.mp h).2 fun z => hx (List.mem_cons_of_mem _ z)⟩
    rcases List.mem_or_eq_of_mem_set z with z | z
    · exact (List.nodup_cons.mp h).1 z
    · exact hx (by rw [z]; exact List.mem_cons_self)
theorem rpss_get {K : PySem.W.Frag} {H : Hp} : ∀ {vss : List (List V)} {dss : List (List D)} {k : Nat} {ds : List D}, Rpss K H vss dss → dss[k]? = some ds → ∃ vs, vss[k]? = some vs ∧ Rps K H vs ds
  | _, _, 0, _, .cons r _, e => by cases e; exact ⟨_, rfl, r⟩
  | _, _, k + 1, _, .cons _ t, e => rpss_get (k := k) t e
  | _, _, _, _, .nil, e => by simp at e
theorem rpss_set {K : PySem.W.Frag} {H : Hp} {vs : List V} {ds : List D} (r : Rps K H vs ds) : ∀ {vss : List (List V)} {dss : List (List D)} (k : Nat), Rpss K H vss dss → Rpss K H (vss.set k vs) (dss.set k ds)
  | _, _, 0, .cons _ t => .cons r t
  | _, _, k + 1, .cons q t => .cons q (rpss_set r k t)
  | _, _, _, .nil => .nil

section
variable {K : PySem.W.Frag} {HE HE1 H H1 H' H1' Hn H2 : Hp} {σ σ' : L2.St} {ρ : List Sl} {i j m : Nat} {s : Sl} {cs : List Cell} {d : D} {ds : List D} {p q : Addr} {qs : List Addr} {dss : List (List D)}
/-- a slot's cells are written -/
theorem SS.re {css : Nat → List Cell} {s' : Sl} {cs' : List Cell} (h : SS K HE HE1 H H1 σ ρ) (hs : ∀ i s, ρ[i]? = some s → SlR K H σ i s (css i)) (o : Owns HE1 H H1 css) (hi : i < ρ.length)
    (hk : ∀ a u, H1 a = some u → (∀ c ∈ css i, c.1 ≠ a) → H1' a = some u) (hc : ∀ c ∈ cs', HE1 c.1 = none ∧ H c.1 = none ∧ H1' c.1 = some c.2 ∧ (∀ k, k ≠ i → ∀ c0 ∈ css k, c0.1 ≠ c.1)) (hn : (cs'.map Prod.fst).Nodup)
    (hs' : SlR K H σ i s' cs') : SS K HE HE1 H H1' σ (ρ.set i s') := by
  have e1 : Ex H H1' := fun a u z => hk a u (h.ex _ _ z) fun c hc0 e => by
    have := (o.at_ i c hc0).2.1
    rw [e, z] at this
    cases this
  have e2 : Ex HE1 H1' := fun a u z => hk a u (h.gr.all _ _ z) fun c hc0 e => by
    have := (o.at_ i c hc0).1
    rw [e, z] at this
    cases this
  refine ⟨⟨h.gr.kn, e1, e2, h.gr.new⟩, by simp [h.len], repl css i cs', fun k s q => ?_, ⟨fun k c' hk' => ?_, fun k => ?_, fun k m hkm c' hk' c2 hm2 => ?_⟩⟩
  · by_cases hki : k = i
    · subst hki
      rw [List.getElem?_set_self hi] at q
      cases q
      rw [repl_pos rfl]
      exact hs'
    · rw [List.getElem?_set_ne (Ne.symm hki)] at q
      rw [repl_neg hki]
      exact hs k s q
  · by_cases hki : k = i
    · rw [repl_pos hki] at hk'
      obtain ⟨a, b, c, _⟩ := hc c' hk'
      exact ⟨a, b, c⟩
    · rw [repl_neg hki] at hk'
      obtain ⟨a, b, c⟩ := o.at_ k c' hk'
      exact ⟨a, b, hk _ _ c fun c0 hc0 e => o.di i k (Ne.symm hki) c0 hc0 c' hk' e⟩
  · show ((repl css i cs' k).map Prod.fst).Nodup
    by_cases hki : k = i
    · rw [repl_pos hki]; exact hn
    · rw [repl_neg hki]; exact o.nd k
  · have old : ∀ k, k ≠ i → ∀ c ∈ css k, ∀ c' ∈ cs', c'.1 ≠ c.1 := fun k hki c hck c' hc' z => (hc c' hc').2.2.2 k hki c hck z.symm
    by_cases hki : k = i
    · have hmi : m ≠ i := fun z => hkm (hki.trans z.symm)
      rw [repl_pos hki] at hk'
      rw [repl_neg hmi] at hm2
      exact old m hmi c2 hm2 c' hk'
    · rw [repl_neg hki] at hk'
      by_cases hmi : m = i
      · rw [repl_pos hmi] at hm2
        exact fun z => old k hki c' hk' c2 hm2 z.symm
      · rw [repl_neg hmi] at hm2
        exact o.di k m hkm c' hk' c2 hm2
/-- what stands behind a slot of lists -/
theorem SS.oo_at (h : SS K HE HE1 H H1 σ ρ) (hi : ρ[i]? = some (.oo p qs dss)) : σ[i]? = some (some (.ref p)) ∧ H1 p = some (.lst (qs.map V.ref)) ∧ (p :: qs).Nodup ∧ qs.length = dss.length ∧
    ∀ (k : Nat) (q : Addr) (ds : List D), qs[k]? = some q → dss[k]? = some ds → ∃ vs, H1 q = some (.lst vs) ∧ Rps K H vs ds ∧ H q = none ∧ HE1 q = none := by
  obtain ⟨css, hs, o⟩ := h.own
  obtain ⟨vss, a, rs, hl, hc⟩ := hs i _ hi
  have hf : (css i).map Prod.fst = p :: qs := by
    rw [hc]
    show p :: (inner qs vss).map Prod.fst = _
    rw [inner_fst hl]
  refine ⟨a, (o.at_ i (p, .lst (qs.map V.ref)) (by rw [hc]; exact List.mem_cons_self)).2.2, by rw [← hf]; exact o.nd i, by rw [← hl]; exact rs.length, fun k q ds hq hd => ?_⟩
  obtain ⟨vs, h1, h2⟩ := rpss_get rs hd
  have hm : (q, HO.lst vs) ∈ css i := by rw [hc]; exact List.mem_cons_of_mem _ (inner_get hq h1)
  obtain ⟨n1, n2, n3⟩ := o.at_ i _ hm
  exact ⟨vs, n3, h2, n2, n1⟩
/-- an inner list is written -/
theorem SS.writeIn {k : Nat} (h : SS K HE HE1 H H1 σ ρ) (hi : ρ[i]? = some (.oo p qs dss)) (hq : qs[k]? = some q) (hd : dss[k]? = some ds) : ∃ vs, H1 q = some (.lst vs) ∧ Rps K H vs ds ∧
    ∀ vs' ds', Rps K H vs' ds' → SS K HE HE1 H (upd H1 q (.lst vs')) σ (ρ.set i (.oo p qs (dss.set k ds'))) := by
  obtain ⟨css, hs, o⟩ := h.own
  obtain ⟨vss, a, rs, hl, hc⟩ := hs i _ hi
  obtain ⟨vs, h1, h2⟩ := rpss_get rs hd
  have hm : (q, HO.lst vs) ∈ css i := by rw [hc]; exact List.mem_cons_of_mem _ (inner_get hq h1)
  obtain ⟨n1, n2, n3⟩ := o.at_ i _ hm
  have hf : (css i).map Prod.fst = p :: qs := by
    rw [hc]
    show p :: (inner qs vss).map Prod.fst = _
    rw [inner_fst hl]
  have nd : (p :: qs).Nodup := by rw [← hf]; exact o.nd i
  have hil := (List.getElem?_eq_some_iff.mp hi).1
  have hkq : k < qs.length := (List.getElem?_eq_some_iff.mp hq).1
  have eq1 : qs.set k q = qs := by
    apply List.ext_getElem?
    intro n
    by_cases hn : n = k
    · subst hn
      rw [List.getElem?_set_self hkq, hq]
    · rw [List.getElem?_set_ne (Ne.symm hn)]
  refine ⟨vs, n3, h2, fun vs' ds' r => ?_⟩
  refine h.re (css := css) (cs' := (p, .lst (qs.map V.ref)) :: inner qs (vss.set k vs')) hs o hil (fun b u z hb => ?_) (fun c hc' => ?_) ?_ ⟨vss.set k vs', a, rpss_set r k rs, by rw [List.length_set]; exact hl, rfl⟩
  · rw [upd_ne (Ne.symm (hb _ hm))]
    exact z
  · have hold : ∀ c0 ∈ css i, c0.1 ≠ q → HE1 c0.1 = none ∧ H c0.1 = none ∧ (upd H1 q (.lst vs')) c0.1 = some c0.2 := fun c0 h0 hne => by
      obtain ⟨m1, m2, m3⟩ := o.at_ i c0 h0
      exact ⟨m1, m2, by rw [upd_ne hne]; exact m3⟩
    rcases List.mem_cons.mp hc' with rfl | hc'
    · have h0 : (p, HO.lst (qs.map V.ref)) ∈ css i := by rw [hc]; exact List.mem_cons_self
      have hne : p ≠ q := fun z => (List.nodup_cons.mp nd).1 (by rw [z]; exact List.mem_of_getElem? hq)
      obtain ⟨a1, a2, a3⟩ := hold _ h0 hne
      exact ⟨a1, a2, a3, fun k hk c0 hc0 => o.di k i hk c0 hc0 _ h0⟩
    · rw [← eq1] at hc'
      rcases inner_set hc' with rfl | ⟨hin, hne⟩
      · exact ⟨n1, n2, upd_same, fun k hk c0 hc0 => (o.di k i hk c0 hc0 (q, .lst vs) hm : c0.1 ≠ q)⟩
      · have h0 : c ∈ css i := by rw [hc]; exact List.mem_cons_of_mem _ hin
        obtain ⟨a1, a2, a3⟩ := hold _ h0 (hne q hq (List.nodup_cons.mp nd).2 hl)
        exact ⟨a1, a2, a3, fun k hk c0 hc0 => o.di k i hk c0 hc0 _ h0⟩
  · show (p :: (inner qs (vss.set k vs')).map Prod.fst).Nodup
    rw [inner_fst (by rw [List.length_set]; exact hl)]
    exact nd
/-- the outer list gets a new inner list -/
theorem SS.writeOut {k : Nat} {vs' : List V} (h0 : SS K HE HE1 H H1 σ ρ) (hi : ρ[i]? = some (.oo p qs dss)) (hk : k < qs.length) (g : Gr H H1 Hn H2) (q1 : H1 q = none) (qn : Hn q = none) (q2 : H2 q = some (.lst vs')) (r : Rps K Hn vs' ds) :
    SS K HE HE1 Hn (upd H2 p (.lst ((qs.set k q).map V.ref))) σ (ρ.set i (.oo p (qs.set k q) (dss.set k ds))) := by
  obtain ⟨css, hs0, o0⟩ := h0.own
  have h := h0.step g
  have hs : ∀ i s, ρ[i]? = some s → SlR K Hn σ i s (css i) := fun i s e => (hs0 i s e).mono g.kn
  have o : Owns HE1 Hn H2 css := ⟨fun i c hc => by
    obtain ⟨a, b, c1⟩ := o0.at_ i c hc
    refine ⟨a, ?_, g.all _ _ c1⟩
    cases z : Hn c.1 with
    | none => rfl
    | some u => exact absurd (g.new _ _ z b) (by rw [c1]; exact fun z => by cases z), o0.nd, o0.di⟩
  obtain ⟨vss, a, rs, hl, hc⟩ := hs i _ hi
  have hf : (css i).map Prod.fst = p :: qs := by
    rw [hc]
    show p :: (inner qs vss).map Prod.fst = _
    rw [inner_fst hl]
  have nd : (p :: qs).Nodup := by rw [← hf]; exact o.nd i
  have hil := (List.getElem?_eq_some_iff.mp hi).1
  obtain ⟨_, oo2, ond, olen, oin⟩ := h0.oo_at hi
  have hpm : (p, HO.lst (qs.map V.ref)) ∈ css i := by rw [hc]; exact List.mem_cons_self
  have hqp : q ≠ p := fun z => by rw [z, oo2] at q1; cases q1
  have hqq : q ∉ qs := fun z => by
    obtain ⟨n, hn, e⟩ := List.mem_iff_getElem.mp z
    obtain ⟨vs, w, _⟩ := oin n q dss[n] (by rw [List.getElem?_eq_getElem hn, e]) (List.getElem?_eq_getElem (by omega))
    rw [q1] at w
    cases w
  refine h.re (css := css) (cs' := (p, .lst ((qs.set k q).map V.ref)) :: inner (qs.set k q) (vss.set k vs')) hs o hil (fun b u z hb => ?_) (fun c hc' => ?_) ?_ ⟨vss.set k vs', a, rpss_set r k rs, by rw [List.length_set, List.length_set]; exact hl, rfl⟩
  · rw [upd_ne (Ne.symm (hb _ hpm))]
    exact z
  · rcases List.mem_cons.mp hc' with rfl | hc'
    · obtain ⟨m1, m2, m3⟩ := o.at_ i _ hpm
      exact ⟨m1, m2, upd_same, fun k hk c0 hc0 => (o.di k i hk c0 hc0 (p, .lst (qs.map V.ref)) hpm : c0.1 ≠ p)⟩
    · rcases inner_set hc' with rfl | ⟨hin, _⟩
      · refine ⟨h0.gr.all.back q1, qn, by rw [upd_ne hqp]; exact q2, fun k _ c0 hc0 z => ?_⟩
        have w := (o0.at_ k c0 hc0).2.2
        rw [show c0.1 = q from z, q1] at w
        cases w
      · have hm : c ∈ css i := by rw [hc]; exact List.mem_cons_of_mem _ hin
        obtain ⟨m1, m2, m3⟩ := o.at_ i c hm
        have hne : c.1 ≠ p := fun z => (List.nodup_cons.mp nd).1 (by
          have : c.1 ∈ (inner qs vss).map Prod.fst := List.mem_map_of_mem hin
          rw [inner_fst hl, z] at this
          exact this)
        exact ⟨m1, m2, by rw [upd_ne hne]; exact m3, fun k hk c0 hc0 => o.di k i hk c0 hc0 _ hm⟩
  · show (p :: (inner (qs.set k q) (vss.set k vs')).map Prod.fst).Nodup
    rw [inner_fst (by rw [List.length_set, List.length_set]; exact hl)]
    refine List.nodup_cons.mpr ⟨fun z => ?_, nodup_set (List.nodup_cons.mp nd).2 hqq⟩
    rcases List.mem_or_eq_of_mem_set z with z | z
    · exact (List.nodup_cons.mp nd).1 z
    · exact hqp z.symm
end
end DL

set_option Elab.async false
set_option linter.all false
set_option maxRecDepth 100000
set_option maxHeartbeats 4000000
/-! DL6: readings that give lists of lists; values without lists; dicts read; further statements. -/
namespace DL
open PySem PySem.Spec PyProof.Rows L2

/-- a new list of new lists -/
def EvLL (K : PySem.W.Frag) (te : TE) (η : Env) (dss : List (List D)) : Prop := ∀ H σ H1, ER K H σ η → Ex H H1 → ∀ Q : VK, (∀ p ps Hn H2, Gr H H1 Hn H2 → NewLL K H1 Hn H2 p ps dss → Q (.ref p) H2) → te σ H1 Q
theorem EvLL.is {K : PySem.W.Frag} {te : TE} {η : Env} {a b : List (List D)} (h : EvLL K te η a) (e : a = b) : EvLL K te η b := by rw [← e]; exact h
section
variable {K : PySem.W.Frag} {η : Env} {ta te : TE} {t : TT} {a d : D} {as ds : List D} {dss : List (List D)}
theorem ell_call {α : Type} {enc : α → List D} {pre : α → Prop} {out : α → Ret} {E : XK} {ta : TA} (x : α) (ha : EvA K ta η (enc x)) (hp : pre x) (ho : out x = .oo dss) : EvLL K (tCall (spT K enc pre out) [] E ta) η dss := fun H σ H1 er e Q q =>
  ha H σ H1 er e _ fun vs Hn H2 g rs => ⟨Hn, x, g.inn, by rw [List.append_nil]; exact rs, hp, fun v H3 o => by
    rw [ho] at o
    obtain ⟨p, ps, Hm, rfl, g2, n⟩ := o
    obtain ⟨vss, r1, r2, r3⟩ := n.cs
    exact q p ps Hm H3 (g.trans g2) ⟨g.all.back n.h1, n.hn, n.h2, ⟨vss, r1, r2, fun c hc => ⟨g.all.back (r3 c hc).1, (r3 c hc).2⟩⟩, n.nd⟩⟩
/-- what holds between two turns: the lists so far -/
def Cwl (K : PySem.W.Frag) (H0 H1 : Hp) (v : Nat → List D) (Dl : Addr) (i : Nat) (H' : Hp) : Prop := H1 Dl = none ∧ ∃ Hm ps vss, Gr H0 H1 Hm H' ∧ Hm Dl = none ∧ H' Dl = some (.lst (ps.map V.ref)) ∧ (Dl :: ps).Nodup ∧
  Rpss K Hm vss ((List.range i).map v) ∧ vss.length = ps.length ∧ ∀ c ∈ inner ps vss, H1 c.1 = none ∧ Hm c.1 = none ∧ H' c.1 = some c.2
theorem el_lcLL {tl : TE} {tg : TG} {vs : List Nat} (v : Nat → List D) (h : EvD K tl η a) (ha : a = .lst ds ∨ a = .rd ds) (hz : ds.length ≤ 10000000)
    (hs : ∀ (i : Nat) (d : D), ds[i]? = some d → ∃ η', TgD K vs tg (wipeE η vs) d η' ∧ EvL K te η' (v i)) : EvLL K (tLc (iList K tl) tg tYes te vs) η ((List.range ds.length).map v) := fun H σ Ha er e Q q =>
  h H σ Ha er e _ fun x H0 H1 g rx => by
    obtain ⟨p, ws, rfl, hp, rs⟩ : ∃ p ws, x = .ref p ∧ SqL K H0 p ws ∧ Rps K H0 ws ds := by
      rcases ha with rfl | rfl
      · cases rx with
        | lst h r => exact ⟨_, _, rfl, SqL.of h, r⟩
      · cases rx with
        | rd h r => exact ⟨_, _, rfl, h, r⟩
    refine ⟨p, rfl, ⟨ws, ex_l g.inn hp⟩, fun Dl hD => lc_list (xs := ws) (Cwl K H0 H1 v Dl) ?_ (fun i H' _ ⟨_, Hm, _, _, g2, _⟩ => ex_l (g2.kn.trans g2.inn) hp) (fun i x H' hi p => ?_) (fun H' p => ?_)⟩
    · exact ⟨hD, H0, [], [], ⟨Ex.refl _, g.inn.mut (g.inn.back hD), (Ex.refl _).mut hD, (Gr.refl g.inn).new⟩, g.inn.back hD, upd_same, by simp, .nil, rfl, fun c hc => by cases hc⟩
    · obtain ⟨d, hd, rd⟩ := rs.getV hi
      obtain ⟨η', htg, he⟩ := hs i d hd
      have hl : i < ds.length := (List.getElem?_eq_some_iff.mp hd).1
      obtain ⟨p0, Hm, ps, vss, g2, hDm, hD', nd, rss, hlen, hc⟩ := p
      refine htg x H0 _ H' ((er.mono g.kn).wipe vs) rd (g2.kn.trans g2.inn) _ fun σ' er' hw => ⟨hw.trans wipe_wipe, ?_⟩
      show te σ' H' _
      refine he Hm σ' H' (er'.mono g2.kn) g2.inn _ fun p' vs' Hn H2 g4 h1 hn h2 r => ?_
      have hpD : p' ≠ Dl := fun z => by rw [z, hD'] at h1; cases h1
      have hnew : ∀ b u, H' b = some u → Hm b = none → Hn b = none := fun b u z n => by
        cases w : Hn b with
        | none => rfl
        | some o =>
          have := g4.new b o w n
          rw [z] at this
          cases this
      have hnD : Hn Dl = none := hnew Dl _ hD' hDm
      have hpp : p' ∉ ps := fun z => by
        obtain ⟨n, hn, en⟩ := List.mem_iff_getElem.mp z
        obtain ⟨w, hw⟩ : ∃ w, vss[n]? = some w := ⟨_, List.getElem?_eq_getElem (by omega)⟩
        have := (hc _ (inner_get (by rw [List.getElem?_eq_getElem hn, en]) hw)).2.2
        rw [h1] at this
        cases this
      refine ⟨ps.map V.ref, g4.all _ _ hD', ?_, p0, Hn, ps ++ [p'], vss ++ [vs'], ?_, hnD, by rw [upd_same, List.map_append]; rfl, ?_, ?_, by simp [hlen], fun c hcc => ?_⟩
      · rw [List.length_map, ← hlen, rss.length, List.length_map, List.length_range, PySem.sizeLine_eq]
        omega
      · exact ⟨g2.kn.trans g4.kn, g4.inn.mut hnD, (g2.all.trans g4.all).mut p0, fun b o z n => by
          cases w : Hm b with
          | none => exact g2.all.back (g4.new b o z w)
          | some u => exact g2.new b u w n⟩
      · have hDp : Dl ∉ ps ++ [p'] := fun z => by
          rcases List.mem_append.mp z with z | z
          · exact (List.nodup_cons.mp nd).1 z
          · exact hpD (List.mem_singleton.mp z).symm
        refine List.nodup_cons.mpr ⟨hDp, List.nodup_append.mpr ⟨(List.nodup_cons.mp nd).2, by simp, fun x hx y hy z => ?_⟩⟩
        rw [List.mem_singleton.mp hy] at z
        exact hpp (by rw [← z]; exact hx)
      · rw [List.range_succ, List.map_append]
        exact Paired.snoc (Rpss.mono g4.kn rss) r
      · rw [inner_snoc hlen] at hcc
        rcases List.mem_append.mp hcc with hcc | hcc
        · obtain ⟨c1, c2, c3⟩ := hc c hcc
          have hne : c.1 ≠ Dl := fun z => (List.nodup_cons.mp nd).1 (by
            have : c.1 ∈ (inner ps vss).map Prod.fst := List.mem_map_of_mem hcc
            rw [inner_fst hlen, z] at this
            exact this)
          exact ⟨c1, hnew _ _ c3 c2, by rw [upd_ne hne]; exact g4.all _ _ c3⟩
        · rw [List.mem_singleton.mp hcc]
          exact ⟨g2.all.back h1, hn, by rw [upd_ne hpD]; exact h2⟩
    · obtain ⟨p0, Hm, ps, vss, g2, hDm, hD', nd, rss, hlen, hc⟩ := p
      exact q Dl ps Hm H' (g.trans g2) ⟨g.all.back p0, hDm, hD', ⟨vss, by rw [← rs.length]; exact rss, hlen, fun c hcc => ⟨g.all.back (hc c hcc).1, (hc c hcc).2⟩⟩, nd⟩

/-! ### dicts read -/
def hasK (ks : List Key) (κ : Key) : Bool := ks.any fun k => decide (k = κ)
theorem hasK_iff {ks : List Key} {κ : Key} : hasK ks κ = true ↔ κ ∈ ks := by
  unfold hasK
  rw [List.any_eq_true]
  constructor
  · rintro ⟨x, hx, h⟩
    rw [← of_decide_eq_true h]
    exact hx
  · intro h
    exact ⟨κ, h, decide_eq_true rfl⟩
theorem valV_of {kvs : List (Key × V)} {κ : Key} : (valV kvs κ).isSome = hasK (kvs.map Prod.fst) κ := by
  unfold hasK
  rw [← valV_any, List.any_map]
  rfl
theorem dc_list {K : PySem.W.Frag} {a : Addr} {xs : List V} {g : TG} {tt : TT} {tk tv : TE} {vs : List Nat} {σ : L2.St} {H1 : Hp} {D : Addr} {Qd : Hp → Prop} (Pv : Nat → Hp → Prop) (h0 : Pv 0 (upd H1 D (.dK []))) (hl : ∀ i H, i ≤ xs.length → Pv i H → SqL K H a xs)
    (hs : ∀ i x H, xs[i]? = some x → Pv i H → g x (L2.wipe σ vs) H fun σ2 H2 => L2.wipe σ2 vs = L2.wipe σ vs ∧ tt σ2 H2 fun b H3 =>
      if b = true then tk σ2 H3 fun y H4 => tv σ2 H4 fun z H5 => ∃ kvs k, y = kV k ∧ H5 D = some (.dK kvs) ∧ kvs.length < sizeLine ∧ Pv (i + 1) (upd H5 D (.dK (putK kvs k z))) else Pv (i + 1) H3) (hd : ∀ H, Pv xs.length H → Qd H) :
    ∃ W : Nat → Nat → Hp → Prop, (∃ m, W 0 m (upd H1 D (.dK []))) ∧ ∀ i m H, W i m H →
      ((Itl K a).stop i H ∧ Qd H) ∨ ((Itl K a).go i H ∧ ∃ Nx : Hp → Prop, (∀ H', Nx H' → ∃ m', m' < m ∧ W (i + 1) m' H') ∧ ∀ x H', (Itl K a).yld i H x H' → g x (L2.wipe σ vs) H' fun σ2 H2 => L2.wipe σ2 vs = L2.wipe σ vs ∧ tt σ2 H2 fun b H3 =>
        if b = true then tk σ2 H3 fun y H4 => tv σ2 H4 fun z H5 => ∃ kvs k, y = kV k ∧ H5 D = some (.dK kvs) ∧ kvs.length < sizeLine ∧ Nx (upd H5 D (.dK (putK kvs k z))) else Nx H3) := by
  refine ⟨fun i m H => m = xs.length - i ∧ i ≤ xs.length ∧ Pv i H, ⟨xs.length, by simp, Nat.zero_le _, h0⟩, ?_⟩
  rintro i m H ⟨rfl, hi, p⟩
  have q := hl i H hi p
  by_cases hlt : i < xs.length
  · refine .inr ⟨⟨xs, xs[i], q, by simp [hlt]⟩, Pv (i + 1), fun H' p' => ⟨xs.length - (i + 1), by omega, rfl, hlt, p'⟩, fun x H' y => ?_⟩
    obtain ⟨e, y⟩ := y
    subst e
    exact hs i x _ (y xs q) p
  · have e : i = xs.length := by omega
    subst e
    exact .inl ⟨⟨xs, q, Nat.le_refl _⟩, hd H p⟩
theorem ed_din {κ : Key} {ks : List Key} (ha : EvD K ta η a) (hk : dKey a = some κ) (hd : EvD K te η (.dct ks ds)) : EvD K (tDIn ta te) η (.bl (hasK ks κ)) := fun H σ H1 er e Q q =>
  ha H σ H1 er e _ fun v Hn H2 g rv => hd Hn σ H2 (er.mono g.kn) g.inn _ fun x Hm H3 g2 rx => by
    have ev := key_rp rv hk
    subst ev
    cases rx with
    | @dct p kvs _ h r =>
      refine ⟨p, _, rfl, DGet.k (g2.inn _ _ h), ?_⟩
      rw [valV_of]
      exact q _ Hm H3 (g.trans g2) (.bl _)
theorem ed_dnotin {κ : Key} {ks : List Key} (ha : EvD K ta η a) (hk : dKey a = some κ) (hd : EvD K te η (.dct ks ds)) : EvD K (tDNotIn ta te) η (.bl (!hasK ks κ)) := fun H σ H1 er e Q q =>
  ha H σ H1 er e _ fun v Hn H2 g rv => hd Hn σ H2 (er.mono g.kn) g.inn _ fun x Hm H3 g2 rx => by
    have ev := key_rp rv hk
    subst ev
    cases rx with
    | @dct p kvs _ h r =>
      refine ⟨p, _, rfl, DGet.k (g2.inn _ _ h), ?_⟩
      rw [valV_of]
      exact q _ Hm H3 (g.trans g2) (.bl _)
/-- {k: c for .. in a list}, the keys new each, the value a number or the like -/
theorem ed_dcL {tl tk tv : TE} {tg : TG} {vs : List Nat} (kf : Nat → Key) (v : D) (hv : flat v = true) (h : EvD K tl η a) (ha : a = .lst ds ∨ a = .rd ds) (hz : ds.length ≤ 10000000)
    (hnd : ∀ i j, i < j → j < ds.length → kf i ≠ kf j) (hs : ∀ (i : Nat) (d : D), ds[i]? = some d → ∃ η' kd, TgD K vs tg (wipeE η vs) d η' ∧ EvD K tk η' kd ∧ dKey kd = some (kf i) ∧ EvD K tv η' v) :
    EvD K (tDc (iList K tl) tg tYes tk tv vs) η (.dct ((List.range ds.length).map kf) (List.replicate ds.length v)) := fun H σ Ha er e Q q =>
  h H σ Ha er e _ fun x H0 H1 g rx => by
    obtain ⟨p, ws, rfl, hp, rs⟩ : ∃ p ws, x = .ref p ∧ SqL K H0 p ws ∧ Rps K H0 ws ds := by
      rcases ha with rfl | rfl
      · cases rx with
        | lst h r => exact ⟨_, _, rfl, SqL.of h, r⟩
      · cases rx with
        | rd h r => exact ⟨_, _, rfl, h, r⟩
    refine ⟨p, rfl, ⟨ws, ex_l g.inn hp⟩, fun Dl hD => ?_⟩
    refine dc_list (xs := ws) (fun i H' => H1 Dl = none ∧ Ex H0 H' ∧ H0 Dl = none ∧ Ex H1 H' ∧ ∃ kvs : List (Key × V), H' Dl = some (.dK kvs) ∧ kvs.map Prod.fst = (List.range i).map kf ∧ Rps K H0 (kvs.map Prod.snd) (List.replicate i v)) ?_ (fun i H' _ ⟨_, e2, _⟩ => ex_l e2 hp) (fun i x H' hi p => ?_) (fun H' p => ?_)
    · exact ⟨hD, g.inn.mut (g.inn.back hD), g.inn.back hD, (Ex.refl _).mut hD, [], upd_same, rfl, .nil⟩
    · obtain ⟨d, hd, rd⟩ := rs.getV hi
      obtain ⟨η', kd, htg, hk, hκ, hval⟩ := hs i d hd
      have hl : i < ds.length := (List.getElem?_eq_some_iff.mp hd).1
      obtain ⟨p0, e2, p1, e3, kvs, hD', hks, hrs⟩ := p
      refine htg x H0 _ H' ((er.mono g.kn).wipe vs) rd e2 _ fun σ' er' hw => ⟨hw.trans wipe_wipe, ?_⟩
      show tk σ' H' _
      refine hk H0 σ' H' er' e2 _ fun kv Hn H2 g4 rk => ?_
      have ek := key_rp rk hκ
      subst ek
      refine hval Hn σ' H2 (er'.mono g4.kn) g4.inn _ fun vv Hm H3 g5 rv => ?_
      have hD3 := g5.all _ _ (g4.all _ _ hD')
      have hlen : kvs.length = i := by
        have := congrArg List.length hks
        simpa using this
      refine ⟨kvs, kf i, rfl, hD3, by rw [hlen, PySem.sizeLine_eq]; omega, p0, ?_, p1, ?_, putK kvs (kf i) vv, upd_same, ?_⟩
      · exact ((g4.kn.trans g5.kn).trans g5.inn).mut p1
      · exact ((e3.trans g4.all).trans g5.all).mut p0
      · have no : (kvs.any fun kv => decide (kv.1 = kf i)) = false := by
          rw [List.any_eq_false]
          intro x hx hdx
          have : kf i ∈ (List.range i).map kf := by rw [← hks, ← of_decide_eq_true hdx]; exact List.mem_map_of_mem hx
          obtain ⟨j, hj, ej⟩ := List.mem_map.mp this
          have hj := List.mem_range.mp hj
          exact hnd j i hj hl ej
        have hput : putK kvs (kf i) vv = kvs ++ [(kf i, vv)] := by
          unfold putK
          rw [no]
          rfl
        rw [hput, List.map_append, List.map_append, hks, List.range_succ, List.map_append]
        refine ⟨rfl, ?_⟩
        rw [List.replicate_succ']
        exact hrs.append (.one (flat_rp hv rv))
    · obtain ⟨p0, e2, p1, e3, kvs, hD', hks, hrs⟩ := p
      rw [rs.length] at hks hrs
      have r : Rp K (upd H0 Dl (.dK kvs)) (.ref Dl) (.dct (kvs.map Prod.fst) (List.replicate ds.length v)) := .dct upd_same (hrs.mono ((Ex.refl _).mut p1))
      rw [hks] at r
      refine q _ (upd H0 Dl (.dK kvs)) H' (g.trans ⟨(Ex.refl _).mut p1, fun b u z => ?_, e3, fun b u z n => ?_⟩) r
      · by_cases hb : b = Dl
        · rw [hb] at z ⊢; rw [upd_same] at z; rw [hD']; exact z
        · rw [upd_ne hb] at z; exact e2 _ _ z
      · by_cases hb : b = Dl
        · rw [hb]; exact p0
        · rw [upd_ne hb] at z; rw [n] at z; cases z
end
/-! ### values without lists -/
mutual
def noL : D → Bool
  | .lst _ => false
  | .rd _ => false
  | .dct _ _ => false
  | .tup xs => noLs xs
  | .ins _ _ xs => noLs xs
  | _ => true
def noLs : List D → Bool
  | [] => true
  | d :: ds => noL d && noLs ds
end
theorem noLs_dI : ∀ ns : List Int, noLs (dI ns) = true
  | [] => rfl
  | _ :: ns => noLs_dI ns
section
variable {K : PySem.W.Frag} {H H' : Hp}
/-- heaps agree but for lists and dicts -/
def ExN (H H' : Hp) : Prop := ∀ a o, H a = some o → (∀ xs, o ≠ .lst xs) → (∀ kvs, o ≠ .dK kvs) → H' a = some o
theorem exn_t {a : Addr} {xs : List V} (e : ExN H H') (h : SqT K H a xs) : SqT K H' a xs := by
  rcases h with (h | ⟨o, h⟩) | h
  · exact .inl (.inl (e _ _ h (fun _ z => by cases z) (fun _ z => by cases z)))
  · exact .inl (.inr ⟨o, e _ _ h (fun _ z => by cases z) (fun _ z => by cases z)⟩)
  · exact .inr h
mutual
theorem Rp.less (e : ExN H H') : ∀ {v : V} {d : D}, Rp K H v d → noL d = true → Rp K H' v d
  | _, _, .non, _ => .non
  | _, _, .bl b, _ => .bl b
  | _, _, .int i, _ => .int i
  | _, _, .str x, _ => .str x
  | _, _, .lst h r, p => by cases p
  | _, _, .rd h r, p => by cases p
  | _, _, .tup h r, p => .tup (exn_t e h) (Rps.less e r p)
  | _, _, .ins h r, p => .ins (e _ _ h (fun _ z => by cases z) (fun _ z => by cases z)) (Rps.less e r p)
  | _, _, .dct h r, p => by cases p
theorem Rps.less (e : ExN H H') : ∀ {vs : List V} {ds : List D}, Rps K H vs ds → noLs ds = true → Rps K H' vs ds
  | _, _, .nil, _ => .nil
  | _, _, .cons r t, p => .cons (Rp.less e r (Bool.and_eq_true_iff.mp p).1) (Rps.less e t (Bool.and_eq_true_iff.mp p).2)
end
end
/-! ### further statements -/
section
variable {K : PySem.W.Frag} {ρ : List Sl} {D : DE} {t u tu tw tb : TS} {te ta tk tv : TE} {tt : TT} {i j : Nat} {d a : DL.D} {ds : List DL.D} {dss : List (List DL.D)} {p q : Addr} {qs : List Addr}

/-! ### readings at a state -/
/-- η tells truly of the slots ρ, and knows nothing but their lists and dicts further -/
def VA (K : PySem.W.Frag) (ρ : List Sl) (η : Env) : Prop := ∀ HE HE1 H H1 σ, SS K HE HE1 H H1 σ ρ → ∃ Hv, Ex H Hv ∧ Ex Hv H1 ∧ (∀ a o, Hv a = some o → H a = some o ∨ (∃ xs, o = .lst xs) ∨ ∃ kvs, o = .dK kvs) ∧ ER K Hv σ η
theorem va_view : VA K ρ (viewE ρ) := fun HE HE1 H H1 σ h => h.view2
theorem va_sh : VA K ρ (shE ρ) := fun HE HE1 H H1 σ h => ⟨H, Ex.refl _, h.ex, fun a o z => .inl z, h.er⟩
theorem paired_of {H Hv H1 : Hp} (e : Ex Hv H1) : ∀ {qs : List Addr} {dss : List (List DL.D)} {k : Nat} {q : Addr} {ds : List DL.D}, Rps K Hv (qs.map V.ref) (dss.map DL.D.lst) → qs[k]? = some q → dss[k]? = some ds → Rp K Hv (.ref q) (.lst ds)
  | _ :: _, _ :: _, 0, _, _, .cons r _, h1, h2 => by cases h1; cases h2; exact r
  | _ :: qs, _ :: dss, k + 1, _, _, .cons _ t, h1, h2 => paired_of (H := H) e (k := k) (qs := qs) (dss := dss) t h1 h2
  | [], _, _, _, _, _, h1, _ => by simp at h1
  | _ :: _, [], _, _, _, _, _, h2 => by simp at h2
/-- .. the slot j, which stands for the k-th list of the slot i -/
theorem va_al {k : Nat} (hj : ρ[j]? = some (.al q)) (hi : ρ[i]? = some (.oo p qs dss)) (hq : qs[k]? = some q) (hd : dss[k]? = some ds) : VA K ρ ((viewE ρ).set j (some (.lst ds))) := fun HE HE1 H H1 σ h => by
  obtain ⟨Hv, e1, e2, e4, er⟩ := h.view2
  refine ⟨Hv, e1, e2, e4, ⟨by rw [List.length_set]; exact er.len, fun m d z => ?_⟩⟩
  by_cases hm : m = j
  · subst hm
    have hl : m < (viewE ρ).length := by
      have := (List.getElem?_eq_some_iff.mp hj).1
      rw [List.length_map]
      exact this
    rw [List.getElem?_set_self hl] at z
    cases z
    obtain ⟨css, hs, o⟩ := h.own
    have ha := (hs m _ hj).1
    refine ⟨_, ha, ?_⟩
    obtain ⟨oo1, oo2, _⟩ := h.oo_at hi
    obtain ⟨v, hv, rv⟩ := er.get i (.lst (dss.map DL.D.lst)) (by rw [List.getElem?_map, hi]; rfl)
    rw [oo1] at hv
    cases hv
    cases rv with
    | lst h0 r =>
      have := e2 _ _ h0
      rw [oo2] at this
      cases this
      exact paired_of (H := H) e2 r hq hd
  · rw [List.getElem?_set_ne (Ne.symm hm)] at z
    exact er.get m d z
/-- data that is new or stood before -/
def EvS (K : PySem.W.Frag) (te : TE) (ρ : List Sl) (d : DL.D) : Prop := ∀ HE HE1 H H1 σ, SS K HE HE1 H H1 σ ρ → ∀ Q : VK, (∀ v Hn H2, Gr H H1 Hn H2 → Rp K Hn v d → Q v H2) → te σ H1 Q
def EvSL (K : PySem.W.Frag) (te : TE) (ρ : List Sl) (ds : List DL.D) : Prop := ∀ HE HE1 H H1 σ, SS K HE HE1 H H1 σ ρ → ∀ Q : VK, (∀ p vs Hn H2, Gr H H1 Hn H2 → H1 p = none → Hn p = none → H2 p = some (.lst vs) → Rps K Hn vs ds → Q (.ref p) H2) → te σ H1 Q
theorem EvS.is (h : EvS K te ρ d) (e : d = a) : EvS K te ρ a := by rw [← e]; exact h
theorem evs_sh (h : EvD K te (shE ρ) d) : EvS K te ρ d := fun HE HE1 H H1 σ ss Q q => h H σ H1 ss.er ss.ex Q q
theorem evs_flatV {η : Env} (va : VA K ρ η) (h : EvD K te η d) (hd : flat d = true) : EvS K te ρ d := fun HE HE1 H H1 σ ss Q q => by
  obtain ⟨Hv, e1, e2, _, er⟩ := va HE HE1 H H1 σ ss
  exact h Hv σ H1 er e2 _ fun v Hn H2 g rv => q v H H2 (Gr.only ss.ex g.all) (flat_rp hd rv)
theorem evs_flat (h : EvD K te (viewE ρ) d) (hd : flat d = true := by rfl) : EvS K te ρ d := evs_flatV va_view h hd
theorem evs_noLV {η : Env} (va : VA K ρ η) (h : EvD K te η d) (hd : noL d = true) : EvS K te ρ d := fun HE HE1 H H1 σ ss Q q => by
  obtain ⟨Hv, e1, e2, e4, er⟩ := va HE HE1 H H1 σ ss
  refine h Hv σ H1 er e2 _ fun v Hn H2 g rv => ?_
  classical
  let Hm : Hp := fun a => match H a with
    | some u => some u
    | none => if H1 a = none then Hn a else none
  have m1 : Ex H Hm := fun a u z => by show (match H a with | some u => some u | none => _) = _; rw [z]
  have m2 : ∀ a u, Hm a = some u → H a = some u ∨ (H a = none ∧ H1 a = none ∧ Hn a = some u) := fun a u z => by
    have z : (match H a with | some u => some u | none => if H1 a = none then Hn a else none) = some u := z
    cases w : H a with
    | some x => rw [w] at z; cases z; exact .inl rfl
    | none =>
      rw [w] at z
      have z : (if H1 a = none then Hn a else none) = some u := z
      by_cases hx : H1 a = none
      · rw [if_pos hx] at z; exact .inr ⟨rfl, hx, z⟩
      · rw [if_neg hx] at z; cases z
  have m3 : ∀ a u, H1 a = none → Hn a = some u → Hm a = some u := fun a u n z => by
    show (match H a with | some u => some u | none => if H1 a = none then Hn a else none) = _
    rw [ss.ex.back n]
    show (if H1 a = none then Hn a else none) = _
    rw [if_pos n]
    exact z
  refine q v Hm H2 ⟨m1, fun a u z => ?_, g.all, fun a u z n => ?_⟩ (rv.less (fun a o z hl hk => ?_) hd)
  · rcases m2 a u z with w | ⟨_, _, w⟩
    · exact g.all _ _ (ss.ex _ _ w)
    · exact g.inn _ _ w
  · rcases m2 a u z with w | ⟨_, w, _⟩
    · rw [n] at w; cases w
    · exact w
  · cases w : Hv a with
    | none => exact m3 a o (g.new a o z w) z
    | some o' =>
      have := g.kn _ _ w
      rw [z] at this
      cases this
      rcases e4 a _ w with x | ⟨xs, x⟩ | ⟨kvs, x⟩
      · exact m1 _ _ x
      · exact absurd x (hl xs)
      · exact absurd x (hk kvs)
theorem evs_noL (h : EvD K te (viewE ρ) d) (hd : noL d = true) : EvS K te ρ d := evs_noLV va_view h hd
theorem evsl_sh (h : EvL K te (shE ρ) ds) : EvSL K te ρ ds := fun HE HE1 H H1 σ ss Q q => h H σ H1 ss.er ss.ex Q q
theorem evsl_flatV {η : Env} (va : VA K ρ η) (h : EvL K te η ds) (hd : ds.all flat = true) : EvSL K te ρ ds := fun HE HE1 H H1 σ ss Q q => by
  obtain ⟨Hv, e1, e2, _, er⟩ := va HE HE1 H H1 σ ss
  exact h Hv σ H1 er e2 _ fun p vs Hn H2 g h1 hn h2 rv => q p vs H H2 (Gr.only ss.ex g.all) h1 (ss.ex.back h1) h2 (flat_rps hd rv)
theorem evsl_flat (h : EvL K te (viewE ρ) ds) (hd : ds.all flat = true) : EvSL K te ρ ds := evsl_flatV va_view h hd
theorem EvSL.data (h : EvSL K te ρ ds) : EvS K te ρ (.lst ds) := fun HE HE1 H H1 σ ss Q q =>
  h HE HE1 H H1 σ ss Q fun p vs Hn H2 g h1 hn h2 rs => q (.ref p) (upd Hn p (.lst vs)) H2 (g.know h1 h2 hn) (.lst upd_same (rs.mono ((Ex.refl Hn).mut hn)))
/-- an item of an own list -/
theorem evs_ix {k : Int} (hi : ρ[i]? = some (.ow ds)) (hk : EvD K tk (viewE ρ) (.int k)) (hd : atI ds k = some d) : EvS K (tOp (rIx K) (tVar i) tk) ρ d := fun HE HE1 H H1 σ ss Q q => by
  obtain ⟨p, vs, hp, hv, rs, _⟩ := ss.write hi
  refine ⟨_, hp, ?_⟩
  obtain ⟨Hv, e1, e2, er⟩ := ss.view
  refine hk Hv σ H1 er e2 _ fun iv Hn H2 g ri => ?_
  cases ri
  obtain ⟨v, h1, h2⟩ := atI_rps rs hd
  exact .inl ⟨p, vs, k, v, rfl, rfl, SqL.of (g.all _ _ hv), h1, q v H H2 (Gr.only ss.ex g.all) h2⟩
/-! the statements -/
theorem sd_asgS (h : EvS K te ρ d) (k : D.nx (ρ.set i (.sh d))) : SD K (tAsg te (gName i)) ρ D := fun HE HE1 H H1 σ E ss n b c r =>
  h HE HE1 H H1 σ ss _ fun v Hn H2 g rv => n _ Hn H2 _ k g.kn (ss.setSh rfl g rv)
theorem sd_asgSL (h : EvSL K te ρ ds) (k : D.nx (ρ.set i (.ow ds))) : SD K (tAsg te (gName i)) ρ D := fun HE HE1 H H1 σ E ss n b c r =>
  h HE HE1 H H1 σ ss _ fun p vs Hn H2 g h1 hn h2 rs => n _ Hn H2 _ k g.kn (ss.setOw rfl g h1 hn h2 rs)
theorem sd_retS (h : EvS K te ρ d) (k : D.rt (.sh d)) : SD K (tRet te) ρ D := fun HE HE1 H H1 σ E ss n b c r =>
  h HE HE1 H H1 σ ss _ fun v Hn H2 g rv => r _ v H2 k ⟨Hn, ss.gr.trans g, rv⟩
theorem sd_retSL (h : EvSL K te ρ ds) (k : D.rt (.ow ds)) : SD K (tRet te) ρ D := fun HE HE1 H H1 σ E ss n b c r =>
  h HE HE1 H H1 σ ss _ fun p vs Hn H2 g h1 hn h2 rs => r _ _ H2 k ⟨p, vs, Hn, rfl, ss.gr.trans g, ss.gr.all.back h1, hn, h2, rs⟩
theorem sd_asg2S {d1 d2 : DL.D} (h : EvS K te ρ (.tup [d1, d2])) (k : D.nx ((ρ.set i (.sh d1)).set j (.sh d2))) : SD K (tAsg te (gTup K 2 (gCons (gName i) (gCons (gName j) gNil)))) ρ D := fun HE HE1 H H1 σ E ss n b c r =>
  h HE HE1 H H1 σ ss _ fun v Hn H2 g rv => by
    cases rv with
    | tup hs rs =>
      cases rs with
      | cons r1 t =>
        cases t with
        | cons r2 t =>
          cases t
          have s1 := ss.setSh (i := i) rfl g r1
          exact ⟨_, _, rfl, ex_t g.inn hs, rfl, _, _, rfl, _, _, rfl, rfl, n _ Hn H2 _ k g.kn (s1.setSh rfl (Gr.refl g.inn) r2)⟩
theorem ixN_at {n m : Nat} (h : m < n) : ixN n (m : Int) = some m := by
  unfold ixN
  rw [if_pos (by omega), if_pos (by omega)]
  simp
theorem sd_setS {m : Nat} (hi : ρ[i]? = some (.ow ds)) (h : EvS K te ρ d) (hk : EvD K tk (viewE ρ) (.int (m : Int))) (hm : m < ds.length) (k : D.nx (ρ.set i (.ow (ds.set m d)))) : SD K (tAsg te (gSub (tVar i) tk rSetL)) ρ D := fun HE HE1 H H1 σ E ss n b c r =>
  h HE HE1 H H1 σ ss _ fun v Hn H2 g rv => by
    have s2 := ss.step g
    obtain ⟨p, vs, hp, hv, rs, wr⟩ := s2.write hi
    obtain ⟨Hv, e1, e2, er⟩ := s2.view
    refine ⟨_, hp, ?_⟩
    refine hk Hv σ H2 er e2 _ fun iv Hm H3 g3 ri => ?_
    cases ri
    have s3 := s2.grow g3.all
    obtain ⟨p', vs', hp', hv', rs', wr'⟩ := s3.write hi
    have ep : p' = p := by rw [hp] at hp'; cases hp'; rfl
    subst ep
    exact ⟨p', vs', (m : Int), m, rfl, rfl, hv', by rw [rs'.length]; exact ixN_at hm, n _ Hn _ _ k g.kn (wr' _ _ (rs'.set rv m))⟩
theorem sd_appS (hi : ρ[i]? = some (.ow ds)) (h : EvS K te ρ d) (hl : ds.length < sizeLine) (k : D.nx (ρ.set i (.ow (ds ++ [d])))) : SD K (tDrop (tBM K "list" rAppend (tVar i) (tCons te tNil))) ρ D := fun HE HE1 H H1 σ E ss n b c r => by
  obtain ⟨p, vs, hp, hv, rs, wr⟩ := ss.write hi
  refine ⟨_, hp, .inl ⟨rfl, _, SqL.of hv⟩, ?_⟩
  refine h HE HE1 H H1 σ ss _ fun v Hn H2 g rv => ?_
  have s2 := ss.step g
  obtain ⟨p', vs', hp', hv', rs', wr'⟩ := s2.write hi
  have ep : p' = p := by rw [hp] at hp'; cases hp'; rfl
  subst ep
  exact ⟨p', vs', v, rfl, rfl, hv', by rw [rs'.length]; exact hl, n _ Hn _ _ k g.kn (wr' _ _ (rs'.append (.one rv)))⟩
theorem sd_asgLL (h : EvLL K te (shE ρ) dss) (k : ∀ p qs, qs.length = dss.length → D.nx (ρ.set i (.oo p qs dss))) : SD K (tAsg te (gName i)) ρ D := fun HE HE1 H H1 σ E ss n b c r =>
  h H σ H1 ss.er ss.ex _ fun p ps Hn H2 g nl => by
    obtain ⟨vss, r1, r2, r3⟩ := nl.cs
    refine n _ Hn H2 _ (k p ps (by rw [← r2]; exact r1.length)) g.kn (ss.put (cs' := (p, .lst (ps.map V.ref)) :: inner ps vss) rfl g (fun hi => ⟨vss, List.getElem?_set_self (by rw [← ss.len]; exact hi), r1, r2, rfl⟩) (fun c hc => ?_) ?_)
    · rcases List.mem_cons.mp hc with rfl | hc
      · exact ⟨nl.h1, nl.hn, nl.h2⟩
      · exact r3 c hc
    · show (p :: (inner ps vss).map Prod.fst).Nodup
      rw [inner_fst r2]
      exact nl.nd
theorem sd_retLL (h : EvLL K te (shE ρ) dss) (k : D.rt (.oo dss)) : SD K (tRet te) ρ D := fun HE HE1 H H1 σ E ss n b c r =>
  h H σ H1 ss.er ss.ex _ fun p ps Hn H2 g nl => by
    obtain ⟨vss, r1, r2, r3⟩ := nl.cs
    exact r _ _ H2 k ⟨p, ps, Hn, rfl, ss.gr.trans g, ⟨ss.gr.all.back nl.h1, nl.hn, nl.h2, ⟨vss, r1, r2, fun c hc => ⟨ss.gr.all.back (r3 c hc).1, (r3 c hc).2⟩⟩, nl.nd⟩⟩
theorem atI_map {α β : Type} {f : α → β} {l : List α} {k : Int} {x : α} (h : atI l k = some x) : atI (l.map f) k = some (f x) := by
  unfold atI at h ⊢
  rw [List.length_map]
  cases z : ixN l.length k with
  | none => rw [z] at h; cases h
  | some n =>
    rw [z] at h
    show (l.map f)[n]? = _
    rw [List.getElem?_map, show l[n]? = some x from h]
    rfl
/-- x = y[e], y a list of own lists -/
theorem sd_asgAl {kk : Int} (hj : ρ[j]? = some (.oo p qs dss)) (hk : EvD K tk (viewE ρ) (.int kk)) (hq : atI qs kk = some q) (k : D.nx (ρ.set i (.al q))) : SD K (tAsg (tOp (rIx K) (tVar j) tk) (gName i)) ρ D := fun HE HE1 H H1 σ E ss n b c r => by
  obtain ⟨oo1, oo2, _⟩ := ss.oo_at hj
  refine ⟨_, oo1, ?_⟩
  obtain ⟨Hv, e1, e2, er⟩ := ss.view
  refine hk Hv σ H1 er e2 _ fun iv Hn H2 g ri => ?_
  cases ri
  refine .inl ⟨p, qs.map V.ref, kk, .ref q, rfl, rfl, SqL.of (g.all _ _ oo2), atI_map hq, ?_⟩
  exact n _ H H2 _ k (Ex.refl _) (ss.put (cs' := []) rfl (Gr.only ss.ex g.all) (fun hi => ⟨List.getElem?_set_self (by rw [← ss.len]; exact hi), rfl⟩) (fun c hc => by cases hc) List.nodup_nil)
/-- y[m] = e, y one of the lists of the slot i -/
theorem sd_setIn {kk m : Nat} (hj : ρ[j]? = some (.al q)) (hi : ρ[i]? = some (.oo p qs dss)) (hq : qs[kk]? = some q) (hd : dss[kk]? = some ds) (h : EvS K te ρ d) (hk : EvD K tk (viewE ρ) (.int (m : Int))) (hm : m < ds.length)
    (k : D.nx (ρ.set i (.oo p qs (dss.set kk (ds.set m d))))) : SD K (tAsg te (gSub (tVar j) tk rSetL)) ρ D := fun HE HE1 H H1 σ E ss n b c r =>
  h HE HE1 H H1 σ ss _ fun v Hn H2 g rv => by
    have s2 := ss.step g
    obtain ⟨css, hs, o⟩ := s2.own
    refine ⟨_, (hs j _ hj).1, ?_⟩
    obtain ⟨Hv, e1, e2, er⟩ := s2.view
    refine hk Hv σ H2 er e2 _ fun iv Hm H3 g3 ri => ?_
    cases ri
    have s3 := s2.grow g3.all
    obtain ⟨vs, hv, rs, wr⟩ := s3.writeIn hi hq hd
    exact ⟨q, vs, (m : Int), m, rfl, rfl, hv, by rw [rs.length]; exact ixN_at hm, n _ Hn _ _ k g.kn (wr _ _ (rs.set rv m))⟩
/-- x[m] = a new list, x a list of own lists -/
theorem sd_setOut {m : Nat} (hi : ρ[i]? = some (.oo p qs dss)) (h : EvSL K te ρ ds) (hk : EvD K tk (viewE ρ) (.int (m : Int))) (hm : m < qs.length) (k : ∀ q, D.nx (ρ.set i (.oo p (qs.set m q) (dss.set m ds)))) : SD K (tAsg te (gSub (tVar i) tk rSetL)) ρ D := fun HE HE1 H H1 σ E ss n b c r =>
  h HE HE1 H H1 σ ss _ fun q vs Hn H2 g h1 hn h2 rs => by
    have s2 := ss.step g
    obtain ⟨oo1, oo2, _⟩ := s2.oo_at hi
    refine ⟨_, oo1, ?_⟩
    obtain ⟨Hv, e1, e2, er⟩ := s2.view
    refine hk Hv σ H2 er e2 _ fun iv Hm H3 g3 ri => ?_
    cases ri
    have gg : Gr H H1 Hn H3 := ⟨g.kn, g.inn.trans g3.all, g.all.trans g3.all, g.new⟩
    refine ⟨p, qs.map V.ref, (m : Int), m, rfl, rfl, g3.all _ _ oo2, by rw [List.length_map]; exact ixN_at hm, ?_⟩
    have w := ss.writeOut (ds := ds) hi hm gg h1 hn (g3.all _ _ h2) rs
    rw [List.map_set] at w
    exact n _ Hn _ _ (k q) g.kn w
/-- for y in x, x a list of own lists, which the body may change -/
theorem sd_forOO (js : List Nat) (hi : ρ[i]? = some (.oo p qs dss)) (I : Nat → List Sl → Prop) (h0 : I 0 (fg js ρ)) (hI : ∀ m ρ', I m ρ' → ∃ dss', ρ'[i]? = some (.oo p qs dss'))
    (hs : ∀ m q ρ', qs[m]? = some q → I m ρ' → SD K tb (ρ'.set j (.al q)) { D with nx := fun ρ2 => I (m + 1) (fg js ρ2), ct := fun ρ2 => I (m + 1) (fg js ρ2), bk := fun ρ2 => D.nx (fg js ρ2) }) (hd : ∀ ρ', I qs.length ρ' → D.nx ρ') : SD K (tFor (iList K (tVar i)) (gName j) tb) ρ D := fun HE HE1 H H1 σ E ss n b c r => by
  obtain ⟨oo1, oo2, _⟩ := ss.oo_at hi
  refine ⟨_, oo1, ?_⟩
  refine ⟨p, rfl, ⟨qs.map V.ref, SqL.of oo2⟩, for_list (xs := qs.map V.ref) (Lw K HE HE1 H I) ⟨_, H, Ex.refl _, h0, ss.fg js⟩ (fun m σ' H' _ ⟨ρ', H3, e, hI', s3⟩ => ?_) (fun m x σ' H' hx ⟨ρ', H3, e, hI', s3⟩ => ?_) (fun σ' H' ⟨ρ', H3, e, hI', s3⟩ => n ρ' H3 H' σ' (hd ρ' (by rw [← List.length_map (f := V.ref)]; exact hI')) e s3)⟩
  · obtain ⟨dss', h'⟩ := hI m ρ' hI'
    exact SqL.of (s3.oo_at h').2.1
  · rw [List.getElem?_map] at hx
    cases hq : qs[m]? with
    | none => rw [hq] at hx; cases hx
    | some q =>
      rw [hq] at hx
      cases hx
      have s4 := s3.put (i := j) (v := .ref q) (s' := .al q) (cs' := []) rfl (Gr.refl s3.ex) (fun hi => ⟨List.getElem?_set_self (by rw [← s3.len]; exact hi), rfl⟩) (fun c hc => by cases hc) List.nodup_nil
      exact hs m q ρ' hq hI' HE HE1 H3 H' _ _ s4 (fun ρ3 H4 H14 σ3 q e4 s5 => ⟨_, H4, e.trans e4, q, s5.fg js⟩) (fun ρ3 H4 H14 σ3 q e4 s5 => n _ H4 H14 σ3 q (e.trans e4) (s5.fg js)) (fun ρ3 H4 H14 σ3 q e4 s5 => ⟨_, H4, e.trans e4, q, s5.fg js⟩) r
/-- for .. in a list, whatever the targets -/
theorem sd_forLg {tl : TE} {g : TG} (js : List Nat) (h : EvD K tl (shE ρ) a) (ha : a = .lst ds ∨ a = .rd ds) (I : Nat → List Sl → Prop) (h0 : I 0 (fg js ρ))
    (hs : ∀ m d ρ', ds[m]? = some d → I m ρ' → ∃ ρ1, TgS K g ρ' d ρ1 ∧ SD K tb ρ1 { D with nx := fun ρ2 => I (m + 1) (fg js ρ2), ct := fun ρ2 => I (m + 1) (fg js ρ2), bk := fun ρ2 => D.nx (fg js ρ2) }) (hd : ∀ ρ', I ds.length ρ' → D.nx ρ') : SD K (tFor (iList K tl) g tb) ρ D := fun HE HE1 H H1 σ E ss n b c r =>
  h H σ H1 ss.er ss.ex _ fun x H0 H2 g2 rx => by
    obtain ⟨p, ws, rfl, hp, rs⟩ : ∃ p ws, x = .ref p ∧ SqL K H0 p ws ∧ Rps K H0 ws ds := by
      rcases ha with rfl | rfl
      · cases rx with
        | lst h r => exact ⟨_, _, rfl, SqL.of h, r⟩
      · cases rx with
        | rd h r => exact ⟨_, _, rfl, h, r⟩
    refine ⟨p, rfl, ⟨ws, ex_l g2.inn hp⟩, for_list (Lw K HE HE1 H0 I) ⟨_, H0, Ex.refl _, h0, (ss.step g2).fg js⟩ (fun m σ' H' _ ⟨ρ', H3, e, _, s3⟩ => ex_l (e.trans s3.ex) hp) (fun m x σ' H' hx ⟨ρ', H3, e, hI, s3⟩ => ?_) (fun σ' H' ⟨ρ', H3, e, hI, s3⟩ => n ρ' H3 H' σ' (hd ρ' (by rw [← rs.length]; exact hI)) (g2.kn.trans e) s3)⟩
    obtain ⟨d, hd', rd⟩ := rs.getV hx
    obtain ⟨ρ1, tg, sd⟩ := hs m d ρ' hd' hI
    refine tg x HE HE1 H3 H' σ' s3 (rd.mono e) _ fun σ2 s4 => ?_
    exact sd HE HE1 H3 H' σ2 _ s4 (fun ρ3 H4 H14 σ3 q e4 s5 => ⟨_, H4, e.trans e4, q, s5.fg js⟩) (fun ρ3 H4 H14 σ3 q e4 s5 => n _ H4 H14 σ3 q ((g2.kn.trans e).trans e4) (s5.fg js)) (fun ρ3 H4 H14 σ3 q e4 s5 => ⟨_, H4, e.trans e4, q, s5.fg js⟩) r
end
/-- slots forgotten after a statement -/
theorem sd_fg {K : PySem.W.Frag} {t : TS} {ρ : List Sl} {D : DE} (js : List Nat) (h : SD K t ρ { D with nx := fun ρ' => D.nx (fg js ρ') }) : SD K t ρ D := fun HE HE1 H H1 σ E ss n b c r =>
  h HE HE1 H H1 σ E ss (fun ρ' H' H1' σ' q e s' => n _ H' H1' σ' q e (s'.fg js)) b c r
theorem atI_zero {α : Type} {d : α} {ds : List α} : atI (d :: ds) 0 = some d := by
  unfold atI ixN
  rw [if_pos (by decide), if_pos (by rw [List.length_cons]; omega)]
  rfl
theorem atI_one {α : Type} {d e : α} {ds : List α} : atI (d :: e :: ds) 1 = some e := by
  unfold atI ixN
  rw [if_pos (by decide), if_pos (by rw [List.length_cons, List.length_cons]; omega)]
  rfl
/-! ### == of equal data -/
mutual
/-- numbers and lists or tuples of such, not deeper than n -/
def shp : Nat → D → Bool
  | _, .int _ => true
  | _, .bl _ => true
  | _, .non => true
  | n + 1, .lst xs => shps n xs
  | n + 1, .rd xs => shps n xs
  | n + 1, .tup xs => shps n xs
  | _, _ => false
def shps : Nat → List D → Bool
  | _, [] => true
  | n, d :: ds => shp n d && shps n ds
end
mutual
theorem shp_ok : ∀ (n : Nat) (d : D), shp n d = true → plain d = true ∧ (py d).canLay0 = true ∧ (py d).depth ≤ n + 1
  | n, .int _, _ => ⟨rfl, by simp [py, PyData.canLay0], by simp [py, PyData.depth]⟩
  | n, .bl _, _ => ⟨rfl, by simp [py, PyData.canLay0], by simp [py, PyData.depth]⟩
  | n, .non, _ => ⟨rfl, by simp [py, PyData.canLay0], by simp [py, PyData.depth]⟩
  | 0, .lst _, h => by simp [shp] at h
  | 0, .rd _, h => by simp [shp] at h
  | 0, .tup _, h => by simp [shp] at h
  | n, .str _, h => by cases n <;> simp [shp] at h
  | n, .ins _ _ _, h => by cases n <;> simp [shp] at h
  | n, .dct _ _, h => by cases n <;> simp [shp] at h
  | n + 1, .lst xs, h => by
    obtain ⟨a, b, c⟩ := shps_ok n xs (by simpa [shp] using h)
    exact ⟨by simpa [plain] using a, by simpa [py, PyData.canLay0] using b, by simp [py, PyData.depth]; omega⟩
  | n + 1, .rd xs, h => by
    obtain ⟨a, b, c⟩ := shps_ok n xs (by simpa [shp] using h)
    exact ⟨by simpa [plain] using a, by simpa [py, PyData.canLay0] using b, by simp [py, PyData.depth]; omega⟩
  | n + 1, .tup xs, h => by
    obtain ⟨a, b, c⟩ := shps_ok n xs (by simpa [shp] using h)
    exact ⟨by simpa [plain] using a, by simpa [py, PyData.canLay0] using b, by simp [py, PyData.depth]; omega⟩
theorem shps_ok : ∀ (n : Nat) (ds : List D), shps n ds = true → plains ds = true ∧ PyData.canLayAll0 (pys ds) = true ∧ PyData.depthAll (pys ds) ≤ n + 1
  | n, [], _ => ⟨rfl, by simp [pys, PyData.canLayAll0], by simp [pys, PyData.depthAll]⟩
  | n, d :: ds, h => by
    have h' : shp n d = true ∧ shps n ds = true := by simpa [shps] using h
    obtain ⟨a, b, c⟩ := shp_ok n d h'.1
    obtain ⟨a2, b2, c2⟩ := shps_ok n ds h'.2
    exact ⟨by simp [plains, a, a2], by simp [pys, PyData.canLayAll0, b, b2], by simp [pys, PyData.depthAll]; omega⟩
end
theorem shps_dI (n : Nat) : ∀ ns : List Int, shps n (dI ns) = true
  | [] => by cases n <;> rfl
  | x :: ns => by
    show (shp n (.int x) && shps n (dI ns)) = true
    rw [shps_dI n ns]
    cases n <;> rfl
theorem shp_shaped {n : Nat} {d : D} (h : shp n d = true) (hn : n < 64) : SeqAt.shaped (py d) = true := by
  obtain ⟨_, b, c⟩ := shp_ok n d h
  unfold SeqAt.shaped
  rw [b, decide_eq_true (by omega)]
  rfl
theorem od_eqSame {K : PySem.W.Frag} {n : Nat} {a b : D} (h : shp n a = true) (h2 : shp n b = true) (hn : n < 64) (e : py a = py b) : OpD K (rEqD K) a b (.bl true) := by
  have q := od_eqD (K := K) (shp_ok n a h).1 (shp_ok n b h2).1 (shp_shaped h hn) (shp_shaped h2 hn)
  rw [← e, SeqAt.eqv_refl _ (shp_ok n a h).2.1] at q
  exact q
theorem od_neSame {K : PySem.W.Frag} {n : Nat} {a b : D} (h : shp n a = true) (h2 : shp n b = true) (hn : n < 64) (e : py a = py b) : OpD K (rNeD K) a b (.bl false) := by
  have q := od_neD (K := K) (shp_ok n a h).1 (shp_ok n b h2).1 (shp_shaped h hn) (shp_shaped h2 hn)
  rw [← e, SeqAt.eqv_refl _ (shp_ok n a h).2.1] at q
  exact q
theorem ed_lst {K : PySem.W.Frag} {η : Env} {ta : TA} {as : List D} (ha : EvA K ta η as) (hl : as.length ≤ sizeLine) : EvD K (tLst ta) η (.lst as) := EvL.data (el_lst ha hl)
/-! ### a dict comprehension that is assigned; pair targets -/
theorem swD {kx vx : Expr} {gs : List Comprehension} {scope : Scope} {pos py : Pos} {y : Str} {l : Nat} {env : PySem.Env} (hk : env.scope.kind = .function) (hy : env.scope.names.lookup y = some .local) (hl : (py.line == pos.line) = true)
    (ha : (scope.names.any fun (n, k) => n == y && (k == .local || k == .cell)) = false) : swapsWith (.DictComp kx vx gs scope pos) (some (.Name y py)) l env = pure true := by
  have ky : env.kindOf y = some .local := hy
  have hb : env.blockKind = .function := by unfold Env.blockKind; rw [hk]; rfl
  unfold swapsWith
  simp only [hb, ky, ha, Expr.pos, hl]
  rfl
theorem ps_setDc {X : Cx} {i : Nat} {y : Str} {py : Pos} {kx vx tg iter : Expr} {ifs : List Expr} {scope : Scope} {own : List (Str × Nat)} {pos spos : Pos} {wi : TI} {g : TG} {tt : TT} {tk tv : TE} (hc : X.calm = true) (hN : X.N.Nodup) (hy : X.N[i]? = some y) (hyl : X.env.scope.names.lookup y = some .local)
    (hsw : swapsWith (.DictComp kx vx [⟨tg, iter, ifs, 0⟩] scope pos) (some (.Name y py)) spos.line X.env = pure true) (hi : PI X tg iter wi) (ok : BlkOk X.N X.env.scope scope own)
    (hg : ∀ (s : Shared) (H : Hp) (C : Addr) (cl : List (Str × Addr)) (fp : List Addr), PG (X.blk s H scope (compEnvC scope cl C X.env) fp) tg g) (ht : ∀ (s : Shared) (H : Hp) (C : Addr) (cl : List (Str × Addr)) (fp : List Addr), PTs (X.blk s H scope (compEnvC scope cl C X.env) fp) ifs tt)
    (hk : ∀ (s : Shared) (H : Hp) (C : Addr) (cl : List (Str × Addr)) (fp : List Addr), PE (X.blk s H scope (compEnvC scope cl C X.env) fp) kx tk)
    (he : ∀ (s : Shared) (H : Hp) (C : Addr) (cl : List (Str × Addr)) (fp : List Addr), PE (X.blk s H scope (compEnvC scope cl C X.env) fp) vx tv) (hs : ∀ x, foldedSetIterable iter X.env x = pure x := by intro _; rfl) :
    PS X (.Assign [.Name y py] (.DictComp kx vx [⟨tg, iter, ifs, 0⟩] scope pos) spos) (tAsg (tDc wi g tt tk tv (own.map (·.2))) (gName i)) := by
  refine ⟨fun pins s σ H D I h => ?_⟩
  rw [exec_Assign_Name_used _ _ _ _ hsw]
  refine wpAny_bind (wpAny_standAt (wpAny_bind ?_))
  show wpAny _ X.A (do let _ ← comprehension (.DictComp kx vx [⟨tg, iter, ifs, 0⟩] scope pos) scope X.env (firstIterPos [⟨tg, iter, ifs, 0⟩] pos) newDict false (eval iter X.env) (some (assign (.Name y py) X.env))) _ _ s
  have h : tDc wi g tt tk tv (own.map (·.2)) σ H (fun x H1 => gName i x σ H1 D.nx) := h
  refine wpAny_bind (thn (dc_core (Qf := fun _ s' => SP X pins D .next s') hc hN I hi ok hg ht hk he hs h fun L C s' m H' I' q hn f => ?_) fun _ s' hq => wpAny_pure (wpAny_pure hq))
  show wpAny _ _ (assign (.Name y py) X.env (.ref L)) _ _ _
  refine wpAny_assign_Name (store_ok2 (v := V.ref L) I' hN hy (.inl hyl) rfl (fun s2 I2 ⟨a, sb, ha⟩ => ?_) (.inr hyl))
  obtain ⟨f0, f1, f2, f3, f4, f5⟩ := f
  have haC : C ≠ a := by
    rcases ha with z | z
    · rw [z]; exact f1
    · exact fun e => f4 y a z e.symm
  refine ⟨m, hn.sameBut sb haC, fun h3 sb3 => ?_⟩
  exact ⟨_, H', I2.turned (t' := s2.toks) (fun b o hb e => (sb3.2 b hb).trans e) f0 f1 f3 f4 f5, q⟩
theorem pg_tupC {X : Cx} {K : PySem.W.Frag} {es : List Expr} {k : Nat} {t : TGs} {n : Nat} {pos : Pos} (hK : X.K = K) (hc : X.calm = true) (h : PGs X es t)
    (hn : (assignEach es X.env).length = n := by rfl) (hst : (assignEach es X.env).findIdx? (·.1) = none := by rfl) : PG X (.Tuple es k pos) (gTup K n t) := by subst hK; exact pg_tup hc h hn hst
end DL

set_option Elab.async false
set_option linter.all false
set_option maxRecDepth 100000
set_option maxHeartbeats 4000000
/-! DL7: // and lcm of numbers of any size. -/
namespace DL
open PySem PySem.Spec PyProof.Rows L2

/-- what the text's objects must say so that nobody looks into a great division -/
def seerB (K : PySem.W.Frag) : Bool :=
  (PySem.W.nsOkIn K cStatics && (PySem.W.nsIn K cStatics "sys.audit-hooks" == some none) && (PySem.W.nsIn K cStatics "sys.dict" == some none)) &&
  ((PySem.W.nsOkIn K sysModules && (PySem.W.nsIn K sysModules "_pylong" == some none)) &&
  (match PySem.W.nsIn K mainGlobals "__builtins__" with
    | some (some (.ref bm)) => (match K.lookup bm with
      | some ob => (ob.cls == .type "module") && (ob.dict == some builtinsNs)
      | none => false)
    | _ => false))
theorem noSeer_of {K : PySem.W.Frag} {mg : Str → Option Value} {base : Heap} (M : Mod K mg base) (h : seerB K = true) : base.NoSeer := by
  unfold seerB at h
  obtain ⟨h1, h2⟩ := Bool.and_eq_true_iff.mp h
  obtain ⟨h2, h3⟩ := Bool.and_eq_true_iff.mp h2
  obtain ⟨h1, a3⟩ := Bool.and_eq_true_iff.mp h1
  obtain ⟨a1, a2⟩ := Bool.and_eq_true_iff.mp h1
  obtain ⟨b1, b2⟩ := Bool.and_eq_true_iff.mp h2
  refine ⟨⟨_, .of_isNs (PySem.W.isNs_of_in M.kin a1), PySem.W.nsMap_none_of_in M.kin a1 (beq_iff_eq.mp a2), PySem.W.nsMap_none_of_in M.kin a1 (beq_iff_eq.mp a3)⟩,
    ⟨_, .of_isNs (PySem.W.isNs_of_in M.kin b1), PySem.W.nsMap_none_of_in M.kin b1 (beq_iff_eq.mp b2)⟩, M.blt, ?_⟩
  split at h3
  · rename_i bm e
    split at h3
    · rename_i ob eo
      obtain ⟨c1, c2⟩ := Bool.and_eq_true_iff.mp h3
      exact ⟨_, bm, ob, M.glob, PySem.W.mg_of M.kin M.glob e, M.kin _ _ eo, beq_iff_eq.mp c1, beq_iff_eq.mp c2⟩
    · cases h3
  · cases h3

/-- room for such a division -/
structure PyF (P : Program) (K : PySem.W.Frag) (stack : List PySem.Env) (A : Around) : Prop where
  tree : P.given.tree = none
  sb : seerB K = true
  fr : ∃ env l, stack = env :: l ∧ env.scope.isGenerator = false ∧ env.scope.isCoroutine = false ∧ env.builtins = builtinsNs ∧ env.globals = mainGlobals
  dp : A.depth + 100 < recursionLimit
/-- the same of a program -/
structure Nos (P : Program) (K : PySem.W.Frag) : Prop where
  tree : P.given.tree = none
  sb : seerB K = true
theorem py_of {P : Program} {K : PySem.W.Frag} {qual : Str} {scope : Scope} {f : Addr} {cdv : Value} {A : Around} {outer : List PySem.Env} {n k : Nat} (N : Nos P K)
    (hr : Room k (A.deeper (envOfC qual scope n f cdv))) (hk : 32 ≤ k) (hg : scope.isGenerator = false) (hc : scope.isCoroutine = false) : PyF P K (envOfC qual scope n f cdv :: outer) (A.deeper (envOfC qual scope n f cdv)) :=
  ⟨N.tree, N.sb, ⟨_, _, rfl, hg, hc, rfl, rfl⟩, by have := hr.dp; omega⟩
section
variable {X : Cx} {pins : List (Addr × Obj)} {σ : List (Option V)} {H : Hp} {s : Shared}
theorem seer_at (hp : PyF X.prog X.K X.stack X.A) (I : Inv X pins σ H s) : SeerAt (model X.prog X.w) X.A s.heap := by
  obtain ⟨env, l, e, g1, g2, g3, g4⟩ := hp.fr
  exact SeerAt.of ((noSeer_of I.ok.mod hp.sb).keeps I.bk) hp.tree (by rw [I.ok.frames, e]) g1 g2 g3 g4
/-- // by a number above zero, of any size -/
theorem op_fdivX (hp : PyF X.prog X.K X.stack X.A) : OpR X (binaryOp .FloorDiv) (rI (fun _ j => 0 < j) fun i j => .int (i / j)) := by
  intro pins s σ H x y v u Q I rx ry h
  obtain ⟨i, j, rfl, rfl, hc, q⟩ := h
  obtain ⟨t, rfl⟩ := rx
  obtain ⟨t', rfl⟩ := ry
  refine floordiv_int (by omega) ?_ (.inr (PylongRoom.of I.nolimit hp.dp (seer_at hp I)))
  rw [Int.fdiv_eq_ediv_of_nonneg i (by omega)]
  exact ⟨.int _, H, I.tok _, ⟨_, rfl⟩, q⟩
end
/-- room for a great divisor's inverse -/
def InvRoom (M : Model) (A : Around) (s : Shared) : Prop :=
  ∀ (u n : Nat) (E : Value → Shared → Prop) (Q : Unit → Shared → Prop), Q () s → wpAny M { A with units := u } (Builtin.roomForPylongsInverse n) Q E s
theorem InvRoom.of {M : Model} {A : Around} {s : Shared} (hl : s.heap.NoLimit) (hd : A.depth + Builtin.pylongFrames < recursionLimit) (hs : SeerAt M A s.heap) : InvRoom M A s := fun u n E Q h => by
  unfold Builtin.roomForPylongsInverse
  by_cases hb : n.log2 / 30 + 1 > 450
  · rw [if_pos hb]
    refine wpAny_bind (hs u s E _ rfl ?_)
    exact wpAny_pylongFrames (A := { A with units := u }) hl hd h
  · rw [if_neg hb]
    exact wpAny_pure h
section
variable {prog : Program} {w : World}
theorem lcm_in (a b : Int) (t u : Tok) (hsz : ((((Nat.lcm 1 a.natAbs).lcm b.natAbs : Nat) : Int)).natAbs.log2 < bitsLine) :
    MeetsIn prog w (Builtin.«math.lcm» ⟨[.int a t, .int b u], []⟩) (fun A R s => InvRoom (model prog w) A s ∧ R (.ok (.ret (.int ((((Nat.lcm 1 a.natAbs).lcm b.natAbs : Nat) : Int)) s.toks))) { s with toks := s.toks + 1 }) :=
  .of_wp fun A R s h => by
    obtain ⟨hp, g, d, tk, os⟩ := s
    obtain ⟨hroom, h⟩ := h
    have r1 : ∀ (n : Nat) (E : Value → Shared → Prop) (Q : Unit → Shared → Prop), Q () (Shared.mk hp g d tk os) → wpAny (model prog w) A.in1 (Builtin.roomForPylongsInverse n) Q E (Shared.mk hp g d tk os) := fun n E Q q => hroom _ n E Q q
    wp_walk using (r1 _ _ _)
    all_goals first | (refine wpAny_ite_false (decide_eq_false (Nat.not_le.mpr hsz)) ?_; wp_walk) | skip
    exact ⟨_, rfl, h⟩
end
section
variable {X : Cx}
/-- math.lcm of two numbers of any size below the line -/
def rLcmX : List V → Hp → VK → Prop := fun vs H Q => ∃ a b : Int, vs = [.int a, .int b] ∧ (a.natAbs < 2 ^ 400000 ∧ b.natAbs < 2 ^ 400000) ∧ Q (.int ((Nat.lcm a.natAbs b.natAbs : Nat) : Int)) H
theorem lcm_small {a b : Nat} (ha : a < 2 ^ 400000) (hb : b < 2 ^ 400000) : (Nat.lcm a b).log2 < bitsLine := by
  have hle : Nat.lcm a b ≤ a * b := Nat.div_le_self _ _
  have hlt : Nat.lcm a b < 2 ^ 800000 := by
    refine Nat.lt_of_le_of_lt hle ?_
    rw [show (800000 : Nat) = 400000 + 400000 from rfl, Nat.pow_add]
    exact Nat.mul_lt_mul'' ha hb
  rw [PySem.bitsLine_eq]
  by_cases h0 : Nat.lcm a b = 0
  · rw [h0, Nat.log2_zero]; decide
  · have := (Nat.log2_lt h0).mpr hlt
    omega
theorem cr_lcmX (hp : PyF X.prog X.K X.stack X.A) : CallR X (.builtin "math.lcm") rLcmX := by
  intro pins s σ H vs us Q I r h
  obtain ⟨a, b, rfl, hz, q⟩ := h
  obtain ⟨t, u, rfl⟩ := Vals.int2 r
  have e1 : Nat.lcm 1 a.natAbs = a.natAbs := Nat.lcm_one_left _
  have hsz : (((((Nat.lcm 1 a.natAbs).lcm b.natAbs : Nat) : Int))).natAbs.log2 < bitsLine := by
    rw [e1, Int.natAbs_natCast]
    exact lcm_small hz.1 hz.2
  have ok := PySem.W.MGF.args_lcm (.int a t) (.int b u)
  refine wpAny_call (codeAny_call_builtin PySem.W.MGF.plain_lcm PySem.W.MGF.entry_lcm ?_)
  have fin := fun (R : Result → Shared → Prop) (hR : R (.ok (.ret (.int ((Nat.lcm a.natAbs b.natAbs : Nat) : Int) s.toks))) { s with toks := s.toks + 1 }) => lcm_in (prog := X.prog) (w := X.w) a b t u hsz X.A R s ⟨InvRoom.of I.nolimit hp.dp (seer_at hp I), by rw [e1]; exact hR⟩
  unfold checkBuiltinCall
  unfold argsOk at ok
  rw [PySem.W.MGF.kind_lcm]
  generalize Manifest.signature? "math.lcm" = sg at ok
  cases sg with
  | none =>
    refine wpAny_pure (fin (wants _ _) ?_)
    exact ⟨.int _, H, I.tok _, ⟨_, rfl⟩, q⟩
  | some g =>
    have ok : Bind.checkArgs "math.lcm" g ⟨[.int a t, .int b u], []⟩ = pure () := ok
    show wpAny _ _ (Bind.checkArgs "math.lcm" g ⟨[.int a t, .int b u], []⟩) _ _ s
    rw [ok]
    refine wpAny_pure (fin (wants _ _) ?_)
    exact ⟨.int _, H, I.tok _, ⟨_, rfl⟩, q⟩
/-! on data -/
theorem od_divX {K : PySem.W.Frag} {i j : Int} (h : 0 < j) : OpD K (rI (fun _ j => 0 < j) fun i j => .int (i / j)) (.int i) (.int j) (.int (i / j)) := od_I h
theorem cd_lcmX {K : PySem.W.Frag} {a b : Int} (ha : a.natAbs < 2 ^ 400000) (hb : b.natAbs < 2 ^ 400000) : CbD K rLcmX [.int a, .int b] (.int ((Nat.lcm a.natAbs b.natAbs : Nat) : Int)) := fun xs H H1 rx e Q q => by
  cases rx with
  | cons r1 t =>
    cases t with
    | cons r2 t =>
      cases t
      cases r1
      cases r2
      exact ⟨a, b, rfl, ⟨ha, hb⟩, q _ H H1 (Gr.refl e) (.int _)⟩
end
end DL

set_option Elab.async false
set_option linter.all false
set_option maxRecDepth 100000
set_option maxHeartbeats 4000000
/-! DL8: loops over a list or a tuple, whichever is handed in. -/
namespace DL
open PySem PySem.Spec PyProof.Rows L2
def iSeq (K : PySem.W.Frag) (tl : TE) : TI := fun σ H R => tl σ H fun x H1 => ∃ a, x = .ref a ∧ (((∃ xs, SqL K H1 a xs) ∧ R (Itl K a) H1) ∨ ((∃ xs, SqT K H1 a xs) ∧ R (Itt K a) H1))
theorem pi_seqC {X : Cx} {K : PySem.W.Frag} {tg l : Expr} {tl : TE} (hK : X.K = K) (hl : PE X l tl) : PI X tg l (iSeq K tl) := by
  subst hK
  constructor
  intro pins s σ H R I h
  refine thn (hl.run pins s σ H _ I h) ?_
  rintro v t ⟨x, Hx, J, rx, a, rfl, hq⟩
  cases rx
  have fr : ∀ c ∈ [t.heap.objs.size], FpOk _ _ _ c := fun c hc => by
    cases (List.mem_singleton.mp hc)
    exact J.fpOk (Nat.le_refl _) (J.hok.fresh (Nat.le_refl _))
  rcases hq with ⟨⟨xs, hx⟩, q⟩ | ⟨⟨xs, hx⟩, q⟩
  · obtain ⟨us, ru, pu, zu⟩ := J.list hx
    refine wpAny_pyIter_list pu.isList ⟨t.heap.objs.size, [t.heap.objs.size], _, _, Hx, rfl, ?_, turn_list a _, ⟨_, Heap.get?_push_size _ rfl, rfl, rfl⟩, fr, q⟩
    exact J.kept (t' := t.toks) fun b o e => Heap.get?_push_of_some _ e
  · obtain ⟨us, ru, pu, zu⟩ := J.tuple hx
    refine wpAny_pyIter_tuple (show t.heap.IsTuple a us.toArray from pu) ⟨t.heap.objs.size, [t.heap.objs.size], _, _, Hx, rfl, ?_, turn_tuple a _, ⟨_, Heap.get?_push_size _ rfl, rfl, rfl⟩, fr, q⟩
    exact J.kept (t' := t.toks) fun b o e => Heap.get?_push_of_some _ e
section
variable {K : PySem.W.Frag} {η : Env} {t : TT} {te : TE} {ds : List D} {k : Bool}
theorem rp_seq {H : Hp} {x : V} (r : Rp K H x (seqD k ds)) : ∃ p ws, x = .ref p ∧ Rps K H ws ds ∧ ((k = false ∧ SqL K H p ws) ∨ (k = true ∧ SqT K H p ws)) := by
  cases k with
  | true =>
    have r : Rp K H x (.tup ds) := r
    cases r with
    | tup h rs => exact ⟨_, _, rfl, rs, .inr ⟨rfl, h⟩⟩
  | false =>
    have r : Rp K H x (.lst ds) := r
    cases r with
    | lst h rs => exact ⟨_, _, rfl, rs, .inl ⟨rfl, SqL.of h⟩⟩
theorem el_lcQ {tl : TE} {tg : TG} {vs : List Nat} (f : Nat → Bool) (v : Nat → D) (h : EvD K tl η (seqD k ds)) (hz : ds.length ≤ 10000000)
    (hs : ∀ (i : Nat) (d : D), ds[i]? = some d → ∃ η', TgD K vs tg (wipeE η vs) d η' ∧ EvT K t η' (f i) ∧ (f i = true → EvD K te η' (v i))) : EvL K (tLc (iSeq K tl) tg t te vs) η (given ds.length f v) := fun H σ Ha er e Q q =>
  h H σ Ha er e _ fun x H0 H1 g rx => by
    obtain ⟨p, ws, rfl, rs, hp⟩ := rp_seq rx
    have turn : ∀ (Dl : Addr) (i : Nat) (x : V) (H' : Hp), ws[i]? = some x → Cw K H0 H1 f v Dl i H' → tg x (L2.wipe σ vs) H' fun σ2 H2 => L2.wipe σ2 vs = L2.wipe σ vs ∧ t σ2 H2 fun b H3 =>
        if b = true then te σ2 H3 fun y H4 => ∃ acc, H4 Dl = some (.lst acc) ∧ acc.length < sizeLine ∧ Cw K H0 H1 f v Dl (i + 1) (upd H4 Dl (.lst (acc ++ [y]))) else Cw K H0 H1 f v Dl (i + 1) H3 := fun Dl i x H' hi p => by
      obtain ⟨d, hd, rd⟩ := rs.getV hi
      obtain ⟨η', htg, ht, he⟩ := hs i d hd
      have hl : i < ds.length := (List.getElem?_eq_some_iff.mp hd).1
      have p2 := p
      obtain ⟨_, Hm, _, g2, _⟩ := p2
      refine htg x H0 _ H' ((er.mono g.kn).wipe vs) rd (g2.kn.trans g2.inn) _ fun σ' er' hw => ⟨hw.trans wipe_wipe, ?_⟩
      exact cw_turn p (by omega) (fun Hm e1 _ => er'.mono e1) ht he
    have fin : ∀ (Dl : Addr) (H' : Hp), Cw K H0 H1 f v Dl ws.length H' → Q (.ref Dl) H' := fun Dl H' p => cw_end g (by rw [← rs.length]; exact p) q
    rcases hp with ⟨_, hp⟩ | ⟨_, hp⟩
    · exact ⟨p, rfl, .inl ⟨⟨ws, ex_l g.inn hp⟩, fun Dl hD => lc_list (xs := ws) (Cw K H0 H1 f v Dl) (cw_start g.inn hD) (fun i H' _ ⟨_, Hm, _, g2, _⟩ => ex_l (g2.kn.trans g2.inn) hp) (turn Dl) (fin Dl)⟩⟩
    · exact ⟨p, rfl, .inr ⟨⟨ws, ex_t g.inn hp⟩, fun Dl hD => lc_tup (xs := ws) (Cw K H0 H1 f v Dl) (cw_start g.inn hD) (fun i H' _ ⟨_, Hm, _, g2, _⟩ => ex_t (g2.kn.trans g2.inn) hp) (turn Dl) (fin Dl)⟩⟩
end
section
variable {K : PySem.W.Frag} {ρ : List Sl} {D : DE} {ds : List DL.D} {k : Bool} {i : Nat} {tb : TS}
theorem sd_forQg {tl : TE} {g : TG} (js : List Nat) (h : EvD K tl (shE ρ) (seqD k ds)) (I : Nat → List Sl → Prop) (h0 : I 0 (fg js ρ))
    (hs : ∀ m d ρ', ds[m]? = some d → I m ρ' → ∃ ρ1, TgS K g ρ' d ρ1 ∧ SD K tb ρ1 { D with nx := fun ρ2 => I (m + 1) (fg js ρ2), ct := fun ρ2 => I (m + 1) (fg js ρ2), bk := fun ρ2 => D.nx (fg js ρ2) }) (hd : ∀ ρ', I ds.length ρ' → D.nx ρ') : SD K (tFor (iSeq K tl) g tb) ρ D := fun HE HE1 H H1 σ E ss n b c r =>
  h H σ H1 ss.er ss.ex _ fun x H0 H2 g2 rx => by
    obtain ⟨p, ws, rfl, rs, hp⟩ := rp_seq rx
    have turn : ∀ m x σ' H', ws[m]? = some x → Lw K HE HE1 H0 I m σ' H' → g x σ' H' fun σ2 H2 => tb { nx := Lw K HE HE1 H0 I (m + 1), ct := Lw K HE HE1 H0 I (m + 1), bk := E.nx, rt := E.rt } σ2 H2 := fun m x σ' H' hx ⟨ρ', H3, e, hI, s3⟩ => by
      obtain ⟨d, hd', rd⟩ := rs.getV hx
      obtain ⟨ρ1, tg, sd⟩ := hs m d ρ' hd' hI
      refine tg x HE HE1 H3 H' σ' s3 (rd.mono e) _ fun σ2 s4 => ?_
      exact sd HE HE1 H3 H' σ2 _ s4 (fun ρ3 H4 H14 σ3 q e4 s5 => ⟨_, H4, e.trans e4, q, s5.fg js⟩) (fun ρ3 H4 H14 σ3 q e4 s5 => n _ H4 H14 σ3 q ((g2.kn.trans e).trans e4) (s5.fg js)) (fun ρ3 H4 H14 σ3 q e4 s5 => ⟨_, H4, e.trans e4, q, s5.fg js⟩) r
    have fin : ∀ σ' H', Lw K HE HE1 H0 I ws.length σ' H' → E.nx σ' H' := fun σ' H' ⟨ρ', H3, e, hI, s3⟩ => n ρ' H3 H' σ' (hd ρ' (by rw [← rs.length]; exact hI)) (g2.kn.trans e) s3
    rcases hp with ⟨_, hp⟩ | ⟨_, hp⟩
    · exact ⟨p, rfl, .inl ⟨⟨ws, ex_l g2.inn hp⟩, for_list (Lw K HE HE1 H0 I) ⟨_, H0, Ex.refl _, h0, (ss.step g2).fg js⟩ (fun m σ' H' _ ⟨ρ', H3, e, _, s3⟩ => ex_l (e.trans s3.ex) hp) turn fin⟩⟩
    · exact ⟨p, rfl, .inr ⟨⟨ws, ex_t g2.inn hp⟩, for_tup (Lw K HE HE1 H0 I) ⟨_, H0, Ex.refl _, h0, (ss.step g2).fg js⟩ (fun m σ' H' _ ⟨ρ', H3, e, _, s3⟩ => ex_t (e.trans s3.ex) hp) turn fin⟩⟩
theorem sd_forQn {tl : TE} (js : List Nat) (h : EvD K tl (shE ρ) (seqD k ds)) (I : Nat → List Sl → Prop) (h0 : I 0 (fg js ρ))
    (hs : ∀ m d ρ', ds[m]? = some d → I m ρ' → SD K tb (ρ'.set i (.sh d)) { D with nx := fun ρ2 => I (m + 1) (fg js ρ2), ct := fun ρ2 => I (m + 1) (fg js ρ2), bk := fun ρ2 => D.nx (fg js ρ2) }) (hd : ∀ ρ', I ds.length ρ' → D.nx ρ') : SD K (tFor (iSeq K tl) (gName i) tb) ρ D :=
  sd_forQg js h I h0 (fun m d ρ' hx hI => ⟨_, ts_name, hs m d ρ' hx hI⟩) hd
end
section
variable {K : PySem.W.Frag} {η : Env} {t : TT} {te : TE}
/-- a comprehension over range(lo, hi) -/
theorem el_lcR2 {ta : TA} {tg : TG} {vs : List Nat} {lo hi : Int} (f : Nat → Bool) (v : Nat → D) (h : EvA K ta η [.int lo, .int hi]) (h1 : -10000000 ≤ lo ∧ lo ≤ 10000000) (h2 : -10000000 ≤ hi ∧ hi ≤ 10000000) (hz : hi - lo ≤ 10000000)
    (hs : ∀ (i : Nat), (i : Int) < hi - lo → ∃ η', TgD K vs tg (wipeE η vs) (.int (lo + i)) η' ∧ EvT K t η' (f i) ∧ (f i = true → EvD K te η' (v i))) : EvL K (tLc (iRng2 ta) tg t te vs) η (given (hi - lo).toNat f v) := fun H σ Ha er e Q q =>
  h H σ Ha er e _ fun xs H0 H1 g rx => by
    cases rx with
    | cons rx tt =>
    cases tt with
    | cons ry tt =>
    cases tt
    cases rx
    cases ry
    refine ⟨lo, hi, rfl, by omega, fun Dl hD => lc_range (lo := lo) (n := (hi - lo).toNat) (Cw K H0 H1 f v Dl) (cw_start g.inn hD) (fun i H' hi p => ?_) (fun H' p => cw_end g p q)⟩
    obtain ⟨η', htg, ht, he⟩ := hs i (by omega)
    have p2 := p
    obtain ⟨_, Hm, _, g2, _⟩ := p2
    refine htg _ H0 _ H' ((er.mono g.kn).wipe vs) (.int (lo + (i : Int))) (g2.kn.trans g2.inn) _ fun σ' er' hw => ⟨hw.trans wipe_wipe, ?_⟩
    exact cw_turn p (by omega) (fun Hm e1 _ => er'.mono e1) ht he
end
end DL

set_option Elab.async false
set_option linter.all false
set_option maxRecDepth 100000
set_option maxHeartbeats 4000000
/-! DLH: what the head shows of the top's objects, of the statics and of the modules. -/
namespace DL
open PySem PySem.Spec PyProof.Rows L2
def asS (g : Addr → Option Obj) (n : Nat) : List Addr := He.asD g n ++ [cStatics, sysModules]
abbrev AlS : Type := He.AlD × Bool
def obsS (n : Nat) (fa : List He.Fa) (fn : List He.DefD) (ex : PySem.W.Frag → Bool) (g : Addr → Option Obj) : AlS := (He.obsD fa fn (He.frG g (asS g n)), ex (He.frG g (asS g n)))
structure SaysS (fa : List He.Fa) (fn : List He.DefD) (ex : PySem.W.Frag → Bool) (K : PySem.W.Frag) : Prop where
  d : He.SaysD fa fn K
  more : ex K = true
def hookS (n : Nat) (fa : List He.Fa) (fn : List He.DefD) (ex : PySem.W.Frag → Bool) : PySem.W.Hook where
  α := AlS
  obs := fun s => obsS n fa fn ex s.heap.get?
  val := fun _ => (He.valD fn, true)
  says := fun _ h => ∃ K : PySem.W.Frag, K.In h ∧ SaysS fa fn ex K
  of := fun _ s e => ⟨He.frG s.heap.get? (asS s.heap.get? n), He.frG_in, congrArg (fun z : AlS => z.1) e, congrArg (fun z : AlS => z.2) e⟩
  keeps := fun _ _ _ ⟨K, hK, c⟩ k => ⟨K, PySem.W.Frag.In.keeps hK k, c⟩
theorem obsS_eq {n : Nat} {fa : List He.Fa} {fn : List He.DefD} {ex : PySem.W.Frag → Bool} {g : Addr → Option Obj} {s : Shared} (h : ∀ a, g a = s.heap.get? a) : obsS n fa fn ex g = (hookS n fa fn ex).obs s := by
  rw [show g = s.heap.get? from funext h]
  rfl
end DL

set_option Elab.async false
set_option linter.all false
set_option maxRecDepth 100000
set_option maxHeartbeats 4000000
/-! DL9: // by any number but zero; keywords of a def with defaults; list(range(n)). -/
namespace DL
open PySem PySem.Spec PyProof.Rows L2
section
variable {X : Cx}
theorem op_fdivN (hp : PyF X.prog X.K X.stack X.A) : OpR X (binaryOp .FloorDiv) (rI (fun _ j => j ≠ 0) fun i j => .int (i.fdiv j)) := by
  intro pins s σ H x y v u Q I rx ry h
  obtain ⟨i, j, rfl, rfl, hc, q⟩ := h
  obtain ⟨t, rfl⟩ := rx
  obtain ⟨t', rfl⟩ := ry
  exact floordiv_int hc ⟨.int _, H, I.tok _, ⟨_, rfl⟩, q⟩ (.inr (PylongRoom.of I.nolimit hp.dp (seer_at hp I)))
end
theorem od_divN {K : PySem.W.Frag} {i j : Int} (h : j ≠ 0) : OpD K (rI (fun _ j => j ≠ 0) fun i j => .int (i.fdiv j)) (.int i) (.int j) (.int (i.fdiv j)) := od_I h
theorem calK_ofD {P : Program} {w : World} {K : PySem.W.Frag} {mg : Str → Option Value} {base : Heap} {k : Nat} {x qual : Str} {params : Arguments} {body : List Stmt} {scope : Scope} {f : Addr} {ps ks : List Str} {sp : Sp} {gV : List V → List V} {dvs : List V}
    (C : Cal P w K mg base k x ps sp) (F : ∃ fd, FunD K x qual params body scope dvs [] f fd) (hm : mg x = some (.ref f)) (g : {α : Type} → List α → List α → List α → List α) (hd : dvs ≠ [])
    (hrel : ∀ {vs ds zs : List V} {us its ws : List Value}, Vals vs us → Vals ds its → Vals zs ws → Vals (g vs ds zs) (g us its ws))
    (h : ∀ (T : Addr) (kV doc pm : Value) (an : Option Addr) (cdv ct : Value) (us its ws : List Value), us.length = 0 → its.length = dvs.length → ws.length = ks.length →
      ∃ k, bindArgs (PySem.W.fnOf x qual params body scope (.ref T) kV doc pm an cdv ct) ⟨us, ks.zip ws⟩ = seqItems? (.ref T) >>= k ∧ k (some its.toArray) = pure (ps.zip (g us its ws)))
    (hg : ∀ zs : List V, g [] dvs zs = gV zs) : CalK P w K mg base k x ps ks sp gV := by
  obtain ⟨fd, F⟩ := F
  obtain ⟨f', fd', ds, hm', hk, Fo, b, hd', oc, od, osl, lk⟩ := C.ex
  rw [hm] at hm'
  cases hm'
  obtain ⟨oc2, od2, osl2, lk2⟩ := fd_at F
  rw [lk] at lk2
  cases lk2
  obtain ⟨its, kb⟩ := F.kbindsD (ps := ps) 0 ks g hd hrel h
  exact ⟨⟨f, fd, _, _, hm, hk, Fo, kb, hg⟩⟩
theorem vals_two {α β : Type} {R : α → β → Prop} {a b : α} {c d : β} (x : R a c) (y : R b d) : Paired R [a, b] [c, d] := .cons x (.cons y .nil)
/-- list(range(n)) -/
theorem el_listRg {K : PySem.W.Frag} {η : Env} {ta : TE} {n : Nat} (h : EvD K ta η (.int n)) (hn : n ≤ 10000000) : EvL K (tLstRg (tRg1 ta)) η (dI ((List.range n).map fun i => ((i : Nat) : Int))) := fun H σ H1 er e Q q =>
  h H σ H1 er e _ fun v Hn H2 g rv => by
    cases rv
    refine ⟨n, rfl, ⟨by omega, by omega, by omega, by omega, by omega⟩, fun p hp => ?_⟩
    refine q p (rgV 0 n) Hn _ ⟨g.kn, g.inn.mut (g.inn.back hp), g.all.mut (g.all.back hp), g.new⟩ (g.all.back hp) (g.inn.back hp) upd_same ?_
    have e : rgV 0 (n : Int) = ((List.range n).map fun i => ((i : Nat) : Int)).map V.int := by
      unfold rgV
      rw [show ((n : Int) - 0).toNat = n by omega, List.map_map]
      exact List.map_congr_left fun i _ => by show V.int (0 + (i : Int)) = V.int (i : Int); rw [Int.zero_add]
    rw [e]
    exact Rps.ofInts
end DL

set_option Elab.async false
set_option linter.all false
set_option maxRecDepth 100000
set_option maxHeartbeats 4000000
/-! plain mathematics of the law's helpers: digits, the greatest common divisor by turns, sums -/
namespace M
open L2
/-- below a power of two, by size -/
def Sm (n : Nat) (x : Int) : Prop := x.natAbs < 2 ^ n
theorem Sm.mono {m n : Nat} {x : Int} (h : Sm m x) (l : m ≤ n) : Sm n x := Nat.lt_of_lt_of_le h (Nat.pow_le_pow_right (by decide) l)
theorem Sm.mul {m n : Nat} {x y : Int} (h : Sm m x) (h2 : Sm n y) : Sm (m + n) (x * y) := by
  unfold Sm
  rw [Int.natAbs_mul, Nat.pow_add]
  exact Nat.mul_lt_mul'' h h2
theorem Sm.add {n : Nat} {x y : Int} (h : Sm n x) (h2 : Sm n y) : Sm (n + 1) (x + y) := by
  unfold Sm at *
  rw [Nat.pow_succ]
  omega
theorem Sm.neg {n : Nat} {x : Int} (h : Sm n x) : Sm n (-x) := by
  unfold Sm at *
  rw [Int.natAbs_neg]
  exact h
theorem Sm.mulW {m n : Nat} {x y : Int} (h : Sm m x) (h2 : Sm n y) (l : m + n ≤ 900000) : CMulW x y :=
  wide_mul (a := m + 1) (b := n + 1) (h.mono (Nat.le_succ _)) (h2.mono (Nat.le_succ _)) (Nat.succ_pos _) (Nat.succ_pos _) (by omega)
theorem Sm.of {n : Nat} {x : Int} (h1 : -(2 ^ n : Nat) < x) (h2 : x < (2 ^ n : Nat)) : Sm n x := by
  unfold Sm
  omega
theorem sm64 {x : Int} (h1 : -(2 ^ 64) < x) (h2 : x < 2 ^ 64) : Sm 64 x := by
  unfold Sm
  omega
theorem divW {x y : Int} {n : Nat} (h : 0 < y) (hy : Sm n y) (l : n ≤ 8999) : CDivW x y := wide_div (b := n + 1) h (hy.mono (Nat.le_succ _)) (Nat.succ_pos _) (by omega)
theorem mulS {x y : Int} (h1 : -(2 ^ 64) < x ∧ x < 2 ^ 64) (h2 : -(2 ^ 64) < y ∧ y < 2 ^ 64) : CMulW x y := (sm64 h1.1 h1.2).mulW (sm64 h2.1 h2.2) (by decide)
theorem mulP {x y z : Int} (h1 : -(2 ^ 64) < x ∧ x < 2 ^ 64) (h2 : -(2 ^ 64) < y ∧ y < 2 ^ 64) (h3 : -(2 ^ 64) < z ∧ z < 2 ^ 64) : CMulW (x * y) z :=
  (Sm.mul (sm64 h1.1 h1.2) (sm64 h2.1 h2.2)).mulW (sm64 h3.1 h3.2) (by decide)
theorem divS {x y : Int} (h : 0 < y) (h2 : y < 2 ^ 64) : CDivW x y := divW h (sm64 (by omega) h2) (by decide)

/-! ### a fold over a taken part -/
theorem foldl_take_succ {α β : Type} (f : β → α → β) (b : β) (l : List α) (m : Nat) (x : α) (h : l[m]? = some x) : (l.take (m + 1)).foldl f b = f ((l.take m).foldl f b) x := by
  rw [List.take_add_one, h, List.foldl_append]
  rfl
theorem foldl_take_all {α β : Type} (f : β → α → β) (b : β) (l : List α) : (l.take l.length).foldl f b = l.foldl f b := by rw [List.take_length]

/-! ### a cell of the script -/
def seedM (ns : List Int) : Int := ns.foldl (fun seed cell => (seed * 31 + cell % 1000003) % 1000003) 17
theorem seedM_lt (ns : List Int) : 0 ≤ seedM ns ∧ seedM ns < 1000003 := by
  have h : ∀ (l : List Int) (s : Int), 0 ≤ s ∧ s < 1000003 → 0 ≤ l.foldl (fun seed cell => (seed * 31 + cell % 1000003) % 1000003) s ∧ l.foldl (fun seed cell => (seed * 31 + cell % 1000003) % 1000003) s < 1000003 := by
    intro l
    induction l with
    | nil => intro s h; exact h
    | cons x l ih => intro s h; exact ih _ (show 0 ≤ (s * 31 + x % 1000003) % 1000003 ∧ (s * 31 + x % 1000003) % 1000003 < 1000003 by omega)
  exact h ns 17 (by decide)
def cellM (ns : List Int) (k : Nat) : Int := if k < ns.length then ns.getD k 0 else ((seedM ns + 7) * ((k : Int) + 3) * 69621) % 2147483647

/-! ### digits -/
def bigD : Int → List Int → List Int
  | _, [] => []
  | rest, s :: ss => (rest % s) :: bigD (rest / s) ss
def nextS (seed : Int) (k : Nat) : Int := (seed * 48271 + 974711 * (k : Int) + 12345) % 2147483647
def smallD : Int → Nat → List Int → List Int
  | _, _, [] => []
  | seed, k, s :: ss => ((nextS seed k * (nextS seed k / 65537 + 3)) % 2147483629 / 19 % s) :: smallD (nextS seed k) (k + 1) ss
def digitsM (cell : Int) (sizes : List Int) : List Int := if cell ≥ 10 ^ 18 then bigD (cell - 10 ^ 18) sizes else smallD (cell % 2147483629) 0 sizes
theorem bigD_len : ∀ (ss : List Int) (r : Int), (bigD r ss).length = ss.length
  | [], _ => rfl
  | s :: ss, r => congrArg Nat.succ (bigD_len ss (r / s))
theorem smallD_len : ∀ (ss : List Int) (r : Int) (k : Nat), (smallD r k ss).length = ss.length
  | [], _, _ => rfl
  | s :: ss, r, k => congrArg Nat.succ (smallD_len ss _ (k + 1))
theorem digitsM_len (c : Int) (ss : List Int) : (digitsM c ss).length = ss.length := by
  unfold digitsM
  split
  · exact bigD_len _ _
  · exact smallD_len _ _ _
theorem take_snoc {α : Type} {l : List α} {m : Nat} {x : α} (h : l[m]? = some x) : l.take (m + 1) = l.take m ++ [x] := by
  rw [List.take_add_one, h]
  rfl
def bigR (r : Int) (l : List Int) : Int := l.foldl (fun r s => r / s) r
theorem bigR_snoc (r s : Int) (l : List Int) : bigR r (l ++ [s]) = bigR r l / s := by
  unfold bigR
  rw [List.foldl_append]
  rfl
theorem bigD_snoc : ∀ (l : List Int) (r s : Int), bigD r (l ++ [s]) = bigD r l ++ [bigR r l % s]
  | [], r, s => rfl
  | x :: l, r, s => by
    show (r % x) :: bigD (r / x) (l ++ [s]) = (r % x) :: (bigD (r / x) l ++ [bigR (r / x) l % s])
    rw [bigD_snoc l]
def seedR : Int → Nat → List Int → Int
  | seed, _, [] => seed
  | seed, k, _ :: l => seedR (nextS seed k) (k + 1) l
theorem seedR_snoc : ∀ (l : List Int) (r : Int) (k : Nat) (s : Int), seedR r k (l ++ [s]) = nextS (seedR r k l) (k + l.length)
  | [], r, k, s => rfl
  | x :: l, r, k, s => by
    show seedR (nextS r k) (k + 1) (l ++ [s]) = nextS (seedR (nextS r k) (k + 1) l) (k + (l.length + 1))
    rw [seedR_snoc l, Nat.add_assoc, Nat.add_comm 1]
def pick (x s : Int) : Int := (x * (x / 65537 + 3)) % 2147483629 / 19 % s
theorem smallD_snoc : ∀ (l : List Int) (r : Int) (k : Nat) (s : Int), smallD r k (l ++ [s]) = smallD r k l ++ [pick (nextS (seedR r k l) (k + l.length)) s]
  | [], r, k, s => rfl
  | x :: l, r, k, s => by
    show (pick (nextS r k) x) :: smallD (nextS r k) (k + 1) (l ++ [s]) = (pick (nextS r k) x) :: (smallD (nextS r k) (k + 1) l ++ [pick (nextS (seedR (nextS r k) (k + 1) l) (k + (l.length + 1))) s])
    rw [smallD_snoc l, Nat.add_assoc, Nat.add_comm 1]
theorem nextS_lt (s : Int) (k : Nat) : 0 ≤ nextS s k ∧ nextS s k < 2147483647 := by
  unfold nextS
  omega
theorem seedR_lt : ∀ (l : List Int) (r : Int) (k : Nat), 0 ≤ r ∧ r < 2147483647 → 0 ≤ seedR r k l ∧ seedR r k l < 2147483647
  | [], _, _, h => h
  | _ :: l, r, k, _ => seedR_lt l _ _ (nextS_lt r k)
/-- each digit is below its size -/
theorem bigD_lt : ∀ (ss : List Int) (r : Int) (i : Nat) (s d : Int), (∀ s ∈ ss, 0 < s) → ss[i]? = some s → (bigD r ss)[i]? = some d → 0 ≤ d ∧ d < s
  | s :: ss, r, 0, _, _, hp, h1, h2 => by
    cases h1; cases h2
    have := hp s List.mem_cons_self
    exact ⟨Int.emod_nonneg _ (by omega), Int.emod_lt_of_pos _ this⟩
  | s :: ss, r, i + 1, s', d, hp, h1, h2 => bigD_lt ss (r / s) i s' d (fun x hx => hp x (List.mem_cons_of_mem _ hx)) h1 h2
  | [], _, _, _, _, _, h1, _ => by simp at h1
theorem smallD_lt : ∀ (ss : List Int) (r : Int) (k i : Nat) (s d : Int), (∀ s ∈ ss, 0 < s) → ss[i]? = some s → (smallD r k ss)[i]? = some d → 0 ≤ d ∧ d < s
  | s :: ss, r, k, 0, _, _, hp, h1, h2 => by
    cases h1; cases h2
    have := hp s List.mem_cons_self
    exact ⟨Int.emod_nonneg _ (by omega), Int.emod_lt_of_pos _ this⟩
  | s :: ss, r, k, i + 1, s', d, hp, h1, h2 => smallD_lt ss _ (k + 1) i s' d (fun x hx => hp x (List.mem_cons_of_mem _ hx)) h1 h2
  | [], _, _, _, _, _, _, h1, _ => by simp at h1
theorem digitsM_lt (c : Int) (ss : List Int) (i : Nat) (s d : Int) (hp : ∀ s ∈ ss, 0 < s) (h1 : ss[i]? = some s) (h2 : (digitsM c ss)[i]? = some d) : 0 ≤ d ∧ d < s := by
  unfold digitsM at h2
  split at h2
  · exact bigD_lt ss _ i s d hp h1 h2
  · exact smallD_lt ss _ 0 i s d hp h1 h2
/-- all digits of one size -/
theorem digitsM_rep (c s : Int) (n : Nat) (hs : 0 < s) : ∀ d ∈ digitsM c (List.replicate n s), 0 ≤ d ∧ d < s := fun d hd => by
  obtain ⟨i, hi, e⟩ := List.mem_iff_getElem.mp hd
  have hl : i < n := by rw [digitsM_len, List.length_replicate] at hi; exact hi
  refine digitsM_lt c _ i s d (fun x hx => ?_) ?_ (by rw [List.getElem?_eq_getElem hi, e])
  · rw [List.eq_of_mem_replicate hx]; exact hs
  · rw [List.getElem?_replicate, if_pos hl]

/-! ### the greatest common divisor by turns -/
/-- a turn halves the product -/
theorem half_turn {l r : Nat} (h : r ≤ l) (h0 : 0 < r) : 2 * (r * (l % r)) ≤ l * r := by
  have h1 : l % r < r := Nat.mod_lt _ h0
  have h2 : l = r * (l / r) + l % r := (Nat.div_add_mod l r).symm
  have h3 : 1 ≤ l / r := (Nat.one_le_div_iff h0).mpr h
  have h4 : r ≤ r * (l / r) := Nat.le_mul_of_pos_right _ h3
  have h5 : 2 * (l % r) ≤ l := by omega
  calc 2 * (r * (l % r)) = r * (2 * (l % r)) := by rw [Nat.mul_left_comm]
    _ ≤ r * l := Nat.mul_le_mul_left _ h5
    _ = l * r := Nat.mul_comm _ _
/-- the word of the loop -/
structure Gw (L0 R0 : Nat) (m : Nat) (l r : Nat) : Prop where
  g : Nat.gcd l r = Nat.gcd L0 R0
  z : m = 0 → l = L0 ∧ r = R0
  b : 0 < m → r < l ∧ l * r * 2 ^ (m - 1) ≤ L0 * R0
theorem Gw.start (L0 R0 : Nat) : Gw L0 R0 0 L0 R0 := ⟨rfl, fun _ => ⟨rfl, rfl⟩, fun h => absurd h (by decide)⟩
theorem Gw.turn {L0 R0 m l r : Nat} (h : Gw L0 R0 m l r) (h0 : 0 < r) : Gw L0 R0 (m + 1) r (l % r) := by
  refine ⟨?_, fun z => by omega, fun _ => ⟨Nat.mod_lt _ h0, ?_⟩⟩
  · rw [← h.g, Nat.gcd_comm l r, Nat.gcd_rec r l, Nat.gcd_comm]
  · rw [Nat.add_sub_cancel]
    cases m with
    | zero =>
      obtain ⟨rfl, rfl⟩ := h.z rfl
      rw [Nat.pow_zero, Nat.mul_one, Nat.mul_comm l r]
      exact Nat.mul_le_mul_left _ (Nat.mod_le _ _)
    | succ m =>
      obtain ⟨h1, h2⟩ := h.b (Nat.succ_pos _)
      have h3 := half_turn (Nat.le_of_lt h1) h0
      rw [Nat.add_sub_cancel] at h2
      calc r * (l % r) * 2 ^ (m + 1) = 2 * (r * (l % r)) * 2 ^ m := by rw [Nat.pow_succ, Nat.mul_comm (2 ^ m) 2, ← Nat.mul_assoc, Nat.mul_comm 2 (r * (l % r))]
        _ ≤ l * r * 2 ^ m := Nat.mul_le_mul_right _ h3
        _ ≤ L0 * R0 := h2
theorem Gw.done {L0 R0 m l r : Nat} (h : Gw L0 R0 m l r) (hm : 100000 ≤ m) (h1 : L0 < 2 ^ 49000) (h2 : R0 < 2 ^ 49000) : r = 0 := by
  rcases Nat.eq_zero_or_pos r with e | e
  · exact e
  · exfalso
    obtain ⟨a, b⟩ := h.b (by omega)
    have c : 1 ≤ l * r := Nat.mul_pos (by omega) e
    have d : 2 ^ (m - 1) ≤ L0 * R0 := Nat.le_trans (Nat.le_mul_of_pos_left _ c) b
    have f : L0 * R0 < 2 ^ 98000 := by
      rw [show (98000 : Nat) = 49000 + 49000 from rfl, Nat.pow_add]
      exact Nat.mul_lt_mul'' h1 h2
    have g : 2 ^ 98000 ≤ 2 ^ (m - 1) := Nat.pow_le_pow_right (by decide) (by omega)
    omega
theorem Gw.end_ {L0 R0 m l r : Nat} (h : Gw L0 R0 m l r) (hr : r = 0) : l = Nat.gcd L0 R0 := by
  rw [← h.g, hr, Nat.gcd_zero_right]
/-- the divisor of a row of numbers -/
def gcdL (ns : List Int) : Nat := ns.foldl (fun g n => Nat.gcd g n.natAbs) 0
theorem gcd_fold : ∀ (ns : List Int) (g : Nat), ns.foldl (fun g n => Nat.gcd g n.natAbs) g = Nat.gcd g (gcdL ns)
  | [], g => by unfold gcdL; rw [List.foldl_nil, List.foldl_nil, Nat.gcd_zero_right]
  | n :: ns, g => by
    unfold gcdL
    rw [List.foldl_cons, List.foldl_cons, gcd_fold ns, gcd_fold ns, Nat.gcd_zero_left, Nat.gcd_assoc]
theorem gcdL_cons (n : Int) (ns : List Int) : gcdL (n :: ns) = Nat.gcd n.natAbs (gcdL ns) := by
  unfold gcdL
  rw [List.foldl_cons, gcd_fold ns, Nat.gcd_zero_left]
  rfl
theorem gcdL_dvd : ∀ (ns : List Int) (n : Int), n ∈ ns → gcdL ns ∣ n.natAbs
  | m :: ns, n, h => by
    rw [gcdL_cons]
    rcases List.mem_cons.mp h with rfl | h
    · exact Nat.gcd_dvd_left _ _
    · exact Nat.dvd_trans (Nat.gcd_dvd_right _ _) (gcdL_dvd ns n h)
  | [], _, h => by cases h
theorem dvd_gcdL (d : Nat) : ∀ (ns : List Int), (∀ n ∈ ns, d ∣ n.natAbs) → d ∣ gcdL ns
  | [], _ => by unfold gcdL; exact Nat.dvd_zero _
  | n :: ns, h => by
    rw [gcdL_cons]
    exact Nat.dvd_gcd (h n List.mem_cons_self) (dvd_gcdL d ns fun m hm => h m (List.mem_cons_of_mem _ hm))
theorem gcdL_lt {k : Nat} {ns : List Int} (hk : 0 < k) (h : ∀ n ∈ ns, Sm k n) : gcdL ns < 2 ^ k := by
  by_cases h0 : gcdL ns = 0
  · rw [h0]; exact Nat.two_pow_pos _
  · have : ∃ n ∈ ns, n.natAbs ≠ 0 := by
      refine Classical.byContradiction fun hn => h0 ?_
      have : (0 : Nat) ∣ gcdL ns := dvd_gcdL 0 ns fun n hm => by
        have := Classical.byContradiction (p := n.natAbs = 0) fun z => hn ⟨n, hm, z⟩
        rw [this]; exact Nat.dvd_refl _
      exact Nat.eq_zero_of_zero_dvd this
    obtain ⟨n, hm, hn⟩ := this
    exact Nat.lt_of_le_of_lt (Nat.le_of_dvd (by omega) (gcdL_dvd ns n hm)) (h n hm)

/-! ### many great numbers of one cell -/
def longD : Int → Int → List Int → List Int
  | _, _, [] => []
  | rest, top, d :: ds => if rest > 0 then (rest % top) :: longD (rest / top) top ds else (((d + 3) ^ 52 + d * 974711) % top) :: longD rest top ds
def longM (cell : Int) (many : Nat) (top : Int) : List Int := longD (cell - 10 ^ 18) top (digitsM (cell % 10 ^ 18) (List.replicate many 2147483629))
theorem longD_len : ∀ (ds : List Int) (rest top : Int), (longD rest top ds).length = ds.length
  | [], _, _ => rfl
  | d :: ds, rest, top => by
    unfold longD
    split
    · exact congrArg Nat.succ (longD_len ds _ _)
    · exact congrArg Nat.succ (longD_len ds _ _)
theorem longM_len (c : Int) (n : Nat) (t : Int) : (longM c n t).length = n := by
  unfold longM
  rw [longD_len, digitsM_len, List.length_replicate]
theorem longD_lt {top : Int} (h : 0 < top) : ∀ (ds : List Int) (rest : Int), ∀ d ∈ longD rest top ds, 0 ≤ d ∧ d < top
  | [], _, _, hd => by cases hd
  | x :: ds, rest, d, hd => by
    unfold longD at hd
    split at hd
    · rcases List.mem_cons.mp hd with rfl | hd
      · exact ⟨Int.emod_nonneg _ (by omega), Int.emod_lt_of_pos _ h⟩
      · exact longD_lt h ds _ d hd
    · rcases List.mem_cons.mp hd with rfl | hd
      · exact ⟨Int.emod_nonneg _ (by omega), Int.emod_lt_of_pos _ h⟩
      · exact longD_lt h ds _ d hd
theorem longM_lt {top : Int} (h : 0 < top) (c : Int) (n : Nat) : ∀ d ∈ longM c n top, 0 ≤ d ∧ d < top := longD_lt h _ _

def longR (top : Int) : Int → List Int → Int
  | rest, [] => rest
  | rest, _ :: ds => if rest > 0 then longR top (rest / top) ds else longR top rest ds
def longP (rest top d : Int) : Int := if rest > 0 then rest % top else ((d + 3) ^ 52 + d * 974711) % top
theorem longD_cons (rest top d : Int) (ds : List Int) : longD rest top (d :: ds) = longP rest top d :: longD (if rest > 0 then rest / top else rest) top ds := by
  unfold longP
  show (if rest > 0 then (rest % top) :: longD (rest / top) top ds else (((d + 3) ^ 52 + d * 974711) % top) :: longD rest top ds) = _
  split <;> rfl
theorem longR_cons (rest top d : Int) (ds : List Int) : longR top rest (d :: ds) = longR top (if rest > 0 then rest / top else rest) ds := by
  show (if rest > 0 then longR top (rest / top) ds else longR top rest ds) = _
  split <;> rfl
theorem longR_snoc (top d : Int) : ∀ (ds : List Int) (rest : Int), longR top rest (ds ++ [d]) = (if longR top rest ds > 0 then longR top rest ds / top else longR top rest ds)
  | [], rest => longR_cons rest top d []
  | x :: ds, rest => by rw [List.cons_append, longR_cons, longR_cons, longR_snoc top d ds]
theorem longD_snoc (top d : Int) : ∀ (ds : List Int) (rest : Int), longD rest top (ds ++ [d]) = longD rest top ds ++ [longP (longR top rest ds) top d]
  | [], rest => longD_cons rest top d []
  | x :: ds, rest => by rw [List.cons_append, longD_cons, longD_cons, longR_cons, longD_snoc top d ds, List.cons_append]
/-! ### sums -/
def dotL : List Int → List Int → Int
  | x :: xs, y :: ys => x * y + dotL xs ys
  | _, _ => 0
/-- rows added up, each multiplied by its number -/
def addRow (f : Int) : List Int → List Int → List Int
  | a :: aim, x :: xs => (a + x * f) :: addRow f aim xs
  | _, _ => []
def mixGo : List Int → List (List Int) → List Int → List Int
  | aim, r :: rs, f :: fs => mixGo (addRow f aim r) rs fs
  | aim, _, _ => aim
def mixedM (rows : List (List Int)) (fs : List Int) : List Int := mixGo (List.replicate (rows.headD []).length 0) rows fs
theorem addRow_len (f : Int) : ∀ (a x : List Int), a.length ≤ x.length → (addRow f a x).length = a.length
  | [], x, _ => by cases x <;> rfl
  | a :: as, [], h => by simp at h
  | a :: as, x :: xs, h => congrArg Nat.succ (addRow_len f as xs (by simpa using h))
theorem addRow_get (f : Int) : ∀ (a x : List Int) (j : Nat) (u v : Int), a[j]? = some u → x[j]? = some v → (addRow f a x)[j]? = some (u + v * f)
  | a :: as, x :: xs, 0, u, v, h1, h2 => by cases h1; cases h2; rfl
  | a :: as, x :: xs, j + 1, u, v, h1, h2 => addRow_get f as xs j u v h1 h2
  | [], _, _, _, _, h1, _ => by simp at h1
  | _ :: _, [], _, _, _, _, h2 => by simp at h2
theorem mixGo_snoc : ∀ (rs : List (List Int)) (fs : List Int) (aim r : List Int) (f : Int), rs.length = fs.length → mixGo aim (rs ++ [r]) (fs ++ [f]) = addRow f (mixGo aim rs fs) r
  | [], [], _, _, _, _ => rfl
  | [], _ :: _, _, _, _, h => by simp at h
  | _ :: _, [], _, _, _, h => by simp at h
  | x :: rs, y :: fs, aim, r, f, h => mixGo_snoc rs fs (addRow y aim x) r f (by simpa using h)
theorem mixGo_len : ∀ (rs : List (List Int)) (fs : List Int) (aim : List Int), (∀ r ∈ rs, aim.length ≤ r.length) → (mixGo aim rs fs).length = aim.length
  | [], _, _, _ => by unfold mixGo; rfl
  | _ :: _, [], _, _ => by unfold mixGo; rfl
  | x :: rs, y :: fs, aim, h => by
    have e := addRow_len y aim x (h x List.mem_cons_self)
    show (mixGo (addRow y aim x) rs fs).length = _
    rw [mixGo_len rs fs _ fun r hr => by rw [e]; exact h r (List.mem_cons_of_mem _ hr), e]
theorem mixGo_long : ∀ (rs : List (List Int)) (fs : List Int) (aim : List Int), rs.length ≤ fs.length → mixGo aim rs (fs.take rs.length) = mixGo aim rs fs
  | [], _, _, _ => by unfold mixGo; rfl
  | x :: rs, [], _, h => by simp at h
  | x :: rs, y :: fs, aim, h => mixGo_long rs fs (addRow y aim x) (by simpa using h)
/-- a list over range(n), by places -/
theorem range_dI {n : Nat} {v : Nat → DL.D} {L : List Int} (hl : L.length = n) (h : ∀ (j : Nat) (x : Int), L[j]? = some x → v j = .int x) : (List.range n).map v = DL.dI L := by
  subst hl
  apply List.ext_getElem
  · simp
  · intro i h1 h2
    rw [List.getElem_map, List.getElem_range, List.getElem_map]
    have hl : i < L.length := by simpa using h1
    exact h i _ (List.getElem?_eq_getElem hl)
/-- the products one by one -/
def mulL : List Int → List Int → List Int
  | x :: xs, y :: ys => (x * y) :: mulL xs ys
  | _, _ => []
theorem mulL_len : ∀ (xs ys : List Int), xs.length ≤ ys.length → (mulL xs ys).length = xs.length
  | [], ys, _ => by cases ys <;> rfl
  | x :: xs, [], h => by simp at h
  | x :: xs, y :: ys, h => congrArg Nat.succ (mulL_len xs ys (by simpa using h))
theorem mulL_get : ∀ (xs ys : List Int) (j : Nat) (u v : Int), xs[j]? = some u → ys[j]? = some v → (mulL xs ys)[j]? = some (u * v)
  | a :: as, x :: xs, 0, u, v, h1, h2 => by cases h1; cases h2; rfl
  | a :: as, x :: xs, j + 1, u, v, h1, h2 => mulL_get as xs j u v h1 h2
  | [], _, _, _, _, h1, _ => by simp at h1
  | _ :: _, [], _, _, _, _, h2 => by simp at h2
theorem mulL_sum : ∀ (xs ys : List Int), (mulL xs ys).sum = dotL xs ys
  | [], ys => by cases ys <;> rfl
  | x :: xs, [] => rfl
  | x :: xs, y :: ys => by
    show (x * y :: mulL xs ys).sum = x * y + dotL xs ys
    rw [List.sum_cons, mulL_sum xs ys]
/-- whether tops over a line are a row in its one form, of a size -/
def isRowM (tops : List Int) (line size : Int) : Bool := decide ((tops.length : Int) = size) && (decide (1 ≤ line) && decide (Nat.gcd (gcdL tops) line.natAbs = 1))
end M

set_option Elab.async false
set_option linter.all false
set_option maxRecDepth 100000
set_option maxHeartbeats 4000000
/-! what the law's own helpers compute -/
namespace M
open L2
/-- below or at B, by size -/
def Bd (B : Nat) (x : Int) : Prop := x.natAbs ≤ B
theorem Bd.mono {m n : Nat} {x : Int} (h : Bd m x) (l : m ≤ n) : Bd n x := Nat.le_trans h l
theorem Bd.mul {m n : Nat} {x y : Int} (h : Bd m x) (h2 : Bd n y) : Bd (m * n) (x * y) := by
  unfold Bd
  rw [Int.natAbs_mul]
  exact Nat.mul_le_mul h h2
theorem Bd.add {m n : Nat} {x y : Int} (h : Bd m x) (h2 : Bd n y) : Bd (m + n) (x + y) := by
  unfold Bd at *
  omega
theorem Bd.sub {m n : Nat} {x y : Int} (h : Bd m x) (h2 : Bd n y) : Bd (m + n) (x - y) := by
  unfold Bd at *
  omega
theorem Bd.neg {m : Nat} {x : Int} (h : Bd m x) : Bd m (-x) := by
  unfold Bd at *
  omega
theorem Bd.zero {m : Nat} : Bd m 0 := Nat.zero_le _
theorem Bd.sm {m n : Nat} {x : Int} (h : Bd m x) (l : m < 2 ^ n) : Sm n x := Nat.lt_of_le_of_lt h l
theorem Bd.smL {m n : Nat} (k : Nat) {x : Int} (h : Bd m x) (l : m < 2 ^ k) (l2 : k ≤ n) : Sm n x := (h.sm l).mono l2
theorem Bd.of {m : Nat} {x : Int} (h1 : -(m : Int) ≤ x) (h2 : x ≤ m) : Bd m x := by
  unfold Bd
  omega
/-- sums -/
def sg : Nat → (Nat → Int) → Int
  | 0, _ => 0
  | n + 1, f => sg n f + f n
theorem sg_congr {f g : Nat → Int} : ∀ n : Nat, (∀ i, i < n → f i = g i) → sg n f = sg n g
  | 0, _ => rfl
  | n + 1, h => by
    show sg n f + f n = sg n g + g n
    rw [sg_congr n fun i hi => h i (by omega), h n (by omega)]
theorem sg_head (f : Nat → Int) : ∀ n : Nat, sg (n + 1) f = f 0 + sg n (fun i => f (i + 1))
  | 0 => by show 0 + f 0 = f 0 + 0; omega
  | n + 1 => by
    show sg (n + 1) f + f (n + 1) = f 0 + (sg n (fun i => f (i + 1)) + f (n + 1))
    rw [sg_head f n]
    omega
theorem sg_add (f g : Nat → Int) : ∀ n : Nat, sg n (fun i => f i + g i) = sg n f + sg n g
  | 0 => rfl
  | n + 1 => by
    show sg n _ + (f n + g n) = (sg n f + f n) + (sg n g + g n)
    rw [sg_add f g n]
    omega
theorem sg_mulL (c : Int) (f : Nat → Int) : ∀ n : Nat, sg n (fun i => c * f i) = c * sg n f
  | 0 => by show 0 = c * 0; rw [Int.mul_zero]
  | n + 1 => by
    show sg n _ + _ = c * (sg n f + f n)
    rw [sg_mulL c f n, Int.mul_add]
theorem sg_mulR (c : Int) (f : Nat → Int) (n : Nat) : sg n (fun i => f i * c) = sg n f * c := by
  rw [Int.mul_comm (sg n f), ← sg_mulL]
  exact sg_congr n fun i _ => Int.mul_comm _ _
theorem sg_zero : ∀ n : Nat, sg n (fun _ => 0) = 0
  | 0 => rfl
  | n + 1 => by show sg n _ + 0 = 0; rw [sg_zero n]; rfl
theorem sg_swap (f : Nat → Nat → Int) (m : Nat) : ∀ n : Nat, sg n (fun i => sg m (fun j => f i j)) = sg m (fun j => sg n (fun i => f i j))
  | 0 => (sg_zero m).symm
  | n + 1 => by
    show sg n _ + sg m _ = sg m (fun j => sg n (fun i => f i j) + f n j)
    rw [sg_add, sg_swap f m n]
theorem sg_bd {f : Nat → Int} {B : Nat} : ∀ n : Nat, (∀ i, i < n → Bd B (f i)) → Bd (n * B) (sg n f)
  | 0, _ => Bd.zero
  | n + 1, h => by
    rw [Nat.succ_mul]
    exact (sg_bd n fun i hi => h i (by omega)).add (h n (by omega))
theorem dotL_sg : ∀ (xs ys : List Int), xs.length ≤ ys.length → dotL xs ys = sg xs.length (fun j => xs.getD j 0 * ys.getD j 0)
  | [], ys, _ => by cases ys <;> rfl
  | x :: xs, [], h => by simp at h
  | x :: xs, y :: ys, h => by
    show x * y + dotL xs ys = sg (xs.length + 1) _
    rw [sg_head, dotL_sg xs ys (by simpa using h)]
    rfl
theorem getD_get {α : Type} {l : List α} {i : Nat} {x d : α} (h : l[i]? = some x) : l.getD i d = x := by
  rw [List.getD_eq_getElem?_getD, h]
  rfl
theorem get_getD {α : Type} {l : List α} {i : Nat} (d : α) (h : i < l.length) : l[i]? = some (l.getD i d) := by
  rw [List.getElem?_eq_getElem h, List.getD_eq_getElem?_getD, List.getElem?_eq_getElem h]
  rfl
theorem getD_mem {α : Type} {l : List α} {i : Nat} (d : α) (h : i < l.length) : l.getD i d ∈ l := List.mem_of_getElem? (get_getD d h)
theorem addRow_getD (f : Int) (a x : List Int) (j : Nat) (h : j < a.length) (h2 : j < x.length) : (addRow f a x).getD j 0 = a.getD j 0 + x.getD j 0 * f :=
  getD_get (addRow_get f a x j _ _ (get_getD 0 h) (get_getD 0 h2))
theorem mixGo_getD (j : Nat) : ∀ (rs : List (List Int)) (fs aim : List Int), j < aim.length → (∀ r ∈ rs, aim.length ≤ r.length) → rs.length ≤ fs.length →
    (mixGo aim rs fs).getD j 0 = aim.getD j 0 + sg rs.length (fun i => (rs.getD i []).getD j 0 * fs.getD i 0)
  | [], fs, aim, _, _, _ => by
    show (mixGo aim [] fs).getD j 0 = _ + 0
    rw [Int.add_zero]
    unfold mixGo
    rfl
  | r :: rs, [], _, _, _, h => by simp at h
  | r :: rs, f :: fs, aim, h, h2, h3 => by
    have hr := h2 r List.mem_cons_self
    have hl := addRow_len f aim r hr
    show (mixGo (addRow f aim r) rs fs).getD j 0 = _
    rw [mixGo_getD j rs fs (addRow f aim r) (by omega) (fun r' hr' => by rw [hl]; exact h2 r' (List.mem_cons_of_mem _ hr')) (by simpa using h3), addRow_getD f aim r j h (by omega)]
    show _ = aim.getD j 0 + sg (rs.length + 1) _
    rw [sg_head]
    show _ = aim.getD j 0 + (r.getD j 0 * f + sg rs.length (fun i => (rs.getD i []).getD j 0 * fs.getD i 0))
    omega
/-- a table: so many rows, each so long -/
structure Tab (many width : Nat) (rows : List (List Int)) : Prop where
  n : rows.length = many
  w : ∀ r ∈ rows, r.length = width
theorem Tab.row {many width : Nat} {rows : List (List Int)} (h : Tab many width rows) {i : Nat} (hi : i < many) : (rows.getD i []).length = width := h.w _ (getD_mem _ (by rw [h.n]; exact hi))
theorem Tab.head {many width : Nat} {rows : List (List Int)} (h : Tab many width rows) (hm : 0 < many) : (rows.headD []).length = width := by
  cases rows with
  | nil => have := h.n; simp at this; omega
  | cons r rs => exact h.w r List.mem_cons_self
theorem mixedM_len {many width : Nat} {rows : List (List Int)} {fs : List Int} (h : Tab many width rows) (hm : 0 < many) : (mixedM rows fs).length = width := by
  unfold mixedM
  rw [mixGo_len _ _ _ fun r hr => by rw [List.length_replicate, h.head hm, h.w r hr]; exact Nat.le_refl _, List.length_replicate, h.head hm]
theorem mixedM_getD {many width : Nat} {rows : List (List Int)} {fs : List Int} (h : Tab many width rows) (hm : 0 < many) (hf : many ≤ fs.length) {j : Nat} (hj : j < width) :
    (mixedM rows fs).getD j 0 = sg many (fun i => (rows.getD i []).getD j 0 * fs.getD i 0) := by
  unfold mixedM
  rw [mixGo_getD j rows fs _ (by rw [List.length_replicate, h.head hm]; exact hj) (fun r hr => by rw [List.length_replicate, h.head hm, h.w r hr]; exact Nat.le_refl _) (by rw [h.n]; exact hf), h.n]
  have : (List.replicate (rows.headD []).length (0 : Int)).getD j 0 = 0 := by
    rw [List.getD_eq_getElem?_getD, List.getElem?_replicate]
    split <;> rfl
  rw [this, Int.zero_add]
theorem mem_getD {α : Type} {l : List α} {x : α} (d : α) (h : x ∈ l) : ∃ i, i < l.length ∧ l.getD i d = x := by
  obtain ⟨i, hi, e⟩ := List.mem_iff_getElem.mp h
  exact ⟨i, hi, getD_get (by rw [List.getElem?_eq_getElem hi, e])⟩
theorem mixedM_bd {many width B F : Nat} {rows : List (List Int)} {fs : List Int} (h : Tab many width rows) (hm : 0 < many) (hf : many ≤ fs.length) (hb : ∀ r ∈ rows, ∀ x ∈ r, Bd B x) (hF : ∀ x ∈ fs, Bd F x) : ∀ x ∈ mixedM rows fs, Bd (many * (B * F)) x := by
  intro x hx
  obtain ⟨j, hj, e⟩ := mem_getD 0 hx
  rw [mixedM_len h hm] at hj
  rw [← e, mixedM_getD h hm hf hj]
  refine sg_bd many fun i hi => ?_
  have hr := h.row hi
  exact (hb _ (getD_mem _ (by rw [h.n]; exact hi)) _ (getD_mem _ (by rw [hr]; exact hj))).mul (hF _ (getD_mem _ (by omega)))

/-! ### choosing by digits -/
def pickL (menu ds : List Int) : List Int := ds.map fun d => menu.getD d.toNat 0
theorem pickL_len (menu ds : List Int) : (pickL menu ds).length = ds.length := List.length_map _
theorem pickL_bd {menu ds : List Int} {B : Nat} (h : ∀ x ∈ menu, Bd B x) (hd : ∀ d ∈ ds, 0 ≤ d ∧ d < (menu.length : Int)) : ∀ x ∈ pickL menu ds, Bd B x := by
  intro x hx
  obtain ⟨d, hm, rfl⟩ := List.mem_map.mp hx
  have := hd d hm
  exact h _ (getD_mem _ (by omega))
def menuM : List Int := [1, 0, -1, 2, -2, 3, 0, 1]
def denseRows (ns : List Int) (width span : Nat) : List (List Int) := (List.range span).map fun k => pickL menuM (digitsM (cellM ns (25 + k)) (List.replicate width 8))
def denseM (ns : List Int) (many width span : Nat) : List (List Int) := (List.range many).map fun i => mixedM (denseRows ns width span) (pickL menuM (digitsM (cellM ns (1 + i)) (List.replicate span 8)))
theorem denseRows_tab (ns : List Int) (width span : Nat) : Tab span width (denseRows ns width span) := ⟨by unfold denseRows; simp, fun r hr => by
  obtain ⟨k, _, rfl⟩ := List.mem_map.mp hr
  rw [pickL_len, digitsM_len, List.length_replicate]⟩
theorem menu_bd : ∀ x ∈ menuM, Bd 3 x := by
  intro x hx
  simp only [menuM, List.mem_cons, List.not_mem_nil, or_false] at hx
  unfold Bd
  omega
theorem pick_menu_bd (c : Int) (n : Nat) : ∀ x ∈ pickL menuM (digitsM c (List.replicate n 8)), Bd 3 x := pickL_bd menu_bd fun d hd => digitsM_rep c 8 n (by decide) d hd
theorem denseRows_bd (ns : List Int) (width span : Nat) : ∀ r ∈ denseRows ns width span, ∀ x ∈ r, Bd 3 x := by
  intro r hr
  obtain ⟨k, _, rfl⟩ := List.mem_map.mp hr
  exact pick_menu_bd _ _
theorem denseM_tab (ns : List Int) {many width span : Nat} (hs : 0 < span) : Tab many width (denseM ns many width span) := ⟨by unfold denseM; simp, fun r hr => by
  obtain ⟨k, _, rfl⟩ := List.mem_map.mp hr
  exact mixedM_len (denseRows_tab ns width span) hs⟩
theorem denseM_bd (ns : List Int) {many width span : Nat} (hs : 0 < span) : ∀ r ∈ denseM ns many width span, ∀ x ∈ r, Bd (span * 9) x := by
  intro r hr
  obtain ⟨k, _, rfl⟩ := List.mem_map.mp hr
  exact mixedM_bd (denseRows_tab ns width span) hs (by rw [pickL_len, digitsM_len, List.length_replicate]; exact Nat.le_refl _) (denseRows_bd ns width span) (pick_menu_bd _ _)
end M

set_option Elab.async false
set_option linter.all false
set_option maxRecDepth 100000
set_option maxHeartbeats 4000000
/-! what the law plants -/
namespace M
open L2
/-- the twelve digits of the head -/
structure HeadOk (h : List Int) : Prop where
  ex : ∃ h0 h1 h2 h3 h4 h5 h6 h7 h8 h9 h10 h11 : Int, h = [h0, h1, h2, h3, h4, h5, h6, h7, h8, h9, h10, h11] ∧ (0 ≤ h0 ∧ h0 < 8) ∧ (0 ≤ h1 ∧ h1 < 17) ∧ (0 ≤ h2 ∧ h2 < 17) ∧ (0 ≤ h3 ∧ h3 < 13) ∧ (0 ≤ h4 ∧ h4 < 60) ∧ (0 ≤ h5 ∧ h5 < 60) ∧ (0 ≤ h6 ∧ h6 < 8) ∧ (0 ≤ h7 ∧ h7 < 23) ∧ (0 ≤ h8 ∧ h8 < 23) ∧ (0 ≤ h9 ∧ h9 < 8) ∧ (0 ≤ h10 ∧ h10 < 60) ∧ (0 ≤ h11 ∧ h11 < 2)
def headSizes : List Int := [8, 17, 17, 13, 60, 60, 8, 23, 23, 8, 60, 2]
theorem list12 {l : List Int} (h : l.length = 12) : ∃ h0 h1 h2 h3 h4 h5 h6 h7 h8 h9 h10 h11 : Int, l = [h0, h1, h2, h3, h4, h5, h6, h7, h8, h9, h10, h11] := by
  match l, h with
  | [h0, h1, h2, h3, h4, h5, h6, h7, h8, h9, h10, h11], _ => exact ⟨h0, h1, h2, h3, h4, h5, h6, h7, h8, h9, h10, h11, rfl⟩
theorem head_ok (c : Int) : HeadOk (digitsM c headSizes) := by
  obtain ⟨h0, h1, h2, h3, h4, h5, h6, h7, h8, h9, h10, h11, e⟩ := list12 (show (digitsM c headSizes).length = 12 by rw [digitsM_len]; rfl)
  have b : ∀ (i : Nat) (s d : Int), headSizes[i]? = some s → (digitsM c headSizes)[i]? = some d → 0 ≤ d ∧ d < s := fun i s d => digitsM_lt c headSizes i s d (by decide)
  rw [e] at b ⊢
  exact ⟨h0, h1, h2, h3, h4, h5, h6, h7, h8, h9, h10, h11, rfl, b 0 8 _ rfl rfl, b 1 17 _ rfl rfl, b 2 17 _ rfl rfl, b 3 13 _ rfl rfl, b 4 60 _ rfl rfl, b 5 60 _ rfl rfl, b 6 8 _ rfl rfl, b 7 23 _ rfl rfl, b 8 23 _ rfl rfl, b 9 8 _ rfl rfl, b 10 60 _ rfl rfl, b 11 2 _ rfl rfl⟩
structure Sz where
  many : Nat
  width : Nat
  span : Nat
  big : Bool
def sizesM (h : List Int) : Sz :=
  if h.getD 0 0 = 7 then ⟨(2 + h.getD 1 0 % 2).toNat, (1 + h.getD 2 0 % 4).toNat, 0, true⟩
  else if h.getD 0 0 = 5 then ⟨(8 + h.getD 1 0).toNat, (8 + h.getD 2 0).toNat, (min (min (8 + h.getD 1 0) (8 + h.getD 2 0)) (8 + h.getD 3 0)).toNat, false⟩
  else ⟨(9 + h.getD 1 0 % 6).toNat, (9 + h.getD 2 0 % 6).toNat, (min (min (9 + h.getD 1 0 % 6) (9 + h.getD 2 0 % 6)) (9 + h.getD 3 0 % 4)).toNat, false⟩
/-- the sizes' bounds -/
structure SzOk (z : Sz) : Prop where
  big : z.big = true → (2 ≤ z.many ∧ z.many ≤ 3) ∧ (1 ≤ z.width ∧ z.width ≤ 4)
  not : z.big = false → (8 ≤ z.many ∧ z.many ≤ 24) ∧ (8 ≤ z.width ∧ z.width ≤ 24) ∧ (1 ≤ z.span ∧ z.span ≤ 24)
theorem sizes_ok {h : List Int} (o : HeadOk h) : SzOk (sizesM h) := by
  obtain ⟨h0, h1, h2, h3, h4, h5, h6, h7, h8, h9, h10, h11, rfl, b0, b1, b2, b3, _⟩ := o.ex
  unfold sizesM
  simp only [List.getD_cons_zero, List.getD_cons_succ]
  split
  · exact ⟨fun _ => ⟨by show 2 ≤ Int.toNat _ ∧ Int.toNat _ ≤ 3; omega, by show 1 ≤ Int.toNat _ ∧ Int.toNat _ ≤ 4; omega⟩, fun z => by cases z⟩
  · split
    · exact ⟨fun z => (by cases z), fun _ => ⟨by show 8 ≤ Int.toNat _ ∧ Int.toNat _ ≤ 24; omega, by show 8 ≤ Int.toNat _ ∧ Int.toNat _ ≤ 24; omega, by show 1 ≤ Int.toNat _ ∧ Int.toNat _ ≤ 24; omega⟩⟩
    · exact ⟨fun z => (by cases z), fun _ => ⟨by show 8 ≤ Int.toNat _ ∧ Int.toNat _ ≤ 24; omega, by show 8 ≤ Int.toNat _ ∧ Int.toNat _ ≤ 24; omega, by show 1 ≤ Int.toNat _ ∧ Int.toNat _ ≤ 24; omega⟩⟩
theorem SzOk.m {z : Sz} (h : SzOk z) : 2 ≤ z.many ∧ z.many ≤ 24 := by
  cases e : z.big with
  | true => have := h.big e; omega
  | false => have := h.not e; omega
theorem SzOk.w {z : Sz} (h : SzOk z) : 1 ≤ z.width ∧ z.width ≤ 24 := by
  cases e : z.big with
  | true => have := h.big e; omega
  | false => have := h.not e; omega
/-- the first m done -/
def mapTo {α : Type} (f : α → α) (m : Nat) (l : List α) : List α := (l.take m).map f ++ l.drop m
theorem mapTo_zero {α : Type} (f : α → α) (l : List α) : mapTo f 0 l = l := rfl
theorem mapTo_all {α : Type} (f : α → α) (l : List α) : mapTo f l.length l = l.map f := by
  unfold mapTo
  rw [List.take_length, List.drop_length, List.append_nil]
theorem mapTo_get {α : Type} (f : α → α) : ∀ (l : List α) (m : Nat), (mapTo f m l)[m]? = l[m]?
  | [], m => by unfold mapTo; simp
  | x :: l, 0 => rfl
  | x :: l, m + 1 => mapTo_get f l m
theorem mapTo_set {α : Type} (f : α → α) : ∀ (l : List α) (m : Nat) (x : α), l[m]? = some x → (mapTo f m l).set m (f x) = mapTo f (m + 1) l
  | y :: l, 0, x, h => by cases h; rfl
  | y :: l, m + 1, x, h => by
    show f y :: (mapTo f m l).set m (f x) = f y :: mapTo f (m + 1) l
    rw [mapTo_set f l m x h]
  | [], m, x, h => by simp at h
theorem mapTo_len {α : Type} (f : α → α) (l : List α) (m : Nat) : (mapTo f m l).length = l.length := by
  unfold mapTo
  rw [List.length_append, List.length_map, List.length_take, List.length_drop]
  omega
def facM : List Int := [1, -1, 2, 0]
def twin1 (rows : List (List Int)) (h : List Int) : List (List Int) :=
  if h.getD 6 0 < 4 then rows.set (h.getD 4 0 % rows.length).toNat ((rows.getD ((h.getD 4 0 + 1 + h.getD 7 0 % max 1 ((rows.length : Int) - 1)) % rows.length).toNat []).map fun x => x * facM.getD (h.getD 6 0).toNat 0) else rows
def colAt (width : Nat) (h : List Int) : Nat := ((h.getD 5 0 + 1 + h.getD 8 0 % max 1 ((width : Int) - 1)) % width).toNat
def twinRow (width : Nat) (h : List Int) (mine : List Int) : List Int := mine.set (h.getD 5 0 % width).toNat (mine.getD (colAt width h) 0 * facM.getD (h.getD 9 0).toNat 0)
def twinsM (width : Nat) (rows : List (List Int)) (h : List Int) : List (List Int) :=
  if h.getD 9 0 < 4 then (twin1 rows h).map (twinRow width h) else twin1 rows h
theorem fac_bd : ∀ x ∈ facM, Bd 2 x := by
  intro x hx
  simp only [facM, List.mem_cons, List.not_mem_nil, or_false] at hx
  unfold Bd
  omega
theorem mem_set {α : Type} {l : List α} {i : Nat} {x y : α} (h : y ∈ l.set i x) : y = x ∨ y ∈ l := by
  rcases List.mem_or_eq_of_mem_set h with h | h
  · exact .inr h
  · exact .inl h
theorem twin1_tab {many width B : Nat} {rows : List (List Int)} {h : List Int} (t : Tab many width rows) (hb : ∀ r ∈ rows, ∀ x ∈ r, Bd B x) (hm : 0 < many) (h6 : 0 ≤ h.getD 6 0) : Tab many width (twin1 rows h) ∧ ∀ r ∈ twin1 rows h, ∀ x ∈ r, Bd (B * 2) x := by
  unfold twin1
  split
  case isTrue hlt =>
    have hr : ∀ k : Int, rows.getD (k % rows.length).toNat [] ∈ rows := fun k => getD_mem _ (by
      have := t.n
      have h1 := Int.emod_nonneg k (show ((rows.length : Nat) : Int) ≠ 0 by omega)
      have h2 := Int.emod_lt_of_pos k (show 0 < ((rows.length : Nat) : Int) by omega)
      omega)
    have hf : Bd 2 (facM.getD (h.getD 6 0).toNat 0) := fac_bd _ (getD_mem _ (by show _ < 4; omega))
    refine ⟨⟨by rw [List.length_set]; exact t.n, fun r hr' => ?_⟩, fun r hr' x hx => ?_⟩
    · rcases mem_set hr' with rfl | hr'
      · rw [List.length_map]
        exact t.w _ (hr _)
      · exact t.w r hr'
    · rcases mem_set hr' with rfl | hr'
      · obtain ⟨y, hy, rfl⟩ := List.mem_map.mp hx
        exact (hb _ (hr _) y hy).mul hf
      · exact (hb r hr' x hx).mono (by omega)
  case isFalse => exact ⟨t, fun r hr x hx => (hb r hr x hx).mono (by omega)⟩
theorem twinsM_tab {many width B : Nat} {rows : List (List Int)} {h : List Int} (t : Tab many width rows) (hb : ∀ r ∈ rows, ∀ x ∈ r, Bd B x) (hm : 0 < many) (hw : 0 < width) (h6 : 0 ≤ h.getD 6 0) (h9 : 0 ≤ h.getD 9 0) : Tab many width (twinsM width rows h) ∧ ∀ r ∈ twinsM width rows h, ∀ x ∈ r, Bd (B * 2 * 2) x := by
  obtain ⟨t1, b1⟩ := twin1_tab t hb hm h6
  unfold twinsM
  split
  case isTrue hlt =>
    have hf : Bd 2 (facM.getD (h.getD 9 0).toNat 0) := fac_bd _ (getD_mem _ (by show _ < 4; omega))
    refine ⟨⟨by rw [List.length_map]; exact t1.n, fun r hr => ?_⟩, fun r hr x hx => ?_⟩
    · obtain ⟨y, hy, rfl⟩ := List.mem_map.mp hr
      unfold twinRow
      rw [List.length_set]
      exact t1.w y hy
    · obtain ⟨y, hy, rfl⟩ := List.mem_map.mp hr
      unfold twinRow at hx
      rcases mem_set hx with rfl | hx
      · have hc : colAt width h < y.length := by
          rw [t1.w y hy]
          unfold colAt
          have h1 := Int.emod_nonneg (h.getD 5 0 + 1 + h.getD 8 0 % max 1 ((width : Int) - 1)) (show ((width : Nat) : Int) ≠ 0 by omega)
          have h2 := Int.emod_lt_of_pos (h.getD 5 0 + 1 + h.getD 8 0 % max 1 ((width : Int) - 1)) (show 0 < ((width : Nat) : Int) by omega)
          omega
        exact (b1 y hy _ (getD_mem _ hc)).mul hf
      · exact (b1 y hy x hx).mono (by omega)
  case isFalse => exact ⟨t1, fun r hr x hx => (b1 r hr x hx).mono (by omega)⟩
/-! ### the planted table -/
def mostM (h3 : Int) : Int := if h3 % 2 = 0 then 10 ^ 100 else 10 ^ 393
def lineL : List Int := [1, 2, 3, 1, 5, 7, 1, 12]
def facL : List Int := [1, 1, 2, -1, 3, 1, 5, -1]
def rowV (ns : List Int) (z : Sz) : List Int := digitsM (cellM ns 47) (List.replicate z.many 8 ++ [8])
def lineM (ns : List Int) (z : Sz) : Int := lineL.getD ((rowV ns z).getD z.many 0).toNat 0
def factorsM (ns : List Int) (z : Sz) : List Int := pickL facL ((rowV ns z).take z.many)
def base0 (ns h : List Int) (z : Sz) : List (List Int) :=
  if z.big then (List.range z.many).map fun i => (longM (cellM ns (1 + i)) z.width (mostM (h.getD 3 0))).map fun x => x - mostM (h.getD 3 0) / 2
  else denseM ns z.many z.width z.span
def topsM (ns : List Int) (z : Sz) : List Int :=
  if z.big then (longM (cellM ns 46) z.width 1999).map fun x => x - 999 else (digitsM (cellM ns 46) (List.replicate z.width 11)).map fun x => x - 5
def baseM (ns h : List Int) (z : Sz) : List (List Int) := twinsM z.width (base0 ns h z) h
def tableM (ns h : List Int) (z : Sz) : List (List Int) := (List.range z.many).map fun i => ((baseM ns h z).getD i []).map fun x => x * lineM ns z * (factorsM ns z).getD i 0
def sumsM (ns h : List Int) (z : Sz) : List Int := (List.range z.many).map fun i => (factorsM ns z).getD i 0 * dotL ((baseM ns h z).getD i []) (topsM ns z)
end M

set_option Elab.async false
set_option linter.all false
set_option maxRecDepth 100000
set_option maxHeartbeats 4000000
set_option exponentiation.threshold 5000
/-! what the law plants: sizes of it -/
namespace M
open L2
def mx0 : Nat := 10 ^ 393
theorem most_pos (x : Int) : 0 < mostM x := by
  unfold mostM
  split <;> decide +kernel
theorem most_le (x : Int) : mostM x ≤ (mx0 : Int) := by
  unfold mostM
  split <;> decide +kernel
theorem mx0_sm : mx0 < 2 ^ 1306 := by decide +kernel
theorem most_sm (x : Int) : Sm 8000 (mostM x) := by
  have h1 := most_pos x
  have h2 := most_le x
  have h3 : (mostM x).natAbs ≤ mx0 := by omega
  exact Nat.lt_of_le_of_lt h3 (Nat.lt_of_lt_of_le mx0_sm (Nat.pow_le_pow_right (by decide) (by decide)))
def B0 (z : Sz) : Nat := if z.big then mx0 else 216
theorem base0_tab (ns h : List Int) {z : Sz} (o : SzOk z) : Tab z.many z.width (base0 ns h z) := by
  unfold base0
  cases e : z.big with
  | true =>
    refine ⟨by simp, fun r hr => ?_⟩
    obtain ⟨i, _, rfl⟩ := List.mem_map.mp hr
    rw [List.length_map, longM_len]
  | false => exact denseM_tab ns (by have := o.not e; omega)
theorem base0_bd (ns h : List Int) {z : Sz} (o : SzOk z) : ∀ r ∈ base0 ns h z, ∀ x ∈ r, Bd (B0 z) x := by
  unfold base0 B0
  cases e : z.big with
  | true =>
    intro r hr x hx
    obtain ⟨i, _, rfl⟩ := List.mem_map.mp hr
    obtain ⟨y, hy, rfl⟩ := List.mem_map.mp hx
    have h1 := longM_lt (most_pos (h.getD 3 0)) _ _ y hy
    have h2 := most_le (h.getD 3 0)
    show Bd mx0 _
    generalize mostM (h.getD 3 0) = m at *
    unfold Bd
    omega
  | false =>
    intro r hr x hx
    have := o.not e
    refine (denseM_bd ns (by omega) r hr x hx).mono ?_
    show z.span * 9 ≤ 216
    omega
theorem tops_len (ns : List Int) (z : Sz) : (topsM ns z).length = z.width := by
  unfold topsM
  split
  · rw [List.length_map, longM_len]
  · rw [List.length_map, digitsM_len, List.length_replicate]
theorem tops_bd (ns : List Int) (z : Sz) : ∀ x ∈ topsM ns z, Bd 999 x := by
  unfold topsM
  intro x hx
  split at hx
  · obtain ⟨y, hy, rfl⟩ := List.mem_map.mp hx
    have h1 := longM_lt (show (0 : Int) < 1999 by decide) _ _ y hy
    unfold Bd
    omega
  · obtain ⟨y, hy, rfl⟩ := List.mem_map.mp hx
    have h1 := digitsM_rep _ 11 _ (by decide) y hy
    unfold Bd
    omega
theorem base_tab (ns : List Int) {h : List Int} {z : Sz} (o : SzOk z) (hh : HeadOk h) : Tab z.many z.width (baseM ns h z) ∧ ∀ r ∈ baseM ns h z, ∀ x ∈ r, Bd (B0 z * 2 * 2) x := by
  obtain ⟨h0, h1, h2, h3, h4, h5, h6, h7, h8, h9, h10, h11, rfl, b0, b1, b2, b3, b4, b5, b6, b7, b8, b9, b10, b11⟩ := hh.ex
  exact twinsM_tab (base0_tab ns _ o) (base0_bd ns _ o) (by have := o.m; omega) (by have := o.w; omega) b6.1 b9.1
theorem rowV_len (ns : List Int) (z : Sz) : (rowV ns z).length = z.many + 1 := by
  unfold rowV
  rw [digitsM_len, List.length_append, List.length_replicate]
  rfl
theorem rowV_lt (ns : List Int) (z : Sz) : ∀ d ∈ rowV ns z, 0 ≤ d ∧ d < 8 := by
  intro d hd
  obtain ⟨i, hi, e⟩ := List.mem_iff_getElem.mp hd
  rw [rowV_len] at hi
  refine digitsM_lt _ (List.replicate z.many 8 ++ [8]) i 8 d (fun s hs => ?_) ?_ (by rw [← e]; exact List.getElem?_eq_getElem _)
  · rcases List.mem_append.mp hs with hs | hs
    · rw [List.eq_of_mem_replicate hs]; decide
    · rw [List.mem_singleton.mp hs]; decide
  · rw [← List.replicate_succ', List.getElem?_replicate, if_pos hi]
theorem lineL_ok : ∀ x ∈ lineL, 1 ≤ x ∧ x ≤ 12 := by decide
theorem facL_ok : ∀ x ∈ facL, x ≠ 0 ∧ -5 ≤ x ∧ x ≤ 5 := by decide
theorem line_ok (ns : List Int) (z : Sz) : 1 ≤ lineM ns z ∧ lineM ns z ≤ 12 := by
  have h := rowV_lt ns z _ (getD_mem (l := rowV ns z) (i := z.many) 0 (by rw [rowV_len]; omega))
  exact lineL_ok _ (getD_mem (l := lineL) 0 (by show _ < 8; omega))
theorem factors_len (ns : List Int) (z : Sz) : (factorsM ns z).length = z.many := by
  unfold factorsM
  rw [pickL_len, List.length_take, rowV_len]
  omega
theorem factors_ok (ns : List Int) (z : Sz) : ∀ x ∈ factorsM ns z, x ≠ 0 ∧ -5 ≤ x ∧ x ≤ 5 := by
  intro x hx
  obtain ⟨d, hd, rfl⟩ := List.mem_map.mp hx
  have h := rowV_lt ns z d (List.mem_of_mem_take hd)
  exact facL_ok _ (getD_mem (l := facL) 0 (by show _ < 8; omega))
theorem table_tab (ns : List Int) {h : List Int} {z : Sz} (o : SzOk z) (hh : HeadOk h) : Tab z.many z.width (tableM ns h z) := by
  refine ⟨by unfold tableM; simp, fun r hr => ?_⟩
  obtain ⟨i, hi, rfl⟩ := List.mem_map.mp hr
  rw [List.length_map]
  exact (base_tab ns o hh).1.row (List.mem_range.mp hi)
theorem table_getD (ns h : List Int) (z : Sz) {i : Nat} (hi : i < z.many) : (tableM ns h z).getD i [] = ((baseM ns h z).getD i []).map fun x => x * lineM ns z * (factorsM ns z).getD i 0 := by
  unfold tableM
  exact getD_get (by rw [List.getElem?_map, List.getElem?_range hi]; rfl)
theorem sums_len (ns h : List Int) (z : Sz) : (sumsM ns h z).length = z.many := by unfold sumsM; simp
theorem sums_getD (ns h : List Int) (z : Sz) {i : Nat} (hi : i < z.many) : (sumsM ns h z).getD i 0 = (factorsM ns z).getD i 0 * dotL ((baseM ns h z).getD i []) (topsM ns z) := by
  unfold sumsM
  exact getD_get (by rw [List.getElem?_map, List.getElem?_range hi]; rfl)
/-- the planted table's numbers -/
theorem table_bd (ns : List Int) {h : List Int} {z : Sz} (o : SzOk z) (hh : HeadOk h) : ∀ r ∈ tableM ns h z, ∀ x ∈ r, Bd (B0 z * 240) x := by
  intro r hr x hx
  obtain ⟨i, hi, rfl⟩ := List.mem_map.mp hr
  obtain ⟨y, hy, rfl⟩ := List.mem_map.mp hx
  obtain ⟨tb, bb⟩ := base_tab ns o hh
  have h1 := bb _ (getD_mem [] (by rw [tb.n]; exact List.mem_range.mp hi)) y hy
  have h2 : Bd 12 (lineM ns z) := by have := line_ok ns z; unfold Bd; omega
  have h3 : Bd 5 ((factorsM ns z).getD i 0) := by
    have := factors_ok ns z _ (getD_mem (l := factorsM ns z) (i := i) 0 (by rw [factors_len]; exact List.mem_range.mp hi))
    unfold Bd; omega
  exact ((h1.mul h2).mul h3).mono (by omega)
theorem dot_bd {xs ys : List Int} {A B : Nat} (hl : xs.length ≤ ys.length) (ha : ∀ x ∈ xs, Bd A x) (hb : ∀ y ∈ ys, Bd B y) : Bd (xs.length * (A * B)) (dotL xs ys) := by
  rw [dotL_sg _ _ hl]
  exact sg_bd _ fun i hi => (ha _ (getD_mem 0 hi)).mul (hb _ (getD_mem 0 (by omega)))
theorem sums_bd (ns : List Int) {h : List Int} {z : Sz} (o : SzOk z) (hh : HeadOk h) : ∀ x ∈ sumsM ns h z, Bd (B0 z * (20 * 24 * 999)) x := by
  intro x hx
  obtain ⟨i, hi, rfl⟩ := List.mem_map.mp hx
  obtain ⟨tb, bb⟩ := base_tab ns o hh
  have hi := List.mem_range.mp hi
  have h3 : Bd 5 ((factorsM ns z).getD i 0) := by
    have := factors_ok ns z _ (getD_mem (l := factorsM ns z) (i := i) 0 (by rw [factors_len]; exact hi))
    unfold Bd; omega
  have h4 := dot_bd (xs := (baseM ns h z).getD i []) (ys := topsM ns z) (by rw [tb.row hi, tops_len]; exact Nat.le_refl _) (bb _ (getD_mem [] (by rw [tb.n]; exact hi))) (tops_bd ns z)
  rw [tb.row hi] at h4
  refine (h3.mul h4).mono ?_
  have := o.w
  calc 5 * (z.width * (B0 z * 2 * 2 * 999)) ≤ 5 * (24 * (B0 z * 2 * 2 * 999)) := Nat.mul_le_mul_left _ (Nat.mul_le_mul_right _ this.2)
    _ = B0 z * (20 * 24 * 999) := by omega
theorem b0_le (z : Sz) : B0 z ≤ mx0 := by
  unfold B0
  split
  · exact Nat.le_refl _
  · decide +kernel
end M

set_option Elab.async false
set_option linter.all false
set_option maxRecDepth 100000
set_option maxHeartbeats 4000000
/-! the program's functions told plainly -/
namespace M
open L2
def lowM (ns : List Int) : List Int := ns.map fun x => x / ((gcdL ns : Nat) : Int)
theorem lowM_len (ns : List Int) : (lowM ns).length = ns.length := List.length_map _
theorem div_one_map (ns : List Int) : ns.map (fun x => x / 1) = ns := by
  rw [show (fun x : Int => x / 1) = id from funext fun x => Int.ediv_one x, List.map_id]
theorem lowM_one {ns : List Int} (h : gcdL ns = 1) : lowM ns = ns := by
  unfold lowM
  rw [h]
  exact div_one_map ns
theorem lowM_zero {ns : List Int} (h : gcdL ns = 0) : lowM ns = ns := by
  unfold lowM
  rw [h]
  refine (List.map_congr_left fun x hx => ?_).trans (List.map_id _)
  have d := gcdL_dvd ns x hx
  rw [h] at d
  have : x.natAbs = 0 := Nat.eq_zero_of_zero_dvd d
  show x / 0 = x
  omega
theorem gcdL_take {ns : List Int} {m : Nat} (h : gcdL (ns.take m) = 1) : gcdL ns = 1 := by
  have : gcdL ns ∣ gcdL (ns.take m) := dvd_gcdL _ _ fun n hn => gcdL_dvd ns n (List.mem_of_mem_take hn)
  rw [h] at this
  exact Nat.dvd_one.mp this
theorem gcdL_snoc {ns : List Int} {m : Nat} {x : Int} (h : ns[m]? = some x) : gcdL (ns.take (m + 1)) = Nat.gcd (gcdL (ns.take m)) x.natAbs := by
  unfold gcdL
  rw [foldl_take_succ _ _ _ _ x h]
def rawM (e c : List Int) (f p : Int) : List Int := (List.range e.length).map fun j => e.getD j 0 * f - c.getD j 0 * p
def clearRow (es : List (List Int)) (a col k : Nat) : List Int :=
  if k = a ∨ (es.getD k []).getD col 0 = 0 then es.getD k [] else lowM (rawM (es.getD k []) (es.getD a []) ((es.getD a []).getD col 0) ((es.getD k []).getD col 0))
def clearedM (es : List (List Int)) (a col : Nat) : List (List Int) := (List.range es.length).map (clearRow es a col)
def freeT (es : List (List Int)) (us : List Nat) (col k : Nat) : Bool := !(us.contains k) && !decide ((es.getD k []).getD col 0 = 0)
def freeM (es : List (List Int)) (us : List Nat) (col : Nat) : Option Nat := (List.range es.length).find? (freeT es us col)
structure El where
  es : List (List Int)
  pv : List (Nat × Nat)
def El.us (s : El) : List Nat := s.pv.map Prod.fst
def flipM (es : List (List Int)) (a col : Nat) : List (List Int) := if (es.getD a []).getD col 0 < 0 then es.set a ((es.getD a []).map fun x => -x) else es
def stepM (s : El) (col : Nat) : El := match freeM s.es s.us col with
  | none => s
  | some a => ⟨clearedM (flipM s.es a col) a col, s.pv ++ [(a, col)]⟩
def elimTo (es : List (List Int)) (c : Nat) : El := (List.range c).foldl stepM ⟨es.map lowM, []⟩
theorem elimTo_succ (es : List (List Int)) (c : Nat) : elimTo es (c + 1) = stepM (elimTo es c) c := by
  unfold elimTo
  rw [List.range_succ, List.foldl_append]
  rfl
/-- the numbers of a turn stay within what the machine's rules allow -/
structure StepOk (n W : Nat) (s : El) (col : Nat) : Prop where
  t : Tab n W s.es
  b : ∀ r ∈ s.es, ∀ x ∈ r, Sm 100000 x
  u : ∀ a ∈ s.us, a < n
  nd : s.us.Nodup
/-- a whole elimination does so -/
structure ElOk (n W : Nat) (es : List (List Int)) (width : Nat) : Prop where
  hn : n ≤ 1000
  hw : W ≤ 1000
  hc : width ≤ W
  t : Tab n W es
  s : ∀ c, c < width → StepOk n W (elimTo es c) c
theorem freeM_some {es : List (List Int)} {us : List Nat} {col a : Nat} (h : freeM es us col = some a) : a < es.length ∧ a ∉ us ∧ (es.getD a []).getD col 0 ≠ 0 := by
  have h1 := List.find?_some h
  have h2 := List.mem_range.mp (List.mem_of_find?_eq_some h)
  unfold freeT at h1
  rw [Bool.and_eq_true, Bool.not_eq_true', Bool.not_eq_true', decide_eq_false_iff_not] at h1
  refine ⟨h2, fun z => ?_, h1.2⟩
  have := List.contains_iff_mem.mpr z
  rw [this] at h1
  cases h1.1
theorem freeM_none {es : List (List Int)} {us : List Nat} {col : Nat} (h : freeM es us col = none) {k : Nat} (hk : k < es.length) (hu : k ∉ us) : (es.getD k []).getD col 0 = 0 := by
  have h1 := List.find?_eq_none.mp h k (List.mem_range.mpr hk)
  unfold freeT at h1
  have h2 : us.contains k = false := by
    cases e : us.contains k with
    | false => rfl
    | true => exact absurd (List.contains_iff_mem.mp e) hu
  rw [h2] at h1
  simpa using h1
theorem flip_tab {n W : Nat} {es : List (List Int)} {a col : Nat} (t : Tab n W es) (ha : a < n) : Tab n W (flipM es a col) := by
  unfold flipM
  split
  · refine ⟨by rw [List.length_set]; exact t.n, fun r hr => ?_⟩
    rcases mem_set hr with rfl | hr
    · rw [List.length_map]; exact t.row ha
    · exact t.w r hr
  · exact t
theorem clearRow_len {n W : Nat} {es : List (List Int)} {a col k : Nat} (t : Tab n W es) (hk : k < n) : (clearRow es a col k).length = W := by
  unfold clearRow
  split
  · exact t.row hk
  · rw [lowM_len]
    unfold rawM
    rw [List.length_map, List.length_range]
    exact t.row hk
theorem cleared_tab {n W : Nat} {es : List (List Int)} {a col : Nat} (t : Tab n W es) : Tab n W (clearedM es a col) := by
  unfold clearedM
  refine ⟨by rw [List.length_map, List.length_range]; exact t.n, fun r hr => ?_⟩
  obtain ⟨k, hk, rfl⟩ := List.mem_map.mp hr
  exact clearRow_len t (by rw [← t.n]; exact List.mem_range.mp hk)
theorem cleared_getD {es : List (List Int)} {a col k : Nat} (hk : k < es.length) : (clearedM es a col).getD k [] = clearRow es a col k := by
  unfold clearedM
  exact getD_get (by rw [List.getElem?_map, List.getElem?_range hk]; rfl)
/-! the answers -/
def ratioM (t b : Int) : Int × Int := (t / ((Nat.gcd t.natAbs b.natAbs : Nat) : Int), b / ((Nat.gcd t.natAbs b.natAbs : Nat) : Int))
def rowM (tops : List Int) (line : Int) : List Int × Int := (tops.map fun x => x / ((gcdL (line :: tops) : Nat) : Int), line / ((gcdL (line :: tops) : Nat) : Int))
def lcmL (bs : List Int) : Nat := bs.foldl (fun l b => Nat.lcm l b.natAbs) 1
def rowOfM (rs : List (Int × Int)) : List Int × Int := rowM (rs.map fun r => r.1 * (((lcmL (rs.map Prod.snd) : Nat) : Int) / r.2)) ((lcmL (rs.map Prod.snd) : Nat) : Int)
def barT (es : List (List Int)) (us : List Nat) (width k : Nat) : Bool := !(us.contains k) && !decide ((es.getD k []).getD width 0 = 0)
def barM (s : El) (width : Nat) : Option (List Int) := match (List.range s.es.length).find? (barT s.es s.us width) with
  | none => none
  | some k => if (s.es.getD k []).getD width 0 < 0 then some ((lowM ((s.es.getD k []).drop (width + 1))).map fun x => -x) else some (lowM ((s.es.getD k []).drop (width + 1)))
def pointM (s : El) (width : Nat) : List (Int × Int) := s.pv.foldl (fun p ac => p.set ac.2 (ratioM ((s.es.getD ac.1 []).getD width 0) ((s.es.getD ac.1 []).getD ac.2 0))) (List.replicate width (0, 1))
def entriesM (table : List (List Int)) (right : List Int) : List (List Int) := (List.range table.length).map fun k => table.getD k [] ++ [right.getD k 0] ++ (List.replicate table.length 0).set k 1
/-- distinct numbers below n are n at most -/
theorem nodup_len : ∀ (us : List Nat) (n : Nat), us.Nodup → (∀ a ∈ us, a < n) → us.length ≤ n := by
  intro us n
  induction n generalizing us with
  | zero =>
    intro _ h
    cases us with
    | nil => exact Nat.le_refl _
    | cons a us => exact absurd (h a List.mem_cons_self) (Nat.not_lt_zero _)
  | succ n ih =>
    intro nd h
    have h1 : (us.erase n).length ≤ n := ih _ (nd.erase n) fun a ha => by
      have h2 := h a (List.mem_of_mem_erase ha)
      have h3 : a ≠ n := fun z => by
        rw [z] at ha
        exact (List.Nodup.not_mem_erase nd) ha
      omega
    have h2 : us.length ≤ (us.erase n).length + 1 := by
      rw [List.length_erase]
      split <;> omega
    omega
end M

set_option Elab.async false
set_option linter.all false
set_option maxRecDepth 100000
set_option maxHeartbeats 4000000
set_option exponentiation.threshold 5000
namespace LS
open PySem PySem.Spec PyProof.Rows L2 DL M
local macro_rules | `(tactic| by_item) => `(tactic| with_reducible first
  | exact DL.ed_var (by with_unfolding_all rfl) | exact DL.ed_int | exact DL.ed_bl | exact DL.ed_non | exact DL.ed_str | exact DL.ea_nil | exact DL.et_yes
  | apply DL.ea_cons | apply DL.ed_op | apply DL.ed_un | apply DL.ed_lst | apply DL.ed_fld | (show L2.Cls _ _; with_reducible assumption) | (show L2.NoAttr _ _ _; with_reducible assumption) | (show List.lookup _ _ = _; with_unfolding_all rfl) | (show List.length _ ≤ PySem.sizeLine; exact Nat.le_of_ble_eq_true (by with_unfolding_all rfl)) | apply DL.ed_isi | apply DL.ed_cb
  | exact DL.od_I0 | exact DL.od_B0 | exact DL.od_eqI | exact DL.od_neI | exact DL.od_eqS | exact DL.od_isN | exact DL.od_notN | (apply DL.od_divX) | (apply DL.od_divN) | apply DL.od_I | apply DL.od_ix | exact DL.ud_I
  | apply DL.cd_len | exact DL.cd_int | exact DL.cd_intB | exact DL.cd_1 | exact DL.cd_gcd | apply DL.cd_lcmX | exact DL.cd_min3 | exact DL.cd_2
  | apply DL.et_test | apply DL.et_B | apply DL.et_not | apply DL.ed_notV
  | (show DL.tyB _ = _; with_unfolding_all rfl) | (show DL.itemsOf _ = _; with_unfolding_all rfl) | exact DL.seqD_items | (show L2.atI _ _ = _; with_reducible assumption) | (show L2.atI _ _ = _; exact L2.atI_nat (by with_reducible assumption)) | exact DL.atI_zero | exact DL.atI_one | (show L2.atI _ _ = _; with_unfolding_all rfl) | (show L2.kitB _ _ = _; first | exact DL.kb_NoneType_int | exact DL.kb_NoneType_bool | exact DL.kb_NoneType_tuple | exact DL.kb_NoneType_list | exact DL.kb_NoneType_str | exact DL.kb_NoneType_dict | exact DL.kb_bool_int | exact DL.kb_bool_bool | exact DL.kb_bool_tuple | exact DL.kb_bool_list | exact DL.kb_bool_str | exact DL.kb_bool_dict | exact DL.kb_int_int | exact DL.kb_int_bool | exact DL.kb_int_tuple | exact DL.kb_int_list | exact DL.kb_int_str | exact DL.kb_int_dict | exact DL.kb_str_int | exact DL.kb_str_bool | exact DL.kb_str_tuple | exact DL.kb_str_list | exact DL.kb_str_str | exact DL.kb_str_dict | exact DL.kb_list_int | exact DL.kb_list_bool | exact DL.kb_list_tuple | exact DL.kb_list_list | exact DL.kb_list_str | exact DL.kb_list_dict | exact DL.kb_tuple_int | exact DL.kb_tuple_bool | exact DL.kb_tuple_tuple | exact DL.kb_tuple_list | exact DL.kb_tuple_str | exact DL.kb_tuple_dict | exact DL.kb_dict_int | exact DL.kb_dict_bool | exact DL.kb_dict_tuple | exact DL.kb_dict_list | exact DL.kb_dict_str | exact DL.kb_dict_dict))
local macro_rules | `(tactic| by_place) => `(tactic| (repeat' by_item))
local macro_rules | `(tactic| by_in) => `(tactic| first | (with_reducible assumption) | (with_reducible exact DL.seqD_items) | (show (0 : Int) < _; omega) | (show (0 : Int) < _; decide +kernel) | exact M.mulS (by omega) (by omega) | exact M.mulP (by omega) (by omega) (by omega) | exact M.divS (by omega) (by omega) | exact ⟨by decide, by decide, by decide⟩ | exact ⟨by decide, by decide, by omega⟩ | exact L2.atI_nat (by assumption) | (show L2.atI _ _ = _; rfl))
section
variable {K : PySem.W.Frag}
theorem get_dI {ns : List Int} {m : Nat} {d : DL.D} (h : (dI ns)[m]? = some d) : ∃ x, ns[m]? = some x ∧ d = .int x := by
  rw [List.getElem?_map] at h
  cases e : ns[m]? with
  | none => rw [e] at h; cases h
  | some x => rw [e] at h; cases h; exact ⟨x, rfl, rfl⟩
theorem dI_get {ns : List Int} {m : Nat} {x : Int} (h : ns[m]? = some x) : (dI ns)[m]? = some (.int x) := by
  rw [List.getElem?_map, h]
  rfl
theorem pow18 : (10 : Int) ^ (18 : Int).toNat = 1000000000000000000 := by decide
/-! _law_whole of a whole number -/
def spLawWhole (K : PySem.W.Frag) : Sp := spT K (α := Int) (fun i => [.int i]) (fun _ => True) (fun _ => .sh (.bl true))
/-! _law_cell -/
def spLawCell (K : PySem.W.Frag) : Sp := spT K (α := List Int × Nat) (fun a => [.rd (dI a.1), .int a.2]) (fun a => a.2 < 1000) (fun a => .sh (.int (cellM a.1 a.2)))
/-! _law_digits -/
def spLawDigits (K : PySem.W.Frag) : Sp := spT K (α := Int × List Int) (fun a => [.int a.1, .lst (dI a.2)]) (fun a => (∀ s ∈ a.2, 0 < s ∧ s < 2 ^ 60) ∧ a.2.length ≤ 1000) (fun a => .ow (dI (digitsM a.1 a.2)))
/-! _law_gcd -/
def spLawGcd (K : PySem.W.Frag) : Sp := spT K (α := Int × Int) (fun a => [.int a.1, .int a.2]) (fun a => Sm 49000 a.1 ∧ Sm 49000 a.2) (fun a => .sh (.int ((Nat.gcd a.1.natAbs a.2.natAbs : Nat) : Int)))
theorem abs_eq (i : Int) : (if i < 0 then -i else i) = ((i.natAbs : Nat) : Int) := by omega
/-! _law_common -/
def spLawCommon (K : PySem.W.Frag) : Sp := spT K (α := Bool × List Int) (fun a => [seqD a.1 (dI a.2)]) (fun a => ∀ n ∈ a.2, Sm 49000 n) (fun a => .sh (.int ((gcdL a.2 : Nat) : Int)))
/-! _law_is_row -/
def spLawIsRow (K : PySem.W.Frag) : Sp := spT K (α := List Int × Int × Int) (fun a => [.tup [.tup (dI a.1), .int a.2.1], .int a.2.2]) (fun a => (∀ n ∈ a.1, Sm 49000 n) ∧ Sm 49000 a.2.1 ∧ a.1.length ≤ 10000) (fun a => .sh (.bl (isRowM a.1 a.2.1 a.2.2)))
/-! _law_sum -/
def spLawSum (K : PySem.W.Frag) : Sp := spT K (α := Bool × Bool × List Int × List Int) (fun a => [seqD a.1 (dI a.2.2.1), seqD a.2.1 (dI a.2.2.2)]) (fun a => a.2.2.1.length ≤ a.2.2.2.length ∧ a.2.2.1.length ≤ 10000 ∧ (∀ x ∈ a.2.2.1, Sm 400000 x) ∧ (∀ x ∈ a.2.2.2, Sm 400000 x)) (fun a => .sh (.int (dotL a.2.2.1 a.2.2.2)))
/-! _law_long -/
def spLawLong (K : PySem.W.Frag) : Sp := spT K (α := Int × Nat × Int) (fun a => [.int a.1, .int a.2.1, .int a.2.2]) (fun a => 0 < a.2.2 ∧ Sm 8000 a.2.2 ∧ a.2.1 ≤ 1000) (fun a => .ow (dI (longM a.1 a.2.1 a.2.2)))
/-- lists of numbers as data -/
def dT (rows : List (List Int)) : List DL.D := rows.map fun r => .lst (dI r)
theorem get_dT {rows : List (List Int)} {m : Nat} {d : DL.D} (h : (dT rows)[m]? = some d) : ∃ r, rows[m]? = some r ∧ d = .lst (dI r) := by
  unfold dT at h
  rw [List.getElem?_map] at h
  cases e : rows[m]? with
  | none => rw [e] at h; cases h
  | some x => rw [e] at h; cases h; exact ⟨x, rfl, rfl⟩
theorem dT_get {rows : List (List Int)} {m : Nat} {r : List Int} (h : rows[m]? = some r) : (dT rows)[m]? = some (.lst (dI r)) := by
  unfold dT
  rw [List.getElem?_map, h]
  rfl
theorem dT_len {rows : List (List Int)} : (dT rows).length = rows.length := List.length_map _
/-! _law_mixed -/
def preMixed (rows : List (List Int)) (fs : List Int) : Prop := rows ≠ [] ∧ (∀ r ∈ rows, r.length = (rows.headD []).length) ∧ rows.length ≤ fs.length ∧ rows.length ≤ 10000 ∧ (rows.headD []).length ≤ 10000 ∧ (∀ r ∈ rows, ∀ x ∈ r, Sm 400000 x) ∧ ∀ x ∈ fs, Sm 400000 x
def spLawMixed (K : PySem.W.Frag) : Sp := spT K (α := Bool × List (List Int) × List Int) (fun a => [.lst (dT a.2.1), seqD a.1 (dI a.2.2)]) (fun a => preMixed a.2.1 a.2.2) (fun a => .ow (dI (mixedM a.2.1 a.2.2)))
/-- [menu[digit] for digit in digits] -/
theorem el_pick {η : DL.Env} {tl te : TE} {i : Nat} {vs : List Nat} {menu ds : List Int} (hm : menu.length < 1000) (h : EvD K tl η (.lst (dI ds))) (hi : i ∈ vs) (hz : ds.length ≤ 10000)
    (hd : ∀ d ∈ ds, 0 ≤ d ∧ d < (menu.length : Int)) (he : ∀ (x : Int), atI (dI menu) x = some (.int (menu.getD x.toNat 0)) → EvD K te ((wipeE η vs).set i (some (.int x))) (.int (menu.getD x.toNat 0))) : EvL K (tLc (iList K tl) (gName i) tYes te vs) η (dI (pickL menu ds)) := by
  refine EvL.is (el_lcL (ds := dI ds) (fun _ => true) (fun j => .int ((pickL menu ds).getD j 0)) h (.inl rfl) (by rw [List.length_map]; omega) fun j d hd' => ?_) ?_
  · obtain ⟨x, hx, rfl⟩ := get_dI hd'
    have hx2 := hd x (List.mem_of_getElem? hx)
    refine ⟨_, tg_name hi, et_yes, fun _ => EvD.is (he x ?_) ?_⟩
    · have e : ((x.toNat : Nat) : Int) = x := by omega
      have g := atI_nat (dI_get (get_getD 0 (show x.toNat < menu.length by omega)))
      rw [e] at g
      exact g
    · have : (pickL menu ds)[j]? = some (menu.getD x.toNat 0) := by
        unfold pickL
        rw [List.getElem?_map, hx]
        rfl
      rw [getD_get this]
  · rw [given_all]
    refine range_dI (by rw [pickL_len, List.length_map]) fun j x h => ?_
    rw [getD_get h]
theorem rep_dI (n : Nat) (x : Int) : List.replicate (n : Int).toNat (DL.D.int x) = dI (List.replicate n x) := by
  rw [Int.toNat_natCast]
  unfold dI
  rw [List.map_replicate]
/-- [x] * n -/
theorem el_rep {η : DL.Env} {ta tb : TE} {n : Nat} {x : Int} (ha : EvD K ta η (.lst [.int x])) (hb : EvD K tb η (.int n)) (hn : n ≤ 10000000) : EvL K (tOp rRep ta tb) η (dI (List.replicate n x)) :=
  EvL.is (el_op ha hb (ol_rep (by omega) (by omega))) (rep_dI n x)
/-! _law_dense -/
def spLawDense (K : PySem.W.Frag) : Sp := spT K (α := List Int × Nat × Nat × Nat) (fun a => [.rd (dI a.1), .int a.2.1, .int a.2.2.1, .int a.2.2.2]) (fun a => a.2.1 ≤ 100 ∧ a.2.2.1 ≤ 100 ∧ 0 < a.2.2.2 ∧ a.2.2.2 ≤ 100) (fun a => .ow (dT (denseM a.1 a.2.1 a.2.2.1 a.2.2.2)))
theorem digs_pre {s : Int} {n : Nat} (h : 0 < s) (h2 : s < 2 ^ 60) (hn : n ≤ 1000) : (∀ x ∈ List.replicate n s, 0 < x ∧ x < 2 ^ 60) ∧ (List.replicate n s).length ≤ 1000 := ⟨fun x hx => by rw [List.eq_of_mem_replicate hx]; exact ⟨h, h2⟩, by rw [List.length_replicate]; exact hn⟩
/-! _law_sizes -/
def szD (z : Sz) : List DL.D := [.int z.many, .int z.width, .int z.span, .bl z.big]
theorem szD_mk {m w s : Int} {b : Bool} (h1 : 0 ≤ m) (h2 : 0 ≤ w) (h3 : 0 ≤ s) : ([.int m, .int w, .int s, .bl b] : List DL.D) = szD ⟨m.toNat, w.toNat, s.toNat, b⟩ := by
  unfold szD
  rw [Int.toNat_of_nonneg h1, Int.toNat_of_nonneg h2, Int.toNat_of_nonneg h3]
def spLawSizes (K : PySem.W.Frag) : Sp := spT K (α := List Int) (fun a => [.lst (dI a)]) (fun a => HeadOk a) (fun a => .ow (szD (sizesM a)))
/-! _law_copy -/
def tT (rows : List (List Int)) : List DL.D := rows.map fun r => .tup (dI r)
def copyOut (rows : List (List Int)) (t : Bool) : Ret := match t with
  | true => .sh (.tup (tT rows))
  | false => .oo (rows.map dI)
def spLawCopy (K : PySem.W.Frag) : Sp := spT K (α := List (List Int) × Bool) (fun a => [.lst (dT a.1), .bl a.2]) (fun a => a.1.length ≤ 10000) (fun a => copyOut a.1 a.2)
theorem range_gen {α β : Type} (F : α → β) (ds : List α) (v : Nat → β) (h : ∀ (i : Nat) (d : α), ds[i]? = some d → v i = F d) : (List.range ds.length).map v = ds.map F := by
  apply List.ext_getElem
  · simp
  · intro i h1 h2
    rw [List.getElem_map, List.getElem_map, List.getElem_range]
    have hl : i < ds.length := by simpa using h1
    exact h i _ (List.getElem?_eq_getElem hl)
/-- [list(mine) for mine in table] -/
theorem ell_copy {η : DL.Env} {tl te : TE} {i : Nat} {vs : List Nat} {rows : List (List Int)} (h : EvD K tl η (.lst (dT rows))) (hi : i ∈ vs) (hz : rows.length ≤ 10000)
    (he : ∀ r : List Int, EvL K te ((wipeE η vs).set i (some (.lst (dI r)))) (dI r)) : EvLL K (tLc (iList K tl) (gName i) tYes te vs) η (rows.map dI) := by
  refine EvLL.is (el_lcLL (ds := dT rows) (fun j => dI (rows.getD j [])) h (.inl rfl) (by rw [dT_len]; omega) fun j d hd => ?_) ?_
  · obtain ⟨r, hr, rfl⟩ := get_dT hd
    refine ⟨_, tg_name hi, ?_⟩
    rw [getD_get hr]
    exact he r
  · rw [dT_len]
    exact range_gen dI rows _ fun j r hr => by rw [getD_get hr]
/-- [F(number) for number in numbers] -/
theorem el_mapI {η : DL.Env} {tl te : TE} {i : Nat} {vs : List Nat} {ds : List Int} (F : Int → Int) (h : EvD K tl η (.lst (dI ds))) (hi : i ∈ vs) (hz : ds.length ≤ 10000)
    (he : ∀ x ∈ ds, EvD K te ((wipeE η vs).set i (some (.int x))) (.int (F x))) : EvL K (tLc (iList K tl) (gName i) tYes te vs) η (dI (ds.map F)) := by
  refine EvL.is (el_lcL (ds := dI ds) (fun _ => true) (fun j => .int ((ds.map F).getD j 0)) h (.inl rfl) (by rw [List.length_map]; omega) fun j d hd' => ?_) ?_
  · obtain ⟨x, hx, rfl⟩ := get_dI hd'
    refine ⟨_, tg_name hi, et_yes, fun _ => EvD.is (he x (List.mem_of_getElem? hx)) ?_⟩
    rw [getD_get (show (ds.map F)[j]? = some (F x) by rw [List.getElem?_map, hx]; rfl)]
  · rw [given_all]
    refine range_dI (by rw [List.length_map, List.length_map]) fun j x h => ?_
    rw [getD_get h]
theorem max2_eq (i j : Int) : (if j > i then j else i) = max i j := by
  rw [Int.max_def]
  split <;> split <;> omega
theorem frz_oo {rows : List (List Int)} : (rows.map dI).map DL.D.lst = dT rows := by
  unfold dT
  rw [List.map_map]
  rfl
theorem dI_set (r : List Int) (c : Nat) (v : Int) : (dI r).set c (.int v) = dI (r.set c v) := by
  unfold dI
  rw [List.map_set]
theorem rows_set (l : List (List Int)) (m : Nat) (r : List Int) : (l.map dI).set m (dI r) = (l.set m r).map dI := by rw [List.map_set]
/-! _law_twins -/
structure PreTwins (width : Nat) (rows : List (List Int)) (h : List Int) : Prop where
  t : Tab rows.length width rows
  m : 1 ≤ rows.length ∧ rows.length ≤ 24
  w : 1 ≤ width ∧ width ≤ 24
  h : HeadOk h
  b : ∀ r ∈ rows, ∀ x ∈ r, Sm 10000 x
def spLawTwins (K : PySem.W.Frag) : Sp := spT K (α := Nat × List (List Int) × List Int) (fun a => [.lst (dT a.2.1), .lst (dI a.2.2)]) (fun a => PreTwins a.1 a.2.1 a.2.2) (fun a => .sh (.lst (dT (twinsM a.1 a.2.1 a.2.2))))
theorem fac_at {x : Int} (h : 0 ≤ x) (h4 : x < 4) : atI [.int 1, .int (-1), .int 2, .int 0] x = some (DL.D.int (facM.getD x.toNat 0)) := by
  have e : ((x.toNat : Nat) : Int) = x := by omega
  have g := atI_nat (dI_get (get_getD (l := facM) 0 (show x.toNat < facM.length by show _ < 4; omega)))
  rw [e] at g
  exact g
theorem atN {α : Type} {l : List α} {x : Int} {v : α} (h : 0 ≤ x) (e : l[x.toNat]? = some v) : atI l x = some v := by
  have g := atI_nat e
  rw [show ((x.toNat : Nat) : Int) = x by omega] at g
  exact g
theorem sm_fac (x : Int) (h : 0 ≤ x) (h4 : x < 4) : Sm 10000 (facM.getD x.toNat 0) := (fac_bd _ (getD_mem (l := facM) _ (show x.toNat < 4 by omega))).smL 10 (by decide) (by decide)
theorem po1 : CPow 10 50 := ⟨by decide, by decide, by decide⟩
theorem po2 : CMulW (10 ^ (50 : Int).toNat) (10 ^ (50 : Int).toNat) := by unfold CMulW; decide +kernel
theorem po3 : CPowW (10 ^ (50 : Int).toNat) 7 := by unfold CPowW; decide +kernel
theorem po4 : CMulW ((10 ^ (50 : Int).toNat) ^ (7 : Int).toNat) (10 ^ (43 : Int).toNat) := by unfold CMulW; decide +kernel
theorem po5 : CPow 10 43 := ⟨by decide, by decide, by decide⟩
theorem po6 : (10 ^ (50 : Int).toNat * 10 ^ (50 : Int).toNat : Int) = 10 ^ 100 := by decide +kernel
theorem po7 : ((10 ^ (50 : Int).toNat) ^ (7 : Int).toNat * 10 ^ (43 : Int).toNat : Int) = 10 ^ 393 := by decide +kernel
theorem most_at {x : Int} : atI [DL.D.int (10 ^ (50 : Int).toNat * 10 ^ (50 : Int).toNat), .int ((10 ^ (50 : Int).toNat) ^ (7 : Int).toNat * 10 ^ (43 : Int).toNat)] (x % 2) = some (.int (mostM x)) := by
  rw [po6, po7]
  unfold mostM
  have h : x % 2 = 0 ∨ x % 2 = 1 := by omega
  rcases h with h | h
  · rw [h, if_pos rfl]
    exact atI_zero
  · rw [h, if_neg (by decide)]
    exact atI_one
theorem dI_at {ns : List Int} {x : Int} (h : 0 ≤ x) (h2 : x.toNat < ns.length) : atI (dI ns) x = some (.int (ns.getD x.toNat 0)) := atN h (dI_get (get_getD 0 h2))
/-- lists made over range(n) -/
theorem el_rangeI {η : DL.Env} {ta : TA} {te : TE} {i : Nat} {vs : List Nat} {n : Nat} (F : Nat → Int) (h : EvA K ta η [.int n]) (hi : i ∈ vs) (hz : n ≤ 10000)
    (he : ∀ j, j < n → EvD K te ((wipeE η vs).set i (some (.int (j : Int)))) (.int (F j))) : EvL K (tLc (iRng1 ta) (gName i) tYes te vs) η (dI ((List.range n).map F)) := by
  refine EvL.is (el_lcR (n := (n : Int)) (fun _ => true) (fun j => .int (F j)) h (by omega) (by omega) fun j hj => ⟨_, tg_name hi, et_yes, fun _ => he j (by omega)⟩) ?_
  rw [given_all, Int.toNat_natCast]
  unfold dI
  rw [List.map_map]
  rfl
theorem el_rangeL {η : DL.Env} {ta : TA} {te : TE} {i : Nat} {vs : List Nat} {n : Nat} (F : Nat → List Int) (h : EvA K ta η [.int n]) (hi : i ∈ vs) (hz : n ≤ 10000)
    (he : ∀ j, j < n → EvL K te ((wipeE η vs).set i (some (.int (j : Int)))) (dI (F j))) : EvL K (tLc (iRng1 ta) (gName i) tYes te vs) η (dT ((List.range n).map F)) := by
  refine EvL.is (el_lcR (n := (n : Int)) (fun _ => true) (fun j => .lst (dI (F j))) h (by omega) (by omega) fun j hj => ⟨_, tg_name hi, et_yes, fun _ => (he j (by omega)).data⟩) ?_
  rw [given_all, Int.toNat_natCast]
  unfold dT
  rw [List.map_map]
  rfl
theorem cut_take {α : Type} (l : List α) (n : Nat) (h : n ≤ l.length) : DL.cutD l none (some (n : Int)) = l.take n := by
  unfold DL.cutD
  have e1 : HT.sIx l.length 0 none = 0 := rfl
  have e2 : HT.sIx l.length l.length (some (n : Int)) = n := by
    rw [HT.sIx_nat]
    omega
  rw [e1, e2, List.drop_zero, Nat.sub_zero]
/-! _law_planted -/
def spLawPlanted (K : PySem.W.Frag) : Sp := spT K (α := List Int × List Int × Sz) (fun a => [.rd (dI a.1), .lst (dI a.2.1), .lst (szD a.2.2)]) (fun a => HeadOk a.2.1 ∧ SzOk a.2.2) (fun a => .ow [.lst (dT (tableM a.1 a.2.1 a.2.2)), .lst (dI (sumsM a.1 a.2.1 a.2.2))])
def gv_Solution_bar_point {α : Type} : List α → List α → List α := fun vs zs => match vs, zs with
  | [x], [b, p] => [x, p, b]
  | _, _ => []
/-- what solved tells -/
inductive Sol where
  | pt (tops : List Int) (line : Int) | bar (b : List Int)
def solD (K : PySem.W.Frag) : Sol → DL.D
  | .pt t l => .ins (He.ga K "Solution") ["point", "bar"] [.tup [.tup (dI t), .int l], .non]
  | .bar b => .ins (He.ga K "Solution") ["point", "bar"] [.non, .tup (dI b)]
def dueS : Sol → PySem.Str
  | .pt _ _ => "point"
  | .bar _ => "bar"
/-- what the law asks of it -/
structure RightOk (rows : List (List Int)) (right : List Int) (width : Nat) (s : Sol) : Prop where
  t : Tab rows.length width rows
  n : 1 ≤ rows.length ∧ rows.length ≤ 1000
  w : width ≤ 1000
  r : rows.length ≤ right.length
  bt : ∀ r ∈ rows, ∀ x ∈ r, Sm 40000 x
  br : ∀ x ∈ right, Sm 40000 x
  ok : match s with
    | .pt t l => (∀ x ∈ t, Sm 40000 x) ∧ Sm 40000 l ∧ isRowM t l width = true ∧ ∀ i, i < rows.length → dotL (rows.getD i []) t = right.getD i 0 * l
    | .bar b => (∀ x ∈ b, Sm 40000 x) ∧ b.length = rows.length ∧ (∀ x ∈ mixedM rows b, x = 0) ∧ 0 < dotL b right
def spLawRight (K : PySem.W.Frag) : Sp := spT K (α := List (List Int) × List Int × Nat × Sol) (fun a => [.lst (dT a.1), .lst (dI a.2.1), .str (dueS a.2.2.2), solD K a.2.2.2]) (fun a => RightOk a.1 a.2.1 a.2.2.1 a.2.2.2) (fun _ => .sh (.bl true))
/-- no item is given -/
theorem el_none {η : DL.Env} {tl te : TE} {tt : TT} {i : Nat} {vs : List Nat} {ds : List Int} (h : EvD K tl η (.lst (dI ds))) (hi : i ∈ vs) (hz : ds.length ≤ 10000)
    (he : ∀ x ∈ ds, EvT K tt ((wipeE η vs).set i (some (.int x))) false) : EvL K (tLc (iList K tl) (gName i) tt te vs) η [] := by
  refine EvL.is (el_lcL (ds := dI ds) (fun _ => false) (fun _ => .non) h (.inl rfl) (by rw [List.length_map]; omega) fun j d hd' => ?_) (by unfold given; simp)
  obtain ⟨x, hx, rfl⟩ := get_dI hd'
  exact ⟨_, tg_name hi, he x (List.mem_of_getElem? hx), fun z => by cases z⟩
theorem el_noneT {η : DL.Env} {tl te : TE} {tt : TT} {i : Nat} {vs : List Nat} {ds : List Int} (h : EvD K tl η (.tup (dI ds))) (hi : i ∈ vs) (hz : ds.length ≤ 10000)
    (he : ∀ x ∈ ds, EvT K tt ((wipeE η vs).set i (some (.int x))) false) : EvL K (tLc (iTup K tl) (gName i) tt te vs) η [] := by
  refine EvL.is (el_lcT (ds := dI ds) (fun _ => false) (fun _ => .non) h (by rw [List.length_map]; omega) fun j d hd' => ?_) (by unfold given; simp)
  obtain ⟨x, hx, rfl⟩ := get_dI hd'
  exact ⟨_, tg_name hi, he x (List.mem_of_getElem? hx), fun z => by cases z⟩
theorem el_noneR {η : DL.Env} {ta : TA} {te : TE} {tt : TT} {i : Nat} {vs : List Nat} {n : Nat} (h : EvA K ta η [.int n]) (hi : i ∈ vs) (hz : n ≤ 10000)
    (he : ∀ j, j < n → EvT K tt ((wipeE η vs).set i (some (.int (j : Int)))) false) : EvL K (tLc (iRng1 ta) (gName i) tt te vs) η [] :=
  EvL.is (el_lcR (n := (n : Int)) (fun _ => false) (fun _ => .non) h (by omega) (by omega) fun j hj => ⟨_, tg_name hi, he j (by omega), fun z => by cases z⟩) (by unfold given; simp)
theorem row_sm {t : List Int} {l : Int} {w : Int} (h : isRowM t l w = true) : (t.length : Int) = w ∧ 1 ≤ l := by
  unfold isRowM at h
  rw [Bool.and_eq_true, Bool.and_eq_true, decide_eq_true_iff, decide_eq_true_iff] at h
  exact ⟨h.1, h.2.1⟩
/-! _law_holds -/
def spLawHolds (K : PySem.W.Frag) : Sp := spT K (α := Sol) (fun a => [solD K a]) (fun a => match a with
  | .pt t l => (∀ x ∈ t, Sm 40000 x) ∧ Sm 40000 l ∧ t.length ≤ 1000 ∧ isRowM t l t.length = true
  | .bar b => (∀ x ∈ b, Sm 40000 x) ∧ b.length ≤ 1000) (fun _ => .sh (.bl true))
theorem gv_make (b p : DL.D) (y : V) (H : Hp) (zs : List V) (r : Rps K H zs [b, p]) : ∃ ws, gv_Solution_bar_point [y] zs = y :: ws ∧ Rps K H ws [p, b] := by
  cases r with
  | cons r1 r =>
    cases r with
    | cons r2 r =>
      cases r
      exact ⟨_, rfl, .cons r2 (.cons r1 .nil)⟩
theorem divG {g : Nat} (h : g < 2 ^ 8999) (h0 : 0 < g) (x : Int) : CDivW x (g : Int) := divW (by omega) (by unfold Sm; rw [Int.natAbs_natCast]; exact h) (by decide)
theorem gcd_cast (a : Nat) (x : Int) : ((Nat.gcd ((a : Int)).natAbs x.natAbs : Nat) : Int) = ((Nat.gcd a x.natAbs : Nat) : Int) := by rw [Int.natAbs_natCast]
/-! ratio -/
def spRatio (K : PySem.W.Frag) : Sp := spT K (α := Int × Int) (fun a => [.int a.1, .int a.2]) (fun a => 0 < a.2 ∧ Sm 8999 a.2) (fun a => .sh (.tup [.int (ratioM a.1 a.2).1, .int (ratioM a.1 a.2).2]))
/-! row -/
def spRow (K : PySem.W.Frag) : Sp := spT K (α := List Int × Int) (fun a => [.lst (dI a.1), .int a.2]) (fun a => 0 < a.2 ∧ Sm 8999 a.2 ∧ a.1.length ≤ 10000) (fun a => .sh (.tup [.tup (dI (rowM a.1 a.2).1), .int (rowM a.1 a.2).2]))
theorem gcdL_line {line : Int} {tops : List Int} (h : 0 < line) (h2 : Sm 8999 line) : 0 < gcdL (line :: tops) ∧ gcdL (line :: tops) < 2 ^ 8999 := by
  have d := gcdL_dvd (line :: tops) line List.mem_cons_self
  exact ⟨Nat.pos_of_dvd_of_pos d (by omega), Nat.lt_of_le_of_lt (Nat.le_of_dvd (by omega) d) h2⟩
theorem gcdL_all {line : Int} (h : 0 < line) : ((gcdL [line] : Nat) : Int) = line := by
  rw [gcdL_cons]
  unfold gcdL
  rw [List.foldl_nil, Nat.gcd_zero_right]
  omega
/-! row_of -/
def prD (rs : List (Int × Int)) : List DL.D := rs.map fun r => .tup [.int r.1, .int r.2]
theorem get_prD {rs : List (Int × Int)} {m : Nat} {d : DL.D} (h : (prD rs)[m]? = some d) : ∃ r, rs[m]? = some r ∧ d = .tup [.int r.1, .int r.2] := by
  unfold prD at h
  rw [List.getElem?_map] at h
  cases e : rs[m]? with
  | none => rw [e] at h; cases h
  | some x => rw [e] at h; cases h; exact ⟨x, rfl, rfl⟩
structure PreRowOf (rs : List (Int × Int)) : Prop where
  l : rs.length ≤ 10000
  b : ∀ r ∈ rs, 0 < r.2 ∧ Sm 8999 r.2 ∧ Sm 100000 r.1
  c : lcmL (rs.map Prod.snd) < 2 ^ 8999
def spRowOf (K : PySem.W.Frag) : Sp := spT K (α := List (Int × Int)) (fun a => [.lst (prD a)]) PreRowOf (fun a => .sh (.tup [.tup (dI (rowOfM a).1), .int (rowOfM a).2]))
theorem lcm_fold : ∀ (bs : List Int) (l : Nat), l ∣ bs.foldl (fun l b => Nat.lcm l b.natAbs) l
  | [], l => Nat.dvd_refl l
  | b :: bs, l => Nat.dvd_trans (Nat.dvd_lcm_left l b.natAbs) (lcm_fold bs _)
theorem lcm_pos : ∀ (bs : List Int) (l : Nat), 0 < l → (∀ b ∈ bs, 0 < b) → 0 < bs.foldl (fun l b => Nat.lcm l b.natAbs) l
  | [], l, h, _ => h
  | b :: bs, l, h, hb => lcm_pos bs _ (Nat.lcm_pos h (by have := hb b List.mem_cons_self; omega)) fun c hc => hb c (List.mem_cons_of_mem _ hc)
theorem lcm_take (bs : List Int) (m : Nat) : lcmL (bs.take m) ∣ lcmL bs := by
  have h : lcmL bs = (bs.drop m).foldl (fun l b => Nat.lcm l b.natAbs) (lcmL (bs.take m)) := by
    unfold lcmL
    rw [← List.foldl_append, List.take_append_drop]
  rw [h]
  exact lcm_fold _ _
theorem lcm_dvd : ∀ (bs : List Int) (l : Nat) (b : Int), b ∈ bs → b.natAbs ∣ bs.foldl (fun l b => Nat.lcm l b.natAbs) l
  | c :: bs, l, b, h => by
    rcases List.mem_cons.mp h with rfl | h
    · exact Nat.dvd_trans (Nat.dvd_lcm_right l _) (lcm_fold bs _)
    · exact lcm_dvd bs _ b h
  | [], _, _, h => by cases h
/-! lowest -/
def spLowest (K : PySem.W.Frag) : Sp := spT K (α := Bool × List Int) (fun a => [seqD a.1 (dI a.2)]) (fun a => a.2.length ≤ 10000) (fun a => .ow (dI (lowM a.2)))
/-! cleared -/
structure PreClear (n W : Nat) (es : List (List Int)) (a col : Nat) : Prop where
  hn : n ≤ 1000
  hw : W ≤ 1000
  t : Tab n W es
  ha : a < n
  hc : col < W
  b : ∀ r ∈ es, ∀ x ∈ r, Sm 100000 x
def spCleared (K : PySem.W.Frag) : Sp := spT K (α := Nat × Nat × List (List Int) × Nat × Nat) (fun a => [.lst (dT a.2.2.1), .int a.2.2.2.1, .int a.2.2.2.2]) (fun a => PreClear a.1 a.2.1 a.2.2.1 a.2.2.2.1 a.2.2.2.2) (fun a => .ow (dT (clearedM a.2.2.1 a.2.2.2.1 a.2.2.2.2)))
/-! free_entry -/
def usK (us : List Nat) : List Key := us.map fun (a : Nat) => (Sum.inl (Int.ofNat a) : Key)
def usD (us : List Nat) : DL.D := .dct (usK us) (List.replicate us.length (.bl true))
def optD : Option Nat → DL.D
  | none => .non
  | some k => .int k
theorem hasK_us (us : List Nat) (k : Nat) : hasK (usK us) (.inl (k : Int)) = us.contains k := by
  rw [Bool.eq_iff_iff, hasK_iff, List.contains_iff_mem]
  unfold usK
  rw [List.mem_map]
  constructor
  · rintro ⟨x, hx, e⟩
    have : (x : Int) = k := by cases e; rfl
    have : x = k := by omega
    rw [← this]
    exact hx
  · intro h
    exact ⟨k, h, rfl⟩
theorem find_none {p : Nat → Bool} {n : Nat} (h : ∀ k, k < n → p k = false) : (List.range n).find? p = none := List.find?_eq_none.mpr fun k hk => by rw [h k (List.mem_range.mp hk)]; decide
theorem find_some {p : Nat → Bool} : ∀ {n m : Nat}, m < n → (∀ k, k < m → p k = false) → p m = true → (List.range n).find? p = some m
  | n + 1, m, hm, h, hp => by
    rw [List.range_succ, List.find?_append]
    by_cases e : m < n
    · rw [find_some e h hp]
      rfl
    · have e : m = n := by omega
      subst e
      rw [find_none h]
      show List.find? p [m] = some m
      rw [List.find?_cons, hp]
structure PreFree (n W : Nat) (es : List (List Int)) (col : Nat) : Prop where
  hn : n ≤ 1000
  t : Tab n W es
  hc : col < W
def spFreeEntry (K : PySem.W.Frag) : Sp := spT K (α := Nat × Nat × List (List Int) × List Nat × Nat) (fun a => [.lst (dT a.2.2.1), usD a.2.2.2.1, .int a.2.2.2.2]) (fun a => PreFree a.1 a.2.1 a.2.2.1 a.2.2.2.2) (fun a => .sh (optD (freeM a.2.2.1 a.2.2.2.1 a.2.2.2.2)))
/-! eliminated -/
def pvD (pv : List (Nat × Nat)) : List DL.D := pv.map fun p => .tup [.int p.1, .int p.2]
def tabD (k : Bool) (T : List (List Int)) : DL.D := seqD k (T.map fun r => seqD k (dI r))
def spEliminated (K : PySem.W.Frag) : Sp := spT K (α := Bool × Nat × Nat × List (List Int) × Nat) (fun a => [tabD a.1 a.2.2.2.1, .int a.2.2.2.2]) (fun a => ElOk a.2.1 a.2.2.1 a.2.2.2.1 a.2.2.2.2) (fun a => .sh (.tup [.lst (dT (elimTo a.2.2.2.1 a.2.2.2.2).es), .lst (pvD (elimTo a.2.2.2.1 a.2.2.2.2).pv)]))
theorem get_tab {k : Bool} {T : List (List Int)} {m : Nat} {d : DL.D} (h : (T.map fun r => seqD k (dI r))[m]? = some d) : ∃ r, T[m]? = some r ∧ d = seqD k (dI r) := by
  rw [List.getElem?_map] at h
  cases e : T[m]? with
  | none => rw [e] at h; cases h
  | some x => rw [e] at h; cases h; exact ⟨x, rfl, rfl⟩
/-- [F(number) for number in numbers], a list or a tuple -/
theorem el_mapQ {η : DL.Env} {tl te : TE} {i : Nat} {vs : List Nat} {ds : List Int} {k : Bool} (F : Int → Int) (h : EvD K tl η (seqD k (dI ds))) (hi : i ∈ vs) (hz : ds.length ≤ 10000)
    (he : ∀ x ∈ ds, EvD K te ((wipeE η vs).set i (some (.int x))) (.int (F x))) : EvL K (tLc (iSeq K tl) (gName i) tYes te vs) η (dI (ds.map F)) := by
  refine EvL.is (el_lcQ (ds := dI ds) (fun _ => true) (fun j => .int ((ds.map F).getD j 0)) h (by rw [List.length_map]; omega) fun j d hd' => ?_) ?_
  · obtain ⟨x, hx, rfl⟩ := get_dI hd'
    refine ⟨_, tg_name hi, et_yes, fun _ => EvD.is (he x (List.mem_of_getElem? hx)) ?_⟩
    rw [getD_get (show (ds.map F)[j]? = some (F x) by rw [List.getElem?_map, hx]; rfl)]
  · rw [given_all]
    refine range_dI (by rw [List.length_map, List.length_map]) fun j x h => ?_
    rw [getD_get h]
/-- [F(row) for row in rows], lists or tuples -/
theorem el_mapLQ {η : DL.Env} {tl te : TE} {i : Nat} {vs : List Nat} {rows : List (List Int)} {k : Bool} (F : List Int → List Int) (h : EvD K tl η (tabD k rows)) (hi : i ∈ vs) (hz : rows.length ≤ 10000)
    (he : ∀ r ∈ rows, EvL K te ((wipeE η vs).set i (some (seqD k (dI r)))) (dI (F r))) : EvL K (tLc (iSeq K tl) (gName i) tYes te vs) η (dT (rows.map F)) := by
  refine EvL.is (el_lcQ (ds := rows.map fun r => seqD k (dI r)) (fun _ => true) (fun j => .lst (dI (F (rows.getD j [])))) h (by rw [List.length_map]; omega) fun j d hd => ?_) ?_
  · obtain ⟨r, hr, rfl⟩ := get_tab hd
    refine ⟨_, tg_name hi, et_yes, fun _ => EvD.is (he r (List.mem_of_getElem? hr)).data ?_⟩
    rw [getD_get hr]
  · rw [given_all, List.length_map]
    unfold dT
    rw [List.map_map]
    exact range_gen (fun r => DL.D.lst (dI (F r))) rows _ fun j r hr => by rw [getD_get hr]
theorem el_mapL {η : DL.Env} {tl te : TE} {i : Nat} {vs : List Nat} {rows : List (List Int)} (F : List Int → List Int) (h : EvD K tl η (.lst (dT rows))) (hi : i ∈ vs) (hz : rows.length ≤ 10000)
    (he : ∀ r ∈ rows, EvL K te ((wipeE η vs).set i (some (.lst (dI r)))) (dI (F r))) : EvL K (tLc (iList K tl) (gName i) tYes te vs) η (dT (rows.map F)) := by
  refine EvL.is (el_lcL (ds := dT rows) (fun _ => true) (fun j => .lst (dI (F (rows.getD j [])))) h (.inl rfl) (by rw [dT_len]; omega) fun j d hd => ?_) ?_
  · obtain ⟨r, hr, rfl⟩ := get_dT hd
    refine ⟨_, tg_name hi, et_yes, fun _ => EvD.is (he r (List.mem_of_getElem? hr)).data ?_⟩
    rw [getD_get hr]
  · rw [given_all, dT_len]
    unfold dT
    rw [List.map_map]
    exact range_gen (fun r => DL.D.lst (dI (F r))) rows _ fun j r hr => by rw [getD_get hr]
theorem dT_set (rows : List (List Int)) (m : Nat) (r : List Int) : (dT rows).set m (.lst (dI r)) = dT (rows.set m r) := by
  unfold dT
  rw [List.map_set]
/-! bar_of -/
structure PreBar (n W : Nat) (s : El) (width : Nat) : Prop where
  hn : n ≤ 1000
  hw : W ≤ 1000
  t : Tab n W s.es
  hc : width < W
  nd : s.us.Nodup
  u : ∀ a ∈ s.us, a < n
def barD : Option (List Int) → DL.D
  | none => .non
  | some b => .tup (dI b)
def spBarOf (K : PySem.W.Frag) : Sp := spT K (α := Nat × Nat × El × Nat) (fun a => [.lst (dT a.2.2.1.es), .lst (pvD a.2.2.1.pv), .int a.2.2.2]) (fun a => PreBar a.1 a.2.1 a.2.2.1 a.2.2.2) (fun a => .sh (barD (barM a.2.2.1 a.2.2.2)))
theorem get_pvD {pv : List (Nat × Nat)} {m : Nat} {d : DL.D} (h : (pvD pv)[m]? = some d) : ∃ r, pv[m]? = some r ∧ d = .tup [.int r.1, .int r.2] := by
  unfold pvD at h
  rw [List.getElem?_map] at h
  cases e : pv[m]? with
  | none => rw [e] at h; cases h
  | some x => rw [e] at h; cases h; exact ⟨x, rfl, rfl⟩
theorem nodup_ne : ∀ {us : List Nat} {i j : Nat} {a b : Nat}, us.Nodup → i < j → us[i]? = some a → us[j]? = some b → a ≠ b
  | u :: us, 0, j + 1, a, b, nd, _, h1, h2 => by
    cases h1
    intro e
    subst e
    exact (List.nodup_cons.mp nd).1 (List.mem_of_getElem? h2)
  | u :: us, i + 1, j + 1, a, b, nd, h, h1, h2 => nodup_ne (us := us) (i := i) (j := j) (List.nodup_cons.mp nd).2 (by omega) h1 h2
  | [], _, _, _, _, _, _, h1, _ => by simp at h1
theorem cut_drop {α : Type} (l : List α) (n : Nat) (h : n ≤ l.length) : DL.cutD l (some (n : Int)) none = l.drop n := by
  unfold DL.cutD
  have e1 : HT.sIx l.length l.length none = l.length := rfl
  have e2 : HT.sIx l.length 0 (some (n : Int)) = n := by
    rw [HT.sIx_nat]
    omega
  rw [e1, e2]
  exact List.take_of_length_le (by rw [List.length_drop]; exact Nat.le_refl _)
/-! solved -/
def solM (T : List (List Int)) (b : List Int) (width : Nat) : Sol := match barM (elimTo (entriesM T b) width) width with
  | some x => .bar x
  | none => .pt (rowOfM (pointM (elimTo (entriesM T b) width) width)).1 (rowOfM (pointM (elimTo (entriesM T b) width) width)).2
structure PreSolved (T : List (List Int)) (b : List Int) (n width : Nat) : Prop where
  hn : 1 ≤ n
  t : Tab n width T
  l : b.length = n
  ok : ElOk n (width + 1 + n) (entriesM T b) width
  pb : PreBar n (width + 1 + n) (elimTo (entriesM T b) width) width
  p : ∀ ac ∈ (elimTo (entriesM T b) width).pv, ac.1 < n ∧ ac.2 < width ∧ 0 < ((elimTo (entriesM T b) width).es.getD ac.1 []).getD ac.2 0 ∧ Sm 8999 (((elimTo (entriesM T b) width).es.getD ac.1 []).getD ac.2 0)
  r : PreRowOf (pointM (elimTo (entriesM T b) width) width)
def spSolved (K : PySem.W.Frag) : Sp := spT K (α := Bool × Bool × List (List Int) × List Int × Nat × Nat) (fun a => [tabD a.1 a.2.2.1, seqD a.2.1 (dI a.2.2.2.1)]) (fun a => PreSolved a.2.2.1 a.2.2.2.1 a.2.2.2.2.1 a.2.2.2.2.2) (fun a => .sh (solD K (solM a.2.2.1 a.2.2.2.1 a.2.2.2.2.2)))
theorem prD_set (p : List (Int × Int)) (m : Nat) (r : Int × Int) : (prD p).set m (.tup [.int r.1, .int r.2]) = prD (p.set m r) := by
  unfold prD
  rw [List.map_set]
theorem pt_len : ∀ (pv : List (Nat × Nat)) (F : Nat × Nat → Int × Int) (p : List (Int × Int)), (pv.foldl (fun p ac => p.set ac.2 (F ac)) p).length = p.length
  | [], _, _ => rfl
  | a :: pv, F, p => by
    show (pv.foldl _ (p.set a.2 (F a))).length = _
    rw [pt_len pv F, List.length_set]
theorem seqD_pos {k : Bool} {T : List (List Int)} {m : Nat} (h : m < T.length) : (T.map fun r => seqD k (dI r))[m]? = some (seqD k (dI (T.getD m []))) := by rw [List.getElem?_map, get_getD [] h]; rfl
/-! ### the plan of a run, plainly -/
def headM (ns : List Int) : List Int := digitsM (cellM ns 0) headSizes
def zM (ns : List Int) : Sz := sizesM (headM ns)
def rowsM (ns : List Int) : List (List Int) := tableM ns (headM ns) (zM ns)
def sumM (ns : List Int) : List Int := sumsM ns (headM ns) (zM ns)
def placeM (ns : List Int) : Nat := ((headM ns).getD 10 0 % ((zM ns).many : Int)).toNat
def nextM (ns : List Int) : Nat := (((placeM ns : Int) + 1) % ((zM ns).many : Int)).toNat
def shares0 (ns : List Int) : List Int := (digitsM (cellM ns 48) (List.replicate (zM ns).many 5)).map fun x => x - 2
def sharesM (ns : List Int) : List Int := ((shares0 ns).set (nextM ns) ((shares0 ns).getD (nextM ns) 0 + 3)).set (placeM ns) 0
def otherM (ns : List Int) : List (List Int) := (rowsM ns).set (placeM ns) (mixedM (rowsM ns) (sharesM ns))
def keptM (ns : List Int) : List Int := (sumM ns).set (placeM ns) (dotL (sharesM ns) (sumM ns))
def furTop (z : Sz) : Int := if z.big then (10 ^ 50) ^ 7 * 10 ^ 49 * 9 else 7
def furM (ns : List Int) : Int := (longM (cellM ns 49) 1 (furTop (zM ns))).getD 0 0
def signM (ns : List Int) : Int := if (headM ns).getD 11 0 = 0 then 1 else -1
def raisedM (ns : List Int) : List Int := (keptM ns).set (placeM ns) (dotL (sharesM ns) (sumM ns) + (1 + furM ns) * signM ns)
theorem headOk (ns : List Int) : HeadOk (headM ns) := head_ok _
theorem zOk (ns : List Int) : SzOk (zM ns) := sizes_ok (headOk ns)
theorem rows_tab (ns : List Int) : Tab (zM ns).many (zM ns).width (rowsM ns) := table_tab ns (zOk ns) (headOk ns)
theorem rows_bd (ns : List Int) : ∀ r ∈ rowsM ns, ∀ x ∈ r, Bd (B0 (zM ns) * 240) x := table_bd ns (zOk ns) (headOk ns)
theorem sum_len (ns : List Int) : (sumM ns).length = (zM ns).many := sums_len _ _ _
theorem sum_bd (ns : List Int) : ∀ x ∈ sumM ns, Bd (B0 (zM ns) * 479520) x := sums_bd ns (zOk ns) (headOk ns)
theorem place_lt (ns : List Int) : placeM ns < (zM ns).many := by
  unfold placeM
  have := (zOk ns).m
  have h1 := Int.emod_nonneg ((headM ns).getD 10 0) (show ((zM ns).many : Int) ≠ 0 by omega)
  have h2 := Int.emod_lt_of_pos ((headM ns).getD 10 0) (show 0 < ((zM ns).many : Int) by omega)
  omega
theorem next_lt (ns : List Int) : nextM ns < (zM ns).many := by
  unfold nextM
  have := (zOk ns).m
  have h1 := Int.emod_nonneg ((placeM ns : Int) + 1) (show ((zM ns).many : Int) ≠ 0 by omega)
  have h2 := Int.emod_lt_of_pos ((placeM ns : Int) + 1) (show 0 < ((zM ns).many : Int) by omega)
  omega
theorem shares0_len (ns : List Int) : (shares0 ns).length = (zM ns).many := by
  unfold shares0
  rw [List.length_map, digitsM_len, List.length_replicate]
theorem shares0_bd (ns : List Int) : ∀ x ∈ shares0 ns, Bd 2 x := by
  intro x hx
  obtain ⟨d, hd, rfl⟩ := List.mem_map.mp hx
  have := digitsM_rep _ 5 _ (by decide) d hd
  unfold Bd
  omega
theorem shares_len (ns : List Int) : (sharesM ns).length = (zM ns).many := by
  unfold sharesM
  rw [List.length_set, List.length_set, shares0_len]
theorem shares_bd (ns : List Int) : ∀ x ∈ sharesM ns, Bd 5 x := by
  intro x hx
  unfold sharesM at hx
  rcases mem_set hx with rfl | hx
  · exact Bd.zero
  · rcases mem_set hx with rfl | hx
    · have := shares0_bd ns _ (M.getD_mem (l := shares0 ns) (i := nextM ns) 0 (by rw [shares0_len]; exact next_lt ns))
      unfold Bd at *
      omega
    · exact (shares0_bd ns x hx).mono (by decide)
theorem mix_len (ns : List Int) : (mixedM (rowsM ns) (sharesM ns)).length = (zM ns).width := mixedM_len (rows_tab ns) (by have := (zOk ns).m; omega)
theorem mix_bd (ns : List Int) : ∀ x ∈ mixedM (rowsM ns) (sharesM ns), Bd (B0 (zM ns) * 28800) x := fun x hx =>
  (mixedM_bd (rows_tab ns) (by have := (zOk ns).m; omega) (by rw [shares_len]; exact Nat.le_refl _) (rows_bd ns) (shares_bd ns) x hx).mono (by
    have := (zOk ns).m
    calc (zM ns).many * (B0 (zM ns) * 240 * 5) ≤ 24 * (B0 (zM ns) * 240 * 5) := Nat.mul_le_mul_right _ this.2
      _ = B0 (zM ns) * 28800 := by omega)
theorem dot_bd' (ns : List Int) : Bd (B0 (zM ns) * 57542400) (dotL (sharesM ns) (sumM ns)) := by
  have h := dot_bd (xs := sharesM ns) (ys := sumM ns) (by rw [shares_len, sum_len]; exact Nat.le_refl _) (shares_bd ns) (sum_bd ns)
  rw [shares_len] at h
  refine h.mono ?_
  have := (zOk ns).m
  calc (zM ns).many * (5 * (B0 (zM ns) * 479520)) ≤ 24 * (5 * (B0 (zM ns) * 479520)) := Nat.mul_le_mul_right _ this.2
    _ = B0 (zM ns) * 57542400 := by omega
theorem toSm {z : Sz} {x : Int} {k : Nat} (hx : Bd (B0 z * k) x) (hk : k ≤ 2 ^ 90) : Sm 1400 x :=
  Nat.lt_of_le_of_lt (Nat.le_trans hx (Nat.mul_le_mul_right _ (b0_le z))) (Nat.lt_of_le_of_lt (Nat.mul_le_mul_left _ hk) (by decide +kernel))
theorem furTop_pos (z : Sz) : 0 < furTop z := by
  unfold furTop
  split <;> decide +kernel
theorem furTop_sm (z : Sz) : Sm 1400 (furTop z) := by
  unfold furTop Sm
  split <;> decide +kernel
theorem fur_lt (ns : List Int) : 0 ≤ furM ns ∧ furM ns < furTop (zM ns) := longM_lt (furTop_pos _) _ _ _ (M.getD_mem 0 (by rw [longM_len]; decide))
theorem other_tab (ns : List Int) : Tab (zM ns).many (zM ns).width (otherM ns) := by
  refine ⟨by unfold otherM; rw [List.length_set]; exact (rows_tab ns).n, fun r hr => ?_⟩
  unfold otherM at hr
  rcases mem_set hr with rfl | hr
  · exact mix_len ns
  · exact (rows_tab ns).w r hr
theorem kept_len (ns : List Int) : (keptM ns).length = (zM ns).many := by
  unfold keptM
  rw [List.length_set, sum_len]
/-- the first m places of o, then those of r -/
def over (m : Nat) (o r : List Int) : List Int := o.take m ++ r.drop m
theorem over_set : ∀ (m : Nat) (o r : List Int) (x : Int), o[m]? = some x → m < r.length → (over m o r).set m x = over (m + 1) o r
  | 0, a :: o, b :: r, x, h, _ => by cases h; rfl
  | m + 1, a :: o, b :: r, x, h, h2 => by
    show a :: (over m o r).set m x = a :: over (m + 1) o r
    rw [over_set m o r x h (by simpa using h2)]
  | 0, [], _, _, h, _ => by simp at h
  | m + 1, [], _, _, h, _ => by simp at h
  | 0, _ :: _, [], _, _, h => by simp at h
  | m + 1, _ :: _, [], _, _, h => by simp at h
theorem over_all (o r : List Int) (h : r.length = o.length) : over o.length o r = o := by
  unfold over
  rw [List.take_length, ← h, List.drop_length, List.append_nil]
theorem over_len (m : Nat) (o r : List Int) (h : r.length = o.length) (hm : m ≤ o.length) : (over m o r).length = o.length := by
  unfold over
  rw [List.length_append, List.length_take, List.length_drop]
  omega
/-- what the plain mathematics owes the walk -/
structure LawOk (ns : List Int) : Prop where
  p1 : PreSolved (rowsM ns) (sumM ns) (zM ns).many (zM ns).width
  p2 : PreSolved (otherM ns) (raisedM ns) (zM ns).many (zM ns).width
  p3 : PreSolved (otherM ns) (keptM ns) (zM ns).many (zM ns).width
  s1 : ∃ t l, solM (rowsM ns) (sumM ns) (zM ns).width = .pt t l ∧ RightOk (rowsM ns) (sumM ns) (zM ns).width (.pt t l)
  s2 : ∃ b, solM (otherM ns) (raisedM ns) (zM ns).width = .bar b ∧ RightOk (otherM ns) (raisedM ns) (zM ns).width (.bar b)
  s3 : ∃ t l, solM (otherM ns) (keptM ns) (zM ns).width = .pt t l ∧ RightOk (otherM ns) (keptM ns) (zM ns).width (.pt t l)
/-! law -/
def gv_Solved_right_table : List V → List V := fun zs => match zs with
  | [r, t] => [t, r]
  | _ => []
def spLaw (K : PySem.W.Frag) : Sp := spT K (α := List Int) (fun a => [.rd (dI a)]) LawOk (fun _ => .sh (.bl true))
theorem noL_sol (s : Sol) : noL (solD K s) = true := by
  cases s with
  | pt t l =>
    show (noLs [DL.D.tup (dI t), .int l] && _) = true
    show ((noLs (dI t) && _) && _) = true
    rw [noLs_dI]
    rfl
  | bar b => simp [solD, noL, noLs, noLs_dI]
theorem po8 : CMulW ((10 ^ (50 : Int).toNat) ^ (7 : Int).toNat) (10 ^ (49 : Int).toNat) := by unfold CMulW; decide +kernel
theorem po9 : CPow 10 49 := ⟨by decide, by decide, by decide⟩
theorem po10 : CMulW ((10 ^ (50 : Int).toNat) ^ (7 : Int).toNat * 10 ^ (49 : Int).toNat) 9 := by unfold CMulW; decide +kernel
theorem fur_at (z : Sz) : atI [DL.D.int 7, .int ((10 ^ (50 : Int).toNat) ^ (7 : Int).toNat * 10 ^ (49 : Int).toNat * 9)] (if z.big then 1 else 0) = some (.int (furTop z)) := by
  unfold furTop
  cases z.big with
  | true => exact atI_one
  | false => exact atI_zero
theorem sh_dT (rows : List (List Int)) : shp 2 (.lst (dT rows)) = true := by
  show shps 1 (dT rows) = true
  induction rows with
  | nil => rfl
  | cons r rs ih =>
    show (shp 1 (.lst (dI r)) && shps 1 (dT rs)) = true
    rw [ih, Bool.and_true]
    exact shps_dI 0 r
theorem tab_f (rows : List (List Int)) : tabD false rows = .lst (dT rows) := rfl
theorem tab_t (rows : List (List Int)) : tabD true rows = .tup (tT rows) := rfl
end
end LS

set_option linter.all false
set_option maxHeartbeats 4000000
/-! K00M: ratios and rows as fractions. -/
namespace R0
open M
def lineN (qs : List Rat) : Nat := lcmL (qs.map fun q => ((q.den : Nat) : Int))
def topsQ (qs : List Rat) : List Int := qs.map fun q => q.num * (((lineN qs : Nat) : Int) / ((q.den : Nat) : Int))
def ratsOf (ns : List Int) (l : Int) : List Rat := ns.map fun n => Rat.divInt n l
theorem divInt_pos {t b : Int} (h : 0 < b) : ratioM t b = ((Rat.divInt t b).num, (((Rat.divInt t b).den : Nat) : Int)) := by
  unfold ratioM
  rw [Rat.num_divInt, Rat.den_divInt, if_neg (by omega), Int.sign_eq_one_of_pos h, Int.one_mul]
  have e : b.gcd t = Nat.gcd t.natAbs b.natAbs := by rw [Int.gcd, Nat.gcd_comm]
  rw [e]
  refine Prod.ext rfl ?_
  show b / _ = ((b.natAbs / _ : Nat) : Int)
  rw [Int.natCast_ediv, Int.natAbs_of_nonneg (by omega)]
theorem div_neg (t b : Int) : Rat.divInt (-t) (-b) = Rat.divInt t b := Rat.neg_divInt_neg t b
/-- n = q l -/
theorem num_mul {n l : Int} (h : l ≠ 0) : (Rat.divInt n l).num * l = n * (((Rat.divInt n l).den : Nat) : Int) := by
  have := (Rat.divInt_eq_divInt_iff (n₁ := (Rat.divInt n l).num) (d₁ := (((Rat.divInt n l).den : Nat) : Int)) (n₂ := n) (d₂ := l) (by have := (Rat.divInt n l).den_nz; omega) h).mp (Rat.num_divInt_den _)
  exact this
theorem den_dvd {n : Int} {l : Nat} (h : 0 < l) : (Rat.divInt n l).den = l / Nat.gcd l n.natAbs := by
  rw [Rat.den_divInt, if_neg (by omega), Int.natAbs_natCast]
  rfl
theorem dvd_lcmL {bs : List Int} {b : Int} (h : b ∈ bs) : b.natAbs ∣ lcmL bs := by
  unfold lcmL
  have q : ∀ (bs : List Int) (l : Nat), l ∣ bs.foldl (fun l b => Nat.lcm l b.natAbs) l := by
    intro bs
    induction bs with
    | nil => intro l; exact Nat.dvd_refl l
    | cons c bs ih => intro l; exact Nat.dvd_trans (Nat.dvd_lcm_left l c.natAbs) (ih _)
  have r : ∀ (bs : List Int) (l : Nat), b ∈ bs → b.natAbs ∣ bs.foldl (fun l b => Nat.lcm l b.natAbs) l := by
    intro bs
    induction bs with
    | nil => intro l h; cases h
    | cons c bs ih =>
      intro l h
      rcases List.mem_cons.mp h with rfl | h
      · exact Nat.dvd_trans (Nat.dvd_lcm_right l _) (q bs _)
      · exact ih _ h
  exact r bs 1 h
theorem lcmL_dvd {bs : List Int} {m : Nat} (h : ∀ b ∈ bs, b.natAbs ∣ m) : lcmL bs ∣ m := by
  unfold lcmL
  have r : ∀ (bs : List Int) (l : Nat), l ∣ m → (∀ b ∈ bs, b.natAbs ∣ m) → bs.foldl (fun l b => Nat.lcm l b.natAbs) l ∣ m := by
    intro bs
    induction bs with
    | nil => intro l h _; exact h
    | cons c bs ih => intro l h hb; exact ih _ (Nat.lcm_dvd h (hb c List.mem_cons_self)) fun b hb' => hb b (List.mem_cons_of_mem _ hb')
  exact r bs 1 (Nat.one_dvd m) h
theorem lineN_dvd {qs : List Rat} {q : Rat} (h : q ∈ qs) : q.den ∣ lineN qs := by
  have := dvd_lcmL (List.mem_map_of_mem (f := fun q : Rat => ((q.den : Nat) : Int)) h)
  rwa [Int.natAbs_natCast] at this
theorem lineN_least {qs : List Rat} {m : Nat} (h : ∀ q ∈ qs, q.den ∣ m) : lineN qs ∣ m := by
  refine lcmL_dvd fun b hb => ?_
  obtain ⟨q, hq, rfl⟩ := List.mem_map.mp hb
  rw [Int.natAbs_natCast]
  exact h q hq
theorem lineN_pos (qs : List Rat) : 0 < lineN qs := by
  refine Nat.pos_of_ne_zero fun h => ?_
  have q : ∀ (bs : List Int) (l : Nat), 0 < l → (∀ b ∈ bs, b ≠ 0) → 0 < bs.foldl (fun l b => Nat.lcm l b.natAbs) l := by
    intro bs
    induction bs with
    | nil => intro l h _; exact h
    | cons c bs ih => intro l h hb; exact ih _ (Nat.lcm_pos h (by have := hb c List.mem_cons_self; omega)) fun b hb' => hb b (List.mem_cons_of_mem _ hb')
  have := q (qs.map fun q => ((q.den : Nat) : Int)) 1 (by decide) fun b hb => by
    obtain ⟨q, hq, rfl⟩ := List.mem_map.mp hb
    have := q.den_nz
    omega
  unfold lineN lcmL at h
  omega
theorem dvd_gcd_mul {l m : Nat} : ∀ {xs : List Int}, (∀ x ∈ xs, l ∣ x.natAbs * m) → l ∣ gcdL xs * m
  | [], _ => by
    have : gcdL [] = 0 := rfl
    rw [this, Nat.zero_mul]
    exact Nat.dvd_zero l
  | x :: xs, h => by
    rw [gcdL_cons, ← Nat.gcd_mul_right]
    exact Nat.dvd_gcd (h x List.mem_cons_self) (dvd_gcd_mul fun y hy => h y (List.mem_cons_of_mem _ hy))
theorem line_canon (ns : List Int) {l : Nat} (h : 0 < l) : l / gcdL ((l : Int) :: ns) = lineN (ratsOf ns l) := by
  have hg : gcdL ((l : Int) :: ns) ∣ l := by
    have := gcdL_dvd ((l : Int) :: ns) l List.mem_cons_self
    rwa [Int.natAbs_natCast] at this
  have gp : 0 < gcdL ((l : Int) :: ns) := Nat.pos_of_dvd_of_pos hg h
  refine Nat.dvd_antisymm ?_ ?_
  · have k : l ∣ gcdL ((l : Int) :: ns) * lineN (ratsOf ns l) := by
      refine dvd_gcd_mul fun x hx => ?_
      rcases List.mem_cons.mp hx with rfl | hx
      · rw [Int.natAbs_natCast]
        exact Nat.dvd_mul_right _ _
      · have d := lineN_dvd (qs := ratsOf ns l) (q := Rat.divInt x l) (List.mem_map_of_mem (f := fun n => Rat.divInt n l) hx)
        rw [den_dvd h] at d
        have g1 : Nat.gcd l x.natAbs ∣ l := Nat.gcd_dvd_left _ _
        have g2 : Nat.gcd l x.natAbs ∣ x.natAbs := Nat.gcd_dvd_right _ _
        calc l = Nat.gcd l x.natAbs * (l / Nat.gcd l x.natAbs) := (Nat.mul_div_cancel' g1).symm
          _ ∣ x.natAbs * lineN (ratsOf ns l) := Nat.mul_dvd_mul g2 d
    generalize gcdL ((l : Int) :: ns) = g at hg gp k
    obtain ⟨c, hc⟩ := hg
    rw [hc, Nat.mul_div_cancel_left _ gp]
    rw [hc] at k
    exact Nat.dvd_of_mul_dvd_mul_left gp k
  · refine lineN_least fun q hq => ?_
    obtain ⟨x, hx, rfl⟩ := List.mem_map.mp hq
    rw [den_dvd h]
    have g1 : gcdL ((l : Int) :: ns) ∣ Nat.gcd l x.natAbs := by
      refine Nat.dvd_gcd hg ?_
      exact gcdL_dvd _ x (List.mem_cons_of_mem _ hx)
    have g2 : Nat.gcd l x.natAbs ∣ l := Nat.gcd_dvd_left _ _
    generalize gcdL ((l : Int) :: ns) = g at gp g1
    generalize Nat.gcd l x.natAbs = d at g1 g2
    obtain ⟨b, hb⟩ := g2
    obtain ⟨a, ha⟩ := g1
    subst ha
    have gb : 0 < g * a := Nat.pos_of_ne_zero fun z => by rw [z, Nat.zero_mul] at hb; omega
    rw [hb, Nat.mul_div_cancel_left _ gb, Nat.mul_assoc, Nat.mul_div_cancel_left _ gp]
    exact Nat.dvd_mul_left _ _
theorem row_canon {ns : List Int} {l : Int} (h : 0 < l) : rowM ns l = (topsQ (ratsOf ns l), ((lineN (ratsOf ns l) : Nat) : Int)) := by
  obtain ⟨m, rfl⟩ : ∃ m : Nat, l = m := ⟨l.toNat, by omega⟩
  have hm : 0 < m := by omega
  have lc := line_canon ns hm
  have hg : gcdL ((m : Int) :: ns) ∣ m := by
    have := gcdL_dvd ((m : Int) :: ns) m List.mem_cons_self
    rwa [Int.natAbs_natCast] at this
  have gp : 0 < gcdL ((m : Int) :: ns) := Nat.pos_of_dvd_of_pos hg hm
  have hL : ((lineN (ratsOf ns m) : Nat) : Int) = (m : Int) / ((gcdL ((m : Int) :: ns) : Nat) : Int) := by rw [← lc, Int.natCast_ediv]
  unfold rowM
  refine Prod.ext ?_ hL.symm
  show ns.map _ = topsQ (ratsOf ns m)
  unfold topsQ
  rw [show ratsOf ns m = ns.map fun n => Rat.divInt n m from rfl, List.map_map]
  refine List.map_congr_left fun n hn => ?_
  show n / _ = (Rat.divInt n m).num * _
  have e1 := num_mul (n := n) (l := m) (by omega)
  have d1 := lineN_dvd (qs := ratsOf ns m) (q := Rat.divInt n m) (List.mem_map_of_mem (f := fun n => Rat.divInt n m) hn)
  have g1 : ((gcdL ((m : Int) :: ns) : Nat) : Int) ∣ n := Int.ofNat_dvd_left.mpr (gcdL_dvd _ n (List.mem_cons_of_mem _ hn))
  have dp : 0 < (Rat.divInt n m).den := (Rat.divInt n m).den_pos
  show n / _ = (Rat.divInt n m).num * (((lineN (ratsOf ns m) : Nat) : Int) / _)
  have hgm : ((gcdL ((m : Int) :: ns) : Nat) : Int) ∣ (m : Int) := Int.ofNat_dvd.mpr hg
  generalize gcdL ((m : Int) :: ns) = g at *
  generalize lineN (ratsOf ns m) = L at *
  generalize (Rat.divInt n m).num = a at *
  generalize (Rat.divInt n m).den = b at *
  obtain ⟨c, hc⟩ := d1
  obtain ⟨x, rfl⟩ := g1
  obtain ⟨y, hy⟩ := hgm
  have gz : (g : Int) ≠ 0 := by omega
  have bz : (b : Int) ≠ 0 := by omega
  rw [Int.mul_ediv_cancel_left _ gz]
  rw [hy, Int.mul_ediv_cancel_left _ gz] at hL
  rw [hc, Int.natCast_mul, Int.mul_ediv_cancel_left _ bz]
  have hy2 : y = b * c := by rw [← hL, hc, Int.natCast_mul]
  have e2 : a * ((g : Int) * y) = g * x * b := by rw [← hy]; exact e1
  rw [hy2] at e2
  have e3 : ((g : Int) * b) * (a * c) = (g * b) * x := by grind
  exact (Int.eq_of_mul_eq_mul_left (Int.mul_ne_zero gz bz) e3).symm
/-- the row is its fractions -/
theorem rats_tops (qs : List Rat) : ratsOf (topsQ qs) (lineN qs) = qs := by
  unfold ratsOf topsQ
  rw [List.map_map]
  refine (List.map_congr_left fun q hq => ?_).trans (List.map_id _)
  obtain ⟨c, hc⟩ := lineN_dvd hq
  have hL := lineN_pos qs
  show Rat.divInt (q.num * (((lineN qs : Nat) : Int) / ((q.den : Nat) : Int))) ((lineN qs : Nat) : Int) = q
  have dp := q.den_pos
  rw [hc, Int.natCast_mul, Int.mul_ediv_cancel_left _ (by omega)]
  have cz : (c : Int) ≠ 0 := fun z => by rw [show c = 0 by omega, Nat.mul_zero] at hc; omega
  rw [Rat.divInt_mul_right cz, Rat.num_divInt_den]
theorem tops_len (qs : List Rat) : (topsQ qs).length = qs.length := List.length_map _
theorem rats_len (ns : List Int) (l : Int) : (ratsOf ns l).length = ns.length := List.length_map _
theorem canon_gcd (qs : List Rat) : Nat.gcd (gcdL (topsQ qs)) ((lineN qs : Nat) : Int).natAbs = 1 := by
  have h := lineN_pos qs
  have e := line_canon (topsQ qs) h
  rw [rats_tops, gcdL_cons] at e
  rw [Nat.gcd_comm]
  generalize Nat.gcd ((lineN qs : Nat) : Int).natAbs (gcdL (topsQ qs)) = g at *
  have g1 : g ≤ 1 := by
    refine Nat.not_lt.mp fun q => ?_
    have := Nat.div_lt_self h q
    omega
  have g0 : g ≠ 0 := fun z => by rw [z, Nat.div_zero] at e; omega
  omega
theorem isRow_canon (qs : List Rat) : isRowM (topsQ qs) ((lineN qs : Nat) : Int) (qs.length : Int) = true := by
  unfold isRowM
  have := lineN_pos qs
  rw [decide_eq_true (canon_gcd qs), tops_len, decide_eq_true rfl, decide_eq_true (show (1 : Int) ≤ ((lineN qs : Nat) : Int) by omega)]
  rfl
/-- the numbers are no greater than those that were given -/
theorem canon_le {ns : List Int} {l : Int} (h : l ≠ 0) {B : Nat} (hn : ∀ n ∈ ns, n.natAbs < B) (hl : l.natAbs < B) : (∀ n ∈ topsQ (ratsOf ns l), n.natAbs < B) ∧ lineN (ratsOf ns l) < B := by
  have main : ∀ (ns : List Int) (l : Int), 0 < l → (∀ n ∈ ns, n.natAbs < B) → l.natAbs < B → (∀ n ∈ topsQ (ratsOf ns l), n.natAbs < B) ∧ lineN (ratsOf ns l) < B := by
    intro ns l h hn hl
    have e := row_canon (ns := ns) h
    unfold rowM at e
    have e1 := congrArg Prod.fst e
    have e2 := congrArg Prod.snd e
    dsimp only at e1 e2
    rw [← e1]
    refine ⟨fun n hx => ?_, ?_⟩
    · obtain ⟨x, hy, rfl⟩ := List.mem_map.mp hx
      have := Int.natAbs_ediv_le_natAbs x ((gcdL (l :: ns) : Nat) : Int)
      have := hn x hy
      omega
    · have := Int.natAbs_ediv_le_natAbs l ((gcdL (l :: ns) : Nat) : Int)
      rw [e2, Int.natAbs_natCast] at this
      omega
  rcases Int.lt_or_gt_of_ne h with h | h
  · have e : ratsOf ns l = ratsOf (ns.map fun x => -x) (-l) := by
      unfold ratsOf
      rw [List.map_map]
      exact List.map_congr_left fun n _ => (div_neg n l).symm
    rw [e]
    refine main _ _ (by omega) (fun n hx => ?_) (by rw [Int.natAbs_neg]; exact hl)
    obtain ⟨x, hy, rfl⟩ := List.mem_map.mp hx
    rw [Int.natAbs_neg]
    exact hn x hy
  · exact main ns l h hn hl
theorem rats_neg (ns : List Int) (l : Int) : ratsOf (ns.map fun x => -x) (-l) = ratsOf ns l := by
  unfold ratsOf
  rw [List.map_map]
  exact List.map_congr_left fun n _ => div_neg n l
theorem ratio_le {t b : Int} (h : b ≠ 0) {B : Nat} (ht : t.natAbs < B) (hb : b.natAbs < B) : (Rat.divInt t b).num.natAbs < B ∧ (Rat.divInt t b).den < B := by
  have h1 := canon_le (ns := [t]) h (fun n hn => by rw [List.mem_singleton.mp hn]; exact ht) hb
  have e : lineN (ratsOf [t] b) = (Rat.divInt t b).den := by
    show Nat.lcm 1 (((Rat.divInt t b).den : Nat) : Int).natAbs = _
    rw [Nat.lcm_one_left, Int.natAbs_natCast]
  refine ⟨?_, by rw [← e]; exact h1.2⟩
  refine h1.1 _ ?_
  show _ ∈ [(Rat.divInt t b).num * (((lineN (ratsOf [t] b) : Nat) : Int) / _)]
  rw [e, Int.ediv_self (by have := (Rat.divInt t b).den_nz; omega), Int.mul_one]
  exact List.mem_singleton.mpr rfl
theorem ratio_gcd (q : Rat) : Nat.gcd q.num.natAbs ((q.den : Nat) : Int).natAbs = 1 := by
  rw [Int.natAbs_natCast]
  exact q.reduced
/-! ### sums and products, raw -/
def addQ (a b : List Rat) : List Rat := (List.range a.length).map fun k => a.getD k 0 + b.getD k 0
def byQ (a : List Rat) (f : Rat) : List Rat := a.map fun x => x * f
def dotQ (a b : List Rat) : Rat := ((List.range a.length).map fun k => a.getD k 0 * b.getD k 0).sum
def addR (a : List Int) (l : Int) (b : List Int) (m : Int) : List Int := (List.range a.length).map fun k => a.getD k 0 * m + b.getD k 0 * l
def byR (a : List Int) (f : Int) : List Int := a.map fun x => x * f
def dotR (a b : List Int) : Int := ((List.range a.length).map fun k => a.getD k 0 * b.getD k 0).sum
theorem rats_get {ns : List Int} {l : Int} {k : Nat} (h : k < ns.length) : (ratsOf ns l).getD k 0 = Rat.divInt (ns.getD k 0) l := by
  unfold ratsOf
  simp only [List.getD_eq_getElem?_getD, List.getElem?_map, List.getElem?_eq_getElem h, Option.map_some, Option.getD_some]
theorem add_div (x y : Int) {l m : Int} (hl : l ≠ 0) (hm : m ≠ 0) : Rat.divInt (x * m + y * l) (l * m) = Rat.divInt x l + Rat.divInt y m := (Rat.divInt_add_divInt x y hl hm).symm
theorem rats_add {a b : List Int} {l m : Int} (hl : l ≠ 0) (hm : m ≠ 0) (h : a.length = b.length) : ratsOf (addR a l b m) (l * m) = addQ (ratsOf a l) (ratsOf b m) := by
  unfold addR addQ
  rw [rats_len]
  conv => lhs; unfold ratsOf
  rw [List.map_map]
  refine List.map_congr_left fun k hk => ?_
  have hk := List.mem_range.mp hk
  rw [rats_get hk, rats_get (by omega)]
  exact add_div _ _ hl hm
theorem rats_by {a : List Int} {l f g : Int} : ratsOf (byR a f) (l * g) = byQ (ratsOf a l) (Rat.divInt f g) := by
  unfold byR byQ ratsOf
  rw [List.map_map, List.map_map]
  refine List.map_congr_left fun x _ => ?_
  exact (Rat.divInt_mul_divInt x f).symm
theorem sum_div {n : Nat} (F : Nat → Int) {m : Int} (hm : m ≠ 0) : Rat.divInt ((List.range n).map F).sum m = ((List.range n).map fun k => Rat.divInt (F k) m).sum := by
  induction n with
  | zero => show Rat.divInt 0 m = 0; exact Rat.zero_divInt m
  | succ n ih =>
    rw [List.range_succ, List.map_append, List.map_append, List.sum_append, List.sum_append, ← ih]
    simp only [List.map_cons, List.map_nil, List.sum_cons, List.sum_nil]
    rw [Int.add_zero, Rat.add_zero, Rat.divInt_add_divInt _ _ hm hm, ← Int.add_mul, Rat.divInt_mul_right hm]
theorem div_dot {a b : List Int} {l m : Int} (hl : l ≠ 0) (hm : m ≠ 0) (h : a.length = b.length) : Rat.divInt (dotR a b) (l * m) = dotQ (ratsOf a l) (ratsOf b m) := by
  unfold dotR dotQ
  rw [sum_div _ (Int.mul_ne_zero hl hm), rats_len]
  congr 1
  refine List.map_congr_left fun k hk => ?_
  have hk := List.mem_range.mp hk
  rw [rats_get hk, rats_get (by omega)]
  exact (Rat.divInt_mul_divInt _ _).symm

/-! ### what the laws of numbers say of rows -/
theorem addQ_len (a b : List Rat) : (addQ a b).length = a.length := by unfold addQ; rw [List.length_map, List.length_range]
theorem byQ_len (a : List Rat) (f : Rat) : (byQ a f).length = a.length := List.length_map _
theorem addQ_get {a b : List Rat} {k : Nat} (h : k < a.length) : (addQ a b).getD k 0 = a.getD k 0 + b.getD k 0 := by
  unfold addQ
  simp only [List.getD_eq_getElem?_getD, List.getElem?_map, List.getElem?_range h, Option.map_some, Option.getD_some]
theorem byQ_get {a : List Rat} {f : Rat} {k : Nat} (h : k < a.length) : (byQ a f).getD k 0 = a.getD k 0 * f := by
  unfold byQ
  simp only [List.getD_eq_getElem?_getD, List.getElem?_map, List.getElem?_eq_getElem h, Option.map_some, Option.getD_some]
theorem ext_get {a b : List Rat} (h : a.length = b.length) (e : ∀ k, k < a.length → a.getD k 0 = b.getD k 0) : a = b := by
  apply List.ext_getElem h
  intro i h1 h2
  have := e i h1
  simpa only [List.getD_eq_getElem?_getD, List.getElem?_eq_getElem h1, List.getElem?_eq_getElem h2, Option.getD_some] using this
theorem sum_congr {n : Nat} {F G : Nat → Rat} (h : ∀ k, k < n → F k = G k) : ((List.range n).map F).sum = ((List.range n).map G).sum := by
  congr 1
  exact List.map_congr_left fun k hk => h k (List.mem_range.mp hk)
theorem sum_add {n : Nat} (F G : Nat → Rat) : ((List.range n).map fun k => F k + G k).sum = ((List.range n).map F).sum + ((List.range n).map G).sum := by
  induction n with
  | zero => show (0 : Rat) = 0 + 0; rw [Rat.add_zero]
  | succ n ih =>
    rw [List.range_succ, List.map_append, List.map_append, List.map_append, List.sum_append, List.sum_append, List.sum_append, ih]
    simp only [List.map_cons, List.map_nil, List.sum_cons, List.sum_nil]
    grind
theorem sum_mul {n : Nat} (F : Nat → Rat) (c : Rat) : ((List.range n).map fun k => F k * c).sum = ((List.range n).map F).sum * c := by
  induction n with
  | zero => show (0 : Rat) = 0 * c; rw [Rat.zero_mul]
  | succ n ih =>
    rw [List.range_succ, List.map_append, List.map_append, List.sum_append, List.sum_append, ih]
    simp only [List.map_cons, List.map_nil, List.sum_cons, List.sum_nil]
    grind
theorem dot_comm {a b : List Rat} (h : a.length = b.length) : dotQ a b = dotQ b a := by
  unfold dotQ
  rw [← h]
  exact sum_congr fun k _ => Rat.mul_comm _ _
theorem dot_add (a b c : List Rat) (h : a.length = b.length) : dotQ (addQ a b) c = dotQ a c + dotQ b c := by
  unfold dotQ
  rw [addQ_len, ← h, ← sum_add]
  exact sum_congr fun k hk => by rw [addQ_get hk, Rat.add_mul]
theorem dot_by (a c : List Rat) (f : Rat) : dotQ (byQ a f) c = dotQ a c * f := by
  unfold dotQ
  rw [byQ_len, ← sum_mul]
  exact sum_congr fun k hk => by rw [byQ_get hk]; grind
theorem dot_by2 (a c : List Rat) (f : Rat) (h : a.length = c.length) : dotQ a (byQ c f) = dotQ a c * f := by
  rw [dot_comm (by rw [byQ_len]; exact h), dot_by, dot_comm h]
theorem add_assocQ (a b c : List Rat) (h : a.length = b.length) : addQ a (addQ b c) = addQ (addQ a b) c := by
  refine ext_get (by rw [addQ_len, addQ_len, addQ_len]) fun k hk => ?_
  rw [addQ_len] at hk
  rw [addQ_get hk, addQ_get (by omega), addQ_get (by rw [addQ_len]; exact hk), addQ_get hk, Rat.add_assoc]
theorem add_away (x y : List Rat) (h : x.length = y.length) : addQ (byQ x (-1)) (addQ x y) = y := by
  refine ext_get (by rw [addQ_len, byQ_len]; exact h) fun k hk => ?_
  rw [addQ_len, byQ_len] at hk
  rw [addQ_get (by rw [byQ_len]; exact hk), byQ_get hk, addQ_get hk]
  grind
theorem div_neg1 (x m : Int) : Rat.divInt (-x) m = Rat.divInt x m * (-1) := by
  rw [← Rat.neg_divInt, Rat.mul_neg, Rat.mul_one]
theorem rats_contrary (b : List Int) (m : Int) : ratsOf (b.map fun x => -x) m = byQ (ratsOf b m) (-1) := by
  unfold ratsOf byQ
  rw [List.map_map, List.map_map]
  exact List.map_congr_left fun x _ => div_neg1 x m
theorem m1_num : ((-1 : Rat)).num = -1 := rfl
theorem m1_den : ((-1 : Rat)).den = 1 := rfl
/-! one by one -/
theorem plus_eq (q r : Rat) : Rat.divInt (q.num * r.den + r.num * q.den) (q.den * r.den) = q + r := by
  rw [← Rat.divInt_add_divInt _ _ (by have := q.den_nz; omega) (by have := r.den_nz; omega), Rat.num_divInt_den, Rat.num_divInt_den]
theorem minus_eq (q r : Rat) : Rat.divInt (q.num * r.den - r.num * q.den) (q.den * r.den) = q - r := by
  rw [← Rat.divInt_sub_divInt _ _ (by have := q.den_nz; omega) (by have := r.den_nz; omega), Rat.num_divInt_den, Rat.num_divInt_den]
theorem times_eq (q r : Rat) : Rat.divInt (q.num * r.num) (q.den * r.den) = q * r := by
  rw [← Rat.divInt_mul_divInt, Rat.num_divInt_den, Rat.num_divInt_den]
theorem over_eq (q r : Rat) : Rat.divInt (q.num * r.den) (q.den * r.num) = q / r := by
  rw [← Rat.divInt_mul_divInt, Rat.num_divInt_den, Rat.div_def, Rat.inv_def]
theorem over_div {x y l m : Int} : Rat.divInt x l / Rat.divInt y m = Rat.divInt (x * m) (l * y) := by
  rw [Rat.div_def, Rat.inv_divInt, Rat.divInt_mul_divInt]
theorem sub_div {x y l m : Int} (hl : l ≠ 0) (hm : m ≠ 0) : Rat.divInt (x * m - y * l) (l * m) = Rat.divInt x l - Rat.divInt y m := (Rat.divInt_sub_divInt x y hl hm).symm
def signQ (q r : Rat) : Int := if q < r then -1 else if r < q then 1 else 0
theorem sign_eq (q r : Rat) : signQ q r = (if q.num * r.den < r.num * q.den then -1 else if q.num * r.den > r.num * q.den then 1 else 0) := by
  unfold signQ
  have h1 := Rat.lt_iff q r
  have h2 := Rat.lt_iff r q
  by_cases a : q < r
  · rw [if_pos a, if_pos (h1.mp a)]
  · rw [if_neg a, if_neg (fun z => a (h1.mpr z))]
    by_cases b : r < q
    · rw [if_pos b, if_pos (h2.mp b)]
    · rw [if_neg b, if_neg (fun z => b (h2.mpr z))]
/-- the law's own sign -/
theorem sign_num (q r : Rat) : (if (q - r).num > 0 then (1 : Int) else 0) - (if (q - r).num < 0 then 1 else 0) = signQ q r := by
  unfold signQ
  have h1 : q < r ↔ (q - r).num < 0 := by
    rw [← Int.not_le, Rat.num_nonneg, ← Rat.le_iff_sub_nonneg, Rat.not_le]
  have h2 : r < q ↔ 0 < (q - r).num := by
    have e : (r - q).num = -(q - r).num := by rw [← Rat.neg_sub, Rat.neg_num]
    have h3 : r < q ↔ (r - q).num < 0 := by
      rw [← Int.not_le, Rat.num_nonneg, ← Rat.le_iff_sub_nonneg, Rat.not_le]
    rw [h3, e]
    omega
  by_cases a : q < r
  · have := h1.mp a
    rw [if_pos a, if_pos this, if_neg (by omega)]
    rfl
  · rw [if_neg a, if_neg (fun z => a (h1.mpr z))]
    by_cases b : r < q
    · rw [if_pos b, if_pos (h2.mp b)]; rfl
    · rw [if_neg b, if_neg (fun z => b (h2.mpr z))]; rfl
theorem sign_flip (q r : Rat) : signQ r q = -signQ q r := by
  unfold signQ
  by_cases a : q < r
  · have : ¬ r < q := fun z => Rat.not_le.mpr a (Rat.le_of_lt z)
    rw [if_neg this, if_pos a, if_pos a]
    rfl
  · rw [if_neg a]
    by_cases b : r < q
    · rw [if_pos b, if_neg a, if_pos b]
    · rw [if_neg b, if_neg a, if_neg b]; rfl
theorem cross {t b : Int} (h : b ≠ 0) : (Rat.divInt t b).num * b = t * (((Rat.divInt t b).den : Nat) : Int) := num_mul h
/-- the row's numbers, multiplied cross by cross -/
theorem cross_row {ns : List Int} {l : Int} (h : l ≠ 0) {k : Nat} (hk : k < ns.length) : (topsQ (ratsOf ns l)).getD k 0 * l = ns.getD k 0 * ((lineN (ratsOf ns l) : Nat) : Int) := by
  have hL := lineN_pos (ratsOf ns l)
  have e : (ratsOf (topsQ (ratsOf ns l)) ((lineN (ratsOf ns l) : Nat) : Int)).getD k 0 = (ratsOf ns l).getD k 0 := by rw [rats_tops]
  rw [rats_get (by rw [tops_len, rats_len]; exact hk), rats_get hk] at e
  exact (Rat.divInt_eq_divInt_iff (by omega) h).mp e
end R0

set_option Elab.async false
set_option linter.all false
set_option maxRecDepth 100000
set_option maxHeartbeats 4000000
/-! DLX: own errors that keep one argument: raised by defs, caught, asked. -/
namespace DL
open PySem PySem.Spec PyProof.Rows L2
/-- an own exception class, as the text's objects stand -/
def shapeO (C : Addr) (ob : Obj) : Bool := decide (ob.cls = .type "type") && (match ob.data with
  | .cls cd => (decide (cd.hasDel = false) && decide (cd.hasDict = true)) && (match cd.mro with
    | x :: bm => decide (x = .ref C) && PySem.HandSPX.refsVE bm
    | [] => false)
  | _ => false) && (match ob.slots.toList with
  | [_, _, _, _, y, _] => decide (y = some (.builtin "ValueError.__new__"))
  | _ => false)
def shapeB (K : PySem.W.Frag) (C : Addr) : Bool := (K.lookup C).any (shapeO C)
structure ExF (K : PySem.W.Frag) (C : Addr) : Prop where
  o : OexC K C
  f : XfC K C
  cl : (PySem.W.clsIn K C).isSome = true
  ha : PySem.W.findIn K (.ref C) "__class__" = some (some (.builtin "object.__class__"))
  hm : PySem.W.mroIn K C (.type "object") = some true
def exB (K : PySem.W.Frag) (C : Addr) : Bool := shapeB K C && (He.eqO (PySem.W.findIn K (.ref C) "__setattr__") (some (some (.builtin "object.__setattr__"))) && (decide (PySem.W.typeIn K (.ref C) = some (.type "type")) && (PySem.W.keepIn K (.ref C) && (xfB K C && ((PySem.W.clsIn K C).isSome &&
  (He.eqO (PySem.W.findIn K (.ref C) "__class__") (some (some (.builtin "object.__class__"))) && decide (PySem.W.mroIn K C (.type "object") = some true)))))))
theorem shape_ok {K : PySem.W.Frag} {C : Addr} (h : shapeB K C = true) : ∃ nm q N bs bm sn sub ab col dd k0 k1 k2 k3 k5, K.lookup C = some (excClassObj nm q C N bs bm true sn sub ab col dd k0 k1 k2 k3 k5 "ValueError.__new__") ∧ PySem.HandSPX.refsVE bm = true := by
  unfold shapeB at h
  cases e : K.lookup C with
  | none => rw [e] at h; cases h
  | some ob =>
    rw [e] at h
    have h : shapeO C ob = true := h
    obtain ⟨oc, od, oda, osl⟩ := ob
    unfold shapeO at h
    obtain ⟨h12, h3⟩ := Bool.and_eq_true_iff.mp h
    obtain ⟨h1, h2⟩ := Bool.and_eq_true_iff.mp h12
    dsimp only at h1 h2 h3
    have h1 : oc = .type "type" := of_decide_eq_true h1
    subst h1
    cases oda with
    | cls cd =>
      obtain ⟨nm, bs, mro, ns, qn, hd, sn, sub, ab, col, del⟩ := cd
      obtain ⟨g1, g2⟩ := Bool.and_eq_true_iff.mp h2
      obtain ⟨g3, g4⟩ := Bool.and_eq_true_iff.mp g1
      have e3 : del = false := of_decide_eq_true g3
      have e4 : hd = true := of_decide_eq_true g4
      clear g1 g3 g4
      subst e3 e4
      cases mro with
      | nil => cases g2
      | cons x bm =>
        obtain ⟨g5, g6⟩ := Bool.and_eq_true_iff.mp g2
        have e5 : x = .ref C := of_decide_eq_true g5
        clear g5
        subst e5
        obtain ⟨l⟩ := osl
        match l, h3 with
        | [k0, k1, k2, k3, y, k5], h3 =>
          have e6 : y = some (.builtin "ValueError.__new__") := of_decide_eq_true h3
          clear h3
          subst e6
          exact ⟨_, _, _, _, _, _, _, _, _, _, _, _, _, _, _, rfl, g6⟩
    | _ => cases h2
theorem exB_ok {K : PySem.W.Frag} {C : Addr} (h : exB K C = true) : ExF K C := by
  obtain ⟨a1, h⟩ := Bool.and_eq_true_iff.mp h
  obtain ⟨a2, h⟩ := Bool.and_eq_true_iff.mp h
  obtain ⟨a3, h⟩ := Bool.and_eq_true_iff.mp h
  obtain ⟨a4, h⟩ := Bool.and_eq_true_iff.mp h
  obtain ⟨a5, h⟩ := Bool.and_eq_true_iff.mp h
  obtain ⟨a6, h⟩ := Bool.and_eq_true_iff.mp h
  obtain ⟨a7, a8⟩ := Bool.and_eq_true_iff.mp h
  have x := xfB_ok a5
  exact ⟨⟨shape_ok a1, He.eqO_ok a2, x.exC, of_decide_eq_true a3, a4⟩, x, a6, He.eqO_ok a7, of_decide_eq_true a8⟩
/-! ### made and raised -/
def spXI (K : PySem.W.Frag) (C : Addr) (fn : Str) : Sp := fun vs H Q _ => ∃ a v, vs = [.ref a, v] ∧ H a = some (exo a C none) ∧ ∀ dx, H dx = none → dx ≠ a → Q .non (upd (upd H dx (exd dx [(fn, v)])) a (exo a C (some dx)))
theorem xi_walk {K : PySem.W.Frag} {C : Addr} {fn : Str} {N : List Str} {vs : List V} {H : Hp} {Q : VK} {E : XK} (h : spXI K C fn vs H Q E) (hN : N.length = 2) (o : OexC K C) (hno : PySem.W.findIn K (.ref C) fn = some none) :
    (tOst K fn (tVar 0) (tVar 1)) { nx := fun _ H' => Q .non H', rt := Q } (L2.start N vs) H := by
  obtain ⟨a, v, rfl, ha, q⟩ := h
  match N, hN with
  | [_, _], _ => exact ⟨v, rfl, .ref a, rfl, a, C, rfl, o, hno, .inl ⟨ha, fun dx h1 h2 => q dx h1 h2⟩⟩
structure MakE (P : Program) (w : World) (K : PySem.W.Frag) (mg : Str → Option Value) (base : Heap) (x : Str) (C : Addr) (fn : Str) : Prop where
  ex : ∃ (fI : Addr) (fd : FuncData) (ps : List Str), mg x = some (.ref C) ∧ OexC K C ∧ PySem.W.findIn K (.ref C) "__init__" = some (some (.ref fI)) ∧ PySem.W.typeIn K (.ref fI) = some (.type "function") ∧ FnOk P w K mg base CX0 1 fI fd ps (spXI K C fn) ∧ Binds K fd ps []
section
variable {X : Cx} {x fn : Str} {C : Addr} {p pos : Pos} {e : Expr} {es : List Expr} {ta : TA}
theorem pmk_mk (M : MakE X.prog X.w X.K X.mg X.base x C fn) (hr : Room 2 X.A) (ha : PA X (e :: es) ta) (hg : Gl X x := by rfl) (hdb : (x == ("__debug__" : Str)) = false := by decide)
    (he : starEach (e :: es) X.env = (false, eval e X.env) :: starEach es X.env := by rfl) (hpl : (backTo pos (starEach es X.env)).any (·.1) = false := by rfl) : PMk X (.Call (.Name x p) (e :: es) [] pos) (tMkO C (spXI X.K C fn) [] ta) := by
  obtain ⟨fI, fd, ps, hm, T, iC, tI, F, b⟩ := M.ex
  exact pmk_oex T iC tI F hr b .nil pass0 hg hm ha hdb he hpl
end
/-- a def that raises such an error -/
def spR {α : Type} (K : PySem.W.Frag) (enc : α → List D) (pre : α → Prop) (C : Addr) (fn : Str) (out : α → Int) : Sp := fun vs H Q E => ∃ HE x, Ex HE H ∧ Rps K HE vs (enc x) ∧ pre x ∧ ∀ d H', Ex H H' → H' d = some (.xd [(fn, .int (out x))]) → E (.ref C) (some d) H'
structure CalE (P : Program) (w : World) (K : PySem.W.Frag) (mg : Str → Option Value) (base : Heap) (k : Nat) (x : Str) (ps : List Str) (sp : Sp) : Prop where
  ex : ∃ (f : Addr) (fd : FuncData), mg x = some (.ref f) ∧ PySem.W.keepIn K (.ref f) = true ∧ FnOk P w K mg base (L2N.CX P w) k f fd ps sp ∧ Binds K fd ps [] ∧ ∃ oc od osl, K.lookup f = some ⟨oc, od, .func fd, osl⟩
structure CalKE (P : Program) (w : World) (K : PySem.W.Frag) (mg : Str → Option Value) (base : Heap) (k : Nat) (x : Str) (ps ks : List Str) (sp : Sp) (gV : List V → List V) : Prop where
  ex : ∃ (f : Addr) (fd : FuncData) (g : List Value → List Value → List Value) (gv : List V → List V → List V), mg x = some (.ref f) ∧ PySem.W.keepIn K (.ref f) = true ∧ FnOk P w K mg base (L2N.CX P w) k f fd ps sp ∧ KBn K fd ps 0 ks g gv ∧ ∀ zs, gv [] zs = gV zs
section
variable {P : Program} {w : World} {K : PySem.W.Frag} {mg : Str → Option Value} {base : Heap} {x qual : Str} {params : Arguments} {body : List Stmt} {scope : Scope} {f : Addr} {N ps : List Str} {k kc : Nat} {sp sp0 : Sp} {dvs : List V}
/-- from the walk, and the def's quiet promise -/
theorem calE_mk (C : Cal P w K mg base kc x ps sp0) (F : ∃ fd, FunD K x qual params body scope dvs [] f fd) (hm : mg x = some (.ref f)) (S : FnScope N ps scope) (len : ∀ vs H Q E, sp vs H Q E → vs.length = ps.length)
    (hb : ∀ (cdv : Value) (A : Around) (outer : List PySem.Env) (s : Shared) (H : Hp) (vs : List V) (Q : VK) (E : XK), Room k (A.deeper (envOfC qual scope s.heap.objs.size f cdv)) → sp vs H Q E →
      ∃ t, PSs (cxOf (L2N.CX P w) P w K mg base N qual scope f cdv A outer s H E) body t ∧ t { nx := fun _ H' => Q .non H', rt := Q } (L2.start N vs) H) : CalE P w K mg base (k + 1) x ps sp := by
  obtain ⟨fd, F⟩ := F
  obtain ⟨f', fd', ds, hm', hk, Fo, b, hd, oc, od, osl, lk⟩ := C.ex
  rw [hm] at hm'
  cases hm'
  obtain ⟨oc2, od2, osl2, lk2⟩ := fd_at F
  rw [lk] at lk2
  cases lk2
  cases hd
  exact ⟨⟨f, fd, hm, hk, F.ok S len hb, b, oc, od, osl, lk⟩⟩
theorem calKE_of {ks : List Str} {gV : List V → List V} (C : CalE P w K mg base k x ps sp) (F : ∃ fd, FunD K x qual params body scope [] [] f fd) (hm : mg x = some (.ref f)) (g : {α : Type} → List α → List α → List α)
    (hrel : ∀ {vs zs : List V} {us ws : List Value}, Vals vs us → Vals zs ws → Vals (g vs zs) (g us ws))
    (h : ∀ (kV doc pm : Value) (an : Option Addr) (cdv ct : Value) (us ws : List Value), us.length = 0 → ws.length = ks.length → bindArgs (PySem.W.fnOf x qual params body scope .none kV doc pm an cdv ct) ⟨us, ks.zip ws⟩ = pure (ps.zip (g us ws)))
    (hg : ∀ zs : List V, g [] zs = gV zs) : CalKE P w K mg base k x ps ks sp gV := by
  obtain ⟨fd, F⟩ := F
  obtain ⟨f', fd', hm', hk, Fo, b, oc, od, osl, lk⟩ := C.ex
  rw [hm] at hm'
  cases hm'
  obtain ⟨oc2, od2, osl2, lk2⟩ := fd_at F
  rw [lk] at lk2
  cases lk2
  exact ⟨⟨f, fd, _, _, hm, hk, Fo, kb0 F 0 ks g hrel h, hg⟩⟩
theorem calKE_ofD {ks : List Str} {gV : List V → List V} (C : CalE P w K mg base k x ps sp) (F : ∃ fd, FunD K x qual params body scope dvs [] f fd) (hm : mg x = some (.ref f)) (g : {α : Type} → List α → List α → List α → List α) (hd : dvs ≠ [])
    (hrel : ∀ {vs ds zs : List V} {us its ws : List Value}, Vals vs us → Vals ds its → Vals zs ws → Vals (g vs ds zs) (g us its ws))
    (h : ∀ (T : Addr) (kV doc pm : Value) (an : Option Addr) (cdv ct : Value) (us its ws : List Value), us.length = 0 → its.length = dvs.length → ws.length = ks.length →
      ∃ k, bindArgs (PySem.W.fnOf x qual params body scope (.ref T) kV doc pm an cdv ct) ⟨us, ks.zip ws⟩ = seqItems? (.ref T) >>= k ∧ k (some its.toArray) = pure (ps.zip (g us its ws)))
    (hg : ∀ zs : List V, g [] dvs zs = gV zs) : CalKE P w K mg base k x ps ks sp gV := by
  obtain ⟨fd, F⟩ := F
  obtain ⟨f', fd', hm', hk, Fo, b, oc, od, osl, lk⟩ := C.ex
  rw [hm] at hm'
  cases hm'
  obtain ⟨oc2, od2, osl2, lk2⟩ := fd_at F
  rw [lk] at lk2
  cases lk2
  obtain ⟨its, kb⟩ := F.kbindsD (ps := ps) 0 ks g hd hrel h
  exact ⟨⟨f, fd, _, _, hm, hk, Fo, kb, hg⟩⟩
end
def tCallKE (sp : Sp) (m : Nat) (gV : List V → List V) (E : L2.St → XK) (tk : TA) : TE := fun σ H Q => tk σ H fun zs H1 => zs.length = m ∧ sp (gV zs) H1 Q (E σ)
section
variable {X : Cx} {W : WX} {k : Nat} {x : Str} {ps ks : List Str} {sp : Sp} {p pos : Pos} {e : Expr} {es : List Expr} {kws : List Keyword} {t tk : TA} {gV : List V → List V}
theorem pe_calE (C : CalE X.prog X.w X.K X.mg X.base k x ps sp) (tW : L2N.Takes X W) (hr : Room k X.A) (ha : PA X (e :: es) t) (hg : Gl X x := by rfl) (hdb : (x == ("__debug__" : Str)) = false := by decide)
    (he : starEach (e :: es) X.env = (false, eval e X.env) :: starEach es X.env := by rfl) (hpl : (backTo pos (starEach es X.env)).any (·.1) = false := by rfl) : PE X (.Call (.Name x p) (e :: es) [] pos) (tCallS sp (WE W) t) := by
  obtain ⟨f, fd, hm, hk, F, b, _⟩ := C.ex
  exact pe_callS F hr hg hm hk b (fun σ => L2N.passAt tW σ) ha hdb he hpl
theorem pe_calKE (C : CalKE X.prog X.w X.K X.mg X.base k x ps ks sp gV) (tW : L2N.Takes X W) (hr : Room k X.A) (hkw : PK X kws tk) (hg : Gl X x := by rfl) (hall : (backToKw pos (keywordEach kws X.env)).all (·.1.isSome) = true := by rfl) (hks : (backToKw pos (keywordEach kws X.env)).filterMap (·.1) = ks := by rfl)
    (hdb : (x == ("__debug__" : Str)) = false := by decide) (hpl : ((backTo pos (starEach [] X.env)).any (·.1) || (backToKw pos (keywordEach kws X.env)).any (·.1.isNone)) = false := by rfl) :
    PE X (.Call (.Name x p) [] kws pos) (tCallKE sp ks.length gV (WE W) tk) := by
  obtain ⟨f, fd, g, gv, hm, hk, F, b, eg⟩ := C.ex
  refine ⟨fun pins s σ H Q I h => ?_⟩
  refine wpAny_Call_Name_kw (ld_glob I hg hm ?_ hdb)
  refine PySem.W.callWith_KW0 (h₀ := X.base) I.ok.mod.kin hk hall ?_ hpl
  refine thn (hkw.run pos pins s σ H _ I h) fun ws s2 ⟨zs, H2, I2, rz, l2, q2⟩ => ⟨I2.kIn, ?_⟩
  rw [hks]
  have r2 := b.rel (vs := []) (us := []) .nil rz
  rw [← eg] at q2
  refine wpAny_call (codeAny_mono (F.run X.A X.stack s2 H2 ⟨[], ks.zip ws⟩ (g [] ws) (gv [] zs) Q (WE W σ) hr I2.env0 (b.to s2 [] ws I2.kIn rfl (rz.length.symm.trans l2)) r2 q2) fun r s' hq => ?_)
  cases r with
  | error er => exact L2N.passAt tW σ pins H2 s2 er s' I2 hq
  | ok fl =>
    cases fl with
    | ret u => exact I2.after hq
    | next => exact False.elim hq
    | brk => exact False.elim hq
    | cont => exact False.elim hq
end
/-! ### asked in the suite -/
/-- isinstance(e, C) | isinstance(e, (C, ..)) -/
def rIsX (K : PySem.W.Frag) (D a dd : Addr) : List V → Hp → VK → Prop := fun xs H Q => (∃ fs, H dd = some (.xd fs)) ∧ ((∃ (c : Addr) (b : Bool), xs = [.ref a, .ref c] ∧ PySem.W.kitOne K (.ref D) (.ref c) = some b ∧ Q (.bl b) H) ∨
  ∃ (p : Addr) (cs : List Addr) (b : Bool), xs = [.ref a, .ref p] ∧ H p = some (.tup (cs.map V.ref)) ∧ PySem.W.kitAny K (.ref D) (cs.map Value.ref) = some b ∧ Q (.bl b) H)
theorem vals_refs : ∀ {cs : List Addr} {us : List Value}, Vals (cs.map V.ref) us → us = cs.map Value.ref
  | [], _, h => by cases h; rfl
  | c :: cs, _, h => by
    cases h with
    | cons r t =>
      cases r
      rw [vals_refs t]
      rfl
theorem call_isX0 {X : Cx} {D a dd : Addr} {oe : Obj} {pn : List (Addr × Obj)} (C : ExF X.K D) (hn : PySem.W.specialIn X.K (.builtin "object.__class__") "__get__" = some (some (.builtin "getset_descriptor.__get__"))) (ht : PySem.W.takesIn X.K (.builtin "object.__class__") = some true)
    (hz : Zc (.ref D) (some dd) oe) (hf : ∃ vs, oe.data = .fields vs) : CallR (X.suite a ((a, oe) :: pn)) (.builtin "isinstance") (rIsX X.K D a dd) := by
  intro pins s σ H xs us Q I r h
  obtain ⟨⟨fs, hdd⟩, h⟩ := h
  obtain ⟨hget, _⟩ := I.pin (a, oe) (List.mem_append.mpr (.inl List.mem_cons_self))
  obtain ⟨vs, hv⟩ := hf
  obtain ⟨mA, hns, hrel⟩ := (I.hok dd _ hdd : ObjOk X.prog X.w H s.heap dd (.xd fs))
  obtain ⟨od, ho, hl⟩ := lookIn_ns hns
  have J : PySem.W.InstAt s.heap a oe D (some od) := ⟨hget, hz.1, by unfold PySem.W.notCls; rw [hv] <;> rfl, by rw [hz.2]; exact ho⟩
  have Z : PySem.W.KitX X.K (.ref a) (.ref D) (fun h => PySem.W.InstAt h a oe D (some od)) := PySem.W.kitx_exc C.cl C.f.ga C.f.gg C.f.exC C.ha hn ht C.hm
  rcases h with ⟨c, b, rfl, e, q⟩ | ⟨p, cs, b, rfl, hp, e, q⟩
  · cases r with
    | cons rx rr =>
      cases rr with
      | cons rt rr =>
        cases rr
        cases rx
        cases rt
        exact PySem.W.kia_one Z I.kIn J e (fun z => nomatch z) fun tk => ⟨.bl b, H, I.kept (t' := tk) fun _ _ z => z, rfl, q⟩
  · cases r with
    | cons rx rr =>
      cases rr with
      | cons rt rr =>
        cases rr
        cases rx
        cases rt
        obtain ⟨_, its, rv, it⟩ := (I.hok p _ hp : ObjOk X.prog X.w H s.heap p (.tup (cs.map V.ref)))
        have ei := vals_refs rv
        subst ei
        obtain ⟨o, hg, hc, n, hd⟩ := it
        obtain ⟨oc, od', oda, osl⟩ := o
        dsimp only at hc hd
        subst hc hd
        exact PySem.W.kia_tup Z I.kIn J hg e (fun z => nomatch z) fun tk => ⟨.bl b, H, I.kept (t' := tk) fun _ _ z => z, rfl, q⟩
/-- whatever is caught, it is this one -/
def rIsY (K : PySem.W.Frag) (D a : Addr) (cls : Value) (d : Option Addr) : List V → Hp → VK → Prop := fun xs H Q => cls = .ref D ∧ ∃ dd, d = some dd ∧ rIsX K D a dd xs H Q
theorem call_isY {X : Cx} {D a : Addr} {oe : Obj} {cls : Value} {d : Option Addr} {pn : List (Addr × Obj)} (C : ExF X.K D) (hn : PySem.W.specialIn X.K (.builtin "object.__class__") "__get__" = some (some (.builtin "getset_descriptor.__get__"))) (ht : PySem.W.takesIn X.K (.builtin "object.__class__") = some true)
    (hz : Zc cls d oe) (hf : ∃ vs, oe.data = .fields vs) : CallR (X.suite a ((a, oe) :: pn)) (.builtin "isinstance") (rIsY X.K D a cls d) := by
  intro pins s σ H xs us Q I r h
  obtain ⟨rfl, dd, rfl, h⟩ := h
  exact call_isX0 C hn ht hz hf pins s σ H xs us Q I r h
end DL

set_option Elab.async false
set_option linter.all false
set_option maxRecDepth 100000
set_option maxHeartbeats 4000000
/-! DLY: the same with the context told, so that defs may be called in the suite. -/
namespace DL
open PySem PySem.Spec PyProof.Rows L2
section
variable {X : Cx} {x fn : Str} {C : Addr} {p pos : Pos} {e : Expr} {es : List Expr} {ta : TA}
/-- such an error, made where none is handled: its context is None -/
theorem pmkN (M : MakE X.prog X.w X.K X.mg X.base x C fn) (room : Room 2 X.A) (args : PA X (e :: es) ta) (glb : Gl X x := by rfl) (nodb : (x == ("__debug__" : Str)) = false := by decide)
    (st : starEach (e :: es) X.env = (false, eval e X.env) :: starEach es X.env := by rfl) (nost : (backTo pos (starEach es X.env)).any (·.1) = false := by rfl) : L2N.PMk X (.Call (.Name x p) (e :: es) [] pos) (tMkO C (spXI X.K C fn) [] ta) := by
  obtain ⟨fI, fd, ps, named, cls, own, isF, F, bnd⟩ := M.ex
  obtain ⟨nm, qn, N, bs, bm, sn, sub, ab, col, dd, k0, k1, k2, k3, k5, look, mro⟩ := cls.cls
  intro pins s σ H Q I given
  refine wpAny_Call_Name_kw (ld_glob I glb named ?_ nodb)
  refine PySem.W.callWith_K (h₀ := X.base) I.ok.mod.kin cls.kC ?_ st nost
  refine thn (args.run pos pins s σ H _ I given) ?_
  rintro us ⟨hp, g, dr, tk, os⟩ ⟨vs, H1, J, rel, small, next⟩
  refine ⟨J.kIn, ?_⟩
  show wpAny _ _ (call (.ref C) us) _ _ _
  generalize ea : hp.objs.size + 1 = a
  have above : hp.objs.size ≤ a := by omega
  have free : H1 a = none := J.hok.fresh above
  have goal := next a free
  rw [List.append_nil] at goal
  have keep : ∀ b o, hp.get? b = some o → ((hp.push (PySem.W.kdv_tup us)).push (PySem.HandSPX.excO C hp.objs.size)).get? b = some o :=
    fun _ _ z => Heap.get?_push_of_some _ (Heap.get?_push_of_some _ z)
  have here : ((hp.push (PySem.W.kdv_tup us)).push (PySem.HandSPX.excO C hp.objs.size)).get? a = some (PySem.HandSPX.excO C hp.objs.size) := by
    rw [← ea]
    heap_get
  have J2 := J.laid (t' := tk) (a := a) (o := exo a C none) keep above (exo_ok here)
  have rel2 : Vals (V.ref a :: vs) (Value.ref a :: us) := .cons rfl rel
  have len2 : (Value.ref a :: us).length = ps.length := by
    rw [← rel2.length]
    exact F.len _ _ _ _ goal
  have fits : us.length ≤ sizeLine := by
    rw [← rel.length, sizeLine_eq]
    omega
  have bound := bnd _ (Value.ref a :: us) J2.kIn (by rw [List.append_nil]; exact len2)
  rw [List.append_nil] at bound
  have run := F.run _ X.stack _ _ ⟨Value.ref a :: us, []⟩ (Value.ref a :: us) _ _ (fun _ _ _ => False) (room.make C us []) (J2.env0.make C us []) bound rel2 goal
  subst ea
  refine wpAny_call (PySem.HandSPX.call_own PySem.F.excBase_ValueError (fun Y => PySem.HandSPX.refsVE_contains Y bm mro) (J.kIn _ _ look) (PySem.W.looks_findIn J.kIn own) (fun self => PySem.W.bind_fn J.kIn self isF) fits (codeAny_mono run ?_))
  intro r s' res
  match r, res with
  | .ok (.ret u), res =>
    obtain ⟨v, H2, sameOs, bare, un, ok2, rv, isNon, d, fs, atA, atD, was, q2⟩ := res
    subst isNon
    obtain ⟨h2, g2, d2, t2, os'⟩ := s'
    obtain ⟨t0, G, J3, old, gone, at2, na⟩ := mk_end0 (d2 := d2) (t2 := t2) J above keep un ok2 sameOs bare atA atD was
    refine ⟨rv, hp.objs.size + 1, _, _, ⟨G, g2, d2, t2, os'⟩, _, .ref C, some d, rfl, J3, old, gone, at2, ⟨rfl, rfl, ?_⟩, rfl, rfl, na, rfl, bare, raises_own cls.exC cls.tyC, q2⟩
    intro vs hv
    cases hv
    rfl
  | .error er, res => exact absurd res id
end
/-! ### walks that end by such an error -/
theorem takesN0 {X : Cx} : L2N.Takes X (fun _ _ _ _ => False) := fun _ _ ⟨_, _, _, _, _, _, _, _, _, _, _, _, _, _, _, _, z⟩ => False.elim z
section
variable {K : PySem.W.Frag} {C : Addr} {fn : Str} {n : Int} {ρ : List Sl} {E : XK} {t u : TS} {tt : TT}
/-- the statement raises it -/
def RD (K : PySem.W.Frag) (C : Addr) (fn : Str) (n : Int) (t : TS) (ρ : List Sl) (E : XK) : Prop := ∀ HE HE1 H H1 σ (D : Ends), SS K HE HE1 H H1 σ ρ → (∀ d H', Ex H1 H' → H' d = some (.xd [(fn, .int n)]) → E (.ref C) (some d) H') → t D σ H1
theorem rd_then (h : RD K C fn n t ρ E) : RD K C fn n (tSeq t u) ρ E := fun HE HE1 H H1 σ D ss q => h HE HE1 H H1 σ _ ss q
theorem rd_if {x : Bool} (h : EvT K tt (viewE ρ) x) (h1 : x = true → RD K C fn n t ρ E) (h2 : x = false → RD K C fn n u ρ E) : RD K C fn n (tIfS tt t u) ρ E := fun HE HE1 H H1 σ D ss q => by
  obtain ⟨Hv, e1, e2, er⟩ := ss.view
  refine h Hv σ H1 er e2 _ fun H2 e => ?_
  cases x with
  | true => exact h1 rfl HE HE1 H H2 σ D (ss.grow e) fun d H' e' => q d H' (e.trans e')
  | false => exact h2 rfl HE HE1 H H2 σ D (ss.grow e) fun d H' e' => q d H' (e.trans e')
theorem rd_raise {ta : TA} (h : EvA K ta (shE ρ) [.int n]) : RD K C fn n (fun _ σ H => tMkO C (spXI K C fn) [] ta σ H fun cls d H' => E cls d H') ρ E := fun HE HE1 H H1 σ D ss q =>
  h H σ H1 ss.er ss.ex _ fun vs Hn H2 g rs => by
    cases rs with
    | cons r1 rr =>
      cases rr
      cases r1
      refine ⟨(by show 1 ≤ 1000; decide), fun a ha => ⟨a, .int n, rfl, upd_same, fun dx h1 h2 => ⟨rfl, dx, [(fn, .int n)], upd_same, ?_, ?_, ?_⟩⟩⟩
      · rw [upd_ne h2]
        exact upd_same
      · rw [upd_ne h2] at h1
        exact h1
      · rw [upd_ne h2] at h1
        refine q dx _ (fun b o z => ?_) upd_same
        have zb := g.all b o z
        have b1 : b ≠ dx := ne_of_none zb h1
        have b2 : b ≠ a := ne_of_none zb ha
        rw [upd_ne b1, del_ne b2, upd_ne b2, upd_ne b1, upd_ne b2]
        exact zb
theorem rd_fn {α : Type} {enc : α → List D} {pre : α → Prop} {out : α → Int} {N : List Str} {vs : List V} {H1 : Hp} {Q : VK} {D : Ends} (hsp : spR K enc pre C fn out vs H1 Q E) (hl : ∀ x, (enc x).length ≤ N.length)
    (h : ∀ x, pre x → RD K C fn (out x) t ((enc x).map Sl.sh ++ List.replicate (N.length - (enc x).length) Sl.no) E) : t D (L2.start N vs) H1 := by
  obtain ⟨HE, x, e, rs, hp, q⟩ := hsp
  exact h x hp HE H1 HE H1 _ D (ss_start e rs (hl x)) q
theorem spR_len {α : Type} {enc : α → List D} {pre : α → Prop} {out : α → Int} {m : Nat} {vs : List V} {H1 : Hp} {Q : VK} (hl : ∀ x, (enc x).length = m) (h : spR K enc pre C fn out vs H1 Q E) : vs.length = m := by
  obtain ⟨HE, x, e, rs, _⟩ := h
  rw [rs.length]
  exact hl x
/-! ### a body under try that raises it -/
def XF (K : PySem.W.Frag) (C : Addr) (fn : Str) (n : Int) (t : TS) (ρ : List Sl) (W : WX) : Prop := ∀ HE HE1 H H1 σ (D : Ends), SS K HE HE1 H H1 σ ρ → (∀ d H', Ex H1 H' → H' d = some (.xd [(fn, .int n)]) → W (.ref C) (some d) σ H') → t D σ H1
theorem xf_if {W : WX} {x : Bool} (h : EvT K tt (viewE ρ) x) (h1 : x = true → XF K C fn n t ρ W) (h2 : x = false → XF K C fn n u ρ W) : XF K C fn n (tIfS tt t u) ρ W := fun HE HE1 H H1 σ D ss q => by
  obtain ⟨Hv, e1, e2, er⟩ := ss.view
  refine h Hv σ H1 er e2 _ fun H2 e => ?_
  cases x with
  | true => exact h1 rfl HE HE1 H H2 σ D (ss.grow e) fun d H' e' => q d H' (e.trans e')
  | false => exact h2 rfl HE HE1 H H2 σ D (ss.grow e) fun d H' e' => q d H' (e.trans e')
theorem xf_call {W : WX} {α : Type} {enc : α → List D} {pre : α → Prop} {out : α → Int} {ta : TA} (x : α) (ha : EvA K ta (shE ρ) (enc x)) (hp : pre x) (ho : out x = n) : XF K C fn n (tDrop (tCallS (spR K enc pre C fn out) (WE W) ta)) ρ W := fun HE HE1 H H1 σ D ss q =>
  ha H σ H1 ss.er ss.ex _ fun vs Hn H2 g rs => ⟨Hn, x, g.inn, rs, hp, fun d H' e hd => q d H' (g.all.trans e) (by rw [hd, ho])⟩
theorem xf_callK {W : WX} {α : Type} {enc : α → List D} {pre : α → Prop} {out : α → Int} {tk : TA} {m : Nat} {gV : List V → List V} {bs : List D} (x : α) (ha : EvA K tk (shE ρ) bs) (hm : bs.length = m) (hg : ∀ H zs, Rps K H zs bs → Rps K H (gV zs) (enc x)) (hp : pre x) (ho : out x = n) : XF K C fn n (tDrop (tCallKE (spR K enc pre C fn out) m gV (WE W) tk)) ρ W := fun HE HE1 H H1 σ D ss q =>
  ha H σ H1 ss.er ss.ex _ fun zs Hn H2 g rs => ⟨rs.length.trans hm, Hn, x, g.inn, hg Hn zs rs, hp, fun d H' e hd => q d H' (g.all.trans e) (by rw [hd, ho])⟩
theorem XF.go {W : WX} {HE HE1 H H1 : Hp} {σ : L2.St} {E : Ends} (ss : SS K HE HE1 H H1 σ ρ) (hb : XF K C fn n t ρ W) (hw : ∀ d H', Ex H1 H' → H' d = some (.xd [(fn, .int n)]) → W (.ref C) (some d) σ H') : t E σ H1 := hb HE HE1 H H1 σ E ss hw
/-- the clause takes it; the suite tells True -/
theorem was_ok {D : DE} {ts : Addr → Value → Option Addr → TS} {Wout : WX} {c : Value} {i : Nat} {HE HE1 H H1 : Hp} {σ : L2.St} {E : Ends} (ss : SS K HE HE1 H H1 σ ρ) (r : ∀ rt v H2, D.rt rt → OutR K HE HE1 rt v H2 → E.rt v H2) (hi : (shE ρ)[i]? = some none) (hm : PySem.W.exmOne K (.ref C) c = some true)
    (hs : ∀ (a dd : Addr) (H H1 : Hp) (σ : L2.St) (D' : Ends), ER K H σ (shE ρ) → Ex H H1 → H1 dd = some (.xd [(fn, .int n)]) → σ[i]? = some (some (.ref a)) → (∀ H2, Ex H1 H2 → D'.rt (.bl true) H2) → ts a (.ref C) (some dd) D' σ H1)
    (k : D.rt (.sh (.bl true))) : ∀ d H', Ex H1 H' → H' d = some (.xd [(fn, .int n)]) → wAs K c i ts Wout E (.ref C) (some d) σ H' := fun d H' e hd => ⟨true, hm, fun _ a ha => by
  have er := ss.er
  have hl : i < (shE ρ).length := (List.getElem?_eq_some_iff.mp hi).1
  refine hs a d H H' _ _ ⟨by rw [List.length_set]; exact er.len, fun j dj hj => ?_⟩ (ss.ex.trans e) hd (List.getElem?_set_self (by rw [← er.len]; exact hl)) fun H2 e2 => r _ _ H2 k ⟨H, (ss.grow (e.trans e2)).gr, .bl true⟩
  have ne : i ≠ j := fun z => by
    subst z
    rw [hi] at hj
    cases hj
  rw [List.getElem?_set_ne ne]
  exact er.get j dj hj, fun z => by cases z⟩
end
/-! ### defs called in the suite -/
structure CalH (P : Program) (w : World) (K : PySem.W.Frag) (mg : Str → Option Value) (base : Heap) (k : Nat) (x : Str) (ps : List Str) (sp : Sp) : Prop where
  ex : ∃ (f : Addr) (fd : FuncData), mg x = some (.ref f) ∧ PySem.W.keepIn K (.ref f) = true ∧ L2H.FnH P w K mg base CX0 k f fd ps sp ∧ Binds K fd ps []
theorem calH_mk {P : Program} {w : World} {K : PySem.W.Frag} {mg : Str → Option Value} {base : Heap} {x qual : Str} {params : Arguments} {body : List Stmt} {scope : Scope} {f : Addr} {N ps : List Str} {k : Nat} {sp : Sp} (F : ∃ fd, FunD K x qual params body scope [] [] f fd) (hm : mg x = some (.ref f)) (S : FnScope N ps scope)
    (len : ∀ vs H Q E, sp vs H Q E → vs.length = ps.length)
    (hbi : ∀ (kV doc pm : Value) (an : Option Addr) (cdv ct : Value) (us : List Value), us.length = ps.length → bindArgs (PySem.W.fnOf x qual params body scope .none kV doc pm an cdv ct) ⟨us, []⟩ = pure (ps.zip us))
    (hb : ∀ (cdv : Value) (A : Around) (outer : List PySem.Env) (s : Shared) (H : Hp) (vs : List V) (Q : VK) (E : XK) (p : Addr × Obj), sp vs H Q E →
      ∃ t, PSs (L2H.cxH CX0 P w K mg base N qual scope f cdv A outer s H E p) body t ∧ t { nx := fun _ H' => Q .non H', rt := Q } (L2.start N vs) H) : CalH P w K mg base (k + 1) x ps sp := by
  obtain ⟨fd, F⟩ := F
  have bi := F.bindsN hbi
  have kp := F.kp
  obtain ⟨oc, od, dV, kV, doc, pm, an, cdv, ct, osl, rfl, lk, hcd, _, _⟩ := F.ex
  exact ⟨⟨f, _, hm, kp, L2H.fn_ofH lk hcd S len fun A outer s H vs Q E p _ _ hsp => hb cdv A outer s H vs Q E p hsp, bi⟩⟩
theorem pe_calH {X : Cx} {k : Nat} {x : Str} {ps : List Str} {sp : Sp} {p pos : Pos} {e : Expr} {es : List Expr} {t : TA} {a : Addr} {oe : Obj} {pn : List (Addr × Obj)} {cls : Value} {d : Option Addr} (C : CalH X.prog X.w X.K X.mg X.base k x ps sp) (hr : Room k X.A) (hz : L2N.Zn cls d oe) (hf : ∃ vs, oe.data = .fields vs)
    (ha : PA (X.suite a ((a, oe) :: pn)) (e :: es) t) (hg : Gl (X.suite a ((a, oe) :: pn)) x := by rfl) (hdb : (x == ("__debug__" : Str)) = false := by decide)
    (he : starEach (e :: es) (X.suite a ((a, oe) :: pn)).env = (false, eval e (X.suite a ((a, oe) :: pn)).env) :: starEach es (X.suite a ((a, oe) :: pn)).env := by rfl) (hpl : (backTo pos (starEach es (X.suite a ((a, oe) :: pn)).env)).any (·.1) = false := by rfl) :
    PE (X.suite a ((a, oe) :: pn)) (.Call (.Name x p) (e :: es) [] pos) (tCallS sp (fun _ => E0) t) := by
  obtain ⟨f, fd, hm, hk, F, b⟩ := C.ex
  obtain ⟨vs, hv⟩ := hf
  exact L2H.pe_callH (X := X.suite a ((a, oe) :: pn)) (E := fun _ => E0) F ⟨hr.dp, hr.un⟩ ⟨(a, oe), ⟨rfl, vs, hv, hz.2.2 vs hv⟩, List.mem_cons_self⟩ hg hm hk b (fun _ _ _ _ _ _ _ z => z.elim) ha hdb he hpl
end DL

set_option Elab.async false
set_option linter.all false
set_option maxRecDepth 100000
set_option maxHeartbeats 4000000
namespace K00
open PySem PySem.Spec PyProof.Rows L2
def top (i : Nat) : Stmt := PySem.Challenge.pw_ledbymarks_k00_whole_two_arithmetics.main.body.getD i (.Pass ⟨0, 0, 0, 0⟩)
abbrev sRatio : Stmt := top 8
abbrev sPlus : Stmt := top 9
abbrev sMinus : Stmt := top 10
abbrev sTimes : Stmt := top 11
abbrev sOver : Stmt := top 12
abbrev sOrder : Stmt := top 13
abbrev sRow : Stmt := top 15
abbrev sRowOf : Stmt := top 16
abbrev sRowItem : Stmt := top 17
abbrev sRowItems : Stmt := top 18
abbrev sRowSum : Stmt := top 19
abbrev sRowScaled : Stmt := top 20
abbrev sDot : Stmt := top 21
abbrev sLawWhole : Stmt := top 23
abbrev sLawCell : Stmt := top 24
abbrev sLawDigits : Stmt := top 25
abbrev sLawGcd : Stmt := top 26
abbrev sLawCommon : Stmt := top 27
abbrev sLawRatio : Stmt := top 28
abbrev sLawIsRatio : Stmt := top 29
abbrev sLawIsRow : Stmt := top 30
abbrev sLawJust : Stmt := top 31
abbrev sLawLong : Stmt := top 32
abbrev sLawNumbers : Stmt := top 33
abbrev sLawTold : Stmt := top 34
abbrev sLawSame : Stmt := top 35
abbrev sLawAdded : Stmt := top 36
abbrev sLawBy : Stmt := top 37
abbrev sLawDotted : Stmt := top 38
abbrev sLawForm : Stmt := top 39
abbrev sLawSecond : Stmt := top 40
abbrev sLawThird : Stmt := top 41
abbrev sLawMade : Stmt := top 42
abbrev sLawOneByOne : Stmt := top 43
abbrev sLawLinear : Stmt := top 44
abbrev sLawGrown : Stmt := top 45
abbrev sLawItems : Stmt := top 46
abbrev sLawRefused : Stmt := top 47
abbrev sLawNeighbours : Stmt := top 48
abbrev sLaw : Stmt := top 49
abbrev sZeroBottom_Init : Stmt := inClass (top 3) 0
abbrev sBadLimit_Init : Stmt := inClass (top 5) 0
abbrev sBadRatio_Init : Stmt := inClass (top 6) 0
structure Txt (K : PySem.W.Frag) (mg : Str → Option Value) : Prop where
  f_Ratio : ∃ fd, FunD K "ratio" "ratio" (defArgs sRatio) (defBody sRatio) (defScope sRatio) [.int 1] [] (He.ga K "ratio") fd
  g_Ratio : mg "ratio" = some (.ref (He.ga K "ratio"))
  f_Plus : ∃ fd, FunD K "plus" "plus" (defArgs sPlus) (defBody sPlus) (defScope sPlus) [] [] (He.ga K "plus") fd
  g_Plus : mg "plus" = some (.ref (He.ga K "plus"))
  f_Minus : ∃ fd, FunD K "minus" "minus" (defArgs sMinus) (defBody sMinus) (defScope sMinus) [] [] (He.ga K "minus") fd
  g_Minus : mg "minus" = some (.ref (He.ga K "minus"))
  f_Times : ∃ fd, FunD K "times" "times" (defArgs sTimes) (defBody sTimes) (defScope sTimes) [] [] (He.ga K "times") fd
  g_Times : mg "times" = some (.ref (He.ga K "times"))
  f_Over : ∃ fd, FunD K "over" "over" (defArgs sOver) (defBody sOver) (defScope sOver) [] [] (He.ga K "over") fd
  g_Over : mg "over" = some (.ref (He.ga K "over"))
  f_Order : ∃ fd, FunD K "order" "order" (defArgs sOrder) (defBody sOrder) (defScope sOrder) [] [] (He.ga K "order") fd
  g_Order : mg "order" = some (.ref (He.ga K "order"))
  f_Row : ∃ fd, FunD K "row" "row" (defArgs sRow) (defBody sRow) (defScope sRow) [.int 1] [] (He.ga K "row") fd
  g_Row : mg "row" = some (.ref (He.ga K "row"))
  f_RowOf : ∃ fd, FunD K "row_of" "row_of" (defArgs sRowOf) (defBody sRowOf) (defScope sRowOf) [] [] (He.ga K "row_of") fd
  g_RowOf : mg "row_of" = some (.ref (He.ga K "row_of"))
  f_RowItem : ∃ fd, FunD K "row_item" "row_item" (defArgs sRowItem) (defBody sRowItem) (defScope sRowItem) [] [] (He.ga K "row_item") fd
  g_RowItem : mg "row_item" = some (.ref (He.ga K "row_item"))
  f_RowItems : ∃ fd, FunD K "row_items" "row_items" (defArgs sRowItems) (defBody sRowItems) (defScope sRowItems) [] [] (He.ga K "row_items") fd
  g_RowItems : mg "row_items" = some (.ref (He.ga K "row_items"))
  f_RowSum : ∃ fd, FunD K "row_sum" "row_sum" (defArgs sRowSum) (defBody sRowSum) (defScope sRowSum) [] [] (He.ga K "row_sum") fd
  g_RowSum : mg "row_sum" = some (.ref (He.ga K "row_sum"))
  f_RowScaled : ∃ fd, FunD K "row_scaled" "row_scaled" (defArgs sRowScaled) (defBody sRowScaled) (defScope sRowScaled) [] [] (He.ga K "row_scaled") fd
  g_RowScaled : mg "row_scaled" = some (.ref (He.ga K "row_scaled"))
  f_Dot : ∃ fd, FunD K "dot" "dot" (defArgs sDot) (defBody sDot) (defScope sDot) [] [] (He.ga K "dot") fd
  g_Dot : mg "dot" = some (.ref (He.ga K "dot"))
  f_LawWhole : ∃ fd, FunD K "_law_whole" "_law_whole" (defArgs sLawWhole) (defBody sLawWhole) (defScope sLawWhole) [] [] (He.ga K "_law_whole") fd
  g_LawWhole : mg "_law_whole" = some (.ref (He.ga K "_law_whole"))
  f_LawCell : ∃ fd, FunD K "_law_cell" "_law_cell" (defArgs sLawCell) (defBody sLawCell) (defScope sLawCell) [] [] (He.ga K "_law_cell") fd
  g_LawCell : mg "_law_cell" = some (.ref (He.ga K "_law_cell"))
  f_LawDigits : ∃ fd, FunD K "_law_digits" "_law_digits" (defArgs sLawDigits) (defBody sLawDigits) (defScope sLawDigits) [] [] (He.ga K "_law_digits") fd
  g_LawDigits : mg "_law_digits" = some (.ref (He.ga K "_law_digits"))
  f_LawGcd : ∃ fd, FunD K "_law_gcd" "_law_gcd" (defArgs sLawGcd) (defBody sLawGcd) (defScope sLawGcd) [] [] (He.ga K "_law_gcd") fd
  g_LawGcd : mg "_law_gcd" = some (.ref (He.ga K "_law_gcd"))
  f_LawCommon : ∃ fd, FunD K "_law_common" "_law_common" (defArgs sLawCommon) (defBody sLawCommon) (defScope sLawCommon) [] [] (He.ga K "_law_common") fd
  g_LawCommon : mg "_law_common" = some (.ref (He.ga K "_law_common"))
  f_LawRatio : ∃ fd, FunD K "_law_ratio" "_law_ratio" (defArgs sLawRatio) (defBody sLawRatio) (defScope sLawRatio) [] [] (He.ga K "_law_ratio") fd
  g_LawRatio : mg "_law_ratio" = some (.ref (He.ga K "_law_ratio"))
  f_LawIsRatio : ∃ fd, FunD K "_law_is_ratio" "_law_is_ratio" (defArgs sLawIsRatio) (defBody sLawIsRatio) (defScope sLawIsRatio) [] [] (He.ga K "_law_is_ratio") fd
  g_LawIsRatio : mg "_law_is_ratio" = some (.ref (He.ga K "_law_is_ratio"))
  f_LawIsRow : ∃ fd, FunD K "_law_is_row" "_law_is_row" (defArgs sLawIsRow) (defBody sLawIsRow) (defScope sLawIsRow) [] [] (He.ga K "_law_is_row") fd
  g_LawIsRow : mg "_law_is_row" = some (.ref (He.ga K "_law_is_row"))
  f_LawJust : ∃ fd, FunD K "_law_just" "_law_just" (defArgs sLawJust) (defBody sLawJust) (defScope sLawJust) [] [] (He.ga K "_law_just") fd
  g_LawJust : mg "_law_just" = some (.ref (He.ga K "_law_just"))
  f_LawLong : ∃ fd, FunD K "_law_long" "_law_long" (defArgs sLawLong) (defBody sLawLong) (defScope sLawLong) [] [] (He.ga K "_law_long") fd
  g_LawLong : mg "_law_long" = some (.ref (He.ga K "_law_long"))
  f_LawNumbers : ∃ fd, FunD K "_law_numbers" "_law_numbers" (defArgs sLawNumbers) (defBody sLawNumbers) (defScope sLawNumbers) [] [] (He.ga K "_law_numbers") fd
  g_LawNumbers : mg "_law_numbers" = some (.ref (He.ga K "_law_numbers"))
  f_LawTold : ∃ fd, FunD K "_law_told" "_law_told" (defArgs sLawTold) (defBody sLawTold) (defScope sLawTold) [] [] (He.ga K "_law_told") fd
  g_LawTold : mg "_law_told" = some (.ref (He.ga K "_law_told"))
  f_LawSame : ∃ fd, FunD K "_law_same" "_law_same" (defArgs sLawSame) (defBody sLawSame) (defScope sLawSame) [] [] (He.ga K "_law_same") fd
  g_LawSame : mg "_law_same" = some (.ref (He.ga K "_law_same"))
  f_LawAdded : ∃ fd, FunD K "_law_added" "_law_added" (defArgs sLawAdded) (defBody sLawAdded) (defScope sLawAdded) [] [] (He.ga K "_law_added") fd
  g_LawAdded : mg "_law_added" = some (.ref (He.ga K "_law_added"))
  f_LawBy : ∃ fd, FunD K "_law_by" "_law_by" (defArgs sLawBy) (defBody sLawBy) (defScope sLawBy) [] [] (He.ga K "_law_by") fd
  g_LawBy : mg "_law_by" = some (.ref (He.ga K "_law_by"))
  f_LawDotted : ∃ fd, FunD K "_law_dotted" "_law_dotted" (defArgs sLawDotted) (defBody sLawDotted) (defScope sLawDotted) [] [] (He.ga K "_law_dotted") fd
  g_LawDotted : mg "_law_dotted" = some (.ref (He.ga K "_law_dotted"))
  f_LawForm : ∃ fd, FunD K "_law_form" "_law_form" (defArgs sLawForm) (defBody sLawForm) (defScope sLawForm) [] [] (He.ga K "_law_form") fd
  g_LawForm : mg "_law_form" = some (.ref (He.ga K "_law_form"))
  f_LawSecond : ∃ fd, FunD K "_law_second" "_law_second" (defArgs sLawSecond) (defBody sLawSecond) (defScope sLawSecond) [] [] (He.ga K "_law_second") fd
  g_LawSecond : mg "_law_second" = some (.ref (He.ga K "_law_second"))
  f_LawThird : ∃ fd, FunD K "_law_third" "_law_third" (defArgs sLawThird) (defBody sLawThird) (defScope sLawThird) [] [] (He.ga K "_law_third") fd
  g_LawThird : mg "_law_third" = some (.ref (He.ga K "_law_third"))
  f_LawMade : ∃ fd, FunD K "_law_made" "_law_made" (defArgs sLawMade) (defBody sLawMade) (defScope sLawMade) [] [] (He.ga K "_law_made") fd
  g_LawMade : mg "_law_made" = some (.ref (He.ga K "_law_made"))
  f_LawOneByOne : ∃ fd, FunD K "_law_one_by_one" "_law_one_by_one" (defArgs sLawOneByOne) (defBody sLawOneByOne) (defScope sLawOneByOne) [] [] (He.ga K "_law_one_by_one") fd
  g_LawOneByOne : mg "_law_one_by_one" = some (.ref (He.ga K "_law_one_by_one"))
  f_LawLinear : ∃ fd, FunD K "_law_linear" "_law_linear" (defArgs sLawLinear) (defBody sLawLinear) (defScope sLawLinear) [] [] (He.ga K "_law_linear") fd
  g_LawLinear : mg "_law_linear" = some (.ref (He.ga K "_law_linear"))
  f_LawGrown : ∃ fd, FunD K "_law_grown" "_law_grown" (defArgs sLawGrown) (defBody sLawGrown) (defScope sLawGrown) [] [] (He.ga K "_law_grown") fd
  g_LawGrown : mg "_law_grown" = some (.ref (He.ga K "_law_grown"))
  f_LawItems : ∃ fd, FunD K "_law_items" "_law_items" (defArgs sLawItems) (defBody sLawItems) (defScope sLawItems) [] [] (He.ga K "_law_items") fd
  g_LawItems : mg "_law_items" = some (.ref (He.ga K "_law_items"))
  f_LawRefused : ∃ fd, FunD K "_law_refused" "_law_refused" (defArgs sLawRefused) (defBody sLawRefused) (defScope sLawRefused) [] [] (He.ga K "_law_refused") fd
  g_LawRefused : mg "_law_refused" = some (.ref (He.ga K "_law_refused"))
  f_LawNeighbours : ∃ fd, FunD K "_law_neighbours" "_law_neighbours" (defArgs sLawNeighbours) (defBody sLawNeighbours) (defScope sLawNeighbours) [] [] (He.ga K "_law_neighbours") fd
  g_LawNeighbours : mg "_law_neighbours" = some (.ref (He.ga K "_law_neighbours"))
  f_Law : ∃ fd, FunD K "law" "law" (defArgs sLaw) (defBody sLaw) (defScope sLaw) [] [] (He.ga K "law") fd
  g_Law : mg "law" = some (.ref (He.ga K "law"))
  g_MarksError : mg "MarksError" = some (.ref (He.ga K "MarksError"))
  g_ZeroBottom : mg "ZeroBottom" = some (.ref (He.ga K "ZeroBottom"))
  f_ZeroBottom_Init : ∃ fd, FunD K "__init__" "ZeroBottom.__init__" (defArgs sZeroBottom_Init) (defBody sZeroBottom_Init) (defScope sZeroBottom_Init) [] [] (He.ma K (He.ga K "ZeroBottom") "__init__") fd
  g_NoFlow : mg "NoFlow" = some (.ref (He.ga K "NoFlow"))
  g_BadLimit : mg "BadLimit" = some (.ref (He.ga K "BadLimit"))
  f_BadLimit_Init : ∃ fd, FunD K "__init__" "BadLimit.__init__" (defArgs sBadLimit_Init) (defBody sBadLimit_Init) (defScope sBadLimit_Init) [] [] (He.ma K (He.ga K "BadLimit") "__init__") fd
  g_BadRatio : mg "BadRatio" = some (.ref (He.ga K "BadRatio"))
  f_BadRatio_Init : ∃ fd, FunD K "__init__" "BadRatio.__init__" (defArgs sBadRatio_Init) (defBody sBadRatio_Init) (defScope sBadRatio_Init) [] [] (He.ma K (He.ga K "BadRatio") "__init__") fd
  b_ValueError : mg "ValueError" = none
  b_abs : mg "abs" = none
  b_bool : mg "bool" = none
  b_int : mg "int" = none
  b_isinstance : mg "isinstance" = none
  b_len : mg "len" = none
  b_list : mg "list" = none
  b_range : mg "range" = none
  b_sum : mg "sum" = none
  b_tuple : mg "tuple" = none
  sb : DL.seerB K = true
  e_ZeroBottom : DL.ExF K (He.ga K "ZeroBottom")
  ei_ZeroBottom : PySem.W.findIn K (.ref (He.ga K "ZeroBottom")) "__init__" = some (some (.ref (He.ma K (He.ga K "ZeroBottom") "__init__")))
  et_ZeroBottom : PySem.W.typeIn K (.ref (He.ma K (He.ga K "ZeroBottom") "__init__")) = some (.type "function")
  en_ZeroBottom_Top : PySem.W.findIn K (.ref (He.ga K "ZeroBottom")) "top" = some none
  ec_ZeroBottom_MarksError : PySem.W.exmOne K (.ref (He.ga K "ZeroBottom")) (.ref (He.ga K "MarksError")) = some true
  ek_ZeroBottom_ZeroBottom : PySem.W.kitOne K (.ref (He.ga K "ZeroBottom")) (.ref (He.ga K "ZeroBottom")) = some true
  ek_ZeroBottom_BadLimit : PySem.W.kitOne K (.ref (He.ga K "ZeroBottom")) (.ref (He.ga K "BadLimit")) = some false
  ek_ZeroBottom_BadRatio : PySem.W.kitOne K (.ref (He.ga K "ZeroBottom")) (.ref (He.ga K "BadRatio")) = some false
  ek_ZeroBottom_NoFlow : PySem.W.kitOne K (.ref (He.ga K "ZeroBottom")) (.ref (He.ga K "NoFlow")) = some false
  hn : PySem.W.specialIn K (.builtin "object.__class__") "__get__" = some (some (.builtin "getset_descriptor.__get__"))
  ht : PySem.W.takesIn K (.builtin "object.__class__") = some true
  m_gcd : mg "gcd" = some (.builtin "math.gcd")
  m_lcm : mg "lcm" = some (.builtin "math.lcm")
end K00

set_option Elab.async false
set_option linter.all false
set_option maxRecDepth 100000
set_option maxHeartbeats 4000000
set_option exponentiation.threshold 5000
namespace R0
open PySem PySem.Spec PyProof.Rows L2 DL M LS
/-! ratios and rows as data -/
def ratS (k : Bool) (q : Rat) : DL.D := seqD k [.int q.num, .int ((q.den : Nat) : Int)]
def rowS (k : Bool) (qs : List Rat) : DL.D := seqD k [seqD k (dI (topsQ qs)), .int ((lineN qs : Nat) : Int)]
def rawS (ns : List Int) (l : Int) : DL.D := .lst [.lst (dI ns), .int l]
def SmR (B : Nat) (q : Rat) : Prop := Sm B q.num ∧ Sm B ((q.den : Nat) : Int)
def SmQ (B : Nat) (qs : List Rat) : Prop := (∀ n ∈ topsQ qs, Sm B n) ∧ Sm B ((lineN qs : Nat) : Int)
theorem den_pos' (q : Rat) : 0 < ((q.den : Nat) : Int) := by have := q.den_pos; omega
theorem line_pos' (qs : List Rat) : 0 < ((lineN qs : Nat) : Int) := by have := lineN_pos qs; omega
theorem num_flip {t b : Int} (h : b < 0) : ratioM (-t) (-b) = ((Rat.divInt t b).num, (((Rat.divInt t b).den : Nat) : Int)) := by
  rw [divInt_pos (by omega), div_neg]
section
variable {K : PySem.W.Frag}
def spRatio (K : PySem.W.Frag) : Sp := spT K (α := Int × Int) (fun a => [.int a.1, .int a.2]) (fun a => a.2 ≠ 0) (fun a => .sh (ratS true (Rat.divInt a.1 a.2)))
abbrev Two := (Bool × Rat) × (Bool × Rat)
def encTwo (a : Two) : List DL.D := [ratS a.1.1 a.1.2, ratS a.2.1 a.2.2]
def preTwo (a : Two) : Prop := SmR 100000 a.1.2 ∧ SmR 100000 a.2.2
def spPlus (K : PySem.W.Frag) : Sp := spT K (α := Two) encTwo preTwo (fun a => .sh (ratS true (a.1.2 + a.2.2)))
def spMinus (K : PySem.W.Frag) : Sp := spT K (α := Two) encTwo preTwo (fun a => .sh (ratS true (a.1.2 - a.2.2)))
def spTimes (K : PySem.W.Frag) : Sp := spT K (α := Two) encTwo preTwo (fun a => .sh (ratS true (a.1.2 * a.2.2)))
def spOver (K : PySem.W.Frag) : Sp := spT K (α := Two) encTwo (fun a => preTwo a ∧ a.2.2.num ≠ 0) (fun a => .sh (ratS true (a.1.2 / a.2.2)))
def spOrder (K : PySem.W.Frag) : Sp := spT K (α := Two) encTwo preTwo (fun a => .sh (.int (signQ a.1.2 a.2.2)))
def spRow (K : PySem.W.Frag) : Sp := spT K (α := Bool × List Int × Int) (fun a => [seqD a.1 (dI a.2.1), .int a.2.2]) (fun a => a.2.2 ≠ 0 ∧ a.2.1.length ≤ 10000) (fun a => .sh (rowS true (ratsOf a.2.1 a.2.2)))
def ratsD (rs : List (Bool × Rat)) : List DL.D := rs.map fun r => ratS r.1 r.2
def spRowOf (K : PySem.W.Frag) : Sp := spT K (α := Bool × List (Bool × Rat)) (fun a => [seqD a.1 (ratsD a.2)]) (fun a => a.2.length ≤ 10000 ∧ (∀ r ∈ a.2, SmR 100000 r.2) ∧ lineN (a.2.map Prod.snd) < 2 ^ 100000) (fun a => .sh (rowS true (a.2.map Prod.snd)))
def spRowItem (K : PySem.W.Frag) : Sp := spT K (α := Bool × List Rat × Nat) (fun a => [rowS a.1 a.2.1, .int a.2.2]) (fun a => a.2.2 < a.2.1.length) (fun a => .sh (ratS true (a.2.1.getD a.2.2 0)))
def spRowItems (K : PySem.W.Frag) : Sp := spT K (α := Bool × List Rat) (fun a => [rowS a.1 a.2]) (fun a => a.2.length ≤ 10000) (fun a => .sh (.tup (a.2.map (ratS true))))
abbrev TwoR := (Bool × List Rat) × (Bool × List Rat)
def encTwoR (a : TwoR) : List DL.D := [rowS a.1.1 a.1.2, rowS a.2.1 a.2.2]
def preTwoR (a : TwoR) : Prop := a.1.2.length = a.2.2.length ∧ a.1.2.length ≤ 10000 ∧ SmQ 100000 a.1.2 ∧ SmQ 100000 a.2.2
def spRowSum (K : PySem.W.Frag) : Sp := spT K (α := TwoR) encTwoR preTwoR (fun a => .sh (rowS true (addQ a.1.2 a.2.2)))
def spDot (K : PySem.W.Frag) : Sp := spT K (α := TwoR) encTwoR preTwoR (fun a => .sh (ratS true (dotQ a.1.2 a.2.2)))
def spRowScaled (K : PySem.W.Frag) : Sp := spT K (α := (Bool × List Rat) × (Bool × Rat)) (fun a => [rowS a.1.1 a.1.2, ratS a.2.1 a.2.2]) (fun a => a.1.2.length ≤ 10000 ∧ SmQ 100000 a.1.2 ∧ SmR 100000 a.2.2) (fun a => .sh (rowS true (byQ a.1.2 a.2.2)))
theorem topQ_len (qs : List Rat) : (topsQ qs).length = qs.length := List.length_map _
/-! comprehensions, by data -/
theorem el_mapG {η : DL.Env} {tl te : TE} {i : Nat} {vs : List Nat} {ds : List DL.D} {k : Bool} (F : DL.D → DL.D) (h : EvD K tl η (seqD k ds)) (hi : i ∈ vs) (hz : ds.length ≤ 10000)
    (he : ∀ d ∈ ds, EvD K te ((wipeE η vs).set i (some d)) (F d)) : EvL K (tLc (iSeq K tl) (gName i) tYes te vs) η (ds.map F) := by
  refine EvL.is (el_lcQ (ds := ds) (fun _ => true) (fun j => F (ds.getD j .non)) h (by omega) fun j d hd' => ⟨_, tg_name hi, et_yes, fun _ => EvD.is (he d (List.mem_of_getElem? hd')) ?_⟩) ?_
  · rw [getD_get hd']
  · rw [given_all]
    exact range_gen F ds _ fun j r hr => by rw [getD_get hr]
theorem el_mapGL {η : DL.Env} {tl te : TE} {i : Nat} {vs : List Nat} {ds : List DL.D} (F : DL.D → DL.D) (h : EvD K tl η (.lst ds)) (hi : i ∈ vs) (hz : ds.length ≤ 10000)
    (he : ∀ d ∈ ds, EvD K te ((wipeE η vs).set i (some d)) (F d)) : EvL K (tLc (iList K tl) (gName i) tYes te vs) η (ds.map F) := by
  refine EvL.is (el_lcL (ds := ds) (fun _ => true) (fun j => F (ds.getD j .non)) h (.inl rfl) (by omega) fun j d hd' => ⟨_, tg_name hi, et_yes, fun _ => EvD.is (he d (List.mem_of_getElem? hd')) ?_⟩) ?_
  · rw [getD_get hd']
  · rw [given_all]
    exact range_gen F ds _ fun j r hr => by rw [getD_get hr]
theorem el_mapGT {η : DL.Env} {tl te : TE} {i : Nat} {vs : List Nat} {ds : List DL.D} (F : DL.D → DL.D) (h : EvD K tl η (.tup ds)) (hi : i ∈ vs) (hz : ds.length ≤ 10000)
    (he : ∀ d ∈ ds, EvD K te ((wipeE η vs).set i (some d)) (F d)) : EvL K (tLc (iTup K tl) (gName i) tYes te vs) η (ds.map F) := by
  refine EvL.is (el_lcT (ds := ds) (fun _ => true) (fun j => F (ds.getD j .non)) h (by omega) fun j d hd' => ⟨_, tg_name hi, et_yes, fun _ => EvD.is (he d (List.mem_of_getElem? hd')) ?_⟩) ?_
  · rw [getD_get hd']
  · rw [given_all]
    exact range_gen F ds _ fun j r hr => by rw [getD_get hr]
theorem get_ratsD {rs : List (Bool × Rat)} {m : Nat} {d : DL.D} (h : (ratsD rs)[m]? = some d) : ∃ r, rs[m]? = some r ∧ d = ratS r.1 r.2 := by
  unfold ratsD at h
  rw [List.getElem?_map] at h
  cases e : rs[m]? with
  | none => rw [e] at h; cases h
  | some x => rw [e] at h; cases h; exact ⟨x, rfl, rfl⟩
theorem ratsD_len (rs : List (Bool × Rat)) : (ratsD rs).length = rs.length := List.length_map _
/-- how the row's first numbers make its line -/
def lineT (qs : List Rat) (m : Nat) : Nat := lineN (qs.take m)
theorem lineT_snoc {qs : List Rat} {m : Nat} {q : Rat} (h : qs[m]? = some q) : lineN (qs.take (m + 1)) = Nat.lcm (lineN (qs.take m)) q.den := by
  unfold lineN lcmL
  have e : qs.take (m + 1) = qs.take m ++ [q] := take_snoc h
  rw [e, List.map_append, List.foldl_append]
  show Nat.lcm _ (((q.den : Nat) : Int)).natAbs = _
  rw [Int.natAbs_natCast]
theorem lineT_dvd (qs : List Rat) (m : Nat) : lineN (qs.take m) ∣ lineN qs := lineN_least fun q hq => lineN_dvd (List.mem_of_mem_take hq)
theorem den_le {qs : List Rat} {q : Rat} (h : q ∈ qs) : q.den ≤ lineN qs := Nat.le_of_dvd (lineN_pos qs) (lineN_dvd h)
theorem smN {n k : Nat} (h : n < 2 ^ k) : Sm k ((n : Nat) : Int) := by unfold Sm; rw [Int.natAbs_natCast]; exact h
theorem tops_at {qs : List Rat} {i : Nat} (h : i < qs.length) : atI (dI (topsQ qs)) (i : Int) = some (.int ((topsQ qs).getD i 0)) := atI_nat (dI_get (get_getD 0 (by rw [topQ_len]; exact h)))
theorem tops_mem {qs : List Rat} {i : Nat} (h : i < qs.length) : (topsQ qs).getD i 0 ∈ topsQ qs := M.getD_mem (l := topsQ qs) 0 (by rw [topQ_len]; exact h)
theorem item_eq {qs : List Rat} {i : Nat} (h : i < qs.length) : Rat.divInt ((topsQ qs).getD i 0) ((lineN qs : Nat) : Int) = qs.getD i 0 := by
  rw [← rats_get (by rw [topQ_len]; exact h), rats_tops]
theorem items_eq (qs : List Rat) : (topsQ qs).map (fun n => Rat.divInt n ((lineN qs : Nat) : Int)) = qs := rats_tops qs
def topF (L : Int) (d : DL.D) : DL.D := match itemsOf d with
  | some [.int a, .int b] => .int (a * (L / b))
  | _ => .non
theorem topF_map (rs : List (Bool × Rat)) : (ratsD rs).map (topF ((lineN (rs.map Prod.snd) : Nat) : Int)) = dI (topsQ (rs.map Prod.snd)) := by
  unfold ratsD topsQ dI
  rw [List.map_map, List.map_map, List.map_map]
  refine List.map_congr_left fun r _ => ?_
  show topF _ (seqD r.1 [.int r.2.num, .int ((r.2.den : Nat) : Int)]) = _
  unfold topF
  rw [seqD_items]
  rfl
theorem topF_at (L : Int) (k : Bool) (q : Rat) : topF L (ratS k q) = .int (q.num * (L / ((q.den : Nat) : Int))) := by
  unfold topF ratS
  rw [seqD_items]
def itF (L : Int) (d : DL.D) : DL.D := match d with
  | .int n => ratS true (Rat.divInt n L)
  | _ => .non
theorem itF_map (qs : List Rat) : (dI (topsQ qs)).map (itF ((lineN qs : Nat) : Int)) = qs.map (ratS true) := by
  conv => rhs; rw [← items_eq qs]
  unfold dI
  rw [List.map_map, List.map_map]
  rfl
/-! the law's own -/
def spLawRatio (K : PySem.W.Frag) : Sp := spT K (α := Int × Int) (fun a => [.int a.1, .int a.2]) (fun a => a.2 ≠ 0 ∧ Sm 49000 a.1 ∧ Sm 49000 a.2) (fun a => .sh (ratS true (Rat.divInt a.1 a.2)))
def spLawIsRatio (K : PySem.W.Frag) : Sp := spT K (α := Rat) (fun a => [ratS true a]) (SmR 49000) (fun _ => .sh (.bl true))
def spLawJust (K : PySem.W.Frag) : Sp := spT K (α := Int × Int) (fun a => [ratS true (Rat.divInt a.1 a.2), .int a.1, .int a.2]) (fun a => a.2 ≠ 0 ∧ Sm 49000 a.1 ∧ Sm 49000 a.2) (fun _ => .sh (.bl true))
def spLawTold (K : PySem.W.Frag) : Sp := spT K (α := Int × Int) (fun a => [.tup [.int a.1, .int a.2], .tup [.int a.1, .int a.2]]) (fun _ => True) (fun _ => .sh (.bl true))
def spLawSame (K : PySem.W.Frag) : Sp := spT K (α := List Int × Int) (fun a => [rowS true (ratsOf a.1 a.2), rawS a.1 a.2]) (fun a => a.2 ≠ 0 ∧ a.1.length ≤ 10000 ∧ (∀ n ∈ a.1, Sm 49000 n) ∧ Sm 49000 a.2) (fun _ => .sh (.bl true))
abbrev Raw2 := (List Int × Int) × (List Int × Int)
def encRaw2 (a : Raw2) : List DL.D := [rawS a.1.1 a.1.2, rawS a.2.1 a.2.2]
def SmN (B : Nat) (a : List Int × Int) : Prop := (∀ n ∈ a.1, Sm B n) ∧ Sm B a.2
def preRaw2 (a : Raw2) : Prop := a.1.1.length = a.2.1.length ∧ a.1.1.length ≤ 10000 ∧ SmN 100000 a.1 ∧ SmN 100000 a.2
def spLawAdded (K : PySem.W.Frag) : Sp := spT K (α := Raw2) encRaw2 preRaw2 (fun a => .sh (rawS (addR a.1.1 a.1.2 a.2.1 a.2.2) (a.1.2 * a.2.2)))
def spLawBy (K : PySem.W.Frag) : Sp := spT K (α := (List Int × Int) × Bool × Int × Int) (fun a => [rawS a.1.1 a.1.2, seqD a.2.1 [.int a.2.2.1, .int a.2.2.2]]) (fun a => a.1.1.length ≤ 10000 ∧ SmN 100000 a.1 ∧ Sm 100000 a.2.2.1 ∧ Sm 100000 a.2.2.2) (fun a => .sh (rawS (byR a.1.1 a.2.2.1) (a.1.2 * a.2.2.2)))
def spLawDotted (K : PySem.W.Frag) : Sp := spT K (α := Raw2) encRaw2 preRaw2 (fun a => .sh (.lst [.int (dotR a.1.1 a.2.1), .int (a.1.2 * a.2.2)]))
def spLawForm (K : PySem.W.Frag) : Sp := spT K (α := List Rat) (fun a => [rowS true a, .bl true]) (fun _ => True) (fun a => .sh (rowS false a))
end
end R0

set_option Elab.async false
set_option linter.all false
set_option maxRecDepth 100000
set_option maxHeartbeats 4000000
set_option exponentiation.threshold 5000
namespace K00
open PySem PySem.Spec PyProof.Rows L2 DL M LS
local macro_rules | `(tactic| by_item) => `(tactic| with_reducible first
  | exact DL.ed_var (by with_unfolding_all rfl) | exact DL.ed_int | exact DL.ed_bl | exact DL.ed_non | exact DL.ed_str | exact DL.ea_nil | exact DL.et_yes
  | apply DL.ea_cons | apply DL.ed_op | apply DL.ed_un | apply DL.ed_lst | apply DL.ed_fld | (show L2.Cls _ _; with_reducible assumption) | (show L2.NoAttr _ _ _; with_reducible assumption) | (show List.lookup _ _ = _; with_unfolding_all rfl) | (show List.length _ ≤ PySem.sizeLine; exact Nat.le_of_ble_eq_true (by with_unfolding_all rfl)) | apply DL.ed_isi | apply DL.ed_cb
  | exact DL.od_I0 | exact DL.od_B0 | exact DL.od_eqI | exact DL.od_neI | exact DL.od_eqS | exact DL.od_isN | exact DL.od_notN | (apply DL.od_divX) | (apply DL.od_divN) | apply DL.od_I | apply DL.od_ix | exact DL.ud_I
  | apply DL.cd_len | exact DL.cd_int | exact DL.cd_intB | exact DL.cd_1 | exact DL.cd_gcd | apply DL.cd_lcmX | exact DL.cd_min3 | exact DL.cd_2
  | apply DL.et_test | apply DL.et_B | apply DL.et_not | apply DL.ed_notV
  | (show DL.tyB _ = _; with_unfolding_all rfl) | (show DL.itemsOf _ = _; with_unfolding_all rfl) | exact DL.seqD_items | (show L2.atI _ _ = _; with_reducible assumption) | (show L2.atI _ _ = _; exact L2.atI_nat (by with_reducible assumption)) | exact DL.atI_zero | exact DL.atI_one | (show L2.atI _ _ = _; with_unfolding_all rfl) | (show L2.kitB _ _ = _; first | exact DL.kb_NoneType_int | exact DL.kb_NoneType_bool | exact DL.kb_NoneType_tuple | exact DL.kb_NoneType_list | exact DL.kb_NoneType_str | exact DL.kb_NoneType_dict | exact DL.kb_bool_int | exact DL.kb_bool_bool | exact DL.kb_bool_tuple | exact DL.kb_bool_list | exact DL.kb_bool_str | exact DL.kb_bool_dict | exact DL.kb_int_int | exact DL.kb_int_bool | exact DL.kb_int_tuple | exact DL.kb_int_list | exact DL.kb_int_str | exact DL.kb_int_dict | exact DL.kb_str_int | exact DL.kb_str_bool | exact DL.kb_str_tuple | exact DL.kb_str_list | exact DL.kb_str_str | exact DL.kb_str_dict | exact DL.kb_list_int | exact DL.kb_list_bool | exact DL.kb_list_tuple | exact DL.kb_list_list | exact DL.kb_list_str | exact DL.kb_list_dict | exact DL.kb_tuple_int | exact DL.kb_tuple_bool | exact DL.kb_tuple_tuple | exact DL.kb_tuple_list | exact DL.kb_tuple_str | exact DL.kb_tuple_dict | exact DL.kb_dict_int | exact DL.kb_dict_bool | exact DL.kb_dict_tuple | exact DL.kb_dict_list | exact DL.kb_dict_str | exact DL.kb_dict_dict))
local macro_rules | `(tactic| by_place) => `(tactic| (repeat' by_item))
local macro_rules | `(tactic| by_in) => `(tactic| first | (with_reducible assumption) | (with_reducible exact DL.seqD_items) | (show (0 : Int) < _; omega) | (show (0 : Int) < _; decide +kernel) | exact M.mulS (by omega) (by omega) | exact M.mulP (by omega) (by omega) (by omega) | exact M.divS (by omega) (by omega) | exact ⟨by decide, by decide, by decide⟩ | exact ⟨by decide, by decide, by omega⟩ | exact L2.atI_nat (by assumption) | (show L2.atI _ _ = _; rfl))
section
variable {P : Program} {w : World} {K : PySem.W.Frag} {mg : Str → Option Value} {base : Heap}
theorem scLawWhole : FnScope ["value"] ["value"] (defScope sLawWhole) := ⟨rfl, rfl, rfl, by decide +kernel, rfl, by decide +kernel, by decide +kernel⟩
theorem okLawWhole (T : Txt K mg)  : Cal P w K mg base 1 "_law_whole" ["value"] (spLawWhole K) := by
  refine cal_mk T.f_LawWhole T.g_LawWhole scLawWhole (fun vs H Q E h => spT_len (n := 1) (fun _ => rfl) h) (fun _ _ _ _ _ _ us hl => match us, hl with | [_], _ => rfl) (fun cdv A outer s H vs Q E hr h => ?_)
  refine ⟨_, (pss_one (ps_ret (pe_and (pe_callB (DL.call_isiC (K := K) rfl) (by rfl) T.b_isinstance (by decide +kernel) (pa_cons (pv 0) (pa_cons (pe_bltn (v := .ty "int") (by rfl) T.b_int (by decide +kernel) rfl) pa_nil))) (pe_one (pe_not (pe_callB (DL.call_isiC (K := K) rfl) (by rfl) T.b_isinstance (by decide +kernel) (pa_cons (pv 0) (pa_cons (pe_bltn (v := .ty "bool") (by rfl) T.b_bool (by decide +kernel) rfl) pa_nil)))))))), ?_⟩
  refine sd_fn h (fun _ => Nat.le_of_ble_eq_true rfl) ?_
  try dsimp only [L2.cxOf]
  intro i _
  show SD K _ [.sh (.int i)] _
  refine sd_retF (d := .bl true) (EvD.is (ed_andV (x := true) (y := true) ?_ fun _ => ?_) rfl) rfl rfl
  · by_place
  · refine EvD.is (ed_notV (x := false) ?_) rfl
    by_place
theorem scLawCell : FnScope ["script", "k", "seed", "cell"] ["script", "k"] (defScope sLawCell) := ⟨rfl, rfl, rfl, by decide +kernel, rfl, by decide +kernel, by decide +kernel⟩
theorem okLawCell (T : Txt K mg)  : Cal P w K mg base 1 "_law_cell" ["script", "k"] (spLawCell K) := by
  refine cal_mk T.f_LawCell T.g_LawCell scLawCell (fun vs H Q E h => spT_len (n := 2) (fun _ => rfl) h) (fun _ _ _ _ _ _ us hl => match us, hl with | [_, _], _ => rfl) (fun cdv A outer s H vs Q E hr h => ?_)
  refine ⟨_, (pss_cons (ps_if (pt_cmpR op_lt (pv 1) (pe_callB (DL.call_len_seqC (K := K) rfl) (by rfl) T.b_len (by decide +kernel) (pa_cons (pv 0) pa_nil)) (nomark _))
      (pss_one (ps_ret (pe_ix (DL.ix_seqC (K := K) rfl) (pv 0) (pv 1) (fun _ _ => rfl))))
      pss_nil)
      (pss_cons (ps_set (i := 2) scLawCell.nd rfl (by first | exact Or.inl rfl | exact Or.inr rfl) pe_int)
      (pss_cons (ps_for PassesOwn.never rfl (DL.pi_listC (K := K) rfl (pv 0)) (pg_name (i := 3) scLawCell.nd rfl (by first | exact Or.inl rfl | exact Or.inr rfl))
      (pss_one (ps_set (i := 2) scLawCell.nd rfl (by first | exact Or.inl rfl | exact Or.inr rfl) (pe_op op_mod (pe_callTy call_int1 (by rfl) T.b_int (by decide +kernel) (pa_cons (pe_op op_add (pe_op op_mulW (pv 2) pe_int) (pe_op op_mod (pe_callTy call_int1 (by rfl) T.b_int (by decide +kernel) (pa_cons (pv 3) pa_nil)) pe_int)) pa_nil)) pe_int))))
      (pss_one (ps_ret (pe_op op_mod (pe_callTy call_int1 (by rfl) T.b_int (by decide +kernel) (pa_cons (pe_op op_mulW (pe_op op_mulW (pe_op op_add (pv 2) pe_int) (pe_op op_add (pv 1) pe_int)) pe_int) pa_nil)) pe_int)))))), ?_⟩
  refine sd_fn h (fun _ => Nat.le_of_ble_eq_true rfl) ?_
  try dsimp only [L2.cxOf]
  intro ⟨ns, k⟩ hk
  have hk : k < 1000 := hk
  show SD K _ [.sh (.rd (dI ns)), .sh (.int k), .no, .no] _
  refine sd_then (sd_if (x := decide (k < ns.length)) (EvT.is (by by_place) ?_) (fun h => ?_) (fun h => sd_next ?_))
  · simp
  · have h1 : k < ns.length := of_decide_eq_true h
    have h2 : ns[k]? = some (cellM ns k) := by
      unfold cellM
      rw [if_pos h1, List.getD_eq_getElem?_getD, List.getElem?_eq_getElem h1]
      rfl
    exact sd_ret (d := .int (cellM ns k)) (ed_op (by by_place) (by by_place) (od_ix (ds := dI ns) rfl (atI_nat (dI_get h2)))) rfl
  · have h1 : ¬ k < ns.length := of_decide_eq_false h
    show SD K _ [.sh (.rd (dI ns)), .sh (.int k), .no, .no] _
    refine sd_then (sd_asg (d := .int 17) (by by_place) ?_)
    show SD K _ [.sh (.rd (dI ns)), .sh (.int k), .sh (.int 17), .no] _
    refine sd_then (sd_forLn [3] (a := .rd (dI ns)) (ds := dI ns) (by by_place) (.inr rfl) (fun m ρ => ρ = [.sh (.rd (dI ns)), .sh (.int k), .sh (.int (seedM (ns.take m))), .no]) rfl (fun m d ρ hd hI => ?_) (fun ρ hI => ?_))
    · subst hI
      obtain ⟨x, hx, rfl⟩ := get_dI hd
      refine ⟨rfl, ?_⟩
      show SD K _ [.sh (.rd (dI ns)), .sh (.int k), .sh (.int (seedM (ns.take m))), .sh (.int x)] _
      have hb := seedM_lt (ns.take m)
      refine sd_asg (d := .int (seedM (ns.take (m + 1)))) (EvD.is (by by_place <;> by_in) ?_) rfl
      unfold seedM
      rw [foldl_take_succ _ _ _ _ x hx]
    · subst hI
      rw [List.length_map, List.take_length]
      have hb := seedM_lt ns
      refine sd_ret (d := .int (cellM ns k)) (EvD.is (by by_place <;> by_in) ?_) rfl
      unfold cellM
      rw [if_neg h1]
theorem scLawDigits : FnScope ["cell", "sizes", "found", "rest", "size", "seed", "k"] ["cell", "sizes"] (defScope sLawDigits) := ⟨rfl, rfl, rfl, by decide +kernel, rfl, by decide +kernel, by decide +kernel⟩
theorem okLawDigits (T : Txt K mg)  : Cal P w K mg base 1 "_law_digits" ["cell", "sizes"] (spLawDigits K) := by
  refine cal_mk T.f_LawDigits T.g_LawDigits scLawDigits (fun vs H Q E h => spT_len (n := 2) (fun _ => rfl) h) (fun _ _ _ _ _ _ us hl => match us, hl with | [_, _], _ => rfl) (fun cdv A outer s H vs Q E hr h => ?_)
  refine ⟨_, (pss_cons (ps_set (i := 2) scLawDigits.nd rfl (by first | exact Or.inl rfl | exact Or.inr rfl) (pe_lst pa_nil))
      (pss_cons (ps_set (i := 3) scLawDigits.nd rfl (by first | exact Or.inl rfl | exact Or.inr rfl) (pe_callTy call_int1 (by rfl) T.b_int (by decide +kernel) (pa_cons (pv 0) pa_nil)))
      (pss_cons (ps_if (pt_cmpR op_ge (pv 3) (pe_op op_pow pe_int pe_int) (nomark _))
      (pss_cons (ps_set (i := 3) scLawDigits.nd rfl (by first | exact Or.inl rfl | exact Or.inr rfl) (pe_op op_sub (pv 3) (pe_op op_pow pe_int pe_int)))
      (pss_cons (ps_for PassesOwn.never rfl (DL.pi_listC (K := K) rfl (pv 1)) (pg_name (i := 4) scLawDigits.nd rfl (by first | exact Or.inl rfl | exact Or.inr rfl))
      (pss_cons (ps_expr (pe_bm PySem.F.plainAttrs_list PySem.F.slot_list_append PySem.F.type_list_append mt_append (pv 2) (pa_cons (pe_op op_mod (pe_callTy call_int1 (by rfl) T.b_int (by decide +kernel) (pa_cons (pv 3) pa_nil)) (pv 4)) pa_nil)))
      (pss_one (ps_set (i := 3) scLawDigits.nd rfl (by first | exact Or.inl rfl | exact Or.inr rfl) (pe_op op_fdivW (pe_callTy call_int1 (by rfl) T.b_int (by decide +kernel) (pa_cons (pv 3) pa_nil)) (pv 4))))))
      (pss_one (ps_ret (pv 2)))))
      pss_nil)
      (pss_cons (ps_set (i := 5) scLawDigits.nd rfl (by first | exact Or.inl rfl | exact Or.inr rfl) (pe_op op_mod (pe_callTy call_int1 (by rfl) T.b_int (by decide +kernel) (pa_cons (pv 3) pa_nil)) pe_int))
      (pss_cons (ps_for PassesOwn.never rfl (pi_range1 (by rfl) T.b_range (pa_cons (pe_callB (DL.call_len_seqC (K := K) rfl) (by rfl) T.b_len (by decide +kernel) (pa_cons (pv 1) pa_nil)) pa_nil)) (pg_name (i := 6) scLawDigits.nd rfl (by first | exact Or.inl rfl | exact Or.inr rfl))
      (pss_cons (ps_set (i := 5) scLawDigits.nd rfl (by first | exact Or.inl rfl | exact Or.inr rfl) (pe_op op_mod (pe_callTy call_int1 (by rfl) T.b_int (by decide +kernel) (pa_cons (pe_op op_add (pe_op op_add (pe_op op_mulW (pv 5) pe_int) (pe_op op_mulW pe_int (pv 6))) pe_int) pa_nil)) pe_int))
      (pss_one (ps_expr (pe_bm PySem.F.plainAttrs_list PySem.F.slot_list_append PySem.F.type_list_append mt_append (pv 2) (pa_cons (pe_op op_mod (pe_op op_fdivW (pe_op op_mod (pe_callTy call_int1 (by rfl) T.b_int (by decide +kernel) (pa_cons (pe_op op_mulW (pv 5) (pe_op op_add (pe_op op_fdivW (pv 5) pe_int) pe_int)) pa_nil)) pe_int) pe_int) (pe_ix (DL.ix_seqC (K := K) rfl) (pv 1) (pv 6) (fun _ _ => rfl))) pa_nil))))))
      (pss_one (ps_ret (pv 2)))))))), ?_⟩
  refine sd_fn h (fun _ => Nat.le_of_ble_eq_true rfl) ?_
  try dsimp only [L2.cxOf]
  intro ⟨cell, sizes⟩ hp
  obtain ⟨hs, hl⟩ : (∀ s ∈ sizes, 0 < s ∧ s < 2 ^ 60) ∧ sizes.length ≤ 1000 := hp
  show SD K _ [.sh (.int cell), .sh (.lst (dI sizes)), .no, .no, .no, .no, .no] _
  refine sd_then (sd_asgL (ds := []) (el_lst ea_nil (by decide)) ?_)
  refine sd_then (sd_asg (d := .int cell) (by by_place) ?_)
  show SD K _ [.sh (.int cell), .sh (.lst (dI sizes)), .ow [], .sh (.int cell), .no, .no, .no] _
  have szl : sizes.length < sizeLine := by rw [PySem.sizeLine_eq]; omega
  refine sd_then (sd_if (x := decide (cell ≥ 10 ^ 18)) (EvT.is (by by_place <;> by_in) ?_) (fun h => ?_) (fun h => sd_next ?_))
  · rw [pow18]; rfl
  · have h1 : cell ≥ 10 ^ 18 := of_decide_eq_true h
    refine sd_then (sd_asg (d := .int (cell - 10 ^ 18)) (EvD.is (by by_place <;> by_in) (by rw [pow18]; rfl)) ?_)
    show SD K _ [.sh (.int cell), .sh (.lst (dI sizes)), .ow [], .sh (.int (cell - 10 ^ 18)), .no, .no, .no] _
    refine sd_then (sd_forLn [4] (a := .lst (dI sizes)) (ds := dI sizes) (by by_place) (.inl rfl) (fun m ρ => ρ = [.sh (.int cell), .sh (.lst (dI sizes)), .ow (dI (bigD (cell - 10 ^ 18) (sizes.take m))), .sh (.int (bigR (cell - 10 ^ 18) (sizes.take m))), .no, .no, .no]) rfl (fun m d ρ hd hI => ?_) (fun ρ hI => ?_))
    · subst hI
      obtain ⟨x, hx, rfl⟩ := get_dI hd
      have hx2 := hs x (List.mem_of_getElem? hx)
      have hm : m < sizes.length := (List.getElem?_eq_some_iff.mp hx).1
      refine ⟨rfl, ?_⟩
      show SD K _ [.sh (.int cell), .sh (.lst (dI sizes)), .ow (dI (bigD (cell - 10 ^ 18) (sizes.take m))), .sh (.int (bigR (cell - 10 ^ 18) (sizes.take m))), .sh (.int x), .no, .no] _
      refine sd_then (sd_app (i := 2) (d := .int (bigR (cell - 10 ^ 18) (sizes.take m) % x)) rfl (by by_place <;> by_in) (by rw [List.length_map, bigD_len, List.length_take]; omega) ?_)
      show SD K _ [.sh (.int cell), .sh (.lst (dI sizes)), .ow (dI (bigD (cell - 10 ^ 18) (sizes.take m)) ++ [.int (bigR (cell - 10 ^ 18) (sizes.take m) % x)]), .sh (.int (bigR (cell - 10 ^ 18) (sizes.take m))), .sh (.int x), .no, .no] _
      refine sd_asg (d := .int (bigR (cell - 10 ^ 18) (sizes.take m) / x)) (by by_place <;> by_in) ?_
      rw [take_snoc hx, bigD_snoc, bigR_snoc, dI_append]
      rfl
    · subst hI
      rw [List.length_map, List.take_length]
      refine sd_retO (i := 2) rfl ?_
      show Ret.ow _ = Ret.ow _
      rw [show digitsM (cell, sizes).1 (cell, sizes).2 = bigD (cell - 10 ^ 18) sizes from if_pos h1]
  · have h1 : ¬ cell ≥ 10 ^ 18 := of_decide_eq_false h
    refine sd_then (sd_asg (d := .int (cell % 2147483629)) (by by_place <;> by_in) ?_)
    show SD K _ [.sh (.int cell), .sh (.lst (dI sizes)), .ow [], .sh (.int cell), .no, .sh (.int (cell % 2147483629)), .no] _
    have h0 : 0 ≤ cell % 2147483629 ∧ cell % 2147483629 < 2147483647 := by omega
    refine sd_then (sd_forRn [6] (z := (sizes.length : Int)) (EvA.is (by by_place) (by rw [List.length_map])) (by omega) (fun m ρ => ρ = [.sh (.int cell), .sh (.lst (dI sizes)), .ow (dI (smallD (cell % 2147483629) 0 (sizes.take m))), .sh (.int cell), .no, .sh (.int (seedR (cell % 2147483629) 0 (sizes.take m))), .no]) rfl (fun m ρ hm hI => ?_) (fun ρ hI => ?_))
    · subst hI
      refine ⟨rfl, ?_⟩
      have hm : m < sizes.length := by omega
      have hx : sizes[m]? = some sizes[m] := List.getElem?_eq_getElem hm
      have hx2 := hs _ (List.mem_of_getElem? hx)
      have hb := seedR_lt (sizes.take m) _ 0 h0
      have hn := nextS_lt (seedR (cell % 2147483629) 0 (sizes.take m)) m
      show SD K _ [.sh (.int cell), .sh (.lst (dI sizes)), .ow (dI (smallD (cell % 2147483629) 0 (sizes.take m))), .sh (.int cell), .no, .sh (.int (seedR (cell % 2147483629) 0 (sizes.take m))), .sh (.int m)] _
      refine sd_then (sd_asg (d := .int (nextS (seedR (cell % 2147483629) 0 (sizes.take m)) m)) (EvD.is (by by_place <;> by_in) (by rfl)) ?_)
      show SD K _ [.sh (.int cell), .sh (.lst (dI sizes)), .ow (dI (smallD (cell % 2147483629) 0 (sizes.take m))), .sh (.int cell), .no, .sh (.int (nextS (seedR (cell % 2147483629) 0 (sizes.take m)) m)), .sh (.int m)] _
      have hg := dI_get hx
      refine sd_app (i := 2) (d := .int (pick (nextS (seedR (cell % 2147483629) 0 (sizes.take m)) m) sizes[m])) rfl (EvD.is (by by_place <;> by_in) (by rfl)) (by rw [List.length_map, smallD_len, List.length_take]; omega) ?_
      have ht : (sizes.take m).length = m := by rw [List.length_take]; omega
      rw [take_snoc hx, smallD_snoc, seedR_snoc, ht, Nat.zero_add, dI_append]
      rfl
    · subst hI
      rw [Int.toNat_natCast, List.take_length]
      refine sd_retO (i := 2) rfl ?_
      show Ret.ow _ = Ret.ow _
      rw [show digitsM (cell, sizes).1 (cell, sizes).2 = smallD (cell % 2147483629) 0 sizes from if_neg h1]
theorem scLawGcd : FnScope ["one", "two", "left", "right", "turn", "held"] ["one", "two"] (defScope sLawGcd) := ⟨rfl, rfl, rfl, by decide +kernel, rfl, by decide +kernel, by decide +kernel⟩
theorem okLawGcd (T : Txt K mg)  : Cal P w K mg base 1 "_law_gcd" ["one", "two"] (spLawGcd K) := by
  refine cal_mk T.f_LawGcd T.g_LawGcd scLawGcd (fun vs H Q E h => spT_len (n := 2) (fun _ => rfl) h) (fun _ _ _ _ _ _ us hl => match us, hl with | [_, _], _ => rfl) (fun cdv A outer s H vs Q E hr h => ?_)
  refine ⟨_, (pss_cons (ps_set (i := 2) scLawGcd.nd rfl (by first | exact Or.inl rfl | exact Or.inr rfl) (pe_callB call_abs (by rfl) T.b_abs (by decide +kernel) (pa_cons (pv 0) pa_nil)))
      (pss_cons (ps_set (i := 3) scLawGcd.nd rfl (by first | exact Or.inl rfl | exact Or.inr rfl) (pe_callB call_abs (by rfl) T.b_abs (by decide +kernel) (pa_cons (pv 1) pa_nil)))
      (pss_cons (ps_for PassesOwn.never rfl (pi_range1 (by rfl) T.b_range (pa_cons pe_int pa_nil)) (pg_name (i := 4) scLawGcd.nd rfl (by first | exact Or.inl rfl | exact Or.inr rfl))
      (pss_cons (ps_if (pt_cmpR op_eq (pv 3) pe_int (nomark _))
      (pss_one ps_break)
      pss_nil)
      (pss_cons (ps_set (i := 5) scLawGcd.nd rfl (by first | exact Or.inl rfl | exact Or.inr rfl) (pe_op op_mod (pe_callTy call_int1 (by rfl) T.b_int (by decide +kernel) (pa_cons (pv 2) pa_nil)) (pv 3)))
      (pss_cons (ps_set (i := 2) scLawGcd.nd rfl (by first | exact Or.inl rfl | exact Or.inr rfl) (pv 3))
      (pss_one (ps_set (i := 3) scLawGcd.nd rfl (by first | exact Or.inl rfl | exact Or.inr rfl) (pv 5)))))))
      (pss_one (ps_ret (pv 2)))))), ?_⟩
  refine sd_fn h (fun _ => Nat.le_of_ble_eq_true rfl) ?_
  try dsimp only [L2.cxOf]
  intro ⟨one, two⟩ hp
  obtain ⟨h1, h2⟩ : Sm 49000 one ∧ Sm 49000 two := hp
  show SD K _ [.sh (.int one), .sh (.int two), .no, .no, .no, .no] _
  refine sd_then (sd_asg (d := .int ((one.natAbs : Nat) : Int)) (EvD.is (by by_place) (by rw [abs_eq])) ?_)
  refine sd_then (sd_asg (d := .int ((two.natAbs : Nat) : Int)) (EvD.is (by by_place) (by rw [abs_eq])) ?_)
  show SD K _ [.sh (.int one), .sh (.int two), .sh (.int ((one.natAbs : Nat) : Int)), .sh (.int ((two.natAbs : Nat) : Int)), .no, .no] _
  refine sd_cut (fun ρ => ρ = [.sh (.int one), .sh (.int two), .sh (.int ((Nat.gcd one.natAbs two.natAbs : Nat) : Int)), .sh (.int 0), .no, .no]) (sd_forRn [4, 5] (z := 100000) (by by_place) (by decide)
    (fun m ρ => ∃ l r : Nat, ρ = [.sh (.int one), .sh (.int two), .sh (.int (l : Int)), .sh (.int (r : Int)), .no, .no] ∧ Gw one.natAbs two.natAbs m l r) ⟨_, _, rfl, Gw.start _ _⟩ (fun m ρ hm hI => ?_) (fun ρ hI => ?_)) (fun ρ hM => ?_)
  · obtain ⟨l, r, rfl, G⟩ := hI
    refine ⟨rfl, ?_⟩
    show SD K _ [.sh (.int one), .sh (.int two), .sh (.int (l : Int)), .sh (.int (r : Int)), .sh (.int (m : Int)), .no] _
    refine sd_then (sd_if (x := decide ((r : Int) = 0)) (by by_place) (fun h => sd_break ?_) (fun h => sd_next ?_))
    · have h0 : r = 0 := by have := of_decide_eq_true h; omega
      subst h0
      show [_, _, _, _, _, _] = _
      rw [G.end_ rfl]
      rfl
    · have h0 : ¬ (r : Int) = 0 := of_decide_eq_false h
      refine sd_then (sd_asg (d := .int (((l % r : Nat)) : Int)) (EvD.is (by by_place <;> by_in) (by rw [Int.natCast_emod])) ?_)
      show SD K _ [.sh (.int one), .sh (.int two), .sh (.int (l : Int)), .sh (.int (r : Int)), .sh (.int (m : Int)), .sh (.int (((l % r : Nat)) : Int))] _
      refine sd_then (sd_asg (d := .int (r : Int)) (by by_place) ?_)
      refine sd_asg (d := .int (((l % r : Nat)) : Int)) (by by_place) ?_
      exact ⟨r, l % r, rfl, G.turn (by omega)⟩
  · obtain ⟨l, r, rfl, G⟩ := hI
    have h0 : r = 0 := G.done (show 100000 ≤ 100000 from Nat.le_refl _) h1 h2
    subst h0
    show [_, _, _, _, _, _] = _
    rw [G.end_ rfl]
    rfl
  · subst hM
    exact sd_ret (by by_place) rfl
theorem scLawCommon : FnScope ["numbers", "common", "number"] ["numbers"] (defScope sLawCommon) := ⟨rfl, rfl, rfl, by decide +kernel, rfl, by decide +kernel, by decide +kernel⟩
theorem okLawCommon (T : Txt K mg) (c_LawGcd : Cal P w K mg base 1 "_law_gcd" ["one", "two"] (spLawGcd K)) : Cal P w K mg base 2 "_law_common" ["numbers"] (spLawCommon K) := by
  refine cal_mk T.f_LawCommon T.g_LawCommon scLawCommon (fun vs H Q E h => spT_len (n := 1) (fun _ => rfl) h) (fun _ _ _ _ _ _ us hl => match us, hl with | [_], _ => rfl) (fun cdv A outer s H vs Q E hr h => ?_)
  refine ⟨_, (pss_cons (ps_set (i := 1) scLawCommon.nd rfl (by first | exact Or.inl rfl | exact Or.inr rfl) pe_int)
      (pss_cons (ps_for PassesOwn.never rfl (DL.pi_seqC (K := K) rfl (pv 0)) (pg_name (i := 2) scLawCommon.nd rfl (by first | exact Or.inl rfl | exact Or.inr rfl))
      (pss_one (ps_set (i := 1) scLawCommon.nd rfl (by first | exact Or.inl rfl | exact Or.inr rfl) (DL.pe_cal c_LawGcd (hr.mono (by decide)) (pa_cons (pv 1) (pa_cons (pv 2) pa_nil))))))
      (pss_one (ps_ret (pv 1))))), ?_⟩
  refine sd_fn h (fun _ => Nat.le_of_ble_eq_true rfl) ?_
  try dsimp only [L2.cxOf]
  intro ⟨k, ns⟩ hp
  have hp : ∀ n ∈ ns, Sm 49000 n := hp
  show SD K _ [.sh (seqD k (dI ns)), .no, .no] _
  refine sd_then (sd_asg (d := .int 0) (by by_place) ?_)
  show SD K _ [.sh (seqD k (dI ns)), .sh (.int 0), .no] _
  refine sd_then (sd_forQn [2] (ds := dI ns) (by by_place) (fun m ρ => ρ = [.sh (seqD k (dI ns)), .sh (.int ((gcdL (ns.take m) : Nat) : Int)), .no]) rfl (fun m d ρ hd hI => ?_) (fun ρ hI => ?_))
  · subst hI
    obtain ⟨x, hx, rfl⟩ := get_dI hd
    show SD K _ [.sh (seqD k (dI ns)), .sh (.int ((gcdL (ns.take m) : Nat) : Int)), .sh (.int x)] _
    have hg : gcdL (ns.take m) < 2 ^ 49000 := gcdL_lt (by decide) fun n hn => hp n (List.mem_of_mem_take hn)
    refine sd_asg (d := .int ((gcdL (ns.take (m + 1)) : Nat) : Int)) (ed_call (((gcdL (ns.take m) : Nat) : Int), x) (by by_place) ⟨?_, hp x (List.mem_of_getElem? hx)⟩ ?_) rfl
    · show (((gcdL (ns.take m) : Nat) : Int)).natAbs < 2 ^ 49000
      rw [Int.natAbs_natCast]
      exact hg
    · show Ret.sh (.int ((Nat.gcd (((gcdL (ns.take m) : Nat) : Int)).natAbs x.natAbs : Nat) : Int)) = _
      rw [Int.natAbs_natCast]
      unfold gcdL
      rw [foldl_take_succ _ _ _ _ x hx]
  · subst hI
    rw [List.length_map, List.take_length]
    exact sd_ret (by by_place) rfl
theorem scLawIsRow : FnScope ["value", "size", "top"] ["value", "size"] (defScope sLawIsRow) := ⟨rfl, rfl, rfl, by decide +kernel, rfl, by decide +kernel, by decide +kernel⟩
theorem okLawIsRow (T : Txt K mg) (c_LawWhole : Cal P w K mg base 1 "_law_whole" ["value"] (spLawWhole K)) (c_LawGcd : Cal P w K mg base 1 "_law_gcd" ["one", "two"] (spLawGcd K)) (c_LawCommon : Cal P w K mg base 2 "_law_common" ["numbers"] (spLawCommon K)) : Cal P w K mg base 3 "_law_is_row" ["value", "size"] (spLawIsRow K) := by
  refine cal_mk T.f_LawIsRow T.g_LawIsRow scLawIsRow (fun vs H Q E h => spT_len (n := 2) (fun _ => rfl) h) (fun _ _ _ _ _ _ us hl => match us, hl with | [_, _], _ => rfl) (fun cdv A outer s H vs Q E hr h => ?_)
  refine ⟨_, (pss_cons (ps_if (PW.pt (pw_or (pt_not (pt_val (pe_callB (DL.call_isiC (K := K) rfl) (by rfl) T.b_isinstance (by decide +kernel) (pa_cons (pv 0) (pa_cons (pe_bltn (v := .ty "tuple") (by rfl) T.b_tuple (by decide +kernel) rfl) pa_nil))))) (pw_or (pt_cmpR op_ne (pe_callB (DL.call_len_seqC (K := K) rfl) (by rfl) T.b_len (by decide +kernel) (pa_cons (pv 0) pa_nil)) pe_int (nomark _)) (pw_or (pt_not (pt_val (pe_callB (DL.call_isiC (K := K) rfl) (by rfl) T.b_isinstance (by decide +kernel) (pa_cons (pe_ix (DL.ix_seqC (K := K) rfl) (pv 0) pe_int (fun _ _ => rfl)) (pa_cons (pe_bltn (v := .ty "tuple") (by rfl) T.b_tuple (by decide +kernel) rfl) pa_nil))))) (pw_or1 (pt_cmpR op_ne (pe_callB (DL.call_len_seqC (K := K) rfl) (by rfl) T.b_len (by decide +kernel) (pa_cons (pe_ix (DL.ix_seqC (K := K) rfl) (pv 0) pe_int (fun _ _ => rfl)) pa_nil)) (pv 1) (nomark _)))))))
      (pss_one (ps_ret pe_bl))
      pss_nil)
      (pss_cons (ps_if (PW.pt (pw_or (pt_not (pt_val (DL.pe_cal c_LawWhole (hr.mono (by decide)) (pa_cons (pe_ix (DL.ix_seqC (K := K) rfl) (pv 0) pe_int (fun _ _ => rfl)) pa_nil)))) (pw_or (pt_cmpR op_lt (pe_ix (DL.ix_seqC (K := K) rfl) (pv 0) pe_int (fun _ _ => rfl)) pe_int (nomark _)) (pw_or1 (pt_cmpR op_gt (pe_callB (DL.call_len_seqC (K := K) rfl) (by rfl) T.b_len (by decide +kernel) (pa_cons (pe_lc (own := [("top", 2)]) (g := gName 2) (by rfl) scLawIsRow.nd (DL.pi_tupC (K := K) rfl (pe_ix (DL.ix_seqC (K := K) rfl) (pv 0) pe_int (fun _ _ => rfl))) (blkOk_by (own := [("top", 2)]) (by kernel_rfl)) (fun _ _ _ _ _ => (pg_name (i := 2) scLawIsRow.nd rfl (by first | exact Or.inl rfl | exact Or.inr rfl))) (fun _ _ _ _ _ => (pts_one (pt_not (pt_val (DL.pe_cal c_LawWhole (hr.mono (by decide)) (pa_cons (pv 2) pa_nil)))))) (fun _ _ _ _ _ => (pv 2))) pa_nil)) pe_int (nomark _))))))
      (pss_one (ps_ret pe_bl))
      pss_nil)
      (pss_one (ps_ret (pe_cmpR op_eq (DL.pe_cal c_LawGcd (hr.mono (by decide)) (pa_cons (DL.pe_cal c_LawCommon (hr.mono (by decide)) (pa_cons (pe_ix (DL.ix_seqC (K := K) rfl) (pv 0) pe_int (fun _ _ => rfl)) pa_nil)) (pa_cons (pe_ix (DL.ix_seqC (K := K) rfl) (pv 0) pe_int (fun _ _ => rfl)) pa_nil))) pe_int (nomark _)))))), ?_⟩
  refine sd_fn h (fun _ => Nat.le_of_ble_eq_true rfl) ?_
  try dsimp only [L2.cxOf]
  intro ⟨tops, line, size⟩ hp
  obtain ⟨h1, h2, h3⟩ : (∀ n ∈ tops, Sm 49000 n) ∧ Sm 49000 line ∧ tops.length ≤ 10000 := hp
  show SD K _ [.sh (.tup [.tup (dI tops), .int line]), .sh (.int size), .no] _
  refine sd_then (sd_if (x := !decide ((tops.length : Int) = size)) (et_orF (EvT.is (by by_place) (by rfl)) (et_orF (EvT.is (by by_place) (by rfl)) (et_orF (EvT.is (by by_place <;> by_in) (by rfl)) (EvT.is (by by_place <;> by_in) (by rw [List.length_map]))))) (fun h => ?_) (fun h => sd_next ?_))
  · refine sd_ret (d := .bl false) (by by_place) ?_
    have h0 : decide ((tops.length : Int) = size) = false := by simpa using h
    show Ret.sh _ = Ret.sh (.bl (isRowM tops line size))
    unfold isRowM
    rw [h0]
    rfl
  · have h0 : decide ((tops.length : Int) = size) = true := by simpa using h
    show SD K _ [.sh (.tup [.tup (dI tops), .int line]), .sh (.int size), .no] _
    refine sd_then (sd_if (x := decide (line < 1)) (et_orF (EvT.is (et_not (x := true) (et_B (ed_call line (by by_place <;> by_in) trivial rfl))) (by rfl)) (EvT.is (et_or (x := decide (line < 1)) (y := false) (by by_place <;> by_in) fun _ => ?_) (by simp))) (fun h => ?_) (fun h => sd_next ?_))
    · refine EvT.is (et_test (ed_op (a := .int 0) (EvD.is (ed_cb (ea_cons (EvL.data (EvL.is (el_lcT (ds := dI tops) (fun _ => false) (fun _ => .non) (by by_place <;> by_in) (by rw [List.length_map]; omega) fun i d hd => ?_) ?_)) ea_nil) (cd_len (ds := []) rfl)) (by rfl)) (by by_place) od_B0)) (by rfl)
      · obtain ⟨x, hx, rfl⟩ := get_dI hd
        refine ⟨_, tg_name (by decide), ?_, fun z => by cases z⟩
        exact EvT.is (et_not (x := true) (et_B (ed_call x (by by_place) trivial rfl))) (by rfl)
      · unfold given
        simp
    · refine sd_ret (d := .bl false) (by by_place) ?_
      have h4 : line < 1 := of_decide_eq_true h
      have h5 : decide (1 ≤ line) = false := decide_eq_false (by omega)
      show Ret.sh _ = Ret.sh (.bl (isRowM tops line size))
      unfold isRowM
      rw [h5]
      simp
    · have h4 : ¬ line < 1 := of_decide_eq_false h
      have h5 : decide (1 ≤ line) = true := decide_eq_true (by omega)
      show SD K _ [.sh (.tup [.tup (dI tops), .int line]), .sh (.int size), .no] _
      have hg : gcdL tops < 2 ^ 49000 := gcdL_lt (by decide) h1
      refine sd_ret (d := .bl (isRowM tops line size)) (EvD.is (ed_op (a := .int ((Nat.gcd (gcdL tops) line.natAbs : Nat) : Int)) (ed_call (((gcdL tops : Nat) : Int), line) (ea_cons (ed_call (true, tops) (by by_place <;> by_in) h1 rfl) (by by_place <;> by_in)) ⟨?_, h2⟩ ?_) (by by_place) (by by_place)) ?_) rfl
      · show (((gcdL tops : Nat) : Int)).natAbs < 2 ^ 49000
        rw [Int.natAbs_natCast]
        exact hg
      · show Ret.sh (.int ((Nat.gcd (((gcdL tops : Nat) : Int)).natAbs line.natAbs : Nat) : Int)) = _
        rw [Int.natAbs_natCast]
      · unfold isRowM
        rw [h0, h5, Bool.true_and, Bool.true_and]
        congr 1
        apply decide_eq_decide.mpr
        omega
theorem scLawLong : FnScope ["cell", "many", "top", "rest", "found", "digit"] ["cell", "many", "top"] (defScope sLawLong) := ⟨rfl, rfl, rfl, by decide +kernel, rfl, by decide +kernel, by decide +kernel⟩
theorem okLawLong (T : Txt K mg) (c_LawDigits : Cal P w K mg base 1 "_law_digits" ["cell", "sizes"] (spLawDigits K)) : Cal P w K mg base 2 "_law_long" ["cell", "many", "top"] (spLawLong K) := by
  refine cal_mk T.f_LawLong T.g_LawLong scLawLong (fun vs H Q E h => spT_len (n := 3) (fun _ => rfl) h) (fun _ _ _ _ _ _ us hl => match us, hl with | [_, _, _], _ => rfl) (fun cdv A outer s H vs Q E hr h => ?_)
  refine ⟨_, (pss_cons (ps_set (i := 3) scLawLong.nd rfl (by first | exact Or.inl rfl | exact Or.inr rfl) (pe_op op_sub (pe_callTy call_int1 (by rfl) T.b_int (by decide +kernel) (pa_cons (pv 0) pa_nil)) (pe_op op_pow pe_int pe_int)))
      (pss_cons (ps_set (i := 4) scLawLong.nd rfl (by first | exact Or.inl rfl | exact Or.inr rfl) (pe_lst pa_nil))
      (pss_cons (ps_for PassesOwn.never rfl (DL.pi_listC (K := K) rfl (DL.pe_cal c_LawDigits (hr.mono (by decide)) (pa_cons (pe_op op_mod (pe_callTy call_int1 (by rfl) T.b_int (by decide +kernel) (pa_cons (pv 0) pa_nil)) (pe_op op_pow pe_int pe_int)) (pa_cons (pe_op op_rep (pe_lst (pa_cons pe_int pa_nil)) (pv 1)) pa_nil)))) (pg_name (i := 5) scLawLong.nd rfl (by first | exact Or.inl rfl | exact Or.inr rfl))
      (pss_one (ps_if (pt_cmpR op_gt (pv 3) pe_int (nomark _))
      (pss_cons (ps_expr (pe_bm PySem.F.plainAttrs_list PySem.F.slot_list_append PySem.F.type_list_append mt_append (pv 4) (pa_cons (pe_op op_mod (pe_callTy call_int1 (by rfl) T.b_int (by decide +kernel) (pa_cons (pv 3) pa_nil)) (pv 2)) pa_nil)))
      (pss_one (ps_set (i := 3) scLawLong.nd rfl (by first | exact Or.inl rfl | exact Or.inr rfl) (pe_op op_fdivW (pe_callTy call_int1 (by rfl) T.b_int (by decide +kernel) (pa_cons (pv 3) pa_nil)) (pv 2)))))
      (pss_one (ps_expr (pe_bm PySem.F.plainAttrs_list PySem.F.slot_list_append PySem.F.type_list_append mt_append (pv 4) (pa_cons (pe_op op_mod (pe_callTy call_int1 (by rfl) T.b_int (by decide +kernel) (pa_cons (pe_op op_add (pe_op op_pow (pe_op op_add (pv 5) pe_int) pe_int) (pe_op op_mulW (pv 5) pe_int)) pa_nil)) (pv 2)) pa_nil)))))))
      (pss_one (ps_ret (pv 4)))))), ?_⟩
  refine sd_fn h (fun _ => Nat.le_of_ble_eq_true rfl) ?_
  try dsimp only [L2.cxOf]
  intro ⟨cell, many, top⟩ hp
  obtain ⟨h1, h2, h3⟩ : 0 < top ∧ Sm 8000 top ∧ many ≤ 1000 := hp
  show SD K _ [.sh (.int cell), .sh (.int many), .sh (.int top), .no, .no, .no] _
  refine sd_then (sd_asg (d := .int (cell - 10 ^ 18)) (EvD.is (by by_place <;> by_in) (by rw [pow18]; rfl)) ?_)
  refine sd_then (sd_asgL (ds := []) (el_lst ea_nil (by decide)) ?_)
  show SD K _ [.sh (.int cell), .sh (.int many), .sh (.int top), .sh (.int (cell - 10 ^ 18)), .ow [], .no] _
  have hrep : DL.D.lst (List.replicate (many : Int).toNat (.int 2147483629)) = .lst (dI (List.replicate many 2147483629)) := by
    rw [Int.toNat_natCast]
    unfold dI
    rw [List.map_replicate]
  refine sd_then (sd_forLn [5] (a := .lst (dI (digitsM (cell % 10 ^ 18) (List.replicate many 2147483629)))) (ds := dI (digitsM (cell % 10 ^ 18) (List.replicate many 2147483629)))
    (EvL.data (el_call ((cell % 10 ^ 18), List.replicate many 2147483629) (ea_cons (EvD.is (by by_place <;> by_in) (by rw [pow18]; rfl)) (ea_cons (EvD.is (EvL.data (el_op (EvL.data (el_lst (by by_place) (by decide))) (by by_place) (ol_rep (by omega) (by omega)))) hrep) ea_nil)) ⟨fun s hs => ?_, ?_⟩ rfl)) (.inl rfl)
    (fun m ρ => ρ = [.sh (.int cell), .sh (.int many), .sh (.int top), .sh (.int (longR top (cell - 10 ^ 18) ((digitsM (cell % 10 ^ 18) (List.replicate many 2147483629)).take m))), .ow (dI (longD (cell - 10 ^ 18) top ((digitsM (cell % 10 ^ 18) (List.replicate many 2147483629)).take m))), .no]) rfl (fun m d ρ hd hI => ?_) (fun ρ hI => ?_))
  · rw [List.eq_of_mem_replicate hs]
    decide
  · show (List.replicate many (2147483629 : Int)).length ≤ 1000
    rw [List.length_replicate]
    exact h3
  · subst hI
    obtain ⟨x, hx, rfl⟩ := get_dI hd
    have hb := digitsM_rep (cell % 10 ^ 18) 2147483629 many (by decide) x (List.mem_of_getElem? hx)
    have hm : m < many := by
      have := (List.getElem?_eq_some_iff.mp hx).1
      rw [digitsM_len, List.length_replicate] at this
      exact this
    generalize digitsM (cell % 10 ^ 18) (List.replicate many 2147483629) = ds at hx
    refine ⟨rfl, ?_⟩
    show SD K _ [.sh (.int cell), .sh (.int many), .sh (.int top), .sh (.int (longR top (cell - 10 ^ 18) (ds.take m))), .ow (dI (longD (cell - 10 ^ 18) top (ds.take m))), .sh (.int x)] _
    have hz : (dI (longD (cell - 10 ^ 18) top (ds.take m))).length < sizeLine := by
      rw [List.length_map, longD_len, List.length_take, PySem.sizeLine_eq]
      omega
    refine sd_if (x := decide (longR top (cell - 10 ^ 18) (ds.take m) > 0)) (by by_place) (fun h => ?_) (fun h => ?_)
    · have h := of_decide_eq_true h
      have cd : CDivW (longR top (cell - 10 ^ 18) (ds.take m)) top := divW h1 h2 (by decide)
      refine sd_then (sd_app (i := 4) (d := .int (longR top (cell - 10 ^ 18) (ds.take m) % top)) rfl (by by_place <;> by_in) hz ?_)
      refine sd_asg (d := .int (longR top (cell - 10 ^ 18) (ds.take m) / top)) (by by_place <;> by_in) ?_
      rw [take_snoc hx, longD_snoc, longR_snoc, if_pos h, dI_append]
      unfold longP
      rw [if_pos h]
      rfl
    · have h := of_decide_eq_false h
      refine sd_app (i := 4) (d := .int (((x + 3) ^ 52 + x * 974711) % top)) rfl (EvD.is (by by_place <;> by_in) (by rfl)) hz ?_
      rw [take_snoc hx, longD_snoc, longR_snoc, if_neg h, dI_append]
      unfold longP
      rw [if_neg h]
      rfl
  · subst hI
    rw [List.length_map, List.take_length]
    exact sd_retO (i := 4) rfl rfl
end
end K00

set_option Elab.async false
set_option linter.all false
set_option maxRecDepth 100000
set_option maxHeartbeats 4000000
set_option exponentiation.threshold 5000
namespace K00
open PySem PySem.Spec PyProof.Rows L2 DL M R0
open LS hiding spRatio spRow spRowOf
local macro_rules | `(tactic| by_item) => `(tactic| with_reducible first
  | exact DL.ed_var (by with_unfolding_all rfl) | exact DL.ed_int | exact DL.ed_bl | exact DL.ed_non | exact DL.ed_str | exact DL.ea_nil | exact DL.et_yes
  | apply DL.ea_cons | apply DL.ed_op | apply DL.ed_un | apply DL.ed_lst | apply DL.ed_fld | (show L2.Cls _ _; with_reducible assumption) | (show L2.NoAttr _ _ _; with_reducible assumption) | (show List.lookup _ _ = _; with_unfolding_all rfl) | (show List.length _ ≤ PySem.sizeLine; exact Nat.le_of_ble_eq_true (by with_unfolding_all rfl)) | apply DL.ed_isi | apply DL.ed_cb
  | exact DL.od_I0 | exact DL.od_B0 | exact DL.od_eqI | exact DL.od_neI | exact DL.od_eqS | exact DL.od_isN | exact DL.od_notN | (apply DL.od_divX) | (apply DL.od_divN) | apply DL.od_I | apply DL.od_ix | exact DL.ud_I
  | apply DL.cd_len | exact DL.cd_int | exact DL.cd_intB | exact DL.cd_1 | exact DL.cd_gcd | apply DL.cd_lcmX | exact DL.cd_min3 | exact DL.cd_2
  | apply DL.et_test | apply DL.et_B | apply DL.et_not | apply DL.ed_notV
  | (show DL.tyB _ = _; with_unfolding_all rfl) | (show DL.itemsOf _ = _; with_unfolding_all rfl) | exact DL.seqD_items | (show L2.atI _ _ = _; with_reducible assumption) | (show L2.atI _ _ = _; exact L2.atI_nat (by with_reducible assumption)) | exact DL.atI_zero | exact DL.atI_one | (show L2.atI _ _ = _; with_unfolding_all rfl) | (show L2.kitB _ _ = _; first | exact DL.kb_NoneType_int | exact DL.kb_NoneType_bool | exact DL.kb_NoneType_tuple | exact DL.kb_NoneType_list | exact DL.kb_NoneType_str | exact DL.kb_NoneType_dict | exact DL.kb_bool_int | exact DL.kb_bool_bool | exact DL.kb_bool_tuple | exact DL.kb_bool_list | exact DL.kb_bool_str | exact DL.kb_bool_dict | exact DL.kb_int_int | exact DL.kb_int_bool | exact DL.kb_int_tuple | exact DL.kb_int_list | exact DL.kb_int_str | exact DL.kb_int_dict | exact DL.kb_str_int | exact DL.kb_str_bool | exact DL.kb_str_tuple | exact DL.kb_str_list | exact DL.kb_str_str | exact DL.kb_str_dict | exact DL.kb_list_int | exact DL.kb_list_bool | exact DL.kb_list_tuple | exact DL.kb_list_list | exact DL.kb_list_str | exact DL.kb_list_dict | exact DL.kb_tuple_int | exact DL.kb_tuple_bool | exact DL.kb_tuple_tuple | exact DL.kb_tuple_list | exact DL.kb_tuple_str | exact DL.kb_tuple_dict | exact DL.kb_dict_int | exact DL.kb_dict_bool | exact DL.kb_dict_tuple | exact DL.kb_dict_list | exact DL.kb_dict_str | exact DL.kb_dict_dict))
local macro_rules | `(tactic| by_place) => `(tactic| (repeat' by_item))
local macro_rules | `(tactic| by_in) => `(tactic| first | (with_reducible assumption) | (with_reducible exact DL.seqD_items) | (show (0 : Int) < _; omega) | (show (0 : Int) < _; decide +kernel) | exact M.mulS (by omega) (by omega) | exact M.mulP (by omega) (by omega) (by omega) | exact M.divS (by omega) (by omega) | exact ⟨by decide, by decide, by decide⟩ | exact ⟨by decide, by decide, by omega⟩ | exact L2.atI_nat (by assumption) | (show L2.atI _ _ = _; rfl))
section
variable {P : Program} {w : World} {K : PySem.W.Frag} {mg : Str → Option Value} {base : Heap}
theorem scRatio : FnScope ["top", "bottom", "common"] ["top", "bottom"] (defScope sRatio) := ⟨rfl, rfl, rfl, by decide +kernel, rfl, by decide +kernel, by decide +kernel⟩
theorem okRatio (T : Txt K mg)  (N : DL.Nos P K) : Cal P w K mg base 33 "ratio" ["top", "bottom"] (spRatio K) := by
  refine cal_mkD T.f_Ratio T.g_Ratio scRatio (fun vs H Q E h => spT_len (n := 2) (fun _ => rfl) h) (by simp) (fun _ _ _ _ _ _ _ us its hl hi => match us, hl, its, hi with | [_, _], _, [_], _ => ⟨_, rfl, rfl⟩) (fun cdv A outer s H vs Q E hr h => ?_)
  have hp := DL.py_of (outer := outer) N hr (by decide) (by decide +kernel) (by decide +kernel)
  refine ⟨_, (pss_cons (ps_if (pt_cmpR op_eq (pv 1) pe_int (nomark _))
      (pss_one ps_never)
      pss_nil)
      (pss_cons (ps_if (pt_cmpR op_lt (pv 1) pe_int (nomark _))
      (pss_cons (ps_set (i := 0) scRatio.nd rfl (by first | exact Or.inl rfl | exact Or.inr rfl) (pe_un un_neg (pv 0)))
      (pss_one (ps_set (i := 1) scRatio.nd rfl (by first | exact Or.inl rfl | exact Or.inr rfl) (pe_un un_neg (pv 1)))))
      pss_nil)
      (pss_cons (ps_set (i := 2) scRatio.nd rfl (by first | exact Or.inl rfl | exact Or.inr rfl) (pe_callBfun cr_gcd (by rfl) T.m_gcd (pa_cons (pv 0) (pa_cons (pv 1) pa_nil))))
      (pss_one (ps_ret (pe_tup (pa_cons (pe_op (DL.op_fdivX hp) (pv 0) (pv 2)) (pa_cons (pe_op (DL.op_fdivX hp) (pv 1) (pv 2)) pa_nil)))))))), ?_⟩
  refine sd_fn h (fun _ => Nat.le_of_ble_eq_true rfl) ?_
  try dsimp only [L2.cxOf]
  intro ⟨t, b⟩ h0
  have h0 : b ≠ 0 := h0
  show SD K _ [.sh (.int t), .sh (.int b), .no] _
  refine sd_then (sd_if (x := false) (EvT.is (by by_place) (decide_eq_false h0)) (fun h => by cases h) (fun _ => sd_next ?_))
  show SD K _ [.sh (.int t), .sh (.int b), .no] _
  refine sd_cut (fun ρ => ∃ t' b' : Int, 0 < b' ∧ Rat.divInt t' b' = Rat.divInt t b ∧ ρ = [.sh (.int t'), .sh (.int b'), .no]) (sd_if (x := decide (b < 0)) (by by_place) (fun h => ?_) (fun h => sd_next ?_)) (fun ρ hM => ?_)
  · have h1 : b < 0 := of_decide_eq_true h
    refine sd_then (sd_asg (d := .int (-t)) (by by_place) ?_)
    show SD K _ [.sh (.int (-t)), .sh (.int b), .no] _
    exact sd_asg (d := .int (-b)) (by by_place) ⟨-t, -b, by omega, div_neg t b, rfl⟩
  · exact ⟨t, b, by have := of_decide_eq_false h; omega, rfl, rfl⟩
  · obtain ⟨t', b', hb, he, rfl⟩ := hM
    show SD K _ [.sh (.int t'), .sh (.int b'), .no] _
    refine sd_then (sd_asg (d := .int ((Nat.gcd t'.natAbs b'.natAbs : Nat) : Int)) (by by_place) ?_)
    have g1 : (0 : Int) < ((Nat.gcd t'.natAbs b'.natAbs : Nat) : Int) := by have := Nat.gcd_pos_of_pos_right t'.natAbs (show 0 < b'.natAbs by omega); omega
    show SD K _ [.sh (.int t'), .sh (.int b'), .sh (.int ((Nat.gcd t'.natAbs b'.natAbs : Nat) : Int))] _
    refine sd_ret (d := .tup [.int (t' / ((Nat.gcd t'.natAbs b'.natAbs : Nat) : Int)), .int (b' / ((Nat.gcd t'.natAbs b'.natAbs : Nat) : Int))]) (ed_tup (by by_place <;> by_in) (Nat.le_of_ble_eq_true rfl)) ?_
    show Ret.sh _ = Ret.sh (ratS true (Rat.divInt t b))
    have e := divInt_pos (t := t') hb
    rw [he] at e
    unfold ratioM at e
    have e1 := congrArg Prod.fst e
    have e2 := congrArg Prod.snd e
    dsimp only at e1 e2
    rw [e1, e2]
    rfl
theorem scPlus : FnScope ["one", "two"] ["one", "two"] (defScope sPlus) := ⟨rfl, rfl, rfl, by decide +kernel, rfl, by decide +kernel, by decide +kernel⟩
theorem okPlus (T : Txt K mg) (c_Ratio : Cal P w K mg base 33 "ratio" ["top", "bottom"] (spRatio K)) : Cal P w K mg base 34 "plus" ["one", "two"] (spPlus K) := by
  refine cal_mk T.f_Plus T.g_Plus scPlus (fun vs H Q E h => spT_len (n := 2) (fun _ => rfl) h) (fun _ _ _ _ _ _ us hl => match us, hl with | [_, _], _ => rfl) (fun cdv A outer s H vs Q E hr h => ?_)
  refine ⟨_, (pss_one (ps_ret (DL.pe_cal c_Ratio (hr.mono (by decide)) (pa_cons (pe_op op_add (pe_op op_mulW (pe_ix (DL.ix_seqC (K := K) rfl) (pv 0) pe_int (fun _ _ => rfl)) (pe_ix (DL.ix_seqC (K := K) rfl) (pv 1) pe_int (fun _ _ => rfl))) (pe_op op_mulW (pe_ix (DL.ix_seqC (K := K) rfl) (pv 1) pe_int (fun _ _ => rfl)) (pe_ix (DL.ix_seqC (K := K) rfl) (pv 0) pe_int (fun _ _ => rfl)))) (pa_cons (pe_op op_mulW (pe_ix (DL.ix_seqC (K := K) rfl) (pv 0) pe_int (fun _ _ => rfl)) (pe_ix (DL.ix_seqC (K := K) rfl) (pv 1) pe_int (fun _ _ => rfl))) pa_nil))))), ?_⟩
  refine sd_fn h (fun _ => Nat.le_of_ble_eq_true rfl) ?_
  try dsimp only [L2.cxOf]
  intro ⟨⟨k, q⟩, ⟨j, r⟩⟩ hp
  obtain ⟨⟨q1, q2⟩, ⟨r1, r2⟩⟩ : SmR 100000 q ∧ SmR 100000 r := hp
  have m1 := q1.mulW r2 (by decide)
  have m2 := r1.mulW q2 (by decide)
  have m3 := q2.mulW r2 (by decide)
  have hq := den_pos' q
  have hr' := den_pos' r
  show SD K _ [.sh (seqD k [.int q.num, .int ((q.den : Nat) : Int)]), .sh (seqD j [.int r.num, .int ((r.den : Nat) : Int)])] _
  exact sd_ret (ed_call (q.num * r.den + r.num * q.den, (q.den : Int) * r.den) (EvA.is (by by_place <;> by_in) (by rfl)) (Int.mul_ne_zero (by omega) (by omega)) (by show Ret.sh _ = Ret.sh _; rw [plus_eq])) rfl
theorem scMinus : FnScope ["one", "two"] ["one", "two"] (defScope sMinus) := ⟨rfl, rfl, rfl, by decide +kernel, rfl, by decide +kernel, by decide +kernel⟩
theorem okMinus (T : Txt K mg) (c_Ratio : Cal P w K mg base 33 "ratio" ["top", "bottom"] (spRatio K)) : Cal P w K mg base 34 "minus" ["one", "two"] (spMinus K) := by
  refine cal_mk T.f_Minus T.g_Minus scMinus (fun vs H Q E h => spT_len (n := 2) (fun _ => rfl) h) (fun _ _ _ _ _ _ us hl => match us, hl with | [_, _], _ => rfl) (fun cdv A outer s H vs Q E hr h => ?_)
  refine ⟨_, (pss_one (ps_ret (DL.pe_cal c_Ratio (hr.mono (by decide)) (pa_cons (pe_op op_sub (pe_op op_mulW (pe_ix (DL.ix_seqC (K := K) rfl) (pv 0) pe_int (fun _ _ => rfl)) (pe_ix (DL.ix_seqC (K := K) rfl) (pv 1) pe_int (fun _ _ => rfl))) (pe_op op_mulW (pe_ix (DL.ix_seqC (K := K) rfl) (pv 1) pe_int (fun _ _ => rfl)) (pe_ix (DL.ix_seqC (K := K) rfl) (pv 0) pe_int (fun _ _ => rfl)))) (pa_cons (pe_op op_mulW (pe_ix (DL.ix_seqC (K := K) rfl) (pv 0) pe_int (fun _ _ => rfl)) (pe_ix (DL.ix_seqC (K := K) rfl) (pv 1) pe_int (fun _ _ => rfl))) pa_nil))))), ?_⟩
  refine sd_fn h (fun _ => Nat.le_of_ble_eq_true rfl) ?_
  try dsimp only [L2.cxOf]
  intro ⟨⟨k, q⟩, ⟨j, r⟩⟩ hp
  obtain ⟨⟨q1, q2⟩, ⟨r1, r2⟩⟩ : SmR 100000 q ∧ SmR 100000 r := hp
  have m1 := q1.mulW r2 (by decide)
  have m2 := r1.mulW q2 (by decide)
  have m3 := q2.mulW r2 (by decide)
  have hq := den_pos' q
  have hr' := den_pos' r
  show SD K _ [.sh (seqD k [.int q.num, .int ((q.den : Nat) : Int)]), .sh (seqD j [.int r.num, .int ((r.den : Nat) : Int)])] _
  exact sd_ret (ed_call (q.num * r.den - r.num * q.den, (q.den : Int) * r.den) (EvA.is (by by_place <;> by_in) (by rfl)) (Int.mul_ne_zero (by omega) (by omega)) (by show Ret.sh _ = Ret.sh _; rw [minus_eq])) rfl
theorem scTimes : FnScope ["one", "two"] ["one", "two"] (defScope sTimes) := ⟨rfl, rfl, rfl, by decide +kernel, rfl, by decide +kernel, by decide +kernel⟩
theorem okTimes (T : Txt K mg) (c_Ratio : Cal P w K mg base 33 "ratio" ["top", "bottom"] (spRatio K)) : Cal P w K mg base 34 "times" ["one", "two"] (spTimes K) := by
  refine cal_mk T.f_Times T.g_Times scTimes (fun vs H Q E h => spT_len (n := 2) (fun _ => rfl) h) (fun _ _ _ _ _ _ us hl => match us, hl with | [_, _], _ => rfl) (fun cdv A outer s H vs Q E hr h => ?_)
  refine ⟨_, (pss_one (ps_ret (DL.pe_cal c_Ratio (hr.mono (by decide)) (pa_cons (pe_op op_mulW (pe_ix (DL.ix_seqC (K := K) rfl) (pv 0) pe_int (fun _ _ => rfl)) (pe_ix (DL.ix_seqC (K := K) rfl) (pv 1) pe_int (fun _ _ => rfl))) (pa_cons (pe_op op_mulW (pe_ix (DL.ix_seqC (K := K) rfl) (pv 0) pe_int (fun _ _ => rfl)) (pe_ix (DL.ix_seqC (K := K) rfl) (pv 1) pe_int (fun _ _ => rfl))) pa_nil))))), ?_⟩
  refine sd_fn h (fun _ => Nat.le_of_ble_eq_true rfl) ?_
  try dsimp only [L2.cxOf]
  intro ⟨⟨k, q⟩, ⟨j, r⟩⟩ hp
  obtain ⟨⟨q1, q2⟩, ⟨r1, r2⟩⟩ : SmR 100000 q ∧ SmR 100000 r := hp
  have m1 := q1.mulW r1 (by decide)
  have m3 := q2.mulW r2 (by decide)
  have hq := den_pos' q
  have hr' := den_pos' r
  show SD K _ [.sh (seqD k [.int q.num, .int ((q.den : Nat) : Int)]), .sh (seqD j [.int r.num, .int ((r.den : Nat) : Int)])] _
  exact sd_ret (ed_call (q.num * r.num, (q.den : Int) * r.den) (EvA.is (by by_place <;> by_in) (by rfl)) (Int.mul_ne_zero (by omega) (by omega)) (by show Ret.sh _ = Ret.sh _; rw [times_eq])) rfl
theorem scOver : FnScope ["one", "two"] ["one", "two"] (defScope sOver) := ⟨rfl, rfl, rfl, by decide +kernel, rfl, by decide +kernel, by decide +kernel⟩
theorem okOver (T : Txt K mg) (c_Ratio : Cal P w K mg base 33 "ratio" ["top", "bottom"] (spRatio K)) : Cal P w K mg base 34 "over" ["one", "two"] (spOver K) := by
  refine cal_mk T.f_Over T.g_Over scOver (fun vs H Q E h => spT_len (n := 2) (fun _ => rfl) h) (fun _ _ _ _ _ _ us hl => match us, hl with | [_, _], _ => rfl) (fun cdv A outer s H vs Q E hr h => ?_)
  refine ⟨_, (pss_cons (ps_if (pt_cmpR op_eq (pe_ix (DL.ix_seqC (K := K) rfl) (pv 1) pe_int (fun _ _ => rfl)) pe_int (nomark _))
      (pss_one ps_never)
      pss_nil)
      (pss_one (ps_ret (DL.pe_cal c_Ratio (hr.mono (by decide)) (pa_cons (pe_op op_mulW (pe_ix (DL.ix_seqC (K := K) rfl) (pv 0) pe_int (fun _ _ => rfl)) (pe_ix (DL.ix_seqC (K := K) rfl) (pv 1) pe_int (fun _ _ => rfl))) (pa_cons (pe_op op_mulW (pe_ix (DL.ix_seqC (K := K) rfl) (pv 0) pe_int (fun _ _ => rfl)) (pe_ix (DL.ix_seqC (K := K) rfl) (pv 1) pe_int (fun _ _ => rfl))) pa_nil)))))), ?_⟩
  refine sd_fn h (fun _ => Nat.le_of_ble_eq_true rfl) ?_
  try dsimp only [L2.cxOf]
  intro ⟨⟨k, q⟩, ⟨j, r⟩⟩ hp
  obtain ⟨⟨⟨q1, q2⟩, ⟨r1, r2⟩⟩, r0⟩ : (SmR 100000 q ∧ SmR 100000 r) ∧ r.num ≠ 0 := hp
  have m1 := q1.mulW r2 (by decide)
  have m3 := q2.mulW r1 (by decide)
  have hq := den_pos' q
  show SD K _ [.sh (seqD k [.int q.num, .int ((q.den : Nat) : Int)]), .sh (seqD j [.int r.num, .int ((r.den : Nat) : Int)])] _
  refine sd_then (sd_if (x := false) (EvT.is (by by_place <;> by_in) (decide_eq_false r0)) (fun h => by cases h) (fun _ => sd_next ?_))
  show SD K _ [.sh (seqD k [.int q.num, .int ((q.den : Nat) : Int)]), .sh (seqD j [.int r.num, .int ((r.den : Nat) : Int)])] _
  exact sd_ret (ed_call (q.num * r.den, (q.den : Int) * r.num) (EvA.is (by by_place <;> by_in) (by rfl)) (Int.mul_ne_zero (by omega) r0) (by show Ret.sh _ = Ret.sh _; rw [over_eq])) rfl
theorem scOrder : FnScope ["one", "two", "left", "right"] ["one", "two"] (defScope sOrder) := ⟨rfl, rfl, rfl, by decide +kernel, rfl, by decide +kernel, by decide +kernel⟩
theorem okOrder (T : Txt K mg)  : Cal P w K mg base 1 "order" ["one", "two"] (spOrder K) := by
  refine cal_mk T.f_Order T.g_Order scOrder (fun vs H Q E h => spT_len (n := 2) (fun _ => rfl) h) (fun _ _ _ _ _ _ us hl => match us, hl with | [_, _], _ => rfl) (fun cdv A outer s H vs Q E hr h => ?_)
  refine ⟨_, (pss_cons (ps_set (i := 2) scOrder.nd rfl (by first | exact Or.inl rfl | exact Or.inr rfl) (pe_op op_mulW (pe_ix (DL.ix_seqC (K := K) rfl) (pv 0) pe_int (fun _ _ => rfl)) (pe_ix (DL.ix_seqC (K := K) rfl) (pv 1) pe_int (fun _ _ => rfl))))
      (pss_cons (ps_set (i := 3) scOrder.nd rfl (by first | exact Or.inl rfl | exact Or.inr rfl) (pe_op op_mulW (pe_ix (DL.ix_seqC (K := K) rfl) (pv 1) pe_int (fun _ _ => rfl)) (pe_ix (DL.ix_seqC (K := K) rfl) (pv 0) pe_int (fun _ _ => rfl))))
      (pss_cons (ps_if (pt_cmpR op_lt (pv 2) (pv 3) (nomark _))
      (pss_one (ps_ret (pe_un un_neg pe_int)))
      pss_nil)
      (pss_cons (ps_if (pt_cmpR op_gt (pv 2) (pv 3) (nomark _))
      (pss_one (ps_ret pe_int))
      pss_nil)
      (pss_one (ps_ret pe_int)))))), ?_⟩
  refine sd_fn h (fun _ => Nat.le_of_ble_eq_true rfl) ?_
  try dsimp only [L2.cxOf]
  intro ⟨⟨k, q⟩, ⟨j, r⟩⟩ hp
  obtain ⟨⟨q1, q2⟩, ⟨r1, r2⟩⟩ : SmR 100000 q ∧ SmR 100000 r := hp
  have m1 := q1.mulW r2 (by decide)
  have m2 := r1.mulW q2 (by decide)
  show SD K _ [.sh (seqD k [.int q.num, .int ((q.den : Nat) : Int)]), .sh (seqD j [.int r.num, .int ((r.den : Nat) : Int)]), .no, .no] _
  refine sd_then (sd_asg (d := .int (q.num * r.den)) (EvD.is (by by_place <;> by_in) (by rfl)) ?_)
  show SD K _ [.sh (seqD k [.int q.num, .int ((q.den : Nat) : Int)]), .sh (seqD j [.int r.num, .int ((r.den : Nat) : Int)]), .sh (.int (q.num * r.den)), .no] _
  refine sd_then (sd_asg (d := .int (r.num * q.den)) (EvD.is (by by_place <;> by_in) (by rfl)) ?_)
  show SD K _ [.sh (seqD k [.int q.num, .int ((q.den : Nat) : Int)]), .sh (seqD j [.int r.num, .int ((r.den : Nat) : Int)]), .sh (.int (q.num * r.den)), .sh (.int (r.num * q.den))] _
  have e := sign_eq q r
  refine sd_then (sd_if (x := decide (q.num * r.den < r.num * q.den)) (by by_place) (fun h => ?_) (fun h => sd_next ?_))
  · refine sd_ret (d := .int (-1)) (by by_place) ?_
    show Ret.sh _ = Ret.sh (.int (signQ q r))
    rw [e, if_pos (of_decide_eq_true h)]
  · have h1 := of_decide_eq_false h
    show SD K _ [.sh (seqD k [.int q.num, .int ((q.den : Nat) : Int)]), .sh (seqD j [.int r.num, .int ((r.den : Nat) : Int)]), .sh (.int (q.num * r.den)), .sh (.int (r.num * q.den))] _
    refine sd_then (sd_if (x := decide (q.num * r.den > r.num * q.den)) (by by_place) (fun h => ?_) (fun h => sd_next ?_))
    · refine sd_ret (d := .int 1) (by by_place) ?_
      show Ret.sh _ = Ret.sh (.int (signQ q r))
      rw [e, if_neg h1, if_pos (of_decide_eq_true h)]
    · refine sd_ret (d := .int 0) (by by_place) ?_
      show Ret.sh _ = Ret.sh (.int (signQ q r))
      rw [e, if_neg h1, if_neg (of_decide_eq_false h)]
theorem scRow : FnScope ["tops", "line", "numbers", "number", "common"] ["tops", "line"] (defScope sRow) := ⟨rfl, rfl, rfl, by decide +kernel, rfl, by decide +kernel, by decide +kernel⟩
theorem okRow (T : Txt K mg)  (N : DL.Nos P K) : Cal P w K mg base 33 "row" ["tops", "line"] (spRow K) := by
  refine cal_mkD T.f_Row T.g_Row scRow (fun vs H Q E h => spT_len (n := 2) (fun _ => rfl) h) (by simp) (fun _ _ _ _ _ _ _ us its hl hi => match us, hl, its, hi with | [_, _], _, [_], _ => ⟨_, rfl, rfl⟩) (fun cdv A outer s H vs Q E hr h => ?_)
  have hp := DL.py_of (outer := outer) N hr (by decide) (by decide +kernel) (by decide +kernel)
  refine ⟨_, (pss_cons (ps_set (i := 2) scRow.nd rfl (by first | exact Or.inl rfl | exact Or.inr rfl) (pe_callTy (DL.call_list_ofC (K := K) rfl) (by rfl) T.b_list (by decide +kernel) (pa_cons (pv 0) pa_nil)))
      (pss_cons (ps_if (pt_cmpR op_lt (pv 1) pe_int (nomark _))
      (pss_cons (ps_setLc (i := 2) (own := [("number", 3)]) (g := gName 3) (by rfl) scRow.nd rfl rfl (sw_true rfl rfl rfl (by decide +kernel)) (DL.pi_listC (K := K) rfl (pv 2)) (blkOk_by (own := [("number", 3)]) (by kernel_rfl)) (fun _ _ _ _ _ => (pg_name (i := 3) scRow.nd rfl (by first | exact Or.inl rfl | exact Or.inr rfl))) (fun _ _ _ _ _ => pts_nil) (fun _ _ _ _ _ => (pe_un un_neg (pv 3))))
      (pss_one (ps_set (i := 1) scRow.nd rfl (by first | exact Or.inl rfl | exact Or.inr rfl) (pe_un un_neg (pv 1)))))
      pss_nil)
      (pss_cons (ps_set (i := 4) scRow.nd rfl (by first | exact Or.inl rfl | exact Or.inr rfl) (pv 1))
      (pss_cons (ps_for PassesOwn.never rfl (DL.pi_listC (K := K) rfl (pv 2)) (pg_name (i := 3) scRow.nd rfl (by first | exact Or.inl rfl | exact Or.inr rfl))
      (pss_one (ps_set (i := 4) scRow.nd rfl (by first | exact Or.inl rfl | exact Or.inr rfl) (pe_callBfun cr_gcd (by rfl) T.m_gcd (pa_cons (pv 4) (pa_cons (pv 3) pa_nil))))))
      (pss_one (ps_ret (pe_tup (pa_cons (pe_callTy (DL.call_tuple_ofC (K := K) rfl) (by rfl) T.b_tuple (by decide +kernel) (pa_cons (pe_lc (own := [("number", 3)]) (g := gName 3) (by rfl) scRow.nd (DL.pi_listC (K := K) rfl (pv 2)) (blkOk_by (own := [("number", 3)]) (by kernel_rfl)) (fun _ _ _ _ _ => (pg_name (i := 3) scRow.nd rfl (by first | exact Or.inl rfl | exact Or.inr rfl))) (fun _ _ _ _ _ => pts_nil) (fun _ _ _ _ _ => (pe_op (DL.op_fdivX hp) (pv 3) (pv 4)))) pa_nil)) (pa_cons (pe_op (DL.op_fdivX hp) (pv 1) (pv 4)) pa_nil))))))))), ?_⟩
  refine sd_fn h (fun _ => Nat.le_of_ble_eq_true rfl) ?_
  try dsimp only [L2.cxOf]
  intro ⟨k, ns, l⟩ hp
  obtain ⟨h0, hl⟩ : l ≠ 0 ∧ ns.length ≤ 10000 := hp
  show SD K _ [.sh (seqD k (dI ns)), .sh (.int l), .no, .no, .no] _
  refine sd_then (sd_asgL (ds := dI ns) (el_cb (by by_place) (cl_list seqD_items)) (sd_frz (i := 2) rfl rfl ?_))
  show SD K _ [.sh (seqD k (dI ns)), .sh (.int l), .sh (.lst (dI ns)), .no, .no] _
  refine sd_cut (fun ρ => ∃ (ns' : List Int) (l' : Int), 0 < l' ∧ ratsOf ns' l' = ratsOf ns l ∧ ns'.length = ns.length ∧ ρ = [.sh (seqD k (dI ns)), .sh (.int l'), .sh (.lst (dI ns')), .no, .no]) (sd_if (x := decide (l < 0)) (by by_place) (fun h => ?_) (fun h => sd_next ?_)) (fun ρ hM => ?_)
  · have h1 : l < 0 := of_decide_eq_true h
    refine sd_then (sd_asgL (ds := dI (ns.map fun x => -x)) (el_mapI (i := 3) (fun x => -x) (by by_place) (by decide) hl fun x hx => by by_place) (sd_frz (i := 2) rfl rfl ?_))
    show SD K _ [.sh (seqD k (dI ns)), .sh (.int l), .sh (.lst (dI (ns.map fun x => -x))), .no, .no] _
    exact sd_asg (d := .int (-l)) (by by_place) ⟨_, -l, by omega, rats_neg ns l, List.length_map _, rfl⟩
  · exact ⟨ns, l, by have := of_decide_eq_false h; omega, rfl, rfl, rfl⟩
  · obtain ⟨tops, line, h1, he, hz, rfl⟩ := hM
    have h2 : tops.length ≤ 10000 := by omega
    show SD K _ [.sh (seqD k (dI ns)), .sh (.int line), .sh (.lst (dI tops)), .no, .no] _
    refine sd_then (sd_asg (d := .int line) (by by_place) ?_)
    show SD K _ [.sh (seqD k (dI ns)), .sh (.int line), .sh (.lst (dI tops)), .no, .sh (.int line)] _
    refine sd_then (sd_forLn [3] (ds := dI tops) (by by_place) (.inl rfl) (fun m ρ => ρ = [.sh (seqD k (dI ns)), .sh (.int line), .sh (.lst (dI tops)), .no, .sh (.int ((gcdL (line :: tops.take m) : Nat) : Int))]) ?_ (fun m d ρ hd hI => ?_) (fun ρ hI => ?_))
    · show [_, _, _, _, _] = _
      rw [List.take_zero, gcdL_all h1]
    · subst hI
      obtain ⟨x, hx, rfl⟩ := get_dI hd
      refine ⟨rfl, ?_⟩
      show SD K _ [.sh (seqD k (dI ns)), .sh (.int line), .sh (.lst (dI tops)), .sh (.int x), .sh (.int ((gcdL (line :: tops.take m) : Nat) : Int))] _
      refine sd_asg (d := .int ((gcdL (line :: tops.take (m + 1)) : Nat) : Int)) (EvD.is (by by_place) ?_) rfl
      rw [gcd_cast, show gcdL (line :: tops.take (m + 1)) = Nat.gcd (gcdL (line :: tops.take m)) x.natAbs from gcdL_snoc (ns := line :: tops) (m := m + 1) (by simpa using hx)]
    · subst hI
      rw [List.length_map, List.take_length]
      have gp : (0 : Int) < ((gcdL (line :: tops) : Nat) : Int) := by
        have d := gcdL_dvd (line :: tops) line List.mem_cons_self
        have := Nat.pos_of_dvd_of_pos d (show 0 < line.natAbs by omega)
        omega
      refine sd_ret (d := .tup [.tup (dI (tops.map fun x => x / ((gcdL (line :: tops) : Nat) : Int))), .int (line / ((gcdL (line :: tops) : Nat) : Int))]) (ed_tup (ea_cons (ed_cb (ea_cons (EvL.data (el_mapI (i := 3) (fun x => x / ((gcdL (line :: tops) : Nat) : Int)) (by by_place) (by decide) h2 fun x hx => by
        by_place <;> by_in)) ea_nil) (cd_tuple rfl)) (by by_place <;> by_in)) (Nat.le_of_ble_eq_true rfl)) ?_
      show Ret.sh _ = Ret.sh (rowS true (ratsOf ns l))
      have e := row_canon (ns := tops) h1
      rw [he] at e
      unfold rowM at e
      have e1 := congrArg Prod.fst e
      have e2 := congrArg Prod.snd e
      dsimp only at e1 e2
      rw [e1, e2]
      rfl
end
end K00

set_option Elab.async false
set_option linter.all false
set_option maxRecDepth 100000
set_option maxHeartbeats 4000000
set_option exponentiation.threshold 5000
namespace K00
open PySem PySem.Spec PyProof.Rows L2 DL M R0
open LS hiding spRatio spRow spRowOf
local macro_rules | `(tactic| by_item) => `(tactic| with_reducible first
  | exact DL.ed_var (by with_unfolding_all rfl) | exact DL.ed_int | exact DL.ed_bl | exact DL.ed_non | exact DL.ed_str | exact DL.ea_nil | exact DL.et_yes
  | apply DL.ea_cons | apply DL.ed_op | apply DL.ed_un | apply DL.ed_lst | apply DL.ed_fld | (show L2.Cls _ _; with_reducible assumption) | (show L2.NoAttr _ _ _; with_reducible assumption) | (show List.lookup _ _ = _; with_unfolding_all rfl) | (show List.length _ ≤ PySem.sizeLine; exact Nat.le_of_ble_eq_true (by with_unfolding_all rfl)) | apply DL.ed_isi | apply DL.ed_cb
  | exact DL.od_I0 | exact DL.od_B0 | exact DL.od_eqI | exact DL.od_neI | exact DL.od_eqS | exact DL.od_isN | exact DL.od_notN | (apply DL.od_divX) | (apply DL.od_divN) | apply DL.od_I | apply DL.od_ix | exact DL.ud_I
  | apply DL.cd_len | exact DL.cd_int | exact DL.cd_intB | exact DL.cd_1 | exact DL.cd_gcd | apply DL.cd_lcmX | exact DL.cd_min3 | exact DL.cd_2
  | apply DL.et_test | apply DL.et_B | apply DL.et_not | apply DL.ed_notV
  | (show DL.tyB _ = _; with_unfolding_all rfl) | (show DL.itemsOf _ = _; with_unfolding_all rfl) | exact DL.seqD_items | (show L2.atI _ _ = _; with_reducible assumption) | (show L2.atI _ _ = _; exact L2.atI_nat (by with_reducible assumption)) | exact DL.atI_zero | exact DL.atI_one | (show L2.atI _ _ = _; with_unfolding_all rfl) | (show L2.kitB _ _ = _; first | exact DL.kb_NoneType_int | exact DL.kb_NoneType_bool | exact DL.kb_NoneType_tuple | exact DL.kb_NoneType_list | exact DL.kb_NoneType_str | exact DL.kb_NoneType_dict | exact DL.kb_bool_int | exact DL.kb_bool_bool | exact DL.kb_bool_tuple | exact DL.kb_bool_list | exact DL.kb_bool_str | exact DL.kb_bool_dict | exact DL.kb_int_int | exact DL.kb_int_bool | exact DL.kb_int_tuple | exact DL.kb_int_list | exact DL.kb_int_str | exact DL.kb_int_dict | exact DL.kb_str_int | exact DL.kb_str_bool | exact DL.kb_str_tuple | exact DL.kb_str_list | exact DL.kb_str_str | exact DL.kb_str_dict | exact DL.kb_list_int | exact DL.kb_list_bool | exact DL.kb_list_tuple | exact DL.kb_list_list | exact DL.kb_list_str | exact DL.kb_list_dict | exact DL.kb_tuple_int | exact DL.kb_tuple_bool | exact DL.kb_tuple_tuple | exact DL.kb_tuple_list | exact DL.kb_tuple_str | exact DL.kb_tuple_dict | exact DL.kb_dict_int | exact DL.kb_dict_bool | exact DL.kb_dict_tuple | exact DL.kb_dict_list | exact DL.kb_dict_str | exact DL.kb_dict_dict))
local macro_rules | `(tactic| by_place) => `(tactic| (repeat' by_item))
local macro_rules | `(tactic| by_in) => `(tactic| first | (with_reducible assumption) | (with_reducible exact DL.seqD_items) | (show (0 : Int) < _; omega) | (show (0 : Int) < _; decide +kernel) | exact M.mulS (by omega) (by omega) | exact M.mulP (by omega) (by omega) (by omega) | exact M.divS (by omega) (by omega) | exact ⟨by decide, by decide, by decide⟩ | exact ⟨by decide, by decide, by omega⟩ | exact L2.atI_nat (by assumption) | (show L2.atI _ _ = _; rfl))
section
variable {P : Program} {w : World} {K : PySem.W.Frag} {mg : Str → Option Value} {base : Heap}
theorem scRowOf : FnScope ["ratios", "line", "one"] ["ratios"] (defScope sRowOf) := ⟨rfl, rfl, rfl, by decide +kernel, rfl, by decide +kernel, by decide +kernel⟩
theorem okRowOf (T : Txt K mg) (c_Row : Cal P w K mg base 33 "row" ["tops", "line"] (spRow K)) (N : DL.Nos P K) : Cal P w K mg base 34 "row_of" ["ratios"] (spRowOf K) := by
  refine cal_mk T.f_RowOf T.g_RowOf scRowOf (fun vs H Q E h => spT_len (n := 1) (fun _ => rfl) h) (fun _ _ _ _ _ _ us hl => match us, hl with | [_], _ => rfl) (fun cdv A outer s H vs Q E hr h => ?_)
  have hp := DL.py_of (outer := outer) N hr (by decide) (by decide +kernel) (by decide +kernel)
  refine ⟨_, (pss_cons (ps_set (i := 1) scRowOf.nd rfl (by first | exact Or.inl rfl | exact Or.inr rfl) pe_int)
      (pss_cons (ps_for PassesOwn.never rfl (DL.pi_seqC (K := K) rfl (pv 0)) (pg_name (i := 2) scRowOf.nd rfl (by first | exact Or.inl rfl | exact Or.inr rfl))
      (pss_one (ps_set (i := 1) scRowOf.nd rfl (by first | exact Or.inl rfl | exact Or.inr rfl) (pe_callBfun (DL.cr_lcmX hp) (by rfl) T.m_lcm (pa_cons (pv 1) (pa_cons (pe_ix (DL.ix_seqC (K := K) rfl) (pv 2) pe_int (fun _ _ => rfl)) pa_nil))))))
      (pss_one (ps_ret (DL.pe_cal c_Row (hr.mono (by decide)) (pa_cons (pe_lc (own := [("one", 2)]) (g := gName 2) (by rfl) scRowOf.nd (DL.pi_seqC (K := K) rfl (pv 0)) (blkOk_by (own := [("one", 2)]) (by kernel_rfl)) (fun _ _ _ _ _ => (pg_name (i := 2) scRowOf.nd rfl (by first | exact Or.inl rfl | exact Or.inr rfl))) (fun _ _ _ _ _ => pts_nil) (fun _ _ _ _ _ => (pe_op op_mulW (pe_ix (DL.ix_seqC (K := K) rfl) (pv 2) pe_int (fun _ _ => rfl)) (pe_op (DL.op_fdivX hp) (pv 1) (pe_ix (DL.ix_seqC (K := K) rfl) (pv 2) pe_int (fun _ _ => rfl)))))) (pa_cons (pv 1) pa_nil))))))), ?_⟩
  refine sd_fn h (fun _ => Nat.le_of_ble_eq_true rfl) ?_
  try dsimp only [L2.cxOf]
  intro ⟨k, rs⟩ hp
  obtain ⟨hl, hb, hc⟩ : rs.length ≤ 10000 ∧ (∀ r ∈ rs, SmR 100000 r.2) ∧ lineN (rs.map Prod.snd) < 2 ^ 100000 := hp
  have tk : ∀ m, lineN ((rs.map Prod.snd).take m) < 2 ^ 100000 := fun m => Nat.lt_of_le_of_lt (Nat.le_of_dvd (lineN_pos _) (lineT_dvd _ m)) hc
  show SD K _ [.sh (seqD k (ratsD rs)), .no, .no] _
  refine sd_then (sd_asg (d := .int 1) (by by_place) ?_)
  show SD K _ [.sh (seqD k (ratsD rs)), .sh (.int 1), .no] _
  refine sd_then (sd_forQn [2] (ds := ratsD rs) (by by_place) (fun m ρ => ρ = [.sh (seqD k (ratsD rs)), .sh (.int ((lineN ((rs.map Prod.snd).take m) : Nat) : Int)), .no]) rfl (fun m d ρ hd hI => ?_) (fun ρ hI => ?_))
  · subst hI
    obtain ⟨x, hx, rfl⟩ := get_ratsD hd
    show SD K _ [.sh (seqD k (ratsD rs)), .sh (.int ((lineN ((rs.map Prod.snd).take m) : Nat) : Int)), .sh (seqD x.1 [.int x.2.num, .int ((x.2.den : Nat) : Int)])] _
    have hb2 := (hb x (List.mem_of_getElem? hx)).2
    have c1 : ((lineN ((rs.map Prod.snd).take m) : Nat) : Int).natAbs < 2 ^ 400000 := (smN (tk m)).mono (by decide)
    have c2 : ((x.2.den : Nat) : Int).natAbs < 2 ^ 400000 := hb2.mono (by decide)
    refine sd_asg (d := .int ((lineN ((rs.map Prod.snd).take (m + 1)) : Nat) : Int)) (EvD.is (ed_cb (as := [.int ((lineN ((rs.map Prod.snd).take m) : Nat) : Int), .int ((x.2.den : Nat) : Int)]) (by by_place <;> by_in) (cd_lcmX c1 c2)) ?_) rfl
    rw [Int.natAbs_natCast, Int.natAbs_natCast, lineT_snoc (q := x.2) (by rw [List.getElem?_map, hx]; rfl)]
  · subst hI
    rw [ratsD_len, show rs.length = (rs.map Prod.snd).length by rw [List.length_map], List.take_length]
    have lp := line_pos' (rs.map Prod.snd)
    have Lsm : Sm 100000 ((lineN (rs.map Prod.snd) : Nat) : Int) := smN hc
    clear hc tk
    refine sd_ret (ed_call (false, topsQ (rs.map Prod.snd), ((lineN (rs.map Prod.snd) : Nat) : Int)) (ea_cons (EvL.data (EvL.is (el_mapG (i := 2) (topF ((lineN (rs.map Prod.snd) : Nat) : Int)) (by by_place) (by decide) (by rw [ratsD_len]; exact hl) fun d hd => ?_) (topF_map rs))) (by by_place)) ⟨Int.ne_of_gt lp, by rw [topQ_len, List.length_map]; exact hl⟩ ?_) rfl
    · obtain ⟨x, hx, rfl⟩ := List.mem_map.mp hd
      rw [topF_at]
      have xb := hb x hx
      have xp := den_pos' x.2
      have m1 : CMulW x.2.num (((lineN (rs.map Prod.snd) : Nat) : Int) / ((x.2.den : Nat) : Int)) := by
        exact xb.1.mulW (n := 100000) (Nat.lt_of_le_of_lt (Int.natAbs_ediv_le_natAbs _ _) Lsm) (by decide)
      unfold ratS
      exact EvD.is (by by_place <;> by_in) (by rfl)
    · show Ret.sh _ = Ret.sh _
      rw [rats_tops]
theorem scRowItem : FnScope ["one", "index"] ["one", "index"] (defScope sRowItem) := ⟨rfl, rfl, rfl, by decide +kernel, rfl, by decide +kernel, by decide +kernel⟩
theorem okRowItem (T : Txt K mg) (c_Ratio : Cal P w K mg base 33 "ratio" ["top", "bottom"] (spRatio K)) : Cal P w K mg base 34 "row_item" ["one", "index"] (spRowItem K) := by
  refine cal_mk T.f_RowItem T.g_RowItem scRowItem (fun vs H Q E h => spT_len (n := 2) (fun _ => rfl) h) (fun _ _ _ _ _ _ us hl => match us, hl with | [_, _], _ => rfl) (fun cdv A outer s H vs Q E hr h => ?_)
  refine ⟨_, (pss_one (ps_ret (DL.pe_cal c_Ratio (hr.mono (by decide)) (pa_cons (pe_ix (DL.ix_seqC (K := K) rfl) (pe_ix (DL.ix_seqC (K := K) rfl) (pv 0) pe_int (fun _ _ => rfl)) (pv 1) (fun _ _ => rfl)) (pa_cons (pe_ix (DL.ix_seqC (K := K) rfl) (pv 0) pe_int (fun _ _ => rfl)) pa_nil))))), ?_⟩
  refine sd_fn h (fun _ => Nat.le_of_ble_eq_true rfl) ?_
  try dsimp only [L2.cxOf]
  intro ⟨k, qs, i⟩ hi
  have hi : i < qs.length := hi
  have a1 := tops_at hi
  have lp := line_pos' qs
  show SD K _ [.sh (seqD k [seqD k (dI (topsQ qs)), .int ((lineN qs : Nat) : Int)]), .sh (.int i)] _
  exact sd_ret (ed_call ((topsQ qs).getD i 0, ((lineN qs : Nat) : Int)) (by by_place <;> by_in) (by show _ ≠ _; omega) (by show Ret.sh _ = Ret.sh _; rw [item_eq hi])) rfl
theorem scRowItems : FnScope ["one", "top"] ["one"] (defScope sRowItems) := ⟨rfl, rfl, rfl, by decide +kernel, rfl, by decide +kernel, by decide +kernel⟩
theorem okRowItems (T : Txt K mg) (c_Ratio : Cal P w K mg base 33 "ratio" ["top", "bottom"] (spRatio K)) : Cal P w K mg base 34 "row_items" ["one"] (spRowItems K) := by
  refine cal_mk T.f_RowItems T.g_RowItems scRowItems (fun vs H Q E h => spT_len (n := 1) (fun _ => rfl) h) (fun _ _ _ _ _ _ us hl => match us, hl with | [_], _ => rfl) (fun cdv A outer s H vs Q E hr h => ?_)
  refine ⟨_, (pss_one (ps_ret (pe_callTy (DL.call_tuple_ofC (K := K) rfl) (by rfl) T.b_tuple (by decide +kernel) (pa_cons (pe_lc (own := [("top", 1)]) (g := gName 1) (by rfl) scRowItems.nd (DL.pi_seqC (K := K) rfl (pe_ix (DL.ix_seqC (K := K) rfl) (pv 0) pe_int (fun _ _ => rfl))) (blkOk_by (own := [("top", 1)]) (by kernel_rfl)) (fun _ _ _ _ _ => (pg_name (i := 1) scRowItems.nd rfl (by first | exact Or.inl rfl | exact Or.inr rfl))) (fun _ _ _ _ _ => pts_nil) (fun _ _ _ _ _ => (DL.pe_cal c_Ratio (hr.mono (by decide)) (pa_cons (pv 1) (pa_cons (pe_ix (DL.ix_seqC (K := K) rfl) (pv 0) pe_int (fun _ _ => rfl)) pa_nil))))) pa_nil)))), ?_⟩
  refine sd_fn h (fun _ => Nat.le_of_ble_eq_true rfl) ?_
  try dsimp only [L2.cxOf]
  intro ⟨k, qs⟩ hl
  have hl : qs.length ≤ 10000 := hl
  have lp := line_pos' qs
  show SD K _ [.sh (seqD k [seqD k (dI (topsQ qs)), .int ((lineN qs : Nat) : Int)]), .no] _
  refine sd_ret (d := .tup (qs.map (ratS true))) (ed_cb (ea_cons (EvL.data (EvL.is (el_mapG (k := k) (i := 1) (itF ((lineN qs : Nat) : Int)) (by by_place <;> by_in) (by decide) (by rw [List.length_map, topQ_len]; exact hl) fun d hd => ?_) (itF_map qs))) ea_nil) (cd_tuple rfl)) rfl
  obtain ⟨n, hn, rfl⟩ := List.mem_map.mp hd
  show EvD K _ _ (ratS true (Rat.divInt n ((lineN qs : Nat) : Int)))
  exact ed_call (n, ((lineN qs : Nat) : Int)) (by by_place <;> by_in) (by show _ ≠ _; omega) rfl
theorem scRowSum : FnScope ["one", "two", "tops", "k"] ["one", "two"] (defScope sRowSum) := ⟨rfl, rfl, rfl, by decide +kernel, rfl, by decide +kernel, by decide +kernel⟩
theorem okRowSum (T : Txt K mg) (c_Row : Cal P w K mg base 33 "row" ["tops", "line"] (spRow K)) : Cal P w K mg base 34 "row_sum" ["one", "two"] (spRowSum K) := by
  refine cal_mk T.f_RowSum T.g_RowSum scRowSum (fun vs H Q E h => spT_len (n := 2) (fun _ => rfl) h) (fun _ _ _ _ _ _ us hl => match us, hl with | [_, _], _ => rfl) (fun cdv A outer s H vs Q E hr h => ?_)
  refine ⟨_, (pss_cons (ps_setLc (i := 2) (own := [("k", 3)]) (g := gName 3) (by rfl) scRowSum.nd rfl rfl (sw_true rfl rfl rfl (by decide +kernel)) (pi_range1 (by rfl) T.b_range (pa_cons (pe_callB (DL.call_len_seqC (K := K) rfl) (by rfl) T.b_len (by decide +kernel) (pa_cons (pe_ix (DL.ix_seqC (K := K) rfl) (pv 0) pe_int (fun _ _ => rfl)) pa_nil)) pa_nil)) (blkOk_by (own := [("k", 3)]) (by kernel_rfl)) (fun _ _ _ _ _ => (pg_name (i := 3) scRowSum.nd rfl (by first | exact Or.inl rfl | exact Or.inr rfl))) (fun _ _ _ _ _ => pts_nil) (fun _ _ _ _ _ => (pe_op op_add (pe_op op_mulW (pe_ix (DL.ix_seqC (K := K) rfl) (pe_ix (DL.ix_seqC (K := K) rfl) (pv 0) pe_int (fun _ _ => rfl)) (pv 3) (fun _ _ => rfl)) (pe_ix (DL.ix_seqC (K := K) rfl) (pv 1) pe_int (fun _ _ => rfl))) (pe_op op_mulW (pe_ix (DL.ix_seqC (K := K) rfl) (pe_ix (DL.ix_seqC (K := K) rfl) (pv 1) pe_int (fun _ _ => rfl)) (pv 3) (fun _ _ => rfl)) (pe_ix (DL.ix_seqC (K := K) rfl) (pv 0) pe_int (fun _ _ => rfl))))))
      (pss_one (ps_ret (DL.pe_cal c_Row (hr.mono (by decide)) (pa_cons (pv 2) (pa_cons (pe_op op_mulW (pe_ix (DL.ix_seqC (K := K) rfl) (pv 0) pe_int (fun _ _ => rfl)) (pe_ix (DL.ix_seqC (K := K) rfl) (pv 1) pe_int (fun _ _ => rfl))) pa_nil)))))), ?_⟩
  refine sd_fn h (fun _ => Nat.le_of_ble_eq_true rfl) ?_
  try dsimp only [L2.cxOf]
  intro ⟨⟨k, a⟩, ⟨j, b⟩⟩ hp
  obtain ⟨hl, hz, ⟨a1, a2⟩, ⟨b1, b2⟩⟩ : a.length = b.length ∧ a.length ≤ 10000 ∧ SmQ 100000 a ∧ SmQ 100000 b := hp
  have la := line_pos' a
  have lb := line_pos' b
  have m0 := a2.mulW b2 (by decide)
  have len : ((dI (topsQ a)).length : Int) = (a.length : Int) := by rw [List.length_map, topQ_len]
  show SD K _ [.sh (seqD k [seqD k (dI (topsQ a)), .int ((lineN a : Nat) : Int)]), .sh (seqD j [seqD j (dI (topsQ b)), .int ((lineN b : Nat) : Int)]), .no, .no] _
  refine sd_then (sd_asgL (ds := dI (addR (topsQ a) ((lineN a : Nat) : Int) (topsQ b) ((lineN b : Nat) : Int))) (by
    unfold addR
    rw [topQ_len]
    refine el_rangeI (i := 3) _ (EvA.is (by by_place <;> by_in) (by rw [List.length_map, topQ_len])) (by decide) hz fun x hx => ?_
    have t1 := tops_at hx
    have t2 := tops_at (qs := b) (i := x) (by omega)
    have m1 := (a1 _ (tops_mem hx)).mulW b2 (by decide)
    have m2 := (b1 _ (tops_mem (qs := b) (i := x) (by omega))).mulW a2 (by decide)
    exact EvD.is (by by_place <;> by_in) (by rfl)) (sd_frz (i := 2) rfl rfl ?_))
  show SD K _ [.sh (seqD k [seqD k (dI (topsQ a)), .int ((lineN a : Nat) : Int)]), .sh (seqD j [seqD j (dI (topsQ b)), .int ((lineN b : Nat) : Int)]), .sh (.lst (dI (addR (topsQ a) ((lineN a : Nat) : Int) (topsQ b) ((lineN b : Nat) : Int)))), .no] _
  refine sd_ret (ed_call (false, addR (topsQ a) ((lineN a : Nat) : Int) (topsQ b) ((lineN b : Nat) : Int), ((lineN a : Nat) : Int) * ((lineN b : Nat) : Int)) (EvA.is (by by_place <;> by_in) (by rfl)) ⟨Int.mul_ne_zero (by omega) (by omega), ?_⟩ ?_) rfl
  · show (addR _ _ _ _).length ≤ 10000
    unfold addR
    rw [List.length_map, List.length_range, topQ_len]
    exact hz
  · show Ret.sh _ = Ret.sh _
    rw [rats_add (by omega) (by omega) (by rw [topQ_len, topQ_len]; exact hl), rats_tops, rats_tops]
theorem scRowScaled : FnScope ["one", "factor", "top"] ["one", "factor"] (defScope sRowScaled) := ⟨rfl, rfl, rfl, by decide +kernel, rfl, by decide +kernel, by decide +kernel⟩
theorem okRowScaled (T : Txt K mg) (c_Row : Cal P w K mg base 33 "row" ["tops", "line"] (spRow K)) : Cal P w K mg base 34 "row_scaled" ["one", "factor"] (spRowScaled K) := by
  refine cal_mk T.f_RowScaled T.g_RowScaled scRowScaled (fun vs H Q E h => spT_len (n := 2) (fun _ => rfl) h) (fun _ _ _ _ _ _ us hl => match us, hl with | [_, _], _ => rfl) (fun cdv A outer s H vs Q E hr h => ?_)
  refine ⟨_, (pss_one (ps_ret (DL.pe_cal c_Row (hr.mono (by decide)) (pa_cons (pe_lc (own := [("top", 2)]) (g := gName 2) (by rfl) scRowScaled.nd (DL.pi_seqC (K := K) rfl (pe_ix (DL.ix_seqC (K := K) rfl) (pv 0) pe_int (fun _ _ => rfl))) (blkOk_by (own := [("top", 2)]) (by kernel_rfl)) (fun _ _ _ _ _ => (pg_name (i := 2) scRowScaled.nd rfl (by first | exact Or.inl rfl | exact Or.inr rfl))) (fun _ _ _ _ _ => pts_nil) (fun _ _ _ _ _ => (pe_op op_mulW (pv 2) (pe_ix (DL.ix_seqC (K := K) rfl) (pv 1) pe_int (fun _ _ => rfl))))) (pa_cons (pe_op op_mulW (pe_ix (DL.ix_seqC (K := K) rfl) (pv 0) pe_int (fun _ _ => rfl)) (pe_ix (DL.ix_seqC (K := K) rfl) (pv 1) pe_int (fun _ _ => rfl))) pa_nil))))), ?_⟩
  refine sd_fn h (fun _ => Nat.le_of_ble_eq_true rfl) ?_
  try dsimp only [L2.cxOf]
  intro ⟨⟨k, a⟩, ⟨j, f⟩⟩ hp
  obtain ⟨hz, ⟨a1, a2⟩, ⟨f1, f2⟩⟩ : a.length ≤ 10000 ∧ SmQ 100000 a ∧ SmR 100000 f := hp
  have la := line_pos' a
  have lf := den_pos' f
  have m0 := a2.mulW f2 (by decide)
  show SD K _ [.sh (seqD k [seqD k (dI (topsQ a)), .int ((lineN a : Nat) : Int)]), .sh (seqD j [.int f.num, .int ((f.den : Nat) : Int)]), .no] _
  refine sd_ret (ed_call (false, byR (topsQ a) f.num, ((lineN a : Nat) : Int) * ((f.den : Nat) : Int)) (ea_cons (EvL.data (el_mapQ (k := k) (i := 2) (fun x => x * f.num) (by by_place <;> by_in) (by decide) (by rw [topQ_len]; exact hz) fun x hx => ?_)) (EvA.is (by by_place <;> by_in) (by rfl))) ⟨Int.mul_ne_zero (by omega) (by omega), ?_⟩ ?_) rfl
  · have m1 := (a1 x hx).mulW f1 (by decide)
    exact EvD.is (by by_place <;> by_in) (by rfl)
  · show (byR _ _).length ≤ 10000
    unfold byR
    rw [List.length_map, topQ_len]
    exact hz
  · show Ret.sh _ = Ret.sh _
    rw [rats_by, rats_tops, Rat.num_divInt_den]
theorem scDot : FnScope ["one", "two", "total", "k"] ["one", "two"] (defScope sDot) := ⟨rfl, rfl, rfl, by decide +kernel, rfl, by decide +kernel, by decide +kernel⟩
theorem okDot (T : Txt K mg) (c_Ratio : Cal P w K mg base 33 "ratio" ["top", "bottom"] (spRatio K)) : Cal P w K mg base 34 "dot" ["one", "two"] (spDot K) := by
  refine cal_mk T.f_Dot T.g_Dot scDot (fun vs H Q E h => spT_len (n := 2) (fun _ => rfl) h) (fun _ _ _ _ _ _ us hl => match us, hl with | [_, _], _ => rfl) (fun cdv A outer s H vs Q E hr h => ?_)
  refine ⟨_, (pss_cons (ps_set (i := 2) scDot.nd rfl (by first | exact Or.inl rfl | exact Or.inr rfl) (pe_callB (DL.cr_sumC (K := K) rfl rfl) (by rfl) T.b_sum (by decide +kernel) (pa_cons (pe_lc (own := [("k", 3)]) (g := gName 3) (by rfl) scDot.nd (pi_range1 (by rfl) T.b_range (pa_cons (pe_callB (DL.call_len_seqC (K := K) rfl) (by rfl) T.b_len (by decide +kernel) (pa_cons (pe_ix (DL.ix_seqC (K := K) rfl) (pv 0) pe_int (fun _ _ => rfl)) pa_nil)) pa_nil)) (blkOk_by (own := [("k", 3)]) (by kernel_rfl)) (fun _ _ _ _ _ => (pg_name (i := 3) scDot.nd rfl (by first | exact Or.inl rfl | exact Or.inr rfl))) (fun _ _ _ _ _ => pts_nil) (fun _ _ _ _ _ => (pe_op op_mulW (pe_ix (DL.ix_seqC (K := K) rfl) (pe_ix (DL.ix_seqC (K := K) rfl) (pv 0) pe_int (fun _ _ => rfl)) (pv 3) (fun _ _ => rfl)) (pe_ix (DL.ix_seqC (K := K) rfl) (pe_ix (DL.ix_seqC (K := K) rfl) (pv 1) pe_int (fun _ _ => rfl)) (pv 3) (fun _ _ => rfl))))) pa_nil)))
      (pss_one (ps_ret (DL.pe_cal c_Ratio (hr.mono (by decide)) (pa_cons (pv 2) (pa_cons (pe_op op_mulW (pe_ix (DL.ix_seqC (K := K) rfl) (pv 0) pe_int (fun _ _ => rfl)) (pe_ix (DL.ix_seqC (K := K) rfl) (pv 1) pe_int (fun _ _ => rfl))) pa_nil)))))), ?_⟩
  refine sd_fn h (fun _ => Nat.le_of_ble_eq_true rfl) ?_
  try dsimp only [L2.cxOf]
  intro ⟨⟨k, a⟩, ⟨j, b⟩⟩ hp
  obtain ⟨hl, hz, ⟨a1, a2⟩, ⟨b1, b2⟩⟩ : a.length = b.length ∧ a.length ≤ 10000 ∧ SmQ 100000 a ∧ SmQ 100000 b := hp
  have la := line_pos' a
  have lb := line_pos' b
  have m0 := a2.mulW b2 (by decide)
  show SD K _ [.sh (seqD k [seqD k (dI (topsQ a)), .int ((lineN a : Nat) : Int)]), .sh (seqD j [seqD j (dI (topsQ b)), .int ((lineN b : Nat) : Int)]), .no, .no] _
  refine sd_then (sd_asg (d := .int (dotR (topsQ a) (topsQ b))) (EvD.is (ed_cb (as := [.lst (dI ((List.range a.length).map fun x => (topsQ a).getD x 0 * (topsQ b).getD x 0))]) (ea_cons (EvL.data (el_rangeI (i := 3) _ (EvA.is (by by_place <;> by_in) (by rw [List.length_map, topQ_len])) (by decide) hz fun x hx => ?_)) ea_nil) (cd_sum (.inl rfl))) ?_) ?_)
  · have t1 := tops_at hx
    have t2 := tops_at (qs := b) (i := x) (by omega)
    have m1 := (a1 _ (tops_mem hx)).mulW (b1 _ (tops_mem (qs := b) (i := x) (by omega))) (by decide)
    exact EvD.is (by by_place <;> by_in) (by rfl)
  · unfold dotR
    rw [topQ_len]
  · show SD K _ [.sh (seqD k [seqD k (dI (topsQ a)), .int ((lineN a : Nat) : Int)]), .sh (seqD j [seqD j (dI (topsQ b)), .int ((lineN b : Nat) : Int)]), .sh (.int (dotR (topsQ a) (topsQ b))), .no] _
    refine sd_ret (ed_call (dotR (topsQ a) (topsQ b), ((lineN a : Nat) : Int) * ((lineN b : Nat) : Int)) (EvA.is (by by_place <;> by_in) (by rfl)) (Int.mul_ne_zero (by omega) (by omega)) ?_) rfl
    show Ret.sh _ = Ret.sh _
    rw [div_dot (by omega) (by omega) (by rw [topQ_len, topQ_len]; exact hl), rats_tops, rats_tops]
end
end K00

set_option Elab.async false
set_option linter.all false
set_option maxRecDepth 100000
set_option maxHeartbeats 4000000
set_option exponentiation.threshold 5000
namespace K00
open PySem PySem.Spec PyProof.Rows L2 DL R0
open M hiding tops_len
open LS hiding spRatio spRow spRowOf
local macro_rules | `(tactic| by_item) => `(tactic| with_reducible first
  | exact DL.ed_var (by with_unfolding_all rfl) | exact DL.ed_int | exact DL.ed_bl | exact DL.ed_non | exact DL.ed_str | exact DL.ea_nil | exact DL.et_yes
  | apply DL.ea_cons | apply DL.ed_op | apply DL.ed_un | apply DL.ed_lst | apply DL.ed_fld | (show L2.Cls _ _; with_reducible assumption) | (show L2.NoAttr _ _ _; with_reducible assumption) | (show List.lookup _ _ = _; with_unfolding_all rfl) | (show List.length _ ≤ PySem.sizeLine; exact Nat.le_of_ble_eq_true (by with_unfolding_all rfl)) | apply DL.ed_isi | apply DL.ed_cb
  | exact DL.od_I0 | exact DL.od_B0 | exact DL.od_eqI | exact DL.od_neI | exact DL.od_eqS | exact DL.od_isN | exact DL.od_notN | (apply DL.od_divX) | (apply DL.od_divN) | apply DL.od_I | apply DL.od_ix | exact DL.ud_I
  | apply DL.cd_len | exact DL.cd_int | exact DL.cd_intB | exact DL.cd_1 | exact DL.cd_gcd | apply DL.cd_lcmX | exact DL.cd_min3 | exact DL.cd_2
  | apply DL.et_test | apply DL.et_B | apply DL.et_not | apply DL.ed_notV
  | (show DL.tyB _ = _; with_unfolding_all rfl) | (show DL.itemsOf _ = _; with_unfolding_all rfl) | exact DL.seqD_items | (show L2.atI _ _ = _; with_reducible assumption) | (show L2.atI _ _ = _; exact L2.atI_nat (by with_reducible assumption)) | exact DL.atI_zero | exact DL.atI_one | (show L2.atI _ _ = _; with_unfolding_all rfl) | (show L2.kitB _ _ = _; first | exact DL.kb_NoneType_int | exact DL.kb_NoneType_bool | exact DL.kb_NoneType_tuple | exact DL.kb_NoneType_list | exact DL.kb_NoneType_str | exact DL.kb_NoneType_dict | exact DL.kb_bool_int | exact DL.kb_bool_bool | exact DL.kb_bool_tuple | exact DL.kb_bool_list | exact DL.kb_bool_str | exact DL.kb_bool_dict | exact DL.kb_int_int | exact DL.kb_int_bool | exact DL.kb_int_tuple | exact DL.kb_int_list | exact DL.kb_int_str | exact DL.kb_int_dict | exact DL.kb_str_int | exact DL.kb_str_bool | exact DL.kb_str_tuple | exact DL.kb_str_list | exact DL.kb_str_str | exact DL.kb_str_dict | exact DL.kb_list_int | exact DL.kb_list_bool | exact DL.kb_list_tuple | exact DL.kb_list_list | exact DL.kb_list_str | exact DL.kb_list_dict | exact DL.kb_tuple_int | exact DL.kb_tuple_bool | exact DL.kb_tuple_tuple | exact DL.kb_tuple_list | exact DL.kb_tuple_str | exact DL.kb_tuple_dict | exact DL.kb_dict_int | exact DL.kb_dict_bool | exact DL.kb_dict_tuple | exact DL.kb_dict_list | exact DL.kb_dict_str | exact DL.kb_dict_dict))
local macro_rules | `(tactic| by_place) => `(tactic| (repeat' by_item))
local macro_rules | `(tactic| by_in) => `(tactic| first | (with_reducible assumption) | (with_reducible exact DL.seqD_items) | (show (0 : Int) < _; omega) | (show (0 : Int) < _; decide +kernel) | exact M.mulS (by omega) (by omega) | exact M.mulP (by omega) (by omega) (by omega) | exact M.divS (by omega) (by omega) | exact ⟨by decide, by decide, by decide⟩ | exact ⟨by decide, by decide, by omega⟩ | exact L2.atI_nat (by assumption) | (show L2.atI _ _ = _; rfl))
section
variable {P : Program} {w : World} {K : PySem.W.Frag} {mg : Str → Option Value} {base : Heap}
theorem scLawRatio : FnScope ["top", "bottom", "common"] ["top", "bottom"] (defScope sLawRatio) := ⟨rfl, rfl, rfl, by decide +kernel, rfl, by decide +kernel, by decide +kernel⟩
theorem okLawRatio (T : Txt K mg) (c_LawGcd : Cal P w K mg base 1 "_law_gcd" ["one", "two"] (spLawGcd K)) (N : DL.Nos P K) : Cal P w K mg base 33 "_law_ratio" ["top", "bottom"] (spLawRatio K) := by
  refine cal_mk T.f_LawRatio T.g_LawRatio scLawRatio (fun vs H Q E h => spT_len (n := 2) (fun _ => rfl) h) (fun _ _ _ _ _ _ us hl => match us, hl with | [_, _], _ => rfl) (fun cdv A outer s H vs Q E hr h => ?_)
  have hp := DL.py_of (outer := outer) N hr (by decide) (by decide +kernel) (by decide +kernel)
  refine ⟨_, (pss_cons (ps_set (i := 2) scLawRatio.nd rfl (by first | exact Or.inl rfl | exact Or.inr rfl) (pe_op op_mulW (DL.pe_cal c_LawGcd (hr.mono (by decide)) (pa_cons (pv 0) (pa_cons (pv 1) pa_nil))) (pe_op op_sub pe_int (pe_op op_mulW pe_int (pe_callTy call_int1 (by rfl) T.b_int (by decide +kernel) (pa_cons (pe_cmpR op_lt (pv 1) pe_int (nomark _)) pa_nil))))))
      (pss_one (ps_ret (pe_tup (pa_cons (pe_op (DL.op_fdivN hp) (pv 0) (pv 2)) (pa_cons (pe_op (DL.op_fdivN hp) (pv 1) (pv 2)) pa_nil)))))), ?_⟩
  refine sd_fn h (fun _ => Nat.le_of_ble_eq_true rfl) ?_
  try dsimp only [L2.cxOf]
  intro ⟨t, b⟩ hp
  obtain ⟨h0, ht, hb⟩ : b ≠ 0 ∧ Sm 49000 t ∧ Sm 49000 b := hp
  have gp : (0 : Int) < ((Nat.gcd t.natAbs b.natAbs : Nat) : Int) := by have := Nat.gcd_pos_of_pos_right t.natAbs (show 0 < b.natAbs by clear ht hb; omega); clear ht hb; omega
  have gs : Sm 49000 ((Nat.gcd t.natAbs b.natAbs : Nat) : Int) := smN (Nat.lt_of_le_of_lt (Nat.le_of_dvd (by clear ht hb gp; omega) (Nat.gcd_dvd_right _ _)) hb)
  have e := divInt_pos (t := if b < 0 then -t else t) (b := if b < 0 then -b else b) (by clear ht hb gs; split <;> omega)
  have e0 : Rat.divInt (if b < 0 then -t else t) (if b < 0 then -b else b) = Rat.divInt t b := by
    split
    · exact div_neg t b
    · rfl
  rw [e0] at e
  unfold ratioM at e
  have eg : Nat.gcd (if b < 0 then -t else t).natAbs (if b < 0 then -b else b).natAbs = Nat.gcd t.natAbs b.natAbs := by
    split
    · rw [Int.natAbs_neg, Int.natAbs_neg]
    · rfl
  rw [eg] at e
  have e1 := congrArg Prod.fst e
  have e2 := congrArg Prod.snd e
  dsimp only at e1 e2
  show SD K _ [.sh (.int t), .sh (.int b), .no] _
  by_cases hs : b < 0
  · rw [if_pos hs] at e1 e2
    have m1 : CMulW ((Nat.gcd t.natAbs b.natAbs : Nat) : Int) (1 - 2 * (if decide (b < 0) = true then 1 else 0)) := by
      rw [if_pos (decide_eq_true hs)]
      exact gs.mulW (n := 3) (by unfold Sm; decide) (by decide)
    have m2 : CMulW 2 (if decide (b < 0) = true then 1 else 0) := by rw [if_pos (decide_eq_true hs)]; unfold CMulW; decide +kernel
    refine sd_then (sd_asg (d := .int (-((Nat.gcd t.natAbs b.natAbs : Nat) : Int))) (EvD.is (ed_op (ed_call (t, b) (by by_place) ⟨ht, hb⟩ rfl) (by by_place <;> by_in) (od_I m1)) ?_) ?_)
    · rw [if_pos (decide_eq_true hs)]
      congr 1
      show ((Nat.gcd t.natAbs b.natAbs : Nat) : Int) * -1 = _
      clear ht hb gs
      omega
    · show SD K _ [.sh (.int t), .sh (.int b), .sh (.int (-((Nat.gcd t.natAbs b.natAbs : Nat) : Int)))] _
      have nz : (-((Nat.gcd t.natAbs b.natAbs : Nat) : Int)) ≠ 0 := by clear ht hb gs; omega
      refine sd_ret (d := .tup [.int (t.fdiv (-((Nat.gcd t.natAbs b.natAbs : Nat) : Int))), .int (b.fdiv (-((Nat.gcd t.natAbs b.natAbs : Nat) : Int)))]) (ed_tup (ea_cons (ed_op (by by_place) (by by_place) (od_divN nz)) (ea_cons (ed_op (by by_place) (by by_place) (od_divN nz)) ea_nil)) (Nat.le_of_ble_eq_true rfl)) ?_
      show Ret.sh _ = Ret.sh (ratS true (Rat.divInt t b))
      have fd : ∀ x : Int, x.fdiv (-((Nat.gcd t.natAbs b.natAbs : Nat) : Int)) = (-x) / ((Nat.gcd t.natAbs b.natAbs : Nat) : Int) := fun x => by
        rw [← Int.fdiv_eq_ediv_of_nonneg _ (by clear ht hb gs; omega), ← Int.neg_fdiv_neg (-x), Int.neg_neg]
      rw [fd, fd, e1, e2]
      rfl
  · rw [if_neg hs] at e1 e2
    have m1 : CMulW ((Nat.gcd t.natAbs b.natAbs : Nat) : Int) (1 - 2 * (if decide (b < 0) = true then 1 else 0)) := by
      rw [if_neg (by rw [decide_eq_false hs]; decide)]
      exact gs.mulW (n := 3) (by unfold Sm; decide) (by decide)
    have m2 : CMulW 2 (if decide (b < 0) = true then 1 else 0) := by rw [if_neg (by rw [decide_eq_false hs]; decide)]; unfold CMulW; decide +kernel
    refine sd_then (sd_asg (d := .int (((Nat.gcd t.natAbs b.natAbs : Nat) : Int))) (EvD.is (ed_op (ed_call (t, b) (by by_place) ⟨ht, hb⟩ rfl) (by by_place <;> by_in) (od_I m1)) ?_) ?_)
    · rw [if_neg (by rw [decide_eq_false hs]; decide)]
      congr 1
      show ((Nat.gcd t.natAbs b.natAbs : Nat) : Int) * 1 = _
      rw [Int.mul_one]
    · show SD K _ [.sh (.int t), .sh (.int b), .sh (.int (((Nat.gcd t.natAbs b.natAbs : Nat) : Int)))] _
      have nz : (((Nat.gcd t.natAbs b.natAbs : Nat) : Int)) ≠ 0 := Int.ne_of_gt gp
      refine sd_ret (d := .tup [.int (t.fdiv (((Nat.gcd t.natAbs b.natAbs : Nat) : Int))), .int (b.fdiv (((Nat.gcd t.natAbs b.natAbs : Nat) : Int)))]) (ed_tup (ea_cons (ed_op (by by_place) (by by_place) (od_divN nz)) (ea_cons (ed_op (by by_place) (by by_place) (od_divN nz)) ea_nil)) (Nat.le_of_ble_eq_true rfl)) ?_
      show Ret.sh _ = Ret.sh (ratS true (Rat.divInt t b))
      rw [Int.fdiv_eq_ediv_of_nonneg _ (Int.le_of_lt gp), Int.fdiv_eq_ediv_of_nonneg _ (Int.le_of_lt gp), e1, e2]
      rfl
theorem scLawIsRatio : FnScope ["value"] ["value"] (defScope sLawIsRatio) := ⟨rfl, rfl, rfl, by decide +kernel, rfl, by decide +kernel, by decide +kernel⟩
theorem okLawIsRatio (T : Txt K mg) (c_LawWhole : Cal P w K mg base 1 "_law_whole" ["value"] (spLawWhole K)) (c_LawGcd : Cal P w K mg base 1 "_law_gcd" ["one", "two"] (spLawGcd K)) : Cal P w K mg base 2 "_law_is_ratio" ["value"] (spLawIsRatio K) := by
  refine cal_mk T.f_LawIsRatio T.g_LawIsRatio scLawIsRatio (fun vs H Q E h => spT_len (n := 1) (fun _ => rfl) h) (fun _ _ _ _ _ _ us hl => match us, hl with | [_], _ => rfl) (fun cdv A outer s H vs Q E hr h => ?_)
  refine ⟨_, (pss_cons (ps_if (PW.pt (pw_or (pt_not (pt_val (pe_callB (DL.call_isiC (K := K) rfl) (by rfl) T.b_isinstance (by decide +kernel) (pa_cons (pv 0) (pa_cons (pe_bltn (v := .ty "tuple") (by rfl) T.b_tuple (by decide +kernel) rfl) pa_nil))))) (pw_or (pt_cmpR op_ne (pe_callB (DL.call_len_seqC (K := K) rfl) (by rfl) T.b_len (by decide +kernel) (pa_cons (pv 0) pa_nil)) pe_int (nomark _)) (pw_or (pt_not (pt_val (DL.pe_cal c_LawWhole (hr.mono (by decide)) (pa_cons (pe_ix (DL.ix_seqC (K := K) rfl) (pv 0) pe_int (fun _ _ => rfl)) pa_nil)))) (pw_or1 (pt_not (pt_val (DL.pe_cal c_LawWhole (hr.mono (by decide)) (pa_cons (pe_ix (DL.ix_seqC (K := K) rfl) (pv 0) pe_int (fun _ _ => rfl)) pa_nil)))))))))
      (pss_one (ps_ret pe_bl))
      pss_nil)
      (pss_one (ps_ret (pe_and (pe_cmpR op_ge (pe_ix (DL.ix_seqC (K := K) rfl) (pv 0) pe_int (fun _ _ => rfl)) pe_int (nomark _)) (pe_one (pe_cmpR op_eq (DL.pe_cal c_LawGcd (hr.mono (by decide)) (pa_cons (pe_ix (DL.ix_seqC (K := K) rfl) (pv 0) pe_int (fun _ _ => rfl)) (pa_cons (pe_ix (DL.ix_seqC (K := K) rfl) (pv 0) pe_int (fun _ _ => rfl)) pa_nil))) pe_int (nomark _))))))), ?_⟩
  refine sd_fn h (fun _ => Nat.le_of_ble_eq_true rfl) ?_
  try dsimp only [L2.cxOf]
  intro q hp
  obtain ⟨h1, h2⟩ : Sm 49000 q.num ∧ Sm 49000 ((q.den : Nat) : Int) := hp
  have dp := den_pos' q
  show SD K _ [.sh (.tup [.int q.num, .int ((q.den : Nat) : Int)])] _
  refine sd_then (sd_if (x := false) (EvT.is (et_or (x := false) (et_not (x := true) (et_B (by by_place))) fun _ => et_or (x := false) (EvT.is (by by_place) (by rfl)) fun _ => et_or (x := false) (et_not (x := true) (et_B (ed_call q.num (by by_place <;> by_in) trivial rfl))) fun _ => et_not (x := true) (et_B (ed_call ((q.den : Nat) : Int) (by by_place <;> by_in) trivial rfl))) (by rfl)) (fun h => by cases h) (fun _ => sd_next ?_))
  show SD K _ [.sh (.tup [.int q.num, .int ((q.den : Nat) : Int)])] _
  refine sd_ret (d := .bl true) (EvD.is (ed_andV (x := decide (((q.den : Nat) : Int) ≥ 1)) (y := true) (by by_place <;> by_in) fun _ => EvD.is (ed_op (ed_call (q.num, ((q.den : Nat) : Int)) (by by_place <;> by_in) ⟨h1, h2⟩ rfl) (by by_place) od_eqI) ?_) ?_) rfl
  · have e := ratio_gcd q
    rw [e]
    rfl
  · rw [decide_eq_true (by clear h1 h2; omega)]
    rfl
theorem scLawJust : FnScope ["value", "top", "bottom"] ["value", "top", "bottom"] (defScope sLawJust) := ⟨rfl, rfl, rfl, by decide +kernel, rfl, by decide +kernel, by decide +kernel⟩
theorem okLawJust (T : Txt K mg) (c_LawIsRatio : Cal P w K mg base 2 "_law_is_ratio" ["value"] (spLawIsRatio K)) : Cal P w K mg base 3 "_law_just" ["value", "top", "bottom"] (spLawJust K) := by
  refine cal_mk T.f_LawJust T.g_LawJust scLawJust (fun vs H Q E h => spT_len (n := 3) (fun _ => rfl) h) (fun _ _ _ _ _ _ us hl => match us, hl with | [_, _, _], _ => rfl) (fun cdv A outer s H vs Q E hr h => ?_)
  refine ⟨_, (pss_one (ps_ret (pe_and (DL.pe_cal c_LawIsRatio (hr.mono (by decide)) (pa_cons (pv 0) pa_nil)) (pe_one (pe_cmpR op_eq (pe_op op_mulW (pe_ix (DL.ix_seqC (K := K) rfl) (pv 0) pe_int (fun _ _ => rfl)) (pv 2)) (pe_op op_mulW (pv 1) (pe_ix (DL.ix_seqC (K := K) rfl) (pv 0) pe_int (fun _ _ => rfl))) (nomark _)))))), ?_⟩
  refine sd_fn h (fun _ => Nat.le_of_ble_eq_true rfl) ?_
  try dsimp only [L2.cxOf]
  intro ⟨t, b⟩ hp
  obtain ⟨h0, ht, hb⟩ : b ≠ 0 ∧ Sm 49000 t ∧ Sm 49000 b := hp
  have hz := ratio_le h0 ht hb
  have e := cross (t := t) h0
  generalize hq : Rat.divInt t b = q at hz e
  have z1 : Sm 49000 q.num := hz.1
  have z2 : Sm 49000 ((q.den : Nat) : Int) := smN hz.2
  have m1 := z1.mulW hb (by decide)
  have m2 := ht.mulW z2 (by decide)
  show SD K _ [.sh (ratS true q), .sh (.int t), .sh (.int b)] _
  refine sd_ret (d := .bl true) (EvD.is (ed_andV (x := true) (y := true) (ed_call q (by by_place) ⟨z1, z2⟩ rfl) fun _ => EvD.is (?_ : EvD K _ _ (.bl (decide (q.num * b = t * ((q.den : Nat) : Int))))) (by rw [decide_eq_true e])) rfl) rfl
  show EvD K _ (shE [.sh (.tup [.int q.num, .int ((q.den : Nat) : Int)]), .sh (.int t), .sh (.int b)]) _
  by_place <;> by_in
theorem scLawTold : FnScope ["value", "due"] ["value", "due"] (defScope sLawTold) := ⟨rfl, rfl, rfl, by decide +kernel, rfl, by decide +kernel, by decide +kernel⟩
theorem okLawTold (T : Txt K mg) (c_LawWhole : Cal P w K mg base 1 "_law_whole" ["value"] (spLawWhole K)) : Cal P w K mg base 2 "_law_told" ["value", "due"] (spLawTold K) := by
  refine cal_mk T.f_LawTold T.g_LawTold scLawTold (fun vs H Q E h => spT_len (n := 2) (fun _ => rfl) h) (fun _ _ _ _ _ _ us hl => match us, hl with | [_, _], _ => rfl) (fun cdv A outer s H vs Q E hr h => ?_)
  refine ⟨_, (pss_cons (ps_if (PW.pt (pw_or (pt_not (pt_val (pe_callB (DL.call_isiC (K := K) rfl) (by rfl) T.b_isinstance (by decide +kernel) (pa_cons (pv 0) (pa_cons (pe_bltn (v := .ty "tuple") (by rfl) T.b_tuple (by decide +kernel) rfl) pa_nil))))) (pw_or (pt_cmpR op_ne (pe_callB (DL.call_len_seqC (K := K) rfl) (by rfl) T.b_len (by decide +kernel) (pa_cons (pv 0) pa_nil)) pe_int (nomark _)) (pw_or (pt_not (pt_val (DL.pe_cal c_LawWhole (hr.mono (by decide)) (pa_cons (pe_ix (DL.ix_seqC (K := K) rfl) (pv 0) pe_int (fun _ _ => rfl)) pa_nil)))) (pw_or1 (pt_not (pt_val (DL.pe_cal c_LawWhole (hr.mono (by decide)) (pa_cons (pe_ix (DL.ix_seqC (K := K) rfl) (pv 0) pe_int (fun _ _ => rfl)) pa_nil)))))))))
      (pss_one (ps_ret pe_bl))
      pss_nil)
      (pss_one (ps_ret (pe_and (pe_cmpR op_eq (pe_ix (DL.ix_seqC (K := K) rfl) (pv 0) pe_int (fun _ _ => rfl)) (pe_ix (DL.ix_seqC (K := K) rfl) (pv 1) pe_int (fun _ _ => rfl)) (nomark _)) (pe_one (pe_cmpR op_eq (pe_ix (DL.ix_seqC (K := K) rfl) (pv 0) pe_int (fun _ _ => rfl)) (pe_ix (DL.ix_seqC (K := K) rfl) (pv 1) pe_int (fun _ _ => rfl)) (nomark _))))))), ?_⟩
  refine sd_fn h (fun _ => Nat.le_of_ble_eq_true rfl) ?_
  try dsimp only [L2.cxOf]
  intro ⟨a, b⟩ _
  show SD K _ [.sh (.tup [.int a, .int b]), .sh (.tup [.int a, .int b])] _
  refine sd_then (sd_if (x := false) (EvT.is (et_or (x := false) (et_not (x := true) (et_B (by by_place))) fun _ => et_or (x := false) (EvT.is (by by_place) (by rfl)) fun _ => et_or (x := false) (et_not (x := true) (et_B (ed_call a (by by_place <;> by_in) trivial rfl))) fun _ => et_not (x := true) (et_B (ed_call b (by by_place <;> by_in) trivial rfl))) (by rfl)) (fun h => by cases h) (fun _ => sd_next ?_))
  show SD K _ [.sh (.tup [.int a, .int b]), .sh (.tup [.int a, .int b])] _
  exact sd_ret (d := .bl true) (EvD.is (ed_andV (x := decide (a = a)) (y := decide (b = b)) (by by_place <;> by_in) fun _ => by by_place <;> by_in) (by rw [decide_eq_true rfl, decide_eq_true rfl]; rfl)) rfl
theorem scLawSame : FnScope ["value", "own", "k"] ["value", "own"] (defScope sLawSame) := ⟨rfl, rfl, rfl, by decide +kernel, rfl, by decide +kernel, by decide +kernel⟩
theorem okLawSame (T : Txt K mg) (c_LawIsRow : Cal P w K mg base 3 "_law_is_row" ["value", "size"] (spLawIsRow K)) : Cal P w K mg base 4 "_law_same" ["value", "own"] (spLawSame K) := by
  refine cal_mk T.f_LawSame T.g_LawSame scLawSame (fun vs H Q E h => spT_len (n := 2) (fun _ => rfl) h) (fun _ _ _ _ _ _ us hl => match us, hl with | [_, _], _ => rfl) (fun cdv A outer s H vs Q E hr h => ?_)
  refine ⟨_, (pss_cons (ps_if (pt_not (pt_val (DL.pe_cal c_LawIsRow (hr.mono (by decide)) (pa_cons (pv 0) (pa_cons (pe_callB (DL.call_len_seqC (K := K) rfl) (by rfl) T.b_len (by decide +kernel) (pa_cons (pe_ix (DL.ix_seqC (K := K) rfl) (pv 1) pe_int (fun _ _ => rfl)) pa_nil)) pa_nil)))))
      (pss_one (ps_ret pe_bl))
      pss_nil)
      (pss_one (ps_ret (pe_cmpR op_eq (pe_callB (DL.call_len_seqC (K := K) rfl) (by rfl) T.b_len (by decide +kernel) (pa_cons (pe_lc (own := [("k", 2)]) (g := gName 2) (by rfl) scLawSame.nd (pi_range1 (by rfl) T.b_range (pa_cons (pe_callB (DL.call_len_seqC (K := K) rfl) (by rfl) T.b_len (by decide +kernel) (pa_cons (pe_ix (DL.ix_seqC (K := K) rfl) (pv 1) pe_int (fun _ _ => rfl)) pa_nil)) pa_nil)) (blkOk_by (own := [("k", 2)]) (by kernel_rfl)) (fun _ _ _ _ _ => (pg_name (i := 2) scLawSame.nd rfl (by first | exact Or.inl rfl | exact Or.inr rfl))) (fun _ _ _ _ _ => (pts_one (pt_cmpR op_ne (pe_op op_mulW (pe_ix (DL.ix_seqC (K := K) rfl) (pe_ix (DL.ix_seqC (K := K) rfl) (pv 0) pe_int (fun _ _ => rfl)) (pv 2) (fun _ _ => rfl)) (pe_ix (DL.ix_seqC (K := K) rfl) (pv 1) pe_int (fun _ _ => rfl))) (pe_op op_mulW (pe_ix (DL.ix_seqC (K := K) rfl) (pe_ix (DL.ix_seqC (K := K) rfl) (pv 1) pe_int (fun _ _ => rfl)) (pv 2) (fun _ _ => rfl)) (pe_ix (DL.ix_seqC (K := K) rfl) (pv 0) pe_int (fun _ _ => rfl))) (nomark _)))) (fun _ _ _ _ _ => (pv 2))) pa_nil)) pe_int (nomark _))))), ?_⟩
  refine sd_fn h (fun _ => Nat.le_of_ble_eq_true rfl) ?_
  try dsimp only [L2.cxOf]
  intro ⟨ns, l⟩ hp
  obtain ⟨h0, hz, hn, hl⟩ : l ≠ 0 ∧ ns.length ≤ 10000 ∧ (∀ n ∈ ns, Sm 49000 n) ∧ Sm 49000 l := hp
  have hc := canon_le h0 hn hl
  have hr1 := isRow_canon (ratsOf ns l)
  have hx : ∀ k, k < ns.length → (topsQ (ratsOf ns l)).getD k 0 * l = ns.getD k 0 * ((lineN (ratsOf ns l) : Nat) : Int) := fun k hk => cross_row h0 hk
  have tl : (topsQ (ratsOf ns l)).length = ns.length := by rw [topQ_len, rats_len]
  rw [rats_len] at hr1
  show SD K _ [.sh (rowS true (ratsOf ns l)), .sh (rawS ns l), .no] _
  generalize ratsOf ns l = qs at hc hr1 hx tl
  have c1 : ∀ n ∈ topsQ qs, Sm 49000 n := hc.1
  have c2 : Sm 49000 ((lineN qs : Nat) : Int) := smN hc.2
  clear hc
  show SD K _ [.sh (.tup [.tup (dI (topsQ qs)), .int ((lineN qs : Nat) : Int)]), .sh (.lst [.lst (dI ns), .int l]), .no] _
  refine sd_then (sd_if (x := false) (EvT.is (et_not (x := true) (et_B (ed_call (topsQ qs, ((lineN qs : Nat) : Int), (ns.length : Int)) (EvA.is (by by_place <;> by_in) (by show [_, DL.D.int (((dI ns).length : Nat) : Int)] = _; rw [List.length_map])) ⟨c1, c2, by show (topsQ qs).length ≤ 10000; rw [tl]; exact hz⟩ (by show Ret.sh (.bl (isRowM (topsQ qs) ((lineN qs : Nat) : Int) (ns.length : Int))) = _; rw [hr1])))) (by rfl)) (fun h => by cases h) (fun _ => sd_next ?_))
  show SD K _ [.sh (.tup [.tup (dI (topsQ qs)), .int ((lineN qs : Nat) : Int)]), .sh (.lst [.lst (dI ns), .int l]), .no] _
  refine sd_ret (d := .bl true) (EvD.is (ed_op (ed_cb (ea_cons (EvL.data (el_noneR (i := 2) (n := ns.length) (EvA.is (by by_place <;> by_in) (by rw [List.length_map])) (by decide) hz fun j hj => ?_)) ea_nil) (cd_len (ds := []) rfl)) (by by_place) od_eqI) (by rfl)) rfl
  have t1 : atI (dI (topsQ qs)) (j : Int) = some (.int ((topsQ qs).getD j 0)) := atI_nat (dI_get (get_getD 0 (by rw [tl]; exact hj)))
  have t2 : atI (dI ns) (j : Int) = some (.int (ns.getD j 0)) := atI_nat (dI_get (get_getD 0 hj))
  have m1 := (c1 _ (M.getD_mem (l := topsQ qs) (i := j) 0 (by rw [tl]; exact hj))).mulW hl (by decide)
  have m2 := (hn _ (M.getD_mem (l := ns) (i := j) 0 hj)).mulW c2 (by decide)
  have e := hx j hj
  exact EvT.is (by by_place <;> by_in) (by rw [e]; simp)
end
end K00

set_option Elab.async false
set_option linter.all false
set_option maxRecDepth 100000
set_option maxHeartbeats 4000000
set_option exponentiation.threshold 5000
namespace R0
open PySem PySem.Spec PyProof.Rows L2 DL LS
open M hiding tops_len
section
variable {K : PySem.W.Frag}
def secondM (kind : Int) (ns : List Int) (l : Int) (nums : List Int) (line : Int) : List Int × Int :=
  if kind = 2 then (ns, l) else if kind = 3 then (ns.map fun x => -x, l) else if kind = 4 then (List.replicate ns.length 0, line) else if kind = 5 then (ns, line) else if kind = 6 then (nums, l) else (nums, line)
def spLawSecond (K : PySem.W.Frag) : Sp := spT K (α := Int × (List Int × Int) × List Int × Int) (fun a => [.int a.1, rawS a.2.1.1 a.2.1.2, .lst (dI a.2.2.1), .int a.2.2.2]) (fun a => a.2.1.1.length ≤ 10000)
  (fun a => .sh (rawS (secondM a.1 a.2.1.1 a.2.1.2 a.2.2.1 a.2.2.2).1 (secondM a.1 a.2.1.1 a.2.1.2 a.2.2.1 a.2.2.2).2))
def topsT : List Int := [10, 1000, 10 ^ (60 : Int).toNat, 4, (10 ^ (50 : Int).toNat) ^ (8 : Int).toNat, 10 ^ (8 : Int).toNat, (10 ^ (26 : Int).toNat) ^ (5 : Int).toNat, 10 ^ (20 : Int).toNat]
def halvesT : List Int := [3, 30, 10 ^ (30 : Int).toNat, 2, (10 ^ (50 : Int).toNat) ^ (4 : Int).toNat, 10 ^ (4 : Int).toNat, (10 ^ (13 : Int).toNat) ^ (5 : Int).toNat, 10 ^ (10 : Int).toNat]
theorem topsT_bd : ∀ x ∈ topsT, 0 < x ∧ x ≤ 10 ^ 400 := by decide +kernel
theorem halvesT_bd : ∀ x ∈ halvesT, 0 < x ∧ x ≤ 10 ^ 200 := by decide +kernel
def numbersM (cell : Int) (many size : Nat) (common : Bool) : List Int := match common with
  | true => (List.range many).map fun k => ((longM cell (many + 1) (halvesT.getD size 0)).getD k 0 - halvesT.getD size 0 / 2) * (1 + (longM cell (many + 1) (halvesT.getD size 0)).getD many 0)
  | false => (longM cell many (topsT.getD size 0)).map fun x => x - topsT.getD size 0 / 2
theorem numbersM_len (cell : Int) (many size : Nat) (common : Bool) : (numbersM cell many size common).length = many := by
  cases common with
  | true => show (List.map _ _).length = _; rw [List.length_map, List.length_range]
  | false => show (List.map _ _).length = _; rw [List.length_map, longM_len]
theorem numbersM_sm {cell : Int} {many size : Nat} (hs : size < 8) {common : Bool} : ∀ x ∈ numbersM cell many size common, Sm 1330 x := by
  have p400 : (10 : Int) ^ 400 < 2 ^ 1330 := by decide +kernel
  have p200 : (10 : Int) ^ 200 * 10 ^ 200 = 10 ^ 400 := by decide +kernel
  intro x hx
  cases common with
  | true =>
    obtain ⟨k, hk, rfl⟩ := List.mem_map.mp (show x ∈ List.map _ _ from hx)
    have hh := halvesT_bd _ (M.getD_mem (l := halvesT) (i := size) 0 hs)
    generalize halvesT.getD size 0 = h at hh
    have b1 := longM_lt hh.1 cell (many + 1) _ (M.getD_mem (l := longM cell (many + 1) h) (i := k) 0 (by rw [longM_len]; have := List.mem_range.mp hk; omega))
    have b2 := longM_lt hh.1 cell (many + 1) _ (M.getD_mem (l := longM cell (many + 1) h) (i := many) 0 (by rw [longM_len]; omega))
    generalize (longM cell (many + 1) h).getD k 0 = u at b1
    generalize (longM cell (many + 1) h).getD many 0 = v at b2
    unfold Sm
    rw [Int.natAbs_mul]
    have c1 : (u - h / 2).natAbs ≤ h.natAbs := by clear p400 p200; omega
    have c2 : (1 + v).natAbs ≤ h.natAbs := by clear p400 p200; omega
    have c3 : h.natAbs ≤ 10 ^ 200 := by
      have : (h.natAbs : Int) ≤ ((10 ^ 200 : Nat) : Int) := by
        rw [Int.natAbs_of_nonneg (Int.le_of_lt hh.1)]
        exact Int.le_trans hh.2 (by decide +kernel)
      exact Int.ofNat_le.mp this
    calc (u - h / 2).natAbs * (1 + v).natAbs ≤ 10 ^ 200 * 10 ^ 200 := Nat.mul_le_mul (Nat.le_trans c1 c3) (Nat.le_trans c2 c3)
      _ < 2 ^ 1330 := by decide +kernel
  | false =>
    obtain ⟨u, hu, rfl⟩ := List.mem_map.mp (show x ∈ List.map _ _ from hx)
    have hh := topsT_bd _ (M.getD_mem (l := topsT) (i := size) 0 hs)
    have b1 := longM_lt hh.1 cell many u hu
    generalize topsT.getD size 0 = h at hh b1
    have c1 : (u - h / 2).natAbs ≤ h.natAbs := by clear p400 p200; omega
    have c3 : h.natAbs ≤ 10 ^ 400 := by
      have : (h.natAbs : Int) ≤ ((10 ^ 400 : Nat) : Int) := by
        rw [Int.natAbs_of_nonneg (Int.le_of_lt hh.1)]
        exact Int.le_trans hh.2 (by decide +kernel)
      exact Int.ofNat_le.mp this
    exact Nat.lt_of_le_of_lt (Nat.le_trans c1 c3) (by decide +kernel)
def spLawNumbers (K : PySem.W.Frag) : Sp := spT K (α := Int × Nat × Nat × Bool) (fun a => [.int a.1, .int a.2.1, .int a.2.2.1, .bl a.2.2.2]) (fun a => a.2.1 ≤ 500 ∧ a.2.2.1 < 8) (fun a => .ow (dI (numbersM a.1 a.2.1 a.2.2.1 a.2.2.2)))
theorem q1 : CPow 10 60 := ⟨by decide, by decide, by decide⟩
theorem q2 : CPow 10 50 := ⟨by decide, by decide, by decide⟩
theorem q3 : CPowW (10 ^ (50 : Int).toNat) 8 := by unfold CPowW; decide +kernel
theorem q4 : CPow 10 8 := ⟨by decide, by decide, by decide⟩
theorem q5 : CPow 10 26 := ⟨by decide, by decide, by decide⟩
theorem q6 : CPowW (10 ^ (26 : Int).toNat) 5 := by unfold CPowW; decide +kernel
theorem q7 : CPow 10 20 := ⟨by decide, by decide, by decide⟩
theorem q8 : CPow 10 30 := ⟨by decide, by decide, by decide⟩
theorem q9 : CPowW (10 ^ (50 : Int).toNat) 4 := by unfold CPowW; decide +kernel
theorem q10 : CPow 10 4 := ⟨by decide, by decide, by decide⟩
theorem q11 : CPow 10 13 := ⟨by decide, by decide, by decide⟩
theorem q12 : CPowW (10 ^ (13 : Int).toNat) 5 := by unfold CPowW; decide +kernel
theorem q13 : CPow 10 10 := ⟨by decide, by decide, by decide⟩
theorem nat_sm {x : Int} {n : Nat} (h0 : 0 < x) (h : x ≤ 10 ^ 400) : Sm 1330 x := by
  have : (x.natAbs : Int) ≤ ((10 ^ 400 : Nat) : Int) := by
    rw [Int.natAbs_of_nonneg (Int.le_of_lt h0)]
    exact Int.le_trans h (by decide +kernel)
  exact Nat.lt_of_le_of_lt (Int.ofNat_le.mp this) (by decide +kernel)
theorem tops_sm {size : Nat} (h : size < 8) : 0 < topsT.getD size 0 ∧ Sm 1330 (topsT.getD size 0) := by
  have := topsT_bd _ (M.getD_mem (l := topsT) (i := size) 0 h)
  exact ⟨this.1, nat_sm (n := 0) this.1 this.2⟩
theorem halves_sm {size : Nat} (h : size < 8) : 0 < halvesT.getD size 0 ∧ Sm 1330 (halvesT.getD size 0) := by
  have := halvesT_bd _ (M.getD_mem (l := halvesT) (i := size) 0 h)
  exact ⟨this.1, nat_sm (n := 0) this.1 (Int.le_trans this.2 (by decide +kernel))⟩
end
end R0
namespace R0
open PySem PySem.Spec PyProof.Rows L2 DL LS
open M hiding tops_len
section
variable {K : PySem.W.Frag}
def gv_Row_line_tops : List V → List V := fun zs => match zs with
  | [z0, z1] => [z1, z0]
  | _ => []
def gv_Row_tops_line : List V → List V := fun zs => match zs with
  | [z0, z1] => [z0, z1]
  | _ => []
def gv_Row_tops : List V → List V := fun zs => match zs with
  | [z0] => [z0, .int 1]
  | _ => []
def gv_RowItems_one : List V → List V := fun zs => match zs with
  | [z0] => [z0]
  | _ => []
def gv_RowOf_ratios : List V → List V := fun zs => match zs with
  | [z0] => [z0]
  | _ => []
theorem gvOne {d : DL.D} (gv : List V → List V) (e : ∀ z, gv [z] = [z]) (H : Hp) (zs : List V) (r : Rps K H zs [d]) : Rps K H (gv zs) [d] := by
  cases r with
  | cons r1 r =>
    cases r
    rw [e]
    exact .cons r1 .nil
theorem gvTurn {a b : DL.D} (gv : List V → List V) (e : ∀ x y, gv [x, y] = [y, x]) (H : Hp) (zs : List V) (r : Rps K H zs [a, b]) : Rps K H (gv zs) [b, a] := by
  cases r with
  | cons r1 r =>
    cases r with
    | cons r2 r =>
      cases r
      rw [e]
      exact .cons r2 (.cons r1 .nil)
theorem gvSame {a b : DL.D} (gv : List V → List V) (e : ∀ x y, gv [x, y] = [x, y]) (H : Hp) (zs : List V) (r : Rps K H zs [a, b]) : Rps K H (gv zs) [a, b] := by
  cases r with
  | cons r1 r =>
    cases r with
    | cons r2 r =>
      cases r
      rw [e]
      exact .cons r1 (.cons r2 .nil)
theorem gvRow {ns : List Int} {l : Int} (H : Hp) (zs : List V) (r : Rps K H zs [.int l, .lst (dI ns)]) : Rps K H (gv_Row_line_tops zs) [seqD false (dI ns), .int l] := gvTurn _ (fun _ _ => rfl) H zs r
theorem gvRow1 {ns : List Int} (H : Hp) (zs : List V) (r : Rps K H zs [.lst (dI ns)]) : Rps K H (gv_Row_tops zs) [seqD false (dI ns), .int 1] := by
  cases r with
  | cons r1 r =>
    cases r
    exact .cons r1 (.cons (.int 1) .nil)
theorem gvItems {qs : List Rat} (H : Hp) (zs : List V) (r : Rps K H zs [rowS true qs]) : Rps K H (gv_RowItems_one zs) [rowS true qs] := gvOne _ (fun _ => rfl) H zs r
theorem gvRowOf {rs : List (Bool × Rat)} (H : Hp) (zs : List V) (r : Rps K H zs [.lst (ratsD rs)]) : Rps K H (gv_RowOf_ratios zs) [seqD false (ratsD rs)] := gvOne _ (fun _ => rfl) H zs r
def listF (d : DL.D) : DL.D := match d with
  | .tup xs => .lst xs
  | _ => .non
theorem listF_at (q : Rat) : listF (ratS true q) = ratS false q := rfl
def spLawMade (K : PySem.W.Frag) : Sp := spT K (α := (List Int × Int) × Nat) (fun a => [rawS a.1.1 a.1.2, .int a.2]) (fun a => a.1.2 ≠ 0 ∧ a.1.1.length ≤ 10000 ∧ a.2 < a.1.1.length ∧ SmN 40000 a.1) (fun a => .sh (rowS true (ratsOf a.1.1 a.1.2)))
def spLawItems (K : PySem.W.Frag) : Sp := spT K (α := List Int × Int) (fun a => [rowS true (ratsOf a.1 a.2), rawS a.1 a.2]) (fun a => a.2 ≠ 0 ∧ a.1.length ≤ 10000 ∧ SmN 40000 a) (fun _ => .sh (.bl true))
end
end R0

set_option Elab.async false
set_option linter.all false
set_option maxRecDepth 100000
set_option maxHeartbeats 4000000
set_option exponentiation.threshold 5000
namespace K00
open PySem PySem.Spec PyProof.Rows L2 DL R0
open M hiding tops_len
open LS hiding spRatio spRow spRowOf
local macro_rules | `(tactic| by_item) => `(tactic| with_reducible first
  | exact DL.ed_var (by with_unfolding_all rfl) | exact DL.ed_int | exact DL.ed_bl | exact DL.ed_non | exact DL.ed_str | exact DL.ea_nil | exact DL.et_yes
  | apply DL.ea_cons | apply DL.ed_op | apply DL.ed_un | apply DL.ed_lst | apply DL.ed_fld | (show L2.Cls _ _; with_reducible assumption) | (show L2.NoAttr _ _ _; with_reducible assumption) | (show List.lookup _ _ = _; with_unfolding_all rfl) | (show List.length _ ≤ PySem.sizeLine; exact Nat.le_of_ble_eq_true (by with_unfolding_all rfl)) | apply DL.ed_isi | apply DL.ed_cb
  | exact DL.od_I0 | exact DL.od_B0 | exact DL.od_eqI | exact DL.od_neI | exact DL.od_eqS | exact DL.od_isN | exact DL.od_notN | (apply DL.od_divX) | (apply DL.od_divN) | apply DL.od_I | apply DL.od_ix | exact DL.ud_I
  | apply DL.cd_len | exact DL.cd_int | exact DL.cd_intB | exact DL.cd_1 | exact DL.cd_gcd | apply DL.cd_lcmX | exact DL.cd_min3 | exact DL.cd_2
  | apply DL.et_test | apply DL.et_B | apply DL.et_not | apply DL.ed_notV
  | (show DL.tyB _ = _; with_unfolding_all rfl) | (show DL.itemsOf _ = _; with_unfolding_all rfl) | exact DL.seqD_items | (show L2.atI _ _ = _; with_reducible assumption) | (show L2.atI _ _ = _; exact L2.atI_nat (by with_reducible assumption)) | exact DL.atI_zero | exact DL.atI_one | (show L2.atI _ _ = _; with_unfolding_all rfl) | (show L2.kitB _ _ = _; first | exact DL.kb_NoneType_int | exact DL.kb_NoneType_bool | exact DL.kb_NoneType_tuple | exact DL.kb_NoneType_list | exact DL.kb_NoneType_str | exact DL.kb_NoneType_dict | exact DL.kb_bool_int | exact DL.kb_bool_bool | exact DL.kb_bool_tuple | exact DL.kb_bool_list | exact DL.kb_bool_str | exact DL.kb_bool_dict | exact DL.kb_int_int | exact DL.kb_int_bool | exact DL.kb_int_tuple | exact DL.kb_int_list | exact DL.kb_int_str | exact DL.kb_int_dict | exact DL.kb_str_int | exact DL.kb_str_bool | exact DL.kb_str_tuple | exact DL.kb_str_list | exact DL.kb_str_str | exact DL.kb_str_dict | exact DL.kb_list_int | exact DL.kb_list_bool | exact DL.kb_list_tuple | exact DL.kb_list_list | exact DL.kb_list_str | exact DL.kb_list_dict | exact DL.kb_tuple_int | exact DL.kb_tuple_bool | exact DL.kb_tuple_tuple | exact DL.kb_tuple_list | exact DL.kb_tuple_str | exact DL.kb_tuple_dict | exact DL.kb_dict_int | exact DL.kb_dict_bool | exact DL.kb_dict_tuple | exact DL.kb_dict_list | exact DL.kb_dict_str | exact DL.kb_dict_dict))
local macro_rules | `(tactic| by_place) => `(tactic| (repeat' by_item))
local macro_rules | `(tactic| by_in) => `(tactic| first | (with_reducible assumption) | (with_reducible exact DL.seqD_items) | (show (0 : Int) < _; omega) | (show (0 : Int) < _; decide +kernel) | exact M.mulS (by omega) (by omega) | exact M.mulP (by omega) (by omega) (by omega) | exact M.divS (by omega) (by omega) | exact ⟨by decide, by decide, by decide⟩ | exact ⟨by decide, by decide, by omega⟩ | exact L2.atI_nat (by assumption) | (show L2.atI _ _ = _; rfl))
section
variable {P : Program} {w : World} {K : PySem.W.Frag} {mg : Str → Option Value} {base : Heap}
theorem scLawAdded : FnScope ["one", "two", "k"] ["one", "two"] (defScope sLawAdded) := ⟨rfl, rfl, rfl, by decide +kernel, rfl, by decide +kernel, by decide +kernel⟩
theorem okLawAdded (T : Txt K mg)  : Cal P w K mg base 1 "_law_added" ["one", "two"] (spLawAdded K) := by
  refine cal_mk T.f_LawAdded T.g_LawAdded scLawAdded (fun vs H Q E h => spT_len (n := 2) (fun _ => rfl) h) (fun _ _ _ _ _ _ us hl => match us, hl with | [_, _], _ => rfl) (fun cdv A outer s H vs Q E hr h => ?_)
  refine ⟨_, (pss_one (ps_ret (pe_lst (pa_cons (pe_lc (own := [("k", 2)]) (g := gName 2) (by rfl) scLawAdded.nd (pi_range1 (by rfl) T.b_range (pa_cons (pe_callB (DL.call_len_seqC (K := K) rfl) (by rfl) T.b_len (by decide +kernel) (pa_cons (pe_ix (DL.ix_seqC (K := K) rfl) (pv 0) pe_int (fun _ _ => rfl)) pa_nil)) pa_nil)) (blkOk_by (own := [("k", 2)]) (by kernel_rfl)) (fun _ _ _ _ _ => (pg_name (i := 2) scLawAdded.nd rfl (by first | exact Or.inl rfl | exact Or.inr rfl))) (fun _ _ _ _ _ => pts_nil) (fun _ _ _ _ _ => (pe_op op_add (pe_op op_mulW (pe_ix (DL.ix_seqC (K := K) rfl) (pe_ix (DL.ix_seqC (K := K) rfl) (pv 0) pe_int (fun _ _ => rfl)) (pv 2) (fun _ _ => rfl)) (pe_ix (DL.ix_seqC (K := K) rfl) (pv 1) pe_int (fun _ _ => rfl))) (pe_op op_mulW (pe_ix (DL.ix_seqC (K := K) rfl) (pe_ix (DL.ix_seqC (K := K) rfl) (pv 1) pe_int (fun _ _ => rfl)) (pv 2) (fun _ _ => rfl)) (pe_ix (DL.ix_seqC (K := K) rfl) (pv 0) pe_int (fun _ _ => rfl)))))) (pa_cons (pe_op op_mulW (pe_ix (DL.ix_seqC (K := K) rfl) (pv 0) pe_int (fun _ _ => rfl)) (pe_ix (DL.ix_seqC (K := K) rfl) (pv 1) pe_int (fun _ _ => rfl))) pa_nil))))), ?_⟩
  refine sd_fn h (fun _ => Nat.le_of_ble_eq_true rfl) ?_
  try dsimp only [L2.cxOf]
  intro ⟨⟨a, l⟩, ⟨b, m⟩⟩ hp
  obtain ⟨hl, hz, ⟨a1, a2⟩, ⟨b1, b2⟩⟩ : a.length = b.length ∧ a.length ≤ 10000 ∧ SmN 100000 (a, l) ∧ SmN 100000 (b, m) := hp
  have a2 : Sm 100000 l := a2
  have b2 : Sm 100000 m := b2
  have m0 := a2.mulW b2 (by decide)
  show SD K _ [.sh (.lst [.lst (dI a), .int l]), .sh (.lst [.lst (dI b), .int m]), .no] _
  refine sd_ret (d := rawS (addR a l b m) (l * m)) (ed_lst (ea_cons (EvL.data (el_rangeI (i := 2) _ (EvA.is (by by_place <;> by_in) (by rw [List.length_map])) (by decide) hz fun x hx => ?_)) (by by_place <;> by_in)) (Nat.le_of_ble_eq_true rfl)) rfl
  have t1 : atI (dI a) (x : Int) = some (.int (a.getD x 0)) := atI_nat (dI_get (get_getD 0 hx))
  have t2 : atI (dI b) (x : Int) = some (.int (b.getD x 0)) := atI_nat (dI_get (get_getD 0 (by omega)))
  have m1 := (a1 _ (M.getD_mem (l := a) (i := x) 0 hx)).mulW b2 (by decide)
  have m2 := (b1 _ (M.getD_mem (l := b) (i := x) 0 (by omega))).mulW a2 (by decide)
  exact EvD.is (by by_place <;> by_in) (by rfl)
theorem scLawBy : FnScope ["one", "factor", "top"] ["one", "factor"] (defScope sLawBy) := ⟨rfl, rfl, rfl, by decide +kernel, rfl, by decide +kernel, by decide +kernel⟩
theorem okLawBy (T : Txt K mg)  : Cal P w K mg base 1 "_law_by" ["one", "factor"] (spLawBy K) := by
  refine cal_mk T.f_LawBy T.g_LawBy scLawBy (fun vs H Q E h => spT_len (n := 2) (fun _ => rfl) h) (fun _ _ _ _ _ _ us hl => match us, hl with | [_, _], _ => rfl) (fun cdv A outer s H vs Q E hr h => ?_)
  refine ⟨_, (pss_one (ps_ret (pe_lst (pa_cons (pe_lc (own := [("top", 2)]) (g := gName 2) (by rfl) scLawBy.nd (DL.pi_listC (K := K) rfl (pe_ix (DL.ix_seqC (K := K) rfl) (pv 0) pe_int (fun _ _ => rfl))) (blkOk_by (own := [("top", 2)]) (by kernel_rfl)) (fun _ _ _ _ _ => (pg_name (i := 2) scLawBy.nd rfl (by first | exact Or.inl rfl | exact Or.inr rfl))) (fun _ _ _ _ _ => pts_nil) (fun _ _ _ _ _ => (pe_op op_mulW (pv 2) (pe_ix (DL.ix_seqC (K := K) rfl) (pv 1) pe_int (fun _ _ => rfl))))) (pa_cons (pe_op op_mulW (pe_ix (DL.ix_seqC (K := K) rfl) (pv 0) pe_int (fun _ _ => rfl)) (pe_ix (DL.ix_seqC (K := K) rfl) (pv 1) pe_int (fun _ _ => rfl))) pa_nil))))), ?_⟩
  refine sd_fn h (fun _ => Nat.le_of_ble_eq_true rfl) ?_
  try dsimp only [L2.cxOf]
  intro ⟨⟨a, l⟩, k, f, g⟩ hp
  obtain ⟨hz, ⟨a1, a2⟩, f1, f2⟩ : a.length ≤ 10000 ∧ SmN 100000 (a, l) ∧ Sm 100000 f ∧ Sm 100000 g := hp
  have a2 : Sm 100000 l := a2
  have m0 := a2.mulW f2 (by decide)
  show SD K _ [.sh (.lst [.lst (dI a), .int l]), .sh (seqD k [.int f, .int g]), .no] _
  refine sd_ret (d := rawS (byR a f) (l * g)) (ed_lst (ea_cons (EvL.data (el_mapI (i := 2) (fun x => x * f) (by by_place <;> by_in) (by decide) hz fun x hx => ?_)) (by by_place <;> by_in)) (Nat.le_of_ble_eq_true rfl)) rfl
  have m1 := (a1 x hx).mulW f1 (by decide)
  exact EvD.is (by by_place <;> by_in) (by rfl)
theorem scLawDotted : FnScope ["one", "two", "k"] ["one", "two"] (defScope sLawDotted) := ⟨rfl, rfl, rfl, by decide +kernel, rfl, by decide +kernel, by decide +kernel⟩
theorem okLawDotted (T : Txt K mg)  : Cal P w K mg base 1 "_law_dotted" ["one", "two"] (spLawDotted K) := by
  refine cal_mk T.f_LawDotted T.g_LawDotted scLawDotted (fun vs H Q E h => spT_len (n := 2) (fun _ => rfl) h) (fun _ _ _ _ _ _ us hl => match us, hl with | [_, _], _ => rfl) (fun cdv A outer s H vs Q E hr h => ?_)
  refine ⟨_, (pss_one (ps_ret (pe_lst (pa_cons (pe_callB (DL.cr_sumC (K := K) rfl rfl) (by rfl) T.b_sum (by decide +kernel) (pa_cons (pe_lc (own := [("k", 2)]) (g := gName 2) (by rfl) scLawDotted.nd (pi_range1 (by rfl) T.b_range (pa_cons (pe_callB (DL.call_len_seqC (K := K) rfl) (by rfl) T.b_len (by decide +kernel) (pa_cons (pe_ix (DL.ix_seqC (K := K) rfl) (pv 0) pe_int (fun _ _ => rfl)) pa_nil)) pa_nil)) (blkOk_by (own := [("k", 2)]) (by kernel_rfl)) (fun _ _ _ _ _ => (pg_name (i := 2) scLawDotted.nd rfl (by first | exact Or.inl rfl | exact Or.inr rfl))) (fun _ _ _ _ _ => pts_nil) (fun _ _ _ _ _ => (pe_op op_mulW (pe_ix (DL.ix_seqC (K := K) rfl) (pe_ix (DL.ix_seqC (K := K) rfl) (pv 0) pe_int (fun _ _ => rfl)) (pv 2) (fun _ _ => rfl)) (pe_ix (DL.ix_seqC (K := K) rfl) (pe_ix (DL.ix_seqC (K := K) rfl) (pv 1) pe_int (fun _ _ => rfl)) (pv 2) (fun _ _ => rfl))))) pa_nil)) (pa_cons (pe_op op_mulW (pe_ix (DL.ix_seqC (K := K) rfl) (pv 0) pe_int (fun _ _ => rfl)) (pe_ix (DL.ix_seqC (K := K) rfl) (pv 1) pe_int (fun _ _ => rfl))) pa_nil))))), ?_⟩
  refine sd_fn h (fun _ => Nat.le_of_ble_eq_true rfl) ?_
  try dsimp only [L2.cxOf]
  intro ⟨⟨a, l⟩, ⟨b, m⟩⟩ hp
  obtain ⟨hl, hz, ⟨a1, a2⟩, ⟨b1, b2⟩⟩ : a.length = b.length ∧ a.length ≤ 10000 ∧ SmN 100000 (a, l) ∧ SmN 100000 (b, m) := hp
  have a2 : Sm 100000 l := a2
  have b2 : Sm 100000 m := b2
  have m0 := a2.mulW b2 (by decide)
  show SD K _ [.sh (.lst [.lst (dI a), .int l]), .sh (.lst [.lst (dI b), .int m]), .no] _
  refine sd_ret (d := .lst [.int (dotR a b), .int (l * m)]) (ed_lst (ea_cons (ed_cb (as := [.lst (dI ((List.range a.length).map fun x => a.getD x 0 * b.getD x 0))]) (ea_cons (EvL.data (el_rangeI (i := 2) _ (EvA.is (by by_place <;> by_in) (by rw [List.length_map])) (by decide) hz fun x hx => ?_)) ea_nil) (cd_sum (.inl rfl))) (by by_place <;> by_in)) (Nat.le_of_ble_eq_true rfl)) rfl
  have t1 : atI (dI a) (x : Int) = some (.int (a.getD x 0)) := atI_nat (dI_get (get_getD 0 hx))
  have t2 : atI (dI b) (x : Int) = some (.int (b.getD x 0)) := atI_nat (dI_get (get_getD 0 (by omega)))
  have m1 := (a1 _ (M.getD_mem (l := a) (i := x) 0 hx)).mulW (b1 _ (M.getD_mem (l := b) (i := x) 0 (by omega))) (by decide)
  exact EvD.is (by by_place <;> by_in) (by rfl)
theorem scLawForm : FnScope ["one", "listed"] ["one", "listed"] (defScope sLawForm) := ⟨rfl, rfl, rfl, by decide +kernel, rfl, by decide +kernel, by decide +kernel⟩
theorem okLawForm (T : Txt K mg)  : Cal P w K mg base 1 "_law_form" ["one", "listed"] (spLawForm K) := by
  refine cal_mk T.f_LawForm T.g_LawForm scLawForm (fun vs H Q E h => spT_len (n := 2) (fun _ => rfl) h) (fun _ _ _ _ _ _ us hl => match us, hl with | [_, _], _ => rfl) (fun cdv A outer s H vs Q E hr h => ?_)
  refine ⟨_, (pss_cons (ps_if (pt_val (pv 1))
      (pss_one (ps_ret (pe_lst (pa_cons (pe_ifExp (pt_val (pe_callB (DL.call_isiC (K := K) rfl) (by rfl) T.b_isinstance (by decide +kernel) (pa_cons (pe_ix (DL.ix_seqC (K := K) rfl) (pv 0) pe_int (fun _ _ => rfl)) (pa_cons (pe_bltn (v := .ty "tuple") (by rfl) T.b_tuple (by decide +kernel) rfl) pa_nil)))) (pe_callTy (DL.call_list_ofC (K := K) rfl) (by rfl) T.b_list (by decide +kernel) (pa_cons (pe_ix (DL.ix_seqC (K := K) rfl) (pv 0) pe_int (fun _ _ => rfl)) pa_nil)) (pe_ix (DL.ix_seqC (K := K) rfl) (pv 0) pe_int (fun _ _ => rfl))) (pa_cons (pe_ix (DL.ix_seqC (K := K) rfl) (pv 0) pe_int (fun _ _ => rfl)) pa_nil)))))
      pss_nil)
      (pss_one (ps_ret (pv 0)))), ?_⟩
  refine sd_fn h (fun _ => Nat.le_of_ble_eq_true rfl) ?_
  try dsimp only [L2.cxOf]
  intro qs _
  show SD K _ [.sh (.tup [.tup (dI (topsQ qs)), .int ((lineN qs : Nat) : Int)]), .sh (.bl true)] _
  refine sd_then (sd_if (x := true) (by by_place) (fun _ => ?_) (fun h => by cases h))
  exact sd_ret (d := rowS false qs) (ed_lst (ea_cons (ed_if (x := true) (by by_place <;> by_in) (fun _ => EvL.data (el_cb (by by_place <;> by_in) (cl_list rfl))) (fun h => by cases h)) (by by_place <;> by_in)) (Nat.le_of_ble_eq_true rfl)) rfl
theorem scLawSecond : FnScope ["kind", "one", "numbers", "line", "top"] ["kind", "one", "numbers", "line"] (defScope sLawSecond) := ⟨rfl, rfl, rfl, by decide +kernel, rfl, by decide +kernel, by decide +kernel⟩
theorem okLawSecond (T : Txt K mg)  : Cal P w K mg base 1 "_law_second" ["kind", "one", "numbers", "line"] (spLawSecond K) := by
  refine cal_mk T.f_LawSecond T.g_LawSecond scLawSecond (fun vs H Q E h => spT_len (n := 4) (fun _ => rfl) h) (fun _ _ _ _ _ _ us hl => match us, hl with | [_, _, _, _], _ => rfl) (fun cdv A outer s H vs Q E hr h => ?_)
  refine ⟨_, (pss_cons (ps_if (pt_cmpR op_eq (pv 0) pe_int (nomark _))
      (pss_one (ps_ret (pe_lst (pa_cons (pe_callTy (DL.call_list_ofC (K := K) rfl) (by rfl) T.b_list (by decide +kernel) (pa_cons (pe_ix (DL.ix_seqC (K := K) rfl) (pv 1) pe_int (fun _ _ => rfl)) pa_nil)) (pa_cons (pe_ix (DL.ix_seqC (K := K) rfl) (pv 1) pe_int (fun _ _ => rfl)) pa_nil)))))
      pss_nil)
      (pss_cons (ps_if (pt_cmpR op_eq (pv 0) pe_int (nomark _))
      (pss_one (ps_ret (pe_lst (pa_cons (pe_lc (own := [("top", 4)]) (g := gName 4) (by rfl) scLawSecond.nd (DL.pi_listC (K := K) rfl (pe_ix (DL.ix_seqC (K := K) rfl) (pv 1) pe_int (fun _ _ => rfl))) (blkOk_by (own := [("top", 4)]) (by kernel_rfl)) (fun _ _ _ _ _ => (pg_name (i := 4) scLawSecond.nd rfl (by first | exact Or.inl rfl | exact Or.inr rfl))) (fun _ _ _ _ _ => pts_nil) (fun _ _ _ _ _ => (pe_un un_neg (pv 4)))) (pa_cons (pe_ix (DL.ix_seqC (K := K) rfl) (pv 1) pe_int (fun _ _ => rfl)) pa_nil)))))
      pss_nil)
      (pss_cons (ps_if (pt_cmpR op_eq (pv 0) pe_int (nomark _))
      (pss_one (ps_ret (pe_lst (pa_cons (pe_op op_rep (pe_lst (pa_cons pe_int pa_nil)) (pe_callB (DL.call_len_seqC (K := K) rfl) (by rfl) T.b_len (by decide +kernel) (pa_cons (pe_ix (DL.ix_seqC (K := K) rfl) (pv 1) pe_int (fun _ _ => rfl)) pa_nil))) (pa_cons (pv 3) pa_nil)))))
      pss_nil)
      (pss_cons (ps_if (pt_cmpR op_eq (pv 0) pe_int (nomark _))
      (pss_one (ps_ret (pe_lst (pa_cons (pe_callTy (DL.call_list_ofC (K := K) rfl) (by rfl) T.b_list (by decide +kernel) (pa_cons (pe_ix (DL.ix_seqC (K := K) rfl) (pv 1) pe_int (fun _ _ => rfl)) pa_nil)) (pa_cons (pv 3) pa_nil)))))
      pss_nil)
      (pss_cons (ps_if (pt_cmpR op_eq (pv 0) pe_int (nomark _))
      (pss_one (ps_ret (pe_lst (pa_cons (pe_callTy (DL.call_list_ofC (K := K) rfl) (by rfl) T.b_list (by decide +kernel) (pa_cons (pv 2) pa_nil)) (pa_cons (pe_ix (DL.ix_seqC (K := K) rfl) (pv 1) pe_int (fun _ _ => rfl)) pa_nil)))))
      pss_nil)
      (pss_one (ps_ret (pe_lst (pa_cons (pe_callTy (DL.call_list_ofC (K := K) rfl) (by rfl) T.b_list (by decide +kernel) (pa_cons (pv 2) pa_nil)) (pa_cons (pv 3) pa_nil)))))))))), ?_⟩
  refine sd_fn h (fun _ => Nat.le_of_ble_eq_true rfl) ?_
  try dsimp only [L2.cxOf]
  intro ⟨kind, ⟨ns, l⟩, nums, line⟩ hz
  have hz : ns.length ≤ 10000 := hz
  show SD K _ [.sh (.int kind), .sh (.lst [.lst (dI ns), .int l]), .sh (.lst (dI nums)), .sh (.int line), .no] _
  have key : ∀ (a : List Int) (b : Int), secondM kind ns l nums line = (a, b) → Ret.sh (rawS a b) = Ret.sh (rawS (secondM kind ns l nums line).1 (secondM kind ns l nums line).2) := fun a b e => by rw [e]
  refine sd_then (sd_if (x := decide (kind = 2)) (by by_place) (fun h => ?_) (fun h => sd_next ?_))
  · have h := of_decide_eq_true h
    exact sd_ret (d := rawS ns l) (ed_lst (ea_cons (EvL.data (el_cb (by by_place <;> by_in) (cl_list rfl))) (by by_place <;> by_in)) (Nat.le_of_ble_eq_true rfl)) (key _ _ (by unfold secondM; rw [if_pos h]))
  have h2 := of_decide_eq_false h
  show SD K _ [.sh (.int kind), .sh (.lst [.lst (dI ns), .int l]), .sh (.lst (dI nums)), .sh (.int line), .no] _
  refine sd_then (sd_if (x := decide (kind = 3)) (by by_place) (fun h => ?_) (fun h => sd_next ?_))
  · have h := of_decide_eq_true h
    exact sd_ret (d := rawS (ns.map fun x => -x) l) (ed_lst (ea_cons (EvL.data (el_mapI (i := 4) (fun x => -x) (by by_place <;> by_in) (by decide) hz fun x hx => by by_place)) (by by_place <;> by_in)) (Nat.le_of_ble_eq_true rfl)) (key _ _ (by unfold secondM; rw [if_neg h2, if_pos h]))
  have h3 := of_decide_eq_false h
  show SD K _ [.sh (.int kind), .sh (.lst [.lst (dI ns), .int l]), .sh (.lst (dI nums)), .sh (.int line), .no] _
  refine sd_then (sd_if (x := decide (kind = 4)) (by by_place) (fun h => ?_) (fun h => sd_next ?_))
  · have h := of_decide_eq_true h
    exact sd_ret (d := rawS (List.replicate ns.length 0) line) (ed_lst (ea_cons (EvL.data (el_rep (n := ns.length) (x := 0) (by by_place <;> by_in) (EvD.is (by by_place <;> by_in) (by rw [List.length_map])) (by omega))) (by by_place <;> by_in)) (Nat.le_of_ble_eq_true rfl)) (key _ _ (by unfold secondM; rw [if_neg h2, if_neg h3, if_pos h]))
  have h4 := of_decide_eq_false h
  show SD K _ [.sh (.int kind), .sh (.lst [.lst (dI ns), .int l]), .sh (.lst (dI nums)), .sh (.int line), .no] _
  refine sd_then (sd_if (x := decide (kind = 5)) (by by_place) (fun h => ?_) (fun h => sd_next ?_))
  · have h := of_decide_eq_true h
    exact sd_ret (d := rawS ns line) (ed_lst (ea_cons (EvL.data (el_cb (by by_place <;> by_in) (cl_list rfl))) (by by_place <;> by_in)) (Nat.le_of_ble_eq_true rfl)) (key _ _ (by unfold secondM; rw [if_neg h2, if_neg h3, if_neg h4, if_pos h]))
  have h5 := of_decide_eq_false h
  show SD K _ [.sh (.int kind), .sh (.lst [.lst (dI ns), .int l]), .sh (.lst (dI nums)), .sh (.int line), .no] _
  refine sd_then (sd_if (x := decide (kind = 6)) (by by_place) (fun h => ?_) (fun h => sd_next ?_))
  · have h := of_decide_eq_true h
    exact sd_ret (d := rawS nums l) (ed_lst (ea_cons (EvL.data (el_cb (by by_place <;> by_in) (cl_list rfl))) (by by_place <;> by_in)) (Nat.le_of_ble_eq_true rfl)) (key _ _ (by unfold secondM; rw [if_neg h2, if_neg h3, if_neg h4, if_neg h5, if_pos h]))
  have h6 := of_decide_eq_false h
  show SD K _ [.sh (.int kind), .sh (.lst [.lst (dI ns), .int l]), .sh (.lst (dI nums)), .sh (.int line), .no] _
  exact sd_ret (d := rawS nums line) (ed_lst (ea_cons (EvL.data (el_cb (by by_place <;> by_in) (cl_list rfl))) (by by_place <;> by_in)) (Nat.le_of_ble_eq_true rfl)) (key _ _ (by unfold secondM; rw [if_neg h2, if_neg h3, if_neg h4, if_neg h5, if_neg h6]))
theorem scLawNumbers : FnScope ["cell", "many", "size", "common", "tops", "halves", "told", "k", "number"] ["cell", "many", "size", "common"] (defScope sLawNumbers) := ⟨rfl, rfl, rfl, by decide +kernel, rfl, by decide +kernel, by decide +kernel⟩
theorem okLawNumbers (T : Txt K mg) (c_LawLong : Cal P w K mg base 2 "_law_long" ["cell", "many", "top"] (spLawLong K)) : Cal P w K mg base 3 "_law_numbers" ["cell", "many", "size", "common"] (spLawNumbers K) := by
  refine cal_mk T.f_LawNumbers T.g_LawNumbers scLawNumbers (fun vs H Q E h => spT_len (n := 4) (fun _ => rfl) h) (fun _ _ _ _ _ _ us hl => match us, hl with | [_, _, _, _], _ => rfl) (fun cdv A outer s H vs Q E hr h => ?_)
  refine ⟨_, (pss_cons (ps_set (i := 4) scLawNumbers.nd rfl (by first | exact Or.inl rfl | exact Or.inr rfl) (pe_lst (pa_cons pe_int (pa_cons pe_int (pa_cons (pe_op op_pow pe_int pe_int) (pa_cons pe_int (pa_cons (pe_op op_powW (pe_op op_pow pe_int pe_int) pe_int) (pa_cons (pe_op op_pow pe_int pe_int) (pa_cons (pe_op op_powW (pe_op op_pow pe_int pe_int) pe_int) (pa_cons (pe_op op_pow pe_int pe_int) pa_nil))))))))))
      (pss_cons (ps_set (i := 5) scLawNumbers.nd rfl (by first | exact Or.inl rfl | exact Or.inr rfl) (pe_lst (pa_cons pe_int (pa_cons pe_int (pa_cons (pe_op op_pow pe_int pe_int) (pa_cons pe_int (pa_cons (pe_op op_powW (pe_op op_pow pe_int pe_int) pe_int) (pa_cons (pe_op op_pow pe_int pe_int) (pa_cons (pe_op op_powW (pe_op op_pow pe_int pe_int) pe_int) (pa_cons (pe_op op_pow pe_int pe_int) pa_nil))))))))))
      (pss_cons (ps_if (pt_val (pv 3))
      (pss_cons (ps_set (i := 6) scLawNumbers.nd rfl (by first | exact Or.inl rfl | exact Or.inr rfl) (DL.pe_cal c_LawLong (hr.mono (by decide)) (pa_cons (pv 0) (pa_cons (pe_op op_add (pv 1) pe_int) (pa_cons (pe_ix (DL.ix_seqC (K := K) rfl) (pv 5) (pv 2) (fun _ _ => rfl)) pa_nil)))))
      (pss_one (ps_ret (pe_lc (own := [("k", 7)]) (g := gName 7) (by rfl) scLawNumbers.nd (pi_range1 (by rfl) T.b_range (pa_cons (pv 1) pa_nil)) (blkOk_by (own := [("k", 7)]) (by kernel_rfl)) (fun _ _ _ _ _ => (pg_name (i := 7) scLawNumbers.nd rfl (by first | exact Or.inl rfl | exact Or.inr rfl))) (fun _ _ _ _ _ => pts_nil) (fun _ _ _ _ _ => (pe_op op_mulW (pe_op op_sub (pe_ix (DL.ix_seqC (K := K) rfl) (pv 6) (pv 7) (fun _ _ => rfl)) (pe_op op_fdivW (pe_ix (DL.ix_seqC (K := K) rfl) (pv 5) (pv 2) (fun _ _ => rfl)) pe_int)) (pe_op op_add pe_int (pe_ix (DL.ix_seqC (K := K) rfl) (pv 6) (pv 1) (fun _ _ => rfl)))))))))
      pss_nil)
      (pss_one (ps_ret (pe_lc (own := [("number", 8)]) (g := gName 8) (by rfl) scLawNumbers.nd (DL.pi_listC (K := K) rfl (DL.pe_cal c_LawLong (hr.mono (by decide)) (pa_cons (pv 0) (pa_cons (pv 1) (pa_cons (pe_ix (DL.ix_seqC (K := K) rfl) (pv 4) (pv 2) (fun _ _ => rfl)) pa_nil))))) (blkOk_by (own := [("number", 8)]) (by kernel_rfl)) (fun _ _ _ _ _ => (pg_name (i := 8) scLawNumbers.nd rfl (by first | exact Or.inl rfl | exact Or.inr rfl))) (fun _ _ _ _ _ => pts_nil) (fun _ _ _ _ _ => (pe_op op_sub (pv 8) (pe_op op_fdivW (pe_ix (DL.ix_seqC (K := K) rfl) (pv 4) (pv 2) (fun _ _ => rfl)) pe_int))))))))), ?_⟩
  refine sd_fn h (fun _ => Nat.le_of_ble_eq_true rfl) ?_
  try dsimp only [L2.cxOf]
  intro ⟨cell, many, size, common⟩ hp
  obtain ⟨hm, hs⟩ : many ≤ 500 ∧ size < 8 := hp
  have p1 := q1; have p2 := q2; have p3 := q3; have p4 := q4; have p5 := q5; have p6 := q6; have p7 := q7; have p8 := q8; have p9 := q9; have p10 := q10; have p11 := q11; have p12 := q12; have p13 := q13
  show SD K _ [.sh (.int cell), .sh (.int many), .sh (.int size), .sh (.bl common), .no, .no, .no, .no, .no] _
  refine sd_then (sd_asg (d := .lst (dI topsT)) (EvD.is (by by_place <;> by_in) (by rfl)) ?_)
  show SD K _ [.sh (.int cell), .sh (.int many), .sh (.int size), .sh (.bl common), .sh (.lst (dI topsT)), .no, .no, .no, .no] _
  refine sd_then (sd_asg (d := .lst (dI halvesT)) (EvD.is (by by_place <;> by_in) (by rfl)) ?_)
  show SD K _ [.sh (.int cell), .sh (.int many), .sh (.int size), .sh (.bl common), .sh (.lst (dI topsT)), .sh (.lst (dI halvesT)), .no, .no, .no] _
  have t1 : atI (dI topsT) (size : Int) = some (.int (topsT.getD size 0)) := atI_nat (dI_get (get_getD 0 hs))
  have t2 : atI (dI halvesT) (size : Int) = some (.int (halvesT.getD size 0)) := atI_nat (dI_get (get_getD 0 hs))
  obtain ⟨z1, z2⟩ := tops_sm hs
  obtain ⟨y1, y2⟩ := halves_sm hs
  clear p1 p2 p3 p4 p5 p6 p7 p8 p9 p10 p11 p12 p13
  refine sd_then (sd_if (x := common) (by by_place) (fun h => ?_) (fun h => sd_next ?_))
  · subst h
    have e : numbersM cell many size true = (List.range many).map fun k => ((longM cell (many + 1) (halvesT.getD size 0)).getD k 0 - halvesT.getD size 0 / 2) * (1 + (longM cell (many + 1) (halvesT.getD size 0)).getD many 0) := rfl
    generalize hT : topsT = TT at *
    generalize hH : halvesT = HH at *
    refine sd_then (sd_asgL (ds := dI (longM cell (many + 1) (HH.getD size 0))) (el_call (cell, many + 1, HH.getD size 0) (EvA.is (by by_place <;> by_in) (by rfl)) ⟨y1, y2.mono (by decide), by show many + 1 ≤ 1000; omega⟩ rfl) (sd_frz (i := 6) rfl rfl ?_))
    show SD K _ [.sh (.int cell), .sh (.int many), .sh (.int size), .sh (.bl true), .sh (.lst (dI TT)), .sh (.lst (dI HH)), .sh (.lst (dI (longM cell (many + 1) (HH.getD size 0)))), .no, .no] _
    generalize hD : longM cell (many + 1) (HH.getD size 0) = told at *
    have ht : told.length = many + 1 := by rw [← hD, longM_len]
    have hb : ∀ x ∈ told, Sm 1330 x := fun x hx => by
      rw [← hD] at hx
      have := longM_lt y1 cell (many + 1) x hx
      exact Nat.lt_of_le_of_lt (by omega) y2
    have hh2 : Sm 1330 (HH.getD size 0 / 2) := Nat.lt_of_le_of_lt (Int.natAbs_ediv_le_natAbs _ _) y2
    have t4 : atI (dI told) (many : Int) = some (.int (told.getD many 0)) := atI_nat (dI_get (get_getD 0 (by omega)))
    have dv : CDivW (HH.getD size 0) 2 := M.divS (by omega) (by omega)
    refine sd_retL (el_rangeI (i := 7) _ (by by_place) (by decide) (by omega) fun k hk => ?_) (by show Ret.ow _ = Ret.ow _; rw [e])
    have t3 : atI (dI told) (k : Int) = some (.int (told.getD k 0)) := atI_nat (dI_get (get_getD 0 (by omega)))
    have s1 : Sm 1332 (told.getD k 0 - HH.getD size 0 / 2) := by
      rw [Int.sub_eq_add_neg]
      exact ((hb _ (M.getD_mem (l := told) (i := k) 0 (by omega))).add hh2.neg).mono (by decide)
    have s2 : Sm 1332 (1 + told.getD many 0) := ((show Sm 1330 1 by unfold Sm; decide +kernel).add (hb _ (M.getD_mem (l := told) (i := many) 0 (by omega)))).mono (by decide)
    have m1 := s1.mulW s2 (by decide)
    exact EvD.is (by by_place <;> by_in) (by rfl)
  · subst h
    have e : numbersM cell many size false = (longM cell many (topsT.getD size 0)).map fun x => x - topsT.getD size 0 / 2 := rfl
    generalize hT : topsT = TT at *
    generalize hH : halvesT = HH at *
    show SD K _ [.sh (.int cell), .sh (.int many), .sh (.int size), .sh (.bl false), .sh (.lst (dI TT)), .sh (.lst (dI HH)), .no, .no, .no] _
    have dv : CDivW (TT.getD size 0) 2 := M.divS (by omega) (by omega)
    refine sd_retL (el_mapI (i := 8) (fun x => x - TT.getD size 0 / 2) (EvL.data (el_call (cell, many, TT.getD size 0) (by by_place <;> by_in) ⟨z1, z2.mono (by decide), by show many ≤ 1000; omega⟩ rfl)) (by decide) (by rw [longM_len]; show many ≤ 10000; omega) fun x hx => ?_) (by show Ret.ow _ = Ret.ow _; rw [e])
    exact EvD.is (by by_place <;> by_in) (by rfl)
end
end K00

set_option Elab.async false
set_option linter.all false
set_option maxRecDepth 100000
set_option maxHeartbeats 4000000
set_option exponentiation.threshold 5000
namespace K00
open PySem PySem.Spec PyProof.Rows L2 DL R0
open M hiding tops_len
open LS hiding spRatio spRow spRowOf
local macro_rules | `(tactic| by_item) => `(tactic| with_reducible first
  | exact DL.ed_var (by with_unfolding_all rfl) | exact DL.ed_int | exact DL.ed_bl | exact DL.ed_non | exact DL.ed_str | exact DL.ea_nil | exact DL.et_yes
  | apply DL.ea_cons | apply DL.ed_op | apply DL.ed_un | apply DL.ed_lst | apply DL.ed_fld | (show L2.Cls _ _; with_reducible assumption) | (show L2.NoAttr _ _ _; with_reducible assumption) | (show List.lookup _ _ = _; with_unfolding_all rfl) | (show List.length _ ≤ PySem.sizeLine; exact Nat.le_of_ble_eq_true (by with_unfolding_all rfl)) | apply DL.ed_isi | apply DL.ed_cb
  | exact DL.od_I0 | exact DL.od_B0 | exact DL.od_eqI | exact DL.od_neI | exact DL.od_eqS | exact DL.od_isN | exact DL.od_notN | (apply DL.od_divX) | (apply DL.od_divN) | apply DL.od_I | apply DL.od_ix | exact DL.ud_I
  | apply DL.cd_len | exact DL.cd_int | exact DL.cd_intB | exact DL.cd_1 | exact DL.cd_gcd | apply DL.cd_lcmX | exact DL.cd_min3 | exact DL.cd_2
  | apply DL.et_test | apply DL.et_B | apply DL.et_not | apply DL.ed_notV
  | (show DL.tyB _ = _; with_unfolding_all rfl) | (show DL.itemsOf _ = _; with_unfolding_all rfl) | exact DL.seqD_items | (show L2.atI _ _ = _; with_reducible assumption) | (show L2.atI _ _ = _; exact L2.atI_nat (by with_reducible assumption)) | exact DL.atI_zero | exact DL.atI_one | (show L2.atI _ _ = _; with_unfolding_all rfl) | (show L2.kitB _ _ = _; first | exact DL.kb_NoneType_int | exact DL.kb_NoneType_bool | exact DL.kb_NoneType_tuple | exact DL.kb_NoneType_list | exact DL.kb_NoneType_str | exact DL.kb_NoneType_dict | exact DL.kb_bool_int | exact DL.kb_bool_bool | exact DL.kb_bool_tuple | exact DL.kb_bool_list | exact DL.kb_bool_str | exact DL.kb_bool_dict | exact DL.kb_int_int | exact DL.kb_int_bool | exact DL.kb_int_tuple | exact DL.kb_int_list | exact DL.kb_int_str | exact DL.kb_int_dict | exact DL.kb_str_int | exact DL.kb_str_bool | exact DL.kb_str_tuple | exact DL.kb_str_list | exact DL.kb_str_str | exact DL.kb_str_dict | exact DL.kb_list_int | exact DL.kb_list_bool | exact DL.kb_list_tuple | exact DL.kb_list_list | exact DL.kb_list_str | exact DL.kb_list_dict | exact DL.kb_tuple_int | exact DL.kb_tuple_bool | exact DL.kb_tuple_tuple | exact DL.kb_tuple_list | exact DL.kb_tuple_str | exact DL.kb_tuple_dict | exact DL.kb_dict_int | exact DL.kb_dict_bool | exact DL.kb_dict_tuple | exact DL.kb_dict_list | exact DL.kb_dict_str | exact DL.kb_dict_dict))
local macro_rules | `(tactic| by_place) => `(tactic| (repeat' by_item))
local macro_rules | `(tactic| by_in) => `(tactic| first | (with_reducible assumption) | (with_reducible exact DL.seqD_items) | (show (0 : Int) < _; omega) | (show (0 : Int) < _; decide +kernel) | exact M.mulS (by omega) (by omega) | exact M.mulP (by omega) (by omega) (by omega) | exact M.divS (by omega) (by omega) | exact ⟨by decide, by decide, by decide⟩ | exact ⟨by decide, by decide, by omega⟩ | exact L2.atI_nat (by assumption) | (show L2.atI _ _ = _; rfl))
section
variable {P : Program} {w : World} {K : PySem.W.Frag} {mg : Str → Option Value} {base : Heap}
theorem scLawMade : FnScope ["own", "place", "handed", "told"] ["own", "place"] (defScope sLawMade) := ⟨rfl, rfl, rfl, by decide +kernel, rfl, by decide +kernel, by decide +kernel⟩
theorem okLawMade (T : Txt K mg) (c_LawSame : Cal P w K mg base 4 "_law_same" ["value", "own"] (spLawSame K)) (c_Row : Cal P w K mg base 33 "row" ["tops", "line"] (spRow K)) (c_Row_line_tops : CalK P w K mg base 33 "row" ["tops", "line"] ["line", "tops"] (spRow K) gv_Row_line_tops) (c_Row_tops : CalK P w K mg base 33 "row" ["tops", "line"] ["tops"] (spRow K) gv_Row_tops) : Cal P w K mg base 34 "_law_made" ["own", "place"] (spLawMade K) := by
  refine cal_mk T.f_LawMade T.g_LawMade scLawMade (fun vs H Q E h => spT_len (n := 2) (fun _ => rfl) h) (fun _ _ _ _ _ _ us hl => match us, hl with | [_, _], _ => rfl) (fun cdv A outer s H vs Q E hr h => ?_)
  refine ⟨_, (pss_cons (ps_set (i := 2) scLawMade.nd rfl (by first | exact Or.inl rfl | exact Or.inr rfl) (pe_callTy (DL.call_list_ofC (K := K) rfl) (by rfl) T.b_list (by decide +kernel) (pa_cons (pe_ix (DL.ix_seqC (K := K) rfl) (pv 0) pe_int (fun _ _ => rfl)) pa_nil)))
      (pss_cons (ps_set (i := 3) scLawMade.nd rfl (by first | exact Or.inl rfl | exact Or.inr rfl) (DL.pe_calK c_Row_line_tops (hr.mono (by decide)) (pk_cons (pe_ix (DL.ix_seqC (K := K) rfl) (pv 0) pe_int (fun _ _ => rfl)) (pk_cons (pv 2) pk_nil))))
      (pss_cons (ps_if (PW.pt (pw_or (pt_not (pt_val (DL.pe_cal c_LawSame (hr.mono (by decide)) (pa_cons (pv 3) (pa_cons (pv 0) pa_nil))))) (pw_or1 (pt_cmpR (DL.op_neDC (K := K) rfl hr.units) (pv 2) (pe_ix (DL.ix_seqC (K := K) rfl) (pv 0) pe_int (fun _ _ => rfl)) (nomark _)))))
      (pss_one (ps_ret pe_non))
      pss_nil)
      (pss_cons (ps_asg (pe_op op_sub (pe_ix (DL.ix_seqC (K := K) rfl) (pv 2) (pv 1) (fun _ _ => rfl)) pe_int) (pg_sub (pv 2) (pv 1) set_list))
      (pss_cons (ps_if (PW.pt (pw_or (pt_not (pt_val (DL.pe_cal c_LawSame (hr.mono (by decide)) (pa_cons (DL.pe_cal c_Row (hr.mono (by decide)) (pa_cons (pv 2) (pa_cons (pe_ix (DL.ix_seqC (K := K) rfl) (pv 0) pe_int (fun _ _ => rfl)) pa_nil))) (pa_cons (pe_lst (pa_cons (pv 2) (pa_cons (pe_ix (DL.ix_seqC (K := K) rfl) (pv 0) pe_int (fun _ _ => rfl)) pa_nil))) pa_nil))))) (pw_or1 (pt_not (pt_val (DL.pe_cal c_LawSame (hr.mono (by decide)) (pa_cons (DL.pe_calK c_Row_tops (hr.mono (by decide)) (pk_cons (pv 2) pk_nil)) (pa_cons (pe_lst (pa_cons (pv 2) (pa_cons pe_int pa_nil))) pa_nil))))))))
      (pss_one (ps_ret pe_non))
      pss_nil)
      (pss_one (ps_ret (pe_ifExp (pt_val (DL.pe_cal c_LawSame (hr.mono (by decide)) (pa_cons (DL.pe_cal c_Row (hr.mono (by decide)) (pa_cons (pe_callTy (DL.call_tuple_ofC (K := K) rfl) (by rfl) T.b_tuple (by decide +kernel) (pa_cons (pe_ix (DL.ix_seqC (K := K) rfl) (pv 0) pe_int (fun _ _ => rfl)) pa_nil)) (pa_cons (pe_ix (DL.ix_seqC (K := K) rfl) (pv 0) pe_int (fun _ _ => rfl)) pa_nil))) (pa_cons (pv 0) pa_nil)))) (pv 3) pe_non)))))))), ?_⟩
  refine sd_fn h (fun _ => Nat.le_of_ble_eq_true rfl) ?_
  try dsimp only [L2.cxOf]
  intro ⟨⟨ns, l⟩, place⟩ hp
  obtain ⟨h0, hz, hpl, ⟨hn, hl⟩⟩ : l ≠ 0 ∧ ns.length ≤ 10000 ∧ place < ns.length ∧ SmN 40000 (ns, l) := hp
  have hn : ∀ n ∈ ns, Sm 40000 n := hn
  have hl : Sm 40000 l := hl
  have hn9 : ∀ n ∈ ns, Sm 49000 n := fun n h => (hn n h).mono (by decide)
  have hl9 : Sm 49000 l := hl.mono (by decide)
  have nR : ∀ qs, noL (rowS true qs) = true := fun qs => by
    show (noLs [DL.D.tup (dI (topsQ qs)), .int _]) = true
    show ((noLs (dI (topsQ qs))) && _) = true
    rw [noLs_dI]
    rfl
  show SD K _ [.sh (.lst [.lst (dI ns), .int l]), .sh (.int place), .no, .no] _
  refine sd_then (sd_asgL (ds := dI ns) (el_cb (by by_place <;> by_in) (cl_list rfl)) ?_)
  show SD K _ [.sh (.lst [.lst (dI ns), .int l]), .sh (.int place), .ow (dI ns), .no] _
  refine sd_then (sd_asgS (d := rowS true (ratsOf ns l)) (evs_noL (ed_callK0 (bs := [.int l, .lst (dI ns)]) (false, ns, l) (by by_place <;> by_in) rfl gvRow ⟨h0, hz⟩ rfl) (nR _)) ?_)
  show SD K _ [.sh (.lst [.lst (dI ns), .int l]), .sh (.int place), .ow (dI ns), .sh (rowS true (ratsOf ns l))] _
  refine sd_then (sd_if (x := false) (EvT.is (et_or (x := false) (et_not (x := true) (et_B (ed_call (ns, l) (by by_place) ⟨h0, hz, hn9, hl9⟩ rfl))) fun _ => ?_) (by rfl)) (fun h => by cases h) (fun _ => sd_next ?_))
  · refine et_test (x := false) (ed_op (by by_place) (by by_place <;> by_in) (od_neSame (n := 2) (show shp 2 (.lst (dI ns)) = true from shps_dI 1 ns) (show shp 2 (.lst (dI ns)) = true from shps_dI 1 ns) (by decide) rfl))
  show SD K _ [.sh (.lst [.lst (dI ns), .int l]), .sh (.int place), .ow (dI ns), .sh (rowS true (ratsOf ns l))] _
  have t1 : atI (dI ns) (place : Int) = some (.int (ns.getD place 0)) := atI_nat (dI_get (get_getD 0 hpl))
  refine sd_then (sd_setF (i := 2) (m := place) (d := .int (ns.getD place 0 - 1)) rfl (EvD.is (by by_place <;> by_in) (by rfl)) rfl (by by_place) (by rw [List.length_map]; exact hpl) ?_)
  show SD K _ [.sh (.lst [.lst (dI ns), .int l]), .sh (.int place), .ow ((dI ns).set place (.int (ns.getD place 0 - 1))), .sh (rowS true (ratsOf ns l))] _
  rw [dI_set]
  have n2 : ∀ n ∈ ns.set place (ns.getD place 0 - 1), Sm 49000 n := fun n h => by
    rcases mem_set h with rfl | h
    · rw [Int.sub_eq_add_neg]
      exact ((hn _ (M.getD_mem (l := ns) (i := place) 0 hpl)).add (show Sm 40000 (-1) by unfold Sm; exact Nat.one_lt_two_pow (by decide))).mono (by decide)
    · exact hn9 n h
  have hz2 : (ns.set place (ns.getD place 0 - 1)).length ≤ 10000 := by rw [List.length_set]; exact hz
  generalize ns.set place (ns.getD place 0 - 1) = ms at n2 hz2
  refine sd_then (sd_if (x := false) (EvT.is (et_or (x := false) (et_not (x := true) (et_B (ed_call (ms, l) (ea_cons (ed_call (false, ms, l) (by by_place <;> by_in) ⟨h0, hz2⟩ rfl) (EvA.is (by by_place <;> by_in) (by rfl))) ⟨h0, hz2, n2, hl9⟩ rfl))) fun _ => et_not (x := true) (et_B (ed_call (ms, 1) (ea_cons (ed_callK0 (bs := [.lst (dI ms)]) (false, ms, 1) (by by_place <;> by_in) rfl gvRow1 ⟨show (1 : Int) ≠ 0 by decide, hz2⟩ rfl) (EvA.is (by by_place <;> by_in) (by rfl))) ⟨show (1 : Int) ≠ 0 by decide, hz2, n2, by unfold Sm; exact Nat.one_lt_two_pow (by decide)⟩ rfl))) (by rfl)) (fun h => by cases h) (fun _ => sd_next ?_))
  show SD K _ [.sh (.lst [.lst (dI ns), .int l]), .sh (.int place), .ow (dI ms), .sh (rowS true (ratsOf ns l))] _
  exact sd_ret (d := rowS true (ratsOf ns l)) (ed_if (x := true) (et_B (ed_call (ns, l) (ea_cons (ed_call (true, ns, l) (ea_cons (ed_cb (by by_place <;> by_in) (cd_tuple rfl)) (by by_place <;> by_in)) ⟨h0, hz⟩ rfl) (by by_place <;> by_in)) ⟨h0, hz, hn9, hl9⟩ rfl)) (fun _ => by by_place) (fun h => by cases h)) rfl
theorem scLawItems : FnScope ["told", "own", "items", "k", "again", "item"] ["told", "own"] (defScope sLawItems) := ⟨rfl, rfl, rfl, by decide +kernel, rfl, by decide +kernel, by decide +kernel⟩
theorem okLawItems (T : Txt K mg) (c_LawJust : Cal P w K mg base 3 "_law_just" ["value", "top", "bottom"] (spLawJust K)) (c_RowItems : Cal P w K mg base 34 "row_items" ["one"] (spRowItems K)) (c_LawForm : Cal P w K mg base 1 "_law_form" ["one", "listed"] (spLawForm K)) (c_LawTold : Cal P w K mg base 2 "_law_told" ["value", "due"] (spLawTold K)) (c_LawSame : Cal P w K mg base 4 "_law_same" ["value", "own"] (spLawSame K)) (c_RowItems_one : CalK P w K mg base 34 "row_items" ["one"] ["one"] (spRowItems K) gv_RowItems_one) (c_RowOf_ratios : CalK P w K mg base 34 "row_of" ["ratios"] ["ratios"] (spRowOf K) gv_RowOf_ratios) : Cal P w K mg base 35 "_law_items" ["told", "own"] (spLawItems K) := by
  refine cal_mk T.f_LawItems T.g_LawItems scLawItems (fun vs H Q E h => spT_len (n := 2) (fun _ => rfl) h) (fun _ _ _ _ _ _ us hl => match us, hl with | [_, _], _ => rfl) (fun cdv A outer s H vs Q E hr h => ?_)
  refine ⟨_, (pss_cons (ps_set (i := 2) scLawItems.nd rfl (by first | exact Or.inl rfl | exact Or.inr rfl) (DL.pe_calK c_RowItems_one (hr.mono (by decide)) (pk_cons (pv 0) pk_nil)))
      (pss_cons (ps_if (PW.pt (pw_or (pt_not (pt_val (pe_callB (DL.call_isiC (K := K) rfl) (by rfl) T.b_isinstance (by decide +kernel) (pa_cons (pv 2) (pa_cons (pe_bltn (v := .ty "tuple") (by rfl) T.b_tuple (by decide +kernel) rfl) pa_nil))))) (pw_or1 (pt_cmpR op_ne (pe_callB (DL.call_len_seqC (K := K) rfl) (by rfl) T.b_len (by decide +kernel) (pa_cons (pv 2) pa_nil)) (pe_callB (DL.call_len_seqC (K := K) rfl) (by rfl) T.b_len (by decide +kernel) (pa_cons (pe_ix (DL.ix_seqC (K := K) rfl) (pv 1) pe_int (fun _ _ => rfl)) pa_nil)) (nomark _)))))
      (pss_one (ps_ret pe_bl))
      pss_nil)
      (pss_cons (ps_if (pt_cmpR op_gt (pe_callB (DL.call_len_seqC (K := K) rfl) (by rfl) T.b_len (by decide +kernel) (pa_cons (pe_lc (own := [("k", 3)]) (g := gName 3) (by rfl) scLawItems.nd (pi_range1 (by rfl) T.b_range (pa_cons (pe_callB (DL.call_len_seqC (K := K) rfl) (by rfl) T.b_len (by decide +kernel) (pa_cons (pv 2) pa_nil)) pa_nil)) (blkOk_by (own := [("k", 3)]) (by kernel_rfl)) (fun _ _ _ _ _ => (pg_name (i := 3) scLawItems.nd rfl (by first | exact Or.inl rfl | exact Or.inr rfl))) (fun _ _ _ _ _ => (pts_one (pt_not (pt_val (DL.pe_cal c_LawJust (hr.mono (by decide)) (pa_cons (pe_ix (DL.ix_seqC (K := K) rfl) (pv 2) (pv 3) (fun _ _ => rfl)) (pa_cons (pe_ix (DL.ix_seqC (K := K) rfl) (pe_ix (DL.ix_seqC (K := K) rfl) (pv 1) pe_int (fun _ _ => rfl)) (pv 3) (fun _ _ => rfl)) (pa_cons (pe_ix (DL.ix_seqC (K := K) rfl) (pv 1) pe_int (fun _ _ => rfl)) pa_nil)))))))) (fun _ _ _ _ _ => (pv 3))) pa_nil)) pe_int (nomark _))
      (pss_one (ps_ret pe_bl))
      pss_nil)
      (pss_cons (ps_set (i := 4) scLawItems.nd rfl (by first | exact Or.inl rfl | exact Or.inr rfl) (DL.pe_cal c_RowItems (hr.mono (by decide)) (pa_cons (DL.pe_cal c_LawForm (hr.mono (by decide)) (pa_cons (pv 0) (pa_cons pe_bl pa_nil))) pa_nil)))
      (pss_cons (ps_if (PW.pt (pw_or (pt_not (pt_val (pe_callB (DL.call_isiC (K := K) rfl) (by rfl) T.b_isinstance (by decide +kernel) (pa_cons (pv 4) (pa_cons (pe_bltn (v := .ty "tuple") (by rfl) T.b_tuple (by decide +kernel) rfl) pa_nil))))) (pw_or1 (pt_cmpR op_ne (pe_callB (DL.call_len_seqC (K := K) rfl) (by rfl) T.b_len (by decide +kernel) (pa_cons (pv 4) pa_nil)) (pe_callB (DL.call_len_seqC (K := K) rfl) (by rfl) T.b_len (by decide +kernel) (pa_cons (pv 2) pa_nil)) (nomark _)))))
      (pss_one (ps_ret pe_bl))
      pss_nil)
      (pss_cons (ps_if (pt_cmpR op_gt (pe_callB (DL.call_len_seqC (K := K) rfl) (by rfl) T.b_len (by decide +kernel) (pa_cons (pe_lc (own := [("k", 3)]) (g := gName 3) (by rfl) scLawItems.nd (pi_range1 (by rfl) T.b_range (pa_cons (pe_callB (DL.call_len_seqC (K := K) rfl) (by rfl) T.b_len (by decide +kernel) (pa_cons (pv 2) pa_nil)) pa_nil)) (blkOk_by (own := [("k", 3)]) (by kernel_rfl)) (fun _ _ _ _ _ => (pg_name (i := 3) scLawItems.nd rfl (by first | exact Or.inl rfl | exact Or.inr rfl))) (fun _ _ _ _ _ => (pts_one (pt_not (pt_val (DL.pe_cal c_LawTold (hr.mono (by decide)) (pa_cons (pe_ix (DL.ix_seqC (K := K) rfl) (pv 4) (pv 3) (fun _ _ => rfl)) (pa_cons (pe_ix (DL.ix_seqC (K := K) rfl) (pv 2) (pv 3) (fun _ _ => rfl)) pa_nil))))))) (fun _ _ _ _ _ => (pv 3))) pa_nil)) pe_int (nomark _))
      (pss_one (ps_ret pe_bl))
      pss_nil)
      (pss_one (ps_ret (DL.pe_cal c_LawSame (hr.mono (by decide)) (pa_cons (DL.pe_calK c_RowOf_ratios (hr.mono (by decide)) (pk_cons (pe_lc (own := [("item", 5)]) (g := gName 5) (by rfl) scLawItems.nd (DL.pi_tupC (K := K) rfl (pv 2)) (blkOk_by (own := [("item", 5)]) (by kernel_rfl)) (fun _ _ _ _ _ => (pg_name (i := 5) scLawItems.nd rfl (by first | exact Or.inl rfl | exact Or.inr rfl))) (fun _ _ _ _ _ => pts_nil) (fun _ _ _ _ _ => (pe_callTy (DL.call_list_ofC (K := K) rfl) (by rfl) T.b_list (by decide +kernel) (pa_cons (pv 5) pa_nil)))) pk_nil)) (pa_cons (pv 1) pa_nil))))))))))), ?_⟩
  refine sd_fn h (fun _ => Nat.le_of_ble_eq_true rfl) ?_
  try dsimp only [L2.cxOf]
  intro ⟨ns, l⟩ hp
  obtain ⟨h0, hz, ⟨hn, hl⟩⟩ : l ≠ 0 ∧ ns.length ≤ 10000 ∧ SmN 40000 (ns, l) := hp
  have hn : ∀ n ∈ ns, Sm 40000 n := hn
  have hl : Sm 40000 l := hl
  have hn9 : ∀ n ∈ ns, Sm 49000 n := fun n h => (hn n h).mono (by decide)
  have hl9 : Sm 49000 l := hl.mono (by decide)
  have hc := canon_le h0 hn hl
  have qg : ∀ k, k < ns.length → (ratsOf ns l)[k]? = some (Rat.divInt (ns.getD k 0) l) := fun k hk => by
    unfold ratsOf
    rw [List.getElem?_map, List.getElem?_eq_getElem hk, List.getD_eq_getElem?_getD, List.getElem?_eq_getElem hk]
    rfl
  have ql := rats_len ns l
  have qsm : ∀ r ∈ ratsOf ns l, SmR 40000 r := fun r hr => by
    obtain ⟨n, hm, rfl⟩ := List.mem_map.mp hr
    have := ratio_le h0 (hn n hm) hl
    exact ⟨this.1, smN this.2⟩
  have hL : lineN (ratsOf ns l) < 2 ^ 40000 := hc.2
  clear hc
  show SD K _ [.sh (rowS true (ratsOf ns l)), .sh (.lst [.lst (dI ns), .int l]), .no, .no, .no, .no] _
  generalize hq : ratsOf ns l = qs at qg ql qsm hL
  refine sd_then (sd_asg (d := .tup (qs.map (ratS true))) (ed_callK0 (bs := [rowS true qs]) (true, qs) (by by_place) rfl gvItems (by show qs.length ≤ 10000; rw [ql]; exact hz) rfl) ?_)
  show SD K _ [.sh (rowS true qs), .sh (.lst [.lst (dI ns), .int l]), .sh (.tup (qs.map (ratS true))), .no, .no, .no] _
  have ig : ∀ k, k < ns.length → (qs.map (ratS true))[k]? = some (ratS true (Rat.divInt (ns.getD k 0) l)) := fun k hk => by
    rw [List.getElem?_map, qg k hk]
    rfl
  have il : (qs.map (ratS true)).length = ns.length := by rw [List.length_map, ql]
  refine sd_then (sd_if (x := false) (EvT.is (et_or (x := false) (et_not (x := true) (et_B (by by_place))) fun _ => EvT.is (by by_place <;> by_in) (?_ : (!decide ((((qs.map (ratS true)).length : Nat) : Int) = (((dI ns).length : Nat) : Int))) = false)) (by rfl)) (fun h => by cases h) (fun _ => sd_next ?_))
  · rw [il, List.length_map, decide_eq_true rfl]
    rfl
  show SD K _ [.sh (rowS true qs), .sh (.lst [.lst (dI ns), .int l]), .sh (.tup (qs.map (ratS true))), .no, .no, .no] _
  refine sd_then (sd_if (x := false) (EvT.is (et_test (ed_op (ed_cb (ea_cons (EvL.data (el_noneR (i := 3) (n := ns.length) (EvA.is (by by_place <;> by_in) (by rw [il])) (by decide) hz fun j hj => ?_)) ea_nil) (cd_len (ds := []) rfl)) (by by_place) od_B0)) (by rfl)) (fun h => by cases h) (fun _ => sd_next ?_))
  · have t1 : atI (qs.map (ratS true)) (j : Int) = some (ratS true (Rat.divInt (ns.getD j 0) l)) := atI_nat (ig j hj)
    have t2 : atI (dI ns) (j : Int) = some (.int (ns.getD j 0)) := atI_nat (dI_get (get_getD 0 hj))
    exact EvT.is (et_not (x := true) (et_B (ed_call (ns.getD j 0, l) (by by_place <;> by_in) ⟨h0, hn9 _ (M.getD_mem (l := ns) (i := j) 0 hj), hl9⟩ rfl))) (by rfl)
  show SD K _ [.sh (rowS true qs), .sh (.lst [.lst (dI ns), .int l]), .sh (.tup (qs.map (ratS true))), .no, .no, .no] _
  refine sd_then (sd_asg (d := .tup (qs.map (ratS true))) (ed_call (false, qs) (ea_cons (ed_call qs (by by_place) trivial rfl) ea_nil) (by show qs.length ≤ 10000; rw [ql]; exact hz) rfl) ?_)
  show SD K _ [.sh (rowS true qs), .sh (.lst [.lst (dI ns), .int l]), .sh (.tup (qs.map (ratS true))), .no, .sh (.tup (qs.map (ratS true))), .no] _
  refine sd_then (sd_if (x := false) (EvT.is (et_or (x := false) (et_not (x := true) (et_B (by by_place))) fun _ => EvT.is (by by_place <;> by_in) (?_ : (!decide ((((qs.map (ratS true)).length : Nat) : Int) = (((qs.map (ratS true)).length : Nat) : Int))) = false)) (by rfl)) (fun h => by cases h) (fun _ => sd_next ?_))
  · rw [decide_eq_true rfl]
    rfl
  show SD K _ [.sh (rowS true qs), .sh (.lst [.lst (dI ns), .int l]), .sh (.tup (qs.map (ratS true))), .no, .sh (.tup (qs.map (ratS true))), .no] _
  refine sd_then (sd_if (x := false) (EvT.is (et_test (ed_op (ed_cb (ea_cons (EvL.data (el_noneR (i := 3) (n := ns.length) (EvA.is (by by_place <;> by_in) (by rw [il])) (by decide) hz fun j hj => ?_)) ea_nil) (cd_len (ds := []) rfl)) (by by_place) od_B0)) (by rfl)) (fun h => by cases h) (fun _ => sd_next ?_))
  · have t1 : atI (qs.map (ratS true)) (j : Int) = some (.tup [.int (Rat.divInt (ns.getD j 0) l).num, .int (((Rat.divInt (ns.getD j 0) l).den : Nat) : Int)]) := atI_nat (ig j hj)
    exact EvT.is (et_not (x := true) (et_B (ed_call ((Rat.divInt (ns.getD j 0) l).num, (((Rat.divInt (ns.getD j 0) l).den : Nat) : Int)) (by by_place <;> by_in) trivial rfl))) (by rfl)
  show SD K _ [.sh (rowS true qs), .sh (.lst [.lst (dI ns), .int l]), .sh (.tup (qs.map (ratS true))), .no, .sh (.tup (qs.map (ratS true))), .no] _
  have key : (qs.map (ratS true)).map listF = ratsD (qs.map fun q => (false, q)) := by
    unfold ratsD
    rw [List.map_map, List.map_map]
    exact List.map_congr_left fun q _ => listF_at q
  have ms : (qs.map fun q => (false, q)).map Prod.snd = qs := by rw [List.map_map]; exact List.map_id _
  refine sd_ret (d := .bl true) (ed_call (ns, l) (ea_cons (a := rowS true (ratsOf ns l)) (ed_callK0 (bs := [.lst (ratsD (qs.map fun q => (false, q)))]) (false, qs.map fun q => (false, q)) (ea_cons (EvL.data (EvL.is (el_mapGT (i := 5) listF (by by_place) (by decide) (by rw [il]; exact hz) fun d hd => ?_) key)) ea_nil) rfl gvRowOf ⟨by rw [List.length_map, ql]; exact hz, fun r hr => ?_, ?_⟩ ?_) (by by_place)) ⟨h0, hz, hn9, hl9⟩ rfl) rfl
  · obtain ⟨q, _, rfl⟩ := List.mem_map.mp hd
    rw [listF_at]
    exact EvL.data (el_cb (ea_cons (ed_var (by with_unfolding_all rfl)) ea_nil) (cl_list rfl))
  · obtain ⟨q, hm, rfl⟩ := List.mem_map.mp hr
    have := qsm q hm
    exact ⟨this.1.mono (by decide), this.2.mono (by decide)⟩
  · show lineN ((qs.map fun q => (false, q)).map Prod.snd) < 2 ^ 100000
    rw [ms]
    exact Nat.lt_trans hL (Nat.pow_lt_pow_right (by decide) (by decide))
  · show Ret.sh (rowS true ((qs.map fun q => (false, q)).map Prod.snd)) = Ret.sh (rowS true (ratsOf ns l))
    rw [ms, hq]
end
end K00

set_option Elab.async false
set_option linter.all false
set_option maxRecDepth 100000
set_option maxHeartbeats 4000000
set_option exponentiation.threshold 5000
namespace R0
open PySem PySem.Spec PyProof.Rows L2 DL LS
open M hiding tops_len
/-! rows as given, with their sizes -/
structure Rw (many B : Nat) (a : List Int × Int) : Prop where
  len : a.1.length = many
  nz : a.2 ≠ 0
  sm : SmN B a
theorem Rw.mono {m B C : Nat} {a : List Int × Int} (h : Rw m B a) (l : B ≤ C) : Rw m C a := ⟨h.len, h.nz, fun n hn => (h.sm.1 n hn).mono l, h.sm.2.mono l⟩
abbrev qR (a : List Int × Int) : List Rat := ratsOf a.1 a.2
theorem Rw.ql {m B : Nat} {a : List Int × Int} (h : Rw m B a) : (qR a).length = m := (rats_len _ _).trans h.len
theorem Rw.Q {m B : Nat} {a : List Int × Int} (h : Rw m B a) : SmQ B (qR a) := by
  have := canon_le h.nz h.sm.1 h.sm.2
  exact ⟨this.1, smN this.2⟩
def added (a b : List Int × Int) : List Int × Int := (addR a.1 a.2 b.1 b.2, a.2 * b.2)
def byed (a : List Int × Int) (f g : Int) : List Int × Int := (byR a.1 f, a.2 * g)
theorem Rw.add {m A B : Nat} {a b : List Int × Int} (h : Rw m A a) (g : Rw m B b) : Rw m (A + B + 1) (added a b) := by
  refine ⟨?_, Int.mul_ne_zero h.nz g.nz, fun n hn => ?_, (h.sm.2.mul g.sm.2).mono (by omega)⟩
  · show (addR _ _ _ _).length = m
    unfold addR
    rw [List.length_map, List.length_range, h.len]
  · obtain ⟨k, hk, rfl⟩ := List.mem_map.mp (show n ∈ List.map _ _ from hn)
    have hk := List.mem_range.mp hk
    have h1 := h.sm.1 _ (M.getD_mem (l := a.1) (i := k) 0 hk)
    have h2 := g.sm.1 _ (M.getD_mem (l := b.1) (i := k) 0 (by rw [g.len, ← h.len]; exact hk))
    refine Sm.add (h1.mul g.sm.2) ?_
    have := h2.mul h.sm.2
    rw [Nat.add_comm] at this
    exact this
theorem Rw.by_ {m A B : Nat} {a : List Int × Int} {f g : Int} (h : Rw m A a) (hf : Sm B f) (hg : Sm B g) (h0 : g ≠ 0) : Rw m (A + B) (byed a f g) := by
  refine ⟨(List.length_map _).trans h.len, Int.mul_ne_zero h.nz h0, fun n hn => ?_, h.sm.2.mul hg⟩
  obtain ⟨k, hk, rfl⟩ := List.mem_map.mp (show n ∈ List.map _ _ from hn)
  exact (h.sm.1 k hk).mul hf
theorem sum_sm {B : Nat} (F : Nat → Int) (h : ∀ k, Sm B (F k)) : ∀ n, (((List.range n).map F).sum).natAbs ≤ n * 2 ^ B
  | 0 => Nat.zero_le _
  | n + 1 => by
    rw [List.range_succ, List.map_append, List.sum_append]
    have ih := sum_sm F h n
    have := h n
    unfold Sm at this
    simp only [List.map_cons, List.map_nil, List.sum_cons, List.sum_nil]
    rw [Nat.succ_mul]
    generalize (2 : Nat) ^ B = P at *
    generalize n * P = R at *
    omega
theorem dot_sm {m A B : Nat} {a b : List Int × Int} (h : Rw m A a) (g : Rw m B b) (hm : m ≤ 200) : Sm (A + B + 8) (dotR a.1 b.1) := by
  unfold dotR
  have h0 : ∀ k, Sm (A + B) (a.1.getD k 0 * b.1.getD k 0) := fun k => by
    refine Sm.mul ?_ ?_
    · by_cases e : k < a.1.length
      · exact h.sm.1 _ (M.getD_mem (l := a.1) (i := k) 0 e)
      · rw [List.getD_eq_getElem?_getD, List.getElem?_eq_none (by omega)]
        exact Nat.two_pow_pos _
    · by_cases e : k < b.1.length
      · exact g.sm.1 _ (M.getD_mem (l := b.1) (i := k) 0 e)
      · rw [List.getD_eq_getElem?_getD, List.getElem?_eq_none (by omega)]
        exact Nat.two_pow_pos _
  have := sum_sm _ h0 a.1.length
  unfold Sm
  rw [h.len] at this ⊢
  refine Nat.lt_of_le_of_lt this ?_
  rw [Nat.pow_add 2 (A + B) 8, Nat.mul_comm]
  exact Nat.mul_lt_mul_of_pos_left (by omega) (Nat.two_pow_pos _)
theorem Rw.addQ_ {m A B : Nat} {a b : List Int × Int} (h : Rw m A a) (g : Rw m B b) : qR (added a b) = addQ (qR a) (qR b) := rats_add h.nz g.nz (h.len.trans g.len.symm)
theorem byQ_ {a : List Int × Int} {f g : Int} : qR (byed a f g) = byQ (qR a) (Rat.divInt f g) := rats_by
theorem Rw.dotQ_ {m A B : Nat} {a b : List Int × Int} (h : Rw m A a) (g : Rw m B b) : Rat.divInt (dotR a.1 b.1) (a.2 * b.2) = dotQ (qR a) (qR b) := div_dot h.nz g.nz (h.len.trans g.len.symm)
theorem Rw.at_ {m B : Nat} {a : List Int × Int} (h : Rw m B a) {k : Nat} (hk : k < m) : (qR a).getD k 0 = Rat.divInt (a.1.getD k 0) a.2 := rats_get (by rw [h.len]; exact hk)
theorem ratR {B : Nat} {t b : Int} (h : b ≠ 0) (ht : Sm B t) (hb : Sm B b) : SmR B (Rat.divInt t b) := by
  have := ratio_le h ht hb
  exact ⟨this.1, smN this.2⟩
section
variable {K : PySem.W.Frag}
def rawP (a : List Int × Int) : DL.D := rawS a.1 a.2
def gv_Ratio_bottom_top : List V → List V := fun zs => match zs with
  | [z0, z1] => [z1, z0]
  | _ => []
def gv_Ratio_top : List V → List V := fun zs => match zs with
  | [z0] => [z0, .int 1]
  | _ => []
def gv_RowScaled_factor_one : List V → List V := fun zs => match zs with
  | [z0, z1] => [z1, z0]
  | _ => []
def gv_RowItem_index_one : List V → List V := fun zs => match zs with
  | [z0, z1] => [z1, z0]
  | _ => []
def gv_RowSum_two_one : List V → List V := fun zs => match zs with
  | [z0, z1] => [z1, z0]
  | _ => []
def gv_Plus_two_one : List V → List V := fun zs => match zs with
  | [z0, z1] => [z1, z0]
  | _ => []
def gv_Minus_two_one : List V → List V := fun zs => match zs with
  | [z0, z1] => [z1, z0]
  | _ => []
def gv_Times_two_one : List V → List V := fun zs => match zs with
  | [z0, z1] => [z1, z0]
  | _ => []
def gv_Over_two_one : List V → List V := fun zs => match zs with
  | [z0, z1] => [z1, z0]
  | _ => []
def gv_Order_two_one : List V → List V := fun zs => match zs with
  | [z0, z1] => [z1, z0]
  | _ => []
def gv_Dot_two_one : List V → List V := fun zs => match zs with
  | [z0, z1] => [z1, z0]
  | _ => []
theorem gvFill {a : DL.D} (H : Hp) (zs : List V) (r : Rps K H zs [a]) : Rps K H (gv_Ratio_top zs) [a, .int 1] := by
  cases r with
  | cons r1 r =>
    cases r
    exact .cons r1 (.cons (.int 1) .nil)
/-! _law_third -/
def kdM (kinds : List Int) (k : Nat) : Int := kinds.getD (k % 48) 0
def belowM (b0 b1 : Int) (kinds : List Int) (k : Nat) : Int := ([b0, b1] : List Int).getD (kdM kinds k % 2).toNat 0 * ([1, 2, 3, 6] : List Int).getD (kdM kinds k / 2).toNat 0
def thirdT (nums : List Int) (b0 b1 : Int) (kinds : List Int) (m : Nat) : List Int := (List.range m).map fun k => nums.getD k 0 * (b0 * b1 * 6 / belowM b0 b1 kinds k)
def thirdQ (nums : List Int) (b0 b1 : Int) (kinds : List Int) (m : Nat) : List (Bool × Rat) := (List.range m).map fun (k : Nat) => (!decide ((k : Int) % 2 = 1), Rat.divInt (nums.getD k 0) (belowM b0 b1 kinds k))
def thirdR (nums : List Int) (b0 b1 : Int) (kinds : List Int) : List Int × Int := (thirdT nums b0 b1 kinds nums.length, b0 * b1 * 6)
structure ThOk (nums : List Int) (b0 b1 : Int) (kinds : List Int) : Prop where
  n : nums.length ≤ 200
  k : kinds.length = 48
  kd : ∀ x ∈ kinds, 0 ≤ x ∧ x < 8
  p0 : 0 < b0
  p1 : 0 < b1
  s0 : Sm 1335 b0
  s1 : Sm 1335 b1
  sn : ∀ x ∈ nums, Sm 1335 x
theorem ThOk.kdb {nums : List Int} {b0 b1 : Int} {kinds : List Int} (h : ThOk nums b0 b1 kinds) (k : Nat) : 0 ≤ kdM kinds k ∧ kdM kinds k < 8 :=
  h.kd _ (M.getD_mem (l := kinds) (i := k % 48) 0 (by rw [h.k]; exact Nat.mod_lt _ (by decide)))
theorem ThOk.below {nums : List Int} {b0 b1 : Int} {kinds : List Int} (h : ThOk nums b0 b1 kinds) (k : Nat) : 0 < belowM b0 b1 kinds k ∧ belowM b0 b1 kinds k ∣ b0 * b1 * 6 ∧ Sm 1340 (belowM b0 b1 kinds k) ∧
    CMulW (([b0, b1] : List Int).getD (kdM kinds k % 2).toNat 0) (([1, 2, 3, 6] : List Int).getD (kdM kinds k / 2).toNat 0) := by
  have hk := h.kdb k
  unfold belowM
  have e1 : (kdM kinds k % 2).toNat = 0 ∨ (kdM kinds k % 2).toNat = 1 := by omega
  have e2 : (kdM kinds k / 2).toNat = 0 ∨ (kdM kinds k / 2).toNat = 1 ∨ (kdM kinds k / 2).toNat = 2 ∨ (kdM kinds k / 2).toNat = 3 := by omega
  have f1 : ∃ b, ([b0, b1] : List Int).getD (kdM kinds k % 2).toNat 0 = b ∧ 0 < b ∧ Sm 1335 b ∧ b ∣ b0 * b1 := by
    rcases e1 with e | e
    · rw [e]; exact ⟨b0, rfl, h.p0, h.s0, Int.dvd_mul_right _ _⟩
    · rw [e]; exact ⟨b1, rfl, h.p1, h.s1, Int.dvd_mul_left _ _⟩
  have f2 : ∃ c : Int, ([1, 2, 3, 6] : List Int).getD (kdM kinds k / 2).toNat 0 = c ∧ 0 < c ∧ c ≤ 6 ∧ c ∣ 6 := by
    rcases e2 with e | e | e | e
    · rw [e]; exact ⟨1, rfl, by decide, by decide, by decide⟩
    · rw [e]; exact ⟨2, rfl, by decide, by decide, by decide⟩
    · rw [e]; exact ⟨3, rfl, by decide, by decide, by decide⟩
    · rw [e]; exact ⟨6, rfl, by decide, by decide, by decide⟩
  obtain ⟨b, eb, b1, b2, b3⟩ := f1
  obtain ⟨c, ec, c1, c2, c3⟩ := f2
  have cs : Sm 5 c := by unfold Sm; omega
  rw [eb, ec]
  exact ⟨Int.mul_pos b1 c1, Int.mul_dvd_mul b3 c3, b2.mul cs, b2.mulW cs (by decide)⟩
theorem ThOk.line {nums : List Int} {b0 b1 : Int} {kinds : List Int} (h : ThOk nums b0 b1 kinds) : 0 < b0 * b1 * 6 ∧ Sm 2675 (b0 * b1 * 6) :=
  ⟨Int.mul_pos (Int.mul_pos h.p0 h.p1) (by decide), (h.s0.mul h.s1).mul (n := 5) (by unfold Sm; decide)⟩
theorem ThOk.rw {nums : List Int} {b0 b1 : Int} {kinds : List Int} (h : ThOk nums b0 b1 kinds) : Rw nums.length 4100 (thirdR nums b0 b1 kinds) := by
  refine ⟨by show (List.map _ _).length = _; rw [List.length_map, List.length_range], Int.ne_of_gt h.line.1, fun n hn => ?_, h.line.2.mono (by decide)⟩
  obtain ⟨k, hk, rfl⟩ := List.mem_map.mp (show n ∈ List.map _ _ from hn)
  have h1 := h.sn _ (M.getD_mem (l := nums) (i := k) 0 (List.mem_range.mp hk))
  have h2 : Sm 2675 (b0 * b1 * 6 / belowM b0 b1 kinds k) := Nat.lt_of_le_of_lt (Int.natAbs_ediv_le_natAbs _ _) h.line.2
  exact (h1.mul h2).mono (by decide)
theorem ThOk.eq {nums : List Int} {b0 b1 : Int} {kinds : List Int} (h : ThOk nums b0 b1 kinds) : (thirdQ nums b0 b1 kinds nums.length).map Prod.snd = qR (thirdR nums b0 b1 kinds) := by
  unfold thirdQ qR ratsOf
  show _ = (List.map _ (thirdT nums b0 b1 kinds nums.length))
  unfold thirdT
  rw [List.map_map, List.map_map]
  refine List.map_congr_left fun k _ => ?_
  obtain ⟨p, ⟨c, hc⟩, _⟩ := h.below k
  show Rat.divInt (nums.getD k 0) (belowM b0 b1 kinds k) = Rat.divInt (nums.getD k 0 * (b0 * b1 * 6 / belowM b0 b1 kinds k)) (b0 * b1 * 6)
  have lp := h.line.1
  rw [hc] at lp ⊢
  rw [Int.mul_ediv_cancel_left _ (Int.ne_of_gt p)]
  have c0 : c ≠ 0 := fun z => by rw [z, Int.mul_zero] at lp; omega
  rw [Rat.divInt_mul_right c0]
def spLawThird (K : PySem.W.Frag) : Sp := spT K (α := List Int × Int × Int × List Int) (fun a => [.lst (dI a.1), .lst (dI [a.2.1, a.2.2.1]), .lst (dI a.2.2.2)]) (fun a => ThOk a.1 a.2.1 a.2.2.1 a.2.2.2) (fun a => .sh (.lst [rowS true (qR (thirdR a.1 a.2.1 a.2.2.1 a.2.2.2)), rawP (thirdR a.1 a.2.1 a.2.2.1 a.2.2.2)]))
/-! the three rows beside each other -/
structure Three (many : Nat) (ra rb rc : List Int × Int) (s t : Int) : Prop where
  m : many ≤ 200
  a : Rw many 1400 ra
  b : Rw many 1400 rb
  c : Rw many 4100 rc
  p0 : Sm 1400 s
  p1 : Sm 1400 t
  pz : t ≠ 0
structure Tr where
  many : Nat
  a : List Int × Int
  b : List Int × Int
  c : List Int × Int
  p0 : Int
  p1 : Int
def Tr.ok (t : Tr) : Prop := Three t.many t.a t.b t.c t.p0 t.p1
def toldD (t : Tr) : DL.D := .lst [rowS true (qR t.a), rowS true (qR t.b), rowS true (qR t.c)]
def ownD (t : Tr) : DL.D := .lst [rawP t.a, rawP t.b, rawP t.c]
def spLawOneByOne (K : PySem.W.Frag) : Sp := spT K (α := Tr × List Int) (fun x => [toldD x.1, ownD x.1, ratS true (Rat.divInt x.1.p0 x.1.p1), .lst (dI [x.1.p0, x.1.p1]), .lst (dI x.2)]) (fun x => x.1.ok ∧ ∀ k ∈ x.2, 0 ≤ k ∧ k < (x.1.many : Int)) (fun _ => .sh (.bl true))
def spLawLinear (K : PySem.W.Frag) : Sp := spT K (α := Tr) (fun x => [toldD x, ownD x, ratS true (Rat.divInt x.p0 x.p1), .lst (dI [x.p0, x.p1])]) Tr.ok (fun _ => .sh (.bl true))
def spLawGrown (K : PySem.W.Frag) : Sp := spT K (α := Tr) (fun x => [toldD x, ownD x, rowS true (addQ (qR x.a) (qR x.b)), ratS true (dotQ (qR x.a) (qR x.b)), .lst [.int (dotR x.a.1 x.b.1), .int (x.a.2 * x.b.2)]]) Tr.ok (fun _ => .sh (.bl true))
def spLawNeighbours (K : PySem.W.Frag) : Sp := spT K (α := Rat) (fun q => [ratS true q]) (SmR 40000) (fun _ => .sh (.bl true))
def nbs (q : Rat) : List (Int × Int) := [(q.num, ((q.den : Nat) : Int)), (0, 1), (-q.num, 1), (q.num, 1)]
theorem div_one' (q : Rat) : q / 1 = q := by
  rw [← over_eq q 1]
  show Rat.divInt (q.num * 1) (q.den * 1) = q
  rw [Int.mul_one, Int.mul_one, Rat.num_divInt_den]
theorem zero_div' (q : Rat) : 0 / q = 0 := by rw [Rat.div_def, Rat.zero_mul]
end
end R0

set_option Elab.async false
set_option linter.all false
set_option maxRecDepth 100000
set_option maxHeartbeats 4000000
set_option exponentiation.threshold 5000
namespace K00
open PySem PySem.Spec PyProof.Rows L2 DL R0
open M hiding tops_len
open LS hiding spRatio spRow spRowOf
local macro_rules | `(tactic| by_item) => `(tactic| with_reducible first
  | exact DL.ed_var (by with_unfolding_all rfl) | exact DL.ed_int | exact DL.ed_bl | exact DL.ed_non | exact DL.ed_str | exact DL.ea_nil | exact DL.et_yes
  | apply DL.ea_cons | apply DL.ed_op | apply DL.ed_un | apply DL.ed_lst | apply DL.ed_fld | (show L2.Cls _ _; with_reducible assumption) | (show L2.NoAttr _ _ _; with_reducible assumption) | (show List.lookup _ _ = _; with_unfolding_all rfl) | (show List.length _ ≤ PySem.sizeLine; exact Nat.le_of_ble_eq_true (by with_unfolding_all rfl)) | apply DL.ed_isi | apply DL.ed_cb
  | exact DL.od_I0 | exact DL.od_B0 | exact DL.od_eqI | exact DL.od_neI | exact DL.od_eqS | exact DL.od_isN | exact DL.od_notN | (apply DL.od_divX) | (apply DL.od_divN) | apply DL.od_I | apply DL.od_ix | exact DL.ud_I
  | apply DL.cd_len | exact DL.cd_int | exact DL.cd_intB | exact DL.cd_1 | exact DL.cd_gcd | apply DL.cd_lcmX | exact DL.cd_min3 | exact DL.cd_2
  | apply DL.et_test | apply DL.et_B | apply DL.et_not | apply DL.ed_notV
  | (show DL.tyB _ = _; with_unfolding_all rfl) | (show DL.itemsOf _ = _; with_unfolding_all rfl) | exact DL.seqD_items | (show L2.atI _ _ = _; with_reducible assumption) | (show L2.atI _ _ = _; exact L2.atI_nat (by with_reducible assumption)) | exact DL.atI_zero | exact DL.atI_one | (show L2.atI _ _ = _; with_unfolding_all rfl) | (show L2.kitB _ _ = _; first | exact DL.kb_NoneType_int | exact DL.kb_NoneType_bool | exact DL.kb_NoneType_tuple | exact DL.kb_NoneType_list | exact DL.kb_NoneType_str | exact DL.kb_NoneType_dict | exact DL.kb_bool_int | exact DL.kb_bool_bool | exact DL.kb_bool_tuple | exact DL.kb_bool_list | exact DL.kb_bool_str | exact DL.kb_bool_dict | exact DL.kb_int_int | exact DL.kb_int_bool | exact DL.kb_int_tuple | exact DL.kb_int_list | exact DL.kb_int_str | exact DL.kb_int_dict | exact DL.kb_str_int | exact DL.kb_str_bool | exact DL.kb_str_tuple | exact DL.kb_str_list | exact DL.kb_str_str | exact DL.kb_str_dict | exact DL.kb_list_int | exact DL.kb_list_bool | exact DL.kb_list_tuple | exact DL.kb_list_list | exact DL.kb_list_str | exact DL.kb_list_dict | exact DL.kb_tuple_int | exact DL.kb_tuple_bool | exact DL.kb_tuple_tuple | exact DL.kb_tuple_list | exact DL.kb_tuple_str | exact DL.kb_tuple_dict | exact DL.kb_dict_int | exact DL.kb_dict_bool | exact DL.kb_dict_tuple | exact DL.kb_dict_list | exact DL.kb_dict_str | exact DL.kb_dict_dict))
local macro_rules | `(tactic| by_place) => `(tactic| (repeat' by_item))
local macro_rules | `(tactic| by_in) => `(tactic| first | (with_reducible assumption) | (with_reducible exact DL.seqD_items) | (show (0 : Int) < _; omega) | (show (0 : Int) < _; decide +kernel) | exact M.mulS (by omega) (by omega) | exact M.mulP (by omega) (by omega) (by omega) | exact M.divS (by omega) (by omega) | exact ⟨by decide, by decide, by decide⟩ | exact ⟨by decide, by decide, by omega⟩ | exact L2.atI_nat (by assumption) | (show L2.atI _ _ = _; rfl))
section
variable {P : Program} {w : World} {K : PySem.W.Frag} {mg : Str → Option Value} {base : Heap}
theorem scLawNeighbours : FnScope ["item", "told", "dues", "k"] ["item"] (defScope sLawNeighbours) := ⟨rfl, rfl, rfl, by decide +kernel, rfl, by decide +kernel, by decide +kernel⟩
theorem okLawNeighbours (T : Txt K mg) (c_Ratio : Cal P w K mg base 33 "ratio" ["top", "bottom"] (spRatio K)) (c_Over : Cal P w K mg base 34 "over" ["one", "two"] (spOver K)) (c_LawJust : Cal P w K mg base 3 "_law_just" ["value", "top", "bottom"] (spLawJust K)) (c_Ratio_top : CalK P w K mg base 33 "ratio" ["top", "bottom"] ["top"] (spRatio K) gv_Ratio_top) (c_Over_two_one : CalK P w K mg base 34 "over" ["one", "two"] ["two", "one"] (spOver K) gv_Over_two_one) : Cal P w K mg base 35 "_law_neighbours" ["item"] (spLawNeighbours K) := by
  refine cal_mk T.f_LawNeighbours T.g_LawNeighbours scLawNeighbours (fun vs H Q E h => spT_len (n := 1) (fun _ => rfl) h) (fun _ _ _ _ _ _ us hl => match us, hl with | [_], _ => rfl) (fun cdv A outer s H vs Q E hr h => ?_)
  refine ⟨_, (pss_cons (ps_set (i := 1) scLawNeighbours.nd rfl (by first | exact Or.inl rfl | exact Or.inr rfl) (pe_lst (pa_cons (DL.pe_cal c_Over (hr.mono (by decide)) (pa_cons (pv 0) (pa_cons (pe_tup (pa_cons pe_int (pa_cons pe_int pa_nil))) pa_nil))) (pa_cons (pe_ifExp (pt_cmpR op_ne (pe_ix (DL.ix_seqC (K := K) rfl) (pv 0) pe_int (fun _ _ => rfl)) pe_int (nomark _)) (DL.pe_calK c_Over_two_one (hr.mono (by decide)) (pk_cons (pv 0) (pk_cons (pe_tup (pa_cons pe_int (pa_cons pe_int pa_nil))) pk_nil))) (pe_tup (pa_cons pe_int (pa_cons pe_int pa_nil)))) (pa_cons (DL.pe_cal c_Ratio (hr.mono (by decide)) (pa_cons (pe_ix (DL.ix_seqC (K := K) rfl) (pv 0) pe_int (fun _ _ => rfl)) (pa_cons (pe_un un_neg pe_int) pa_nil))) (pa_cons (DL.pe_calK c_Ratio_top (hr.mono (by decide)) (pk_cons (pe_ix (DL.ix_seqC (K := K) rfl) (pv 0) pe_int (fun _ _ => rfl)) pk_nil)) pa_nil))))))
      (pss_cons (ps_set (i := 2) scLawNeighbours.nd rfl (by first | exact Or.inl rfl | exact Or.inr rfl) (pe_lst (pa_cons (pe_lst (pa_cons (pe_ix (DL.ix_seqC (K := K) rfl) (pv 0) pe_int (fun _ _ => rfl)) (pa_cons (pe_ix (DL.ix_seqC (K := K) rfl) (pv 0) pe_int (fun _ _ => rfl)) pa_nil))) (pa_cons (pe_lst (pa_cons pe_int (pa_cons pe_int pa_nil))) (pa_cons (pe_lst (pa_cons (pe_un un_neg (pe_ix (DL.ix_seqC (K := K) rfl) (pv 0) pe_int (fun _ _ => rfl))) (pa_cons pe_int pa_nil))) (pa_cons (pe_lst (pa_cons (pe_ix (DL.ix_seqC (K := K) rfl) (pv 0) pe_int (fun _ _ => rfl)) (pa_cons pe_int pa_nil))) pa_nil))))))
      (pss_one (ps_ret (pe_cmpR op_eq (pe_callB (DL.call_len_seqC (K := K) rfl) (by rfl) T.b_len (by decide +kernel) (pa_cons (pe_lc (own := [("k", 3)]) (g := gName 3) (by rfl) scLawNeighbours.nd (pi_range1 (by rfl) T.b_range (pa_cons pe_int pa_nil)) (blkOk_by (own := [("k", 3)]) (by kernel_rfl)) (fun _ _ _ _ _ => (pg_name (i := 3) scLawNeighbours.nd rfl (by first | exact Or.inl rfl | exact Or.inr rfl))) (fun _ _ _ _ _ => (pts_one (pt_not (pt_val (DL.pe_cal c_LawJust (hr.mono (by decide)) (pa_cons (pe_ix (DL.ix_seqC (K := K) rfl) (pv 1) (pv 3) (fun _ _ => rfl)) (pa_cons (pe_ix (DL.ix_seqC (K := K) rfl) (pe_ix (DL.ix_seqC (K := K) rfl) (pv 2) (pv 3) (fun _ _ => rfl)) pe_int (fun _ _ => rfl)) (pa_cons (pe_ix (DL.ix_seqC (K := K) rfl) (pe_ix (DL.ix_seqC (K := K) rfl) (pv 2) (pv 3) (fun _ _ => rfl)) pe_int (fun _ _ => rfl)) pa_nil)))))))) (fun _ _ _ _ _ => (pv 3))) pa_nil)) pe_int (nomark _)))))), ?_⟩
  refine sd_fn h (fun _ => Nat.le_of_ble_eq_true rfl) ?_
  try dsimp only [L2.cxOf]
  intro q hp
  obtain ⟨hn, hd⟩ : SmR 40000 q := hp
  have dp := den_pos' q
  have o1 : SmR 100000 (1 : Rat) := ⟨by show Sm 100000 1; unfold Sm; exact Nat.one_lt_two_pow (by decide), by show Sm 100000 1; unfold Sm; exact Nat.one_lt_two_pow (by decide)⟩
  have o0 : SmR 100000 (0 : Rat) := ⟨by show Sm 100000 0; unfold Sm; exact Nat.two_pow_pos _, by show Sm 100000 1; unfold Sm; exact Nat.one_lt_two_pow (by decide)⟩
  have sq : SmR 100000 q := ⟨hn.mono (by decide), hd.mono (by decide)⟩
  show SD K _ [.sh (ratS true q), .no, .no, .no] _
  refine sd_then (sd_asg (d := .lst ((nbs q).map fun p => ratS true (Rat.divInt p.1 p.2))) (EvD.is (ed_lst (as := [ratS true q, ratS true 0, ratS true (Rat.divInt q.num (-1)), ratS true (Rat.divInt q.num 1)]) (ea_cons (ed_call ((true, q), (true, 1)) (ea_cons (by by_place) (ea_cons (a := ratS true 1) (by exact ed_tup (as := [.int 1, .int 1]) (by by_place) (Nat.le_of_ble_eq_true rfl)) ea_nil)) ⟨⟨sq, o1⟩, show (1 : Int) ≠ 0 by decide⟩ (by show Ret.sh (ratS true (q / 1)) = _; rw [div_one'])) (ea_cons ?_ (ea_cons (ed_call (q.num, -1) ?_ (by show (-1 : Int) ≠ 0; decide) rfl) (ea_cons (ed_callK0 (bs := [.int q.num]) (q.num, 1) ?_ rfl gvFill (by show (1 : Int) ≠ 0; decide) rfl) ea_nil)))) (Nat.le_of_ble_eq_true rfl)) ?_) ?_)
  · show EvD K _ (shE [.sh (.tup [.int q.num, .int ((q.den : Nat) : Int)]), .no, .no, .no]) _
    refine ed_if (x := !decide (q.num = 0)) (by by_place <;> by_in) (fun h => ?_) (fun _ => ?_)
    · have h0 : q.num ≠ 0 := by simpa using h
      exact ed_callK0 (bs := [ratS true q, ratS true 0]) ((true, 0), (true, q)) (ea_cons (by by_place) (ea_cons (a := ratS true 0) (by exact ed_tup (as := [.int 0, .int 1]) (by by_place) (Nat.le_of_ble_eq_true rfl)) ea_nil)) rfl (fun H zs r => gvTurn gv_Over_two_one (fun _ _ => rfl) H zs r) ⟨⟨o0, sq⟩, h0⟩ (by show Ret.sh (ratS true (0 / q)) = _; rw [zero_div'])
    · exact ed_tup (as := [.int 0, .int 1]) (by by_place) (Nat.le_of_ble_eq_true rfl)
  · show EvA K _ (shE [.sh (.tup [.int q.num, .int ((q.den : Nat) : Int)]), .no, .no, .no]) _
    exact EvA.is (by by_place <;> by_in) (by rfl)
  · show EvA K _ (shE [.sh (.tup [.int q.num, .int ((q.den : Nat) : Int)]), .no, .no, .no]) _
    exact EvA.is (by by_place <;> by_in) (by rfl)
  · show DL.D.lst _ = DL.D.lst [ratS true (Rat.divInt q.num ((q.den : Nat) : Int)), ratS true (Rat.divInt 0 1), ratS true (Rat.divInt (-q.num) 1), ratS true (Rat.divInt q.num 1)]
    rw [Rat.num_divInt_den, Rat.zero_divInt, show Rat.divInt (-q.num) 1 = Rat.divInt q.num (-1) by rw [← div_neg]; rw [Int.neg_neg]]
  show SD K _ [.sh (.tup [.int q.num, .int ((q.den : Nat) : Int)]), .sh (.lst ((nbs q).map fun p => ratS true (Rat.divInt p.1 p.2))), .no, .no] _
  refine sd_then (sd_asg (d := .lst ((nbs q).map fun p => .lst [.int p.1, .int p.2])) (EvD.is (by by_place <;> by_in) (by rfl)) ?_)
  show SD K _ [.sh (.tup [.int q.num, .int ((q.den : Nat) : Int)]), .sh (.lst ((nbs q).map fun p => ratS true (Rat.divInt p.1 p.2))), .sh (.lst ((nbs q).map fun p => .lst [.int p.1, .int p.2])), .no] _
  have nb : ∀ p ∈ nbs q, p.2 ≠ 0 ∧ Sm 49000 p.1 ∧ Sm 49000 p.2 := by
    have s1 : Sm 49000 (1 : Int) := by unfold Sm; exact Nat.one_lt_two_pow (by decide)
    have s0 : Sm 49000 (0 : Int) := by unfold Sm; exact Nat.two_pow_pos _
    have n9 : Sm 49000 q.num := hn.mono (by decide)
    have d9 : Sm 49000 ((q.den : Nat) : Int) := hd.mono (by decide)
    intro p hp
    rcases List.mem_cons.mp hp with rfl | hp
    · exact ⟨Int.ne_of_gt dp, n9, d9⟩
    rcases List.mem_cons.mp hp with rfl | hp
    · exact ⟨show (1 : Int) ≠ 0 by decide, s0, s1⟩
    rcases List.mem_cons.mp hp with rfl | hp
    · exact ⟨show (1 : Int) ≠ 0 by decide, n9.neg, s1⟩
    rcases List.mem_cons.mp hp with rfl | hp
    · exact ⟨show (1 : Int) ≠ 0 by decide, n9, s1⟩
    · cases hp
  have nl : (nbs q).length = 4 := rfl
  generalize nbs q = ps at nb nl
  refine sd_ret (d := .bl true) (EvD.is (ed_op (ed_cb (ea_cons (EvL.data (el_noneR (i := 3) (n := 4) (EvA.is (by by_place) (by rfl)) (by decide) (by decide) fun j hj => ?_)) ea_nil) (cd_len (ds := []) rfl)) (by by_place) od_eqI) (by rfl)) rfl
  have pg : ps[j]? = some (ps.getD j (0, 0)) := by rw [List.getD_eq_getElem?_getD, List.getElem?_eq_getElem (by omega)]; rfl
  have pm : ps.getD j (0, 0) ∈ ps := List.mem_of_getElem? pg
  have t1 : atI (ps.map fun p => ratS true (Rat.divInt p.1 p.2)) (j : Int) = some (ratS true (Rat.divInt (ps.getD j (0, 0)).1 (ps.getD j (0, 0)).2)) := atI_nat (by rw [List.getElem?_map, pg]; rfl)
  have t2 : atI (ps.map fun p => DL.D.lst [.int p.1, .int p.2]) (j : Int) = some (.lst [.int (ps.getD j (0, 0)).1, .int (ps.getD j (0, 0)).2]) := atI_nat (by rw [List.getElem?_map, pg]; rfl)
  exact EvT.is (et_not (x := true) (et_B (ed_call ((ps.getD j (0, 0)).1, (ps.getD j (0, 0)).2) (by by_place <;> by_in) (nb _ pm) rfl))) (by rfl)
theorem scLawThird : FnScope ["numbers", "bottoms", "row_of_kinds", "line", "made", "tops", "k", "below", "one", "told"] ["numbers", "bottoms", "row_of_kinds"] (defScope sLawThird) := ⟨rfl, rfl, rfl, by decide +kernel, rfl, by decide +kernel, by decide +kernel⟩
theorem okLawThird (T : Txt K mg) (c_LawJust : Cal P w K mg base 3 "_law_just" ["value", "top", "bottom"] (spLawJust K)) (c_RowOf : Cal P w K mg base 34 "row_of" ["ratios"] (spRowOf K)) (c_LawSame : Cal P w K mg base 4 "_law_same" ["value", "own"] (spLawSame K)) (c_Ratio_bottom_top : CalK P w K mg base 33 "ratio" ["top", "bottom"] ["bottom", "top"] (spRatio K) gv_Ratio_bottom_top) (c_RowOf_ratios : CalK P w K mg base 34 "row_of" ["ratios"] ["ratios"] (spRowOf K) gv_RowOf_ratios) : Cal P w K mg base 35 "_law_third" ["numbers", "bottoms", "row_of_kinds"] (spLawThird K) := by
  refine cal_mk T.f_LawThird T.g_LawThird scLawThird (fun vs H Q E h => spT_len (n := 3) (fun _ => rfl) h) (fun _ _ _ _ _ _ us hl => match us, hl with | [_, _, _], _ => rfl) (fun cdv A outer s H vs Q E hr h => ?_)
  refine ⟨_, (pss_cons (ps_set (i := 3) scLawThird.nd rfl (by first | exact Or.inl rfl | exact Or.inr rfl) (pe_op op_mulW (pe_op op_mulW (pe_ix (DL.ix_seqC (K := K) rfl) (pv 1) pe_int (fun _ _ => rfl)) (pe_ix (DL.ix_seqC (K := K) rfl) (pv 1) pe_int (fun _ _ => rfl))) pe_int))
      (pss_cons (ps_set (i := 4) scLawThird.nd rfl (by first | exact Or.inl rfl | exact Or.inr rfl) (pe_lst pa_nil))
      (pss_cons (ps_set (i := 5) scLawThird.nd rfl (by first | exact Or.inl rfl | exact Or.inr rfl) (pe_lst pa_nil))
      (pss_cons (ps_for PassesOwn.never rfl (pi_range1 (by rfl) T.b_range (pa_cons (pe_callB (DL.call_len_seqC (K := K) rfl) (by rfl) T.b_len (by decide +kernel) (pa_cons (pv 0) pa_nil)) pa_nil)) (pg_name (i := 6) scLawThird.nd rfl (by first | exact Or.inl rfl | exact Or.inr rfl))
      (pss_cons (ps_set (i := 7) scLawThird.nd rfl (by first | exact Or.inl rfl | exact Or.inr rfl) (pe_op op_mulW (pe_ix (DL.ix_seqC (K := K) rfl) (pv 1) (pe_op op_mod (pe_callTy call_int1 (by rfl) T.b_int (by decide +kernel) (pa_cons (pe_ix (DL.ix_seqC (K := K) rfl) (pv 2) (pe_op op_mod (pe_callTy call_int1 (by rfl) T.b_int (by decide +kernel) (pa_cons (pv 6) pa_nil)) pe_int) (fun _ _ => rfl)) pa_nil)) pe_int) (fun _ _ => rfl)) (pe_ix (DL.ix_seqC (K := K) rfl) (pe_lst (pa_cons pe_int (pa_cons pe_int (pa_cons pe_int (pa_cons pe_int pa_nil))))) (pe_op op_fdivW (pe_ix (DL.ix_seqC (K := K) rfl) (pv 2) (pe_op op_mod (pe_callTy call_int1 (by rfl) T.b_int (by decide +kernel) (pa_cons (pv 6) pa_nil)) pe_int) (fun _ _ => rfl)) pe_int) (fun _ _ => rfl))))
      (pss_cons (ps_set (i := 8) scLawThird.nd rfl (by first | exact Or.inl rfl | exact Or.inr rfl) (DL.pe_calK c_Ratio_bottom_top (hr.mono (by decide)) (pk_cons (pv 7) (pk_cons (pe_ix (DL.ix_seqC (K := K) rfl) (pv 0) (pv 6) (fun _ _ => rfl)) pk_nil))))
      (pss_cons (ps_if (pt_not (pt_val (DL.pe_cal c_LawJust (hr.mono (by decide)) (pa_cons (pv 8) (pa_cons (pe_ix (DL.ix_seqC (K := K) rfl) (pv 0) (pv 6) (fun _ _ => rfl)) (pa_cons (pv 7) pa_nil))))))
      (pss_one (ps_ret pe_non))
      pss_nil)
      (pss_cons (ps_expr (pe_bm PySem.F.plainAttrs_list PySem.F.slot_list_append PySem.F.type_list_append mt_append (pv 4) (pa_cons (pe_ifExp (pt_cmpR op_eq (pe_op op_mod (pe_callTy call_int1 (by rfl) T.b_int (by decide +kernel) (pa_cons (pv 6) pa_nil)) pe_int) pe_int (nomark _)) (pe_callTy (DL.call_list_ofC (K := K) rfl) (by rfl) T.b_list (by decide +kernel) (pa_cons (pv 8) pa_nil)) (pv 8)) pa_nil)))
      (pss_one (ps_expr (pe_bm PySem.F.plainAttrs_list PySem.F.slot_list_append PySem.F.type_list_append mt_append (pv 5) (pa_cons (pe_op op_mulW (pe_ix (DL.ix_seqC (K := K) rfl) (pv 0) (pv 6) (fun _ _ => rfl)) (pe_op op_fdivW (pv 3) (pv 7))) pa_nil)))))))))
      (pss_cons (ps_set (i := 9) scLawThird.nd rfl (by first | exact Or.inl rfl | exact Or.inr rfl) (DL.pe_cal c_RowOf (hr.mono (by decide)) (pa_cons (pv 4) pa_nil)))
      (pss_cons (ps_if (PW.pt (pw_or (pt_not (pt_val (DL.pe_cal c_LawSame (hr.mono (by decide)) (pa_cons (pv 9) (pa_cons (pe_lst (pa_cons (pv 5) (pa_cons (pv 3) pa_nil))) pa_nil))))) (pw_or1 (pt_not (pt_val (DL.pe_cal c_LawSame (hr.mono (by decide)) (pa_cons (DL.pe_calK c_RowOf_ratios (hr.mono (by decide)) (pk_cons (pe_callTy (DL.call_tuple_ofC (K := K) rfl) (by rfl) T.b_tuple (by decide +kernel) (pa_cons (pv 4) pa_nil)) pk_nil)) (pa_cons (pe_lst (pa_cons (pv 5) (pa_cons (pv 3) pa_nil))) pa_nil))))))))
      (pss_one (ps_ret pe_non))
      pss_nil)
      (pss_one (ps_ret (pe_lst (pa_cons (pv 9) (pa_cons (pe_lst (pa_cons (pv 5) (pa_cons (pv 3) pa_nil))) pa_nil))))))))))), ?_⟩
  refine sd_fn h (fun _ => Nat.le_of_ble_eq_true rfl) ?_
  try dsimp only [L2.cxOf]
  intro ⟨nums, b0, b1, kinds⟩ T0
  have T0 : ThOk nums b0 b1 kinds := T0
  have T1 := T0
  obtain ⟨hN, hK, hkd, hp0, hp1, hs0, hs1, hsn⟩ := T1
  have nR : ∀ qs, noL (rowS true qs) = true := fun qs => by
    show ((noLs (dI (topsQ qs))) && _) = true
    rw [noLs_dI]
    rfl
  have hline := T0.line
  have m0 := hs0.mulW hs1 (by decide)
  have m1 := (hs0.mul hs1).mulW (n := 5) (y := 6) (by unfold Sm; decide) (by decide)
  show SD K _ [.sh (.lst (dI nums)), .sh (.lst (dI [b0, b1])), .sh (.lst (dI kinds)), .no, .no, .no, .no, .no, .no, .no] _
  refine sd_then (sd_asg (d := .int (b0 * b1 * 6)) (EvD.is (by by_place <;> by_in) (by rfl)) ?_)
  refine sd_then (sd_asgL (ds := []) (el_lst ea_nil (by decide)) ?_)
  refine sd_then (sd_asgL (ds := []) (el_lst ea_nil (by decide)) ?_)
  show SD K _ [.sh (.lst (dI nums)), .sh (.lst (dI [b0, b1])), .sh (.lst (dI kinds)), .sh (.int (b0 * b1 * 6)), .ow [], .ow [], .no, .no, .no, .no] _
  refine sd_then (sd_forRn [6, 7, 8] (z := (nums.length : Int)) (EvA.is (by by_place <;> by_in) (by rw [List.length_map])) (by omega) (fun m ρ => ρ = [.sh (.lst (dI nums)), .sh (.lst (dI [b0, b1])), .sh (.lst (dI kinds)), .sh (.int (b0 * b1 * 6)), .ow (ratsD (thirdQ nums b0 b1 kinds m)), .ow (dI (thirdT nums b0 b1 kinds m)), .no, .no, .no, .no]) rfl (fun m ρ hm hI => ?_) (fun ρ hI => ?_))
  · subst hI
    refine ⟨rfl, ?_⟩
    have hm : m < nums.length := by omega
    obtain ⟨bp, bd, bs, bm⟩ := T0.below m
    have kb := T0.kdb m
    have i1 : atI (dI kinds) ((m : Int) % 48) = some (.int (kdM kinds m)) := by
      have := atI_nat (dI_get (get_getD (l := kinds) (i := m % 48) 0 (by rw [hK]; exact Nat.mod_lt _ (by decide))))
      rw [Int.natCast_emod] at this
      exact this
    have i2 : atI (dI [b0, b1]) (kdM kinds m % 2) = some (.int (([b0, b1] : List Int).getD (kdM kinds m % 2).toNat 0)) := dI_at (by omega) (by show _ < 2; omega)
    have i3 : atI [DL.D.int 1, .int 2, .int 3, .int 6] (kdM kinds m / 2) = some (.int (([1, 2, 3, 6] : List Int).getD (kdM kinds m / 2).toNat 0)) := dI_at (ns := [1, 2, 3, 6]) (by omega) (by show _ < 4; omega)
    have i4 : atI (dI nums) (m : Int) = some (.int (nums.getD m 0)) := atI_nat (dI_get (get_getD 0 hm))
    have dv : CDivW (kdM kinds m) 2 := M.divS (by omega) (by omega)
    have dw : CDivW (b0 * b1 * 6) (belowM b0 b1 kinds m) := divW bp bs (by decide)
    have sn := hsn _ (M.getD_mem (l := nums) (i := m) 0 hm)
    have m2 : CMulW (nums.getD m 0) (b0 * b1 * 6 / belowM b0 b1 kinds m) := sn.mulW (n := 2675) (Nat.lt_of_le_of_lt (Int.natAbs_ediv_le_natAbs _ _) hline.2) (by decide)
    have eB : belowM b0 b1 kinds m = ([b0, b1] : List Int).getD (kdM kinds m % 2).toNat 0 * ([1, 2, 3, 6] : List Int).getD (kdM kinds m / 2).toNat 0 := rfl
    have q48 : (0 : Int) < 48 := by decide
    show SD K _ [.sh (.lst (dI nums)), .sh (.lst (dI [b0, b1])), .sh (.lst (dI kinds)), .sh (.int (b0 * b1 * 6)), .ow (ratsD (thirdQ nums b0 b1 kinds m)), .ow (dI (thirdT nums b0 b1 kinds m)), .sh (.int (m : Int)), .no, .no, .no] _
    refine sd_then (sd_asg (d := .int (belowM b0 b1 kinds m)) (EvD.is (by by_place <;> by_in) (by rw [eB])) ?_)
    show SD K _ [.sh (.lst (dI nums)), .sh (.lst (dI [b0, b1])), .sh (.lst (dI kinds)), .sh (.int (b0 * b1 * 6)), .ow (ratsD (thirdQ nums b0 b1 kinds m)), .ow (dI (thirdT nums b0 b1 kinds m)), .sh (.int (m : Int)), .sh (.int (belowM b0 b1 kinds m)), .no, .no] _
    have eQ : thirdQ nums b0 b1 kinds (m + 1) = thirdQ nums b0 b1 kinds m ++ [(!decide ((m : Int) % 2 = 1), Rat.divInt (nums.getD m 0) (belowM b0 b1 kinds m))] := by unfold thirdQ; rw [List.range_succ, List.map_append]; rfl
    have eT : thirdT nums b0 b1 kinds (m + 1) = thirdT nums b0 b1 kinds m ++ [nums.getD m 0 * (b0 * b1 * 6 / belowM b0 b1 kinds m)] := by unfold thirdT; rw [List.range_succ, List.map_append]; rfl
    have lQ : (ratsD (thirdQ nums b0 b1 kinds m)).length < sizeLine := by unfold ratsD thirdQ; rw [List.length_map, List.length_map, List.length_range, PySem.sizeLine_eq]; omega
    have lT : (dI (thirdT nums b0 b1 kinds m)).length < sizeLine := by unfold thirdT; rw [List.length_map, List.length_map, List.length_range, PySem.sizeLine_eq]; omega
    generalize thirdQ nums b0 b1 kinds (m + 1) = Q1 at eQ ⊢
    generalize thirdT nums b0 b1 kinds (m + 1) = T1 at eT ⊢
    generalize thirdQ nums b0 b1 kinds m = Q0 at *
    generalize thirdT nums b0 b1 kinds m = TT at *
    clear eB i1 i2 i3
    generalize belowM b0 b1 kinds m = bl at *
    generalize nums.getD m 0 = nm at *
    refine sd_then (sd_asg (d := ratS true (Rat.divInt nm bl)) (ed_callK0 (bs := [.int bl, .int nm]) (nm, bl) (by by_place <;> by_in) rfl (fun H zs r => gvTurn gv_Ratio_bottom_top (fun _ _ => rfl) H zs r) (Int.ne_of_gt bp) rfl) ?_)
    show SD K _ [.sh (.lst (dI nums)), .sh (.lst (dI [b0, b1])), .sh (.lst (dI kinds)), .sh (.int (b0 * b1 * 6)), .ow (ratsD Q0), .ow (dI TT), .sh (.int (m : Int)), .sh (.int bl), .sh (ratS true (Rat.divInt nm bl)), .no] _
    refine sd_then (sd_if (x := false) (EvT.is (et_not (x := true) (et_B (ed_call (nm, bl) (by by_place <;> by_in) ⟨Int.ne_of_gt bp, sn.mono (by decide), bs.mono (by decide)⟩ rfl))) (by rfl)) (fun h => by cases h) (fun _ => sd_next ?_))
    show SD K _ [.sh (.lst (dI nums)), .sh (.lst (dI [b0, b1])), .sh (.lst (dI kinds)), .sh (.int (b0 * b1 * 6)), .ow (ratsD Q0), .ow (dI TT), .sh (.int (m : Int)), .sh (.int bl), .sh (.tup [.int (Rat.divInt nm bl).num, .int (((Rat.divInt nm bl).den : Nat) : Int)]), .no] _
    refine sd_then (sd_app (i := 4) (d := ratS (!decide ((m : Int) % 2 = 1)) (Rat.divInt nm bl)) rfl (ed_if (x := decide ((m : Int) % 2 = 1)) (by by_place <;> by_in) (fun h => ?_) (fun h => ?_)) lQ ?_)
    · rw [h]
      exact EvL.data (el_cb (by by_place <;> by_in) (cl_list rfl))
    · rw [h]
      exact ed_var (by with_unfolding_all rfl)
    show SD K _ [.sh (.lst (dI nums)), .sh (.lst (dI [b0, b1])), .sh (.lst (dI kinds)), .sh (.int (b0 * b1 * 6)), .ow (ratsD Q0 ++ [ratS (!decide ((m : Int) % 2 = 1)) (Rat.divInt nm bl)]), .ow (dI TT), .sh (.int (m : Int)), .sh (.int bl), .sh (.tup [.int (Rat.divInt nm bl).num, .int (((Rat.divInt nm bl).den : Nat) : Int)]), .no] _
    refine sd_app (i := 5) (d := .int (nm * (b0 * b1 * 6 / bl))) rfl (EvD.is (by by_place <;> by_in) (by rfl)) lT ?_
    rw [eQ, eT, dI_append]
    unfold ratsD
    rw [List.map_append]
    rfl
  · subst hI
    rw [Int.toNat_natCast]
    have RW := T0.rw
    have RE := T0.eq
    have lq : (thirdQ nums b0 b1 kinds nums.length).length = nums.length := by unfold thirdQ; rw [List.length_map, List.length_range]
    have qs := RW.Q
    have ql := RW.ql
    have rsm : ∀ r ∈ thirdQ nums b0 b1 kinds nums.length, SmR 100000 r.2 := fun r hr => by
      obtain ⟨k, hk, rfl⟩ := List.mem_map.mp (show r ∈ List.map _ _ from hr)
      have b := T0.below k
      have := ratR (Int.ne_of_gt b.1) ((hsn _ (M.getD_mem (l := nums) (i := k) 0 (List.mem_range.mp hk))).mono (show 1335 ≤ 100000 by decide)) (b.2.2.1.mono (by decide))
      exact this
    have pr : ∀ k, (k, thirdQ nums b0 b1 kinds nums.length).2.length ≤ 10000 ∧ (∀ r ∈ (k, thirdQ nums b0 b1 kinds nums.length).2, SmR 100000 r.2) ∧ lineN ((k, thirdQ nums b0 b1 kinds nums.length).2.map Prod.snd) < 2 ^ 100000 := fun (k : Bool) => ⟨by show (thirdQ nums b0 b1 kinds nums.length).length ≤ 10000; rw [lq]; omega, rsm, by
      show lineN ((thirdQ nums b0 b1 kinds nums.length).map Prod.snd) < 2 ^ 100000
      rw [RE]
      have := qs.2.mono (show 4100 ≤ 100000 by decide)
      unfold Sm at this
      rw [Int.natAbs_natCast] at this
      exact this⟩
    have eT : thirdR nums b0 b1 kinds = (thirdT nums b0 b1 kinds nums.length, b0 * b1 * 6) := rfl
    have sp : (thirdR nums b0 b1 kinds).2 ≠ 0 ∧ (thirdR nums b0 b1 kinds).1.length ≤ 10000 ∧ (∀ n ∈ (thirdR nums b0 b1 kinds).1, Sm 49000 n) ∧ Sm 49000 (thirdR nums b0 b1 kinds).2 := ⟨RW.nz, by rw [RW.len]; omega, fun n hn => (RW.sm.1 n hn).mono (by decide), RW.sm.2.mono (by decide)⟩
    show SD K _ [.sh (.lst (dI nums)), .sh (.lst (dI [b0, b1])), .sh (.lst (dI kinds)), .sh (.int (b0 * b1 * 6)), .ow (ratsD (thirdQ nums b0 b1 kinds nums.length)), .ow (dI (thirdT nums b0 b1 kinds nums.length)), .no, .no, .no, .no] _
    refine sd_frz (i := 4) rfl rfl (sd_frz (i := 5) rfl rfl ?_)
    show SD K _ [.sh (.lst (dI nums)), .sh (.lst (dI [b0, b1])), .sh (.lst (dI kinds)), .sh (.int (b0 * b1 * 6)), .sh (seqD false (ratsD (thirdQ nums b0 b1 kinds nums.length))), .sh (.lst (dI (thirdT nums b0 b1 kinds nums.length))), .no, .no, .no, .no] _
    refine sd_then (sd_asg (d := rowS true (qR (thirdR nums b0 b1 kinds))) (ed_call (false, thirdQ nums b0 b1 kinds nums.length) (by by_place) (pr false) (by show Ret.sh (rowS true ((thirdQ nums b0 b1 kinds nums.length).map Prod.snd)) = _; rw [RE])) ?_)
    show SD K _ [.sh (.lst (dI nums)), .sh (.lst (dI [b0, b1])), .sh (.lst (dI kinds)), .sh (.int (b0 * b1 * 6)), .sh (.lst (ratsD (thirdQ nums b0 b1 kinds nums.length))), .sh (.lst (dI (thirdT nums b0 b1 kinds nums.length))), .no, .no, .no, .sh (rowS true (qR (thirdR nums b0 b1 kinds)))] _
    refine sd_then (sd_if (x := false) (EvT.is (et_or (x := false) (et_not (x := true) (et_B (ed_call (thirdR nums b0 b1 kinds) (ea_cons (by by_place) (ea_cons (a := rawP (thirdR nums b0 b1 kinds)) (EvD.is (by by_place <;> by_in) (by rfl)) ea_nil)) sp rfl))) fun _ => et_not (x := true) (et_B (ed_call (thirdR nums b0 b1 kinds) (ea_cons (a := rowS true (qR (thirdR nums b0 b1 kinds))) (ed_callK0 (bs := [.tup (ratsD (thirdQ nums b0 b1 kinds nums.length))]) (true, thirdQ nums b0 b1 kinds nums.length) (ea_cons (ed_cb (by by_place) (cd_tuple rfl)) ea_nil) rfl (fun H zs r => gvOne gv_RowOf_ratios (fun _ => rfl) H zs r) (pr true) (by show Ret.sh (rowS true ((thirdQ nums b0 b1 kinds nums.length).map Prod.snd)) = _; rw [RE])) (ea_cons (a := rawP (thirdR nums b0 b1 kinds)) (EvD.is (by by_place <;> by_in) (by rfl)) ea_nil)) sp rfl))) (by rfl)) (fun h => by cases h) (fun _ => sd_next ?_))
    show SD K _ [.sh (.lst (dI nums)), .sh (.lst (dI [b0, b1])), .sh (.lst (dI kinds)), .sh (.int (b0 * b1 * 6)), .sh (.lst (ratsD (thirdQ nums b0 b1 kinds nums.length))), .sh (.lst (dI (thirdT nums b0 b1 kinds nums.length))), .no, .no, .no, .sh (rowS true (qR (thirdR nums b0 b1 kinds)))] _
    exact sd_ret (d := .lst [rowS true (qR (thirdR nums b0 b1 kinds)), rawP (thirdR nums b0 b1 kinds)]) (ed_lst (ea_cons (by by_place) (ea_cons (a := rawP (thirdR nums b0 b1 kinds)) (EvD.is (by by_place <;> by_in) (by rfl)) ea_nil)) (Nat.le_of_ble_eq_true rfl)) rfl
end
end K00

set_option Elab.async false
set_option linter.all false
set_option maxRecDepth 100000
set_option maxHeartbeats 4000000
set_option exponentiation.threshold 5000
namespace R0
open PySem PySem.Spec PyProof.Rows L2 DL
open M hiding tops_len
open LS hiding spRatio spRow spRowOf
section
variable {K : PySem.W.Frag} {η : DL.Env} {E : XK} {ta tb tc : TE} {t : TA} {m A B : Nat} {a b : List Int × Int} {k j : Bool} {q r : Rat} {f g : Int}
theorem SmQ.mono {A B : Nat} {qs : List Rat} (h : SmQ A qs) (l : A ≤ B) : SmQ B qs := ⟨fun n hn => (h.1 n hn).mono l, h.2.mono l⟩
theorem SmR.mono {A B : Nat} (h : SmR A q) (l : A ≤ B) : SmR B q := ⟨h.1.mono l, h.2.mono l⟩
theorem pre_two (h : Rw m A a) (g : Rw m B b) (hm : m ≤ 200) (hA : A ≤ 100000) (hB : B ≤ 100000) : preTwoR ((k, qR a), (j, qR b)) :=
  ⟨h.ql.trans g.ql.symm, by show (qR a).length ≤ 10000; rw [h.ql]; omega, h.Q.mono hA, g.Q.mono hB⟩
theorem sum_ok (h : Rw m A a) (g : Rw m B b) (hm : m ≤ 200) (hA : A ≤ 100000) (hB : B ≤ 100000) (ha : EvA K t η [rowS k (qR a), rowS j (qR b)]) : EvD K (tCall (spRowSum K) [] E t) η (rowS true (qR (added a b))) :=
  ed_call ((k, qR a), (j, qR b)) ha (pre_two h g hm hA hB) (by show Ret.sh (rowS true (addQ (qR a) (qR b))) = _; rw [h.addQ_ g])
theorem sumK_ok (h : Rw m A a) (g : Rw m B b) (hm : m ≤ 200) (hA : A ≤ 100000) (hB : B ≤ 100000) (ha : EvA K t η [rowS j (qR b), rowS k (qR a)]) : EvD K (tCallK0 (spRowSum K) 2 gv_RowSum_two_one E t) η (rowS true (qR (added a b))) :=
  ed_callK0 ((k, qR a), (j, qR b)) ha rfl (fun H zs r => gvTurn _ (fun _ _ => rfl) H zs r) (pre_two h g hm hA hB) (by show Ret.sh (rowS true (addQ (qR a) (qR b))) = _; rw [h.addQ_ g])
theorem dot_ok (h : Rw m A a) (g : Rw m B b) (hm : m ≤ 200) (hA : A ≤ 100000) (hB : B ≤ 100000) (ha : EvA K t η [rowS k (qR a), rowS j (qR b)]) : EvD K (tCall (spDot K) [] E t) η (ratS true (Rat.divInt (dotR a.1 b.1) (a.2 * b.2))) :=
  ed_call ((k, qR a), (j, qR b)) ha (pre_two h g hm hA hB) (by show Ret.sh (ratS true (dotQ (qR a) (qR b))) = _; rw [h.dotQ_ g])
theorem dotK_ok (h : Rw m A a) (g : Rw m B b) (hm : m ≤ 200) (hA : A ≤ 100000) (hB : B ≤ 100000) (ha : EvA K t η [rowS j (qR b), rowS k (qR a)]) : EvD K (tCallK0 (spDot K) 2 gv_Dot_two_one E t) η (ratS true (Rat.divInt (dotR a.1 b.1) (a.2 * b.2))) :=
  ed_callK0 ((k, qR a), (j, qR b)) ha rfl (fun H zs r => gvTurn _ (fun _ _ => rfl) H zs r) (pre_two h g hm hA hB) (by show Ret.sh (ratS true (dotQ (qR a) (qR b))) = _; rw [h.dotQ_ g])
theorem scaled_ok (h : Rw m A a) (hm : m ≤ 200) (hA : A ≤ 100000) (g0 : g ≠ 0) (hf : Sm 100000 f) (hg : Sm 100000 g) (ha : EvA K t η [rowS k (qR a), ratS j (Rat.divInt f g)]) : EvD K (tCall (spRowScaled K) [] E t) η (rowS true (qR (byed a f g))) :=
  ed_call ((k, qR a), (j, Rat.divInt f g)) ha ⟨by show (qR a).length ≤ 10000; rw [h.ql]; omega, h.Q.mono hA, ratR g0 hf hg⟩ (by show Ret.sh (rowS true (byQ (qR a) (Rat.divInt f g))) = _; rw [byQ_])
theorem scaledK_ok (h : Rw m A a) (hm : m ≤ 200) (hA : A ≤ 100000) (g0 : g ≠ 0) (hf : Sm 100000 f) (hg : Sm 100000 g) (ha : EvA K t η [ratS j (Rat.divInt f g), rowS k (qR a)]) : EvD K (tCallK0 (spRowScaled K) 2 gv_RowScaled_factor_one E t) η (rowS true (qR (byed a f g))) :=
  ed_callK0 ((k, qR a), (j, Rat.divInt f g)) ha rfl (fun H zs r => gvTurn _ (fun _ _ => rfl) H zs r) ⟨by show (qR a).length ≤ 10000; rw [h.ql]; omega, h.Q.mono hA, ratR g0 hf hg⟩ (by show Ret.sh (rowS true (byQ (qR a) (Rat.divInt f g))) = _; rw [byQ_])
theorem pre_raw (h : Rw m A a) (g : Rw m B b) (hm : m ≤ 200) (hA : A ≤ 100000) (hB : B ≤ 100000) : preRaw2 (a, b) :=
  ⟨h.len.trans g.len.symm, by show a.1.length ≤ 10000; rw [h.len]; omega, (h.mono hA).sm, (g.mono hB).sm⟩
theorem added_ok (h : Rw m A a) (g : Rw m B b) (hm : m ≤ 200) (hA : A ≤ 100000) (hB : B ≤ 100000) (ha : EvA K t η [rawP a, rawP b]) : EvD K (tCall (spLawAdded K) [] E t) η (rawP (added a b)) :=
  ed_call (a, b) ha (pre_raw h g hm hA hB) rfl
theorem dotted_ok (h : Rw m A a) (g : Rw m B b) (hm : m ≤ 200) (hA : A ≤ 100000) (hB : B ≤ 100000) (ha : EvA K t η [rawP a, rawP b]) : EvD K (tCall (spLawDotted K) [] E t) η (.lst [.int (dotR a.1 b.1), .int (a.2 * b.2)]) :=
  ed_call (a, b) ha (pre_raw h g hm hA hB) rfl
theorem by_ok (h : Rw m A a) (hm : m ≤ 200) (hA : A ≤ 100000) (hf : Sm 100000 f) (hg : Sm 100000 g) (ha : EvA K t η [rawP a, .lst [.int f, .int g]]) : EvD K (tCall (spLawBy K) [] E t) η (rawP (byed a f g)) :=
  ed_call (a, false, f, g) ha ⟨by show a.1.length ≤ 10000; rw [h.len]; omega, (h.mono hA).sm, hf, hg⟩ rfl
theorem same_ok {qs : List Rat} (h : Rw m A a) (hm : m ≤ 200) (hA : A ≤ 49000) (e : qs = qR a) (ha : EvA K t η [rowS true qs, rawP a]) : EvD K (tCall (spLawSame K) [] E t) η (.bl true) := by
  subst e
  exact ed_call a ha ⟨h.nz, by show a.1.length ≤ 10000; rw [h.len]; omega, (h.mono hA).sm.1, (h.mono hA).sm.2⟩ rfl
theorem told_ok (e : q = r) (ha : EvA K t η [ratS true q, ratS true r]) : EvD K (tCall (spLawTold K) [] E t) η (.bl true) := by
  subst e
  exact ed_call (q.num, ((q.den : Nat) : Int)) ha trivial rfl
theorem just_ok (g0 : g ≠ 0) (hf : Sm 49000 f) (hg : Sm 49000 g) (e : q = Rat.divInt f g) (ha : EvA K t η [ratS true q, .int f, .int g]) : EvD K (tCall (spLawJust K) [] E t) η (.bl true) := by
  subst e
  exact ed_call (f, g) ha ⟨g0, hf, hg⟩ rfl
theorem ratio_ok (g0 : g ≠ 0) (hf : Sm 49000 f) (hg : Sm 49000 g) (ha : EvA K t η [.int f, .int g]) : EvD K (tCall (spLawRatio K) [] E t) η (ratS true (Rat.divInt f g)) := ed_call (f, g) ha ⟨g0, hf, hg⟩ rfl
theorem form_ok {qs : List Rat} (ha : EvA K t η [rowS true qs, .bl true]) : EvD K (tCall (spLawForm K) [] E t) η (rowS false qs) := ed_call qs ha trivial rfl
theorem plus_ok (hq : SmR 100000 q) (hr : SmR 100000 r) (ha : EvA K t η [ratS k q, ratS j r]) : EvD K (tCall (spPlus K) [] E t) η (ratS true (q + r)) := ed_call ((k, q), (j, r)) ha ⟨hq, hr⟩ rfl
theorem minus_ok (hq : SmR 100000 q) (hr : SmR 100000 r) (ha : EvA K t η [ratS k q, ratS j r]) : EvD K (tCall (spMinus K) [] E t) η (ratS true (q - r)) := ed_call ((k, q), (j, r)) ha ⟨hq, hr⟩ rfl
theorem times_ok (hq : SmR 100000 q) (hr : SmR 100000 r) (ha : EvA K t η [ratS k q, ratS j r]) : EvD K (tCall (spTimes K) [] E t) η (ratS true (q * r)) := ed_call ((k, q), (j, r)) ha ⟨hq, hr⟩ rfl
theorem order_ok (hq : SmR 100000 q) (hr : SmR 100000 r) (ha : EvA K t η [ratS k q, ratS j r]) : EvD K (tCall (spOrder K) [] E t) η (.int (signQ q r)) := ed_call ((k, q), (j, r)) ha ⟨hq, hr⟩ rfl
theorem plusK_ok (hq : SmR 100000 q) (hr : SmR 100000 r) (ha : EvA K t η [ratS j r, ratS k q]) : EvD K (tCallK0 (spPlus K) 2 gv_Plus_two_one E t) η (ratS true (q + r)) := ed_callK0 ((k, q), (j, r)) ha rfl (fun H zs r => gvTurn _ (fun _ _ => rfl) H zs r) ⟨hq, hr⟩ rfl
theorem minusK_ok (hq : SmR 100000 q) (hr : SmR 100000 r) (ha : EvA K t η [ratS j r, ratS k q]) : EvD K (tCallK0 (spMinus K) 2 gv_Minus_two_one E t) η (ratS true (q - r)) := ed_callK0 ((k, q), (j, r)) ha rfl (fun H zs r => gvTurn _ (fun _ _ => rfl) H zs r) ⟨hq, hr⟩ rfl
theorem timesK_ok (hq : SmR 100000 q) (hr : SmR 100000 r) (ha : EvA K t η [ratS j r, ratS k q]) : EvD K (tCallK0 (spTimes K) 2 gv_Times_two_one E t) η (ratS true (q * r)) := ed_callK0 ((k, q), (j, r)) ha rfl (fun H zs r => gvTurn _ (fun _ _ => rfl) H zs r) ⟨hq, hr⟩ rfl
theorem orderK_ok (hq : SmR 100000 q) (hr : SmR 100000 r) (ha : EvA K t η [ratS j r, ratS k q]) : EvD K (tCallK0 (spOrder K) 2 gv_Order_two_one E t) η (.int (signQ q r)) := ed_callK0 ((k, q), (j, r)) ha rfl (fun H zs r => gvTurn _ (fun _ _ => rfl) H zs r) ⟨hq, hr⟩ rfl
theorem overK_ok (hq : SmR 100000 q) (hr : SmR 100000 r) (h0 : r.num ≠ 0) (ha : EvA K t η [ratS j r, ratS k q]) : EvD K (tCallK0 (spOver K) 2 gv_Over_two_one E t) η (ratS true (q / r)) := ed_callK0 ((k, q), (j, r)) ha rfl (fun H zs r => gvTurn _ (fun _ _ => rfl) H zs r) ⟨⟨hq, hr⟩, h0⟩ rfl
theorem item_ok {i : Nat} (h : Rw m A a) (hi : i < m) (ha : EvA K t η [rowS k (qR a), .int i]) : EvD K (tCall (spRowItem K) [] E t) η (ratS true (Rat.divInt (a.1.getD i 0) a.2)) :=
  ed_call (k, qR a, i) ha (by show i < (qR a).length; rw [h.ql]; exact hi) (by show Ret.sh (ratS true ((qR a).getD i 0)) = _; rw [h.at_ hi])
theorem itemK_ok {i : Nat} (h : Rw m A a) (hi : i < m) (ha : EvA K t η [.int i, rowS k (qR a)]) : EvD K (tCallK0 (spRowItem K) 2 gv_RowItem_index_one E t) η (ratS true (Rat.divInt (a.1.getD i 0) a.2)) :=
  ed_callK0 (k, qR a, i) ha rfl (fun H zs r => gvTurn _ (fun _ _ => rfl) H zs r) (by show i < (qR a).length; rw [h.ql]; exact hi) (by show Ret.sh (ratS true ((qR a).getD i 0)) = _; rw [h.at_ hi])
theorem addR_get {x y : List Int} {l n : Int} {k : Nat} (h : k < x.length) : (addR x l y n).getD k 0 = x.getD k 0 * n + y.getD k 0 * l := by
  unfold addR
  simp only [List.getD_eq_getElem?_getD, List.getElem?_map, List.getElem?_range h, Option.map_some, Option.getD_some]
theorem byR_get {x : List Int} {k : Nat} (h : k < x.length) : (byR x f).getD k 0 = x.getD k 0 * f := by
  unfold byR
  simp only [List.getD_eq_getElem?_getD, List.getElem?_map, List.getElem?_eq_getElem h, Option.map_some, Option.getD_some]
/-- a row's contrary -/
def contra (a : List Int × Int) : List Int × Int := (a.1.map fun x => -x, a.2)
theorem Rw.contra_ (h : Rw m A a) : Rw m A (contra a) := ⟨(List.length_map _).trans h.len, h.nz, fun n hn => by
  obtain ⟨x, hx, rfl⟩ := List.mem_map.mp (show n ∈ List.map _ _ from hn)
  exact (h.sm.1 x hx).neg, h.sm.2⟩
theorem q_contra : qR (contra a) = byQ (qR a) (-1) := rats_contrary a.1 a.2
theorem neg1 : Rat.divInt (-1) 1 = -1 := rfl
end
end R0

set_option Elab.async false
set_option linter.all false
set_option maxRecDepth 100000
set_option maxHeartbeats 4000000
set_option exponentiation.threshold 5000
namespace K00
open PySem PySem.Spec PyProof.Rows L2 DL R0
open M hiding tops_len
open LS hiding spRatio spRow spRowOf
local macro_rules | `(tactic| by_item) => `(tactic| with_reducible first
  | exact DL.ed_var (by with_unfolding_all rfl) | exact DL.ed_int | exact DL.ed_bl | exact DL.ed_non | exact DL.ed_str | exact DL.ea_nil | exact DL.et_yes
  | apply DL.ea_cons | apply DL.ed_op | apply DL.ed_un | apply DL.ed_lst | apply DL.ed_fld | (show L2.Cls _ _; with_reducible assumption) | (show L2.NoAttr _ _ _; with_reducible assumption) | (show List.lookup _ _ = _; with_unfolding_all rfl) | (show List.length _ ≤ PySem.sizeLine; exact Nat.le_of_ble_eq_true (by with_unfolding_all rfl)) | apply DL.ed_isi | apply DL.ed_cb
  | exact DL.od_I0 | exact DL.od_B0 | exact DL.od_eqI | exact DL.od_neI | exact DL.od_eqS | exact DL.od_isN | exact DL.od_notN | (apply DL.od_divX) | (apply DL.od_divN) | apply DL.od_I | apply DL.od_ix | exact DL.ud_I
  | apply DL.cd_len | exact DL.cd_int | exact DL.cd_intB | exact DL.cd_1 | exact DL.cd_gcd | apply DL.cd_lcmX | exact DL.cd_min3 | exact DL.cd_2
  | apply DL.et_test | apply DL.et_B | apply DL.et_not | apply DL.ed_notV
  | (show DL.tyB _ = _; with_unfolding_all rfl) | (show DL.itemsOf _ = _; with_unfolding_all rfl) | exact DL.seqD_items | (show L2.atI _ _ = _; with_reducible assumption) | (show L2.atI _ _ = _; exact L2.atI_nat (by with_reducible assumption)) | exact DL.atI_zero | exact DL.atI_one | (show L2.atI _ _ = _; with_unfolding_all rfl) | (show L2.kitB _ _ = _; first | exact DL.kb_NoneType_int | exact DL.kb_NoneType_bool | exact DL.kb_NoneType_tuple | exact DL.kb_NoneType_list | exact DL.kb_NoneType_str | exact DL.kb_NoneType_dict | exact DL.kb_bool_int | exact DL.kb_bool_bool | exact DL.kb_bool_tuple | exact DL.kb_bool_list | exact DL.kb_bool_str | exact DL.kb_bool_dict | exact DL.kb_int_int | exact DL.kb_int_bool | exact DL.kb_int_tuple | exact DL.kb_int_list | exact DL.kb_int_str | exact DL.kb_int_dict | exact DL.kb_str_int | exact DL.kb_str_bool | exact DL.kb_str_tuple | exact DL.kb_str_list | exact DL.kb_str_str | exact DL.kb_str_dict | exact DL.kb_list_int | exact DL.kb_list_bool | exact DL.kb_list_tuple | exact DL.kb_list_list | exact DL.kb_list_str | exact DL.kb_list_dict | exact DL.kb_tuple_int | exact DL.kb_tuple_bool | exact DL.kb_tuple_tuple | exact DL.kb_tuple_list | exact DL.kb_tuple_str | exact DL.kb_tuple_dict | exact DL.kb_dict_int | exact DL.kb_dict_bool | exact DL.kb_dict_tuple | exact DL.kb_dict_list | exact DL.kb_dict_str | exact DL.kb_dict_dict))
local macro_rules | `(tactic| by_place) => `(tactic| (repeat' by_item))
local macro_rules | `(tactic| by_in) => `(tactic| first | (with_reducible assumption) | (with_reducible exact DL.seqD_items) | (show (0 : Int) < _; omega) | (show (0 : Int) < _; decide +kernel) | exact M.mulS (by omega) (by omega) | exact M.mulP (by omega) (by omega) (by omega) | exact M.divS (by omega) (by omega) | exact ⟨by decide, by decide, by decide⟩ | exact ⟨by decide, by decide, by omega⟩ | exact L2.atI_nat (by assumption) | (show L2.atI _ _ = _; rfl))
section
variable {P : Program} {w : World} {K : PySem.W.Frag} {mg : Str → Option Value} {base : Heap}
theorem scLawGrown : FnScope ["told", "own", "summed", "straight", "product", "whole", "own_whole", "both", "own_both", "once", "twice", "own_once", "own_twice", "more"] ["told", "own", "summed", "straight", "product"] (defScope sLawGrown) := ⟨rfl, rfl, rfl, by decide +kernel, rfl, by decide +kernel, by decide +kernel⟩
theorem okLawGrown (T : Txt K mg) (c_LawAdded : Cal P w K mg base 1 "_law_added" ["one", "two"] (spLawAdded K)) (c_Dot : Cal P w K mg base 34 "dot" ["one", "two"] (spDot K)) (c_LawDotted : Cal P w K mg base 1 "_law_dotted" ["one", "two"] (spLawDotted K)) (c_RowScaled : Cal P w K mg base 34 "row_scaled" ["one", "factor"] (spRowScaled K)) (c_LawBy : Cal P w K mg base 1 "_law_by" ["one", "factor"] (spLawBy K)) (c_LawSame : Cal P w K mg base 4 "_law_same" ["value", "own"] (spLawSame K)) (c_RowSum : Cal P w K mg base 34 "row_sum" ["one", "two"] (spRowSum K)) (c_LawForm : Cal P w K mg base 1 "_law_form" ["one", "listed"] (spLawForm K)) (c_RowSum_two_one : CalK P w K mg base 34 "row_sum" ["one", "two"] ["two", "one"] (spRowSum K) gv_RowSum_two_one) (c_RowScaled_factor_one : CalK P w K mg base 34 "row_scaled" ["one", "factor"] ["factor", "one"] (spRowScaled K) gv_RowScaled_factor_one) : Cal P w K mg base 35 "_law_grown" ["told", "own", "summed", "straight", "product"] (spLawGrown K) := by
  refine cal_mk T.f_LawGrown T.g_LawGrown scLawGrown (fun vs H Q E h => spT_len (n := 5) (fun _ => rfl) h) (fun _ _ _ _ _ _ us hl => match us, hl with | [_, _, _, _, _], _ => rfl) (fun cdv A outer s H vs Q E hr h => ?_)
  refine ⟨_, (pss_cons (ps_set (i := 5) scLawGrown.nd rfl (by first | exact Or.inl rfl | exact Or.inr rfl) (DL.pe_calK c_RowSum_two_one (hr.mono (by decide)) (pk_cons (pe_ix (DL.ix_seqC (K := K) rfl) (pv 0) pe_int (fun _ _ => rfl)) (pk_cons (pv 2) pk_nil))))
      (pss_cons (ps_set (i := 6) scLawGrown.nd rfl (by first | exact Or.inl rfl | exact Or.inr rfl) (DL.pe_cal c_LawAdded (hr.mono (by decide)) (pa_cons (DL.pe_cal c_LawAdded (hr.mono (by decide)) (pa_cons (pe_ix (DL.ix_seqC (K := K) rfl) (pv 1) pe_int (fun _ _ => rfl)) (pa_cons (pe_ix (DL.ix_seqC (K := K) rfl) (pv 1) pe_int (fun _ _ => rfl)) pa_nil))) (pa_cons (pe_ix (DL.ix_seqC (K := K) rfl) (pv 1) pe_int (fun _ _ => rfl)) pa_nil))))
      (pss_cons (ps_set (i := 7) scLawGrown.nd rfl (by first | exact Or.inl rfl | exact Or.inr rfl) (DL.pe_cal c_Dot (hr.mono (by decide)) (pa_cons (pv 2) (pa_cons (pe_ix (DL.ix_seqC (K := K) rfl) (pv 0) pe_int (fun _ _ => rfl)) pa_nil))))
      (pss_cons (ps_set (i := 8) scLawGrown.nd rfl (by first | exact Or.inl rfl | exact Or.inr rfl) (DL.pe_cal c_LawDotted (hr.mono (by decide)) (pa_cons (DL.pe_cal c_LawAdded (hr.mono (by decide)) (pa_cons (pe_ix (DL.ix_seqC (K := K) rfl) (pv 1) pe_int (fun _ _ => rfl)) (pa_cons (pe_ix (DL.ix_seqC (K := K) rfl) (pv 1) pe_int (fun _ _ => rfl)) pa_nil))) (pa_cons (pe_ix (DL.ix_seqC (K := K) rfl) (pv 1) pe_int (fun _ _ => rfl)) pa_nil))))
      (pss_cons (ps_set (i := 9) scLawGrown.nd rfl (by first | exact Or.inl rfl | exact Or.inr rfl) (DL.pe_cal c_RowScaled (hr.mono (by decide)) (pa_cons (pv 5) (pa_cons (pv 3) pa_nil))))
      (pss_cons (ps_set (i := 10) scLawGrown.nd rfl (by first | exact Or.inl rfl | exact Or.inr rfl) (DL.pe_calK c_RowScaled_factor_one (hr.mono (by decide)) (pk_cons (pe_callTy (DL.call_list_ofC (K := K) rfl) (by rfl) T.b_list (by decide +kernel) (pa_cons (pv 7) pa_nil)) (pk_cons (pv 5) pk_nil))))
      (pss_cons (ps_set (i := 11) scLawGrown.nd rfl (by first | exact Or.inl rfl | exact Or.inr rfl) (DL.pe_cal c_LawBy (hr.mono (by decide)) (pa_cons (pv 6) (pa_cons (pv 4) pa_nil))))
      (pss_cons (ps_set (i := 12) scLawGrown.nd rfl (by first | exact Or.inl rfl | exact Or.inr rfl) (DL.pe_cal c_LawBy (hr.mono (by decide)) (pa_cons (pv 6) (pa_cons (pv 8) pa_nil))))
      (pss_cons (ps_if (PW.pt (pw_or (pt_not (pt_val (DL.pe_cal c_LawSame (hr.mono (by decide)) (pa_cons (pv 5) (pa_cons (pv 6) pa_nil))))) (pw_or (pt_not (pt_val (DL.pe_cal c_LawSame (hr.mono (by decide)) (pa_cons (pv 9) (pa_cons (pv 11) pa_nil))))) (pw_or1 (pt_not (pt_val (DL.pe_cal c_LawSame (hr.mono (by decide)) (pa_cons (pv 10) (pa_cons (pv 12) pa_nil)))))))))
      (pss_one (ps_ret pe_bl))
      pss_nil)
      (pss_cons (ps_set (i := 13) scLawGrown.nd rfl (by first | exact Or.inl rfl | exact Or.inr rfl) (DL.pe_cal c_RowSum (hr.mono (by decide)) (pa_cons (pv 9) (pa_cons (pv 10) pa_nil))))
      (pss_cons (ps_if (pt_not (pt_val (DL.pe_cal c_LawSame (hr.mono (by decide)) (pa_cons (pv 13) (pa_cons (DL.pe_cal c_LawAdded (hr.mono (by decide)) (pa_cons (pv 11) (pa_cons (pv 12) pa_nil))) pa_nil)))))
      (pss_one (ps_ret pe_bl))
      pss_nil)
      (pss_cons (ps_if (pt_not (pt_val (DL.pe_cal c_LawSame (hr.mono (by decide)) (pa_cons (DL.pe_calK c_RowSum_two_one (hr.mono (by decide)) (pk_cons (DL.pe_cal c_LawForm (hr.mono (by decide)) (pa_cons (pv 13) (pa_cons pe_bl pa_nil))) (pk_cons (DL.pe_calK c_RowScaled_factor_one (hr.mono (by decide)) (pk_cons (pe_lst (pa_cons (pe_un un_neg pe_int) (pa_cons pe_int pa_nil))) (pk_cons (pv 9) pk_nil))) pk_nil))) (pa_cons (pv 12) pa_nil)))))
      (pss_one (ps_ret pe_bl))
      pss_nil)
      (pss_one (ps_ret (DL.pe_cal c_LawSame (hr.mono (by decide)) (pa_cons (DL.pe_cal c_RowSum (hr.mono (by decide)) (pa_cons (pe_ix (DL.ix_seqC (K := K) rfl) (pv 0) pe_int (fun _ _ => rfl)) (pa_cons (DL.pe_cal c_RowSum (hr.mono (by decide)) (pa_cons (pe_ix (DL.ix_seqC (K := K) rfl) (pv 0) pe_int (fun _ _ => rfl)) (pa_cons (pe_ix (DL.ix_seqC (K := K) rfl) (pv 0) pe_int (fun _ _ => rfl)) pa_nil))) pa_nil))) (pa_cons (pv 6) pa_nil))))))))))))))))), ?_⟩
  refine sd_fn h (fun _ => Nat.le_of_ble_eq_true rfl) ?_
  try dsimp only [L2.cxOf]
  intro ⟨m, a, b, c, p0, p1⟩ hp
  obtain ⟨hm, ha, hb, hc, _, _, _⟩ : Three m a b c p0 p1 := hp
  have ab := ha.add hb
  have abc := ab.add hc
  have n1 := Int.mul_ne_zero ha.nz hb.nz
  have s1 := (dot_sm ha hb hm).mono (show 1400 + 1400 + 8 ≤ 2808 by decide)
  have s2 := (ha.sm.2.mul hb.sm.2).mono (show 1400 + 1400 ≤ 2808 by decide)
  have n2 := Int.mul_ne_zero ab.nz hc.nz
  have s3 := (dot_sm ab hc hm).mono (show 1400 + 1400 + 1 + 4100 + 8 ≤ 6909 by decide)
  have s4 := (ab.sm.2.mul hc.sm.2).mono (show 1400 + 1400 + 1 + 4100 ≤ 6909 by decide)
  have on := abc.by_ s1 s2 n1
  have tw := abc.by_ s3 s4 n2
  have mo := on.add tw
  have eab := ha.addQ_ hb
  have edot := ha.dotQ_ hb
  show SD K _ [.sh (.lst [rowS true (qR a), rowS true (qR b), rowS true (qR c)]), .sh (.lst [rawP a, rawP b, rawP c]), .sh (rowS true (addQ (qR a) (qR b))), .sh (ratS true (dotQ (qR a) (qR b))), .sh (.lst [.int (dotR a.1 b.1), .int (a.2 * b.2)]), .no, .no, .no, .no, .no, .no, .no, .no, .no] _
  rw [← eab, ← edot]
  generalize hAB : added a b = AB at *
  refine sd_then (sd_asg (d := rowS true (qR (added AB c))) (sumK_ok (k := true) (j := true) ab hc hm (by decide) (by decide) (by by_place <;> by_in)) ?_)
  refine sd_then (sd_asg (d := rawP (added AB c)) (added_ok ab hc hm (by decide) (by decide) (ea_cons (by rw [← hAB]; exact added_ok ha hb hm (by decide) (by decide) (by by_place <;> by_in)) (by by_place <;> by_in))) ?_)
  refine sd_then (sd_asg (d := ratS true (Rat.divInt (dotR AB.1 c.1) (AB.2 * c.2))) (dot_ok (k := true) (j := true) ab hc hm (by decide) (by decide) (by by_place <;> by_in)) ?_)
  refine sd_then (sd_asg (d := .lst [.int (dotR AB.1 c.1), .int (AB.2 * c.2)]) (dotted_ok ab hc hm (by decide) (by decide) (ea_cons (by rw [← hAB]; exact added_ok ha hb hm (by decide) (by decide) (by by_place <;> by_in)) (by by_place <;> by_in))) ?_)
  generalize hABC : added AB c = W at *
  refine sd_then (sd_asg (d := rowS true (qR (byed W (dotR a.1 b.1) (a.2 * b.2)))) (scaled_ok (k := true) (j := true) abc hm (by decide) n1 (s1.mono (by decide)) (s2.mono (by decide)) (by by_place <;> by_in)) ?_)
  refine sd_then (sd_asg (d := rowS true (qR (byed W (dotR AB.1 c.1) (AB.2 * c.2)))) (scaledK_ok (k := true) (j := false) abc hm (by decide) n2 (s3.mono (by decide)) (s4.mono (by decide)) (ea_cons (EvL.data (el_cb (ea_cons (ed_var (by with_unfolding_all rfl)) ea_nil) (cl_list rfl))) (by by_place <;> by_in))) ?_)
  refine sd_then (sd_asg (d := rawP (byed W (dotR a.1 b.1) (a.2 * b.2))) (by_ok abc hm (by decide) (s1.mono (by decide)) (s2.mono (by decide)) (by by_place <;> by_in)) ?_)
  refine sd_then (sd_asg (d := rawP (byed W (dotR AB.1 c.1) (AB.2 * c.2))) (by_ok abc hm (by decide) (s3.mono (by decide)) (s4.mono (by decide)) (by by_place <;> by_in)) ?_)
  generalize hON : byed W (dotR a.1 b.1) (a.2 * b.2) = ON at *
  generalize hTW : byed W (dotR AB.1 c.1) (AB.2 * c.2) = TW at *
  show SD K _ [.sh (.lst [rowS true (qR a), rowS true (qR b), rowS true (qR c)]), .sh (.lst [rawP a, rawP b, rawP c]), .sh (rowS true (qR AB)), .sh (ratS true (Rat.divInt (dotR a.1 b.1) (a.2 * b.2))), .sh (.lst [.int (dotR a.1 b.1), .int (a.2 * b.2)]), .sh (rowS true (qR W)), .sh (rawP W), .sh (ratS true (Rat.divInt (dotR AB.1 c.1) (AB.2 * c.2))), .sh (.lst [.int (dotR AB.1 c.1), .int (AB.2 * c.2)]), .sh (rowS true (qR ON)), .sh (rowS true (qR TW)), .sh (rawP ON), .sh (rawP TW), .no] _
  refine sd_then (sd_if (x := false) (EvT.is (et_or (x := false) (et_not (x := true) (et_B (same_ok abc hm (by decide) rfl (by by_place <;> by_in)))) fun _ => et_or (x := false) (et_not (x := true) (et_B (same_ok on hm (by decide) rfl (by by_place <;> by_in)))) fun _ => et_not (x := true) (et_B (same_ok tw hm (by decide) rfl (by by_place <;> by_in)))) (by rfl)) (fun h => by cases h) (fun _ => sd_next ?_))
  refine sd_then (sd_asg (d := rowS true (qR (added ON TW))) (sum_ok (k := true) (j := true) on tw hm (by decide) (by decide) (by by_place <;> by_in)) ?_)
  show SD K _ [.sh (.lst [rowS true (qR a), rowS true (qR b), rowS true (qR c)]), .sh (.lst [rawP a, rawP b, rawP c]), .sh (rowS true (qR AB)), .sh (ratS true (Rat.divInt (dotR a.1 b.1) (a.2 * b.2))), .sh (.lst [.int (dotR a.1 b.1), .int (a.2 * b.2)]), .sh (rowS true (qR W)), .sh (rawP W), .sh (ratS true (Rat.divInt (dotR AB.1 c.1) (AB.2 * c.2))), .sh (.lst [.int (dotR AB.1 c.1), .int (AB.2 * c.2)]), .sh (rowS true (qR ON)), .sh (rowS true (qR TW)), .sh (rawP ON), .sh (rawP TW), .sh (rowS true (qR (added ON TW)))] _
  refine sd_then (sd_if (x := false) (EvT.is (et_not (x := true) (et_B (same_ok mo hm (by decide) rfl (ea_cons (by by_place <;> by_in) (ea_cons (added_ok on tw hm (by decide) (by decide) (by by_place <;> by_in)) ea_nil))))) (by rfl)) (fun h => by cases h) (fun _ => sd_next ?_))
  show SD K _ [.sh (.lst [rowS true (qR a), rowS true (qR b), rowS true (qR c)]), .sh (.lst [rawP a, rawP b, rawP c]), .sh (rowS true (qR AB)), .sh (ratS true (Rat.divInt (dotR a.1 b.1) (a.2 * b.2))), .sh (.lst [.int (dotR a.1 b.1), .int (a.2 * b.2)]), .sh (rowS true (qR W)), .sh (rawP W), .sh (ratS true (Rat.divInt (dotR AB.1 c.1) (AB.2 * c.2))), .sh (.lst [.int (dotR AB.1 c.1), .int (AB.2 * c.2)]), .sh (rowS true (qR ON)), .sh (rowS true (qR TW)), .sh (rawP ON), .sh (rawP TW), .sh (rowS true (qR (added ON TW)))] _
  have o1 : Sm 100000 (-1) := by unfold Sm; exact Nat.one_lt_two_pow (by decide)
  have o2 : Sm 100000 1 := by unfold Sm; exact Nat.one_lt_two_pow (by decide)
  have nON := on.by_ (f := -1) (g := 1) (B := 2) (by unfold Sm; decide) (by unfold Sm; decide) (by decide)
  refine sd_then (sd_if (x := false) (EvT.is (et_not (x := true) (et_B (same_ok tw hm (by decide) ?_ (ea_cons (sumK_ok (k := true) (j := false) nON mo hm (by decide) (by decide) (ea_cons (form_ok (by by_place <;> by_in)) (ea_cons (scaledK_ok (k := true) (j := false) on hm (by decide) (by decide) o1 o2 (ea_cons (a := ratS false (Rat.divInt (-1) 1)) (by exact ed_lst (as := [.int (-1), .int 1]) (by by_place <;> by_in) (Nat.le_of_ble_eq_true rfl)) (by by_place <;> by_in))) ea_nil))) (by by_place <;> by_in))))) (by rfl)) (fun h => by cases h) (fun _ => sd_next ?_))
  · rw [nON.addQ_ mo, byQ_, neg1, on.addQ_ tw]
    exact add_away _ _ (on.ql.trans tw.ql.symm)
  show SD K _ [.sh (.lst [rowS true (qR a), rowS true (qR b), rowS true (qR c)]), .sh (.lst [rawP a, rawP b, rawP c]), .sh (rowS true (qR AB)), .sh (ratS true (Rat.divInt (dotR a.1 b.1) (a.2 * b.2))), .sh (.lst [.int (dotR a.1 b.1), .int (a.2 * b.2)]), .sh (rowS true (qR W)), .sh (rawP W), .sh (ratS true (Rat.divInt (dotR AB.1 c.1) (AB.2 * c.2))), .sh (.lst [.int (dotR AB.1 c.1), .int (AB.2 * c.2)]), .sh (rowS true (qR ON)), .sh (rowS true (qR TW)), .sh (rawP ON), .sh (rawP TW), .sh (rowS true (qR (added ON TW)))] _
  have bc := hb.add hc
  refine sd_ret (d := .bl true) (same_ok (qs := qR (added a (added b c))) abc hm (by decide) ?_ (ea_cons (sum_ok (k := true) (j := true) ha bc hm (by decide) (by decide) (ea_cons (by by_place <;> by_in) (ea_cons (sum_ok (k := true) (j := true) hb hc hm (by decide) (by decide) (by by_place <;> by_in)) ea_nil))) (by by_place <;> by_in))) rfl
  rw [ha.addQ_ bc, hb.addQ_ hc, ← hABC, ab.addQ_ hc, eab]
  exact add_assocQ _ _ _ (ha.ql.trans hb.ql.symm)
theorem scLawLinear : FnScope ["told", "own", "share", "part", "product", "straight", "left", "right", "summed", "own_sum", "due"] ["told", "own", "share", "part"] (defScope sLawLinear) := ⟨rfl, rfl, rfl, by decide +kernel, rfl, by decide +kernel, by decide +kernel⟩
theorem okLawLinear (T : Txt K mg) (c_LawDotted : Cal P w K mg base 1 "_law_dotted" ["one", "two"] (spLawDotted K)) (c_LawJust : Cal P w K mg base 3 "_law_just" ["value", "top", "bottom"] (spLawJust K)) (c_Dot : Cal P w K mg base 34 "dot" ["one", "two"] (spDot K)) (c_LawForm : Cal P w K mg base 1 "_law_form" ["one", "listed"] (spLawForm K)) (c_RowSum : Cal P w K mg base 34 "row_sum" ["one", "two"] (spRowSum K)) (c_LawAdded : Cal P w K mg base 1 "_law_added" ["one", "two"] (spLawAdded K)) (c_LawRatio : Cal P w K mg base 33 "_law_ratio" ["top", "bottom"] (spLawRatio K)) (c_LawTold : Cal P w K mg base 2 "_law_told" ["value", "due"] (spLawTold K)) (c_Plus : Cal P w K mg base 34 "plus" ["one", "two"] (spPlus K)) (c_Times : Cal P w K mg base 34 "times" ["one", "two"] (spTimes K)) (c_RowScaled : Cal P w K mg base 34 "row_scaled" ["one", "factor"] (spRowScaled K)) (c_LawGrown : Cal P w K mg base 35 "_law_grown" ["told", "own", "summed", "straight", "product"] (spLawGrown K)) (c_Dot_two_one : CalK P w K mg base 34 "dot" ["one", "two"] ["two", "one"] (spDot K) gv_Dot_two_one) : Cal P w K mg base 36 "_law_linear" ["told", "own", "share", "part"] (spLawLinear K) := by
  refine cal_mk T.f_LawLinear T.g_LawLinear scLawLinear (fun vs H Q E h => spT_len (n := 4) (fun _ => rfl) h) (fun _ _ _ _ _ _ us hl => match us, hl with | [_, _, _, _], _ => rfl) (fun cdv A outer s H vs Q E hr h => ?_)
  refine ⟨_, (pss_cons (ps_set (i := 4) scLawLinear.nd rfl (by first | exact Or.inl rfl | exact Or.inr rfl) (DL.pe_cal c_LawDotted (hr.mono (by decide)) (pa_cons (pe_ix (DL.ix_seqC (K := K) rfl) (pv 1) pe_int (fun _ _ => rfl)) (pa_cons (pe_ix (DL.ix_seqC (K := K) rfl) (pv 1) pe_int (fun _ _ => rfl)) pa_nil))))
      (pss_cons (ps_set (i := 5) scLawLinear.nd rfl (by first | exact Or.inl rfl | exact Or.inr rfl) (DL.pe_calK c_Dot_two_one (hr.mono (by decide)) (pk_cons (pe_ix (DL.ix_seqC (K := K) rfl) (pv 0) pe_int (fun _ _ => rfl)) (pk_cons (pe_ix (DL.ix_seqC (K := K) rfl) (pv 0) pe_int (fun _ _ => rfl)) pk_nil))))
      (pss_cons (ps_if (pt_not (pt_val (DL.pe_cal c_LawJust (hr.mono (by decide)) (pa_cons (pv 5) (pa_cons (pe_ix (DL.ix_seqC (K := K) rfl) (pv 4) pe_int (fun _ _ => rfl)) (pa_cons (pe_ix (DL.ix_seqC (K := K) rfl) (pv 4) pe_int (fun _ _ => rfl)) pa_nil))))))
      (pss_one (ps_ret pe_bl))
      pss_nil)
      (pss_cons (ps_set (i := 6) scLawLinear.nd rfl (by first | exact Or.inl rfl | exact Or.inr rfl) (DL.pe_cal c_Dot (hr.mono (by decide)) (pa_cons (pe_ix (DL.ix_seqC (K := K) rfl) (pv 0) pe_int (fun _ _ => rfl)) (pa_cons (pe_ix (DL.ix_seqC (K := K) rfl) (pv 0) pe_int (fun _ _ => rfl)) pa_nil))))
      (pss_cons (ps_set (i := 7) scLawLinear.nd rfl (by first | exact Or.inl rfl | exact Or.inr rfl) (DL.pe_cal c_Dot (hr.mono (by decide)) (pa_cons (DL.pe_cal c_LawForm (hr.mono (by decide)) (pa_cons (pe_ix (DL.ix_seqC (K := K) rfl) (pv 0) pe_int (fun _ _ => rfl)) (pa_cons pe_bl pa_nil))) (pa_cons (pe_ix (DL.ix_seqC (K := K) rfl) (pv 0) pe_int (fun _ _ => rfl)) pa_nil))))
      (pss_cons (ps_set (i := 8) scLawLinear.nd rfl (by first | exact Or.inl rfl | exact Or.inr rfl) (DL.pe_cal c_RowSum (hr.mono (by decide)) (pa_cons (pe_ix (DL.ix_seqC (K := K) rfl) (pv 0) pe_int (fun _ _ => rfl)) (pa_cons (pe_ix (DL.ix_seqC (K := K) rfl) (pv 0) pe_int (fun _ _ => rfl)) pa_nil))))
      (pss_cons (ps_set (i := 9) scLawLinear.nd rfl (by first | exact Or.inl rfl | exact Or.inr rfl) (DL.pe_cal c_LawAdded (hr.mono (by decide)) (pa_cons (pe_ix (DL.ix_seqC (K := K) rfl) (pv 1) pe_int (fun _ _ => rfl)) (pa_cons (pe_ix (DL.ix_seqC (K := K) rfl) (pv 1) pe_int (fun _ _ => rfl)) pa_nil))))
      (pss_cons (ps_set (i := 10) scLawLinear.nd rfl (by first | exact Or.inl rfl | exact Or.inr rfl) (DL.pe_cal c_LawDotted (hr.mono (by decide)) (pa_cons (pv 9) (pa_cons (pe_ix (DL.ix_seqC (K := K) rfl) (pv 1) pe_int (fun _ _ => rfl)) pa_nil))))
      (pss_cons (ps_set (i := 10) scLawLinear.nd rfl (by first | exact Or.inl rfl | exact Or.inr rfl) (DL.pe_cal c_LawRatio (hr.mono (by decide)) (pa_cons (pe_ix (DL.ix_seqC (K := K) rfl) (pv 10) pe_int (fun _ _ => rfl)) (pa_cons (pe_ix (DL.ix_seqC (K := K) rfl) (pv 10) pe_int (fun _ _ => rfl)) pa_nil))))
      (pss_cons (ps_if (PW.pt (pw_or (pt_not (pt_val (DL.pe_cal c_LawTold (hr.mono (by decide)) (pa_cons (DL.pe_calK c_Dot_two_one (hr.mono (by decide)) (pk_cons (pv 8) (pk_cons (pe_ix (DL.ix_seqC (K := K) rfl) (pv 0) pe_int (fun _ _ => rfl)) pk_nil))) (pa_cons (pv 10) pa_nil))))) (pw_or1 (pt_not (pt_val (DL.pe_cal c_LawTold (hr.mono (by decide)) (pa_cons (DL.pe_cal c_Dot (hr.mono (by decide)) (pa_cons (pv 8) (pa_cons (pe_ix (DL.ix_seqC (K := K) rfl) (pv 0) pe_int (fun _ _ => rfl)) pa_nil))) (pa_cons (pv 10) pa_nil))))))))
      (pss_one (ps_ret pe_bl))
      pss_nil)
      (pss_cons (ps_if (pt_not (pt_val (DL.pe_cal c_LawTold (hr.mono (by decide)) (pa_cons (DL.pe_cal c_Plus (hr.mono (by decide)) (pa_cons (pv 6) (pa_cons (pv 7) pa_nil))) (pa_cons (pv 10) pa_nil)))))
      (pss_one (ps_ret pe_bl))
      pss_nil)
      (pss_cons (ps_set (i := 10) scLawLinear.nd rfl (by first | exact Or.inl rfl | exact Or.inr rfl) (DL.pe_cal c_LawRatio (hr.mono (by decide)) (pa_cons (pe_op op_mulW (pe_ix (DL.ix_seqC (K := K) rfl) (pv 4) pe_int (fun _ _ => rfl)) (pe_ix (DL.ix_seqC (K := K) rfl) (pv 3) pe_int (fun _ _ => rfl))) (pa_cons (pe_op op_mulW (pe_ix (DL.ix_seqC (K := K) rfl) (pv 4) pe_int (fun _ _ => rfl)) (pe_ix (DL.ix_seqC (K := K) rfl) (pv 3) pe_int (fun _ _ => rfl))) pa_nil))))
      (pss_cons (ps_if (PW.pt (pw_or (pt_not (pt_val (DL.pe_cal c_LawTold (hr.mono (by decide)) (pa_cons (DL.pe_cal c_Dot (hr.mono (by decide)) (pa_cons (DL.pe_cal c_RowScaled (hr.mono (by decide)) (pa_cons (pe_ix (DL.ix_seqC (K := K) rfl) (pv 0) pe_int (fun _ _ => rfl)) (pa_cons (pv 2) pa_nil))) (pa_cons (pe_ix (DL.ix_seqC (K := K) rfl) (pv 0) pe_int (fun _ _ => rfl)) pa_nil))) (pa_cons (pv 10) pa_nil))))) (pw_or1 (pt_not (pt_val (DL.pe_cal c_LawTold (hr.mono (by decide)) (pa_cons (DL.pe_cal c_Times (hr.mono (by decide)) (pa_cons (pv 2) (pa_cons (pv 5) pa_nil))) (pa_cons (pv 10) pa_nil))))))))
      (pss_one (ps_ret pe_bl))
      pss_nil)
      (pss_cons (ps_if (pt_not (pt_val (DL.pe_cal c_LawTold (hr.mono (by decide)) (pa_cons (DL.pe_calK c_Dot_two_one (hr.mono (by decide)) (pk_cons (DL.pe_cal c_RowScaled (hr.mono (by decide)) (pa_cons (pe_ix (DL.ix_seqC (K := K) rfl) (pv 0) pe_int (fun _ _ => rfl)) (pa_cons (pe_callTy (DL.call_list_ofC (K := K) rfl) (by rfl) T.b_list (by decide +kernel) (pa_cons (pv 2) pa_nil)) pa_nil))) (pk_cons (pe_ix (DL.ix_seqC (K := K) rfl) (pv 0) pe_int (fun _ _ => rfl)) pk_nil))) (pa_cons (pv 10) pa_nil)))))
      (pss_one (ps_ret pe_bl))
      pss_nil)
      (pss_one (ps_ret (DL.pe_cal c_LawGrown (hr.mono (by decide)) (pa_cons (pv 0) (pa_cons (pv 1) (pa_cons (pv 8) (pa_cons (pv 5) (pa_cons (pv 4) pa_nil)))))))))))))))))))))), ?_⟩
  refine sd_fn h (fun _ => Nat.le_of_ble_eq_true rfl) ?_
  try dsimp only [L2.cxOf]
  intro ⟨m, a, b, c, p0, p1⟩ hp
  obtain ⟨hm, ha, hb, hc, hp0, hp1, pz⟩ : Three m a b c p0 p1 := hp
  have ab := ha.add hb
  have n1 := Int.mul_ne_zero ha.nz hb.nz
  have s1 := (dot_sm ha hb hm).mono (show 1400 + 1400 + 8 ≤ 2808 by decide)
  have s2 := (ha.sm.2.mul hb.sm.2).mono (show 1400 + 1400 ≤ 2808 by decide)
  have n2 := Int.mul_ne_zero ab.nz hc.nz
  have s3 := (dot_sm ab hc hm).mono (show 1400 + 1400 + 1 + 4100 + 8 ≤ 6909 by decide)
  have s4 := (ab.sm.2.mul hc.sm.2).mono (show 1400 + 1400 + 1 + 4100 ≤ 6909 by decide)
  have eD : Rat.divInt (dotR (added a b).1 c.1) ((added a b).2 * c.2) = dotQ (addQ (qR a) (qR b)) (qR c) := by rw [ab.dotQ_ hc, ha.addQ_ hb]
  have eL := ha.dotQ_ hc
  have eR := hb.dotQ_ hc
  have eS := ha.dotQ_ hb
  have el : (qR a).length = (qR b).length := ha.ql.trans hb.ql.symm
  have elc : (qR a).length = (qR c).length := ha.ql.trans hc.ql.symm
  have s5 := (s1.mul hp0).mono (show 2808 + 1400 ≤ 4300 by decide)
  have s6 := (s2.mul hp1).mono (show 2808 + 1400 ≤ 4300 by decide)
  have n3 := Int.mul_ne_zero n1 pz
  have m5 := s1.mulW hp0 (by decide)
  have m6 := s2.mulW hp1 (by decide)
  have fa := ha.by_ hp0 hp1 pz
  have fb := hb.by_ hp0 hp1 pz
  have e2 : Rat.divInt (dotR a.1 b.1 * p0) (a.2 * b.2 * p1) = dotQ (qR a) (qR b) * Rat.divInt p0 p1 := by rw [← eS, Rat.divInt_mul_divInt]
  show SD K _ [.sh (.lst [rowS true (qR a), rowS true (qR b), rowS true (qR c)]), .sh (.lst [rawP a, rawP b, rawP c]), .sh (ratS true (Rat.divInt p0 p1)), .sh (.lst [.int p0, .int p1]), .no, .no, .no, .no, .no, .no, .no] _
  refine sd_then (sd_asg (d := .lst [.int (dotR a.1 b.1), .int (a.2 * b.2)]) (dotted_ok ha hb hm (by decide) (by decide) (by by_place <;> by_in)) ?_)
  refine sd_then (sd_asg (d := ratS true (Rat.divInt (dotR a.1 b.1) (a.2 * b.2))) (dotK_ok (k := true) (j := true) ha hb hm (by decide) (by decide) (by by_place <;> by_in)) ?_)
  show SD K _ [.sh (.lst [rowS true (qR a), rowS true (qR b), rowS true (qR c)]), .sh (.lst [rawP a, rawP b, rawP c]), .sh (ratS true (Rat.divInt p0 p1)), .sh (.lst [.int p0, .int p1]), .sh (.lst [.int (dotR a.1 b.1), .int (a.2 * b.2)]), .sh (ratS true (Rat.divInt (dotR a.1 b.1) (a.2 * b.2))), .no, .no, .no, .no, .no] _
  refine sd_then (sd_if (x := false) (EvT.is (et_not (x := true) (et_B (just_ok n1 (s1.mono (by decide)) (s2.mono (by decide)) rfl (by by_place <;> by_in)))) (by rfl)) (fun h => by cases h) (fun _ => sd_next ?_))
  refine sd_then (sd_asg (d := ratS true (Rat.divInt (dotR a.1 c.1) (a.2 * c.2))) (dot_ok (k := true) (j := true) ha hc hm (by decide) (by decide) (by by_place <;> by_in)) ?_)
  refine sd_then (sd_asg (d := ratS true (Rat.divInt (dotR b.1 c.1) (b.2 * c.2))) (dot_ok (k := false) (j := true) hb hc hm (by decide) (by decide) (ea_cons (form_ok (by by_place <;> by_in)) (by by_place <;> by_in))) ?_)
  refine sd_then (sd_asg (d := rowS true (qR (added a b))) (sum_ok (k := true) (j := true) ha hb hm (by decide) (by decide) (by by_place <;> by_in)) ?_)
  refine sd_then (sd_asg (d := rawP (added a b)) (added_ok ha hb hm (by decide) (by decide) (by by_place <;> by_in)) ?_)
  refine sd_then (sd_asg (d := .lst [.int (dotR (added a b).1 c.1), .int ((added a b).2 * c.2)]) (dotted_ok ab hc hm (by decide) (by decide) (by by_place <;> by_in)) ?_)
  show SD K _ [.sh (.lst [rowS true (qR a), rowS true (qR b), rowS true (qR c)]), .sh (.lst [rawP a, rawP b, rawP c]), .sh (ratS true (Rat.divInt p0 p1)), .sh (.lst [.int p0, .int p1]), .sh (.lst [.int (dotR a.1 b.1), .int (a.2 * b.2)]), .sh (ratS true (Rat.divInt (dotR a.1 b.1) (a.2 * b.2))), .sh (ratS true (Rat.divInt (dotR a.1 c.1) (a.2 * c.2))), .sh (ratS true (Rat.divInt (dotR b.1 c.1) (b.2 * c.2))), .sh (rowS true (qR (added a b))), .sh (rawP (added a b)), .sh (.lst [.int (dotR (added a b).1 c.1), .int ((added a b).2 * c.2)])] _
  refine sd_then (sd_asg (d := ratS true (Rat.divInt (dotR (added a b).1 c.1) ((added a b).2 * c.2))) (ratio_ok n2 (s3.mono (by decide)) (s4.mono (by decide)) (by by_place <;> by_in)) ?_)
  show SD K _ [.sh (.lst [rowS true (qR a), rowS true (qR b), rowS true (qR c)]), .sh (.lst [rawP a, rawP b, rawP c]), .sh (ratS true (Rat.divInt p0 p1)), .sh (.lst [.int p0, .int p1]), .sh (.lst [.int (dotR a.1 b.1), .int (a.2 * b.2)]), .sh (ratS true (Rat.divInt (dotR a.1 b.1) (a.2 * b.2))), .sh (ratS true (Rat.divInt (dotR a.1 c.1) (a.2 * c.2))), .sh (ratS true (Rat.divInt (dotR b.1 c.1) (b.2 * c.2))), .sh (rowS true (qR (added a b))), .sh (rawP (added a b)), .sh (ratS true (Rat.divInt (dotR (added a b).1 c.1) ((added a b).2 * c.2)))] _
  refine sd_then (sd_if (x := false) (EvT.is (et_or (x := false) (et_not (x := true) (et_B (told_ok ?_ (ea_cons (dotK_ok (k := true) (j := true) hc ab hm (by decide) (by decide) (by by_place <;> by_in)) (by by_place <;> by_in))))) fun _ => et_not (x := true) (et_B (told_ok rfl (ea_cons (dot_ok (k := true) (j := true) ab hc hm (by decide) (by decide) (by by_place <;> by_in)) (by by_place <;> by_in))))) (by rfl)) (fun h => by cases h) (fun _ => sd_next ?_))
  · rw [eD, hc.dotQ_ ab, ha.addQ_ hb]
    exact dot_comm (by rw [addQ_len]; exact elc.symm)
  show SD K _ [.sh (.lst [rowS true (qR a), rowS true (qR b), rowS true (qR c)]), .sh (.lst [rawP a, rawP b, rawP c]), .sh (ratS true (Rat.divInt p0 p1)), .sh (.lst [.int p0, .int p1]), .sh (.lst [.int (dotR a.1 b.1), .int (a.2 * b.2)]), .sh (ratS true (Rat.divInt (dotR a.1 b.1) (a.2 * b.2))), .sh (ratS true (Rat.divInt (dotR a.1 c.1) (a.2 * c.2))), .sh (ratS true (Rat.divInt (dotR b.1 c.1) (b.2 * c.2))), .sh (rowS true (qR (added a b))), .sh (rawP (added a b)), .sh (ratS true (Rat.divInt (dotR (added a b).1 c.1) ((added a b).2 * c.2)))] _
  refine sd_then (sd_if (x := false) (EvT.is (et_not (x := true) (et_B (told_ok ?_ (ea_cons (plus_ok (k := true) (j := true) (ratR (Int.mul_ne_zero ha.nz hc.nz) ((dot_sm ha hc hm).mono (by decide)) ((ha.sm.2.mul hc.sm.2).mono (by decide))) (ratR (Int.mul_ne_zero hb.nz hc.nz) ((dot_sm hb hc hm).mono (by decide)) ((hb.sm.2.mul hc.sm.2).mono (by decide))) (by by_place <;> by_in)) (by by_place <;> by_in))))) (by rfl)) (fun h => by cases h) (fun _ => sd_next ?_))
  · rw [eD, eL, eR, dot_add _ _ _ el]
  show SD K _ [.sh (.lst [rowS true (qR a), rowS true (qR b), rowS true (qR c)]), .sh (.lst [rawP a, rawP b, rawP c]), .sh (ratS true (Rat.divInt p0 p1)), .sh (.lst [.int p0, .int p1]), .sh (.lst [.int (dotR a.1 b.1), .int (a.2 * b.2)]), .sh (ratS true (Rat.divInt (dotR a.1 b.1) (a.2 * b.2))), .sh (ratS true (Rat.divInt (dotR a.1 c.1) (a.2 * c.2))), .sh (ratS true (Rat.divInt (dotR b.1 c.1) (b.2 * c.2))), .sh (rowS true (qR (added a b))), .sh (rawP (added a b)), .sh (ratS true (Rat.divInt (dotR (added a b).1 c.1) ((added a b).2 * c.2)))] _
  refine sd_then (sd_asg (d := ratS true (Rat.divInt (dotR a.1 b.1 * p0) (a.2 * b.2 * p1))) (ratio_ok n3 (s5.mono (by decide)) (s6.mono (by decide)) (EvA.is (by by_place <;> by_in) (by rfl))) ?_)
  show SD K _ [.sh (.lst [rowS true (qR a), rowS true (qR b), rowS true (qR c)]), .sh (.lst [rawP a, rawP b, rawP c]), .sh (ratS true (Rat.divInt p0 p1)), .sh (.lst [.int p0, .int p1]), .sh (.lst [.int (dotR a.1 b.1), .int (a.2 * b.2)]), .sh (ratS true (Rat.divInt (dotR a.1 b.1) (a.2 * b.2))), .sh (ratS true (Rat.divInt (dotR a.1 c.1) (a.2 * c.2))), .sh (ratS true (Rat.divInt (dotR b.1 c.1) (b.2 * c.2))), .sh (rowS true (qR (added a b))), .sh (rawP (added a b)), .sh (ratS true (Rat.divInt (dotR a.1 b.1 * p0) (a.2 * b.2 * p1)))] _
  refine sd_then (sd_if (x := false) (EvT.is (et_or (x := false) (et_not (x := true) (et_B (told_ok ?_ (ea_cons (dot_ok (k := true) (j := true) fa hb hm (by decide) (by decide) (ea_cons (scaled_ok (k := true) (j := true) ha hm (by decide) pz (hp0.mono (by decide)) (hp1.mono (by decide)) (by by_place <;> by_in)) (by by_place <;> by_in))) (by by_place <;> by_in))))) fun _ => et_not (x := true) (et_B (told_ok ?_ (ea_cons (times_ok (k := true) (j := true) (ratR pz (hp0.mono (by decide)) (hp1.mono (by decide))) (ratR n1 (s1.mono (by decide)) (s2.mono (by decide))) (by by_place <;> by_in)) (by by_place <;> by_in))))) (by rfl)) (fun h => by cases h) (fun _ => sd_next ?_))
  · rw [e2, fa.dotQ_ hb, byQ_, dot_by]
  · rw [e2, eS, Rat.mul_comm]
  show SD K _ [.sh (.lst [rowS true (qR a), rowS true (qR b), rowS true (qR c)]), .sh (.lst [rawP a, rawP b, rawP c]), .sh (ratS true (Rat.divInt p0 p1)), .sh (.lst [.int p0, .int p1]), .sh (.lst [.int (dotR a.1 b.1), .int (a.2 * b.2)]), .sh (ratS true (Rat.divInt (dotR a.1 b.1) (a.2 * b.2))), .sh (ratS true (Rat.divInt (dotR a.1 c.1) (a.2 * c.2))), .sh (ratS true (Rat.divInt (dotR b.1 c.1) (b.2 * c.2))), .sh (rowS true (qR (added a b))), .sh (rawP (added a b)), .sh (ratS true (Rat.divInt (dotR a.1 b.1 * p0) (a.2 * b.2 * p1)))] _
  refine sd_then (sd_if (x := false) (EvT.is (et_not (x := true) (et_B (told_ok ?_ (ea_cons (dotK_ok (k := true) (j := true) ha fb hm (by decide) (by decide) (ea_cons (scaled_ok (k := true) (j := false) hb hm (by decide) pz (hp0.mono (by decide)) (hp1.mono (by decide)) (ea_cons (by by_place <;> by_in) (ea_cons (EvL.data (el_cb (ea_cons (ed_var (by with_unfolding_all rfl)) ea_nil) (cl_list rfl))) ea_nil))) (by by_place <;> by_in))) (by by_place <;> by_in))))) (by rfl)) (fun h => by cases h) (fun _ => sd_next ?_))
  · rw [e2, ha.dotQ_ fb, byQ_, dot_by2 _ _ _ el]
  show SD K _ [.sh (.lst [rowS true (qR a), rowS true (qR b), rowS true (qR c)]), .sh (.lst [rawP a, rawP b, rawP c]), .sh (ratS true (Rat.divInt p0 p1)), .sh (.lst [.int p0, .int p1]), .sh (.lst [.int (dotR a.1 b.1), .int (a.2 * b.2)]), .sh (ratS true (Rat.divInt (dotR a.1 b.1) (a.2 * b.2))), .sh (ratS true (Rat.divInt (dotR a.1 c.1) (a.2 * c.2))), .sh (ratS true (Rat.divInt (dotR b.1 c.1) (b.2 * c.2))), .sh (rowS true (qR (added a b))), .sh (rawP (added a b)), .sh (ratS true (Rat.divInt (dotR a.1 b.1 * p0) (a.2 * b.2 * p1)))] _
  refine sd_ret (d := .bl true) (ed_call (⟨m, a, b, c, p0, p1⟩ : Tr) (EvA.is (as := [.lst [rowS true (qR a), rowS true (qR b), rowS true (qR c)], .lst [rawP a, rawP b, rawP c], rowS true (qR (added a b)), ratS true (Rat.divInt (dotR a.1 b.1) (a.2 * b.2)), .lst [.int (dotR a.1 b.1), .int (a.2 * b.2)]]) (by by_place <;> by_in) ?_) ⟨hm, ha, hb, hc, hp0, hp1, pz⟩ rfl) rfl
  show _ = [DL.D.lst [rowS true (qR a), rowS true (qR b), rowS true (qR c)], .lst [rawP a, rawP b, rawP c], rowS true (addQ (qR a) (qR b)), ratS true (dotQ (qR a) (qR b)), .lst [.int (dotR a.1 b.1), .int (a.2 * b.2)]]
  rw [ha.addQ_ hb, eS]
end
end K00

set_option Elab.async false
set_option linter.all false
set_option maxRecDepth 100000
set_option maxHeartbeats 4000000
set_option exponentiation.threshold 5000
namespace K00
open PySem PySem.Spec PyProof.Rows L2 DL R0
open M hiding tops_len
open LS hiding spRatio spRow spRowOf
local macro_rules | `(tactic| by_item) => `(tactic| with_reducible first
  | exact DL.ed_var (by with_unfolding_all rfl) | exact DL.ed_int | exact DL.ed_bl | exact DL.ed_non | exact DL.ed_str | exact DL.ea_nil | exact DL.et_yes
  | apply DL.ea_cons | apply DL.ed_op | apply DL.ed_un | apply DL.ed_lst | apply DL.ed_fld | (show L2.Cls _ _; with_reducible assumption) | (show L2.NoAttr _ _ _; with_reducible assumption) | (show List.lookup _ _ = _; with_unfolding_all rfl) | (show List.length _ ≤ PySem.sizeLine; exact Nat.le_of_ble_eq_true (by with_unfolding_all rfl)) | apply DL.ed_isi | apply DL.ed_cb
  | exact DL.od_I0 | exact DL.od_B0 | exact DL.od_eqI | exact DL.od_neI | exact DL.od_eqS | exact DL.od_isN | exact DL.od_notN | (apply DL.od_divX) | (apply DL.od_divN) | apply DL.od_I | apply DL.od_ix | exact DL.ud_I
  | apply DL.cd_len | exact DL.cd_int | exact DL.cd_intB | exact DL.cd_1 | exact DL.cd_gcd | apply DL.cd_lcmX | exact DL.cd_min3 | exact DL.cd_2
  | apply DL.et_test | apply DL.et_B | apply DL.et_not | apply DL.ed_notV
  | (show DL.tyB _ = _; with_unfolding_all rfl) | (show DL.itemsOf _ = _; with_unfolding_all rfl) | exact DL.seqD_items | (show L2.atI _ _ = _; with_reducible assumption) | (show L2.atI _ _ = _; exact L2.atI_nat (by with_reducible assumption)) | exact DL.atI_zero | exact DL.atI_one | (show L2.atI _ _ = _; with_unfolding_all rfl) | (show L2.kitB _ _ = _; first | exact DL.kb_NoneType_int | exact DL.kb_NoneType_bool | exact DL.kb_NoneType_tuple | exact DL.kb_NoneType_list | exact DL.kb_NoneType_str | exact DL.kb_NoneType_dict | exact DL.kb_bool_int | exact DL.kb_bool_bool | exact DL.kb_bool_tuple | exact DL.kb_bool_list | exact DL.kb_bool_str | exact DL.kb_bool_dict | exact DL.kb_int_int | exact DL.kb_int_bool | exact DL.kb_int_tuple | exact DL.kb_int_list | exact DL.kb_int_str | exact DL.kb_int_dict | exact DL.kb_str_int | exact DL.kb_str_bool | exact DL.kb_str_tuple | exact DL.kb_str_list | exact DL.kb_str_str | exact DL.kb_str_dict | exact DL.kb_list_int | exact DL.kb_list_bool | exact DL.kb_list_tuple | exact DL.kb_list_list | exact DL.kb_list_str | exact DL.kb_list_dict | exact DL.kb_tuple_int | exact DL.kb_tuple_bool | exact DL.kb_tuple_tuple | exact DL.kb_tuple_list | exact DL.kb_tuple_str | exact DL.kb_tuple_dict | exact DL.kb_dict_int | exact DL.kb_dict_bool | exact DL.kb_dict_tuple | exact DL.kb_dict_list | exact DL.kb_dict_str | exact DL.kb_dict_dict))
local macro_rules | `(tactic| by_place) => `(tactic| (repeat' by_item))
local macro_rules | `(tactic| by_in) => `(tactic| first | (with_reducible assumption) | (with_reducible exact DL.seqD_items) | (show (0 : Int) < _; omega) | (show (0 : Int) < _; decide +kernel) | exact M.mulS (by omega) (by omega) | exact M.mulP (by omega) (by omega) (by omega) | exact M.divS (by omega) (by omega) | exact ⟨by decide, by decide, by decide⟩ | exact ⟨by decide, by decide, by omega⟩ | exact L2.atI_nat (by assumption) | (show L2.atI _ _ = _; rfl))
section
variable {P : Program} {w : World} {K : PySem.W.Frag} {mg : Str → Option Value} {base : Heap}
theorem scLawOneByOne : FnScope ["told", "own", "share", "part", "places", "summed", "less", "more", "contrary", "top", "k", "left", "right", "dues", "here", "there", "due", "sign", "said"] ["told", "own", "share", "part", "places"] (defScope sLawOneByOne) := ⟨rfl, rfl, rfl, by decide +kernel, rfl, by decide +kernel, by decide +kernel⟩
theorem okLawOneByOne (T : Txt K mg) (c_RowSum : Cal P w K mg base 34 "row_sum" ["one", "two"] (spRowSum K)) (c_LawSame : Cal P w K mg base 4 "_law_same" ["value", "own"] (spLawSame K)) (c_LawAdded : Cal P w K mg base 1 "_law_added" ["one", "two"] (spLawAdded K)) (c_LawBy : Cal P w K mg base 1 "_law_by" ["one", "factor"] (spLawBy K)) (c_LawRatio : Cal P w K mg base 33 "_law_ratio" ["top", "bottom"] (spLawRatio K)) (c_RowItem : Cal P w K mg base 34 "row_item" ["one", "index"] (spRowItem K)) (c_LawJust : Cal P w K mg base 3 "_law_just" ["value", "top", "bottom"] (spLawJust K)) (c_LawTold : Cal P w K mg base 2 "_law_told" ["value", "due"] (spLawTold K)) (c_Minus : Cal P w K mg base 34 "minus" ["one", "two"] (spMinus K)) (c_Order : Cal P w K mg base 1 "order" ["one", "two"] (spOrder K)) (c_LawWhole : Cal P w K mg base 1 "_law_whole" ["value"] (spLawWhole K)) (c_RowSum_two_one : CalK P w K mg base 34 "row_sum" ["one", "two"] ["two", "one"] (spRowSum K) gv_RowSum_two_one) (c_RowScaled_factor_one : CalK P w K mg base 34 "row_scaled" ["one", "factor"] ["factor", "one"] (spRowScaled K) gv_RowScaled_factor_one) (c_RowItem_index_one : CalK P w K mg base 34 "row_item" ["one", "index"] ["index", "one"] (spRowItem K) gv_RowItem_index_one) (c_Plus_two_one : CalK P w K mg base 34 "plus" ["one", "two"] ["two", "one"] (spPlus K) gv_Plus_two_one) (c_Minus_two_one : CalK P w K mg base 34 "minus" ["one", "two"] ["two", "one"] (spMinus K) gv_Minus_two_one) (c_Times_two_one : CalK P w K mg base 34 "times" ["one", "two"] ["two", "one"] (spTimes K) gv_Times_two_one) (c_Order_two_one : CalK P w K mg base 1 "order" ["one", "two"] ["two", "one"] (spOrder K) gv_Order_two_one) (c_Over_two_one : CalK P w K mg base 34 "over" ["one", "two"] ["two", "one"] (spOver K) gv_Over_two_one) : Cal P w K mg base 35 "_law_one_by_one" ["told", "own", "share", "part", "places"] (spLawOneByOne K) := by
  refine cal_mk T.f_LawOneByOne T.g_LawOneByOne scLawOneByOne (fun vs H Q E h => spT_len (n := 5) (fun _ => rfl) h) (fun _ _ _ _ _ _ us hl => match us, hl with | [_, _, _, _, _], _ => rfl) (fun cdv A outer s H vs Q E hr h => ?_)
  refine ⟨_, (pss_cons (ps_set (i := 5) scLawOneByOne.nd rfl (by first | exact Or.inl rfl | exact Or.inr rfl) (DL.pe_calK c_RowSum_two_one (hr.mono (by decide)) (pk_cons (pe_ix (DL.ix_seqC (K := K) rfl) (pv 0) pe_int (fun _ _ => rfl)) (pk_cons (pe_ix (DL.ix_seqC (K := K) rfl) (pv 0) pe_int (fun _ _ => rfl)) pk_nil))))
      (pss_cons (ps_set (i := 6) scLawOneByOne.nd rfl (by first | exact Or.inl rfl | exact Or.inr rfl) (DL.pe_cal c_RowSum (hr.mono (by decide)) (pa_cons (pe_ix (DL.ix_seqC (K := K) rfl) (pv 0) pe_int (fun _ _ => rfl)) (pa_cons (DL.pe_calK c_RowScaled_factor_one (hr.mono (by decide)) (pk_cons (pe_tup (pa_cons (pe_un un_neg pe_int) (pa_cons pe_int pa_nil))) (pk_cons (pe_ix (DL.ix_seqC (K := K) rfl) (pv 0) pe_int (fun _ _ => rfl)) pk_nil))) pa_nil))))
      (pss_cons (ps_set (i := 7) scLawOneByOne.nd rfl (by first | exact Or.inl rfl | exact Or.inr rfl) (DL.pe_calK c_RowScaled_factor_one (hr.mono (by decide)) (pk_cons (pv 2) (pk_cons (pe_ix (DL.ix_seqC (K := K) rfl) (pv 0) pe_int (fun _ _ => rfl)) pk_nil))))
      (pss_cons (ps_set (i := 8) scLawOneByOne.nd rfl (by first | exact Or.inl rfl | exact Or.inr rfl) (pe_lst (pa_cons (pe_lc (own := [("top", 9)]) (g := gName 9) (by rfl) scLawOneByOne.nd (DL.pi_listC (K := K) rfl (pe_ix (DL.ix_seqC (K := K) rfl) (pe_ix (DL.ix_seqC (K := K) rfl) (pv 1) pe_int (fun _ _ => rfl)) pe_int (fun _ _ => rfl))) (blkOk_by (own := [("top", 9)]) (by kernel_rfl)) (fun _ _ _ _ _ => (pg_name (i := 9) scLawOneByOne.nd rfl (by first | exact Or.inl rfl | exact Or.inr rfl))) (fun _ _ _ _ _ => pts_nil) (fun _ _ _ _ _ => (pe_un un_neg (pv 9)))) (pa_cons (pe_ix (DL.ix_seqC (K := K) rfl) (pe_ix (DL.ix_seqC (K := K) rfl) (pv 1) pe_int (fun _ _ => rfl)) pe_int (fun _ _ => rfl)) pa_nil))))
      (pss_cons (ps_if (PW.pt (pw_or (pt_not (pt_val (DL.pe_cal c_LawSame (hr.mono (by decide)) (pa_cons (pv 5) (pa_cons (DL.pe_cal c_LawAdded (hr.mono (by decide)) (pa_cons (pe_ix (DL.ix_seqC (K := K) rfl) (pv 1) pe_int (fun _ _ => rfl)) (pa_cons (pe_ix (DL.ix_seqC (K := K) rfl) (pv 1) pe_int (fun _ _ => rfl)) pa_nil))) pa_nil))))) (pw_or1 (pt_not (pt_val (DL.pe_cal c_LawSame (hr.mono (by decide)) (pa_cons (pv 6) (pa_cons (DL.pe_cal c_LawAdded (hr.mono (by decide)) (pa_cons (pe_ix (DL.ix_seqC (K := K) rfl) (pv 1) pe_int (fun _ _ => rfl)) (pa_cons (pv 8) pa_nil))) pa_nil))))))))
      (pss_one (ps_ret pe_bl))
      pss_nil)
      (pss_cons (ps_if (pt_not (pt_val (DL.pe_cal c_LawSame (hr.mono (by decide)) (pa_cons (pv 7) (pa_cons (DL.pe_cal c_LawBy (hr.mono (by decide)) (pa_cons (pe_ix (DL.ix_seqC (K := K) rfl) (pv 1) pe_int (fun _ _ => rfl)) (pa_cons (pv 3) pa_nil))) pa_nil)))))
      (pss_one (ps_ret pe_bl))
      pss_nil)
      (pss_cons (ps_for PassesOwn.never rfl (DL.pi_listC (K := K) rfl (pv 4)) (pg_name (i := 10) scLawOneByOne.nd rfl (by first | exact Or.inl rfl | exact Or.inr rfl))
      (pss_cons (ps_set (i := 11) scLawOneByOne.nd rfl (by first | exact Or.inl rfl | exact Or.inr rfl) (pe_op op_mulW (pe_ix (DL.ix_seqC (K := K) rfl) (pe_ix (DL.ix_seqC (K := K) rfl) (pe_ix (DL.ix_seqC (K := K) rfl) (pv 1) pe_int (fun _ _ => rfl)) pe_int (fun _ _ => rfl)) (pv 10) (fun _ _ => rfl)) (pe_ix (DL.ix_seqC (K := K) rfl) (pe_ix (DL.ix_seqC (K := K) rfl) (pv 1) pe_int (fun _ _ => rfl)) pe_int (fun _ _ => rfl))))
      (pss_cons (ps_set (i := 12) scLawOneByOne.nd rfl (by first | exact Or.inl rfl | exact Or.inr rfl) (pe_op op_mulW (pe_ix (DL.ix_seqC (K := K) rfl) (pe_ix (DL.ix_seqC (K := K) rfl) (pe_ix (DL.ix_seqC (K := K) rfl) (pv 1) pe_int (fun _ _ => rfl)) pe_int (fun _ _ => rfl)) (pv 10) (fun _ _ => rfl)) (pe_ix (DL.ix_seqC (K := K) rfl) (pe_ix (DL.ix_seqC (K := K) rfl) (pv 1) pe_int (fun _ _ => rfl)) pe_int (fun _ _ => rfl))))
      (pss_cons (ps_set (i := 13) scLawOneByOne.nd rfl (by first | exact Or.inl rfl | exact Or.inr rfl) (pe_lst (pa_cons (DL.pe_cal c_LawRatio (hr.mono (by decide)) (pa_cons (pe_op op_add (pv 11) (pv 12)) (pa_cons (pe_op op_mulW (pe_ix (DL.ix_seqC (K := K) rfl) (pe_ix (DL.ix_seqC (K := K) rfl) (pv 1) pe_int (fun _ _ => rfl)) pe_int (fun _ _ => rfl)) (pe_ix (DL.ix_seqC (K := K) rfl) (pe_ix (DL.ix_seqC (K := K) rfl) (pv 1) pe_int (fun _ _ => rfl)) pe_int (fun _ _ => rfl))) pa_nil))) (pa_cons (DL.pe_cal c_LawRatio (hr.mono (by decide)) (pa_cons (pe_op op_sub (pv 11) (pv 12)) (pa_cons (pe_op op_mulW (pe_ix (DL.ix_seqC (K := K) rfl) (pe_ix (DL.ix_seqC (K := K) rfl) (pv 1) pe_int (fun _ _ => rfl)) pe_int (fun _ _ => rfl)) (pe_ix (DL.ix_seqC (K := K) rfl) (pe_ix (DL.ix_seqC (K := K) rfl) (pv 1) pe_int (fun _ _ => rfl)) pe_int (fun _ _ => rfl))) pa_nil))) pa_nil))))
      (pss_cons (ps_set (i := 14) scLawOneByOne.nd rfl (by first | exact Or.inl rfl | exact Or.inr rfl) (DL.pe_calK c_RowItem_index_one (hr.mono (by decide)) (pk_cons (pv 10) (pk_cons (pe_ix (DL.ix_seqC (K := K) rfl) (pv 0) pe_int (fun _ _ => rfl)) pk_nil))))
      (pss_cons (ps_set (i := 15) scLawOneByOne.nd rfl (by first | exact Or.inl rfl | exact Or.inr rfl) (DL.pe_cal c_RowItem (hr.mono (by decide)) (pa_cons (pe_ix (DL.ix_seqC (K := K) rfl) (pv 0) pe_int (fun _ _ => rfl)) (pa_cons (pv 10) pa_nil))))
      (pss_cons (ps_if (PW.pt (pw_or (pt_not (pt_val (DL.pe_cal c_LawJust (hr.mono (by decide)) (pa_cons (pv 14) (pa_cons (pe_ix (DL.ix_seqC (K := K) rfl) (pe_ix (DL.ix_seqC (K := K) rfl) (pe_ix (DL.ix_seqC (K := K) rfl) (pv 1) pe_int (fun _ _ => rfl)) pe_int (fun _ _ => rfl)) (pv 10) (fun _ _ => rfl)) (pa_cons (pe_ix (DL.ix_seqC (K := K) rfl) (pe_ix (DL.ix_seqC (K := K) rfl) (pv 1) pe_int (fun _ _ => rfl)) pe_int (fun _ _ => rfl)) pa_nil)))))) (pw_or1 (pt_not (pt_val (DL.pe_cal c_LawJust (hr.mono (by decide)) (pa_cons (pv 15) (pa_cons (pe_ix (DL.ix_seqC (K := K) rfl) (pe_ix (DL.ix_seqC (K := K) rfl) (pe_ix (DL.ix_seqC (K := K) rfl) (pv 1) pe_int (fun _ _ => rfl)) pe_int (fun _ _ => rfl)) (pv 10) (fun _ _ => rfl)) (pa_cons (pe_ix (DL.ix_seqC (K := K) rfl) (pe_ix (DL.ix_seqC (K := K) rfl) (pv 1) pe_int (fun _ _ => rfl)) pe_int (fun _ _ => rfl)) pa_nil)))))))))
      (pss_one (ps_ret pe_bl))
      pss_nil)
      (pss_cons (ps_if (PW.pt (pw_or (pt_not (pt_val (DL.pe_cal c_LawTold (hr.mono (by decide)) (pa_cons (DL.pe_calK c_Plus_two_one (hr.mono (by decide)) (pk_cons (pv 15) (pk_cons (pe_callTy (DL.call_list_ofC (K := K) rfl) (by rfl) T.b_list (by decide +kernel) (pa_cons (pv 14) pa_nil)) pk_nil))) (pa_cons (pe_ix (DL.ix_seqC (K := K) rfl) (pv 13) pe_int (fun _ _ => rfl)) pa_nil))))) (pw_or1 (pt_not (pt_val (DL.pe_cal c_LawTold (hr.mono (by decide)) (pa_cons (DL.pe_cal c_RowItem (hr.mono (by decide)) (pa_cons (pv 5) (pa_cons (pv 10) pa_nil))) (pa_cons (pe_ix (DL.ix_seqC (K := K) rfl) (pv 13) pe_int (fun _ _ => rfl)) pa_nil))))))))
      (pss_one (ps_ret pe_bl))
      pss_nil)
      (pss_cons (ps_if (PW.pt (pw_or (pt_not (pt_val (DL.pe_cal c_LawTold (hr.mono (by decide)) (pa_cons (DL.pe_calK c_Minus_two_one (hr.mono (by decide)) (pk_cons (pv 15) (pk_cons (pe_callTy (DL.call_list_ofC (K := K) rfl) (by rfl) T.b_list (by decide +kernel) (pa_cons (pv 14) pa_nil)) pk_nil))) (pa_cons (pe_ix (DL.ix_seqC (K := K) rfl) (pv 13) pe_int (fun _ _ => rfl)) pa_nil))))) (pw_or1 (pt_not (pt_val (DL.pe_cal c_LawTold (hr.mono (by decide)) (pa_cons (DL.pe_calK c_RowItem_index_one (hr.mono (by decide)) (pk_cons (pv 10) (pk_cons (pv 6) pk_nil))) (pa_cons (pe_ix (DL.ix_seqC (K := K) rfl) (pv 13) pe_int (fun _ _ => rfl)) pa_nil))))))))
      (pss_one (ps_ret pe_bl))
      pss_nil)
      (pss_cons (ps_if (pt_not (pt_val (DL.pe_cal c_LawTold (hr.mono (by decide)) (pa_cons (DL.pe_cal c_Minus (hr.mono (by decide)) (pa_cons (pv 15) (pa_cons (pv 14) pa_nil))) (pa_cons (pe_tup (pa_cons (pe_un un_neg (pe_ix (DL.ix_seqC (K := K) rfl) (pe_ix (DL.ix_seqC (K := K) rfl) (pv 13) pe_int (fun _ _ => rfl)) pe_int (fun _ _ => rfl))) (pa_cons (pe_ix (DL.ix_seqC (K := K) rfl) (pe_ix (DL.ix_seqC (K := K) rfl) (pv 13) pe_int (fun _ _ => rfl)) pe_int (fun _ _ => rfl)) pa_nil))) pa_nil)))))
      (pss_one (ps_ret pe_bl))
      pss_nil)
      (pss_cons (ps_set (i := 16) scLawOneByOne.nd rfl (by first | exact Or.inl rfl | exact Or.inr rfl) (DL.pe_cal c_LawRatio (hr.mono (by decide)) (pa_cons (pe_op op_mulW (pe_ix (DL.ix_seqC (K := K) rfl) (pe_ix (DL.ix_seqC (K := K) rfl) (pe_ix (DL.ix_seqC (K := K) rfl) (pv 1) pe_int (fun _ _ => rfl)) pe_int (fun _ _ => rfl)) (pv 10) (fun _ _ => rfl)) (pe_ix (DL.ix_seqC (K := K) rfl) (pv 3) pe_int (fun _ _ => rfl))) (pa_cons (pe_op op_mulW (pe_ix (DL.ix_seqC (K := K) rfl) (pe_ix (DL.ix_seqC (K := K) rfl) (pv 1) pe_int (fun _ _ => rfl)) pe_int (fun _ _ => rfl)) (pe_ix (DL.ix_seqC (K := K) rfl) (pv 3) pe_int (fun _ _ => rfl))) pa_nil))))
      (pss_cons (ps_if (PW.pt (pw_or (pt_not (pt_val (DL.pe_cal c_LawTold (hr.mono (by decide)) (pa_cons (DL.pe_calK c_Times_two_one (hr.mono (by decide)) (pk_cons (pv 14) (pk_cons (pv 2) pk_nil))) (pa_cons (pv 16) pa_nil))))) (pw_or1 (pt_not (pt_val (DL.pe_cal c_LawTold (hr.mono (by decide)) (pa_cons (DL.pe_calK c_RowItem_index_one (hr.mono (by decide)) (pk_cons (pv 10) (pk_cons (pv 7) pk_nil))) (pa_cons (pv 16) pa_nil))))))))
      (pss_one (ps_ret pe_bl))
      pss_nil)
      (pss_cons (ps_set (i := 17) scLawOneByOne.nd rfl (by first | exact Or.inl rfl | exact Or.inr rfl) (pe_op op_sub (pe_callTy call_int1 (by rfl) T.b_int (by decide +kernel) (pa_cons (pe_cmpR op_gt (pe_ix (DL.ix_seqC (K := K) rfl) (pe_ix (DL.ix_seqC (K := K) rfl) (pv 13) pe_int (fun _ _ => rfl)) pe_int (fun _ _ => rfl)) pe_int (nomark _)) pa_nil)) (pe_callTy call_int1 (by rfl) T.b_int (by decide +kernel) (pa_cons (pe_cmpR op_lt (pe_ix (DL.ix_seqC (K := K) rfl) (pe_ix (DL.ix_seqC (K := K) rfl) (pv 13) pe_int (fun _ _ => rfl)) pe_int (fun _ _ => rfl)) pe_int (nomark _)) pa_nil))))
      (pss_cons (ps_set (i := 18) scLawOneByOne.nd rfl (by first | exact Or.inl rfl | exact Or.inr rfl) (pe_lst (pa_cons (DL.pe_calK c_Order_two_one (hr.mono (by decide)) (pk_cons (pe_callTy (DL.call_list_ofC (K := K) rfl) (by rfl) T.b_list (by decide +kernel) (pa_cons (pv 15) pa_nil)) (pk_cons (pv 14) pk_nil))) (pa_cons (DL.pe_cal c_Order (hr.mono (by decide)) (pa_cons (pv 15) (pa_cons (pv 14) pa_nil))) pa_nil))))
      (pss_cons (ps_if (PW.pt (pw_or (pt_not (pt_val (DL.pe_cal c_LawWhole (hr.mono (by decide)) (pa_cons (pe_ix (DL.ix_seqC (K := K) rfl) (pv 18) pe_int (fun _ _ => rfl)) pa_nil)))) (pw_or (pt_cmpR op_ne (pe_ix (DL.ix_seqC (K := K) rfl) (pv 18) pe_int (fun _ _ => rfl)) (pv 17) (nomark _)) (pw_or (pt_not (pt_val (DL.pe_cal c_LawWhole (hr.mono (by decide)) (pa_cons (pe_ix (DL.ix_seqC (K := K) rfl) (pv 18) pe_int (fun _ _ => rfl)) pa_nil)))) (pw_or1 (pt_cmpR op_ne (pe_ix (DL.ix_seqC (K := K) rfl) (pv 18) pe_int (fun _ _ => rfl)) (pe_un un_neg (pv 17)) (nomark _)))))))
      (pss_one (ps_ret pe_bl))
      pss_nil)
      (pss_one (ps_if (PW.pt (pw_and (pt_cmpR op_ne (pe_ix (DL.ix_seqC (K := K) rfl) (pv 2) pe_int (fun _ _ => rfl)) pe_int (nomark _)) (pw_and1 (pt_not (pt_val (DL.pe_cal c_LawJust (hr.mono (by decide)) (pa_cons (DL.pe_calK c_Over_two_one (hr.mono (by decide)) (pk_cons (pv 2) (pk_cons (pv 14) pk_nil))) (pa_cons (pe_op op_mulW (pe_ix (DL.ix_seqC (K := K) rfl) (pe_ix (DL.ix_seqC (K := K) rfl) (pe_ix (DL.ix_seqC (K := K) rfl) (pv 1) pe_int (fun _ _ => rfl)) pe_int (fun _ _ => rfl)) (pv 10) (fun _ _ => rfl)) (pe_ix (DL.ix_seqC (K := K) rfl) (pv 3) pe_int (fun _ _ => rfl))) (pa_cons (pe_op op_mulW (pe_ix (DL.ix_seqC (K := K) rfl) (pe_ix (DL.ix_seqC (K := K) rfl) (pv 1) pe_int (fun _ _ => rfl)) pe_int (fun _ _ => rfl)) (pe_ix (DL.ix_seqC (K := K) rfl) (pv 3) pe_int (fun _ _ => rfl))) pa_nil)))))))))
      (pss_one (ps_ret pe_bl))
      pss_nil)))))))))))))))))
      (pss_one (ps_ret pe_bl))))))))), ?_⟩
  refine sd_fn h (fun _ => Nat.le_of_ble_eq_true rfl) ?_
  try dsimp only [L2.cxOf]
  intro ⟨⟨m, a, b, c, p0, p1⟩, ps⟩ hp
  obtain ⟨⟨hm, ha, hb, hc, hp0, hp1, pz⟩, hps⟩ : Three m a b c p0 p1 ∧ ∀ k ∈ ps, 0 ≤ k ∧ k < (m : Int) := hp
  have o1 : Sm 100000 (-1) := by unfold Sm; exact Nat.one_lt_two_pow (by decide)
  have o2 : Sm 100000 1 := by unfold Sm; exact Nat.one_lt_two_pow (by decide)
  have ab := ha.add hb
  have nb := hb.by_ (f := -1) (g := 1) (B := 2) (by unfold Sm; decide) (by unfold Sm; decide) (by decide)
  have cb := hb.contra_
  have anb := ha.add nb
  have acb := ha.add cb
  have fa := ha.by_ hp0 hp1 pz
  have lz : (contra b).1.length ≤ 10000 := by rw [cb.len]; omega
  have lz2 : b.1.length ≤ 10000 := by rw [hb.len]; omega
  show SD K _ [.sh (.lst [rowS true (qR a), rowS true (qR b), rowS true (qR c)]), .sh (.lst [rawP a, rawP b, rawP c]), .sh (ratS true (Rat.divInt p0 p1)), .sh (.lst [.int p0, .int p1]), .sh (.lst (dI ps)), .no, .no, .no, .no, .no, .no, .no, .no, .no, .no, .no, .no, .no, .no] _
  refine sd_then (sd_asg (d := rowS true (qR (added a b))) (sumK_ok (k := true) (j := true) ha hb hm (by decide) (by decide) (by by_place <;> by_in)) ?_)
  refine sd_then (sd_asg (d := rowS true (qR (added a (byed b (-1) 1)))) (sum_ok (k := true) (j := true) ha nb hm (by decide) (by decide) (ea_cons (by by_place <;> by_in) (ea_cons (scaledK_ok (k := true) (j := true) hb hm (by decide) (by decide) o1 o2 (ea_cons (a := ratS true (Rat.divInt (-1) 1)) (by exact ed_tup (as := [.int (-1), .int 1]) (by by_place <;> by_in) (Nat.le_of_ble_eq_true rfl)) (by by_place <;> by_in))) ea_nil))) ?_)
  refine sd_then (sd_asg (d := rowS true (qR (byed a p0 p1))) (scaledK_ok (k := true) (j := true) ha hm (by decide) pz (hp0.mono (by decide)) (hp1.mono (by decide)) (by by_place <;> by_in)) ?_)
  refine sd_then (sd_asg (d := rawP (contra b)) (ed_lst (as := [.lst (dI (b.1.map fun x => -x)), .int b.2]) (ea_cons (EvL.data (el_mapI (i := 9) (fun x => -x) (by by_place <;> by_in) (by decide) lz2 fun x hx => by by_place)) (by by_place <;> by_in)) (Nat.le_of_ble_eq_true rfl)) ?_)
  show SD K _ [.sh (.lst [rowS true (qR a), rowS true (qR b), rowS true (qR c)]), .sh (.lst [rawP a, rawP b, rawP c]), .sh (ratS true (Rat.divInt p0 p1)), .sh (.lst [.int p0, .int p1]), .sh (.lst (dI ps)), .sh (rowS true (qR (added a b))), .sh (rowS true (qR (added a (byed b (-1) 1)))), .sh (rowS true (qR (byed a p0 p1))), .sh (rawP (contra b)), .no, .no, .no, .no, .no, .no, .no, .no, .no, .no] _
  refine sd_then (sd_if (x := false) (EvT.is (et_or (x := false) (et_not (x := true) (et_B (same_ok ab hm (by decide) rfl (ea_cons (by by_place <;> by_in) (ea_cons (added_ok ha hb hm (by decide) (by decide) (by by_place <;> by_in)) ea_nil))))) fun _ => et_not (x := true) (et_B (same_ok acb hm (by decide) ?_ (ea_cons (by by_place <;> by_in) (ea_cons (added_ok ha cb hm (by decide) (by decide) (by by_place <;> by_in)) ea_nil))))) (by rfl)) (fun h => by cases h) (fun _ => sd_next ?_))
  · rw [ha.addQ_ nb, ha.addQ_ cb, byQ_, neg1, q_contra]
  show SD K _ [.sh (.lst [rowS true (qR a), rowS true (qR b), rowS true (qR c)]), .sh (.lst [rawP a, rawP b, rawP c]), .sh (ratS true (Rat.divInt p0 p1)), .sh (.lst [.int p0, .int p1]), .sh (.lst (dI ps)), .sh (rowS true (qR (added a b))), .sh (rowS true (qR (added a (byed b (-1) 1)))), .sh (rowS true (qR (byed a p0 p1))), .sh (rawP (contra b)), .no, .no, .no, .no, .no, .no, .no, .no, .no, .no] _
  refine sd_then (sd_if (x := false) (EvT.is (et_not (x := true) (et_B (same_ok fa hm (by decide) rfl (ea_cons (by by_place <;> by_in) (ea_cons (by_ok ha hm (by decide) (hp0.mono (by decide)) (hp1.mono (by decide)) (by by_place <;> by_in)) ea_nil))))) (by rfl)) (fun h => by cases h) (fun _ => sd_next ?_))
  show SD K _ [.sh (.lst [rowS true (qR a), rowS true (qR b), rowS true (qR c)]), .sh (.lst [rawP a, rawP b, rawP c]), .sh (ratS true (Rat.divInt p0 p1)), .sh (.lst [.int p0, .int p1]), .sh (.lst (dI ps)), .sh (rowS true (qR (added a b))), .sh (rowS true (qR (added a (byed b (-1) 1)))), .sh (rowS true (qR (byed a p0 p1))), .sh (rawP (contra b)), .no, .no, .no, .no, .no, .no, .no, .no, .no, .no] _
  refine sd_then (sd_forLn [10, 11, 12, 13, 14, 15, 16, 17, 18] (ds := dI ps) (by by_place) (.inl rfl) (fun m ρ => ρ = [.sh (.lst [rowS true (qR a), rowS true (qR b), rowS true (qR c)]), .sh (.lst [rawP a, rawP b, rawP c]), .sh (ratS true (Rat.divInt p0 p1)), .sh (.lst [.int p0, .int p1]), .sh (.lst (dI ps)), .sh (rowS true (qR (added a b))), .sh (rowS true (qR (added a (byed b (-1) 1)))), .sh (rowS true (qR (byed a p0 p1))), .sh (rawP (contra b)), .no, .no, .no, .no, .no, .no, .no, .no, .no, .no]) rfl (fun m' d ρ hd hI => ?_) (fun ρ hI => ?_))
  · subst hI
    obtain ⟨x, hx, rfl⟩ := get_dI hd
    have hx2 := hps x (List.mem_of_getElem? hx)
    obtain ⟨i, rfl⟩ : ∃ i : Nat, x = i := ⟨x.toNat, by omega⟩
    have hi : i < m := by omega
    refine ⟨rfl, ?_⟩
    have ia : i < a.1.length := by rw [ha.len]; exact hi
    have ib : i < b.1.length := by rw [hb.len]; exact hi
    have t1 : atI (dI a.1) (i : Int) = some (.int (a.1.getD i 0)) := atI_nat (dI_get (get_getD 0 ia))
    have t2 : atI (dI b.1) (i : Int) = some (.int (b.1.getD i 0)) := atI_nat (dI_get (get_getD 0 ib))
    have sx := ha.sm.1 _ (M.getD_mem (l := a.1) (i := i) 0 ia)
    have sy := hb.sm.1 _ (M.getD_mem (l := b.1) (i := i) 0 ib)
    have sl := ha.sm.2
    have sn := hb.sm.2
    have m1 := sx.mulW sn (by decide)
    have m2 := sy.mulW sl (by decide)
    have m3 := sl.mulW sn (by decide)
    have m4 := sx.mulW hp0 (by decide)
    have m5 := sl.mulW hp1 (by decide)
    have m6 := sx.mulW hp1 (by decide)
    have m7 := sl.mulW hp0 (by decide)
    have z1 := Int.mul_ne_zero ha.nz hb.nz
    have u1 := ((sx.mul sn).add (sy.mul sl)).mono (show 1400 + 1400 + 1 ≤ 49000 by decide)
    have u2 : Sm 49000 (a.1.getD i 0 * b.2 - b.1.getD i 0 * a.2) := by rw [Int.sub_eq_add_neg]; exact ((sx.mul sn).add (sy.mul sl).neg).mono (by decide)
    have u3 := (sl.mul sn).mono (show 1400 + 1400 ≤ 49000 by decide)
    have ra := ratR ha.nz (sx.mono (show 1400 ≤ 100000 by decide)) (sl.mono (by decide))
    have rb := ratR hb.nz (sy.mono (show 1400 ≤ 100000 by decide)) (sn.mono (by decide))
    have rf := ratR pz (hp0.mono (show 1400 ≤ 100000 by decide)) (hp1.mono (by decide))
    have e1 := add_div (a.1.getD i 0) (b.1.getD i 0) ha.nz hb.nz
    have e2 := sub_div (x := a.1.getD i 0) (y := b.1.getD i 0) ha.nz hb.nz
    have z3 := Int.mul_ne_zero ha.nz pz
    have u4 := (sx.mul hp0).mono (show 1400 + 1400 ≤ 49000 by decide)
    have u5 := (sl.mul hp1).mono (show 1400 + 1400 ≤ 49000 by decide)
    have e3 : Rat.divInt (a.1.getD i 0 * p0) (a.2 * p1) = Rat.divInt (a.1.getD i 0) a.2 * Rat.divInt p0 p1 := (Rat.divInt_mul_divInt _ _).symm
    show SD K _ [.sh (.lst [rowS true (qR a), rowS true (qR b), rowS true (qR c)]), .sh (.lst [rawP a, rawP b, rawP c]), .sh (ratS true (Rat.divInt p0 p1)), .sh (.lst [.int p0, .int p1]), .sh (.lst (dI ps)), .sh (rowS true (qR (added a b))), .sh (rowS true (qR (added a (byed b (-1) 1)))), .sh (rowS true (qR (byed a p0 p1))), .sh (rawP (contra b)), .no, .sh (.int (i : Int)), .no, .no, .no, .no, .no, .no, .no, .no] _
    refine sd_then (sd_asg (d := .int (a.1.getD i 0 * b.2)) (EvD.is (by by_place <;> by_in) (by rfl)) ?_)
    refine sd_then (sd_asg (d := .int (b.1.getD i 0 * a.2)) (EvD.is (by by_place <;> by_in) (by rfl)) ?_)
    show SD K _ [.sh (.lst [rowS true (qR a), rowS true (qR b), rowS true (qR c)]), .sh (.lst [rawP a, rawP b, rawP c]), .sh (ratS true (Rat.divInt p0 p1)), .sh (.lst [.int p0, .int p1]), .sh (.lst (dI ps)), .sh (rowS true (qR (added a b))), .sh (rowS true (qR (added a (byed b (-1) 1)))), .sh (rowS true (qR (byed a p0 p1))), .sh (rawP (contra b)), .no, .sh (.int (i : Int)), .sh (.int (a.1.getD i 0 * b.2)), .sh (.int (b.1.getD i 0 * a.2)), .no, .no, .no, .no, .no, .no] _
    refine sd_then (sd_asg (d := .lst [ratS true (Rat.divInt (a.1.getD i 0 * b.2 + b.1.getD i 0 * a.2) (a.2 * b.2)), ratS true (Rat.divInt (a.1.getD i 0 * b.2 - b.1.getD i 0 * a.2) (a.2 * b.2))]) (ed_lst (ea_cons (ratio_ok z1 u1 u3 (EvA.is (by by_place <;> by_in) (by rfl))) (ea_cons (ratio_ok z1 u2 u3 (EvA.is (by by_place <;> by_in) (by rfl))) ea_nil)) (Nat.le_of_ble_eq_true rfl)) ?_)
    refine sd_then (sd_asg (d := ratS true (Rat.divInt (a.1.getD i 0) a.2)) (itemK_ok (k := true) ha hi (by by_place <;> by_in)) ?_)
    refine sd_then (sd_asg (d := ratS true (Rat.divInt (b.1.getD i 0) b.2)) (item_ok (k := true) hb hi (by by_place <;> by_in)) ?_)
    show SD K _ [.sh (.lst [rowS true (qR a), rowS true (qR b), rowS true (qR c)]), .sh (.lst [rawP a, rawP b, rawP c]), .sh (ratS true (Rat.divInt p0 p1)), .sh (.lst [.int p0, .int p1]), .sh (.lst (dI ps)), .sh (rowS true (qR (added a b))), .sh (rowS true (qR (added a (byed b (-1) 1)))), .sh (rowS true (qR (byed a p0 p1))), .sh (rawP (contra b)), .no, .sh (.int (i : Int)), .sh (.int (a.1.getD i 0 * b.2)), .sh (.int (b.1.getD i 0 * a.2)), .sh (.lst [ratS true (Rat.divInt (a.1.getD i 0 * b.2 + b.1.getD i 0 * a.2) (a.2 * b.2)), ratS true (Rat.divInt (a.1.getD i 0 * b.2 - b.1.getD i 0 * a.2) (a.2 * b.2))]), .sh (ratS true (Rat.divInt (a.1.getD i 0) a.2)), .sh (ratS true (Rat.divInt (b.1.getD i 0) b.2)), .no, .no, .no] _
    refine sd_then (sd_if (x := false) (EvT.is (et_or (x := false) (et_not (x := true) (et_B (just_ok ha.nz (sx.mono (by decide)) (sl.mono (by decide)) rfl (by by_place <;> by_in)))) fun _ => et_not (x := true) (et_B (just_ok hb.nz (sy.mono (by decide)) (sn.mono (by decide)) rfl (by by_place <;> by_in)))) (by rfl)) (fun h => by cases h) (fun _ => sd_next ?_))
    show SD K _ [.sh (.lst [rowS true (qR a), rowS true (qR b), rowS true (qR c)]), .sh (.lst [rawP a, rawP b, rawP c]), .sh (ratS true (Rat.divInt p0 p1)), .sh (.lst [.int p0, .int p1]), .sh (.lst (dI ps)), .sh (rowS true (qR (added a b))), .sh (rowS true (qR (added a (byed b (-1) 1)))), .sh (rowS true (qR (byed a p0 p1))), .sh (rawP (contra b)), .no, .sh (.int (i : Int)), .sh (.int (a.1.getD i 0 * b.2)), .sh (.int (b.1.getD i 0 * a.2)), .sh (.lst [ratS true (Rat.divInt (a.1.getD i 0 * b.2 + b.1.getD i 0 * a.2) (a.2 * b.2)), ratS true (Rat.divInt (a.1.getD i 0 * b.2 - b.1.getD i 0 * a.2) (a.2 * b.2))]), .sh (ratS true (Rat.divInt (a.1.getD i 0) a.2)), .sh (ratS true (Rat.divInt (b.1.getD i 0) b.2)), .no, .no, .no] _
    refine sd_then (sd_if (x := false) (EvT.is (et_or (x := false) (et_not (x := true) (et_B (told_ok e1.symm (ea_cons (plusK_ok (k := false) (j := true) ra rb (ea_cons (by by_place <;> by_in) (ea_cons (EvL.data (el_cb (ea_cons (ed_var (by with_unfolding_all rfl)) ea_nil) (cl_list rfl))) ea_nil))) (by by_place <;> by_in))))) fun _ => et_not (x := true) (et_B (told_ok ?_ (ea_cons (item_ok (k := true) ab hi (by by_place <;> by_in)) (by by_place <;> by_in))))) (by rfl)) (fun h => by cases h) (fun _ => sd_next ?_))
    · show Rat.divInt ((addR a.1 a.2 b.1 b.2).getD i 0) (a.2 * b.2) = _
      rw [addR_get ia]
    show SD K _ [.sh (.lst [rowS true (qR a), rowS true (qR b), rowS true (qR c)]), .sh (.lst [rawP a, rawP b, rawP c]), .sh (ratS true (Rat.divInt p0 p1)), .sh (.lst [.int p0, .int p1]), .sh (.lst (dI ps)), .sh (rowS true (qR (added a b))), .sh (rowS true (qR (added a (byed b (-1) 1)))), .sh (rowS true (qR (byed a p0 p1))), .sh (rawP (contra b)), .no, .sh (.int (i : Int)), .sh (.int (a.1.getD i 0 * b.2)), .sh (.int (b.1.getD i 0 * a.2)), .sh (.lst [ratS true (Rat.divInt (a.1.getD i 0 * b.2 + b.1.getD i 0 * a.2) (a.2 * b.2)), ratS true (Rat.divInt (a.1.getD i 0 * b.2 - b.1.getD i 0 * a.2) (a.2 * b.2))]), .sh (ratS true (Rat.divInt (a.1.getD i 0) a.2)), .sh (ratS true (Rat.divInt (b.1.getD i 0) b.2)), .no, .no, .no] _
    refine sd_then (sd_if (x := false) (EvT.is (et_or (x := false) (et_not (x := true) (et_B (told_ok e2.symm (ea_cons (minusK_ok (k := false) (j := true) ra rb (ea_cons (by by_place <;> by_in) (ea_cons (EvL.data (el_cb (ea_cons (ed_var (by with_unfolding_all rfl)) ea_nil) (cl_list rfl))) ea_nil))) (by by_place <;> by_in))))) fun _ => et_not (x := true) (et_B (told_ok ?_ (ea_cons (itemK_ok (k := true) anb hi (by by_place <;> by_in)) (by by_place <;> by_in))))) (by rfl)) (fun h => by cases h) (fun _ => sd_next ?_))
    · show Rat.divInt ((addR a.1 a.2 (byR b.1 (-1)) (b.2 * 1)).getD i 0) (a.2 * (b.2 * 1)) = _
      rw [addR_get ia, byR_get ib, Int.mul_one, Int.sub_eq_add_neg, Int.mul_neg, Int.mul_one, Int.neg_mul]
    show SD K _ [.sh (.lst [rowS true (qR a), rowS true (qR b), rowS true (qR c)]), .sh (.lst [rawP a, rawP b, rawP c]), .sh (ratS true (Rat.divInt p0 p1)), .sh (.lst [.int p0, .int p1]), .sh (.lst (dI ps)), .sh (rowS true (qR (added a b))), .sh (rowS true (qR (added a (byed b (-1) 1)))), .sh (rowS true (qR (byed a p0 p1))), .sh (rawP (contra b)), .no, .sh (.int (i : Int)), .sh (.int (a.1.getD i 0 * b.2)), .sh (.int (b.1.getD i 0 * a.2)), .sh (.lst [ratS true (Rat.divInt (a.1.getD i 0 * b.2 + b.1.getD i 0 * a.2) (a.2 * b.2)), ratS true (Rat.divInt (a.1.getD i 0 * b.2 - b.1.getD i 0 * a.2) (a.2 * b.2))]), .sh (ratS true (Rat.divInt (a.1.getD i 0) a.2)), .sh (ratS true (Rat.divInt (b.1.getD i 0) b.2)), .no, .no, .no] _
    refine sd_then (sd_if (x := false) (EvT.is (et_not (x := true) (et_B (told_ok (r := -Rat.divInt (a.1.getD i 0 * b.2 - b.1.getD i 0 * a.2) (a.2 * b.2)) ?_ (ea_cons (minus_ok (k := true) (j := true) rb ra (by by_place <;> by_in)) (ea_cons (by exact ed_tup (as := [.int (-(Rat.divInt (a.1.getD i 0 * b.2 - b.1.getD i 0 * a.2) (a.2 * b.2)).num), .int (((Rat.divInt (a.1.getD i 0 * b.2 - b.1.getD i 0 * a.2) (a.2 * b.2)).den : Nat) : Int)]) (by by_place <;> by_in) (Nat.le_of_ble_eq_true rfl)) ea_nil))))) (by rfl)) (fun h => by cases h) (fun _ => sd_next ?_))
    · rw [e2, Rat.neg_sub]
    show SD K _ [.sh (.lst [rowS true (qR a), rowS true (qR b), rowS true (qR c)]), .sh (.lst [rawP a, rawP b, rawP c]), .sh (ratS true (Rat.divInt p0 p1)), .sh (.lst [.int p0, .int p1]), .sh (.lst (dI ps)), .sh (rowS true (qR (added a b))), .sh (rowS true (qR (added a (byed b (-1) 1)))), .sh (rowS true (qR (byed a p0 p1))), .sh (rawP (contra b)), .no, .sh (.int (i : Int)), .sh (.int (a.1.getD i 0 * b.2)), .sh (.int (b.1.getD i 0 * a.2)), .sh (.lst [ratS true (Rat.divInt (a.1.getD i 0 * b.2 + b.1.getD i 0 * a.2) (a.2 * b.2)), ratS true (Rat.divInt (a.1.getD i 0 * b.2 - b.1.getD i 0 * a.2) (a.2 * b.2))]), .sh (ratS true (Rat.divInt (a.1.getD i 0) a.2)), .sh (ratS true (Rat.divInt (b.1.getD i 0) b.2)), .no, .no, .no] _
    refine sd_then (sd_asg (d := ratS true (Rat.divInt (a.1.getD i 0 * p0) (a.2 * p1))) (ratio_ok z3 u4 u5 (EvA.is (by by_place <;> by_in) (by rfl))) ?_)
    show SD K _ [.sh (.lst [rowS true (qR a), rowS true (qR b), rowS true (qR c)]), .sh (.lst [rawP a, rawP b, rawP c]), .sh (ratS true (Rat.divInt p0 p1)), .sh (.lst [.int p0, .int p1]), .sh (.lst (dI ps)), .sh (rowS true (qR (added a b))), .sh (rowS true (qR (added a (byed b (-1) 1)))), .sh (rowS true (qR (byed a p0 p1))), .sh (rawP (contra b)), .no, .sh (.int (i : Int)), .sh (.int (a.1.getD i 0 * b.2)), .sh (.int (b.1.getD i 0 * a.2)), .sh (.lst [ratS true (Rat.divInt (a.1.getD i 0 * b.2 + b.1.getD i 0 * a.2) (a.2 * b.2)), ratS true (Rat.divInt (a.1.getD i 0 * b.2 - b.1.getD i 0 * a.2) (a.2 * b.2))]), .sh (ratS true (Rat.divInt (a.1.getD i 0) a.2)), .sh (ratS true (Rat.divInt (b.1.getD i 0) b.2)), .sh (ratS true (Rat.divInt (a.1.getD i 0 * p0) (a.2 * p1))), .no, .no] _
    refine sd_then (sd_if (x := false) (EvT.is (et_or (x := false) (et_not (x := true) (et_B (told_ok ?_ (ea_cons (timesK_ok (k := true) (j := true) rf ra (by by_place <;> by_in)) (by by_place <;> by_in))))) fun _ => et_not (x := true) (et_B (told_ok ?_ (ea_cons (itemK_ok (k := true) fa hi (by by_place <;> by_in)) (by by_place <;> by_in))))) (by rfl)) (fun h => by cases h) (fun _ => sd_next ?_))
    · rw [e3, Rat.mul_comm]
    · show Rat.divInt ((byR a.1 p0).getD i 0) (a.2 * p1) = _
      rw [byR_get ia]
    show SD K _ [.sh (.lst [rowS true (qR a), rowS true (qR b), rowS true (qR c)]), .sh (.lst [rawP a, rawP b, rawP c]), .sh (ratS true (Rat.divInt p0 p1)), .sh (.lst [.int p0, .int p1]), .sh (.lst (dI ps)), .sh (rowS true (qR (added a b))), .sh (rowS true (qR (added a (byed b (-1) 1)))), .sh (rowS true (qR (byed a p0 p1))), .sh (rawP (contra b)), .no, .sh (.int (i : Int)), .sh (.int (a.1.getD i 0 * b.2)), .sh (.int (b.1.getD i 0 * a.2)), .sh (.lst [ratS true (Rat.divInt (a.1.getD i 0 * b.2 + b.1.getD i 0 * a.2) (a.2 * b.2)), ratS true (Rat.divInt (a.1.getD i 0 * b.2 - b.1.getD i 0 * a.2) (a.2 * b.2))]), .sh (ratS true (Rat.divInt (a.1.getD i 0) a.2)), .sh (ratS true (Rat.divInt (b.1.getD i 0) b.2)), .sh (ratS true (Rat.divInt (a.1.getD i 0 * p0) (a.2 * p1))), .no, .no] _
    refine sd_then (sd_asg (d := .int (signQ (Rat.divInt (a.1.getD i 0) a.2) (Rat.divInt (b.1.getD i 0) b.2))) (EvD.is (by by_place <;> by_in) ?_) ?_)
    · have e := sign_num (Rat.divInt (a.1.getD i 0) a.2) (Rat.divInt (b.1.getD i 0) b.2)
      rw [← e2] at e
      rw [← e]
      simp only [decide_eq_true_eq]
    refine sd_then (sd_asg (d := .lst [.int (signQ (Rat.divInt (a.1.getD i 0) a.2) (Rat.divInt (b.1.getD i 0) b.2)), .int (signQ (Rat.divInt (b.1.getD i 0) b.2) (Rat.divInt (a.1.getD i 0) a.2))]) (ed_lst (ea_cons (orderK_ok (k := true) (j := false) ra rb (ea_cons (EvL.data (el_cb (ea_cons (ed_var (by with_unfolding_all rfl)) ea_nil) (cl_list rfl))) (by by_place <;> by_in))) (ea_cons (order_ok (k := true) (j := true) rb ra (by by_place <;> by_in)) ea_nil)) (Nat.le_of_ble_eq_true rfl)) ?_)
    show SD K _ [.sh (.lst [rowS true (qR a), rowS true (qR b), rowS true (qR c)]), .sh (.lst [rawP a, rawP b, rawP c]), .sh (ratS true (Rat.divInt p0 p1)), .sh (.lst [.int p0, .int p1]), .sh (.lst (dI ps)), .sh (rowS true (qR (added a b))), .sh (rowS true (qR (added a (byed b (-1) 1)))), .sh (rowS true (qR (byed a p0 p1))), .sh (rawP (contra b)), .no, .sh (.int (i : Int)), .sh (.int (a.1.getD i 0 * b.2)), .sh (.int (b.1.getD i 0 * a.2)), .sh (.lst [ratS true (Rat.divInt (a.1.getD i 0 * b.2 + b.1.getD i 0 * a.2) (a.2 * b.2)), ratS true (Rat.divInt (a.1.getD i 0 * b.2 - b.1.getD i 0 * a.2) (a.2 * b.2))]), .sh (ratS true (Rat.divInt (a.1.getD i 0) a.2)), .sh (ratS true (Rat.divInt (b.1.getD i 0) b.2)), .sh (ratS true (Rat.divInt (a.1.getD i 0 * p0) (a.2 * p1))), .sh (.int (signQ (Rat.divInt (a.1.getD i 0) a.2) (Rat.divInt (b.1.getD i 0) b.2))), .sh (.lst [.int (signQ (Rat.divInt (a.1.getD i 0) a.2) (Rat.divInt (b.1.getD i 0) b.2)), .int (signQ (Rat.divInt (b.1.getD i 0) b.2) (Rat.divInt (a.1.getD i 0) a.2))])] _
    refine sd_then (sd_if (x := false) (EvT.is (et_or (x := false) (et_not (x := true) (et_B (ed_call (signQ (Rat.divInt (a.1.getD i 0) a.2) (Rat.divInt (b.1.getD i 0) b.2)) (by by_place <;> by_in) trivial rfl))) fun _ => et_or (x := false) (EvT.is (by by_place <;> by_in) ?_) fun _ => et_or (x := false) (et_not (x := true) (et_B (ed_call (signQ (Rat.divInt (b.1.getD i 0) b.2) (Rat.divInt (a.1.getD i 0) a.2)) (by by_place <;> by_in) trivial rfl))) fun _ => EvT.is (by by_place <;> by_in) ?_) (by rfl)) (fun h => by cases h) (fun _ => sd_next ?_))
    · rw [decide_eq_true rfl]; rfl
    · rw [decide_eq_true (sign_flip _ _)]; rfl
    show SD K _ [.sh (.lst [rowS true (qR a), rowS true (qR b), rowS true (qR c)]), .sh (.lst [rawP a, rawP b, rawP c]), .sh (ratS true (Rat.divInt p0 p1)), .sh (.lst [.int p0, .int p1]), .sh (.lst (dI ps)), .sh (rowS true (qR (added a b))), .sh (rowS true (qR (added a (byed b (-1) 1)))), .sh (rowS true (qR (byed a p0 p1))), .sh (rawP (contra b)), .no, .sh (.int (i : Int)), .sh (.int (a.1.getD i 0 * b.2)), .sh (.int (b.1.getD i 0 * a.2)), .sh (.lst [ratS true (Rat.divInt (a.1.getD i 0 * b.2 + b.1.getD i 0 * a.2) (a.2 * b.2)), ratS true (Rat.divInt (a.1.getD i 0 * b.2 - b.1.getD i 0 * a.2) (a.2 * b.2))]), .sh (ratS true (Rat.divInt (a.1.getD i 0) a.2)), .sh (ratS true (Rat.divInt (b.1.getD i 0) b.2)), .sh (ratS true (Rat.divInt (a.1.getD i 0 * p0) (a.2 * p1))), .sh (.int (signQ (Rat.divInt (a.1.getD i 0) a.2) (Rat.divInt (b.1.getD i 0) b.2))), .sh (.lst [.int (signQ (Rat.divInt (a.1.getD i 0) a.2) (Rat.divInt (b.1.getD i 0) b.2)), .int (signQ (Rat.divInt (b.1.getD i 0) b.2) (Rat.divInt (a.1.getD i 0) a.2))])] _
    refine sd_if (x := false) (EvT.is (et_and (x := !decide ((Rat.divInt p0 p1).num = 0)) (y := false) (by by_place <;> by_in) fun hs => et_not (x := true) (et_B (just_ok (g := a.2 * p0) (f := a.1.getD i 0 * p1) ?_ ((sx.mul hp1).mono (by decide)) ((sl.mul hp0).mono (by decide)) ?_ (ea_cons (overK_ok (k := true) (j := true) ra rf ?_ (by by_place <;> by_in)) (EvA.is (by by_place <;> by_in) (by rfl)))))) (by rw [Bool.and_false])) (fun h => by cases h) (fun _ => sd_next rfl)
    · have h0 : (Rat.divInt p0 p1).num ≠ 0 := by simpa using hs
      refine Int.mul_ne_zero ha.nz fun z => h0 ?_
      rw [z, Rat.zero_divInt]
      rfl
    · exact over_div
    · simpa using hs
  · exact sd_ret (d := .bl true) (by by_place) rfl
end
end K00

set_option Elab.async false
set_option linter.all false
set_option maxRecDepth 100000
set_option maxHeartbeats 4000000
set_option exponentiation.threshold 5000
namespace K00
open PySem PySem.Spec PyProof.Rows L2 DL R0
open M hiding tops_len
open LS hiding spRatio spRow spRowOf
local macro_rules | `(tactic| by_item) => `(tactic| with_reducible first
  | exact DL.ed_var (by with_unfolding_all rfl) | exact DL.ed_int | exact DL.ed_bl | exact DL.ed_non | exact DL.ed_str | exact DL.ea_nil | exact DL.et_yes
  | apply DL.ea_cons | apply DL.ed_op | apply DL.ed_un | apply DL.ed_lst | apply DL.ed_fld | (show L2.Cls _ _; with_reducible assumption) | (show L2.NoAttr _ _ _; with_reducible assumption) | (show List.lookup _ _ = _; with_unfolding_all rfl) | (show List.length _ ≤ PySem.sizeLine; exact Nat.le_of_ble_eq_true (by with_unfolding_all rfl)) | apply DL.ed_isi | apply DL.ed_cb
  | exact DL.od_I0 | exact DL.od_B0 | exact DL.od_eqI | exact DL.od_neI | exact DL.od_eqS | exact DL.od_isN | exact DL.od_notN | (apply DL.od_divX) | (apply DL.od_divN) | apply DL.od_I | apply DL.od_ix | exact DL.ud_I
  | apply DL.cd_len | exact DL.cd_int | exact DL.cd_intB | exact DL.cd_1 | exact DL.cd_gcd | apply DL.cd_lcmX | exact DL.cd_min3 | exact DL.cd_2
  | apply DL.et_test | apply DL.et_B | apply DL.et_not | apply DL.ed_notV
  | (show DL.tyB _ = _; with_unfolding_all rfl) | (show DL.itemsOf _ = _; with_unfolding_all rfl) | exact DL.seqD_items | (show L2.atI _ _ = _; with_reducible assumption) | (show L2.atI _ _ = _; exact L2.atI_nat (by with_reducible assumption)) | exact DL.atI_zero | exact DL.atI_one | (show L2.atI _ _ = _; with_unfolding_all rfl) | (show L2.kitB _ _ = _; first | exact DL.kb_NoneType_int | exact DL.kb_NoneType_bool | exact DL.kb_NoneType_tuple | exact DL.kb_NoneType_list | exact DL.kb_NoneType_str | exact DL.kb_NoneType_dict | exact DL.kb_bool_int | exact DL.kb_bool_bool | exact DL.kb_bool_tuple | exact DL.kb_bool_list | exact DL.kb_bool_str | exact DL.kb_bool_dict | exact DL.kb_int_int | exact DL.kb_int_bool | exact DL.kb_int_tuple | exact DL.kb_int_list | exact DL.kb_int_str | exact DL.kb_int_dict | exact DL.kb_str_int | exact DL.kb_str_bool | exact DL.kb_str_tuple | exact DL.kb_str_list | exact DL.kb_str_str | exact DL.kb_str_dict | exact DL.kb_list_int | exact DL.kb_list_bool | exact DL.kb_list_tuple | exact DL.kb_list_list | exact DL.kb_list_str | exact DL.kb_list_dict | exact DL.kb_tuple_int | exact DL.kb_tuple_bool | exact DL.kb_tuple_tuple | exact DL.kb_tuple_list | exact DL.kb_tuple_str | exact DL.kb_tuple_dict | exact DL.kb_dict_int | exact DL.kb_dict_bool | exact DL.kb_dict_tuple | exact DL.kb_dict_list | exact DL.kb_dict_str | exact DL.kb_dict_dict))
local macro_rules | `(tactic| by_place) => `(tactic| (repeat' by_item))
local macro_rules | `(tactic| by_in) => `(tactic| first | (with_reducible assumption) | (with_reducible exact DL.seqD_items) | (show (0 : Int) < _; omega) | (show (0 : Int) < _; decide +kernel) | exact M.mulS (by omega) (by omega) | exact M.mulP (by omega) (by omega) (by omega) | exact M.divS (by omega) (by omega) | exact ⟨by decide, by decide, by decide⟩ | exact ⟨by decide, by decide, by omega⟩ | exact L2.atI_nat (by assumption) | (show L2.atI _ _ = _; rfl))
def spERatio (K : PySem.W.Frag) : Sp := spR K (α := Int) (fun t => [.int t, .int 0]) (fun _ => True) (He.ga K "ZeroBottom") "top" (fun t => t)
def spEOver (K : PySem.W.Frag) : Sp := spR K (α := (Bool × Rat) × Bool) (fun a => [ratS a.1.1 a.1.2, seqD a.2 [.int 0, .int 1]]) (fun _ => True) (He.ga K "ZeroBottom") "top" (fun a => a.1.2.num)
def spLawRefused (K : PySem.W.Frag) : Sp := spT K (α := Rat × Nat) (fun a => [ratS true a.1, .int a.2]) (fun a => a.2 < 4) (fun _ => .sh (.bl true))
section
variable {P : Program} {w : World} {K : PySem.W.Frag} {mg : Str → Option Value} {base : Heap}
theorem scZeroBottom_Init : FnScope ["self", "top"] ["self", "top"] (defScope sZeroBottom_Init) := ⟨rfl, rfl, rfl, by decide +kernel, rfl, by decide +kernel, by decide +kernel⟩
theorem xmkZeroBottom (T : Txt K mg) : MakE P w K mg base "ZeroBottom" (He.ga K "ZeroBottom") "top" := by
  obtain ⟨fd, F⟩ := T.f_ZeroBottom_Init
  exact ⟨_, fd, _, T.g_ZeroBottom, T.e_ZeroBottom.o, T.ei_ZeroBottom, T.et_ZeroBottom, ok_mk F scZeroBottom_Init (fun vs H Q E ⟨a, v, e, _⟩ => by rw [e]; rfl) (fun cdv A outer s H vs Q E hr h => ⟨_, (pss_one (ps_ost (pv 0) (pv 1))), xi_walk h rfl T.e_ZeroBottom.o T.en_ZeroBottom_Top⟩), F.bindsN (fun _ _ _ _ _ _ us hl => match us, hl with | [_, _], _ => rfl)⟩
theorem okERatio (T : Txt K mg) (c : Cal P w K mg base 33 "ratio" ["top", "bottom"] (spRatio K)) (e_ZeroBottom : MakE P w K mg base "ZeroBottom" (He.ga K "ZeroBottom") "top") (N : DL.Nos P K) : CalE P w K mg base 33 "ratio" ["top", "bottom"] (spERatio K) := by
  refine calE_mk c T.f_Ratio T.g_Ratio scRatio (fun vs H Q E h => spR_len (m := 2) (fun _ => rfl) h) (fun cdv A outer s H vs Q E hr h => ?_)
  have hp := DL.py_of (outer := outer) N hr (by decide) (by decide +kernel) (by decide +kernel)
  refine ⟨_, (pss_cons (ps_if (pt_cmpR op_eq (pv 1) pe_int (nomark _))
      (pss_one (L2N.ps_raise rfl (L2N.takes_of rfl rfl rfl rfl) (DL.pmkN e_ZeroBottom (hr.mono (by decide)) (pa_cons (pv 0) pa_nil))))
      pss_nil)
      (pss_cons (ps_if (pt_cmpR op_lt (pv 1) pe_int (nomark _))
      (pss_cons (ps_set (i := 0) scRatio.nd rfl (by first | exact Or.inl rfl | exact Or.inr rfl) (pe_un un_neg (pv 0)))
      (pss_one (ps_set (i := 1) scRatio.nd rfl (by first | exact Or.inl rfl | exact Or.inr rfl) (pe_un un_neg (pv 1)))))
      pss_nil)
      (pss_cons (ps_set (i := 2) scRatio.nd rfl (by first | exact Or.inl rfl | exact Or.inr rfl) (pe_callBfun cr_gcd (by rfl) T.m_gcd (pa_cons (pv 0) (pa_cons (pv 1) pa_nil))))
      (pss_one (ps_ret (pe_tup (pa_cons (pe_op (DL.op_fdivX hp) (pv 0) (pv 2)) (pa_cons (pe_op (DL.op_fdivX hp) (pv 1) (pv 2)) pa_nil)))))))), ?_⟩
  refine rd_fn h (fun _ => Nat.le_of_ble_eq_true rfl) ?_
  intro t _
  show RD K _ _ _ _ [.sh (.int t), .sh (.int 0), .no] _
  refine rd_then (rd_if (x := true) (EvT.is (by by_place) (by rfl)) (fun _ => ?_) (fun h => by cases h))
  exact rd_raise (by by_place)
theorem okEOver (T : Txt K mg) (c : Cal P w K mg base 34 "over" ["one", "two"] (spOver K)) (c_Ratio : Cal P w K mg base 33 "ratio" ["top", "bottom"] (spRatio K)) (e_ZeroBottom : MakE P w K mg base "ZeroBottom" (He.ga K "ZeroBottom") "top") : CalE P w K mg base 34 "over" ["one", "two"] (spEOver K) := by
  refine calE_mk c T.f_Over T.g_Over scOver (fun vs H Q E h => spR_len (m := 2) (fun _ => rfl) h) (fun cdv A outer s H vs Q E hr h => ?_)
  refine ⟨_, (pss_cons (ps_if (pt_cmpR op_eq (pe_ix (DL.ix_seqC (K := K) rfl) (pv 1) pe_int (fun _ _ => rfl)) pe_int (nomark _))
      (pss_one (L2N.ps_raise rfl (L2N.takes_of rfl rfl rfl rfl) (DL.pmkN e_ZeroBottom (hr.mono (by decide)) (pa_cons (pe_ix (DL.ix_seqC (K := K) rfl) (pv 0) pe_int (fun _ _ => rfl)) pa_nil))))
      pss_nil)
      (pss_one (ps_ret (DL.pe_cal c_Ratio (hr.mono (by decide)) (pa_cons (pe_op op_mulW (pe_ix (DL.ix_seqC (K := K) rfl) (pv 0) pe_int (fun _ _ => rfl)) (pe_ix (DL.ix_seqC (K := K) rfl) (pv 1) pe_int (fun _ _ => rfl))) (pa_cons (pe_op op_mulW (pe_ix (DL.ix_seqC (K := K) rfl) (pv 0) pe_int (fun _ _ => rfl)) (pe_ix (DL.ix_seqC (K := K) rfl) (pv 1) pe_int (fun _ _ => rfl))) pa_nil)))))), ?_⟩
  refine rd_fn h (fun _ => Nat.le_of_ble_eq_true rfl) ?_
  intro ⟨⟨k, q⟩, j⟩ _
  show RD K _ _ _ _ [.sh (seqD k [.int q.num, .int ((q.den : Nat) : Int)]), .sh (seqD j [.int 0, .int 1])] _
  refine rd_then (rd_if (x := true) (EvT.is (by by_place <;> by_in) (by rfl)) (fun _ => ?_) (fun h => by cases h))
  show RD K _ _ _ _ [.sh (seqD k [.int q.num, .int ((q.den : Nat) : Int)]), .sh (seqD j [.int 0, .int 1])] _
  exact rd_raise (n := q.num) (by by_place <;> by_in)
theorem okHLawWhole (T : Txt K mg) : CalH P w K mg base 1 "_law_whole" ["value"] (spLawWhole K) := by
  refine calH_mk T.f_LawWhole T.g_LawWhole scLawWhole (fun vs H Q E h => spT_len (n := 1) (fun _ => rfl) h) (fun _ _ _ _ _ _ us hl => match us, hl with | [_], _ => rfl) (fun cdv A outer s H vs Q E p h => ?_)
  refine ⟨_, (pss_one (ps_ret (pe_and (pe_callB (DL.call_isiC (K := K) rfl) (by rfl) T.b_isinstance (by decide +kernel) (pa_cons (pv 0) (pa_cons (pe_bltn (v := .ty "int") (by rfl) T.b_int (by decide +kernel) rfl) pa_nil))) (pe_one (pe_not (pe_callB (DL.call_isiC (K := K) rfl) (by rfl) T.b_isinstance (by decide +kernel) (pa_cons (pv 0) (pa_cons (pe_bltn (v := .ty "bool") (by rfl) T.b_bool (by decide +kernel) rfl) pa_nil)))))))), ?_⟩
  refine sd_fn h (fun _ => Nat.le_of_ble_eq_true rfl) ?_
  intro i _
  show SD K _ [.sh (.int i)] _
  refine sd_retF (d := .bl true) (EvD.is (ed_andV (x := true) (y := true) ?_ fun _ => ?_) rfl) rfl rfl
  · by_place
  · refine EvD.is (ed_notV (x := false) ?_) rfl
    by_place
theorem scLawRefused : FnScope ["item", "way", "error"] ["item", "way"] (defScope sLawRefused) := ⟨rfl, rfl, rfl, by decide +kernel, rfl, by decide +kernel, by decide +kernel⟩
theorem okLawRefused (T : Txt K mg) (e_Over : CalE P w K mg base 34 "over" ["one", "two"] (spEOver K)) (e_Ratio : CalE P w K mg base 33 "ratio" ["top", "bottom"] (spERatio K)) (e_Over_two_one : CalKE P w K mg base 34 "over" ["one", "two"] ["two", "one"] (spEOver K) gv_Over_two_one) (e_Ratio_bottom_top : CalKE P w K mg base 33 "ratio" ["top", "bottom"] ["bottom", "top"] (spERatio K) gv_Ratio_bottom_top) (h_LawWhole : CalH P w K mg base 1 "_law_whole" ["value"] (spLawWhole K)) : Cal P w K mg base 35 "_law_refused" ["item", "way"] (spLawRefused K) := by
  refine cal_mk T.f_LawRefused T.g_LawRefused scLawRefused (fun vs H Q E h => spT_len (n := 2) (fun _ => rfl) h) (fun _ _ _ _ _ _ us hl => match us, hl with | [_, _], _ => rfl) (fun cdv A outer s H vs Q E hr h => ?_)
  refine ⟨_, (pss_cons (L2N.ps_try_as (i := 2) rfl rfl scLawRefused.nd rfl rfl ⟨rfl, by decide, .inl T.g_MarksError⟩ DL.takesN0
      (fun W pn xe tk _ => (pss_one (ps_if (pt_cmpR op_eq (pv 1) pe_int (nomark _))
      (pss_one (ps_expr (DL.pe_calKE e_Over_two_one tk (hr.mono (by decide)) (pk_cons (pe_lst (pa_cons pe_int (pa_cons pe_int pa_nil))) (pk_cons (pv 0) pk_nil)))))
      (pss_one (ps_if (pt_cmpR op_eq (pv 1) pe_int (nomark _))
      (pss_one (ps_expr (DL.pe_calE e_Over tk (hr.mono (by decide)) (pa_cons (pv 0) (pa_cons (pe_tup (pa_cons pe_int (pa_cons pe_int pa_nil))) pa_nil)))))
      (pss_one (ps_if (pt_cmpR op_eq (pv 1) pe_int (nomark _))
      (pss_one (ps_expr (DL.pe_calKE e_Ratio_bottom_top tk (hr.mono (by decide)) (pk_cons pe_int (pk_cons (pe_ix (DL.ix_seqC (K := K) rfl) (pv 0) pe_int (fun _ _ => rfl)) pk_nil)))))
      (pss_one (ps_expr (DL.pe_calE e_Ratio tk (hr.mono (by decide)) (pa_cons (pe_ix (DL.ix_seqC (K := K) rfl) (pv 0) pe_int (fun _ _ => rfl)) (pa_cons pe_int pa_nil))))))))))))
      (fun a oe cls d pn hz hf => (pss_cons (ps_if (PW.pt (pw_or (pt_not (pt_val (pe_callB (DL.call_isY T.e_ZeroBottom T.hn T.ht hz.zc hf) (by rfl) T.b_isinstance (by decide +kernel) (pa_cons (pv 2) (pa_cons (pe_glob (v := .ref (He.ga K "ZeroBottom")) (by rfl) T.g_ZeroBottom rfl) pa_nil))))) (pw_or1 (pt_val (pe_callB (DL.call_isY T.e_ZeroBottom T.hn T.ht hz.zc hf) (by rfl) T.b_isinstance (by decide +kernel) (pa_cons (pv 2) (pa_cons (pe_tup (pa_cons (pe_glob (v := .ref (He.ga K "BadLimit")) (by rfl) T.g_BadLimit rfl) (pa_cons (pe_glob (v := .ref (He.ga K "BadRatio")) (by rfl) T.g_BadRatio rfl) (pa_cons (pe_glob (v := .ref (He.ga K "NoFlow")) (by rfl) T.g_NoFlow rfl) pa_nil)))) pa_nil)))))))
      (pss_one (ps_ret pe_bl))
      pss_nil)
      (pss_one (ps_ret (pe_and (DL.pe_calH h_LawWhole (hr.mono (by decide)) hz hf (pa_cons (pe_xf T.e_ZeroBottom.f T.en_ZeroBottom_Top hz.zc hf (pv 2)) pa_nil)) (pe_one (pe_cmpR op_eq (pe_xf T.e_ZeroBottom.f T.en_ZeroBottom_Top hz.zc hf (pv 2)) (pe_ix (DL.ix_seqC (K := K) rfl) (pv 0) pe_int (fun _ _ => rfl)) (nomark _)))))))))
      (pss_one (ps_ret pe_bl))), ?_⟩
  refine sd_fn h (fun _ => Nat.le_of_ble_eq_true rfl) ?_
  try dsimp only [L2.cxOf]
  intro ⟨q, way⟩ hw
  have hw : way < 4 := hw
  show SD K _ [.sh (.tup [.int q.num, .int ((q.den : Nat) : Int)]), .sh (.int way), .no] _
  have hi : EvD K (tOp (rIx K) (tVar 0) (tC (.int 0))) (shE [.sh (.tup [.int q.num, .int ((q.den : Nat) : Int)]), .sh (.int way), .no]) (.int q.num) := by by_place <;> by_in
  refine sd_then (fun HE HE1 H H1 σ E ss nn b cc r => ?_)
  show (tIfS _ _ _) E σ H1
  apply XF.go (C := He.ga K "ZeroBottom") (fn := "top") (n := q.num) ss
  · apply xf_if (x := decide ((way : Int) = 0))
    · by_place
    · intro _
      exact xf_callK (bs := [.lst [.int 0, .int 1], ratS true q]) ((true, q), false) (ea_cons (by by_place <;> by_in) (ea_cons (a := ratS true q) (ed_var (by with_unfolding_all rfl)) ea_nil)) rfl (fun H zs r => gvTurn gv_Over_two_one (fun _ _ => rfl) H zs r) trivial rfl
    intro _
    apply xf_if (x := decide ((way : Int) = 1))
    · by_place
    · intro _
      exact xf_call ((true, q), true) (ea_cons (a := ratS true q) (ed_var (by with_unfolding_all rfl)) (ea_cons (a := seqD true [.int 0, .int 1]) (ed_tup (as := [.int 0, .int 1]) (by by_place) (Nat.le_of_ble_eq_true rfl)) ea_nil)) trivial rfl
    intro _
    apply xf_if (x := decide ((way : Int) = 2))
    · by_place
    · intro _
      exact xf_callK (bs := [.int 0, .int q.num]) q.num (by by_place <;> by_in) rfl (fun H zs r => gvTurn gv_Ratio_bottom_top (fun _ _ => rfl) H zs r) trivial rfl
    intro _
    exact xf_call q.num (by by_place <;> by_in) trivial rfl
  · refine was_ok (i := 2) ss r rfl T.ec_ZeroBottom_MarksError ?_ rfl
    intro a dd H H1 σ D' er e hd ha hq
    refine ⟨.ref a, ha, rfl, dd, rfl, ⟨_, hd⟩, .inl ⟨_, true, rfl, T.ek_ZeroBottom_ZeroBottom, true, rfl, ?_⟩⟩
    show (if (false : Bool) = true then _ else _)
    rw [if_neg Bool.false_ne_true]
    show (tB _) σ H1 _
    refine ⟨.ref a, ha, Nat.le_of_ble_eq_true rfl, fun p hp => ?_⟩
    have e2 : Ex H1 (upd H1 p (.tup [.ref (He.ga K "BadLimit"), .ref (He.ga K "BadRatio"), .ref (He.ga K "NoFlow")])) := (Ex.refl H1).mut hp
    have hd2 := e2 _ _ hd
    refine ⟨rfl, dd, rfl, ⟨_, hd2⟩, .inr ⟨p, [He.ga K "BadLimit", He.ga K "BadRatio", He.ga K "NoFlow"], false, rfl, upd_same, ?_, false, rfl, ?_⟩⟩
    · show PySem.W.kitAny K _ [_, _, _] = _
      unfold PySem.W.kitAny
      rw [T.ek_ZeroBottom_BadLimit]
      unfold PySem.W.kitAny
      rw [T.ek_ZeroBottom_BadRatio]
      unfold PySem.W.kitAny
      rw [T.ek_ZeroBottom_NoFlow]
      rfl
    generalize upd H1 p (.tup [.ref (He.ga K "BadLimit"), .ref (He.ga K "BadRatio"), .ref (He.ga K "NoFlow")]) = H2 at e2 hd2
    show (if (false : Bool) = true then _ else _)
    rw [if_neg Bool.false_ne_true]
    unfold tNext tRet
    dsimp only
    unfold tAndV
    refine ⟨.ref a, ha, rfl, rfl, dd, _, .int q.num, rfl, hd2, rfl, ?_⟩
    refine ⟨H2, q.num, Ex.refl _, .cons (.int _) .nil, trivial, fun v H4 o => ?_⟩
    obtain ⟨Hm, g, rv⟩ := o
    cases rv
    have hd4 := g.all _ _ hd2
    refine ⟨true, rfl, ?_⟩
    show (if (true : Bool) = true then _ else _)
    rw [if_pos rfl]
    show (tOp rEq _ _) σ H4 _
    refine ⟨.ref a, ha, rfl, rfl, dd, _, .int q.num, rfl, hd4, rfl, ?_⟩
    refine hi H σ H4 er ((e.trans e2).trans g.all) _ fun v Hn H5 g2 rv => ?_
    cases rv
    refine ⟨rfl, ?_⟩
    rw [decide_eq_true rfl]
    exact hq H5 ((e2.trans g.all).trans g2.all)
end
end K00

set_option Elab.async false
set_option linter.all false
set_option maxRecDepth 100000
set_option maxHeartbeats 4000000
set_option exponentiation.threshold 5000
namespace R0
open PySem PySem.Spec PyProof.Rows L2 DL
open M hiding tops_len
open LS hiding spRatio spRow spRowOf
/-! the plan of a run, plainly -/
def hdS : List Int := [8, 100, 8, 8, 8, 8, 2, 2, 8, 8, 100, 100]
def hdM (ns : List Int) : List Int := digitsM (cellM ns 0) hdS
def hd (ns : List Int) (i : Nat) : Int := (hdM ns).getD i 0
theorem hdM_len (ns : List Int) : (hdM ns).length = 12 := digitsM_len _ _
theorem hd_get {ns : List Int} {i : Nat} (h : i < 12) : (hdM ns)[i]? = some (hd ns i) := get_getD 0 (by rw [hdM_len]; exact h)
theorem hd_lt (ns : List Int) {i : Nat} {s : Int} (h : hdS[i]? = some s) : 0 ≤ hd ns i ∧ hd ns i < s :=
  digitsM_lt (cellM ns 0) hdS i s (hd ns i) (by decide) h (hd_get (List.getElem?_eq_some_iff.mp h).1)
def manyL (ns : List Int) : List Int := [4, 3, 5, 2, 7, 1, 6, 1 + hd ns 1]
def manyN (ns : List Int) : Nat := ((manyL ns).getD (hd ns 0).toNat 0).toNat
theorem many_bd (ns : List Int) : (manyL ns).getD (hd ns 0).toNat 0 = (manyN ns : Int) ∧ 1 ≤ manyN ns ∧ manyN ns ≤ 100 := by
  have h0 := hd_lt ns (i := 0) rfl
  have h1 := hd_lt ns (i := 1) rfl
  have hm := M.getD_mem (l := manyL ns) (i := (hd ns 0).toNat) 0 (by show _ < 8; omega)
  have b : ∀ x ∈ manyL ns, 1 ≤ x ∧ x ≤ 100 := by
    intro x hx
    unfold manyL at hx
    simp only [List.mem_cons, List.not_mem_nil, or_false] at hx
    omega
  have := b _ hm
  unfold manyN
  omega
def szL (ns : List Int) : List Int := if hd ns 2 = 7 then [0, 1, 4, 4, 4, 5, 6, 4] else [0, 1, 2, 3, 0, 5, 6, 7]
def sz (ns : List Int) (i : Nat) : Nat := ((szL ns).getD (hd ns i).toNat 0).toNat
theorem szL_len (ns : List Int) : (szL ns).length = 8 := by unfold szL; split <;> rfl
theorem sz_bd (ns : List Int) {i : Nat} (h : hdS[i]? = some 8) : (szL ns).getD (hd ns i).toNat 0 = (sz ns i : Int) ∧ sz ns i < 8 := by
  have h0 := hd_lt ns h
  have hm := M.getD_mem (l := szL ns) (i := (hd ns i).toNat) 0 (by rw [szL_len]; omega)
  have b : ∀ x ∈ szL ns, 0 ≤ x ∧ x < 8 := by
    unfold szL
    split <;> decide
  have := b _ hm
  unfold sz
  omega
def nzI (x : Int) : Int := x + (if decide (x = 0) = true then 1 else 0)
theorem nzI_ne (x : Int) : nzI x ≠ 0 := by
  unfold nzI
  by_cases h : x = 0
  · rw [h]; decide
  · rw [if_neg (by simpa using h)]; omega
theorem nzI_sm {x : Int} {B : Nat} (h : Sm B x) : Sm (B + 1) (nzI x) := by
  unfold nzI
  by_cases h0 : x = 0
  · rw [h0]
    exact Nat.one_lt_two_pow (by omega)
  · rw [if_neg (by simpa using h0), Int.add_zero]
    exact h.mono (by omega)
def lines0 (ns : List Int) : List Int := numbersM (cellM ns 1) 2 (sz ns 3) false
def linesM (ns : List Int) : List Int := (lines0 ns).map nzI
theorem lines_len (ns : List Int) : (linesM ns).length = 2 := (List.length_map _).trans (numbersM_len _ _ _ _)
theorem lines_ok (ns : List Int) {x : Int} (h : x ∈ linesM ns) : x ≠ 0 ∧ Sm 1331 x := by
  obtain ⟨y, hy, rfl⟩ := List.mem_map.mp h
  exact ⟨nzI_ne y, nzI_sm (numbersM_sm (sz_bd ns (i := 3) rfl).2 y hy)⟩
def oneN (ns : List Int) : List Int × Int := (numbersM (cellM ns 2) (manyN ns) (sz ns 4) (decide (hd ns 6 = 1)), (linesM ns).getD 0 0)
def numsN (ns : List Int) : List Int := numbersM (cellM ns 3) (manyN ns) (sz ns 5) (decide (hd ns 7 = 1))
def twoN (ns : List Int) : List Int × Int := secondM (hd ns 8) (oneN ns).1 (oneN ns).2 (numsN ns) ((linesM ns).getD 1 0)
theorem one_rw (ns : List Int) : Rw (manyN ns) 1400 (oneN ns) := by
  have l := lines_ok ns (M.getD_mem (l := linesM ns) (i := 0) 0 (by rw [lines_len]; decide))
  exact ⟨numbersM_len _ _ _ _, l.1, fun n hn => (numbersM_sm (sz_bd ns (i := 4) rfl).2 n hn).mono (by decide), l.2.mono (by decide)⟩
theorem two_rw (ns : List Int) : Rw (manyN ns) 1400 (twoN ns) := by
  have l1 := lines_ok ns (M.getD_mem (l := linesM ns) (i := 1) 0 (by rw [lines_len]; decide))
  have o := one_rw ns
  have n : ∀ x ∈ numsN ns, Sm 1400 x := fun n hn => (numbersM_sm (sz_bd ns (i := 5) rfl).2 n hn).mono (by decide)
  have nl : (numsN ns).length = manyN ns := numbersM_len _ _ _ _
  have s1 : Sm 1400 ((linesM ns).getD 1 0) := l1.2.mono (by decide)
  unfold twoN secondM
  split
  · exact o
  split
  · exact ⟨(List.length_map _).trans o.len, o.nz, fun x hx => by
      obtain ⟨y, hy, rfl⟩ := List.mem_map.mp hx
      exact (o.sm.1 y hy).neg, o.sm.2⟩
  split
  · exact ⟨List.length_replicate.trans o.len, l1.1, fun x hx => by rw [List.eq_of_mem_replicate hx]; exact Nat.two_pow_pos _, s1⟩
  split
  · exact ⟨o.len, l1.1, o.sm.1, s1⟩
  split
  · exact ⟨nl, o.nz, n, o.sm.2⟩
  · exact ⟨nl, l1.1, n, s1⟩
def botI (x : Int) : Int := 1 + ((x.natAbs : Nat) : Int) / 6
def botsM (ns : List Int) : List Int := (numbersM (cellM ns 4) 2 (sz ns 9) false).map botI
theorem bots_len (ns : List Int) : (botsM ns).length = 2 := (List.length_map _).trans (numbersM_len _ _ _ _)
theorem bots_ok (ns : List Int) {x : Int} (h : x ∈ botsM ns) : 0 < x ∧ Sm 1335 x := by
  obtain ⟨y, hy, rfl⟩ := List.mem_map.mp h
  have := numbersM_sm (sz_bd ns (i := 9) rfl).2 y hy
  refine ⟨by unfold botI; omega, ?_⟩
  have s2 : Sm 1330 (((y.natAbs : Nat) : Int) / 6) := Nat.lt_of_le_of_lt (Int.natAbs_ediv_le_natAbs _ _) (by rw [Int.natAbs_natCast]; exact this)
  unfold botI
  exact ((show Sm 1330 1 by unfold Sm; exact Nat.one_lt_two_pow (by decide)).add s2).mono (by decide)
def kindsM (ns : List Int) : List Int := digitsM (cellM ns 5) (List.replicate 48 8)
def nums3 (ns : List Int) : List Int := numbersM (cellM ns 6) (manyN ns) (sz ns 3) false
theorem nums3_len (ns : List Int) : (nums3 ns).length = manyN ns := numbersM_len _ _ _ _
theorem th_ok (ns : List Int) : ThOk (nums3 ns) ((botsM ns).getD 0 0) ((botsM ns).getD 1 0) (kindsM ns) := by
  have b0 := bots_ok ns (M.getD_mem (l := botsM ns) (i := 0) 0 (by rw [bots_len]; decide))
  have b1 := bots_ok ns (M.getD_mem (l := botsM ns) (i := 1) 0 (by rw [bots_len]; decide))
  exact ⟨by rw [nums3_len]; have := many_bd ns; omega, (digitsM_len _ _).trans List.length_replicate, digitsM_rep _ 8 48 (by decide), b0.1, b1.1, b0.2, b1.2, fun x hx => (numbersM_sm (sz_bd ns (i := 3) rfl).2 x hx).mono (by decide)⟩
def partsM (ns : List Int) : List Int := numbersM (cellM ns 7) 2 (sz ns 5) false
theorem parts_len (ns : List Int) : (partsM ns).length = 2 := numbersM_len _ _ _ _
def p0N (ns : List Int) : Int := (partsM ns).getD 0 0 * (if decide (hd ns 9 > 0) = true then 1 else 0)
def p1N (ns : List Int) : Int := nzI ((partsM ns).getD 1 0)
def trN (ns : List Int) : Tr := ⟨manyN ns, oneN ns, twoN ns, thirdR (nums3 ns) ((botsM ns).getD 0 0) ((botsM ns).getD 1 0) (kindsM ns), p0N ns, p1N ns⟩
theorem p0_sm (ns : List Int) : Sm 1400 (p0N ns) := by
  have h := numbersM_sm (sz_bd ns (i := 5) rfl).2 _ (M.getD_mem (l := partsM ns) (i := 0) 0 (by rw [parts_len]; decide))
  unfold p0N
  split
  · rw [Int.mul_one]; exact h.mono (by decide)
  · rw [Int.mul_zero]; exact Nat.two_pow_pos _
theorem p1_sm (ns : List Int) : Sm 1400 (p1N ns) :=
  (nzI_sm (numbersM_sm (sz_bd ns (i := 5) rfl).2 _ (M.getD_mem (l := partsM ns) (i := 1) 0 (by rw [parts_len]; decide)))).mono (by decide)
theorem tr_ok (ns : List Int) : (trN ns).ok := by
  have c := (th_ok ns).rw
  rw [nums3_len] at c
  exact ⟨by have := many_bd ns; show manyN ns ≤ 200; omega, one_rw ns, two_rw ns, c, p0_sm ns, p1_sm ns, nzI_ne _⟩
def placeN (ns : List Int) (i : Nat) : Nat := (hd ns i % (manyN ns : Int)).toNat
theorem place_ok (ns : List Int) (i : Nat) : hd ns i % (manyN ns : Int) = (placeN ns i : Int) ∧ placeN ns i < manyN ns := by
  have := many_bd ns
  have h1 := Int.emod_nonneg (hd ns i) (show (manyN ns : Int) ≠ 0 by omega)
  have h2 := Int.emod_lt_of_pos (hd ns i) (show 0 < (manyN ns : Int) by omega)
  unfold placeN
  omega
def placesN (ns : List Int) : List Int := if decide ((manyN ns : Int) > 7) = true then [0, (manyN ns : Int) - 1, placeN ns 10, placeN ns 11, (manyN ns : Int) / 2, (manyN ns : Int) / 3] else (List.range (manyN ns)).map fun i => ((i : Nat) : Int)
theorem places_ok (ns : List Int) : ∀ k ∈ placesN ns, 0 ≤ k ∧ k < (manyN ns : Int) := by
  have m := many_bd ns
  have p1 := place_ok ns 10
  have p2 := place_ok ns 11
  intro k hk
  unfold placesN at hk
  split at hk
  · simp only [List.mem_cons, List.not_mem_nil, or_false] at hk
    omega
  · obtain ⟨i, hi, rfl⟩ := List.mem_map.mp hk
    have := List.mem_range.mp hi
    omega
def spLaw (K : PySem.W.Frag) : Sp := spT K (α := List Int) (fun a => [.rd (dI a)]) (fun _ => True) (fun _ => .sh (.bl true))
theorem lawOk (_ : List Int) : True := trivial
end R0


set_option Elab.async false
set_option linter.all false
set_option pp.maxSteps 400
set_option maxRecDepth 100000
set_option maxHeartbeats 4000000
set_option exponentiation.threshold 5000
namespace K00
open PySem PySem.Spec PyProof.Rows L2 DL R0
open M hiding tops_len
open LS hiding spRatio spRow spRowOf spLaw
local macro_rules | `(tactic| by_item) => `(tactic| with_reducible first
  | exact DL.ed_var (by with_unfolding_all rfl) | exact DL.ed_int | exact DL.ed_bl | exact DL.ed_non | exact DL.ed_str | exact DL.ea_nil | exact DL.et_yes
  | apply DL.ea_cons | apply DL.ed_op | apply DL.ed_un | apply DL.ed_lst | apply DL.ed_fld | (show L2.Cls _ _; with_reducible assumption) | (show L2.NoAttr _ _ _; with_reducible assumption) | (show List.lookup _ _ = _; with_unfolding_all rfl) | (show List.length _ ≤ PySem.sizeLine; exact Nat.le_of_ble_eq_true (by with_unfolding_all rfl)) | apply DL.ed_isi | apply DL.ed_cb
  | exact DL.od_I0 | exact DL.od_B0 | exact DL.od_eqI | exact DL.od_neI | exact DL.od_eqS | exact DL.od_isN | exact DL.od_notN | (apply DL.od_divX) | (apply DL.od_divN) | apply DL.od_I | apply DL.od_ix | exact DL.ud_I
  | apply DL.cd_len | exact DL.cd_int | exact DL.cd_intB | exact DL.cd_1 | exact DL.cd_gcd | apply DL.cd_lcmX | exact DL.cd_min3 | exact DL.cd_2
  | apply DL.et_test | apply DL.et_B | apply DL.et_not | apply DL.ed_notV
  | (show DL.tyB _ = _; with_unfolding_all rfl) | (show DL.itemsOf _ = _; with_unfolding_all rfl) | exact DL.seqD_items | (show L2.atI _ _ = _; with_reducible assumption) | (show L2.atI _ _ = _; exact L2.atI_nat (by with_reducible assumption)) | exact DL.atI_zero | exact DL.atI_one | (show L2.atI _ _ = _; with_unfolding_all rfl) | (show L2.kitB _ _ = _; first | exact DL.kb_NoneType_int | exact DL.kb_NoneType_bool | exact DL.kb_NoneType_tuple | exact DL.kb_NoneType_list | exact DL.kb_NoneType_str | exact DL.kb_NoneType_dict | exact DL.kb_bool_int | exact DL.kb_bool_bool | exact DL.kb_bool_tuple | exact DL.kb_bool_list | exact DL.kb_bool_str | exact DL.kb_bool_dict | exact DL.kb_int_int | exact DL.kb_int_bool | exact DL.kb_int_tuple | exact DL.kb_int_list | exact DL.kb_int_str | exact DL.kb_int_dict | exact DL.kb_str_int | exact DL.kb_str_bool | exact DL.kb_str_tuple | exact DL.kb_str_list | exact DL.kb_str_str | exact DL.kb_str_dict | exact DL.kb_list_int | exact DL.kb_list_bool | exact DL.kb_list_tuple | exact DL.kb_list_list | exact DL.kb_list_str | exact DL.kb_list_dict | exact DL.kb_tuple_int | exact DL.kb_tuple_bool | exact DL.kb_tuple_tuple | exact DL.kb_tuple_list | exact DL.kb_tuple_str | exact DL.kb_tuple_dict | exact DL.kb_dict_int | exact DL.kb_dict_bool | exact DL.kb_dict_tuple | exact DL.kb_dict_list | exact DL.kb_dict_str | exact DL.kb_dict_dict))
local macro_rules | `(tactic| by_place) => `(tactic| (repeat' by_item))
local macro_rules | `(tactic| by_in) => `(tactic| first | (with_reducible assumption) | (with_reducible exact DL.seqD_items) | (show (0 : Int) < _; omega) | (show (0 : Int) < _; decide +kernel) | exact M.mulS (by omega) (by omega) | exact M.mulP (by omega) (by omega) (by omega) | exact M.divS (by omega) (by omega) | exact ⟨by decide, by decide, by decide⟩ | exact ⟨by decide, by decide, by omega⟩ | exact L2.atI_nat (by assumption) | (show L2.atI _ _ = _; rfl))
section
variable {P : Program} {w : World} {K : PySem.W.Frag} {mg : Str → Option Value} {base : Heap}
theorem scLaw : FnScope ["script", "head", "many", "sizes", "place", "lines", "number", "one", "numbers", "two", "bottoms", "kinds", "third", "parts", "part", "factor", "told", "own", "k", "places", "item", "way", "product"] ["script"] (defScope sLaw) := ⟨rfl, rfl, rfl, by decide +kernel, rfl, by decide +kernel, by decide +kernel⟩
theorem okLaw (T : Txt K mg) (c_LawDigits : Cal P w K mg base 1 "_law_digits" ["cell", "sizes"] (spLawDigits K)) (c_LawCell : Cal P w K mg base 1 "_law_cell" ["script", "k"] (spLawCell K)) (c_LawNumbers : Cal P w K mg base 3 "_law_numbers" ["cell", "many", "size", "common"] (spLawNumbers K)) (c_LawSecond : Cal P w K mg base 1 "_law_second" ["kind", "one", "numbers", "line"] (spLawSecond K)) (c_LawThird : Cal P w K mg base 35 "_law_third" ["numbers", "bottoms", "row_of_kinds"] (spLawThird K)) (c_Ratio : Cal P w K mg base 33 "ratio" ["top", "bottom"] (spRatio K)) (c_LawJust : Cal P w K mg base 3 "_law_just" ["value", "top", "bottom"] (spLawJust K)) (c_LawMade : Cal P w K mg base 34 "_law_made" ["own", "place"] (spLawMade K)) (c_LawItems : Cal P w K mg base 35 "_law_items" ["told", "own"] (spLawItems K)) (c_LawLinear : Cal P w K mg base 36 "_law_linear" ["told", "own", "share", "part"] (spLawLinear K)) (c_LawOneByOne : Cal P w K mg base 35 "_law_one_by_one" ["told", "own", "share", "part", "places"] (spLawOneByOne K)) (c_LawRatio : Cal P w K mg base 33 "_law_ratio" ["top", "bottom"] (spLawRatio K)) (c_LawRefused : Cal P w K mg base 35 "_law_refused" ["item", "way"] (spLawRefused K)) (c_LawNeighbours : Cal P w K mg base 35 "_law_neighbours" ["item"] (spLawNeighbours K)) (c_LawSame : Cal P w K mg base 4 "_law_same" ["value", "own"] (spLawSame K)) (c_Row : Cal P w K mg base 33 "row" ["tops", "line"] (spRow K)) (c_LawDotted : Cal P w K mg base 1 "_law_dotted" ["one", "two"] (spLawDotted K)) (c_Dot : Cal P w K mg base 34 "dot" ["one", "two"] (spDot K)) (c_Row_tops_line : CalK P w K mg base 33 "row" ["tops", "line"] ["tops", "line"] (spRow K) gv_Row_tops_line) : Cal P w K mg base 37 "law" ["script"] (spLaw K) := by
  refine cal_mk T.f_Law T.g_Law scLaw (fun vs H Q E h => spT_len (n := 1) (fun _ => rfl) h) (fun _ _ _ _ _ _ us hl => match us, hl with | [_], _ => rfl) (fun cdv A outer s H vs Q E hr h => ?_)
  refine ⟨_, (pss_cons (ps_set (i := 1) scLaw.nd rfl (by first | exact Or.inl rfl | exact Or.inr rfl) (DL.pe_cal c_LawDigits (hr.mono (by decide)) (pa_cons (DL.pe_cal c_LawCell (hr.mono (by decide)) (pa_cons (pv 0) (pa_cons pe_int pa_nil))) (pa_cons (pe_lst (pa_cons pe_int (pa_cons pe_int (pa_cons pe_int (pa_cons pe_int (pa_cons pe_int (pa_cons pe_int (pa_cons pe_int (pa_cons pe_int (pa_cons pe_int (pa_cons pe_int (pa_cons pe_int (pa_cons pe_int pa_nil))))))))))))) pa_nil))))
      (pss_cons (ps_set (i := 2) scLaw.nd rfl (by first | exact Or.inl rfl | exact Or.inr rfl) (pe_ix (DL.ix_seqC (K := K) rfl) (pe_lst (pa_cons pe_int (pa_cons pe_int (pa_cons pe_int (pa_cons pe_int (pa_cons pe_int (pa_cons pe_int (pa_cons pe_int (pa_cons (pe_op op_add pe_int (pe_ix (DL.ix_seqC (K := K) rfl) (pv 1) pe_int (fun _ _ => rfl))) pa_nil))))))))) (pe_ix (DL.ix_seqC (K := K) rfl) (pv 1) pe_int (fun _ _ => rfl)) (fun _ _ => rfl)))
      (pss_cons (ps_set (i := 3) scLaw.nd rfl (by first | exact Or.inl rfl | exact Or.inr rfl) (pe_ix (DL.ix_seqC (K := K) rfl) (pe_lst (pa_cons (pe_lst (pa_cons pe_int (pa_cons pe_int (pa_cons pe_int (pa_cons pe_int (pa_cons pe_int (pa_cons pe_int (pa_cons pe_int (pa_cons pe_int pa_nil))))))))) (pa_cons (pe_lst (pa_cons pe_int (pa_cons pe_int (pa_cons pe_int (pa_cons pe_int (pa_cons pe_int (pa_cons pe_int (pa_cons pe_int (pa_cons pe_int pa_nil))))))))) pa_nil))) (pe_callTy call_int1 (by rfl) T.b_int (by decide +kernel) (pa_cons (pe_cmpR op_eq (pe_ix (DL.ix_seqC (K := K) rfl) (pv 1) pe_int (fun _ _ => rfl)) pe_int (nomark _)) pa_nil)) (fun _ _ => rfl)))
      (pss_cons (ps_set (i := 4) scLaw.nd rfl (by first | exact Or.inl rfl | exact Or.inr rfl) (pe_op op_mod (pe_callTy call_int1 (by rfl) T.b_int (by decide +kernel) (pa_cons (pe_ix (DL.ix_seqC (K := K) rfl) (pv 1) pe_int (fun _ _ => rfl)) pa_nil)) (pv 2)))
      (pss_cons (ps_setLc (i := 5) (own := [("number", 6)]) (g := gName 6) (by rfl) scLaw.nd rfl rfl (sw_true rfl rfl rfl (by decide +kernel)) (DL.pi_listC (K := K) rfl (DL.pe_cal c_LawNumbers (hr.mono (by decide)) (pa_cons (DL.pe_cal c_LawCell (hr.mono (by decide)) (pa_cons (pv 0) (pa_cons pe_int pa_nil))) (pa_cons pe_int (pa_cons (pe_ix (DL.ix_seqC (K := K) rfl) (pv 3) (pe_ix (DL.ix_seqC (K := K) rfl) (pv 1) pe_int (fun _ _ => rfl)) (fun _ _ => rfl)) (pa_cons pe_bl pa_nil)))))) (blkOk_by (own := [("number", 6)]) (by kernel_rfl)) (fun _ _ _ _ _ => (pg_name (i := 6) scLaw.nd rfl (by first | exact Or.inl rfl | exact Or.inr rfl))) (fun _ _ _ _ _ => pts_nil) (fun _ _ _ _ _ => (pe_op op_add (pv 6) (pe_callTy call_int1 (by rfl) T.b_int (by decide +kernel) (pa_cons (pe_cmpR op_eq (pv 6) pe_int (nomark _)) pa_nil)))))
      (pss_cons (ps_set (i := 7) scLaw.nd rfl (by first | exact Or.inl rfl | exact Or.inr rfl) (pe_lst (pa_cons (DL.pe_cal c_LawNumbers (hr.mono (by decide)) (pa_cons (DL.pe_cal c_LawCell (hr.mono (by decide)) (pa_cons (pv 0) (pa_cons pe_int pa_nil))) (pa_cons (pv 2) (pa_cons (pe_ix (DL.ix_seqC (K := K) rfl) (pv 3) (pe_ix (DL.ix_seqC (K := K) rfl) (pv 1) pe_int (fun _ _ => rfl)) (fun _ _ => rfl)) (pa_cons (pe_cmpR op_eq (pe_ix (DL.ix_seqC (K := K) rfl) (pv 1) pe_int (fun _ _ => rfl)) pe_int (nomark _)) pa_nil))))) (pa_cons (pe_ix (DL.ix_seqC (K := K) rfl) (pv 5) pe_int (fun _ _ => rfl)) pa_nil))))
      (pss_cons (ps_set (i := 8) scLaw.nd rfl (by first | exact Or.inl rfl | exact Or.inr rfl) (DL.pe_cal c_LawNumbers (hr.mono (by decide)) (pa_cons (DL.pe_cal c_LawCell (hr.mono (by decide)) (pa_cons (pv 0) (pa_cons pe_int pa_nil))) (pa_cons (pv 2) (pa_cons (pe_ix (DL.ix_seqC (K := K) rfl) (pv 3) (pe_ix (DL.ix_seqC (K := K) rfl) (pv 1) pe_int (fun _ _ => rfl)) (fun _ _ => rfl)) (pa_cons (pe_cmpR op_eq (pe_ix (DL.ix_seqC (K := K) rfl) (pv 1) pe_int (fun _ _ => rfl)) pe_int (nomark _)) pa_nil))))))
      (pss_cons (ps_set (i := 9) scLaw.nd rfl (by first | exact Or.inl rfl | exact Or.inr rfl) (DL.pe_cal c_LawSecond (hr.mono (by decide)) (pa_cons (pe_ix (DL.ix_seqC (K := K) rfl) (pv 1) pe_int (fun _ _ => rfl)) (pa_cons (pv 7) (pa_cons (pv 8) (pa_cons (pe_ix (DL.ix_seqC (K := K) rfl) (pv 5) pe_int (fun _ _ => rfl)) pa_nil))))))
      (pss_cons (ps_setLc (i := 10) (own := [("number", 6)]) (g := gName 6) (by rfl) scLaw.nd rfl rfl (sw_true rfl rfl rfl (by decide +kernel)) (DL.pi_listC (K := K) rfl (DL.pe_cal c_LawNumbers (hr.mono (by decide)) (pa_cons (DL.pe_cal c_LawCell (hr.mono (by decide)) (pa_cons (pv 0) (pa_cons pe_int pa_nil))) (pa_cons pe_int (pa_cons (pe_ix (DL.ix_seqC (K := K) rfl) (pv 3) (pe_ix (DL.ix_seqC (K := K) rfl) (pv 1) pe_int (fun _ _ => rfl)) (fun _ _ => rfl)) (pa_cons pe_bl pa_nil)))))) (blkOk_by (own := [("number", 6)]) (by kernel_rfl)) (fun _ _ _ _ _ => (pg_name (i := 6) scLaw.nd rfl (by first | exact Or.inl rfl | exact Or.inr rfl))) (fun _ _ _ _ _ => pts_nil) (fun _ _ _ _ _ => (pe_op op_add pe_int (pe_op op_fdivW (pe_callB call_abs (by rfl) T.b_abs (by decide +kernel) (pa_cons (pv 6) pa_nil)) pe_int))))
      (pss_cons (ps_set (i := 11) scLaw.nd rfl (by first | exact Or.inl rfl | exact Or.inr rfl) (DL.pe_cal c_LawDigits (hr.mono (by decide)) (pa_cons (DL.pe_cal c_LawCell (hr.mono (by decide)) (pa_cons (pv 0) (pa_cons pe_int pa_nil))) (pa_cons (pe_op op_rep (pe_lst (pa_cons pe_int pa_nil)) pe_int) pa_nil))))
      (pss_cons (ps_set (i := 12) scLaw.nd rfl (by first | exact Or.inl rfl | exact Or.inr rfl) (DL.pe_cal c_LawThird (hr.mono (by decide)) (pa_cons (DL.pe_cal c_LawNumbers (hr.mono (by decide)) (pa_cons (DL.pe_cal c_LawCell (hr.mono (by decide)) (pa_cons (pv 0) (pa_cons pe_int pa_nil))) (pa_cons (pv 2) (pa_cons (pe_ix (DL.ix_seqC (K := K) rfl) (pv 3) (pe_ix (DL.ix_seqC (K := K) rfl) (pv 1) pe_int (fun _ _ => rfl)) (fun _ _ => rfl)) (pa_cons pe_bl pa_nil))))) (pa_cons (pv 10) (pa_cons (pv 11) pa_nil)))))
      (pss_cons (ps_set (i := 13) scLaw.nd rfl (by first | exact Or.inl rfl | exact Or.inr rfl) (DL.pe_cal c_LawNumbers (hr.mono (by decide)) (pa_cons (DL.pe_cal c_LawCell (hr.mono (by decide)) (pa_cons (pv 0) (pa_cons pe_int pa_nil))) (pa_cons pe_int (pa_cons (pe_ix (DL.ix_seqC (K := K) rfl) (pv 3) (pe_ix (DL.ix_seqC (K := K) rfl) (pv 1) pe_int (fun _ _ => rfl)) (fun _ _ => rfl)) (pa_cons pe_bl pa_nil))))))
      (pss_cons (ps_set (i := 14) scLaw.nd rfl (by first | exact Or.inl rfl | exact Or.inr rfl) (pe_lst (pa_cons (pe_op op_mulW (pe_ix (DL.ix_seqC (K := K) rfl) (pv 13) pe_int (fun _ _ => rfl)) (pe_callTy call_int1 (by rfl) T.b_int (by decide +kernel) (pa_cons (pe_cmpR op_gt (pe_ix (DL.ix_seqC (K := K) rfl) (pv 1) pe_int (fun _ _ => rfl)) pe_int (nomark _)) pa_nil))) (pa_cons (pe_op op_add (pe_ix (DL.ix_seqC (K := K) rfl) (pv 13) pe_int (fun _ _ => rfl)) (pe_callTy call_int1 (by rfl) T.b_int (by decide +kernel) (pa_cons (pe_cmpR op_eq (pe_ix (DL.ix_seqC (K := K) rfl) (pv 13) pe_int (fun _ _ => rfl)) pe_int (nomark _)) pa_nil))) pa_nil))))
      (pss_cons (ps_set (i := 15) scLaw.nd rfl (by first | exact Or.inl rfl | exact Or.inr rfl) (DL.pe_cal c_Ratio (hr.mono (by decide)) (pa_cons (pe_ix (DL.ix_seqC (K := K) rfl) (pv 14) pe_int (fun _ _ => rfl)) (pa_cons (pe_ix (DL.ix_seqC (K := K) rfl) (pv 14) pe_int (fun _ _ => rfl)) pa_nil))))
      (pss_cons (ps_if (PW.pt (pw_or (pt_cmpR op_isN (pv 12) pe_non (nomark _)) (pw_or1 (pt_not (pt_val (DL.pe_cal c_LawJust (hr.mono (by decide)) (pa_cons (pv 15) (pa_cons (pe_ix (DL.ix_seqC (K := K) rfl) (pv 14) pe_int (fun _ _ => rfl)) (pa_cons (pe_ix (DL.ix_seqC (K := K) rfl) (pv 14) pe_int (fun _ _ => rfl)) pa_nil)))))))))
      (pss_one (ps_ret pe_bl))
      pss_nil)
      (pss_cons (ps_set (i := 16) scLaw.nd rfl (by first | exact Or.inl rfl | exact Or.inr rfl) (pe_lst (pa_cons (DL.pe_cal c_LawMade (hr.mono (by decide)) (pa_cons (pv 7) (pa_cons (pv 4) pa_nil))) (pa_cons (DL.pe_cal c_LawMade (hr.mono (by decide)) (pa_cons (pv 9) (pa_cons (pe_op op_mod (pe_callTy call_int1 (by rfl) T.b_int (by decide +kernel) (pa_cons (pe_ix (DL.ix_seqC (K := K) rfl) (pv 1) pe_int (fun _ _ => rfl)) pa_nil)) (pv 2)) pa_nil))) (pa_cons (pe_ix (DL.ix_seqC (K := K) rfl) (pv 12) pe_int (fun _ _ => rfl)) pa_nil)))))
      (pss_cons (ps_if (PW.pt (pw_or (pt_cmpR op_isN (pe_ix (DL.ix_seqC (K := K) rfl) (pv 16) pe_int (fun _ _ => rfl)) pe_non (nomark _)) (pw_or1 (pt_cmpR op_isN (pe_ix (DL.ix_seqC (K := K) rfl) (pv 16) pe_int (fun _ _ => rfl)) pe_non (nomark _)))))
      (pss_one (ps_ret pe_bl))
      pss_nil)
      (pss_cons (ps_set (i := 17) scLaw.nd rfl (by first | exact Or.inl rfl | exact Or.inr rfl) (pe_lst (pa_cons (pv 7) (pa_cons (pv 9) (pa_cons (pe_ix (DL.ix_seqC (K := K) rfl) (pv 12) pe_int (fun _ _ => rfl)) pa_nil)))))
      (pss_cons (ps_for PassesOwn.never rfl (pi_range1 (by rfl) T.b_range (pa_cons pe_int pa_nil)) (pg_name (i := 18) scLaw.nd rfl (by first | exact Or.inl rfl | exact Or.inr rfl))
      (pss_one (ps_if (pt_not (pt_val (DL.pe_cal c_LawItems (hr.mono (by decide)) (pa_cons (pe_ix (DL.ix_seqC (K := K) rfl) (pv 16) (pv 18) (fun _ _ => rfl)) (pa_cons (pe_ix (DL.ix_seqC (K := K) rfl) (pv 17) (pv 18) (fun _ _ => rfl)) pa_nil)))))
      (pss_one (ps_ret pe_bl))
      pss_nil)))
      (pss_cons (ps_set (i := 19) scLaw.nd rfl (by first | exact Or.inl rfl | exact Or.inr rfl) (pe_ifExp (pt_cmpR op_gt (pv 2) pe_int (nomark _)) (pe_lst (pa_cons pe_int (pa_cons (pe_op op_sub (pv 2) pe_int) (pa_cons (pv 4) (pa_cons (pe_op op_mod (pe_callTy call_int1 (by rfl) T.b_int (by decide +kernel) (pa_cons (pe_ix (DL.ix_seqC (K := K) rfl) (pv 1) pe_int (fun _ _ => rfl)) pa_nil)) (pv 2)) (pa_cons (pe_op op_fdivW (pv 2) pe_int) (pa_cons (pe_op op_fdivW (pv 2) pe_int) pa_nil))))))) (pe_listRg rfl (by rfl) T.b_list (prg_1 (by rfl) T.b_range (pv 2)))))
      (pss_cons (ps_if (PW.pt (pw_or (pt_not (pt_val (DL.pe_cal c_LawOneByOne (hr.mono (by decide)) (pa_cons (pv 16) (pa_cons (pv 17) (pa_cons (pv 15) (pa_cons (pv 14) (pa_cons (pv 19) pa_nil)))))))) (pw_or1 (pt_not (pt_val (DL.pe_cal c_LawLinear (hr.mono (by decide)) (pa_cons (pv 16) (pa_cons (pv 17) (pa_cons (pv 15) (pa_cons (pv 14) pa_nil))))))))))
      (pss_one (ps_ret pe_bl))
      pss_nil)
      (pss_cons (ps_set (i := 20) scLaw.nd rfl (by first | exact Or.inl rfl | exact Or.inr rfl) (DL.pe_cal c_LawRatio (hr.mono (by decide)) (pa_cons (pe_ix (DL.ix_seqC (K := K) rfl) (pe_ix (DL.ix_seqC (K := K) rfl) (pv 7) pe_int (fun _ _ => rfl)) (pv 4) (fun _ _ => rfl)) (pa_cons (pe_ix (DL.ix_seqC (K := K) rfl) (pv 7) pe_int (fun _ _ => rfl)) pa_nil))))
      (pss_cons (ps_if (PW.pt (pw_or (pt_not (pt_val (DL.pe_cal c_LawNeighbours (hr.mono (by decide)) (pa_cons (pv 20) pa_nil)))) (pw_or1 (pt_cmpR op_gt (pe_callB (DL.call_len_seqC (K := K) rfl) (by rfl) T.b_len (by decide +kernel) (pa_cons (pe_lc (own := [("way", 21)]) (g := gName 21) (by rfl) scLaw.nd (pi_range1 (by rfl) T.b_range (pa_cons pe_int pa_nil)) (blkOk_by (own := [("way", 21)]) (by kernel_rfl)) (fun _ _ _ _ _ => (pg_name (i := 21) scLaw.nd rfl (by first | exact Or.inl rfl | exact Or.inr rfl))) (fun _ _ _ _ _ => (pts_one (pt_not (pt_val (DL.pe_cal c_LawRefused (hr.mono (by decide)) (pa_cons (pv 20) (pa_cons (pv 21) pa_nil))))))) (fun _ _ _ _ _ => (pv 21))) pa_nil)) pe_int (nomark _)))))
      (pss_one (ps_ret pe_bl))
      pss_nil)
      (pss_cons (ps_if (PW.pt (pw_or (pt_not (pt_val (DL.pe_cal c_LawSame (hr.mono (by decide)) (pa_cons (DL.pe_cal c_Row (hr.mono (by decide)) (pa_cons (pe_callTy (DL.call_list_ofC (K := K) rfl) (by rfl) T.b_list (by decide +kernel) (pa_cons (pe_ix (DL.ix_seqC (K := K) rfl) (pv 7) pe_int (fun _ _ => rfl)) pa_nil)) (pa_cons (pe_ix (DL.ix_seqC (K := K) rfl) (pv 7) pe_int (fun _ _ => rfl)) pa_nil))) (pa_cons (pv 7) pa_nil))))) (pw_or1 (pt_not (pt_val (DL.pe_cal c_LawSame (hr.mono (by decide)) (pa_cons (DL.pe_calK c_Row_tops_line (hr.mono (by decide)) (pk_cons (pe_ix (DL.ix_seqC (K := K) rfl) (pv 9) pe_int (fun _ _ => rfl)) (pk_cons (pe_ix (DL.ix_seqC (K := K) rfl) (pv 9) pe_int (fun _ _ => rfl)) pk_nil))) (pa_cons (pv 9) pa_nil))))))))
      (pss_one (ps_ret pe_bl))
      pss_nil)
      (pss_cons (ps_set (i := 22) scLaw.nd rfl (by first | exact Or.inl rfl | exact Or.inr rfl) (DL.pe_cal c_LawDotted (hr.mono (by decide)) (pa_cons (pv 7) (pa_cons (pv 9) pa_nil))))
      (pss_one (ps_ret (pe_and (DL.pe_cal c_LawJust (hr.mono (by decide)) (pa_cons (DL.pe_cal c_Dot (hr.mono (by decide)) (pa_cons (pe_ix (DL.ix_seqC (K := K) rfl) (pv 16) pe_int (fun _ _ => rfl)) (pa_cons (pe_ix (DL.ix_seqC (K := K) rfl) (pv 16) pe_int (fun _ _ => rfl)) pa_nil))) (pa_cons (pe_ix (DL.ix_seqC (K := K) rfl) (pv 22) pe_int (fun _ _ => rfl)) (pa_cons (pe_ix (DL.ix_seqC (K := K) rfl) (pv 22) pe_int (fun _ _ => rfl)) pa_nil)))) (pe_one (DL.pe_cal c_LawSame (hr.mono (by decide)) (pa_cons (pe_ix (DL.ix_seqC (K := K) rfl) (pv 16) pe_int (fun _ _ => rfl)) (pa_cons (pe_ix (DL.ix_seqC (K := K) rfl) (pv 12) pe_int (fun _ _ => rfl)) pa_nil)))))))))))))))))))))))))))))))), ?_⟩
  refine sd_fn h (fun _ => Nat.le_of_ble_eq_true rfl) ?_
  try dsimp only [L2.cxOf]
  intro ns _
  have mb := many_bd ns
  have hl := hdM_len ns
  have hS : (∀ s ∈ hdS, 0 < s ∧ s < 2 ^ 60) ∧ hdS.length ≤ 1000 := by decide
  have len2 : ∀ c z, (numbersM c 2 z false).length ≤ 10000 := fun c z => by rw [numbersM_len]; decide
  have s3 := sz_bd ns (i := 3) rfl
  have s4 := sz_bd ns (i := 4) rfl
  have s5 := sz_bd ns (i := 5) rfl
  have s9 := sz_bd ns (i := 9) rfl
  have ha := one_rw ns
  have hb := two_rw ns
  have TO := tr_ok ns
  have hth := th_ok ns
  obtain ⟨q1, q2⟩ := place_ok ns 10
  obtain ⟨q3, q4⟩ := place_ok ns 11
  have b0 := hd_lt ns (i := 0) rfl
  have b3 := hd_lt ns (i := 3) rfl
  have b4 := hd_lt ns (i := 4) rfl
  have b5 := hd_lt ns (i := 5) rfl
  have b9 := hd_lt ns (i := 9) rfl
  have g0 : atI (dI (hdM ns)) (0 : Int) = some (.int (hd ns 0)) := atI_nat (j := 0) (dI_get (hd_get (by decide)))
  have g1 : atI (dI (hdM ns)) (1 : Int) = some (.int (hd ns 1)) := atI_nat (j := 1) (dI_get (hd_get (by decide)))
  have g2 : atI (dI (hdM ns)) (2 : Int) = some (.int (hd ns 2)) := atI_nat (j := 2) (dI_get (hd_get (by decide)))
  have g3 : atI (dI (hdM ns)) (3 : Int) = some (.int (hd ns 3)) := atI_nat (j := 3) (dI_get (hd_get (by decide)))
  have g4 : atI (dI (hdM ns)) (4 : Int) = some (.int (hd ns 4)) := atI_nat (j := 4) (dI_get (hd_get (by decide)))
  have g5 : atI (dI (hdM ns)) (5 : Int) = some (.int (hd ns 5)) := atI_nat (j := 5) (dI_get (hd_get (by decide)))
  have g6 : atI (dI (hdM ns)) (6 : Int) = some (.int (hd ns 6)) := atI_nat (j := 6) (dI_get (hd_get (by decide)))
  have g7 : atI (dI (hdM ns)) (7 : Int) = some (.int (hd ns 7)) := atI_nat (j := 7) (dI_get (hd_get (by decide)))
  have g8 : atI (dI (hdM ns)) (8 : Int) = some (.int (hd ns 8)) := atI_nat (j := 8) (dI_get (hd_get (by decide)))
  have g9 : atI (dI (hdM ns)) (9 : Int) = some (.int (hd ns 9)) := atI_nat (j := 9) (dI_get (hd_get (by decide)))
  have g10 : atI (dI (hdM ns)) (10 : Int) = some (.int (hd ns 10)) := atI_nat (j := 10) (dI_get (hd_get (by decide)))
  have g11 : atI (dI (hdM ns)) (11 : Int) = some (.int (hd ns 11)) := atI_nat (j := 11) (dI_get (hd_get (by decide)))
  have z3 : atI (dI (szL ns)) (hd ns 3) = some (.int (sz ns 3 : Int)) := by rw [← s3.1]; exact dI_at b3.1 (by rw [szL_len]; omega)
  have z4 : atI (dI (szL ns)) (hd ns 4) = some (.int (sz ns 4 : Int)) := by rw [← s4.1]; exact dI_at b4.1 (by rw [szL_len]; omega)
  have z5 : atI (dI (szL ns)) (hd ns 5) = some (.int (sz ns 5 : Int)) := by rw [← s5.1]; exact dI_at b5.1 (by rw [szL_len]; omega)
  have z9 : atI (dI (szL ns)) (hd ns 9) = some (.int (sz ns 9 : Int)) := by rw [← s9.1]; exact dI_at b9.1 (by rw [szL_len]; omega)
  have a1 : atI [DL.D.int 4, .int 3, .int 5, .int 2, .int 7, .int 1, .int 6, .int (1 + hd ns 1)] (hd ns 0) = some (.int (manyN ns : Int)) := by rw [← mb.1]; exact dI_at (ns := manyL ns) b0.1 (by show _ < 8; omega)
  have a2 : atI [DL.D.lst [.int 0, .int 1, .int 2, .int 3, .int 0, .int 5, .int 6, .int 7], .lst [.int 0, .int 1, .int 4, .int 4, .int 4, .int 5, .int 6, .int 4]] (if decide (hd ns 2 = 7) = true then 1 else 0) = some (.lst (dI (szL ns))) := by
    unfold szL
    by_cases h : hd ns 2 = 7
    · rw [if_pos (decide_eq_true h), if_pos h]
      exact atI_one
    · rw [if_neg (by rw [decide_eq_false h]; decide), if_neg h]
      exact atI_zero
  have mp : (0 : Int) < (manyN ns : Int) := by omega
  have c0 : atI (dI (linesM ns)) 0 = some (.int ((linesM ns).getD 0 0)) := atI_nat (j := 0) (dI_get (get_getD 0 (by rw [lines_len]; decide)))
  have c1 : atI (dI (linesM ns)) 1 = some (.int ((linesM ns).getD 1 0)) := atI_nat (j := 1) (dI_get (get_getD 0 (by rw [lines_len]; decide)))
  have d0 : atI (dI (partsM ns)) 0 = some (.int ((partsM ns).getD 0 0)) := atI_nat (j := 0) (dI_get (get_getD 0 (by rw [parts_len]; decide)))
  have d1 : atI (dI (partsM ns)) 1 = some (.int ((partsM ns).getD 1 0)) := atI_nat (j := 1) (dI_get (get_getD 0 (by rw [parts_len]; decide)))
  have pm : CMulW ((partsM ns).getD 0 0) (if decide (hd ns 9 > 0) = true then 1 else 0) := by
    refine (numbersM_sm s5.2 _ (M.getD_mem (l := partsM ns) (i := 0) 0 (by rw [parts_len]; decide))).mulW (n := 1) ?_ (by decide)
    split <;> (unfold Sm; decide)
  have hp0 := p0_sm ns
  have hp1 := p1_sm ns
  have hpz : p1N ns ≠ 0 := nzI_ne _
  show SD K _ [.sh (.rd (dI ns)), .no, .no, .no, .no, .no, .no, .no, .no, .no, .no, .no, .no, .no, .no, .no, .no, .no, .no, .no, .no, .no, .no] _
  refine sd_then (sd_asgL (ds := dI (hdM ns)) (el_call (cellM ns 0, hdS) (ea_cons (ed_call (ns, 0) (EvA.is (by by_place) (by rfl)) (by show 0 < 1000; decide) rfl) (EvA.is (by by_place <;> by_in) (by rfl))) hS rfl) (sd_frz (i := 1) rfl rfl ?_))
  show SD K _ [.sh (.rd (dI ns)), .sh (.lst (dI (hdM ns))), .no, .no, .no, .no, .no, .no, .no, .no, .no, .no, .no, .no, .no, .no, .no, .no, .no, .no, .no, .no, .no] _
  refine sd_then (sd_asg (d := .int (manyN ns : Int)) (by by_place <;> by_in) ?_)
  show SD K _ [.sh (.rd (dI ns)), .sh (.lst (dI (hdM ns))), .sh (.int (manyN ns : Int)), .no, .no, .no, .no, .no, .no, .no, .no, .no, .no, .no, .no, .no, .no, .no, .no, .no, .no, .no, .no] _
  refine sd_then (sd_asg (d := .lst (dI (szL ns))) (EvD.is (by by_place <;> by_in) (by rfl)) ?_)
  show SD K _ [.sh (.rd (dI ns)), .sh (.lst (dI (hdM ns))), .sh (.int (manyN ns : Int)), .sh (.lst (dI (szL ns))), .no, .no, .no, .no, .no, .no, .no, .no, .no, .no, .no, .no, .no, .no, .no, .no, .no, .no, .no] _
  refine sd_then (sd_asg (d := .int (placeN ns 10 : Int)) (EvD.is (by by_place <;> by_in) (by rw [q1])) ?_)
  show SD K _ [.sh (.rd (dI ns)), .sh (.lst (dI (hdM ns))), .sh (.int (manyN ns : Int)), .sh (.lst (dI (szL ns))), .sh (.int (placeN ns 10 : Int)), .no, .no, .no, .no, .no, .no, .no, .no, .no, .no, .no, .no, .no, .no, .no, .no, .no, .no] _
  refine sd_then (sd_asgL (ds := dI (linesM ns)) (el_mapI (i := 6) nzI (EvL.data (el_call (cellM ns 1, 2, sz ns 3, false) (ea_cons (ed_call (ns, 1) (EvA.is (by by_place) (by rfl)) (by show 1 < 1000; decide) rfl) (EvA.is (by by_place <;> by_in) (by rfl))) ⟨show 2 ≤ 500 by omega, s3.2⟩ rfl)) (by decide) (len2 _ _) fun x hx => EvD.is (by by_place) (by rfl)) (sd_frz (i := 5) rfl rfl ?_))
  show SD K _ [.sh (.rd (dI ns)), .sh (.lst (dI (hdM ns))), .sh (.int (manyN ns : Int)), .sh (.lst (dI (szL ns))), .sh (.int (placeN ns 10 : Int)), .sh (.lst (dI (linesM ns))), .no, .no, .no, .no, .no, .no, .no, .no, .no, .no, .no, .no, .no, .no, .no, .no, .no] _
  refine sd_then (sd_asg (d := rawP (oneN ns)) (ed_lst (as := [.lst (dI (oneN ns).1), .int (oneN ns).2]) (ea_cons (EvL.data (el_call (cellM ns 2, manyN ns, sz ns 4, decide (hd ns 6 = 1)) (ea_cons (ed_call (ns, 2) (EvA.is (by by_place) (by rfl)) (by show 2 < 1000; decide) rfl) (EvA.is (by by_place <;> by_in) (by rfl))) ⟨show manyN ns ≤ 500 by omega, s4.2⟩ rfl)) (EvA.is (as := [.int ((linesM ns).getD 0 0)]) (by by_place <;> by_in) (by rfl))) (Nat.le_of_ble_eq_true rfl)) ?_)
  show SD K _ [.sh (.rd (dI ns)), .sh (.lst (dI (hdM ns))), .sh (.int (manyN ns : Int)), .sh (.lst (dI (szL ns))), .sh (.int (placeN ns 10 : Int)), .sh (.lst (dI (linesM ns))), .no, .sh (rawP (oneN ns)), .no, .no, .no, .no, .no, .no, .no, .no, .no, .no, .no, .no, .no, .no, .no] _
  refine sd_then (sd_asgL (ds := dI (numsN ns)) (el_call (cellM ns 3, manyN ns, sz ns 5, decide (hd ns 7 = 1)) (ea_cons (ed_call (ns, 3) (EvA.is (by by_place) (by rfl)) (by show 3 < 1000; decide) rfl) (EvA.is (by by_place <;> by_in) (by rfl))) ⟨show manyN ns ≤ 500 by omega, s5.2⟩ rfl) (sd_frz (i := 8) rfl rfl ?_))
  show SD K _ [.sh (.rd (dI ns)), .sh (.lst (dI (hdM ns))), .sh (.int (manyN ns : Int)), .sh (.lst (dI (szL ns))), .sh (.int (placeN ns 10 : Int)), .sh (.lst (dI (linesM ns))), .no, .sh (rawP (oneN ns)), .sh (.lst (dI (numsN ns))), .no, .no, .no, .no, .no, .no, .no, .no, .no, .no, .no, .no, .no, .no] _
  refine sd_then (sd_asg (d := rawP (twoN ns)) (ed_call (hd ns 8, oneN ns, numsN ns, (linesM ns).getD 1 0) (EvA.is (by by_place <;> by_in) (by rfl)) (by show (oneN ns).1.length ≤ 10000; rw [ha.len]; omega) rfl) ?_)
  show SD K _ [.sh (.rd (dI ns)), .sh (.lst (dI (hdM ns))), .sh (.int (manyN ns : Int)), .sh (.lst (dI (szL ns))), .sh (.int (placeN ns 10 : Int)), .sh (.lst (dI (linesM ns))), .no, .sh (rawP (oneN ns)), .sh (.lst (dI (numsN ns))), .sh (rawP (twoN ns)), .no, .no, .no, .no, .no, .no, .no, .no, .no, .no, .no, .no, .no] _
  refine sd_then (sd_asgL (ds := dI (botsM ns)) (el_mapI (i := 6) botI (EvL.data (el_call (cellM ns 4, 2, sz ns 9, false) (ea_cons (ed_call (ns, 4) (EvA.is (by by_place) (by rfl)) (by show 4 < 1000; decide) rfl) (EvA.is (by by_place <;> by_in) (by rfl))) ⟨show 2 ≤ 500 by omega, s9.2⟩ rfl)) (by decide) (len2 _ _) fun x hx => EvD.is (by by_place <;> by_in) (by rw [abs_eq]; rfl)) (sd_frz (i := 10) rfl rfl ?_))
  show SD K _ [.sh (.rd (dI ns)), .sh (.lst (dI (hdM ns))), .sh (.int (manyN ns : Int)), .sh (.lst (dI (szL ns))), .sh (.int (placeN ns 10 : Int)), .sh (.lst (dI (linesM ns))), .no, .sh (rawP (oneN ns)), .sh (.lst (dI (numsN ns))), .sh (rawP (twoN ns)), .sh (.lst (dI (botsM ns))), .no, .no, .no, .no, .no, .no, .no, .no, .no, .no, .no, .no] _
  refine sd_then (sd_asgL (ds := dI (kindsM ns)) (el_call (cellM ns 5, List.replicate 48 8) (ea_cons (ed_call (ns, 5) (EvA.is (by by_place) (by rfl)) (by show 5 < 1000; decide) rfl) (ea_cons (EvL.data (el_rep (n := 48) (x := 8) (by by_place <;> by_in) (EvD.is (by by_place) (by rfl)) (by decide))) ea_nil)) (digs_pre (by decide) (by decide) (by decide)) rfl) (sd_frz (i := 11) rfl rfl ?_))
  show SD K _ [.sh (.rd (dI ns)), .sh (.lst (dI (hdM ns))), .sh (.int (manyN ns : Int)), .sh (.lst (dI (szL ns))), .sh (.int (placeN ns 10 : Int)), .sh (.lst (dI (linesM ns))), .no, .sh (rawP (oneN ns)), .sh (.lst (dI (numsN ns))), .sh (rawP (twoN ns)), .sh (.lst (dI (botsM ns))), .sh (.lst (dI (kindsM ns))), .no, .no, .no, .no, .no, .no, .no, .no, .no, .no, .no] _
  have eb : dI (botsM ns) = dI [(botsM ns).getD 0 0, (botsM ns).getD 1 0] := by
    have l := bots_len ns
    generalize botsM ns = bs at l
    match bs, l with
    | [_, _], _ => rfl
  refine sd_then (sd_asg (d := .lst [rowS true (qR (trN ns).c), rawP (trN ns).c]) (ed_call (nums3 ns, (botsM ns).getD 0 0, (botsM ns).getD 1 0, kindsM ns) (ea_cons (EvL.data (el_call (cellM ns 6, manyN ns, sz ns 3, false) (ea_cons (ed_call (ns, 6) (EvA.is (by by_place) (by rfl)) (by show 6 < 1000; decide) rfl) (EvA.is (by by_place <;> by_in) (by rfl))) ⟨show manyN ns ≤ 500 by omega, s3.2⟩ rfl)) (EvA.is (as := [.lst (dI (botsM ns)), .lst (dI (kindsM ns))]) (by by_place) (by rw [eb]))) hth rfl) ?_)
  show SD K _ [.sh (.rd (dI ns)), .sh (.lst (dI (hdM ns))), .sh (.int (manyN ns : Int)), .sh (.lst (dI (szL ns))), .sh (.int (placeN ns 10 : Int)), .sh (.lst (dI (linesM ns))), .no, .sh (rawP (oneN ns)), .sh (.lst (dI (numsN ns))), .sh (rawP (twoN ns)), .sh (.lst (dI (botsM ns))), .sh (.lst (dI (kindsM ns))), .sh (.lst [rowS true (qR (trN ns).c), rawP (trN ns).c]), .no, .no, .no, .no, .no, .no, .no, .no, .no, .no] _
  refine sd_then (sd_asgL (ds := dI (partsM ns)) (el_call (cellM ns 7, 2, sz ns 5, false) (ea_cons (ed_call (ns, 7) (EvA.is (by by_place) (by rfl)) (by show 7 < 1000; decide) rfl) (EvA.is (by by_place <;> by_in) (by rfl))) ⟨show 2 ≤ 500 by omega, s5.2⟩ rfl) (sd_frz (i := 13) rfl rfl ?_))
  show SD K _ [.sh (.rd (dI ns)), .sh (.lst (dI (hdM ns))), .sh (.int (manyN ns : Int)), .sh (.lst (dI (szL ns))), .sh (.int (placeN ns 10 : Int)), .sh (.lst (dI (linesM ns))), .no, .sh (rawP (oneN ns)), .sh (.lst (dI (numsN ns))), .sh (rawP (twoN ns)), .sh (.lst (dI (botsM ns))), .sh (.lst (dI (kindsM ns))), .sh (.lst [rowS true (qR (trN ns).c), rawP (trN ns).c]), .sh (.lst (dI (partsM ns))), .no, .no, .no, .no, .no, .no, .no, .no, .no] _
  refine sd_then (sd_asg (d := .lst (dI [p0N ns, p1N ns])) (EvD.is (by by_place <;> by_in) (by rfl)) ?_)
  show SD K _ [.sh (.rd (dI ns)), .sh (.lst (dI (hdM ns))), .sh (.int (manyN ns : Int)), .sh (.lst (dI (szL ns))), .sh (.int (placeN ns 10 : Int)), .sh (.lst (dI (linesM ns))), .no, .sh (rawP (oneN ns)), .sh (.lst (dI (numsN ns))), .sh (rawP (twoN ns)), .sh (.lst (dI (botsM ns))), .sh (.lst (dI (kindsM ns))), .sh (.lst [rowS true (qR (trN ns).c), rawP (trN ns).c]), .sh (.lst (dI (partsM ns))), .sh (.lst (dI [p0N ns, p1N ns])), .no, .no, .no, .no, .no, .no, .no, .no] _
  refine sd_then (sd_asg (d := ratS true (Rat.divInt (p0N ns) (p1N ns))) (ed_call (p0N ns, p1N ns) (EvA.is (by by_place <;> by_in) (by rfl)) hpz rfl) ?_)
  show SD K _ [.sh (.rd (dI ns)), .sh (.lst (dI (hdM ns))), .sh (.int (manyN ns : Int)), .sh (.lst (dI (szL ns))), .sh (.int (placeN ns 10 : Int)), .sh (.lst (dI (linesM ns))), .no, .sh (rawP (oneN ns)), .sh (.lst (dI (numsN ns))), .sh (rawP (twoN ns)), .sh (.lst (dI (botsM ns))), .sh (.lst (dI (kindsM ns))), .sh (.lst [rowS true (qR (trN ns).c), rawP (trN ns).c]), .sh (.lst (dI (partsM ns))), .sh (.lst (dI [p0N ns, p1N ns])), .sh (ratS true (Rat.divInt (p0N ns) (p1N ns))), .no, .no, .no, .no, .no, .no, .no] _
  refine sd_then (sd_if (x := false) (EvT.is (et_or (x := false) (EvT.is (by by_place) (by rfl)) fun _ => et_not (x := true) (et_B (just_ok hpz (hp0.mono (by decide)) (hp1.mono (by decide)) rfl (EvA.is (by by_place <;> by_in) (by rfl))))) (by rfl)) (fun h => by cases h) (fun _ => sd_next ?_))
  show SD K _ [.sh (.rd (dI ns)), .sh (.lst (dI (hdM ns))), .sh (.int (manyN ns : Int)), .sh (.lst (dI (szL ns))), .sh (.int (placeN ns 10 : Int)), .sh (.lst (dI (linesM ns))), .no, .sh (rawP (oneN ns)), .sh (.lst (dI (numsN ns))), .sh (rawP (twoN ns)), .sh (.lst (dI (botsM ns))), .sh (.lst (dI (kindsM ns))), .sh (.lst [rowS true (qR (trN ns).c), rawP (trN ns).c]), .sh (.lst (dI (partsM ns))), .sh (.lst (dI [p0N ns, p1N ns])), .sh (ratS true (Rat.divInt (p0N ns) (p1N ns))), .no, .no, .no, .no, .no, .no, .no] _
  refine sd_then (sd_asg (d := .lst [rowS true (qR (oneN ns)), rowS true (qR (twoN ns)), rowS true (qR (trN ns).c)]) (ed_lst (ea_cons (ed_call (oneN ns, placeN ns 10) (EvA.is (by by_place <;> by_in) (by rfl)) ⟨ha.nz, by rw [ha.len]; omega, by rw [ha.len]; assumption, (ha.mono (by decide)).sm⟩ rfl) (ea_cons (ed_call (twoN ns, placeN ns 11) (ea_cons (by by_place) (EvA.is (by by_place <;> by_in) (by rw [q3]))) ⟨hb.nz, by rw [hb.len]; omega, by rw [hb.len]; assumption, (hb.mono (by decide)).sm⟩ rfl) (by by_place <;> by_in))) (Nat.le_of_ble_eq_true rfl)) ?_)
  show SD K _ [.sh (.rd (dI ns)), .sh (.lst (dI (hdM ns))), .sh (.int (manyN ns : Int)), .sh (.lst (dI (szL ns))), .sh (.int (placeN ns 10 : Int)), .sh (.lst (dI (linesM ns))), .no, .sh (rawP (oneN ns)), .sh (.lst (dI (numsN ns))), .sh (rawP (twoN ns)), .sh (.lst (dI (botsM ns))), .sh (.lst (dI (kindsM ns))), .sh (.lst [rowS true (qR (trN ns).c), rawP (trN ns).c]), .sh (.lst (dI (partsM ns))), .sh (.lst (dI [p0N ns, p1N ns])), .sh (ratS true (Rat.divInt (p0N ns) (p1N ns))), .sh (.lst [rowS true (qR (oneN ns)), rowS true (qR (twoN ns)), rowS true (qR (trN ns).c)]), .no, .no, .no, .no, .no, .no] _
  refine sd_then (sd_if (x := false) (EvT.is (et_or (x := false) (EvT.is (by by_place <;> by_in) (by rfl)) fun _ => EvT.is (by by_place <;> by_in) (by rfl)) (by rfl)) (fun h => by cases h) (fun _ => sd_next ?_))
  show SD K _ [.sh (.rd (dI ns)), .sh (.lst (dI (hdM ns))), .sh (.int (manyN ns : Int)), .sh (.lst (dI (szL ns))), .sh (.int (placeN ns 10 : Int)), .sh (.lst (dI (linesM ns))), .no, .sh (rawP (oneN ns)), .sh (.lst (dI (numsN ns))), .sh (rawP (twoN ns)), .sh (.lst (dI (botsM ns))), .sh (.lst (dI (kindsM ns))), .sh (.lst [rowS true (qR (trN ns).c), rawP (trN ns).c]), .sh (.lst (dI (partsM ns))), .sh (.lst (dI [p0N ns, p1N ns])), .sh (ratS true (Rat.divInt (p0N ns) (p1N ns))), .sh (.lst [rowS true (qR (oneN ns)), rowS true (qR (twoN ns)), rowS true (qR (trN ns).c)]), .no, .no, .no, .no, .no, .no] _
  refine sd_then (sd_asg (d := .lst [rawP (oneN ns), rawP (twoN ns), rawP (trN ns).c]) (EvD.is (by by_place <;> by_in) (by rfl)) ?_)
  show SD K _ [.sh (.rd (dI ns)), .sh (.lst (dI (hdM ns))), .sh (.int (manyN ns : Int)), .sh (.lst (dI (szL ns))), .sh (.int (placeN ns 10 : Int)), .sh (.lst (dI (linesM ns))), .no, .sh (rawP (oneN ns)), .sh (.lst (dI (numsN ns))), .sh (rawP (twoN ns)), .sh (.lst (dI (botsM ns))), .sh (.lst (dI (kindsM ns))), .sh (.lst [rowS true (qR (trN ns).c), rawP (trN ns).c]), .sh (.lst (dI (partsM ns))), .sh (.lst (dI [p0N ns, p1N ns])), .sh (ratS true (Rat.divInt (p0N ns) (p1N ns))), .sh (.lst [rowS true (qR (oneN ns)), rowS true (qR (twoN ns)), rowS true (qR (trN ns).c)]), .sh (.lst [rawP (oneN ns), rawP (twoN ns), rawP (trN ns).c]), .no, .no, .no, .no, .no] _
  have hc : Rw (manyN ns) 4100 (trN ns).c := TO.c
  have items : ∀ (r : List Int × Int) (B : Nat), Rw (manyN ns) B r → B ≤ 40000 → r.2 ≠ 0 ∧ r.1.length ≤ 10000 ∧ SmN 40000 r := fun r B h l => ⟨h.nz, by rw [h.len]; omega, (h.mono l).sm⟩
  refine sd_then (sd_forRn [18] (z := 3) (by by_place) (by decide) (fun m ρ => ρ = [.sh (.rd (dI ns)), .sh (.lst (dI (hdM ns))), .sh (.int (manyN ns : Int)), .sh (.lst (dI (szL ns))), .sh (.int (placeN ns 10 : Int)), .sh (.lst (dI (linesM ns))), .no, .sh (rawP (oneN ns)), .sh (.lst (dI (numsN ns))), .sh (rawP (twoN ns)), .sh (.lst (dI (botsM ns))), .sh (.lst (dI (kindsM ns))), .sh (.lst [rowS true (qR (trN ns).c), rawP (trN ns).c]), .sh (.lst (dI (partsM ns))), .sh (.lst (dI [p0N ns, p1N ns])), .sh (ratS true (Rat.divInt (p0N ns) (p1N ns))), .sh (.lst [rowS true (qR (oneN ns)), rowS true (qR (twoN ns)), rowS true (qR (trN ns).c)]), .sh (.lst [rawP (oneN ns), rawP (twoN ns), rawP (trN ns).c]), .no, .no, .no, .no, .no]) rfl (fun m ρ hm hI => ?_) (fun ρ hI => ?_))
  · subst hI
    refine ⟨rfl, ?_⟩
    show SD K _ [.sh (.rd (dI ns)), .sh (.lst (dI (hdM ns))), .sh (.int (manyN ns : Int)), .sh (.lst (dI (szL ns))), .sh (.int (placeN ns 10 : Int)), .sh (.lst (dI (linesM ns))), .no, .sh (rawP (oneN ns)), .sh (.lst (dI (numsN ns))), .sh (rawP (twoN ns)), .sh (.lst (dI (botsM ns))), .sh (.lst (dI (kindsM ns))), .sh (.lst [rowS true (qR (trN ns).c), rawP (trN ns).c]), .sh (.lst (dI (partsM ns))), .sh (.lst (dI [p0N ns, p1N ns])), .sh (ratS true (Rat.divInt (p0N ns) (p1N ns))), .sh (.lst [rowS true (qR (oneN ns)), rowS true (qR (twoN ns)), rowS true (qR (trN ns).c)]), .sh (.lst [rawP (oneN ns), rawP (twoN ns), rawP (trN ns).c]), .sh (.int (m : Int)), .no, .no, .no, .no] _
    refine sd_if (x := false) ?_ (fun h => by cases h) (fun _ => sd_next rfl)
    have h3 : m = 0 ∨ m = 1 ∨ m = 2 := by omega
    rcases h3 with rfl | rfl | rfl
    · have i1 : atI [rowS true (qR (oneN ns)), rowS true (qR (twoN ns)), rowS true (qR (trN ns).c)] ((0 : Nat) : Int) = some (rowS true (qR (oneN ns))) := rfl
      have i2 : atI [rawP (oneN ns), rawP (twoN ns), rawP (trN ns).c] ((0 : Nat) : Int) = some (rawP (oneN ns)) := rfl
      exact EvT.is (et_not (x := true) (et_B (ed_call (oneN ns) (EvA.is (as := [rowS true (qR (oneN ns)), rawP (oneN ns)]) (by by_place <;> by_in) (by rfl)) (items _ _ ha (by decide)) rfl))) (by rfl)
    · have i1 : atI [rowS true (qR (oneN ns)), rowS true (qR (twoN ns)), rowS true (qR (trN ns).c)] ((1 : Nat) : Int) = some (rowS true (qR (twoN ns))) := rfl
      have i2 : atI [rawP (oneN ns), rawP (twoN ns), rawP (trN ns).c] ((1 : Nat) : Int) = some (rawP (twoN ns)) := rfl
      exact EvT.is (et_not (x := true) (et_B (ed_call (twoN ns) (EvA.is (as := [rowS true (qR (twoN ns)), rawP (twoN ns)]) (by by_place <;> by_in) (by rfl)) (items _ _ hb (by decide)) rfl))) (by rfl)
    · have i1 : atI [rowS true (qR (oneN ns)), rowS true (qR (twoN ns)), rowS true (qR (trN ns).c)] ((2 : Nat) : Int) = some (rowS true (qR ((trN ns).c))) := rfl
      have i2 : atI [rawP (oneN ns), rawP (twoN ns), rawP (trN ns).c] ((2 : Nat) : Int) = some (rawP ((trN ns).c)) := rfl
      exact EvT.is (et_not (x := true) (et_B (ed_call ((trN ns).c) (EvA.is (as := [rowS true (qR ((trN ns).c)), rawP ((trN ns).c)]) (by by_place <;> by_in) (by rfl)) (items _ _ hc (by decide)) rfl))) (by rfl)
  subst hI
  show SD K _ [.sh (.rd (dI ns)), .sh (.lst (dI (hdM ns))), .sh (.int (manyN ns : Int)), .sh (.lst (dI (szL ns))), .sh (.int (placeN ns 10 : Int)), .sh (.lst (dI (linesM ns))), .no, .sh (rawP (oneN ns)), .sh (.lst (dI (numsN ns))), .sh (rawP (twoN ns)), .sh (.lst (dI (botsM ns))), .sh (.lst (dI (kindsM ns))), .sh (.lst [rowS true (qR (trN ns).c), rawP (trN ns).c]), .sh (.lst (dI (partsM ns))), .sh (.lst (dI [p0N ns, p1N ns])), .sh (ratS true (Rat.divInt (p0N ns) (p1N ns))), .sh (.lst [rowS true (qR (oneN ns)), rowS true (qR (twoN ns)), rowS true (qR (trN ns).c)]), .sh (.lst [rawP (oneN ns), rawP (twoN ns), rawP (trN ns).c]), .no, .no, .no, .no, .no] _
  have dv2 : CDivW (manyN ns : Int) 2 := M.divS (by decide) (by decide)
  have dv3 : CDivW (manyN ns : Int) 3 := M.divS (by decide) (by decide)
  refine sd_then (sd_asg (d := .lst (dI (placesN ns))) (ed_if (x := decide ((manyN ns : Int) > 7)) (by by_place) (fun h => EvD.is (by by_place <;> by_in) ?_) (fun h => EvD.is (EvL.data (el_listRg (n := manyN ns) (by by_place) (by omega))) ?_)) ?_)
  · unfold placesN
    rw [if_pos h, q3]
    rfl
  · unfold placesN
    rw [if_neg (by rw [h]; decide)]
  show SD K _ [.sh (.rd (dI ns)), .sh (.lst (dI (hdM ns))), .sh (.int (manyN ns : Int)), .sh (.lst (dI (szL ns))), .sh (.int (placeN ns 10 : Int)), .sh (.lst (dI (linesM ns))), .no, .sh (rawP (oneN ns)), .sh (.lst (dI (numsN ns))), .sh (rawP (twoN ns)), .sh (.lst (dI (botsM ns))), .sh (.lst (dI (kindsM ns))), .sh (.lst [rowS true (qR (trN ns).c), rawP (trN ns).c]), .sh (.lst (dI (partsM ns))), .sh (.lst (dI [p0N ns, p1N ns])), .sh (ratS true (Rat.divInt (p0N ns) (p1N ns))), .sh (.lst [rowS true (qR (oneN ns)), rowS true (qR (twoN ns)), rowS true (qR (trN ns).c)]), .sh (.lst [rawP (oneN ns), rawP (twoN ns), rawP (trN ns).c]), .no, .sh (.lst (dI (placesN ns))), .no, .no, .no] _
  refine sd_then (sd_if (x := false) (EvT.is (et_or (x := false) (et_not (x := true) (et_B (ed_call (trN ns, placesN ns) (EvA.is (by by_place <;> by_in) (by rfl)) ⟨TO, places_ok ns⟩ rfl))) fun _ => et_not (x := true) (et_B (ed_call (trN ns) (EvA.is (by by_place <;> by_in) (by rfl)) TO rfl))) (by rfl)) (fun h => by cases h) (fun _ => sd_next ?_))
  show SD K _ [.sh (.rd (dI ns)), .sh (.lst (dI (hdM ns))), .sh (.int (manyN ns : Int)), .sh (.lst (dI (szL ns))), .sh (.int (placeN ns 10 : Int)), .sh (.lst (dI (linesM ns))), .no, .sh (rawP (oneN ns)), .sh (.lst (dI (numsN ns))), .sh (rawP (twoN ns)), .sh (.lst (dI (botsM ns))), .sh (.lst (dI (kindsM ns))), .sh (.lst [rowS true (qR (trN ns).c), rawP (trN ns).c]), .sh (.lst (dI (partsM ns))), .sh (.lst (dI [p0N ns, p1N ns])), .sh (ratS true (Rat.divInt (p0N ns) (p1N ns))), .sh (.lst [rowS true (qR (oneN ns)), rowS true (qR (twoN ns)), rowS true (qR (trN ns).c)]), .sh (.lst [rawP (oneN ns), rawP (twoN ns), rawP (trN ns).c]), .no, .sh (.lst (dI (placesN ns))), .no, .no, .no] _
  have t1 : atI (dI (oneN ns).1) (placeN ns 10 : Int) = some (.int ((oneN ns).1.getD (placeN ns 10) 0)) := atI_nat (dI_get (get_getD 0 (by rw [ha.len]; exact q2)))
  have sx := ha.sm.1 _ (M.getD_mem (l := (oneN ns).1) (i := placeN ns 10) 0 (by rw [ha.len]; exact q2))
  refine sd_then (sd_asg (d := ratS true (Rat.divInt ((oneN ns).1.getD (placeN ns 10) 0) (oneN ns).2)) (ratio_ok ha.nz (sx.mono (by decide)) (ha.sm.2.mono (by decide)) (by by_place <;> by_in)) ?_)
  show SD K _ [.sh (.rd (dI ns)), .sh (.lst (dI (hdM ns))), .sh (.int (manyN ns : Int)), .sh (.lst (dI (szL ns))), .sh (.int (placeN ns 10 : Int)), .sh (.lst (dI (linesM ns))), .no, .sh (rawP (oneN ns)), .sh (.lst (dI (numsN ns))), .sh (rawP (twoN ns)), .sh (.lst (dI (botsM ns))), .sh (.lst (dI (kindsM ns))), .sh (.lst [rowS true (qR (trN ns).c), rawP (trN ns).c]), .sh (.lst (dI (partsM ns))), .sh (.lst (dI [p0N ns, p1N ns])), .sh (ratS true (Rat.divInt (p0N ns) (p1N ns))), .sh (.lst [rowS true (qR (oneN ns)), rowS true (qR (twoN ns)), rowS true (qR (trN ns).c)]), .sh (.lst [rawP (oneN ns), rawP (twoN ns), rawP (trN ns).c]), .no, .sh (.lst (dI (placesN ns))), .sh (ratS true (Rat.divInt ((oneN ns).1.getD (placeN ns 10) 0) (oneN ns).2)), .no, .no] _
  have ri := ratR ha.nz (sx.mono (show 1400 ≤ 40000 by decide)) (ha.sm.2.mono (show 1400 ≤ 40000 by decide))
  refine sd_then (sd_if (x := false) (EvT.is (et_or (x := false) (et_not (x := true) (et_B (ed_call (Rat.divInt ((oneN ns).1.getD (placeN ns 10) 0) (oneN ns).2) (by by_place <;> by_in) ri rfl))) fun _ => EvT.is (et_test (ed_op (ed_cb (ea_cons (EvL.data (el_noneR (i := 21) (n := 4) (EvA.is (by by_place) (by rfl)) (by decide) (by decide) fun j hj => EvT.is (et_not (x := true) (et_B (ed_call (Rat.divInt ((oneN ns).1.getD (placeN ns 10) 0) (oneN ns).2, j) (by by_place <;> by_in) hj rfl))) (by rfl))) ea_nil) (cd_len (ds := []) rfl)) (by by_place) od_B0)) (by rfl)) (by rfl)) (fun h => by cases h) (fun _ => sd_next ?_))
  show SD K _ [.sh (.rd (dI ns)), .sh (.lst (dI (hdM ns))), .sh (.int (manyN ns : Int)), .sh (.lst (dI (szL ns))), .sh (.int (placeN ns 10 : Int)), .sh (.lst (dI (linesM ns))), .no, .sh (rawP (oneN ns)), .sh (.lst (dI (numsN ns))), .sh (rawP (twoN ns)), .sh (.lst (dI (botsM ns))), .sh (.lst (dI (kindsM ns))), .sh (.lst [rowS true (qR (trN ns).c), rawP (trN ns).c]), .sh (.lst (dI (partsM ns))), .sh (.lst (dI [p0N ns, p1N ns])), .sh (ratS true (Rat.divInt (p0N ns) (p1N ns))), .sh (.lst [rowS true (qR (oneN ns)), rowS true (qR (twoN ns)), rowS true (qR (trN ns).c)]), .sh (.lst [rawP (oneN ns), rawP (twoN ns), rawP (trN ns).c]), .no, .sh (.lst (dI (placesN ns))), .sh (ratS true (Rat.divInt ((oneN ns).1.getD (placeN ns 10) 0) (oneN ns).2)), .no, .no] _
  refine sd_then (sd_if (x := false) (EvT.is (et_or (x := false) (et_not (x := true) (et_B (same_ok ha (by omega) (by decide) rfl (ea_cons (ed_call (false, (oneN ns).1, (oneN ns).2) (ea_cons (EvL.data (el_cb (by by_place <;> by_in) (cl_list rfl))) (by by_place <;> by_in)) ⟨ha.nz, by rw [ha.len]; omega⟩ rfl) (by by_place))))) fun _ => et_not (x := true) (et_B (same_ok hb (by omega) (by decide) rfl (ea_cons (ed_callK0 (bs := [.lst (dI (twoN ns).1), .int (twoN ns).2]) (false, (twoN ns).1, (twoN ns).2) (by by_place <;> by_in) rfl (fun H zs r => gvSame gv_Row_tops_line (fun _ _ => rfl) H zs r) ⟨hb.nz, by rw [hb.len]; omega⟩ rfl) (by by_place))))) (by rfl)) (fun h => by cases h) (fun _ => sd_next ?_))
  show SD K _ [.sh (.rd (dI ns)), .sh (.lst (dI (hdM ns))), .sh (.int (manyN ns : Int)), .sh (.lst (dI (szL ns))), .sh (.int (placeN ns 10 : Int)), .sh (.lst (dI (linesM ns))), .no, .sh (rawP (oneN ns)), .sh (.lst (dI (numsN ns))), .sh (rawP (twoN ns)), .sh (.lst (dI (botsM ns))), .sh (.lst (dI (kindsM ns))), .sh (.lst [rowS true (qR (trN ns).c), rawP (trN ns).c]), .sh (.lst (dI (partsM ns))), .sh (.lst (dI [p0N ns, p1N ns])), .sh (ratS true (Rat.divInt (p0N ns) (p1N ns))), .sh (.lst [rowS true (qR (oneN ns)), rowS true (qR (twoN ns)), rowS true (qR (trN ns).c)]), .sh (.lst [rawP (oneN ns), rawP (twoN ns), rawP (trN ns).c]), .no, .sh (.lst (dI (placesN ns))), .sh (ratS true (Rat.divInt ((oneN ns).1.getD (placeN ns 10) 0) (oneN ns).2)), .no, .no] _
  refine sd_then (sd_asg (d := .lst [.int (dotR (oneN ns).1 (twoN ns).1), .int ((oneN ns).2 * (twoN ns).2)]) (dotted_ok ha hb (by omega) (by decide) (by decide) (by by_place <;> by_in)) ?_)
  show SD K _ [.sh (.rd (dI ns)), .sh (.lst (dI (hdM ns))), .sh (.int (manyN ns : Int)), .sh (.lst (dI (szL ns))), .sh (.int (placeN ns 10 : Int)), .sh (.lst (dI (linesM ns))), .no, .sh (rawP (oneN ns)), .sh (.lst (dI (numsN ns))), .sh (rawP (twoN ns)), .sh (.lst (dI (botsM ns))), .sh (.lst (dI (kindsM ns))), .sh (.lst [rowS true (qR (trN ns).c), rawP (trN ns).c]), .sh (.lst (dI (partsM ns))), .sh (.lst (dI [p0N ns, p1N ns])), .sh (ratS true (Rat.divInt (p0N ns) (p1N ns))), .sh (.lst [rowS true (qR (oneN ns)), rowS true (qR (twoN ns)), rowS true (qR (trN ns).c)]), .sh (.lst [rawP (oneN ns), rawP (twoN ns), rawP (trN ns).c]), .no, .sh (.lst (dI (placesN ns))), .sh (ratS true (Rat.divInt ((oneN ns).1.getD (placeN ns 10) 0) (oneN ns).2)), .no, .sh (.lst [.int (dotR (oneN ns).1 (twoN ns).1), .int ((oneN ns).2 * (twoN ns).2)])] _
  exact sd_ret (d := .bl true) (EvD.is (ed_andV (x := true) (y := true) (just_ok (Int.mul_ne_zero ha.nz hb.nz) ((dot_sm ha hb (by omega)).mono (by decide)) ((ha.sm.2.mul hb.sm.2).mono (by decide)) rfl (ea_cons (dot_ok (k := true) (j := true) ha hb (by omega) (by decide) (by decide) (by by_place <;> by_in)) (by by_place <;> by_in))) fun _ => same_ok hc (by omega) (by decide) rfl (by by_place <;> by_in)) rfl) rfl
end
end K00

set_option Elab.async false
set_option linter.all false
set_option maxRecDepth 100000
set_option maxHeartbeats 4000000
namespace K00
open PySem PySem.Spec PyProof.Rows L2 DL R0
open M hiding tops_len
open LS hiding spRatio spRow spRowOf spLaw
section
variable {P : Program} {w : World} {K : PySem.W.Frag} {mg : Str → Option Value} {base : Heap}
theorem kRatio_bottom_top (T : Txt K mg) (c : Cal P w K mg base 33 "ratio" ["top", "bottom"] (spRatio K)) : CalK P w K mg base 33 "ratio" ["top", "bottom"] ["bottom", "top"] (spRatio K) gv_Ratio_bottom_top := by
  refine calK_ofD c T.f_Ratio T.g_Ratio (fun us its ws => match its, ws with | [d0], [z0, z1] => [z1, z0] | _, _ => []) (by simp) (fun {vs ds zs us its ws} _ q r => ?_) (fun T kV doc pm an cdv ct us its ws hu hi hw => ?_) (fun zs => ?_)
  · cases q with
    | nil => exact .nil
    | cons e0 q' =>
      cases q' with
      | cons _ _ => exact .nil
      | nil =>
        cases r with
        | nil => exact .nil
        | cons r0 r' =>
          cases r' with
          | nil => exact .nil
          | cons r1 r'' =>
            cases r'' with
            | nil => exact (.cons r1 (.cons r0 .nil))
            | cons _ _ => exact .nil
  · match us, its, ws, hu, hi, hw with
    | [], [_], [_, _], _, _, _ => exact ⟨_, rfl, rfl⟩
  · match zs with
    | [] => rfl
    | [_] => rfl
    | [_, _] => rfl
    | _ :: _ :: _ :: _ => rfl
theorem kRatio_top (T : Txt K mg) (c : Cal P w K mg base 33 "ratio" ["top", "bottom"] (spRatio K)) : CalK P w K mg base 33 "ratio" ["top", "bottom"] ["top"] (spRatio K) gv_Ratio_top := by
  refine calK_ofD c T.f_Ratio T.g_Ratio (fun us its ws => match its, ws with | [d0], [z0] => [z0, d0] | _, _ => []) (by simp) (fun {vs ds zs us its ws} _ q r => ?_) (fun T kV doc pm an cdv ct us its ws hu hi hw => ?_) (fun zs => ?_)
  · cases q with
    | nil => exact .nil
    | cons e0 q' =>
      cases q' with
      | cons _ _ => exact .nil
      | nil =>
        cases r with
        | nil => exact .nil
        | cons r0 r' =>
          cases r' with
          | nil => exact (.cons r0 (.cons e0 .nil))
          | cons _ _ => exact .nil
  · match us, its, ws, hu, hi, hw with
    | [], [_], [_], _, _, _ => exact ⟨_, rfl, rfl⟩
  · match zs with
    | [] => rfl
    | [_] => rfl
    | _ :: _ :: _ => rfl
theorem kOver_two_one (T : Txt K mg) (c : Cal P w K mg base 34 "over" ["one", "two"] (spOver K)) : CalK P w K mg base 34 "over" ["one", "two"] ["two", "one"] (spOver K) gv_Over_two_one := by
  refine calK_of c T.f_Over T.g_Over (fun us ws => match ws with | [z0, z1] => [z1, z0] | _ => []) (fun {vs zs us ws} _ r => ?_) (fun kV doc pm an cdv ct us ws hu hw => ?_) (fun zs => ?_)
  · cases r with
    | nil => exact .nil
    | cons r0 r' =>
      cases r' with
      | nil => exact .nil
      | cons r1 r'' =>
        cases r'' with
        | nil => exact (.cons r1 (.cons r0 .nil))
        | cons _ _ => exact .nil
  · match us, ws, hu, hw with
    | [], [_, _], _, _ => rfl
  · match zs with
    | [] => rfl
    | [_] => rfl
    | [_, _] => rfl
    | _ :: _ :: _ :: _ => rfl
theorem kPlus_two_one (T : Txt K mg) (c : Cal P w K mg base 34 "plus" ["one", "two"] (spPlus K)) : CalK P w K mg base 34 "plus" ["one", "two"] ["two", "one"] (spPlus K) gv_Plus_two_one := by
  refine calK_of c T.f_Plus T.g_Plus (fun us ws => match ws with | [z0, z1] => [z1, z0] | _ => []) (fun {vs zs us ws} _ r => ?_) (fun kV doc pm an cdv ct us ws hu hw => ?_) (fun zs => ?_)
  · cases r with
    | nil => exact .nil
    | cons r0 r' =>
      cases r' with
      | nil => exact .nil
      | cons r1 r'' =>
        cases r'' with
        | nil => exact (.cons r1 (.cons r0 .nil))
        | cons _ _ => exact .nil
  · match us, ws, hu, hw with
    | [], [_, _], _, _ => rfl
  · match zs with
    | [] => rfl
    | [_] => rfl
    | [_, _] => rfl
    | _ :: _ :: _ :: _ => rfl
theorem kMinus_two_one (T : Txt K mg) (c : Cal P w K mg base 34 "minus" ["one", "two"] (spMinus K)) : CalK P w K mg base 34 "minus" ["one", "two"] ["two", "one"] (spMinus K) gv_Minus_two_one := by
  refine calK_of c T.f_Minus T.g_Minus (fun us ws => match ws with | [z0, z1] => [z1, z0] | _ => []) (fun {vs zs us ws} _ r => ?_) (fun kV doc pm an cdv ct us ws hu hw => ?_) (fun zs => ?_)
  · cases r with
    | nil => exact .nil
    | cons r0 r' =>
      cases r' with
      | nil => exact .nil
      | cons r1 r'' =>
        cases r'' with
        | nil => exact (.cons r1 (.cons r0 .nil))
        | cons _ _ => exact .nil
  · match us, ws, hu, hw with
    | [], [_, _], _, _ => rfl
  · match zs with
    | [] => rfl
    | [_] => rfl
    | [_, _] => rfl
    | _ :: _ :: _ :: _ => rfl
theorem kTimes_two_one (T : Txt K mg) (c : Cal P w K mg base 34 "times" ["one", "two"] (spTimes K)) : CalK P w K mg base 34 "times" ["one", "two"] ["two", "one"] (spTimes K) gv_Times_two_one := by
  refine calK_of c T.f_Times T.g_Times (fun us ws => match ws with | [z0, z1] => [z1, z0] | _ => []) (fun {vs zs us ws} _ r => ?_) (fun kV doc pm an cdv ct us ws hu hw => ?_) (fun zs => ?_)
  · cases r with
    | nil => exact .nil
    | cons r0 r' =>
      cases r' with
      | nil => exact .nil
      | cons r1 r'' =>
        cases r'' with
        | nil => exact (.cons r1 (.cons r0 .nil))
        | cons _ _ => exact .nil
  · match us, ws, hu, hw with
    | [], [_, _], _, _ => rfl
  · match zs with
    | [] => rfl
    | [_] => rfl
    | [_, _] => rfl
    | _ :: _ :: _ :: _ => rfl
theorem kOrder_two_one (T : Txt K mg) (c : Cal P w K mg base 1 "order" ["one", "two"] (spOrder K)) : CalK P w K mg base 1 "order" ["one", "two"] ["two", "one"] (spOrder K) gv_Order_two_one := by
  refine calK_of c T.f_Order T.g_Order (fun us ws => match ws with | [z0, z1] => [z1, z0] | _ => []) (fun {vs zs us ws} _ r => ?_) (fun kV doc pm an cdv ct us ws hu hw => ?_) (fun zs => ?_)
  · cases r with
    | nil => exact .nil
    | cons r0 r' =>
      cases r' with
      | nil => exact .nil
      | cons r1 r'' =>
        cases r'' with
        | nil => exact (.cons r1 (.cons r0 .nil))
        | cons _ _ => exact .nil
  · match us, ws, hu, hw with
    | [], [_, _], _, _ => rfl
  · match zs with
    | [] => rfl
    | [_] => rfl
    | [_, _] => rfl
    | _ :: _ :: _ :: _ => rfl
theorem kRow_line_tops (T : Txt K mg) (c : Cal P w K mg base 33 "row" ["tops", "line"] (spRow K)) : CalK P w K mg base 33 "row" ["tops", "line"] ["line", "tops"] (spRow K) gv_Row_line_tops := by
  refine calK_ofD c T.f_Row T.g_Row (fun us its ws => match its, ws with | [d0], [z0, z1] => [z1, z0] | _, _ => []) (by simp) (fun {vs ds zs us its ws} _ q r => ?_) (fun T kV doc pm an cdv ct us its ws hu hi hw => ?_) (fun zs => ?_)
  · cases q with
    | nil => exact .nil
    | cons e0 q' =>
      cases q' with
      | cons _ _ => exact .nil
      | nil =>
        cases r with
        | nil => exact .nil
        | cons r0 r' =>
          cases r' with
          | nil => exact .nil
          | cons r1 r'' =>
            cases r'' with
            | nil => exact (.cons r1 (.cons r0 .nil))
            | cons _ _ => exact .nil
  · match us, its, ws, hu, hi, hw with
    | [], [_], [_, _], _, _, _ => exact ⟨_, rfl, rfl⟩
  · match zs with
    | [] => rfl
    | [_] => rfl
    | [_, _] => rfl
    | _ :: _ :: _ :: _ => rfl
theorem kRow_tops_line (T : Txt K mg) (c : Cal P w K mg base 33 "row" ["tops", "line"] (spRow K)) : CalK P w K mg base 33 "row" ["tops", "line"] ["tops", "line"] (spRow K) gv_Row_tops_line := by
  refine calK_ofD c T.f_Row T.g_Row (fun us its ws => match its, ws with | [d0], [z0, z1] => [z0, z1] | _, _ => []) (by simp) (fun {vs ds zs us its ws} _ q r => ?_) (fun T kV doc pm an cdv ct us its ws hu hi hw => ?_) (fun zs => ?_)
  · cases q with
    | nil => exact .nil
    | cons e0 q' =>
      cases q' with
      | cons _ _ => exact .nil
      | nil =>
        cases r with
        | nil => exact .nil
        | cons r0 r' =>
          cases r' with
          | nil => exact .nil
          | cons r1 r'' =>
            cases r'' with
            | nil => exact (.cons r0 (.cons r1 .nil))
            | cons _ _ => exact .nil
  · match us, its, ws, hu, hi, hw with
    | [], [_], [_, _], _, _, _ => exact ⟨_, rfl, rfl⟩
  · match zs with
    | [] => rfl
    | [_] => rfl
    | [_, _] => rfl
    | _ :: _ :: _ :: _ => rfl
theorem kRow_tops (T : Txt K mg) (c : Cal P w K mg base 33 "row" ["tops", "line"] (spRow K)) : CalK P w K mg base 33 "row" ["tops", "line"] ["tops"] (spRow K) gv_Row_tops := by
  refine calK_ofD c T.f_Row T.g_Row (fun us its ws => match its, ws with | [d0], [z0] => [z0, d0] | _, _ => []) (by simp) (fun {vs ds zs us its ws} _ q r => ?_) (fun T kV doc pm an cdv ct us its ws hu hi hw => ?_) (fun zs => ?_)
  · cases q with
    | nil => exact .nil
    | cons e0 q' =>
      cases q' with
      | cons _ _ => exact .nil
      | nil =>
        cases r with
        | nil => exact .nil
        | cons r0 r' =>
          cases r' with
          | nil => exact (.cons r0 (.cons e0 .nil))
          | cons _ _ => exact .nil
  · match us, its, ws, hu, hi, hw with
    | [], [_], [_], _, _, _ => exact ⟨_, rfl, rfl⟩
  · match zs with
    | [] => rfl
    | [_] => rfl
    | _ :: _ :: _ => rfl
theorem kRowItems_one (T : Txt K mg) (c : Cal P w K mg base 34 "row_items" ["one"] (spRowItems K)) : CalK P w K mg base 34 "row_items" ["one"] ["one"] (spRowItems K) gv_RowItems_one := by
  refine calK_of c T.f_RowItems T.g_RowItems (fun us ws => match ws with | [z0] => [z0] | _ => []) (fun {vs zs us ws} _ r => ?_) (fun kV doc pm an cdv ct us ws hu hw => ?_) (fun zs => ?_)
  · cases r with
    | nil => exact .nil
    | cons r0 r' =>
      cases r' with
      | nil => exact (.cons r0 .nil)
      | cons _ _ => exact .nil
  · match us, ws, hu, hw with
    | [], [_], _, _ => rfl
  · match zs with
    | [] => rfl
    | [_] => rfl
    | _ :: _ :: _ => rfl
theorem kRowOf_ratios (T : Txt K mg) (c : Cal P w K mg base 34 "row_of" ["ratios"] (spRowOf K)) : CalK P w K mg base 34 "row_of" ["ratios"] ["ratios"] (spRowOf K) gv_RowOf_ratios := by
  refine calK_of c T.f_RowOf T.g_RowOf (fun us ws => match ws with | [z0] => [z0] | _ => []) (fun {vs zs us ws} _ r => ?_) (fun kV doc pm an cdv ct us ws hu hw => ?_) (fun zs => ?_)
  · cases r with
    | nil => exact .nil
    | cons r0 r' =>
      cases r' with
      | nil => exact (.cons r0 .nil)
      | cons _ _ => exact .nil
  · match us, ws, hu, hw with
    | [], [_], _, _ => rfl
  · match zs with
    | [] => rfl
    | [_] => rfl
    | _ :: _ :: _ => rfl
theorem kRowItem_index_one (T : Txt K mg) (c : Cal P w K mg base 34 "row_item" ["one", "index"] (spRowItem K)) : CalK P w K mg base 34 "row_item" ["one", "index"] ["index", "one"] (spRowItem K) gv_RowItem_index_one := by
  refine calK_of c T.f_RowItem T.g_RowItem (fun us ws => match ws with | [z0, z1] => [z1, z0] | _ => []) (fun {vs zs us ws} _ r => ?_) (fun kV doc pm an cdv ct us ws hu hw => ?_) (fun zs => ?_)
  · cases r with
    | nil => exact .nil
    | cons r0 r' =>
      cases r' with
      | nil => exact .nil
      | cons r1 r'' =>
        cases r'' with
        | nil => exact (.cons r1 (.cons r0 .nil))
        | cons _ _ => exact .nil
  · match us, ws, hu, hw with
    | [], [_, _], _, _ => rfl
  · match zs with
    | [] => rfl
    | [_] => rfl
    | [_, _] => rfl
    | _ :: _ :: _ :: _ => rfl
theorem kRowScaled_factor_one (T : Txt K mg) (c : Cal P w K mg base 34 "row_scaled" ["one", "factor"] (spRowScaled K)) : CalK P w K mg base 34 "row_scaled" ["one", "factor"] ["factor", "one"] (spRowScaled K) gv_RowScaled_factor_one := by
  refine calK_of c T.f_RowScaled T.g_RowScaled (fun us ws => match ws with | [z0, z1] => [z1, z0] | _ => []) (fun {vs zs us ws} _ r => ?_) (fun kV doc pm an cdv ct us ws hu hw => ?_) (fun zs => ?_)
  · cases r with
    | nil => exact .nil
    | cons r0 r' =>
      cases r' with
      | nil => exact .nil
      | cons r1 r'' =>
        cases r'' with
        | nil => exact (.cons r1 (.cons r0 .nil))
        | cons _ _ => exact .nil
  · match us, ws, hu, hw with
    | [], [_, _], _, _ => rfl
  · match zs with
    | [] => rfl
    | [_] => rfl
    | [_, _] => rfl
    | _ :: _ :: _ :: _ => rfl
theorem kRowSum_two_one (T : Txt K mg) (c : Cal P w K mg base 34 "row_sum" ["one", "two"] (spRowSum K)) : CalK P w K mg base 34 "row_sum" ["one", "two"] ["two", "one"] (spRowSum K) gv_RowSum_two_one := by
  refine calK_of c T.f_RowSum T.g_RowSum (fun us ws => match ws with | [z0, z1] => [z1, z0] | _ => []) (fun {vs zs us ws} _ r => ?_) (fun kV doc pm an cdv ct us ws hu hw => ?_) (fun zs => ?_)
  · cases r with
    | nil => exact .nil
    | cons r0 r' =>
      cases r' with
      | nil => exact .nil
      | cons r1 r'' =>
        cases r'' with
        | nil => exact (.cons r1 (.cons r0 .nil))
        | cons _ _ => exact .nil
  · match us, ws, hu, hw with
    | [], [_, _], _, _ => rfl
  · match zs with
    | [] => rfl
    | [_] => rfl
    | [_, _] => rfl
    | _ :: _ :: _ :: _ => rfl
theorem kDot_two_one (T : Txt K mg) (c : Cal P w K mg base 34 "dot" ["one", "two"] (spDot K)) : CalK P w K mg base 34 "dot" ["one", "two"] ["two", "one"] (spDot K) gv_Dot_two_one := by
  refine calK_of c T.f_Dot T.g_Dot (fun us ws => match ws with | [z0, z1] => [z1, z0] | _ => []) (fun {vs zs us ws} _ r => ?_) (fun kV doc pm an cdv ct us ws hu hw => ?_) (fun zs => ?_)
  · cases r with
    | nil => exact .nil
    | cons r0 r' =>
      cases r' with
      | nil => exact .nil
      | cons r1 r'' =>
        cases r'' with
        | nil => exact (.cons r1 (.cons r0 .nil))
        | cons _ _ => exact .nil
  · match us, ws, hu, hw with
    | [], [_, _], _, _ => rfl
  · match zs with
    | [] => rfl
    | [_] => rfl
    | [_, _] => rfl
    | _ :: _ :: _ :: _ => rfl
theorem kEOver_two_one (T : Txt K mg) (c : CalE P w K mg base 34 "over" ["one", "two"] (spEOver K)) : CalKE P w K mg base 34 "over" ["one", "two"] ["two", "one"] (spEOver K) gv_Over_two_one := by
  refine calKE_of c T.f_Over T.g_Over (fun us ws => match ws with | [z0, z1] => [z1, z0] | _ => []) (fun {vs zs us ws} _ r => ?_) (fun kV doc pm an cdv ct us ws hu hw => ?_) (fun zs => ?_)
  · cases r with
    | nil => exact .nil
    | cons r0 r' =>
      cases r' with
      | nil => exact .nil
      | cons r1 r'' =>
        cases r'' with
        | nil => exact (.cons r1 (.cons r0 .nil))
        | cons _ _ => exact .nil
  · match us, ws, hu, hw with
    | [], [_, _], _, _ => rfl
  · match zs with
    | [] => rfl
    | [_] => rfl
    | [_, _] => rfl
    | _ :: _ :: _ :: _ => rfl
theorem kERatio_bottom_top (T : Txt K mg) (c : CalE P w K mg base 33 "ratio" ["top", "bottom"] (spERatio K)) : CalKE P w K mg base 33 "ratio" ["top", "bottom"] ["bottom", "top"] (spERatio K) gv_Ratio_bottom_top := by
  refine calKE_ofD c T.f_Ratio T.g_Ratio (fun us its ws => match its, ws with | [d0], [z0, z1] => [z1, z0] | _, _ => []) (by simp) (fun {vs ds zs us its ws} _ q r => ?_) (fun T kV doc pm an cdv ct us its ws hu hi hw => ?_) (fun zs => ?_)
  · cases q with
    | nil => exact .nil
    | cons e0 q' =>
      cases q' with
      | cons _ _ => exact .nil
      | nil =>
        cases r with
        | nil => exact .nil
        | cons r0 r' =>
          cases r' with
          | nil => exact .nil
          | cons r1 r'' =>
            cases r'' with
            | nil => exact (.cons r1 (.cons r0 .nil))
            | cons _ _ => exact .nil
  · match us, its, ws, hu, hi, hw with
    | [], [_], [_, _], _, _, _ => exact ⟨_, rfl, rfl⟩
  · match zs with
    | [] => rfl
    | [_] => rfl
    | [_, _] => rfl
    | _ :: _ :: _ :: _ => rfl
end
end K00

set_option Elab.async false
set_option linter.all false
set_option maxRecDepth 100000
set_option maxHeartbeats 0
namespace K00
open PySem PySem.Spec PyProof.Rows L2
/-! ### the head: facts by names -/
def dRatio : He.DefD := ⟨("ratio", none), "ratio", "ratio", defArgs sRatio, defBody sRatio, defScope sRatio, [.int 1], []⟩
def dPlus : He.DefD := ⟨("plus", none), "plus", "plus", defArgs sPlus, defBody sPlus, defScope sPlus, [], []⟩
def dMinus : He.DefD := ⟨("minus", none), "minus", "minus", defArgs sMinus, defBody sMinus, defScope sMinus, [], []⟩
def dTimes : He.DefD := ⟨("times", none), "times", "times", defArgs sTimes, defBody sTimes, defScope sTimes, [], []⟩
def dOver : He.DefD := ⟨("over", none), "over", "over", defArgs sOver, defBody sOver, defScope sOver, [], []⟩
def dOrder : He.DefD := ⟨("order", none), "order", "order", defArgs sOrder, defBody sOrder, defScope sOrder, [], []⟩
def dRow : He.DefD := ⟨("row", none), "row", "row", defArgs sRow, defBody sRow, defScope sRow, [.int 1], []⟩
def dRowOf : He.DefD := ⟨("row_of", none), "row_of", "row_of", defArgs sRowOf, defBody sRowOf, defScope sRowOf, [], []⟩
def dRowItem : He.DefD := ⟨("row_item", none), "row_item", "row_item", defArgs sRowItem, defBody sRowItem, defScope sRowItem, [], []⟩
def dRowItems : He.DefD := ⟨("row_items", none), "row_items", "row_items", defArgs sRowItems, defBody sRowItems, defScope sRowItems, [], []⟩
def dRowSum : He.DefD := ⟨("row_sum", none), "row_sum", "row_sum", defArgs sRowSum, defBody sRowSum, defScope sRowSum, [], []⟩
def dRowScaled : He.DefD := ⟨("row_scaled", none), "row_scaled", "row_scaled", defArgs sRowScaled, defBody sRowScaled, defScope sRowScaled, [], []⟩
def dDot : He.DefD := ⟨("dot", none), "dot", "dot", defArgs sDot, defBody sDot, defScope sDot, [], []⟩
def dLawWhole : He.DefD := ⟨("_law_whole", none), "_law_whole", "_law_whole", defArgs sLawWhole, defBody sLawWhole, defScope sLawWhole, [], []⟩
def dLawCell : He.DefD := ⟨("_law_cell", none), "_law_cell", "_law_cell", defArgs sLawCell, defBody sLawCell, defScope sLawCell, [], []⟩
def dLawDigits : He.DefD := ⟨("_law_digits", none), "_law_digits", "_law_digits", defArgs sLawDigits, defBody sLawDigits, defScope sLawDigits, [], []⟩
def dLawGcd : He.DefD := ⟨("_law_gcd", none), "_law_gcd", "_law_gcd", defArgs sLawGcd, defBody sLawGcd, defScope sLawGcd, [], []⟩
def dLawCommon : He.DefD := ⟨("_law_common", none), "_law_common", "_law_common", defArgs sLawCommon, defBody sLawCommon, defScope sLawCommon, [], []⟩
def dLawRatio : He.DefD := ⟨("_law_ratio", none), "_law_ratio", "_law_ratio", defArgs sLawRatio, defBody sLawRatio, defScope sLawRatio, [], []⟩
def dLawIsRatio : He.DefD := ⟨("_law_is_ratio", none), "_law_is_ratio", "_law_is_ratio", defArgs sLawIsRatio, defBody sLawIsRatio, defScope sLawIsRatio, [], []⟩
def dLawIsRow : He.DefD := ⟨("_law_is_row", none), "_law_is_row", "_law_is_row", defArgs sLawIsRow, defBody sLawIsRow, defScope sLawIsRow, [], []⟩
def dLawJust : He.DefD := ⟨("_law_just", none), "_law_just", "_law_just", defArgs sLawJust, defBody sLawJust, defScope sLawJust, [], []⟩
def dLawLong : He.DefD := ⟨("_law_long", none), "_law_long", "_law_long", defArgs sLawLong, defBody sLawLong, defScope sLawLong, [], []⟩
def dLawNumbers : He.DefD := ⟨("_law_numbers", none), "_law_numbers", "_law_numbers", defArgs sLawNumbers, defBody sLawNumbers, defScope sLawNumbers, [], []⟩
def dLawTold : He.DefD := ⟨("_law_told", none), "_law_told", "_law_told", defArgs sLawTold, defBody sLawTold, defScope sLawTold, [], []⟩
def dLawSame : He.DefD := ⟨("_law_same", none), "_law_same", "_law_same", defArgs sLawSame, defBody sLawSame, defScope sLawSame, [], []⟩
def dLawAdded : He.DefD := ⟨("_law_added", none), "_law_added", "_law_added", defArgs sLawAdded, defBody sLawAdded, defScope sLawAdded, [], []⟩
def dLawBy : He.DefD := ⟨("_law_by", none), "_law_by", "_law_by", defArgs sLawBy, defBody sLawBy, defScope sLawBy, [], []⟩
def dLawDotted : He.DefD := ⟨("_law_dotted", none), "_law_dotted", "_law_dotted", defArgs sLawDotted, defBody sLawDotted, defScope sLawDotted, [], []⟩
def dLawForm : He.DefD := ⟨("_law_form", none), "_law_form", "_law_form", defArgs sLawForm, defBody sLawForm, defScope sLawForm, [], []⟩
def dLawSecond : He.DefD := ⟨("_law_second", none), "_law_second", "_law_second", defArgs sLawSecond, defBody sLawSecond, defScope sLawSecond, [], []⟩
def dLawThird : He.DefD := ⟨("_law_third", none), "_law_third", "_law_third", defArgs sLawThird, defBody sLawThird, defScope sLawThird, [], []⟩
def dLawMade : He.DefD := ⟨("_law_made", none), "_law_made", "_law_made", defArgs sLawMade, defBody sLawMade, defScope sLawMade, [], []⟩
def dLawOneByOne : He.DefD := ⟨("_law_one_by_one", none), "_law_one_by_one", "_law_one_by_one", defArgs sLawOneByOne, defBody sLawOneByOne, defScope sLawOneByOne, [], []⟩
def dLawLinear : He.DefD := ⟨("_law_linear", none), "_law_linear", "_law_linear", defArgs sLawLinear, defBody sLawLinear, defScope sLawLinear, [], []⟩
def dLawGrown : He.DefD := ⟨("_law_grown", none), "_law_grown", "_law_grown", defArgs sLawGrown, defBody sLawGrown, defScope sLawGrown, [], []⟩
def dLawItems : He.DefD := ⟨("_law_items", none), "_law_items", "_law_items", defArgs sLawItems, defBody sLawItems, defScope sLawItems, [], []⟩
def dLawRefused : He.DefD := ⟨("_law_refused", none), "_law_refused", "_law_refused", defArgs sLawRefused, defBody sLawRefused, defScope sLawRefused, [], []⟩
def dLawNeighbours : He.DefD := ⟨("_law_neighbours", none), "_law_neighbours", "_law_neighbours", defArgs sLawNeighbours, defBody sLawNeighbours, defScope sLawNeighbours, [], []⟩
def dLaw : He.DefD := ⟨("law", none), "law", "law", defArgs sLaw, defBody sLaw, defScope sLaw, [], []⟩
def dZeroBottom_Init : He.DefD := ⟨("ZeroBottom", some "__init__"), "__init__", "ZeroBottom.__init__", defArgs sZeroBottom_Init, defBody sZeroBottom_Init, defScope sZeroBottom_Init, [], []⟩
def dBadLimit_Init : He.DefD := ⟨("BadLimit", some "__init__"), "__init__", "BadLimit.__init__", defArgs sBadLimit_Init, defBody sBadLimit_Init, defScope sBadLimit_Init, [], []⟩
def dBadRatio_Init : He.DefD := ⟨("BadRatio", some "__init__"), "__init__", "BadRatio.__init__", defArgs sBadRatio_Init, defBody sBadRatio_Init, defScope sBadRatio_Init, [], []⟩
def fn : List He.DefD := [dRatio, dPlus, dMinus, dTimes, dOver, dOrder, dRow, dRowOf, dRowItem, dRowItems, dRowSum, dRowScaled, dDot, dLawWhole, dLawCell, dLawDigits, dLawGcd, dLawCommon, dLawRatio, dLawIsRatio, dLawIsRow, dLawJust, dLawLong, dLawNumbers, dLawTold, dLawSame, dLawAdded, dLawBy, dLawDotted, dLawForm, dLawSecond, dLawThird, dLawMade, dLawOneByOne, dLawLinear, dLawGrown, dLawItems, dLawRefused, dLawNeighbours, dLaw, dZeroBottom_Init, dBadLimit_Init, dBadRatio_Init]
def fa : List He.Fa := [.glo "ratio", .glo "plus", .glo "minus", .glo "times", .glo "over", .glo "order", .glo "row", .glo "row_of", .glo "row_item", .glo "row_items", .glo "row_sum", .glo "row_scaled", .glo "dot", .glo "_law_whole", .glo "_law_cell", .glo "_law_digits", .glo "_law_gcd", .glo "_law_common", .glo "_law_ratio", .glo "_law_is_ratio", .glo "_law_is_row", .glo "_law_just", .glo "_law_long", .glo "_law_numbers", .glo "_law_told", .glo "_law_same", .glo "_law_added", .glo "_law_by", .glo "_law_dotted", .glo "_law_form", .glo "_law_second", .glo "_law_third", .glo "_law_made", .glo "_law_one_by_one", .glo "_law_linear", .glo "_law_grown", .glo "_law_items", .glo "_law_refused", .glo "_law_neighbours", .glo "law", .glo "MarksError", .glo "ZeroBottom", .glo "NoFlow", .glo "BadLimit", .glo "BadRatio", .free "ValueError", .free "abs", .free "bool", .free "int", .free "isinstance", .free "len", .free "list", .free "range", .free "sum", .free "tuple"]
def exs (K : PySem.W.Frag) : List Bool := [He.eqO (PySem.W.nsIn K mainGlobals "gcd") (some (some (.builtin "math.gcd"))), He.eqO (PySem.W.nsIn K mainGlobals "lcm") (some (some (.builtin "math.lcm"))), He.eqO (PySem.W.specialIn K (.builtin "object.__class__") "__get__") (some (some (.builtin "getset_descriptor.__get__"))), decide (PySem.W.takesIn K (.builtin "object.__class__") = some true), DL.seerB K, DL.exB K (He.ga K "ZeroBottom"), He.eqO (PySem.W.findIn K (.ref (He.ga K "ZeroBottom")) "__init__") (some (some (.ref (He.ma K (He.ga K "ZeroBottom") "__init__")))), decide (PySem.W.typeIn K (.ref (He.ma K (He.ga K "ZeroBottom") "__init__")) = some (.type "function")), He.eqO (PySem.W.findIn K (.ref (He.ga K "ZeroBottom")) "top") (some none), decide (PySem.W.exmOne K (.ref (He.ga K "ZeroBottom")) (.ref (He.ga K "MarksError")) = some true), decide (PySem.W.kitOne K (.ref (He.ga K "ZeroBottom")) (.ref (He.ga K "ZeroBottom")) = some true), decide (PySem.W.kitOne K (.ref (He.ga K "ZeroBottom")) (.ref (He.ga K "BadLimit")) = some false), decide (PySem.W.kitOne K (.ref (He.ga K "ZeroBottom")) (.ref (He.ga K "BadRatio")) = some false), decide (PySem.W.kitOne K (.ref (He.ga K "ZeroBottom")) (.ref (He.ga K "NoFlow")) = some false), He.eqO (PySem.W.specialIn K (.builtin "object.__class__") "__get__") (some (some (.builtin "getset_descriptor.__get__"))), decide (PySem.W.takesIn K (.builtin "object.__class__") = some true)]
def ex (K : PySem.W.Frag) : Bool := (exs K).all id
abbrev R : PySem.W.OpenRow := PySem.W.OpenLaw.row PySem.Challenge.rw_ledbymarks_k00_whole_two_arithmetics
def loose0 : List PySem.Str := ["ratio", "plus", "minus", "times", "over", "order", "row", "row_of", "row_item", "row_items", "row_sum", "row_scaled", "dot", "_law_whole", "_law_cell", "_law_digits", "_law_gcd", "_law_common", "_law_ratio", "_law_is_ratio", "_law_is_row", "_law_just", "_law_long", "_law_numbers", "_law_told", "_law_same", "_law_added", "_law_by", "_law_dotted", "_law_form"]
def loose1 : List PySem.Str := ["_law_second", "_law_third", "_law_made", "_law_one_by_one", "_law_linear", "_law_grown", "_law_items", "_law_refused", "_law_neighbours", "MarksError", "ZeroBottom", "NoFlow", "BadLimit", "BadRatio"]
def loose : List PySem.Str := loose0 ++ loose1
abbrev hk : PySem.W.Hook := DL.hookS 4 fa fn ex
def ob (s : PySem.W.SharedT) : DL.AlS := DL.obsS 4 fa fn ex (HandSHeadRun.getT s)
theorem ob_eq (s : PySem.W.SharedT) : ob s = hk.obs s.abs := DL.obsS_eq (HandSHeadRun.getT_eq s)
theorem run (w : World) : HandSHeadRun.RunEqI R (PySem.W.view R.prog [0, 49]) hk ob 4000 loose w := by
  unfold HandSHeadRun.RunEqI
  kernel_rfl
section
variable {K : PySem.W.Frag} {h : Heap} {mg : Str → Option Value} {w : World}
theorem ex_at (c : ex K = true) (i : Nat) {b : Bool} (h : (exs K)[i]? = some b := by rfl) : b = true := List.all_eq_true.mp c b (List.mem_of_getElem? h)
theorem txt_of (X : K.In h) (G : h.Ns mainGlobals mg) (c : DL.SaysS fa fn ex K) : Txt K mg where
  f_Ratio := c.d.def_ 0 (d := dRatio) rfl
  g_Ratio := He.glo_ok X G (c.d.fact 0 (f := .glo "ratio") rfl)
  f_Plus := c.d.def_ 1 (d := dPlus) rfl
  g_Plus := He.glo_ok X G (c.d.fact 1 (f := .glo "plus") rfl)
  f_Minus := c.d.def_ 2 (d := dMinus) rfl
  g_Minus := He.glo_ok X G (c.d.fact 2 (f := .glo "minus") rfl)
  f_Times := c.d.def_ 3 (d := dTimes) rfl
  g_Times := He.glo_ok X G (c.d.fact 3 (f := .glo "times") rfl)
  f_Over := c.d.def_ 4 (d := dOver) rfl
  g_Over := He.glo_ok X G (c.d.fact 4 (f := .glo "over") rfl)
  f_Order := c.d.def_ 5 (d := dOrder) rfl
  g_Order := He.glo_ok X G (c.d.fact 5 (f := .glo "order") rfl)
  f_Row := c.d.def_ 6 (d := dRow) rfl
  g_Row := He.glo_ok X G (c.d.fact 6 (f := .glo "row") rfl)
  f_RowOf := c.d.def_ 7 (d := dRowOf) rfl
  g_RowOf := He.glo_ok X G (c.d.fact 7 (f := .glo "row_of") rfl)
  f_RowItem := c.d.def_ 8 (d := dRowItem) rfl
  g_RowItem := He.glo_ok X G (c.d.fact 8 (f := .glo "row_item") rfl)
  f_RowItems := c.d.def_ 9 (d := dRowItems) rfl
  g_RowItems := He.glo_ok X G (c.d.fact 9 (f := .glo "row_items") rfl)
  f_RowSum := c.d.def_ 10 (d := dRowSum) rfl
  g_RowSum := He.glo_ok X G (c.d.fact 10 (f := .glo "row_sum") rfl)
  f_RowScaled := c.d.def_ 11 (d := dRowScaled) rfl
  g_RowScaled := He.glo_ok X G (c.d.fact 11 (f := .glo "row_scaled") rfl)
  f_Dot := c.d.def_ 12 (d := dDot) rfl
  g_Dot := He.glo_ok X G (c.d.fact 12 (f := .glo "dot") rfl)
  f_LawWhole := c.d.def_ 13 (d := dLawWhole) rfl
  g_LawWhole := He.glo_ok X G (c.d.fact 13 (f := .glo "_law_whole") rfl)
  f_LawCell := c.d.def_ 14 (d := dLawCell) rfl
  g_LawCell := He.glo_ok X G (c.d.fact 14 (f := .glo "_law_cell") rfl)
  f_LawDigits := c.d.def_ 15 (d := dLawDigits) rfl
  g_LawDigits := He.glo_ok X G (c.d.fact 15 (f := .glo "_law_digits") rfl)
  f_LawGcd := c.d.def_ 16 (d := dLawGcd) rfl
  g_LawGcd := He.glo_ok X G (c.d.fact 16 (f := .glo "_law_gcd") rfl)
  f_LawCommon := c.d.def_ 17 (d := dLawCommon) rfl
  g_LawCommon := He.glo_ok X G (c.d.fact 17 (f := .glo "_law_common") rfl)
  f_LawRatio := c.d.def_ 18 (d := dLawRatio) rfl
  g_LawRatio := He.glo_ok X G (c.d.fact 18 (f := .glo "_law_ratio") rfl)
  f_LawIsRatio := c.d.def_ 19 (d := dLawIsRatio) rfl
  g_LawIsRatio := He.glo_ok X G (c.d.fact 19 (f := .glo "_law_is_ratio") rfl)
  f_LawIsRow := c.d.def_ 20 (d := dLawIsRow) rfl
  g_LawIsRow := He.glo_ok X G (c.d.fact 20 (f := .glo "_law_is_row") rfl)
  f_LawJust := c.d.def_ 21 (d := dLawJust) rfl
  g_LawJust := He.glo_ok X G (c.d.fact 21 (f := .glo "_law_just") rfl)
  f_LawLong := c.d.def_ 22 (d := dLawLong) rfl
  g_LawLong := He.glo_ok X G (c.d.fact 22 (f := .glo "_law_long") rfl)
  f_LawNumbers := c.d.def_ 23 (d := dLawNumbers) rfl
  g_LawNumbers := He.glo_ok X G (c.d.fact 23 (f := .glo "_law_numbers") rfl)
  f_LawTold := c.d.def_ 24 (d := dLawTold) rfl
  g_LawTold := He.glo_ok X G (c.d.fact 24 (f := .glo "_law_told") rfl)
  f_LawSame := c.d.def_ 25 (d := dLawSame) rfl
  g_LawSame := He.glo_ok X G (c.d.fact 25 (f := .glo "_law_same") rfl)
  f_LawAdded := c.d.def_ 26 (d := dLawAdded) rfl
  g_LawAdded := He.glo_ok X G (c.d.fact 26 (f := .glo "_law_added") rfl)
  f_LawBy := c.d.def_ 27 (d := dLawBy) rfl
  g_LawBy := He.glo_ok X G (c.d.fact 27 (f := .glo "_law_by") rfl)
  f_LawDotted := c.d.def_ 28 (d := dLawDotted) rfl
  g_LawDotted := He.glo_ok X G (c.d.fact 28 (f := .glo "_law_dotted") rfl)
  f_LawForm := c.d.def_ 29 (d := dLawForm) rfl
  g_LawForm := He.glo_ok X G (c.d.fact 29 (f := .glo "_law_form") rfl)
  f_LawSecond := c.d.def_ 30 (d := dLawSecond) rfl
  g_LawSecond := He.glo_ok X G (c.d.fact 30 (f := .glo "_law_second") rfl)
  f_LawThird := c.d.def_ 31 (d := dLawThird) rfl
  g_LawThird := He.glo_ok X G (c.d.fact 31 (f := .glo "_law_third") rfl)
  f_LawMade := c.d.def_ 32 (d := dLawMade) rfl
  g_LawMade := He.glo_ok X G (c.d.fact 32 (f := .glo "_law_made") rfl)
  f_LawOneByOne := c.d.def_ 33 (d := dLawOneByOne) rfl
  g_LawOneByOne := He.glo_ok X G (c.d.fact 33 (f := .glo "_law_one_by_one") rfl)
  f_LawLinear := c.d.def_ 34 (d := dLawLinear) rfl
  g_LawLinear := He.glo_ok X G (c.d.fact 34 (f := .glo "_law_linear") rfl)
  f_LawGrown := c.d.def_ 35 (d := dLawGrown) rfl
  g_LawGrown := He.glo_ok X G (c.d.fact 35 (f := .glo "_law_grown") rfl)
  f_LawItems := c.d.def_ 36 (d := dLawItems) rfl
  g_LawItems := He.glo_ok X G (c.d.fact 36 (f := .glo "_law_items") rfl)
  f_LawRefused := c.d.def_ 37 (d := dLawRefused) rfl
  g_LawRefused := He.glo_ok X G (c.d.fact 37 (f := .glo "_law_refused") rfl)
  f_LawNeighbours := c.d.def_ 38 (d := dLawNeighbours) rfl
  g_LawNeighbours := He.glo_ok X G (c.d.fact 38 (f := .glo "_law_neighbours") rfl)
  f_Law := c.d.def_ 39 (d := dLaw) rfl
  g_Law := He.glo_ok X G (c.d.fact 39 (f := .glo "law") rfl)
  g_MarksError := He.glo_ok X G (c.d.fact 40 (f := .glo "MarksError") rfl)
  g_ZeroBottom := He.glo_ok X G (c.d.fact 41 (f := .glo "ZeroBottom") rfl)
  f_ZeroBottom_Init := c.d.def_ 40 (d := dZeroBottom_Init) rfl
  g_NoFlow := He.glo_ok X G (c.d.fact 42 (f := .glo "NoFlow") rfl)
  g_BadLimit := He.glo_ok X G (c.d.fact 43 (f := .glo "BadLimit") rfl)
  f_BadLimit_Init := c.d.def_ 41 (d := dBadLimit_Init) rfl
  g_BadRatio := He.glo_ok X G (c.d.fact 44 (f := .glo "BadRatio") rfl)
  f_BadRatio_Init := c.d.def_ 42 (d := dBadRatio_Init) rfl
  b_ValueError := He.free_ok X G (c.d.fact 45 (f := .free "ValueError") rfl)
  b_abs := He.free_ok X G (c.d.fact 46 (f := .free "abs") rfl)
  b_bool := He.free_ok X G (c.d.fact 47 (f := .free "bool") rfl)
  b_int := He.free_ok X G (c.d.fact 48 (f := .free "int") rfl)
  b_isinstance := He.free_ok X G (c.d.fact 49 (f := .free "isinstance") rfl)
  b_len := He.free_ok X G (c.d.fact 50 (f := .free "len") rfl)
  b_list := He.free_ok X G (c.d.fact 51 (f := .free "list") rfl)
  b_range := He.free_ok X G (c.d.fact 52 (f := .free "range") rfl)
  b_sum := He.free_ok X G (c.d.fact 53 (f := .free "sum") rfl)
  b_tuple := He.free_ok X G (c.d.fact 54 (f := .free "tuple") rfl)
  sb := ex_at c.more 4
  e_ZeroBottom := DL.exB_ok (ex_at c.more 5)
  ei_ZeroBottom := He.eqO_ok (ex_at c.more 6)
  et_ZeroBottom := of_decide_eq_true (ex_at c.more 7)
  en_ZeroBottom_Top := He.eqO_ok (ex_at c.more 8)
  ec_ZeroBottom_MarksError := of_decide_eq_true (ex_at c.more 9)
  ek_ZeroBottom_ZeroBottom := of_decide_eq_true (ex_at c.more 10)
  ek_ZeroBottom_BadLimit := of_decide_eq_true (ex_at c.more 11)
  ek_ZeroBottom_BadRatio := of_decide_eq_true (ex_at c.more 12)
  ek_ZeroBottom_NoFlow := of_decide_eq_true (ex_at c.more 13)
  hn := He.eqO_ok (ex_at c.more 14)
  ht := of_decide_eq_true (ex_at c.more 15)
  m_gcd := PySem.W.mg_of X G (He.eqO_ok (ex_at c.more 0))
  m_lcm := PySem.W.mg_of X G (He.eqO_ok (ex_at c.more 1))
end
end K00

set_option Elab.async false
set_option linter.all false
set_option maxRecDepth 100000
set_option maxHeartbeats 0
namespace K00
open PySem PySem.Spec PyProof.Rows L2 DL R0
section
variable {P : Program} {w : World} {K : PySem.W.Frag} {mg : Str → Option Value} {base : Heap}
theorem law_cal (T : Txt K mg) (N : DL.Nos P K) : Cal P w K mg base 37 "law" ["script"] (spLaw K) := by
  have c_LawDigits := okLawDigits (P := P) (w := w) (base := base) T 
  have c_LawCell := okLawCell (P := P) (w := w) (base := base) T 
  have c_LawLong := okLawLong (P := P) (w := w) (base := base) T c_LawDigits
  have c_LawNumbers := okLawNumbers (P := P) (w := w) (base := base) T c_LawLong
  have c_LawSecond := okLawSecond (P := P) (w := w) (base := base) T 
  have c_LawWhole := okLawWhole (P := P) (w := w) (base := base) T 
  have c_LawGcd := okLawGcd (P := P) (w := w) (base := base) T 
  have c_LawIsRatio := okLawIsRatio (P := P) (w := w) (base := base) T c_LawWhole c_LawGcd
  have c_LawJust := okLawJust (P := P) (w := w) (base := base) T c_LawIsRatio
  have c_Row := okRow (P := P) (w := w) (base := base) T N
  have c_RowOf := okRowOf (P := P) (w := w) (base := base) T c_Row N
  have c_LawCommon := okLawCommon (P := P) (w := w) (base := base) T c_LawGcd
  have c_LawIsRow := okLawIsRow (P := P) (w := w) (base := base) T c_LawWhole c_LawGcd c_LawCommon
  have c_LawSame := okLawSame (P := P) (w := w) (base := base) T c_LawIsRow
  have c_Ratio := okRatio (P := P) (w := w) (base := base) T N
  have c_Ratio_bottom_top := kRatio_bottom_top (P := P) (w := w) (base := base) T c_Ratio
  have c_RowOf_ratios := kRowOf_ratios (P := P) (w := w) (base := base) T c_RowOf
  have c_LawThird := okLawThird (P := P) (w := w) (base := base) T c_LawJust c_RowOf c_LawSame c_Ratio_bottom_top c_RowOf_ratios
  have c_Row_line_tops := kRow_line_tops (P := P) (w := w) (base := base) T c_Row
  have c_Row_tops := kRow_tops (P := P) (w := w) (base := base) T c_Row
  have c_LawMade := okLawMade (P := P) (w := w) (base := base) T c_LawSame c_Row c_Row_line_tops c_Row_tops
  have c_RowItems := okRowItems (P := P) (w := w) (base := base) T c_Ratio
  have c_LawForm := okLawForm (P := P) (w := w) (base := base) T 
  have c_LawTold := okLawTold (P := P) (w := w) (base := base) T c_LawWhole
  have c_RowItems_one := kRowItems_one (P := P) (w := w) (base := base) T c_RowItems
  have c_RowOf_ratios := kRowOf_ratios (P := P) (w := w) (base := base) T c_RowOf
  have c_LawItems := okLawItems (P := P) (w := w) (base := base) T c_LawJust c_RowItems c_LawForm c_LawTold c_LawSame c_RowItems_one c_RowOf_ratios
  have c_LawDotted := okLawDotted (P := P) (w := w) (base := base) T 
  have c_Dot := okDot (P := P) (w := w) (base := base) T c_Ratio
  have c_RowSum := okRowSum (P := P) (w := w) (base := base) T c_Row
  have c_LawAdded := okLawAdded (P := P) (w := w) (base := base) T 
  have c_LawRatio := okLawRatio (P := P) (w := w) (base := base) T c_LawGcd N
  have c_Plus := okPlus (P := P) (w := w) (base := base) T c_Ratio
  have c_Times := okTimes (P := P) (w := w) (base := base) T c_Ratio
  have c_RowScaled := okRowScaled (P := P) (w := w) (base := base) T c_Row
  have c_LawBy := okLawBy (P := P) (w := w) (base := base) T 
  have c_RowSum_two_one := kRowSum_two_one (P := P) (w := w) (base := base) T c_RowSum
  have c_RowScaled_factor_one := kRowScaled_factor_one (P := P) (w := w) (base := base) T c_RowScaled
  have c_LawGrown := okLawGrown (P := P) (w := w) (base := base) T c_LawAdded c_Dot c_LawDotted c_RowScaled c_LawBy c_LawSame c_RowSum c_LawForm c_RowSum_two_one c_RowScaled_factor_one
  have c_Dot_two_one := kDot_two_one (P := P) (w := w) (base := base) T c_Dot
  have c_LawLinear := okLawLinear (P := P) (w := w) (base := base) T c_LawDotted c_LawJust c_Dot c_LawForm c_RowSum c_LawAdded c_LawRatio c_LawTold c_Plus c_Times c_RowScaled c_LawGrown c_Dot_two_one
  have c_RowItem := okRowItem (P := P) (w := w) (base := base) T c_Ratio
  have c_Minus := okMinus (P := P) (w := w) (base := base) T c_Ratio
  have c_Order := okOrder (P := P) (w := w) (base := base) T 
  have c_Over := okOver (P := P) (w := w) (base := base) T c_Ratio
  have c_RowSum_two_one := kRowSum_two_one (P := P) (w := w) (base := base) T c_RowSum
  have c_RowScaled_factor_one := kRowScaled_factor_one (P := P) (w := w) (base := base) T c_RowScaled
  have c_RowItem_index_one := kRowItem_index_one (P := P) (w := w) (base := base) T c_RowItem
  have c_Plus_two_one := kPlus_two_one (P := P) (w := w) (base := base) T c_Plus
  have c_Minus_two_one := kMinus_two_one (P := P) (w := w) (base := base) T c_Minus
  have c_Times_two_one := kTimes_two_one (P := P) (w := w) (base := base) T c_Times
  have c_Order_two_one := kOrder_two_one (P := P) (w := w) (base := base) T c_Order
  have c_Over_two_one := kOver_two_one (P := P) (w := w) (base := base) T c_Over
  have c_LawOneByOne := okLawOneByOne (P := P) (w := w) (base := base) T c_RowSum c_LawSame c_LawAdded c_LawBy c_LawRatio c_RowItem c_LawJust c_LawTold c_Minus c_Order c_LawWhole c_RowSum_two_one c_RowScaled_factor_one c_RowItem_index_one c_Plus_two_one c_Minus_two_one c_Times_two_one c_Order_two_one c_Over_two_one
  have e_Over := okEOver (P := P) (w := w) (base := base) T c_Over c_Ratio (xmkZeroBottom T)
  have e_Ratio := okERatio (P := P) (w := w) (base := base) T c_Ratio  (xmkZeroBottom T) N
  have e_Over_two_one := kEOver_two_one (P := P) (w := w) (base := base) T e_Over
  have e_Ratio_bottom_top := kERatio_bottom_top (P := P) (w := w) (base := base) T e_Ratio
  have h_LawWhole := okHLawWhole (P := P) (w := w) (base := base) T
  have c_LawRefused := okLawRefused (P := P) (w := w) (base := base) T e_Over e_Ratio e_Over_two_one e_Ratio_bottom_top h_LawWhole
  have c_Ratio_top := kRatio_top (P := P) (w := w) (base := base) T c_Ratio
  have c_Over_two_one := kOver_two_one (P := P) (w := w) (base := base) T c_Over
  have c_LawNeighbours := okLawNeighbours (P := P) (w := w) (base := base) T c_Ratio c_Over c_LawJust c_Ratio_top c_Over_two_one
  have c_Row_tops_line := kRow_tops_line (P := P) (w := w) (base := base) T c_Row
  have c_Law := okLaw (P := P) (w := w) (base := base) T c_LawDigits c_LawCell c_LawNumbers c_LawSecond c_LawThird c_Ratio c_LawJust c_LawMade c_LawItems c_LawLinear c_LawOneByOne c_LawRatio c_LawRefused c_LawNeighbours c_LawSame c_Row c_LawDotted c_Dot c_Row_tops_line
  exact c_Law
theorem facts {h : Heap} {f : Addr} (ht : P.given.tree = none) (X : K.In h) (G : h.Ns mainGlobals mg) (hfa : mg ("law" : Str) = some (.ref f)) (c : DL.SaysS fa fn ex K) :
    ∃ fd : FuncData, (∀ (s : Shared) (v : Value), BindsTo s fd ⟨[v], []⟩ [("script", v)]) ∧ ∀ base : Heap, K.In base → base.Ns mainGlobals mg → FnOk P w K mg base CX0 37 f fd ["script"] (spLaw K) := by
  have T : Txt K mg := txt_of X G c
  obtain ⟨fd, F⟩ := T.f_Law
  have e := hfa.symm.trans T.g_Law
  cases e
  have b := FunD.bindsA (ps := ["script"]) F fun _ _ _ _ _ _ us hl => match us, hl with | [_], _ => rfl
  refine ⟨fd, fun s v => b s [v] rfl, fun base _ _ => ?_⟩
  obtain ⟨f', fd', ds, hm', hk, Fo, b', hd, oc, od, osl, lk⟩ := (law_cal (P := P) (w := w) (base := base) T ⟨ht, T.sb⟩).ex
  rw [hfa] at hm'
  cases hm'
  obtain ⟨oc2, od2, osl2, lk2⟩ := fd_at F
  rw [lk] at lk2
  cases lk2
  exact Fo
end
end K00
open PySem PySem.W PySem.Calls PyProof.Rows
theorem PySem.Challenge.cw_ledbymarks_k00_whole_two_arithmetics_holds : PySem.Challenge.rw_ledbymarks_k00_whole_two_arithmetics.Holds := by
  w_on; o_law
  refine HandSHeadRun.head_imp (r := OpenLaw.row PySem.Challenge.rw_ledbymarks_k00_whole_two_arithmetics) (q := view (OpenLaw.row PySem.Challenge.rw_ledbymarks_k00_whole_two_arithmetics).prog [0, 49]) (H := K00.hk) (ob := K00.ob) (M := 4000) (loose := K00.loose) (d := HandSHeadRun.topDef (OpenLaw.row PySem.Challenge.rw_ledbymarks_k00_whole_two_arithmetics).prog 49) (kwd := []) K00.ob_eq
    K00.run (by kernel_rfl) (by kernel_rfl) (by kernel_rfl) (by rfl) (by first | assumption | decide +kernel) (by decide +kernel) ⟨rfl, rfl, rfl, rfl, rfl, by decide +kernel⟩ ?hw ?hc
  case hw => w_witness2
  case hc =>
    refine L2.walk_ofE (l := PySem.Challenge.rw_ledbymarks_k00_whole_two_arithmetics) (n := 63) (k := 37) (x := "script") (CX := L2.CX0) rfl (by decide) (by kernel_rfl) ⟨rfl, by decide, by decide⟩ ?F (fun _ _ _ _ z => z)
    intro w mg fa h Y G hmg0
    obtain ⟨K, KX, c⟩ := Y
    have hmg : mg ("law" : PySem.Str) = some (.ref fa) := by
      have e : (HandSHeadRun.topDef (OpenLaw.row PySem.Challenge.rw_ledbymarks_k00_whole_two_arithmetics).prog 49).name = ("law" : PySem.Str) := by kernel_rfl
      rw [← e]
      exact hmg0
    have ht : (PySem.Challenge.rw_ledbymarks_k00_whole_two_arithmetics).prog.given.tree = none := by first | rfl | kernel_rfl
    obtain ⟨fd, hb, hF⟩ := K00.facts (P := (PySem.Challenge.rw_ledbymarks_k00_whole_two_arithmetics).prog) (w := w) ht KX G hmg c
    refine ⟨K, fd, R0.spLaw K, KX, hb, fun H a ns hl _ hS => ?_, hF⟩
    exact ⟨H, ns, DL.Ex.refl H, .cons (.rd hS DL.Rps.ofInts) .nil, R0.lawOk ns, fun v H2 ⟨Hn, g, r⟩ => by
      cases r
      rfl⟩

