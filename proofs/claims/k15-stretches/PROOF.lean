import PyProof.Rows.All
import Wide.All
import OpenK.AllK
import Wide.FinOn
import HandS.ForMost
import HandS.Deep
import HandS.IsInst
import HandS.Wide
import HandS.StrMore
import HandS.Codes
import HandS.TupAny
import HandS.Exc
import HandS.ExcCtx
import PySem.Challenge.RW_asiffresh_k15_stretches_of_a_text
set_option Elab.async false
set_option linter.all false
set_option maxRecDepth 100000
set_option maxHeartbeats 4000000
/-! DD: value semantics of immutable data (PyData), with owned lists in slots, over the judgements of HandS. -/
namespace DD
open PySem PySem.Spec PyProof.Rows L2

/-- what a slot holds: frozen data; a list of the def's own; a list that was handed in to be changed -/
inductive Sl where
  | val (d : PyData)
  | own (xs : List PyData)
  | par (xs : List PyData)
abbrev DSt := List (Option Sl)
/-- what an expression gives: frozen data, or the owned list in a slot -/
inductive Ar where
  | val (d : PyData)
  | sl (i : Nat)
abbrev DTE := DSt → (Ar → DSt → Prop) → Prop
abbrev DTT := DSt → (Bool → DSt → Prop) → Prop
abbrev DTA := DSt → (List Ar → DSt → Prop) → Prop
structure DEnds where
  nx : DSt → Prop
  rt : Sl → DSt → Prop
  bk : DSt → Prop := fun _ => False
  ct : DSt → Prop := fun _ => False
abbrev DTS := DEnds → DSt → Prop

def OwnC (δ : DSt) (i : Nat) (xs : List PyData) : Prop := δ[i]? = some (some (.own xs)) ∨ δ[i]? = some (some (.par xs))
def OwnA (σ : L2.St) (δ : DSt) (l : Addr) : Prop := ∃ i xs, OwnC δ i xs ∧ σ[i]? = some (some (.ref l))

end DD
namespace L2
open PySem PySem.Spec PyProof.Rows
section
variable {K : PySem.W.Frag}
theorem seqT {H H' : Hp} {a : Addr} {xs : List V} (e : Same H H') (h : SqT K H a xs) : SqT K H' a xs := by
  rcases h with (h | ⟨o, h⟩) | h
  · exact .inl (.inl (e _ _ h))
  · exact .inl (.inr ⟨o, e _ _ h⟩)
  · exact .inr h
mutual
theorem Dp.mono {F F' : Hp} (e : Same F F') : ∀ (d : PyData) (v : V), Dp K F v d → Dp K F' v d
  | .none, _, h => by cases h; exact .non
  | .bool _, _, h => by cases h; exact .bl _
  | .int _, _, h => by cases h; exact .int _
  | .str _, _, h => by cases h; exact .str _
  | .list ds, _, h => by
    cases h with
    | lst hs ha => exact .lst (e.seq hs) (Dp.monoAll e ds _ ha)
  | .tuple ds, _, h => by
    cases h with
    | tup hs ha => exact .tup (seqT e hs) (Dp.monoAll e ds _ ha)
  | .dict _, _, h => by cases h
theorem Dp.monoAll {F F' : Hp} (e : Same F F') : ∀ (ds : List PyData) (vs : List V), DpAll K F vs ds → DpAll K F' vs ds
  | [], _, h => by cases h; exact .nil
  | d :: ds, _, h => by
    cases h with
    | cons h1 h2 => exact .cons (Dp.mono e d _ h1) (Dp.monoAll e ds _ h2)
end
theorem DpAll.length {F : Hp} : ∀ {vs : List V} {ds : List PyData}, DpAll K F vs ds → vs.length = ds.length
  | _, _, .nil => rfl
  | _, _, .cons _ h => congrArg (· + 1) (DpAll.length h)
theorem DpAll.get {F : Hp} : ∀ {vs : List V} {ds : List PyData} {i : Nat} {d : PyData}, DpAll K F vs ds → ds[i]? = some d → ∃ v, vs[i]? = some v ∧ Dp K F v d
  | _, _, i, d, .nil, e => by simp at e
  | _, _, 0, d, .cons h _, e => by simp at e; subst e; exact ⟨_, rfl, h⟩
  | _, _, i + 1, d, .cons _ h, e => by
    obtain ⟨v, h1, h2⟩ := DpAll.get (i := i) (d := d) h (by simpa using e)
    exact ⟨v, by simpa using h1, h2⟩
theorem DpAll.getV {F : Hp} : ∀ {vs : List V} {ds : List PyData} {i : Nat} {v : V}, DpAll K F vs ds → vs[i]? = some v → ∃ d, ds[i]? = some d ∧ Dp K F v d
  | _, _, i, v, .nil, e => by simp at e
  | _, _, 0, v, .cons h _, e => by simp at e; subst e; exact ⟨_, rfl, h⟩
  | _, _, i + 1, v, .cons _ h, e => by
    obtain ⟨d, h1, h2⟩ := DpAll.getV (i := i) (v := v) h (by simpa using e)
    exact ⟨d, by simpa using h1, h2⟩
theorem DpAll.append {F : Hp} : ∀ {vs ws : List V} {ds es : List PyData}, DpAll K F vs ds → DpAll K F ws es → DpAll K F (vs ++ ws) (ds ++ es)
  | _, _, _, _, .nil, s => s
  | _, _, _, _, .cons r t, s => .cons r (DpAll.append t s)
theorem DpAll.take {F : Hp} : ∀ {vs : List V} {ds : List PyData} (n : Nat), DpAll K F vs ds → DpAll K F (vs.take n) (ds.take n)
  | _, _, 0, _ => .nil
  | _, _, n + 1, .nil => .nil
  | _, _, n + 1, .cons r t => .cons r (DpAll.take n t)
theorem DpAll.drop {F : Hp} : ∀ {vs : List V} {ds : List PyData} (n : Nat), DpAll K F vs ds → DpAll K F (vs.drop n) (ds.drop n)
  | _, _, 0, r => r
  | _, _, n + 1, .nil => .nil
  | _, _, n + 1, .cons r t => DpAll.drop n t
theorem DpAll.set {F : Hp} {v : V} {d : PyData} (h : Dp K F v d) : ∀ {vs : List V} {ds : List PyData} (i : Nat), DpAll K F vs ds → DpAll K F (vs.set i v) (ds.set i d)
  | _, _, _, .nil => .nil
  | _, _, 0, .cons _ t => .cons h t
  | _, _, i + 1, .cons r t => .cons r (DpAll.set h i t)
theorem DpAll.reverse {F : Hp} {vs : List V} {ds : List PyData} (h : DpAll K F vs ds) : DpAll K F vs.reverse ds.reverse := by
  have key : ∀ (vs : List V) (ds : List PyData), DpAll K F vs ds → DpAll K F vs.reverse ds.reverse := by
    intro vs
    induction vs with
    | nil => intro ds h; cases h; exact .nil
    | cons v vs ih =>
      intro ds h
      cases h with
      | cons h1 h2 =>
        rw [List.reverse_cons, List.reverse_cons]
        exact DpAll.append (ih _ h2) (.cons h1 .nil)
  exact key _ _ h
theorem DpAll.dropLast {F : Hp} {vs : List V} {ds : List PyData} (h : DpAll K F vs ds) : DpAll K F vs.dropLast ds.dropLast := by
  rw [List.dropLast_eq_take, List.dropLast_eq_take, h.length]
  exact DpAll.take _ h
theorem DpAll.ints {F : Hp} : ∀ (ns : List Int), DpAll K F (ns.map V.int) (ns.map PyData.int)
  | [] => .nil
  | n :: ns => .cons (.int n) (DpAll.ints ns)
theorem DpAll.strs {F : Hp} : ∀ (ns : List Str), DpAll K F (ns.map V.str) (ns.map PyData.str)
  | [] => .nil
  | n :: ns => .cons (.str n) (DpAll.strs ns)
/-- values of texts are texts -/
theorem DpAll.ofStrs {F : Hp} : ∀ {vs : List V} {ns : List Str}, DpAll K F vs (ns.map PyData.str) → vs = ns.map V.str
  | vs, [], h => by cases h; rfl
  | vs, n :: ns, h => by
    cases h with
    | cons h1 h2 =>
      cases h1
      rw [DpAll.ofStrs h2]
      rfl
theorem DpAll.ofInts {F : Hp} : ∀ {vs : List V} {ns : List Int}, DpAll K F vs (ns.map PyData.int) → vs = ns.map V.int
  | vs, [], h => by cases h; rfl
  | vs, n :: ns, h => by
    cases h with
    | cons h1 h2 =>
      cases h1
      rw [DpAll.ofInts h2]
      rfl
end

end L2
namespace DD
open PySem PySem.Spec PyProof.Rows L2
/-- slots, data, heap: F the frozen part -/
structure RepS (K : PySem.W.Frag) (F : Hp) (σ : L2.St) (δ : DSt) (H : Hp) : Prop where
  len : σ.length = δ.length
  sub : Same F H
  val : ∀ (i : Nat) (d : PyData), δ[i]? = some (some (.val d)) → ∃ v, σ[i]? = some (some v) ∧ Dp K F v d
  own : ∀ (i : Nat) (xs : List PyData), OwnC δ i xs → ∃ l vs, σ[i]? = some (some (.ref l)) ∧ F l = none ∧ H l = some (.lst vs) ∧ DpAll K F vs xs
  sep : ∀ (i j : Nat) (xs ys : List PyData) (l : Addr), i ≠ j → OwnC δ i xs → OwnC δ j ys → σ[i]? = some (some (.ref l)) → σ[j]? ≠ some (some (.ref l))
/-- the lists of the def's own -/
def OwnL (σ : L2.St) (δ : DSt) (l : Addr) : Prop := ∃ (i : Nat) (xs : List PyData), δ[i]? = some (some (.own xs)) ∧ σ[i]? = some (some (.ref l))
/-- from one state to a later one -/
structure Stp (σ : L2.St) (δ : DSt) (F H : Hp) (σ' : L2.St) (δ' : DSt) (F' H' : Hp) : Prop where
  ext : Same F F'
  new : ∀ b o, F' b = some o → F b = some o ∨ H b = none ∨ OwnL σ δ b
  frm : ∀ b o, H b = some o → ¬ OwnA σ δ b → H' b = some o
  dom : ∀ b, H' b = none → H b = none
  own : ∀ l, OwnA σ' δ' l → OwnA σ δ l ∨ H l = none
  par : ∀ (i : Nat) (xs : List PyData), δ[i]? = some (some (.par xs)) → (∃ ys : List PyData, δ'[i]? = some (some (.par ys))) ∧ σ'[i]? = σ[i]?
  ownl : ∀ l, OwnL σ' δ' l → OwnL σ δ l ∨ H l = none
theorem Stp.refl {σ δ F H} : Stp σ δ F H σ δ F H :=
  ⟨Same.refl _, fun _ _ h => .inl h, fun _ _ h _ => h, fun _ h => h, fun _ h => .inl h, fun _ _ h => ⟨⟨_, h⟩, rfl⟩, fun _ h => .inl h⟩
theorem Stp.trans {σ δ F H σ1 δ1 F1 H1 σ2 δ2 F2 H2} (a : Stp σ δ F H σ1 δ1 F1 H1) (b : Stp σ1 δ1 F1 H1 σ2 δ2 F2 H2) : Stp σ δ F H σ2 δ2 F2 H2 where
  ext := a.ext.trans b.ext
  new := fun c o h => by
    rcases b.new c o h with q | q | q
    · exact a.new c o q
    · exact .inr (.inl (a.dom c q))
    · rcases a.ownl c q with z | z
      · exact .inr (.inr z)
      · exact .inr (.inl z)
  frm := fun c o h n => by
    refine b.frm c o (a.frm c o h n) fun q => ?_
    rcases a.own c q with z | z
    · exact n z
    · rw [h] at z; cases z
  dom := fun c h => a.dom c (b.dom c h)
  own := fun l h => by
    rcases b.own l h with q | q
    · exact a.own l q
    · exact .inr (a.dom l q)
  par := fun i xs h => by
    obtain ⟨⟨ys, h1⟩, e1⟩ := a.par i xs h
    obtain ⟨q, e2⟩ := b.par i ys h1
    exact ⟨q, e2.trans e1⟩
  ownl := fun l h => by
    rcases b.ownl l h with q | q
    · exact a.ownl l q
    · exact .inr (a.dom l q)

def ArRep (K : PySem.W.Frag) (F : Hp) (σ : L2.St) (v : V) : Ar → Prop
  | .val d => Dp K F v d
  | .sl i => σ[i]? = some (some v)
def ArsRep (K : PySem.W.Frag) (F : Hp) (σ : L2.St) : List V → List Ar → Prop
  | [], [] => True
  | v :: vs, a :: as => ArRep K F σ v a ∧ ArsRep K F σ vs as
  | _, _ => False
theorem ArRep.mono {K : PySem.W.Frag} {F F' : Hp} {σ : L2.St} {v : V} {a : Ar} (e : Same F F') (h : ArRep K F σ v a) : ArRep K F' σ v a := by
  cases a with
  | val d => exact Dp.mono e d v h
  | sl i => exact h

section
variable {K : PySem.W.Frag} {F H : Hp} {σ : L2.St} {δ : DSt}
/-- a new frozen object -/
theorem RepS.alloc (R : RepS K F σ δ H) {p : Addr} {o : HO} (n : H p = none) : RepS K (upd F p o) σ δ (upd H p o) ∧ Stp σ δ F H σ δ (upd F p o) (upd H p o) := by
  have nF : F p = none := R.sub.free n
  have sF : Same F (upd F p o) := fun b u e => by rw [upd_ne (ne_of_none e nF)]; exact e
  refine ⟨⟨R.len, fun b u e => ?_, fun i d h => ?_, fun i xs h => ?_, R.sep⟩, ⟨sF, fun b u e => ?_, fun b u e _ => ?_, fun b e => ?_, fun l h => .inl h, fun i xs h => ⟨⟨_, h⟩, rfl⟩, fun l h => .inl h⟩⟩
  · by_cases hb : b = p
    · subst hb; rw [upd_same] at e ⊢; exact e
    · rw [upd_ne hb] at e ⊢; exact R.sub b u e
  · obtain ⟨v, h1, h2⟩ := R.val i d h
    exact ⟨v, h1, Dp.mono sF d v h2⟩
  · obtain ⟨l, vs, h1, h2, h3, h4⟩ := R.own i xs h
    have ne : l ≠ p := ne_of_none h3 n
    exact ⟨l, vs, h1, by rw [upd_ne ne]; exact h2, by rw [upd_ne ne]; exact h3, Dp.monoAll sF _ _ h4⟩
  · by_cases hb : b = p
    · subst hb; exact .inr (.inl n)
    · rw [upd_ne hb] at e; exact .inl e
  · rw [upd_ne (ne_of_none e n)]; exact e
  · by_cases hb : b = p
    · subst hb; exact n
    · rw [upd_ne hb] at e; exact e
/-- the content of the owned list in slot i changes -/
def putC (δ : DSt) (i : Nat) (ys : List PyData) : DSt :=
  match δ[i]? with
  | some (some (.own _)) => δ.set i (some (.own ys))
  | some (some (.par _)) => δ.set i (some (.par ys))
  | _ => δ
theorem putC_own {δ : DSt} {i : Nat} {xs ys zs : List PyData} {j : Nat} (h : OwnC δ i xs) : OwnC (putC δ i ys) j zs ↔ (if j = i then zs = ys else OwnC δ j zs) := by
  have hi : i < δ.length := by
    rcases h with h | h <;> exact (List.getElem?_eq_some_iff.mp h).1
  unfold putC
  rcases h with h | h
  · rw [h]
    show OwnC (δ.set i (some (.own ys))) j zs ↔ _
    unfold OwnC
    by_cases e : j = i
    · subst e
      rw [List.getElem?_set_self hi, if_pos rfl]
      constructor
      · rintro (q | q)
        · cases q; rfl
        · cases q
      · rintro rfl; exact .inl rfl
    · rw [List.getElem?_set_ne (Ne.symm e), if_neg e]
  · rw [h]
    show OwnC (δ.set i (some (.par ys))) j zs ↔ _
    unfold OwnC
    by_cases e : j = i
    · subst e
      rw [List.getElem?_set_self hi, if_pos rfl]
      constructor
      · rintro (q | q)
        · cases q
        · cases q; rfl
      · rintro rfl; exact .inr rfl
    · rw [List.getElem?_set_ne (Ne.symm e), if_neg e]
theorem putC_len (δ : DSt) (i : Nat) (ys : List PyData) : (putC δ i ys).length = δ.length := by
  unfold putC
  split <;> simp
theorem putC_ne {δ : DSt} {i j : Nat} {ys : List PyData} (h : j ≠ i) : (putC δ i ys)[j]? = δ[j]? := by
  unfold putC
  split <;> first | rw [List.getElem?_set_ne (Ne.symm h)] | rfl
theorem putC_par {δ : DSt} {i j : Nat} {xs ys zs : List PyData} (h : OwnC δ i xs) (q : δ[j]? = some (some (.par zs))) : ∃ ws, (putC δ i ys)[j]? = some (some (.par ws)) := by
  by_cases e : j = i
  · subst e
    have hi : j < δ.length := (List.getElem?_eq_some_iff.mp q).1
    unfold putC
    rw [q]
    exact ⟨ys, List.getElem?_set_self hi⟩
  · exact ⟨zs, by rw [putC_ne e]; exact q⟩
theorem putC_val {δ : DSt} {i j : Nat} {xs ys : List PyData} {d : PyData} (h : OwnC δ i xs) (q : (putC δ i ys)[j]? = some (some (.val d))) : δ[j]? = some (some (.val d)) := by
  by_cases e : j = i
  · subst e
    have hi : j < δ.length := by rcases h with h | h <;> exact (List.getElem?_eq_some_iff.mp h).1
    unfold putC at q
    rcases h with h | h <;> rw [h] at q
    · rw [show (δ.set j (some (Sl.own ys)))[j]? = _ from List.getElem?_set_self hi] at q; cases q
    · rw [show (δ.set j (some (Sl.par ys)))[j]? = _ from List.getElem?_set_self hi] at q; cases q
  · rw [putC_ne e] at q; exact q
theorem putC_ownl {σ : L2.St} {δ : DSt} {i j : Nat} {xs ys zs : List PyData} {b : Addr} (h : OwnC δ i xs) (q : (putC δ i ys)[j]? = some (some (.own zs))) (q2 : σ[j]? = some (some (.ref b))) : OwnL σ δ b := by
  by_cases e : j = i
  · subst e
    have hi : j < δ.length := by rcases h with h | h <;> exact (List.getElem?_eq_some_iff.mp h).1
    rcases h with h | h
    · exact ⟨j, xs, h, q2⟩
    · unfold putC at q
      rw [h] at q
      rw [show (δ.set j (some (Sl.par ys)))[j]? = _ from List.getElem?_set_self hi] at q
      cases q
  · rw [putC_ne e] at q
    exact ⟨j, zs, q, q2⟩
theorem RepS.put (R : RepS K F σ δ H) {i : Nat} {xs ys : List PyData} {l : Addr} {ws : List V} (h : OwnC δ i xs) (hl : σ[i]? = some (some (.ref l))) (hw : DpAll K F ws ys) :
    RepS K F σ (putC δ i ys) (upd H l (.lst ws)) ∧ Stp σ δ F H σ (putC δ i ys) F (upd H l (.lst ws)) := by
  obtain ⟨l', vs, e1, e2, e3, e4⟩ := R.own i xs h
  rw [hl] at e1
  cases e1
  have ownA : ∀ b, OwnA σ (putC δ i ys) b → OwnA σ δ b := fun b ⟨j, zs, q1, q2⟩ => by
    rw [putC_own h] at q1
    by_cases e : j = i
    · subst e; exact ⟨j, xs, h, q2⟩
    · rw [if_neg e] at q1; exact ⟨j, zs, q1, q2⟩
  refine ⟨⟨by rw [putC_len]; exact R.len, fun b u e => ?_, fun j d q => R.val j d (putC_val h q), fun j zs q => ?_, fun a b zs1 zs2 l' ne q1 q2 => ?_⟩,
    ⟨Same.refl _, fun _ _ q => .inl q, fun b u q n => ?_, fun b q => ?_, fun b q => .inl (ownA b q), fun j zs q => ⟨putC_par h q, rfl⟩, fun b ⟨j, zs, q1, q2⟩ => .inl (putC_ownl h q1 q2)⟩⟩
  · have ne : b ≠ l := fun z => by subst z; rw [e2] at e; cases e
    rw [upd_ne ne]; exact R.sub b u e
  · rw [putC_own h] at q
    by_cases e : j = i
    · subst e
      rw [if_pos rfl] at q
      subst q
      exact ⟨l, ws, hl, e2, upd_same, hw⟩
    · rw [if_neg e] at q
      obtain ⟨l2, vs2, f1, f2, f3, f4⟩ := R.own j zs q
      have ne : l2 ≠ l := fun z => by
        subst z
        exact R.sep j i zs xs l2 e q h f1 hl
      exact ⟨l2, vs2, f1, f2, by rw [upd_ne ne]; exact f3, f4⟩
  · rw [putC_own h] at q1 q2
    have g1 : ∃ zs, OwnC δ a zs := by
      by_cases e : a = i
      · exact ⟨xs, e ▸ h⟩
      · rw [if_neg e] at q1; exact ⟨_, q1⟩
    have g2 : ∃ zs, OwnC δ b zs := by
      by_cases e : b = i
      · exact ⟨xs, e ▸ h⟩
      · rw [if_neg e] at q2; exact ⟨_, q2⟩
    obtain ⟨z1, g1⟩ := g1
    obtain ⟨z2, g2⟩ := g2
    exact R.sep a b z1 z2 l' ne g1 g2
  · have ne : b ≠ l := fun z => n ⟨i, xs, h, by rw [z]; exact hl⟩
    rw [upd_ne ne]; exact q
  · by_cases e : b = l
    · subst e; rw [upd_same] at q; cases q
    · rw [upd_ne e] at q; exact q

/-- no list that was handed in stands in slot i -/
def notPar (δ : DSt) (i : Nat) : Prop := ∀ xs, δ[i]? ≠ some (some (.par xs))
theorem RepS.setVal (R : RepS K F σ δ H) {i : Nat} {v : V} {d : PyData} (n : notPar δ i) (h : Dp K F v d) :
    RepS K F (σ.set i (some v)) (δ.set i (some (.val d))) H ∧ Stp σ δ F H (σ.set i (some v)) (δ.set i (some (.val d))) F H := by
  have ow : ∀ j xs, OwnC (δ.set i (some (.val d))) j xs → j ≠ i ∧ OwnC δ j xs := fun j xs q => by
    by_cases e : j = i
    · subst e
      rcases q with q | q
      · rcases Nat.lt_or_ge j δ.length with z | z
        · rw [List.getElem?_set_self z] at q; cases q
        · rw [List.getElem?_eq_none (by simpa using z)] at q; cases q
      · rcases Nat.lt_or_ge j δ.length with z | z
        · rw [List.getElem?_set_self z] at q; cases q
        · rw [List.getElem?_eq_none (by simpa using z)] at q; cases q
    · refine ⟨e, ?_⟩
      unfold OwnC at q ⊢
      rw [List.getElem?_set_ne (Ne.symm e)] at q
      exact q
  refine ⟨⟨by simp [R.len], R.sub, fun j d' q => ?_, fun j xs q => ?_, fun a b xs ys l ne q1 q2 => ?_⟩, ⟨Same.refl _, fun _ _ q => .inl q, fun _ _ q _ => q, fun _ q => q, fun l q => .inl ?_, fun j xs q => ?_, fun l q => .inl ?_⟩⟩
  · by_cases e : j = i
    · subst e
      rcases Nat.lt_or_ge j δ.length with z | z
      · rw [List.getElem?_set_self z] at q
        cases q
        exact ⟨v, List.getElem?_set_self (by rw [R.len]; exact z), h⟩
      · rw [List.getElem?_eq_none (by simpa using z)] at q; cases q
    · rw [List.getElem?_set_ne (Ne.symm e)] at q ⊢
      exact R.val j d' q
  · obtain ⟨e, q⟩ := ow j xs q
    rw [List.getElem?_set_ne (Ne.symm e)]
    exact R.own j xs q
  · obtain ⟨e1, q1⟩ := ow a xs q1
    obtain ⟨e2, q2⟩ := ow b ys q2
    rw [List.getElem?_set_ne (Ne.symm e1), List.getElem?_set_ne (Ne.symm e2)]
    exact R.sep a b xs ys l ne q1 q2
  · obtain ⟨j, xs, q1, q2⟩ := q
    obtain ⟨e, q1⟩ := ow j xs q1
    rw [List.getElem?_set_ne (Ne.symm e)] at q2
    exact ⟨j, xs, q1, q2⟩
  · have e : j ≠ i := fun z => n xs (z ▸ q)
    exact ⟨⟨xs, by rw [List.getElem?_set_ne (Ne.symm e)]; exact q⟩, List.getElem?_set_ne (Ne.symm e)⟩
  · obtain ⟨j, xs, q1, q2⟩ := q
    have e : j ≠ i := (ow j xs (.inl q1)).1
    rw [List.getElem?_set_ne (Ne.symm e)] at q1 q2
    exact ⟨j, xs, q1, q2⟩
/-- a new list goes to slot i -/
theorem RepS.setOwn (R : RepS K F σ δ H) {i : Nat} {l : Addr} {ws : List V} {xs : List PyData} (n : notPar δ i) (hF : F l = none) (hH : H l = some (.lst ws)) (hn : ¬ OwnA σ δ l) (h : DpAll K F ws xs) :
    RepS K F (σ.set i (some (.ref l))) (δ.set i (some (.own xs))) H ∧ (∀ a, OwnA (σ.set i (some (.ref l))) (δ.set i (some (.own xs))) a → OwnA σ δ a ∨ a = l) ∧
      ∀ (j : Nat) (zs : List PyData), δ[j]? = some (some (.par zs)) → (∃ ys : List PyData, (δ.set i (some (.own xs)))[j]? = some (some (.par ys))) ∧ (σ.set i (some (.ref l)))[j]? = σ[j]? := by
  have ow : ∀ j zs, OwnC (δ.set i (some (.own xs))) j zs → (j = i ∧ zs = xs ∧ i < δ.length) ∨ (j ≠ i ∧ OwnC δ j zs) := fun j zs q => by
    by_cases e : j = i
    · subst e
      rcases Nat.lt_or_ge j δ.length with z | z
      · refine .inl ⟨rfl, ?_, z⟩
        rcases q with q | q
        · rw [List.getElem?_set_self z] at q; cases q; rfl
        · rw [List.getElem?_set_self z] at q; cases q
      · rcases q with q | q <;> (rw [List.getElem?_eq_none (by simpa using z)] at q; cases q)
    · refine .inr ⟨e, ?_⟩
      unfold OwnC at q ⊢
      rw [List.getElem?_set_ne (Ne.symm e)] at q
      exact q
  refine ⟨⟨by simp [R.len], R.sub, fun j d' q => ?_, fun j zs q => ?_, fun a b zs ys l' ne q1 q2 => ?_⟩, fun a q => ?_, fun j zs q => ?_⟩
  · by_cases e : j = i
    · subst e
      rcases Nat.lt_or_ge j δ.length with z | z
      · rw [List.getElem?_set_self z] at q; cases q
      · rw [List.getElem?_eq_none (by simpa using z)] at q; cases q
    · rw [List.getElem?_set_ne (Ne.symm e)] at q ⊢
      exact R.val j d' q
  · rcases ow j zs q with ⟨rfl, rfl, z⟩ | ⟨e, q⟩
    · exact ⟨l, ws, List.getElem?_set_self (by rw [R.len]; exact z), hF, hH, h⟩
    · rw [List.getElem?_set_ne (Ne.symm e)]
      exact R.own j zs q
  · intro q3 q4
    rcases ow a zs q1 with ⟨z1, _, z⟩ | ⟨e1, g1⟩
    · rcases ow b ys q2 with ⟨z2, _, _⟩ | ⟨e2, g2⟩
      · exact ne (z1.trans z2.symm)
      · rw [z1, List.getElem?_set_self (by rw [R.len]; exact z)] at q3
        cases q3
        rw [List.getElem?_set_ne (Ne.symm e2)] at q4
        exact hn ⟨b, ys, g2, q4⟩
    · rw [List.getElem?_set_ne (Ne.symm e1)] at q3
      rcases ow b ys q2 with ⟨z2, _, z⟩ | ⟨e2, g2⟩
      · rw [z2, List.getElem?_set_self (by rw [R.len]; exact z)] at q4
        cases q4
        exact hn ⟨a, zs, g1, q3⟩
      · rw [List.getElem?_set_ne (Ne.symm e2)] at q4
        exact R.sep a b zs ys l' ne g1 g2 q3 q4
  · obtain ⟨j, zs, q1, q2⟩ := q
    rcases ow j zs q1 with ⟨rfl, rfl, z⟩ | ⟨e, q1⟩
    · rw [List.getElem?_set_self (by rw [R.len]; exact z)] at q2
      cases q2
      exact .inr rfl
    · rw [List.getElem?_set_ne (Ne.symm e)] at q2
      exact .inl ⟨j, zs, q1, q2⟩
  · have e : j ≠ i := fun z => n zs (z ▸ q)
    exact ⟨⟨zs, by rw [List.getElem?_set_ne (Ne.symm e)]; exact q⟩, List.getElem?_set_ne (Ne.symm e)⟩
theorem RepS.setOwnS (R : RepS K F σ δ H) {i : Nat} {l : Addr} {ws : List V} {xs : List PyData} (n : notPar δ i) (hF : F l = none) (hH : H l = some (.lst ws)) (hn : ¬ OwnA σ δ l) (h : DpAll K F ws xs) :
    RepS K F (σ.set i (some (.ref l))) (δ.set i (some (.own xs))) H ∧ ∀ {σ0 : L2.St} {δ0 : DSt} {F0 H0 : Hp}, Stp σ0 δ0 F0 H0 σ δ F H → H0 l = none → Stp σ0 δ0 F0 H0 (σ.set i (some (.ref l))) (δ.set i (some (.own xs))) F H := by
  obtain ⟨R2, o2, p2⟩ := R.setOwn n hF hH hn h
  refine ⟨R2, fun {σ0 δ0 F0 H0} s hl => ⟨s.ext, s.new, s.frm, s.dom, fun a q => ?_, fun j zs q => ?_, fun a q => ?_⟩⟩
  · rcases o2 a q with z | z
    · exact s.own a z
    · subst z; exact .inr hl
  · obtain ⟨⟨ys, q1⟩, e1⟩ := s.par j zs q
    obtain ⟨q2, e2⟩ := p2 j ys q1
    exact ⟨q2, e2.trans e1⟩
  · obtain ⟨j, zs, q1, q2⟩ := q
    by_cases e : j = i
    · subst e
      have z : j < δ.length := by
        have := (List.getElem?_eq_some_iff.mp q1).1
        simpa using this
      rw [List.getElem?_set_self (by rw [R.len]; exact z)] at q2
      cases q2
      exact .inr hl
    · rw [List.getElem?_set_ne (Ne.symm e)] at q1 q2
      exact s.ownl a ⟨j, zs, q1, q2⟩
/-- the owned list in slot i is frozen -/
theorem RepS.freeze (R : RepS K F σ δ H) {i : Nat} {xs : List PyData} {l : Addr} {vs : List V} (h : δ[i]? = some (some (.own xs))) (hl : σ[i]? = some (some (.ref l))) (hv : H l = some (.lst vs)) :
    RepS K (upd F l (.lst vs)) σ (δ.set i (some (.val (.list xs)))) H ∧ Stp σ δ F H σ (δ.set i (some (.val (.list xs)))) (upd F l (.lst vs)) H := by
  have hi : i < δ.length := (List.getElem?_eq_some_iff.mp h).1
  obtain ⟨l', vs', e1, e2, e3, e4⟩ := R.own i xs (.inl h)
  rw [hl] at e1
  cases e1
  rw [hv] at e3
  cases e3
  have sF : Same F (upd F l (.lst vs)) := fun b u e => by rw [upd_ne (ne_of_none e e2)]; exact e
  have ow : ∀ j ys, OwnC (δ.set i (some (.val (.list xs)))) j ys → j ≠ i ∧ OwnC δ j ys := fun j ys q => by
    by_cases e : j = i
    · subst e
      rcases q with q | q <;> (rw [List.getElem?_set_self hi] at q; cases q)
    · refine ⟨e, ?_⟩
      unfold OwnC at q ⊢
      rw [List.getElem?_set_ne (Ne.symm e)] at q
      exact q
  refine ⟨⟨by simp [R.len], fun b u e => ?_, fun j d q => ?_, fun j ys q => ?_, fun a b ys zs l' ne q1 q2 => ?_⟩, ⟨sF, fun b u e => ?_, fun _ _ q _ => q, fun _ q => q, fun a ⟨j, ys, q1, q2⟩ => .inl ⟨j, ys, (ow j ys q1).2, q2⟩, fun j ys q => ?_, fun a ⟨j, ys, q1, q2⟩ => .inl ?_⟩⟩
  · by_cases hb : b = l
    · subst hb; rw [upd_same] at e; rw [hv]; exact e
    · rw [upd_ne hb] at e; exact R.sub b u e
  · by_cases e : j = i
    · subst e
      rw [List.getElem?_set_self hi] at q
      cases q
      exact ⟨.ref l, hl, .lst (SqL.of upd_same) (Dp.monoAll sF _ _ e4)⟩
    · rw [List.getElem?_set_ne (Ne.symm e)] at q
      obtain ⟨v, q1, q2⟩ := R.val j d q
      exact ⟨v, q1, Dp.mono sF d v q2⟩
  · obtain ⟨e, q⟩ := ow j ys q
    obtain ⟨l2, vs2, f1, f2, f3, f4⟩ := R.own j ys q
    have ne : l2 ≠ l := fun z => by
      subst z
      exact R.sep j i ys xs l2 e q (.inl h) f1 hl
    exact ⟨l2, vs2, f1, by rw [upd_ne ne]; exact f2, f3, Dp.monoAll sF _ _ f4⟩
  · obtain ⟨_, q1⟩ := ow a ys q1
    obtain ⟨_, q2⟩ := ow b zs q2
    exact R.sep a b ys zs l' ne q1 q2
  · by_cases hb : b = l
    · subst hb; exact .inr (.inr ⟨i, xs, h, hl⟩)
    · rw [upd_ne hb] at e; exact .inl e
  · have e : j ≠ i := fun z => by rw [z, h] at q; cases q
    exact ⟨⟨ys, by rw [List.getElem?_set_ne (Ne.symm e)]; exact q⟩, rfl⟩
  · have e : j ≠ i := (ow j ys (.inl q1)).1
    rw [List.getElem?_set_ne (Ne.symm e)] at q1
    exact ⟨j, ys, q1, q2⟩
end
end DD

namespace DD
open PySem PySem.Spec PyProof.Rows L2

/-! ### expressions -/
structure PD (X : Cx) (e : Expr) (f : DTE) : Prop where
  ex : ∃ te, PE X e te ∧ ∀ {F : Hp} {σ : L2.St} {δ : DSt} {H : Hp} {Q : VK} {C : Ar → DSt → Prop}, RepS X.K F σ δ H → f δ C →
    (∀ a δ' F' H' v, RepS X.K F' σ δ' H' → Stp σ δ F H σ δ' F' H' → ArRep X.K F' σ v a → C a δ' → Q v H') → te σ H Q
structure PDT (X : Cx) (e : Expr) (f : DTT) : Prop where
  ex : ∃ te, PT X e te ∧ ∀ {F : Hp} {σ : L2.St} {δ : DSt} {H : Hp} {Q : Bool → Hp → Prop} {C : Bool → DSt → Prop}, RepS X.K F σ δ H → f δ C →
    (∀ a δ' F' H', RepS X.K F' σ δ' H' → Stp σ δ F H σ δ' F' H' → C a δ' → Q a H') → te σ H Q
structure PDW (X : Cx) (e : Expr) (f : DTT) : Prop where
  ex : ∃ te, PW X e te ∧ ∀ {F : Hp} {σ : L2.St} {δ : DSt} {H : Hp} {Q : Bool → Hp → Prop} {C : Bool → DSt → Prop}, RepS X.K F σ δ H → f δ C →
    (∀ a δ' F' H', RepS X.K F' σ δ' H' → Stp σ δ F H σ δ' F' H' → C a δ' → Q a H') → te σ H Q
structure PDA (X : Cx) (es : List Expr) (f : DTA) : Prop where
  ex : ∃ ta, PA X es ta ∧ ∀ {F : Hp} {σ : L2.St} {δ : DSt} {H : Hp} {Q : List V → Hp → Prop} {C : List Ar → DSt → Prop}, RepS X.K F σ δ H → f δ C →
    (∀ as δ' F' H' vs, RepS X.K F' σ δ' H' → Stp σ δ F H σ δ' F' H' → ArsRep X.K F' σ vs as → C as δ' → Q vs H') → ta σ H Q
/-- an expression that gives a new list, nobody else's -/
structure PDN (X : Cx) (e : Expr) (f : DSt → (List PyData → DSt → Prop) → Prop) : Prop where
  ex : ∃ te, PE X e te ∧ ∀ {F : Hp} {σ : L2.St} {δ : DSt} {H : Hp} {Q : VK} {C : List PyData → DSt → Prop}, RepS X.K F σ δ H → f δ C →
    (∀ xs δ' F' H' l ws, RepS X.K F' σ δ' H' → Stp σ δ F H σ δ' F' H' → F' l = none → H l = none → ¬ OwnA σ δ' l → H' l = some (.lst ws) → DpAll X.K F' ws xs → C xs δ' → Q (.ref l) H') → te σ H Q

def dVar (i : Nat) : DTE := fun δ C => match δ[i]? with
  | some (some (.val d)) => C (.val d) δ
  | some (some (.own _)) => C (.sl i) δ
  | some (some (.par _)) => C (.sl i) δ
  | _ => False
def dC (d : PyData) : DTE := fun δ C => C (.val d) δ
/-- the owned list in a slot -/
def cont (δ : DSt) (i : Nat) : Option (List PyData) := match δ[i]? with
  | some (some (.own xs)) => some xs
  | some (some (.par xs)) => some xs
  | _ => none
theorem cont_own {δ : DSt} {i : Nat} {xs : List PyData} (h : cont δ i = some xs) : OwnC δ i xs := by
  unfold cont at h
  split at h
  · cases h; exact .inl ‹_›
  · cases h; exact .inr ‹_›
  · cases h
/-- the data of what an expression gave, as it is now -/
def rd (δ : DSt) : Ar → Option PyData
  | .val d => some d
  | .sl i => (cont δ i).map PyData.list
/-- .. of frozen data alone -/
def rv : Ar → Option PyData
  | .val d => some d
  | .sl _ => none
section
variable {X : Cx} {K : PySem.W.Frag} {F H : Hp} {σ : L2.St} {δ : DSt}
theorem ArRep.rd (R : RepS K F σ δ H) {v : V} {a : Ar} {d : PyData} (h : ArRep K F σ v a) (e : DD.rd δ a = some d) : Dp K H v d := by
  cases a with
  | val d' =>
    cases e
    exact Dp.mono R.sub _ _ h
  | sl i =>
    have e : (cont δ i).map PyData.list = some d := e
    cases q : cont δ i with
    | none => rw [q] at e; cases e
    | some xs =>
      rw [q] at e
      cases e
      obtain ⟨l, vs, h1, _, h3, h4⟩ := R.own i xs (cont_own q)
      have h : σ[i]? = some (some v) := h
      rw [h1] at h
      cases h
      exact .lst (SqL.of h3) (Dp.monoAll R.sub _ _ h4)
theorem ArRep.rv {v : V} {a : Ar} {d : PyData} (h : ArRep K F σ v a) (e : DD.rv a = some d) : Dp K F v d := by
  cases a with
  | val d' => cases e; exact h
  | sl i => cases e
theorem ArsRep.mono {F' : Hp} (e : Same F F') : ∀ {vs : List V} {as : List Ar}, ArsRep K F σ vs as → ArsRep K F' σ vs as
  | [], [], _ => trivial
  | v :: vs, a :: as, h => ⟨h.1.mono e, ArsRep.mono e h.2⟩
  | [], _ :: _, h => h.elim
  | _ :: _, [], h => h.elim

theorem pd_var (i : Nat) {x : Str} {pos : Pos} (hN : X.N[i]? = some x := by rfl) (hv : Vis X.env.scope x := by first | exact Or.inl rfl | exact Or.inr (Or.inl rfl) | exact Or.inr (Or.inr rfl)) (hd : (x == ("__debug__" : Str)) = false := by decide)
    (hcd : (x == ("__classdict__" : Str)) = false := by decide) : PD X (.Name x pos) (dVar i) := by
  refine ⟨_, pv i hN hv hd hcd, fun {F σ δ H Q C} R h k => ?_⟩
  have key : ∀ xs, OwnC δ i xs → C (.sl i) δ → tVar i σ H Q := fun xs o c => by
    obtain ⟨l, vs, h1, _⟩ := R.own i xs o
    exact ⟨.ref l, h1, k (.sl i) _ _ _ _ R .refl h1 c⟩
  unfold dVar at h
  split at h
  · obtain ⟨v, h1, h2⟩ := R.val i _ ‹_›
    exact ⟨v, h1, k (.val _) _ _ _ _ R .refl h2 h⟩
  · exact key _ (.inl ‹_›) h
  · exact key _ (.inr ‹_›) h
  · exact h.elim
theorem pd_c {e : Expr} {v : V} {d : PyData} (h : PE X e (tC v)) (hd : ∀ F, Dp X.K F v d) : PD X e (dC d) :=
  ⟨_, h, fun R c k => k (.val d) _ _ _ _ R .refl (hd _) c⟩
theorem pd_int {i j pos} : PD X (.Constant (.int i) j pos) (dC (.int i)) := pd_c pe_int fun _ => .int i
theorem pd_str {x j pos} : PD X (.Constant (.str x) j pos) (dC (.str x)) := pd_c pe_str fun _ => .str x
theorem pd_bl {b j pos} : PD X (.Constant (.bool b) j pos) (dC (.bool b)) := pd_c pe_bl fun _ => .bl b
theorem pd_non {j pos} : PD X (.Constant .none j pos) (dC .none) := pd_c pe_non fun _ => .non
theorem pd_globS {x : Str} {z : Str} {t : Tok} {pos : Pos} (hg : Gl X x) (hm : X.mg x = some (.str z t)) (hd : (x == ("__debug__" : Str)) = false := by decide) : PD X (.Name x pos) (dC (.str z)) := pd_c (v := .str z) (pe_glob hg hm ⟨_, rfl⟩ hd) fun _ => .str z
theorem pd_globI {x : Str} {z : Int} {t : Tok} {pos : Pos} (hg : Gl X x) (hm : X.mg x = some (.int z t)) (hd : (x == ("__debug__" : Str)) = false := by decide) : PD X (.Name x pos) (dC (.int z)) := pd_c (v := .int z) (pe_glob hg hm ⟨_, rfl⟩ hd) fun _ => .int z
/-- a module's tuple -/
theorem pd_globT {x : Str} {a : Addr} {d : PyData} {pos : Pos} (hg : Gl X x) (hm : X.mg x = some (.ref a)) (hT : ∀ F, Dp X.K F (.ref a) d) (hd : (x == ("__debug__" : Str)) = false := by decide) : PD X (.Name x pos) (dC d) := pd_c (v := .ref a) (pe_glob hg hm rfl hd) hT

/-! ### argument lists -/
def dNil : DTA := fun δ C => C [] δ
def dCons (f : DTE) (g : DTA) : DTA := fun δ C => f δ fun a δ1 => g δ1 fun as δ2 => C (a :: as) δ2
theorem pda_nil : PDA X [] dNil := ⟨_, pa_nil, fun R c k => k [] _ _ _ _ R .refl trivial c⟩
theorem pda_cons {e : Expr} {es : List Expr} {f : DTE} {g : DTA} (h1 : PD X e f) (h2 : PDA X es g) (hs : starEach (e :: es) X.env = (false, eval e X.env) :: starEach es X.env := by rfl) : PDA X (e :: es) (dCons f g) := by
  obtain ⟨te, p1, q1⟩ := h1
  obtain ⟨ta, p2, q2⟩ := h2
  refine ⟨_, pa_cons p1 p2 hs, fun R c k => ?_⟩
  refine q1 R c fun a δ1 F1 H1 v R1 s1 r1 c1 => ?_
  refine q2 R1 c1 fun as δ2 F2 H2 vs R2 s2 r2 c2 => ?_
  exact k (a :: as) _ _ _ _ R2 (s1.trans s2) ⟨r1.mono s2.ext, r2⟩ c2
/-- frozen data only -/
def rvs : List Ar → Option (List PyData)
  | [] => some []
  | .val d :: as => match rvs as with
    | some ds => some (d :: ds)
    | none => none
  | .sl _ :: _ => none
theorem ArsRep.rvs : ∀ {vs : List V} {as : List Ar} {ds : List PyData}, ArsRep K F σ vs as → DD.rvs as = some ds → DpAll K F vs ds
  | [], [], ds, _, e => by cases e; exact .nil
  | v :: vs, .val d :: as, ds, h, e => by
    unfold DD.rvs at e
    split at e
    · cases e; exact .cons h.1 (ArsRep.rvs h.2 ‹_›)
    · cases e
  | _ :: _, .sl _ :: _, _, _, e => by cases e
  | [], _ :: _, _, h, _ => h.elim
  | _ :: _, [], _, h, _ => h.elim

/-! ### two-place operators -/
abbrev DOp := PyData → PyData → (PyData → Prop) → Prop
def OpD (X : Cx) (f : Value → Value → Sem Value) (r : DOp) : Prop :=
  ∃ r' : R2, OpR X f r' ∧ ∀ {F : Hp} {σ : L2.St} {δ : DSt} {H : Hp} {x y : V} {d e : PyData} {Q : VK} {C : PyData → Prop}, RepS X.K F σ δ H → Dp X.K F x d → Dp X.K F y e → r d e C →
    (∀ z F' H' v, RepS X.K F' σ δ H' → Stp σ δ F H σ δ F' H' → Dp X.K F' v z → C z → Q v H') → r' x y H Q
theorem OpR.or {f : Value → Value → Sem Value} {r r' : R2} (h : OpR X f r) (h' : OpR X f r') : OpR X f (fun x y H Q => r x y H Q ∨ r' x y H Q) := by
  intro pins s σ H x y v u Q I rx ry q
  rcases q with q | q
  · exact h pins s σ H x y v u Q I rx ry q
  · exact h' pins s σ H x y v u Q I rx ry q
def dBin (r : DOp) (fa fb : DTE) : DTE := fun δ C => fa δ fun a δ1 => fb δ1 fun b δ2 => match rv a, rv b with
  | some d, some e => r d e fun z => C (.val z) δ2
  | _, _ => False
theorem pd_op {a b : Expr} {op : Operator} {r : DOp} {fa fb : DTE} {pos : Pos} (ho : OpD X (binaryOp op) r) (ha : PD X a fa) (hb : PD X b fb) : PD X (.BinOp a op b pos) (dBin r fa fb) := by
  obtain ⟨r', o1, o2⟩ := ho
  obtain ⟨te, p1, q1⟩ := ha
  obtain ⟨tb, p2, q2⟩ := hb
  refine ⟨_, pe_op o1 p1 p2, fun R c k => ?_⟩
  refine q1 R c fun a δ1 F1 H1 v R1 s1 r1 c1 => ?_
  refine q2 R1 c1 fun b δ2 F2 H2 w R2 s2 r2 c2 => ?_
  split at c2
  · rename_i d e h1 h2
    exact o2 R2 ((r1.mono s2.ext).rv h1) (r2.rv h2) c2 fun z F' H' v R3 s3 r3 c3 => k (.val z) _ _ _ _ R3 ((s1.trans s2).trans s3) r3 c3
  · exact c2.elim
/-- comparisons: the data as they are now -/
def OpC (X : Cx) (f : Value → Value → Sem Value) (r : PyData → PyData → (Bool → Prop) → Prop) : Prop :=
  ∃ r' : R2, OpR X f r' ∧ ∀ {H : Hp} {x y : V} {d e : PyData} {Q : VK} {C : Bool → Prop}, Dp X.K H x d → Dp X.K H y e → r d e C → (∀ b, C b → Q (.bl b) H) → r' x y H Q
abbrev DCp := PyData → PyData → (Bool → Prop) → Prop
def dCmp (r : DCp) (fa fb : DTE) : DTT := fun δ C => fa δ fun a δ1 => fb δ1 fun b δ2 => match rd δ2 a, rd δ2 b with
  | some d, some e => r d e fun z => C z δ2
  | _, _ => False
def dB (t : DTT) : DTE := fun δ C => t δ fun b δ1 => C (.val (.bool b)) δ1
/-- an operand stays what it is while the next one is reckoned -/
theorem pd_cmpCore {a b : Expr} {op : CmpOp} {r : DCp} {fa fb : DTE} {pos : Pos} (ho : OpC X (compareOp op) r) (ha : PD X a fa) (hb : PD X b fb) (hm : behindInMarks op b = false) :
    ∃ te, PE X (.Compare a [op] [b] pos) te ∧ ∀ {F : Hp} {σ : L2.St} {δ : DSt} {H : Hp} {Q : VK} {C : Bool → DSt → Prop}, RepS X.K F σ δ H → dCmp r fa fb δ C →
      (∀ z δ' F' H', RepS X.K F' σ δ' H' → Stp σ δ F H σ δ' F' H' → C z δ' → Q (.bl z) H') → te σ H Q := by
  obtain ⟨r', o1, o2⟩ := ho
  obtain ⟨te, p1, q1⟩ := ha
  obtain ⟨tb, p2, q2⟩ := hb
  refine ⟨_, pe_cmpR o1 p1 p2 hm, fun R c k => ?_⟩
  refine q1 R c fun a δ1 F1 H1 v R1 s1 r1 c1 => ?_
  refine q2 R1 c1 fun b δ2 F2 H2 w R2 s2 r2 c2 => ?_
  split at c2
  · rename_i d e h1 h2
    exact o2 ((r1.mono s2.ext).rd R2 h1) (r2.rd R2 h2) c2 fun z c3 => k _ _ _ _ R2 (s1.trans s2) c3
  · exact c2.elim
theorem pd_cmp {a b : Expr} {op : CmpOp} {r : DCp} {fa fb : DTE} {pos : Pos} (ho : OpC X (compareOp op) r) (ha : PD X a fa) (hb : PD X b fb) (hm : behindInMarks op b = false := by first | exact nomark _ | rfl) : PD X (.Compare a [op] [b] pos) (dB (dCmp r fa fb)) := by
  obtain ⟨te, p, q⟩ := pd_cmpCore ho ha hb hm
  exact ⟨te, p, fun R c k => q R c fun z δ' F' H' R' s' c' => k (.val (.bool z)) _ _ _ _ R' s' (Dp.bl z) c'⟩
theorem pdt_cmp {a b : Expr} {op : CmpOp} {r : DCp} {fa fb : DTE} {pos : Pos} (ho : OpC X (compareOp op) r) (ha : PD X a fa) (hb : PD X b fb) (hm : behindInMarks op b = false := by first | exact nomark _ | rfl) : PDT X (.Compare a [op] [b] pos) (dCmp r fa fb) := by
  obtain ⟨r', o1, o2⟩ := ho
  obtain ⟨te, p1, q1⟩ := ha
  obtain ⟨tb, p2, q2⟩ := hb
  refine ⟨_, pt_cmpR o1 p1 p2 hm, fun R c k => ?_⟩
  refine q1 R c fun a δ1 F1 H1 v R1 s1 r1 c1 => ?_
  refine q2 R1 c1 fun b δ2 F2 H2 w R2 s2 r2 c2 => ?_
  split at c2
  · rename_i d e h1 h2
    exact o2 ((r1.mono s2.ext).rd R2 h1) (r2.rd R2 h2) c2 fun z c3 => ⟨z, rfl, k _ _ _ _ R2 (s1.trans s2) c3⟩
  · exact c2.elim

/-! ### tests -/
def dT (f : DTE) : DTT := fun δ C => f δ fun a δ1 => match rd δ1 a with
  | some (.bool b) => C b δ1
  | _ => False
/-- an expression that gives True or False, as a test -/
theorem pdt_val {e : Expr} {f : DTE} (h : PD X e f) (he : ∀ whole, isTrue e X.env whole = (do let v ← whole; standAt e.pos; holding [v] (truthy v)) := by intro _; rfl) : PDT X e (dT f) := by
  obtain ⟨te, p, q⟩ := h
  refine ⟨_, pt_val p he, fun R c k => ?_⟩
  refine q R c fun a δ1 F1 H1 v R1 s1 r1 c1 => ?_
  split at c1
  · rename_i b hb
    have := r1.rd R1 hb
    cases this
    exact ⟨b, rfl, k _ _ _ _ R1 s1 c1⟩
  · exact c1.elim
def truD : PyData → (Bool → Prop) → Prop
  | .none, C => C false
  | .bool b, C => C b
  | .int i, C => C (i != 0)
  | .str z, C => z.length ≤ sizeLine ∧ C ((z.length : Int) != 0)
  | .list xs, C => C (!xs.isEmpty)
  | .tuple xs, C => C (!xs.isEmpty)
  | _, _ => False
def dTru (f : DTE) : DTT := fun δ C => f δ fun a δ1 => match rd δ1 a with
  | some d => truD d fun b => C b δ1
  | _ => False
theorem empty_iff {K : PySem.W.Frag} {F : Hp} {vs : List V} {xs : List PyData} (h : DpAll K F vs xs) : vs.isEmpty = xs.isEmpty := by
  cases h <;> rfl
theorem pdt_tru {e : Expr} {f : DTE} (h : PD X e f) (he : ∀ whole, isTrue e X.env whole = (do let v ← whole; standAt e.pos; holding [v] (truthy v)) := by intro _; rfl) : PDT X e (dTru f) := by
  obtain ⟨te, p, q⟩ := h
  refine ⟨_, pt_truth p he, fun R c k => ?_⟩
  refine q R c fun a δ1 F1 H1 v R1 s1 r1 c1 => ?_
  split at c1
  · rename_i d hb
    have hd := r1.rd R1 hb
    cases d with
    | none => cases hd; exact ⟨_, rfl, k _ _ _ _ R1 s1 c1⟩
    | bool b => cases hd; exact ⟨_, rfl, k _ _ _ _ R1 s1 c1⟩
    | int i => cases hd; exact ⟨_, rfl, k _ _ _ _ R1 s1 c1⟩
    | str z => cases hd; exact ⟨_, ⟨c1.1, rfl⟩, k _ _ _ _ R1 s1 c1.2⟩
    | list xs =>
      cases hd with
      | lst hs ha => exact ⟨_, .inl ⟨_, hs, rfl⟩, k _ _ _ _ R1 s1 (by rw [empty_iff ha]; exact c1)⟩
    | tuple xs =>
      cases hd with
      | tup hs ha => exact ⟨_, .inr (.inl ⟨_, hs, rfl⟩), k _ _ _ _ R1 s1 (by rw [empty_iff ha]; exact c1)⟩
    | dict _ => cases hd
  · exact c1.elim
def dNot (t : DTT) : DTT := fun δ C => t δ fun b δ1 => C (!b) δ1
def dAnd (t u : DTT) : DTT := fun δ C => t δ fun b δ1 => (b = true → u δ1 C) ∧ (b = false → C false δ1)
def dOr (t u : DTT) : DTT := fun δ C => t δ fun b δ1 => (b = true → C true δ1) ∧ (b = false → u δ1 C)
theorem pdt_not {a : Expr} {t : DTT} {pos : Pos} (h : PDT X a t) : PDT X (.UnaryOp .Not a pos) (dNot t) := by
  obtain ⟨te, p, q⟩ := h
  exact ⟨_, pt_not p, fun R c k => q R c fun b δ1 F1 H1 R1 s1 c1 => k _ _ _ _ R1 s1 c1⟩
theorem PDW.pt {e : Expr} {t : DTT} (h : PDW X e t) : PDT X e t := by
  obtain ⟨te, p, q⟩ := h
  exact ⟨_, p.pt, q⟩
theorem pdw_and1 {a : Expr} {t : DTT} {pos : Pos} (h : PDT X a t) : PDW X (.BoolOp .And [a] pos) t := by
  obtain ⟨te, p, q⟩ := h
  exact ⟨_, pw_and1 p, q⟩
theorem pdw_or1 {a : Expr} {t : DTT} {pos : Pos} (h : PDT X a t) : PDW X (.BoolOp .Or [a] pos) t := by
  obtain ⟨te, p, q⟩ := h
  exact ⟨_, pw_or1 p, q⟩
theorem pdw_and {a b : Expr} {rest : List Expr} {t u : DTT} {pos : Pos} (h : PDT X a t) (h2 : PDW X (.BoolOp .And (b :: rest) pos) u) : PDW X (.BoolOp .And (a :: b :: rest) pos) (dAnd t u) := by
  obtain ⟨te, p, q⟩ := h
  obtain ⟨tf, p2, q2⟩ := h2
  refine ⟨_, pw_and p p2, fun R c k => ?_⟩
  refine q R c fun b δ1 F1 H1 R1 s1 c1 => ?_
  cases b with
  | true => exact iteT (q2 R1 (c1.1 rfl) fun b δ2 F2 H2 R2 s2 c2 => k _ _ _ _ R2 (s1.trans s2) c2)
  | false => exact iteF (k _ _ _ _ R1 s1 (c1.2 rfl))
theorem pdw_or {a b : Expr} {rest : List Expr} {t u : DTT} {pos : Pos} (h : PDT X a t) (h2 : PDW X (.BoolOp .Or (b :: rest) pos) u) : PDW X (.BoolOp .Or (a :: b :: rest) pos) (dOr t u) := by
  obtain ⟨te, p, q⟩ := h
  obtain ⟨tf, p2, q2⟩ := h2
  refine ⟨_, pw_or p p2, fun R c k => ?_⟩
  refine q R c fun b δ1 F1 H1 R1 s1 c1 => ?_
  cases b with
  | true => exact iteT (k _ _ _ _ R1 s1 (c1.1 rfl))
  | false => exact iteF (q2 R1 (c1.2 rfl) fun b δ2 F2 H2 R2 s2 c2 => k _ _ _ _ R2 (s1.trans s2) c2)
/-- as values: bools -/
def dAndV (f g : DTE) : DTE := fun δ C => f δ fun a δ1 => match a with
  | .val (.bool b) => (b = true → g δ1 C) ∧ (b = false → C (.val (.bool false)) δ1)
  | _ => False
def dOrV (f g : DTE) : DTE := fun δ C => f δ fun a δ1 => match a with
  | .val (.bool b) => (b = true → C (.val (.bool true)) δ1) ∧ (b = false → g δ1 C)
  | _ => False
def dNotV (f : DTE) : DTE := fun δ C => f δ fun a δ1 => match a with
  | .val (.bool b) => C (.val (.bool (!b))) δ1
  | _ => False
theorem pd_one {op} {a : Expr} {f : DTE} {pos : Pos} (h : PD X a f) : PD X (.BoolOp op [a] pos) f := by
  obtain ⟨te, p, q⟩ := h
  exact ⟨_, pe_one p, q⟩
theorem pd_and {a b : Expr} {rest : List Expr} {f g : DTE} {pos : Pos} (h : PD X a f) (h2 : PD X (.BoolOp .And (b :: rest) pos) g) : PD X (.BoolOp .And (a :: b :: rest) pos) (dAndV f g) := by
  obtain ⟨te, p, q⟩ := h
  obtain ⟨tf, p2, q2⟩ := h2
  refine ⟨_, pe_and p p2, fun R c k => ?_⟩
  refine q R c fun a δ1 F1 H1 v R1 s1 r1 c1 => ?_
  split at c1
  · rename_i b
    cases (show Dp X.K F1 v (.bool b) from r1)
    refine ⟨b, rfl, ?_⟩
    cases b with
    | true => exact iteT (q2 R1 (c1.1 rfl) fun b δ2 F2 H2 v2 R2 s2 r2 c2 => k _ _ _ _ _ R2 (s1.trans s2) r2 c2)
    | false => exact iteF (k (.val (.bool false)) _ _ _ _ R1 s1 (Dp.bl false) (c1.2 rfl))
  · exact c1.elim
theorem pd_or {a b : Expr} {rest : List Expr} {f g : DTE} {pos : Pos} (h : PD X a f) (h2 : PD X (.BoolOp .Or (b :: rest) pos) g) : PD X (.BoolOp .Or (a :: b :: rest) pos) (dOrV f g) := by
  obtain ⟨te, p, q⟩ := h
  obtain ⟨tf, p2, q2⟩ := h2
  refine ⟨_, pe_or p p2, fun R c k => ?_⟩
  refine q R c fun a δ1 F1 H1 v R1 s1 r1 c1 => ?_
  split at c1
  · rename_i b
    cases (show Dp X.K F1 v (.bool b) from r1)
    refine ⟨b, rfl, ?_⟩
    cases b with
    | true => exact iteT (k (.val (.bool true)) _ _ _ _ R1 s1 (Dp.bl true) (c1.1 rfl))
    | false => exact iteF (q2 R1 (c1.2 rfl) fun b δ2 F2 H2 v2 R2 s2 r2 c2 => k _ _ _ _ _ R2 (s1.trans s2) r2 c2)
  · exact c1.elim
theorem pd_not {a : Expr} {f : DTE} {pos : Pos} (h : PD X a f) : PD X (.UnaryOp .Not a pos) (dNotV f) := by
  obtain ⟨te, p, q⟩ := h
  refine ⟨_, pe_not p, fun R c k => ?_⟩
  refine q R c fun a δ1 F1 H1 v R1 s1 r1 c1 => ?_
  split at c1
  · rename_i b
    cases (show Dp X.K F1 v (.bool b) from r1)
    exact ⟨b, rfl, k (.val (.bool (!b))) _ _ _ _ R1 s1 (Dp.bl _) c1⟩
  · exact c1.elim
def dIfE (t : DTT) (f g : DTE) : DTE := fun δ C => t δ fun b δ1 => (b = true → f δ1 C) ∧ (b = false → g δ1 C)
theorem pd_if {c a b : Expr} {t : DTT} {f g : DTE} {pos : Pos} (hc : PDT X c t) (ha : PD X a f) (hb : PD X b g) : PD X (.IfExp c a b pos) (dIfE t f g) := by
  obtain ⟨tc, p, q⟩ := hc
  obtain ⟨ta, pa, qa⟩ := ha
  obtain ⟨tb, pb, qb⟩ := hb
  refine ⟨_, pe_ifExp p pa pb, fun R c k => ?_⟩
  refine q R c fun b δ1 F1 H1 R1 s1 c1 => ?_
  cases b with
  | true => exact iteT (qa R1 (c1.1 rfl) fun b δ2 F2 H2 v2 R2 s2 r2 c2 => k _ _ _ _ _ R2 (s1.trans s2) r2 c2)
  | false => exact iteF (qb R1 (c1.2 rfl) fun b δ2 F2 H2 v2 R2 s2 r2 c2 => k _ _ _ _ _ R2 (s1.trans s2) r2 c2)

/-! ### displays -/
def dTup (f : DTA) : DTE := fun δ C => f δ fun as δ1 => match rvs as with
  | some ds => ds.length ≤ sizeLine ∧ C (.val (.tuple ds)) δ1
  | none => False
theorem pd_tup {es : List Expr} {x1} {f : DTA} {pos : Pos} (h : PDA X es f) : PD X (.Tuple es x1 pos) (dTup f) := by
  obtain ⟨ta, p, q⟩ := h
  refine ⟨_, pe_tup p, fun R c k => ?_⟩
  refine q R c fun as δ1 F1 H1 vs R1 s1 r1 c1 => ?_
  split at c1
  · rename_i ds hd
    have hA := r1.rvs hd
    refine ⟨by rw [hA.length]; exact c1.1, fun p np => ?_⟩
    obtain ⟨R2, s2⟩ := R1.alloc (o := .tup vs) np
    exact k (.val (.tuple ds)) _ _ _ _ R2 (s1.trans s2) (Dp.tup (SqT.of upd_same) (Dp.monoAll s2.ext _ _ hA)) c1.2
  · exact c1.elim
def dLstN (f : DTA) : DSt → (List PyData → DSt → Prop) → Prop := fun δ C => f δ fun as δ1 => match rvs as with
  | some ds => ds.length ≤ sizeLine ∧ C ds δ1
  | none => False
/-- a heap with a new list, not frozen -/
theorem RepS.fresh {p : Addr} {o : HO} (R : RepS K F σ δ H) (n : H p = none) : RepS K F σ δ (upd H p o) ∧ Stp σ δ F H σ δ F (upd H p o) ∧ F p = none ∧ ¬ OwnA σ δ p := by
  have nF : F p = none := R.sub.free n
  refine ⟨⟨R.len, fun b u e => by rw [upd_ne (ne_of_none e nF)]; exact R.sub b u e, R.val, fun i xs h => ?_, R.sep⟩,
    ⟨Same.refl _, fun _ _ h => .inl h, fun b u e _ => by rw [upd_ne (ne_of_none e n)]; exact e, fun b e => ?_, fun l h => .inl h, fun i xs h => ⟨⟨_, h⟩, rfl⟩, fun l h => .inl h⟩, nF, fun ⟨i, xs, h1, h2⟩ => ?_⟩
  · obtain ⟨l, vs, h1, h2, h3, h4⟩ := R.own i xs h
    exact ⟨l, vs, h1, h2, by rw [upd_ne (ne_of_none h3 n)]; exact h3, h4⟩
  · by_cases hb : b = p
    · subst hb; exact n
    · rw [upd_ne hb] at e; exact e
  · obtain ⟨l, vs, h3, _, h4, _⟩ := R.own i xs h1
    rw [h2] at h3
    cases h3
    rw [n] at h4; cases h4
theorem pdn_lst {es : List Expr} {f : DTA} {pos : Pos} (h : PDA X es f) : PDN X (.List es pos) (dLstN f) := by
  obtain ⟨ta, p, q⟩ := h
  refine ⟨_, pe_lst p, fun {F σ δ H Q C} R c k => ?_⟩
  refine q R c fun as δ1 F1 H1 vs R1 s1 r1 c1 => ?_
  split at c1
  · rename_i ds hd
    have hA := r1.rvs hd
    refine ⟨by rw [hA.length]; exact c1.1, fun p np => ?_⟩
    obtain ⟨R2, s2, nF, nO⟩ := R1.fresh (o := .lst vs) np
    exact k _ _ _ _ _ _ R2 (s1.trans s2) nF (s1.dom _ np) nO upd_same hA c1.2
  · exact c1.elim
/-- a new list becomes frozen data -/
def dFr (f : DSt → (List PyData → DSt → Prop) → Prop) : DTE := fun δ C => f δ fun xs δ1 => C (.val (.list xs)) δ1
theorem RepS.freezeNew {l : Addr} {ws : List V} {xs : List PyData} (R : RepS K F σ δ H) (hF : F l = none) (hO : ¬ OwnA σ δ l) (hH : H l = some (.lst ws)) (hA : DpAll K F ws xs) :
    RepS K (upd F l (.lst ws)) σ δ H ∧ Same F (upd F l (.lst ws)) ∧ Dp K (upd F l (.lst ws)) (.ref l) (.list xs) := by
  have sF : Same F (upd F l (.lst ws)) := fun b u e => by rw [upd_ne (ne_of_none e hF)]; exact e
  refine ⟨⟨R.len, fun b u e => ?_, fun i d h => ?_, fun i ys h => ?_, R.sep⟩, sF, .lst (SqL.of upd_same) (Dp.monoAll sF _ _ hA)⟩
  · by_cases hb : b = l
    · subst hb; rw [upd_same] at e; rw [hH]; exact e
    · rw [upd_ne hb] at e; exact R.sub b u e
  · obtain ⟨v, h1, h2⟩ := R.val i d h
    exact ⟨v, h1, Dp.mono sF d v h2⟩
  · obtain ⟨l2, vs, h1, h2, h3, h4⟩ := R.own i ys h
    have ne : l2 ≠ l := fun z => hO ⟨i, ys, h, by rw [← z]; exact h1⟩
    exact ⟨l2, vs, h1, by rw [upd_ne ne]; exact h2, h3, Dp.monoAll sF _ _ h4⟩
theorem pd_new {e : Expr} {f : DSt → (List PyData → DSt → Prop) → Prop} (h : PDN X e f) : PD X e (dFr f) := by
  obtain ⟨te, p, q⟩ := h
  refine ⟨te, p, fun {F σ δ H Q C} R c k => ?_⟩
  refine q R c fun xs δ1 F1 H1 l ws R1 s1 nF nH nO hH hA c1 => ?_
  obtain ⟨R2, sF, hD⟩ := R1.freezeNew nF nO hH hA
  refine k (.val (.list xs)) _ _ _ _ R2 ⟨s1.ext.trans sF, fun b o e => ?_, s1.frm, s1.dom, s1.own, s1.par, s1.ownl⟩ hD c1
  by_cases hb : b = l
  · subst hb; exact .inr (.inl nH)
  · rw [upd_ne hb] at e; exact s1.new b o e
end
end DD

namespace DD
open PySem PySem.Spec PyProof.Rows L2
section
variable {X : Cx} {K : PySem.W.Frag} {F H : Hp} {σ : L2.St} {δ : DSt}

/-! ### arithmetic -/
def aAdd : DOp := fun d e C => match d, e with
  | .int i, .int j => C (.int (i + j))
  | .str a, .str b => a.length + b.length ≤ sizeLine ∧ C (.str (a ++ b))
  | .tuple xs, .tuple ys => xs.length + ys.length ≤ sizeLine ∧ C (.tuple (xs ++ ys))
  | _, _ => False
theorem od_add : OpD X (binaryOp .Add) aAdd := by
  refine ⟨_, OpR.or op_add (OpR.or op_add_str op_catA), fun {F σ δ H x y d e Q C} R hx hy c k => ?_⟩
  unfold aAdd at c
  split at c
  · cases hx; cases hy
    exact .inl ⟨_, _, rfl, rfl, k _ _ _ _ R .refl (.int _) c⟩
  · cases hx; cases hy
    exact .inr (.inl ⟨_, _, rfl, rfl, c.1, k _ _ _ _ R .refl (.str _) c.2⟩)
  · cases hx with
    | tup h1 a1 =>
      cases hy with
      | tup h2 a2 =>
        rename_i ds es a xs b ys
        refine .inr (.inr ⟨_, _, _, _, rfl, rfl, seqT R.sub h1, seqT R.sub h2, by rw [a1.length, a2.length]; exact c.1, fun e => ?_, fun n e => ?_, fun n m p np => ?_⟩)
        · subst e
          cases a1
          exact k _ _ _ _ R .refl (.tup h2 a2) c.2
        · subst e
          cases a2
          refine k _ _ _ _ R .refl (.tup h1 ?_) c.2
          rw [List.append_nil]
          exact a1
        · obtain ⟨R2, s2⟩ := R.alloc (o := .tup (xs ++ ys)) np
          exact k _ _ _ _ R2 s2 (.tup (SqT.of upd_same) (Dp.monoAll s2.ext _ _ (a1.append a2))) c.2
  · exact c.elim
def aSub : DOp := fun d e C => match d, e with
  | .int i, .int j => C (.int (i - j))
  | _, _ => False
theorem od_sub : OpD X (binaryOp .Sub) aSub := by
  refine ⟨_, op_sub, fun {F σ δ H x y d e Q C} R hx hy c k => ?_⟩
  unfold aSub at c
  split at c
  · cases hx; cases hy
    exact ⟨_, _, rfl, rfl, k _ _ _ _ R .refl (.int _) c⟩
  · exact c.elim
def aMod : DOp := fun d e C => match d, e with
  | .int i, .int j => 0 < j ∧ C (.int (i % j))
  | _, _ => False
theorem od_mod : OpD X (binaryOp .Mod) aMod := by
  refine ⟨_, op_mod, fun {F σ δ H x y d e Q C} R hx hy c k => ?_⟩
  unfold aMod at c
  split at c
  · cases hx; cases hy
    exact ⟨_, _, rfl, rfl, c.1, k _ _ _ _ R .refl (.int _) c.2⟩
  · exact c.elim
def aDiv : DOp := fun d e C => match d, e with
  | .int i, .int j => (0 < j ∧ j < 1073741824) ∧ C (.int (i / j))
  | _, _ => False
theorem od_div : OpD X (binaryOp .FloorDiv) aDiv := by
  refine ⟨_, op_fdiv, fun {F σ δ H x y d e Q C} R hx hy c k => ?_⟩
  unfold aDiv at c
  split at c
  · cases hx; cases hy
    exact ⟨_, _, rfl, rfl, c.1, k _ _ _ _ R .refl (.int _) c.2⟩
  · exact c.elim
def aPow : DOp := fun d e C => match d, e with
  | .int i, .int j => CPow i j ∧ C (.int (i ^ j.toNat))
  | _, _ => False
theorem od_pow : OpD X (binaryOp .Pow) aPow := by
  refine ⟨_, op_pow, fun {F σ δ H x y d e Q C} R hx hy c k => ?_⟩
  unfold aPow at c
  split at c
  · cases hx; cases hy
    exact ⟨_, _, rfl, rfl, c.1, k _ _ _ _ R .refl (.int _) c.2⟩
  · exact c.elim
/-- a text, n times -/
def strRep (a : Str) (n : Nat) : Str := ⟨(List.replicate n a.cps.toList).flatten.toArray⟩
theorem foldl_arr (x : Array Nat) : ∀ (n : Nat) (acc : Array Nat), ((List.replicate n x).foldl (· ++ ·) acc) = acc ++ (List.replicate n x.toList).flatten.toArray
  | 0, acc => by simp
  | n + 1, acc => by
    rw [List.replicate_succ, List.foldl_cons, foldl_arr x n (acc ++ x), List.replicate_succ, List.flatten_cons]
    apply Array.ext'
    simp
theorem op_mul_str : OpR X (binaryOp .Mult) (fun x y H Q => ∃ a n, x = .str a ∧ y = .int n ∧ -(2 ^ 62) ≤ n ∧ n < 2 ^ 62 ∧ a.length * n.toNat ≤ sizeLine ∧ Q (.str (strRep a n.toNat)) H) := by
  intro pins s σ H x y v u Q I rx ry h
  obtain ⟨a, n, rfl, rfl, h1, h2, hz, q⟩ := h
  obtain ⟨t, rfl⟩ := rx
  obtain ⟨t', rfl⟩ := ry
  have hs : sizeLine = 16777216 := sizeLine_eq
  refine PySem.P.mul_str ?_ (fun hn hb => ?_) (fun hn hb => ?_) ?_
  · rw [decide_eq_false (by omega), decide_eq_false (by omega)]; rfl
  · have hn0 : 0 < n := by omega
    have e : ((a.length * n.toNat : Nat) : Int) = (a.length : Int) * n := by
      rw [Int.natCast_mul, Int.toNat_of_nonneg (by omega)]
    intro hgt
    have h3 : (a.length : Int) * n ≤ 2 ^ 63 - 1 := by rw [← e]; omega
    have h4 : (a.length : Int) ≤ (2 ^ 63 - 1) / n := (Int.le_ediv_iff_mul_le hn0).mpr h3
    omega
  · unfold Builtin.Str.tooLong
    exact decide_eq_false (by omega)
  · have key : ∀ z : Str, z = strRep a n.toNat → ∀ (t : Tok) (k : Nat), EP X pins σ Q (.str z t) { s with toks := k } := fun z e t k => ⟨.str z, H, I.tok _, ⟨_, rfl⟩, by rw [e]; exact q⟩
    by_cases hn : n < 1
    · rw [if_pos hn]
      have e0 : n.toNat = 0 := by omega
      exact ⟨by decide, key _ (by rw [e0]; rfl) _ _⟩
    · rw [if_neg hn]
      by_cases hb : (n == 1 || a.length == 0) = true
      · rw [if_pos hb]
        refine key _ ?_ t s.toks
        rw [Bool.or_eq_true] at hb
        rcases hb with hb | hb
        · have e1 : n = 1 := by simpa using hb
          subst e1
          show a = strRep a 1
          unfold strRep
          simp
        · have e1 : a.cps.toList = [] := by
            have : a.cps.size = 0 := by simpa [Str.length] using hb
            simpa using this
          have e2 : ∀ m : Nat, (List.replicate m ([] : List Nat)).flatten = [] := fun m => by simp
          unfold strRep
          rw [e1, e2]
          refine TL.ext_tl ?_
          exact e1
      · rw [if_neg hb]
        have e : (⟨(List.replicate n.toNat a.cps).foldl (· ++ ·) #[]⟩ : Str) = strRep a n.toNat := by
          unfold strRep
          rw [foldl_arr]
          simp
        rw [e]
        have hl : (strRep a n.toNat).length ≤ sizeLine := by
          show ((List.replicate n.toNat a.cps.toList).flatten.toArray).size ≤ sizeLine
          rw [List.size_toArray, List.length_flatten, List.map_replicate, List.sum_replicate_nat, Array.length_toList]
          rw [Nat.mul_comm]
          exact hz
        exact ⟨by show (strRep a n.toNat).length ≤ sizeLine; exact hl, key _ rfl _ _⟩
def aMul : DOp := fun d e C => match d, e with
  | .int i, .int j => CMul i j ∧ C (.int (i * j))
  | .str a, .int n => -(2 ^ 62) ≤ n ∧ n < 2 ^ 62 ∧ a.length * n.toNat ≤ sizeLine ∧ C (.str (strRep a n.toNat))
  | _, _ => False
theorem od_mul : OpD X (binaryOp .Mult) aMul := by
  refine ⟨_, OpR.or op_mul op_mul_str, fun {F σ δ H x y d e Q C} R hx hy c k => ?_⟩
  unfold aMul at c
  split at c
  · cases hx; cases hy
    exact .inl ⟨_, _, rfl, rfl, c.1, k _ _ _ _ R .refl (.int _) c.2⟩
  · cases hx; cases hy
    exact .inr ⟨_, _, rfl, rfl, c.1, c.2.1, c.2.2.1, k _ _ _ _ R .refl (.str _) c.2.2.2⟩
  · exact c.elim
def aNeg : PyData → (PyData → Prop) → Prop := fun d C => match d with
  | .int i => C (.int (-i))
  | _ => False
def dUn (r : PyData → (PyData → Prop) → Prop) (f : DTE) : DTE := fun δ C => f δ fun a δ1 => match rv a with
  | some d => r d fun z => C (.val z) δ1
  | none => False
theorem pd_neg {a : Expr} {f : DTE} {pos : Pos} (h : PD X a f) : PD X (.UnaryOp .USub a pos) (dUn aNeg f) := by
  obtain ⟨te, p, q⟩ := h
  refine ⟨_, pe_un un_neg p, fun R c k => ?_⟩
  refine q R c fun a δ1 F1 H1 v R1 s1 r1 c1 => ?_
  split at c1
  · rename_i d hd
    have hd := r1.rv hd
    unfold aNeg at c1
    split at c1
    · cases hd
      exact ⟨_, rfl, k (.val (.int _)) _ _ _ _ R1 s1 (Dp.int _) c1⟩
    · exact c1.elim
  · exact c1.elim

/-! ### comparisons -/
def cLt : DCp := fun d e C => match d, e with
  | .int i, .int j => C (decide (i < j))
  | .str a, .str b => C (decide (a.cps.toList < b.cps.toList))
  | _, _ => False
def cLe : DCp := fun d e C => match d, e with
  | .int i, .int j => C (decide (i ≤ j))
  | .str a, .str b => C (!decide (b.cps.toList < a.cps.toList))
  | _, _ => False
def cGt : DCp := fun d e C => match d, e with
  | .int i, .int j => C (decide (j < i))
  | .str a, .str b => C (decide (b.cps.toList < a.cps.toList))
  | _, _ => False
def cGe : DCp := fun d e C => match d, e with
  | .int i, .int j => C (decide (j ≤ i))
  | .str a, .str b => C (!decide (a.cps.toList < b.cps.toList))
  | _, _ => False
theorem oc_lt : OpC X (compareOp .Lt) cLt := by
  refine ⟨_, OpR.or op_lt op_lt_str, fun {H x y d e Q C} hx hy c k => ?_⟩
  unfold cLt at c
  split at c
  · cases hx; cases hy; exact .inl ⟨_, _, rfl, rfl, k _ c⟩
  · cases hx; cases hy; exact .inr ⟨_, _, rfl, rfl, k _ c⟩
  · exact c.elim
theorem oc_le : OpC X (compareOp .LtE) cLe := by
  refine ⟨_, OpR.or op_le op_le_str, fun {H x y d e Q C} hx hy c k => ?_⟩
  unfold cLe at c
  split at c
  · cases hx; cases hy; exact .inl ⟨_, _, rfl, rfl, k _ c⟩
  · cases hx; cases hy; exact .inr ⟨_, _, rfl, rfl, k _ c⟩
  · exact c.elim
theorem oc_gt : OpC X (compareOp .Gt) cGt := by
  refine ⟨_, OpR.or op_gt op_gt_str, fun {H x y d e Q C} hx hy c k => ?_⟩
  unfold cGt at c
  split at c
  · cases hx; cases hy; exact .inl ⟨_, _, rfl, rfl, k _ c⟩
  · cases hx; cases hy; exact .inr ⟨_, _, rfl, rfl, k _ c⟩
  · exact c.elim
theorem oc_ge : OpC X (compareOp .GtE) cGe := by
  refine ⟨_, OpR.or op_ge op_ge_str, fun {H x y d e Q C} hx hy c k => ?_⟩
  unfold cGe at c
  split at c
  · cases hx; cases hy; exact .inl ⟨_, _, rfl, rfl, k _ c⟩
  · cases hx; cases hy; exact .inr ⟨_, _, rfl, rfl, k _ c⟩
  · exact c.elim
/-- two ints or two texts at once; any other data when they are of a known shape -/
def cEq (neg : Bool) : DCp := fun d e C => match d, e with
  | .int i, .int j => C (if neg then !decide (i = j) else decide (i = j))
  | .str a, .str b => C (if neg then !decide (a = b) else decide (a = b))
  | d, e => SeqAt.shaped d = true ∧ SeqAt.shaped e = true ∧ C (if neg then !PyData.eqv d e else PyData.eqv d e)
theorem decV_int {i j : Int} : decide (V.int i = V.int j) = decide (i = j) := by
  rw [dec_int, Bool.beq_eq_decide_eq]
theorem decV_str {i j : Str} : decide (V.str i = V.str j) = decide (i = j) := by
  rw [dec_str, Bool.beq_eq_decide_eq]
theorem oc_eq (hu : X.A.units + 64 < cLine) : OpC X (compareOp .Eq) (cEq false) := by
  refine ⟨_, OpR.or op_eq (op_eqD hu), fun {H x y d e Q C} hx hy c k => ?_⟩
  unfold cEq at c
  split at c
  · cases hx; cases hy; exact .inl ⟨rfl, by rw [decV_int]; exact k _ c⟩
  · cases hx; cases hy; exact .inl ⟨rfl, by rw [decV_str]; exact k _ c⟩
  · exact .inr ⟨_, _, hx, hy, c.1, c.2.1, k _ c.2.2⟩
theorem oc_ne (hu : X.A.units + 64 < cLine) : OpC X (compareOp .NotEq) (cEq true) := by
  refine ⟨_, OpR.or op_ne (op_neD hu), fun {H x y d e Q C} hx hy c k => ?_⟩
  unfold cEq at c
  split at c
  · cases hx; cases hy; exact .inl ⟨rfl, by rw [decV_int]; exact k _ c⟩
  · cases hx; cases hy; exact .inl ⟨rfl, by rw [decV_str]; exact k _ c⟩
  · exact .inr ⟨_, _, hx, hy, c.1, c.2.1, k _ c.2.2⟩
def flatD : PyData → Bool
  | .none => true
  | .bool _ => true
  | .int _ => true
  | .str _ => true
  | _ => false
theorem flat_of {K : PySem.W.Frag} {F : Hp} {v : V} {d : PyData} (h : Dp K F v d) (f : flatD d = true) : flatV v = true := by
  cases h <;> first | rfl | cases f
theorem eqV_of {K : PySem.W.Frag} {F : Hp} {v w : V} {d e : PyData} (h : Dp K F v d) (g : Dp K F w e) (fd : flatD d = true) (fe : flatD e = true) : eqV v w = PyData.eqv d e := by
  cases h <;> (try (simp [flatD] at fd; done)) <;> cases g <;> (try (simp [flatD] at fe; done)) <;> simp [eqV, PyData.eqv]
theorem inV_of {K : PySem.W.Frag} {F : Hp} {x : V} {d : PyData} (h : Dp K F x d) (fd : flatD d = true) : ∀ {vs : List V} {ds : List PyData}, DpAll K F vs ds → ds.all flatD = true → vs.all flatV = true ∧ inV x vs = ds.any (fun e => PyData.eqv e d)
  | _, _, .nil, _ => ⟨rfl, rfl⟩
  | v :: vs, e :: ds, .cons h1 h2, f => by
    rw [List.all_cons, Bool.and_eq_true] at f
    obtain ⟨g1, g2⟩ := inV_of h fd h2 f.2
    refine ⟨by rw [List.all_cons, flat_of h1 f.1, g1]; rfl, ?_⟩
    unfold inV at g2 ⊢
    rw [List.any_cons, List.any_cons, eqV_of h1 h f.1 fd, g2]
/-- x in a text (one sign), in a list or tuple of flat things -/
def cIn (neg : Bool) : DCp := fun d e C => match d, e with
  | .str a, .str b => match a.cps.toList with
    | [c] => C (if neg then !decide (c ∈ b.cps.toList) else decide (c ∈ b.cps.toList))
    | _ => False
  | d, .list ds => flatD d = true ∧ ds.all flatD = true ∧ C (if neg then !ds.any (fun e => PyData.eqv e d) else ds.any (fun e => PyData.eqv e d))
  | d, .tuple ds => flatD d = true ∧ ds.all flatD = true ∧ C (if neg then !ds.any (fun e => PyData.eqv e d) else ds.any (fun e => PyData.eqv e d))
  | _, _ => False
theorem one_sign {a : Str} {c : Nat} (h : a.cps.toList = [c]) : a = ⟨#[c]⟩ := TL.ext_tl h
theorem oc_in : OpC X (compareOp .In) (cIn false) := by
  refine ⟨_, OpR.or op_in_sign op_in_seq, fun {H x y d e Q C} hx hy c k => ?_⟩
  unfold cIn at c
  split at c
  · rename_i a b
    split at c
    · rename_i c' hc
      cases hx; cases hy
      exact .inl ⟨c', b, by rw [one_sign hc], rfl, k _ c⟩
    · exact c.elim
  · cases hy with
    | lst h1 a1 =>
      obtain ⟨g1, g2⟩ := inV_of hx c.1 a1 c.2.1
      exact .inr ⟨_, _, rfl, .inl h1, flat_of hx c.1, g1, k _ (by rw [g2]; exact c.2.2)⟩
  · cases hy with
    | tup h1 a1 =>
      obtain ⟨g1, g2⟩ := inV_of hx c.1 a1 c.2.1
      exact .inr ⟨_, _, rfl, .inr h1, flat_of hx c.1, g1, k _ (by rw [g2]; exact c.2.2)⟩
  · exact c.elim
theorem oc_notIn : OpC X (compareOp .NotIn) (cIn true) := by
  refine ⟨_, OpR.or op_notIn_sign op_notIn_seq, fun {H x y d e Q C} hx hy c k => ?_⟩
  unfold cIn at c
  split at c
  · rename_i a b
    split at c
    · rename_i c' hc
      cases hx; cases hy
      exact .inl ⟨c', b, by rw [one_sign hc], rfl, k _ c⟩
    · exact c.elim
  · cases hy with
    | lst h1 a1 =>
      obtain ⟨g1, g2⟩ := inV_of hx c.1 a1 c.2.1
      exact .inr ⟨_, _, rfl, .inl h1, flat_of hx c.1, g1, k (!inV x _) (by rw [g2]; exact c.2.2)⟩
  · cases hy with
    | tup h1 a1 =>
      obtain ⟨g1, g2⟩ := inV_of hx c.1 a1 c.2.1
      exact .inr ⟨_, _, rfl, .inr h1, flat_of hx c.1, g1, k (!inV x _) (by rw [g2]; exact c.2.2)⟩
  · exact c.elim
def isNone : PyData → Bool
  | .none => true
  | _ => false
def cIs (neg : Bool) : DCp := fun d e C => match e with
  | .none => C (if neg then !isNone d else isNone d)
  | _ => False
theorem isNone_of {K : PySem.W.Frag} {F : Hp} {v : V} {d : PyData} (h : Dp K F v d) : decide (v = V.non) = isNone d := by
  cases h <;> first | rfl | exact decide_eq_false (fun z => nomatch z)
theorem oc_is : OpC X (compareOp .Is) (cIs false) := by
  refine ⟨_, op_isN, fun {H x y d e Q C} hx hy c k => ?_⟩
  unfold cIs at c
  split at c
  · cases hy
    exact ⟨rfl, by rw [isNone_of hx]; exact k _ c⟩
  · exact c.elim
theorem oc_isnot : OpC X (compareOp .IsNot) (cIs true) := by
  refine ⟨_, op_notN, fun {H x y d e Q C} hx hy c k => ?_⟩
  unfold cIs at c
  split at c
  · cases hy
    exact ⟨rfl, by rw [isNone_of hx]; exact k _ c⟩
  · exact c.elim

/-! ### subscripts -/
theorem atI_of {K : PySem.W.Frag} {F : Hp} {vs : List V} {ds : List PyData} {i : Int} {d : PyData} (h : DpAll K F vs ds) (e : atI ds i = some d) : ∃ v, atI vs i = some v ∧ Dp K F v d := by
  unfold atI at e ⊢
  rw [h.length]
  cases q : ixN ds.length i with
  | none => rw [q] at e; cases e
  | some j =>
    rw [q] at e
    exact h.get e
def ixD (δ : DSt) (a : Ar) (i : Int) (C : PyData → Prop) : Prop := match a with
  | .sl j => match cont δ j with
    | some xs => match atI xs i with
      | some d => C d
      | none => False
    | none => False
  | .val (.list xs) => match atI xs i with
    | some d => C d
    | none => False
  | .val (.tuple xs) => match atI xs i with
    | some d => C d
    | none => False
  | .val (.str z) => z.length ≤ sizeLine ∧ match atI z.cps.toList i with
    | some c => C (.str ⟨#[c]⟩)
    | none => False
  | _ => False
def dIx (fa fb : DTE) : DTE := fun δ C => fa δ fun a δ1 => fb δ1 fun b δ2 => match b with
  | .val (.int i) => ixD δ2 a i fun d => C (.val d) δ2
  | _ => False
theorem pd_ix {a b : Expr} {fa fb : DTE} {pos : Pos} (ha : PD X a fa) (hb : PD X b fb) (hs : PlainIx b := by exact fun _ _ => rfl) : PD X (.Subscript a b pos) (dIx fa fb) := by
  obtain ⟨te, p1, q1⟩ := ha
  obtain ⟨tb, p2, q2⟩ := hb
  refine ⟨_, pe_ix ix_seq p1 p2 hs, fun R c k => ?_⟩
  refine q1 R c fun a δ1 F1 H1 v R1 s1 r1 c1 => ?_
  refine q2 R1 c1 fun b δ2 F2 H2 w R2 s2 r2 c2 => ?_
  split at c2
  · rename_i i
    cases (show Dp X.K F2 w (.int i) from r2)
    have g1 := r1.mono s2.ext
    clear r1
    unfold ixD at c2
    split at c2
    · rename_i j
      split at c2
      · rename_i xs hx
        split at c2
        · rename_i d hd
          obtain ⟨l, vs, e1, _, e3, e4⟩ := R2.own j xs (cont_own hx)
          have g1 : _ = some (some v) := g1
          rw [e1] at g1
          cases g1
          obtain ⟨u, hu, du⟩ := atI_of e4 hd
          exact .inl ⟨_, _, _, _, rfl, rfl, SqL.of e3, hu, k (.val d) _ _ _ _ R2 (s1.trans s2) du c2⟩
        · exact c2.elim
      · exact c2.elim
    · rename_i xs
      split at c2
      · rename_i d hd
        cases (show Dp X.K F2 v (.list xs) from g1) with
        | lst h1 a1 =>
          obtain ⟨u, hu, du⟩ := atI_of a1 hd
          exact .inl ⟨_, _, _, _, rfl, rfl, R2.sub.seq h1, hu, k (.val d) _ _ _ _ R2 (s1.trans s2) du c2⟩
      · exact c2.elim
    · rename_i xs
      split at c2
      · rename_i d hd
        cases (show Dp X.K F2 v (.tuple xs) from g1) with
        | tup h1 a1 =>
          obtain ⟨u, hu, du⟩ := atI_of a1 hd
          exact .inr (.inl ⟨_, _, _, _, rfl, rfl, seqT R2.sub h1, hu, k (.val d) _ _ _ _ R2 (s1.trans s2) du c2⟩)
      · exact c2.elim
    · rename_i z
      cases (show Dp X.K F2 v (.str z) from g1)
      obtain ⟨hz, c2⟩ := c2
      split at c2
      · rename_i c hc
        exact .inr (.inr ⟨_, _, _, rfl, rfl, hz, hc, k (.val (.str ⟨#[c]⟩)) _ _ _ _ R2 (s1.trans s2) (Dp.str _) c2⟩)
      · exact c2.elim
    · exact c2.elim
  · exact c2.elim
/-! ### slices -/
abbrev DTO := DSt → (Option Int → DSt → Prop) → Prop
structure PDO (X : Cx) (e : Option Expr) (f : DTO) : Prop where
  ex : ∃ te, PO X e te ∧ ∀ {F : Hp} {σ : L2.St} {δ : DSt} {H : Hp} {Q : Option Int → Hp → Prop} {C : Option Int → DSt → Prop}, RepS X.K F σ δ H → f δ C →
    (∀ o δ' F' H', RepS X.K F' σ δ' H' → Stp σ δ F H σ δ' F' H' → C o δ' → Q o H') → te σ H Q
def doNone : DTO := fun δ C => C none δ
def doSome (f : DTE) : DTO := fun δ C => f δ fun a δ1 => match a with
  | .val (.int i) => C (some i) δ1
  | _ => False
theorem pdo_none : PDO X none doNone := ⟨_, po_none, fun R c k => k _ _ _ _ R .refl c⟩
theorem pdo_some {e : Expr} {f : DTE} (h : PD X e f) : PDO X (some e) (doSome f) := by
  obtain ⟨te, p, q⟩ := h
  refine ⟨_, po_some p, fun R c k => ?_⟩
  refine q R c fun a δ1 F1 H1 v R1 s1 r1 c1 => ?_
  split at c1
  · rename_i i
    cases (show Dp X.K F1 v (.int i) from r1)
    exact ⟨i, rfl, k _ _ _ _ R1 s1 c1⟩
  · exact c1.elim
def cutD (ds : List PyData) (lo hi : Option Int) : List PyData := (ds.drop (HT.sIx ds.length 0 lo)).take (HT.sIx ds.length ds.length hi - HT.sIx ds.length 0 lo)
theorem cut_of {K : PySem.W.Frag} {F : Hp} {vs : List V} {ds : List PyData} (h : DpAll K F vs ds) (lo hi : Option Int) : DpAll K F (cutV vs lo hi) (cutD ds lo hi) := by
  unfold cutV cutD
  rw [h.length]
  exact (h.drop _).take _
def slD (δ : DSt) (a : Ar) (lo hi : Option Int) (C : PyData → Prop) : Prop := match a with
  | .val (.str z) => z.length ≤ sizeLine ∧ C (.str (cutS z lo hi))
  | .val (.list xs) => C (.list (cutD xs lo hi))
  | .val (.tuple xs) => C (.tuple (cutD xs lo hi))
  | .sl j => match cont δ j with
    | some xs => C (.list (cutD xs lo hi))
    | none => False
  | _ => False
def dSl (f : DTE) (fl fh : DTO) : DTE := fun δ C => f δ fun a δ1 => fl δ1 fun lo δ2 => fh δ2 fun hi δ3 => slD δ3 a lo hi fun d => C (.val d) δ3
theorem sIx_whole {n : Nat} {lo hi : Option Int} (h : HT.sIx n 0 lo = 0 ∧ HT.sIx n n hi = n) (ds : List PyData) (e : ds.length = n) : cutD ds lo hi = ds := by
  unfold cutD
  rw [e, h.1, h.2]
  simp [← e]
theorem pd_slice {e : Expr} {lo hi : Option Expr} {f : DTE} {fl fh : DTO} {pos p2 : Pos} (he : PD X e f) (hl : PDO X lo fl) (hh : PDO X hi fh) : PD X (.Subscript e (.Slice lo hi none p2) pos) (dSl f fl fh) := by
  obtain ⟨te, p1, q1⟩ := he
  obtain ⟨tl, p2, q2⟩ := hl
  obtain ⟨th, p3, q3⟩ := hh
  refine ⟨_, pe_slice (SlR.or sl_list (SlR.or sl_tupA sl_str)) p1 p2 p3, fun R c k => ?_⟩
  refine q1 R c fun a δ1 F1 H1 v R1 s1 r1 c1 => ?_
  refine q2 R1 c1 fun lo δ2 F2 H2 R2 s2 c2 => ?_
  refine q3 R2 c2 fun hi δ3 F3 H3 R3 s3 c3 => ?_
  have g1 := r1.mono (s2.ext.trans s3.ext)
  clear r1
  have s := (s1.trans s2).trans s3
  unfold slD at c3
  split at c3
  · rename_i z
    cases (show Dp X.K F3 v (.str z) from g1)
    exact .inr (.inr ⟨_, rfl, c3.1, k (.val (.str _)) _ _ _ _ R3 s (Dp.str _) c3.2⟩)
  · rename_i xs
    cases (show Dp X.K F3 v (.list xs) from g1) with
    | lst h1 a1 =>
      refine .inl ⟨_, _, rfl, R3.sub.seq h1, fun p np => ?_⟩
      obtain ⟨R4, s4⟩ := R3.alloc (o := .lst (cutV _ lo hi)) np
      exact k (.val (.list _)) _ _ _ _ R4 (s.trans s4) (Dp.lst (SqL.of upd_same) (Dp.monoAll s4.ext _ _ (cut_of a1 lo hi))) c3
  · rename_i xs
    cases (show Dp X.K F3 v (.tuple xs) from g1) with
    | tup h1 a1 =>
      refine .inr (.inl ⟨_, _, rfl, seqT R3.sub h1, fun hw => ?_, fun _ p np => ?_⟩)
      · refine k (.val (.tuple _)) _ _ _ _ R3 s (Dp.tup h1 ?_) c3
        rw [sIx_whole hw _ a1.length.symm]
        exact a1
      · obtain ⟨R4, s4⟩ := R3.alloc (o := .tup (cutV _ lo hi)) np
        exact k (.val (.tuple _)) _ _ _ _ R4 (s.trans s4) (Dp.tup (SqT.of upd_same) (Dp.monoAll s4.ext _ _ (cut_of a1 lo hi))) c3
  · rename_i j
    split at c3
    · rename_i xs hx
      obtain ⟨l, vs, e1, _, e3, e4⟩ := R3.own j xs (cont_own hx)
      have g1 : _ = some (some v) := g1
      rw [e1] at g1
      cases g1
      refine .inl ⟨_, _, rfl, SqL.of e3, fun p np => ?_⟩
      obtain ⟨R4, s4⟩ := R3.alloc (o := .lst (cutV _ lo hi)) np
      exact k (.val (.list _)) _ _ _ _ R4 (s.trans s4) (Dp.lst (SqL.of upd_same) (Dp.monoAll s4.ext _ _ (cut_of e4 lo hi))) c3
    · exact c3.elim
  · exact c3.elim
end
end DD

namespace DD
open PySem PySem.Spec PyProof.Rows L2
section
variable {X : Cx} {K : PySem.W.Frag} {F H : Hp} {σ : L2.St} {δ : DSt}

/-! ### calls of built-in functions and types -/
abbrev DCl := DSt → List Ar → (PyData → Prop) → Prop
def CallD (X : Cx) (f : Value) (r : DCl) : Prop :=
  ∃ r', CallR X f r' ∧ ∀ {F : Hp} {σ : L2.St} {δ : DSt} {H : Hp} {vs : List V} {as : List Ar} {Q : VK} {C : PyData → Prop}, RepS X.K F σ δ H → ArsRep X.K F σ vs as → r δ as C →
    (∀ z F' H' v, RepS X.K F' σ δ H' → Stp σ δ F H σ δ F' H' → Dp X.K F' v z → C z → Q v H') → r' vs H Q
def dCB (r : DCl) (f : DTA) : DTE := fun δ C => f δ fun as δ1 => r δ1 as fun z => C (.val z) δ1
theorem pd_callB {e : Expr} {es : List Expr} {x : Str} {id : String} {r : DCl} {f : DTA} {p pos : Pos} (hc : CallD X (.builtin id) r) (hg : Gl X x) (hm : X.mg x = none) (hv : bootBuiltins x = some (.builtin id)) (ha : PDA X (e :: es) f) (hn : x ≠ "__name__" := by decide) (hdb : (x == ("__debug__" : Str)) = false := by decide)
    (he : starEach (e :: es) X.env = (false, eval e X.env) :: starEach es X.env := by rfl) (hpl : (backTo pos (starEach es X.env)).any (·.1) = false := by rfl) : PD X (.Call (.Name x p) (e :: es) [] pos) (dCB r f) := by
  obtain ⟨r', c1, c2⟩ := hc
  obtain ⟨ta, p, q⟩ := ha
  refine ⟨_, pe_callB c1 hg hm hv p hn hdb he hpl, fun R c k => ?_⟩
  refine q R c fun as δ1 F1 H1 vs R1 s1 r1 c3 => ?_
  exact c2 R1 r1 c3 fun z F' H' v R2 s2 r2 c4 => k (.val z) _ _ _ _ R2 (s1.trans s2) r2 c4
theorem pd_callT {e : Expr} {es : List Expr} {x : Str} {T : String} {r : DCl} {f : DTA} {p pos : Pos} (hc : CallD X (.type T) r) (hg : Gl X x) (hm : X.mg x = none) (hv : bootBuiltins x = some (.type T)) (ha : PDA X (e :: es) f) (hn : x ≠ "__name__" := by decide) (hdb : (x == ("__debug__" : Str)) = false := by decide)
    (he : starEach (e :: es) X.env = (false, eval e X.env) :: starEach es X.env := by rfl) (hpl : (backTo pos (starEach es X.env)).any (·.1) = false := by rfl) : PD X (.Call (.Name x p) (e :: es) [] pos) (dCB r f) := by
  obtain ⟨r', c1, c2⟩ := hc
  obtain ⟨ta, p, q⟩ := ha
  refine ⟨_, pe_callTy c1 hg hm hv p hn hdb he hpl, fun R c k => ?_⟩
  refine q R c fun as δ1 F1 H1 vs R1 s1 r1 c3 => ?_
  exact c2 R1 r1 c3 fun z F' H' v R2 s2 r2 c4 => k (.val z) _ _ _ _ R2 (s1.trans s2) r2 c4
theorem arsRep1 {vs : List V} {a : Ar} (h : ArsRep K F σ vs [a]) : ∃ v, vs = [v] ∧ ArRep K F σ v a := by
  cases vs with
  | nil => exact h.elim
  | cons v vs =>
    cases vs with
    | nil => exact ⟨v, rfl, h.1⟩
    | cons _ _ => exact h.2.elim
theorem arsRep2 {vs : List V} {a b : Ar} (h : ArsRep K F σ vs [a, b]) : ∃ v w, vs = [v, w] ∧ ArRep K F σ v a ∧ ArRep K F σ w b := by
  cases vs with
  | nil => exact h.elim
  | cons v vs =>
    obtain ⟨w, rfl, h2⟩ := arsRep1 h.2
    exact ⟨v, w, rfl, h.1, h2⟩
def fLen : DCl := fun δ as C => match as with
  | [a] => match rd δ a with
    | some (.str z) => z.length ≤ sizeLine ∧ C (.int z.length)
    | some (.list xs) => C (.int xs.length)
    | some (.tuple xs) => C (.int xs.length)
    | _ => False
  | _ => False
theorem cd_len : CallD X (.builtin "len") fLen := by
  refine ⟨_, call_len, fun {F σ δ H vs as Q C} R r c k => ?_⟩
  unfold fLen at c
  split at c
  · obtain ⟨v, rfl, r1⟩ := arsRep1 r
    split at c
    · rename_i z hz
      cases r1.rd R hz
      exact ⟨_, _, rfl, ⟨c.1, rfl⟩, k (.int _) _ _ _ R .refl (.int _) c.2⟩
    · rename_i xs hz
      cases r1.rd R hz with
      | lst h1 a1 => exact ⟨_, _, rfl, .inl ⟨_, h1, rfl⟩, k (.int _) _ _ _ R .refl (.int _) (by rw [a1.length]; exact c)⟩
    · rename_i xs hz
      cases r1.rd R hz with
      | tup h1 a1 => exact ⟨_, _, rfl, .inr ⟨_, h1, rfl⟩, k (.int _) _ _ _ R .refl (.int _) (by rw [a1.length]; exact c)⟩
    · exact c.elim
  · exact c.elim
def fInt : DCl := fun δ as C => match as with
  | [.val (.int i)] => C (.int i)
  | [.val (.bool b)] => C (.int (if b then 1 else 0))
  | _ => False
theorem cd_int : CallD X (.type "int") fInt := by
  refine ⟨_, call_int1, fun {F σ δ H vs as Q C} R r c k => ?_⟩
  unfold fInt at c
  split at c
  · obtain ⟨v, rfl, r1⟩ := arsRep1 r
    cases (show Dp X.K F v (.int _) from r1)
    exact .inl ⟨_, rfl, k _ _ _ _ R .refl (.int _) c⟩
  · obtain ⟨v, rfl, r1⟩ := arsRep1 r
    cases (show Dp X.K F v (.bool _) from r1)
    exact .inr ⟨_, rfl, k _ _ _ _ R .refl (.int _) c⟩
  · exact c.elim
/-- the items of a list or tuple, frozen or owned -/
def itemsD (δ : DSt) : Ar → Option (List PyData)
  | .val (.list xs) => some xs
  | .val (.tuple xs) => some xs
  | .sl i => cont δ i
  | _ => none
theorem itemsD_rep (R : RepS K F σ δ H) {v : V} {a : Ar} {xs : List PyData} (r : ArRep K F σ v a) (h : itemsD δ a = some xs) : ∃ p vs, v = .ref p ∧ (SqL K H p vs ∨ SqT K H p vs) ∧ DpAll K F vs xs := by
  cases a with
  | sl i =>
    obtain ⟨l, vs, e1, _, e3, e4⟩ := R.own i xs (cont_own h)
    have r : σ[i]? = some (some v) := r
    rw [e1] at r
    cases r
    exact ⟨l, vs, rfl, .inl (SqL.of e3), e4⟩
  | val d =>
    have r : Dp K F v d := r
    cases r with
    | lst h1 a1 => cases h; exact ⟨_, _, rfl, .inl (R.sub.seq h1), a1⟩
    | tup h1 a1 => cases h; exact ⟨_, _, rfl, .inr (seqT R.sub h1), a1⟩
    | _ => cases h
def fTuple : DCl := fun δ as C => match as with
  | [a] => match itemsD δ a with
    | some xs => C (.tuple xs)
    | none => False
  | _ => False
theorem cd_tuple : CallD X (.type "tuple") fTuple := by
  refine ⟨_, call_tuple_of, fun {F σ δ H vs as Q C} R r c k => ?_⟩
  unfold fTuple at c
  split at c
  · obtain ⟨v, rfl, r1⟩ := arsRep1 r
    rename_i a
    cases q : itemsD δ a with
    | none => rw [q] at c; exact c.elim
    | some xs =>
      rw [q] at c
      cases a with
      | sl i =>
        obtain ⟨l, vs, e1, _, e3, e4⟩ := R.own i xs (cont_own q)
        have r1 : σ[i]? = some (some v) := r1
        rw [e1] at r1
        cases r1
        refine ⟨_, _, rfl, .inl ⟨SqL.of e3, fun p np => ?_⟩⟩
        obtain ⟨R2, s2⟩ := R.alloc (o := .tup vs) np
        exact k _ _ _ _ R2 s2 (.tup (SqT.of upd_same) (Dp.monoAll s2.ext _ _ e4)) c
      | val d =>
        have r1 : Dp X.K F v d := r1
        cases r1 with
        | lst h1 a1 =>
          cases q
          refine ⟨_, _, rfl, .inl ⟨R.sub.seq h1, fun p np => ?_⟩⟩
          obtain ⟨R2, s2⟩ := R.alloc (o := .tup _) np
          exact k _ _ _ _ R2 s2 (.tup (SqT.of upd_same) (Dp.monoAll s2.ext _ _ a1)) c
        | tup h1 a1 =>
          cases q
          exact ⟨_, _, rfl, .inr ⟨seqT R.sub h1, k _ _ _ _ R .refl (.tup h1 a1) c⟩⟩
        | _ => cases q
  · exact c.elim
/-- list(xs): a new list -/
def dListN (f : DTA) : DSt → (List PyData → DSt → Prop) → Prop := fun δ C => f δ fun as δ1 => match as with
  | [a] => match itemsD δ1 a with
    | some xs => C xs δ1
    | none => False
  | _ => False
theorem pdn_list {e : Expr} {x : Str} {f : DTA} {p pos : Pos} (hg : Gl X x) (hm : X.mg x = none) (hv : bootBuiltins x = some (.type "list")) (ha : PDA X [e] f) (hn : x ≠ "__name__" := by decide) (hdb : (x == ("__debug__" : Str)) = false := by decide)
    (he : starEach [e] X.env = (false, eval e X.env) :: starEach [] X.env := by rfl) (hpl : (backTo pos (starEach [] X.env)).any (·.1) = false := by rfl) : PDN X (.Call (.Name x p) [e] [] pos) (dListN f) := by
  obtain ⟨ta, p, q⟩ := ha
  refine ⟨_, pe_callTy call_list_of hg hm hv p hn hdb he hpl, fun {F σ δ H Q C} R c k => ?_⟩
  refine q R c fun as δ1 F1 H1 vs R1 s1 r1 c3 => ?_
  split at c3
  · obtain ⟨v, rfl, r2⟩ := arsRep1 r1
    split at c3
    · rename_i xs hx
      obtain ⟨p, ws, rfl, hs, hA⟩ := itemsD_rep R1 r2 hx
      refine ⟨_, _, rfl, hs, fun l nl => ?_⟩
      obtain ⟨R2, s2, nF, nO⟩ := R1.fresh (o := .lst ws) nl
      exact k _ _ _ _ _ _ R2 (s1.trans s2) nF (s1.dom _ nl) nO upd_same hA c3
    · exact c3.elim
  · exact c3.elim
/-! ### isinstance, with one built-in type -/
def tyName : PyData → String
  | .none => "NoneType"
  | .bool _ => "bool"
  | .int _ => "int"
  | .str _ => "str"
  | .list _ => "list"
  | .tuple _ => "tuple"
  | .dict _ => "dict"
theorem ty_of {v : V} {d : PyData} (h : Dp K H v d) : TyX K H v (.type (tyName d)) := by
  cases h with
  | non => exact .base .non
  | bl b => exact .base (.bl b)
  | int i => exact .base (.int i)
  | str z => exact .base (.str z)
  | lst h1 _ =>
    rcases h1 with (h1 | ⟨o, h1⟩) | ⟨o, its, n, h1, h2, _⟩
    · exact .base (.lst h1)
    · exact .base (.frz h1)
    · exact .kList h1 h2
  | tup h1 _ =>
    rcases h1 with (h1 | ⟨o, h1⟩) | ⟨o, its, n, h1, h2, _⟩
    · exact .base (.tup h1)
    · exact .fTuple h1
    · exact .kTuple h1 h2
def dIsi (T : String) (f : DTE) : DTE := fun δ C => f δ fun a δ1 => match rd δ1 a with
  | some d => match kitB (tyName d) T with
    | some b => C (.val (.bool b)) δ1
    | none => False
  | none => False
theorem pd_isi {e : Expr} {T : String} {f : DTE} {x : Str} {p p2 pos : Pos} (hg : Gl X "isinstance") (hm : X.mg "isinstance" = none) (hT : Gl X x) (hTm : X.mg x = none) (hTv : bootBuiltins x = some (.type T)) (h : PD X e f) (hn : x ≠ "__name__" := by decide) (hdb : (x == ("__debug__" : Str)) = false := by decide)
    (he : starEach [e, .Name x p2] X.env = (false, eval e X.env) :: starEach [.Name x p2] X.env := by rfl) (he2 : starEach [.Name x p2] X.env = (false, eval (.Name x p2) X.env) :: starEach [] X.env := by rfl) (hpl : (backTo pos (starEach [.Name x p2] X.env)).any (·.1) = false := by rfl) :
    PD X (.Call (.Name "isinstance" p) [e, .Name x p2] [] pos) (dIsi T f) := by
  obtain ⟨te, p, q⟩ := h
  refine ⟨_, pe_callB call_isi hg hm (by decide +kernel) (pa_cons p (pa_cons (pe_bltn (v := .ty T) hT hTm hTv rfl hn hdb) pa_nil he2) he) (by decide) (by decide) he hpl, fun R c k => ?_⟩
  refine q R c fun a δ1 F1 H1 v R1 s1 r1 c1 => ?_
  split at c1
  · rename_i d hd
    split at c1
    · rename_i b hb
      have ty := ty_of (r1.rd R1 hd)
      exact ⟨v, .ty T, _, _, b, rfl, .ty T, ty, kit_ty hb, k (.val (.bool b)) _ _ _ _ R1 s1 (Dp.bl b) c1⟩
    · exact c1.elim
  · exact c1.elim

/-! ### methods of texts -/
abbrev DMt := DSt → Str → List Ar → (PyData → Prop) → Prop
def MethD (X : Cx) (id : String) (r : DMt) : Prop :=
  ∃ r', MtR X id r' ∧ ∀ {F : Hp} {σ : L2.St} {δ : DSt} {H : Hp} {z : Str} {vs : List V} {as : List Ar} {Q : VK} {C : PyData → Prop}, RepS X.K F σ δ H → ArsRep X.K F σ vs as → r δ z as C →
    (∀ z F' H' v, RepS X.K F' σ δ H' → Stp σ δ F H σ δ F' H' → Dp X.K F' v z → C z → Q v H') → r' (.str z) vs H Q
def dM (r : DMt) (fo : DTE) (f : DTA) : DTE := fun δ C => fo δ fun a δ1 => match a with
  | .val (.str z) => f δ1 fun as δ2 => r δ2 z as fun y => C (.val y) δ2
  | _ => False
theorem pd_m0 {o : Expr} {id : String} {name : Str} {apos pos : Pos} {r : DMt} {fo : DTE} (slot : Slot "str" name id) (ty : typeOf (.builtin id) = pure (.type "method_descriptor")) (rule : MethD X id r) (ho : PD X o fo)
    (hbase : attributeBase o name X.env (eval o X.env) = eval o X.env := by rfl) (hline : (apos.endLine == pos.line) = true := by rfl) : PD X (.Call (.Attribute o name apos) [] [] pos) (dM r fo dNil) := by
  obtain ⟨r', m1, m2⟩ := rule
  obtain ⟨te, p, q⟩ := ho
  refine ⟨_, pe_m0 slot ty m1 p hbase hline, fun R c k => ?_⟩
  refine q R c fun a δ1 F1 H1 v R1 s1 r1 c1 => ?_
  split at c1
  · rename_i z
    cases (show Dp X.K F1 v (.str z) from r1)
    exact ⟨⟨z, rfl⟩, m2 (as := []) R1 trivial c1 fun z F' H' v R2 s2 r2 c4 => k (.val z) _ _ _ _ R2 (s1.trans s2) r2 c4⟩
  · exact c1.elim
theorem pd_m1 {o e : Expr} {id : String} {name : Str} {apos pos : Pos} {r : DMt} {fo f : DTE} (slot : Slot "str" name id) (ty : typeOf (.builtin id) = pure (.type "method_descriptor")) (rule : MethD X id r) (ho : PD X o fo) (he : PD X e f)
    (hs : starEach [e] X.env = [(false, eval e X.env)] := by rfl) (hbase : attributeBase o name X.env (eval o X.env) = eval o X.env := by rfl) (hline : (apos.endLine == pos.line) = true := by rfl) : PD X (.Call (.Attribute o name apos) [e] [] pos) (dM r fo (dCons f dNil)) := by
  obtain ⟨r', m1, m2⟩ := rule
  obtain ⟨te, p, q⟩ := ho
  obtain ⟨tf, p2, q2⟩ := he
  refine ⟨_, pe_m1 slot ty m1 p p2 hs hbase hline, fun R c k => ?_⟩
  refine q R c fun a δ1 F1 H1 v R1 s1 r1 c1 => ?_
  split at c1
  · rename_i z
    cases (show Dp X.K F1 v (.str z) from r1)
    refine ⟨⟨z, rfl⟩, q2 R1 c1 fun b δ2 F2 H2 w R2 s2 r2 c2 => ?_⟩
    exact m2 (as := [b]) R2 ⟨r2, trivial⟩ c2 fun z F' H' v R3 s3 r3 c4 => k (.val z) _ _ _ _ R3 ((s1.trans s2).trans s3) r3 c4
  · exact c1.elim
/-- texts of a list or tuple -/
def strsD : List PyData → Option (List Str)
  | [] => some []
  | .str z :: ds => match strsD ds with
    | some zs => some (z :: zs)
    | none => none
  | _ :: _ => none
theorem strsD_eq : ∀ {ds : List PyData} {zs : List Str}, strsD ds = some zs → ds = zs.map PyData.str
  | [], zs, h => by cases h; rfl
  | d :: ds, zs, h => by
    cases d with
    | str z =>
      unfold strsD at h
      split at h
      · cases h
        rename_i zs' hz
        rw [strsD_eq hz]
        rfl
      · cases h
    | _ => cases h
theorem strsD_map : ∀ zs : List Str, strsD (zs.map PyData.str) = some zs
  | [] => rfl
  | z :: zs => by
    show (match strsD (zs.map PyData.str) with | some zs => some (z :: zs) | none => none) = _
    rw [strsD_map zs]
def mJoin : DMt := fun δ z as C => match as with
  | [a] => match itemsD δ a with
    | some xs => match strsD xs with
      | some ys => (ys.map (·.length)).sum + ys.length * z.length ≤ 16777216 ∧ C (.str (Txt.join z ys))
      | none => False
    | none => False
  | _ => False
theorem md_join : MethD X "str.join" mJoin := by
  refine ⟨_, mt_join, fun {F σ δ H z vs as Q C} R r c k => ?_⟩
  unfold mJoin at c
  split at c
  · obtain ⟨v, rfl, r1⟩ := arsRep1 r
    split at c
    · rename_i xs hx
      split at c
      · rename_i ys hy
        obtain ⟨p, ws, rfl, hs, hA⟩ := itemsD_rep R r1 hx
        have e := strsD_eq hy
        subst e
        have e := hA.ofStrs
        subst e
        exact ⟨_, _, ys, rfl, rfl, hs, c.1, k _ _ _ _ R .refl (.str _) c.2⟩
      · exact c.elim
    · exact c.elim
  · exact c.elim
def mSplit : DMt := fun _ z as C => match as with
  | [.val (.str y)] => (y.length == 0) = false ∧ z.length + 2 ≤ sizeLine ∧ C (.list ((Txt.split z y).map PyData.str))
  | _ => False
theorem md_split : MethD X "str.split" mSplit := by
  refine ⟨_, mt_split, fun {F σ δ H z vs as Q C} R r c k => ?_⟩
  unfold mSplit at c
  split at c
  · obtain ⟨v, rfl, r1⟩ := arsRep1 r
    cases (show Dp X.K F v (.str _) from r1)
    refine ⟨_, _, rfl, rfl, c.1, c.2.1, fun p np => ?_⟩
    obtain ⟨R2, s2⟩ := R.alloc (o := .lst ((Txt.split z _).map V.str)) np
    exact k _ _ _ _ R2 s2 (.lst (SqL.of upd_same) (DpAll.strs _)) c.2.2
  · exact c.elim
theorem mt_indexY (hc : X.calm = true) : MtR X "str.index" (fun x xs H Q => ∃ (a b : Str) (k : Nat), x = .str a ∧ xs = [.str b] ∧ Txt.index0 a b = some k ∧ Q (.int (k : Nat)) H) := by
  intro pins s σ H x xs v us Q I rx rs h
  obtain ⟨a, b, k, rfl, rfl, hk, q⟩ := h
  obtain ⟨t, rfl⟩ := rx
  cases rs with
  | cons r1 rs =>
    cases rs
    obtain ⟨u, rfl⟩ := r1
    cases e : Builtin.Str.occurrences a b 0 a.length 1 with
    | nil =>
      unfold Txt.index0 at hk
      rw [e] at hk
      cases hk
    | cons j rest =>
      unfold Txt.index0 at hk
      rw [e] at hk
      cases hk
      exact PySem.SC.index e ⟨.int (_ : Nat), H, I.tok _, ⟨_, rfl⟩, q⟩
/-- s.index(one sign that is there) -/
def mIndex : DMt := fun _ z as C => match as with
  | [.val (.str y)] => match Txt.index0 z y with
    | some k => C (.int (k : Nat))
    | none => False
  | _ => False
theorem md_index (hc : X.calm = true) : MethD X "str.index" mIndex := by
  refine ⟨_, mt_indexY hc, fun {F σ δ H z vs as Q C} R r c k => ?_⟩
  unfold mIndex at c
  split at c
  · obtain ⟨v, rfl, r1⟩ := arsRep1 r
    cases (show Dp X.K F v (.str _) from r1)
    split at c
    · rename_i j hj
      exact ⟨_, _, j, rfl, rfl, hj, k _ _ _ _ R .refl (.int _) c⟩
    · exact c.elim
  · exact c.elim
/-! ### methods of an owned list -/
def dApp (fo f : DTE) : DTE := fun δ C => fo δ fun a δ1 => match a with
  | .sl i => (cont δ1 i).isSome = true ∧ f δ1 fun b δ2 => match b with
    | .val d => match cont δ2 i with
      | some xs => xs.length < sizeLine ∧ C (.val .none) (putC δ2 i (xs ++ [d]))
      | none => False
    | _ => False
  | _ => False
theorem isSl (R : RepS K F σ δ H) {i : Nat} {v : V} (h : (cont δ i).isSome = true) (e : σ[i]? = some (some v)) : tyV K "list" v H := by
  obtain ⟨xs, hx⟩ := Option.isSome_iff_exists.mp h
  obtain ⟨l, vs, e1, _, e3, _⟩ := R.own i xs (cont_own hx)
  rw [e] at e1
  cases e1
  exact .inl ⟨rfl, _, SqL.of e3⟩
theorem pd_append {o e : Expr} {fo f : DTE} {apos cpos : Pos} (ho : PD X o fo) (he : PD X e f)
    (hbase : attributeBase o "append" X.env (eval o X.env) = eval o X.env := by rfl)
    (hfew : ((backTo cpos (starEach [e] X.env)).all (fun x => !x.1) && (backToKw cpos (keywordEach [] X.env)).all (fun x => x.1.isSome)
      && decide ([e].length + ([] : List Keyword).length + (if ([] : List Keyword).isEmpty then 0 else 1) < 30)) = true := by rfl)
    (hline : (apos.endLine == cpos.line) = true := by rfl) (hs : starEach [e] X.env = (false, eval e X.env) :: starEach [] X.env := by rfl) (hplain : (backTo cpos (starEach [] X.env)).any (·.1) = false := by rfl) :
    PD X (.Call (.Attribute o "append" apos) [e] [] cpos) (dApp fo f) := by
  obtain ⟨te, p, q⟩ := ho
  obtain ⟨tf, p2, q2⟩ := he
  refine ⟨_, pe_bm PySem.F.plainAttrs_list PySem.F.slot_list_append PySem.F.type_list_append mt_append p (pa_cons p2 pa_nil hs) hbase hfew hline hs hplain, fun {F σ δ H Q C} R c k => ?_⟩
  refine q R c fun a δ1 F1 H1 v R1 s1 r1 c1 => ?_
  split at c1
  · rename_i i
    have r1 : σ[i]? = some (some v) := r1
    have ty := isSl R1 c1.1 r1
    refine ⟨ty, q2 R1 c1.2 fun b δ2 F2 H2 w R2 s2 r2 c2 => ?_⟩
    split at c2
    · rename_i d
      split at c2
      · rename_i xs hx
        obtain ⟨l, vs, e1, e2, e3, e4⟩ := R2.own i xs (cont_own hx)
        rw [r1] at e1
        cases e1
        obtain ⟨R3, s3⟩ := R2.put (cont_own hx) r1 (e4.append (.cons r2 .nil))
        exact ⟨l, vs, w, rfl, rfl, e3, by rw [e4.length]; exact c2.1, k (.val .none) _ _ _ _ R3 ((s1.trans s2).trans s3) Dp.non c2.2⟩
      · exact c2.elim
    · exact c2.elim
  · exact c1.elim
end
end DD

namespace DD
open PySem PySem.Spec PyProof.Rows L2

/-- what a return hands back -/
def ResRep (K : PySem.W.Frag) (H F' : Hp) (σ' : L2.St) (δ' : DSt) (H' : Hp) (v : V) : Sl → Prop
  | .val d => Dp K F' v d
  | .own xs => ∃ l ws, v = .ref l ∧ F' l = none ∧ H' l = some (.lst ws) ∧ DpAll K F' ws xs ∧ (OwnL σ' δ' l ∨ (¬ OwnA σ' δ' l ∧ H l = none))
  | .par _ => False
structure Conn (K : PySem.W.Frag) (F : Hp) (σ : L2.St) (δ : DSt) (H : Hp) (DD : DEnds) (D : Ends) : Prop where
  nx : ∀ F' σ' δ' H', RepS K F' σ' δ' H' → Stp σ δ F H σ' δ' F' H' → DD.nx δ' → D.nx σ' H'
  bk : ∀ F' σ' δ' H', RepS K F' σ' δ' H' → Stp σ δ F H σ' δ' F' H' → DD.bk δ' → D.bk σ' H'
  ct : ∀ F' σ' δ' H', RepS K F' σ' δ' H' → Stp σ δ F H σ' δ' F' H' → DD.ct δ' → D.ct σ' H'
  rt : ∀ F' σ' δ' H' v r, RepS K F' σ' δ' H' → Stp σ δ F H σ' δ' F' H' → ResRep K H F' σ' δ' H' v r → DD.rt r δ' → D.rt v H'
section
variable {X : Cx} {K : PySem.W.Frag} {F H : Hp} {σ : L2.St} {δ : DSt}
theorem ResRep.step {H0 F' H' : Hp} {σ' : L2.St} {δ' : DSt} {v : V} {r : Sl} (d : ∀ b, H b = none → H0 b = none) (h : ResRep K H F' σ' δ' H' v r) : ResRep K H0 F' σ' δ' H' v r := by
  cases r with
  | val x => exact h
  | own xs =>
    obtain ⟨l, ws, h1, h2, h3, h4, h5⟩ := h
    refine ⟨l, ws, h1, h2, h3, h4, ?_⟩
    rcases h5 with h5 | h5
    · exact .inl h5
    · exact .inr ⟨h5.1, d _ h5.2⟩
  | par _ => exact h
theorem Conn.step {F1 H1 : Hp} {σ1 : L2.St} {δ1 : DSt} {DD : DEnds} {D : Ends} (c : Conn K F σ δ H DD D) (s : Stp σ δ F H σ1 δ1 F1 H1) : Conn K F1 σ1 δ1 H1 DD D :=
  ⟨fun F' σ' δ' H' R t h => c.nx F' σ' δ' H' R (s.trans t) h, fun F' σ' δ' H' R t h => c.bk F' σ' δ' H' R (s.trans t) h, fun F' σ' δ' H' R t h => c.ct F' σ' δ' H' R (s.trans t) h,
    fun F' σ' δ' H' v r R t q h => c.rt F' σ' δ' H' v r R (s.trans t) (q.step s.dom) h⟩
end
/-! ### statements -/
structure SD (X : Cx) (st : Stmt) (g : DTS) : Prop where
  ex : ∃ ts, PS X st ts ∧ ∀ {F : Hp} {σ : L2.St} {δ : DSt} {H : Hp} {DD : DEnds} {D : Ends}, RepS X.K F σ δ H → g DD δ → Conn X.K F σ δ H DD D → ts D σ H
structure SDs (X : Cx) (st : List Stmt) (g : DTS) : Prop where
  ex : ∃ ts, PSs X st ts ∧ ∀ {F : Hp} {σ : L2.St} {δ : DSt} {H : Hp} {DD : DEnds} {D : Ends}, RepS X.K F σ δ H → g DD δ → Conn X.K F σ δ H DD D → ts D σ H
/-- targets: ws the slots that are written -/
abbrev DTG := PyData → DSt → (DSt → Prop) → Prop
abbrev DTGs := List PyData → DSt → (DSt → Prop) → Prop
/-- as it was, but for the slots ws -/
def Agree (ws : List Nat) (σ σ' : L2.St) : Prop := σ'.length = σ.length ∧ ∀ i, i ∉ ws → σ'[i]? = σ[i]?
structure PDG (X : Cx) (tg : Expr) (g : DTG) (ws : List Nat) : Prop where
  ex : ∃ t, PG X tg t ∧ ∀ {F : Hp} {σ : L2.St} {δ : DSt} {H : Hp} {v : V} {d : PyData} {Q : L2.St → Hp → Prop} {C : DSt → Prop}, RepS X.K F σ δ H → Dp X.K F v d → g d δ C →
    (∀ δ' F' σ' H', RepS X.K F' σ' δ' H' → Stp σ δ F H σ' δ' F' H' → Agree ws σ σ' → C δ' → Q σ' H') → t v σ H Q
structure PDGs (X : Cx) (tg : List Expr) (g : DTGs) (ws : List Nat) : Prop where
  ex : ∃ t, PGs X tg t ∧ ∀ {F : Hp} {σ : L2.St} {δ : DSt} {H : Hp} {v : List V} {d : List PyData} {Q : L2.St → Hp → Prop} {C : DSt → Prop}, RepS X.K F σ δ H → DpAll X.K F v d → g d δ C →
    (∀ δ' F' σ' H', RepS X.K F' σ' δ' H' → Stp σ δ F H σ' δ' F' H' → Agree ws σ σ' → C δ' → Q σ' H') → t v σ H Q
def notParB (δ : DSt) (i : Nat) : Bool := match δ[i]? with
  | some (some (.par _)) => false
  | _ => true
theorem notParB_of {δ : DSt} {i : Nat} (h : notParB δ i = true) : notPar δ i := fun xs e => by
  unfold notParB at h
  rw [e] at h
  cases h
def dgName (i : Nat) : DTG := fun d δ C => notParB δ i = true ∧ C (δ.set i (some (.val d)))
def dgsNil : DTGs := fun ds δ C => match ds with
  | [] => C δ
  | _ => False
def dgsCons (g : DTG) (h : DTGs) : DTGs := fun ds δ C => match ds with
  | d :: ds => g d δ fun δ1 => h ds δ1 C
  | _ => False
def dgTup (n : Nat) (g : DTGs) : DTG := fun d δ C => match d with
  | .tuple ds => ds.length = n ∧ g ds δ C
  | _ => False
section
variable {X : Cx} {K : PySem.W.Frag} {F H : Hp} {σ : L2.St} {δ : DSt} {pos : Pos}
theorem pdg_name {i : Nat} {x : Str} (hN : X.N.Nodup) (hi : X.N[i]? = some x) (hx : Loc X.env.scope x) (hf : X.fn x = true ∨ X.env.scope.names.lookup x = some .local := by first | exact .inl rfl | exact .inr rfl | assumption) : PDG X (.Name x pos) (dgName i) [i] := by
  refine ⟨_, pg_name hN hi hx hf, fun R h c k => ?_⟩
  obtain ⟨R2, s2⟩ := R.setVal (notParB_of c.1) h
  exact k _ _ _ _ R2 s2 ⟨by simp, fun j hj => List.getElem?_set_ne (Ne.symm (by simpa using hj))⟩ c.2
theorem pdgs_nil : PDGs X [] dgsNil [] := by
  refine ⟨_, pgs_nil, fun {F σ δ H v d Q C} R h c k => ?_⟩
  unfold dgsNil at c
  split at c
  · cases h
    exact ⟨rfl, k _ _ _ _ R .refl ⟨rfl, fun _ _ => rfl⟩ c⟩
  · exact c.elim
theorem pdgs_cons {e : Expr} {es : List Expr} {g : DTG} {h : DTGs} {ws us : List Nat} (h1 : PDG X e g ws) (h2 : PDGs X es h us)
    (hs : (assignEach (e :: es) X.env).map (·.2) = assign e X.env :: (assignEach es X.env).map (·.2) := by rfl) : PDGs X (e :: es) (dgsCons g h) (ws ++ us) := by
  obtain ⟨t, p1, q1⟩ := h1
  obtain ⟨u, p2, q2⟩ := h2
  refine ⟨_, pgs_cons p1 p2 hs, fun {F σ δ H v d Q C} R h c k => ?_⟩
  unfold dgsCons at c
  split at c
  · cases h with
    | cons a1 a2 =>
      refine ⟨_, _, rfl, q1 R a1 c fun δ1 F1 σ1 H1 R1 s1 f1 c1 => ?_⟩
      refine q2 R1 (Dp.monoAll s1.ext _ _ a2) c1 fun δ2 F2 σ2 H2 R2 s2 f2 c2 => ?_
      exact k _ _ _ _ R2 (s1.trans s2) ⟨f2.1.trans f1.1, fun i hi => by
        rw [List.mem_append, not_or] at hi
        exact (f2.2 i hi.2).trans (f1.2 i hi.1)⟩ c2
  · exact c.elim
theorem pdg_tup {es : List Expr} {kk : Nat} {g : DTGs} {n : Nat} {ws : List Nat} (hc : X.calm = true) (h : PDGs X es g ws)
    (hn : (assignEach es X.env).length = n := by rfl) (hst : (assignEach es X.env).findIdx? (·.1) = none := by rfl) : PDG X (.Tuple es kk pos) (dgTup n g) ws := by
  obtain ⟨t, p, q⟩ := h
  refine ⟨_, pg_tup hc p hn hst, fun {F σ δ H v d Q C} R h c k => ?_⟩
  unfold dgTup at c
  split at c
  · cases h with
    | tup h1 a1 => exact ⟨_, _, rfl, seqT R.sub h1, a1.length.trans c.1, q R a1 c.2 k⟩
  · exact c.elim

def dNext : DTS := fun D δ => D.nx δ
def dSeq (g h : DTS) : DTS := fun D δ => g { D with nx := h D } δ
theorem sds_nil : SDs X [] dNext := ⟨_, pss_nil, fun R h k => k.nx _ _ _ _ R .refl h⟩
theorem sds_cons {st : Stmt} {rest : List Stmt} {g h : DTS} (h1 : SD X st g) (h2 : SDs X rest h) : SDs X (st :: rest) (dSeq g h) := by
  obtain ⟨t, p1, q1⟩ := h1
  obtain ⟨u, p2, q2⟩ := h2
  refine ⟨_, pss_cons p1 p2, fun R c k => ?_⟩
  exact q1 R c ⟨fun F' σ' δ' H' R' s' c' => q2 R' c' (k.step s'), k.bk, k.ct, k.rt⟩
theorem sds_one {st : Stmt} {g : DTS} (h1 : SD X st g) : SDs X [st] g := by
  obtain ⟨t, p1, q1⟩ := h1
  exact ⟨_, pss_one p1, q1⟩
def dBreak : DTS := fun D δ => D.bk δ
def dCont : DTS := fun D δ => D.ct δ
theorem sd_pass : SD X (.Pass pos) dNext := ⟨_, ps_pass, fun R h k => k.nx _ _ _ _ R .refl h⟩
theorem sd_break : SD X (.Break pos) dBreak := ⟨_, ps_break, fun R h k => k.bk _ _ _ _ R .refl h⟩
theorem sd_continue : SD X (.Continue pos) dCont := ⟨_, ps_continue, fun R h k => k.ct _ _ _ _ R .refl h⟩
theorem sd_doc {x j p2} : SD X (.Expr (.Constant (.str x) j pos) p2) dNext := ⟨_, ps_doc, fun R h k => k.nx _ _ _ _ R .refl h⟩
def dDrop (f : DTE) : DTS := fun D δ => f δ fun _ δ1 => D.nx δ1
theorem sd_expr {e : Expr} {f : DTE} (h : PD X e f) (hs : swapsWith e none pos.line X.env = pure false := by rfl) : SD X (.Expr e pos) (dDrop f) := by
  obtain ⟨te, p, q⟩ := h
  exact ⟨_, ps_expr p hs, fun R c k => q R c fun a δ1 F1 H1 v R1 s1 r1 c1 => k.nx _ _ _ _ R1 s1 c1⟩
def dRet (f : DTE) : DTS := fun D δ => f δ fun a δ1 => match a with
  | .val d => D.rt (.val d) δ1
  | .sl i => match δ1[i]? with
    | some (some (.own xs)) => D.rt (.own xs) δ1
    | _ => False
theorem sd_ret {e : Expr} {f : DTE} (h : PD X e f) : SD X (.Return (some e) pos) (dRet f) := by
  obtain ⟨te, p, q⟩ := h
  refine ⟨_, ps_ret p, fun {F σ δ H DD D} R c k => ?_⟩
  refine q R c fun a δ1 F1 H1 v R1 s1 r1 c1 => ?_
  split at c1
  · rename_i d
    exact k.rt _ _ _ _ v (.val d) R1 s1 r1 c1
  · rename_i i
    split at c1
    · rename_i xs hx
      obtain ⟨l, ws, e1, e2, e3, e4⟩ := R1.own i xs (.inl hx)
      have r1 : σ[i]? = some (some v) := r1
      rw [e1] at r1
      cases r1
      exact k.rt _ _ _ _ _ (.own xs) R1 s1 ⟨l, ws, rfl, e2, e3, e4, .inl ⟨i, xs, hx, e1⟩⟩ c1
    · exact c1.elim
def dRetN (f : DSt → (List PyData → DSt → Prop) → Prop) : DTS := fun D δ => f δ fun xs δ1 => D.rt (.own xs) δ1
theorem sd_retNew {e : Expr} {f : DSt → (List PyData → DSt → Prop) → Prop} (h : PDN X e f) : SD X (.Return (some e) pos) (dRetN f) := by
  obtain ⟨te, p, q⟩ := h
  refine ⟨_, ps_ret p, fun {F σ δ H DD D} R c k => ?_⟩
  exact q R c fun xs δ1 F1 H1 l ws R1 s1 nF nH nO hH hA c1 => k.rt _ _ _ _ _ (.own xs) R1 s1 ⟨l, ws, rfl, nF, hH, hA, .inr ⟨nO, nH⟩⟩ c1
def dRet0 : DTS := fun D δ => D.rt (.val .none) δ
theorem sd_ret0 : SD X (.Return none pos) dRet0 := ⟨_, ps_retN, fun R h k => k.rt _ _ _ _ _ (.val .none) R .refl Dp.non h⟩
def dIf (t : DTT) (g h : DTS) : DTS := fun D δ => t δ fun b δ1 => (b = true → g D δ1) ∧ (b = false → h D δ1)
theorem sd_if {c : Expr} {a b : List Stmt} {t : DTT} {g h : DTS} (hc : PDT X c t) (ha : SDs X a g) (hb : SDs X b h) : SD X (.If c a b pos) (dIf t g h) := by
  obtain ⟨tc, p, q⟩ := hc
  obtain ⟨ta, pa, qa⟩ := ha
  obtain ⟨tb, pb, qb⟩ := hb
  refine ⟨_, ps_if p pa pb, fun R c k => ?_⟩
  refine q R c fun b δ1 F1 H1 R1 s1 c1 => ?_
  cases b with
  | true => exact iteT (qa R1 (c1.1 rfl) (k.step s1))
  | false => exact iteF (qb R1 (c1.2 rfl) (k.step s1))
def dSet (i : Nat) (f : DTE) : DTS := fun D δ => f δ fun a δ1 => match a with
  | .val d => notParB δ1 i = true ∧ D.nx (δ1.set i (some (.val d)))
  | _ => False
theorem sd_set {i : Nat} {x : Str} {e : Expr} {f : DTE} {p2 : Pos} (hN : X.N.Nodup) (hi : X.N[i]? = some x) (hx : Loc X.env.scope x) (h : PD X e f) (hs : swapsWith e (some (.Name x p2)) pos.line X.env = pure false := by rfl)
    (hf : X.fn x = true ∨ X.env.scope.names.lookup x = some .local := by first | exact .inl rfl | exact .inr rfl | assumption) : SD X (.Assign [.Name x p2] e pos) (dSet i f) := by
  obtain ⟨te, p, q⟩ := h
  refine ⟨_, ps_set hN hi hx p hs hf, fun R c k => ?_⟩
  refine q R c fun a δ1 F1 H1 v R1 s1 r1 c1 => ?_
  split at c1
  · obtain ⟨R2, s2⟩ := R1.setVal (notParB_of c1.1) r1
    exact k.nx _ _ _ _ R2 (s1.trans s2) c1.2
  · exact c1.elim
def dSetN (i : Nat) (f : DSt → (List PyData → DSt → Prop) → Prop) : DTS := fun D δ => f δ fun xs δ1 => notParB δ1 i = true ∧ D.nx (δ1.set i (some (.own xs)))
theorem sd_setNew {i : Nat} {x : Str} {e : Expr} {f : DSt → (List PyData → DSt → Prop) → Prop} {p2 : Pos} (hN : X.N.Nodup) (hi : X.N[i]? = some x) (hx : Loc X.env.scope x) (h : PDN X e f) (hs : swapsWith e (some (.Name x p2)) pos.line X.env = pure false := by rfl)
    (hf : X.fn x = true ∨ X.env.scope.names.lookup x = some .local := by first | exact .inl rfl | exact .inr rfl | assumption) : SD X (.Assign [.Name x p2] e pos) (dSetN i f) := by
  obtain ⟨te, p, q⟩ := h
  refine ⟨_, ps_set hN hi hx p hs hf, fun R c k => ?_⟩
  refine q R c fun xs δ1 F1 H1 l ws R1 s1 nF nH nO hH hA c1 => ?_
  obtain ⟨R2, st⟩ := R1.setOwnS (notParB_of c1.1) nF hH nO hA
  exact k.nx _ _ _ _ R2 (st s1 nH) c1.2
/-- target = e, any target -/
def dAsg (f : DTE) (g : DTG) : DTS := fun D δ => f δ fun a δ1 => match a with
  | .val d => g d δ1 D.nx
  | _ => False
theorem sd_asg {tg e : Expr} {f : DTE} {g : DTG} {ws : List Nat} (h : PD X e f) (hg : PDG X tg g ws) (hs : swapsWithSole [tg] e pos.line X.env = pure false := by rfl) (hw : swappedStores [tg] e X.env = pure none := by rfl)
    (h1 : (assignEach [tg] X.env).map (·.2) = [assign tg X.env] := by rfl) : SD X (.Assign [tg] e pos) (dAsg f g) := by
  obtain ⟨te, p, q⟩ := h
  obtain ⟨t, pg, qg⟩ := hg
  refine ⟨_, ps_asg p pg hs hw h1, fun R c k => ?_⟩
  refine q R c fun a δ1 F1 H1 v R1 s1 r1 c1 => ?_
  split at c1
  · exact qg R1 r1 c1 fun δ2 F2 σ2 H2 R2 s2 _ c2 => k.nx _ _ _ _ R2 (s1.trans s2) c2
  · exact c1.elim
/-- name += e -/
def dAug (i : Nat) (r : DOp) (f : DTE) : DTS := fun D δ => match δ[i]? with
  | some (some (.val x)) => f δ fun a δ1 => match a with
    | .val y => r x y fun z => notParB δ1 i = true ∧ D.nx (δ1.set i (some (.val z)))
    | _ => False
  | _ => False
def IpD (X : Cx) (op : Operator) (r : DOp) : Prop :=
  ∃ r' : TIp, PIp X op r' ∧ ∀ {F : Hp} {σ : L2.St} {δ : DSt} {H : Hp} {x y : V} {d e : PyData} {Q : VK} {C : PyData → Prop}, RepS X.K F σ δ H → Dp X.K F x d → Dp X.K F y e → r d e C →
    (∀ z F' H' v, RepS X.K F' σ δ H' → Stp σ δ F H σ δ F' H' → Dp X.K F' v z → C z → Q v H') → r' x y H Q
def iAdd : DOp := fun d e C => match d, e with
  | .int i, .int j => C (.int (i + j))
  | _, _ => False
def iSub : DOp := fun d e C => match d, e with
  | .int i, .int j => C (.int (i - j))
  | _, _ => False
theorem id_add : IpD X .Add iAdd := by
  refine ⟨_, ip_add, fun {F σ δ H x y d e Q C} R hx hy c k => ?_⟩
  unfold iAdd at c
  split at c
  · cases hx; cases hy
    exact ⟨_, _, rfl, rfl, k _ _ _ _ R .refl (.int _) c⟩
  · exact c.elim
theorem id_sub : IpD X .Sub iSub := by
  refine ⟨_, ip_sub, fun {F σ δ H x y d e Q C} R hx hy c k => ?_⟩
  unfold iSub at c
  split at c
  · cases hx; cases hy
    exact ⟨_, _, rfl, rfl, k _ _ _ _ R .refl (.int _) c⟩
  · exact c.elim
theorem sd_aug {i : Nat} {x : Str} {e : Expr} {f : DTE} {op : Operator} {r : DOp} {p2 : Pos} (hN : X.N.Nodup) (hi : X.N[i]? = some x) (hx : Loc X.env.scope x) (h : PD X e f) (ho : IpD X op r)
    (hf : X.fn x = true ∨ X.env.scope.names.lookup x = some .local := by first | exact .inl rfl | exact .inr rfl | assumption) : SD X (.AugAssign (.Name x p2) op e pos) (dAug i r f) := by
  obtain ⟨te, p, q⟩ := h
  obtain ⟨r', o1, o2⟩ := ho
  refine ⟨_, ps_aug hN hi hx p o1 hf, fun {F σ δ H DD D} R c k => ?_⟩
  unfold dAug at c
  split at c
  · rename_i d hd
    obtain ⟨v, e1, e2⟩ := R.val i d hd
    refine ⟨v, e1, q R c fun a δ1 F1 H1 w R1 s1 r1 c1 => ?_⟩
    split at c1
    · refine o2 R1 (Dp.mono s1.ext _ _ e2) r1 c1 fun z F2 H2 u R2 s2 r2 c2 => ?_
      obtain ⟨R3, s3⟩ := R2.setVal (notParB_of c2.1) r2
      exact k.nx _ _ _ _ R3 ((s1.trans s2).trans s3) c2.2
    · exact c1.elim
  · exact c.elim
/-- xs[i] = e of an owned list -/
def dSetIx (fo fi f : DTE) : DTS := fun D δ => f δ fun a δ1 => match a with
  | .val d => fo δ1 fun b δ2 => match b with
    | .sl j => fi δ2 fun c δ3 => match c with
      | .val (.int i) => match cont δ3 j with
        | some xs => match ixN xs.length i with
          | some n => D.nx (putC δ3 j (xs.set n d))
          | none => False
        | none => False
      | _ => False
    | _ => False
  | _ => False
theorem sd_setIx {o i e : Expr} {fo fi f : DTE} {p2 : Pos} (ho : PD X o fo) (hi : PD X i fi) (h : PD X e f)
    (ha : ∀ v, assign (.Subscript o i p2) X.env v = (do
      let ov ← holding [v] (eval o X.env)
      let iv ← holding [v, ov] (eval i X.env)
      standAt p2
      holding [v, ov, iv] (setItem ov iv v)
      release [v, ov, iv] []) := by intro _; rfl)
    (hs : swapsWithSole [.Subscript o i p2] e pos.line X.env = pure false := by rfl) (hw : swappedStores [.Subscript o i p2] e X.env = pure none := by rfl)
    (h1 : (assignEach [.Subscript o i p2] X.env).map (·.2) = [assign (.Subscript o i p2) X.env] := by rfl) : SD X (.Assign [.Subscript o i p2] e pos) (dSetIx fo fi f) := by
  obtain ⟨te, p, q⟩ := h
  obtain ⟨to, po, qo⟩ := ho
  obtain ⟨ti, pi, qi⟩ := hi
  refine ⟨_, ps_asg p (pg_sub po pi set_list ha) hs hw h1, fun {F σ δ H DD D} R c k => ?_⟩
  refine q R c fun a δ1 F1 H1 v R1 s1 r1 c1 => ?_
  split at c1
  · rename_i d
    refine qo R1 c1 fun b δ2 F2 H2 w R2 s2 r2 c2 => ?_
    split at c2
    · rename_i j
      refine qi R2 c2 fun z δ3 F3 H3 u R3 s3 r3 c3 => ?_
      split at c3
      · rename_i n
        cases (show Dp X.K F3 u (.int n) from r3)
        split at c3
        · rename_i xs hx
          split at c3
          · rename_i m hm
            obtain ⟨l, vs, e1, e2, e3, e4⟩ := R3.own j xs (cont_own hx)
            have r2 : σ[j]? = some (some w) := r2
            have e1' := e1
            rw [r2] at e1'
            cases e1'
            obtain ⟨R4, s4⟩ := R3.put (cont_own hx) e1 (DpAll.set (Dp.mono (s2.ext.trans s3.ext) _ _ r1) m e4)
            exact ⟨l, vs, n, m, rfl, rfl, e3, by rw [e4.length]; exact hm, k.nx _ _ _ _ R4 (((s1.trans s2).trans s3).trans s4) c3⟩
          · exact c3.elim
        · exact c3.elim
      · exact c3.elim
    · exact c2.elim
  · exact c1.elim

/-! ### while -/
def dWhileN (c : DTT) (b : DTS) : Nat → DTS
  | 0 => fun _ _ => False
  | n + 1 => fun D δ => c δ fun t δ1 => (t = true → b { nx := dWhileN c b n D, ct := dWhileN c b n D, bk := D.nx, rt := D.rt } δ1) ∧ (t = false → D.nx δ1)
def dWhile (c : DTT) (b : DTS) : DTS := fun D δ => ∃ n, dWhileN c b n D δ
theorem sd_while {c : Expr} {body : List Stmt} {t : DTT} {b : DTS} (hp : PassesOwn (model X.prog X.w) X.A X.env X.xe) (hc : PDT X c t) (hb : SDs X body b) : SD X (.While c body [] pos) (dWhile t b) := by
  obtain ⟨tc, p, q⟩ := hc
  obtain ⟨tb, pb, qb⟩ := hb
  refine ⟨_, ps_while hp p pb, fun {F σ δ H DD D} R c k => ?_⟩
  obtain ⟨n, c⟩ := c
  refine ⟨fun m σ' H' => ∃ F' δ', RepS X.K F' σ' δ' H' ∧ Stp σ δ F H σ' δ' F' H' ∧ dWhileN t b m DD δ', ⟨n, F, δ, R, .refl, c⟩, ?_⟩
  rintro m σ1 H1 ⟨F1, δ1, R1, s1, c1⟩
  cases m with
  | zero => exact c1.elim
  | succ m =>
    refine q R1 c1 fun t' δ2 F2 H2 R2 s2 c2 => ?_
    cases t' with
    | false => exact iteF (k.nx _ _ _ _ R2 (s1.trans s2) (c2.2 rfl))
    | true =>
      refine iteT ⟨fun σ' H' => ∃ F' δ', RepS X.K F' σ' δ' H' ∧ Stp σ δ F H σ' δ' F' H' ∧ dWhileN t b m DD δ', fun σ' H' h => ⟨m, Nat.lt_succ_self _, h⟩, ?_⟩
      have s12 := s1.trans s2
      exact qb R2 (c2.1 rfl) ⟨fun F' σ' δ' H' R' s' c' => ⟨F', δ', R', s12.trans s', c'⟩, fun F' σ' δ' H' R' s' c' => k.nx _ _ _ _ R' (s12.trans s') c',
        fun F' σ' δ' H' R' s' c' => ⟨F', δ', R', s12.trans s', c'⟩, fun F' σ' δ' H' v r R' s' q' c' => k.rt _ _ _ _ v r R' (s12.trans s') (q'.step s12.dom) c'⟩

/-! ### what a for walks -/
def IterRep (K : PySem.W.Frag) (F : Hp) (J : It) (its : List PyData) : Prop :=
  ∀ F' σ δ H, RepS K F' σ δ H → Same F F' → ∀ i, (its.length ≤ i → J.stop i H) ∧ ∀ d, its[i]? = some d → J.go i H ∧ ∀ x H', J.yld i H x H' →
    ∃ F'', RepS K F'' σ δ H' ∧ Stp σ δ F' H σ δ F'' H' ∧ Dp K F'' x d
abbrev DTI := DSt → (List PyData → DSt → Prop) → Prop
structure PDI (X : Cx) (tg iter : Expr) (f : DTI) : Prop where
  ex : ∃ wi, PI X tg iter wi ∧ ∀ {F : Hp} {σ : L2.St} {δ : DSt} {H : Hp} {R : It → Hp → Prop} {C : List PyData → DSt → Prop}, RepS X.K F σ δ H → f δ C →
    (∀ its δ' F' H' J, RepS X.K F' σ δ' H' → Stp σ δ F H σ δ' F' H' → IterRep X.K F' J its → C its δ' → R J H') → wi σ H R
/-- a list, a tuple or a text, as the value is -/
def iAny (K : PySem.W.Frag) (tl : TE) : TI := fun σ H R => tl σ H fun x H1 => (∃ a, x = .ref a ∧ (∃ xs, SqL K H1 a xs) ∧ R (Itl K a) H1) ∨ (∃ a, x = .ref a ∧ (∃ xs, SqT K H1 a xs) ∧ R (Itt K a) H1) ∨ ∃ z, x = .str z ∧ R (Its z) H1
theorem pi_any {tg l : Expr} {tl : TE} (hl : PE X l tl) : PI X tg l (iAny X.K tl) := by
  refine ⟨fun pins s σ H R I h => thn (hl.run pins s σ H _ I h) fun v s1 ⟨x, H1, I1, r1, q1⟩ => ?_⟩
  have new : ∀ b, b ∈ [s1.heap.objs.size] → FpOk X pins H1 b := fun b hb => by
    have e : b = s1.heap.objs.size := by simpa using hb
    rw [e]
    exact I1.fpOk (Nat.le_refl _) (I1.hok.fresh (Nat.le_refl _))
  rcases q1 with ⟨a, e, ⟨xs, hq⟩, q⟩ | ⟨a, e, ⟨xs, hq⟩, q⟩ | ⟨z, e, q⟩
  · subst e
    cases r1
    obtain ⟨us, _, pl, _⟩ := I1.list hq
    exact wpAny_pyIter_list pl.isList ⟨_, _, _, _, H1, rfl, I1.kept (t' := s1.toks) fun b o e => Heap.get?_push_of_some _ e, turn_list a _, ⟨_, Heap.get?_push_size _ rfl, rfl, rfl⟩, new, q⟩
  · subst e
    cases r1
    obtain ⟨us, _, pl, _⟩ := I1.tuple hq
    exact wpAny_pyIter_tuple (show s1.heap.IsTuple a us.toArray from pl) ⟨_, _, _, _, H1, rfl, I1.kept (t' := s1.toks) fun b o e => Heap.get?_push_of_some _ e, turn_tuple a _, ⟨_, Heap.get?_push_size _ rfl, rfl, rfl⟩, new, q⟩
  · subst e
    obtain ⟨t, rfl⟩ := r1
    cases ha : z.cps.all (· < 128) with
    | false => exact wpAny_pyIter_wide ha (pi_one (tk := s1.toks) I1 _ (turn_str _ z t "str_iterator" (.inr rfl)) ⟨_, Heap.get?_push_size _ rfl, rfl, rfl⟩ q)
    | true => exact wpAny_pyIter_ascii ha (pi_one (tk := s1.toks) I1 _ (turn_str _ z t "str_ascii_iterator" (.inl rfl)) ⟨_, Heap.get?_push_size _ rfl, rfl, rfl⟩ q)
def dIterE (f : DTE) : DTI := fun δ C => f δ fun a δ1 => match a with
  | .val (.list xs) => C xs δ1
  | .val (.tuple xs) => C xs δ1
  | .val (.str z) => C (z.cps.toList.map fun c => .str ⟨#[c]⟩) δ1
  | .sl i => match δ1[i]? with
    | some (some (.own xs)) => C xs (δ1.set i (some (.val (.list xs))))
    | _ => False
  | _ => False
theorem iter_list {F : Hp} {a : Addr} {vs : List V} {xs : List PyData} (h : SqL K F a vs) (hA : DpAll K F vs xs) : IterRep K F (Itl K a) xs := by
  intro F' σ δ H R e i
  have hH : SqL K H a vs := R.sub.seq (e.seq h)
  refine ⟨fun hi => ⟨vs, hH, by rw [hA.length]; exact hi⟩, fun d hd => ?_⟩
  obtain ⟨v, hv, dv⟩ := hA.get hd
  refine ⟨⟨vs, v, hH, hv⟩, fun x H' hy => ?_⟩
  obtain ⟨rfl, hy⟩ := hy
  have ex : x = v := Option.some.inj ((hy _ hH).symm.trans hv)
  subst ex
  exact ⟨F', R, .refl, Dp.mono e _ _ dv⟩
theorem iter_tup {F : Hp} {a : Addr} {vs : List V} {xs : List PyData} (h : SqT K F a vs) (hA : DpAll K F vs xs) : IterRep K F (Itt K a) xs := by
  intro F' σ δ H R e i
  have hH : SqT K H a vs := seqT R.sub (seqT e h)
  refine ⟨fun hi => ⟨vs, hH, by rw [hA.length]; exact hi⟩, fun d hd => ?_⟩
  obtain ⟨v, hv, dv⟩ := hA.get hd
  refine ⟨⟨vs, v, hH, hv⟩, fun x H' hy => ?_⟩
  obtain ⟨rfl, hy⟩ := hy
  have ex : x = v := Option.some.inj ((hy _ hH).symm.trans hv)
  subst ex
  exact ⟨F', R, .refl, Dp.mono e _ _ dv⟩
theorem iter_str {F : Hp} (z : Str) : IterRep K F (Its z) (z.cps.toList.map fun c => .str ⟨#[c]⟩) := by
  intro F' σ δ H R e i
  refine ⟨fun hi => by
    have hi : z.cps.size ≤ i := by simpa using hi
    exact hi, fun d hd => ?_⟩
  rw [List.getElem?_map] at hd
  cases q : z.cps.toList[i]? with
  | none => rw [q] at hd; cases hd
  | some c =>
    rw [q] at hd
    cases hd
    have hi : i < z.cps.size := by
      have := (List.getElem?_eq_some_iff.mp q).1
      simpa using this
    refine ⟨hi, fun x H' hy => ?_⟩
    obtain ⟨rfl, c', hc, rfl⟩ := hy
    have : c' = c := by
      have q2 : z.cps[i]? = some c := by simpa using q
      rw [hc] at q2
      exact Option.some.inj q2
    subst this
    exact ⟨F', R, .refl, Dp.str _⟩
theorem pdi_e {tg e : Expr} {f : DTE} (h : PD X e f) : PDI X tg e (dIterE f) := by
  obtain ⟨te, p, q⟩ := h
  refine ⟨_, pi_any p, fun {F σ δ H R C} RR c k => ?_⟩
  refine q RR c fun a δ1 F1 H1 v R1 s1 r1 c1 => ?_
  split at c1
  · rename_i xs
    cases (show Dp X.K F1 v (.list xs) from r1) with
    | lst h1 a1 => exact .inl ⟨_, rfl, ⟨_, R1.sub.seq h1⟩, k _ _ _ _ _ R1 s1 (iter_list h1 a1) c1⟩
  · rename_i xs
    cases (show Dp X.K F1 v (.tuple xs) from r1) with
    | tup h1 a1 => exact .inr (.inl ⟨_, rfl, ⟨_, seqT R1.sub h1⟩, k _ _ _ _ _ R1 s1 (iter_tup h1 a1) c1⟩)
  · rename_i z
    cases (show Dp X.K F1 v (.str z) from r1)
    exact .inr (.inr ⟨z, rfl, k _ _ _ _ _ R1 s1 (iter_str z) c1⟩)
  · rename_i i
    split at c1
    · rename_i xs hx
      obtain ⟨l, ws, e1, e2, e3, e4⟩ := R1.own i xs (.inl hx)
      have r1 : σ[i]? = some (some v) := r1
      rw [e1] at r1
      cases r1
      obtain ⟨R2, s2⟩ := R1.freeze hx e1 e3
      exact .inl ⟨_, rfl, ⟨_, SqL.of e3⟩, k _ _ _ _ _ R2 (s1.trans s2) (iter_list (SqL.of upd_same) (Dp.monoAll s2.ext _ _ e4)) c1⟩
    · exact c1.elim
  · exact c1.elim
def rangeD (lo : Int) (n : Nat) : List PyData := (List.range n).map fun k => .int (lo + (k : Nat))
theorem iter_rng {F : Hp} (lo : Int) (n : Nat) : IterRep K F (Itr lo n) (rangeD lo n) := by
  intro F' σ δ H R e i
  unfold rangeD
  refine ⟨fun hi => ?_, fun d hd => ?_⟩
  · have hi : n ≤ i := by simpa using hi
    exact hi
  rw [List.getElem?_map] at hd
  by_cases hi : i < n
  · rw [List.getElem?_range hi] at hd
    cases hd
    refine ⟨hi, fun x H' hy => ?_⟩
    obtain ⟨rfl, rfl⟩ := hy
    exact ⟨F', R, .refl, Dp.int _⟩
  · rw [List.getElem?_eq_none (by simpa using hi)] at hd
    cases hd
def dRng1 (f : DTA) : DTI := fun δ C => f δ fun as δ1 => match as with
  | [.val (.int j)] => -(2 ^ 62) ≤ j ∧ j < 2 ^ 62 ∧ C (rangeD 0 j.toNat) δ1
  | _ => False
def dRng2 (f : DTA) : DTI := fun δ C => f δ fun as δ1 => match as with
  | [.val (.int i), .val (.int j)] => (-(2 ^ 62) ≤ i ∧ i < 2 ^ 62 ∧ -(2 ^ 62) ≤ j ∧ j < 2 ^ 62) ∧ C (rangeD i (j - i).toNat) δ1
  | _ => False
theorem pdi_range1 {tg a : Expr} {f : DTA} {p : Pos} (hg : Gl X "range") (hm : X.mg "range" = none) (ha : PDA X [a] f) (hs : starEach [a] X.env = [(false, eval a X.env)] := by rfl) : PDI X tg (.Call (.Name "range" p) [a] [] pos) (dRng1 f) := by
  obtain ⟨ta, p, q⟩ := ha
  refine ⟨_, pi_range1 hg hm p hs, fun {F σ δ H R C} RR c k => ?_⟩
  refine q RR c fun as δ1 F1 H1 vs R1 s1 r1 c1 => ?_
  split at c1
  · rename_i j
    obtain ⟨v, rfl, r2⟩ := arsRep1 r1
    cases (show Dp X.K F1 v (.int j) from r2)
    exact ⟨j, rfl, c1.1, c1.2.1, k _ _ _ _ _ R1 s1 (iter_rng 0 _) c1.2.2⟩
  · exact c1.elim
theorem pdi_range2 {tg a b : Expr} {f : DTA} {p : Pos} (hg : Gl X "range") (hm : X.mg "range" = none) (ha : PDA X [a, b] f) (hs : starEach [a, b] X.env = [(false, eval a X.env), (false, eval b X.env)] := by rfl) (hs2 : starEach [b] X.env = [(false, eval b X.env)] := by rfl) : PDI X tg (.Call (.Name "range" p) [a, b] [] pos) (dRng2 f) := by
  obtain ⟨ta, p, q⟩ := ha
  refine ⟨_, pi_range2 hg hm p hs hs2, fun {F σ δ H R C} RR c k => ?_⟩
  refine q RR c fun as δ1 F1 H1 vs R1 s1 r1 c1 => ?_
  split at c1
  · rename_i i j
    obtain ⟨v, w, rfl, r2, r3⟩ := arsRep2 r1
    cases (show Dp X.K F1 v (.int i) from r2)
    cases (show Dp X.K F1 w (.int j) from r3)
    exact ⟨i, j, rfl, c1.1, k _ _ _ _ _ R1 s1 (iter_rng i _) c1.2⟩
  · exact c1.elim
/-! ### for -/
def dForL (g : DTG) (b : DTS) : List PyData → DTS
  | [] => fun D δ => D.nx δ
  | d :: ds => fun D δ => g d δ fun δ1 => b { nx := dForL g b ds D, ct := dForL g b ds D, bk := D.nx, rt := D.rt } δ1
def dFor (fi : DTI) (g : DTG) (b : DTS) : DTS := fun D δ => fi δ fun its δ1 => dForL g b its D δ1
theorem sd_for {tg iter : Expr} {body : List Stmt} {fi : DTI} {g : DTG} {b : DTS} {ws : List Nat} (hp : PassesOwn (model X.prog X.w) X.A X.env X.xe) (hc : X.calm = true) (hi : PDI X tg iter fi) (hg : PDG X tg g ws) (hb : SDs X body b)
    (hs : ∀ x, foldedSetIterable iter X.env x = pure x := by intro _; rfl) : SD X (.For tg iter body [] pos) (dFor fi g b) := by
  obtain ⟨wi, pi, qi⟩ := hi
  obtain ⟨t, pg, qg⟩ := hg
  obtain ⟨tb, pb, qb⟩ := hb
  refine ⟨_, ps_for hp hc pi pg pb hs, fun {F σ δ H DD D} R c k => ?_⟩
  refine qi R c fun its δ1 F1 H1 J R1 s1 it c1 => ?_
  refine ⟨fun i m σ' H' => ∃ F' δ', RepS X.K F' σ' δ' H' ∧ Stp σ δ F H σ' δ' F' H' ∧ Same F1 F' ∧ m = its.length - i ∧ dForL g b (its.drop i) DD δ', ⟨its.length, F1, δ1, R1, s1, Same.refl _, rfl, c1⟩, ?_⟩
  rintro i m σ2 H2 ⟨F2, δ2, R2, s2, e2, rfl, c2⟩
  obtain ⟨stop, go⟩ := it F2 σ2 δ2 H2 R2 e2 i
  cases q : its[i]? with
  | none =>
    have hi : its.length ≤ i := List.getElem?_eq_none_iff.mp q
    rw [List.drop_eq_nil_of_le hi] at c2
    exact .inl ⟨stop hi, k.nx _ _ _ _ R2 s2 c2⟩
  | some d =>
    have hi : i < its.length := (List.getElem?_eq_some_iff.mp q).1
    have ed : its.drop i = d :: its.drop (i + 1) := by
      rw [List.drop_eq_getElem_cons hi]
      have := (List.getElem?_eq_some_iff.mp q).2
      rw [this]
    rw [ed] at c2
    obtain ⟨g1, g2⟩ := go d q
    refine .inr ⟨g1, fun σ' H' => ∃ F' δ', RepS X.K F' σ' δ' H' ∧ Stp σ δ F H σ' δ' F' H' ∧ Same F1 F' ∧ dForL g b (its.drop (i + 1)) DD δ', fun σ' H' ⟨F', δ', a1, a2, a3, a4⟩ => ⟨its.length - (i + 1), by omega, F', δ', a1, a2, a3, rfl, a4⟩, fun x H3 hy => ?_⟩
    obtain ⟨F3, R3, s3, d3⟩ := g2 x H3 hy
    refine qg R3 d3 c2 fun δ4 F4 σ4 H4 R4 s4 _ c4 => ?_
    have s24 := (s2.trans s3).trans s4
    have e4 := (e2.trans s3.ext).trans s4.ext
    exact qb R4 c4 ⟨fun F' σ' δ' H' R' s' c' => ⟨F', δ', R', s24.trans s', e4.trans s'.ext, c'⟩, fun F' σ' δ' H' R' s' c' => k.nx _ _ _ _ R' (s24.trans s') c',
      fun F' σ' δ' H' R' s' c' => ⟨F', δ', R', s24.trans s', e4.trans s'.ext, c'⟩, fun F' σ' δ' H' v r R' s' q' c' => k.rt _ _ _ _ v r R' (s24.trans s') (q'.step s24.dom) c'⟩
end
end DD

namespace DD
open PySem PySem.Spec PyProof.Rows L2
section
variable {X : Cx} {K : PySem.W.Frag} {F H : Hp} {σ : L2.St} {δ : DSt} {pos : Pos}
/-! ### the canonical readings: the same in every block -/
def canE (K : PySem.W.Frag) (f : DTE) : TE := fun σ H Q => ∃ F δ C, RepS K F σ δ H ∧ f δ C ∧ ∀ a δ' F' H' v, RepS K F' σ δ' H' → Stp σ δ F H σ δ' F' H' → ArRep K F' σ v a → C a δ' → Q v H'
def canT (K : PySem.W.Frag) (f : DTT) : TT := fun σ H Q => ∃ F δ C, RepS K F σ δ H ∧ f δ C ∧ ∀ a δ' F' H', RepS K F' σ δ' H' → Stp σ δ F H σ δ' F' H' → C a δ' → Q a H'
def canG (K : PySem.W.Frag) (g : DTG) (ws : List Nat) : TG := fun v σ H Q => ∃ F δ d C, RepS K F σ δ H ∧ Dp K F v d ∧ g d δ C ∧ ∀ δ' F' σ' H', RepS K F' σ' δ' H' → Stp σ δ F H σ' δ' F' H' → Agree ws σ σ' → C δ' → Q σ' H'
theorem PD.can {e : Expr} {f : DTE} (h : PD X e f) : PE X e (canE X.K f) := by
  obtain ⟨te, p, q⟩ := h
  exact ⟨fun pins s σ H Q I ⟨F, δ, C, R, c, k⟩ => p.run pins s σ H Q I (q R c k)⟩
theorem PDG.can {e : Expr} {g : DTG} {ws : List Nat} (h : PDG X e g ws) : PG X e (canG X.K g ws) := by
  obtain ⟨te, p, q⟩ := h
  exact ⟨fun pins s σ H v u Q I r ⟨F, δ, d, C, R, hd, c, k⟩ => p.run pins s σ H v u Q I r (q R hd c k)⟩
structure PDTs (X : Cx) (ifs : List Expr) (f : DTT) : Prop where
  ex : ∃ te, PTs X ifs te ∧ ∀ {F : Hp} {σ : L2.St} {δ : DSt} {H : Hp} {Q : Bool → Hp → Prop} {C : Bool → DSt → Prop}, RepS X.K F σ δ H → f δ C →
    (∀ a δ' F' H', RepS X.K F' σ δ' H' → Stp σ δ F H σ δ' F' H' → C a δ' → Q a H') → te σ H Q
theorem PDTs.can {ifs : List Expr} {f : DTT} (h : PDTs X ifs f) : PTs X ifs (canT X.K f) := by
  obtain ⟨te, p, q⟩ := h
  exact ⟨fun pins s σ H Q I ⟨F, δ, C, R, c, k⟩ => p.run pins s σ H Q I (q R c k)⟩
def dYes : DTT := fun δ C => C true δ
theorem pdts_nil : PDTs X [] dYes := ⟨_, pts_nil, fun R c k => k _ _ _ _ R .refl c⟩
theorem pdts_one {c : Expr} {f : DTT} (h : PDT X c f) : PDTs X [c] f := by
  obtain ⟨te, p, q⟩ := h
  exact ⟨_, pts_one p, q⟩

/-! ### comprehensions -/
def wipeD (δ : DSt) : List Nat → DSt
  | [] => δ
  | v :: vs => (wipeD δ vs).set v none
def restD (δ0 δ : DSt) : List Nat → DSt
  | [] => δ
  | v :: vs => (restD δ0 δ vs).set v (δ0[v]?.getD none)
def noOwnB (δ : DSt) (vs : List Nat) : Bool := vs.all fun v => match δ[v]? with
  | some (some (.own _)) => false
  | some (some (.par _)) => false
  | _ => true
theorem noOwnB_of {vs : List Nat} (h : noOwnB δ vs = true) {i : Nat} (hi : i ∈ vs) (xs : List PyData) : ¬ OwnC δ i xs := by
  have := List.all_eq_true.mp h i hi
  rintro (e | e) <;> (rw [e] at this; cases this)
theorem wipeD_len (δ : DSt) : ∀ vs : List Nat, (wipeD δ vs).length = δ.length
  | [] => rfl
  | v :: vs => by unfold wipeD; rw [List.length_set, wipeD_len δ vs]
theorem restD_len (δ0 δ : DSt) : ∀ vs : List Nat, (restD δ0 δ vs).length = δ.length
  | [] => rfl
  | v :: vs => by unfold restD; rw [List.length_set, restD_len δ0 δ vs]
theorem wipe_len (σ : L2.St) : ∀ vs : List Nat, (wipe σ vs).length = σ.length
  | [] => rfl
  | v :: vs => by unfold wipe; rw [List.length_set, wipe_len σ vs]
theorem wipeD_out {i : Nat} : ∀ {vs : List Nat}, i ∉ vs → (wipeD δ vs)[i]? = δ[i]?
  | [], _ => rfl
  | v :: vs, h => by
    have h1 : v ≠ i := fun e => h (by rw [e]; exact List.mem_cons_self)
    unfold wipeD
    rw [List.getElem?_set_ne h1]
    exact wipeD_out fun m => h (List.mem_cons_of_mem _ m)
theorem restD_out {δ0 : DSt} {i : Nat} : ∀ {vs : List Nat}, i ∉ vs → (restD δ0 δ vs)[i]? = δ[i]?
  | [], _ => rfl
  | v :: vs, h => by
    have h1 : v ≠ i := fun e => h (by rw [e]; exact List.mem_cons_self)
    unfold restD
    rw [List.getElem?_set_ne h1]
    exact restD_out fun m => h (List.mem_cons_of_mem _ m)
theorem wipeD_in {i : Nat} : ∀ {vs : List Nat}, i ∈ vs → ∀ x, (wipeD δ vs)[i]? ≠ some (some x)
  | v :: vs, h, x => by
    unfold wipeD
    by_cases e : v = i
    · subst e
      by_cases hl : v < (wipeD δ vs).length
      · rw [List.getElem?_set_self hl]; intro z; cases z
      · rw [List.getElem?_eq_none (by simpa using hl)]; intro z; cases z
    · rw [List.getElem?_set_ne e]
      rcases List.mem_cons.mp h with z | z
      · exact absurd z.symm e
      · exact wipeD_in z x
theorem wipe_in {i : Nat} : ∀ {vs : List Nat}, i ∈ vs → (wipe σ vs)[i]? = if i < σ.length then some none else none
  | v :: vs, h => by
    unfold wipe
    by_cases e : v = i
    · subst e
      by_cases hl : v < σ.length
      · rw [List.getElem?_set_self (by rw [wipe_len]; exact hl), if_pos hl]
      · rw [List.getElem?_eq_none (by simpa [wipe_len] using hl), if_neg hl]
    · rw [List.getElem?_set_ne e]
      rcases List.mem_cons.mp h with z | z
      · exact absurd z.symm e
      · exact wipe_in z
theorem restD_in {δ0 : DSt} {i : Nat} (hl : δ0.length = δ.length) : ∀ {vs : List Nat}, i ∈ vs → (restD δ0 δ vs)[i]? = δ0[i]?
  | v :: vs, h => by
    unfold restD
    by_cases e : v = i
    · subst e
      by_cases hv : v < δ.length
      · rw [List.getElem?_set_self (by rw [restD_len]; exact hv), List.getElem?_eq_getElem (by omega)]
        rfl
      · rw [List.getElem?_eq_none (by simpa [restD_len] using hv), List.getElem?_eq_none (by omega)]
    · rw [List.getElem?_set_ne e]
      rcases List.mem_cons.mp h with z | z
      · exact absurd z.symm e
      · exact restD_in hl z
theorem wipe_agree {vs ws : List Nat} {σ2 : L2.St} (hw : ∀ i ∈ ws, i ∈ vs) (h : Agree ws (wipe σ vs) σ2) : wipe σ2 vs = wipe σ vs := by
  have hlen : σ2.length = σ.length := by rw [h.1, wipe_len]
  refine List.ext_getElem? fun i => ?_
  by_cases hi : i ∈ vs
  · rw [wipe_in hi, wipe_in hi, hlen]
  · rw [wipe_out hi, h.2 i fun z => hi (hw i z)]
theorem RepS.wiped (R : RepS K F σ δ H) {vs : List Nat} (no : noOwnB δ vs = true) : RepS K F (wipe σ vs) (wipeD δ vs) H ∧ Stp σ δ F H (wipe σ vs) (wipeD δ vs) F H := by
  have ow : ∀ i xs, OwnC (wipeD δ vs) i xs → i ∉ vs ∧ OwnC δ i xs := fun i xs q => by
    by_cases hi : i ∈ vs
    · rcases q with q | q <;> exact absurd q (wipeD_in hi _)
    · refine ⟨hi, ?_⟩
      unfold OwnC at q ⊢
      rw [wipeD_out hi] at q
      exact q
  refine ⟨⟨by rw [wipe_len, wipeD_len]; exact R.len, R.sub, fun i d q => ?_, fun i xs q => ?_, fun i j xs ys l ne q1 q2 => ?_⟩, ⟨Same.refl _, fun _ _ q => .inl q, fun _ _ q _ => q, fun _ q => q, fun l ⟨i, xs, q1, q2⟩ => .inl ?_, fun i xs q => ?_, fun l ⟨i, xs, q1, q2⟩ => .inl ?_⟩⟩
  · by_cases hi : i ∈ vs
    · exact absurd q (wipeD_in hi _)
    · rw [wipeD_out hi] at q
      rw [wipe_out hi]
      exact R.val i d q
  · obtain ⟨hi, q⟩ := ow i xs q
    rw [wipe_out hi]
    exact R.own i xs q
  · obtain ⟨h1, q1⟩ := ow i xs q1
    obtain ⟨h2, q2⟩ := ow j ys q2
    rw [wipe_out h1, wipe_out h2]
    exact R.sep i j xs ys l ne q1 q2
  · obtain ⟨h1, q1⟩ := ow i xs q1
    rw [wipe_out h1] at q2
    exact ⟨i, xs, q1, q2⟩
  · have hi : i ∉ vs := fun z => noOwnB_of no z xs (.inr q)
    rw [wipe_out hi, wipeD_out hi]
    exact ⟨⟨xs, q⟩, rfl⟩
  · have hi := (ow i xs (.inl q1)).1
    rw [wipeD_out hi] at q1
    rw [wipe_out hi] at q2
    exact ⟨i, xs, q1, q2⟩
theorem RepS.restored {F4 H4 : Hp} {σ2 : L2.St} {δ4 : DSt} {vs : List Nat} (R : RepS K F σ δ H) (R4 : RepS K F4 σ2 δ4 H4) (e : Same F F4) (ag : Agree vs σ σ2) (no : noOwnB δ vs = true) (no4 : noOwnB δ4 vs = true) :
    RepS K F4 σ (restD δ δ4 vs) H4 ∧ Stp σ2 δ4 F4 H4 σ (restD δ δ4 vs) F4 H4 := by
  have hl : δ.length = δ4.length := by rw [← R.len, ← R4.len, ag.1]
  have ow : ∀ i xs, OwnC (restD δ δ4 vs) i xs → i ∉ vs ∧ OwnC δ4 i xs := fun i xs q => by
    by_cases hi : i ∈ vs
    · unfold OwnC at q
      rw [restD_in hl hi] at q
      exact absurd q (noOwnB_of no hi xs)
    · refine ⟨hi, ?_⟩
      unfold OwnC at q ⊢
      rw [restD_out hi] at q
      exact q
  refine ⟨⟨by rw [restD_len, ← hl]; exact R.len, R4.sub, fun i d q => ?_, fun i xs q => ?_, fun i j xs ys l ne q1 q2 => ?_⟩, ⟨Same.refl _, fun _ _ q => .inl q, fun _ _ q _ => q, fun _ q => q, fun l ⟨i, xs, q1, q2⟩ => .inl ?_, fun i xs q => ?_, fun l ⟨i, xs, q1, q2⟩ => .inl ?_⟩⟩
  · by_cases hi : i ∈ vs
    · rw [restD_in hl hi] at q
      obtain ⟨v, h1, h2⟩ := R.val i d q
      exact ⟨v, h1, Dp.mono e d v h2⟩
    · rw [restD_out hi] at q
      rw [← ag.2 i hi]
      exact R4.val i d q
  · obtain ⟨hi, q⟩ := ow i xs q
    rw [← ag.2 i hi]
    exact R4.own i xs q
  · obtain ⟨h1, q1⟩ := ow i xs q1
    obtain ⟨h2, q2⟩ := ow j ys q2
    rw [← ag.2 i h1, ← ag.2 j h2]
    exact R4.sep i j xs ys l ne q1 q2
  · obtain ⟨h1, q1⟩ := ow i xs q1
    rw [← ag.2 i h1] at q2
    exact ⟨i, xs, q1, q2⟩
  · have hi : i ∉ vs := fun z => noOwnB_of no4 z xs (.inr q)
    rw [restD_out hi, ag.2 i hi]
    exact ⟨⟨xs, q⟩, rfl⟩
  · have hi := (ow i xs (.inl q1)).1
    rw [restD_out hi] at q1
    rw [← ag.2 i hi] at q2
    exact ⟨i, xs, q1, q2⟩
/-- a thing that is neither frozen nor owned changes -/
theorem RepS.ghost {p : Addr} {o : HO} (R : RepS K F σ δ H) (nF : F p = none) (nO : ¬ OwnA σ δ p) : RepS K F σ δ (upd H p o) := by
  refine ⟨R.len, fun b u e => ?_, R.val, fun i xs h => ?_, R.sep⟩
  · have ne : b ≠ p := fun z => by subst z; rw [nF] at e; cases e
    rw [upd_ne ne]; exact R.sub b u e
  · obtain ⟨l, vs, h1, h2, h3, h4⟩ := R.own i xs h
    have ne : l ≠ p := fun z => nO ⟨i, xs, h, by rw [← z]; exact h1⟩
    exact ⟨l, vs, h1, h2, by rw [upd_ne ne]; exact h3, h4⟩
theorem Stp.ghost {σ0 : L2.St} {δ0 : DSt} {F0 H0 : Hp} {p : Addr} {o : HO} (s : Stp σ0 δ0 F0 H0 σ δ F H) (n : H0 p = none) : Stp σ0 δ0 F0 H0 σ δ F (upd H p o) :=
  ⟨s.ext, s.new, fun b u e no => by rw [upd_ne (ne_of_none e n)]; exact s.frm b u e no, fun b e => by
    by_cases hb : b = p
    · subst hb; exact n
    · rw [upd_ne hb] at e; exact s.dom b e, s.own, s.par, s.ownl⟩
def dLcL (g : DTG) (tt : DTT) (te : DTE) (vs : List Nat) : List PyData → List PyData → DSt → (List PyData → DSt → Prop) → Prop
  | [], acc, δ, C => C acc δ
  | d :: ds, acc, δ, C => g d (wipeD δ vs) fun δ2 => tt δ2 fun b δ3 => (b = true → te δ3 fun a δ4 => match a with
      | .val y => acc.length < sizeLine ∧ noOwnB δ4 vs = true ∧ dLcL g tt te vs ds (acc ++ [y]) (restD δ δ4 vs) C
      | _ => False) ∧ (b = false → noOwnB δ3 vs = true ∧ dLcL g tt te vs ds acc (restD δ δ3 vs) C)
def dLc (fi : DTI) (g : DTG) (tt : DTT) (te : DTE) (vs : List Nat) : DSt → (List PyData → DSt → Prop) → Prop := fun δ C => fi δ fun its δ1 => noOwnB δ1 vs = true ∧ dLcL g tt te vs its [] δ1 C
theorem noOwn_rest {δ0 : DSt} {vs : List Nat} (hl : δ0.length = δ.length) (no : noOwnB δ0 vs = true) : noOwnB (restD δ0 δ vs) vs = true := by
  refine List.all_eq_true.mpr fun i hi => ?_
  rw [restD_in hl hi]
  exact List.all_eq_true.mp no i hi
theorem lc_read {fi : DTI} {g : DTG} {tt : DTT} {te : DTE} {vs ws : List Nat} {wi : TI} (hws : ∀ i ∈ ws, i ∈ vs)
    (qi : ∀ {F : Hp} {σ : L2.St} {δ : DSt} {H : Hp} {R : It → Hp → Prop} {C : List PyData → DSt → Prop}, RepS K F σ δ H → fi δ C →
      (∀ its δ' F' H' J, RepS K F' σ δ' H' → Stp σ δ F H σ δ' F' H' → IterRep K F' J its → C its δ' → R J H') → wi σ H R)
    {Q : VK} {C : List PyData → DSt → Prop} (RR : RepS K F σ δ H) (c : dLc fi g tt te vs δ C)
    (k : ∀ xs δ' F' H' l us, RepS K F' σ δ' H' → Stp σ δ F H σ δ' F' H' → F' l = none → H l = none → ¬ OwnA σ δ' l → H' l = some (.lst us) → DpAll K F' us xs → C xs δ' → Q (.ref l) H') :
    tLc wi (canG K g ws) (canT K tt) (canE K te) vs σ H Q := by
  refine qi RR c fun its δ1 F1 H1 J R1 s1 it ⟨no1, c1⟩ D nD => ?_
  obtain ⟨R1', s1', nF1, nO1⟩ := R1.fresh (o := .lst []) nD
  have nD0 : H D = none := s1.dom D nD
  refine ⟨fun i m H' => ∃ F' δ' acc us, RepS K F' σ δ' H' ∧ Stp σ δ F H σ δ' F' H' ∧ Same F1 F' ∧ F' D = none ∧ ¬ OwnA σ δ' D ∧ H' D = some (.lst us) ∧ DpAll K F' us acc ∧ noOwnB δ' vs = true ∧ m = its.length - i ∧ dLcL g tt te vs (its.drop i) acc δ' C,
    ⟨its.length, F1, δ1, [], [], R1', s1.trans s1', Same.refl _, nF1, nO1, upd_same, .nil, no1, rfl, c1⟩, ?_⟩
  rintro i m H2 ⟨F2, δ2, acc, us, R2, s2, e2, nF2, nO2, hD2, hA2, no2, rfl, c2⟩
  obtain ⟨stop, go⟩ := it F2 σ δ2 H2 R2 e2 i
  cases q : its[i]? with
  | none =>
    have hi : its.length ≤ i := List.getElem?_eq_none_iff.mp q
    rw [List.drop_eq_nil_of_le hi] at c2
    exact .inl ⟨stop hi, k acc δ2 F2 H2 D us R2 s2 nF2 nD0 nO2 hD2 hA2 c2⟩
  | some d =>
    have hi : i < its.length := (List.getElem?_eq_some_iff.mp q).1
    have ed : its.drop i = d :: its.drop (i + 1) := by
      rw [List.drop_eq_getElem_cons hi]
      have := (List.getElem?_eq_some_iff.mp q).2
      rw [this]
    rw [ed] at c2
    obtain ⟨g1, g2⟩ := go d q
    refine .inr ⟨g1, fun H' => ∃ F' δ' acc us, RepS K F' σ δ' H' ∧ Stp σ δ F H σ δ' F' H' ∧ Same F1 F' ∧ F' D = none ∧ ¬ OwnA σ δ' D ∧ H' D = some (.lst us) ∧ DpAll K F' us acc ∧ noOwnB δ' vs = true ∧ dLcL g tt te vs (its.drop (i + 1)) acc δ' C,
      fun H' ⟨F', δ', acc, us, a1, a2, a3, a4, a5, a6, a7, a8, a9⟩ => ⟨its.length - (i + 1), by omega, F', δ', acc, us, a1, a2, a3, a4, a5, a6, a7, a8, rfl, a9⟩, fun x H3 hy => ?_⟩
    obtain ⟨F3, R3, s3, d3⟩ := g2 x H3 hy
    obtain ⟨Rw, sw⟩ := R3.wiped no2
    -- keeps: what holds of D behind a step from the state of the turn's beginning
    have keep : ∀ {F' H' : Hp} {σ' : L2.St} {δ' : DSt}, Stp σ δ2 F2 H2 σ' δ' F' H' → F' D = none ∧ ¬ OwnA σ' δ' D ∧ H' D = some (.lst us) := fun {F' H' σ' δ'} s => by
      refine ⟨?_, fun z => ?_, s.frm D _ hD2 nO2⟩
      · cases qF : F' D with
        | none => rfl
        | some o =>
          rcases s.new D o qF with z | z | ⟨j, xs, z1, z2⟩
          · rw [nF2] at z; cases z
          · rw [hD2] at z; cases z
          · exact (nO2 ⟨j, xs, .inl z1, z2⟩).elim
      · rcases s.own D z with z | z
        · exact nO2 z
        · rw [hD2] at z; cases z
    refine ⟨F3, wipeD δ2 vs, d, _, Rw, d3, c2, fun δ4 F4 σ4 H4 R4 s4 ag c4 => ⟨wipe_agree hws ag, ?_⟩⟩
    have agv : Agree vs σ σ4 := ⟨by rw [ag.1, wipe_len], fun j hj => by rw [ag.2 j fun z => hj (hws j z), wipe_out hj]⟩
    refine ⟨F4, δ4, _, R4, c4, fun b δ5 F5 H5 R5 s5 c5 => ?_⟩
    have s35 : Stp σ δ2 F3 H3 σ4 δ5 F5 H5 := (sw.trans s4).trans s5
    cases b with
    | true =>
      refine iteT ⟨F5, δ5, _, R5, c5.1 rfl, fun a δ6 F6 H6 v R6 s6 r6 c6 => ?_⟩
      split at c6
      · rename_i y
        obtain ⟨hz, no6, c6⟩ := c6
        have s36 := s35.trans s6
        obtain ⟨R7, s7⟩ := R3.restored R6 s36.ext agv no2 no6
        have sAll := (s3.trans s36).trans s7
        obtain ⟨k1, k2, k3⟩ := keep sAll
        have hl : δ2.length = δ6.length := by rw [← R2.len, ← R6.len, agv.1]
        refine ⟨us, k3, by rw [hA2.length]; exact hz, F6, restD δ2 δ6 vs, acc ++ [y], us ++ [v], R7.ghost k1 k2, ?_, (e2.trans sAll.ext), k1, k2, upd_same, (Dp.monoAll sAll.ext _ _ hA2).append (.cons r6 .nil), noOwn_rest hl no2, c6⟩
        exact (s2.trans sAll).ghost nD0
      · exact c6.elim
    | false =>
      obtain ⟨no5, c6⟩ := c5.2 rfl
      obtain ⟨R7, s7⟩ := R3.restored R5 s35.ext agv no2 no5
      have sAll := (s3.trans s35).trans s7
      obtain ⟨k1, k2, k3⟩ := keep sAll
      have hl : δ2.length = δ5.length := by rw [← R2.len, ← R5.len, agv.1]
      exact iteF ⟨F5, restD δ2 δ5 vs, acc, us, R7, s2.trans sAll, e2.trans sAll.ext, k1, k2, k3, Dp.monoAll sAll.ext _ _ hA2, noOwn_rest hl no2, c6⟩
theorem pdn_lc {elt tg iter : Expr} {ifs : List Expr} {scope : Scope} {own : List (Str × Nat)} {fi : DTI} {g : DTG} {tt : DTT} {te : DTE} {ws : List Nat} (hc : X.calm = true) (hN : X.N.Nodup) (hi : PDI X tg iter fi) (ok : BlkOk X.N X.env.scope scope own)
    (hg : ∀ (s : Shared) (H : Hp) (C : Addr) (cl : List (Str × Addr)) (fp : List Addr), PDG (X.blk s H scope (compEnvC scope cl C X.env) fp) tg g ws) (ht : ∀ (s : Shared) (H : Hp) (C : Addr) (cl : List (Str × Addr)) (fp : List Addr), PDTs (X.blk s H scope (compEnvC scope cl C X.env) fp) ifs tt)
    (he : ∀ (s : Shared) (H : Hp) (C : Addr) (cl : List (Str × Addr)) (fp : List Addr), PD (X.blk s H scope (compEnvC scope cl C X.env) fp) elt te) (hws : ∀ i ∈ ws, i ∈ own.map (·.2) := by decide) (hs : ∀ x, foldedSetIterable iter X.env x = pure x := by intro _; rfl) :
    PDN X (.ListComp elt [⟨tg, iter, ifs, 0⟩] scope pos) (dLc fi g tt te (own.map (·.2))) := by
  obtain ⟨wi, pi, qi⟩ := hi
  refine ⟨_, pe_lc (g := canG X.K g ws) (tt := canT X.K tt) (te := canE X.K te) hc hN pi ok (fun s H C cl fp => (hg s H C cl fp).can) (fun s H C cl fp => (ht s H C cl fp).can) (fun s H C cl fp => (he s H C cl fp).can) hs, fun {F σ δ H Q C} R c k => ?_⟩
  exact lc_read hws qi R c k
/-- name = [..], the name a local -/
theorem sd_setLc {i : Nat} {y : Str} {py : Pos} {elt tg iter : Expr} {ifs : List Expr} {scope : Scope} {own : List (Str × Nat)} {p2 : Pos} {fi : DTI} {g : DTG} {tt : DTT} {te : DTE} {ws : List Nat} (hc : X.calm = true) (hN : X.N.Nodup) (hy : X.N[i]? = some y) (hyl : X.env.scope.names.lookup y = some .local)
    (hsw : swapsWith (.ListComp elt [⟨tg, iter, ifs, 0⟩] scope p2) (some (.Name y py)) pos.line X.env = pure true) (hi : PDI X tg iter fi) (ok : BlkOk X.N X.env.scope scope own)
    (hg : ∀ (s : Shared) (H : Hp) (C : Addr) (cl : List (Str × Addr)) (fp : List Addr), PDG (X.blk s H scope (compEnvC scope cl C X.env) fp) tg g ws) (ht : ∀ (s : Shared) (H : Hp) (C : Addr) (cl : List (Str × Addr)) (fp : List Addr), PDTs (X.blk s H scope (compEnvC scope cl C X.env) fp) ifs tt)
    (he : ∀ (s : Shared) (H : Hp) (C : Addr) (cl : List (Str × Addr)) (fp : List Addr), PD (X.blk s H scope (compEnvC scope cl C X.env) fp) elt te) (hws : ∀ i ∈ ws, i ∈ own.map (·.2) := by decide) (hs : ∀ x, foldedSetIterable iter X.env x = pure x := by intro _; rfl) :
    SD X (.Assign [.Name y py] (.ListComp elt [⟨tg, iter, ifs, 0⟩] scope p2) pos) (dSetN i (dLc fi g tt te (own.map (·.2)))) := by
  obtain ⟨wi, pi, qi⟩ := hi
  refine ⟨_, ps_setLc (g := canG X.K g ws) (tt := canT X.K tt) (te := canE X.K te) hc hN hy hyl hsw pi ok (fun s H C cl fp => (hg s H C cl fp).can) (fun s H C cl fp => (ht s H C cl fp).can) (fun s H C cl fp => (he s H C cl fp).can) hs, fun {F σ δ H DD D} R c k => ?_⟩
  refine lc_read hws qi R c fun xs δ1 F1 H1 l us R1 s1 nF nH nO hH hA c1 => ?_
  obtain ⟨R2, st⟩ := R1.setOwnS (notParB_of c1.1) nF hH nO hA
  exact k.nx _ _ _ _ R2 (st s1 nH) c1.2
end
end DD

namespace DD
open PySem PySem.Spec PyProof.Rows L2
/-! ### what a def promises, over data: the arguments (frozen, or a list to be changed); the answer and the arguments behind -/
abbrev DSp := List Sl → (Sl → List Sl → Prop) → Prop
structure ArgRep (K : PySem.W.Frag) (F H : Hp) (vs : List V) (sls : List Sl) : Prop where
  len : vs.length = sls.length
  sub : Same F H
  val : ∀ (i : Nat) (d : PyData), sls[i]? = some (.val d) → ∃ v, vs[i]? = some v ∧ Dp K F v d
  par : ∀ (i : Nat) (xs : List PyData), sls[i]? = some (.par xs) → ∃ l us, vs[i]? = some (.ref l) ∧ F l = none ∧ H l = some (.lst us) ∧ DpAll K F us xs
  noown : ∀ (i : Nat) (xs : List PyData), sls[i]? ≠ some (.own xs)
  sep : ∀ (i j : Nat) (xs ys : List PyData) (l : Addr), i ≠ j → sls[i]? = some (.par xs) → sls[j]? = some (.par ys) → vs[i]? = some (.ref l) → vs[j]? ≠ some (.ref l)
structure FinRep (K : PySem.W.Frag) (F H : Hp) (vs : List V) (sls : List Sl) (F' H' : Hp) (v : V) (r : Sl) (sls' : List Sl) : Prop where
  ext : Same F F'
  sub : Same F' H'
  new : ∀ b o, F' b = some o → F b = some o ∨ H b = none
  frm : ∀ b o, H b = some o → (∀ (i : Nat) (xs : List PyData), sls[i]? = some (.par xs) → vs[i]? ≠ some (.ref b)) → H' b = some o
  dom : ∀ b, H' b = none → H b = none
  par : ∀ (i : Nat) (xs : List PyData), sls[i]? = some (.par xs) → ∃ ys l us, sls'[i]? = some (.par ys) ∧ vs[i]? = some (.ref l) ∧ F' l = none ∧ H' l = some (.lst us) ∧ DpAll K F' us ys
  res : match r with
    | .val d => Dp K F' v d
    | .own xs => ∃ l us, v = .ref l ∧ F' l = none ∧ H l = none ∧ H' l = some (.lst us) ∧ DpAll K F' us xs
    | .par _ => False
def lift (K : PySem.W.Frag) (d : DSp) : Sp := fun vs H Q _ => ∃ F sls C, ArgRep K F H vs sls ∧ d sls C ∧ ∀ r sls' F' H' v, FinRep K F H vs sls F' H' v r sls' → C r sls' → Q v H'
def argsOf (n : Nat) (δ : DSt) : List Sl := (δ.take n).map fun o => o.getD (.val .none)
def startD (N : List Str) (sls : List Sl) : DSt := sls.map some ++ List.replicate (N.length - sls.length) none
def endsD (n : Nat) (C : Sl → List Sl → Prop) : DEnds := { nx := fun δ => C (.val .none) (argsOf n δ), rt := fun r δ => C r (argsOf n δ) }
section
variable {K : PySem.W.Frag} {F H : Hp}
theorem startD_get {N : List Str} {sls : List Sl} {i : Nat} {s : Sl} : (startD N sls)[i]? = some (some s) ↔ sls[i]? = some s := by
  unfold startD
  by_cases hi : i < sls.length
  · rw [List.getElem?_append_left (by simpa using hi), List.getElem?_map, List.getElem?_eq_getElem hi]
    simp
  · rw [List.getElem?_append_right (by simpa using hi), List.getElem?_replicate]
    have : sls[i]? = none := List.getElem?_eq_none (by omega)
    rw [this]
    constructor
    · intro h
      split at h <;> cases h
    · intro h; cases h
theorem start_get {N : List Str} {vs : List V} {i : Nat} {v : V} (h : vs[i]? = some v) : (L2.start N vs)[i]? = some (some v) := by
  unfold L2.start
  have hi : i < vs.length := (List.getElem?_eq_some_iff.mp h).1
  rw [List.getElem?_append_left (by simpa using hi), List.getElem?_map, h]
  rfl
theorem start_of {N : List Str} {vs : List V} {i : Nat} {v : V} (h : (L2.start N vs)[i]? = some (some v)) : vs[i]? = some v := by
  unfold L2.start at h
  by_cases hi : i < vs.length
  · rw [List.getElem?_append_left (by simpa using hi), List.getElem?_map] at h
    cases q : vs[i]? with
    | none => rw [q] at h; cases h
    | some x => rw [q] at h; cases h; rfl
  · rw [List.getElem?_append_right (by simpa using hi), List.getElem?_replicate] at h
    split at h <;> cases h
theorem ArgRep.begins {N : List Str} {vs : List V} {sls : List Sl} (A : ArgRep K F H vs sls) (hN : sls.length ≤ N.length) : RepS K F (L2.start N vs) (startD N sls) H := by
  have ow : ∀ i xs, OwnC (startD N sls) i xs → sls[i]? = some (.par xs) := fun i xs h => by
    rcases h with h | h
    · exact absurd (startD_get.mp h) (A.noown i xs)
    · exact startD_get.mp h
  refine ⟨?_, A.sub, fun i d h => ?_, fun i xs h => ?_, fun i j xs ys l ne h1 h2 h3 h4 => ?_⟩
  · unfold L2.start startD
    simp [A.len]
  · obtain ⟨v, h1, h2⟩ := A.val i d (startD_get.mp h)
    exact ⟨v, start_get h1, h2⟩
  · obtain ⟨l, us, h1, h2, h3, h4⟩ := A.par i xs (ow i xs h)
    exact ⟨l, us, start_get h1, h2, h3, h4⟩
  · exact A.sep i j xs ys l ne (ow i xs h1) (ow j ys h2) (start_of h3) (start_of h4)
theorem argsOf_get {n i : Nat} {δ : DSt} {s : Sl} (hi : i < n) (h : δ[i]? = some (some s)) : (argsOf n δ)[i]? = some s := by
  unfold argsOf
  rw [List.getElem?_map, List.getElem?_take_of_lt hi, h]
  rfl
/-- a def's body, behind its entry -/
theorem ArgRep.fin {N : List Str} {vs : List V} {sls : List Sl} (A : ArgRep K F H vs sls) (hN : sls.length ≤ N.length) {F' H' : Hp} {σ' : L2.St} {δ' : DSt} {v : V} {r : Sl}
    (R : RepS K F' σ' δ' H') (s : Stp (L2.start N vs) (startD N sls) F H σ' δ' F' H') (q : ResRep K H F' σ' δ' H' v r) : FinRep K F H vs sls F' H' v r (argsOf sls.length δ') := by
  have noL : ∀ l, ¬ OwnL (L2.start N vs) (startD N sls) l := fun l ⟨i, xs, h1, _⟩ => A.noown i xs (startD_get.mp h1)
  refine ⟨s.ext, R.sub, fun b o h => ?_, fun b o h no => s.frm b o h fun ⟨i, xs, h1, h2⟩ => ?_, s.dom, fun i xs h => ?_, ?_⟩
  · rcases s.new b o h with z | z | z
    · exact .inl z
    · exact .inr z
    · exact (noL b z).elim
  · rcases h1 with h1 | h1
    · exact A.noown i xs (startD_get.mp h1)
    · exact no i xs (startD_get.mp h1) (start_of h2)
  · obtain ⟨⟨ys, h1⟩, h2⟩ := s.par i xs (startD_get.mpr h)
    obtain ⟨l, us, h3, _, _, _⟩ := A.par i xs h
    rw [start_get h3] at h2
    obtain ⟨l', us', g1, g2, g3, g4⟩ := R.own i ys (.inr h1)
    rw [h2] at g1
    cases g1
    have hi : i < sls.length := (List.getElem?_eq_some_iff.mp h).1
    exact ⟨ys, l, us', argsOf_get hi h1, h3, g2, g3, g4⟩
  · cases r with
    | val d => exact q
    | own xs =>
      obtain ⟨l, us, h1, h2, h3, h4, h5⟩ := q
      refine ⟨l, us, h1, h2, ?_, h3, h4⟩
      rcases h5 with h5 | h5
      · rcases s.ownl l h5 with z | z
        · exact (noL l z).elim
        · exact z
      · exact h5.2
    | par _ => exact q
end
section
variable {P : Program} {w : World} {K : PySem.W.Frag} {mg : Str → Option Value} {base : Heap}
/-- THE RULE for a def that raises nothing -/
theorem fn_dd {x qual : Str} {st : Stmt} {f : Addr} {fd : FuncData} {N ps : List Str} {k : Nat} {d : DSp} {g : DTS} (Fn : Fun K x qual st f fd) (S : FnScope N ps (defScope st)) (len : ∀ sls C, d sls C → sls.length = ps.length)
    (hbody : ∀ (cdv : Value) (A : Around) (outer : List Env) (s : Shared) (H : Hp) (E : XK), Room k (A.deeper (envOfC qual (defScope st) s.heap.objs.size f cdv)) → SDs (cxOf CX0 P w K mg base N qual (defScope st) f cdv A outer s H E).nox (defBody st) g)
    (law : ∀ sls C, d sls C → g (endsD sls.length C) (startD N sls)) : FnOk P w K mg base CX0 (k + 1) f fd ps (lift K d) := by
  have hpl : ps.length ≤ N.length := by have := congrArg List.length S.pre; rw [List.length_take] at this; omega
  refine Fn.ok S (fun vs H Q E h => ?_) (fun cdv A outer s H vs Q E hr h => ?_)
  · obtain ⟨F, sls, C, A, hd, _⟩ := h
    rw [A.len]
    exact len sls C hd
  · obtain ⟨F, sls, C, AR, hd, fin⟩ := h
    obtain ⟨ts, p, q⟩ := hbody cdv A outer s H E hr
    have hN : sls.length ≤ N.length := by rw [len sls C hd]; exact hpl
    refine ⟨ts, p, q (AR.begins hN) (law sls C hd) ⟨fun F' σ' δ' H' R t c => ?_, fun _ _ _ _ _ _ c => c.elim, fun _ _ _ _ _ _ c => c.elim, fun F' σ' δ' H' v r R t z c => ?_⟩⟩
    · exact fin _ _ F' H' .non (AR.fin hN R t (r := .val .none) Dp.non) c
    · exact fin _ _ F' H' v (AR.fin hN R t z) c
end
/-! ### calls of such a def -/
def slOf (δ : DSt) : Ar → Option Sl
  | .val d => some (.val d)
  | .sl i => (cont δ i).map Sl.par
def slsOf (δ : DSt) : List Ar → Option (List Sl)
  | [] => some []
  | a :: as => match slOf δ a, slsOf δ as with
    | some s, some ss => some (s :: ss)
    | _, _ => none
def put1 (δ : DSt) : Ar → Sl → DSt
  | .sl i, .par ys => putC δ i ys
  | _, _ => δ
def putArgs (δ : DSt) : List Ar → List Sl → DSt
  | [], _ => δ
  | _ :: _, [] => δ
  | a :: as, s :: ss => putArgs (put1 δ a s) as ss
def slots : List Ar → List Nat
  | [] => []
  | .sl i :: as => i :: slots as
  | _ :: as => slots as
theorem slsOf_get {δ : DSt} : ∀ {as : List Ar} {ss : List Sl}, slsOf δ as = some ss → ss.length = as.length ∧ ∀ (i : Nat) (a : Ar), as[i]? = some a → ∃ s, ss[i]? = some s ∧ slOf δ a = some s
  | [], ss, h => by cases h; exact ⟨rfl, fun i a e => by simp at e⟩
  | a :: as, ss, h => by
    unfold slsOf at h
    split at h
    · rename_i s ss' h1 h2
      cases h
      obtain ⟨l, g⟩ := slsOf_get h2
      refine ⟨by simp [l], fun i b e => ?_⟩
      cases i with
      | zero =>
        simp at e
        subst e
        exact ⟨s, rfl, h1⟩
      | succ i =>
        simp at e
        obtain ⟨s', e1, e2⟩ := g i b e
        exact ⟨s', by simpa using e1, e2⟩
    · cases h
theorem slots_inj : ∀ {as : List Ar} {i j k : Nat}, (slots as).Nodup → as[i]? = some (.sl k) → as[j]? = some (.sl k) → i = j
  | [], i, j, k, _, h, _ => by simp at h
  | a :: as, 0, 0, k, _, _, _ => rfl
  | a :: as, 0, j + 1, k, nd, h1, h2 => by
    simp at h1 h2
    subst h1
    have : k ∈ slots as := by
      clear nd
      revert j
      induction as with
      | nil => intro j h2; simp at h2
      | cons b bs ih =>
        intro j h2
        cases j with
        | zero => simp at h2; subst h2; exact List.mem_cons_self
        | succ j =>
          simp at h2
          have := ih j h2
          cases b with
          | sl n => exact List.mem_cons_of_mem _ this
          | val d => exact this
    exact absurd this (List.nodup_cons.mp nd).1
  | a :: as, i + 1, 0, k, nd, h1, h2 => by
    exact (slots_inj (as := a :: as) (i := 0) (j := i + 1) nd h2 h1).symm
  | a :: as, i + 1, j + 1, k, nd, h1, h2 => by
    simp at h1 h2
    have nd2 : (slots as).Nodup := by
      cases a with
      | sl n => exact (List.nodup_cons.mp nd).2
      | val d => exact nd
    exact congrArg (· + 1) (slots_inj nd2 h1 h2)
termination_by as i j => (as.length, i)

theorem putC_own' {δ : DSt} {i : Nat} {ys zs : List PyData} {j : Nat} (h : OwnC (putC δ i ys) j zs) : (j = i ∧ zs = ys ∧ ∃ xs, OwnC δ i xs) ∨ (j ≠ i ∧ OwnC δ j zs) := by
  by_cases e : j = i
  · subst e
    refine .inl ⟨rfl, ?_⟩
    have : ∃ xs, OwnC δ j xs := by
      unfold putC at h
      split at h
      · exact ⟨_, .inl ‹_›⟩
      · exact ⟨_, .inr ‹_›⟩
      · exact ⟨_, h⟩
    obtain ⟨xs, hx⟩ := this
    rw [putC_own hx, if_pos rfl] at h
    exact ⟨h, xs, hx⟩
  · refine .inr ⟨e, ?_⟩
    unfold OwnC at h ⊢
    rw [putC_ne e] at h
    exact h
theorem putC_val' {δ : DSt} {i j : Nat} {ys : List PyData} {d : PyData} (q : (putC δ i ys)[j]? = some (some (.val d))) : δ[j]? = some (some (.val d)) := by
  by_cases h : ∃ xs, OwnC δ i xs
  · obtain ⟨xs, h⟩ := h
    exact putC_val h q
  · unfold putC at q
    split at q
    · exact (h ⟨_, .inl ‹_›⟩).elim
    · exact (h ⟨_, .inr ‹_›⟩).elim
    · exact q
theorem putC_par' {δ : DSt} {i j : Nat} {ys zs : List PyData} (q : δ[j]? = some (some (.par zs))) : ∃ ws, (putC δ i ys)[j]? = some (some (.par ws)) := by
  by_cases h : ∃ xs, OwnC δ i xs
  · obtain ⟨xs, h⟩ := h
    exact putC_par h q
  · refine ⟨zs, ?_⟩
    unfold putC
    split
    · exact (h ⟨_, .inl ‹_›⟩).elim
    · exact (h ⟨_, .inr ‹_›⟩).elim
    · exact q
theorem putC_ownl' {δ : DSt} {i j : Nat} {ys zs : List PyData} (q : (putC δ i ys)[j]? = some (some (.own zs))) : ∃ xs, δ[j]? = some (some (.own xs)) := by
  by_cases e : j = i
  · subst e
    unfold putC at q
    split at q
    · exact ⟨_, ‹_›⟩
    · rename_i xs h
      have hi : j < δ.length := (List.getElem?_eq_some_iff.mp h).1
      rw [List.getElem?_set_self hi] at q
      cases q
    · exact ⟨_, q⟩
  · rw [putC_ne e] at q
    exact ⟨_, q⟩
theorem putArgs_len : ∀ {as : List Ar} {ss : List Sl} {δ : DSt}, (putArgs δ as ss).length = δ.length
  | [], _, _ => by simp only [putArgs]
  | .sl i :: as, .par ys :: ss, δ => by simp only [putArgs, put1]; rw [putArgs_len, putC_len]
  | .sl i :: as, .val _ :: ss, δ => by simp only [putArgs, put1]; exact putArgs_len
  | .sl i :: as, .own _ :: ss, δ => by simp only [putArgs, put1]; exact putArgs_len
  | .val _ :: as, _ :: ss, δ => by simp only [putArgs, put1]; exact putArgs_len
  | _ :: _, [], δ => by simp only [putArgs]
theorem putArgs_val {j : Nat} {d : PyData} : ∀ {as : List Ar} {ss : List Sl} {δ : DSt}, (putArgs δ as ss)[j]? = some (some (.val d)) → δ[j]? = some (some (.val d))
  | [], _, _, h => by simp only [putArgs, put1] at h; exact h
  | .sl i :: as, .par ys :: ss, δ, h => by simp only [putArgs, put1] at h; exact putC_val' (putArgs_val h)
  | .sl i :: as, .val _ :: ss, δ, h => by simp only [putArgs, put1] at h; exact putArgs_val h
  | .sl i :: as, .own _ :: ss, δ, h => by simp only [putArgs, put1] at h; exact putArgs_val h
  | .val _ :: as, _ :: ss, δ, h => by simp only [putArgs, put1] at h; exact putArgs_val h
  | _ :: _, [], δ, h => by simp only [putArgs, put1] at h; exact h
theorem putArgs_par {j : Nat} : ∀ {as : List Ar} {ss : List Sl} {δ : DSt} {zs : List PyData}, δ[j]? = some (some (.par zs)) → ∃ ws, (putArgs δ as ss)[j]? = some (some (.par ws))
  | [], _, _, zs, h => by simp only [putArgs, put1]; exact ⟨zs, h⟩
  | .sl i :: as, .par ys :: ss, δ, zs, h => by
    simp only [putArgs, put1]
    obtain ⟨ws, h2⟩ := putC_par' (i := i) (ys := ys) h
    exact putArgs_par h2
  | .sl i :: as, .val _ :: ss, δ, zs, h => by simp only [putArgs, put1]; exact putArgs_par h
  | .sl i :: as, .own _ :: ss, δ, zs, h => by simp only [putArgs, put1]; exact putArgs_par h
  | .val _ :: as, _ :: ss, δ, zs, h => by simp only [putArgs, put1]; exact putArgs_par h
  | _ :: _, [], δ, zs, h => by simp only [putArgs, put1]; exact ⟨zs, h⟩
theorem putArgs_ownl {j : Nat} : ∀ {as : List Ar} {ss : List Sl} {δ : DSt} {zs : List PyData}, (putArgs δ as ss)[j]? = some (some (.own zs)) → ∃ xs, δ[j]? = some (some (.own xs))
  | [], _, _, zs, h => by simp only [putArgs, put1] at h; exact ⟨zs, h⟩
  | .sl i :: as, .par ys :: ss, δ, zs, h => by
    simp only [putArgs, put1] at h
    obtain ⟨xs, h2⟩ := putArgs_ownl h
    exact putC_ownl' h2
  | .sl i :: as, .val _ :: ss, δ, zs, h => by simp only [putArgs, put1] at h; exact putArgs_ownl h
  | .sl i :: as, .own _ :: ss, δ, zs, h => by simp only [putArgs, put1] at h; exact putArgs_ownl h
  | .val _ :: as, _ :: ss, δ, zs, h => by simp only [putArgs, put1] at h; exact putArgs_ownl h
  | _ :: _, [], δ, zs, h => by simp only [putArgs, put1] at h; exact ⟨zs, h⟩
theorem putArgs_own {j : Nat} {zs : List PyData} : ∀ {as : List Ar} {ss : List Sl} {δ : DSt}, OwnC (putArgs δ as ss) j zs →
    (∃ xs, OwnC δ j xs) ∧ ((∃ k : Nat, as[k]? = some (.sl j) ∧ ss[k]? = some (.par zs)) ∨ (OwnC δ j zs ∧ ∀ (k : Nat) (ys : List PyData), as[k]? = some (.sl j) → ss[k]? ≠ some (.par ys)))
  | [], _, _, h => by simp only [putArgs, put1] at h; exact ⟨⟨_, h⟩, .inr ⟨h, fun k ys e => by simp at e⟩⟩
  | .sl i :: as, .par ys :: ss, δ, h => by
    simp only [putArgs, put1] at h
    obtain ⟨⟨xs, h1⟩, h2⟩ := putArgs_own h
    have g1 : ∃ xs, OwnC δ j xs := by
      rcases putC_own' h1 with ⟨e, _, q⟩ | ⟨_, q⟩
      · rw [e]; exact q
      · exact ⟨_, q⟩
    refine ⟨g1, ?_⟩
    rcases h2 with ⟨k, e1, e2⟩ | ⟨h2, no⟩
    · exact .inl ⟨k + 1, by simpa using e1, by simpa using e2⟩
    · rcases putC_own' h2 with ⟨e, e2, q⟩ | ⟨e, q⟩
      · subst e; subst e2
        exact .inl ⟨0, rfl, rfl⟩
      · refine .inr ⟨q, fun k ys' e1 => ?_⟩
        cases k with
        | zero =>
          simp at e1
          exact (e e1.symm).elim
        | succ k => simpa using no k ys' (by simpa using e1)
  | .sl i :: as, .val _ :: ss, δ, h => by
    simp only [putArgs, put1] at h
    obtain ⟨h1, h2⟩ := putArgs_own h
    refine ⟨h1, ?_⟩
    rcases h2 with ⟨k, e1, e2⟩ | ⟨h2, no⟩
    · exact .inl ⟨k + 1, by simpa using e1, by simpa using e2⟩
    · refine .inr ⟨h2, fun k ys' e1 => ?_⟩
      cases k with
      | zero => simp
      | succ k => simpa using no k ys' (by simpa using e1)
  | .sl i :: as, .own _ :: ss, δ, h => by
    simp only [putArgs, put1] at h
    obtain ⟨h1, h2⟩ := putArgs_own h
    refine ⟨h1, ?_⟩
    rcases h2 with ⟨k, e1, e2⟩ | ⟨h2, no⟩
    · exact .inl ⟨k + 1, by simpa using e1, by simpa using e2⟩
    · refine .inr ⟨h2, fun k ys' e1 => ?_⟩
      cases k with
      | zero => simp
      | succ k => simpa using no k ys' (by simpa using e1)
  | .val _ :: as, s :: ss, δ, h => by
    simp only [putArgs, put1] at h
    obtain ⟨h1, h2⟩ := putArgs_own h
    refine ⟨h1, ?_⟩
    rcases h2 with ⟨k, e1, e2⟩ | ⟨h2, no⟩
    · exact .inl ⟨k + 1, by simpa using e1, by simpa using e2⟩
    · refine .inr ⟨h2, fun k ys' e1 => ?_⟩
      cases k with
      | zero => simp at e1
      | succ k => simpa using no k ys' (by simpa using e1)
  | _ :: _, [], δ, h => by simp only [putArgs, put1] at h; exact ⟨⟨_, h⟩, .inr ⟨h, fun k ys e => by simp⟩⟩
section
variable {X : Cx} {K : PySem.W.Frag} {F H : Hp} {σ : L2.St} {δ : DSt}
theorem ArsRep.get : ∀ {vs : List V} {as : List Ar} {i : Nat} {a : Ar}, ArsRep K F σ vs as → as[i]? = some a → ∃ v, vs[i]? = some v ∧ ArRep K F σ v a
  | [], [], _, _, _, e => by simp at e
  | v :: vs, a :: as, 0, b, h, e => by simp at e; subst e; exact ⟨v, rfl, h.1⟩
  | v :: vs, a :: as, i + 1, b, h, e => by
    obtain ⟨u, h1, h2⟩ := ArsRep.get (i := i) h.2 (by simpa using e)
    exact ⟨u, by simpa using h1, h2⟩
  | [], _ :: _, _, _, h, _ => h.elim
  | _ :: _, [], _, _, h, _ => h.elim
theorem ArsRep.length : ∀ {vs : List V} {as : List Ar}, ArsRep K F σ vs as → vs.length = as.length
  | [], [], _ => rfl
  | v :: vs, a :: as, h => congrArg (· + 1) (ArsRep.length h.2)
  | [], _ :: _, h => h.elim
  | _ :: _, [], h => h.elim
/-- what stands at place i of the arguments -/
theorem sls_at {vs : List V} {as : List Ar} {sls : List Sl} (r : ArsRep K F σ vs as) (e : slsOf δ as = some sls) {i : Nat} {s : Sl} (h : sls[i]? = some s) : ∃ a v, as[i]? = some a ∧ vs[i]? = some v ∧ ArRep K F σ v a ∧ slOf δ a = some s := by
  obtain ⟨l, g⟩ := slsOf_get e
  have hi : i < as.length := by rw [← l]; exact (List.getElem?_eq_some_iff.mp h).1
  obtain ⟨s', e1, e2⟩ := g i as[i] (List.getElem?_eq_getElem hi)
  rw [h] at e1
  cases e1
  obtain ⟨v, h1, h2⟩ := r.get (List.getElem?_eq_getElem hi)
  exact ⟨_, v, List.getElem?_eq_getElem hi, h1, h2, e2⟩
theorem slOf_par {a : Ar} {xs : List PyData} (h : slOf δ a = some (.par xs)) : ∃ j, a = .sl j ∧ cont δ j = some xs := by
  cases a with
  | val d => cases h
  | sl j =>
    refine ⟨j, rfl, ?_⟩
    have h : (cont δ j).map Sl.par = some (.par xs) := h
    cases q : cont δ j with
    | none => rw [q] at h; cases h
    | some ys => rw [q] at h; cases h; rfl
theorem RepS.args (R : RepS K F σ δ H) {vs : List V} {as : List Ar} {sls : List Sl} (r : ArsRep K F σ vs as) (e : slsOf δ as = some sls) (nd : (slots as).Nodup) : ArgRep K F H vs sls := by
  refine ⟨by rw [r.length, (slsOf_get e).1], R.sub, fun i d h => ?_, fun i xs h => ?_, fun i xs h => ?_, fun i j xs ys l ne h1 h2 h3 h4 => ?_⟩
  · obtain ⟨a, v, e1, e2, e3, e4⟩ := sls_at r e h
    cases a with
    | val d' => cases e4; exact ⟨v, e2, e3⟩
    | sl j =>
      have e4 : (cont δ j).map Sl.par = some (.val d) := e4
      cases q : cont δ j with
      | none => rw [q] at e4; cases e4
      | some ys => rw [q] at e4; cases e4
  · obtain ⟨a, v, e1, e2, e3, e4⟩ := sls_at r e h
    obtain ⟨j, rfl, hc⟩ := slOf_par e4
    obtain ⟨l, us, f1, f2, f3, f4⟩ := R.own j xs (cont_own hc)
    have e3 : σ[j]? = some (some v) := e3
    rw [f1] at e3
    cases e3
    exact ⟨l, us, e2, f2, f3, f4⟩
  · obtain ⟨a, v, e1, e2, e3, e4⟩ := sls_at r e h
    cases a with
    | val d' => cases e4
    | sl j =>
      have e4 : (cont δ j).map Sl.par = some (.own xs) := e4
      cases q : cont δ j with
      | none => rw [q] at e4; cases e4
      | some ys => rw [q] at e4; cases e4
  · obtain ⟨a, v, e1, e2, e3, e4⟩ := sls_at r e h1
    obtain ⟨b, w, f1, f2, f3, f4⟩ := sls_at r e h2
    obtain ⟨m, rfl, hc⟩ := slOf_par e4
    obtain ⟨n, rfl, hd⟩ := slOf_par f4
    rw [h3] at e2
    cases e2
    rw [h4] at f2
    cases f2
    have mn : m ≠ n := fun z => by
      subst z
      exact ne (slots_inj nd e1 f1)
    exact R.sep m n xs ys l mn (cont_own hc) (cont_own hd) e3 f3
theorem FinRep.back {vs : List V} {as : List Ar} {sls sls' : List Sl} {F' H' : Hp} {v : V} {r : Sl} (R : RepS K F σ δ H) (ra : ArsRep K F σ vs as) (e : slsOf δ as = some sls) (fin : FinRep K F H vs sls F' H' v r sls') :
    RepS K F' σ (putArgs δ as sls') H' ∧ Stp σ δ F H σ (putArgs δ as sls') F' H' := by
  have ownA : ∀ l, OwnA σ (putArgs δ as sls') l → OwnA σ δ l := fun l ⟨j, zs, h1, h2⟩ => by
    obtain ⟨⟨xs, h⟩, _⟩ := putArgs_own h1
    exact ⟨j, xs, h, h2⟩
  refine ⟨⟨by rw [putArgs_len]; exact R.len, fin.sub, fun i d h => ?_, fun j zs h => ?_, fun i j xs ys l ne h1 h2 => ?_⟩, ⟨fin.ext, fun b o h => ?_, fun b o h no => ?_, fin.dom, fun l h => .inl (ownA l h), fun i xs h => ⟨putArgs_par h, rfl⟩, fun l ⟨j, zs, h1, h2⟩ => ?_⟩⟩
  · obtain ⟨u, h1, h2⟩ := R.val i d (putArgs_val h)
    exact ⟨u, h1, Dp.mono fin.ext _ _ h2⟩
  · obtain ⟨⟨xs, h0⟩, h1⟩ := putArgs_own h
    rcases h1 with ⟨k, e1, e2⟩ | ⟨h1, no⟩
    · obtain ⟨s, g1, g2⟩ := (slsOf_get e).2 k _ e1
      have g2 : (cont δ j).map Sl.par = some s := g2
      cases q : cont δ j with
      | none => rw [q] at g2; cases g2
      | some ys =>
        rw [q] at g2
        cases g2
        obtain ⟨zs', l, us, f1, f2, f3, f4, f5⟩ := fin.par k ys g1
        rw [e2] at f1
        cases f1
        obtain ⟨u, k1, k2⟩ := ra.get e1
        rw [f2] at k1
        cases k1
        exact ⟨l, us, k2, f3, f4, f5⟩
    · obtain ⟨l, us, f1, f2, f3, f4⟩ := R.own j zs h1
      refine ⟨l, us, f1, ?_, fin.frm l _ f3 fun i ys hi hv => ?_, Dp.monoAll fin.ext _ _ f4⟩
      · cases qF : F' l with
        | none => rfl
        | some o =>
          rcases fin.new l o qF with z | z
          · rw [f2] at z; cases z
          · rw [f3] at z; cases z
      · obtain ⟨a, u, g1, g2, g3, g4⟩ := sls_at ra e hi
        obtain ⟨m, rfl, hc⟩ := slOf_par g4
        rw [hv] at g2
        cases g2
        by_cases mj : m = j
        · subst mj
          obtain ⟨ys', _, _, f, _⟩ := fin.par i ys hi
          exact no i ys' g1 f
        · exact R.sep m j ys zs l mj (cont_own hc) h1 g3 f1
  · obtain ⟨⟨x1, g1⟩, _⟩ := putArgs_own h1
    obtain ⟨⟨x2, g2⟩, _⟩ := putArgs_own h2
    exact R.sep i j x1 x2 l ne g1 g2
  · rcases fin.new b o h with z | z
    · exact .inl z
    · exact .inr (.inl z)
  · refine fin.frm b o h fun i xs hi hv => ?_
    obtain ⟨a, u, g1, g2, g3, g4⟩ := sls_at ra e hi
    obtain ⟨m, rfl, hc⟩ := slOf_par g4
    rw [hv] at g2
    cases g2
    exact no ⟨m, xs, cont_own hc, g3⟩
  · obtain ⟨xs, h⟩ := putArgs_ownl h1
    exact .inl ⟨j, xs, h, h2⟩

def dCall (d : DSp) (f : DTA) : DTE := fun δ C => f δ fun as δ1 => match slsOf δ1 as with
  | some sls => (slots as).Nodup ∧ d sls fun r sls' => match r with
    | .val x => C (.val x) (putArgs δ1 as sls')
    | .own xs => C (.val (.list xs)) (putArgs δ1 as sls')
    | .par _ => False
  | none => False
def dCallN (d : DSp) (f : DTA) : DSt → (List PyData → DSt → Prop) → Prop := fun δ C => f δ fun as δ1 => match slsOf δ1 as with
  | some sls => (slots as).Nodup ∧ d sls fun r sls' => match r with
    | .own xs => C xs (putArgs δ1 as sls')
    | _ => False
  | none => False
theorem call_read {d : DSp} {vs : List V} {as : List Ar} {sls : List Sl} {C : Sl → List Sl → Prop} {Q : VK} {E : XK} (R : RepS K F σ δ H) (ra : ArsRep K F σ vs as) (e : slsOf δ as = some sls) (nd : (slots as).Nodup) (c : d sls C)
    (k : ∀ r sls' F' H' v, RepS K F' σ (putArgs δ as sls') H' → Stp σ δ F H σ (putArgs δ as sls') F' H' → FinRep K F H vs sls F' H' v r sls' → C r sls' → Q v H') : lift K d vs H Q E := by
  refine ⟨F, sls, C, R.args ra e nd, c, fun r sls' F' H' v fin cc => ?_⟩
  obtain ⟨R2, s2⟩ := fin.back R ra e
  exact k r sls' F' H' v R2 s2 fin cc
/-- an owned list that came out of a call stands apart -/
theorem FinRep.own {vs : List V} {as : List Ar} {sls sls' : List Sl} {F' H' : Hp} {v : V} {xs : List PyData} (R : RepS K F σ δ H) (fin : FinRep K F H vs sls F' H' v (.own xs) sls') :
    ∃ l us, v = .ref l ∧ F' l = none ∧ H l = none ∧ ¬ OwnA σ (putArgs δ as sls') l ∧ H' l = some (.lst us) ∧ DpAll K F' us xs := by
  obtain ⟨l, us, h1, h2, h3, h4, h5⟩ := fin.res
  refine ⟨l, us, h1, h2, h3, fun ⟨j, zs, q1, q2⟩ => ?_, h4, h5⟩
  obtain ⟨⟨ys, q⟩, _⟩ := putArgs_own q1
  obtain ⟨l', us', f1, _, f3, _⟩ := R.own j ys q
  rw [q2] at f1
  cases f1
  rw [h3] at f3
  cases f3
variable {f : Addr} {fd : FuncData} {ps : List Str} {k : Nat} {CX : CXT} {E : XK} {x : Str} {p pos : Pos} {e : Expr} {es : List Expr} {d : DSp} {g : DTA}
theorem callCore {ta : TA} (q : ∀ {F : Hp} {σ : L2.St} {δ : DSt} {H : Hp} {Q : List V → Hp → Prop} {C : List Ar → DSt → Prop}, RepS X.K F σ δ H → g δ C →
    (∀ as δ' F' H' vs, RepS X.K F' σ δ' H' → Stp σ δ F H σ δ' F' H' → ArsRep X.K F' σ vs as → C as δ' → Q vs H') → ta σ H Q) {F : Hp} {σ : L2.St} {δ : DSt} {H : Hp} {Q : VK} {C : Ar → DSt → Prop} (R : RepS X.K F σ δ H) (c : dCall d g δ C)
    (k : ∀ a δ' F' H' v, RepS X.K F' σ δ' H' → Stp σ δ F H σ δ' F' H' → ArRep X.K F' σ v a → C a δ' → Q v H') : tCall (lift X.K d) [] E ta σ H Q := by
  refine q R c fun as δ1 F1 H1 vs R1 s1 r1 c1 => ?_
  rw [List.append_nil]
  split at c1
  · rename_i sls hs
    refine call_read R1 r1 hs c1.1 c1.2 fun r sls' F' H' v R2 s2 fin cc => ?_
    cases r with
    | val x => exact k (.val x) _ _ _ _ R2 (s1.trans s2) fin.res cc
    | own xs =>
      obtain ⟨l, us, rfl, h2, h3, h4, h5, h6⟩ := fin.own (as := as) R1
      obtain ⟨R3, sF, hD⟩ := R2.freezeNew h2 h4 h5 h6
      have s12 := s1.trans s2
      refine k (.val (.list xs)) _ _ _ _ R3 ⟨s12.ext.trans sF, fun b o eb => ?_, s12.frm, s12.dom, s12.own, s12.par, s12.ownl⟩ hD cc
      by_cases hb : b = l
      · subst hb; exact .inr (.inl (s1.dom _ h3))
      · rw [upd_ne hb] at eb; exact s12.new b o eb
    | par _ => exact cc.elim
  · exact c1.elim
theorem callCoreN {ta : TA} (q : ∀ {F : Hp} {σ : L2.St} {δ : DSt} {H : Hp} {Q : List V → Hp → Prop} {C : List Ar → DSt → Prop}, RepS X.K F σ δ H → g δ C →
    (∀ as δ' F' H' vs, RepS X.K F' σ δ' H' → Stp σ δ F H σ δ' F' H' → ArsRep X.K F' σ vs as → C as δ' → Q vs H') → ta σ H Q) {F : Hp} {σ : L2.St} {δ : DSt} {H : Hp} {Q : VK} {C : List PyData → DSt → Prop} (R : RepS X.K F σ δ H) (c : dCallN d g δ C)
    (k : ∀ xs δ' F' H' l us, RepS X.K F' σ δ' H' → Stp σ δ F H σ δ' F' H' → F' l = none → H l = none → ¬ OwnA σ δ' l → H' l = some (.lst us) → DpAll X.K F' us xs → C xs δ' → Q (.ref l) H') : tCall (lift X.K d) [] E ta σ H Q := by
  refine q R c fun as δ1 F1 H1 vs R1 s1 r1 c1 => ?_
  rw [List.append_nil]
  split at c1
  · rename_i sls hs
    refine call_read R1 r1 hs c1.1 c1.2 fun r sls' F' H' v R2 s2 fin cc => ?_
    cases r with
    | val x => exact cc.elim
    | own xs =>
      obtain ⟨l, us, rfl, h2, h3, h4, h5, h6⟩ := fin.own (as := as) R1
      exact k xs _ _ _ l us R2 (s1.trans s2) h2 (s1.dom _ h3) h4 h5 h6 cc
    | par _ => exact cc.elim
  · exact c1.elim
theorem pd_call (G : FnOk X.prog X.w X.K X.mg X.base CX k f fd ps (lift X.K d)) (hr : Room k X.A) (hg : Gl X x) (hm : X.mg x = some (.ref f)) (hk : PySem.W.keepIn X.K (.ref f) = true) (hb : Binds X.K fd ps []) (hx : Passes CX X E)
    (ha : PDA X (e :: es) g) (hdb : (x == ("__debug__" : Str)) = false := by decide) (he : starEach (e :: es) X.env = (false, eval e X.env) :: starEach es X.env := by rfl) (hpl : (backTo pos (starEach es X.env)).any (·.1) = false := by rfl) :
    PD X (.Call (.Name x p) (e :: es) [] pos) (dCall d g) := by
  obtain ⟨ta, pa, q⟩ := ha
  exact ⟨_, pe_call G hr hg hm hk hb .nil hx pa hdb he hpl, fun R c k => callCore q R c k⟩
theorem pdn_call (G : FnOk X.prog X.w X.K X.mg X.base CX k f fd ps (lift X.K d)) (hr : Room k X.A) (hg : Gl X x) (hm : X.mg x = some (.ref f)) (hk : PySem.W.keepIn X.K (.ref f) = true) (hb : Binds X.K fd ps []) (hx : Passes CX X E)
    (ha : PDA X (e :: es) g) (hdb : (x == ("__debug__" : Str)) = false := by decide) (he : starEach (e :: es) X.env = (false, eval e X.env) :: starEach es X.env := by rfl) (hpl : (backTo pos (starEach es X.env)).any (·.1) = false := by rfl) :
    PDN X (.Call (.Name x p) (e :: es) [] pos) (dCallN d g) := by
  obtain ⟨ta, pa, q⟩ := ha
  exact ⟨_, pe_call G hr hg hm hk hb .nil hx pa hdb he hpl, fun R c k => callCoreN q R c k⟩
theorem pd_call0 (G : FnOk X.prog X.w X.K X.mg X.base CX k f fd ps (lift X.K d)) (hr : Room k X.A) (hg : Gl X x) (hm : X.mg x = some (.ref f)) (hk : PySem.W.keepIn X.K (.ref f) = true) (hb : Binds X.K fd ps []) (hx : Passes CX X E)
    (hdb : (x == ("__debug__" : Str)) = false := by decide) : PD X (.Call (.Name x p) [] [] pos) (dCall d dNil) := by
  obtain ⟨ta, pa, q⟩ := pda_nil (X := X)
  exact ⟨_, pe_call0 G hr hg hm hk hb .nil hx hdb, fun {F σ δ H Q C} R c k => callCore (ta := tNil) (g := dNil) (fun R c k => k [] _ _ _ _ R .refl trivial c) R c k⟩
theorem pdn_call0 (G : FnOk X.prog X.w X.K X.mg X.base CX k f fd ps (lift X.K d)) (hr : Room k X.A) (hg : Gl X x) (hm : X.mg x = some (.ref f)) (hk : PySem.W.keepIn X.K (.ref f) = true) (hb : Binds X.K fd ps []) (hx : Passes CX X E)
    (hdb : (x == ("__debug__" : Str)) = false := by decide) : PDN X (.Call (.Name x p) [] [] pos) (dCallN d dNil) := by
  obtain ⟨ta, pa, q⟩ := pda_nil (X := X)
  exact ⟨_, pe_call0 G hr hg hm hk hb .nil hx hdb, fun {F σ δ H Q C} R c k => callCoreN (ta := tNil) (g := dNil) (fun R c k => k [] _ _ _ _ R .refl trivial c) R c k⟩
/-! ### calls by the parameters' names alone, in their order -/
structure PDK (X : Cx) (kws : List Keyword) (f : DTA) : Prop where
  ex : ∃ ta, PK X kws ta ∧ ∀ {F : Hp} {σ : L2.St} {δ : DSt} {H : Hp} {Q : List V → Hp → Prop} {C : List Ar → DSt → Prop}, RepS X.K F σ δ H → f δ C →
    (∀ as δ' F' H' vs, RepS X.K F' σ δ' H' → Stp σ δ F H σ δ' F' H' → ArsRep X.K F' σ vs as → C as δ' → Q vs H') → ta σ H Q
theorem pdk_nil : PDK X [] dNil := ⟨_, pk_nil, fun R c k => k [] _ _ _ _ R .refl trivial c⟩
theorem pdk_cons {e : Expr} {kws : List Keyword} {nm : Option Str} {kpos : Pos} {f : DTE} {g : DTA} (h1 : PD X e f) (h2 : PDK X kws g) : PDK X (⟨nm, e, kpos⟩ :: kws) (dCons f g) := by
  obtain ⟨te, p1, q1⟩ := h1
  obtain ⟨ta, p2, q2⟩ := h2
  refine ⟨_, pk_cons p1 p2, fun R c k => ?_⟩
  refine q1 R c fun a δ1 F1 H1 v R1 s1 r1 c1 => ?_
  refine q2 R1 c1 fun as δ2 F2 H2 vs R2 s2 r2 c2 => ?_
  exact k (a :: as) _ _ _ _ R2 (s1.trans s2) ⟨r1.mono s2.ext, r2⟩ c2
theorem pd_callK {kws : List Keyword} (G : FnOk X.prog X.w X.K X.mg X.base CX k f fd ps (lift X.K d)) (hr : Room k X.A) (hg : Gl X x) (hm : X.mg x = some (.ref f)) (hk : PySem.W.keepIn X.K (.ref f) = true)
    (hb : ∀ (s : Shared) (us : List Value), X.K.In s.heap → us.length = ps.length → BindsTo s fd ⟨[], ps.zip us⟩ (ps.zip us)) (hx : Passes CX X E) (hkw : PDK X kws g)
    (hall : (backToKw pos (keywordEach kws X.env)).all (·.1.isSome) = true := by rfl) (hks : (backToKw pos (keywordEach kws X.env)).filterMap (·.1) = ps := by rfl) (hdb : (x == ("__debug__" : Str)) = false := by decide)
    (hpl : ((backTo pos (starEach [] X.env)).any (·.1) || (backToKw pos (keywordEach kws X.env)).any (·.1.isNone)) = false := by rfl) :
    PD X (.Call (.Name x p) [] kws pos) (dCall d g) := by
  obtain ⟨ta, pa, q⟩ := hkw
  refine ⟨tCall (lift X.K d) [] E ta, ⟨fun pins s σ H Q I h => ?_⟩, fun R c k => callCore q R c k⟩
  refine wpAny_Call_Name_kw (ld_glob I hg hm ?_ hdb)
  refine PySem.W.callWith_KW0 (h₀ := X.base) I.ok.mod.kin hk hall ?_ hpl
  refine thn (pa.run pos pins s σ H _ I h) fun us s2 ⟨zs, H2, I2, rz, q2⟩ => ⟨I2.kIn, ?_⟩
  rw [hks]
  have q2 : lift X.K d (zs ++ []) H2 Q E := q2
  rw [List.append_nil] at q2
  have hl : us.length = ps.length := by rw [← rz.length]; exact G.len _ _ _ _ q2
  refine wpAny_call (codeAny_mono (G.run X.A X.stack s2 H2 ⟨[], ps.zip us⟩ us zs Q E hr I2.env0 (hb s2 us I2.kIn hl) rz q2) fun r s' hq => ?_)
  cases r with
  | error e => exact hx pins σ H2 s2 e s' I2 hq
  | ok fl =>
    cases fl with
    | ret u => exact I2.after hq
    | _ => exact False.elim hq
end
end DD

namespace DD
open PySem PySem.Spec PyProof.Rows L2
/-- the def x stands in the module and keeps its promise -/
structure Ok (P : Program) (w : World) (K : PySem.W.Frag) (mg : Str → Option Value) (base : Heap) (x : Str) (k : Nat) (ps : List Str) (d : DSp) : Prop where
  ex : ∃ (f : Addr) (fd : FuncData), mg x = some (.ref f) ∧ PySem.W.keepIn K (.ref f) = true ∧ Binds K fd ps [] ∧ FnOk P w K mg base CX0 k f fd ps (lift K d)
structure OkK (P : Program) (w : World) (K : PySem.W.Frag) (mg : Str → Option Value) (base : Heap) (x : Str) (k : Nat) (ps : List Str) (d : DSp) : Prop where
  ex : ∃ (f : Addr) (fd : FuncData), mg x = some (.ref f) ∧ PySem.W.keepIn K (.ref f) = true ∧ (∀ (s : Shared) (us : List Value), K.In s.heap → us.length = ps.length → BindsTo s fd ⟨[], ps.zip us⟩ (ps.zip us)) ∧ FnOk P w K mg base CX0 k f fd ps (lift K d)
/-- a def of the text, by name -/
structure DefAt (K : PySem.W.Frag) (mg : Str → Option Value) (x : Str) (st : Stmt) : Prop where
  ex : ∃ (f : Addr) (fd : FuncData), mg x = some (.ref f) ∧ Fun K x x st f fd
section
variable {X : Cx} {ps : List Str} {k m : Nat} {x : Str} {p pos : Pos} {e : Expr} {es : List Expr} {d : DSp} {g : DTA}
theorem pc_ok (G : Ok X.prog X.w X.K X.mg X.base x k ps d) (hr : Room m X.A) (hg : Gl X x) (hkm : k ≤ m)
    (ha : PDA X (e :: es) g) (hdb : (x == ("__debug__" : Str)) = false := by decide) (he : starEach (e :: es) X.env = (false, eval e X.env) :: starEach es X.env := by rfl) (hpl : (backTo pos (starEach es X.env)).any (·.1) = false := by rfl) :
    PD X (.Call (.Name x p) (e :: es) [] pos) (dCall d g) := by
  obtain ⟨f, fd, hm, hk, hb, G⟩ := G
  exact pd_call (E := E0) G (hr.mono hkm) hg hm hk hb pass0 ha hdb he hpl
theorem pcn_ok (G : Ok X.prog X.w X.K X.mg X.base x k ps d) (hr : Room m X.A) (hg : Gl X x) (hkm : k ≤ m)
    (ha : PDA X (e :: es) g) (hdb : (x == ("__debug__" : Str)) = false := by decide) (he : starEach (e :: es) X.env = (false, eval e X.env) :: starEach es X.env := by rfl) (hpl : (backTo pos (starEach es X.env)).any (·.1) = false := by rfl) :
    PDN X (.Call (.Name x p) (e :: es) [] pos) (dCallN d g) := by
  obtain ⟨f, fd, hm, hk, hb, G⟩ := G
  exact pdn_call (E := E0) G (hr.mono hkm) hg hm hk hb pass0 ha hdb he hpl
theorem pc_ok0 (G : Ok X.prog X.w X.K X.mg X.base x k ps d) (hr : Room m X.A) (hg : Gl X x) (hkm : k ≤ m) (hdb : (x == ("__debug__" : Str)) = false := by decide) : PD X (.Call (.Name x p) [] [] pos) (dCall d dNil) := by
  obtain ⟨f, fd, hm, hk, hb, G⟩ := G
  exact pd_call0 (E := E0) G (hr.mono hkm) hg hm hk hb pass0 hdb
theorem pcn_ok0 (G : Ok X.prog X.w X.K X.mg X.base x k ps d) (hr : Room m X.A) (hg : Gl X x) (hkm : k ≤ m) (hdb : (x == ("__debug__" : Str)) = false := by decide) : PDN X (.Call (.Name x p) [] [] pos) (dCallN d dNil) := by
  obtain ⟨f, fd, hm, hk, hb, G⟩ := G
  exact pdn_call0 (E := E0) G (hr.mono hkm) hg hm hk hb pass0 hdb
theorem pck_ok {kws : List Keyword} (G : OkK X.prog X.w X.K X.mg X.base x k ps d) (hr : Room m X.A) (hg : Gl X x) (hkm : k ≤ m) (hkw : PDK X kws g)
    (hall : (backToKw pos (keywordEach kws X.env)).all (·.1.isSome) = true := by rfl) (hks : (backToKw pos (keywordEach kws X.env)).filterMap (·.1) = ps := by rfl) (hdb : (x == ("__debug__" : Str)) = false := by decide)
    (hpl : ((backTo pos (starEach [] X.env)).any (·.1) || (backToKw pos (keywordEach kws X.env)).any (·.1.isNone)) = false := by rfl) :
    PD X (.Call (.Name x p) [] kws pos) (dCall d g) := by
  obtain ⟨f, fd, hm, hk, hb, G⟩ := G
  exact pd_callK (E := E0) G (hr.mono hkm) hg hm hk hb pass0 hkw hall hks hdb hpl
end
section
variable {P : Program} {w : World} {K : PySem.W.Frag} {mg : Str → Option Value} {base : Heap}
theorem ok_mk {x : Str} {st : Stmt} {N ps : List Str} {k : Nat} {d : DSp} {g : DTS} (D : DefAt K mg x st) (S : FnScope N ps (defScope st)) (len : ∀ sls C, d sls C → sls.length = ps.length)
    (hb : ∀ (kV doc pm : Value) (an : Option Addr) (cdv ct : Value) (us : List Value), us.length = ps.length → bindArgs (PySem.W.fnOf x x (defArgs st) (defBody st) (defScope st) .none kV doc pm an cdv ct) ⟨us, []⟩ = pure (ps.zip us))
    (hbody : ∀ (f : Addr) (cdv : Value) (A : Around) (outer : List Env) (s : Shared) (H : Hp) (E : XK), Room k (A.deeper (envOfC x (defScope st) s.heap.objs.size f cdv)) → SDs (cxOf CX0 P w K mg base N x (defScope st) f cdv A outer s H E).nox (defBody st) g)
    (law : ∀ sls C, d sls C → g (endsD sls.length C) (startD N sls)) : Ok P w K mg base x (k + 1) ps d := by
  obtain ⟨f, fd, hm, F⟩ := D
  exact ⟨f, fd, hm, F.kp, F.binds hb, fn_dd F S len (hbody f) law⟩
theorem okk_mk {x : Str} {st : Stmt} {N ps : List Str} {k : Nat} {d : DSp} {g : DTS} (D : DefAt K mg x st) (S : FnScope N ps (defScope st)) (len : ∀ sls C, d sls C → sls.length = ps.length)
    (hb : ∀ (kV doc pm : Value) (an : Option Addr) (cdv ct : Value) (us : List Value), us.length = ps.length → bindArgs (PySem.W.fnOf x x (defArgs st) (defBody st) (defScope st) .none kV doc pm an cdv ct) ⟨[], ps.zip us⟩ = pure (ps.zip us))
    (hbody : ∀ (f : Addr) (cdv : Value) (A : Around) (outer : List Env) (s : Shared) (H : Hp) (E : XK), Room k (A.deeper (envOfC x (defScope st) s.heap.objs.size f cdv)) → SDs (cxOf CX0 P w K mg base N x (defScope st) f cdv A outer s H E).nox (defBody st) g)
    (law : ∀ sls C, d sls C → g (endsD sls.length C) (startD N sls)) : OkK P w K mg base x (k + 1) ps d := by
  obtain ⟨f, fd, hm, F⟩ := D
  have G := fn_dd F S len (hbody f) law
  obtain ⟨oc, od, kV, doc, pm, an, cdv, ct, osl, rfl, lk, hcd⟩ := F.ex
  exact ⟨f, _, hm, F.kp, fun s us _ hl => .of_eq (hb kV doc pm an cdv ct us hl), G⟩
/-- the goal that k_head leaves, from the law's promise; what is known of loose names is handed on -/
theorem walk_X {l : PySem.W.OpenLaw} {n k : Nat} {q : Program} {loose : List Str} {XP : (Str → Option Value) → Heap → Prop} {YP : World → Heap → Prop} {d : DefRec} {K : Params → PySem.W.Frag} {sp : DSp} {x : Str}
    (hn : l.most = some n) (hn2 : n ≤ sizeLine) (hdf : d.params.defaults = []) (hr : Room k callerA)
    (hY : ∀ (w : World) (h : Heap), YP w h → (K w.params).In h)
    (F : ∀ (w : World) (mg : Str → Option Value) (fa : Addr) (h : Heap), (K w.params).In h → h.Ns mainGlobals mg → XP mg h → mg d.name = some (.ref fa) →
      ∃ fd : FuncData, (∀ (s : Shared) (u : Value), BindsTo s fd ⟨[u], []⟩ [(x, u)]) ∧
        ∀ base : Heap, (K w.params).In base → base.Ns mainGlobals mg → FnOk l.prog w (K w.params) mg base CX0 k fa fd [x] (lift (K w.params) sp))
    (hsp : ∀ ns : List Int, ns.length ≤ n → sp [.val (.list (ns.map PyData.int))] fun r _ => r = .val (.bool true)) :
    PySem.W.WalkO q loose XP YP l.row.toRowW d [] (fun f vs => PySem.call f vs) := by
  refine Att.attach_call hn hdf fun w s0 s1 mg mb fa o pm cd doc a vs ns G Y ho hd hcd hmg hobj hints hlen hg => ?_
  have KX := hY w _ Y
  obtain ⟨fd, hb, hF⟩ := F w mg fa _ KX G.T.g G.X hmg
  refine law_call KX G.T.g G.T.b G.T.builtins G.T.nolimit hg hobj hints (Nat.le_trans hlen hn2) hr hF hb (fun H hO hS => ?_) fun _ _ _ h => h.elim
  refine ⟨H, _, _, ⟨rfl, Same.refl _, fun i y e => ?_, fun i xs e => ?_, fun i xs e => ?_, fun i j xs ys l _ e => ?_⟩, hsp ns hlen, fun r sls' F' H' v fin e => ?_⟩
  · cases i with
    | zero => cases e; exact ⟨_, rfl, .lst hS (DpAll.ints ns)⟩
    | succ i => simp at e
  · cases i with
    | zero => cases e
    | succ i => simp at e
  · cases i with
    | zero => cases e
    | succ i => simp at e
  · cases i with
    | zero => cases e
    | succ i => simp at e
  · subst e
    cases fin.res
    rfl
end
end DD

namespace DD
open PySem PySem.Spec PyProof.Rows L2
/-! ### how a body is read -/
/-- one statement, what follows held back -/
theorem seq_one {g h : DTS} {D : DEnds} {δ : DSt} (k : ∀ N : DSt → Prop, (∀ δ', h D δ' → N δ') → g { D with nx := N } δ) : dSeq g h D δ := k (h D) fun _ x => x
/-- one statement, then P -/
theorem seq_cut {g h : DTS} {D : DEnds} {δ : DSt} (P : DSt → Prop) (k : ∀ N : DSt → Prop, (∀ δ', P δ' → N δ') → g { D with nx := N } δ) (tail : ∀ δ', P δ' → h D δ') : dSeq g h D δ := k (h D) tail
theorem forL_inv {g : DTG} {b : DTS} {D : DEnds} (P : List PyData → DSt → Prop)
    (step : ∀ d ds δ, P (d :: ds) δ → ∀ N : DSt → Prop, (∀ δ', P ds δ' → N δ') → g d δ fun δ1 => b { nx := N, ct := N, bk := D.nx, rt := D.rt } δ1)
    (fin : ∀ δ, P [] δ → D.nx δ) : ∀ its δ, P its δ → dForL g b its D δ
  | [], δ, h => fin δ h
  | d :: ds, δ, h => step d ds δ h _ fun δ' h' => forL_inv P step fin ds δ' h'
theorem rangeD_at {lo : Int} {n k : Nat} (h : k < (rangeD lo n).length) : (rangeD lo n)[k] = .int (lo + (k : Nat)) := by
  have e : (rangeD lo n)[k]? = some (.int (lo + (k : Nat))) := by
    have hk : k < n := by
      have := h
      unfold rangeD at this
      simpa using this
    unfold rangeD
    rw [List.getElem?_map, List.getElem?_range hk]
    rfl
  rw [List.getElem?_eq_getElem h] at e
  exact Option.some.inj e
/-- over the ints from lo on, n of them; P by the number of turns that are done -/
theorem forR_inv {g : DTG} {b : DTS} {D : DEnds} (lo : Int) (n : Nat) (P : Nat → DSt → Prop)
    (step : ∀ (k : Nat) δ, k < n → P k δ → ∀ N : DSt → Prop, (∀ δ', P (k + 1) δ' → N δ') → g (.int (lo + (k : Nat))) δ fun δ1 => b { nx := N, ct := N, bk := D.nx, rt := D.rt } δ1)
    (fin : ∀ δ, P n δ → D.nx δ) {δ : DSt} (h : P 0 δ) : dForL g b (rangeD lo n) D δ := by
  have key : ∀ m k δ, k + m = n → P k δ → dForL g b ((rangeD lo n).drop k) D δ := by
    intro m
    induction m with
    | zero =>
      intro k δ e h
      have : (rangeD lo n).length ≤ k := by unfold rangeD; simp; omega
      rw [List.drop_eq_nil_of_le this]
      have e : k = n := by omega
      subst e
      exact fin δ h
    | succ m ih =>
      intro k δ e h
      have hk : k < n := by omega
      have hl : k < (rangeD lo n).length := by unfold rangeD; simp; exact hk
      rw [List.drop_eq_getElem_cons hl]
      have e2 : (rangeD lo n)[k] = .int (lo + (k : Nat)) := rangeD_at hl
      rw [e2]
      exact step k δ hk h _ fun δ' h' => ih (k + 1) δ' (by omega) h'
  have := key n 0 δ (by omega) h
  rw [List.drop_zero] at this
  exact this
theorem while_inv {c : DTT} {b : DTS} {D : DEnds} (P : Nat → DSt → Prop)
    (step : ∀ n δ, P n δ → ∀ N : DSt → Prop, (∀ m δ', m < n → P m δ' → N δ') → c δ fun t δ1 => (t = true → b { nx := N, ct := N, bk := D.nx, rt := D.rt } δ1) ∧ (t = false → D.nx δ1))
    {n : Nat} {δ : DSt} (h : P n δ) : dWhile c b D δ := by
  have key : ∀ f n δ, n + 1 ≤ f → P n δ → dWhileN c b f D δ := by
    intro f
    induction f with
    | zero => intro n δ e _; omega
    | succ f ih => intro n δ e h; exact step n δ h _ fun m δ' hm h' => ih m δ' (by omega) h'
  exact ⟨n + 1, key _ n δ (Nat.le_refl _) h⟩
theorem lcL_inv {g : DTG} {tt : DTT} {te : DTE} {vs : List Nat} {C : List PyData → DSt → Prop} (P : List PyData → List PyData → DSt → Prop)
    (step : ∀ d ds acc δ, P (d :: ds) acc δ → ∀ N : List PyData → DSt → Prop, (∀ acc' δ', P ds acc' δ' → N acc' δ') → g d (wipeD δ vs) fun δ2 => tt δ2 fun b δ3 => (b = true → te δ3 fun a δ4 => match a with
      | .val y => acc.length < sizeLine ∧ noOwnB δ4 vs = true ∧ N (acc ++ [y]) (restD δ δ4 vs)
      | _ => False) ∧ (b = false → noOwnB δ3 vs = true ∧ N acc (restD δ δ3 vs)))
    (fin : ∀ acc δ, P [] acc δ → C acc δ) : ∀ its acc δ, P its acc δ → dLcL g tt te vs its acc δ C
  | [], acc, δ, h => fin acc δ h
  | d :: ds, acc, δ, h => step d ds acc δ h (fun acc' δ' => dLcL g tt te vs ds acc' δ' C) fun acc' δ' h' => lcL_inv P step fin ds acc' δ' h'
theorem lcR_inv {g : DTG} {tt : DTT} {te : DTE} {vs : List Nat} {C : List PyData → DSt → Prop} (lo : Int) (n : Nat) (P : Nat → List PyData → DSt → Prop)
    (step : ∀ (k : Nat) acc δ, k < n → P k acc δ → ∀ N : List PyData → DSt → Prop, (∀ acc' δ', P (k + 1) acc' δ' → N acc' δ') → g (.int (lo + (k : Nat))) (wipeD δ vs) fun δ2 => tt δ2 fun b δ3 => (b = true → te δ3 fun a δ4 => match a with
      | .val y => acc.length < sizeLine ∧ noOwnB δ4 vs = true ∧ N (acc ++ [y]) (restD δ δ4 vs)
      | _ => False) ∧ (b = false → noOwnB δ3 vs = true ∧ N acc (restD δ δ3 vs)))
    (fin : ∀ acc δ, P n acc δ → C acc δ) {δ : DSt} (h : P 0 [] δ) : dLcL g tt te vs (rangeD lo n) [] δ C := by
  have key : ∀ m k acc δ, k + m = n → P k acc δ → dLcL g tt te vs ((rangeD lo n).drop k) acc δ C := by
    intro m
    induction m with
    | zero =>
      intro k acc δ e h
      have : (rangeD lo n).length ≤ k := by unfold rangeD; simp; omega
      rw [List.drop_eq_nil_of_le this]
      have e : k = n := by omega
      subst e
      exact fin acc δ h
    | succ m ih =>
      intro k acc δ e h
      have hk : k < n := by omega
      have hl : k < (rangeD lo n).length := by unfold rangeD; simp; exact hk
      rw [List.drop_eq_getElem_cons hl]
      have e2 : (rangeD lo n)[k] = .int (lo + (k : Nat)) := rangeD_at hl
      rw [e2]
      exact step k acc δ hk h (fun acc' δ' => dLcL g tt te vs ((rangeD lo n).drop (k + 1)) acc' δ' C) fun acc' δ' h' => ih (k + 1) acc' δ' (by omega) h'
  have := key n 0 [] δ (by omega) h
  rw [List.drop_zero] at this
  exact this
/-! ### small facts -/
theorem sl_line : sizeLine = 16777216 := sizeLine_eq
theorem atI_at {α : Type} {xs : List α} {i : Int} (h : 0 ≤ i) (h2 : i < (xs.length : Int)) : ∃ c, atI xs i = some c ∧ xs[i.toNat]? = some c ∧ c ∈ xs := by
  have hi : i.toNat < xs.length := by omega
  have e : ((i.toNat : Nat) : Int) = i := by omega
  have := atI_nat (List.getElem?_eq_getElem hi)
  rw [e] at this
  exact ⟨_, this, List.getElem?_eq_getElem hi, List.getElem_mem hi⟩
theorem atI_map {α β : Type} {f : α → β} {xs : List α} {i : Int} (h : 0 ≤ i) (h2 : i < (xs.length : Int)) : ∃ c, xs[i.toNat]? = some c ∧ atI (xs.map f) i = some (f c) ∧ c ∈ xs := by
  have hi : i.toNat < xs.length := by omega
  have e : ((i.toNat : Nat) : Int) = i := by omega
  have h3 : (xs.map f)[i.toNat]? = some (f xs[i.toNat]) := by rw [List.getElem?_map, List.getElem?_eq_getElem hi]; rfl
  have := atI_nat h3
  rw [e] at this
  exact ⟨_, List.getElem?_eq_getElem hi, this, List.getElem_mem hi⟩
end DD

namespace DD
open PySem PySem.Spec PyProof.Rows L2
/-! ### data of the module -/
def mapO {α β : Type} (f : α → Option β) : List α → Option (List β)
  | [] => some []
  | a :: as => match f a, mapO f as with
    | some b, some bs => some (b :: bs)
    | _, _ => none
def datIn (K : PySem.W.Frag) : Nat → Value → Option PyData
  | _, .none => some .none
  | _, .bool b => some (.bool b)
  | _, .int i _ => some (.int i)
  | _, .str z _ => some (.str z)
  | n + 1, .ref a => match K.lookup a with
    | some o => if o.cls == .type "tuple" then (match o.data with
        | .seq its _ => if its.size ≤ sizeLine then (match mapO (datIn K n) its.toList with
            | some ds => some (.tuple ds)
            | none => none) else none
        | _ => none) else none
    | none => none
  | _, _ => none
theorem datIn_ok {K : PySem.W.Frag} : ∀ (n : Nat) (v : Value) (d : PyData), datIn K n v = some d → ∃ x : V, RelV x v ∧ ∀ F, Dp K F x d := by
  intro n
  induction n with
  | zero =>
    intro v d h
    unfold datIn at h
    split at h
    · cases h; exact ⟨.non, rfl, fun F => .non⟩
    · cases h; exact ⟨.bl _, rfl, fun F => .bl _⟩
    · cases h; exact ⟨.int _, ⟨_, rfl⟩, fun F => .int _⟩
    · cases h; exact ⟨.str _, ⟨_, rfl⟩, fun F => .str _⟩
    · exact absurd ‹(0:Nat) = _› (by omega)
    · cases h
  | succ n ih =>
    intro v d h
    have all : ∀ (vs : List Value) (ds : List PyData), mapO (datIn K n) vs = some ds → ∃ xs : List V, Vals xs vs ∧ ∀ F, DpAll K F xs ds := by
      intro vs
      induction vs with
      | nil => intro ds h; cases h; exact ⟨[], .nil, fun F => .nil⟩
      | cons v vs ih2 =>
        intro ds h
        unfold mapO at h
        split at h
        · rename_i b bs h1 h2
          cases h
          obtain ⟨x, r, dx⟩ := ih _ _ h1
          obtain ⟨xs, rs, dxs⟩ := ih2 _ h2
          exact ⟨x :: xs, .cons r rs, fun F => .cons (dx F) (dxs F)⟩
        · cases h
    unfold datIn at h
    split at h
    · cases h; exact ⟨.non, rfl, fun F => .non⟩
    · cases h; exact ⟨.bl _, rfl, fun F => .bl _⟩
    · cases h; exact ⟨.int _, ⟨_, rfl⟩, fun F => .int _⟩
    · cases h; exact ⟨.str _, ⟨_, rfl⟩, fun F => .str _⟩
    · rename_i n' a hn
      cases hn
      split at h
      · rename_i o ho
        split at h
        · rename_i hc
          split at h
          · rename_i its m hd
            split at h
            · rename_i hz
              split at h
              · rename_i ds hds
                cases h
                obtain ⟨xs, rs, dxs⟩ := all _ _ hds
                exact ⟨.ref a, rfl, fun F => .tup (.inr ⟨o, its, m, ho, beq_iff_eq.mp hc, hd, hz, rs⟩) (dxs F)⟩
              · cases h
            · cases h
          · cases h
        · cases h
      · cases h
    · cases h
theorem kD {K : PySem.W.Frag} {mg : Str → Option Value} {c : Str} {v : Value} {n : Nat} {d : PyData} (hm : mg c = some v) (h : datIn K n v = some d) (hd : (c == ("__debug__" : Str)) = false := by decide) :
    ∀ {X : Cx} {pos : Pos}, X.K = K → X.mg = mg → Gl X c → PD X (.Name c pos) (dC d) := by
  intro X pos hK hmg hg
  obtain ⟨x, r, dx⟩ := datIn_ok n v d h
  subst hK hmg
  exact pd_c (v := x) (pe_glob hg hm r hd) dx
/-- a loose name that is a str -/
theorem loose_str {p : Program} {lv : List (Str × PySem.W.WData)} {mg : Str → Option Value} {h : Heap} {x z : Str} (X : PySem.W.XL p lv mg h) (m : (x, PySem.W.WData.str z) ∈ lv) : ∃ t, mg x = some (.str z t) := by
  obtain ⟨v, a, r⟩ := X.2.val _ m
  cases r
  exact ⟨_, a⟩
theorem kLoose {K : PySem.W.Frag} {mg : Str → Option Value} {c z : Str} (hm : ∃ t, mg c = some (.str z t)) (hd : (c == ("__debug__" : Str)) = false := by decide) :
    ∀ {X : Cx} {pos : Pos}, X.K = K → X.mg = mg → Gl X c → PD X (.Name c pos) (dC (.str z)) := by
  intro X pos hK hmg hg
  obtain ⟨t, hm⟩ := hm
  exact kD (n := 0) (d := .str z) hm rfl hd hK hmg hg
theorem def_mk {K : PySem.W.Frag} {h : Heap} {mg : Str → Option Value} {x : Str} {st : Stmt} {f : Addr} (X : K.In h) (G : h.Ns mainGlobals mg)
    {od an : Option Addr} {sl : Array (Option Value)} {oc kV dc pm cd ct : Value}
    (a : PySem.W.nsIn K mainGlobals x = some (some (.ref f))) (l : K.lookup f = some ⟨oc, od, .func (PySem.W.fnOf x x (defArgs st) (defBody st) (defScope st) .none kV dc pm an cd ct), sl⟩) (c : PySem.W.codeIn K cd x = true) (k : PySem.W.keepIn K (.ref f) = true) : DefAt K mg x st :=
  ⟨_, _, PySem.W.mg_of X G a, fun_mk l c k⟩
theorem sp_len {P : Prop} {n m : Nat} (h : n = m) : n = m := h
end DD

namespace K15
open PySem PySem.Spec PyProof.Rows L2 DD
/-! ### the text by its places -/
def topS (i : Nat) : Stmt := PySem.Challenge.pw_asiffresh_k15_stretches_of_a_text.main.body.getD i (.Pass ⟨0, 0, 0, 0⟩)
abbrev s__law_draw : Stmt := topS 18
abbrev s__law_next : Stmt := topS 19
abbrev s__law_pick : Stmt := topS 25
abbrev s__law_words : Stmt := topS 20
abbrev s__law_signs : Stmt := topS 21
abbrev s__law_piece : Stmt := topS 26
abbrev s__law_text : Stmt := topS 27
abbrev s__law_more : Stmt := topS 23
abbrev s__law_small : Stmt := topS 22
abbrev s__law_lexed : Stmt := topS 24
abbrev s__law_cut : Stmt := topS 28
abbrev s__law_right : Stmt := topS 29
abbrev s_cut : Stmt := topS 15
abbrev s_end_of : Stmt := topS 8
abbrev s_scanned : Stmt := topS 10
abbrev s_sort_of : Stmt := topS 9
abbrev s_tokens : Stmt := topS 11
abbrev s_kept_tokens : Stmt := topS 14
abbrev s_stretches : Stmt := topS 16
abbrev s_law : Stmt := topS 30
def k_ITEM_WORDS : PyData := (.tuple [(.str "face"), (.str "use"), (.str "open"), (.str "kind"), (.str "def")])
def k_ROW_SIGNS : PyData := (.str "abcdefghijklmnopqrstuvwxyzABCDEFGHIJKLMNOPQRSTUVWXYZ0123456789_")
def k_LONG_SIGNS : PyData := (.tuple [(.str ".."), (.str "=="), (.str "->")])
def k_SMALL : PyData := (.str "abcdefghijklmnopqrstuvwxyz")
def k_WORDS : PyData := (.tuple [(.str "face"), (.str "use"), (.str "as"), (.str "open"), (.str "hiding"), (.str "kind"), (.str "def"), (.str "let"), (.str "in"), (.str "if"), (.str "then"), (.str "else"), (.str "case"), (.str "of"), (.str "end")])
def k_GREAT : PyData := (.str "ABCDEFGHIJKLMNOPQRSTUVWXYZ")
def k_SIGNS : PyData := (.tuple [(.str "("), (.str ")"), (.str ","), (.str ";"), (.str "."), (.str ":"), (.str "="), (.str "|"), (.str "_"), (.str ".."), (.str "=="), (.str "->")])
/-- what the module holds -/
structure Txt (K : PySem.W.Frag) (mg : Str → Option Value) : Prop where
  d__law_draw : DefAt K mg "_law_draw" s__law_draw
  d__law_next : DefAt K mg "_law_next" s__law_next
  d__law_pick : DefAt K mg "_law_pick" s__law_pick
  d__law_words : DefAt K mg "_law_words" s__law_words
  d__law_signs : DefAt K mg "_law_signs" s__law_signs
  d__law_piece : DefAt K mg "_law_piece" s__law_piece
  d__law_text : DefAt K mg "_law_text" s__law_text
  d__law_more : DefAt K mg "_law_more" s__law_more
  d__law_small : DefAt K mg "_law_small" s__law_small
  d__law_lexed : DefAt K mg "_law_lexed" s__law_lexed
  d__law_cut : DefAt K mg "_law_cut" s__law_cut
  d__law_right : DefAt K mg "_law_right" s__law_right
  d_cut : DefAt K mg "cut" s_cut
  d_end_of : DefAt K mg "end_of" s_end_of
  d_scanned : DefAt K mg "scanned" s_scanned
  d_sort_of : DefAt K mg "sort_of" s_sort_of
  d_tokens : DefAt K mg "tokens" s_tokens
  d_kept_tokens : DefAt K mg "kept_tokens" s_kept_tokens
  d_stretches : DefAt K mg "stretches" s_stretches
  d_law : DefAt K mg "law" s_law
  k_ITEM_WORDS : ∀ {X : Cx} {pos : Pos}, X.K = K → X.mg = mg → Gl X "ITEM_WORDS" → PD X (.Name "ITEM_WORDS" pos) (dC k_ITEM_WORDS)
  k_ROW_SIGNS : ∀ {X : Cx} {pos : Pos}, X.K = K → X.mg = mg → Gl X "ROW_SIGNS" → PD X (.Name "ROW_SIGNS" pos) (dC k_ROW_SIGNS)
  k_LONG_SIGNS : ∀ {X : Cx} {pos : Pos}, X.K = K → X.mg = mg → Gl X "LONG_SIGNS" → PD X (.Name "LONG_SIGNS" pos) (dC k_LONG_SIGNS)
  k_SMALL : ∀ {X : Cx} {pos : Pos}, X.K = K → X.mg = mg → Gl X "SMALL" → PD X (.Name "SMALL" pos) (dC k_SMALL)
  k_WORDS : ∀ {X : Cx} {pos : Pos}, X.K = K → X.mg = mg → Gl X "WORDS" → PD X (.Name "WORDS" pos) (dC k_WORDS)
  k_GREAT : ∀ {X : Cx} {pos : Pos}, X.K = K → X.mg = mg → Gl X "GREAT" → PD X (.Name "GREAT" pos) (dC k_GREAT)
  k_SIGNS : ∀ {X : Cx} {pos : Pos}, X.K = K → X.mg = mg → Gl X "SIGNS" → PD X (.Name "SIGNS" pos) (dC k_SIGNS)
  n_list : mg "list" = none
  n_len : mg "len" = none
  n_int : mg "int" = none
  n_range : mg "range" = none
  n_tuple : mg "tuple" = none
  n_isinstance : mg "isinstance" = none
def N__law_draw : List Str := ["script"]
theorem sc__law_draw : FnScope N__law_draw ["script"] (defScope s__law_draw) := ⟨rfl, rfl, rfl, by decide +kernel, rfl, by decide +kernel, by decide +kernel⟩
def b__law_draw : DTS := (dRetN (dLstN (dCons (dFr (dListN (dCons (dSl (dVar 0) doNone (doSome (dC (.int 63)))) dNil))) (dCons (dC (.int 0)) (dCons (dC (.int 1)) (dCons (dC (.int 7)) dNil))))))
theorem d__law_draw {P : Program} {w : World} {K : PySem.W.Frag} {mg : Str → Option Value} {base : Heap} (T : Txt K mg) (f : Addr) (cdv : Value) (A : Around) (outer : List Env) (s : Shared) (H : Hp) (E : XK)
    (hr : Room 0 (A.deeper (envOfC "_law_draw" (defScope s__law_draw) s.heap.objs.size f cdv))) : SDs (cxOf CX0 P w K mg base N__law_draw "_law_draw" (defScope s__law_draw) f cdv A outer s H E).nox (defBody s__law_draw) (b__law_draw) :=
  (sds_one (sd_retNew (pdn_lst (pda_cons (pd_new (pdn_list (by rfl) T.n_list boot_list (pda_cons (pd_slice (pd_var 0) pdo_none (pdo_some pd_int)) pda_nil))) (pda_cons pd_int (pda_cons pd_int (pda_cons pd_int pda_nil)))))))
def N__law_next : List Str := ["draw", "many", "cell", "digit"]
theorem sc__law_next : FnScope N__law_next ["draw", "many"] (defScope s__law_next) := ⟨rfl, rfl, rfl, by decide +kernel, rfl, by decide +kernel, by decide +kernel⟩
def b__law_next : DTS := (dSeq (dIf (dAnd (dCmp cLe (dIx (dVar 0) (dC (.int 2))) (dC (.int 1))) (dCmp cLt (dIx (dVar 0) (dC (.int 1))) (dCB fLen (dCons (dIx (dVar 0) (dC (.int 0))) dNil))))
   (dSeq (dSet 2 (dCB fInt (dCons (dIx (dIx (dVar 0) (dC (.int 0))) (dIx (dVar 0) (dC (.int 1)))) dNil)))
  (dSeq (dSetIx (dVar 0) (dC (.int 1)) (dBin aAdd (dIx (dVar 0) (dC (.int 1))) (dC (.int 1))))
  (dIf (dCmp cGe (dVar 2) (dBin aPow (dC (.int 10)) (dC (.int 18))))
   (dSetIx (dVar 0) (dC (.int 2)) (dVar 2))
   (dSetIx (dVar 0) (dC (.int 3)) (dBin aMod (dCB fInt (dCons (dBin aAdd (dBin aAdd (dBin aMul (dIx (dVar 0) (dC (.int 3))) (dC (.int 48271))) (dBin aMul (dVar 2) (dC (.int 69621)))) (dC (.int 11))) dNil)) (dC (.int 2147483647)))))))
   dNext)
  (dSeq (dIf (dCmp cGt (dIx (dVar 0) (dC (.int 2))) (dC (.int 1)))
   (dSeq (dSet 3 (dBin aMod (dCB fInt (dCons (dIx (dVar 0) (dC (.int 2))) dNil)) (dVar 1)))
  (dSeq (dSetIx (dVar 0) (dC (.int 2)) (dBin aDiv (dIx (dVar 0) (dC (.int 2))) (dVar 1)))
  (dRet (dVar 3))))
   dNext)
  (dSeq (dSetIx (dVar 0) (dC (.int 3)) (dBin aMod (dCB fInt (dCons (dBin aAdd (dBin aMul (dIx (dVar 0) (dC (.int 3))) (dC (.int 48271))) (dC (.int 12345))) dNil)) (dC (.int 2147483647))))
  (dRet (dBin aMod (dBin aDiv (dBin aMod (dCB fInt (dCons (dBin aMul (dIx (dVar 0) (dC (.int 3))) (dC (.int 69621))) dNil)) (dC (.int 2147483629))) (dC (.int 64))) (dVar 1))))))
theorem d__law_next {P : Program} {w : World} {K : PySem.W.Frag} {mg : Str → Option Value} {base : Heap} (T : Txt K mg) (f : Addr) (cdv : Value) (A : Around) (outer : List Env) (s : Shared) (H : Hp) (E : XK)
    (hr : Room 0 (A.deeper (envOfC "_law_next" (defScope s__law_next) s.heap.objs.size f cdv))) : SDs (cxOf CX0 P w K mg base N__law_next "_law_next" (defScope s__law_next) f cdv A outer s H E).nox (defBody s__law_next) (b__law_next) :=
  (sds_cons (sd_if (PDW.pt (pdw_and (pdt_cmp oc_le (pd_ix (pd_var 0) pd_int) pd_int) (pdw_and1 (pdt_cmp oc_lt (pd_ix (pd_var 0) pd_int) (pd_callB cd_len (by rfl) T.n_len PySem.boot_len (pda_cons (pd_ix (pd_var 0) pd_int) pda_nil))))))
   (sds_cons (sd_set (i := 2) sc__law_next.nd rfl (by first | exact Or.inl rfl | exact Or.inr rfl) (pd_callT cd_int (by rfl) T.n_int boot_int (pda_cons (pd_ix (pd_ix (pd_var 0) pd_int) (pd_ix (pd_var 0) pd_int)) pda_nil)))
  (sds_cons (sd_setIx (pd_var 0) pd_int (pd_op od_add (pd_ix (pd_var 0) pd_int) pd_int))
  (sds_one (sd_if (pdt_cmp oc_ge (pd_var 2) (pd_op od_pow pd_int pd_int))
   (sds_one (sd_setIx (pd_var 0) pd_int (pd_var 2)))
   (sds_one (sd_setIx (pd_var 0) pd_int (pd_op od_mod (pd_callT cd_int (by rfl) T.n_int boot_int (pda_cons (pd_op od_add (pd_op od_add (pd_op od_mul (pd_ix (pd_var 0) pd_int) pd_int) (pd_op od_mul (pd_var 2) pd_int)) pd_int) pda_nil)) pd_int)))))))
   sds_nil)
  (sds_cons (sd_if (pdt_cmp oc_gt (pd_ix (pd_var 0) pd_int) pd_int)
   (sds_cons (sd_set (i := 3) sc__law_next.nd rfl (by first | exact Or.inl rfl | exact Or.inr rfl) (pd_op od_mod (pd_callT cd_int (by rfl) T.n_int boot_int (pda_cons (pd_ix (pd_var 0) pd_int) pda_nil)) (pd_var 1)))
  (sds_cons (sd_setIx (pd_var 0) pd_int (pd_op od_div (pd_ix (pd_var 0) pd_int) (pd_var 1)))
  (sds_one (sd_ret (pd_var 3)))))
   sds_nil)
  (sds_cons (sd_setIx (pd_var 0) pd_int (pd_op od_mod (pd_callT cd_int (by rfl) T.n_int boot_int (pda_cons (pd_op od_add (pd_op od_mul (pd_ix (pd_var 0) pd_int) pd_int) pd_int) pda_nil)) pd_int))
  (sds_one (sd_ret (pd_op od_mod (pd_op od_div (pd_op od_mod (pd_callT cd_int (by rfl) T.n_int boot_int (pda_cons (pd_op od_mul (pd_ix (pd_var 0) pd_int) pd_int) pda_nil)) pd_int) pd_int) (pd_var 1)))))))
def N__law_pick : List Str := ["draw", "row"]
theorem sc__law_pick : FnScope N__law_pick ["draw", "row"] (defScope s__law_pick) := ⟨rfl, rfl, rfl, by decide +kernel, rfl, by decide +kernel, by decide +kernel⟩
def b__law_pick (sp__law_next : DSp) : DTS := (dRet (dIx (dVar 1) (dCall sp__law_next (dCons (dVar 0) (dCons (dCB fLen (dCons (dVar 1) dNil)) dNil)))))
theorem d__law_pick {P : Program} {w : World} {K : PySem.W.Frag} {mg : Str → Option Value} {base : Heap} {sp__law_next : DSp} (T : Txt K mg) (G__law_next : Ok P w K mg base "_law_next" 1 ["draw", "many"] sp__law_next) (f : Addr) (cdv : Value) (A : Around) (outer : List Env) (s : Shared) (H : Hp) (E : XK)
    (hr : Room 1 (A.deeper (envOfC "_law_pick" (defScope s__law_pick) s.heap.objs.size f cdv))) : SDs (cxOf CX0 P w K mg base N__law_pick "_law_pick" (defScope s__law_pick) f cdv A outer s H E).nox (defBody s__law_pick) (b__law_pick sp__law_next) :=
  (sds_one (sd_ret (pd_ix (pd_var 1) (pc_ok G__law_next hr (by rfl) (by decide) (pda_cons (pd_var 0) (pda_cons (pd_callB cd_len (by rfl) T.n_len PySem.boot_len (pda_cons (pd_var 1) pda_nil)) pda_nil))))))
def N__law_words : List Str := []
theorem sc__law_words : FnScope N__law_words [] (defScope s__law_words) := ⟨rfl, rfl, rfl, by decide +kernel, rfl, by decide +kernel, by decide +kernel⟩
def b__law_words : DTS := (dRet (dM mSplit (dC (.str "face use as open hiding kind def let in if then else case of end")) (dCons (dC (.str " ")) dNil)))
theorem d__law_words {P : Program} {w : World} {K : PySem.W.Frag} {mg : Str → Option Value} {base : Heap} (T : Txt K mg) (f : Addr) (cdv : Value) (A : Around) (outer : List Env) (s : Shared) (H : Hp) (E : XK)
    (hr : Room 0 (A.deeper (envOfC "_law_words" (defScope s__law_words) s.heap.objs.size f cdv))) : SDs (cxOf CX0 P w K mg base N__law_words "_law_words" (defScope s__law_words) f cdv A outer s H E).nox (defBody s__law_words) (b__law_words) :=
  (sds_one (sd_ret (pd_m1 PySem.F.slot_str_split PySem.F.type_str_split md_split pd_str pd_str)))
def N__law_signs : List Str := []
theorem sc__law_signs : FnScope N__law_signs [] (defScope s__law_signs) := ⟨rfl, rfl, rfl, by decide +kernel, rfl, by decide +kernel, by decide +kernel⟩
def b__law_signs : DTS := (dRet (dM mSplit (dC (.str "( ) , ; . : = | _ .. == ->")) (dCons (dC (.str " ")) dNil)))
theorem d__law_signs {P : Program} {w : World} {K : PySem.W.Frag} {mg : Str → Option Value} {base : Heap} (T : Txt K mg) (f : Addr) (cdv : Value) (A : Around) (outer : List Env) (s : Shared) (H : Hp) (E : XK)
    (hr : Room 0 (A.deeper (envOfC "_law_signs" (defScope s__law_signs) s.heap.objs.size f cdv))) : SDs (cxOf CX0 P w K mg base N__law_signs "_law_signs" (defScope s__law_signs) f cdv A outer s H E).nox (defBody s__law_signs) (b__law_signs) :=
  (sds_one (sd_ret (pd_m1 PySem.F.slot_str_split PySem.F.type_str_split md_split pd_str pd_str)))
def N__law_piece : List Str := ["draw", "kind"]
theorem sc__law_piece : FnScope N__law_piece ["draw"] (defScope s__law_piece) := ⟨rfl, rfl, rfl, by decide +kernel, rfl, by decide +kernel, by decide +kernel⟩
def b__law_piece (sp__law_next : DSp) (sp__law_pick : DSp) (sp__law_words : DSp) (sp__law_signs : DSp) : DTS := (dSeq (dSet 1 (dCall sp__law_next (dCons (dVar 0) (dCons (dC (.int 16)) dNil))))
  (dSeq (dIf (dCmp cLt (dVar 1) (dC (.int 3)))
   (dRet (dCall sp__law_pick (dCons (dVar 0) (dCons (dFr (dLstN (dCons (dC (.str "face")) (dCons (dC (.str "use")) (dCons (dC (.str "open")) (dCons (dC (.str "kind")) (dCons (dC (.str "def")) dNil))))))) dNil))))
   dNext)
  (dSeq (dIf (dCmp cLt (dVar 1) (dC (.int 6)))
   (dRet (dCall sp__law_pick (dCons (dVar 0) (dCons (dFr (dLstN (dCons (dC (.str ";")) (dCons (dC (.str ";")) (dCons (dC (.str ";;")) (dCons (dC (.str "; ;")) (dCons (dC (.str ";=")) dNil))))))) dNil))))
   dNext)
  (dSeq (dIf (dCmp (cEq false) (dVar 1) (dC (.int 6)))
   (dRet (dCall sp__law_pick (dCons (dVar 0) (dCons (dCall sp__law_words dNil) dNil))))
   dNext)
  (dSeq (dIf (dCmp (cEq false) (dVar 1) (dC (.int 7)))
   (dRet (dCall sp__law_pick (dCons (dVar 0) (dCons (dFr (dLstN (dCons (dC (.str "faces")) (dCons (dC (.str "user")) (dCons (dC (.str "Open")) (dCons (dC (.str "kinda")) (dCons (dC (.str "def_")) (dCons (dC (.str "def1")) (dCons (dC (.str "xdef")) (dCons (dC (.str "_use")) (dCons (dC (.str "1def")) (dCons (dC (.str "Kind")) dNil)))))))))))) dNil))))
   dNext)
  (dSeq (dIf (dCmp cLt (dVar 1) (dC (.int 10)))
   (dRet (dCall sp__law_pick (dCons (dVar 0) (dCons (dCall sp__law_signs dNil) dNil))))
   dNext)
  (dSeq (dIf (dCmp (cEq false) (dVar 1) (dC (.int 10)))
   (dRet (dCall sp__law_pick (dCons (dVar 0) (dCons (dFr (dLstN (dCons (dC (.str "x")) (dCons (dC (.str "A")) (dCons (dC (.str "a1_B")) (dCons (dC (.str "Zz9")) dNil)))))) dNil))))
   dNext)
  (dSeq (dIf (dCmp (cEq false) (dVar 1) (dC (.int 11)))
   (dRet (dCall sp__law_pick (dCons (dVar 0) (dCons (dFr (dLstN (dCons (dC (.str "#;")) (dCons (dC (.str "# def f = a;")) (dCons (dC (.str "#")) (dCons (dC (.str "# use")) (dCons (dC (.str "## ; face")) (dCons (dC (.str "#\n;")) (dCons (dC (.str "# ;\ndef")) dNil))))))))) dNil))))
   dNext)
  (dSeq (dIf (dCmp (cEq false) (dVar 1) (dC (.int 12)))
   (dRet (dBin aAdd (dCall sp__law_pick (dCons (dVar 0) (dCons (dFr (dLstN (dCons (dC (.str "@")) (dCons (dC (.str "7")) (dCons (dC (.str "__")) (dCons (dC (.str "-")) (dCons (dC (.str ">")) (dCons (dC (.str "\"")) (dCons (dC (.str "!")) dNil))))))))) dNil))) (dCall sp__law_pick (dCons (dVar 0) (dCons (dC (.str "@$&'*+/<?[\\]^`{}~   ")) dNil)))))
   dNext)
  (dRet (dIfE (dCmp cLt (dVar 1) (dC (.int 15))) (dC (.str "\n")) (dC (.str "  ")))))))))))))
theorem d__law_piece {P : Program} {w : World} {K : PySem.W.Frag} {mg : Str → Option Value} {base : Heap} {sp__law_next : DSp} {sp__law_pick : DSp} {sp__law_words : DSp} {sp__law_signs : DSp} (T : Txt K mg) (G__law_next : Ok P w K mg base "_law_next" 1 ["draw", "many"] sp__law_next) (G__law_pick : Ok P w K mg base "_law_pick" 2 ["draw", "row"] sp__law_pick) (G__law_words : Ok P w K mg base "_law_words" 1 [] sp__law_words) (G__law_signs : Ok P w K mg base "_law_signs" 1 [] sp__law_signs) (f : Addr) (cdv : Value) (A : Around) (outer : List Env) (s : Shared) (H : Hp) (E : XK)
    (hr : Room 2 (A.deeper (envOfC "_law_piece" (defScope s__law_piece) s.heap.objs.size f cdv))) : SDs (cxOf CX0 P w K mg base N__law_piece "_law_piece" (defScope s__law_piece) f cdv A outer s H E).nox (defBody s__law_piece) (b__law_piece sp__law_next sp__law_pick sp__law_words sp__law_signs) :=
  (sds_cons (sd_set (i := 1) sc__law_piece.nd rfl (by first | exact Or.inl rfl | exact Or.inr rfl) (pc_ok G__law_next hr (by rfl) (by decide) (pda_cons (pd_var 0) (pda_cons pd_int pda_nil))))
  (sds_cons (sd_if (pdt_cmp oc_lt (pd_var 1) pd_int)
   (sds_one (sd_ret (pc_ok G__law_pick hr (by rfl) (by decide) (pda_cons (pd_var 0) (pda_cons (pd_new (pdn_lst (pda_cons pd_str (pda_cons pd_str (pda_cons pd_str (pda_cons pd_str (pda_cons pd_str pda_nil))))))) pda_nil)))))
   sds_nil)
  (sds_cons (sd_if (pdt_cmp oc_lt (pd_var 1) pd_int)
   (sds_one (sd_ret (pc_ok G__law_pick hr (by rfl) (by decide) (pda_cons (pd_var 0) (pda_cons (pd_new (pdn_lst (pda_cons pd_str (pda_cons pd_str (pda_cons pd_str (pda_cons pd_str (pda_cons pd_str pda_nil))))))) pda_nil)))))
   sds_nil)
  (sds_cons (sd_if (pdt_cmp (oc_eq hr.units) (pd_var 1) pd_int)
   (sds_one (sd_ret (pc_ok G__law_pick hr (by rfl) (by decide) (pda_cons (pd_var 0) (pda_cons (pc_ok0 G__law_words hr (by rfl) (by decide)) pda_nil)))))
   sds_nil)
  (sds_cons (sd_if (pdt_cmp (oc_eq hr.units) (pd_var 1) pd_int)
   (sds_one (sd_ret (pc_ok G__law_pick hr (by rfl) (by decide) (pda_cons (pd_var 0) (pda_cons (pd_new (pdn_lst (pda_cons pd_str (pda_cons pd_str (pda_cons pd_str (pda_cons pd_str (pda_cons pd_str (pda_cons pd_str (pda_cons pd_str (pda_cons pd_str (pda_cons pd_str (pda_cons pd_str pda_nil)))))))))))) pda_nil)))))
   sds_nil)
  (sds_cons (sd_if (pdt_cmp oc_lt (pd_var 1) pd_int)
   (sds_one (sd_ret (pc_ok G__law_pick hr (by rfl) (by decide) (pda_cons (pd_var 0) (pda_cons (pc_ok0 G__law_signs hr (by rfl) (by decide)) pda_nil)))))
   sds_nil)
  (sds_cons (sd_if (pdt_cmp (oc_eq hr.units) (pd_var 1) pd_int)
   (sds_one (sd_ret (pc_ok G__law_pick hr (by rfl) (by decide) (pda_cons (pd_var 0) (pda_cons (pd_new (pdn_lst (pda_cons pd_str (pda_cons pd_str (pda_cons pd_str (pda_cons pd_str pda_nil)))))) pda_nil)))))
   sds_nil)
  (sds_cons (sd_if (pdt_cmp (oc_eq hr.units) (pd_var 1) pd_int)
   (sds_one (sd_ret (pc_ok G__law_pick hr (by rfl) (by decide) (pda_cons (pd_var 0) (pda_cons (pd_new (pdn_lst (pda_cons pd_str (pda_cons pd_str (pda_cons pd_str (pda_cons pd_str (pda_cons pd_str (pda_cons pd_str (pda_cons pd_str pda_nil))))))))) pda_nil)))))
   sds_nil)
  (sds_cons (sd_if (pdt_cmp (oc_eq hr.units) (pd_var 1) pd_int)
   (sds_one (sd_ret (pd_op od_add (pc_ok G__law_pick hr (by rfl) (by decide) (pda_cons (pd_var 0) (pda_cons (pd_new (pdn_lst (pda_cons pd_str (pda_cons pd_str (pda_cons pd_str (pda_cons pd_str (pda_cons pd_str (pda_cons pd_str (pda_cons pd_str pda_nil))))))))) pda_nil))) (pc_ok G__law_pick hr (by rfl) (by decide) (pda_cons (pd_var 0) (pda_cons pd_str pda_nil))))))
   sds_nil)
  (sds_one (sd_ret (pd_if (pdt_cmp oc_lt (pd_var 1) pd_int) pd_str pd_str))))))))))))
def N__law_text : List Str := ["draw", "many", "parts", "k"]
theorem sc__law_text : FnScope N__law_text ["draw", "many"] (defScope s__law_text) := ⟨rfl, rfl, rfl, by decide +kernel, rfl, by decide +kernel, by decide +kernel⟩
def b__law_text (sp__law_piece : DSp) (sp__law_next : DSp) (sp__law_pick : DSp) : DTS := (dSeq (dSetN 2 (dLstN dNil))
  (dSeq (dFor (dRng1 (dCons (dVar 1) dNil)) (dgName 3)
   (dSeq (dDrop (dApp (dVar 2) (dCall sp__law_piece (dCons (dVar 0) dNil))))
  (dIf (dCmp cGt (dCall sp__law_next (dCons (dVar 0) (dCons (dC (.int 4)) dNil))) (dC (.int 0)))
   (dDrop (dApp (dVar 2) (dCall sp__law_pick (dCons (dVar 0) (dCons (dFr (dLstN (dCons (dC (.str " ")) (dCons (dC (.str " ")) (dCons (dC (.str "\n")) dNil))))) dNil)))))
   dNext)))
  (dRet (dM mJoin (dC (.str "")) (dCons (dVar 2) dNil)))))
theorem d__law_text {P : Program} {w : World} {K : PySem.W.Frag} {mg : Str → Option Value} {base : Heap} {sp__law_piece : DSp} {sp__law_next : DSp} {sp__law_pick : DSp} (T : Txt K mg) (G__law_piece : Ok P w K mg base "_law_piece" 3 ["draw"] sp__law_piece) (G__law_next : Ok P w K mg base "_law_next" 1 ["draw", "many"] sp__law_next) (G__law_pick : Ok P w K mg base "_law_pick" 2 ["draw", "row"] sp__law_pick) (f : Addr) (cdv : Value) (A : Around) (outer : List Env) (s : Shared) (H : Hp) (E : XK)
    (hr : Room 3 (A.deeper (envOfC "_law_text" (defScope s__law_text) s.heap.objs.size f cdv))) : SDs (cxOf CX0 P w K mg base N__law_text "_law_text" (defScope s__law_text) f cdv A outer s H E).nox (defBody s__law_text) (b__law_text sp__law_piece sp__law_next sp__law_pick) :=
  (sds_cons (sd_setNew (i := 2) sc__law_text.nd rfl (by first | exact Or.inl rfl | exact Or.inr rfl) (pdn_lst pda_nil))
  (sds_cons (sd_for PassesOwn.never rfl (pdi_range1 (by rfl) T.n_range (pda_cons (pd_var 1) pda_nil)) (pdg_name (i := 3) sc__law_text.nd rfl (by first | exact Or.inl rfl | exact Or.inr rfl))
   (sds_cons (sd_expr (pd_append (pd_var 2) (pc_ok G__law_piece hr (by rfl) (by decide) (pda_cons (pd_var 0) pda_nil))))
  (sds_one (sd_if (pdt_cmp oc_gt (pc_ok G__law_next hr (by rfl) (by decide) (pda_cons (pd_var 0) (pda_cons pd_int pda_nil))) pd_int)
   (sds_one (sd_expr (pd_append (pd_var 2) (pc_ok G__law_pick hr (by rfl) (by decide) (pda_cons (pd_var 0) (pda_cons (pd_new (pdn_lst (pda_cons pd_str (pda_cons pd_str (pda_cons pd_str pda_nil))))) pda_nil))))))
   sds_nil))))
  (sds_one (sd_ret (pd_m1 PySem.F.slot_str_join PySem.F.type_str_join md_join pd_str (pd_var 2))))))
def N__law_more : List Str := []
theorem sc__law_more : FnScope N__law_more [] (defScope s__law_more) := ⟨rfl, rfl, rfl, by decide +kernel, rfl, by decide +kernel, by decide +kernel⟩
def b__law_more : DTS := (dRet (dC (.str "abcdefghijklmnopqrstuvwxyzABCDEFGHIJKLMNOPQRSTUVWXYZ0123456789_")))
theorem d__law_more {P : Program} {w : World} {K : PySem.W.Frag} {mg : Str → Option Value} {base : Heap} (T : Txt K mg) (f : Addr) (cdv : Value) (A : Around) (outer : List Env) (s : Shared) (H : Hp) (E : XK)
    (hr : Room 0 (A.deeper (envOfC "_law_more" (defScope s__law_more) s.heap.objs.size f cdv))) : SDs (cxOf CX0 P w K mg base N__law_more "_law_more" (defScope s__law_more) f cdv A outer s H E).nox (defBody s__law_more) (b__law_more) :=
  (sds_one (sd_ret pd_str))
def N__law_small : List Str := []
theorem sc__law_small : FnScope N__law_small [] (defScope s__law_small) := ⟨rfl, rfl, rfl, by decide +kernel, rfl, by decide +kernel, by decide +kernel⟩
def b__law_small : DTS := (dRet (dC (.str "abcdefghijklmnopqrstuvwxyz")))
theorem d__law_small {P : Program} {w : World} {K : PySem.W.Frag} {mg : Str → Option Value} {base : Heap} (T : Txt K mg) (f : Addr) (cdv : Value) (A : Around) (outer : List Env) (s : Shared) (H : Hp) (E : XK)
    (hr : Room 0 (A.deeper (envOfC "_law_small" (defScope s__law_small) s.heap.objs.size f cdv))) : SDs (cxOf CX0 P w K mg base N__law_small "_law_small" (defScope s__law_small) f cdv A outer s H E).nox (defBody s__law_small) (b__law_small) :=
  (sds_one (sd_ret pd_str))
def N__law_lexed : List Str := ["line", "rows", "words", "signs", "more", "at", "k", "end", "sort", "spot"]
theorem sc__law_lexed : FnScope N__law_lexed ["line"] (defScope s__law_lexed) := ⟨rfl, rfl, rfl, by decide +kernel, rfl, by decide +kernel, by decide +kernel⟩
def b__law_lexed (sp__law_words : DSp) (sp__law_signs : DSp) (sp__law_more : DSp) (sp__law_small : DSp) : DTS := (dSeq (dSetN 1 (dLstN dNil))
  (dSeq (dSet 2 (dCall sp__law_words dNil))
  (dSeq (dSet 3 (dCall sp__law_signs dNil))
  (dSeq (dSet 4 (dCall sp__law_more dNil))
  (dSeq (dSet 5 (dC (.int 0)))
  (dSeq (dFor (dRng1 (dCons (dCB fLen (dCons (dVar 0) dNil)) dNil)) (dgName 6)
   (dSeq (dIf (dCmp cGe (dVar 5) (dCB fLen (dCons (dVar 0) dNil)))
   dBreak
   dNext)
  (dSeq (dIf (dCmp (cEq false) (dIx (dVar 0) (dVar 5)) (dC (.str " ")))
   (dSeq (dSet 5 (dBin aAdd (dVar 5) (dC (.int 1))))
  dCont)
   dNext)
  (dSeq (dSet 7 (dBin aAdd (dVar 5) (dC (.int 1))))
  (dSeq (dIf (dCmp (cEq false) (dIx (dVar 0) (dVar 5)) (dC (.str "#")))
   (dSeq (dSet 7 (dCB fLen (dCons (dVar 0) dNil)))
  (dSet 8 (dC (.str "remark"))))
   (dIf (dCmp (cIn false) (dIx (dVar 0) (dVar 5)) (dVar 4))
   (dSeq (dFor (dRng2 (dCons (dBin aAdd (dVar 5) (dC (.int 1))) (dCons (dCB fLen (dCons (dVar 0) dNil)) dNil))) (dgName 9)
   (dSeq (dIf (dCmp (cIn true) (dIx (dVar 0) (dVar 9)) (dVar 4))
   dBreak
   dNext)
  (dSet 7 (dBin aAdd (dVar 9) (dC (.int 1))))))
  (dSeq (dSet 8 (dIfE (dCmp cLt (dM mIndex (dVar 4) (dCons (dIx (dVar 0) (dVar 5)) dNil)) (dC (.int 52))) (dC (.str "Name")) (dC (.str "wrong"))))
  (dSeq (dIf (dCmp (cIn false) (dIx (dVar 0) (dVar 5)) (dCall sp__law_small dNil))
   (dSet 8 (dIfE (dCmp (cIn false) (dSl (dVar 0) (doSome (dVar 5)) (doSome (dVar 7))) (dVar 2)) (dC (.str "word")) (dC (.str "name"))))
   dNext)
  (dIf (dCmp (cEq false) (dSl (dVar 0) (doSome (dVar 5)) (doSome (dVar 7))) (dC (.str "_")))
   (dSet 8 (dC (.str "sign")))
   dNext))))
   (dSeq (dIf (dAnd (dCmp (cIn false) (dSl (dVar 0) (doSome (dVar 5)) (doSome (dBin aAdd (dVar 5) (dC (.int 2))))) (dVar 3)) (dCmp cLe (dBin aAdd (dVar 5) (dC (.int 2))) (dCB fLen (dCons (dVar 0) dNil))))
   (dSet 7 (dBin aAdd (dVar 5) (dC (.int 2))))
   dNext)
  (dSet 8 (dIfE (dCmp (cIn false) (dSl (dVar 0) (doSome (dVar 5)) (doSome (dVar 7))) (dVar 3)) (dC (.str "sign")) (dC (.str "wrong")))))))
  (dSeq (dDrop (dApp (dVar 1) (dTup (dCons (dVar 5) (dCons (dVar 8) (dCons (dSl (dVar 0) (doSome (dVar 5)) (doSome (dVar 7))) dNil))))))
  (dSet 5 (dVar 7))))))))
  (dRet (dVar 1))))))))
theorem d__law_lexed {P : Program} {w : World} {K : PySem.W.Frag} {mg : Str → Option Value} {base : Heap} {sp__law_words : DSp} {sp__law_signs : DSp} {sp__law_more : DSp} {sp__law_small : DSp} (T : Txt K mg) (G__law_words : Ok P w K mg base "_law_words" 1 [] sp__law_words) (G__law_signs : Ok P w K mg base "_law_signs" 1 [] sp__law_signs) (G__law_more : Ok P w K mg base "_law_more" 1 [] sp__law_more) (G__law_small : Ok P w K mg base "_law_small" 1 [] sp__law_small) (f : Addr) (cdv : Value) (A : Around) (outer : List Env) (s : Shared) (H : Hp) (E : XK)
    (hr : Room 1 (A.deeper (envOfC "_law_lexed" (defScope s__law_lexed) s.heap.objs.size f cdv))) : SDs (cxOf CX0 P w K mg base N__law_lexed "_law_lexed" (defScope s__law_lexed) f cdv A outer s H E).nox (defBody s__law_lexed) (b__law_lexed sp__law_words sp__law_signs sp__law_more sp__law_small) :=
  (sds_cons (sd_setNew (i := 1) sc__law_lexed.nd rfl (by first | exact Or.inl rfl | exact Or.inr rfl) (pdn_lst pda_nil))
  (sds_cons (sd_set (i := 2) sc__law_lexed.nd rfl (by first | exact Or.inl rfl | exact Or.inr rfl) (pc_ok0 G__law_words hr (by rfl) (by decide)))
  (sds_cons (sd_set (i := 3) sc__law_lexed.nd rfl (by first | exact Or.inl rfl | exact Or.inr rfl) (pc_ok0 G__law_signs hr (by rfl) (by decide)))
  (sds_cons (sd_set (i := 4) sc__law_lexed.nd rfl (by first | exact Or.inl rfl | exact Or.inr rfl) (pc_ok0 G__law_more hr (by rfl) (by decide)))
  (sds_cons (sd_set (i := 5) sc__law_lexed.nd rfl (by first | exact Or.inl rfl | exact Or.inr rfl) pd_int)
  (sds_cons (sd_for PassesOwn.never rfl (pdi_range1 (by rfl) T.n_range (pda_cons (pd_callB cd_len (by rfl) T.n_len PySem.boot_len (pda_cons (pd_var 0) pda_nil)) pda_nil)) (pdg_name (i := 6) sc__law_lexed.nd rfl (by first | exact Or.inl rfl | exact Or.inr rfl))
   (sds_cons (sd_if (pdt_cmp oc_ge (pd_var 5) (pd_callB cd_len (by rfl) T.n_len PySem.boot_len (pda_cons (pd_var 0) pda_nil)))
   (sds_one sd_break)
   sds_nil)
  (sds_cons (sd_if (pdt_cmp (oc_eq hr.units) (pd_ix (pd_var 0) (pd_var 5)) pd_str)
   (sds_cons (sd_set (i := 5) sc__law_lexed.nd rfl (by first | exact Or.inl rfl | exact Or.inr rfl) (pd_op od_add (pd_var 5) pd_int))
  (sds_one sd_continue))
   sds_nil)
  (sds_cons (sd_set (i := 7) sc__law_lexed.nd rfl (by first | exact Or.inl rfl | exact Or.inr rfl) (pd_op od_add (pd_var 5) pd_int))
  (sds_cons (sd_if (pdt_cmp (oc_eq hr.units) (pd_ix (pd_var 0) (pd_var 5)) pd_str)
   (sds_cons (sd_set (i := 7) sc__law_lexed.nd rfl (by first | exact Or.inl rfl | exact Or.inr rfl) (pd_callB cd_len (by rfl) T.n_len PySem.boot_len (pda_cons (pd_var 0) pda_nil)))
  (sds_one (sd_set (i := 8) sc__law_lexed.nd rfl (by first | exact Or.inl rfl | exact Or.inr rfl) pd_str)))
   (sds_one (sd_if (pdt_cmp oc_in (pd_ix (pd_var 0) (pd_var 5)) (pd_var 4))
   (sds_cons (sd_for PassesOwn.never rfl (pdi_range2 (by rfl) T.n_range (pda_cons (pd_op od_add (pd_var 5) pd_int) (pda_cons (pd_callB cd_len (by rfl) T.n_len PySem.boot_len (pda_cons (pd_var 0) pda_nil)) pda_nil))) (pdg_name (i := 9) sc__law_lexed.nd rfl (by first | exact Or.inl rfl | exact Or.inr rfl))
   (sds_cons (sd_if (pdt_cmp oc_notIn (pd_ix (pd_var 0) (pd_var 9)) (pd_var 4))
   (sds_one sd_break)
   sds_nil)
  (sds_one (sd_set (i := 7) sc__law_lexed.nd rfl (by first | exact Or.inl rfl | exact Or.inr rfl) (pd_op od_add (pd_var 9) pd_int)))))
  (sds_cons (sd_set (i := 8) sc__law_lexed.nd rfl (by first | exact Or.inl rfl | exact Or.inr rfl) (pd_if (pdt_cmp oc_lt (pd_m1 PySem.F.slot_str_index PySem.F.type_str_index (md_index rfl) (pd_var 4) (pd_ix (pd_var 0) (pd_var 5))) pd_int) pd_str pd_str))
  (sds_cons (sd_if (pdt_cmp oc_in (pd_ix (pd_var 0) (pd_var 5)) (pc_ok0 G__law_small hr (by rfl) (by decide)))
   (sds_one (sd_set (i := 8) sc__law_lexed.nd rfl (by first | exact Or.inl rfl | exact Or.inr rfl) (pd_if (pdt_cmp oc_in (pd_slice (pd_var 0) (pdo_some (pd_var 5)) (pdo_some (pd_var 7))) (pd_var 2)) pd_str pd_str)))
   sds_nil)
  (sds_one (sd_if (pdt_cmp (oc_eq hr.units) (pd_slice (pd_var 0) (pdo_some (pd_var 5)) (pdo_some (pd_var 7))) pd_str)
   (sds_one (sd_set (i := 8) sc__law_lexed.nd rfl (by first | exact Or.inl rfl | exact Or.inr rfl) pd_str))
   sds_nil)))))
   (sds_cons (sd_if (PDW.pt (pdw_and (pdt_cmp oc_in (pd_slice (pd_var 0) (pdo_some (pd_var 5)) (pdo_some (pd_op od_add (pd_var 5) pd_int))) (pd_var 3)) (pdw_and1 (pdt_cmp oc_le (pd_op od_add (pd_var 5) pd_int) (pd_callB cd_len (by rfl) T.n_len PySem.boot_len (pda_cons (pd_var 0) pda_nil))))))
   (sds_one (sd_set (i := 7) sc__law_lexed.nd rfl (by first | exact Or.inl rfl | exact Or.inr rfl) (pd_op od_add (pd_var 5) pd_int)))
   sds_nil)
  (sds_one (sd_set (i := 8) sc__law_lexed.nd rfl (by first | exact Or.inl rfl | exact Or.inr rfl) (pd_if (pdt_cmp oc_in (pd_slice (pd_var 0) (pdo_some (pd_var 5)) (pdo_some (pd_var 7))) (pd_var 3)) pd_str pd_str)))))))
  (sds_cons (sd_expr (pd_append (pd_var 1) (pd_tup (pda_cons (pd_var 5) (pda_cons (pd_var 8) (pda_cons (pd_slice (pd_var 0) (pdo_some (pd_var 5)) (pdo_some (pd_var 7))) pda_nil))))))
  (sds_one (sd_set (i := 5) sc__law_lexed.nd rfl (by first | exact Or.inl rfl | exact Or.inr rfl) (pd_var 7)))))))))
  (sds_one (sd_ret (pd_var 1)))))))))
def N__law_cut : List Str := ["said", "rows", "row", "part", "token"]
theorem sc__law_cut : FnScope N__law_cut ["said"] (defScope s__law_cut) := ⟨rfl, rfl, rfl, by decide +kernel, rfl, by decide +kernel, by decide +kernel⟩
def b__law_cut (sp__law_lexed : DSp) : DTS := (dSeq (dSetN 1 (dLstN dNil))
  (dSeq (dSetN 2 (dLstN dNil))
  (dSeq (dFor (dIterE (dM mSplit (dVar 0) (dCons (dC (.str "\n")) dNil))) (dgName 3)
   (dFor (dIterE (dCall sp__law_lexed (dCons (dVar 3) dNil))) (dgName 4)
   (dSeq (dIf (dCmp (cEq false) (dIx (dVar 4) (dC (.int 1))) (dC (.str "remark")))
   dCont
   dNext)
  (dSeq (dIf (dAnd (dCmp (cEq false) (dIx (dVar 4) (dC (.int 1))) (dC (.str "word"))) (dAnd (dCmp (cIn false) (dIx (dVar 4) (dC (.int 2))) (dFr (dLstN (dCons (dC (.str "face")) (dCons (dC (.str "use")) (dCons (dC (.str "open")) (dCons (dC (.str "kind")) (dCons (dC (.str "def")) dNil)))))))) (dCmp cGt (dCB fLen (dCons (dVar 2) dNil)) (dC (.int 0)))))
   (dSeq (dDrop (dApp (dVar 1) (dCB fTuple (dCons (dVar 2) dNil))))
  (dSetN 2 (dLstN dNil)))
   dNext)
  (dSeq (dDrop (dApp (dVar 2) (dTup (dCons (dIx (dVar 4) (dC (.int 1))) (dCons (dIx (dVar 4) (dC (.int 2))) dNil)))))
  (dIf (dAnd (dCmp (cEq false) (dIx (dVar 4) (dC (.int 1))) (dC (.str "sign"))) (dCmp (cEq false) (dIx (dVar 4) (dC (.int 2))) (dC (.str ";"))))
   (dSeq (dDrop (dApp (dVar 1) (dCB fTuple (dCons (dVar 2) dNil))))
  (dSetN 2 (dLstN dNil)))
   dNext))))))
  (dSeq (dIf (dCmp cGt (dCB fLen (dCons (dVar 2) dNil)) (dC (.int 0)))
   (dDrop (dApp (dVar 1) (dCB fTuple (dCons (dVar 2) dNil))))
   dNext)
  (dRet (dCB fTuple (dCons (dVar 1) dNil)))))))
theorem d__law_cut {P : Program} {w : World} {K : PySem.W.Frag} {mg : Str → Option Value} {base : Heap} {sp__law_lexed : DSp} (T : Txt K mg) (G__law_lexed : Ok P w K mg base "_law_lexed" 2 ["line"] sp__law_lexed) (f : Addr) (cdv : Value) (A : Around) (outer : List Env) (s : Shared) (H : Hp) (E : XK)
    (hr : Room 2 (A.deeper (envOfC "_law_cut" (defScope s__law_cut) s.heap.objs.size f cdv))) : SDs (cxOf CX0 P w K mg base N__law_cut "_law_cut" (defScope s__law_cut) f cdv A outer s H E).nox (defBody s__law_cut) (b__law_cut sp__law_lexed) :=
  (sds_cons (sd_setNew (i := 1) sc__law_cut.nd rfl (by first | exact Or.inl rfl | exact Or.inr rfl) (pdn_lst pda_nil))
  (sds_cons (sd_setNew (i := 2) sc__law_cut.nd rfl (by first | exact Or.inl rfl | exact Or.inr rfl) (pdn_lst pda_nil))
  (sds_cons (sd_for PassesOwn.never rfl (pdi_e (pd_m1 PySem.F.slot_str_split PySem.F.type_str_split md_split (pd_var 0) pd_str)) (pdg_name (i := 3) sc__law_cut.nd rfl (by first | exact Or.inl rfl | exact Or.inr rfl))
   (sds_one (sd_for PassesOwn.never rfl (pdi_e (pc_ok G__law_lexed hr (by rfl) (by decide) (pda_cons (pd_var 3) pda_nil))) (pdg_name (i := 4) sc__law_cut.nd rfl (by first | exact Or.inl rfl | exact Or.inr rfl))
   (sds_cons (sd_if (pdt_cmp (oc_eq hr.units) (pd_ix (pd_var 4) pd_int) pd_str)
   (sds_one sd_continue)
   sds_nil)
  (sds_cons (sd_if (PDW.pt (pdw_and (pdt_cmp (oc_eq hr.units) (pd_ix (pd_var 4) pd_int) pd_str) (pdw_and (pdt_cmp oc_in (pd_ix (pd_var 4) pd_int) (pd_new (pdn_lst (pda_cons pd_str (pda_cons pd_str (pda_cons pd_str (pda_cons pd_str (pda_cons pd_str pda_nil)))))))) (pdw_and1 (pdt_cmp oc_gt (pd_callB cd_len (by rfl) T.n_len PySem.boot_len (pda_cons (pd_var 2) pda_nil)) pd_int)))))
   (sds_cons (sd_expr (pd_append (pd_var 1) (pd_callT cd_tuple (by rfl) T.n_tuple boot_tuple (pda_cons (pd_var 2) pda_nil))))
  (sds_one (sd_setNew (i := 2) sc__law_cut.nd rfl (by first | exact Or.inl rfl | exact Or.inr rfl) (pdn_lst pda_nil))))
   sds_nil)
  (sds_cons (sd_expr (pd_append (pd_var 2) (pd_tup (pda_cons (pd_ix (pd_var 4) pd_int) (pda_cons (pd_ix (pd_var 4) pd_int) pda_nil)))))
  (sds_one (sd_if (PDW.pt (pdw_and (pdt_cmp (oc_eq hr.units) (pd_ix (pd_var 4) pd_int) pd_str) (pdw_and1 (pdt_cmp (oc_eq hr.units) (pd_ix (pd_var 4) pd_int) pd_str))))
   (sds_cons (sd_expr (pd_append (pd_var 1) (pd_callT cd_tuple (by rfl) T.n_tuple boot_tuple (pda_cons (pd_var 2) pda_nil))))
  (sds_one (sd_setNew (i := 2) sc__law_cut.nd rfl (by first | exact Or.inl rfl | exact Or.inr rfl) (pdn_lst pda_nil))))
   sds_nil))))))))
  (sds_cons (sd_if (pdt_cmp oc_gt (pd_callB cd_len (by rfl) T.n_len PySem.boot_len (pda_cons (pd_var 2) pda_nil)) pd_int)
   (sds_one (sd_expr (pd_append (pd_var 1) (pd_callT cd_tuple (by rfl) T.n_tuple boot_tuple (pda_cons (pd_var 2) pda_nil)))))
   sds_nil)
  (sds_one (sd_ret (pd_callT cd_tuple (by rfl) T.n_tuple boot_tuple (pda_cons (pd_var 1) pda_nil))))))))
def N__law_right : List Str := ["told", "due", "k"]
theorem sc__law_right : FnScope N__law_right ["told", "due"] (defScope s__law_right) := ⟨rfl, rfl, rfl, by decide +kernel, rfl, by decide +kernel, by decide +kernel⟩
def b__law_right : DTS := (dSeq (dIf (dOr (dNot (dTru (dIsi "tuple" (dVar 0)))) (dCmp (cEq true) (dCB fLen (dCons (dVar 0) dNil)) (dCB fLen (dCons (dVar 1) dNil))))
   (dRet (dC (.bool false)))
   dNext)
  (dSeq (dFor (dRng1 (dCons (dCB fLen (dCons (dVar 1) dNil)) dNil)) (dgName 2)
   (dIf (dOr (dNot (dTru (dIsi "tuple" (dIx (dVar 0) (dVar 2))))) (dOr (dCmp (cEq false) (dCB fLen (dCons (dIx (dVar 0) (dVar 2)) dNil)) (dC (.int 0))) (dCmp (cEq true) (dIx (dVar 0) (dVar 2)) (dIx (dVar 1) (dVar 2)))))
   (dRet (dC (.bool false)))
   dNext))
  (dRet (dC (.bool true)))))
theorem d__law_right {P : Program} {w : World} {K : PySem.W.Frag} {mg : Str → Option Value} {base : Heap} (T : Txt K mg) (f : Addr) (cdv : Value) (A : Around) (outer : List Env) (s : Shared) (H : Hp) (E : XK)
    (hr : Room 0 (A.deeper (envOfC "_law_right" (defScope s__law_right) s.heap.objs.size f cdv))) : SDs (cxOf CX0 P w K mg base N__law_right "_law_right" (defScope s__law_right) f cdv A outer s H E).nox (defBody s__law_right) (b__law_right) :=
  (sds_cons (sd_if (PDW.pt (pdw_or (pdt_not (pdt_tru (pd_isi (by rfl) T.n_isinstance (by rfl) T.n_tuple (by decide +kernel) (pd_var 0)))) (pdw_or1 (pdt_cmp (oc_ne hr.units) (pd_callB cd_len (by rfl) T.n_len PySem.boot_len (pda_cons (pd_var 0) pda_nil)) (pd_callB cd_len (by rfl) T.n_len PySem.boot_len (pda_cons (pd_var 1) pda_nil))))))
   (sds_one (sd_ret pd_bl))
   sds_nil)
  (sds_cons (sd_for PassesOwn.never rfl (pdi_range1 (by rfl) T.n_range (pda_cons (pd_callB cd_len (by rfl) T.n_len PySem.boot_len (pda_cons (pd_var 1) pda_nil)) pda_nil)) (pdg_name (i := 2) sc__law_right.nd rfl (by first | exact Or.inl rfl | exact Or.inr rfl))
   (sds_one (sd_if (PDW.pt (pdw_or (pdt_not (pdt_tru (pd_isi (by rfl) T.n_isinstance (by rfl) T.n_tuple (by decide +kernel) (pd_ix (pd_var 0) (pd_var 2))))) (pdw_or (pdt_cmp (oc_eq hr.units) (pd_callB cd_len (by rfl) T.n_len PySem.boot_len (pda_cons (pd_ix (pd_var 0) (pd_var 2)) pda_nil)) pd_int) (pdw_or1 (pdt_cmp (oc_ne hr.units) (pd_ix (pd_var 0) (pd_var 2)) (pd_ix (pd_var 1) (pd_var 2)))))))
   (sds_one (sd_ret pd_bl))
   sds_nil)))
  (sds_one (sd_ret pd_bl))))
def N_cut : List Str := ["kept", "found", "row", "token"]
theorem sc_cut : FnScope N_cut ["kept"] (defScope s_cut) := ⟨rfl, rfl, rfl, by decide +kernel, rfl, by decide +kernel, by decide +kernel⟩
def b_cut : DTS := (dSeq (dSetN 1 (dLstN dNil))
  (dSeq (dSetN 2 (dLstN dNil))
  (dSeq (dFor (dIterE (dVar 0)) (dgName 3)
   (dSeq (dIf (dAnd (dTru (dVar 2)) (dAnd (dCmp (cEq false) (dIx (dVar 3) (dC (.int 0))) (dC (.str "word"))) (dCmp (cIn false) (dIx (dVar 3) (dC (.int 1))) (dC k_ITEM_WORDS))))
   (dSeq (dDrop (dApp (dVar 1) (dCB fTuple (dCons (dVar 2) dNil))))
  (dSetN 2 (dLstN dNil)))
   dNext)
  (dSeq (dDrop (dApp (dVar 2) (dVar 3)))
  (dIf (dCmp (cEq false) (dVar 3) (dTup (dCons (dC (.str "sign")) (dCons (dC (.str ";")) dNil))))
   (dSeq (dDrop (dApp (dVar 1) (dCB fTuple (dCons (dVar 2) dNil))))
  (dSetN 2 (dLstN dNil)))
   dNext))))
  (dSeq (dIf (dTru (dVar 2))
   (dDrop (dApp (dVar 1) (dCB fTuple (dCons (dVar 2) dNil))))
   dNext)
  (dRet (dCB fTuple (dCons (dVar 1) dNil)))))))
theorem d_cut {P : Program} {w : World} {K : PySem.W.Frag} {mg : Str → Option Value} {base : Heap} (T : Txt K mg) (f : Addr) (cdv : Value) (A : Around) (outer : List Env) (s : Shared) (H : Hp) (E : XK)
    (hr : Room 0 (A.deeper (envOfC "cut" (defScope s_cut) s.heap.objs.size f cdv))) : SDs (cxOf CX0 P w K mg base N_cut "cut" (defScope s_cut) f cdv A outer s H E).nox (defBody s_cut) (b_cut) :=
  (sds_cons (sd_setNew (i := 1) sc_cut.nd rfl (by first | exact Or.inl rfl | exact Or.inr rfl) (pdn_lst pda_nil))
  (sds_cons (sd_setNew (i := 2) sc_cut.nd rfl (by first | exact Or.inl rfl | exact Or.inr rfl) (pdn_lst pda_nil))
  (sds_cons (sd_for PassesOwn.never rfl (pdi_e (pd_var 0)) (pdg_name (i := 3) sc_cut.nd rfl (by first | exact Or.inl rfl | exact Or.inr rfl))
   (sds_cons (sd_if (PDW.pt (pdw_and (pdt_tru (pd_var 2)) (pdw_and (pdt_cmp (oc_eq hr.units) (pd_ix (pd_var 3) pd_int) pd_str) (pdw_and1 (pdt_cmp oc_in (pd_ix (pd_var 3) pd_int) (T.k_ITEM_WORDS rfl rfl (by rfl)))))))
   (sds_cons (sd_expr (pd_append (pd_var 1) (pd_callT cd_tuple (by rfl) T.n_tuple boot_tuple (pda_cons (pd_var 2) pda_nil))))
  (sds_one (sd_setNew (i := 2) sc_cut.nd rfl (by first | exact Or.inl rfl | exact Or.inr rfl) (pdn_lst pda_nil))))
   sds_nil)
  (sds_cons (sd_expr (pd_append (pd_var 2) (pd_var 3)))
  (sds_one (sd_if (pdt_cmp (oc_eq hr.units) (pd_var 3) (pd_tup (pda_cons pd_str (pda_cons pd_str pda_nil))))
   (sds_cons (sd_expr (pd_append (pd_var 1) (pd_callT cd_tuple (by rfl) T.n_tuple boot_tuple (pda_cons (pd_var 2) pda_nil))))
  (sds_one (sd_setNew (i := 2) sc_cut.nd rfl (by first | exact Or.inl rfl | exact Or.inr rfl) (pdn_lst pda_nil))))
   sds_nil)))))
  (sds_cons (sd_if (pdt_tru (pd_var 2))
   (sds_one (sd_expr (pd_append (pd_var 1) (pd_callT cd_tuple (by rfl) T.n_tuple boot_tuple (pda_cons (pd_var 2) pda_nil)))))
   sds_nil)
  (sds_one (sd_ret (pd_callT cd_tuple (by rfl) T.n_tuple boot_tuple (pda_cons (pd_var 1) pda_nil))))))))
def N_end_of : List Str := ["line", "at", "end"]
theorem sc_end_of : FnScope N_end_of ["line", "at"] (defScope s_end_of) := ⟨rfl, rfl, rfl, by decide +kernel, rfl, by decide +kernel, by decide +kernel⟩
def b_end_of : DTS := (dSeq (dIf (dCmp (cEq false) (dIx (dVar 0) (dVar 1)) (dC (.str "#")))
   (dRet (dCB fLen (dCons (dVar 0) dNil)))
   dNext)
  (dSeq (dIf (dCmp (cIn false) (dIx (dVar 0) (dVar 1)) (dC k_ROW_SIGNS))
   (dSeq (dSet 2 (dBin aAdd (dVar 1) (dC (.int 1))))
  (dSeq (dWhile (dAnd (dCmp cLt (dVar 2) (dCB fLen (dCons (dVar 0) dNil))) (dCmp (cIn false) (dIx (dVar 0) (dVar 2)) (dC k_ROW_SIGNS)))
   (dAug 2 iAdd (dC (.int 1))))
  (dRet (dVar 2))))
   dNext)
  (dSeq (dIf (dCmp (cIn false) (dSl (dVar 0) (doSome (dVar 1)) (doSome (dBin aAdd (dVar 1) (dC (.int 2))))) (dC k_LONG_SIGNS))
   (dRet (dBin aAdd (dVar 1) (dC (.int 2))))
   dNext)
  (dRet (dBin aAdd (dVar 1) (dC (.int 1)))))))
theorem d_end_of {P : Program} {w : World} {K : PySem.W.Frag} {mg : Str → Option Value} {base : Heap} (T : Txt K mg) (f : Addr) (cdv : Value) (A : Around) (outer : List Env) (s : Shared) (H : Hp) (E : XK)
    (hr : Room 0 (A.deeper (envOfC "end_of" (defScope s_end_of) s.heap.objs.size f cdv))) : SDs (cxOf CX0 P w K mg base N_end_of "end_of" (defScope s_end_of) f cdv A outer s H E).nox (defBody s_end_of) (b_end_of) :=
  (sds_cons (sd_if (pdt_cmp (oc_eq hr.units) (pd_ix (pd_var 0) (pd_var 1)) pd_str)
   (sds_one (sd_ret (pd_callB cd_len (by rfl) T.n_len PySem.boot_len (pda_cons (pd_var 0) pda_nil))))
   sds_nil)
  (sds_cons (sd_if (pdt_cmp oc_in (pd_ix (pd_var 0) (pd_var 1)) (T.k_ROW_SIGNS rfl rfl (by rfl)))
   (sds_cons (sd_set (i := 2) sc_end_of.nd rfl (by first | exact Or.inl rfl | exact Or.inr rfl) (pd_op od_add (pd_var 1) pd_int))
  (sds_cons (sd_while PassesOwn.never (PDW.pt (pdw_and (pdt_cmp oc_lt (pd_var 2) (pd_callB cd_len (by rfl) T.n_len PySem.boot_len (pda_cons (pd_var 0) pda_nil))) (pdw_and1 (pdt_cmp oc_in (pd_ix (pd_var 0) (pd_var 2)) (T.k_ROW_SIGNS rfl rfl (by rfl))))))
   (sds_one (sd_aug (i := 2) sc_end_of.nd rfl (by first | exact Or.inl rfl | exact Or.inr rfl) pd_int id_add)))
  (sds_one (sd_ret (pd_var 2)))))
   sds_nil)
  (sds_cons (sd_if (pdt_cmp oc_in (pd_slice (pd_var 0) (pdo_some (pd_var 1)) (pdo_some (pd_op od_add (pd_var 1) pd_int))) (T.k_LONG_SIGNS rfl rfl (by rfl)))
   (sds_one (sd_ret (pd_op od_add (pd_var 1) pd_int)))
   sds_nil)
  (sds_one (sd_ret (pd_op od_add (pd_var 1) pd_int))))))
def N_scanned : List Str := ["line", "found", "at", "end"]
theorem sc_scanned : FnScope N_scanned ["line"] (defScope s_scanned) := ⟨rfl, rfl, rfl, by decide +kernel, rfl, by decide +kernel, by decide +kernel⟩
def b_scanned (sp_end_of : DSp) : DTS := (dSeq (dSetN 1 (dLstN dNil))
  (dSeq (dSet 2 (dC (.int 0)))
  (dSeq (dWhile (dCmp cLt (dVar 2) (dCB fLen (dCons (dVar 0) dNil)))
   (dSeq (dIf (dCmp (cEq false) (dIx (dVar 0) (dVar 2)) (dC (.str " ")))
   (dSeq (dAug 2 iAdd (dC (.int 1)))
  dCont)
   dNext)
  (dSeq (dSet 3 (dCall sp_end_of (dCons (dVar 0) (dCons (dVar 2) dNil))))
  (dSeq (dDrop (dApp (dVar 1) (dTup (dCons (dVar 2) (dCons (dSl (dVar 0) (doSome (dVar 2)) (doSome (dVar 3))) dNil)))))
  (dSet 2 (dVar 3))))))
  (dRet (dVar 1)))))
theorem d_scanned {P : Program} {w : World} {K : PySem.W.Frag} {mg : Str → Option Value} {base : Heap} {sp_end_of : DSp} (T : Txt K mg) (G_end_of : Ok P w K mg base "end_of" 1 ["line", "at"] sp_end_of) (f : Addr) (cdv : Value) (A : Around) (outer : List Env) (s : Shared) (H : Hp) (E : XK)
    (hr : Room 1 (A.deeper (envOfC "scanned" (defScope s_scanned) s.heap.objs.size f cdv))) : SDs (cxOf CX0 P w K mg base N_scanned "scanned" (defScope s_scanned) f cdv A outer s H E).nox (defBody s_scanned) (b_scanned sp_end_of) :=
  (sds_cons (sd_setNew (i := 1) sc_scanned.nd rfl (by first | exact Or.inl rfl | exact Or.inr rfl) (pdn_lst pda_nil))
  (sds_cons (sd_set (i := 2) sc_scanned.nd rfl (by first | exact Or.inl rfl | exact Or.inr rfl) pd_int)
  (sds_cons (sd_while PassesOwn.never (pdt_cmp oc_lt (pd_var 2) (pd_callB cd_len (by rfl) T.n_len PySem.boot_len (pda_cons (pd_var 0) pda_nil)))
   (sds_cons (sd_if (pdt_cmp (oc_eq hr.units) (pd_ix (pd_var 0) (pd_var 2)) pd_str)
   (sds_cons (sd_aug (i := 2) sc_scanned.nd rfl (by first | exact Or.inl rfl | exact Or.inr rfl) pd_int id_add)
  (sds_one sd_continue))
   sds_nil)
  (sds_cons (sd_set (i := 3) sc_scanned.nd rfl (by first | exact Or.inl rfl | exact Or.inr rfl) (pc_ok G_end_of hr (by rfl) (by decide) (pda_cons (pd_var 0) (pda_cons (pd_var 2) pda_nil))))
  (sds_cons (sd_expr (pd_append (pd_var 1) (pd_tup (pda_cons (pd_var 2) (pda_cons (pd_slice (pd_var 0) (pdo_some (pd_var 2)) (pdo_some (pd_var 3))) pda_nil)))))
  (sds_one (sd_set (i := 2) sc_scanned.nd rfl (by first | exact Or.inl rfl | exact Or.inr rfl) (pd_var 3)))))))
  (sds_one (sd_ret (pd_var 1))))))
def N_sort_of : List Str := ["text", "first"]
theorem sc_sort_of : FnScope N_sort_of ["text"] (defScope s_sort_of) := ⟨rfl, rfl, rfl, by decide +kernel, rfl, by decide +kernel, by decide +kernel⟩
def b_sort_of : DTS := (dSeq (dSet 1 (dIx (dVar 0) (dC (.int 0))))
  (dSeq (dIf (dCmp (cEq false) (dVar 1) (dC (.str "#")))
   (dRet (dC (.str "remark")))
   dNext)
  (dSeq (dIf (dCmp (cIn false) (dVar 1) (dC k_SMALL))
   (dRet (dIfE (dCmp (cIn false) (dVar 0) (dC k_WORDS)) (dC (.str "word")) (dC (.str "name"))))
   dNext)
  (dSeq (dIf (dCmp (cIn false) (dVar 1) (dC k_GREAT))
   (dRet (dC (.str "Name")))
   dNext)
  (dRet (dIfE (dCmp (cIn false) (dVar 0) (dC k_SIGNS)) (dC (.str "sign")) (dC (.str "wrong"))))))))
theorem d_sort_of {P : Program} {w : World} {K : PySem.W.Frag} {mg : Str → Option Value} {base : Heap} (T : Txt K mg) (f : Addr) (cdv : Value) (A : Around) (outer : List Env) (s : Shared) (H : Hp) (E : XK)
    (hr : Room 0 (A.deeper (envOfC "sort_of" (defScope s_sort_of) s.heap.objs.size f cdv))) : SDs (cxOf CX0 P w K mg base N_sort_of "sort_of" (defScope s_sort_of) f cdv A outer s H E).nox (defBody s_sort_of) (b_sort_of) :=
  (sds_cons (sd_set (i := 1) sc_sort_of.nd rfl (by first | exact Or.inl rfl | exact Or.inr rfl) (pd_ix (pd_var 0) pd_int))
  (sds_cons (sd_if (pdt_cmp (oc_eq hr.units) (pd_var 1) pd_str)
   (sds_one (sd_ret pd_str))
   sds_nil)
  (sds_cons (sd_if (pdt_cmp oc_in (pd_var 1) (T.k_SMALL rfl rfl (by rfl)))
   (sds_one (sd_ret (pd_if (pdt_cmp oc_in (pd_var 0) (T.k_WORDS rfl rfl (by rfl))) pd_str pd_str)))
   sds_nil)
  (sds_cons (sd_if (pdt_cmp oc_in (pd_var 1) (T.k_GREAT rfl rfl (by rfl)))
   (sds_one (sd_ret pd_str))
   sds_nil)
  (sds_one (sd_ret (pd_if (pdt_cmp oc_in (pd_var 0) (T.k_SIGNS rfl rfl (by rfl))) pd_str pd_str)))))))
def N_tokens : List Str := ["line", "_", "text"]
theorem sc_tokens : FnScope N_tokens ["line"] (defScope s_tokens) := ⟨rfl, rfl, rfl, by decide +kernel, rfl, by decide +kernel, by decide +kernel⟩
def b_tokens (sp_scanned : DSp) (sp_sort_of : DSp) : DTS := (dRet (dCB fTuple (dCons (dFr (dLc (dIterE (dCall sp_scanned (dCons (dVar 0) dNil))) (dgTup 2 (dgsCons (dgName 1) (dgsCons (dgName 2) dgsNil))) dYes (dTup (dCons (dCall sp_sort_of (dCons (dVar 2) dNil)) (dCons (dVar 2) dNil))) [1, 2])) dNil)))
theorem d_tokens {P : Program} {w : World} {K : PySem.W.Frag} {mg : Str → Option Value} {base : Heap} {sp_scanned : DSp} {sp_sort_of : DSp} (T : Txt K mg) (G_scanned : Ok P w K mg base "scanned" 2 ["line"] sp_scanned) (G_sort_of : Ok P w K mg base "sort_of" 1 ["text"] sp_sort_of) (f : Addr) (cdv : Value) (A : Around) (outer : List Env) (s : Shared) (H : Hp) (E : XK)
    (hr : Room 2 (A.deeper (envOfC "tokens" (defScope s_tokens) s.heap.objs.size f cdv))) : SDs (cxOf CX0 P w K mg base N_tokens "tokens" (defScope s_tokens) f cdv A outer s H E).nox (defBody s_tokens) (b_tokens sp_scanned sp_sort_of) :=
  (sds_one (sd_ret (pd_callT cd_tuple (by rfl) T.n_tuple boot_tuple (pda_cons (pd_new (pdn_lc (own := [("_", 1), ("text", 2)]) rfl sc_tokens.nd (pdi_e (pc_ok G_scanned hr (by rfl) (by decide) (pda_cons (pd_var 0) pda_nil))) (blkOk_by (own := [("_", 1), ("text", 2)]) (N := N_tokens) (sc := defScope s_tokens) (by decide +kernel)) (fun _ _ _ _ _ => (pdg_tup rfl (pdgs_cons (pdg_name (i := 1) sc_tokens.nd rfl (by first | exact Or.inl rfl | exact Or.inr rfl)) (pdgs_cons (pdg_name (i := 2) sc_tokens.nd rfl (by first | exact Or.inl rfl | exact Or.inr rfl)) pdgs_nil)))) (fun _ _ _ _ _ => pdts_nil) (fun _ _ _ _ _ => (pd_tup (pda_cons (pc_ok G_sort_of hr (by rfl) (by decide) (pda_cons (pd_var 2) pda_nil)) (pda_cons (pd_var 2) pda_nil)))))) pda_nil))))
def N_kept_tokens : List Str := ["text", "kept", "line", "token"]
theorem sc_kept_tokens : FnScope N_kept_tokens ["text"] (defScope s_kept_tokens) := ⟨rfl, rfl, rfl, by decide +kernel, rfl, by decide +kernel, by decide +kernel⟩
def b_kept_tokens (sp_tokens : DSp) : DTS := (dSeq (dSetN 1 (dLstN dNil))
  (dSeq (dFor (dIterE (dM mSplit (dVar 0) (dCons (dC (.str "\n")) dNil))) (dgName 2)
   (dFor (dIterE (dCall sp_tokens (dCons (dVar 2) dNil))) (dgName 3)
   (dIf (dCmp (cEq true) (dIx (dVar 3) (dC (.int 0))) (dC (.str "remark")))
   (dDrop (dApp (dVar 1) (dVar 3)))
   dNext)))
  (dRet (dVar 1))))
theorem d_kept_tokens {P : Program} {w : World} {K : PySem.W.Frag} {mg : Str → Option Value} {base : Heap} {sp_tokens : DSp} (T : Txt K mg) (G_tokens : Ok P w K mg base "tokens" 3 ["line"] sp_tokens) (f : Addr) (cdv : Value) (A : Around) (outer : List Env) (s : Shared) (H : Hp) (E : XK)
    (hr : Room 3 (A.deeper (envOfC "kept_tokens" (defScope s_kept_tokens) s.heap.objs.size f cdv))) : SDs (cxOf CX0 P w K mg base N_kept_tokens "kept_tokens" (defScope s_kept_tokens) f cdv A outer s H E).nox (defBody s_kept_tokens) (b_kept_tokens sp_tokens) :=
  (sds_cons (sd_setNew (i := 1) sc_kept_tokens.nd rfl (by first | exact Or.inl rfl | exact Or.inr rfl) (pdn_lst pda_nil))
  (sds_cons (sd_for PassesOwn.never rfl (pdi_e (pd_m1 PySem.F.slot_str_split PySem.F.type_str_split md_split (pd_var 0) pd_str)) (pdg_name (i := 2) sc_kept_tokens.nd rfl (by first | exact Or.inl rfl | exact Or.inr rfl))
   (sds_one (sd_for PassesOwn.never rfl (pdi_e (pc_ok G_tokens hr (by rfl) (by decide) (pda_cons (pd_var 2) pda_nil))) (pdg_name (i := 3) sc_kept_tokens.nd rfl (by first | exact Or.inl rfl | exact Or.inr rfl))
   (sds_one (sd_if (pdt_cmp (oc_ne hr.units) (pd_ix (pd_var 3) pd_int) pd_str)
   (sds_one (sd_expr (pd_append (pd_var 1) (pd_var 3))))
   sds_nil)))))
  (sds_one (sd_ret (pd_var 1)))))
def N_stretches : List Str := ["text"]
theorem sc_stretches : FnScope N_stretches ["text"] (defScope s_stretches) := ⟨rfl, rfl, rfl, by decide +kernel, rfl, by decide +kernel, by decide +kernel⟩
def b_stretches (sp_cut : DSp) (sp_kept_tokens : DSp) : DTS := (dRet (dCall sp_cut (dCons (dCall sp_kept_tokens (dCons (dVar 0) dNil)) dNil)))
theorem d_stretches {P : Program} {w : World} {K : PySem.W.Frag} {mg : Str → Option Value} {base : Heap} {sp_cut : DSp} {sp_kept_tokens : DSp} (T : Txt K mg) (G_cut : Ok P w K mg base "cut" 1 ["kept"] sp_cut) (G_kept_tokens : Ok P w K mg base "kept_tokens" 4 ["text"] sp_kept_tokens) (f : Addr) (cdv : Value) (A : Around) (outer : List Env) (s : Shared) (H : Hp) (E : XK)
    (hr : Room 4 (A.deeper (envOfC "stretches" (defScope s_stretches) s.heap.objs.size f cdv))) : SDs (cxOf CX0 P w K mg base N_stretches "stretches" (defScope s_stretches) f cdv A outer s H E).nox (defBody s_stretches) (b_stretches sp_cut sp_kept_tokens) :=
  (sds_one (sd_ret (pc_ok G_cut hr (by rfl) (by decide) (pda_cons (pc_ok G_kept_tokens hr (by rfl) (by decide) (pda_cons (pd_var 0) pda_nil)) pda_nil))))
def N_law : List Str := ["script", "draw", "k", "said", "due"]
theorem sc_law : FnScope N_law ["script"] (defScope s_law) := ⟨rfl, rfl, rfl, by decide +kernel, rfl, by decide +kernel, by decide +kernel⟩
def b_law (sp__law_draw : DSp) (sp__law_text : DSp) (sp__law_pick : DSp) (sp__law_next : DSp) (sp__law_cut : DSp) (sp__law_right : DSp) (sp_stretches : DSp) : DTS := (dSeq (dSetN 1 (dCallN sp__law_draw (dCons (dVar 0) dNil)))
  (dSeq (dFor (dRng1 (dCons (dC (.int 6)) dNil)) (dgName 2)
   (dSeq (dSet 3 (dCall sp__law_text (dCons (dVar 1) (dCons (dCall sp__law_pick (dCons (dVar 1) (dCons (dFr (dLstN (dCons (dC (.int 0)) (dCons (dC (.int 1)) (dCons (dC (.int 3)) (dCons (dC (.int 8)) (dCons (dC (.int 20)) (dCons (dC (.int 40)) dNil)))))))) dNil))) dNil))))
  (dSeq (dIf (dAnd (dCmp (cEq false) (dVar 2) (dC (.int 5))) (dCmp (cEq false) (dCall sp__law_next (dCons (dVar 1) (dCons (dC (.int 6)) dNil))) (dC (.int 0))))
   (dSet 3 (dBin aMul (dCall sp__law_text (dCons (dVar 1) (dCons (dC (.int 4)) dNil))) (dBin aAdd (dC (.int 1)) (dCall sp__law_next (dCons (dVar 1) (dCons (dC (.int 60)) dNil))))))
   dNext)
  (dSeq (dSet 4 (dCall sp__law_cut (dCons (dVar 3) dNil)))
  (dIf (dOr (dNot (dTru (dCall sp__law_right (dCons (dCall sp_stretches (dCons (dVar 3) dNil)) (dCons (dVar 4) dNil))))) (dNot (dTru (dCall sp__law_right (dCons (dCall sp_stretches (dCons (dVar 3) dNil)) (dCons (dVar 4) dNil))))))
   (dRet (dC (.bool false)))
   dNext)))))
  (dRet (dAndV (dB (dCmp (cEq false) (dCall sp_stretches (dCons (dC (.str "")) dNil)) (dTup dNil))) (dB (dCmp (cEq false) (dCall sp_stretches (dCons (dC (.str " \n# ;")) dNil)) (dTup dNil)))))))
theorem d_law {P : Program} {w : World} {K : PySem.W.Frag} {mg : Str → Option Value} {base : Heap} {sp__law_draw : DSp} {sp__law_text : DSp} {sp__law_pick : DSp} {sp__law_next : DSp} {sp__law_cut : DSp} {sp__law_right : DSp} {sp_stretches : DSp} (T : Txt K mg) (G__law_draw : Ok P w K mg base "_law_draw" 1 ["script"] sp__law_draw) (G__law_text : Ok P w K mg base "_law_text" 4 ["draw", "many"] sp__law_text) (G__law_pick : Ok P w K mg base "_law_pick" 2 ["draw", "row"] sp__law_pick) (G__law_next : Ok P w K mg base "_law_next" 1 ["draw", "many"] sp__law_next) (G__law_cut : Ok P w K mg base "_law_cut" 3 ["said"] sp__law_cut) (G__law_right : Ok P w K mg base "_law_right" 1 ["told", "due"] sp__law_right) (G_stretches : Ok P w K mg base "stretches" 5 ["text"] sp_stretches) (K_stretches : OkK P w K mg base "stretches" 5 ["text"] sp_stretches) (f : Addr) (cdv : Value) (A : Around) (outer : List Env) (s : Shared) (H : Hp) (E : XK)
    (hr : Room 5 (A.deeper (envOfC "law" (defScope s_law) s.heap.objs.size f cdv))) : SDs (cxOf CX0 P w K mg base N_law "law" (defScope s_law) f cdv A outer s H E).nox (defBody s_law) (b_law sp__law_draw sp__law_text sp__law_pick sp__law_next sp__law_cut sp__law_right sp_stretches) :=
  (sds_cons (sd_setNew (i := 1) sc_law.nd rfl (by first | exact Or.inl rfl | exact Or.inr rfl) (pcn_ok G__law_draw hr (by rfl) (by decide) (pda_cons (pd_var 0) pda_nil)))
  (sds_cons (sd_for PassesOwn.never rfl (pdi_range1 (by rfl) T.n_range (pda_cons pd_int pda_nil)) (pdg_name (i := 2) sc_law.nd rfl (by first | exact Or.inl rfl | exact Or.inr rfl))
   (sds_cons (sd_set (i := 3) sc_law.nd rfl (by first | exact Or.inl rfl | exact Or.inr rfl) (pc_ok G__law_text hr (by rfl) (by decide) (pda_cons (pd_var 1) (pda_cons (pc_ok G__law_pick hr (by rfl) (by decide) (pda_cons (pd_var 1) (pda_cons (pd_new (pdn_lst (pda_cons pd_int (pda_cons pd_int (pda_cons pd_int (pda_cons pd_int (pda_cons pd_int (pda_cons pd_int pda_nil)))))))) pda_nil))) pda_nil))))
  (sds_cons (sd_if (PDW.pt (pdw_and (pdt_cmp (oc_eq hr.units) (pd_var 2) pd_int) (pdw_and1 (pdt_cmp (oc_eq hr.units) (pc_ok G__law_next hr (by rfl) (by decide) (pda_cons (pd_var 1) (pda_cons pd_int pda_nil))) pd_int))))
   (sds_one (sd_set (i := 3) sc_law.nd rfl (by first | exact Or.inl rfl | exact Or.inr rfl) (pd_op od_mul (pc_ok G__law_text hr (by rfl) (by decide) (pda_cons (pd_var 1) (pda_cons pd_int pda_nil))) (pd_op od_add pd_int (pc_ok G__law_next hr (by rfl) (by decide) (pda_cons (pd_var 1) (pda_cons pd_int pda_nil)))))))
   sds_nil)
  (sds_cons (sd_set (i := 4) sc_law.nd rfl (by first | exact Or.inl rfl | exact Or.inr rfl) (pc_ok G__law_cut hr (by rfl) (by decide) (pda_cons (pd_var 3) pda_nil)))
  (sds_one (sd_if (PDW.pt (pdw_or (pdt_not (pdt_tru (pc_ok G__law_right hr (by rfl) (by decide) (pda_cons (pc_ok G_stretches hr (by rfl) (by decide) (pda_cons (pd_var 3) pda_nil)) (pda_cons (pd_var 4) pda_nil))))) (pdw_or1 (pdt_not (pdt_tru (pc_ok G__law_right hr (by rfl) (by decide) (pda_cons (pck_ok K_stretches hr (by rfl) (by decide) (pdk_cons (pd_var 3) pdk_nil)) (pda_cons (pd_var 4) pda_nil))))))))
   (sds_one (sd_ret pd_bl))
   sds_nil))))))
  (sds_one (sd_ret (pd_and (pd_cmp (oc_eq hr.units) (pc_ok G_stretches hr (by rfl) (by decide) (pda_cons pd_str pda_nil)) (pd_tup pda_nil)) (pd_one (pd_cmp (oc_eq hr.units) (pc_ok G_stretches hr (by rfl) (by decide) (pda_cons pd_str pda_nil)) (pd_tup pda_nil))))))))
end K15

namespace K15
open PySem PySem.Spec PyProof.Rows L2 DD
local macro_rules | `(tactic| walk_at "nd") => `(tactic| first | decide | simp [slots])
local macro_rules | `(tactic| walk_at "w") => `(tactic| conv => whnf)
/-- the state of the draws -/
def DrawOk (ds : List PyData) : Prop := ∃ (ns : List Int) (i a b : Int), ds = [.list (ns.map PyData.int), .int i, .int a, .int b] ∧ 0 ≤ i ∧ 0 ≤ b ∧ b < 2147483647
def sp__law_draw : DSp := fun sls C => ∃ ns : List Int, sls = [.val (.list (ns.map PyData.int))] ∧ ∀ ds, DrawOk ds → C (.own ds) sls
theorem cut_ints (ns : List Int) (lo hi : Option Int) : ∃ ms : List Int, DD.cutD (ns.map PyData.int) lo hi = ms.map PyData.int := by
  refine ⟨(ns.drop (HT.sIx ns.length 0 lo)).take (HT.sIx ns.length ns.length hi - HT.sIx ns.length 0 lo), ?_⟩
  unfold DD.cutD
  rw [List.length_map, List.map_take, List.map_drop]
theorem l__law_draw : ∀ sls C, sp__law_draw sls C → b__law_draw (endsD sls.length C) (startD N__law_draw sls) := by
  rintro sls C ⟨ns, rfl, h⟩
  walk_at "w"
  obtain ⟨ms, e⟩ := cut_ints ns none (some 63)
  refine ⟨by show 4 ≤ sizeLine; decide, ?_⟩
  refine h _ ⟨ms, 0, 1, 7, ?_, by decide, by decide, by decide⟩
  rw [e]
def sp__law_next : DSp := fun sls C => ∃ (ds : List PyData) (m : Int), sls = [.par ds, .val (.int m)] ∧ DrawOk ds ∧ 0 < m ∧ m < 1073741824 ∧ ∀ (r : Int) ds', 0 ≤ r → r < m → DrawOk ds' → C (.val (.int r)) [.par ds', .val (.int m)]
theorem mul_ok (i j : Int) (h : -18446744073709551616 < j) (h2 : j < 18446744073709551616) : CMul i j := .inr ⟨h, h2⟩
theorem l__law_next : ∀ sls C, sp__law_next sls C → b__law_next (endsD sls.length C) (startD N__law_next sls) := by
  rintro sls C ⟨_, m, rfl, ⟨ns, i, a, b, rfl, h1, h2, h3⟩, hm1, hm2, h⟩
  refine seq_cut (fun δ => ∃ i a b x2, δ = [some (.par [.list (ns.map PyData.int), .int i, .int a, .int b]), some (.val (.int m)), x2, none] ∧ 0 ≤ i ∧ 0 ≤ b ∧ b < 2147483647) (fun N hN => ?_) ?_
  · walk_at "w"
    refine ⟨fun e1 => ?_, fun e1 => ?_⟩
    · walk_at "w"
      refine ⟨fun e2 => ?_, fun e2 => ?_⟩
      · have e2 := of_decide_eq_true e2
        rw [List.length_map] at e2
        obtain ⟨c, _, ec, _⟩ := atI_map (f := PyData.int) h1 e2
        walk_at "w"
        rw [ec]
        walk_at "w"
        refine ⟨rfl, ?_⟩
        walk_at "w"
        refine ⟨⟨by decide, by decide, by decide⟩, ?_⟩
        walk_at "w"
        refine ⟨fun e3 => ?_, fun e3 => ?_⟩
        · walk_at "w"
          exact hN _ ⟨_, _, _, _, rfl, by omega, h2, h3⟩
        · walk_at "w"
          refine ⟨mul_ok _ _ (by decide) (by decide), mul_ok _ _ (by decide) (by decide), by decide, ?_⟩
          walk_at "w"
          exact hN _ ⟨_, _, _, _, rfl, by omega, Int.emod_nonneg _ (by decide), Int.emod_lt_of_pos _ (by decide)⟩
      · walk_at "w"
        exact hN _ ⟨_, _, _, _, rfl, h1, h2, h3⟩
    · walk_at "w"
      refine ⟨fun e2 => (by cases e2), fun e2 => ?_⟩
      walk_at "w"
      exact hN _ ⟨_, _, _, _, rfl, h1, h2, h3⟩
  · rintro _ ⟨i, a, b, x2, rfl, h1, h2, h3⟩
    walk_at "w"
    refine ⟨fun e1 => ?_, fun e1 => ?_⟩
    · walk_at "w"
      refine ⟨hm1, rfl, ?_⟩
      walk_at "w"
      refine ⟨⟨hm1, hm2⟩, ?_⟩
      walk_at "w"
      exact h _ _ (Int.emod_nonneg _ (by omega)) (Int.emod_lt_of_pos _ hm1) ⟨_, _, _, _, rfl, h1, h2, h3⟩
    · walk_at "w"
      refine ⟨mul_ok _ _ (by decide) (by decide), by decide, ?_⟩
      walk_at "w"
      refine ⟨mul_ok _ _ (by decide) (by decide), by decide, ⟨by decide, by decide⟩, hm1, ?_⟩
      walk_at "w"
      exact h _ _ (Int.emod_nonneg _ (by omega)) (Int.emod_lt_of_pos _ hm1) ⟨_, _, _, _, rfl, h1, Int.emod_nonneg _ (by decide), Int.emod_lt_of_pos _ (by decide)⟩
def sp__law_pick : DSp := fun sls C => ∃ (ds : List PyData) (d : PyData), sls = [.par ds, .val d] ∧ DrawOk ds ∧
  ((∃ xs, d = .list xs ∧ 0 < xs.length ∧ xs.length < 1073741824 ∧ ∀ x ∈ xs, ∀ ds', DrawOk ds' → C (.val x) [.par ds', .val d]) ∨
   (∃ z : Str, d = .str z ∧ 0 < z.length ∧ z.length ≤ 1000000 ∧ ∀ c ∈ z.cps.toList, ∀ ds', DrawOk ds' → C (.val (.str ⟨#[c]⟩)) [.par ds', .val d]))
theorem l__law_pick : ∀ sls C, sp__law_pick sls C → b__law_pick sp__law_next (endsD sls.length C) (startD N__law_pick sls) := by
  rintro sls C ⟨ds, d, rfl, hd, h⟩
  rcases h with ⟨xs, rfl, h1, h2, h⟩ | ⟨z, rfl, h1, h2, h⟩
  · walk_at "w"
    refine ⟨by walk_at "nd", ds, _, rfl, hd, by omega, by omega, fun r ds' r1 r2 hd' => ?_⟩
    walk_at "w"
    obtain ⟨x, ex, _, mx⟩ := atI_at r1 r2
    rw [ex]
    walk_at "w"
    exact h x mx ds' hd'
  · walk_at "w"
    have hs := sl_line
    refine ⟨by omega, by walk_at "nd", ds, _, rfl, hd, by omega, by omega, fun r ds' r1 r2 hd' => ?_⟩
    walk_at "w"
    refine ⟨by omega, ?_⟩
    have hl : z.length = z.cps.toList.length := by simp [Str.length]
    rw [hl] at r2
    obtain ⟨x, ex, _, mx⟩ := atI_at r1 r2
    walk_at "w"
    rw [ex]
    walk_at "w"
    exact h x mx ds' hd'
end K15

namespace K15
open PySem PySem.Spec PyProof.Rows L2 DD
local macro_rules | `(tactic| walk_at "nd") => `(tactic| first | decide | simp [slots])
local macro_rules | `(tactic| walk_at "w") => `(tactic| conv => whnf)
/-- a text of at most n signs, all below 128 -/
def strB (n : Nat) (z : Str) : Bool := decide (z.length ≤ n) && z.cps.toList.all (· < 128)
def okD (n : Nat) : PyData → Bool
  | .str z => strB n z
  | _ => false
theorem okD_of {n : Nat} {d : PyData} (h : okD n d = true) : ∃ z, d = .str z ∧ strB n z = true := by
  unfold okD at h
  split at h
  · exact ⟨_, rfl, h⟩
  · cases h
theorem strB_len {n : Nat} {z : Str} (h : strB n z = true) : z.length ≤ n := by
  unfold strB at h
  rw [Bool.and_eq_true] at h
  exact of_decide_eq_true h.1
theorem strB_asc {n : Nat} {z : Str} (h : strB n z = true) : ∀ c ∈ z.cps.toList, c < 128 := by
  unfold strB at h
  rw [Bool.and_eq_true, List.all_eq_true] at h
  exact fun c hc => of_decide_eq_true (h.2 c hc)
theorem strB_mk {n : Nat} {z : Str} (h : z.length ≤ n) (h2 : ∀ c ∈ z.cps.toList, c < 128) : strB n z = true := by
  unfold strB
  rw [Bool.and_eq_true, List.all_eq_true]
  exact ⟨decide_eq_true h, fun c hc => decide_eq_true (h2 c hc)⟩
theorem strB_app {n m k : Nat} {y z : Str} (h : strB n y = true) (h2 : strB m z = true) (e : n + m ≤ k) : strB k (y ++ z) = true := by
  refine strB_mk ?_ fun c hc => ?_
  · rw [Str.length_append]
    have := strB_len h
    have := strB_len h2
    omega
  · rw [Str.cps_append, Array.toList_append, List.mem_append] at hc
    rcases hc with hc | hc
    · exact strB_asc h c hc
    · exact strB_asc h2 c hc
theorem strB_le {n m : Nat} {z : Str} (h : strB n z = true) (e : n ≤ m) : strB m z = true := strB_mk (Nat.le_trans (strB_len h) e) (strB_asc h)
theorem strB_one {n c : Nat} {z : Str} (h : strB n z = true) (hc : c ∈ z.cps.toList) : strB 1 ⟨#[c]⟩ = true := by
  refine strB_mk (Nat.le_refl 1) fun d hd => ?_
  have hd : d = c := by simpa using hd
  rw [hd]
  exact strB_asc h c hc
theorem joinL_nil : ∀ l : List (List Nat), TL.joinL [] l = l.flatten
  | [] => rfl
  | [x] => by unfold TL.joinL; simp
  | x :: y :: r => by
    have := joinL_nil (y :: r)
    unfold TL.joinL
    rw [this]
    simp
theorem tl_join0 (ys : List Str) : (Txt.join "" ys).cps.toList = (ys.map fun z => z.cps.toList).flatten := by
  rw [TL.join_eq]
  show TL.tl (Str.join "" ys) = _
  rw [TL.tl_join]
  exact joinL_nil _
theorem join_len (ys : List Str) : (Txt.join "" ys).length = (ys.map (·.length)).sum := by
  have e : (Txt.join "" ys).length = (Txt.join "" ys).cps.toList.length := by simp [Str.length]
  rw [e, tl_join0, List.length_flatten, List.map_map]
  congr 1
theorem strB_join {n k : Nat} {ys : List Str} (h : ∀ y ∈ ys, strB k y = true) (e : ys.length * k ≤ n) : strB n (Txt.join "" ys) = true := by
  refine strB_mk ?_ fun c hc => ?_
  · rw [join_len]
    refine Nat.le_trans ?_ e
    clear e
    induction ys with
    | nil => simp
    | cons y ys ih =>
      rw [List.map_cons, List.sum_cons, List.length_cons, Nat.succ_mul]
      have h1 := strB_len (h y List.mem_cons_self)
      have h2 := ih fun z hz => h z (List.mem_cons_of_mem _ hz)
      omega
  · rw [tl_join0, List.mem_flatten] at hc
    obtain ⟨l, hl, hc⟩ := hc
    obtain ⟨y, hy, rfl⟩ := List.mem_map.mp hl
    exact strB_asc (h y hy) c hc
theorem join_room {k : Nat} {ys : List Str} (h : ∀ y ∈ ys, strB k y = true) (e : ys.length * k ≤ 1000000) : (ys.map (·.length)).sum + ys.length * ("" : Str).length ≤ 16777216 := by
  have h1 := strB_len (strB_join h (Nat.le_refl _))
  rw [join_len] at h1
  have : ("" : Str).length = 0 := by decide
  rw [this]
  omega

def MORE : Str := "abcdefghijklmnopqrstuvwxyzABCDEFGHIJKLMNOPQRSTUVWXYZ0123456789_"
def WORDL : List Str := ["face", "use", "as", "open", "hiding", "kind", "def", "let", "in", "if", "then", "else", "case", "of", "end"]
def SIGNL : List Str := ["(", ")", ",", ";", ".", ":", "=", "|", "_", "..", "==", "->"]
def sp__law_more : DSp := fun sls C => sls = [] ∧ C (.val (.str MORE)) []
theorem l__law_more : ∀ sls C, sp__law_more sls C → b__law_more (endsD sls.length C) (startD N__law_more sls) := by
  rintro sls C ⟨rfl, h⟩
  walk_at "w"
  exact h
def sp__law_small : DSp := fun sls C => sls = [] ∧ C (.val (.str "abcdefghijklmnopqrstuvwxyz")) []
theorem l__law_small : ∀ sls C, sp__law_small sls C → b__law_small (endsD sls.length C) (startD N__law_small sls) := by
  rintro sls C ⟨rfl, h⟩
  walk_at "w"
  exact h
def sp__law_words : DSp := fun sls C => sls = [] ∧ C (.val (.list (WORDL.map PyData.str))) []
theorem split_words : Txt.split "face use as open hiding kind def let in if then else case of end" " " = WORDL := by decide +kernel
theorem l__law_words : ∀ sls C, sp__law_words sls C → b__law_words (endsD sls.length C) (startD N__law_words sls) := by
  rintro sls C ⟨rfl, h⟩
  walk_at "w"
  refine ⟨by decide, by decide, ?_⟩
  rw [split_words]
  exact h
def sp__law_signs : DSp := fun sls C => sls = [] ∧ C (.val (.list (SIGNL.map PyData.str))) []
theorem split_signs : Txt.split "( ) , ; . : = | _ .. == ->" " " = SIGNL := by decide +kernel
theorem l__law_signs : ∀ sls C, sp__law_signs sls C → b__law_signs (endsD sls.length C) (startD N__law_signs sls) := by
  rintro sls C ⟨rfl, h⟩
  walk_at "w"
  refine ⟨by decide, by decide, ?_⟩
  rw [split_signs]
  exact h
theorem more_asc : strB 63 MORE = true := by decide +kernel
theorem more_len : MORE.cps.toList.length = 63 := by decide +kernel
theorem pick_list {ds xs : List PyData} {n : Nat} {C : Sl → List Sl → Prop} (hd : DrawOk ds) (h1 : 0 < xs.length) (h2 : xs.length < 1000) (h3 : xs.all (okD n) = true)
    (h : ∀ z ds', strB n z = true → DrawOk ds' → C (.val (.str z)) [.par ds', .val (.list xs)]) : sp__law_pick [.par ds, .val (.list xs)] C := by
  refine ⟨ds, _, rfl, hd, .inl ⟨xs, rfl, h1, by omega, fun x hx ds' hd' => ?_⟩⟩
  obtain ⟨z, rfl, hz⟩ := okD_of (List.all_eq_true.mp h3 x hx)
  exact h z ds' hz hd'
theorem pick_str {ds : List PyData} {y : Str} {C : Sl → List Sl → Prop} (hd : DrawOk ds) (h1 : 0 < y.length) (h3 : strB 1000 y = true)
    (h : ∀ z ds', strB 1 z = true → DrawOk ds' → C (.val (.str z)) [.par ds', .val (.str y)]) : sp__law_pick [.par ds, .val (.str y)] C := by
  have := strB_len h3
  exact ⟨ds, _, rfl, hd, .inr ⟨y, rfl, h1, by omega, fun c hc ds' hd' => h _ ds' (strB_one h3 hc) hd'⟩⟩
end K15

namespace K15
open PySem PySem.Spec PyProof.Rows L2 DD
local macro_rules | `(tactic| walk_at "nd") => `(tactic| first | decide | simp [slots])
local macro_rules | `(tactic| walk_at "w") => `(tactic| conv => whnf)
def mkS (l : List Nat) : Str := ⟨l.toArray⟩
abbrev cd (z : Str) : List Nat := z.cps.toList
theorem len_cd (z : Str) : z.length = (cd z).length := by simp [Str.length]
theorem mkS_cd (z : Str) : mkS (cd z) = z := TL.ext_tl rfl
theorem cd_mkS (l : List Nat) : cd (mkS l) = l := rfl
theorem mkS_inj {a b : List Nat} (h : mkS a = mkS b) : a = b := by
  have := congrArg cd h
  simpa [cd_mkS] using this
/-! ### membership in lists of texts -/
theorem any_strs (ys : List Str) (t : Str) : ((ys.map PyData.str).any fun e => PyData.eqv e (.str t)) = decide (t ∈ ys) := by
  induction ys with
  | nil => rfl
  | cons y ys ih =>
    rw [List.map_cons, List.any_cons, ih]
    show (y == t || decide (t ∈ ys)) = decide (t ∈ y :: ys)
    by_cases h : y = t
    · subst h; simp
    · have h2 : ¬ t = y := fun e => h e.symm
      simp [h, h2]
theorem flat_strs (ys : List Str) : (ys.map PyData.str).all flatD = true := by
  rw [List.all_eq_true]
  intro d hd
  obtain ⟨y, _, rfl⟩ := List.mem_map.mp hd
  rfl
/-! ### the lexer -/
def LONGL : List Str := ["..", "==", "->"]
def SMALLC : List Nat := cd "abcdefghijklmnopqrstuvwxyz"
def GREATC : List Nat := cd "ABCDEFGHIJKLMNOPQRSTUVWXYZ"
def inRow (c : Nat) : Bool := decide (c ∈ cd MORE)
def runLen (l : List Nat) : Nat := (l.takeWhile inRow).length
theorem runLen_le (l : List Nat) : runLen l ≤ l.length := by
  unfold runLen
  induction l with
  | nil => simp
  | cons c l ih =>
    rw [List.takeWhile_cons]
    split
    · simp only [List.length_cons]; omega
    · simp
theorem runLen_is : ∀ (l : List Nat) (k : Nat), (∀ j c, j < k → l[j]? = some c → inRow c = true) → k ≤ l.length → (∀ c, l[k]? = some c → inRow c = false) → runLen l = k
  | [], k, _, h2, _ => by
    have : k = 0 := by simpa using h2
    rw [this]; rfl
  | c :: l, 0, _, _, h3 => by
    unfold runLen
    rw [List.takeWhile_cons, h3 c rfl]
    rfl
  | c :: l, k + 1, h1, h2, h3 => by
    unfold runLen
    rw [List.takeWhile_cons, h1 0 c (by omega) rfl]
    show (c :: List.takeWhile inRow l).length = k + 1
    rw [List.length_cons]
    have := runLen_is l k (fun j d hj e => h1 (j + 1) d (by omega) (by simpa using e)) (by simpa using h2) (fun d e => h3 d (by simpa using e))
    unfold runLen at this
    omega
def endAt (l : List Nat) (a : Nat) : Nat :=
  if l[a]? = some 35 then l.length
  else if (match l[a]? with | some c => inRow c | none => false) = true then a + 1 + runLen (l.drop (a + 1))
  else if mkS ((l.drop a).take 2) ∈ LONGL then a + 2 else a + 1
theorem long_len {t : Str} (h : t ∈ LONGL) : t.length = 2 := by
  have : ∀ t ∈ LONGL, t.length = 2 := by decide +kernel
  exact this t h
theorem take2_len {l : List Nat} {a : Nat} (h : mkS ((l.drop a).take 2) ∈ LONGL) : a + 2 ≤ l.length := by
  have := long_len h
  rw [len_cd, cd_mkS, List.length_take, List.length_drop] at this
  omega
theorem endAt_gt {l : List Nat} {a : Nat} (h : a < l.length) : a < endAt l a ∧ endAt l a ≤ l.length := by
  have hr := runLen_le (l.drop (a + 1))
  rw [List.length_drop] at hr
  unfold endAt
  by_cases h1 : l[a]? = some 35
  · rw [if_pos h1]; omega
  · rw [if_neg h1]
    by_cases h2 : (match l[a]? with | some c => inRow c | none => false) = true
    · rw [if_pos h2]; omega
    · rw [if_neg h2]
      by_cases h3 : mkS ((l.drop a).take 2) ∈ LONGL
      · have := take2_len h3
        rw [if_pos h3]; omega
      · rw [if_neg h3]; omega
def scanF (l : List Nat) : Nat → Nat → List (Nat × Nat)
  | 0, _ => []
  | f + 1, a => if a < l.length then (if l[a]? = some 32 then scanF l f (a + 1) else (a, endAt l a) :: scanF l f (endAt l a)) else []
theorem scanF_more (l : List Nat) : ∀ f a, l.length - a ≤ f → scanF l f a = scanF l (l.length - a) a := by
  intro f
  induction f using Nat.strongRecOn with
  | ind f ih =>
    intro a hf
    cases f with
    | zero =>
      have : l.length - a = 0 := by omega
      rw [this]
    | succ f =>
      by_cases h : a < l.length
      · obtain ⟨m, hm⟩ : ∃ m, l.length - a = m + 1 := ⟨l.length - a - 1, by omega⟩
        rw [hm]
        show (if a < l.length then _ else _) = (if a < l.length then _ else _)
        rw [if_pos h, if_pos h]
        have he := endAt_gt h
        split
        · rw [ih f (by omega) (a + 1) (by omega), ← ih m (by omega) (a + 1) (by omega)]
        · rw [ih f (by omega) (endAt l a) (by omega), ← ih m (by omega) (endAt l a) (by omega)]
      · have e : l.length - a = 0 := by omega
        rw [e]
        show (if a < l.length then _ else _) = []
        rw [if_neg h]
def scan (l : List Nat) (a : Nat) : List (Nat × Nat) := scanF l (l.length - a) a
theorem scan_end {l : List Nat} {a : Nat} (h : l.length ≤ a) : scan l a = [] := by
  unfold scan
  have : l.length - a = 0 := by omega
  rw [this]
  rfl
theorem scan_eq {l : List Nat} {a : Nat} (h : a < l.length) : scan l a = if l[a]? = some 32 then scan l (a + 1) else (a, endAt l a) :: scan l (endAt l a) := by
  have he := endAt_gt h
  obtain ⟨m, hm⟩ : ∃ m, l.length - a = m + 1 := ⟨l.length - a - 1, by omega⟩
  unfold scan
  rw [hm]
  show (if a < l.length then _ else _) = _
  rw [if_pos h, scanF_more l m (a + 1) (by omega), scanF_more l m (endAt l a) (by omega)]
def sub (l : List Nat) (a e : Nat) : Str := mkS ((l.drop a).take (e - a))
def sortS (t : Str) : Str := match cd t with
  | [] => ""
  | c :: _ => if c = 35 then "remark" else if c ∈ SMALLC then (if t ∈ WORDL then "word" else "name") else if c ∈ GREATC then "Name" else if t ∈ SIGNL then "sign" else "wrong"
theorem cut_sub {z : Str} {a e : Nat} (h1 : a ≤ z.length) (h2 : e ≤ z.length) : cutS z (some (a : Int)) (some (e : Int)) = sub (cd z) a e := by
  unfold cutS sub
  rw [HT.sIx_nat, HT.sIx_nat, Nat.min_eq_left h1, Nat.min_eq_left h2]
  rfl
theorem cut_two {z : Str} {a : Nat} (h1 : a ≤ z.length) : cutS z (some (a : Int)) (some ((a : Int) + 2)) = mkS (((cd z).drop a).take 2) := by
  have e : ((a : Int) + 2) = ((a + 2 : Nat) : Int) := by omega
  rw [e]
  unfold cutS mkS
  rw [HT.sIx_nat, HT.sIx_nat, Nat.min_eq_left h1]
  congr 2
  have hl : z.length = z.cps.toList.length := len_cd z
  have hl2 : (cd z).length = z.cps.toList.length := rfl
  by_cases h : a + 2 ≤ z.length
  · rw [Nat.min_eq_left h]
    congr 1
    omega
  · rw [Nat.min_eq_right (by omega)]
    rw [List.take_of_length_le (by rw [List.length_drop]; omega), List.take_of_length_le (by rw [List.length_drop]; omega)]
theorem sub_ne {l : List Nat} {a e : Nat} (h : a < l.length) (he : a < e) : ∃ r, cd (sub l a e) = l[a] :: r := by
  unfold sub
  rw [cd_mkS, List.drop_eq_getElem_cons h]
  obtain ⟨m, hm⟩ : ∃ m, e - a = m + 1 := ⟨e - a - 1, by omega⟩
  rw [hm, List.take_succ_cons]
  exact ⟨_, rfl⟩
theorem at_cd {z : Str} {a : Nat} (h : a < (cd z).length) : atI (cd z) (a : Int) = some (cd z)[a] := atI_nat (List.getElem?_eq_getElem h)

/-! ### end_of, sort_of -/
def sp_end_of : DSp := fun sls C => ∃ (z : Str) (a : Nat), sls = [.val (.str z), .val (.int (a : Nat))] ∧ a < z.length ∧ z.length ≤ 1000000 ∧ C (.val (.int (endAt (cd z) a : Nat))) sls
theorem sgn_iff {c d : Nat} {y : Str} (hy : y = ⟨#[d]⟩) : ((⟨#[c]⟩ : Str) = y) ↔ c = d := by
  subst hy
  constructor
  · intro h
    have := congrArg cd h
    simpa [cd] using this
  · intro h; rw [h]
theorem hash_is : ("#" : Str) = ⟨#[35]⟩ := by decide +kernel
theorem blank_is : (" " : Str) = ⟨#[32]⟩ := by decide +kernel
theorem one_eq (c d : Nat) : ((⟨#[c]⟩ : Str) = ⟨#[d]⟩) = (c = d) := by
  apply propext
  constructor
  · intro h
    have := congrArg cd h
    simpa [cd] using this
  · intro h; rw [h]
theorem l_end_of : ∀ sls C, sp_end_of sls C → b_end_of (endsD sls.length C) (startD N_end_of sls) := by
  rintro sls C ⟨z, a, rfl, ha, hz, h⟩
  have hs := sl_line
  have hl := len_cd z
  have ha' : a < (cd z).length := by omega
  have hq : (cd z)[a]? = some (cd z)[a] := List.getElem?_eq_getElem ha'
  have hcd := at_cd ha'
  generalize hc : (cd z)[a] = c at *
  unfold endAt at h
  rw [hq] at h
  simp only [Option.some.injEq] at h
  walk_at "w"
  refine ⟨by omega, ?_⟩
  walk_at "w"
  rw [hcd]
  walk_at "w"
  refine ⟨fun e => ?_, fun e => ?_⟩
  · have e : c = 35 := (sgn_iff hash_is).mp (of_decide_eq_true e)
    rw [if_pos e] at h
    walk_at "w"
    refine ⟨by omega, ?_⟩
    rw [← hl] at h
    exact h
  have n35 : ¬ c = 35 := fun q => of_decide_eq_false e ((sgn_iff hash_is).mpr q)
  rw [if_neg n35] at h
  clear e
  walk_at "w"
  refine ⟨by omega, ?_⟩
  walk_at "w"
  rw [hcd]
  walk_at "w"
  refine ⟨fun e => ?_, fun e => ?_⟩
  · have e : inRow c = true := e
    rw [if_pos e] at h
    walk_at "w"
    refine ⟨rfl, ?_⟩
    refine while_inv (fun m δ => ∃ k : Nat, δ = [some (.val (.str z)), some (.val (.int (a : Nat))), some (.val (.int ((a + 1 + k : Nat) : Int)))] ∧ a + 1 + k ≤ (cd z).length ∧ m = (cd z).length - (a + 1 + k) ∧
      ∀ j d, j < k → ((cd z).drop (a + 1))[j]? = some d → inRow d = true) (fun m δ hP N hN => ?_) (n := (cd z).length - (a + 1)) ⟨0, by
      have : ((a + 1 + 0 : Nat) : Int) = (a : Int) + 1 := by omega
      rw [this]
      rfl, by omega, by omega, by omega⟩
    obtain ⟨k, rfl, hk, rfl, hrow⟩ := hP
    have fin : (∀ d, ((cd z).drop (a + 1))[k]? = some d → inRow d = false) → C (.val (.int ((a + 1 + k : Nat) : Int))) [.val (.str z), .val (.int (a : Nat))] := fun q => by
      have := runLen_is ((cd z).drop (a + 1)) k hrow (by rw [List.length_drop]; omega) q
      rw [this] at h
      exact h
    walk_at "w"
    refine ⟨by omega, ?_⟩
    walk_at "w"
    refine ⟨fun e2 => ?_, fun e2 => ?_⟩
    · have e2 := of_decide_eq_true e2
      have hi : a + 1 + k < (cd z).length := by omega
      walk_at "w"
      refine ⟨by omega, ?_⟩
      walk_at "w"
      rw [at_cd hi]
      walk_at "w"
      refine ⟨fun e3 => ?_, fun e3 => ?_⟩
      · walk_at "w"
        refine ⟨rfl, hN ((cd z).length - (a + 1 + k) - 1) _ (by omega) ⟨k + 1, ?_, by omega, by omega, fun j d hj hd => ?_⟩⟩
        · have : ((a + 1 + k : Nat) : Int) + 1 = ((a + 1 + (k + 1) : Nat) : Int) := by omega
          rw [← this]
          rfl
        · by_cases hjk : j < k
          · exact hrow j d hjk hd
          · have : j = k := by omega
            subst this
            rw [List.getElem?_drop, List.getElem?_eq_getElem hi] at hd
            cases hd
            exact e3
      · refine fin fun d hd => ?_
        rw [List.getElem?_drop, List.getElem?_eq_getElem hi] at hd
        cases hd
        exact e3
    · have e2 := of_decide_eq_false e2
      refine ⟨fun q => (by cases q), fun _ => ?_⟩
      refine fin fun d hd => ?_
      have := (List.getElem?_eq_some_iff.mp hd).1
      rw [List.length_drop] at this
      omega
  · have e : inRow c = false := e
    rw [if_neg (by rw [e]; decide)] at h
    walk_at "w"
    refine ⟨by omega, ?_⟩
    rw [cut_two (by omega)]
    walk_at "w"
    refine ⟨rfl, flat_strs LONGL, ?_⟩
    have an := any_strs LONGL (mkS (((cd z).drop a).take 2))
    walk_at "w"
    refine ⟨fun e2 => ?_, fun e2 => ?_⟩
    · have e2 := of_decide_eq_true (an.symm.trans e2)
      rw [if_pos e2] at h
      exact h
    · have e2 := of_decide_eq_false (an.symm.trans e2)
      rw [if_neg e2] at h
      exact h
def sp_sort_of : DSp := fun sls C => ∃ (t : Str), sls = [.val (.str t)] ∧ 0 < t.length ∧ t.length ≤ 1000000 ∧ C (.val (.str (sortS t))) sls
theorem l_sort_of : ∀ sls C, sp_sort_of sls C → b_sort_of (endsD sls.length C) (startD N_sort_of sls) := by
  rintro sls C ⟨t, rfl, h0, hz, h⟩
  have hs := sl_line
  have hl := len_cd t
  obtain ⟨c, r, hc⟩ : ∃ c r, cd t = c :: r := by
    cases q : cd t with
    | nil => rw [q] at hl; simp at hl; omega
    | cons c r => exact ⟨c, r, rfl⟩
  unfold sortS at h
  rw [hc] at h
  simp only at h
  have hat : atI (cd t) 0 = some c := by rw [hc]; exact atI_nat (j := 0) rfl
  walk_at "w"
  refine ⟨by omega, ?_⟩
  rw [hat]
  walk_at "w"
  refine ⟨rfl, ?_⟩
  walk_at "w"
  refine ⟨fun e => ?_, fun e => ?_⟩
  · have e : c = 35 := (sgn_iff hash_is).mp (of_decide_eq_true e)
    rw [if_pos e] at h
    exact h
  have n35 : ¬ c = 35 := fun q => of_decide_eq_false e ((sgn_iff hash_is).mpr q)
  rw [if_neg n35] at h
  walk_at "w"
  refine ⟨fun e => ?_, fun e => ?_⟩
  · have e : c ∈ SMALLC := of_decide_eq_true e
    rw [if_pos e] at h
    walk_at "w"
    refine ⟨rfl, flat_strs WORDL, ?_⟩
    have an := any_strs WORDL t
    refine ⟨fun e2 => ?_, fun e2 => ?_⟩
    · have e2 := of_decide_eq_true (an.symm.trans e2)
      rw [if_pos e2] at h
      exact h
    · have e2 := of_decide_eq_false (an.symm.trans e2)
      rw [if_neg e2] at h
      exact h
  have e : ¬ c ∈ SMALLC := of_decide_eq_false e
  rw [if_neg e] at h
  walk_at "w"
  refine ⟨fun e => ?_, fun e => ?_⟩
  · have e : c ∈ GREATC := of_decide_eq_true e
    rw [if_pos e] at h
    exact h
  have e : ¬ c ∈ GREATC := of_decide_eq_false e
  rw [if_neg e] at h
  walk_at "w"
  refine ⟨rfl, flat_strs SIGNL, ?_⟩
  have an := any_strs SIGNL t
  refine ⟨fun e2 => ?_, fun e2 => ?_⟩
  · have e2 := of_decide_eq_true (an.symm.trans e2)
    rw [if_pos e2] at h
    exact h
  · have e2 := of_decide_eq_false (an.symm.trans e2)
    rw [if_neg e2] at h
    exact h
end K15

namespace K15
open PySem PySem.Spec PyProof.Rows L2 DD
local macro_rules | `(tactic| walk_at "nd") => `(tactic| first | decide | simp [slots])
local macro_rules | `(tactic| walk_at "w") => `(tactic| conv => whnf)
theorem scan_mem (l : List Nat) : ∀ (n a : Nat), l.length - a = n → ∀ p ∈ scan l a, p.1 < p.2 ∧ p.2 ≤ l.length := by
  intro n
  induction n using Nat.strongRecOn with
  | ind n ih =>
    intro a hn p hp
    by_cases h : a < l.length
    · have he := endAt_gt h
      rw [scan_eq h] at hp
      split at hp
      · exact ih (l.length - (a + 1)) (by omega) (a + 1) rfl p hp
      · rcases List.mem_cons.mp hp with hp | hp
        · subst hp; exact he
        · exact ih (l.length - endAt l a) (by omega) _ rfl p hp
    · rw [scan_end (by omega)] at hp
      cases hp
theorem scan_len (l : List Nat) : ∀ (n a : Nat), l.length - a = n → (scan l a).length ≤ l.length - a := by
  intro n
  induction n using Nat.strongRecOn with
  | ind n ih =>
    intro a hn
    by_cases h : a < l.length
    · have he := endAt_gt h
      rw [scan_eq h]
      split
      · have := ih (l.length - (a + 1)) (by omega) (a + 1) rfl
        omega
      · have := ih (l.length - endAt l a) (by omega) _ rfl
        rw [List.length_cons]
        omega
    · rw [scan_end (by omega)]
      simp
def progRow (l : List Nat) (p : Nat × Nat) : PyData := .tuple [.int (p.1 : Nat), .str (sub l p.1 p.2)]
def lawRow (l : List Nat) (p : Nat × Nat) : PyData := .tuple [.int (p.1 : Nat), .str (sortS (sub l p.1 p.2)), .str (sub l p.1 p.2)]
def tokD (l : List Nat) (p : Nat × Nat) : PyData := .tuple [.str (sortS (sub l p.1 p.2)), .str (sub l p.1 p.2)]
def atD (p : Nat × Nat) : PyData := .int (p.1 : Nat)
theorem sub_len {l : List Nat} {a e : Nat} (h : a < e) (h2 : e ≤ l.length) : (sub l a e).length = e - a := by
  rw [len_cd]
  unfold sub
  rw [cd_mkS, List.length_take, List.length_drop]
  omega
/-! ### the program's walk -/
def sp_scanned : DSp := fun sls C => ∃ (z : Str), sls = [.val (.str z)] ∧ z.length ≤ 1000000 ∧ C (.own ((scan (cd z) 0).map (progRow (cd z)))) sls
theorem l_scanned : ∀ sls C, sp_scanned sls C → b_scanned sp_end_of (endsD sls.length C) (startD N_scanned sls) := by
  rintro sls C ⟨z, rfl, hz, h⟩
  have hs := sl_line
  have hl := len_cd z
  have hsl := scan_len (cd z) _ 0 rfl
  walk_at "w"
  refine ⟨by show 0 ≤ sizeLine; omega, rfl, ?_⟩
  walk_at "w"
  refine ⟨rfl, ?_⟩
  refine while_inv (fun m δ => ∃ (a : Nat) (pre : List (Nat × Nat)) (x3 : Option Sl), δ = [some (.val (.str z)), some (.own (pre.map (progRow (cd z)))), some (.val (.int (a : Nat))), x3] ∧ (x3 = none ∨ ∃ d, x3 = some (.val d)) ∧
    m = (cd z).length - a ∧ pre ++ scan (cd z) a = scan (cd z) 0) (fun m δ hP N hN => ?_) (n := (cd z).length) ⟨0, [], none, rfl, .inl rfl, rfl, rfl⟩
  obtain ⟨a, pre, x3, rfl, hx, rfl, hpre⟩ := hP
  have hx3 : notParB [some (.val (.str z)), some (.own (pre.map (progRow (cd z)))), some (.val (.int (a : Nat))), x3] 3 = true := by
    rcases hx with rfl | ⟨d, rfl⟩ <;> rfl
  have hpl : pre.length ≤ (cd z).length := by
    have := congrArg List.length hpre
    rw [List.length_append] at this
    omega
  walk_at "w"
  refine ⟨by omega, ?_⟩
  walk_at "w"
  refine ⟨fun e => ?_, fun e => ?_⟩
  · have e := of_decide_eq_true e
    have ha : a < (cd z).length := by omega
    have hq : (cd z)[a]? = some (cd z)[a] := List.getElem?_eq_getElem ha
    have hcd := at_cd ha
    have he := endAt_gt ha
    rw [scan_eq ha, hq] at hpre
    generalize hc : (cd z)[a] = c at *
    walk_at "w"
    refine ⟨by omega, ?_⟩
    walk_at "w"
    rw [hcd]
    walk_at "w"
    refine ⟨fun e2 => ?_, fun e2 => ?_⟩
    · have e2 := (sgn_iff blank_is).mp (of_decide_eq_true e2)
      subst e2
      rw [if_pos rfl] at hpre
      walk_at "w"
      refine ⟨rfl, hN ((cd z).length - (a + 1)) _ (by omega) ⟨a + 1, pre, x3, ?_, hx, rfl, hpre⟩⟩
      have : ((a + 1 : Nat) : Int) = (a : Int) + 1 := by omega
      rw [this]
      rfl
    · have e2 : ¬ c = 32 := fun q => of_decide_eq_false e2 ((sgn_iff blank_is).mpr q)
      rw [if_neg (fun q => e2 (Option.some.inj q))] at hpre
      walk_at "w"
      refine ⟨by walk_at "nd", z, a, rfl, by omega, hz, ?_⟩
      refine ⟨hx3, ?_⟩
      walk_at "w"
      refine ⟨rfl, ?_⟩
      walk_at "w"
      refine ⟨by omega, ?_⟩
      rw [cut_sub (by omega) (by omega)]
      walk_at "w"
      refine ⟨by show 2 ≤ sizeLine; omega, ?_⟩
      walk_at "w"
      refine ⟨by rw [List.length_map]; omega, ?_⟩
      walk_at "w"
      refine ⟨rfl, hN ((cd z).length - endAt (cd z) a) _ (by omega) ⟨endAt (cd z) a, pre ++ [(a, endAt (cd z) a)], some (.val (.int ((endAt (cd z) a : Nat) : Int))), ?_, .inr ⟨_, rfl⟩, rfl, ?_⟩⟩
      · rw [List.map_append]
        rfl
      · rw [List.append_assoc]
        exact hpre
  · have e := of_decide_eq_false e
    rw [scan_end (by omega), List.append_nil] at hpre
    subst hpre
    walk_at "w"
    exact h
def sp_tokens : DSp := fun sls C => ∃ (z : Str), sls = [.val (.str z)] ∧ z.length ≤ 1000000 ∧ C (.val (.tuple ((scan (cd z) 0).map (tokD (cd z))))) sls
theorem l_tokens : ∀ sls C, sp_tokens sls C → b_tokens sp_scanned sp_sort_of (endsD sls.length C) (startD N_tokens sls) := by
  rintro sls C ⟨z, rfl, hz, h⟩
  have hs := sl_line
  have hl := len_cd z
  have hsl := scan_len (cd z) _ 0 rfl
  have hsm := scan_mem (cd z) _ 0 rfl
  walk_at "w"
  refine ⟨by walk_at "nd", z, rfl, hz, ?_⟩
  walk_at "w"
  refine ⟨rfl, ?_⟩
  refine lcL_inv (fun ds acc δ => δ = [some (.val (.str z)), none, none] ∧ ∃ pre post : List (Nat × Nat), pre ++ post = scan (cd z) 0 ∧ ds = post.map (progRow (cd z)) ∧ acc = pre.map (tokD (cd z))) (fun d ds acc δ hP N hN => ?_) (fun acc δ hP => ?_) _ _ _
    ⟨rfl, [], _, rfl, rfl, rfl⟩
  · obtain ⟨rfl, pre, post, e, e2, rfl⟩ := hP
    cases post with
    | nil => cases e2
    | cons p post =>
      cases e2
      obtain ⟨q1, q2⟩ := hsm p (by rw [← e]; simp)
      have q3 := sub_len q1 q2
      walk_at "w"
      refine ⟨rfl, rfl, ?_⟩
      walk_at "w"
      refine ⟨rfl, ?_⟩
      walk_at "w"
      refine ⟨fun _ => ?_, fun z => (by cases z)⟩
      walk_at "w"
      refine ⟨by walk_at "nd", _, rfl, by omega, by omega, ?_⟩
      walk_at "w"
      refine ⟨by show 2 ≤ sizeLine; omega, ?_⟩
      walk_at "w"
      refine ⟨?_, rfl, ?_⟩
      · have := congrArg List.length e
        rw [List.length_append, List.length_cons] at this
        rw [List.length_map]
        omega
      · refine hN _ _ ⟨rfl, pre ++ [p], post, by rw [List.append_assoc]; exact e, rfl, ?_⟩
        rw [List.map_append]
        rfl
  · obtain ⟨rfl, pre, post, e, e2, rfl⟩ := hP
    have e3 : post = [] := by simpa using e2.symm
    subst e3
    rw [List.append_nil] at e
    subst e
    exact h
/-! ### shapes -/
theorem ok_strs {z : Str} (h : ∀ c ∈ cd z, c < 128) : PyData.strOk z = true := by
  unfold PyData.strOk
  rw [Array.all_eq_true']
  intro c hc
  have := h c (by simpa using hc)
  simp
  omega
theorem sub_asc {l : List Nat} (h : ∀ c ∈ l, c < 128) (a e : Nat) : ∀ c ∈ cd (sub l a e), c < 128 := by
  intro c hc
  unfold sub at hc
  rw [cd_mkS] at hc
  exact h c (List.mem_of_mem_drop (List.mem_of_mem_take hc))
theorem sortS_asc (t : Str) : ∀ c ∈ cd (sortS t), c < 128 := by
  have k : ∀ s ∈ (["", "remark", "word", "name", "Name", "sign", "wrong"] : List Str), ∀ c ∈ cd s, c < 128 := by decide +kernel
  have : sortS t ∈ (["", "remark", "word", "name", "Name", "sign", "wrong"] : List Str) := by
    unfold sortS
    split
    · simp
    · split
      · simp
      · split
        · split <;> simp
        · split
          · simp
          · split <;> simp
  exact k _ this
theorem shaped_all {ds : List PyData} (h : ∀ d ∈ ds, d.canLay0 = true ∧ d.depth ≤ 3) : SeqAt.shaped (.tuple ds) = true := by
  have k : PyData.canLayAll0 ds = true ∧ PyData.depthAll ds ≤ 3 := by
    induction ds with
    | nil => exact ⟨rfl, Nat.zero_le _⟩
    | cons d ds ih =>
      obtain ⟨h1, h2⟩ := h d List.mem_cons_self
      obtain ⟨h3, h4⟩ := ih fun e he => h e (List.mem_cons_of_mem _ he)
      refine ⟨?_, ?_⟩
      · unfold PyData.canLayAll0
        rw [h1, h3]
        rfl
      · unfold PyData.depthAll
        omega
  unfold SeqAt.shaped
  rw [Bool.and_eq_true]
  refine ⟨?_, decide_eq_true ?_⟩
  · show PyData.canLayAll0 ds = true
    exact k.1
  · show PyData.depthAll ds + 1 ≤ 64
    omega
theorem lay_str {z : Str} (h : ∀ c ∈ cd z, c < 128) : (PyData.str z).canLay0 = true := ok_strs h
theorem lay_tok {l : List Nat} (h : ∀ c ∈ l, c < 128) (p : Nat × Nat) : (tokD l p).canLay0 = true ∧ (tokD l p).depth ≤ 3 := by
  refine ⟨?_, by show max 0 (max 0 0) + 1 ≤ 3; decide⟩
  show (PyData.canLay0 (.str _) && (PyData.canLay0 (.str _) && true)) = true
  rw [lay_str (sortS_asc _), lay_str (sub_asc h _ _)]
  rfl
theorem tok_shaped {l : List Nat} (h : ∀ c ∈ l, c < 128) (p : Nat × Nat) : SeqAt.shaped (tokD l p) = true := by
  unfold tokD
  refine shaped_all fun d hd => ?_
  rcases List.mem_cons.mp hd with hd | hd
  · subst hd; exact ⟨lay_str (sortS_asc _), by show 0 ≤ 3; decide⟩
  · rw [List.mem_singleton] at hd
    subst hd
    exact ⟨lay_str (sub_asc h _ _), by show 0 ≤ 3; decide⟩
theorem eqv_self {d : PyData} (h : SeqAt.shaped d = true) : PyData.eqv d d = true := by
  unfold SeqAt.shaped at h
  rw [Bool.and_eq_true] at h
  exact SeqAt.eqv_refl d h.1
end K15

namespace K15
open PySem PySem.Spec PyProof.Rows L2 DD
local macro_rules | `(tactic| walk_at "nd") => `(tactic| first | decide | simp [slots])
local macro_rules | `(tactic| walk_at "w") => `(tactic| conv => whnf)
/-! ### the law's own lexer -/
theorem more_index (c : Nat) (h : inRow c = true) : ∃ k, Txt.index0 MORE ⟨#[c]⟩ = some k ∧ (k < 52 ↔ c ∈ SMALLC ∨ c ∈ GREATC) := by
  have key : ∀ c ∈ cd MORE, (match Txt.index0 MORE ⟨#[c]⟩ with | some k => decide (k < 52) == (decide (c ∈ SMALLC) || decide (c ∈ GREATC)) | none => false) = true := by decide +kernel
  have := key c (of_decide_eq_true h)
  split at this
  · rename_i k hk
    refine ⟨k, hk, ?_⟩
    rw [beq_iff_eq] at this
    constructor
    · intro q
      rw [decide_eq_true q] at this
      have := this.symm
      rw [Bool.or_eq_true] at this
      rcases this with q | q
      · exact .inl (of_decide_eq_true q)
      · exact .inr (of_decide_eq_true q)
    · intro q
      have e : (decide (c ∈ SMALLC) || decide (c ∈ GREATC)) = true := by
        rw [Bool.or_eq_true]
        rcases q with q | q
        · exact .inl (decide_eq_true q)
        · exact .inr (decide_eq_true q)
      rw [e] at this
      exact of_decide_eq_true this
  · cases this
theorem small_row {c : Nat} (h : c ∈ SMALLC) : inRow c = true := by
  have : ∀ c ∈ SMALLC, inRow c = true := by decide +kernel
  exact this c h
theorem great_row {c : Nat} (h : c ∈ GREATC) : inRow c = true := by
  have : ∀ c ∈ GREATC, inRow c = true := by decide +kernel
  exact this c h
theorem small_not {c : Nat} (h : c ∈ SMALLC) : c ≠ 95 ∧ c ∉ GREATC := by
  have : ∀ c ∈ SMALLC, c ≠ 95 ∧ c ∉ GREATC := by decide +kernel
  exact this c h
theorem great_not {c : Nat} (h : c ∈ GREATC) : c ≠ 95 ∧ c ∉ SMALLC := by
  have : ∀ c ∈ GREATC, c ≠ 95 ∧ c ∉ SMALLC := by decide +kernel
  exact this c h
/-- a sign that begins as a row does is the underscore -/
theorem sign_row {t : Str} {c : Nat} {r : List Nat} (h : t ∈ SIGNL) (e : cd t = c :: r) (hc : inRow c = true) : t = "_" := by
  have key : ∀ t ∈ SIGNL, (match cd t with | c :: _ => !inRow c || decide (t = "_") | [] => false) = true := by decide +kernel
  have := key t h
  rw [e] at this
  simp only [hc] at this
  simpa using this
theorem under_sign : ("_" : Str) ∈ SIGNL := by decide +kernel
theorem under_cd : cd ("_" : Str) = [95] := by decide +kernel
theorem long_sign {t : Str} (h : t ∈ LONGL) : t ∈ SIGNL := by
  have : ∀ t ∈ LONGL, t ∈ SIGNL := by decide +kernel
  exact this t h
theorem sign_long {t : Str} (h : t ∈ SIGNL) (e : t.length = 2) : t ∈ LONGL := by
  have : ∀ t ∈ SIGNL, t.length = 2 → t ∈ LONGL := by decide +kernel
  exact this t h e
theorem sort_hash {t : Str} {r : List Nat} (e : cd t = 35 :: r) : sortS t = "remark" := by
  unfold sortS
  rw [e]
  rfl
/-- how the law sorts what begins as a row -/
theorem sort_row {t : Str} {c : Nat} {r : List Nat} {k : Nat} (e : cd t = c :: r) (hc : inRow c = true) (hk : k < 52 ↔ c ∈ SMALLC ∨ c ∈ GREATC) :
    (if t = "_" then "sign" else if c ∈ SMALLC then (if t ∈ WORDL then "word" else "name") else if k < 52 then "Name" else "wrong" : Str) = sortS t := by
  have n35 : ¬ c = 35 := fun q => by subst q; revert hc; decide +kernel
  unfold sortS
  rw [e]
  simp only
  rw [if_neg n35]
  by_cases h1 : c ∈ SMALLC
  · have h2 : ¬ t = "_" := fun q => by
      rw [q, under_cd] at e
      cases e
      exact (small_not h1).1 rfl
    rw [if_neg h2, if_pos h1, if_pos h1]
  · rw [if_neg h1, if_neg h1]
    by_cases h2 : c ∈ GREATC
    · have h3 : ¬ t = "_" := fun q => by
        rw [q, under_cd] at e
        cases e
        exact (great_not h2).1 rfl
      rw [if_neg h3, if_pos (hk.mpr (.inr h2)), if_pos h2]
    · rw [if_neg h2]
      have h3 : ¬ k < 52 := fun q => (hk.mp q).elim h1 h2
      rw [if_neg h3]
      by_cases h4 : t = "_"
      · rw [if_pos h4, if_pos (by rw [h4]; exact under_sign)]
      · rw [if_neg h4, if_neg fun q => h4 (sign_row q e hc)]
theorem sort_other {t : Str} {c : Nat} {r : List Nat} (e : cd t = c :: r) (hc : inRow c = false) (n35 : ¬ c = 35) : sortS t = (if t ∈ SIGNL then ("sign" : Str) else "wrong") := by
  unfold sortS
  rw [e]
  simp only
  have h1 : ¬ c ∈ SMALLC := fun q => by rw [small_row q] at hc; cases hc
  have h2 : ¬ c ∈ GREATC := fun q => by rw [great_row q] at hc; cases hc
  rw [if_neg n35, if_neg h1, if_neg h2]
def sp__law_lexed : DSp := fun sls C => ∃ (z : Str), sls = [.val (.str z)] ∧ z.length ≤ 1000000 ∧ C (.own ((scan (cd z) 0).map (lawRow (cd z)))) sls
def valO (x : Option Sl) : Prop := x = none ∨ ∃ d, x = some (.val d)
theorem l__law_lexed : ∀ sls C, sp__law_lexed sls C → b__law_lexed sp__law_words sp__law_signs sp__law_more sp__law_small (endsD sls.length C) (startD N__law_lexed sls) := by
  rintro sls C ⟨z, rfl, hz, h⟩
  have hs := sl_line
  have hl := len_cd z
  have hsl := scan_len (cd z) _ 0 rfl
  walk_at "w"
  refine ⟨by show 0 ≤ sizeLine; omega, rfl, ?_⟩
  walk_at "w"
  refine ⟨by walk_at "nd", rfl, ?_⟩
  walk_at "w"
  refine ⟨rfl, ?_⟩
  walk_at "w"
  refine ⟨by walk_at "nd", rfl, ?_⟩
  walk_at "w"
  refine ⟨rfl, ?_⟩
  walk_at "w"
  refine ⟨by walk_at "nd", rfl, ?_⟩
  walk_at "w"
  refine ⟨rfl, ?_⟩
  walk_at "w"
  refine ⟨rfl, ?_⟩
  walk_at "w"
  refine ⟨by omega, ?_⟩
  walk_at "w"
  refine ⟨by omega, by omega, ?_⟩
  have fin : ∀ (a : Nat) (pre : List (Nat × Nat)) (x6 x7 x8 x9 : Option Sl), (cd z).length ≤ a → pre ++ scan (cd z) a = scan (cd z) 0 → dRet (dVar 1) (endsD 1 C)
      [some (.val (.str z)), some (.own (pre.map (lawRow (cd z)))), some (.val (.list (WORDL.map PyData.str))), some (.val (.list (SIGNL.map PyData.str))), some (.val (.str MORE)), some (.val (.int (a : Nat))), x6, x7, x8, x9] := fun a pre x6 x7 x8 x9 ha hp => by
    rw [scan_end ha, List.append_nil] at hp
    subst hp
    exact h
  refine forR_inv 0 z.length (fun k δ => ∃ (a : Nat) (pre : List (Nat × Nat)) (x6 x7 x8 x9 : Option Sl), δ = [some (.val (.str z)), some (.own (pre.map (lawRow (cd z)))), some (.val (.list (WORDL.map PyData.str))), some (.val (.list (SIGNL.map PyData.str))), some (.val (.str MORE)), some (.val (.int (a : Nat))), x6, x7, x8, x9] ∧
      valO x6 ∧ valO x7 ∧ valO x8 ∧ valO x9 ∧ k ≤ a ∧ pre ++ scan (cd z) a = scan (cd z) 0) (fun k δ hk hP N hN => ?_) (fun δ hP => ?_) ⟨0, [], none, none, none, none, rfl, .inl rfl, .inl rfl, .inl rfl, .inl rfl, by omega, rfl⟩
  · obtain ⟨a, pre, x6, x7, x8, x9, rfl, v6, v7, v8, v9, hka, hpre⟩ := hP
    have hpl : pre.length ≤ (cd z).length := by
      have := congrArg List.length hpre
      rw [List.length_append] at this
      omega
    have np : ∀ (x6 x7 x8 x9 x5 : Option Sl), valO x6 → valO x7 → valO x8 → valO x9 → ∀ i, 6 ≤ i → notParB [some (.val (.str z)), some (.own (pre.map (lawRow (cd z)))), some (.val (.list (WORDL.map PyData.str))), some (.val (.list (SIGNL.map PyData.str))), some (.val (.str MORE)), x5, x6, x7, x8, x9] i = true := fun x6 x7 x8 x9 x5 v6 v7 v8 v9 i hi => by
      match i, hi with
      | 6, _ => rcases v6 with rfl | ⟨d, rfl⟩ <;> rfl
      | 7, _ => rcases v7 with rfl | ⟨d, rfl⟩ <;> rfl
      | 8, _ => rcases v8 with rfl | ⟨d, rfl⟩ <;> rfl
      | 9, _ => rcases v9 with rfl | ⟨d, rfl⟩ <;> rfl
      | i + 10, _ => rfl
    refine ⟨np x6 x7 x8 x9 _ v6 v7 v8 v9 6 (by decide), ?_⟩
    have w6 : valO (some (.val (.int (0 + (k : Nat))))) := .inr ⟨_, rfl⟩
    clear v6
    generalize (some (Sl.val (.int (0 + (k : Nat)))) : Option Sl) = y6 at w6 ⊢
    walk_at "w"
    refine ⟨by omega, ?_⟩
    walk_at "w"
    refine ⟨fun e => ?_, fun e => ?_⟩
    · have e := of_decide_eq_true e
      exact fin a pre y6 x7 x8 x9 (by omega) hpre
    have e := of_decide_eq_false e
    have ha : a < (cd z).length := by omega
    have hq : (cd z)[a]? = some (cd z)[a] := List.getElem?_eq_getElem ha
    have hcd := at_cd ha
    have he := endAt_gt ha
    rw [scan_eq ha, hq] at hpre
    walk_at "w"
    refine ⟨by omega, ?_⟩
    walk_at "w"
    rw [hcd]
    walk_at "w"
    refine ⟨fun e2 => ?_, fun e2 => ?_⟩
    · have e2 := (sgn_iff blank_is).mp (of_decide_eq_true e2)
      rw [e2, if_pos rfl] at hpre
      walk_at "w"
      refine ⟨rfl, ?_⟩
      refine hN _ ⟨a + 1, pre, y6, x7, x8, x9, ?_, w6, v7, v8, v9, by omega, hpre⟩
      have : ((a + 1 : Nat) : Int) = (a : Int) + 1 := by omega
      rw [this]
      rfl
    have e2 : ¬ (cd z)[a] = 32 := fun q => of_decide_eq_false e2 ((sgn_iff blank_is).mpr q)
    rw [if_neg (fun q => e2 (Option.some.inj q))] at hpre
    walk_at "w"
    refine ⟨np y6 x7 x8 x9 _ w6 v7 v8 v9 7 (by decide), ?_⟩
    dsimp only
    refine seq_cut (fun δ => ∃ x9, valO x9 ∧ δ = [some (.val (.str z)), some (.own (pre.map (lawRow (cd z)))), some (.val (.list (WORDL.map PyData.str))), some (.val (.list (SIGNL.map PyData.str))), some (.val (.str MORE)), some (.val (.int (a : Nat))), y6,
      some (.val (.int ((endAt (cd z) a : Nat) : Int))), some (.val (.str (sortS (sub (cd z) a (endAt (cd z) a))))), x9]) (fun N2 hN2 => ?_) ?_
    · obtain ⟨r, hr⟩ := sub_ne ha he.1
      have h7 : ((a : Int) + 1) = ((a + 1 : Nat) : Int) := by omega
      have hE : endAt (cd z) a = if (cd z)[a] = 35 then (cd z).length else if inRow (cd z)[a] = true then a + 1 + runLen ((cd z).drop (a + 1)) else if mkS (((cd z).drop a).take 2) ∈ LONGL then a + 2 else a + 1 := by
        unfold endAt
        rw [hq]
        simp only [Option.some.injEq]
      walk_at "w"
      refine ⟨by omega, ?_⟩
      walk_at "w"
      rw [hcd]
      walk_at "w"
      refine ⟨fun e3 => ?_, fun e3 => ?_⟩
      · have e3 := (sgn_iff hash_is).mp (of_decide_eq_true e3)
        rw [if_pos e3] at hE
        rw [e3] at hr
        walk_at "w"
        refine ⟨by omega, rfl, ?_⟩
        walk_at "w"
        refine ⟨np y6 _ x8 x9 _ w6 (.inr ⟨_, rfl⟩) v8 v9 8 (by decide), ?_⟩
        refine hN2 _ ⟨x9, v9, ?_⟩
        rw [sort_hash hr, hE, ← hl]
        rfl
      have n35 : ¬ (cd z)[a] = 35 := fun q => of_decide_eq_false e3 ((sgn_iff hash_is).mpr q)
      rw [if_neg n35] at hE
      walk_at "w"
      refine ⟨by omega, ?_⟩
      walk_at "w"
      rw [hcd]
      walk_at "w"
      refine ⟨fun e4 => ?_, fun e4 => ?_⟩
      · have e4 : inRow (cd z)[a] = true := e4
        rw [if_pos e4] at hE
        refine seq_cut (fun δ => ∃ x9, valO x9 ∧ δ = [some (.val (.str z)), some (.own (pre.map (lawRow (cd z)))), some (.val (.list (WORDL.map PyData.str))), some (.val (.list (SIGNL.map PyData.str))), some (.val (.str MORE)), some (.val (.int (a : Nat))), y6,
          some (.val (.int ((endAt (cd z) a : Nat) : Int))), x8, x9]) (fun N3 hN3 => ?_) ?_
        · walk_at "w"
          refine ⟨by omega, ⟨by omega, by omega, by omega, by omega⟩, ?_⟩
          have fin2 : ∀ (k2 : Nat) (x9 : Option Sl), valO x9 → a + 1 + k2 ≤ (cd z).length → (∀ j d, j < k2 → ((cd z).drop (a + 1))[j]? = some d → inRow d = true) → (∀ d, ((cd z).drop (a + 1))[k2]? = some d → inRow d = false) →
              N3 [some (.val (.str z)), some (.own (pre.map (lawRow (cd z)))), some (.val (.list (WORDL.map PyData.str))), some (.val (.list (SIGNL.map PyData.str))), some (.val (.str MORE)), some (.val (.int (a : Nat))), y6, some (.val (.int ((a + 1 + k2 : Nat) : Int))), x8, x9] := fun k2 x9 v9 h1 h2 h3 => by
            have := runLen_is ((cd z).drop (a + 1)) k2 h2 (by rw [List.length_drop]; omega) h3
            rw [this] at hE
            exact hN3 _ ⟨x9, v9, by rw [hE]⟩
          refine forR_inv ((a : Int) + 1) ((z.length : Int) - ((a : Int) + 1)).toNat (fun k2 δ => ∃ x9, valO x9 ∧ δ = [some (.val (.str z)), some (.own (pre.map (lawRow (cd z)))), some (.val (.list (WORDL.map PyData.str))), some (.val (.list (SIGNL.map PyData.str))), some (.val (.str MORE)), some (.val (.int (a : Nat))), y6,
            some (.val (.int ((a + 1 + k2 : Nat) : Int))), x8, x9] ∧ ∀ j d, j < k2 → ((cd z).drop (a + 1))[j]? = some d → inRow d = true) (fun k2 δ hk2 hP N4 hN4 => ?_) (fun δ hP => ?_) ⟨x9, v9, by rw [h7]; rfl, by omega⟩
          · obtain ⟨x9, v9, rfl, hrow⟩ := hP
            refine ⟨np y6 _ x8 x9 _ w6 (.inr ⟨_, rfl⟩) v8 v9 9 (by decide), ?_⟩
            have hi : a + 1 + k2 < (cd z).length := by omega
            have hci : ((a : Int) + 1 + (k2 : Nat)) = ((a + 1 + k2 : Nat) : Int) := by omega
            rw [hci]
            walk_at "w"
            refine ⟨by omega, ?_⟩
            walk_at "w"
            rw [at_cd hi]
            walk_at "w"
            refine ⟨fun e5 => ?_, fun e5 => ?_⟩
            · have e5 : inRow (cd z)[a + 1 + k2] = false := by
                have e5 : (!inRow (cd z)[a + 1 + k2]) = true := e5
                simpa using e5
              refine fin2 k2 _ (.inr ⟨_, rfl⟩) (by omega) hrow fun d hd => ?_
              rw [List.getElem?_drop, List.getElem?_eq_getElem hi] at hd
              cases hd
              exact e5
            · have e5 : inRow (cd z)[a + 1 + k2] = true := by
                have e5 : (!inRow (cd z)[a + 1 + k2]) = false := e5
                simpa using e5
              walk_at "w"
              refine ⟨rfl, hN4 _ ⟨some (.val (.int ((a + 1 + k2 : Nat) : Int))), .inr ⟨_, rfl⟩, ?_, fun j d hj hd => ?_⟩⟩
              · have : ((a + 1 + k2 : Nat) : Int) + 1 = ((a + 1 + (k2 + 1) : Nat) : Int) := by omega
                rw [← this]
                rfl
              · by_cases hjk : j < k2
                · exact hrow j d hjk hd
                · have : j = k2 := by omega
                  subst this
                  rw [List.getElem?_drop, List.getElem?_eq_getElem hi] at hd
                  cases hd
                  exact e5
          · obtain ⟨x9, v9, rfl, hrow⟩ := hP
            refine fin2 _ x9 v9 (by omega) hrow fun d hd => ?_
            have := (List.getElem?_eq_some_iff.mp hd).1
            rw [List.length_drop] at this
            omega
        · rintro _ ⟨x9, v9, rfl⟩
          obtain ⟨ki, hk1, hk2⟩ := more_index _ e4
          have hso := sort_row hr e4 hk2
          generalize hE1 : endAt (cd z) a = E at *
          refine seq_cut (fun δ => δ = [some (.val (.str z)), some (.own (pre.map (lawRow (cd z)))), some (.val (.list (WORDL.map PyData.str))), some (.val (.list (SIGNL.map PyData.str))), some (.val (.str MORE)), some (.val (.int (a : Nat))), y6,
            some (.val (.int ((E : Nat) : Int))), some (.val (.str (if ki < 52 then "Name" else "wrong"))), x9]) (fun N5 hN5 => ?_) ?_
          · walk_at "w"
            refine ⟨by omega, ?_⟩
            walk_at "w"
            rw [hcd]
            walk_at "w"
            rw [hk1]
            walk_at "w"
            refine ⟨fun e6 => ?_, fun e6 => ?_⟩
            · have e6 : ki < 52 := by have := of_decide_eq_true e6; omega
              refine ⟨np y6 _ x8 x9 _ w6 (.inr ⟨_, rfl⟩) v8 v9 8 (by decide), hN5 _ ?_⟩
              rw [if_pos e6]
              rfl
            · have e6 : ¬ ki < 52 := by have := of_decide_eq_false e6; omega
              refine ⟨np y6 _ x8 x9 _ w6 (.inr ⟨_, rfl⟩) v8 v9 8 (by decide), hN5 _ ?_⟩
              rw [if_neg e6]
              rfl
          · rintro _ rfl
            refine seq_cut (fun δ => δ = [some (.val (.str z)), some (.own (pre.map (lawRow (cd z)))), some (.val (.list (WORDL.map PyData.str))), some (.val (.list (SIGNL.map PyData.str))), some (.val (.str MORE)), some (.val (.int (a : Nat))), y6,
              some (.val (.int ((E : Nat) : Int))), some (.val (.str (if (cd z)[a] ∈ SMALLC then (if sub (cd z) a E ∈ WORDL then "word" else "name") else if ki < 52 then "Name" else "wrong"))), x9]) (fun N5 hN5 => ?_) ?_
            · walk_at "w"
              refine ⟨by omega, ?_⟩
              walk_at "w"
              rw [hcd]
              walk_at "w"
              refine ⟨by walk_at "nd", rfl, ?_⟩
              walk_at "w"
              refine ⟨fun e6 => ?_, fun e6 => ?_⟩
              · have e6 : (cd z)[a] ∈ SMALLC := of_decide_eq_true e6
                walk_at "w"
                refine ⟨by omega, ?_⟩
                rw [cut_sub (by omega) (by omega)]
                walk_at "w"
                refine ⟨rfl, flat_strs WORDL, ?_⟩
                have an := any_strs WORDL (sub (cd z) a E)
                walk_at "w"
                refine ⟨fun e7 => ?_, fun e7 => ?_⟩
                · have e7 := of_decide_eq_true (an.symm.trans e7)
                  refine ⟨np y6 _ _ x9 _ w6 (.inr ⟨_, rfl⟩) (.inr ⟨_, rfl⟩) v9 8 (by decide), hN5 _ ?_⟩
                  rw [if_pos e6, if_pos e7]
                  rfl
                · have e7 := of_decide_eq_false (an.symm.trans e7)
                  refine ⟨np y6 _ _ x9 _ w6 (.inr ⟨_, rfl⟩) (.inr ⟨_, rfl⟩) v9 8 (by decide), hN5 _ ?_⟩
                  rw [if_pos e6, if_neg e7]
                  rfl
              · have e6 : ¬ (cd z)[a] ∈ SMALLC := of_decide_eq_false e6
                refine hN5 _ ?_
                rw [if_neg e6]
                rfl
            · rintro _ rfl
              walk_at "w"
              refine ⟨by omega, ?_⟩
              rw [cut_sub (by omega) (by omega)]
              walk_at "w"
              refine ⟨fun e6 => ?_, fun e6 => ?_⟩
              · have e6 := of_decide_eq_true e6
                rw [if_pos e6] at hso
                refine ⟨np y6 _ _ x9 _ w6 (.inr ⟨_, rfl⟩) (.inr ⟨_, rfl⟩) v9 8 (by decide), hN2 _ ⟨x9, v9, ?_⟩⟩
                rw [← hso]
                rfl
              · have e6 := of_decide_eq_false e6
                rw [if_neg e6] at hso
                refine hN2 _ ⟨x9, v9, ?_⟩
                rw [← hso]
                all_goals rfl
      · have e4 : inRow (cd z)[a] = false := e4
        rw [if_neg (by rw [e4]; decide)] at hE
        have hso := sort_other hr e4 n35
        refine seq_cut (fun δ => δ = [some (.val (.str z)), some (.own (pre.map (lawRow (cd z)))), some (.val (.list (WORDL.map PyData.str))), some (.val (.list (SIGNL.map PyData.str))), some (.val (.str MORE)), some (.val (.int (a : Nat))), y6,
          some (.val (.int ((endAt (cd z) a : Nat) : Int))), x8, x9]) (fun N5 hN5 => ?_) ?_
        · walk_at "w"
          refine ⟨by omega, ?_⟩
          rw [cut_two (by omega)]
          walk_at "w"
          refine ⟨rfl, flat_strs SIGNL, ?_⟩
          have an := any_strs SIGNL (mkS (((cd z).drop a).take 2))
          walk_at "w"
          refine ⟨fun e5 => ?_, fun e5 => ?_⟩
          · have e5 := of_decide_eq_true (an.symm.trans e5)
            walk_at "w"
            refine ⟨by omega, ?_⟩
            walk_at "w"
            refine ⟨fun e6 => ?_, fun e6 => ?_⟩
            · have e6 := of_decide_eq_true e6
              have hlong : mkS (((cd z).drop a).take 2) ∈ LONGL := sign_long e5 (by
                rw [len_cd, cd_mkS, List.length_take, List.length_drop]
                omega)
              rw [if_pos hlong] at hE
              walk_at "w"
              refine ⟨rfl, hN5 _ ?_⟩
              rw [hE]
              have : ((a + 2 : Nat) : Int) = (a : Int) + 2 := by omega
              rw [this]
              rfl
            · have e6 := of_decide_eq_false e6
              have hlong : ¬ mkS (((cd z).drop a).take 2) ∈ LONGL := fun q => by
                have := take2_len q
                omega
              rw [if_neg hlong] at hE
              refine hN5 _ ?_
              rw [hE, ← h7]
              rfl
          · have e5 := of_decide_eq_false (an.symm.trans e5)
            have hlong : ¬ mkS (((cd z).drop a).take 2) ∈ LONGL := fun q => e5 (long_sign q)
            rw [if_neg hlong] at hE
            refine ⟨fun q => (by cases q), fun _ => ?_⟩
            refine hN5 _ ?_
            rw [hE, ← h7]
            rfl
        · rintro _ rfl
          walk_at "w"
          refine ⟨by omega, ?_⟩
          rw [cut_sub (by omega) (by omega)]
          walk_at "w"
          refine ⟨rfl, flat_strs SIGNL, ?_⟩
          have an := any_strs SIGNL (sub (cd z) a (endAt (cd z) a))
          walk_at "w"
          refine ⟨fun e5 => ?_, fun e5 => ?_⟩
          · have e5 := of_decide_eq_true (an.symm.trans e5)
            rw [if_pos e5] at hso
            refine ⟨np y6 _ x8 x9 _ w6 (.inr ⟨_, rfl⟩) v8 v9 8 (by decide), hN2 _ ⟨x9, v9, ?_⟩⟩
            rw [hso]
            rfl
          · have e5 := of_decide_eq_false (an.symm.trans e5)
            rw [if_neg e5] at hso
            refine ⟨np y6 _ x8 x9 _ w6 (.inr ⟨_, rfl⟩) v8 v9 8 (by decide), hN2 _ ⟨x9, v9, ?_⟩⟩
            rw [hso]
            rfl
    · rintro _ ⟨x9, v9, rfl⟩
      walk_at "w"
      refine ⟨rfl, by omega, ?_⟩
      rw [cut_sub (by omega) (by omega)]
      walk_at "w"
      refine ⟨by show 3 ≤ sizeLine; omega, ?_⟩
      walk_at "w"
      refine ⟨by rw [List.length_map]; omega, ?_⟩
      walk_at "w"
      refine ⟨rfl, hN _ ⟨endAt (cd z) a, pre ++ [(a, endAt (cd z) a)], y6, some (.val (.int ((endAt (cd z) a : Nat) : Int))), some (.val (.str (sortS (sub (cd z) a (endAt (cd z) a))))), x9, ?_, w6, .inr ⟨_, rfl⟩, .inr ⟨_, rfl⟩, v9, by omega, ?_⟩⟩
      · rw [List.map_append]
        rfl
      · rw [List.append_assoc]
        exact hpre
  · obtain ⟨a, pre, x6, x7, x8, x9, rfl, v6, v7, v8, v9, hka, hpre⟩ := hP
    exact fin a pre x6 x7 x8 x9 (by omega) hpre
end K15

namespace K15
open PySem PySem.Spec PyProof.Rows L2 DD
local macro_rules | `(tactic| walk_at "nd") => `(tactic| first | decide | simp [slots])
local macro_rules | `(tactic| walk_at "w") => `(tactic| conv => whnf)
/-! ### the parts of a text -/
theorem join_split (z y : Str) : PySem.Str.join y (Txt.split z y) = z := by
  rw [← StrLaws.glued_eq_join]
  unfold Txt.split
  split
  · rfl
  · split
    · rfl
    · exact PySem.StrLaws.glued_between_self z y _
theorem join_part (y : Str) : ∀ ps : List Str, (∀ p ∈ ps, ∀ c ∈ cd p, c ∈ cd (PySem.Str.join y ps)) ∧ (ps.map (·.length)).sum ≤ (PySem.Str.join y ps).length
  | [] => ⟨by simp, Nat.zero_le _⟩
  | [x] => by
    refine ⟨fun p hp c hc => ?_, ?_⟩
    · rw [List.mem_singleton] at hp
      subst hp
      exact hc
    · simp [PySem.Str.join]
  | x :: y2 :: r => by
    obtain ⟨h1, h2⟩ := join_part y (y2 :: r)
    have e : PySem.Str.join y (x :: y2 :: r) = x ++ y ++ PySem.Str.join y (y2 :: r) := rfl
    rw [e]
    refine ⟨fun p hp c hc => ?_, ?_⟩
    · have hm : ∀ a b : Str, cd (a ++ b) = cd a ++ cd b := fun a b => by
        show (a.cps ++ b.cps).toList = _
        simp
      rw [hm, hm, List.mem_append, List.mem_append]
      rcases List.mem_cons.mp hp with rfl | hp
      · exact .inl (.inl hc)
      · exact .inr (h1 p hp c hc)
    · rw [PySem.Str.length_append, PySem.Str.length_append]
      rw [List.map_cons, List.sum_cons]
      omega
theorem split_sum (z y : Str) : ((Txt.split z y).map (·.length)).sum ≤ z.length := by
  have := (join_part y (Txt.split z y)).2
  rw [join_split] at this
  exact this
theorem split_asc {z y : Str} (h : ∀ c ∈ cd z, c < 128) : ∀ p ∈ Txt.split z y, ∀ c ∈ cd p, c < 128 := fun p hp c hc => h c (by
  have := (join_part y (Txt.split z y)).1 p hp c hc
  rw [join_split] at this
  exact this)
theorem len_of_sum {ps : List Str} {p : Str} (h : p ∈ ps) : p.length ≤ (ps.map (·.length)).sum := by
  induction ps with
  | nil => cases h
  | cons q ps ih =>
    rw [List.map_cons, List.sum_cons]
    rcases List.mem_cons.mp h with rfl | h
    · omega
    · have := ih h; omega
theorem split_len {z y p : Str} (h : p ∈ Txt.split z y) : p.length ≤ z.length := Nat.le_trans (len_of_sum h) (split_sum z y)
/-! ### the tokens that count -/
abbrev Tk := Str × Str
def tD (t : Tk) : PyData := .tuple [.str t.1, .str t.2]
def tokP (l : List Nat) (p : Nat × Nat) : Tk := (sortS (sub l p.1 p.2), sub l p.1 p.2)
def keptB (t : Tk) : Bool := !decide (t.1 = "remark")
def lineT (ln : Str) : List Tk := ((scan (cd ln) 0).map (tokP (cd ln))).filter keptB
def allT (z : Str) : List Tk := (Txt.split z "\n").flatMap lineT
theorem lineT_len (ln : Str) : (lineT ln).length ≤ ln.length := by
  have h := scan_len (cd ln) _ 0 rfl
  have h2 := List.length_filter_le keptB ((scan (cd ln) 0).map (tokP (cd ln)))
  rw [List.length_map] at h2
  have := len_cd ln
  unfold lineT
  omega
theorem flat_len (ps : List Str) : (ps.flatMap lineT).length ≤ (ps.map (·.length)).sum := by
  induction ps with
  | nil => exact Nat.le_refl 0
  | cons p ps ih =>
    rw [List.flatMap_cons, List.length_append, List.map_cons, List.sum_cons]
    have := lineT_len p
    omega
/-- how many tokens there are at any place -/
theorem at_len {z : Str} {done rest : List Str} {ln : Str} {pre post : List (Nat × Nat)} (e : done ++ ln :: rest = Txt.split z "\n") (e2 : pre ++ post = scan (cd ln) 0) : (done.flatMap lineT ++ (pre.map (tokP (cd ln))).filter keptB).length + post.length ≤ z.length := by
  have h1 := flat_len done
  have h2 := scan_len (cd ln) _ 0 rfl
  have h3 := List.length_filter_le keptB (pre.map (tokP (cd ln)))
  rw [List.length_map] at h3
  have h4 := split_sum z "\n"
  rw [← e, List.map_append, List.sum_append, List.map_cons, List.sum_cons] at h4
  have h5 := congrArg List.length e2
  rw [List.length_append] at h5
  have := len_cd ln
  rw [List.length_append]
  omega
def ascT (t : Tk) : Prop := (∀ c ∈ cd t.1, c < 128) ∧ ∀ c ∈ cd t.2, c < 128
theorem tokP_asc {l : List Nat} (h : ∀ c ∈ l, c < 128) (p : Nat × Nat) : ascT (tokP l p) := ⟨sortS_asc _, sub_asc h _ _⟩
theorem allT_asc {z : Str} (h : ∀ c ∈ cd z, c < 128) : ∀ t ∈ allT z, ascT t := fun t ht => by
  unfold allT at ht
  rw [List.mem_flatMap] at ht
  obtain ⟨ln, h1, h2⟩ := ht
  have h3 := (List.mem_filter.mp h2).1
  rw [List.mem_map] at h3
  obtain ⟨p, _, rfl⟩ := h3
  exact tokP_asc (split_asc h ln h1) p
/-! ### the cut -/
def ITEML : List Str := ["face", "use", "open", "kind", "def"]
abbrev Cs := List (List Tk) × List Tk
def cutB (row : List Tk) (t : Tk) : Bool := !row.isEmpty && (decide (t.1 = "word") && decide (t.2 ∈ ITEML))
def endB (t : Tk) : Bool := decide (t.1 = "sign") && decide (t.2 = ";")
def step1 (s : Cs) (t : Tk) : Cs := if cutB s.2 t = true then (s.1 ++ [s.2], []) else s
def step2 (s : Cs) (t : Tk) : Cs := if endB t = true then (s.1 ++ [s.2 ++ [t]], []) else (s.1, s.2 ++ [t])
def stepC (s : Cs) (t : Tk) : Cs := step2 (step1 s t) t
def runC (ts : List Tk) : Cs := ts.foldl stepC ([], [])
def cutT (ts : List Tk) : List (List Tk) := if (runC ts).2.isEmpty = true then (runC ts).1 else (runC ts).1 ++ [(runC ts).2]
theorem runC_snoc (ts : List Tk) (t : Tk) : runC (ts ++ [t]) = stepC (runC ts) t := by
  unfold runC
  rw [List.foldl_append]
  rfl
/-- what a state is made of -/
structure CsOk (n : Nat) (p : Tk → Prop) (s : Cs) : Prop where
  len : s.1.length + s.2.length ≤ n
  pos : ∀ r ∈ s.1, r ≠ [] ∧ ∀ t ∈ r, p t
  row : ∀ t ∈ s.2, p t
theorem CsOk.one {n : Nat} {p : Tk → Prop} {s : Cs} (h : CsOk n p s) (t : Tk) : CsOk n p (step1 s t) := by
  obtain ⟨h1, h2, h3⟩ := h
  unfold step1
  split
  · rename_i hc
    have hne : s.2 ≠ [] := by
      intro q
      unfold cutB at hc
      rw [q] at hc
      cases hc
    have hl : 0 < s.2.length := List.length_pos_iff.mpr hne
    refine ⟨?_, fun r hr => ?_, by simp⟩
    · rw [List.length_append]
      show s.1.length + 1 + 0 ≤ n
      omega
    · rcases List.mem_append.mp hr with hr | hr
      · exact h2 r hr
      · rw [List.mem_singleton] at hr
        subst hr
        exact ⟨hne, h3⟩
  · exact ⟨h1, h2, h3⟩
theorem CsOk.two {n : Nat} {p : Tk → Prop} {s : Cs} (h : CsOk n p s) {t : Tk} (ht : p t) : CsOk (n + 1) p (step2 s t) := by
  obtain ⟨h1, h2, h3⟩ := h
  have h4 : ∀ u ∈ s.2 ++ [t], p u := fun u hu => by
    rcases List.mem_append.mp hu with hu | hu
    · exact h3 u hu
    · rw [List.mem_singleton] at hu
      subst hu
      exact ht
  unfold step2
  split
  · refine ⟨?_, fun r hr => ?_, by simp⟩
    · rw [List.length_append]
      show s.1.length + 1 + 0 ≤ n + 1
      omega
    · rcases List.mem_append.mp hr with hr | hr
      · exact h2 r hr
      · rw [List.mem_singleton] at hr
        subst hr
        exact ⟨by simp, h4⟩
  · refine ⟨?_, h2, h4⟩
    show s.1.length + (s.2 ++ [t]).length ≤ n + 1
    rw [List.length_append]
    show s.1.length + (s.2.length + 1) ≤ n + 1
    omega
theorem run_from {p : Tk → Prop} : ∀ (ts : List Tk) (n : Nat) (s : Cs), CsOk n p s → (∀ t ∈ ts, p t) → CsOk (n + ts.length) p (ts.foldl stepC s)
  | [], n, s, h, _ => h
  | t :: ts, n, s, h, ht => by
    have := run_from ts (n + 1) (stepC s t) ((h.one t).two (ht t List.mem_cons_self)) fun u hu => ht u (List.mem_cons_of_mem _ hu)
    rw [List.length_cons, Nat.add_comm ts.length 1, ← Nat.add_assoc]
    exact this
theorem run_ok {p : Tk → Prop} (ts : List Tk) (h : ∀ t ∈ ts, p t) : CsOk ts.length p (runC ts) := by
  have := run_from ts 0 ([], []) ⟨Nat.le_refl _, by simp, by simp⟩ h
  rw [Nat.zero_add] at this
  exact this
theorem cutT_ok {p : Tk → Prop} {ts : List Tk} (h : ∀ t ∈ ts, p t) : (cutT ts).length ≤ ts.length ∧ ∀ r ∈ cutT ts, r ≠ [] ∧ ∀ t ∈ r, p t := by
  obtain ⟨h1, h2, h3⟩ := run_ok ts h
  unfold cutT
  split
  · exact ⟨by omega, h2⟩
  · rename_i hc
    have hne : (runC ts).2 ≠ [] := fun q => hc (by rw [q]; rfl)
    have hl : 0 < (runC ts).2.length := List.length_pos_iff.mpr hne
    refine ⟨?_, fun r hr => ?_⟩
    · rw [List.length_append]
      show (runC ts).1.length + 1 ≤ ts.length
      omega
    · rcases List.mem_append.mp hr with hr | hr
      · exact h2 r hr
      · rw [List.mem_singleton] at hr
        subst hr
        exact ⟨hne, h3⟩
/-! ### as data -/
def rowD (r : List Tk) : PyData := .tuple (r.map tD)
def rowsD (rows : List (List Tk)) : PyData := .tuple (rows.map rowD)
theorem tD_lay {t : Tk} (h : ascT t) : (tD t).canLay0 = true ∧ (tD t).depth ≤ 3 := by
  refine ⟨?_, by show max 0 (max 0 0) + 1 ≤ 3; decide⟩
  show (PyData.canLay0 (.str _) && (PyData.canLay0 (.str _) && true)) = true
  rw [lay_str h.1, lay_str h.2]
  rfl
theorem tD_shaped {t : Tk} (h : ascT t) : SeqAt.shaped (tD t) = true := by
  unfold tD
  refine shaped_all fun d hd => ?_
  rcases List.mem_cons.mp hd with hd | hd
  · subst hd; exact ⟨lay_str h.1, by show 0 ≤ 3; decide⟩
  · rw [List.mem_singleton] at hd
    subst hd
    exact ⟨lay_str h.2, by show 0 ≤ 3; decide⟩
theorem rowD_shaped {r : List Tk} (h : ∀ t ∈ r, ascT t) : SeqAt.shaped (rowD r) = true := by
  refine shaped_all fun d hd => ?_
  rw [List.mem_map] at hd
  obtain ⟨t, ht, rfl⟩ := hd
  exact tD_lay (h t ht)
theorem tD_eqv (t u : Tk) : PyData.eqv (tD t) (tD u) = (decide (t.1 = u.1) && decide (t.2 = u.2)) := by
  have k : ∀ a b : Str, (a == b) = decide (a = b) := fun a b => Bool.beq_eq_decide_eq a b
  show ((t.1 == u.1) && ((t.2 == u.2) && true)) = _
  rw [Bool.and_true, k, k]
end K15

namespace K15
open PySem PySem.Spec PyProof.Rows L2 DD
local macro_rules | `(tactic| walk_at "nd") => `(tactic| first | decide | simp [slots])
local macro_rules | `(tactic| walk_at "w") => `(tactic| conv => whnf)
def sp__law_piece : DSp := fun sls C => ∃ ds : List PyData, sls = [.par ds] ∧ DrawOk ds ∧ ∀ z ds', strB 12 z = true → DrawOk ds' → C (.val (.str z)) [.par ds']
theorem l__law_piece : ∀ sls C, sp__law_piece sls C → b__law_piece sp__law_next sp__law_pick sp__law_words sp__law_signs (endsD sls.length C) (startD N__law_piece sls) := by
  rintro sls C ⟨ds, rfl, hd, h⟩
  walk_at "w"
  refine ⟨by walk_at "nd", ds, _, rfl, hd, by decide, by decide, fun r ds0 a1 a2 hd0 => ?_⟩
  clear hd
  walk_at "w"
  refine ⟨rfl, ?_⟩
  walk_at "w"
  refine ⟨fun e => ?_, fun e => ?_⟩
  · walk_at "w"
    refine ⟨by decide, ?_⟩
    walk_at "w"
    refine ⟨by walk_at "nd", pick_list hd0 (by decide) (by decide) (n := 12) (by decide +kernel) fun z ds' hz hd' => ?_⟩
    exact h z ds' hz hd'
  walk_at "w"
  refine ⟨fun e => ?_, fun e => ?_⟩
  · walk_at "w"
    refine ⟨by decide, ?_⟩
    walk_at "w"
    refine ⟨by walk_at "nd", pick_list hd0 (by decide) (by decide) (n := 12) (by decide +kernel) fun z ds' hz hd' => ?_⟩
    exact h z ds' hz hd'
  walk_at "w"
  refine ⟨fun e => ?_, fun e => ?_⟩
  · walk_at "w"
    refine ⟨by walk_at "nd", rfl, ?_⟩
    walk_at "w"
    refine ⟨by walk_at "nd", pick_list hd0 (by decide) (by decide) (n := 12) (by decide +kernel) fun z ds' hz hd' => ?_⟩
    exact h z ds' hz hd'
  walk_at "w"
  refine ⟨fun e => ?_, fun e => ?_⟩
  · walk_at "w"
    refine ⟨by decide, ?_⟩
    walk_at "w"
    refine ⟨by walk_at "nd", pick_list hd0 (by decide) (by decide) (n := 12) (by decide +kernel) fun z ds' hz hd' => ?_⟩
    exact h z ds' hz hd'
  walk_at "w"
  refine ⟨fun e => ?_, fun e => ?_⟩
  · walk_at "w"
    refine ⟨by walk_at "nd", rfl, ?_⟩
    walk_at "w"
    refine ⟨by walk_at "nd", pick_list hd0 (by decide) (by decide) (n := 12) (by decide +kernel) fun z ds' hz hd' => ?_⟩
    exact h z ds' hz hd'
  walk_at "w"
  refine ⟨fun e => ?_, fun e => ?_⟩
  · walk_at "w"
    refine ⟨by decide, ?_⟩
    walk_at "w"
    refine ⟨by walk_at "nd", pick_list hd0 (by decide) (by decide) (n := 12) (by decide +kernel) fun z ds' hz hd' => ?_⟩
    exact h z ds' hz hd'
  walk_at "w"
  refine ⟨fun e => ?_, fun e => ?_⟩
  · walk_at "w"
    refine ⟨by decide, ?_⟩
    walk_at "w"
    refine ⟨by walk_at "nd", pick_list hd0 (by decide) (by decide) (n := 12) (by decide +kernel) fun z ds' hz hd' => ?_⟩
    exact h z ds' hz hd'
  walk_at "w"
  refine ⟨fun e => ?_, fun e => ?_⟩
  · walk_at "w"
    refine ⟨by decide, ?_⟩
    walk_at "w"
    refine ⟨by walk_at "nd", pick_list hd0 (by decide) (by decide) (n := 6) (by decide +kernel) fun z ds' hz hd' => ?_⟩
    walk_at "w"
    refine ⟨by walk_at "nd", pick_str hd' (by decide) (by decide +kernel) fun z2 ds2 hz2 hd2 => ?_⟩
    walk_at "w"
    have h1 := strB_len hz
    have h2 := strB_len hz2
    refine ⟨by rw [sl_line]; omega, ?_⟩
    exact h _ ds2 (strB_app hz hz2 (by decide)) hd2
  walk_at "w"
  refine ⟨fun e => ?_, fun e => ?_⟩
  · exact h _ ds0 (by decide +kernel) hd0
  · exact h _ ds0 (by decide +kernel) hd0
def sp__law_text : DSp := fun sls C => ∃ (ds : List PyData) (n : Int), sls = [.par ds, .val (.int n)] ∧ DrawOk ds ∧ 0 ≤ n ∧ n ≤ 40 ∧ ∀ z ds', strB 960 z = true → DrawOk ds' → C (.val (.str z)) [.par ds', .val (.int n)]
theorem l__law_text : ∀ sls C, sp__law_text sls C → b__law_text sp__law_piece sp__law_next sp__law_pick (endsD sls.length C) (startD N__law_text sls) := by
  rintro sls C ⟨ds, n, rfl, hd, h0, h40, h⟩
  have hs := sl_line
  walk_at "w"
  refine ⟨by show 0 ≤ sizeLine; omega, rfl, ?_⟩
  walk_at "w"
  refine ⟨by omega, by omega, ?_⟩
  refine forR_inv 0 n.toNat (fun k δ => ∃ (ds : List PyData) (ys : List Str) (x4 : Option Sl), δ = [some (.par ds), some (.val (.int n)), some (.own (ys.map PyData.str)), x4] ∧ DrawOk ds ∧ ys.length ≤ 2 * k ∧ (∀ w ∈ ys, strB 12 w = true) ∧ (x4 = none ∨ ∃ d, x4 = some (.val d)))
    (fun k δ hk hP N hN => ?_) (fun δ hP => ?_) ⟨ds, [], none, rfl, hd, by simp, by simp, .inl rfl⟩
  · obtain ⟨ds, ys, x4, rfl, hd, hyl, hys, hx⟩ := hP
    have hx4 : notParB [some (.par ds), some (.val (.int n)), some (.own (ys.map PyData.str)), x4] 3 = true := by
      rcases hx with rfl | ⟨d, rfl⟩ <;> rfl
    refine ⟨hx4, ?_⟩
    walk_at "w"
    refine ⟨rfl, ?_⟩
    walk_at "w"
    refine ⟨by walk_at "nd", ds, rfl, hd, fun w ds2 hw hd2 => ?_⟩
    walk_at "w"
    refine ⟨by rw [List.length_map]; omega, ?_⟩
    walk_at "w"
    refine ⟨by walk_at "nd", ds2, _, rfl, hd2, by decide, by decide, fun r ds3 a1 a2 hd3 => ?_⟩
    have hys2 : ∀ v ∈ ys ++ [w], strB 12 v = true := fun v hv => by
      rcases List.mem_append.mp hv with hv | hv
      · exact hys v hv
      · rw [List.mem_singleton] at hv
        subst hv
        exact hw
    walk_at "w"
    refine ⟨fun e => ?_, fun e => ?_⟩
    · walk_at "w"
      refine ⟨rfl, ?_⟩
      walk_at "w"
      refine ⟨by decide, ?_⟩
      walk_at "w"
      refine ⟨by walk_at "nd", pick_list hd3 (by decide) (by decide) (n := 12) (by decide +kernel) fun y ds4 hy hd4 => ?_⟩
      walk_at "w"
      refine ⟨by simp; omega, ?_⟩
      refine hN _ ⟨ds4, ys ++ [w] ++ [y], some (.val (.int (0 + (k : Nat)))), ?_, hd4, by simp; omega, fun v hv => ?_, .inr ⟨_, rfl⟩⟩
      · rw [List.map_append, List.map_append]
        rfl
      · rcases List.mem_append.mp hv with hv | hv
        · exact hys2 v hv
        · rw [List.mem_singleton] at hv
          subst hv
          exact hy
    · walk_at "w"
      refine hN _ ⟨ds3, ys ++ [w], some (.val (.int (0 + (k : Nat)))), ?_, hd3, by simp; omega, hys2, .inr ⟨_, rfl⟩⟩
      rw [List.map_append]
      rfl
  · obtain ⟨ds, ys, x4, rfl, hd, hyl, hys, hx⟩ := hP
    have hl : ys.length * 12 ≤ 960 := by omega
    walk_at "w"
    rw [strsD_map]
    walk_at "w"
    refine ⟨join_room hys (by omega), ?_⟩
    exact h _ ds (strB_join hys hl) hd
/-! ### the program's walk -/
def St2 (z : Str) (kept : List Tk) (x2 x3 : Option Sl) : DSt := [some (.val (.str z)), some (.own (kept.map tD)), x2, x3]
def sp_kept_tokens : DSp := fun sls C => ∃ (z : Str), sls = [.val (.str z)] ∧ z.length ≤ 1000000 ∧ C (.own ((allT z).map tD)) sls
theorem l_kept_tokens : ∀ sls C, sp_kept_tokens sls C → b_kept_tokens sp_tokens (endsD sls.length C) (startD N_kept_tokens sls) := by
  rintro sls C ⟨z, rfl, hz, h⟩
  have hs := sl_line
  walk_at "w"
  refine ⟨by show 0 ≤ sizeLine; omega, rfl, ?_⟩
  walk_at "w"
  refine ⟨rfl, by show z.length + 2 ≤ sizeLine; omega, ?_⟩
  refine forL_inv (fun rest δ => ∃ (done todo : List Str) (x2 x3 : Option Sl), done ++ todo = Txt.split z "\n" ∧ rest = todo.map PyData.str ∧ δ = St2 z (done.flatMap lineT) x2 x3 ∧ valO x2 ∧ valO x3) (fun d rest δ hP N hN => ?_) (fun δ hP => ?_) _ _
    ⟨[], _, none, none, rfl, rfl, rfl, .inl rfl, .inl rfl⟩
  · obtain ⟨done, todo, x2, x3, e, e2, rfl, v2, v3⟩ := hP
    cases todo with
    | nil => cases e2
    | cons ln todo =>
      cases e2
      have hln : ln.length ≤ z.length := split_len (by rw [← e]; simp)
      refine ⟨by rcases v2 with rfl | ⟨d, rfl⟩ <;> rfl, ?_⟩
      walk_at "w"
      refine ⟨by walk_at "nd", ln, rfl, by omega, ?_⟩
      walk_at "w"
      refine forL_inv (fun rest δ => ∃ (pre post : List (Nat × Nat)) (x3 : Option Sl), pre ++ post = scan (cd ln) 0 ∧ rest = post.map (tokD (cd ln)) ∧ δ = St2 z (done.flatMap lineT ++ (pre.map (tokP (cd ln))).filter keptB) (some (.val (.str ln))) x3 ∧ valO x3) (fun d rest δ hP N2 hN2 => ?_) (fun δ hP => ?_) _ _
        ⟨[], _, x3, rfl, rfl, by rw [List.map_nil, List.filter_nil, List.append_nil]; rfl, v3⟩
      · obtain ⟨pre, post, x3, e3, e4, rfl, v3⟩ := hP
        cases post with
        | nil => cases e4
        | cons p post =>
          cases e4
          have hal := at_len e e3
          refine ⟨by rcases v3 with rfl | ⟨d, rfl⟩ <;> rfl, ?_⟩
          walk_at "w"
          refine ⟨fun e5 => ?_, fun e5 => ?_⟩
          · have e5 : keptB (tokP (cd ln) p) = true := e5
            walk_at "w"
            refine ⟨rfl, ?_⟩
            walk_at "w"
            refine ⟨by rw [List.length_map]; rw [List.length_cons] at hal; omega, ?_⟩
            refine hN2 _ ⟨pre ++ [p], post, some (.val (tokD (cd ln) p)), by rw [List.append_assoc]; exact e3, rfl, ?_, .inr ⟨_, rfl⟩⟩
            have q : ((pre ++ [p]).map (tokP (cd ln))).filter keptB = (pre.map (tokP (cd ln))).filter keptB ++ [tokP (cd ln) p] := by
              rw [List.map_append, List.filter_append]
              congr 1
              exact List.filter_cons_of_pos e5
            rw [q, ← List.append_assoc]
            unfold St2
            rw [List.map_append (l₂ := [tokP (cd ln) p])]
            rfl
          · have e5 : keptB (tokP (cd ln) p) = false := e5
            refine hN2 _ ⟨pre ++ [p], post, some (.val (tokD (cd ln) p)), by rw [List.append_assoc]; exact e3, rfl, ?_, .inr ⟨_, rfl⟩⟩
            rw [List.map_append, List.map_cons, List.map_nil, List.filter_append, List.filter_cons_of_neg (by rw [e5]; simp), List.filter_nil, List.append_nil]
            rfl
      · obtain ⟨pre, post, x3, e3, e4, rfl, v3⟩ := hP
        have e5 : post = [] := by simpa using e4.symm
        subst e5
        rw [List.append_nil] at e3
        refine hN _ ⟨done ++ [ln], todo, some (.val (.str ln)), x3, by rw [List.append_assoc]; exact e, rfl, ?_, .inr ⟨_, rfl⟩, v3⟩
        rw [List.flatMap_append, List.flatMap_cons, List.flatMap_nil, List.append_nil]
        unfold lineT
        rw [← e3]
  · obtain ⟨done, todo, x2, x3, e, e2, rfl, v2, v3⟩ := hP
    have e3 : todo = [] := by simpa using e2.symm
    subst e3
    rw [List.append_nil] at e
    subst e
    walk_at "w"
    exact h
end K15

namespace K15
open PySem PySem.Spec PyProof.Rows L2 DD
local macro_rules | `(tactic| walk_at "nd") => `(tactic| first | decide | simp [slots])
local macro_rules | `(tactic| walk_at "w") => `(tactic| conv => whnf)
def StC (x0 : Option Sl) (s : Cs) (x3 : Option Sl) : DSt := [x0, some (.own (s.1.map rowD)), some (.own (s.2.map tD)), x3]
def SEMI : Tk := ("sign", ";")
theorem ascT_semi : ascT SEMI := by
  have : ∀ c ∈ cd SEMI.1 ++ cd SEMI.2, c < 128 := by decide +kernel
  exact ⟨fun c hc => this c (List.mem_append_left _ hc), fun c hc => this c (List.mem_append_right _ hc)⟩
def sp_cut : DSp := fun sls C => ∃ (ts : List Tk), sls = [.val (.list (ts.map tD))] ∧ ts.length ≤ 1000000 ∧ (∀ t ∈ ts, ascT t) ∧ C (.val (rowsD (cutT ts))) sls
theorem l_cut : ∀ sls C, sp_cut sls C → b_cut (endsD sls.length C) (startD N_cut sls) := by
  rintro sls C ⟨ts, rfl, hz, hasc, h⟩
  have hs := sl_line
  walk_at "w"
  refine ⟨by show 0 ≤ sizeLine; omega, rfl, ?_⟩
  walk_at "w"
  refine ⟨by show 0 ≤ sizeLine; omega, rfl, ?_⟩
  dsimp only
  refine seq_cut (fun δ => ∃ x3, δ = StC (some (.val (.list (ts.map tD)))) (runC ts) x3 ∧ valO x3) (fun N hN => ?_) ?_
  · walk_at "w"
    refine forL_inv (fun rest δ => ∃ (pre post : List Tk) (x3 : Option Sl), pre ++ post = ts ∧ rest = post.map tD ∧ δ = StC (some (.val (.list (ts.map tD)))) (runC pre) x3 ∧ valO x3) (fun d rest δ hP N2 hN2 => ?_) (fun δ hP => ?_) _ _ ⟨[], ts, none, rfl, rfl, rfl, .inl rfl⟩
    · obtain ⟨pre, post, x3, e, e2, rfl, v3⟩ := hP
      cases post with
      | nil => cases e2
      | cons t post =>
        cases e2
        have ht : ascT t := hasc t (by rw [← e]; simp)
        have ok := run_ok pre (p := fun _ => True) fun _ _ => trivial
        have hl := congrArg List.length e
        rw [List.length_append, List.length_cons] at hl
        refine ⟨by rcases v3 with rfl | ⟨d, rfl⟩ <;> rfl, ?_⟩
        have fin : N2 (StC (some (.val (.list (ts.map tD)))) (runC (pre ++ [t])) (some (.val (tD t)))) := hN2 _ ⟨pre ++ [t], post, _, by rw [List.append_assoc]; exact e, rfl, rfl, .inr ⟨_, rfl⟩⟩
        rw [runC_snoc] at fin
        unfold stepC at fin
        have l1 := ok.len
        have ok1 := ok.one t
        have l2 := ok1.len
        refine seq_cut (fun δ => δ = StC (some (.val (.list (ts.map tD)))) (step1 (runC pre) t) (some (.val (tD t)))) (fun N3 hN3 => ?_) ?_
        · clear fin
          generalize runC pre = s at *
          obtain ⟨fd, rw⟩ := s
          cases rw with
          | nil =>
            walk_at "w"
            refine ⟨fun e3 => (by cases e3), fun _ => ?_⟩
            refine ⟨fun q => (by cases q), fun _ => ?_⟩
            exact hN3 _ rfl
          | cons r rw =>
            have an := any_strs ITEML t.2
            walk_at "w"
            refine ⟨fun _ => ?_, fun e3 => (by cases e3)⟩
            walk_at "w"
            refine ⟨fun e1 => ?_, fun e1 => ?_⟩
            · have e1 := of_decide_eq_true e1
              walk_at "w"
              refine ⟨rfl, by decide +kernel, ?_⟩
              refine ⟨fun e2 => ?_, fun e2 => ?_⟩
              · have e2 := of_decide_eq_true (an.symm.trans e2)
                have hb : cutB (r :: rw) t = true := by
                  unfold cutB
                  rw [decide_eq_true e1, decide_eq_true e2]
                  rfl
                unfold step1 at hN3
                rw [if_pos hb] at hN3
                walk_at "w"
                refine ⟨rfl, ?_⟩
                walk_at "w"
                refine ⟨by rw [List.length_map]; show fd.length < _; simp at l1; omega, ?_⟩
                walk_at "w"
                refine ⟨by show 0 ≤ sizeLine; omega, rfl, ?_⟩
                refine hN3 _ ?_
                unfold StC
                rw [List.map_append]
                rfl
              · have e2 := of_decide_eq_false (an.symm.trans e2)
                have hb : ¬ cutB (r :: rw) t = true := by
                  simp [cutB, e2]
                unfold step1 at hN3
                rw [if_neg hb] at hN3
                exact hN3 _ rfl
            · have e1 := of_decide_eq_false e1
              have hb : ¬ cutB (r :: rw) t = true := by
                simp [cutB, e1]
              unfold step1 at hN3
              rw [if_neg hb] at hN3
              walk_at "w"
              refine ⟨fun q => (by cases q), fun _ => ?_⟩
              exact hN3 _ rfl
        · rintro _ rfl
          generalize step1 (runC pre) t = s at *
          obtain ⟨fd, rw⟩ := s
          have ev := tD_eqv t SEMI
          have sh := tD_shaped ht
          have sh2 := tD_shaped ascT_semi
          simp only at l2
          walk_at "w"
          refine ⟨rfl, ?_⟩
          walk_at "w"
          refine ⟨by rw [List.length_map]; show rw.length < _; omega, ?_⟩
          walk_at "w"
          refine ⟨by show 2 ≤ sizeLine; omega, ?_⟩
          walk_at "w"
          refine ⟨sh, sh2, ?_⟩
          refine ⟨fun e1 => ?_, fun e1 => ?_⟩
          · have e1 : endB t = true := ev.symm.trans e1
            unfold step2 at fin
            rw [if_pos e1] at fin
            walk_at "w"
            refine ⟨rfl, ?_⟩
            walk_at "w"
            refine ⟨by rw [List.length_map]; show fd.length < _; omega, ?_⟩
            walk_at "w"
            refine ⟨by show 0 ≤ sizeLine; omega, rfl, ?_⟩
            refine cast (congrArg N2 ?_) fin
            unfold StC
            rw [List.map_append]
            have q : [rw ++ [t]].map rowD = [PyData.tuple (rw.map tD ++ [tD t])] := by
              show [PyData.tuple ((rw ++ [t]).map tD)] = _
              rw [List.map_append]
              rfl
            rw [q]
            rfl
          · have e1 : ¬ endB t = true := fun q => by
              have e1 : PyData.eqv (tD t) (tD SEMI) = false := e1
              rw [ev] at e1
              exact absurd (e1.symm.trans q) (by decide)
            unfold step2 at fin
            rw [if_neg e1] at fin
            walk_at "w"
            refine cast (congrArg N2 ?_) fin
            unfold StC
            rw [List.map_append]
            rfl
    · obtain ⟨pre, post, x3, e, e2, rfl, v3⟩ := hP
      have e3 : post = [] := by simpa using e2.symm
      subst e3
      rw [List.append_nil] at e
      subst e
      exact hN _ ⟨x3, rfl, v3⟩
  · rintro _ ⟨x3, rfl, v3⟩
    have ok := run_ok ts (p := fun _ => True) fun _ _ => trivial
    have l1 := ok.len
    unfold cutT at h
    generalize runC ts = s at *
    obtain ⟨fd, rw⟩ := s
    simp only at l1
    cases rw with
    | nil =>
      walk_at "w"
      refine ⟨fun e3 => (by cases e3), fun _ => ?_⟩
      walk_at "w"
      exact h
    | cons r rw =>
      walk_at "w"
      refine ⟨fun _ => ?_, fun e3 => (by cases e3)⟩
      walk_at "w"
      refine ⟨rfl, ?_⟩
      walk_at "w"
      refine ⟨by rw [List.length_map]; show fd.length < _; simp at l1; omega, ?_⟩
      walk_at "w"
      rw [if_neg (by simp)] at h
      unfold rowsD at h
      rw [List.map_append] at h
      exact h
def sp_stretches : DSp := fun sls C => ∃ (z : Str), sls = [.val (.str z)] ∧ z.length ≤ 1000000 ∧ (∀ c ∈ cd z, c < 128) ∧ C (.val (rowsD (cutT (allT z)))) sls
theorem allT_len (z : Str) : (allT z).length ≤ z.length := Nat.le_trans (flat_len _) (split_sum z "\n")
theorem l_stretches : ∀ sls C, sp_stretches sls C → b_stretches sp_cut sp_kept_tokens (endsD sls.length C) (startD N_stretches sls) := by
  rintro sls C ⟨z, rfl, hz, hasc, h⟩
  have hl := allT_len z
  walk_at "w"
  refine ⟨by walk_at "nd", z, rfl, hz, ?_⟩
  walk_at "w"
  refine ⟨by walk_at "nd", allT z, rfl, by omega, allT_asc hasc, ?_⟩
  walk_at "w"
  exact h
end K15

namespace K15
open PySem PySem.Spec PyProof.Rows L2 DD
local macro_rules | `(tactic| walk_at "nd") => `(tactic| first | decide | simp [slots])
local macro_rules | `(tactic| walk_at "w") => `(tactic| conv => whnf)
theorem nx_of {D : DEnds} {δ : DSt} (h : D.nx δ) : dNext D δ := h
/-! ### the law's own cut -/
def StL (z : Str) (s : Cs) (x3 x4 : Option Sl) : DSt := [some (.val (.str z)), some (.own (s.1.map rowD)), some (.own (s.2.map tD)), x3, x4]
def sp__law_cut : DSp := fun sls C => ∃ (z : Str), sls = [.val (.str z)] ∧ z.length ≤ 1000000 ∧ C (.val (rowsD (cutT (allT z)))) sls
theorem l__law_cut : ∀ sls C, sp__law_cut sls C → b__law_cut sp__law_lexed (endsD sls.length C) (startD N__law_cut sls) := by
  rintro sls C ⟨z, rfl, hz, h⟩
  have hs := sl_line
  walk_at "w"
  refine ⟨by show 0 ≤ sizeLine; omega, rfl, ?_⟩
  walk_at "w"
  refine ⟨by show 0 ≤ sizeLine; omega, rfl, ?_⟩
  dsimp only
  refine seq_cut (fun δ => ∃ x3 x4, δ = StL z (runC (allT z)) x3 x4 ∧ valO x3 ∧ valO x4) (fun N hN => ?_) ?_
  · walk_at "w"
    refine ⟨rfl, by show z.length + 2 ≤ sizeLine; omega, ?_⟩
    refine forL_inv (fun rest δ => ∃ (done todo : List Str) (x2 x3 : Option Sl), done ++ todo = Txt.split z "\n" ∧ rest = todo.map PyData.str ∧ δ = StL z (runC (done.flatMap lineT)) x2 x3 ∧ valO x2 ∧ valO x3) (fun d rest δ hP N1 hN1 => ?_) (fun δ hP => ?_) _ _
      ⟨[], _, none, none, rfl, rfl, rfl, .inl rfl, .inl rfl⟩
    · obtain ⟨done, todo, x2, x3, e, e2, rfl, v2, v3⟩ := hP
      cases todo with
      | nil => cases e2
      | cons ln todo =>
        cases e2
        have hln : ln.length ≤ z.length := split_len (by rw [← e]; simp)
        refine ⟨by rcases v2 with rfl | ⟨d, rfl⟩ <;> rfl, ?_⟩
        walk_at "w"
        refine ⟨by walk_at "nd", ln, rfl, by omega, ?_⟩
        walk_at "w"
        refine forL_inv (fun rest δ => ∃ (pre post : List (Nat × Nat)) (x3 : Option Sl), pre ++ post = scan (cd ln) 0 ∧ rest = post.map (lawRow (cd ln)) ∧ δ = StL z (runC (done.flatMap lineT ++ (pre.map (tokP (cd ln))).filter keptB)) (some (.val (.str ln))) x3 ∧ valO x3) (fun d rest δ hP N2 hN2 => ?_) (fun δ hP => ?_) _ _
          ⟨[], _, x3, rfl, rfl, by rw [List.map_nil, List.filter_nil, List.append_nil]; rfl, v3⟩
        · obtain ⟨pre, post, x3, e3, e4, rfl, v3⟩ := hP
          cases post with
          | nil => cases e4
          | cons p post =>
            cases e4
            have hal := at_len e e3
            generalize hA : done.flatMap lineT ++ (pre.map (tokP (cd ln))).filter keptB = A at *
            have ok := run_ok A (p := fun _ => True) fun _ _ => trivial
            have l1 := ok.len
            have l2 := (ok.one (tokP (cd ln) p)).len
            refine ⟨by rcases v3 with rfl | ⟨d, rfl⟩ <;> rfl, ?_⟩
            walk_at "w"
            refine ⟨fun e5 => ?_, fun e5 => ?_⟩
            · have e5 : ¬ keptB (tokP (cd ln) p) = true := by
                have e5 : decide (sortS (sub (cd ln) p.1 p.2) = "remark") = true := e5
                unfold keptB
                show ¬ (!decide (sortS (sub (cd ln) p.1 p.2) = "remark")) = true
                rw [e5]
                decide
              walk_at "w"
              refine hN2 _ ⟨pre ++ [p], post, some (.val (lawRow (cd ln) p)), by rw [List.append_assoc]; exact e3, rfl, ?_, .inr ⟨_, rfl⟩⟩
              rw [List.map_append, List.map_cons, List.map_nil, List.filter_append, List.filter_cons_of_neg e5, List.filter_nil, List.append_nil, hA]
              rfl
            · have e5 : keptB (tokP (cd ln) p) = true := by
                have e5 : decide (sortS (sub (cd ln) p.1 p.2) = "remark") = false := e5
                unfold keptB
                show (!decide (sortS (sub (cd ln) p.1 p.2) = "remark")) = true
                rw [e5]
                rfl
              have fin : N2 (StL z (runC (A ++ [tokP (cd ln) p])) (some (.val (.str ln))) (some (.val (lawRow (cd ln) p)))) := by
                refine hN2 _ ⟨pre ++ [p], post, some (.val (lawRow (cd ln) p)), by rw [List.append_assoc]; exact e3, rfl, ?_, .inr ⟨_, rfl⟩⟩
                rw [List.map_append, List.map_cons, List.map_nil, List.filter_append, List.filter_cons_of_pos e5, List.filter_nil, ← List.append_assoc, hA]
              rw [runC_snoc] at fin
              unfold stepC at fin
              rw [List.length_cons] at hal
              refine nx_of ?_
              dsimp only
              refine seq_cut (fun δ => δ = StL z (step1 (runC A) (tokP (cd ln) p)) (some (.val (.str ln))) (some (.val (lawRow (cd ln) p)))) (fun N3 hN3 => ?_) ?_
              · clear fin hN2 hN1 hN h
                have an := any_strs ITEML (sub (cd ln) p.1 p.2)
                have ht1 : (tokP (cd ln) p).1 = sortS (sub (cd ln) p.1 p.2) := rfl
                have ht2 : (tokP (cd ln) p).2 = sub (cd ln) p.1 p.2 := rfl
                generalize runC A = s at *
                obtain ⟨fd, rw⟩ := s
                walk_at "w"
                refine ⟨fun e1 => ?_, fun e1 => ?_⟩
                · have e1 : sortS (sub (cd ln) p.1 p.2) = "word" := of_decide_eq_true e1
                  walk_at "w"
                  refine ⟨by show 5 ≤ sizeLine; omega, ?_⟩
                  walk_at "w"
                  refine ⟨rfl, by decide +kernel, ?_⟩
                  refine ⟨fun e2 => ?_, fun e2 => ?_⟩
                  · have e2 := of_decide_eq_true (an.symm.trans e2)
                    cases rw with
                    | nil =>
                      walk_at "w"
                      refine ⟨fun e3 => (by cases e3), fun _ => ?_⟩
                      exact hN3 _ rfl
                    | cons r rw =>
                      have hb : cutB (r :: rw) (tokP (cd ln) p) = true := by
                        unfold cutB
                        rw [ht1, ht2, decide_eq_true e1, decide_eq_true e2]
                        rfl
                      unfold step1 at hN3
                      rw [if_pos hb] at hN3
                      walk_at "w"
                      refine ⟨fun _ => ?_, fun e3 => absurd (show (0 : Int) < (((r :: rw).map tD).length : Nat) by rw [List.length_map, List.length_cons]; omega) (of_decide_eq_false e3)⟩
                      walk_at "w"
                      refine ⟨rfl, ?_⟩
                      walk_at "w"
                      refine ⟨by rw [List.length_map]; show fd.length < _; simp at l1; omega, ?_⟩
                      walk_at "w"
                      refine ⟨by show 0 ≤ sizeLine; omega, rfl, ?_⟩
                      refine hN3 _ ?_
                      unfold StL
                      rw [List.map_append]
                      rfl
                  · have e2 := of_decide_eq_false (an.symm.trans e2)
                    have hb : ¬ cutB rw (tokP (cd ln) p) = true := by
                      simp [cutB, ht2, e2]
                    unfold step1 at hN3
                    rw [if_neg hb] at hN3
                    walk_at "w"
                    refine ⟨fun q => (by cases q), fun _ => ?_⟩
                    exact hN3 _ rfl
                · have e1 : ¬ sortS (sub (cd ln) p.1 p.2) = "word" := of_decide_eq_false e1
                  have hb : ¬ cutB rw (tokP (cd ln) p) = true := by
                    simp [cutB, ht1, e1]
                  unfold step1 at hN3
                  rw [if_neg hb] at hN3
                  walk_at "w"
                  refine ⟨fun q => (by cases q), fun _ => ?_⟩
                  exact hN3 _ rfl
              · rintro _ rfl
                generalize step1 (runC A) (tokP (cd ln) p) = s at *
                obtain ⟨fd, rw⟩ := s
                simp only at l2
                walk_at "w"
                refine ⟨rfl, ?_⟩
                walk_at "w"
                refine ⟨by show 2 ≤ sizeLine; omega, ?_⟩
                walk_at "w"
                refine ⟨by rw [List.length_map]; show rw.length < _; omega, ?_⟩
                have no : endB (tokP (cd ln) p) = false → N2 (StL z (fd, rw ++ [tokP (cd ln) p]) (some (.val (.str ln))) (some (.val (lawRow (cd ln) p)))) := fun q => by
                  unfold step2 at fin
                  rw [q] at fin
                  exact fin
                have ht1 : (tokP (cd ln) p).1 = sortS (sub (cd ln) p.1 p.2) := rfl
                have ht2 : (tokP (cd ln) p).2 = sub (cd ln) p.1 p.2 := rfl
                have same : StL z (fd, rw ++ [tokP (cd ln) p]) (some (.val (.str ln))) (some (.val (lawRow (cd ln) p))) = [some (.val (.str z)), some (.own (fd.map rowD)), some (.own (rw.map tD ++ [tD (tokP (cd ln) p)])), some (.val (.str ln)), some (.val (lawRow (cd ln) p))] := by
                  unfold StL
                  rw [List.map_append]
                  rfl
                rw [same] at no
                walk_at "w"
                refine ⟨fun e1 => ?_, fun e1 => ?_⟩
                · have e1 : sortS (sub (cd ln) p.1 p.2) = "sign" := of_decide_eq_true e1
                  walk_at "w"
                  refine ⟨fun e2 => ?_, fun e2 => ?_⟩
                  · have e2 : sub (cd ln) p.1 p.2 = ";" := of_decide_eq_true e2
                    have hb : endB (tokP (cd ln) p) = true := by
                      unfold endB
                      rw [ht1, ht2, decide_eq_true e1, decide_eq_true e2]
                      rfl
                    unfold step2 at fin
                    rw [if_pos hb] at fin
                    walk_at "w"
                    refine ⟨rfl, ?_⟩
                    walk_at "w"
                    refine ⟨by rw [List.length_map]; show fd.length < _; omega, ?_⟩
                    walk_at "w"
                    refine ⟨by show 0 ≤ sizeLine; omega, rfl, ?_⟩
                    refine cast (congrArg N2 ?_) fin
                    unfold StL
                    rw [List.map_append]
                    have q : [rw ++ [tokP (cd ln) p]].map rowD = [PyData.tuple (rw.map tD ++ [tD (tokP (cd ln) p)])] := by
                      show [PyData.tuple ((rw ++ [tokP (cd ln) p]).map tD)] = _
                      rw [List.map_append]
                      rfl
                    rw [q]
                    rfl
                  · have e2 : ¬ sub (cd ln) p.1 p.2 = ";" := of_decide_eq_false e2
                    exact no (by simp [endB, ht2, e2])
                · have e1 : ¬ sortS (sub (cd ln) p.1 p.2) = "sign" := of_decide_eq_false e1
                  walk_at "w"
                  refine ⟨fun q => (by cases q), fun _ => ?_⟩
                  exact no (by simp [endB, ht1, e1])
        · obtain ⟨pre, post, x3, e3, e4, rfl, v3⟩ := hP
          have e5 : post = [] := by simpa using e4.symm
          subst e5
          rw [List.append_nil] at e3
          refine hN1 _ ⟨done ++ [ln], todo, some (.val (.str ln)), x3, by rw [List.append_assoc]; exact e, rfl, ?_, .inr ⟨_, rfl⟩, v3⟩
          rw [List.flatMap_append, List.flatMap_cons, List.flatMap_nil, List.append_nil]
          unfold lineT
          rw [← e3]
    · obtain ⟨done, todo, x2, x3, e, e2, rfl, v2, v3⟩ := hP
      have e3 : todo = [] := by simpa using e2.symm
      subst e3
      rw [List.append_nil] at e
      subst e
      exact hN _ ⟨x2, x3, rfl, v2, v3⟩
  · rintro _ ⟨x3, x4, rfl, v3, v4⟩
    have ok := run_ok (allT z) (p := fun _ => True) fun _ _ => trivial
    have l1 := ok.len
    have l3 := allT_len z
    unfold cutT at h
    generalize runC (allT z) = s at *
    obtain ⟨fd, rw⟩ := s
    simp only at l1
    cases rw with
    | nil =>
      walk_at "w"
      refine ⟨fun e3 => (by cases e3), fun _ => ?_⟩
      walk_at "w"
      exact h
    | cons r rw =>
      walk_at "w"
      refine ⟨fun _ => ?_, fun e3 => absurd (show (0 : Int) < (((r :: rw).map tD).length : Nat) by rw [List.length_map, List.length_cons]; omega) (of_decide_eq_false e3)⟩
      walk_at "w"
      refine ⟨rfl, ?_⟩
      walk_at "w"
      refine ⟨by rw [List.length_map]; show fd.length < _; simp at l1; omega, ?_⟩
      walk_at "w"
      rw [if_neg (by simp)] at h
      unfold rowsD at h
      rw [List.map_append] at h
      exact h
end K15

namespace K15
open PySem PySem.Spec PyProof.Rows L2 DD
local macro_rules | `(tactic| walk_at "nd") => `(tactic| first | decide | simp [slots])
local macro_rules | `(tactic| walk_at "w") => `(tactic| conv => whnf)
theorem atI_nmap {α β : Type} {f : α → β} {xs : List α} {k : Nat} (h : k < xs.length) : atI (xs.map f) (k : Int) = some (f xs[k]) := atI_nat (by rw [List.getElem?_map, List.getElem?_eq_getElem h]; rfl)
def sp__law_right : DSp := fun sls C => ∃ (rows : List (List Tk)), sls = [.val (rowsD rows), .val (rowsD rows)] ∧ rows.length ≤ 1000000 ∧ (∀ r ∈ rows, r ≠ [] ∧ ∀ t ∈ r, ascT t) ∧ C (.val (.bool true)) sls
theorem l__law_right : ∀ sls C, sp__law_right sls C → b__law_right (endsD sls.length C) (startD N__law_right sls) := by
  rintro sls C ⟨rows, rfl, hz, hr, h⟩
  have hs := sl_line
  walk_at "w"
  refine ⟨fun e => (by cases e), fun _ => ?_⟩
  walk_at "w"
  refine ⟨fun e => ?_, fun _ => ?_⟩
  · have e : (!decide (((rows.map rowD).length : Int) = ((rows.map rowD).length : Int))) = true := e
    simp at e
  walk_at "w"
  have hml : (rows.map rowD).length = rows.length := by simp
  refine ⟨by omega, by omega, ?_⟩
  refine forR_inv 0 (rows.map rowD).length (fun k δ => ∃ x4 : Option Sl, δ = [some (.val (rowsD rows)), some (.val (rowsD rows)), x4] ∧ valO x4)
    (fun k δ hk hP N hN => ?_) (fun δ hP => ?_) ⟨none, rfl, .inl rfl⟩
  · obtain ⟨x4, rfl, v4⟩ := hP
    rw [hml] at hk
    have e0 : ((0 : Int) + (k : Nat)) = ((k : Nat) : Int) := by omega
    rw [e0]
    refine ⟨by rcases v4 with rfl | ⟨d, rfl⟩ <;> rfl, ?_⟩
    have a1 := atI_nmap (f := rowD) hk
    obtain ⟨q1, q2⟩ := hr _ (List.getElem_mem hk)
    generalize rows[k] = r at a1 q1 q2
    walk_at "w"
    rw [a1]
    walk_at "w"
    refine ⟨fun e => (by cases e), fun _ => ?_⟩
    walk_at "w"
    rw [a1]
    walk_at "w"
    refine ⟨fun e => ?_, fun _ => ?_⟩
    · have e : decide (((r.map tD).length : Int) = 0) = true := e
      have e := of_decide_eq_true e
      rw [List.length_map] at e
      have : 0 < r.length := List.length_pos_iff.mpr q1
      omega
    walk_at "w"
    rw [a1]
    have sh := rowD_shaped q2
    have ev := eqv_self sh
    walk_at "w"
    rw [a1]
    walk_at "w"
    refine ⟨sh, sh, ?_⟩
    refine ⟨fun e => ?_, fun _ => ?_⟩
    · have e : (!PyData.eqv (rowD r) (rowD r)) = true := e
      rw [ev] at e
      cases e
    exact hN _ ⟨_, rfl, .inr ⟨_, rfl⟩⟩
  · obtain ⟨x4, rfl, v4⟩ := hP
    exact h
theorem strB_rep {n : Nat} {z : Str} (h : strB n z = true) (k m : Nat) (e : n * k ≤ m) : strB m (strRep z k) = true := by
  refine strB_mk ?_ fun c hc => ?_
  · rw [len_cd]
    unfold strRep
    show (List.replicate k (cd z)).flatten.length ≤ m
    rw [List.length_flatten, List.map_replicate, List.sum_replicate_nat]
    have := strB_len h
    rw [len_cd] at this
    have h2 : k * (cd z).length ≤ k * n := Nat.mul_le_mul_left k this
    rw [Nat.mul_comm k n] at h2
    omega
  · unfold strRep at hc
    have hc : c ∈ (List.replicate k (cd z)).flatten := hc
    rw [List.mem_flatten] at hc
    obtain ⟨l, hl, hc⟩ := hc
    rw [List.mem_replicate] at hl
    rw [hl.2] at hc
    exact strB_asc h c hc
def smallI (d : PyData) : Bool := match d with | .int n => decide (0 ≤ n) && decide (n ≤ 40) | _ => false
theorem smallI_of {d : PyData} (h : smallI d = true) : ∃ n, d = .int n ∧ 0 ≤ n ∧ n ≤ 40 := by
  unfold smallI at h
  split at h
  · rw [Bool.and_eq_true] at h
    exact ⟨_, rfl, of_decide_eq_true h.1, of_decide_eq_true h.2⟩
  · cases h
theorem cut_nil : rowsD (cutT (allT "")) = .tuple [] := by
  have : cutT (allT "") = [] := by decide +kernel
  rw [this]
  rfl
theorem cut_two' : rowsD (cutT (allT " \n# ;")) = .tuple [] := by
  have : cutT (allT " \n# ;") = [] := by decide +kernel
  rw [this]
  rfl
def sp_law : DSp := fun sls C => ∃ (ns : List Int), sls = [.val (.list (ns.map PyData.int))] ∧ C (.val (.bool true)) sls
theorem l_law : ∀ sls C, sp_law sls C → b_law sp__law_draw sp__law_text sp__law_pick sp__law_next sp__law_cut sp__law_right sp_stretches (endsD sls.length C) (startD N_law sls) := by
  rintro sls C ⟨ns, rfl, h⟩
  have hs := sl_line
  walk_at "w"
  refine ⟨by walk_at "nd", ns, rfl, fun ds hd => ?_⟩
  walk_at "w"
  refine ⟨rfl, ?_⟩
  walk_at "w"
  refine ⟨by omega, by omega, ?_⟩
  refine forR_inv 0 6 (fun k δ => ∃ (ds : List PyData) (x2 x3 x4 : Option Sl), δ = [some (.val (.list (ns.map PyData.int))), some (.own ds), x2, x3, x4] ∧ DrawOk ds ∧ valO x2 ∧ valO x3 ∧ valO x4)
    (fun k δ hk hP N hN => ?_) (fun δ hP => ?_) ⟨ds, none, none, none, rfl, hd, .inl rfl, .inl rfl, .inl rfl⟩
  · obtain ⟨ds, x2, x3, x4, rfl, hd, v2, v3, v4⟩ := hP
    have np : ∀ (ds : List PyData) (x2 x3 x4 : Option Sl), valO x2 → valO x3 → valO x4 → ∀ i, 2 ≤ i → notParB [some (.val (.list (ns.map PyData.int))), some (.own ds), x2, x3, x4] i = true := fun ds x2 x3 x4 v2 v3 v4 i hi => by
      match i, hi with
      | 2, _ => rcases v2 with rfl | ⟨d, rfl⟩ <;> rfl
      | 3, _ => rcases v3 with rfl | ⟨d, rfl⟩ <;> rfl
      | 4, _ => rcases v4 with rfl | ⟨d, rfl⟩ <;> rfl
      | i + 5, _ => rfl
    refine ⟨np ds x2 x3 x4 v2 v3 v4 2 (by decide), ?_⟩
    have w2 : valO (some (.val (.int (0 + (k : Nat))))) := .inr ⟨_, rfl⟩
    walk_at "w"
    refine ⟨by show 6 ≤ sizeLine; omega, ?_⟩
    walk_at "w"
    refine ⟨by walk_at "nd", ds, _, rfl, hd, .inl ⟨_, rfl, by decide, by decide, fun x hx ds1 hd1 => ?_⟩⟩
    have hx : smallI x = true := List.all_eq_true.mp (show ([.int 0, .int 1, .int 3, .int 8, .int 20, .int 40] : List PyData).all smallI = true by decide +kernel) x hx
    obtain ⟨n, rfl, n0, n40⟩ := smallI_of hx
    walk_at "w"
    refine ⟨by walk_at "nd", ds1, n, rfl, hd1, n0, n40, fun z ds2 hz hd2 => ?_⟩
    refine ⟨np ds2 _ x3 x4 w2 v3 v4 3 (by decide), ?_⟩
    dsimp only
    refine seq_cut (fun δ => ∃ (ds : List PyData) (z : Str), strB 60000 z = true ∧ DrawOk ds ∧ δ = [some (.val (.list (ns.map PyData.int))), some (.own ds), some (.val (.int (0 + (k : Nat)))), some (.val (.str z)), x4]) (fun N2 hN2 => ?_) ?_
    · walk_at "w"
      refine ⟨fun e => ?_, fun e => ?_⟩
      · walk_at "w"
        refine ⟨by walk_at "nd", ds2, _, rfl, hd2, by decide, by decide, fun r1 ds3 _ _ hd3 => ?_⟩
        walk_at "w"
        refine ⟨fun e2 => ?_, fun e2 => ?_⟩
        · walk_at "w"
          refine ⟨by walk_at "nd", ds3, _, rfl, hd3, by decide, by decide, fun z2 ds4 hz2 hd4 => ?_⟩
          walk_at "w"
          refine ⟨by walk_at "nd", ds4, _, rfl, hd4, by decide, by decide, fun r2 ds5 b1 b2 hd5 => ?_⟩
          have z2l := strB_len hz2
          have hm : z2.length * (1 + r2).toNat ≤ 960 * 60 := Nat.mul_le_mul z2l (by omega)
          walk_at "w"
          refine ⟨by omega, by omega, by show z2.length * (1 + r2).toNat ≤ sizeLine; omega, ?_⟩
          walk_at "w"
          refine ⟨np ds5 _ _ x4 w2 (.inr ⟨_, rfl⟩) v4 3 (by decide), ?_⟩
          exact hN2 _ ⟨ds5, _, strB_rep hz2 (1 + r2).toNat _ (by omega), hd5, rfl⟩
        · exact hN2 _ ⟨ds3, z, strB_le hz (by decide), hd3, rfl⟩
      · refine ⟨fun q => (by cases q), fun _ => ?_⟩
        exact hN2 _ ⟨ds2, z, strB_le hz (by decide), hd2, rfl⟩
    · rintro _ ⟨ds, z, hz, hd, rfl⟩
      have w3 : valO (some (.val (.str z))) := .inr ⟨_, rfl⟩
      have hzl := strB_len hz
      have hasc : ∀ c ∈ cd z, c < 128 := strB_asc hz
      have hal := allT_len z
      obtain ⟨c1, c2⟩ := cutT_ok (allT_asc hasc)
      have right : ∀ C2 : Sl → List Sl → Prop, C2 (.val (.bool true)) [.val (rowsD (cutT (allT z))), .val (rowsD (cutT (allT z)))] → sp__law_right [.val (rowsD (cutT (allT z))), .val (rowsD (cutT (allT z)))] C2 := fun C2 q => ⟨_, rfl, by omega, c2, q⟩
      walk_at "w"
      refine ⟨by walk_at "nd", z, rfl, by omega, ?_⟩
      refine ⟨np ds _ _ x4 w2 w3 v4 4 (by decide), ?_⟩
      walk_at "w"
      refine ⟨by walk_at "nd", z, rfl, by omega, hasc, ?_⟩
      walk_at "w"
      refine ⟨by walk_at "nd", right _ ?_⟩
      walk_at "w"
      refine ⟨fun e => (by cases e), fun _ => ?_⟩
      walk_at "w"
      refine ⟨by walk_at "nd", z, rfl, by omega, hasc, ?_⟩
      walk_at "w"
      refine ⟨by walk_at "nd", right _ ?_⟩
      walk_at "w"
      refine ⟨fun e => (by cases e), fun _ => ?_⟩
      exact hN _ ⟨ds, _, _, _, rfl, hd, w2, w3, .inr ⟨_, rfl⟩⟩
  · obtain ⟨ds, x2, x3, x4, rfl, hd, v2, v3, v4⟩ := hP
    have s0 : SeqAt.shaped (.tuple []) = true := by decide +kernel
    walk_at "w"
    refine ⟨by walk_at "nd", "", rfl, by decide, by decide +kernel, ?_⟩
    rw [cut_nil]
    walk_at "w"
    refine ⟨by show 0 ≤ sizeLine; omega, ?_⟩
    walk_at "w"
    refine ⟨s0, s0, ?_⟩
    refine ⟨fun _ => ?_, fun q => (by cases q)⟩
    walk_at "w"
    refine ⟨by walk_at "nd", " \n# ;", rfl, by decide, by decide +kernel, ?_⟩
    rw [cut_two']
    walk_at "w"
    refine ⟨by show 0 ≤ sizeLine; omega, ?_⟩
    walk_at "w"
    refine ⟨s0, s0, ?_⟩
    exact h
end K15

namespace K15
open PySem PySem.Spec PyProof.Rows L2 DD
/-! ### every def keeps its promise -/
section
variable {P : Program} {w : World} {K : PySem.W.Frag} {mg : Str → Option Value} {base : Heap}
theorem g__law_draw (T : Txt K mg) : Ok P w K mg base "_law_draw" 1 ["script"] sp__law_draw := ok_mk T.d__law_draw sc__law_draw (by intro sls C h; first | done | (repeat first | (obtain ⟨e, _⟩ := h; subst e; rfl) | (obtain ⟨_, h⟩ := h))) (fun _ _ _ _ _ _ us hl => match us, hl with | [_], _ => rfl) (fun f cdv A outer s H E hr => d__law_draw T  f cdv A outer s H E hr) l__law_draw
theorem g__law_next (T : Txt K mg) : Ok P w K mg base "_law_next" 1 ["draw", "many"] sp__law_next := ok_mk T.d__law_next sc__law_next (by intro sls C h; first | done | (repeat first | (obtain ⟨e, _⟩ := h; subst e; rfl) | (obtain ⟨_, h⟩ := h))) (fun _ _ _ _ _ _ us hl => match us, hl with | [_, _], _ => rfl) (fun f cdv A outer s H E hr => d__law_next T  f cdv A outer s H E hr) l__law_next
theorem g__law_pick (T : Txt K mg) : Ok P w K mg base "_law_pick" 2 ["draw", "row"] sp__law_pick := ok_mk T.d__law_pick sc__law_pick (by intro sls C h; first | done | (repeat first | (obtain ⟨e, _⟩ := h; subst e; rfl) | (obtain ⟨_, h⟩ := h))) (fun _ _ _ _ _ _ us hl => match us, hl with | [_, _], _ => rfl) (fun f cdv A outer s H E hr => d__law_pick T (g__law_next T) f cdv A outer s H E hr) l__law_pick
theorem g__law_words (T : Txt K mg) : Ok P w K mg base "_law_words" 1 [] sp__law_words := ok_mk T.d__law_words sc__law_words (by intro sls C h; first | done | (repeat first | (obtain ⟨e, _⟩ := h; subst e; rfl) | (obtain ⟨_, h⟩ := h))) (fun _ _ _ _ _ _ us hl => match us, hl with | [], _ => rfl) (fun f cdv A outer s H E hr => d__law_words T  f cdv A outer s H E hr) l__law_words
theorem g__law_signs (T : Txt K mg) : Ok P w K mg base "_law_signs" 1 [] sp__law_signs := ok_mk T.d__law_signs sc__law_signs (by intro sls C h; first | done | (repeat first | (obtain ⟨e, _⟩ := h; subst e; rfl) | (obtain ⟨_, h⟩ := h))) (fun _ _ _ _ _ _ us hl => match us, hl with | [], _ => rfl) (fun f cdv A outer s H E hr => d__law_signs T  f cdv A outer s H E hr) l__law_signs
theorem g__law_piece (T : Txt K mg) : Ok P w K mg base "_law_piece" 3 ["draw"] sp__law_piece := ok_mk T.d__law_piece sc__law_piece (by intro sls C h; first | done | (repeat first | (obtain ⟨e, _⟩ := h; subst e; rfl) | (obtain ⟨_, h⟩ := h))) (fun _ _ _ _ _ _ us hl => match us, hl with | [_], _ => rfl) (fun f cdv A outer s H E hr => d__law_piece T (g__law_next T) (g__law_pick T) (g__law_words T) (g__law_signs T) f cdv A outer s H E hr) l__law_piece
theorem g__law_text (T : Txt K mg) : Ok P w K mg base "_law_text" 4 ["draw", "many"] sp__law_text := ok_mk T.d__law_text sc__law_text (by intro sls C h; first | done | (repeat first | (obtain ⟨e, _⟩ := h; subst e; rfl) | (obtain ⟨_, h⟩ := h))) (fun _ _ _ _ _ _ us hl => match us, hl with | [_, _], _ => rfl) (fun f cdv A outer s H E hr => d__law_text T (g__law_piece T) (g__law_next T) (g__law_pick T) f cdv A outer s H E hr) l__law_text
theorem g__law_more (T : Txt K mg) : Ok P w K mg base "_law_more" 1 [] sp__law_more := ok_mk T.d__law_more sc__law_more (by intro sls C h; first | done | (repeat first | (obtain ⟨e, _⟩ := h; subst e; rfl) | (obtain ⟨_, h⟩ := h))) (fun _ _ _ _ _ _ us hl => match us, hl with | [], _ => rfl) (fun f cdv A outer s H E hr => d__law_more T  f cdv A outer s H E hr) l__law_more
theorem g__law_small (T : Txt K mg) : Ok P w K mg base "_law_small" 1 [] sp__law_small := ok_mk T.d__law_small sc__law_small (by intro sls C h; first | done | (repeat first | (obtain ⟨e, _⟩ := h; subst e; rfl) | (obtain ⟨_, h⟩ := h))) (fun _ _ _ _ _ _ us hl => match us, hl with | [], _ => rfl) (fun f cdv A outer s H E hr => d__law_small T  f cdv A outer s H E hr) l__law_small
theorem g__law_lexed (T : Txt K mg) : Ok P w K mg base "_law_lexed" 2 ["line"] sp__law_lexed := ok_mk T.d__law_lexed sc__law_lexed (by intro sls C h; first | done | (repeat first | (obtain ⟨e, _⟩ := h; subst e; rfl) | (obtain ⟨_, h⟩ := h))) (fun _ _ _ _ _ _ us hl => match us, hl with | [_], _ => rfl) (fun f cdv A outer s H E hr => d__law_lexed T (g__law_words T) (g__law_signs T) (g__law_more T) (g__law_small T) f cdv A outer s H E hr) l__law_lexed
theorem g__law_cut (T : Txt K mg) : Ok P w K mg base "_law_cut" 3 ["said"] sp__law_cut := ok_mk T.d__law_cut sc__law_cut (by intro sls C h; first | done | (repeat first | (obtain ⟨e, _⟩ := h; subst e; rfl) | (obtain ⟨_, h⟩ := h))) (fun _ _ _ _ _ _ us hl => match us, hl with | [_], _ => rfl) (fun f cdv A outer s H E hr => d__law_cut T (g__law_lexed T) f cdv A outer s H E hr) l__law_cut
theorem g__law_right (T : Txt K mg) : Ok P w K mg base "_law_right" 1 ["told", "due"] sp__law_right := ok_mk T.d__law_right sc__law_right (by intro sls C h; first | done | (repeat first | (obtain ⟨e, _⟩ := h; subst e; rfl) | (obtain ⟨_, h⟩ := h))) (fun _ _ _ _ _ _ us hl => match us, hl with | [_, _], _ => rfl) (fun f cdv A outer s H E hr => d__law_right T  f cdv A outer s H E hr) l__law_right
theorem g_cut (T : Txt K mg) : Ok P w K mg base "cut" 1 ["kept"] sp_cut := ok_mk T.d_cut sc_cut (by intro sls C h; first | done | (repeat first | (obtain ⟨e, _⟩ := h; subst e; rfl) | (obtain ⟨_, h⟩ := h))) (fun _ _ _ _ _ _ us hl => match us, hl with | [_], _ => rfl) (fun f cdv A outer s H E hr => d_cut T  f cdv A outer s H E hr) l_cut
theorem g_end_of (T : Txt K mg) : Ok P w K mg base "end_of" 1 ["line", "at"] sp_end_of := ok_mk T.d_end_of sc_end_of (by intro sls C h; first | done | (repeat first | (obtain ⟨e, _⟩ := h; subst e; rfl) | (obtain ⟨_, h⟩ := h))) (fun _ _ _ _ _ _ us hl => match us, hl with | [_, _], _ => rfl) (fun f cdv A outer s H E hr => d_end_of T  f cdv A outer s H E hr) l_end_of
theorem g_scanned (T : Txt K mg) : Ok P w K mg base "scanned" 2 ["line"] sp_scanned := ok_mk T.d_scanned sc_scanned (by intro sls C h; first | done | (repeat first | (obtain ⟨e, _⟩ := h; subst e; rfl) | (obtain ⟨_, h⟩ := h))) (fun _ _ _ _ _ _ us hl => match us, hl with | [_], _ => rfl) (fun f cdv A outer s H E hr => d_scanned T (g_end_of T) f cdv A outer s H E hr) l_scanned
theorem g_sort_of (T : Txt K mg) : Ok P w K mg base "sort_of" 1 ["text"] sp_sort_of := ok_mk T.d_sort_of sc_sort_of (by intro sls C h; first | done | (repeat first | (obtain ⟨e, _⟩ := h; subst e; rfl) | (obtain ⟨_, h⟩ := h))) (fun _ _ _ _ _ _ us hl => match us, hl with | [_], _ => rfl) (fun f cdv A outer s H E hr => d_sort_of T  f cdv A outer s H E hr) l_sort_of
theorem g_tokens (T : Txt K mg) : Ok P w K mg base "tokens" 3 ["line"] sp_tokens := ok_mk T.d_tokens sc_tokens (by intro sls C h; first | done | (repeat first | (obtain ⟨e, _⟩ := h; subst e; rfl) | (obtain ⟨_, h⟩ := h))) (fun _ _ _ _ _ _ us hl => match us, hl with | [_], _ => rfl) (fun f cdv A outer s H E hr => d_tokens T (g_scanned T) (g_sort_of T) f cdv A outer s H E hr) l_tokens
theorem g_kept_tokens (T : Txt K mg) : Ok P w K mg base "kept_tokens" 4 ["text"] sp_kept_tokens := ok_mk T.d_kept_tokens sc_kept_tokens (by intro sls C h; first | done | (repeat first | (obtain ⟨e, _⟩ := h; subst e; rfl) | (obtain ⟨_, h⟩ := h))) (fun _ _ _ _ _ _ us hl => match us, hl with | [_], _ => rfl) (fun f cdv A outer s H E hr => d_kept_tokens T (g_tokens T) f cdv A outer s H E hr) l_kept_tokens
theorem g_stretches (T : Txt K mg) : Ok P w K mg base "stretches" 5 ["text"] sp_stretches := ok_mk T.d_stretches sc_stretches (by intro sls C h; first | done | (repeat first | (obtain ⟨e, _⟩ := h; subst e; rfl) | (obtain ⟨_, h⟩ := h))) (fun _ _ _ _ _ _ us hl => match us, hl with | [_], _ => rfl) (fun f cdv A outer s H E hr => d_stretches T (g_cut T) (g_kept_tokens T) f cdv A outer s H E hr) l_stretches
theorem kk_stretches (T : Txt K mg) : OkK P w K mg base "stretches" 5 ["text"] sp_stretches := okk_mk T.d_stretches sc_stretches (by intro sls C h; first | done | (repeat first | (obtain ⟨e, _⟩ := h; subst e; rfl) | (obtain ⟨_, h⟩ := h))) (fun _ _ _ _ _ _ us hl => match us, hl with | [_], _ => rfl) (fun f cdv A outer s H E hr => d_stretches T (g_cut T) (g_kept_tokens T) f cdv A outer s H E hr) l_stretches
theorem g_law (T : Txt K mg) : Ok P w K mg base "law" 6 ["script"] sp_law := ok_mk T.d_law sc_law (by intro sls C h; first | done | (repeat first | (obtain ⟨e, _⟩ := h; subst e; rfl) | (obtain ⟨_, h⟩ := h))) (fun _ _ _ _ _ _ us hl => match us, hl with | [_], _ => rfl) (fun f cdv A outer s H E hr => d_law T (g__law_draw T) (g__law_text T) (g__law_pick T) (g__law_next T) (g__law_cut T) (g__law_right T) (g_stretches T) (kk_stretches T) f cdv A outer s H E hr) l_law
end
def k_ROW_SIGNS_str : Str := match k_ROW_SIGNS with | .str z => z | _ => ""
theorem txt_mk {K : PySem.W.Frag} {h : Heap} {mg : Str → Option Value} (X : K.In h) (G : h.Ns mainGlobals mg)
    {f__law_draw : Addr} {od_law_draw an_law_draw : Option Addr} {sl_law_draw : Array (Option Value)} {oc_law_draw kV_law_draw dc_law_draw pm_law_draw cd_law_draw ct_law_draw : Value}
    (a__law_draw : PySem.W.nsIn K mainGlobals "_law_draw" = some (some (.ref f__law_draw)))
    (l__law_draw : K.lookup f__law_draw = some ⟨oc_law_draw, od_law_draw, .func (PySem.W.fnOf "_law_draw" "_law_draw" (defArgs s__law_draw) (defBody s__law_draw) (defScope s__law_draw) .none kV_law_draw dc_law_draw pm_law_draw an_law_draw cd_law_draw ct_law_draw), sl_law_draw⟩)
    (c__law_draw : PySem.W.codeIn K cd_law_draw "_law_draw" = true) (k__law_draw : PySem.W.keepIn K (.ref f__law_draw) = true)
    {f__law_next : Addr} {od_law_next an_law_next : Option Addr} {sl_law_next : Array (Option Value)} {oc_law_next kV_law_next dc_law_next pm_law_next cd_law_next ct_law_next : Value}
    (a__law_next : PySem.W.nsIn K mainGlobals "_law_next" = some (some (.ref f__law_next)))
    (l__law_next : K.lookup f__law_next = some ⟨oc_law_next, od_law_next, .func (PySem.W.fnOf "_law_next" "_law_next" (defArgs s__law_next) (defBody s__law_next) (defScope s__law_next) .none kV_law_next dc_law_next pm_law_next an_law_next cd_law_next ct_law_next), sl_law_next⟩)
    (c__law_next : PySem.W.codeIn K cd_law_next "_law_next" = true) (k__law_next : PySem.W.keepIn K (.ref f__law_next) = true)
    {f__law_pick : Addr} {od_law_pick an_law_pick : Option Addr} {sl_law_pick : Array (Option Value)} {oc_law_pick kV_law_pick dc_law_pick pm_law_pick cd_law_pick ct_law_pick : Value}
    (a__law_pick : PySem.W.nsIn K mainGlobals "_law_pick" = some (some (.ref f__law_pick)))
    (l__law_pick : K.lookup f__law_pick = some ⟨oc_law_pick, od_law_pick, .func (PySem.W.fnOf "_law_pick" "_law_pick" (defArgs s__law_pick) (defBody s__law_pick) (defScope s__law_pick) .none kV_law_pick dc_law_pick pm_law_pick an_law_pick cd_law_pick ct_law_pick), sl_law_pick⟩)
    (c__law_pick : PySem.W.codeIn K cd_law_pick "_law_pick" = true) (k__law_pick : PySem.W.keepIn K (.ref f__law_pick) = true)
    {f__law_words : Addr} {od_law_words an_law_words : Option Addr} {sl_law_words : Array (Option Value)} {oc_law_words kV_law_words dc_law_words pm_law_words cd_law_words ct_law_words : Value}
    (a__law_words : PySem.W.nsIn K mainGlobals "_law_words" = some (some (.ref f__law_words)))
    (l__law_words : K.lookup f__law_words = some ⟨oc_law_words, od_law_words, .func (PySem.W.fnOf "_law_words" "_law_words" (defArgs s__law_words) (defBody s__law_words) (defScope s__law_words) .none kV_law_words dc_law_words pm_law_words an_law_words cd_law_words ct_law_words), sl_law_words⟩)
    (c__law_words : PySem.W.codeIn K cd_law_words "_law_words" = true) (k__law_words : PySem.W.keepIn K (.ref f__law_words) = true)
    {f__law_signs : Addr} {od_law_signs an_law_signs : Option Addr} {sl_law_signs : Array (Option Value)} {oc_law_signs kV_law_signs dc_law_signs pm_law_signs cd_law_signs ct_law_signs : Value}
    (a__law_signs : PySem.W.nsIn K mainGlobals "_law_signs" = some (some (.ref f__law_signs)))
    (l__law_signs : K.lookup f__law_signs = some ⟨oc_law_signs, od_law_signs, .func (PySem.W.fnOf "_law_signs" "_law_signs" (defArgs s__law_signs) (defBody s__law_signs) (defScope s__law_signs) .none kV_law_signs dc_law_signs pm_law_signs an_law_signs cd_law_signs ct_law_signs), sl_law_signs⟩)
    (c__law_signs : PySem.W.codeIn K cd_law_signs "_law_signs" = true) (k__law_signs : PySem.W.keepIn K (.ref f__law_signs) = true)
    {f__law_piece : Addr} {od_law_piece an_law_piece : Option Addr} {sl_law_piece : Array (Option Value)} {oc_law_piece kV_law_piece dc_law_piece pm_law_piece cd_law_piece ct_law_piece : Value}
    (a__law_piece : PySem.W.nsIn K mainGlobals "_law_piece" = some (some (.ref f__law_piece)))
    (l__law_piece : K.lookup f__law_piece = some ⟨oc_law_piece, od_law_piece, .func (PySem.W.fnOf "_law_piece" "_law_piece" (defArgs s__law_piece) (defBody s__law_piece) (defScope s__law_piece) .none kV_law_piece dc_law_piece pm_law_piece an_law_piece cd_law_piece ct_law_piece), sl_law_piece⟩)
    (c__law_piece : PySem.W.codeIn K cd_law_piece "_law_piece" = true) (k__law_piece : PySem.W.keepIn K (.ref f__law_piece) = true)
    {f__law_text : Addr} {od_law_text an_law_text : Option Addr} {sl_law_text : Array (Option Value)} {oc_law_text kV_law_text dc_law_text pm_law_text cd_law_text ct_law_text : Value}
    (a__law_text : PySem.W.nsIn K mainGlobals "_law_text" = some (some (.ref f__law_text)))
    (l__law_text : K.lookup f__law_text = some ⟨oc_law_text, od_law_text, .func (PySem.W.fnOf "_law_text" "_law_text" (defArgs s__law_text) (defBody s__law_text) (defScope s__law_text) .none kV_law_text dc_law_text pm_law_text an_law_text cd_law_text ct_law_text), sl_law_text⟩)
    (c__law_text : PySem.W.codeIn K cd_law_text "_law_text" = true) (k__law_text : PySem.W.keepIn K (.ref f__law_text) = true)
    {f__law_more : Addr} {od_law_more an_law_more : Option Addr} {sl_law_more : Array (Option Value)} {oc_law_more kV_law_more dc_law_more pm_law_more cd_law_more ct_law_more : Value}
    (a__law_more : PySem.W.nsIn K mainGlobals "_law_more" = some (some (.ref f__law_more)))
    (l__law_more : K.lookup f__law_more = some ⟨oc_law_more, od_law_more, .func (PySem.W.fnOf "_law_more" "_law_more" (defArgs s__law_more) (defBody s__law_more) (defScope s__law_more) .none kV_law_more dc_law_more pm_law_more an_law_more cd_law_more ct_law_more), sl_law_more⟩)
    (c__law_more : PySem.W.codeIn K cd_law_more "_law_more" = true) (k__law_more : PySem.W.keepIn K (.ref f__law_more) = true)
    {f__law_small : Addr} {od_law_small an_law_small : Option Addr} {sl_law_small : Array (Option Value)} {oc_law_small kV_law_small dc_law_small pm_law_small cd_law_small ct_law_small : Value}
    (a__law_small : PySem.W.nsIn K mainGlobals "_law_small" = some (some (.ref f__law_small)))
    (l__law_small : K.lookup f__law_small = some ⟨oc_law_small, od_law_small, .func (PySem.W.fnOf "_law_small" "_law_small" (defArgs s__law_small) (defBody s__law_small) (defScope s__law_small) .none kV_law_small dc_law_small pm_law_small an_law_small cd_law_small ct_law_small), sl_law_small⟩)
    (c__law_small : PySem.W.codeIn K cd_law_small "_law_small" = true) (k__law_small : PySem.W.keepIn K (.ref f__law_small) = true)
    {f__law_lexed : Addr} {od_law_lexed an_law_lexed : Option Addr} {sl_law_lexed : Array (Option Value)} {oc_law_lexed kV_law_lexed dc_law_lexed pm_law_lexed cd_law_lexed ct_law_lexed : Value}
    (a__law_lexed : PySem.W.nsIn K mainGlobals "_law_lexed" = some (some (.ref f__law_lexed)))
    (l__law_lexed : K.lookup f__law_lexed = some ⟨oc_law_lexed, od_law_lexed, .func (PySem.W.fnOf "_law_lexed" "_law_lexed" (defArgs s__law_lexed) (defBody s__law_lexed) (defScope s__law_lexed) .none kV_law_lexed dc_law_lexed pm_law_lexed an_law_lexed cd_law_lexed ct_law_lexed), sl_law_lexed⟩)
    (c__law_lexed : PySem.W.codeIn K cd_law_lexed "_law_lexed" = true) (k__law_lexed : PySem.W.keepIn K (.ref f__law_lexed) = true)
    {f__law_cut : Addr} {od_law_cut an_law_cut : Option Addr} {sl_law_cut : Array (Option Value)} {oc_law_cut kV_law_cut dc_law_cut pm_law_cut cd_law_cut ct_law_cut : Value}
    (a__law_cut : PySem.W.nsIn K mainGlobals "_law_cut" = some (some (.ref f__law_cut)))
    (l__law_cut : K.lookup f__law_cut = some ⟨oc_law_cut, od_law_cut, .func (PySem.W.fnOf "_law_cut" "_law_cut" (defArgs s__law_cut) (defBody s__law_cut) (defScope s__law_cut) .none kV_law_cut dc_law_cut pm_law_cut an_law_cut cd_law_cut ct_law_cut), sl_law_cut⟩)
    (c__law_cut : PySem.W.codeIn K cd_law_cut "_law_cut" = true) (k__law_cut : PySem.W.keepIn K (.ref f__law_cut) = true)
    {f__law_right : Addr} {od_law_right an_law_right : Option Addr} {sl_law_right : Array (Option Value)} {oc_law_right kV_law_right dc_law_right pm_law_right cd_law_right ct_law_right : Value}
    (a__law_right : PySem.W.nsIn K mainGlobals "_law_right" = some (some (.ref f__law_right)))
    (l__law_right : K.lookup f__law_right = some ⟨oc_law_right, od_law_right, .func (PySem.W.fnOf "_law_right" "_law_right" (defArgs s__law_right) (defBody s__law_right) (defScope s__law_right) .none kV_law_right dc_law_right pm_law_right an_law_right cd_law_right ct_law_right), sl_law_right⟩)
    (c__law_right : PySem.W.codeIn K cd_law_right "_law_right" = true) (k__law_right : PySem.W.keepIn K (.ref f__law_right) = true)
    {f_cut : Addr} {odcut ancut : Option Addr} {slcut : Array (Option Value)} {occut kVcut dccut pmcut cdcut ctcut : Value}
    (a_cut : PySem.W.nsIn K mainGlobals "cut" = some (some (.ref f_cut)))
    (l_cut : K.lookup f_cut = some ⟨occut, odcut, .func (PySem.W.fnOf "cut" "cut" (defArgs s_cut) (defBody s_cut) (defScope s_cut) .none kVcut dccut pmcut ancut cdcut ctcut), slcut⟩)
    (c_cut : PySem.W.codeIn K cdcut "cut" = true) (k_cut : PySem.W.keepIn K (.ref f_cut) = true)
    {f_end_of : Addr} {odend_of anend_of : Option Addr} {slend_of : Array (Option Value)} {ocend_of kVend_of dcend_of pmend_of cdend_of ctend_of : Value}
    (a_end_of : PySem.W.nsIn K mainGlobals "end_of" = some (some (.ref f_end_of)))
    (l_end_of : K.lookup f_end_of = some ⟨ocend_of, odend_of, .func (PySem.W.fnOf "end_of" "end_of" (defArgs s_end_of) (defBody s_end_of) (defScope s_end_of) .none kVend_of dcend_of pmend_of anend_of cdend_of ctend_of), slend_of⟩)
    (c_end_of : PySem.W.codeIn K cdend_of "end_of" = true) (k_end_of : PySem.W.keepIn K (.ref f_end_of) = true)
    {f_scanned : Addr} {odscanned anscanned : Option Addr} {slscanned : Array (Option Value)} {ocscanned kVscanned dcscanned pmscanned cdscanned ctscanned : Value}
    (a_scanned : PySem.W.nsIn K mainGlobals "scanned" = some (some (.ref f_scanned)))
    (l_scanned : K.lookup f_scanned = some ⟨ocscanned, odscanned, .func (PySem.W.fnOf "scanned" "scanned" (defArgs s_scanned) (defBody s_scanned) (defScope s_scanned) .none kVscanned dcscanned pmscanned anscanned cdscanned ctscanned), slscanned⟩)
    (c_scanned : PySem.W.codeIn K cdscanned "scanned" = true) (k_scanned : PySem.W.keepIn K (.ref f_scanned) = true)
    {f_sort_of : Addr} {odsort_of ansort_of : Option Addr} {slsort_of : Array (Option Value)} {ocsort_of kVsort_of dcsort_of pmsort_of cdsort_of ctsort_of : Value}
    (a_sort_of : PySem.W.nsIn K mainGlobals "sort_of" = some (some (.ref f_sort_of)))
    (l_sort_of : K.lookup f_sort_of = some ⟨ocsort_of, odsort_of, .func (PySem.W.fnOf "sort_of" "sort_of" (defArgs s_sort_of) (defBody s_sort_of) (defScope s_sort_of) .none kVsort_of dcsort_of pmsort_of ansort_of cdsort_of ctsort_of), slsort_of⟩)
    (c_sort_of : PySem.W.codeIn K cdsort_of "sort_of" = true) (k_sort_of : PySem.W.keepIn K (.ref f_sort_of) = true)
    {f_tokens : Addr} {odtokens antokens : Option Addr} {sltokens : Array (Option Value)} {octokens kVtokens dctokens pmtokens cdtokens cttokens : Value}
    (a_tokens : PySem.W.nsIn K mainGlobals "tokens" = some (some (.ref f_tokens)))
    (l_tokens : K.lookup f_tokens = some ⟨octokens, odtokens, .func (PySem.W.fnOf "tokens" "tokens" (defArgs s_tokens) (defBody s_tokens) (defScope s_tokens) .none kVtokens dctokens pmtokens antokens cdtokens cttokens), sltokens⟩)
    (c_tokens : PySem.W.codeIn K cdtokens "tokens" = true) (k_tokens : PySem.W.keepIn K (.ref f_tokens) = true)
    {f_kept_tokens : Addr} {odkept_tokens ankept_tokens : Option Addr} {slkept_tokens : Array (Option Value)} {ockept_tokens kVkept_tokens dckept_tokens pmkept_tokens cdkept_tokens ctkept_tokens : Value}
    (a_kept_tokens : PySem.W.nsIn K mainGlobals "kept_tokens" = some (some (.ref f_kept_tokens)))
    (l_kept_tokens : K.lookup f_kept_tokens = some ⟨ockept_tokens, odkept_tokens, .func (PySem.W.fnOf "kept_tokens" "kept_tokens" (defArgs s_kept_tokens) (defBody s_kept_tokens) (defScope s_kept_tokens) .none kVkept_tokens dckept_tokens pmkept_tokens ankept_tokens cdkept_tokens ctkept_tokens), slkept_tokens⟩)
    (c_kept_tokens : PySem.W.codeIn K cdkept_tokens "kept_tokens" = true) (k_kept_tokens : PySem.W.keepIn K (.ref f_kept_tokens) = true)
    {f_stretches : Addr} {odstretches anstretches : Option Addr} {slstretches : Array (Option Value)} {ocstretches kVstretches dcstretches pmstretches cdstretches ctstretches : Value}
    (a_stretches : PySem.W.nsIn K mainGlobals "stretches" = some (some (.ref f_stretches)))
    (l_stretches : K.lookup f_stretches = some ⟨ocstretches, odstretches, .func (PySem.W.fnOf "stretches" "stretches" (defArgs s_stretches) (defBody s_stretches) (defScope s_stretches) .none kVstretches dcstretches pmstretches anstretches cdstretches ctstretches), slstretches⟩)
    (c_stretches : PySem.W.codeIn K cdstretches "stretches" = true) (k_stretches : PySem.W.keepIn K (.ref f_stretches) = true)
    {f_law : Addr} {odlaw anlaw : Option Addr} {sllaw : Array (Option Value)} {oclaw kVlaw dclaw pmlaw cdlaw ctlaw : Value}
    (a_law : PySem.W.nsIn K mainGlobals "law" = some (some (.ref f_law)))
    (l_law : K.lookup f_law = some ⟨oclaw, odlaw, .func (PySem.W.fnOf "law" "law" (defArgs s_law) (defBody s_law) (defScope s_law) .none kVlaw dclaw pmlaw anlaw cdlaw ctlaw), sllaw⟩)
    (c_law : PySem.W.codeIn K cdlaw "law" = true) (k_law : PySem.W.keepIn K (.ref f_law) = true)
    {v_ITEM_WORDS : Value} (a_ITEM_WORDS : PySem.W.nsIn K mainGlobals "ITEM_WORDS" = some (some v_ITEM_WORDS)) (q_ITEM_WORDS : datIn K 6 v_ITEM_WORDS = some k_ITEM_WORDS)
    (q_ROW_SIGNS : ∃ t, mg "ROW_SIGNS" = some (.str k_ROW_SIGNS_str t))
    {v_LONG_SIGNS : Value} (a_LONG_SIGNS : PySem.W.nsIn K mainGlobals "LONG_SIGNS" = some (some v_LONG_SIGNS)) (q_LONG_SIGNS : datIn K 6 v_LONG_SIGNS = some k_LONG_SIGNS)
    {v_SMALL : Value} (a_SMALL : PySem.W.nsIn K mainGlobals "SMALL" = some (some v_SMALL)) (q_SMALL : datIn K 6 v_SMALL = some k_SMALL)
    {v_WORDS : Value} (a_WORDS : PySem.W.nsIn K mainGlobals "WORDS" = some (some v_WORDS)) (q_WORDS : datIn K 6 v_WORDS = some k_WORDS)
    {v_GREAT : Value} (a_GREAT : PySem.W.nsIn K mainGlobals "GREAT" = some (some v_GREAT)) (q_GREAT : datIn K 6 v_GREAT = some k_GREAT)
    {v_SIGNS : Value} (a_SIGNS : PySem.W.nsIn K mainGlobals "SIGNS" = some (some v_SIGNS)) (q_SIGNS : datIn K 6 v_SIGNS = some k_SIGNS)
    (z_list : PySem.W.nsIn K mainGlobals "list" = some none)
    (z_len : PySem.W.nsIn K mainGlobals "len" = some none)
    (z_int : PySem.W.nsIn K mainGlobals "int" = some none)
    (z_range : PySem.W.nsIn K mainGlobals "range" = some none)
    (z_tuple : PySem.W.nsIn K mainGlobals "tuple" = some none)
    (z_isinstance : PySem.W.nsIn K mainGlobals "isinstance" = some none)
    : Txt K mg where
  d__law_draw := def_mk X G a__law_draw l__law_draw c__law_draw k__law_draw
  d__law_next := def_mk X G a__law_next l__law_next c__law_next k__law_next
  d__law_pick := def_mk X G a__law_pick l__law_pick c__law_pick k__law_pick
  d__law_words := def_mk X G a__law_words l__law_words c__law_words k__law_words
  d__law_signs := def_mk X G a__law_signs l__law_signs c__law_signs k__law_signs
  d__law_piece := def_mk X G a__law_piece l__law_piece c__law_piece k__law_piece
  d__law_text := def_mk X G a__law_text l__law_text c__law_text k__law_text
  d__law_more := def_mk X G a__law_more l__law_more c__law_more k__law_more
  d__law_small := def_mk X G a__law_small l__law_small c__law_small k__law_small
  d__law_lexed := def_mk X G a__law_lexed l__law_lexed c__law_lexed k__law_lexed
  d__law_cut := def_mk X G a__law_cut l__law_cut c__law_cut k__law_cut
  d__law_right := def_mk X G a__law_right l__law_right c__law_right k__law_right
  d_cut := def_mk X G a_cut l_cut c_cut k_cut
  d_end_of := def_mk X G a_end_of l_end_of c_end_of k_end_of
  d_scanned := def_mk X G a_scanned l_scanned c_scanned k_scanned
  d_sort_of := def_mk X G a_sort_of l_sort_of c_sort_of k_sort_of
  d_tokens := def_mk X G a_tokens l_tokens c_tokens k_tokens
  d_kept_tokens := def_mk X G a_kept_tokens l_kept_tokens c_kept_tokens k_kept_tokens
  d_stretches := def_mk X G a_stretches l_stretches c_stretches k_stretches
  d_law := def_mk X G a_law l_law c_law k_law
  k_ITEM_WORDS := kD (PySem.W.mg_of X G a_ITEM_WORDS) q_ITEM_WORDS
  k_ROW_SIGNS := kLoose q_ROW_SIGNS
  k_LONG_SIGNS := kD (PySem.W.mg_of X G a_LONG_SIGNS) q_LONG_SIGNS
  k_SMALL := kD (PySem.W.mg_of X G a_SMALL) q_SMALL
  k_WORDS := kD (PySem.W.mg_of X G a_WORDS) q_WORDS
  k_GREAT := kD (PySem.W.mg_of X G a_GREAT) q_GREAT
  k_SIGNS := kD (PySem.W.mg_of X G a_SIGNS) q_SIGNS
  n_list := PySem.W.mg_none_of X G z_list
  n_len := PySem.W.mg_none_of X G z_len
  n_int := PySem.W.mg_none_of X G z_int
  n_range := PySem.W.mg_none_of X G z_range
  n_tuple := PySem.W.mg_none_of X G z_tuple
  n_isinstance := PySem.W.mg_none_of X G z_isinstance
theorem law_ok {l : PySem.W.OpenLaw} {w : World} {K : PySem.W.Frag} {h : Heap} {mg : Str → Option Value} {fa : Addr} (T : Txt K mg) (hfa : mg "law" = some (.ref fa)) :
    ∃ fd : FuncData, (∀ (s : Shared) (u : Value), BindsTo s fd ⟨[u], []⟩ [("script", u)]) ∧ ∀ base : Heap, K.In base → base.Ns mainGlobals mg → FnOk l.prog w K mg base CX0 6 fa fd ["script"] (lift K sp_law) := by
  obtain ⟨f, fd, hm, F⟩ := T.d_law
  cases hm.symm.trans hfa
  refine ⟨fd, fun s u => ?_, fun base _ _ => ?_⟩
  · obtain ⟨oc, od, kV, dc, pm, an, cd, ct, osl, rfl, lk, hcd⟩ := F.ex
    exact .of_eq rfl
  · exact fn_dd F sc_law (by intro sls C h; first | done | (repeat first | (obtain ⟨e, _⟩ := h; subst e; rfl) | (obtain ⟨_, h⟩ := h))) (fun cdv A outer s H E hr => d_law T (g__law_draw T) (g__law_text T) (g__law_pick T) (g__law_next T) (g__law_cut T) (g__law_right T) (g_stretches T) (kk_stretches T) _ cdv A outer s H E hr) l_law
end K15
open PySem PySem.W PyProof.Rows
set_option maxHeartbeats 0 in
theorem PySem.Challenge.cw_asiffresh_k15_stretches_of_a_text_holds : PySem.Challenge.rw_asiffresh_k15_stretches_of_a_text.Holds := by
  w_on; o_law; k_head; (case hw => w_witness2)
  k_fill
  refine DD.walk_X (l := PySem.Challenge.rw_asiffresh_k15_stretches_of_a_text) (n := 63) (k := 6) (x := "script") (sp := K15.sp_law) rfl (by decide) rfl ⟨rfl, by decide, by decide⟩ (fun w h Y => PySem.W.kIn_of Y) ?F (fun ns _ => ⟨ns, rfl, rfl⟩)
  case F =>
    intro w mg fa h KX G XPh hmg
    refine K15.law_ok (h := h) ?T hmg
    case T =>
      refine' K15.txt_mk KX G ?a__law_draw ?l__law_draw ?c__law_draw ?k__law_draw ?a__law_next ?l__law_next ?c__law_next ?k__law_next ?a__law_pick ?l__law_pick ?c__law_pick ?k__law_pick ?a__law_words ?l__law_words ?c__law_words ?k__law_words ?a__law_signs ?l__law_signs ?c__law_signs ?k__law_signs ?a__law_piece ?l__law_piece ?c__law_piece ?k__law_piece ?a__law_text ?l__law_text ?c__law_text ?k__law_text ?a__law_more ?l__law_more ?c__law_more ?k__law_more ?a__law_small ?l__law_small ?c__law_small ?k__law_small ?a__law_lexed ?l__law_lexed ?c__law_lexed ?k__law_lexed ?a__law_cut ?l__law_cut ?c__law_cut ?k__law_cut ?a__law_right ?l__law_right ?c__law_right ?k__law_right ?a_cut ?l_cut ?c_cut ?k_cut ?a_end_of ?l_end_of ?c_end_of ?k_end_of ?a_scanned ?l_scanned ?c_scanned ?k_scanned ?a_sort_of ?l_sort_of ?c_sort_of ?k_sort_of ?a_tokens ?l_tokens ?c_tokens ?k_tokens ?a_kept_tokens ?l_kept_tokens ?c_kept_tokens ?k_kept_tokens ?a_stretches ?l_stretches ?c_stretches ?k_stretches ?a_law ?l_law ?c_law ?k_law ?a_ITEM_WORDS ?q_ITEM_WORDS ?q_ROW_SIGNS ?a_LONG_SIGNS ?q_LONG_SIGNS ?a_SMALL ?q_SMALL ?a_WORDS ?q_WORDS ?a_GREAT ?q_GREAT ?a_SIGNS ?q_SIGNS ?z_list ?z_len ?z_int ?z_range ?z_tuple ?z_isinstance
      (case a__law_draw => k_is)
      (case l__law_draw => k_is)
      (case c__law_draw => k_is)
      (case k__law_draw => k_is)
      (case a__law_next => k_is)
      (case l__law_next => k_is)
      (case c__law_next => k_is)
      (case k__law_next => k_is)
      (case a__law_pick => k_is)
      (case l__law_pick => k_is)
      (case c__law_pick => k_is)
      (case k__law_pick => k_is)
      (case a__law_words => k_is)
      (case l__law_words => k_is)
      (case c__law_words => k_is)
      (case k__law_words => k_is)
      (case a__law_signs => k_is)
      (case l__law_signs => k_is)
      (case c__law_signs => k_is)
      (case k__law_signs => k_is)
      (case a__law_piece => k_is)
      (case l__law_piece => k_is)
      (case c__law_piece => k_is)
      (case k__law_piece => k_is)
      (case a__law_text => k_is)
      (case l__law_text => k_is)
      (case c__law_text => k_is)
      (case k__law_text => k_is)
      (case a__law_more => k_is)
      (case l__law_more => k_is)
      (case c__law_more => k_is)
      (case k__law_more => k_is)
      (case a__law_small => k_is)
      (case l__law_small => k_is)
      (case c__law_small => k_is)
      (case k__law_small => k_is)
      (case a__law_lexed => k_is)
      (case l__law_lexed => k_is)
      (case c__law_lexed => k_is)
      (case k__law_lexed => k_is)
      (case a__law_cut => k_is)
      (case l__law_cut => k_is)
      (case c__law_cut => k_is)
      (case k__law_cut => k_is)
      (case a__law_right => k_is)
      (case l__law_right => k_is)
      (case c__law_right => k_is)
      (case k__law_right => k_is)
      (case a_cut => k_is)
      (case l_cut => k_is)
      (case c_cut => k_is)
      (case k_cut => k_is)
      (case a_end_of => k_is)
      (case l_end_of => k_is)
      (case c_end_of => k_is)
      (case k_end_of => k_is)
      (case a_scanned => k_is)
      (case l_scanned => k_is)
      (case c_scanned => k_is)
      (case k_scanned => k_is)
      (case a_sort_of => k_is)
      (case l_sort_of => k_is)
      (case c_sort_of => k_is)
      (case k_sort_of => k_is)
      (case a_tokens => k_is)
      (case l_tokens => k_is)
      (case c_tokens => k_is)
      (case k_tokens => k_is)
      (case a_kept_tokens => k_is)
      (case l_kept_tokens => k_is)
      (case c_kept_tokens => k_is)
      (case k_kept_tokens => k_is)
      (case a_stretches => k_is)
      (case l_stretches => k_is)
      (case c_stretches => k_is)
      (case k_stretches => k_is)
      (case a_law => k_is)
      (case l_law => k_is)
      (case c_law => k_is)
      (case k_law => k_is)
      (case a_ITEM_WORDS => k_is)
      (case a_LONG_SIGNS => k_is)
      (case a_SMALL => k_is)
      (case a_WORDS => k_is)
      (case a_GREAT => k_is)
      (case a_SIGNS => k_is)
      (case z_list => k_is)
      (case z_len => k_is)
      (case z_int => k_is)
      (case z_range => k_is)
      (case z_tuple => k_is)
      (case z_isinstance => k_is)
      (case q_ITEM_WORDS => exact rfl)
      (case q_ROW_SIGNS => exact DD.loose_str XPh (List.Mem.head _))
      (case q_LONG_SIGNS => exact rfl)
      (case q_SMALL => exact rfl)
      (case q_WORDS => exact rfl)
      (case q_GREAT => exact rfl)
      (case q_SIGNS => exact rfl)
