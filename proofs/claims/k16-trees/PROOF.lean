import PyProof.Rows.All
import Wide.All
import OpenK.AllK
import Wide.FinOn
import HandS.ForMost
import HandS.Deep
import HandS.IsInst
import HandS.Wide
import HandS.StrMore
import HandS.Codes
import HandS.TupAny
import HandS.Exc
import HandS.ExcCtx
import HandS.ForExc
import HandS.ExcOwn
import HandS.TryOnly
import HandS.TryMany
import HandS.WordsExc
import HandS.More
import HandS.Style
import KE.GoesEnum
import HandS.Zip0
import HandS.HeadHook3
import PySem.Challenge.RW_asiffresh_k16_trees_of_items
set_option Elab.async false
set_option linter.all false
set_option maxRecDepth 100000
set_option maxHeartbeats 4000000
/-! DD: value semantics of immutable data (PyData), with owned lists in slots, over the judgements of HandS. -/
namespace DD
open PySem PySem.Spec PyProof.Rows L2

/-- what a slot holds: frozen data; a list of the def's own; a list that was handed in to be changed -/
inductive Sl where
  | val (d : PyData)
  | own (xs : List PyData)
  | par (xs : List PyData)
abbrev DSt := List (Option Sl)
/-- what an expression gives: frozen data, or the owned list in a slot -/
inductive Ar where
  | val (d : PyData)
  | sl (i : Nat)
abbrev DTE := DSt → (Ar → DSt → Prop) → Prop
abbrev DTT := DSt → (Bool → DSt → Prop) → Prop
abbrev DTA := DSt → (List Ar → DSt → Prop) → Prop
structure DEnds where
  nx : DSt → Prop
  rt : Sl → DSt → Prop
  bk : DSt → Prop := fun _ => False
  ct : DSt → Prop := fun _ => False
abbrev DTS := DEnds → DSt → Prop

def OwnC (δ : DSt) (i : Nat) (xs : List PyData) : Prop := δ[i]? = some (some (.own xs)) ∨ δ[i]? = some (some (.par xs))
def OwnA (σ : L2.St) (δ : DSt) (l : Addr) : Prop := ∃ i xs, OwnC δ i xs ∧ σ[i]? = some (some (.ref l))

end DD
namespace L2
open PySem PySem.Spec PyProof.Rows
section
variable {K : PySem.W.Frag}
theorem seqT {H H' : Hp} {a : Addr} {xs : List V} (e : Same H H') (h : SqT K H a xs) : SqT K H' a xs := by
  rcases h with (h | ⟨o, h⟩) | h
  · exact .inl (.inl (e _ _ h))
  · exact .inl (.inr ⟨o, e _ _ h⟩)
  · exact .inr h
mutual
theorem Dp.mono {F F' : Hp} (e : Same F F') : ∀ (d : PyData) (v : V), Dp K F v d → Dp K F' v d
  | .none, _, h => by cases h; exact .non
  | .bool _, _, h => by cases h; exact .bl _
  | .int _, _, h => by cases h; exact .int _
  | .str _, _, h => by cases h; exact .str _
  | .list ds, _, h => by
    cases h with
    | lst hs ha => exact .lst (e.seq hs) (Dp.monoAll e ds _ ha)
  | .tuple ds, _, h => by
    cases h with
    | tup hs ha => exact .tup (seqT e hs) (Dp.monoAll e ds _ ha)
  | .dict _, _, h => by cases h
theorem Dp.monoAll {F F' : Hp} (e : Same F F') : ∀ (ds : List PyData) (vs : List V), DpAll K F vs ds → DpAll K F' vs ds
  | [], _, h => by cases h; exact .nil
  | d :: ds, _, h => by
    cases h with
    | cons h1 h2 => exact .cons (Dp.mono e d _ h1) (Dp.monoAll e ds _ h2)
end
theorem DpAll.length {F : Hp} : ∀ {vs : List V} {ds : List PyData}, DpAll K F vs ds → vs.length = ds.length
  | _, _, .nil => rfl
  | _, _, .cons _ h => congrArg (· + 1) (DpAll.length h)
theorem DpAll.get {F : Hp} : ∀ {vs : List V} {ds : List PyData} {i : Nat} {d : PyData}, DpAll K F vs ds → ds[i]? = some d → ∃ v, vs[i]? = some v ∧ Dp K F v d
  | _, _, i, d, .nil, e => by simp at e
  | _, _, 0, d, .cons h _, e => by simp at e; subst e; exact ⟨_, rfl, h⟩
  | _, _, i + 1, d, .cons _ h, e => by
    obtain ⟨v, h1, h2⟩ := DpAll.get (i := i) (d := d) h (by simpa using e)
    exact ⟨v, by simpa using h1, h2⟩
theorem DpAll.getV {F : Hp} : ∀ {vs : List V} {ds : List PyData} {i : Nat} {v : V}, DpAll K F vs ds → vs[i]? = some v → ∃ d, ds[i]? = some d ∧ Dp K F v d
  | _, _, i, v, .nil, e => by simp at e
  | _, _, 0, v, .cons h _, e => by simp at e; subst e; exact ⟨_, rfl, h⟩
  | _, _, i + 1, v, .cons _ h, e => by
    obtain ⟨d, h1, h2⟩ := DpAll.getV (i := i) (v := v) h (by simpa using e)
    exact ⟨d, by simpa using h1, h2⟩
theorem DpAll.append {F : Hp} : ∀ {vs ws : List V} {ds es : List PyData}, DpAll K F vs ds → DpAll K F ws es → DpAll K F (vs ++ ws) (ds ++ es)
  | _, _, _, _, .nil, s => s
  | _, _, _, _, .cons r t, s => .cons r (DpAll.append t s)
theorem DpAll.take {F : Hp} : ∀ {vs : List V} {ds : List PyData} (n : Nat), DpAll K F vs ds → DpAll K F (vs.take n) (ds.take n)
  | _, _, 0, _ => .nil
  | _, _, n + 1, .nil => .nil
  | _, _, n + 1, .cons r t => .cons r (DpAll.take n t)
theorem DpAll.drop {F : Hp} : ∀ {vs : List V} {ds : List PyData} (n : Nat), DpAll K F vs ds → DpAll K F (vs.drop n) (ds.drop n)
  | _, _, 0, r => r
  | _, _, n + 1, .nil => .nil
  | _, _, n + 1, .cons r t => DpAll.drop n t
theorem DpAll.set {F : Hp} {v : V} {d : PyData} (h : Dp K F v d) : ∀ {vs : List V} {ds : List PyData} (i : Nat), DpAll K F vs ds → DpAll K F (vs.set i v) (ds.set i d)
  | _, _, _, .nil => .nil
  | _, _, 0, .cons _ t => .cons h t
  | _, _, i + 1, .cons r t => .cons r (DpAll.set h i t)
theorem DpAll.reverse {F : Hp} {vs : List V} {ds : List PyData} (h : DpAll K F vs ds) : DpAll K F vs.reverse ds.reverse := by
  have key : ∀ (vs : List V) (ds : List PyData), DpAll K F vs ds → DpAll K F vs.reverse ds.reverse := by
    intro vs
    induction vs with
    | nil => intro ds h; cases h; exact .nil
    | cons v vs ih =>
      intro ds h
      cases h with
      | cons h1 h2 =>
        rw [List.reverse_cons, List.reverse_cons]
        exact DpAll.append (ih _ h2) (.cons h1 .nil)
  exact key _ _ h
theorem DpAll.dropLast {F : Hp} {vs : List V} {ds : List PyData} (h : DpAll K F vs ds) : DpAll K F vs.dropLast ds.dropLast := by
  rw [List.dropLast_eq_take, List.dropLast_eq_take, h.length]
  exact DpAll.take _ h
theorem DpAll.ints {F : Hp} : ∀ (ns : List Int), DpAll K F (ns.map V.int) (ns.map PyData.int)
  | [] => .nil
  | n :: ns => .cons (.int n) (DpAll.ints ns)
theorem DpAll.strs {F : Hp} : ∀ (ns : List Str), DpAll K F (ns.map V.str) (ns.map PyData.str)
  | [] => .nil
  | n :: ns => .cons (.str n) (DpAll.strs ns)
/-- values of texts are texts -/
theorem DpAll.ofStrs {F : Hp} : ∀ {vs : List V} {ns : List Str}, DpAll K F vs (ns.map PyData.str) → vs = ns.map V.str
  | vs, [], h => by cases h; rfl
  | vs, n :: ns, h => by
    cases h with
    | cons h1 h2 =>
      cases h1
      rw [DpAll.ofStrs h2]
      rfl
theorem DpAll.ofInts {F : Hp} : ∀ {vs : List V} {ns : List Int}, DpAll K F vs (ns.map PyData.int) → vs = ns.map V.int
  | vs, [], h => by cases h; rfl
  | vs, n :: ns, h => by
    cases h with
    | cons h1 h2 =>
      cases h1
      rw [DpAll.ofInts h2]
      rfl
end

end L2
namespace DD
open PySem PySem.Spec PyProof.Rows L2
/-- slots, data, heap: F the frozen part -/
structure RepS (K : PySem.W.Frag) (F : Hp) (σ : L2.St) (δ : DSt) (H : Hp) : Prop where
  len : σ.length = δ.length
  sub : Same F H
  val : ∀ (i : Nat) (d : PyData), δ[i]? = some (some (.val d)) → ∃ v, σ[i]? = some (some v) ∧ Dp K F v d
  own : ∀ (i : Nat) (xs : List PyData), OwnC δ i xs → ∃ l vs, σ[i]? = some (some (.ref l)) ∧ F l = none ∧ H l = some (.lst vs) ∧ DpAll K F vs xs
  sep : ∀ (i j : Nat) (xs ys : List PyData) (l : Addr), i ≠ j → OwnC δ i xs → OwnC δ j ys → σ[i]? = some (some (.ref l)) → σ[j]? ≠ some (some (.ref l))
/-- the lists of the def's own -/
def OwnL (σ : L2.St) (δ : DSt) (l : Addr) : Prop := ∃ (i : Nat) (xs : List PyData), δ[i]? = some (some (.own xs)) ∧ σ[i]? = some (some (.ref l))
/-- from one state to a later one -/
structure Stp (σ : L2.St) (δ : DSt) (F H : Hp) (σ' : L2.St) (δ' : DSt) (F' H' : Hp) : Prop where
  ext : Same F F'
  new : ∀ b o, F' b = some o → F b = some o ∨ H b = none ∨ OwnL σ δ b
  frm : ∀ b o, H b = some o → ¬ OwnA σ δ b → H' b = some o
  dom : ∀ b, H' b = none → H b = none
  own : ∀ l, OwnA σ' δ' l → OwnA σ δ l ∨ H l = none
  par : ∀ (i : Nat) (xs : List PyData), δ[i]? = some (some (.par xs)) → (∃ ys : List PyData, δ'[i]? = some (some (.par ys))) ∧ σ'[i]? = σ[i]?
  ownl : ∀ l, OwnL σ' δ' l → OwnL σ δ l ∨ H l = none
theorem Stp.refl {σ δ F H} : Stp σ δ F H σ δ F H :=
  ⟨Same.refl _, fun _ _ h => .inl h, fun _ _ h _ => h, fun _ h => h, fun _ h => .inl h, fun _ _ h => ⟨⟨_, h⟩, rfl⟩, fun _ h => .inl h⟩
theorem Stp.trans {σ δ F H σ1 δ1 F1 H1 σ2 δ2 F2 H2} (a : Stp σ δ F H σ1 δ1 F1 H1) (b : Stp σ1 δ1 F1 H1 σ2 δ2 F2 H2) : Stp σ δ F H σ2 δ2 F2 H2 where
  ext := a.ext.trans b.ext
  new := fun c o h => by
    rcases b.new c o h with q | q | q
    · exact a.new c o q
    · exact .inr (.inl (a.dom c q))
    · rcases a.ownl c q with z | z
      · exact .inr (.inr z)
      · exact .inr (.inl z)
  frm := fun c o h n => by
    refine b.frm c o (a.frm c o h n) fun q => ?_
    rcases a.own c q with z | z
    · exact n z
    · rw [h] at z; cases z
  dom := fun c h => a.dom c (b.dom c h)
  own := fun l h => by
    rcases b.own l h with q | q
    · exact a.own l q
    · exact .inr (a.dom l q)
  par := fun i xs h => by
    obtain ⟨⟨ys, h1⟩, e1⟩ := a.par i xs h
    obtain ⟨q, e2⟩ := b.par i ys h1
    exact ⟨q, e2.trans e1⟩
  ownl := fun l h => by
    rcases b.ownl l h with q | q
    · exact a.ownl l q
    · exact .inr (a.dom l q)

def ArRep (K : PySem.W.Frag) (F : Hp) (σ : L2.St) (v : V) : Ar → Prop
  | .val d => Dp K F v d
  | .sl i => σ[i]? = some (some v)
def ArsRep (K : PySem.W.Frag) (F : Hp) (σ : L2.St) : List V → List Ar → Prop
  | [], [] => True
  | v :: vs, a :: as => ArRep K F σ v a ∧ ArsRep K F σ vs as
  | _, _ => False
theorem ArRep.mono {K : PySem.W.Frag} {F F' : Hp} {σ : L2.St} {v : V} {a : Ar} (e : Same F F') (h : ArRep K F σ v a) : ArRep K F' σ v a := by
  cases a with
  | val d => exact Dp.mono e d v h
  | sl i => exact h

section
variable {K : PySem.W.Frag} {F H : Hp} {σ : L2.St} {δ : DSt}
/-- a new frozen object -/
theorem RepS.alloc (R : RepS K F σ δ H) {p : Addr} {o : HO} (n : H p = none) : RepS K (upd F p o) σ δ (upd H p o) ∧ Stp σ δ F H σ δ (upd F p o) (upd H p o) := by
  have nF : F p = none := R.sub.free n
  have sF : Same F (upd F p o) := fun b u e => by rw [upd_ne (ne_of_none e nF)]; exact e
  refine ⟨⟨R.len, fun b u e => ?_, fun i d h => ?_, fun i xs h => ?_, R.sep⟩, ⟨sF, fun b u e => ?_, fun b u e _ => ?_, fun b e => ?_, fun l h => .inl h, fun i xs h => ⟨⟨_, h⟩, rfl⟩, fun l h => .inl h⟩⟩
  · by_cases hb : b = p
    · subst hb; rw [upd_same] at e ⊢; exact e
    · rw [upd_ne hb] at e ⊢; exact R.sub b u e
  · obtain ⟨v, h1, h2⟩ := R.val i d h
    exact ⟨v, h1, Dp.mono sF d v h2⟩
  · obtain ⟨l, vs, h1, h2, h3, h4⟩ := R.own i xs h
    have ne : l ≠ p := ne_of_none h3 n
    exact ⟨l, vs, h1, by rw [upd_ne ne]; exact h2, by rw [upd_ne ne]; exact h3, Dp.monoAll sF _ _ h4⟩
  · by_cases hb : b = p
    · subst hb; exact .inr (.inl n)
    · rw [upd_ne hb] at e; exact .inl e
  · rw [upd_ne (ne_of_none e n)]; exact e
  · by_cases hb : b = p
    · subst hb; exact n
    · rw [upd_ne hb] at e; exact e
/-- the content of the owned list in slot i changes -/
def putC (δ : DSt) (i : Nat) (ys : List PyData) : DSt :=
  match δ[i]? with
  | some (some (.own _)) => δ.set i (some (.own ys))
  | some (some (.par _)) => δ.set i (some (.par ys))
  | _ => δ
theorem putC_own {δ : DSt} {i : Nat} {xs ys zs : List PyData} {j : Nat} (h : OwnC δ i xs) : OwnC (putC δ i ys) j zs ↔ (if j = i then zs = ys else OwnC δ j zs) := by
  have hi : i < δ.length := by
    rcases h with h | h <;> exact (List.getElem?_eq_some_iff.mp h).1
  unfold putC
  rcases h with h | h
  · rw [h]
    show OwnC (δ.set i (some (.own ys))) j zs ↔ _
    unfold OwnC
    by_cases e : j = i
    · subst e
      rw [List.getElem?_set_self hi, if_pos rfl]
      constructor
      · rintro (q | q)
        · cases q; rfl
        · cases q
      · rintro rfl; exact .inl rfl
    · rw [List.getElem?_set_ne (Ne.symm e), if_neg e]
  · rw [h]
    show OwnC (δ.set i (some (.par ys))) j zs ↔ _
    unfold OwnC
    by_cases e : j = i
    · subst e
      rw [List.getElem?_set_self hi, if_pos rfl]
      constructor
      · rintro (q | q)
        · cases q
        · cases q; rfl
      · rintro rfl; exact .inr rfl
    · rw [List.getElem?_set_ne (Ne.symm e), if_neg e]
theorem putC_len (δ : DSt) (i : Nat) (ys : List PyData) : (putC δ i ys).length = δ.length := by
  unfold putC
  split <;> simp
theorem putC_ne {δ : DSt} {i j : Nat} {ys : List PyData} (h : j ≠ i) : (putC δ i ys)[j]? = δ[j]? := by
  unfold putC
  split <;> first | rw [List.getElem?_set_ne (Ne.symm h)] | rfl
theorem putC_par {δ : DSt} {i j : Nat} {xs ys zs : List PyData} (h : OwnC δ i xs) (q : δ[j]? = some (some (.par zs))) : ∃ ws, (putC δ i ys)[j]? = some (some (.par ws)) := by
  by_cases e : j = i
  · subst e
    have hi : j < δ.length := (List.getElem?_eq_some_iff.mp q).1
    unfold putC
    rw [q]
    exact ⟨ys, List.getElem?_set_self hi⟩
  · exact ⟨zs, by rw [putC_ne e]; exact q⟩
theorem putC_val {δ : DSt} {i j : Nat} {xs ys : List PyData} {d : PyData} (h : OwnC δ i xs) (q : (putC δ i ys)[j]? = some (some (.val d))) : δ[j]? = some (some (.val d)) := by
  by_cases e : j = i
  · subst e
    have hi : j < δ.length := by rcases h with h | h <;> exact (List.getElem?_eq_some_iff.mp h).1
    unfold putC at q
    rcases h with h | h <;> rw [h] at q
    · rw [show (δ.set j (some (Sl.own ys)))[j]? = _ from List.getElem?_set_self hi] at q; cases q
    · rw [show (δ.set j (some (Sl.par ys)))[j]? = _ from List.getElem?_set_self hi] at q; cases q
  · rw [putC_ne e] at q; exact q
theorem putC_ownl {σ : L2.St} {δ : DSt} {i j : Nat} {xs ys zs : List PyData} {b : Addr} (h : OwnC δ i xs) (q : (putC δ i ys)[j]? = some (some (.own zs))) (q2 : σ[j]? = some (some (.ref b))) : OwnL σ δ b := by
  by_cases e : j = i
  · subst e
    have hi : j < δ.length := by rcases h with h | h <;> exact (List.getElem?_eq_some_iff.mp h).1
    rcases h with h | h
    · exact ⟨j, xs, h, q2⟩
    · unfold putC at q
      rw [h] at q
      rw [show (δ.set j (some (Sl.par ys)))[j]? = _ from List.getElem?_set_self hi] at q
      cases q
  · rw [putC_ne e] at q
    exact ⟨j, zs, q, q2⟩
theorem RepS.put (R : RepS K F σ δ H) {i : Nat} {xs ys : List PyData} {l : Addr} {ws : List V} (h : OwnC δ i xs) (hl : σ[i]? = some (some (.ref l))) (hw : DpAll K F ws ys) :
    RepS K F σ (putC δ i ys) (upd H l (.lst ws)) ∧ Stp σ δ F H σ (putC δ i ys) F (upd H l (.lst ws)) := by
  obtain ⟨l', vs, e1, e2, e3, e4⟩ := R.own i xs h
  rw [hl] at e1
  cases e1
  have ownA : ∀ b, OwnA σ (putC δ i ys) b → OwnA σ δ b := fun b ⟨j, zs, q1, q2⟩ => by
    rw [putC_own h] at q1
    by_cases e : j = i
    · subst e; exact ⟨j, xs, h, q2⟩
    · rw [if_neg e] at q1; exact ⟨j, zs, q1, q2⟩
  refine ⟨⟨by rw [putC_len]; exact R.len, fun b u e => ?_, fun j d q => R.val j d (putC_val h q), fun j zs q => ?_, fun a b zs1 zs2 l' ne q1 q2 => ?_⟩,
    ⟨Same.refl _, fun _ _ q => .inl q, fun b u q n => ?_, fun b q => ?_, fun b q => .inl (ownA b q), fun j zs q => ⟨putC_par h q, rfl⟩, fun b ⟨j, zs, q1, q2⟩ => .inl (putC_ownl h q1 q2)⟩⟩
  · have ne : b ≠ l := fun z => by subst z; rw [e2] at e; cases e
    rw [upd_ne ne]; exact R.sub b u e
  · rw [putC_own h] at q
    by_cases e : j = i
    · subst e
      rw [if_pos rfl] at q
      subst q
      exact ⟨l, ws, hl, e2, upd_same, hw⟩
    · rw [if_neg e] at q
      obtain ⟨l2, vs2, f1, f2, f3, f4⟩ := R.own j zs q
      have ne : l2 ≠ l := fun z => by
        subst z
        exact R.sep j i zs xs l2 e q h f1 hl
      exact ⟨l2, vs2, f1, f2, by rw [upd_ne ne]; exact f3, f4⟩
  · rw [putC_own h] at q1 q2
    have g1 : ∃ zs, OwnC δ a zs := by
      by_cases e : a = i
      · exact ⟨xs, e ▸ h⟩
      · rw [if_neg e] at q1; exact ⟨_, q1⟩
    have g2 : ∃ zs, OwnC δ b zs := by
      by_cases e : b = i
      · exact ⟨xs, e ▸ h⟩
      · rw [if_neg e] at q2; exact ⟨_, q2⟩
    obtain ⟨z1, g1⟩ := g1
    obtain ⟨z2, g2⟩ := g2
    exact R.sep a b z1 z2 l' ne g1 g2
  · have ne : b ≠ l := fun z => n ⟨i, xs, h, by rw [z]; exact hl⟩
    rw [upd_ne ne]; exact q
  · by_cases e : b = l
    · subst e; rw [upd_same] at q; cases q
    · rw [upd_ne e] at q; exact q

/-- no list that was handed in stands in slot i -/
def notPar (δ : DSt) (i : Nat) : Prop := ∀ xs, δ[i]? ≠ some (some (.par xs))
theorem RepS.setVal (R : RepS K F σ δ H) {i : Nat} {v : V} {d : PyData} (n : notPar δ i) (h : Dp K F v d) :
    RepS K F (σ.set i (some v)) (δ.set i (some (.val d))) H ∧ Stp σ δ F H (σ.set i (some v)) (δ.set i (some (.val d))) F H := by
  have ow : ∀ j xs, OwnC (δ.set i (some (.val d))) j xs → j ≠ i ∧ OwnC δ j xs := fun j xs q => by
    by_cases e : j = i
    · subst e
      rcases q with q | q
      · rcases Nat.lt_or_ge j δ.length with z | z
        · rw [List.getElem?_set_self z] at q; cases q
        · rw [List.getElem?_eq_none (by simpa using z)] at q; cases q
      · rcases Nat.lt_or_ge j δ.length with z | z
        · rw [List.getElem?_set_self z] at q; cases q
        · rw [List.getElem?_eq_none (by simpa using z)] at q; cases q
    · refine ⟨e, ?_⟩
      unfold OwnC at q ⊢
      rw [List.getElem?_set_ne (Ne.symm e)] at q
      exact q
  refine ⟨⟨by simp [R.len], R.sub, fun j d' q => ?_, fun j xs q => ?_, fun a b xs ys l ne q1 q2 => ?_⟩, ⟨Same.refl _, fun _ _ q => .inl q, fun _ _ q _ => q, fun _ q => q, fun l q => .inl ?_, fun j xs q => ?_, fun l q => .inl ?_⟩⟩
  · by_cases e : j = i
    · subst e
      rcases Nat.lt_or_ge j δ.length with z | z
      · rw [List.getElem?_set_self z] at q
        cases q
        exact ⟨v, List.getElem?_set_self (by rw [R.len]; exact z), h⟩
      · rw [List.getElem?_eq_none (by simpa using z)] at q; cases q
    · rw [List.getElem?_set_ne (Ne.symm e)] at q ⊢
      exact R.val j d' q
  · obtain ⟨e, q⟩ := ow j xs q
    rw [List.getElem?_set_ne (Ne.symm e)]
    exact R.own j xs q
  · obtain ⟨e1, q1⟩ := ow a xs q1
    obtain ⟨e2, q2⟩ := ow b ys q2
    rw [List.getElem?_set_ne (Ne.symm e1), List.getElem?_set_ne (Ne.symm e2)]
    exact R.sep a b xs ys l ne q1 q2
  · obtain ⟨j, xs, q1, q2⟩ := q
    obtain ⟨e, q1⟩ := ow j xs q1
    rw [List.getElem?_set_ne (Ne.symm e)] at q2
    exact ⟨j, xs, q1, q2⟩
  · have e : j ≠ i := fun z => n xs (z ▸ q)
    exact ⟨⟨xs, by rw [List.getElem?_set_ne (Ne.symm e)]; exact q⟩, List.getElem?_set_ne (Ne.symm e)⟩
  · obtain ⟨j, xs, q1, q2⟩ := q
    have e : j ≠ i := (ow j xs (.inl q1)).1
    rw [List.getElem?_set_ne (Ne.symm e)] at q1 q2
    exact ⟨j, xs, q1, q2⟩
/-- a new list goes to slot i -/
theorem RepS.setOwn (R : RepS K F σ δ H) {i : Nat} {l : Addr} {ws : List V} {xs : List PyData} (n : notPar δ i) (hF : F l = none) (hH : H l = some (.lst ws)) (hn : ¬ OwnA σ δ l) (h : DpAll K F ws xs) :
    RepS K F (σ.set i (some (.ref l))) (δ.set i (some (.own xs))) H ∧ (∀ a, OwnA (σ.set i (some (.ref l))) (δ.set i (some (.own xs))) a → OwnA σ δ a ∨ a = l) ∧
      ∀ (j : Nat) (zs : List PyData), δ[j]? = some (some (.par zs)) → (∃ ys : List PyData, (δ.set i (some (.own xs)))[j]? = some (some (.par ys))) ∧ (σ.set i (some (.ref l)))[j]? = σ[j]? := by
  have ow : ∀ j zs, OwnC (δ.set i (some (.own xs))) j zs → (j = i ∧ zs = xs ∧ i < δ.length) ∨ (j ≠ i ∧ OwnC δ j zs) := fun j zs q => by
    by_cases e : j = i
    · subst e
      rcases Nat.lt_or_ge j δ.length with z | z
      · refine .inl ⟨rfl, ?_, z⟩
        rcases q with q | q
        · rw [List.getElem?_set_self z] at q; cases q; rfl
        · rw [List.getElem?_set_self z] at q; cases q
      · rcases q with q | q <;> (rw [List.getElem?_eq_none (by simpa using z)] at q; cases q)
    · refine .inr ⟨e, ?_⟩
      unfold OwnC at q ⊢
      rw [List.getElem?_set_ne (Ne.symm e)] at q
      exact q
  refine ⟨⟨by simp [R.len], R.sub, fun j d' q => ?_, fun j zs q => ?_, fun a b zs ys l' ne q1 q2 => ?_⟩, fun a q => ?_, fun j zs q => ?_⟩
  · by_cases e : j = i
    · subst e
      rcases Nat.lt_or_ge j δ.length with z | z
      · rw [List.getElem?_set_self z] at q; cases q
      · rw [List.getElem?_eq_none (by simpa using z)] at q; cases q
    · rw [List.getElem?_set_ne (Ne.symm e)] at q ⊢
      exact R.val j d' q
  · rcases ow j zs q with ⟨rfl, rfl, z⟩ | ⟨e, q⟩
    · exact ⟨l, ws, List.getElem?_set_self (by rw [R.len]; exact z), hF, hH, h⟩
    · rw [List.getElem?_set_ne (Ne.symm e)]
      exact R.own j zs q
  · intro q3 q4
    rcases ow a zs q1 with ⟨z1, _, z⟩ | ⟨e1, g1⟩
    · rcases ow b ys q2 with ⟨z2, _, _⟩ | ⟨e2, g2⟩
      · exact ne (z1.trans z2.symm)
      · rw [z1, List.getElem?_set_self (by rw [R.len]; exact z)] at q3
        cases q3
        rw [List.getElem?_set_ne (Ne.symm e2)] at q4
        exact hn ⟨b, ys, g2, q4⟩
    · rw [List.getElem?_set_ne (Ne.symm e1)] at q3
      rcases ow b ys q2 with ⟨z2, _, z⟩ | ⟨e2, g2⟩
      · rw [z2, List.getElem?_set_self (by rw [R.len]; exact z)] at q4
        cases q4
        exact hn ⟨a, zs, g1, q3⟩
      · rw [List.getElem?_set_ne (Ne.symm e2)] at q4
        exact R.sep a b zs ys l' ne g1 g2 q3 q4
  · obtain ⟨j, zs, q1, q2⟩ := q
    rcases ow j zs q1 with ⟨rfl, rfl, z⟩ | ⟨e, q1⟩
    · rw [List.getElem?_set_self (by rw [R.len]; exact z)] at q2
      cases q2
      exact .inr rfl
    · rw [List.getElem?_set_ne (Ne.symm e)] at q2
      exact .inl ⟨j, zs, q1, q2⟩
  · have e : j ≠ i := fun z => n zs (z ▸ q)
    exact ⟨⟨zs, by rw [List.getElem?_set_ne (Ne.symm e)]; exact q⟩, List.getElem?_set_ne (Ne.symm e)⟩
theorem RepS.setOwnS (R : RepS K F σ δ H) {i : Nat} {l : Addr} {ws : List V} {xs : List PyData} (n : notPar δ i) (hF : F l = none) (hH : H l = some (.lst ws)) (hn : ¬ OwnA σ δ l) (h : DpAll K F ws xs) :
    RepS K F (σ.set i (some (.ref l))) (δ.set i (some (.own xs))) H ∧ ∀ {σ0 : L2.St} {δ0 : DSt} {F0 H0 : Hp}, Stp σ0 δ0 F0 H0 σ δ F H → H0 l = none → Stp σ0 δ0 F0 H0 (σ.set i (some (.ref l))) (δ.set i (some (.own xs))) F H := by
  obtain ⟨R2, o2, p2⟩ := R.setOwn n hF hH hn h
  refine ⟨R2, fun {σ0 δ0 F0 H0} s hl => ⟨s.ext, s.new, s.frm, s.dom, fun a q => ?_, fun j zs q => ?_, fun a q => ?_⟩⟩
  · rcases o2 a q with z | z
    · exact s.own a z
    · subst z; exact .inr hl
  · obtain ⟨⟨ys, q1⟩, e1⟩ := s.par j zs q
    obtain ⟨q2, e2⟩ := p2 j ys q1
    exact ⟨q2, e2.trans e1⟩
  · obtain ⟨j, zs, q1, q2⟩ := q
    by_cases e : j = i
    · subst e
      have z : j < δ.length := by
        have := (List.getElem?_eq_some_iff.mp q1).1
        simpa using this
      rw [List.getElem?_set_self (by rw [R.len]; exact z)] at q2
      cases q2
      exact .inr hl
    · rw [List.getElem?_set_ne (Ne.symm e)] at q1 q2
      exact s.ownl a ⟨j, zs, q1, q2⟩
/-- the owned list in slot i is frozen -/
theorem RepS.freeze (R : RepS K F σ δ H) {i : Nat} {xs : List PyData} {l : Addr} {vs : List V} (h : δ[i]? = some (some (.own xs))) (hl : σ[i]? = some (some (.ref l))) (hv : H l = some (.lst vs)) :
    RepS K (upd F l (.lst vs)) σ (δ.set i (some (.val (.list xs)))) H ∧ Stp σ δ F H σ (δ.set i (some (.val (.list xs)))) (upd F l (.lst vs)) H := by
  have hi : i < δ.length := (List.getElem?_eq_some_iff.mp h).1
  obtain ⟨l', vs', e1, e2, e3, e4⟩ := R.own i xs (.inl h)
  rw [hl] at e1
  cases e1
  rw [hv] at e3
  cases e3
  have sF : Same F (upd F l (.lst vs)) := fun b u e => by rw [upd_ne (ne_of_none e e2)]; exact e
  have ow : ∀ j ys, OwnC (δ.set i (some (.val (.list xs)))) j ys → j ≠ i ∧ OwnC δ j ys := fun j ys q => by
    by_cases e : j = i
    · subst e
      rcases q with q | q <;> (rw [List.getElem?_set_self hi] at q; cases q)
    · refine ⟨e, ?_⟩
      unfold OwnC at q ⊢
      rw [List.getElem?_set_ne (Ne.symm e)] at q
      exact q
  refine ⟨⟨by simp [R.len], fun b u e => ?_, fun j d q => ?_, fun j ys q => ?_, fun a b ys zs l' ne q1 q2 => ?_⟩, ⟨sF, fun b u e => ?_, fun _ _ q _ => q, fun _ q => q, fun a ⟨j, ys, q1, q2⟩ => .inl ⟨j, ys, (ow j ys q1).2, q2⟩, fun j ys q => ?_, fun a ⟨j, ys, q1, q2⟩ => .inl ?_⟩⟩
  · by_cases hb : b = l
    · subst hb; rw [upd_same] at e; rw [hv]; exact e
    · rw [upd_ne hb] at e; exact R.sub b u e
  · by_cases e : j = i
    · subst e
      rw [List.getElem?_set_self hi] at q
      cases q
      exact ⟨.ref l, hl, .lst (SqL.of upd_same) (Dp.monoAll sF _ _ e4)⟩
    · rw [List.getElem?_set_ne (Ne.symm e)] at q
      obtain ⟨v, q1, q2⟩ := R.val j d q
      exact ⟨v, q1, Dp.mono sF d v q2⟩
  · obtain ⟨e, q⟩ := ow j ys q
    obtain ⟨l2, vs2, f1, f2, f3, f4⟩ := R.own j ys q
    have ne : l2 ≠ l := fun z => by
      subst z
      exact R.sep j i ys xs l2 e q (.inl h) f1 hl
    exact ⟨l2, vs2, f1, by rw [upd_ne ne]; exact f2, f3, Dp.monoAll sF _ _ f4⟩
  · obtain ⟨_, q1⟩ := ow a ys q1
    obtain ⟨_, q2⟩ := ow b zs q2
    exact R.sep a b ys zs l' ne q1 q2
  · by_cases hb : b = l
    · subst hb; exact .inr (.inr ⟨i, xs, h, hl⟩)
    · rw [upd_ne hb] at e; exact .inl e
  · have e : j ≠ i := fun z => by rw [z, h] at q; cases q
    exact ⟨⟨ys, by rw [List.getElem?_set_ne (Ne.symm e)]; exact q⟩, rfl⟩
  · have e : j ≠ i := (ow j ys (.inl q1)).1
    rw [List.getElem?_set_ne (Ne.symm e)] at q1
    exact ⟨j, ys, q1, q2⟩
end
end DD

namespace DD
open PySem PySem.Spec PyProof.Rows L2

/-! ### expressions -/
structure PD (X : Cx) (e : Expr) (f : DTE) : Prop where
  ex : ∃ te, PE X e te ∧ ∀ {F : Hp} {σ : L2.St} {δ : DSt} {H : Hp} {Q : VK} {C : Ar → DSt → Prop}, RepS X.K F σ δ H → f δ C →
    (∀ a δ' F' H' v, RepS X.K F' σ δ' H' → Stp σ δ F H σ δ' F' H' → ArRep X.K F' σ v a → C a δ' → Q v H') → te σ H Q
structure PDT (X : Cx) (e : Expr) (f : DTT) : Prop where
  ex : ∃ te, PT X e te ∧ ∀ {F : Hp} {σ : L2.St} {δ : DSt} {H : Hp} {Q : Bool → Hp → Prop} {C : Bool → DSt → Prop}, RepS X.K F σ δ H → f δ C →
    (∀ a δ' F' H', RepS X.K F' σ δ' H' → Stp σ δ F H σ δ' F' H' → C a δ' → Q a H') → te σ H Q
structure PDW (X : Cx) (e : Expr) (f : DTT) : Prop where
  ex : ∃ te, PW X e te ∧ ∀ {F : Hp} {σ : L2.St} {δ : DSt} {H : Hp} {Q : Bool → Hp → Prop} {C : Bool → DSt → Prop}, RepS X.K F σ δ H → f δ C →
    (∀ a δ' F' H', RepS X.K F' σ δ' H' → Stp σ δ F H σ δ' F' H' → C a δ' → Q a H') → te σ H Q
structure PDA (X : Cx) (es : List Expr) (f : DTA) : Prop where
  ex : ∃ ta, PA X es ta ∧ ∀ {F : Hp} {σ : L2.St} {δ : DSt} {H : Hp} {Q : List V → Hp → Prop} {C : List Ar → DSt → Prop}, RepS X.K F σ δ H → f δ C →
    (∀ as δ' F' H' vs, RepS X.K F' σ δ' H' → Stp σ δ F H σ δ' F' H' → ArsRep X.K F' σ vs as → C as δ' → Q vs H') → ta σ H Q
/-- an expression that gives a new list, nobody else's -/
structure PDN (X : Cx) (e : Expr) (f : DSt → (List PyData → DSt → Prop) → Prop) : Prop where
  ex : ∃ te, PE X e te ∧ ∀ {F : Hp} {σ : L2.St} {δ : DSt} {H : Hp} {Q : VK} {C : List PyData → DSt → Prop}, RepS X.K F σ δ H → f δ C →
    (∀ xs δ' F' H' l ws, RepS X.K F' σ δ' H' → Stp σ δ F H σ δ' F' H' → F' l = none → H l = none → ¬ OwnA σ δ' l → H' l = some (.lst ws) → DpAll X.K F' ws xs → C xs δ' → Q (.ref l) H') → te σ H Q

def dVar (i : Nat) : DTE := fun δ C => match δ[i]? with
  | some (some (.val d)) => C (.val d) δ
  | some (some (.own _)) => C (.sl i) δ
  | some (some (.par _)) => C (.sl i) δ
  | _ => False
def dC (d : PyData) : DTE := fun δ C => C (.val d) δ
/-- the owned list in a slot -/
def cont (δ : DSt) (i : Nat) : Option (List PyData) := match δ[i]? with
  | some (some (.own xs)) => some xs
  | some (some (.par xs)) => some xs
  | _ => none
theorem cont_own {δ : DSt} {i : Nat} {xs : List PyData} (h : cont δ i = some xs) : OwnC δ i xs := by
  unfold cont at h
  split at h
  · cases h; exact .inl ‹_›
  · cases h; exact .inr ‹_›
  · cases h
/-- the data of what an expression gave, as it is now -/
def rd (δ : DSt) : Ar → Option PyData
  | .val d => some d
  | .sl i => (cont δ i).map PyData.list
/-- .. of frozen data alone -/
def rv : Ar → Option PyData
  | .val d => some d
  | .sl _ => none
section
variable {X : Cx} {K : PySem.W.Frag} {F H : Hp} {σ : L2.St} {δ : DSt}
theorem ArRep.rd (R : RepS K F σ δ H) {v : V} {a : Ar} {d : PyData} (h : ArRep K F σ v a) (e : DD.rd δ a = some d) : Dp K H v d := by
  cases a with
  | val d' =>
    cases e
    exact Dp.mono R.sub _ _ h
  | sl i =>
    have e : (cont δ i).map PyData.list = some d := e
    cases q : cont δ i with
    | none => rw [q] at e; cases e
    | some xs =>
      rw [q] at e
      cases e
      obtain ⟨l, vs, h1, _, h3, h4⟩ := R.own i xs (cont_own q)
      have h : σ[i]? = some (some v) := h
      rw [h1] at h
      cases h
      exact .lst (SqL.of h3) (Dp.monoAll R.sub _ _ h4)
theorem ArRep.rv {v : V} {a : Ar} {d : PyData} (h : ArRep K F σ v a) (e : DD.rv a = some d) : Dp K F v d := by
  cases a with
  | val d' => cases e; exact h
  | sl i => cases e
theorem ArsRep.mono {F' : Hp} (e : Same F F') : ∀ {vs : List V} {as : List Ar}, ArsRep K F σ vs as → ArsRep K F' σ vs as
  | [], [], _ => trivial
  | v :: vs, a :: as, h => ⟨h.1.mono e, ArsRep.mono e h.2⟩
  | [], _ :: _, h => h.elim
  | _ :: _, [], h => h.elim

theorem pd_var (i : Nat) {x : Str} {pos : Pos} (hN : X.N[i]? = some x := by rfl) (hv : Vis X.env.scope x := by first | exact Or.inl rfl | exact Or.inr (Or.inl rfl) | exact Or.inr (Or.inr rfl)) (hd : (x == ("__debug__" : Str)) = false := by decide)
    (hcd : (x == ("__classdict__" : Str)) = false := by decide) : PD X (.Name x pos) (dVar i) := by
  refine ⟨_, pv i hN hv hd hcd, fun {F σ δ H Q C} R h k => ?_⟩
  have key : ∀ xs, OwnC δ i xs → C (.sl i) δ → tVar i σ H Q := fun xs o c => by
    obtain ⟨l, vs, h1, _⟩ := R.own i xs o
    exact ⟨.ref l, h1, k (.sl i) _ _ _ _ R .refl h1 c⟩
  unfold dVar at h
  split at h
  · obtain ⟨v, h1, h2⟩ := R.val i _ ‹_›
    exact ⟨v, h1, k (.val _) _ _ _ _ R .refl h2 h⟩
  · exact key _ (.inl ‹_›) h
  · exact key _ (.inr ‹_›) h
  · exact h.elim
theorem pd_c {e : Expr} {v : V} {d : PyData} (h : PE X e (tC v)) (hd : ∀ F, Dp X.K F v d) : PD X e (dC d) :=
  ⟨_, h, fun R c k => k (.val d) _ _ _ _ R .refl (hd _) c⟩
theorem pd_int {i j pos} : PD X (.Constant (.int i) j pos) (dC (.int i)) := pd_c pe_int fun _ => .int i
theorem pd_str {x j pos} : PD X (.Constant (.str x) j pos) (dC (.str x)) := pd_c pe_str fun _ => .str x
theorem pd_bl {b j pos} : PD X (.Constant (.bool b) j pos) (dC (.bool b)) := pd_c pe_bl fun _ => .bl b
theorem pd_non {j pos} : PD X (.Constant .none j pos) (dC .none) := pd_c pe_non fun _ => .non
theorem pd_globS {x : Str} {z : Str} {t : Tok} {pos : Pos} (hg : Gl X x) (hm : X.mg x = some (.str z t)) (hd : (x == ("__debug__" : Str)) = false := by decide) : PD X (.Name x pos) (dC (.str z)) := pd_c (v := .str z) (pe_glob hg hm ⟨_, rfl⟩ hd) fun _ => .str z
theorem pd_globI {x : Str} {z : Int} {t : Tok} {pos : Pos} (hg : Gl X x) (hm : X.mg x = some (.int z t)) (hd : (x == ("__debug__" : Str)) = false := by decide) : PD X (.Name x pos) (dC (.int z)) := pd_c (v := .int z) (pe_glob hg hm ⟨_, rfl⟩ hd) fun _ => .int z
/-- a module's tuple -/
theorem pd_globT {x : Str} {a : Addr} {d : PyData} {pos : Pos} (hg : Gl X x) (hm : X.mg x = some (.ref a)) (hT : ∀ F, Dp X.K F (.ref a) d) (hd : (x == ("__debug__" : Str)) = false := by decide) : PD X (.Name x pos) (dC d) := pd_c (v := .ref a) (pe_glob hg hm rfl hd) hT

/-! ### argument lists -/
def dNil : DTA := fun δ C => C [] δ
def dCons (f : DTE) (g : DTA) : DTA := fun δ C => f δ fun a δ1 => g δ1 fun as δ2 => C (a :: as) δ2
theorem pda_nil : PDA X [] dNil := ⟨_, pa_nil, fun R c k => k [] _ _ _ _ R .refl trivial c⟩
theorem pda_cons {e : Expr} {es : List Expr} {f : DTE} {g : DTA} (h1 : PD X e f) (h2 : PDA X es g) (hs : starEach (e :: es) X.env = (false, eval e X.env) :: starEach es X.env := by rfl) : PDA X (e :: es) (dCons f g) := by
  obtain ⟨te, p1, q1⟩ := h1
  obtain ⟨ta, p2, q2⟩ := h2
  refine ⟨_, pa_cons p1 p2 hs, fun R c k => ?_⟩
  refine q1 R c fun a δ1 F1 H1 v R1 s1 r1 c1 => ?_
  refine q2 R1 c1 fun as δ2 F2 H2 vs R2 s2 r2 c2 => ?_
  exact k (a :: as) _ _ _ _ R2 (s1.trans s2) ⟨r1.mono s2.ext, r2⟩ c2
/-- frozen data only -/
def rvs : List Ar → Option (List PyData)
  | [] => some []
  | .val d :: as => match rvs as with
    | some ds => some (d :: ds)
    | none => none
  | .sl _ :: _ => none
theorem ArsRep.rvs : ∀ {vs : List V} {as : List Ar} {ds : List PyData}, ArsRep K F σ vs as → DD.rvs as = some ds → DpAll K F vs ds
  | [], [], ds, _, e => by cases e; exact .nil
  | v :: vs, .val d :: as, ds, h, e => by
    unfold DD.rvs at e
    split at e
    · cases e; exact .cons h.1 (ArsRep.rvs h.2 ‹_›)
    · cases e
  | _ :: _, .sl _ :: _, _, _, e => by cases e
  | [], _ :: _, _, h, _ => h.elim
  | _ :: _, [], _, h, _ => h.elim

/-! ### two-place operators -/
abbrev DOp := PyData → PyData → (PyData → Prop) → Prop
def OpD (X : Cx) (f : Value → Value → Sem Value) (r : DOp) : Prop :=
  ∃ r' : R2, OpR X f r' ∧ ∀ {F : Hp} {σ : L2.St} {δ : DSt} {H : Hp} {x y : V} {d e : PyData} {Q : VK} {C : PyData → Prop}, RepS X.K F σ δ H → Dp X.K F x d → Dp X.K F y e → r d e C →
    (∀ z F' H' v, RepS X.K F' σ δ H' → Stp σ δ F H σ δ F' H' → Dp X.K F' v z → C z → Q v H') → r' x y H Q
theorem OpR.or {f : Value → Value → Sem Value} {r r' : R2} (h : OpR X f r) (h' : OpR X f r') : OpR X f (fun x y H Q => r x y H Q ∨ r' x y H Q) := by
  intro pins s σ H x y v u Q I rx ry q
  rcases q with q | q
  · exact h pins s σ H x y v u Q I rx ry q
  · exact h' pins s σ H x y v u Q I rx ry q
def dBin (r : DOp) (fa fb : DTE) : DTE := fun δ C => fa δ fun a δ1 => fb δ1 fun b δ2 => match rv a, rv b with
  | some d, some e => r d e fun z => C (.val z) δ2
  | _, _ => False
theorem pd_op {a b : Expr} {op : Operator} {r : DOp} {fa fb : DTE} {pos : Pos} (ho : OpD X (binaryOp op) r) (ha : PD X a fa) (hb : PD X b fb) : PD X (.BinOp a op b pos) (dBin r fa fb) := by
  obtain ⟨r', o1, o2⟩ := ho
  obtain ⟨te, p1, q1⟩ := ha
  obtain ⟨tb, p2, q2⟩ := hb
  refine ⟨_, pe_op o1 p1 p2, fun R c k => ?_⟩
  refine q1 R c fun a δ1 F1 H1 v R1 s1 r1 c1 => ?_
  refine q2 R1 c1 fun b δ2 F2 H2 w R2 s2 r2 c2 => ?_
  split at c2
  · rename_i d e h1 h2
    exact o2 R2 ((r1.mono s2.ext).rv h1) (r2.rv h2) c2 fun z F' H' v R3 s3 r3 c3 => k (.val z) _ _ _ _ R3 ((s1.trans s2).trans s3) r3 c3
  · exact c2.elim
/-- comparisons: the data as they are now -/
def OpC (X : Cx) (f : Value → Value → Sem Value) (r : PyData → PyData → (Bool → Prop) → Prop) : Prop :=
  ∃ r' : R2, OpR X f r' ∧ ∀ {H : Hp} {x y : V} {d e : PyData} {Q : VK} {C : Bool → Prop}, Dp X.K H x d → Dp X.K H y e → r d e C → (∀ b, C b → Q (.bl b) H) → r' x y H Q
abbrev DCp := PyData → PyData → (Bool → Prop) → Prop
def dCmp (r : DCp) (fa fb : DTE) : DTT := fun δ C => fa δ fun a δ1 => fb δ1 fun b δ2 => match rd δ2 a, rd δ2 b with
  | some d, some e => r d e fun z => C z δ2
  | _, _ => False
def dB (t : DTT) : DTE := fun δ C => t δ fun b δ1 => C (.val (.bool b)) δ1
/-- an operand stays what it is while the next one is reckoned -/
theorem pd_cmpCore {a b : Expr} {op : CmpOp} {r : DCp} {fa fb : DTE} {pos : Pos} (ho : OpC X (compareOp op) r) (ha : PD X a fa) (hb : PD X b fb) (hm : behindInMarks op b = false) :
    ∃ te, PE X (.Compare a [op] [b] pos) te ∧ ∀ {F : Hp} {σ : L2.St} {δ : DSt} {H : Hp} {Q : VK} {C : Bool → DSt → Prop}, RepS X.K F σ δ H → dCmp r fa fb δ C →
      (∀ z δ' F' H', RepS X.K F' σ δ' H' → Stp σ δ F H σ δ' F' H' → C z δ' → Q (.bl z) H') → te σ H Q := by
  obtain ⟨r', o1, o2⟩ := ho
  obtain ⟨te, p1, q1⟩ := ha
  obtain ⟨tb, p2, q2⟩ := hb
  refine ⟨_, pe_cmpR o1 p1 p2 hm, fun R c k => ?_⟩
  refine q1 R c fun a δ1 F1 H1 v R1 s1 r1 c1 => ?_
  refine q2 R1 c1 fun b δ2 F2 H2 w R2 s2 r2 c2 => ?_
  split at c2
  · rename_i d e h1 h2
    exact o2 ((r1.mono s2.ext).rd R2 h1) (r2.rd R2 h2) c2 fun z c3 => k _ _ _ _ R2 (s1.trans s2) c3
  · exact c2.elim
theorem pd_cmp {a b : Expr} {op : CmpOp} {r : DCp} {fa fb : DTE} {pos : Pos} (ho : OpC X (compareOp op) r) (ha : PD X a fa) (hb : PD X b fb) (hm : behindInMarks op b = false := by first | exact nomark _ | rfl) : PD X (.Compare a [op] [b] pos) (dB (dCmp r fa fb)) := by
  obtain ⟨te, p, q⟩ := pd_cmpCore ho ha hb hm
  exact ⟨te, p, fun R c k => q R c fun z δ' F' H' R' s' c' => k (.val (.bool z)) _ _ _ _ R' s' (Dp.bl z) c'⟩
theorem pdt_cmp {a b : Expr} {op : CmpOp} {r : DCp} {fa fb : DTE} {pos : Pos} (ho : OpC X (compareOp op) r) (ha : PD X a fa) (hb : PD X b fb) (hm : behindInMarks op b = false := by first | exact nomark _ | rfl) : PDT X (.Compare a [op] [b] pos) (dCmp r fa fb) := by
  obtain ⟨r', o1, o2⟩ := ho
  obtain ⟨te, p1, q1⟩ := ha
  obtain ⟨tb, p2, q2⟩ := hb
  refine ⟨_, pt_cmpR o1 p1 p2 hm, fun R c k => ?_⟩
  refine q1 R c fun a δ1 F1 H1 v R1 s1 r1 c1 => ?_
  refine q2 R1 c1 fun b δ2 F2 H2 w R2 s2 r2 c2 => ?_
  split at c2
  · rename_i d e h1 h2
    exact o2 ((r1.mono s2.ext).rd R2 h1) (r2.rd R2 h2) c2 fun z c3 => ⟨z, rfl, k _ _ _ _ R2 (s1.trans s2) c3⟩
  · exact c2.elim

/-! ### tests -/
def dT (f : DTE) : DTT := fun δ C => f δ fun a δ1 => match rd δ1 a with
  | some (.bool b) => C b δ1
  | _ => False
/-- an expression that gives True or False, as a test -/
theorem pdt_val {e : Expr} {f : DTE} (h : PD X e f) (he : ∀ whole, isTrue e X.env whole = (do let v ← whole; standAt e.pos; holding [v] (truthy v)) := by intro _; rfl) : PDT X e (dT f) := by
  obtain ⟨te, p, q⟩ := h
  refine ⟨_, pt_val p he, fun R c k => ?_⟩
  refine q R c fun a δ1 F1 H1 v R1 s1 r1 c1 => ?_
  split at c1
  · rename_i b hb
    have := r1.rd R1 hb
    cases this
    exact ⟨b, rfl, k _ _ _ _ R1 s1 c1⟩
  · exact c1.elim
def truD : PyData → (Bool → Prop) → Prop
  | .none, C => C false
  | .bool b, C => C b
  | .int i, C => C (i != 0)
  | .str z, C => z.length ≤ sizeLine ∧ C ((z.length : Int) != 0)
  | .list xs, C => C (!xs.isEmpty)
  | .tuple xs, C => C (!xs.isEmpty)
  | _, _ => False
def dTru (f : DTE) : DTT := fun δ C => f δ fun a δ1 => match rd δ1 a with
  | some d => truD d fun b => C b δ1
  | _ => False
theorem empty_iff {K : PySem.W.Frag} {F : Hp} {vs : List V} {xs : List PyData} (h : DpAll K F vs xs) : vs.isEmpty = xs.isEmpty := by
  cases h <;> rfl
theorem pdt_tru {e : Expr} {f : DTE} (h : PD X e f) (he : ∀ whole, isTrue e X.env whole = (do let v ← whole; standAt e.pos; holding [v] (truthy v)) := by intro _; rfl) : PDT X e (dTru f) := by
  obtain ⟨te, p, q⟩ := h
  refine ⟨_, pt_truth p he, fun R c k => ?_⟩
  refine q R c fun a δ1 F1 H1 v R1 s1 r1 c1 => ?_
  split at c1
  · rename_i d hb
    have hd := r1.rd R1 hb
    cases d with
    | none => cases hd; exact ⟨_, rfl, k _ _ _ _ R1 s1 c1⟩
    | bool b => cases hd; exact ⟨_, rfl, k _ _ _ _ R1 s1 c1⟩
    | int i => cases hd; exact ⟨_, rfl, k _ _ _ _ R1 s1 c1⟩
    | str z => cases hd; exact ⟨_, ⟨c1.1, rfl⟩, k _ _ _ _ R1 s1 c1.2⟩
    | list xs =>
      cases hd with
      | lst hs ha => exact ⟨_, .inl ⟨_, hs, rfl⟩, k _ _ _ _ R1 s1 (by rw [empty_iff ha]; exact c1)⟩
    | tuple xs =>
      cases hd with
      | tup hs ha => exact ⟨_, .inr (.inl ⟨_, hs, rfl⟩), k _ _ _ _ R1 s1 (by rw [empty_iff ha]; exact c1)⟩
    | dict _ => cases hd
  · exact c1.elim
def dNot (t : DTT) : DTT := fun δ C => t δ fun b δ1 => C (!b) δ1
def dAnd (t u : DTT) : DTT := fun δ C => t δ fun b δ1 => (b = true → u δ1 C) ∧ (b = false → C false δ1)
def dOr (t u : DTT) : DTT := fun δ C => t δ fun b δ1 => (b = true → C true δ1) ∧ (b = false → u δ1 C)
theorem pdt_not {a : Expr} {t : DTT} {pos : Pos} (h : PDT X a t) : PDT X (.UnaryOp .Not a pos) (dNot t) := by
  obtain ⟨te, p, q⟩ := h
  exact ⟨_, pt_not p, fun R c k => q R c fun b δ1 F1 H1 R1 s1 c1 => k _ _ _ _ R1 s1 c1⟩
theorem PDW.pt {e : Expr} {t : DTT} (h : PDW X e t) : PDT X e t := by
  obtain ⟨te, p, q⟩ := h
  exact ⟨_, p.pt, q⟩
theorem pdw_and1 {a : Expr} {t : DTT} {pos : Pos} (h : PDT X a t) : PDW X (.BoolOp .And [a] pos) t := by
  obtain ⟨te, p, q⟩ := h
  exact ⟨_, pw_and1 p, q⟩
theorem pdw_or1 {a : Expr} {t : DTT} {pos : Pos} (h : PDT X a t) : PDW X (.BoolOp .Or [a] pos) t := by
  obtain ⟨te, p, q⟩ := h
  exact ⟨_, pw_or1 p, q⟩
theorem pdw_and {a b : Expr} {rest : List Expr} {t u : DTT} {pos : Pos} (h : PDT X a t) (h2 : PDW X (.BoolOp .And (b :: rest) pos) u) : PDW X (.BoolOp .And (a :: b :: rest) pos) (dAnd t u) := by
  obtain ⟨te, p, q⟩ := h
  obtain ⟨tf, p2, q2⟩ := h2
  refine ⟨_, pw_and p p2, fun R c k => ?_⟩
  refine q R c fun b δ1 F1 H1 R1 s1 c1 => ?_
  cases b with
  | true => exact iteT (q2 R1 (c1.1 rfl) fun b δ2 F2 H2 R2 s2 c2 => k _ _ _ _ R2 (s1.trans s2) c2)
  | false => exact iteF (k _ _ _ _ R1 s1 (c1.2 rfl))
theorem pdw_or {a b : Expr} {rest : List Expr} {t u : DTT} {pos : Pos} (h : PDT X a t) (h2 : PDW X (.BoolOp .Or (b :: rest) pos) u) : PDW X (.BoolOp .Or (a :: b :: rest) pos) (dOr t u) := by
  obtain ⟨te, p, q⟩ := h
  obtain ⟨tf, p2, q2⟩ := h2
  refine ⟨_, pw_or p p2, fun R c k => ?_⟩
  refine q R c fun b δ1 F1 H1 R1 s1 c1 => ?_
  cases b with
  | true => exact iteT (k _ _ _ _ R1 s1 (c1.1 rfl))
  | false => exact iteF (q2 R1 (c1.2 rfl) fun b δ2 F2 H2 R2 s2 c2 => k _ _ _ _ R2 (s1.trans s2) c2)
/-- as values: bools -/
def dAndV (f g : DTE) : DTE := fun δ C => f δ fun a δ1 => match a with
  | .val (.bool b) => (b = true → g δ1 C) ∧ (b = false → C (.val (.bool false)) δ1)
  | _ => False
def dOrV (f g : DTE) : DTE := fun δ C => f δ fun a δ1 => match a with
  | .val (.bool b) => (b = true → C (.val (.bool true)) δ1) ∧ (b = false → g δ1 C)
  | _ => False
def dNotV (f : DTE) : DTE := fun δ C => f δ fun a δ1 => match a with
  | .val (.bool b) => C (.val (.bool (!b))) δ1
  | _ => False
theorem pd_one {op} {a : Expr} {f : DTE} {pos : Pos} (h : PD X a f) : PD X (.BoolOp op [a] pos) f := by
  obtain ⟨te, p, q⟩ := h
  exact ⟨_, pe_one p, q⟩
theorem pd_and {a b : Expr} {rest : List Expr} {f g : DTE} {pos : Pos} (h : PD X a f) (h2 : PD X (.BoolOp .And (b :: rest) pos) g) : PD X (.BoolOp .And (a :: b :: rest) pos) (dAndV f g) := by
  obtain ⟨te, p, q⟩ := h
  obtain ⟨tf, p2, q2⟩ := h2
  refine ⟨_, pe_and p p2, fun R c k => ?_⟩
  refine q R c fun a δ1 F1 H1 v R1 s1 r1 c1 => ?_
  split at c1
  · rename_i b
    cases (show Dp X.K F1 v (.bool b) from r1)
    refine ⟨b, rfl, ?_⟩
    cases b with
    | true => exact iteT (q2 R1 (c1.1 rfl) fun b δ2 F2 H2 v2 R2 s2 r2 c2 => k _ _ _ _ _ R2 (s1.trans s2) r2 c2)
    | false => exact iteF (k (.val (.bool false)) _ _ _ _ R1 s1 (Dp.bl false) (c1.2 rfl))
  · exact c1.elim
theorem pd_or {a b : Expr} {rest : List Expr} {f g : DTE} {pos : Pos} (h : PD X a f) (h2 : PD X (.BoolOp .Or (b :: rest) pos) g) : PD X (.BoolOp .Or (a :: b :: rest) pos) (dOrV f g) := by
  obtain ⟨te, p, q⟩ := h
  obtain ⟨tf, p2, q2⟩ := h2
  refine ⟨_, pe_or p p2, fun R c k => ?_⟩
  refine q R c fun a δ1 F1 H1 v R1 s1 r1 c1 => ?_
  split at c1
  · rename_i b
    cases (show Dp X.K F1 v (.bool b) from r1)
    refine ⟨b, rfl, ?_⟩
    cases b with
    | true => exact iteT (k (.val (.bool true)) _ _ _ _ R1 s1 (Dp.bl true) (c1.1 rfl))
    | false => exact iteF (q2 R1 (c1.2 rfl) fun b δ2 F2 H2 v2 R2 s2 r2 c2 => k _ _ _ _ _ R2 (s1.trans s2) r2 c2)
  · exact c1.elim
theorem pd_not {a : Expr} {f : DTE} {pos : Pos} (h : PD X a f) : PD X (.UnaryOp .Not a pos) (dNotV f) := by
  obtain ⟨te, p, q⟩ := h
  refine ⟨_, pe_not p, fun R c k => ?_⟩
  refine q R c fun a δ1 F1 H1 v R1 s1 r1 c1 => ?_
  split at c1
  · rename_i b
    cases (show Dp X.K F1 v (.bool b) from r1)
    exact ⟨b, rfl, k (.val (.bool (!b))) _ _ _ _ R1 s1 (Dp.bl _) c1⟩
  · exact c1.elim
def dIfE (t : DTT) (f g : DTE) : DTE := fun δ C => t δ fun b δ1 => (b = true → f δ1 C) ∧ (b = false → g δ1 C)
theorem pd_if {c a b : Expr} {t : DTT} {f g : DTE} {pos : Pos} (hc : PDT X c t) (ha : PD X a f) (hb : PD X b g) : PD X (.IfExp c a b pos) (dIfE t f g) := by
  obtain ⟨tc, p, q⟩ := hc
  obtain ⟨ta, pa, qa⟩ := ha
  obtain ⟨tb, pb, qb⟩ := hb
  refine ⟨_, pe_ifExp p pa pb, fun R c k => ?_⟩
  refine q R c fun b δ1 F1 H1 R1 s1 c1 => ?_
  cases b with
  | true => exact iteT (qa R1 (c1.1 rfl) fun b δ2 F2 H2 v2 R2 s2 r2 c2 => k _ _ _ _ _ R2 (s1.trans s2) r2 c2)
  | false => exact iteF (qb R1 (c1.2 rfl) fun b δ2 F2 H2 v2 R2 s2 r2 c2 => k _ _ _ _ _ R2 (s1.trans s2) r2 c2)

/-! ### displays -/
def dTup (f : DTA) : DTE := fun δ C => f δ fun as δ1 => match rvs as with
  | some ds => ds.length ≤ sizeLine ∧ C (.val (.tuple ds)) δ1
  | none => False
theorem pd_tup {es : List Expr} {x1} {f : DTA} {pos : Pos} (h : PDA X es f) : PD X (.Tuple es x1 pos) (dTup f) := by
  obtain ⟨ta, p, q⟩ := h
  refine ⟨_, pe_tup p, fun R c k => ?_⟩
  refine q R c fun as δ1 F1 H1 vs R1 s1 r1 c1 => ?_
  split at c1
  · rename_i ds hd
    have hA := r1.rvs hd
    refine ⟨by rw [hA.length]; exact c1.1, fun p np => ?_⟩
    obtain ⟨R2, s2⟩ := R1.alloc (o := .tup vs) np
    exact k (.val (.tuple ds)) _ _ _ _ R2 (s1.trans s2) (Dp.tup (SqT.of upd_same) (Dp.monoAll s2.ext _ _ hA)) c1.2
  · exact c1.elim
def dLstN (f : DTA) : DSt → (List PyData → DSt → Prop) → Prop := fun δ C => f δ fun as δ1 => match rvs as with
  | some ds => ds.length ≤ sizeLine ∧ C ds δ1
  | none => False
/-- a heap with a new list, not frozen -/
theorem RepS.fresh {p : Addr} {o : HO} (R : RepS K F σ δ H) (n : H p = none) : RepS K F σ δ (upd H p o) ∧ Stp σ δ F H σ δ F (upd H p o) ∧ F p = none ∧ ¬ OwnA σ δ p := by
  have nF : F p = none := R.sub.free n
  refine ⟨⟨R.len, fun b u e => by rw [upd_ne (ne_of_none e nF)]; exact R.sub b u e, R.val, fun i xs h => ?_, R.sep⟩,
    ⟨Same.refl _, fun _ _ h => .inl h, fun b u e _ => by rw [upd_ne (ne_of_none e n)]; exact e, fun b e => ?_, fun l h => .inl h, fun i xs h => ⟨⟨_, h⟩, rfl⟩, fun l h => .inl h⟩, nF, fun ⟨i, xs, h1, h2⟩ => ?_⟩
  · obtain ⟨l, vs, h1, h2, h3, h4⟩ := R.own i xs h
    exact ⟨l, vs, h1, h2, by rw [upd_ne (ne_of_none h3 n)]; exact h3, h4⟩
  · by_cases hb : b = p
    · subst hb; exact n
    · rw [upd_ne hb] at e; exact e
  · obtain ⟨l, vs, h3, _, h4, _⟩ := R.own i xs h1
    rw [h2] at h3
    cases h3
    rw [n] at h4; cases h4
theorem pdn_lst {es : List Expr} {f : DTA} {pos : Pos} (h : PDA X es f) : PDN X (.List es pos) (dLstN f) := by
  obtain ⟨ta, p, q⟩ := h
  refine ⟨_, pe_lst p, fun {F σ δ H Q C} R c k => ?_⟩
  refine q R c fun as δ1 F1 H1 vs R1 s1 r1 c1 => ?_
  split at c1
  · rename_i ds hd
    have hA := r1.rvs hd
    refine ⟨by rw [hA.length]; exact c1.1, fun p np => ?_⟩
    obtain ⟨R2, s2, nF, nO⟩ := R1.fresh (o := .lst vs) np
    exact k _ _ _ _ _ _ R2 (s1.trans s2) nF (s1.dom _ np) nO upd_same hA c1.2
  · exact c1.elim
/-- a new list becomes frozen data -/
def dFr (f : DSt → (List PyData → DSt → Prop) → Prop) : DTE := fun δ C => f δ fun xs δ1 => C (.val (.list xs)) δ1
theorem RepS.freezeNew {l : Addr} {ws : List V} {xs : List PyData} (R : RepS K F σ δ H) (hF : F l = none) (hO : ¬ OwnA σ δ l) (hH : H l = some (.lst ws)) (hA : DpAll K F ws xs) :
    RepS K (upd F l (.lst ws)) σ δ H ∧ Same F (upd F l (.lst ws)) ∧ Dp K (upd F l (.lst ws)) (.ref l) (.list xs) := by
  have sF : Same F (upd F l (.lst ws)) := fun b u e => by rw [upd_ne (ne_of_none e hF)]; exact e
  refine ⟨⟨R.len, fun b u e => ?_, fun i d h => ?_, fun i ys h => ?_, R.sep⟩, sF, .lst (SqL.of upd_same) (Dp.monoAll sF _ _ hA)⟩
  · by_cases hb : b = l
    · subst hb; rw [upd_same] at e; rw [hH]; exact e
    · rw [upd_ne hb] at e; exact R.sub b u e
  · obtain ⟨v, h1, h2⟩ := R.val i d h
    exact ⟨v, h1, Dp.mono sF d v h2⟩
  · obtain ⟨l2, vs, h1, h2, h3, h4⟩ := R.own i ys h
    have ne : l2 ≠ l := fun z => hO ⟨i, ys, h, by rw [← z]; exact h1⟩
    exact ⟨l2, vs, h1, by rw [upd_ne ne]; exact h2, h3, Dp.monoAll sF _ _ h4⟩
theorem pd_new {e : Expr} {f : DSt → (List PyData → DSt → Prop) → Prop} (h : PDN X e f) : PD X e (dFr f) := by
  obtain ⟨te, p, q⟩ := h
  refine ⟨te, p, fun {F σ δ H Q C} R c k => ?_⟩
  refine q R c fun xs δ1 F1 H1 l ws R1 s1 nF nH nO hH hA c1 => ?_
  obtain ⟨R2, sF, hD⟩ := R1.freezeNew nF nO hH hA
  refine k (.val (.list xs)) _ _ _ _ R2 ⟨s1.ext.trans sF, fun b o e => ?_, s1.frm, s1.dom, s1.own, s1.par, s1.ownl⟩ hD c1
  by_cases hb : b = l
  · subst hb; exact .inr (.inl nH)
  · rw [upd_ne hb] at e; exact s1.new b o e
end
end DD

namespace DD
open PySem PySem.Spec PyProof.Rows L2
section
variable {X : Cx} {K : PySem.W.Frag} {F H : Hp} {σ : L2.St} {δ : DSt}

/-! ### arithmetic -/
def aAdd : DOp := fun d e C => match d, e with
  | .int i, .int j => C (.int (i + j))
  | .str a, .str b => a.length + b.length ≤ sizeLine ∧ C (.str (a ++ b))
  | .tuple xs, .tuple ys => xs.length + ys.length ≤ sizeLine ∧ C (.tuple (xs ++ ys))
  | _, _ => False
theorem od_add : OpD X (binaryOp .Add) aAdd := by
  refine ⟨_, OpR.or op_add (OpR.or op_add_str op_catA), fun {F σ δ H x y d e Q C} R hx hy c k => ?_⟩
  unfold aAdd at c
  split at c
  · cases hx; cases hy
    exact .inl ⟨_, _, rfl, rfl, k _ _ _ _ R .refl (.int _) c⟩
  · cases hx; cases hy
    exact .inr (.inl ⟨_, _, rfl, rfl, c.1, k _ _ _ _ R .refl (.str _) c.2⟩)
  · cases hx with
    | tup h1 a1 =>
      cases hy with
      | tup h2 a2 =>
        rename_i ds es a xs b ys
        refine .inr (.inr ⟨_, _, _, _, rfl, rfl, seqT R.sub h1, seqT R.sub h2, by rw [a1.length, a2.length]; exact c.1, fun e => ?_, fun n e => ?_, fun n m p np => ?_⟩)
        · subst e
          cases a1
          exact k _ _ _ _ R .refl (.tup h2 a2) c.2
        · subst e
          cases a2
          refine k _ _ _ _ R .refl (.tup h1 ?_) c.2
          rw [List.append_nil]
          exact a1
        · obtain ⟨R2, s2⟩ := R.alloc (o := .tup (xs ++ ys)) np
          exact k _ _ _ _ R2 s2 (.tup (SqT.of upd_same) (Dp.monoAll s2.ext _ _ (a1.append a2))) c.2
  · exact c.elim
def aSub : DOp := fun d e C => match d, e with
  | .int i, .int j => C (.int (i - j))
  | _, _ => False
theorem od_sub : OpD X (binaryOp .Sub) aSub := by
  refine ⟨_, op_sub, fun {F σ δ H x y d e Q C} R hx hy c k => ?_⟩
  unfold aSub at c
  split at c
  · cases hx; cases hy
    exact ⟨_, _, rfl, rfl, k _ _ _ _ R .refl (.int _) c⟩
  · exact c.elim
def aMod : DOp := fun d e C => match d, e with
  | .int i, .int j => 0 < j ∧ C (.int (i % j))
  | _, _ => False
theorem od_mod : OpD X (binaryOp .Mod) aMod := by
  refine ⟨_, op_mod, fun {F σ δ H x y d e Q C} R hx hy c k => ?_⟩
  unfold aMod at c
  split at c
  · cases hx; cases hy
    exact ⟨_, _, rfl, rfl, c.1, k _ _ _ _ R .refl (.int _) c.2⟩
  · exact c.elim
def aDiv : DOp := fun d e C => match d, e with
  | .int i, .int j => (0 < j ∧ j < 1073741824) ∧ C (.int (i / j))
  | _, _ => False
theorem od_div : OpD X (binaryOp .FloorDiv) aDiv := by
  refine ⟨_, op_fdiv, fun {F σ δ H x y d e Q C} R hx hy c k => ?_⟩
  unfold aDiv at c
  split at c
  · cases hx; cases hy
    exact ⟨_, _, rfl, rfl, c.1, k _ _ _ _ R .refl (.int _) c.2⟩
  · exact c.elim
def aPow : DOp := fun d e C => match d, e with
  | .int i, .int j => CPow i j ∧ C (.int (i ^ j.toNat))
  | _, _ => False
theorem od_pow : OpD X (binaryOp .Pow) aPow := by
  refine ⟨_, op_pow, fun {F σ δ H x y d e Q C} R hx hy c k => ?_⟩
  unfold aPow at c
  split at c
  · cases hx; cases hy
    exact ⟨_, _, rfl, rfl, c.1, k _ _ _ _ R .refl (.int _) c.2⟩
  · exact c.elim
/-- a text, n times -/
def strRep (a : Str) (n : Nat) : Str := ⟨(List.replicate n a.cps.toList).flatten.toArray⟩
theorem foldl_arr (x : Array Nat) : ∀ (n : Nat) (acc : Array Nat), ((List.replicate n x).foldl (· ++ ·) acc) = acc ++ (List.replicate n x.toList).flatten.toArray
  | 0, acc => by simp
  | n + 1, acc => by
    rw [List.replicate_succ, List.foldl_cons, foldl_arr x n (acc ++ x), List.replicate_succ, List.flatten_cons]
    apply Array.ext'
    simp
theorem op_mul_str : OpR X (binaryOp .Mult) (fun x y H Q => ∃ a n, x = .str a ∧ y = .int n ∧ -(2 ^ 62) ≤ n ∧ n < 2 ^ 62 ∧ a.length * n.toNat ≤ sizeLine ∧ Q (.str (strRep a n.toNat)) H) := by
  intro pins s σ H x y v u Q I rx ry h
  obtain ⟨a, n, rfl, rfl, h1, h2, hz, q⟩ := h
  obtain ⟨t, rfl⟩ := rx
  obtain ⟨t', rfl⟩ := ry
  have hs : sizeLine = 16777216 := sizeLine_eq
  refine PySem.P.mul_str ?_ (fun hn hb => ?_) (fun hn hb => ?_) ?_
  · rw [decide_eq_false (by omega), decide_eq_false (by omega)]; rfl
  · have hn0 : 0 < n := by omega
    have e : ((a.length * n.toNat : Nat) : Int) = (a.length : Int) * n := by
      rw [Int.natCast_mul, Int.toNat_of_nonneg (by omega)]
    intro hgt
    have h3 : (a.length : Int) * n ≤ 2 ^ 63 - 1 := by rw [← e]; omega
    have h4 : (a.length : Int) ≤ (2 ^ 63 - 1) / n := (Int.le_ediv_iff_mul_le hn0).mpr h3
    omega
  · unfold Builtin.Str.tooLong
    exact decide_eq_false (by omega)
  · have key : ∀ z : Str, z = strRep a n.toNat → ∀ (t : Tok) (k : Nat), EP X pins σ Q (.str z t) { s with toks := k } := fun z e t k => ⟨.str z, H, I.tok _, ⟨_, rfl⟩, by rw [e]; exact q⟩
    by_cases hn : n < 1
    · rw [if_pos hn]
      have e0 : n.toNat = 0 := by omega
      exact ⟨by decide, key _ (by rw [e0]; rfl) _ _⟩
    · rw [if_neg hn]
      by_cases hb : (n == 1 || a.length == 0) = true
      · rw [if_pos hb]
        refine key _ ?_ t s.toks
        rw [Bool.or_eq_true] at hb
        rcases hb with hb | hb
        · have e1 : n = 1 := by simpa using hb
          subst e1
          show a = strRep a 1
          unfold strRep
          simp
        · have e1 : a.cps.toList = [] := by
            have : a.cps.size = 0 := by simpa [Str.length] using hb
            simpa using this
          have e2 : ∀ m : Nat, (List.replicate m ([] : List Nat)).flatten = [] := fun m => by simp
          unfold strRep
          rw [e1, e2]
          refine TL.ext_tl ?_
          exact e1
      · rw [if_neg hb]
        have e : (⟨(List.replicate n.toNat a.cps).foldl (· ++ ·) #[]⟩ : Str) = strRep a n.toNat := by
          unfold strRep
          rw [foldl_arr]
          simp
        rw [e]
        have hl : (strRep a n.toNat).length ≤ sizeLine := by
          show ((List.replicate n.toNat a.cps.toList).flatten.toArray).size ≤ sizeLine
          rw [List.size_toArray, List.length_flatten, List.map_replicate, List.sum_replicate_nat, Array.length_toList]
          rw [Nat.mul_comm]
          exact hz
        exact ⟨by show (strRep a n.toNat).length ≤ sizeLine; exact hl, key _ rfl _ _⟩
def aMul : DOp := fun d e C => match d, e with
  | .int i, .int j => CMul i j ∧ C (.int (i * j))
  | .str a, .int n => -(2 ^ 62) ≤ n ∧ n < 2 ^ 62 ∧ a.length * n.toNat ≤ sizeLine ∧ C (.str (strRep a n.toNat))
  | _, _ => False
theorem od_mul : OpD X (binaryOp .Mult) aMul := by
  refine ⟨_, OpR.or op_mul op_mul_str, fun {F σ δ H x y d e Q C} R hx hy c k => ?_⟩
  unfold aMul at c
  split at c
  · cases hx; cases hy
    exact .inl ⟨_, _, rfl, rfl, c.1, k _ _ _ _ R .refl (.int _) c.2⟩
  · cases hx; cases hy
    exact .inr ⟨_, _, rfl, rfl, c.1, c.2.1, c.2.2.1, k _ _ _ _ R .refl (.str _) c.2.2.2⟩
  · exact c.elim
def aNeg : PyData → (PyData → Prop) → Prop := fun d C => match d with
  | .int i => C (.int (-i))
  | _ => False
def dUn (r : PyData → (PyData → Prop) → Prop) (f : DTE) : DTE := fun δ C => f δ fun a δ1 => match rv a with
  | some d => r d fun z => C (.val z) δ1
  | none => False
theorem pd_neg {a : Expr} {f : DTE} {pos : Pos} (h : PD X a f) : PD X (.UnaryOp .USub a pos) (dUn aNeg f) := by
  obtain ⟨te, p, q⟩ := h
  refine ⟨_, pe_un un_neg p, fun R c k => ?_⟩
  refine q R c fun a δ1 F1 H1 v R1 s1 r1 c1 => ?_
  split at c1
  · rename_i d hd
    have hd := r1.rv hd
    unfold aNeg at c1
    split at c1
    · cases hd
      exact ⟨_, rfl, k (.val (.int _)) _ _ _ _ R1 s1 (Dp.int _) c1⟩
    · exact c1.elim
  · exact c1.elim

/-! ### comparisons -/
def cLt : DCp := fun d e C => match d, e with
  | .int i, .int j => C (decide (i < j))
  | .str a, .str b => C (decide (a.cps.toList < b.cps.toList))
  | _, _ => False
def cLe : DCp := fun d e C => match d, e with
  | .int i, .int j => C (decide (i ≤ j))
  | .str a, .str b => C (!decide (b.cps.toList < a.cps.toList))
  | _, _ => False
def cGt : DCp := fun d e C => match d, e with
  | .int i, .int j => C (decide (j < i))
  | .str a, .str b => C (decide (b.cps.toList < a.cps.toList))
  | _, _ => False
def cGe : DCp := fun d e C => match d, e with
  | .int i, .int j => C (decide (j ≤ i))
  | .str a, .str b => C (!decide (a.cps.toList < b.cps.toList))
  | _, _ => False
theorem oc_lt : OpC X (compareOp .Lt) cLt := by
  refine ⟨_, OpR.or op_lt op_lt_str, fun {H x y d e Q C} hx hy c k => ?_⟩
  unfold cLt at c
  split at c
  · cases hx; cases hy; exact .inl ⟨_, _, rfl, rfl, k _ c⟩
  · cases hx; cases hy; exact .inr ⟨_, _, rfl, rfl, k _ c⟩
  · exact c.elim
theorem oc_le : OpC X (compareOp .LtE) cLe := by
  refine ⟨_, OpR.or op_le op_le_str, fun {H x y d e Q C} hx hy c k => ?_⟩
  unfold cLe at c
  split at c
  · cases hx; cases hy; exact .inl ⟨_, _, rfl, rfl, k _ c⟩
  · cases hx; cases hy; exact .inr ⟨_, _, rfl, rfl, k _ c⟩
  · exact c.elim
theorem oc_gt : OpC X (compareOp .Gt) cGt := by
  refine ⟨_, OpR.or op_gt op_gt_str, fun {H x y d e Q C} hx hy c k => ?_⟩
  unfold cGt at c
  split at c
  · cases hx; cases hy; exact .inl ⟨_, _, rfl, rfl, k _ c⟩
  · cases hx; cases hy; exact .inr ⟨_, _, rfl, rfl, k _ c⟩
  · exact c.elim
theorem oc_ge : OpC X (compareOp .GtE) cGe := by
  refine ⟨_, OpR.or op_ge op_ge_str, fun {H x y d e Q C} hx hy c k => ?_⟩
  unfold cGe at c
  split at c
  · cases hx; cases hy; exact .inl ⟨_, _, rfl, rfl, k _ c⟩
  · cases hx; cases hy; exact .inr ⟨_, _, rfl, rfl, k _ c⟩
  · exact c.elim
/-- two ints or two texts at once; any other data when they are of a known shape -/
def cEq (neg : Bool) : DCp := fun d e C => match d, e with
  | .int i, .int j => C (if neg then !decide (i = j) else decide (i = j))
  | .str a, .str b => C (if neg then !decide (a = b) else decide (a = b))
  | d, e => SeqAt.shaped d = true ∧ SeqAt.shaped e = true ∧ C (if neg then !PyData.eqv d e else PyData.eqv d e)
theorem decV_int {i j : Int} : decide (V.int i = V.int j) = decide (i = j) := by
  rw [dec_int, Bool.beq_eq_decide_eq]
theorem decV_str {i j : Str} : decide (V.str i = V.str j) = decide (i = j) := by
  rw [dec_str, Bool.beq_eq_decide_eq]
theorem oc_eq (hu : X.A.units + 64 < cLine) : OpC X (compareOp .Eq) (cEq false) := by
  refine ⟨_, OpR.or op_eq (op_eqD hu), fun {H x y d e Q C} hx hy c k => ?_⟩
  unfold cEq at c
  split at c
  · cases hx; cases hy; exact .inl ⟨rfl, by rw [decV_int]; exact k _ c⟩
  · cases hx; cases hy; exact .inl ⟨rfl, by rw [decV_str]; exact k _ c⟩
  · exact .inr ⟨_, _, hx, hy, c.1, c.2.1, k _ c.2.2⟩
theorem oc_ne (hu : X.A.units + 64 < cLine) : OpC X (compareOp .NotEq) (cEq true) := by
  refine ⟨_, OpR.or op_ne (op_neD hu), fun {H x y d e Q C} hx hy c k => ?_⟩
  unfold cEq at c
  split at c
  · cases hx; cases hy; exact .inl ⟨rfl, by rw [decV_int]; exact k _ c⟩
  · cases hx; cases hy; exact .inl ⟨rfl, by rw [decV_str]; exact k _ c⟩
  · exact .inr ⟨_, _, hx, hy, c.1, c.2.1, k _ c.2.2⟩
def flatD : PyData → Bool
  | .none => true
  | .bool _ => true
  | .int _ => true
  | .str _ => true
  | _ => false
theorem flat_of {K : PySem.W.Frag} {F : Hp} {v : V} {d : PyData} (h : Dp K F v d) (f : flatD d = true) : flatV v = true := by
  cases h <;> first | rfl | cases f
theorem eqV_of {K : PySem.W.Frag} {F : Hp} {v w : V} {d e : PyData} (h : Dp K F v d) (g : Dp K F w e) (fd : flatD d = true) (fe : flatD e = true) : eqV v w = PyData.eqv d e := by
  cases h <;> (try (simp [flatD] at fd; done)) <;> cases g <;> (try (simp [flatD] at fe; done)) <;> simp [eqV, PyData.eqv]
theorem inV_of {K : PySem.W.Frag} {F : Hp} {x : V} {d : PyData} (h : Dp K F x d) (fd : flatD d = true) : ∀ {vs : List V} {ds : List PyData}, DpAll K F vs ds → ds.all flatD = true → vs.all flatV = true ∧ inV x vs = ds.any (fun e => PyData.eqv e d)
  | _, _, .nil, _ => ⟨rfl, rfl⟩
  | v :: vs, e :: ds, .cons h1 h2, f => by
    rw [List.all_cons, Bool.and_eq_true] at f
    obtain ⟨g1, g2⟩ := inV_of h fd h2 f.2
    refine ⟨by rw [List.all_cons, flat_of h1 f.1, g1]; rfl, ?_⟩
    unfold inV at g2 ⊢
    rw [List.any_cons, List.any_cons, eqV_of h1 h f.1 fd, g2]
/-- x in a text (one sign), in a list or tuple of flat things -/
def cIn (neg : Bool) : DCp := fun d e C => match d, e with
  | .str a, .str b => match a.cps.toList with
    | [c] => C (if neg then !decide (c ∈ b.cps.toList) else decide (c ∈ b.cps.toList))
    | _ => False
  | d, .list ds => flatD d = true ∧ ds.all flatD = true ∧ C (if neg then !ds.any (fun e => PyData.eqv e d) else ds.any (fun e => PyData.eqv e d))
  | d, .tuple ds => flatD d = true ∧ ds.all flatD = true ∧ C (if neg then !ds.any (fun e => PyData.eqv e d) else ds.any (fun e => PyData.eqv e d))
  | _, _ => False
theorem one_sign {a : Str} {c : Nat} (h : a.cps.toList = [c]) : a = ⟨#[c]⟩ := TL.ext_tl h
theorem oc_in : OpC X (compareOp .In) (cIn false) := by
  refine ⟨_, OpR.or op_in_sign op_in_seq, fun {H x y d e Q C} hx hy c k => ?_⟩
  unfold cIn at c
  split at c
  · rename_i a b
    split at c
    · rename_i c' hc
      cases hx; cases hy
      exact .inl ⟨c', b, by rw [one_sign hc], rfl, k _ c⟩
    · exact c.elim
  · cases hy with
    | lst h1 a1 =>
      obtain ⟨g1, g2⟩ := inV_of hx c.1 a1 c.2.1
      exact .inr ⟨_, _, rfl, .inl h1, flat_of hx c.1, g1, k _ (by rw [g2]; exact c.2.2)⟩
  · cases hy with
    | tup h1 a1 =>
      obtain ⟨g1, g2⟩ := inV_of hx c.1 a1 c.2.1
      exact .inr ⟨_, _, rfl, .inr h1, flat_of hx c.1, g1, k _ (by rw [g2]; exact c.2.2)⟩
  · exact c.elim
theorem oc_notIn : OpC X (compareOp .NotIn) (cIn true) := by
  refine ⟨_, OpR.or op_notIn_sign op_notIn_seq, fun {H x y d e Q C} hx hy c k => ?_⟩
  unfold cIn at c
  split at c
  · rename_i a b
    split at c
    · rename_i c' hc
      cases hx; cases hy
      exact .inl ⟨c', b, by rw [one_sign hc], rfl, k _ c⟩
    · exact c.elim
  · cases hy with
    | lst h1 a1 =>
      obtain ⟨g1, g2⟩ := inV_of hx c.1 a1 c.2.1
      exact .inr ⟨_, _, rfl, .inl h1, flat_of hx c.1, g1, k (!inV x _) (by rw [g2]; exact c.2.2)⟩
  · cases hy with
    | tup h1 a1 =>
      obtain ⟨g1, g2⟩ := inV_of hx c.1 a1 c.2.1
      exact .inr ⟨_, _, rfl, .inr h1, flat_of hx c.1, g1, k (!inV x _) (by rw [g2]; exact c.2.2)⟩
  · exact c.elim
def isNone : PyData → Bool
  | .none => true
  | _ => false
def cIs (neg : Bool) : DCp := fun d e C => match e with
  | .none => C (if neg then !isNone d else isNone d)
  | _ => False
theorem isNone_of {K : PySem.W.Frag} {F : Hp} {v : V} {d : PyData} (h : Dp K F v d) : decide (v = V.non) = isNone d := by
  cases h <;> first | rfl | exact decide_eq_false (fun z => nomatch z)
theorem oc_is : OpC X (compareOp .Is) (cIs false) := by
  refine ⟨_, op_isN, fun {H x y d e Q C} hx hy c k => ?_⟩
  unfold cIs at c
  split at c
  · cases hy
    exact ⟨rfl, by rw [isNone_of hx]; exact k _ c⟩
  · exact c.elim
theorem oc_isnot : OpC X (compareOp .IsNot) (cIs true) := by
  refine ⟨_, op_notN, fun {H x y d e Q C} hx hy c k => ?_⟩
  unfold cIs at c
  split at c
  · cases hy
    exact ⟨rfl, by rw [isNone_of hx]; exact k _ c⟩
  · exact c.elim

/-! ### subscripts -/
theorem atI_of {K : PySem.W.Frag} {F : Hp} {vs : List V} {ds : List PyData} {i : Int} {d : PyData} (h : DpAll K F vs ds) (e : atI ds i = some d) : ∃ v, atI vs i = some v ∧ Dp K F v d := by
  unfold atI at e ⊢
  rw [h.length]
  cases q : ixN ds.length i with
  | none => rw [q] at e; cases e
  | some j =>
    rw [q] at e
    exact h.get e
def ixD (δ : DSt) (a : Ar) (i : Int) (C : PyData → Prop) : Prop := match a with
  | .sl j => match cont δ j with
    | some xs => match atI xs i with
      | some d => C d
      | none => False
    | none => False
  | .val (.list xs) => match atI xs i with
    | some d => C d
    | none => False
  | .val (.tuple xs) => match atI xs i with
    | some d => C d
    | none => False
  | .val (.str z) => z.length ≤ sizeLine ∧ match atI z.cps.toList i with
    | some c => C (.str ⟨#[c]⟩)
    | none => False
  | _ => False
def dIx (fa fb : DTE) : DTE := fun δ C => fa δ fun a δ1 => fb δ1 fun b δ2 => match b with
  | .val (.int i) => ixD δ2 a i fun d => C (.val d) δ2
  | _ => False
theorem pd_ix {a b : Expr} {fa fb : DTE} {pos : Pos} (ha : PD X a fa) (hb : PD X b fb) (hs : PlainIx b := by exact fun _ _ => rfl) : PD X (.Subscript a b pos) (dIx fa fb) := by
  obtain ⟨te, p1, q1⟩ := ha
  obtain ⟨tb, p2, q2⟩ := hb
  refine ⟨_, pe_ix ix_seq p1 p2 hs, fun R c k => ?_⟩
  refine q1 R c fun a δ1 F1 H1 v R1 s1 r1 c1 => ?_
  refine q2 R1 c1 fun b δ2 F2 H2 w R2 s2 r2 c2 => ?_
  split at c2
  · rename_i i
    cases (show Dp X.K F2 w (.int i) from r2)
    have g1 := r1.mono s2.ext
    clear r1
    unfold ixD at c2
    split at c2
    · rename_i j
      split at c2
      · rename_i xs hx
        split at c2
        · rename_i d hd
          obtain ⟨l, vs, e1, _, e3, e4⟩ := R2.own j xs (cont_own hx)
          have g1 : _ = some (some v) := g1
          rw [e1] at g1
          cases g1
          obtain ⟨u, hu, du⟩ := atI_of e4 hd
          exact .inl ⟨_, _, _, _, rfl, rfl, SqL.of e3, hu, k (.val d) _ _ _ _ R2 (s1.trans s2) du c2⟩
        · exact c2.elim
      · exact c2.elim
    · rename_i xs
      split at c2
      · rename_i d hd
        cases (show Dp X.K F2 v (.list xs) from g1) with
        | lst h1 a1 =>
          obtain ⟨u, hu, du⟩ := atI_of a1 hd
          exact .inl ⟨_, _, _, _, rfl, rfl, R2.sub.seq h1, hu, k (.val d) _ _ _ _ R2 (s1.trans s2) du c2⟩
      · exact c2.elim
    · rename_i xs
      split at c2
      · rename_i d hd
        cases (show Dp X.K F2 v (.tuple xs) from g1) with
        | tup h1 a1 =>
          obtain ⟨u, hu, du⟩ := atI_of a1 hd
          exact .inr (.inl ⟨_, _, _, _, rfl, rfl, seqT R2.sub h1, hu, k (.val d) _ _ _ _ R2 (s1.trans s2) du c2⟩)
      · exact c2.elim
    · rename_i z
      cases (show Dp X.K F2 v (.str z) from g1)
      obtain ⟨hz, c2⟩ := c2
      split at c2
      · rename_i c hc
        exact .inr (.inr ⟨_, _, _, rfl, rfl, hz, hc, k (.val (.str ⟨#[c]⟩)) _ _ _ _ R2 (s1.trans s2) (Dp.str _) c2⟩)
      · exact c2.elim
    · exact c2.elim
  · exact c2.elim
/-! ### slices -/
abbrev DTO := DSt → (Option Int → DSt → Prop) → Prop
structure PDO (X : Cx) (e : Option Expr) (f : DTO) : Prop where
  ex : ∃ te, PO X e te ∧ ∀ {F : Hp} {σ : L2.St} {δ : DSt} {H : Hp} {Q : Option Int → Hp → Prop} {C : Option Int → DSt → Prop}, RepS X.K F σ δ H → f δ C →
    (∀ o δ' F' H', RepS X.K F' σ δ' H' → Stp σ δ F H σ δ' F' H' → C o δ' → Q o H') → te σ H Q
def doNone : DTO := fun δ C => C none δ
def doSome (f : DTE) : DTO := fun δ C => f δ fun a δ1 => match a with
  | .val (.int i) => C (some i) δ1
  | _ => False
theorem pdo_none : PDO X none doNone := ⟨_, po_none, fun R c k => k _ _ _ _ R .refl c⟩
theorem pdo_some {e : Expr} {f : DTE} (h : PD X e f) : PDO X (some e) (doSome f) := by
  obtain ⟨te, p, q⟩ := h
  refine ⟨_, po_some p, fun R c k => ?_⟩
  refine q R c fun a δ1 F1 H1 v R1 s1 r1 c1 => ?_
  split at c1
  · rename_i i
    cases (show Dp X.K F1 v (.int i) from r1)
    exact ⟨i, rfl, k _ _ _ _ R1 s1 c1⟩
  · exact c1.elim
def cutD (ds : List PyData) (lo hi : Option Int) : List PyData := (ds.drop (HT.sIx ds.length 0 lo)).take (HT.sIx ds.length ds.length hi - HT.sIx ds.length 0 lo)
theorem cut_of {K : PySem.W.Frag} {F : Hp} {vs : List V} {ds : List PyData} (h : DpAll K F vs ds) (lo hi : Option Int) : DpAll K F (cutV vs lo hi) (cutD ds lo hi) := by
  unfold cutV cutD
  rw [h.length]
  exact (h.drop _).take _
def slD (δ : DSt) (a : Ar) (lo hi : Option Int) (C : PyData → Prop) : Prop := match a with
  | .val (.str z) => z.length ≤ sizeLine ∧ C (.str (cutS z lo hi))
  | .val (.list xs) => C (.list (cutD xs lo hi))
  | .val (.tuple xs) => C (.tuple (cutD xs lo hi))
  | .sl j => match cont δ j with
    | some xs => C (.list (cutD xs lo hi))
    | none => False
  | _ => False
def dSl (f : DTE) (fl fh : DTO) : DTE := fun δ C => f δ fun a δ1 => fl δ1 fun lo δ2 => fh δ2 fun hi δ3 => slD δ3 a lo hi fun d => C (.val d) δ3
theorem sIx_whole {n : Nat} {lo hi : Option Int} (h : HT.sIx n 0 lo = 0 ∧ HT.sIx n n hi = n) (ds : List PyData) (e : ds.length = n) : cutD ds lo hi = ds := by
  unfold cutD
  rw [e, h.1, h.2]
  simp [← e]
theorem pd_slice {e : Expr} {lo hi : Option Expr} {f : DTE} {fl fh : DTO} {pos p2 : Pos} (he : PD X e f) (hl : PDO X lo fl) (hh : PDO X hi fh) : PD X (.Subscript e (.Slice lo hi none p2) pos) (dSl f fl fh) := by
  obtain ⟨te, p1, q1⟩ := he
  obtain ⟨tl, p2, q2⟩ := hl
  obtain ⟨th, p3, q3⟩ := hh
  refine ⟨_, pe_slice (SlR.or sl_list (SlR.or sl_tupA sl_str)) p1 p2 p3, fun R c k => ?_⟩
  refine q1 R c fun a δ1 F1 H1 v R1 s1 r1 c1 => ?_
  refine q2 R1 c1 fun lo δ2 F2 H2 R2 s2 c2 => ?_
  refine q3 R2 c2 fun hi δ3 F3 H3 R3 s3 c3 => ?_
  have g1 := r1.mono (s2.ext.trans s3.ext)
  clear r1
  have s := (s1.trans s2).trans s3
  unfold slD at c3
  split at c3
  · rename_i z
    cases (show Dp X.K F3 v (.str z) from g1)
    exact .inr (.inr ⟨_, rfl, c3.1, k (.val (.str _)) _ _ _ _ R3 s (Dp.str _) c3.2⟩)
  · rename_i xs
    cases (show Dp X.K F3 v (.list xs) from g1) with
    | lst h1 a1 =>
      refine .inl ⟨_, _, rfl, R3.sub.seq h1, fun p np => ?_⟩
      obtain ⟨R4, s4⟩ := R3.alloc (o := .lst (cutV _ lo hi)) np
      exact k (.val (.list _)) _ _ _ _ R4 (s.trans s4) (Dp.lst (SqL.of upd_same) (Dp.monoAll s4.ext _ _ (cut_of a1 lo hi))) c3
  · rename_i xs
    cases (show Dp X.K F3 v (.tuple xs) from g1) with
    | tup h1 a1 =>
      refine .inr (.inl ⟨_, _, rfl, seqT R3.sub h1, fun hw => ?_, fun _ p np => ?_⟩)
      · refine k (.val (.tuple _)) _ _ _ _ R3 s (Dp.tup h1 ?_) c3
        rw [sIx_whole hw _ a1.length.symm]
        exact a1
      · obtain ⟨R4, s4⟩ := R3.alloc (o := .tup (cutV _ lo hi)) np
        exact k (.val (.tuple _)) _ _ _ _ R4 (s.trans s4) (Dp.tup (SqT.of upd_same) (Dp.monoAll s4.ext _ _ (cut_of a1 lo hi))) c3
  · rename_i j
    split at c3
    · rename_i xs hx
      obtain ⟨l, vs, e1, _, e3, e4⟩ := R3.own j xs (cont_own hx)
      have g1 : _ = some (some v) := g1
      rw [e1] at g1
      cases g1
      refine .inl ⟨_, _, rfl, SqL.of e3, fun p np => ?_⟩
      obtain ⟨R4, s4⟩ := R3.alloc (o := .lst (cutV _ lo hi)) np
      exact k (.val (.list _)) _ _ _ _ R4 (s.trans s4) (Dp.lst (SqL.of upd_same) (Dp.monoAll s4.ext _ _ (cut_of e4 lo hi))) c3
    · exact c3.elim
  · exact c3.elim
end
end DD

namespace DD
open PySem PySem.Spec PyProof.Rows L2
section
variable {X : Cx} {K : PySem.W.Frag} {F H : Hp} {σ : L2.St} {δ : DSt}

/-! ### calls of built-in functions and types -/
abbrev DCl := DSt → List Ar → (PyData → Prop) → Prop
def CallD (X : Cx) (f : Value) (r : DCl) : Prop :=
  ∃ r', CallR X f r' ∧ ∀ {F : Hp} {σ : L2.St} {δ : DSt} {H : Hp} {vs : List V} {as : List Ar} {Q : VK} {C : PyData → Prop}, RepS X.K F σ δ H → ArsRep X.K F σ vs as → r δ as C →
    (∀ z F' H' v, RepS X.K F' σ δ H' → Stp σ δ F H σ δ F' H' → Dp X.K F' v z → C z → Q v H') → r' vs H Q
def dCB (r : DCl) (f : DTA) : DTE := fun δ C => f δ fun as δ1 => r δ1 as fun z => C (.val z) δ1
theorem pd_callB {e : Expr} {es : List Expr} {x : Str} {id : String} {r : DCl} {f : DTA} {p pos : Pos} (hc : CallD X (.builtin id) r) (hg : Gl X x) (hm : X.mg x = none) (hv : bootBuiltins x = some (.builtin id)) (ha : PDA X (e :: es) f) (hn : x ≠ "__name__" := by decide) (hdb : (x == ("__debug__" : Str)) = false := by decide)
    (he : starEach (e :: es) X.env = (false, eval e X.env) :: starEach es X.env := by rfl) (hpl : (backTo pos (starEach es X.env)).any (·.1) = false := by rfl) : PD X (.Call (.Name x p) (e :: es) [] pos) (dCB r f) := by
  obtain ⟨r', c1, c2⟩ := hc
  obtain ⟨ta, p, q⟩ := ha
  refine ⟨_, pe_callB c1 hg hm hv p hn hdb he hpl, fun R c k => ?_⟩
  refine q R c fun as δ1 F1 H1 vs R1 s1 r1 c3 => ?_
  exact c2 R1 r1 c3 fun z F' H' v R2 s2 r2 c4 => k (.val z) _ _ _ _ R2 (s1.trans s2) r2 c4
theorem pd_callT {e : Expr} {es : List Expr} {x : Str} {T : String} {r : DCl} {f : DTA} {p pos : Pos} (hc : CallD X (.type T) r) (hg : Gl X x) (hm : X.mg x = none) (hv : bootBuiltins x = some (.type T)) (ha : PDA X (e :: es) f) (hn : x ≠ "__name__" := by decide) (hdb : (x == ("__debug__" : Str)) = false := by decide)
    (he : starEach (e :: es) X.env = (false, eval e X.env) :: starEach es X.env := by rfl) (hpl : (backTo pos (starEach es X.env)).any (·.1) = false := by rfl) : PD X (.Call (.Name x p) (e :: es) [] pos) (dCB r f) := by
  obtain ⟨r', c1, c2⟩ := hc
  obtain ⟨ta, p, q⟩ := ha
  refine ⟨_, pe_callTy c1 hg hm hv p hn hdb he hpl, fun R c k => ?_⟩
  refine q R c fun as δ1 F1 H1 vs R1 s1 r1 c3 => ?_
  exact c2 R1 r1 c3 fun z F' H' v R2 s2 r2 c4 => k (.val z) _ _ _ _ R2 (s1.trans s2) r2 c4
theorem arsRep1 {vs : List V} {a : Ar} (h : ArsRep K F σ vs [a]) : ∃ v, vs = [v] ∧ ArRep K F σ v a := by
  cases vs with
  | nil => exact h.elim
  | cons v vs =>
    cases vs with
    | nil => exact ⟨v, rfl, h.1⟩
    | cons _ _ => exact h.2.elim
theorem arsRep2 {vs : List V} {a b : Ar} (h : ArsRep K F σ vs [a, b]) : ∃ v w, vs = [v, w] ∧ ArRep K F σ v a ∧ ArRep K F σ w b := by
  cases vs with
  | nil => exact h.elim
  | cons v vs =>
    obtain ⟨w, rfl, h2⟩ := arsRep1 h.2
    exact ⟨v, w, rfl, h.1, h2⟩
def fLen : DCl := fun δ as C => match as with
  | [a] => match rd δ a with
    | some (.str z) => z.length ≤ sizeLine ∧ C (.int z.length)
    | some (.list xs) => C (.int xs.length)
    | some (.tuple xs) => C (.int xs.length)
    | _ => False
  | _ => False
theorem cd_len : CallD X (.builtin "len") fLen := by
  refine ⟨_, call_len, fun {F σ δ H vs as Q C} R r c k => ?_⟩
  unfold fLen at c
  split at c
  · obtain ⟨v, rfl, r1⟩ := arsRep1 r
    split at c
    · rename_i z hz
      cases r1.rd R hz
      exact ⟨_, _, rfl, ⟨c.1, rfl⟩, k (.int _) _ _ _ R .refl (.int _) c.2⟩
    · rename_i xs hz
      cases r1.rd R hz with
      | lst h1 a1 => exact ⟨_, _, rfl, .inl ⟨_, h1, rfl⟩, k (.int _) _ _ _ R .refl (.int _) (by rw [a1.length]; exact c)⟩
    · rename_i xs hz
      cases r1.rd R hz with
      | tup h1 a1 => exact ⟨_, _, rfl, .inr ⟨_, h1, rfl⟩, k (.int _) _ _ _ R .refl (.int _) (by rw [a1.length]; exact c)⟩
    · exact c.elim
  · exact c.elim
def fInt : DCl := fun δ as C => match as with
  | [.val (.int i)] => C (.int i)
  | [.val (.bool b)] => C (.int (if b then 1 else 0))
  | _ => False
theorem cd_int : CallD X (.type "int") fInt := by
  refine ⟨_, call_int1, fun {F σ δ H vs as Q C} R r c k => ?_⟩
  unfold fInt at c
  split at c
  · obtain ⟨v, rfl, r1⟩ := arsRep1 r
    cases (show Dp X.K F v (.int _) from r1)
    exact .inl ⟨_, rfl, k _ _ _ _ R .refl (.int _) c⟩
  · obtain ⟨v, rfl, r1⟩ := arsRep1 r
    cases (show Dp X.K F v (.bool _) from r1)
    exact .inr ⟨_, rfl, k _ _ _ _ R .refl (.int _) c⟩
  · exact c.elim
/-- the items of a list or tuple, frozen or owned -/
def itemsD (δ : DSt) : Ar → Option (List PyData)
  | .val (.list xs) => some xs
  | .val (.tuple xs) => some xs
  | .sl i => cont δ i
  | _ => none
theorem itemsD_rep (R : RepS K F σ δ H) {v : V} {a : Ar} {xs : List PyData} (r : ArRep K F σ v a) (h : itemsD δ a = some xs) : ∃ p vs, v = .ref p ∧ (SqL K H p vs ∨ SqT K H p vs) ∧ DpAll K F vs xs := by
  cases a with
  | sl i =>
    obtain ⟨l, vs, e1, _, e3, e4⟩ := R.own i xs (cont_own h)
    have r : σ[i]? = some (some v) := r
    rw [e1] at r
    cases r
    exact ⟨l, vs, rfl, .inl (SqL.of e3), e4⟩
  | val d =>
    have r : Dp K F v d := r
    cases r with
    | lst h1 a1 => cases h; exact ⟨_, _, rfl, .inl (R.sub.seq h1), a1⟩
    | tup h1 a1 => cases h; exact ⟨_, _, rfl, .inr (seqT R.sub h1), a1⟩
    | _ => cases h
def fTuple : DCl := fun δ as C => match as with
  | [a] => match itemsD δ a with
    | some xs => C (.tuple xs)
    | none => False
  | _ => False
theorem cd_tuple : CallD X (.type "tuple") fTuple := by
  refine ⟨_, call_tuple_of, fun {F σ δ H vs as Q C} R r c k => ?_⟩
  unfold fTuple at c
  split at c
  · obtain ⟨v, rfl, r1⟩ := arsRep1 r
    rename_i a
    cases q : itemsD δ a with
    | none => rw [q] at c; exact c.elim
    | some xs =>
      rw [q] at c
      cases a with
      | sl i =>
        obtain ⟨l, vs, e1, _, e3, e4⟩ := R.own i xs (cont_own q)
        have r1 : σ[i]? = some (some v) := r1
        rw [e1] at r1
        cases r1
        refine ⟨_, _, rfl, .inl ⟨SqL.of e3, fun p np => ?_⟩⟩
        obtain ⟨R2, s2⟩ := R.alloc (o := .tup vs) np
        exact k _ _ _ _ R2 s2 (.tup (SqT.of upd_same) (Dp.monoAll s2.ext _ _ e4)) c
      | val d =>
        have r1 : Dp X.K F v d := r1
        cases r1 with
        | lst h1 a1 =>
          cases q
          refine ⟨_, _, rfl, .inl ⟨R.sub.seq h1, fun p np => ?_⟩⟩
          obtain ⟨R2, s2⟩ := R.alloc (o := .tup _) np
          exact k _ _ _ _ R2 s2 (.tup (SqT.of upd_same) (Dp.monoAll s2.ext _ _ a1)) c
        | tup h1 a1 =>
          cases q
          exact ⟨_, _, rfl, .inr ⟨seqT R.sub h1, k _ _ _ _ R .refl (.tup h1 a1) c⟩⟩
        | _ => cases q
  · exact c.elim
/-- list(xs): a new list -/
def dListN (f : DTA) : DSt → (List PyData → DSt → Prop) → Prop := fun δ C => f δ fun as δ1 => match as with
  | [a] => match itemsD δ1 a with
    | some xs => C xs δ1
    | none => False
  | _ => False
theorem pdn_list {e : Expr} {x : Str} {f : DTA} {p pos : Pos} (hg : Gl X x) (hm : X.mg x = none) (hv : bootBuiltins x = some (.type "list")) (ha : PDA X [e] f) (hn : x ≠ "__name__" := by decide) (hdb : (x == ("__debug__" : Str)) = false := by decide)
    (he : starEach [e] X.env = (false, eval e X.env) :: starEach [] X.env := by rfl) (hpl : (backTo pos (starEach [] X.env)).any (·.1) = false := by rfl) : PDN X (.Call (.Name x p) [e] [] pos) (dListN f) := by
  obtain ⟨ta, p, q⟩ := ha
  refine ⟨_, pe_callTy call_list_of hg hm hv p hn hdb he hpl, fun {F σ δ H Q C} R c k => ?_⟩
  refine q R c fun as δ1 F1 H1 vs R1 s1 r1 c3 => ?_
  split at c3
  · obtain ⟨v, rfl, r2⟩ := arsRep1 r1
    split at c3
    · rename_i xs hx
      obtain ⟨p, ws, rfl, hs, hA⟩ := itemsD_rep R1 r2 hx
      refine ⟨_, _, rfl, hs, fun l nl => ?_⟩
      obtain ⟨R2, s2, nF, nO⟩ := R1.fresh (o := .lst ws) nl
      exact k _ _ _ _ _ _ R2 (s1.trans s2) nF (s1.dom _ nl) nO upd_same hA c3
    · exact c3.elim
  · exact c3.elim
/-! ### isinstance, with one built-in type -/
def tyName : PyData → String
  | .none => "NoneType"
  | .bool _ => "bool"
  | .int _ => "int"
  | .str _ => "str"
  | .list _ => "list"
  | .tuple _ => "tuple"
  | .dict _ => "dict"
theorem ty_of {v : V} {d : PyData} (h : Dp K H v d) : TyX K H v (.type (tyName d)) := by
  cases h with
  | non => exact .base .non
  | bl b => exact .base (.bl b)
  | int i => exact .base (.int i)
  | str z => exact .base (.str z)
  | lst h1 _ =>
    rcases h1 with (h1 | ⟨o, h1⟩) | ⟨o, its, n, h1, h2, _⟩
    · exact .base (.lst h1)
    · exact .base (.frz h1)
    · exact .kList h1 h2
  | tup h1 _ =>
    rcases h1 with (h1 | ⟨o, h1⟩) | ⟨o, its, n, h1, h2, _⟩
    · exact .base (.tup h1)
    · exact .fTuple h1
    · exact .kTuple h1 h2
def dIsi (T : String) (f : DTE) : DTE := fun δ C => f δ fun a δ1 => match rd δ1 a with
  | some d => match kitB (tyName d) T with
    | some b => C (.val (.bool b)) δ1
    | none => False
  | none => False
theorem pd_isi {e : Expr} {T : String} {f : DTE} {x : Str} {p p2 pos : Pos} (hg : Gl X "isinstance") (hm : X.mg "isinstance" = none) (hT : Gl X x) (hTm : X.mg x = none) (hTv : bootBuiltins x = some (.type T)) (h : PD X e f) (hn : x ≠ "__name__" := by decide) (hdb : (x == ("__debug__" : Str)) = false := by decide)
    (he : starEach [e, .Name x p2] X.env = (false, eval e X.env) :: starEach [.Name x p2] X.env := by rfl) (he2 : starEach [.Name x p2] X.env = (false, eval (.Name x p2) X.env) :: starEach [] X.env := by rfl) (hpl : (backTo pos (starEach [.Name x p2] X.env)).any (·.1) = false := by rfl) :
    PD X (.Call (.Name "isinstance" p) [e, .Name x p2] [] pos) (dIsi T f) := by
  obtain ⟨te, p, q⟩ := h
  refine ⟨_, pe_callB call_isi hg hm (by decide +kernel) (pa_cons p (pa_cons (pe_bltn (v := .ty T) hT hTm hTv rfl hn hdb) pa_nil he2) he) (by decide) (by decide) he hpl, fun R c k => ?_⟩
  refine q R c fun a δ1 F1 H1 v R1 s1 r1 c1 => ?_
  split at c1
  · rename_i d hd
    split at c1
    · rename_i b hb
      have ty := ty_of (r1.rd R1 hd)
      exact ⟨v, .ty T, _, _, b, rfl, .ty T, ty, kit_ty hb, k (.val (.bool b)) _ _ _ _ R1 s1 (Dp.bl b) c1⟩
    · exact c1.elim
  · exact c1.elim

/-! ### methods of texts -/
abbrev DMt := DSt → Str → List Ar → (PyData → Prop) → Prop
def MethD (X : Cx) (id : String) (r : DMt) : Prop :=
  ∃ r', MtR X id r' ∧ ∀ {F : Hp} {σ : L2.St} {δ : DSt} {H : Hp} {z : Str} {vs : List V} {as : List Ar} {Q : VK} {C : PyData → Prop}, RepS X.K F σ δ H → ArsRep X.K F σ vs as → r δ z as C →
    (∀ z F' H' v, RepS X.K F' σ δ H' → Stp σ δ F H σ δ F' H' → Dp X.K F' v z → C z → Q v H') → r' (.str z) vs H Q
def dM (r : DMt) (fo : DTE) (f : DTA) : DTE := fun δ C => fo δ fun a δ1 => match a with
  | .val (.str z) => f δ1 fun as δ2 => r δ2 z as fun y => C (.val y) δ2
  | _ => False
theorem pd_m0 {o : Expr} {id : String} {name : Str} {apos pos : Pos} {r : DMt} {fo : DTE} (slot : Slot "str" name id) (ty : typeOf (.builtin id) = pure (.type "method_descriptor")) (rule : MethD X id r) (ho : PD X o fo)
    (hbase : attributeBase o name X.env (eval o X.env) = eval o X.env := by rfl) (hline : (apos.endLine == pos.line) = true := by rfl) : PD X (.Call (.Attribute o name apos) [] [] pos) (dM r fo dNil) := by
  obtain ⟨r', m1, m2⟩ := rule
  obtain ⟨te, p, q⟩ := ho
  refine ⟨_, pe_m0 slot ty m1 p hbase hline, fun R c k => ?_⟩
  refine q R c fun a δ1 F1 H1 v R1 s1 r1 c1 => ?_
  split at c1
  · rename_i z
    cases (show Dp X.K F1 v (.str z) from r1)
    exact ⟨⟨z, rfl⟩, m2 (as := []) R1 trivial c1 fun z F' H' v R2 s2 r2 c4 => k (.val z) _ _ _ _ R2 (s1.trans s2) r2 c4⟩
  · exact c1.elim
theorem pd_m1 {o e : Expr} {id : String} {name : Str} {apos pos : Pos} {r : DMt} {fo f : DTE} (slot : Slot "str" name id) (ty : typeOf (.builtin id) = pure (.type "method_descriptor")) (rule : MethD X id r) (ho : PD X o fo) (he : PD X e f)
    (hs : starEach [e] X.env = [(false, eval e X.env)] := by rfl) (hbase : attributeBase o name X.env (eval o X.env) = eval o X.env := by rfl) (hline : (apos.endLine == pos.line) = true := by rfl) : PD X (.Call (.Attribute o name apos) [e] [] pos) (dM r fo (dCons f dNil)) := by
  obtain ⟨r', m1, m2⟩ := rule
  obtain ⟨te, p, q⟩ := ho
  obtain ⟨tf, p2, q2⟩ := he
  refine ⟨_, pe_m1 slot ty m1 p p2 hs hbase hline, fun R c k => ?_⟩
  refine q R c fun a δ1 F1 H1 v R1 s1 r1 c1 => ?_
  split at c1
  · rename_i z
    cases (show Dp X.K F1 v (.str z) from r1)
    refine ⟨⟨z, rfl⟩, q2 R1 c1 fun b δ2 F2 H2 w R2 s2 r2 c2 => ?_⟩
    exact m2 (as := [b]) R2 ⟨r2, trivial⟩ c2 fun z F' H' v R3 s3 r3 c4 => k (.val z) _ _ _ _ R3 ((s1.trans s2).trans s3) r3 c4
  · exact c1.elim
/-- texts of a list or tuple -/
def strsD : List PyData → Option (List Str)
  | [] => some []
  | .str z :: ds => match strsD ds with
    | some zs => some (z :: zs)
    | none => none
  | _ :: _ => none
theorem strsD_eq : ∀ {ds : List PyData} {zs : List Str}, strsD ds = some zs → ds = zs.map PyData.str
  | [], zs, h => by cases h; rfl
  | d :: ds, zs, h => by
    cases d with
    | str z =>
      unfold strsD at h
      split at h
      · cases h
        rename_i zs' hz
        rw [strsD_eq hz]
        rfl
      · cases h
    | _ => cases h
theorem strsD_map : ∀ zs : List Str, strsD (zs.map PyData.str) = some zs
  | [] => rfl
  | z :: zs => by
    show (match strsD (zs.map PyData.str) with | some zs => some (z :: zs) | none => none) = _
    rw [strsD_map zs]
def mJoin : DMt := fun δ z as C => match as with
  | [a] => match itemsD δ a with
    | some xs => match strsD xs with
      | some ys => (ys.map (·.length)).sum + ys.length * z.length ≤ 16777216 ∧ C (.str (Txt.join z ys))
      | none => False
    | none => False
  | _ => False
theorem md_join : MethD X "str.join" mJoin := by
  refine ⟨_, mt_join, fun {F σ δ H z vs as Q C} R r c k => ?_⟩
  unfold mJoin at c
  split at c
  · obtain ⟨v, rfl, r1⟩ := arsRep1 r
    split at c
    · rename_i xs hx
      split at c
      · rename_i ys hy
        obtain ⟨p, ws, rfl, hs, hA⟩ := itemsD_rep R r1 hx
        have e := strsD_eq hy
        subst e
        have e := hA.ofStrs
        subst e
        exact ⟨_, _, ys, rfl, rfl, hs, c.1, k _ _ _ _ R .refl (.str _) c.2⟩
      · exact c.elim
    · exact c.elim
  · exact c.elim
def mSplit : DMt := fun _ z as C => match as with
  | [.val (.str y)] => (y.length == 0) = false ∧ z.length + 2 ≤ sizeLine ∧ C (.list ((Txt.split z y).map PyData.str))
  | _ => False
theorem md_split : MethD X "str.split" mSplit := by
  refine ⟨_, mt_split, fun {F σ δ H z vs as Q C} R r c k => ?_⟩
  unfold mSplit at c
  split at c
  · obtain ⟨v, rfl, r1⟩ := arsRep1 r
    cases (show Dp X.K F v (.str _) from r1)
    refine ⟨_, _, rfl, rfl, c.1, c.2.1, fun p np => ?_⟩
    obtain ⟨R2, s2⟩ := R.alloc (o := .lst ((Txt.split z _).map V.str)) np
    exact k _ _ _ _ R2 s2 (.lst (SqL.of upd_same) (DpAll.strs _)) c.2.2
  · exact c.elim
theorem mt_indexY (hc : X.calm = true) : MtR X "str.index" (fun x xs H Q => ∃ (a b : Str) (k : Nat), x = .str a ∧ xs = [.str b] ∧ Txt.index0 a b = some k ∧ Q (.int (k : Nat)) H) := by
  intro pins s σ H x xs v us Q I rx rs h
  obtain ⟨a, b, k, rfl, rfl, hk, q⟩ := h
  obtain ⟨t, rfl⟩ := rx
  cases rs with
  | cons r1 rs =>
    cases rs
    obtain ⟨u, rfl⟩ := r1
    cases e : Builtin.Str.occurrences a b 0 a.length 1 with
    | nil =>
      unfold Txt.index0 at hk
      rw [e] at hk
      cases hk
    | cons j rest =>
      unfold Txt.index0 at hk
      rw [e] at hk
      cases hk
      exact PySem.SC.index e ⟨.int (_ : Nat), H, I.tok _, ⟨_, rfl⟩, q⟩
/-- s.index(one sign that is there) -/
def mIndex : DMt := fun _ z as C => match as with
  | [.val (.str y)] => match Txt.index0 z y with
    | some k => C (.int (k : Nat))
    | none => False
  | _ => False
theorem md_index (hc : X.calm = true) : MethD X "str.index" mIndex := by
  refine ⟨_, mt_indexY hc, fun {F σ δ H z vs as Q C} R r c k => ?_⟩
  unfold mIndex at c
  split at c
  · obtain ⟨v, rfl, r1⟩ := arsRep1 r
    cases (show Dp X.K F v (.str _) from r1)
    split at c
    · rename_i j hj
      exact ⟨_, _, j, rfl, rfl, hj, k _ _ _ _ R .refl (.int _) c⟩
    · exact c.elim
  · exact c.elim
/-! ### methods of an owned list -/
def dApp (fo f : DTE) : DTE := fun δ C => fo δ fun a δ1 => match a with
  | .sl i => (cont δ1 i).isSome = true ∧ f δ1 fun b δ2 => match b with
    | .val d => match cont δ2 i with
      | some xs => xs.length < sizeLine ∧ C (.val .none) (putC δ2 i (xs ++ [d]))
      | none => False
    | _ => False
  | _ => False
theorem isSl (R : RepS K F σ δ H) {i : Nat} {v : V} (h : (cont δ i).isSome = true) (e : σ[i]? = some (some v)) : tyV K "list" v H := by
  obtain ⟨xs, hx⟩ := Option.isSome_iff_exists.mp h
  obtain ⟨l, vs, e1, _, e3, _⟩ := R.own i xs (cont_own hx)
  rw [e] at e1
  cases e1
  exact .inl ⟨rfl, _, SqL.of e3⟩
theorem pd_append {o e : Expr} {fo f : DTE} {apos cpos : Pos} (ho : PD X o fo) (he : PD X e f)
    (hbase : attributeBase o "append" X.env (eval o X.env) = eval o X.env := by rfl)
    (hfew : ((backTo cpos (starEach [e] X.env)).all (fun x => !x.1) && (backToKw cpos (keywordEach [] X.env)).all (fun x => x.1.isSome)
      && decide ([e].length + ([] : List Keyword).length + (if ([] : List Keyword).isEmpty then 0 else 1) < 30)) = true := by rfl)
    (hline : (apos.endLine == cpos.line) = true := by rfl) (hs : starEach [e] X.env = (false, eval e X.env) :: starEach [] X.env := by rfl) (hplain : (backTo cpos (starEach [] X.env)).any (·.1) = false := by rfl) :
    PD X (.Call (.Attribute o "append" apos) [e] [] cpos) (dApp fo f) := by
  obtain ⟨te, p, q⟩ := ho
  obtain ⟨tf, p2, q2⟩ := he
  refine ⟨_, pe_bm PySem.F.plainAttrs_list PySem.F.slot_list_append PySem.F.type_list_append mt_append p (pa_cons p2 pa_nil hs) hbase hfew hline hs hplain, fun {F σ δ H Q C} R c k => ?_⟩
  refine q R c fun a δ1 F1 H1 v R1 s1 r1 c1 => ?_
  split at c1
  · rename_i i
    have r1 : σ[i]? = some (some v) := r1
    have ty := isSl R1 c1.1 r1
    refine ⟨ty, q2 R1 c1.2 fun b δ2 F2 H2 w R2 s2 r2 c2 => ?_⟩
    split at c2
    · rename_i d
      split at c2
      · rename_i xs hx
        obtain ⟨l, vs, e1, e2, e3, e4⟩ := R2.own i xs (cont_own hx)
        rw [r1] at e1
        cases e1
        obtain ⟨R3, s3⟩ := R2.put (cont_own hx) r1 (e4.append (.cons r2 .nil))
        exact ⟨l, vs, w, rfl, rfl, e3, by rw [e4.length]; exact c2.1, k (.val .none) _ _ _ _ R3 ((s1.trans s2).trans s3) Dp.non c2.2⟩
      · exact c2.elim
    · exact c2.elim
  · exact c1.elim
end
end DD

namespace DD
open PySem PySem.Spec PyProof.Rows L2

/-- what a return hands back -/
def ResRep (K : PySem.W.Frag) (H F' : Hp) (σ' : L2.St) (δ' : DSt) (H' : Hp) (v : V) : Sl → Prop
  | .val d => Dp K F' v d
  | .own xs => ∃ l ws, v = .ref l ∧ F' l = none ∧ H' l = some (.lst ws) ∧ DpAll K F' ws xs ∧ (OwnL σ' δ' l ∨ (¬ OwnA σ' δ' l ∧ H l = none))
  | .par _ => False
structure Conn (K : PySem.W.Frag) (F : Hp) (σ : L2.St) (δ : DSt) (H : Hp) (DD : DEnds) (D : Ends) : Prop where
  nx : ∀ F' σ' δ' H', RepS K F' σ' δ' H' → Stp σ δ F H σ' δ' F' H' → DD.nx δ' → D.nx σ' H'
  bk : ∀ F' σ' δ' H', RepS K F' σ' δ' H' → Stp σ δ F H σ' δ' F' H' → DD.bk δ' → D.bk σ' H'
  ct : ∀ F' σ' δ' H', RepS K F' σ' δ' H' → Stp σ δ F H σ' δ' F' H' → DD.ct δ' → D.ct σ' H'
  rt : ∀ F' σ' δ' H' v r, RepS K F' σ' δ' H' → Stp σ δ F H σ' δ' F' H' → ResRep K H F' σ' δ' H' v r → DD.rt r δ' → D.rt v H'
section
variable {X : Cx} {K : PySem.W.Frag} {F H : Hp} {σ : L2.St} {δ : DSt}
theorem ResRep.step {H0 F' H' : Hp} {σ' : L2.St} {δ' : DSt} {v : V} {r : Sl} (d : ∀ b, H b = none → H0 b = none) (h : ResRep K H F' σ' δ' H' v r) : ResRep K H0 F' σ' δ' H' v r := by
  cases r with
  | val x => exact h
  | own xs =>
    obtain ⟨l, ws, h1, h2, h3, h4, h5⟩ := h
    refine ⟨l, ws, h1, h2, h3, h4, ?_⟩
    rcases h5 with h5 | h5
    · exact .inl h5
    · exact .inr ⟨h5.1, d _ h5.2⟩
  | par _ => exact h
theorem Conn.step {F1 H1 : Hp} {σ1 : L2.St} {δ1 : DSt} {DD : DEnds} {D : Ends} (c : Conn K F σ δ H DD D) (s : Stp σ δ F H σ1 δ1 F1 H1) : Conn K F1 σ1 δ1 H1 DD D :=
  ⟨fun F' σ' δ' H' R t h => c.nx F' σ' δ' H' R (s.trans t) h, fun F' σ' δ' H' R t h => c.bk F' σ' δ' H' R (s.trans t) h, fun F' σ' δ' H' R t h => c.ct F' σ' δ' H' R (s.trans t) h,
    fun F' σ' δ' H' v r R t q h => c.rt F' σ' δ' H' v r R (s.trans t) (q.step s.dom) h⟩
end
/-! ### statements -/
structure SD (X : Cx) (st : Stmt) (g : DTS) : Prop where
  ex : ∃ ts, PS X st ts ∧ ∀ {F : Hp} {σ : L2.St} {δ : DSt} {H : Hp} {DD : DEnds} {D : Ends}, RepS X.K F σ δ H → g DD δ → Conn X.K F σ δ H DD D → ts D σ H
structure SDs (X : Cx) (st : List Stmt) (g : DTS) : Prop where
  ex : ∃ ts, PSs X st ts ∧ ∀ {F : Hp} {σ : L2.St} {δ : DSt} {H : Hp} {DD : DEnds} {D : Ends}, RepS X.K F σ δ H → g DD δ → Conn X.K F σ δ H DD D → ts D σ H
/-- targets: ws the slots that are written -/
abbrev DTG := PyData → DSt → (DSt → Prop) → Prop
abbrev DTGs := List PyData → DSt → (DSt → Prop) → Prop
/-- as it was, but for the slots ws -/
def Agree (ws : List Nat) (σ σ' : L2.St) : Prop := σ'.length = σ.length ∧ ∀ i, i ∉ ws → σ'[i]? = σ[i]?
structure PDG (X : Cx) (tg : Expr) (g : DTG) (ws : List Nat) : Prop where
  ex : ∃ t, PG X tg t ∧ ∀ {F : Hp} {σ : L2.St} {δ : DSt} {H : Hp} {v : V} {d : PyData} {Q : L2.St → Hp → Prop} {C : DSt → Prop}, RepS X.K F σ δ H → Dp X.K F v d → g d δ C →
    (∀ δ' F' σ' H', RepS X.K F' σ' δ' H' → Stp σ δ F H σ' δ' F' H' → Agree ws σ σ' → C δ' → Q σ' H') → t v σ H Q
structure PDGs (X : Cx) (tg : List Expr) (g : DTGs) (ws : List Nat) : Prop where
  ex : ∃ t, PGs X tg t ∧ ∀ {F : Hp} {σ : L2.St} {δ : DSt} {H : Hp} {v : List V} {d : List PyData} {Q : L2.St → Hp → Prop} {C : DSt → Prop}, RepS X.K F σ δ H → DpAll X.K F v d → g d δ C →
    (∀ δ' F' σ' H', RepS X.K F' σ' δ' H' → Stp σ δ F H σ' δ' F' H' → Agree ws σ σ' → C δ' → Q σ' H') → t v σ H Q
def notParB (δ : DSt) (i : Nat) : Bool := match δ[i]? with
  | some (some (.par _)) => false
  | _ => true
theorem notParB_of {δ : DSt} {i : Nat} (h : notParB δ i = true) : notPar δ i := fun xs e => by
  unfold notParB at h
  rw [e] at h
  cases h
def dgName (i : Nat) : DTG := fun d δ C => notParB δ i = true ∧ C (δ.set i (some (.val d)))
def dgsNil : DTGs := fun ds δ C => match ds with
  | [] => C δ
  | _ => False
def dgsCons (g : DTG) (h : DTGs) : DTGs := fun ds δ C => match ds with
  | d :: ds => g d δ fun δ1 => h ds δ1 C
  | _ => False
def dgTup (n : Nat) (g : DTGs) : DTG := fun d δ C => match d with
  | .tuple ds => ds.length = n ∧ g ds δ C
  | _ => False
section
variable {X : Cx} {K : PySem.W.Frag} {F H : Hp} {σ : L2.St} {δ : DSt} {pos : Pos}
theorem pdg_name {i : Nat} {x : Str} (hN : X.N.Nodup) (hi : X.N[i]? = some x) (hx : Loc X.env.scope x) (hf : X.fn x = true ∨ X.env.scope.names.lookup x = some .local := by first | exact .inl rfl | exact .inr rfl | assumption) : PDG X (.Name x pos) (dgName i) [i] := by
  refine ⟨_, pg_name hN hi hx hf, fun R h c k => ?_⟩
  obtain ⟨R2, s2⟩ := R.setVal (notParB_of c.1) h
  exact k _ _ _ _ R2 s2 ⟨by simp, fun j hj => List.getElem?_set_ne (Ne.symm (by simpa using hj))⟩ c.2
theorem pdgs_nil : PDGs X [] dgsNil [] := by
  refine ⟨_, pgs_nil, fun {F σ δ H v d Q C} R h c k => ?_⟩
  unfold dgsNil at c
  split at c
  · cases h
    exact ⟨rfl, k _ _ _ _ R .refl ⟨rfl, fun _ _ => rfl⟩ c⟩
  · exact c.elim
theorem pdgs_cons {e : Expr} {es : List Expr} {g : DTG} {h : DTGs} {ws us : List Nat} (h1 : PDG X e g ws) (h2 : PDGs X es h us)
    (hs : (assignEach (e :: es) X.env).map (·.2) = assign e X.env :: (assignEach es X.env).map (·.2) := by rfl) : PDGs X (e :: es) (dgsCons g h) (ws ++ us) := by
  obtain ⟨t, p1, q1⟩ := h1
  obtain ⟨u, p2, q2⟩ := h2
  refine ⟨_, pgs_cons p1 p2 hs, fun {F σ δ H v d Q C} R h c k => ?_⟩
  unfold dgsCons at c
  split at c
  · cases h with
    | cons a1 a2 =>
      refine ⟨_, _, rfl, q1 R a1 c fun δ1 F1 σ1 H1 R1 s1 f1 c1 => ?_⟩
      refine q2 R1 (Dp.monoAll s1.ext _ _ a2) c1 fun δ2 F2 σ2 H2 R2 s2 f2 c2 => ?_
      exact k _ _ _ _ R2 (s1.trans s2) ⟨f2.1.trans f1.1, fun i hi => by
        rw [List.mem_append, not_or] at hi
        exact (f2.2 i hi.2).trans (f1.2 i hi.1)⟩ c2
  · exact c.elim
theorem pdg_tup {es : List Expr} {kk : Nat} {g : DTGs} {n : Nat} {ws : List Nat} (hc : X.calm = true) (h : PDGs X es g ws)
    (hn : (assignEach es X.env).length = n := by rfl) (hst : (assignEach es X.env).findIdx? (·.1) = none := by rfl) : PDG X (.Tuple es kk pos) (dgTup n g) ws := by
  obtain ⟨t, p, q⟩ := h
  refine ⟨_, pg_tup hc p hn hst, fun {F σ δ H v d Q C} R h c k => ?_⟩
  unfold dgTup at c
  split at c
  · cases h with
    | tup h1 a1 => exact ⟨_, _, rfl, seqT R.sub h1, a1.length.trans c.1, q R a1 c.2 k⟩
  · exact c.elim

def dNext : DTS := fun D δ => D.nx δ
def dSeq (g h : DTS) : DTS := fun D δ => g { D with nx := h D } δ
theorem sds_nil : SDs X [] dNext := ⟨_, pss_nil, fun R h k => k.nx _ _ _ _ R .refl h⟩
theorem sds_cons {st : Stmt} {rest : List Stmt} {g h : DTS} (h1 : SD X st g) (h2 : SDs X rest h) : SDs X (st :: rest) (dSeq g h) := by
  obtain ⟨t, p1, q1⟩ := h1
  obtain ⟨u, p2, q2⟩ := h2
  refine ⟨_, pss_cons p1 p2, fun R c k => ?_⟩
  exact q1 R c ⟨fun F' σ' δ' H' R' s' c' => q2 R' c' (k.step s'), k.bk, k.ct, k.rt⟩
theorem sds_one {st : Stmt} {g : DTS} (h1 : SD X st g) : SDs X [st] g := by
  obtain ⟨t, p1, q1⟩ := h1
  exact ⟨_, pss_one p1, q1⟩
def dBreak : DTS := fun D δ => D.bk δ
def dCont : DTS := fun D δ => D.ct δ
theorem sd_pass : SD X (.Pass pos) dNext := ⟨_, ps_pass, fun R h k => k.nx _ _ _ _ R .refl h⟩
theorem sd_break : SD X (.Break pos) dBreak := ⟨_, ps_break, fun R h k => k.bk _ _ _ _ R .refl h⟩
theorem sd_continue : SD X (.Continue pos) dCont := ⟨_, ps_continue, fun R h k => k.ct _ _ _ _ R .refl h⟩
theorem sd_doc {x j p2} : SD X (.Expr (.Constant (.str x) j pos) p2) dNext := ⟨_, ps_doc, fun R h k => k.nx _ _ _ _ R .refl h⟩
def dDrop (f : DTE) : DTS := fun D δ => f δ fun _ δ1 => D.nx δ1
theorem sd_expr {e : Expr} {f : DTE} (h : PD X e f) (hs : swapsWith e none pos.line X.env = pure false := by rfl) : SD X (.Expr e pos) (dDrop f) := by
  obtain ⟨te, p, q⟩ := h
  exact ⟨_, ps_expr p hs, fun R c k => q R c fun a δ1 F1 H1 v R1 s1 r1 c1 => k.nx _ _ _ _ R1 s1 c1⟩
def dRet (f : DTE) : DTS := fun D δ => f δ fun a δ1 => match a with
  | .val d => D.rt (.val d) δ1
  | .sl i => match δ1[i]? with
    | some (some (.own xs)) => D.rt (.own xs) δ1
    | _ => False
theorem sd_ret {e : Expr} {f : DTE} (h : PD X e f) : SD X (.Return (some e) pos) (dRet f) := by
  obtain ⟨te, p, q⟩ := h
  refine ⟨_, ps_ret p, fun {F σ δ H DD D} R c k => ?_⟩
  refine q R c fun a δ1 F1 H1 v R1 s1 r1 c1 => ?_
  split at c1
  · rename_i d
    exact k.rt _ _ _ _ v (.val d) R1 s1 r1 c1
  · rename_i i
    split at c1
    · rename_i xs hx
      obtain ⟨l, ws, e1, e2, e3, e4⟩ := R1.own i xs (.inl hx)
      have r1 : σ[i]? = some (some v) := r1
      rw [e1] at r1
      cases r1
      exact k.rt _ _ _ _ _ (.own xs) R1 s1 ⟨l, ws, rfl, e2, e3, e4, .inl ⟨i, xs, hx, e1⟩⟩ c1
    · exact c1.elim
def dRetN (f : DSt → (List PyData → DSt → Prop) → Prop) : DTS := fun D δ => f δ fun xs δ1 => D.rt (.own xs) δ1
theorem sd_retNew {e : Expr} {f : DSt → (List PyData → DSt → Prop) → Prop} (h : PDN X e f) : SD X (.Return (some e) pos) (dRetN f) := by
  obtain ⟨te, p, q⟩ := h
  refine ⟨_, ps_ret p, fun {F σ δ H DD D} R c k => ?_⟩
  exact q R c fun xs δ1 F1 H1 l ws R1 s1 nF nH nO hH hA c1 => k.rt _ _ _ _ _ (.own xs) R1 s1 ⟨l, ws, rfl, nF, hH, hA, .inr ⟨nO, nH⟩⟩ c1
def dRet0 : DTS := fun D δ => D.rt (.val .none) δ
theorem sd_ret0 : SD X (.Return none pos) dRet0 := ⟨_, ps_retN, fun R h k => k.rt _ _ _ _ _ (.val .none) R .refl Dp.non h⟩
def dIf (t : DTT) (g h : DTS) : DTS := fun D δ => t δ fun b δ1 => (b = true → g D δ1) ∧ (b = false → h D δ1)
theorem sd_if {c : Expr} {a b : List Stmt} {t : DTT} {g h : DTS} (hc : PDT X c t) (ha : SDs X a g) (hb : SDs X b h) : SD X (.If c a b pos) (dIf t g h) := by
  obtain ⟨tc, p, q⟩ := hc
  obtain ⟨ta, pa, qa⟩ := ha
  obtain ⟨tb, pb, qb⟩ := hb
  refine ⟨_, ps_if p pa pb, fun R c k => ?_⟩
  refine q R c fun b δ1 F1 H1 R1 s1 c1 => ?_
  cases b with
  | true => exact iteT (qa R1 (c1.1 rfl) (k.step s1))
  | false => exact iteF (qb R1 (c1.2 rfl) (k.step s1))
def dSet (i : Nat) (f : DTE) : DTS := fun D δ => f δ fun a δ1 => match a with
  | .val d => notParB δ1 i = true ∧ D.nx (δ1.set i (some (.val d)))
  | _ => False
theorem sd_set {i : Nat} {x : Str} {e : Expr} {f : DTE} {p2 : Pos} (hN : X.N.Nodup) (hi : X.N[i]? = some x) (hx : Loc X.env.scope x) (h : PD X e f) (hs : swapsWith e (some (.Name x p2)) pos.line X.env = pure false := by rfl)
    (hf : X.fn x = true ∨ X.env.scope.names.lookup x = some .local := by first | exact .inl rfl | exact .inr rfl | assumption) : SD X (.Assign [.Name x p2] e pos) (dSet i f) := by
  obtain ⟨te, p, q⟩ := h
  refine ⟨_, ps_set hN hi hx p hs hf, fun R c k => ?_⟩
  refine q R c fun a δ1 F1 H1 v R1 s1 r1 c1 => ?_
  split at c1
  · obtain ⟨R2, s2⟩ := R1.setVal (notParB_of c1.1) r1
    exact k.nx _ _ _ _ R2 (s1.trans s2) c1.2
  · exact c1.elim
def dSetN (i : Nat) (f : DSt → (List PyData → DSt → Prop) → Prop) : DTS := fun D δ => f δ fun xs δ1 => notParB δ1 i = true ∧ D.nx (δ1.set i (some (.own xs)))
theorem sd_setNew {i : Nat} {x : Str} {e : Expr} {f : DSt → (List PyData → DSt → Prop) → Prop} {p2 : Pos} (hN : X.N.Nodup) (hi : X.N[i]? = some x) (hx : Loc X.env.scope x) (h : PDN X e f) (hs : swapsWith e (some (.Name x p2)) pos.line X.env = pure false := by rfl)
    (hf : X.fn x = true ∨ X.env.scope.names.lookup x = some .local := by first | exact .inl rfl | exact .inr rfl | assumption) : SD X (.Assign [.Name x p2] e pos) (dSetN i f) := by
  obtain ⟨te, p, q⟩ := h
  refine ⟨_, ps_set hN hi hx p hs hf, fun R c k => ?_⟩
  refine q R c fun xs δ1 F1 H1 l ws R1 s1 nF nH nO hH hA c1 => ?_
  obtain ⟨R2, st⟩ := R1.setOwnS (notParB_of c1.1) nF hH nO hA
  exact k.nx _ _ _ _ R2 (st s1 nH) c1.2
/-- target = e, any target -/
def dAsg (f : DTE) (g : DTG) : DTS := fun D δ => f δ fun a δ1 => match a with
  | .val d => g d δ1 D.nx
  | _ => False
theorem sd_asg {tg e : Expr} {f : DTE} {g : DTG} {ws : List Nat} (h : PD X e f) (hg : PDG X tg g ws) (hs : swapsWithSole [tg] e pos.line X.env = pure false := by rfl) (hw : swappedStores [tg] e X.env = pure none := by rfl)
    (h1 : (assignEach [tg] X.env).map (·.2) = [assign tg X.env] := by rfl) : SD X (.Assign [tg] e pos) (dAsg f g) := by
  obtain ⟨te, p, q⟩ := h
  obtain ⟨t, pg, qg⟩ := hg
  refine ⟨_, ps_asg p pg hs hw h1, fun R c k => ?_⟩
  refine q R c fun a δ1 F1 H1 v R1 s1 r1 c1 => ?_
  split at c1
  · exact qg R1 r1 c1 fun δ2 F2 σ2 H2 R2 s2 _ c2 => k.nx _ _ _ _ R2 (s1.trans s2) c2
  · exact c1.elim
/-- name += e -/
def dAug (i : Nat) (r : DOp) (f : DTE) : DTS := fun D δ => match δ[i]? with
  | some (some (.val x)) => f δ fun a δ1 => match a with
    | .val y => r x y fun z => notParB δ1 i = true ∧ D.nx (δ1.set i (some (.val z)))
    | _ => False
  | _ => False
def IpD (X : Cx) (op : Operator) (r : DOp) : Prop :=
  ∃ r' : TIp, PIp X op r' ∧ ∀ {F : Hp} {σ : L2.St} {δ : DSt} {H : Hp} {x y : V} {d e : PyData} {Q : VK} {C : PyData → Prop}, RepS X.K F σ δ H → Dp X.K F x d → Dp X.K F y e → r d e C →
    (∀ z F' H' v, RepS X.K F' σ δ H' → Stp σ δ F H σ δ F' H' → Dp X.K F' v z → C z → Q v H') → r' x y H Q
def iAdd : DOp := fun d e C => match d, e with
  | .int i, .int j => C (.int (i + j))
  | _, _ => False
def iSub : DOp := fun d e C => match d, e with
  | .int i, .int j => C (.int (i - j))
  | _, _ => False
theorem id_add : IpD X .Add iAdd := by
  refine ⟨_, ip_add, fun {F σ δ H x y d e Q C} R hx hy c k => ?_⟩
  unfold iAdd at c
  split at c
  · cases hx; cases hy
    exact ⟨_, _, rfl, rfl, k _ _ _ _ R .refl (.int _) c⟩
  · exact c.elim
theorem id_sub : IpD X .Sub iSub := by
  refine ⟨_, ip_sub, fun {F σ δ H x y d e Q C} R hx hy c k => ?_⟩
  unfold iSub at c
  split at c
  · cases hx; cases hy
    exact ⟨_, _, rfl, rfl, k _ _ _ _ R .refl (.int _) c⟩
  · exact c.elim
theorem sd_aug {i : Nat} {x : Str} {e : Expr} {f : DTE} {op : Operator} {r : DOp} {p2 : Pos} (hN : X.N.Nodup) (hi : X.N[i]? = some x) (hx : Loc X.env.scope x) (h : PD X e f) (ho : IpD X op r)
    (hf : X.fn x = true ∨ X.env.scope.names.lookup x = some .local := by first | exact .inl rfl | exact .inr rfl | assumption) : SD X (.AugAssign (.Name x p2) op e pos) (dAug i r f) := by
  obtain ⟨te, p, q⟩ := h
  obtain ⟨r', o1, o2⟩ := ho
  refine ⟨_, ps_aug hN hi hx p o1 hf, fun {F σ δ H DD D} R c k => ?_⟩
  unfold dAug at c
  split at c
  · rename_i d hd
    obtain ⟨v, e1, e2⟩ := R.val i d hd
    refine ⟨v, e1, q R c fun a δ1 F1 H1 w R1 s1 r1 c1 => ?_⟩
    split at c1
    · refine o2 R1 (Dp.mono s1.ext _ _ e2) r1 c1 fun z F2 H2 u R2 s2 r2 c2 => ?_
      obtain ⟨R3, s3⟩ := R2.setVal (notParB_of c2.1) r2
      exact k.nx _ _ _ _ R3 ((s1.trans s2).trans s3) c2.2
    · exact c1.elim
  · exact c.elim
/-- xs[i] = e of an owned list -/
def dSetIx (fo fi f : DTE) : DTS := fun D δ => f δ fun a δ1 => match a with
  | .val d => fo δ1 fun b δ2 => match b with
    | .sl j => fi δ2 fun c δ3 => match c with
      | .val (.int i) => match cont δ3 j with
        | some xs => match ixN xs.length i with
          | some n => D.nx (putC δ3 j (xs.set n d))
          | none => False
        | none => False
      | _ => False
    | _ => False
  | _ => False
theorem sd_setIx {o i e : Expr} {fo fi f : DTE} {p2 : Pos} (ho : PD X o fo) (hi : PD X i fi) (h : PD X e f)
    (ha : ∀ v, assign (.Subscript o i p2) X.env v = (do
      let ov ← holding [v] (eval o X.env)
      let iv ← holding [v, ov] (eval i X.env)
      standAt p2
      holding [v, ov, iv] (setItem ov iv v)
      release [v, ov, iv] []) := by intro _; rfl)
    (hs : swapsWithSole [.Subscript o i p2] e pos.line X.env = pure false := by rfl) (hw : swappedStores [.Subscript o i p2] e X.env = pure none := by rfl)
    (h1 : (assignEach [.Subscript o i p2] X.env).map (·.2) = [assign (.Subscript o i p2) X.env] := by rfl) : SD X (.Assign [.Subscript o i p2] e pos) (dSetIx fo fi f) := by
  obtain ⟨te, p, q⟩ := h
  obtain ⟨to, po, qo⟩ := ho
  obtain ⟨ti, pi, qi⟩ := hi
  refine ⟨_, ps_asg p (pg_sub po pi set_list ha) hs hw h1, fun {F σ δ H DD D} R c k => ?_⟩
  refine q R c fun a δ1 F1 H1 v R1 s1 r1 c1 => ?_
  split at c1
  · rename_i d
    refine qo R1 c1 fun b δ2 F2 H2 w R2 s2 r2 c2 => ?_
    split at c2
    · rename_i j
      refine qi R2 c2 fun z δ3 F3 H3 u R3 s3 r3 c3 => ?_
      split at c3
      · rename_i n
        cases (show Dp X.K F3 u (.int n) from r3)
        split at c3
        · rename_i xs hx
          split at c3
          · rename_i m hm
            obtain ⟨l, vs, e1, e2, e3, e4⟩ := R3.own j xs (cont_own hx)
            have r2 : σ[j]? = some (some w) := r2
            have e1' := e1
            rw [r2] at e1'
            cases e1'
            obtain ⟨R4, s4⟩ := R3.put (cont_own hx) e1 (DpAll.set (Dp.mono (s2.ext.trans s3.ext) _ _ r1) m e4)
            exact ⟨l, vs, n, m, rfl, rfl, e3, by rw [e4.length]; exact hm, k.nx _ _ _ _ R4 (((s1.trans s2).trans s3).trans s4) c3⟩
          · exact c3.elim
        · exact c3.elim
      · exact c3.elim
    · exact c2.elim
  · exact c1.elim

/-! ### while -/
def dWhileN (c : DTT) (b : DTS) : Nat → DTS
  | 0 => fun _ _ => False
  | n + 1 => fun D δ => c δ fun t δ1 => (t = true → b { nx := dWhileN c b n D, ct := dWhileN c b n D, bk := D.nx, rt := D.rt } δ1) ∧ (t = false → D.nx δ1)
def dWhile (c : DTT) (b : DTS) : DTS := fun D δ => ∃ n, dWhileN c b n D δ
theorem sd_while {c : Expr} {body : List Stmt} {t : DTT} {b : DTS} (hp : PassesOwn (model X.prog X.w) X.A X.env X.xe) (hc : PDT X c t) (hb : SDs X body b) : SD X (.While c body [] pos) (dWhile t b) := by
  obtain ⟨tc, p, q⟩ := hc
  obtain ⟨tb, pb, qb⟩ := hb
  refine ⟨_, ps_while hp p pb, fun {F σ δ H DD D} R c k => ?_⟩
  obtain ⟨n, c⟩ := c
  refine ⟨fun m σ' H' => ∃ F' δ', RepS X.K F' σ' δ' H' ∧ Stp σ δ F H σ' δ' F' H' ∧ dWhileN t b m DD δ', ⟨n, F, δ, R, .refl, c⟩, ?_⟩
  rintro m σ1 H1 ⟨F1, δ1, R1, s1, c1⟩
  cases m with
  | zero => exact c1.elim
  | succ m =>
    refine q R1 c1 fun t' δ2 F2 H2 R2 s2 c2 => ?_
    cases t' with
    | false => exact iteF (k.nx _ _ _ _ R2 (s1.trans s2) (c2.2 rfl))
    | true =>
      refine iteT ⟨fun σ' H' => ∃ F' δ', RepS X.K F' σ' δ' H' ∧ Stp σ δ F H σ' δ' F' H' ∧ dWhileN t b m DD δ', fun σ' H' h => ⟨m, Nat.lt_succ_self _, h⟩, ?_⟩
      have s12 := s1.trans s2
      exact qb R2 (c2.1 rfl) ⟨fun F' σ' δ' H' R' s' c' => ⟨F', δ', R', s12.trans s', c'⟩, fun F' σ' δ' H' R' s' c' => k.nx _ _ _ _ R' (s12.trans s') c',
        fun F' σ' δ' H' R' s' c' => ⟨F', δ', R', s12.trans s', c'⟩, fun F' σ' δ' H' v r R' s' q' c' => k.rt _ _ _ _ v r R' (s12.trans s') (q'.step s12.dom) c'⟩

/-! ### what a for walks -/
def IterRep (K : PySem.W.Frag) (F : Hp) (J : It) (its : List PyData) : Prop :=
  ∀ F' σ δ H, RepS K F' σ δ H → Same F F' → ∀ i, (its.length ≤ i → J.stop i H) ∧ ∀ d, its[i]? = some d → J.go i H ∧ ∀ x H', J.yld i H x H' →
    ∃ F'', RepS K F'' σ δ H' ∧ Stp σ δ F' H σ δ F'' H' ∧ Dp K F'' x d
abbrev DTI := DSt → (List PyData → DSt → Prop) → Prop
structure PDI (X : Cx) (tg iter : Expr) (f : DTI) : Prop where
  ex : ∃ wi, PI X tg iter wi ∧ ∀ {F : Hp} {σ : L2.St} {δ : DSt} {H : Hp} {R : It → Hp → Prop} {C : List PyData → DSt → Prop}, RepS X.K F σ δ H → f δ C →
    (∀ its δ' F' H' J, RepS X.K F' σ δ' H' → Stp σ δ F H σ δ' F' H' → IterRep X.K F' J its → C its δ' → R J H') → wi σ H R
/-- a list, a tuple or a text, as the value is -/
def iAny (K : PySem.W.Frag) (tl : TE) : TI := fun σ H R => tl σ H fun x H1 => (∃ a, x = .ref a ∧ (∃ xs, SqL K H1 a xs) ∧ R (Itl K a) H1) ∨ (∃ a, x = .ref a ∧ (∃ xs, SqT K H1 a xs) ∧ R (Itt K a) H1) ∨ ∃ z, x = .str z ∧ R (Its z) H1
theorem pi_any {tg l : Expr} {tl : TE} (hl : PE X l tl) : PI X tg l (iAny X.K tl) := by
  refine ⟨fun pins s σ H R I h => thn (hl.run pins s σ H _ I h) fun v s1 ⟨x, H1, I1, r1, q1⟩ => ?_⟩
  have new : ∀ b, b ∈ [s1.heap.objs.size] → FpOk X pins H1 b := fun b hb => by
    have e : b = s1.heap.objs.size := by simpa using hb
    rw [e]
    exact I1.fpOk (Nat.le_refl _) (I1.hok.fresh (Nat.le_refl _))
  rcases q1 with ⟨a, e, ⟨xs, hq⟩, q⟩ | ⟨a, e, ⟨xs, hq⟩, q⟩ | ⟨z, e, q⟩
  · subst e
    cases r1
    obtain ⟨us, _, pl, _⟩ := I1.list hq
    exact wpAny_pyIter_list pl.isList ⟨_, _, _, _, H1, rfl, I1.kept (t' := s1.toks) fun b o e => Heap.get?_push_of_some _ e, turn_list a _, ⟨_, Heap.get?_push_size _ rfl, rfl, rfl⟩, new, q⟩
  · subst e
    cases r1
    obtain ⟨us, _, pl, _⟩ := I1.tuple hq
    exact wpAny_pyIter_tuple (show s1.heap.IsTuple a us.toArray from pl) ⟨_, _, _, _, H1, rfl, I1.kept (t' := s1.toks) fun b o e => Heap.get?_push_of_some _ e, turn_tuple a _, ⟨_, Heap.get?_push_size _ rfl, rfl, rfl⟩, new, q⟩
  · subst e
    obtain ⟨t, rfl⟩ := r1
    cases ha : z.cps.all (· < 128) with
    | false => exact wpAny_pyIter_wide ha (pi_one (tk := s1.toks) I1 _ (turn_str _ z t "str_iterator" (.inr rfl)) ⟨_, Heap.get?_push_size _ rfl, rfl, rfl⟩ q)
    | true => exact wpAny_pyIter_ascii ha (pi_one (tk := s1.toks) I1 _ (turn_str _ z t "str_ascii_iterator" (.inl rfl)) ⟨_, Heap.get?_push_size _ rfl, rfl, rfl⟩ q)
def dIterE (f : DTE) : DTI := fun δ C => f δ fun a δ1 => match a with
  | .val (.list xs) => C xs δ1
  | .val (.tuple xs) => C xs δ1
  | .val (.str z) => C (z.cps.toList.map fun c => .str ⟨#[c]⟩) δ1
  | .sl i => match δ1[i]? with
    | some (some (.own xs)) => C xs (δ1.set i (some (.val (.list xs))))
    | _ => False
  | _ => False
theorem iter_list {F : Hp} {a : Addr} {vs : List V} {xs : List PyData} (h : SqL K F a vs) (hA : DpAll K F vs xs) : IterRep K F (Itl K a) xs := by
  intro F' σ δ H R e i
  have hH : SqL K H a vs := R.sub.seq (e.seq h)
  refine ⟨fun hi => ⟨vs, hH, by rw [hA.length]; exact hi⟩, fun d hd => ?_⟩
  obtain ⟨v, hv, dv⟩ := hA.get hd
  refine ⟨⟨vs, v, hH, hv⟩, fun x H' hy => ?_⟩
  obtain ⟨rfl, hy⟩ := hy
  have ex : x = v := Option.some.inj ((hy _ hH).symm.trans hv)
  subst ex
  exact ⟨F', R, .refl, Dp.mono e _ _ dv⟩
theorem iter_tup {F : Hp} {a : Addr} {vs : List V} {xs : List PyData} (h : SqT K F a vs) (hA : DpAll K F vs xs) : IterRep K F (Itt K a) xs := by
  intro F' σ δ H R e i
  have hH : SqT K H a vs := seqT R.sub (seqT e h)
  refine ⟨fun hi => ⟨vs, hH, by rw [hA.length]; exact hi⟩, fun d hd => ?_⟩
  obtain ⟨v, hv, dv⟩ := hA.get hd
  refine ⟨⟨vs, v, hH, hv⟩, fun x H' hy => ?_⟩
  obtain ⟨rfl, hy⟩ := hy
  have ex : x = v := Option.some.inj ((hy _ hH).symm.trans hv)
  subst ex
  exact ⟨F', R, .refl, Dp.mono e _ _ dv⟩
theorem iter_str {F : Hp} (z : Str) : IterRep K F (Its z) (z.cps.toList.map fun c => .str ⟨#[c]⟩) := by
  intro F' σ δ H R e i
  refine ⟨fun hi => by
    have hi : z.cps.size ≤ i := by simpa using hi
    exact hi, fun d hd => ?_⟩
  rw [List.getElem?_map] at hd
  cases q : z.cps.toList[i]? with
  | none => rw [q] at hd; cases hd
  | some c =>
    rw [q] at hd
    cases hd
    have hi : i < z.cps.size := by
      have := (List.getElem?_eq_some_iff.mp q).1
      simpa using this
    refine ⟨hi, fun x H' hy => ?_⟩
    obtain ⟨rfl, c', hc, rfl⟩ := hy
    have : c' = c := by
      have q2 : z.cps[i]? = some c := by simpa using q
      rw [hc] at q2
      exact Option.some.inj q2
    subst this
    exact ⟨F', R, .refl, Dp.str _⟩
theorem pdi_e {tg e : Expr} {f : DTE} (h : PD X e f) : PDI X tg e (dIterE f) := by
  obtain ⟨te, p, q⟩ := h
  refine ⟨_, pi_any p, fun {F σ δ H R C} RR c k => ?_⟩
  refine q RR c fun a δ1 F1 H1 v R1 s1 r1 c1 => ?_
  split at c1
  · rename_i xs
    cases (show Dp X.K F1 v (.list xs) from r1) with
    | lst h1 a1 => exact .inl ⟨_, rfl, ⟨_, R1.sub.seq h1⟩, k _ _ _ _ _ R1 s1 (iter_list h1 a1) c1⟩
  · rename_i xs
    cases (show Dp X.K F1 v (.tuple xs) from r1) with
    | tup h1 a1 => exact .inr (.inl ⟨_, rfl, ⟨_, seqT R1.sub h1⟩, k _ _ _ _ _ R1 s1 (iter_tup h1 a1) c1⟩)
  · rename_i z
    cases (show Dp X.K F1 v (.str z) from r1)
    exact .inr (.inr ⟨z, rfl, k _ _ _ _ _ R1 s1 (iter_str z) c1⟩)
  · rename_i i
    split at c1
    · rename_i xs hx
      obtain ⟨l, ws, e1, e2, e3, e4⟩ := R1.own i xs (.inl hx)
      have r1 : σ[i]? = some (some v) := r1
      rw [e1] at r1
      cases r1
      obtain ⟨R2, s2⟩ := R1.freeze hx e1 e3
      exact .inl ⟨_, rfl, ⟨_, SqL.of e3⟩, k _ _ _ _ _ R2 (s1.trans s2) (iter_list (SqL.of upd_same) (Dp.monoAll s2.ext _ _ e4)) c1⟩
    · exact c1.elim
  · exact c1.elim
def rangeD (lo : Int) (n : Nat) : List PyData := (List.range n).map fun k => .int (lo + (k : Nat))
theorem iter_rng {F : Hp} (lo : Int) (n : Nat) : IterRep K F (Itr lo n) (rangeD lo n) := by
  intro F' σ δ H R e i
  unfold rangeD
  refine ⟨fun hi => ?_, fun d hd => ?_⟩
  · have hi : n ≤ i := by simpa using hi
    exact hi
  rw [List.getElem?_map] at hd
  by_cases hi : i < n
  · rw [List.getElem?_range hi] at hd
    cases hd
    refine ⟨hi, fun x H' hy => ?_⟩
    obtain ⟨rfl, rfl⟩ := hy
    exact ⟨F', R, .refl, Dp.int _⟩
  · rw [List.getElem?_eq_none (by simpa using hi)] at hd
    cases hd
def dRng1 (f : DTA) : DTI := fun δ C => f δ fun as δ1 => match as with
  | [.val (.int j)] => -(2 ^ 62) ≤ j ∧ j < 2 ^ 62 ∧ C (rangeD 0 j.toNat) δ1
  | _ => False
def dRng2 (f : DTA) : DTI := fun δ C => f δ fun as δ1 => match as with
  | [.val (.int i), .val (.int j)] => (-(2 ^ 62) ≤ i ∧ i < 2 ^ 62 ∧ -(2 ^ 62) ≤ j ∧ j < 2 ^ 62) ∧ C (rangeD i (j - i).toNat) δ1
  | _ => False
theorem pdi_range1 {tg a : Expr} {f : DTA} {p : Pos} (hg : Gl X "range") (hm : X.mg "range" = none) (ha : PDA X [a] f) (hs : starEach [a] X.env = [(false, eval a X.env)] := by rfl) : PDI X tg (.Call (.Name "range" p) [a] [] pos) (dRng1 f) := by
  obtain ⟨ta, p, q⟩ := ha
  refine ⟨_, pi_range1 hg hm p hs, fun {F σ δ H R C} RR c k => ?_⟩
  refine q RR c fun as δ1 F1 H1 vs R1 s1 r1 c1 => ?_
  split at c1
  · rename_i j
    obtain ⟨v, rfl, r2⟩ := arsRep1 r1
    cases (show Dp X.K F1 v (.int j) from r2)
    exact ⟨j, rfl, c1.1, c1.2.1, k _ _ _ _ _ R1 s1 (iter_rng 0 _) c1.2.2⟩
  · exact c1.elim
theorem pdi_range2 {tg a b : Expr} {f : DTA} {p : Pos} (hg : Gl X "range") (hm : X.mg "range" = none) (ha : PDA X [a, b] f) (hs : starEach [a, b] X.env = [(false, eval a X.env), (false, eval b X.env)] := by rfl) (hs2 : starEach [b] X.env = [(false, eval b X.env)] := by rfl) : PDI X tg (.Call (.Name "range" p) [a, b] [] pos) (dRng2 f) := by
  obtain ⟨ta, p, q⟩ := ha
  refine ⟨_, pi_range2 hg hm p hs hs2, fun {F σ δ H R C} RR c k => ?_⟩
  refine q RR c fun as δ1 F1 H1 vs R1 s1 r1 c1 => ?_
  split at c1
  · rename_i i j
    obtain ⟨v, w, rfl, r2, r3⟩ := arsRep2 r1
    cases (show Dp X.K F1 v (.int i) from r2)
    cases (show Dp X.K F1 w (.int j) from r3)
    exact ⟨i, j, rfl, c1.1, k _ _ _ _ _ R1 s1 (iter_rng i _) c1.2⟩
  · exact c1.elim
/-! ### for -/
def dForL (g : DTG) (b : DTS) : List PyData → DTS
  | [] => fun D δ => D.nx δ
  | d :: ds => fun D δ => g d δ fun δ1 => b { nx := dForL g b ds D, ct := dForL g b ds D, bk := D.nx, rt := D.rt } δ1
def dFor (fi : DTI) (g : DTG) (b : DTS) : DTS := fun D δ => fi δ fun its δ1 => dForL g b its D δ1
theorem sd_for {tg iter : Expr} {body : List Stmt} {fi : DTI} {g : DTG} {b : DTS} {ws : List Nat} (hp : PassesOwn (model X.prog X.w) X.A X.env X.xe) (hc : X.calm = true) (hi : PDI X tg iter fi) (hg : PDG X tg g ws) (hb : SDs X body b)
    (hs : ∀ x, foldedSetIterable iter X.env x = pure x := by intro _; rfl) : SD X (.For tg iter body [] pos) (dFor fi g b) := by
  obtain ⟨wi, pi, qi⟩ := hi
  obtain ⟨t, pg, qg⟩ := hg
  obtain ⟨tb, pb, qb⟩ := hb
  refine ⟨_, ps_for hp hc pi pg pb hs, fun {F σ δ H DD D} R c k => ?_⟩
  refine qi R c fun its δ1 F1 H1 J R1 s1 it c1 => ?_
  refine ⟨fun i m σ' H' => ∃ F' δ', RepS X.K F' σ' δ' H' ∧ Stp σ δ F H σ' δ' F' H' ∧ Same F1 F' ∧ m = its.length - i ∧ dForL g b (its.drop i) DD δ', ⟨its.length, F1, δ1, R1, s1, Same.refl _, rfl, c1⟩, ?_⟩
  rintro i m σ2 H2 ⟨F2, δ2, R2, s2, e2, rfl, c2⟩
  obtain ⟨stop, go⟩ := it F2 σ2 δ2 H2 R2 e2 i
  cases q : its[i]? with
  | none =>
    have hi : its.length ≤ i := List.getElem?_eq_none_iff.mp q
    rw [List.drop_eq_nil_of_le hi] at c2
    exact .inl ⟨stop hi, k.nx _ _ _ _ R2 s2 c2⟩
  | some d =>
    have hi : i < its.length := (List.getElem?_eq_some_iff.mp q).1
    have ed : its.drop i = d :: its.drop (i + 1) := by
      rw [List.drop_eq_getElem_cons hi]
      have := (List.getElem?_eq_some_iff.mp q).2
      rw [this]
    rw [ed] at c2
    obtain ⟨g1, g2⟩ := go d q
    refine .inr ⟨g1, fun σ' H' => ∃ F' δ', RepS X.K F' σ' δ' H' ∧ Stp σ δ F H σ' δ' F' H' ∧ Same F1 F' ∧ dForL g b (its.drop (i + 1)) DD δ', fun σ' H' ⟨F', δ', a1, a2, a3, a4⟩ => ⟨its.length - (i + 1), by omega, F', δ', a1, a2, a3, rfl, a4⟩, fun x H3 hy => ?_⟩
    obtain ⟨F3, R3, s3, d3⟩ := g2 x H3 hy
    refine qg R3 d3 c2 fun δ4 F4 σ4 H4 R4 s4 _ c4 => ?_
    have s24 := (s2.trans s3).trans s4
    have e4 := (e2.trans s3.ext).trans s4.ext
    exact qb R4 c4 ⟨fun F' σ' δ' H' R' s' c' => ⟨F', δ', R', s24.trans s', e4.trans s'.ext, c'⟩, fun F' σ' δ' H' R' s' c' => k.nx _ _ _ _ R' (s24.trans s') c',
      fun F' σ' δ' H' R' s' c' => ⟨F', δ', R', s24.trans s', e4.trans s'.ext, c'⟩, fun F' σ' δ' H' v r R' s' q' c' => k.rt _ _ _ _ v r R' (s24.trans s') (q'.step s24.dom) c'⟩
end
end DD

namespace DD
open PySem PySem.Spec PyProof.Rows L2
section
variable {X : Cx} {K : PySem.W.Frag} {F H : Hp} {σ : L2.St} {δ : DSt} {pos : Pos}
/-! ### the canonical readings: the same in every block -/
def canE (K : PySem.W.Frag) (f : DTE) : TE := fun σ H Q => ∃ F δ C, RepS K F σ δ H ∧ f δ C ∧ ∀ a δ' F' H' v, RepS K F' σ δ' H' → Stp σ δ F H σ δ' F' H' → ArRep K F' σ v a → C a δ' → Q v H'
def canT (K : PySem.W.Frag) (f : DTT) : TT := fun σ H Q => ∃ F δ C, RepS K F σ δ H ∧ f δ C ∧ ∀ a δ' F' H', RepS K F' σ δ' H' → Stp σ δ F H σ δ' F' H' → C a δ' → Q a H'
def canG (K : PySem.W.Frag) (g : DTG) (ws : List Nat) : TG := fun v σ H Q => ∃ F δ d C, RepS K F σ δ H ∧ Dp K F v d ∧ g d δ C ∧ ∀ δ' F' σ' H', RepS K F' σ' δ' H' → Stp σ δ F H σ' δ' F' H' → Agree ws σ σ' → C δ' → Q σ' H'
theorem PD.can {e : Expr} {f : DTE} (h : PD X e f) : PE X e (canE X.K f) := by
  obtain ⟨te, p, q⟩ := h
  exact ⟨fun pins s σ H Q I ⟨F, δ, C, R, c, k⟩ => p.run pins s σ H Q I (q R c k)⟩
theorem PDG.can {e : Expr} {g : DTG} {ws : List Nat} (h : PDG X e g ws) : PG X e (canG X.K g ws) := by
  obtain ⟨te, p, q⟩ := h
  exact ⟨fun pins s σ H v u Q I r ⟨F, δ, d, C, R, hd, c, k⟩ => p.run pins s σ H v u Q I r (q R hd c k)⟩
structure PDTs (X : Cx) (ifs : List Expr) (f : DTT) : Prop where
  ex : ∃ te, PTs X ifs te ∧ ∀ {F : Hp} {σ : L2.St} {δ : DSt} {H : Hp} {Q : Bool → Hp → Prop} {C : Bool → DSt → Prop}, RepS X.K F σ δ H → f δ C →
    (∀ a δ' F' H', RepS X.K F' σ δ' H' → Stp σ δ F H σ δ' F' H' → C a δ' → Q a H') → te σ H Q
theorem PDTs.can {ifs : List Expr} {f : DTT} (h : PDTs X ifs f) : PTs X ifs (canT X.K f) := by
  obtain ⟨te, p, q⟩ := h
  exact ⟨fun pins s σ H Q I ⟨F, δ, C, R, c, k⟩ => p.run pins s σ H Q I (q R c k)⟩
def dYes : DTT := fun δ C => C true δ
theorem pdts_nil : PDTs X [] dYes := ⟨_, pts_nil, fun R c k => k _ _ _ _ R .refl c⟩
theorem pdts_one {c : Expr} {f : DTT} (h : PDT X c f) : PDTs X [c] f := by
  obtain ⟨te, p, q⟩ := h
  exact ⟨_, pts_one p, q⟩

/-! ### comprehensions -/
def wipeD (δ : DSt) : List Nat → DSt
  | [] => δ
  | v :: vs => (wipeD δ vs).set v none
def restD (δ0 δ : DSt) : List Nat → DSt
  | [] => δ
  | v :: vs => (restD δ0 δ vs).set v (δ0[v]?.getD none)
def noOwnB (δ : DSt) (vs : List Nat) : Bool := vs.all fun v => match δ[v]? with
  | some (some (.own _)) => false
  | some (some (.par _)) => false
  | _ => true
theorem noOwnB_of {vs : List Nat} (h : noOwnB δ vs = true) {i : Nat} (hi : i ∈ vs) (xs : List PyData) : ¬ OwnC δ i xs := by
  have := List.all_eq_true.mp h i hi
  rintro (e | e) <;> (rw [e] at this; cases this)
theorem wipeD_len (δ : DSt) : ∀ vs : List Nat, (wipeD δ vs).length = δ.length
  | [] => rfl
  | v :: vs => by unfold wipeD; rw [List.length_set, wipeD_len δ vs]
theorem restD_len (δ0 δ : DSt) : ∀ vs : List Nat, (restD δ0 δ vs).length = δ.length
  | [] => rfl
  | v :: vs => by unfold restD; rw [List.length_set, restD_len δ0 δ vs]
theorem wipe_len (σ : L2.St) : ∀ vs : List Nat, (wipe σ vs).length = σ.length
  | [] => rfl
  | v :: vs => by unfold wipe; rw [List.length_set, wipe_len σ vs]
theorem wipeD_out {i : Nat} : ∀ {vs : List Nat}, i ∉ vs → (wipeD δ vs)[i]? = δ[i]?
  | [], _ => rfl
  | v :: vs, h => by
    have h1 : v ≠ i := fun e => h (by rw [e]; exact List.mem_cons_self)
    unfold wipeD
    rw [List.getElem?_set_ne h1]
    exact wipeD_out fun m => h (List.mem_cons_of_mem _ m)
theorem restD_out {δ0 : DSt} {i : Nat} : ∀ {vs : List Nat}, i ∉ vs → (restD δ0 δ vs)[i]? = δ[i]?
  | [], _ => rfl
  | v :: vs, h => by
    have h1 : v ≠ i := fun e => h (by rw [e]; exact List.mem_cons_self)
    unfold restD
    rw [List.getElem?_set_ne h1]
    exact restD_out fun m => h (List.mem_cons_of_mem _ m)
theorem wipeD_in {i : Nat} : ∀ {vs : List Nat}, i ∈ vs → ∀ x, (wipeD δ vs)[i]? ≠ some (some x)
  | v :: vs, h, x => by
    unfold wipeD
    by_cases e : v = i
    · subst e
      by_cases hl : v < (wipeD δ vs).length
      · rw [List.getElem?_set_self hl]; intro z; cases z
      · rw [List.getElem?_eq_none (by simpa using hl)]; intro z; cases z
    · rw [List.getElem?_set_ne e]
      rcases List.mem_cons.mp h with z | z
      · exact absurd z.symm e
      · exact wipeD_in z x
theorem wipe_in {i : Nat} : ∀ {vs : List Nat}, i ∈ vs → (wipe σ vs)[i]? = if i < σ.length then some none else none
  | v :: vs, h => by
    unfold wipe
    by_cases e : v = i
    · subst e
      by_cases hl : v < σ.length
      · rw [List.getElem?_set_self (by rw [wipe_len]; exact hl), if_pos hl]
      · rw [List.getElem?_eq_none (by simpa [wipe_len] using hl), if_neg hl]
    · rw [List.getElem?_set_ne e]
      rcases List.mem_cons.mp h with z | z
      · exact absurd z.symm e
      · exact wipe_in z
theorem restD_in {δ0 : DSt} {i : Nat} (hl : δ0.length = δ.length) : ∀ {vs : List Nat}, i ∈ vs → (restD δ0 δ vs)[i]? = δ0[i]?
  | v :: vs, h => by
    unfold restD
    by_cases e : v = i
    · subst e
      by_cases hv : v < δ.length
      · rw [List.getElem?_set_self (by rw [restD_len]; exact hv), List.getElem?_eq_getElem (by omega)]
        rfl
      · rw [List.getElem?_eq_none (by simpa [restD_len] using hv), List.getElem?_eq_none (by omega)]
    · rw [List.getElem?_set_ne e]
      rcases List.mem_cons.mp h with z | z
      · exact absurd z.symm e
      · exact restD_in hl z
theorem wipe_agree {vs ws : List Nat} {σ2 : L2.St} (hw : ∀ i ∈ ws, i ∈ vs) (h : Agree ws (wipe σ vs) σ2) : wipe σ2 vs = wipe σ vs := by
  have hlen : σ2.length = σ.length := by rw [h.1, wipe_len]
  refine List.ext_getElem? fun i => ?_
  by_cases hi : i ∈ vs
  · rw [wipe_in hi, wipe_in hi, hlen]
  · rw [wipe_out hi, h.2 i fun z => hi (hw i z)]
theorem RepS.wiped (R : RepS K F σ δ H) {vs : List Nat} (no : noOwnB δ vs = true) : RepS K F (wipe σ vs) (wipeD δ vs) H ∧ Stp σ δ F H (wipe σ vs) (wipeD δ vs) F H := by
  have ow : ∀ i xs, OwnC (wipeD δ vs) i xs → i ∉ vs ∧ OwnC δ i xs := fun i xs q => by
    by_cases hi : i ∈ vs
    · rcases q with q | q <;> exact absurd q (wipeD_in hi _)
    · refine ⟨hi, ?_⟩
      unfold OwnC at q ⊢
      rw [wipeD_out hi] at q
      exact q
  refine ⟨⟨by rw [wipe_len, wipeD_len]; exact R.len, R.sub, fun i d q => ?_, fun i xs q => ?_, fun i j xs ys l ne q1 q2 => ?_⟩, ⟨Same.refl _, fun _ _ q => .inl q, fun _ _ q _ => q, fun _ q => q, fun l ⟨i, xs, q1, q2⟩ => .inl ?_, fun i xs q => ?_, fun l ⟨i, xs, q1, q2⟩ => .inl ?_⟩⟩
  · by_cases hi : i ∈ vs
    · exact absurd q (wipeD_in hi _)
    · rw [wipeD_out hi] at q
      rw [wipe_out hi]
      exact R.val i d q
  · obtain ⟨hi, q⟩ := ow i xs q
    rw [wipe_out hi]
    exact R.own i xs q
  · obtain ⟨h1, q1⟩ := ow i xs q1
    obtain ⟨h2, q2⟩ := ow j ys q2
    rw [wipe_out h1, wipe_out h2]
    exact R.sep i j xs ys l ne q1 q2
  · obtain ⟨h1, q1⟩ := ow i xs q1
    rw [wipe_out h1] at q2
    exact ⟨i, xs, q1, q2⟩
  · have hi : i ∉ vs := fun z => noOwnB_of no z xs (.inr q)
    rw [wipe_out hi, wipeD_out hi]
    exact ⟨⟨xs, q⟩, rfl⟩
  · have hi := (ow i xs (.inl q1)).1
    rw [wipeD_out hi] at q1
    rw [wipe_out hi] at q2
    exact ⟨i, xs, q1, q2⟩
theorem RepS.restored {F4 H4 : Hp} {σ2 : L2.St} {δ4 : DSt} {vs : List Nat} (R : RepS K F σ δ H) (R4 : RepS K F4 σ2 δ4 H4) (e : Same F F4) (ag : Agree vs σ σ2) (no : noOwnB δ vs = true) (no4 : noOwnB δ4 vs = true) :
    RepS K F4 σ (restD δ δ4 vs) H4 ∧ Stp σ2 δ4 F4 H4 σ (restD δ δ4 vs) F4 H4 := by
  have hl : δ.length = δ4.length := by rw [← R.len, ← R4.len, ag.1]
  have ow : ∀ i xs, OwnC (restD δ δ4 vs) i xs → i ∉ vs ∧ OwnC δ4 i xs := fun i xs q => by
    by_cases hi : i ∈ vs
    · unfold OwnC at q
      rw [restD_in hl hi] at q
      exact absurd q (noOwnB_of no hi xs)
    · refine ⟨hi, ?_⟩
      unfold OwnC at q ⊢
      rw [restD_out hi] at q
      exact q
  refine ⟨⟨by rw [restD_len, ← hl]; exact R.len, R4.sub, fun i d q => ?_, fun i xs q => ?_, fun i j xs ys l ne q1 q2 => ?_⟩, ⟨Same.refl _, fun _ _ q => .inl q, fun _ _ q _ => q, fun _ q => q, fun l ⟨i, xs, q1, q2⟩ => .inl ?_, fun i xs q => ?_, fun l ⟨i, xs, q1, q2⟩ => .inl ?_⟩⟩
  · by_cases hi : i ∈ vs
    · rw [restD_in hl hi] at q
      obtain ⟨v, h1, h2⟩ := R.val i d q
      exact ⟨v, h1, Dp.mono e d v h2⟩
    · rw [restD_out hi] at q
      rw [← ag.2 i hi]
      exact R4.val i d q
  · obtain ⟨hi, q⟩ := ow i xs q
    rw [← ag.2 i hi]
    exact R4.own i xs q
  · obtain ⟨h1, q1⟩ := ow i xs q1
    obtain ⟨h2, q2⟩ := ow j ys q2
    rw [← ag.2 i h1, ← ag.2 j h2]
    exact R4.sep i j xs ys l ne q1 q2
  · obtain ⟨h1, q1⟩ := ow i xs q1
    rw [← ag.2 i h1] at q2
    exact ⟨i, xs, q1, q2⟩
  · have hi : i ∉ vs := fun z => noOwnB_of no4 z xs (.inr q)
    rw [restD_out hi, ag.2 i hi]
    exact ⟨⟨xs, q⟩, rfl⟩
  · have hi := (ow i xs (.inl q1)).1
    rw [restD_out hi] at q1
    rw [← ag.2 i hi] at q2
    exact ⟨i, xs, q1, q2⟩
/-- a thing that is neither frozen nor owned changes -/
theorem RepS.ghost {p : Addr} {o : HO} (R : RepS K F σ δ H) (nF : F p = none) (nO : ¬ OwnA σ δ p) : RepS K F σ δ (upd H p o) := by
  refine ⟨R.len, fun b u e => ?_, R.val, fun i xs h => ?_, R.sep⟩
  · have ne : b ≠ p := fun z => by subst z; rw [nF] at e; cases e
    rw [upd_ne ne]; exact R.sub b u e
  · obtain ⟨l, vs, h1, h2, h3, h4⟩ := R.own i xs h
    have ne : l ≠ p := fun z => nO ⟨i, xs, h, by rw [← z]; exact h1⟩
    exact ⟨l, vs, h1, h2, by rw [upd_ne ne]; exact h3, h4⟩
theorem Stp.ghost {σ0 : L2.St} {δ0 : DSt} {F0 H0 : Hp} {p : Addr} {o : HO} (s : Stp σ0 δ0 F0 H0 σ δ F H) (n : H0 p = none) : Stp σ0 δ0 F0 H0 σ δ F (upd H p o) :=
  ⟨s.ext, s.new, fun b u e no => by rw [upd_ne (ne_of_none e n)]; exact s.frm b u e no, fun b e => by
    by_cases hb : b = p
    · subst hb; exact n
    · rw [upd_ne hb] at e; exact s.dom b e, s.own, s.par, s.ownl⟩
def dLcL (g : DTG) (tt : DTT) (te : DTE) (vs : List Nat) : List PyData → List PyData → DSt → (List PyData → DSt → Prop) → Prop
  | [], acc, δ, C => C acc δ
  | d :: ds, acc, δ, C => g d (wipeD δ vs) fun δ2 => tt δ2 fun b δ3 => (b = true → te δ3 fun a δ4 => match a with
      | .val y => acc.length < sizeLine ∧ noOwnB δ4 vs = true ∧ dLcL g tt te vs ds (acc ++ [y]) (restD δ δ4 vs) C
      | _ => False) ∧ (b = false → noOwnB δ3 vs = true ∧ dLcL g tt te vs ds acc (restD δ δ3 vs) C)
def dLc (fi : DTI) (g : DTG) (tt : DTT) (te : DTE) (vs : List Nat) : DSt → (List PyData → DSt → Prop) → Prop := fun δ C => fi δ fun its δ1 => noOwnB δ1 vs = true ∧ dLcL g tt te vs its [] δ1 C
theorem noOwn_rest {δ0 : DSt} {vs : List Nat} (hl : δ0.length = δ.length) (no : noOwnB δ0 vs = true) : noOwnB (restD δ0 δ vs) vs = true := by
  refine List.all_eq_true.mpr fun i hi => ?_
  rw [restD_in hl hi]
  exact List.all_eq_true.mp no i hi
theorem lc_read {fi : DTI} {g : DTG} {tt : DTT} {te : DTE} {vs ws : List Nat} {wi : TI} (hws : ∀ i ∈ ws, i ∈ vs)
    (qi : ∀ {F : Hp} {σ : L2.St} {δ : DSt} {H : Hp} {R : It → Hp → Prop} {C : List PyData → DSt → Prop}, RepS K F σ δ H → fi δ C →
      (∀ its δ' F' H' J, RepS K F' σ δ' H' → Stp σ δ F H σ δ' F' H' → IterRep K F' J its → C its δ' → R J H') → wi σ H R)
    {Q : VK} {C : List PyData → DSt → Prop} (RR : RepS K F σ δ H) (c : dLc fi g tt te vs δ C)
    (k : ∀ xs δ' F' H' l us, RepS K F' σ δ' H' → Stp σ δ F H σ δ' F' H' → F' l = none → H l = none → ¬ OwnA σ δ' l → H' l = some (.lst us) → DpAll K F' us xs → C xs δ' → Q (.ref l) H') :
    tLc wi (canG K g ws) (canT K tt) (canE K te) vs σ H Q := by
  refine qi RR c fun its δ1 F1 H1 J R1 s1 it ⟨no1, c1⟩ D nD => ?_
  obtain ⟨R1', s1', nF1, nO1⟩ := R1.fresh (o := .lst []) nD
  have nD0 : H D = none := s1.dom D nD
  refine ⟨fun i m H' => ∃ F' δ' acc us, RepS K F' σ δ' H' ∧ Stp σ δ F H σ δ' F' H' ∧ Same F1 F' ∧ F' D = none ∧ ¬ OwnA σ δ' D ∧ H' D = some (.lst us) ∧ DpAll K F' us acc ∧ noOwnB δ' vs = true ∧ m = its.length - i ∧ dLcL g tt te vs (its.drop i) acc δ' C,
    ⟨its.length, F1, δ1, [], [], R1', s1.trans s1', Same.refl _, nF1, nO1, upd_same, .nil, no1, rfl, c1⟩, ?_⟩
  rintro i m H2 ⟨F2, δ2, acc, us, R2, s2, e2, nF2, nO2, hD2, hA2, no2, rfl, c2⟩
  obtain ⟨stop, go⟩ := it F2 σ δ2 H2 R2 e2 i
  cases q : its[i]? with
  | none =>
    have hi : its.length ≤ i := List.getElem?_eq_none_iff.mp q
    rw [List.drop_eq_nil_of_le hi] at c2
    exact .inl ⟨stop hi, k acc δ2 F2 H2 D us R2 s2 nF2 nD0 nO2 hD2 hA2 c2⟩
  | some d =>
    have hi : i < its.length := (List.getElem?_eq_some_iff.mp q).1
    have ed : its.drop i = d :: its.drop (i + 1) := by
      rw [List.drop_eq_getElem_cons hi]
      have := (List.getElem?_eq_some_iff.mp q).2
      rw [this]
    rw [ed] at c2
    obtain ⟨g1, g2⟩ := go d q
    refine .inr ⟨g1, fun H' => ∃ F' δ' acc us, RepS K F' σ δ' H' ∧ Stp σ δ F H σ δ' F' H' ∧ Same F1 F' ∧ F' D = none ∧ ¬ OwnA σ δ' D ∧ H' D = some (.lst us) ∧ DpAll K F' us acc ∧ noOwnB δ' vs = true ∧ dLcL g tt te vs (its.drop (i + 1)) acc δ' C,
      fun H' ⟨F', δ', acc, us, a1, a2, a3, a4, a5, a6, a7, a8, a9⟩ => ⟨its.length - (i + 1), by omega, F', δ', acc, us, a1, a2, a3, a4, a5, a6, a7, a8, rfl, a9⟩, fun x H3 hy => ?_⟩
    obtain ⟨F3, R3, s3, d3⟩ := g2 x H3 hy
    obtain ⟨Rw, sw⟩ := R3.wiped no2
    -- keeps: what holds of D behind a step from the state of the turn's beginning
    have keep : ∀ {F' H' : Hp} {σ' : L2.St} {δ' : DSt}, Stp σ δ2 F2 H2 σ' δ' F' H' → F' D = none ∧ ¬ OwnA σ' δ' D ∧ H' D = some (.lst us) := fun {F' H' σ' δ'} s => by
      refine ⟨?_, fun z => ?_, s.frm D _ hD2 nO2⟩
      · cases qF : F' D with
        | none => rfl
        | some o =>
          rcases s.new D o qF with z | z | ⟨j, xs, z1, z2⟩
          · rw [nF2] at z; cases z
          · rw [hD2] at z; cases z
          · exact (nO2 ⟨j, xs, .inl z1, z2⟩).elim
      · rcases s.own D z with z | z
        · exact nO2 z
        · rw [hD2] at z; cases z
    refine ⟨F3, wipeD δ2 vs, d, _, Rw, d3, c2, fun δ4 F4 σ4 H4 R4 s4 ag c4 => ⟨wipe_agree hws ag, ?_⟩⟩
    have agv : Agree vs σ σ4 := ⟨by rw [ag.1, wipe_len], fun j hj => by rw [ag.2 j fun z => hj (hws j z), wipe_out hj]⟩
    refine ⟨F4, δ4, _, R4, c4, fun b δ5 F5 H5 R5 s5 c5 => ?_⟩
    have s35 : Stp σ δ2 F3 H3 σ4 δ5 F5 H5 := (sw.trans s4).trans s5
    cases b with
    | true =>
      refine iteT ⟨F5, δ5, _, R5, c5.1 rfl, fun a δ6 F6 H6 v R6 s6 r6 c6 => ?_⟩
      split at c6
      · rename_i y
        obtain ⟨hz, no6, c6⟩ := c6
        have s36 := s35.trans s6
        obtain ⟨R7, s7⟩ := R3.restored R6 s36.ext agv no2 no6
        have sAll := (s3.trans s36).trans s7
        obtain ⟨k1, k2, k3⟩ := keep sAll
        have hl : δ2.length = δ6.length := by rw [← R2.len, ← R6.len, agv.1]
        refine ⟨us, k3, by rw [hA2.length]; exact hz, F6, restD δ2 δ6 vs, acc ++ [y], us ++ [v], R7.ghost k1 k2, ?_, (e2.trans sAll.ext), k1, k2, upd_same, (Dp.monoAll sAll.ext _ _ hA2).append (.cons r6 .nil), noOwn_rest hl no2, c6⟩
        exact (s2.trans sAll).ghost nD0
      · exact c6.elim
    | false =>
      obtain ⟨no5, c6⟩ := c5.2 rfl
      obtain ⟨R7, s7⟩ := R3.restored R5 s35.ext agv no2 no5
      have sAll := (s3.trans s35).trans s7
      obtain ⟨k1, k2, k3⟩ := keep sAll
      have hl : δ2.length = δ5.length := by rw [← R2.len, ← R5.len, agv.1]
      exact iteF ⟨F5, restD δ2 δ5 vs, acc, us, R7, s2.trans sAll, e2.trans sAll.ext, k1, k2, k3, Dp.monoAll sAll.ext _ _ hA2, noOwn_rest hl no2, c6⟩
theorem pdn_lc {elt tg iter : Expr} {ifs : List Expr} {scope : Scope} {own : List (Str × Nat)} {fi : DTI} {g : DTG} {tt : DTT} {te : DTE} {ws : List Nat} (hc : X.calm = true) (hN : X.N.Nodup) (hi : PDI X tg iter fi) (ok : BlkOk X.N X.env.scope scope own)
    (hg : ∀ (s : Shared) (H : Hp) (C : Addr) (cl : List (Str × Addr)) (fp : List Addr), PDG (X.blk s H scope (compEnvC scope cl C X.env) fp) tg g ws) (ht : ∀ (s : Shared) (H : Hp) (C : Addr) (cl : List (Str × Addr)) (fp : List Addr), PDTs (X.blk s H scope (compEnvC scope cl C X.env) fp) ifs tt)
    (he : ∀ (s : Shared) (H : Hp) (C : Addr) (cl : List (Str × Addr)) (fp : List Addr), PD (X.blk s H scope (compEnvC scope cl C X.env) fp) elt te) (hws : ∀ i ∈ ws, i ∈ own.map (·.2) := by decide) (hs : ∀ x, foldedSetIterable iter X.env x = pure x := by intro _; rfl) :
    PDN X (.ListComp elt [⟨tg, iter, ifs, 0⟩] scope pos) (dLc fi g tt te (own.map (·.2))) := by
  obtain ⟨wi, pi, qi⟩ := hi
  refine ⟨_, pe_lc (g := canG X.K g ws) (tt := canT X.K tt) (te := canE X.K te) hc hN pi ok (fun s H C cl fp => (hg s H C cl fp).can) (fun s H C cl fp => (ht s H C cl fp).can) (fun s H C cl fp => (he s H C cl fp).can) hs, fun {F σ δ H Q C} R c k => ?_⟩
  exact lc_read hws qi R c k
/-- name = [..], the name a local -/
theorem sd_setLc {i : Nat} {y : Str} {py : Pos} {elt tg iter : Expr} {ifs : List Expr} {scope : Scope} {own : List (Str × Nat)} {p2 : Pos} {fi : DTI} {g : DTG} {tt : DTT} {te : DTE} {ws : List Nat} (hc : X.calm = true) (hN : X.N.Nodup) (hy : X.N[i]? = some y) (hyl : X.env.scope.names.lookup y = some .local)
    (hsw : swapsWith (.ListComp elt [⟨tg, iter, ifs, 0⟩] scope p2) (some (.Name y py)) pos.line X.env = pure true) (hi : PDI X tg iter fi) (ok : BlkOk X.N X.env.scope scope own)
    (hg : ∀ (s : Shared) (H : Hp) (C : Addr) (cl : List (Str × Addr)) (fp : List Addr), PDG (X.blk s H scope (compEnvC scope cl C X.env) fp) tg g ws) (ht : ∀ (s : Shared) (H : Hp) (C : Addr) (cl : List (Str × Addr)) (fp : List Addr), PDTs (X.blk s H scope (compEnvC scope cl C X.env) fp) ifs tt)
    (he : ∀ (s : Shared) (H : Hp) (C : Addr) (cl : List (Str × Addr)) (fp : List Addr), PD (X.blk s H scope (compEnvC scope cl C X.env) fp) elt te) (hws : ∀ i ∈ ws, i ∈ own.map (·.2) := by decide) (hs : ∀ x, foldedSetIterable iter X.env x = pure x := by intro _; rfl) :
    SD X (.Assign [.Name y py] (.ListComp elt [⟨tg, iter, ifs, 0⟩] scope p2) pos) (dSetN i (dLc fi g tt te (own.map (·.2)))) := by
  obtain ⟨wi, pi, qi⟩ := hi
  refine ⟨_, ps_setLc (g := canG X.K g ws) (tt := canT X.K tt) (te := canE X.K te) hc hN hy hyl hsw pi ok (fun s H C cl fp => (hg s H C cl fp).can) (fun s H C cl fp => (ht s H C cl fp).can) (fun s H C cl fp => (he s H C cl fp).can) hs, fun {F σ δ H DD D} R c k => ?_⟩
  refine lc_read hws qi R c fun xs δ1 F1 H1 l us R1 s1 nF nH nO hH hA c1 => ?_
  obtain ⟨R2, st⟩ := R1.setOwnS (notParB_of c1.1) nF hH nO hA
  exact k.nx _ _ _ _ R2 (st s1 nH) c1.2
end
end DD

namespace DD
open PySem PySem.Spec PyProof.Rows L2
/-! ### what a def promises, over data: the arguments (frozen, or a list to be changed); the answer and the arguments behind -/
abbrev DSp := List Sl → (Sl → List Sl → Prop) → Prop
structure ArgRep (K : PySem.W.Frag) (F H : Hp) (vs : List V) (sls : List Sl) : Prop where
  len : vs.length = sls.length
  sub : Same F H
  val : ∀ (i : Nat) (d : PyData), sls[i]? = some (.val d) → ∃ v, vs[i]? = some v ∧ Dp K F v d
  par : ∀ (i : Nat) (xs : List PyData), sls[i]? = some (.par xs) → ∃ l us, vs[i]? = some (.ref l) ∧ F l = none ∧ H l = some (.lst us) ∧ DpAll K F us xs
  noown : ∀ (i : Nat) (xs : List PyData), sls[i]? ≠ some (.own xs)
  sep : ∀ (i j : Nat) (xs ys : List PyData) (l : Addr), i ≠ j → sls[i]? = some (.par xs) → sls[j]? = some (.par ys) → vs[i]? = some (.ref l) → vs[j]? ≠ some (.ref l)
structure FinRep (K : PySem.W.Frag) (F H : Hp) (vs : List V) (sls : List Sl) (F' H' : Hp) (v : V) (r : Sl) (sls' : List Sl) : Prop where
  ext : Same F F'
  sub : Same F' H'
  new : ∀ b o, F' b = some o → F b = some o ∨ H b = none
  frm : ∀ b o, H b = some o → (∀ (i : Nat) (xs : List PyData), sls[i]? = some (.par xs) → vs[i]? ≠ some (.ref b)) → H' b = some o
  dom : ∀ b, H' b = none → H b = none
  par : ∀ (i : Nat) (xs : List PyData), sls[i]? = some (.par xs) → ∃ ys l us, sls'[i]? = some (.par ys) ∧ vs[i]? = some (.ref l) ∧ F' l = none ∧ H' l = some (.lst us) ∧ DpAll K F' us ys
  res : match r with
    | .val d => Dp K F' v d
    | .own xs => ∃ l us, v = .ref l ∧ F' l = none ∧ H l = none ∧ H' l = some (.lst us) ∧ DpAll K F' us xs
    | .par _ => False
def lift (K : PySem.W.Frag) (d : DSp) : Sp := fun vs H Q _ => ∃ F sls C, ArgRep K F H vs sls ∧ d sls C ∧ ∀ r sls' F' H' v, FinRep K F H vs sls F' H' v r sls' → C r sls' → Q v H'
def argsOf (n : Nat) (δ : DSt) : List Sl := (δ.take n).map fun o => o.getD (.val .none)
def startD (N : List Str) (sls : List Sl) : DSt := sls.map some ++ List.replicate (N.length - sls.length) none
def endsD (n : Nat) (C : Sl → List Sl → Prop) : DEnds := { nx := fun δ => C (.val .none) (argsOf n δ), rt := fun r δ => C r (argsOf n δ) }
section
variable {K : PySem.W.Frag} {F H : Hp}
theorem startD_get {N : List Str} {sls : List Sl} {i : Nat} {s : Sl} : (startD N sls)[i]? = some (some s) ↔ sls[i]? = some s := by
  unfold startD
  by_cases hi : i < sls.length
  · rw [List.getElem?_append_left (by simpa using hi), List.getElem?_map, List.getElem?_eq_getElem hi]
    simp
  · rw [List.getElem?_append_right (by simpa using hi), List.getElem?_replicate]
    have : sls[i]? = none := List.getElem?_eq_none (by omega)
    rw [this]
    constructor
    · intro h
      split at h <;> cases h
    · intro h; cases h
theorem start_get {N : List Str} {vs : List V} {i : Nat} {v : V} (h : vs[i]? = some v) : (L2.start N vs)[i]? = some (some v) := by
  unfold L2.start
  have hi : i < vs.length := (List.getElem?_eq_some_iff.mp h).1
  rw [List.getElem?_append_left (by simpa using hi), List.getElem?_map, h]
  rfl
theorem start_of {N : List Str} {vs : List V} {i : Nat} {v : V} (h : (L2.start N vs)[i]? = some (some v)) : vs[i]? = some v := by
  unfold L2.start at h
  by_cases hi : i < vs.length
  · rw [List.getElem?_append_left (by simpa using hi), List.getElem?_map] at h
    cases q : vs[i]? with
    | none => rw [q] at h; cases h
    | some x => rw [q] at h; cases h; rfl
  · rw [List.getElem?_append_right (by simpa using hi), List.getElem?_replicate] at h
    split at h <;> cases h
theorem ArgRep.begins {N : List Str} {vs : List V} {sls : List Sl} (A : ArgRep K F H vs sls) (hN : sls.length ≤ N.length) : RepS K F (L2.start N vs) (startD N sls) H := by
  have ow : ∀ i xs, OwnC (startD N sls) i xs → sls[i]? = some (.par xs) := fun i xs h => by
    rcases h with h | h
    · exact absurd (startD_get.mp h) (A.noown i xs)
    · exact startD_get.mp h
  refine ⟨?_, A.sub, fun i d h => ?_, fun i xs h => ?_, fun i j xs ys l ne h1 h2 h3 h4 => ?_⟩
  · unfold L2.start startD
    simp [A.len]
  · obtain ⟨v, h1, h2⟩ := A.val i d (startD_get.mp h)
    exact ⟨v, start_get h1, h2⟩
  · obtain ⟨l, us, h1, h2, h3, h4⟩ := A.par i xs (ow i xs h)
    exact ⟨l, us, start_get h1, h2, h3, h4⟩
  · exact A.sep i j xs ys l ne (ow i xs h1) (ow j ys h2) (start_of h3) (start_of h4)
theorem argsOf_get {n i : Nat} {δ : DSt} {s : Sl} (hi : i < n) (h : δ[i]? = some (some s)) : (argsOf n δ)[i]? = some s := by
  unfold argsOf
  rw [List.getElem?_map, List.getElem?_take_of_lt hi, h]
  rfl
/-- a def's body, behind its entry -/
theorem ArgRep.fin {N : List Str} {vs : List V} {sls : List Sl} (A : ArgRep K F H vs sls) (hN : sls.length ≤ N.length) {F' H' : Hp} {σ' : L2.St} {δ' : DSt} {v : V} {r : Sl}
    (R : RepS K F' σ' δ' H') (s : Stp (L2.start N vs) (startD N sls) F H σ' δ' F' H') (q : ResRep K H F' σ' δ' H' v r) : FinRep K F H vs sls F' H' v r (argsOf sls.length δ') := by
  have noL : ∀ l, ¬ OwnL (L2.start N vs) (startD N sls) l := fun l ⟨i, xs, h1, _⟩ => A.noown i xs (startD_get.mp h1)
  refine ⟨s.ext, R.sub, fun b o h => ?_, fun b o h no => s.frm b o h fun ⟨i, xs, h1, h2⟩ => ?_, s.dom, fun i xs h => ?_, ?_⟩
  · rcases s.new b o h with z | z | z
    · exact .inl z
    · exact .inr z
    · exact (noL b z).elim
  · rcases h1 with h1 | h1
    · exact A.noown i xs (startD_get.mp h1)
    · exact no i xs (startD_get.mp h1) (start_of h2)
  · obtain ⟨⟨ys, h1⟩, h2⟩ := s.par i xs (startD_get.mpr h)
    obtain ⟨l, us, h3, _, _, _⟩ := A.par i xs h
    rw [start_get h3] at h2
    obtain ⟨l', us', g1, g2, g3, g4⟩ := R.own i ys (.inr h1)
    rw [h2] at g1
    cases g1
    have hi : i < sls.length := (List.getElem?_eq_some_iff.mp h).1
    exact ⟨ys, l, us', argsOf_get hi h1, h3, g2, g3, g4⟩
  · cases r with
    | val d => exact q
    | own xs =>
      obtain ⟨l, us, h1, h2, h3, h4, h5⟩ := q
      refine ⟨l, us, h1, h2, ?_, h3, h4⟩
      rcases h5 with h5 | h5
      · rcases s.ownl l h5 with z | z
        · exact (noL l z).elim
        · exact z
      · exact h5.2
    | par _ => exact q
end
section
variable {P : Program} {w : World} {K : PySem.W.Frag} {mg : Str → Option Value} {base : Heap}
/-- THE RULE for a def that raises nothing -/
theorem fn_dd {x qual : Str} {st : Stmt} {f : Addr} {fd : FuncData} {N ps : List Str} {k : Nat} {d : DSp} {g : DTS} (Fn : Fun K x qual st f fd) (S : FnScope N ps (defScope st)) (len : ∀ sls C, d sls C → sls.length = ps.length)
    (hbody : ∀ (cdv : Value) (A : Around) (outer : List Env) (s : Shared) (H : Hp) (E : XK), Room k (A.deeper (envOfC qual (defScope st) s.heap.objs.size f cdv)) → SDs (cxOf CX0 P w K mg base N qual (defScope st) f cdv A outer s H E).nox (defBody st) g)
    (law : ∀ sls C, d sls C → g (endsD sls.length C) (startD N sls)) : FnOk P w K mg base CX0 (k + 1) f fd ps (lift K d) := by
  have hpl : ps.length ≤ N.length := by have := congrArg List.length S.pre; rw [List.length_take] at this; omega
  refine Fn.ok S (fun vs H Q E h => ?_) (fun cdv A outer s H vs Q E hr h => ?_)
  · obtain ⟨F, sls, C, A, hd, _⟩ := h
    rw [A.len]
    exact len sls C hd
  · obtain ⟨F, sls, C, AR, hd, fin⟩ := h
    obtain ⟨ts, p, q⟩ := hbody cdv A outer s H E hr
    have hN : sls.length ≤ N.length := by rw [len sls C hd]; exact hpl
    refine ⟨ts, p, q (AR.begins hN) (law sls C hd) ⟨fun F' σ' δ' H' R t c => ?_, fun _ _ _ _ _ _ c => c.elim, fun _ _ _ _ _ _ c => c.elim, fun F' σ' δ' H' v r R t z c => ?_⟩⟩
    · exact fin _ _ F' H' .non (AR.fin hN R t (r := .val .none) Dp.non) c
    · exact fin _ _ F' H' v (AR.fin hN R t z) c
end
/-! ### calls of such a def -/
def slOf (δ : DSt) : Ar → Option Sl
  | .val d => some (.val d)
  | .sl i => (cont δ i).map Sl.par
def slsOf (δ : DSt) : List Ar → Option (List Sl)
  | [] => some []
  | a :: as => match slOf δ a, slsOf δ as with
    | some s, some ss => some (s :: ss)
    | _, _ => none
def put1 (δ : DSt) : Ar → Sl → DSt
  | .sl i, .par ys => putC δ i ys
  | _, _ => δ
def putArgs (δ : DSt) : List Ar → List Sl → DSt
  | [], _ => δ
  | _ :: _, [] => δ
  | a :: as, s :: ss => putArgs (put1 δ a s) as ss
def slots : List Ar → List Nat
  | [] => []
  | .sl i :: as => i :: slots as
  | _ :: as => slots as
theorem slsOf_get {δ : DSt} : ∀ {as : List Ar} {ss : List Sl}, slsOf δ as = some ss → ss.length = as.length ∧ ∀ (i : Nat) (a : Ar), as[i]? = some a → ∃ s, ss[i]? = some s ∧ slOf δ a = some s
  | [], ss, h => by cases h; exact ⟨rfl, fun i a e => by simp at e⟩
  | a :: as, ss, h => by
    unfold slsOf at h
    split at h
    · rename_i s ss' h1 h2
      cases h
      obtain ⟨l, g⟩ := slsOf_get h2
      refine ⟨by simp [l], fun i b e => ?_⟩
      cases i with
      | zero =>
        simp at e
        subst e
        exact ⟨s, rfl, h1⟩
      | succ i =>
        simp at e
        obtain ⟨s', e1, e2⟩ := g i b e
        exact ⟨s', by simpa using e1, e2⟩
    · cases h
theorem slots_inj : ∀ {as : List Ar} {i j k : Nat}, (slots as).Nodup → as[i]? = some (.sl k) → as[j]? = some (.sl k) → i = j
  | [], i, j, k, _, h, _ => by simp at h
  | a :: as, 0, 0, k, _, _, _ => rfl
  | a :: as, 0, j + 1, k, nd, h1, h2 => by
    simp at h1 h2
    subst h1
    have : k ∈ slots as := by
      clear nd
      revert j
      induction as with
      | nil => intro j h2; simp at h2
      | cons b bs ih =>
        intro j h2
        cases j with
        | zero => simp at h2; subst h2; exact List.mem_cons_self
        | succ j =>
          simp at h2
          have := ih j h2
          cases b with
          | sl n => exact List.mem_cons_of_mem _ this
          | val d => exact this
    exact absurd this (List.nodup_cons.mp nd).1
  | a :: as, i + 1, 0, k, nd, h1, h2 => by
    exact (slots_inj (as := a :: as) (i := 0) (j := i + 1) nd h2 h1).symm
  | a :: as, i + 1, j + 1, k, nd, h1, h2 => by
    simp at h1 h2
    have nd2 : (slots as).Nodup := by
      cases a with
      | sl n => exact (List.nodup_cons.mp nd).2
      | val d => exact nd
    exact congrArg (· + 1) (slots_inj nd2 h1 h2)
termination_by as i j => (as.length, i)

theorem putC_own' {δ : DSt} {i : Nat} {ys zs : List PyData} {j : Nat} (h : OwnC (putC δ i ys) j zs) : (j = i ∧ zs = ys ∧ ∃ xs, OwnC δ i xs) ∨ (j ≠ i ∧ OwnC δ j zs) := by
  by_cases e : j = i
  · subst e
    refine .inl ⟨rfl, ?_⟩
    have : ∃ xs, OwnC δ j xs := by
      unfold putC at h
      split at h
      · exact ⟨_, .inl ‹_›⟩
      · exact ⟨_, .inr ‹_›⟩
      · exact ⟨_, h⟩
    obtain ⟨xs, hx⟩ := this
    rw [putC_own hx, if_pos rfl] at h
    exact ⟨h, xs, hx⟩
  · refine .inr ⟨e, ?_⟩
    unfold OwnC at h ⊢
    rw [putC_ne e] at h
    exact h
theorem putC_val' {δ : DSt} {i j : Nat} {ys : List PyData} {d : PyData} (q : (putC δ i ys)[j]? = some (some (.val d))) : δ[j]? = some (some (.val d)) := by
  by_cases h : ∃ xs, OwnC δ i xs
  · obtain ⟨xs, h⟩ := h
    exact putC_val h q
  · unfold putC at q
    split at q
    · exact (h ⟨_, .inl ‹_›⟩).elim
    · exact (h ⟨_, .inr ‹_›⟩).elim
    · exact q
theorem putC_par' {δ : DSt} {i j : Nat} {ys zs : List PyData} (q : δ[j]? = some (some (.par zs))) : ∃ ws, (putC δ i ys)[j]? = some (some (.par ws)) := by
  by_cases h : ∃ xs, OwnC δ i xs
  · obtain ⟨xs, h⟩ := h
    exact putC_par h q
  · refine ⟨zs, ?_⟩
    unfold putC
    split
    · exact (h ⟨_, .inl ‹_›⟩).elim
    · exact (h ⟨_, .inr ‹_›⟩).elim
    · exact q
theorem putC_ownl' {δ : DSt} {i j : Nat} {ys zs : List PyData} (q : (putC δ i ys)[j]? = some (some (.own zs))) : ∃ xs, δ[j]? = some (some (.own xs)) := by
  by_cases e : j = i
  · subst e
    unfold putC at q
    split at q
    · exact ⟨_, ‹_›⟩
    · rename_i xs h
      have hi : j < δ.length := (List.getElem?_eq_some_iff.mp h).1
      rw [List.getElem?_set_self hi] at q
      cases q
    · exact ⟨_, q⟩
  · rw [putC_ne e] at q
    exact ⟨_, q⟩
theorem putArgs_len : ∀ {as : List Ar} {ss : List Sl} {δ : DSt}, (putArgs δ as ss).length = δ.length
  | [], _, _ => by simp only [putArgs]
  | .sl i :: as, .par ys :: ss, δ => by simp only [putArgs, put1]; rw [putArgs_len, putC_len]
  | .sl i :: as, .val _ :: ss, δ => by simp only [putArgs, put1]; exact putArgs_len
  | .sl i :: as, .own _ :: ss, δ => by simp only [putArgs, put1]; exact putArgs_len
  | .val _ :: as, _ :: ss, δ => by simp only [putArgs, put1]; exact putArgs_len
  | _ :: _, [], δ => by simp only [putArgs]
theorem putArgs_val {j : Nat} {d : PyData} : ∀ {as : List Ar} {ss : List Sl} {δ : DSt}, (putArgs δ as ss)[j]? = some (some (.val d)) → δ[j]? = some (some (.val d))
  | [], _, _, h => by simp only [putArgs, put1] at h; exact h
  | .sl i :: as, .par ys :: ss, δ, h => by simp only [putArgs, put1] at h; exact putC_val' (putArgs_val h)
  | .sl i :: as, .val _ :: ss, δ, h => by simp only [putArgs, put1] at h; exact putArgs_val h
  | .sl i :: as, .own _ :: ss, δ, h => by simp only [putArgs, put1] at h; exact putArgs_val h
  | .val _ :: as, _ :: ss, δ, h => by simp only [putArgs, put1] at h; exact putArgs_val h
  | _ :: _, [], δ, h => by simp only [putArgs, put1] at h; exact h
theorem putArgs_par {j : Nat} : ∀ {as : List Ar} {ss : List Sl} {δ : DSt} {zs : List PyData}, δ[j]? = some (some (.par zs)) → ∃ ws, (putArgs δ as ss)[j]? = some (some (.par ws))
  | [], _, _, zs, h => by simp only [putArgs, put1]; exact ⟨zs, h⟩
  | .sl i :: as, .par ys :: ss, δ, zs, h => by
    simp only [putArgs, put1]
    obtain ⟨ws, h2⟩ := putC_par' (i := i) (ys := ys) h
    exact putArgs_par h2
  | .sl i :: as, .val _ :: ss, δ, zs, h => by simp only [putArgs, put1]; exact putArgs_par h
  | .sl i :: as, .own _ :: ss, δ, zs, h => by simp only [putArgs, put1]; exact putArgs_par h
  | .val _ :: as, _ :: ss, δ, zs, h => by simp only [putArgs, put1]; exact putArgs_par h
  | _ :: _, [], δ, zs, h => by simp only [putArgs, put1]; exact ⟨zs, h⟩
theorem putArgs_ownl {j : Nat} : ∀ {as : List Ar} {ss : List Sl} {δ : DSt} {zs : List PyData}, (putArgs δ as ss)[j]? = some (some (.own zs)) → ∃ xs, δ[j]? = some (some (.own xs))
  | [], _, _, zs, h => by simp only [putArgs, put1] at h; exact ⟨zs, h⟩
  | .sl i :: as, .par ys :: ss, δ, zs, h => by
    simp only [putArgs, put1] at h
    obtain ⟨xs, h2⟩ := putArgs_ownl h
    exact putC_ownl' h2
  | .sl i :: as, .val _ :: ss, δ, zs, h => by simp only [putArgs, put1] at h; exact putArgs_ownl h
  | .sl i :: as, .own _ :: ss, δ, zs, h => by simp only [putArgs, put1] at h; exact putArgs_ownl h
  | .val _ :: as, _ :: ss, δ, zs, h => by simp only [putArgs, put1] at h; exact putArgs_ownl h
  | _ :: _, [], δ, zs, h => by simp only [putArgs, put1] at h; exact ⟨zs, h⟩
theorem putArgs_own {j : Nat} {zs : List PyData} : ∀ {as : List Ar} {ss : List Sl} {δ : DSt}, OwnC (putArgs δ as ss) j zs →
    (∃ xs, OwnC δ j xs) ∧ ((∃ k : Nat, as[k]? = some (.sl j) ∧ ss[k]? = some (.par zs)) ∨ (OwnC δ j zs ∧ ∀ (k : Nat) (ys : List PyData), as[k]? = some (.sl j) → ss[k]? ≠ some (.par ys)))
  | [], _, _, h => by simp only [putArgs, put1] at h; exact ⟨⟨_, h⟩, .inr ⟨h, fun k ys e => by simp at e⟩⟩
  | .sl i :: as, .par ys :: ss, δ, h => by
    simp only [putArgs, put1] at h
    obtain ⟨⟨xs, h1⟩, h2⟩ := putArgs_own h
    have g1 : ∃ xs, OwnC δ j xs := by
      rcases putC_own' h1 with ⟨e, _, q⟩ | ⟨_, q⟩
      · rw [e]; exact q
      · exact ⟨_, q⟩
    refine ⟨g1, ?_⟩
    rcases h2 with ⟨k, e1, e2⟩ | ⟨h2, no⟩
    · exact .inl ⟨k + 1, by simpa using e1, by simpa using e2⟩
    · rcases putC_own' h2 with ⟨e, e2, q⟩ | ⟨e, q⟩
      · subst e; subst e2
        exact .inl ⟨0, rfl, rfl⟩
      · refine .inr ⟨q, fun k ys' e1 => ?_⟩
        cases k with
        | zero =>
          simp at e1
          exact (e e1.symm).elim
        | succ k => simpa using no k ys' (by simpa using e1)
  | .sl i :: as, .val _ :: ss, δ, h => by
    simp only [putArgs, put1] at h
    obtain ⟨h1, h2⟩ := putArgs_own h
    refine ⟨h1, ?_⟩
    rcases h2 with ⟨k, e1, e2⟩ | ⟨h2, no⟩
    · exact .inl ⟨k + 1, by simpa using e1, by simpa using e2⟩
    · refine .inr ⟨h2, fun k ys' e1 => ?_⟩
      cases k with
      | zero => simp
      | succ k => simpa using no k ys' (by simpa using e1)
  | .sl i :: as, .own _ :: ss, δ, h => by
    simp only [putArgs, put1] at h
    obtain ⟨h1, h2⟩ := putArgs_own h
    refine ⟨h1, ?_⟩
    rcases h2 with ⟨k, e1, e2⟩ | ⟨h2, no⟩
    · exact .inl ⟨k + 1, by simpa using e1, by simpa using e2⟩
    · refine .inr ⟨h2, fun k ys' e1 => ?_⟩
      cases k with
      | zero => simp
      | succ k => simpa using no k ys' (by simpa using e1)
  | .val _ :: as, s :: ss, δ, h => by
    simp only [putArgs, put1] at h
    obtain ⟨h1, h2⟩ := putArgs_own h
    refine ⟨h1, ?_⟩
    rcases h2 with ⟨k, e1, e2⟩ | ⟨h2, no⟩
    · exact .inl ⟨k + 1, by simpa using e1, by simpa using e2⟩
    · refine .inr ⟨h2, fun k ys' e1 => ?_⟩
      cases k with
      | zero => simp at e1
      | succ k => simpa using no k ys' (by simpa using e1)
  | _ :: _, [], δ, h => by simp only [putArgs, put1] at h; exact ⟨⟨_, h⟩, .inr ⟨h, fun k ys e => by simp⟩⟩
section
variable {X : Cx} {K : PySem.W.Frag} {F H : Hp} {σ : L2.St} {δ : DSt}
theorem ArsRep.get : ∀ {vs : List V} {as : List Ar} {i : Nat} {a : Ar}, ArsRep K F σ vs as → as[i]? = some a → ∃ v, vs[i]? = some v ∧ ArRep K F σ v a
  | [], [], _, _, _, e => by simp at e
  | v :: vs, a :: as, 0, b, h, e => by simp at e; subst e; exact ⟨v, rfl, h.1⟩
  | v :: vs, a :: as, i + 1, b, h, e => by
    obtain ⟨u, h1, h2⟩ := ArsRep.get (i := i) h.2 (by simpa using e)
    exact ⟨u, by simpa using h1, h2⟩
  | [], _ :: _, _, _, h, _ => h.elim
  | _ :: _, [], _, _, h, _ => h.elim
theorem ArsRep.length : ∀ {vs : List V} {as : List Ar}, ArsRep K F σ vs as → vs.length = as.length
  | [], [], _ => rfl
  | v :: vs, a :: as, h => congrArg (· + 1) (ArsRep.length h.2)
  | [], _ :: _, h => h.elim
  | _ :: _, [], h => h.elim
/-- what stands at place i of the arguments -/
theorem sls_at {vs : List V} {as : List Ar} {sls : List Sl} (r : ArsRep K F σ vs as) (e : slsOf δ as = some sls) {i : Nat} {s : Sl} (h : sls[i]? = some s) : ∃ a v, as[i]? = some a ∧ vs[i]? = some v ∧ ArRep K F σ v a ∧ slOf δ a = some s := by
  obtain ⟨l, g⟩ := slsOf_get e
  have hi : i < as.length := by rw [← l]; exact (List.getElem?_eq_some_iff.mp h).1
  obtain ⟨s', e1, e2⟩ := g i as[i] (List.getElem?_eq_getElem hi)
  rw [h] at e1
  cases e1
  obtain ⟨v, h1, h2⟩ := r.get (List.getElem?_eq_getElem hi)
  exact ⟨_, v, List.getElem?_eq_getElem hi, h1, h2, e2⟩
theorem slOf_par {a : Ar} {xs : List PyData} (h : slOf δ a = some (.par xs)) : ∃ j, a = .sl j ∧ cont δ j = some xs := by
  cases a with
  | val d => cases h
  | sl j =>
    refine ⟨j, rfl, ?_⟩
    have h : (cont δ j).map Sl.par = some (.par xs) := h
    cases q : cont δ j with
    | none => rw [q] at h; cases h
    | some ys => rw [q] at h; cases h; rfl
theorem RepS.args (R : RepS K F σ δ H) {vs : List V} {as : List Ar} {sls : List Sl} (r : ArsRep K F σ vs as) (e : slsOf δ as = some sls) (nd : (slots as).Nodup) : ArgRep K F H vs sls := by
  refine ⟨by rw [r.length, (slsOf_get e).1], R.sub, fun i d h => ?_, fun i xs h => ?_, fun i xs h => ?_, fun i j xs ys l ne h1 h2 h3 h4 => ?_⟩
  · obtain ⟨a, v, e1, e2, e3, e4⟩ := sls_at r e h
    cases a with
    | val d' => cases e4; exact ⟨v, e2, e3⟩
    | sl j =>
      have e4 : (cont δ j).map Sl.par = some (.val d) := e4
      cases q : cont δ j with
      | none => rw [q] at e4; cases e4
      | some ys => rw [q] at e4; cases e4
  · obtain ⟨a, v, e1, e2, e3, e4⟩ := sls_at r e h
    obtain ⟨j, rfl, hc⟩ := slOf_par e4
    obtain ⟨l, us, f1, f2, f3, f4⟩ := R.own j xs (cont_own hc)
    have e3 : σ[j]? = some (some v) := e3
    rw [f1] at e3
    cases e3
    exact ⟨l, us, e2, f2, f3, f4⟩
  · obtain ⟨a, v, e1, e2, e3, e4⟩ := sls_at r e h
    cases a with
    | val d' => cases e4
    | sl j =>
      have e4 : (cont δ j).map Sl.par = some (.own xs) := e4
      cases q : cont δ j with
      | none => rw [q] at e4; cases e4
      | some ys => rw [q] at e4; cases e4
  · obtain ⟨a, v, e1, e2, e3, e4⟩ := sls_at r e h1
    obtain ⟨b, w, f1, f2, f3, f4⟩ := sls_at r e h2
    obtain ⟨m, rfl, hc⟩ := slOf_par e4
    obtain ⟨n, rfl, hd⟩ := slOf_par f4
    rw [h3] at e2
    cases e2
    rw [h4] at f2
    cases f2
    have mn : m ≠ n := fun z => by
      subst z
      exact ne (slots_inj nd e1 f1)
    exact R.sep m n xs ys l mn (cont_own hc) (cont_own hd) e3 f3
theorem FinRep.back {vs : List V} {as : List Ar} {sls sls' : List Sl} {F' H' : Hp} {v : V} {r : Sl} (R : RepS K F σ δ H) (ra : ArsRep K F σ vs as) (e : slsOf δ as = some sls) (fin : FinRep K F H vs sls F' H' v r sls') :
    RepS K F' σ (putArgs δ as sls') H' ∧ Stp σ δ F H σ (putArgs δ as sls') F' H' := by
  have ownA : ∀ l, OwnA σ (putArgs δ as sls') l → OwnA σ δ l := fun l ⟨j, zs, h1, h2⟩ => by
    obtain ⟨⟨xs, h⟩, _⟩ := putArgs_own h1
    exact ⟨j, xs, h, h2⟩
  refine ⟨⟨by rw [putArgs_len]; exact R.len, fin.sub, fun i d h => ?_, fun j zs h => ?_, fun i j xs ys l ne h1 h2 => ?_⟩, ⟨fin.ext, fun b o h => ?_, fun b o h no => ?_, fin.dom, fun l h => .inl (ownA l h), fun i xs h => ⟨putArgs_par h, rfl⟩, fun l ⟨j, zs, h1, h2⟩ => ?_⟩⟩
  · obtain ⟨u, h1, h2⟩ := R.val i d (putArgs_val h)
    exact ⟨u, h1, Dp.mono fin.ext _ _ h2⟩
  · obtain ⟨⟨xs, h0⟩, h1⟩ := putArgs_own h
    rcases h1 with ⟨k, e1, e2⟩ | ⟨h1, no⟩
    · obtain ⟨s, g1, g2⟩ := (slsOf_get e).2 k _ e1
      have g2 : (cont δ j).map Sl.par = some s := g2
      cases q : cont δ j with
      | none => rw [q] at g2; cases g2
      | some ys =>
        rw [q] at g2
        cases g2
        obtain ⟨zs', l, us, f1, f2, f3, f4, f5⟩ := fin.par k ys g1
        rw [e2] at f1
        cases f1
        obtain ⟨u, k1, k2⟩ := ra.get e1
        rw [f2] at k1
        cases k1
        exact ⟨l, us, k2, f3, f4, f5⟩
    · obtain ⟨l, us, f1, f2, f3, f4⟩ := R.own j zs h1
      refine ⟨l, us, f1, ?_, fin.frm l _ f3 fun i ys hi hv => ?_, Dp.monoAll fin.ext _ _ f4⟩
      · cases qF : F' l with
        | none => rfl
        | some o =>
          rcases fin.new l o qF with z | z
          · rw [f2] at z; cases z
          · rw [f3] at z; cases z
      · obtain ⟨a, u, g1, g2, g3, g4⟩ := sls_at ra e hi
        obtain ⟨m, rfl, hc⟩ := slOf_par g4
        rw [hv] at g2
        cases g2
        by_cases mj : m = j
        · subst mj
          obtain ⟨ys', _, _, f, _⟩ := fin.par i ys hi
          exact no i ys' g1 f
        · exact R.sep m j ys zs l mj (cont_own hc) h1 g3 f1
  · obtain ⟨⟨x1, g1⟩, _⟩ := putArgs_own h1
    obtain ⟨⟨x2, g2⟩, _⟩ := putArgs_own h2
    exact R.sep i j x1 x2 l ne g1 g2
  · rcases fin.new b o h with z | z
    · exact .inl z
    · exact .inr (.inl z)
  · refine fin.frm b o h fun i xs hi hv => ?_
    obtain ⟨a, u, g1, g2, g3, g4⟩ := sls_at ra e hi
    obtain ⟨m, rfl, hc⟩ := slOf_par g4
    rw [hv] at g2
    cases g2
    exact no ⟨m, xs, cont_own hc, g3⟩
  · obtain ⟨xs, h⟩ := putArgs_ownl h1
    exact .inl ⟨j, xs, h, h2⟩

def dCall (d : DSp) (f : DTA) : DTE := fun δ C => f δ fun as δ1 => match slsOf δ1 as with
  | some sls => (slots as).Nodup ∧ d sls fun r sls' => match r with
    | .val x => C (.val x) (putArgs δ1 as sls')
    | .own xs => C (.val (.list xs)) (putArgs δ1 as sls')
    | .par _ => False
  | none => False
def dCallN (d : DSp) (f : DTA) : DSt → (List PyData → DSt → Prop) → Prop := fun δ C => f δ fun as δ1 => match slsOf δ1 as with
  | some sls => (slots as).Nodup ∧ d sls fun r sls' => match r with
    | .own xs => C xs (putArgs δ1 as sls')
    | _ => False
  | none => False
theorem call_read {d : DSp} {vs : List V} {as : List Ar} {sls : List Sl} {C : Sl → List Sl → Prop} {Q : VK} {E : XK} (R : RepS K F σ δ H) (ra : ArsRep K F σ vs as) (e : slsOf δ as = some sls) (nd : (slots as).Nodup) (c : d sls C)
    (k : ∀ r sls' F' H' v, RepS K F' σ (putArgs δ as sls') H' → Stp σ δ F H σ (putArgs δ as sls') F' H' → FinRep K F H vs sls F' H' v r sls' → C r sls' → Q v H') : lift K d vs H Q E := by
  refine ⟨F, sls, C, R.args ra e nd, c, fun r sls' F' H' v fin cc => ?_⟩
  obtain ⟨R2, s2⟩ := fin.back R ra e
  exact k r sls' F' H' v R2 s2 fin cc
/-- an owned list that came out of a call stands apart -/
theorem FinRep.own {vs : List V} {as : List Ar} {sls sls' : List Sl} {F' H' : Hp} {v : V} {xs : List PyData} (R : RepS K F σ δ H) (fin : FinRep K F H vs sls F' H' v (.own xs) sls') :
    ∃ l us, v = .ref l ∧ F' l = none ∧ H l = none ∧ ¬ OwnA σ (putArgs δ as sls') l ∧ H' l = some (.lst us) ∧ DpAll K F' us xs := by
  obtain ⟨l, us, h1, h2, h3, h4, h5⟩ := fin.res
  refine ⟨l, us, h1, h2, h3, fun ⟨j, zs, q1, q2⟩ => ?_, h4, h5⟩
  obtain ⟨⟨ys, q⟩, _⟩ := putArgs_own q1
  obtain ⟨l', us', f1, _, f3, _⟩ := R.own j ys q
  rw [q2] at f1
  cases f1
  rw [h3] at f3
  cases f3
variable {f : Addr} {fd : FuncData} {ps : List Str} {k : Nat} {CX : CXT} {E : XK} {x : Str} {p pos : Pos} {e : Expr} {es : List Expr} {d : DSp} {g : DTA}
theorem callCore {ta : TA} (q : ∀ {F : Hp} {σ : L2.St} {δ : DSt} {H : Hp} {Q : List V → Hp → Prop} {C : List Ar → DSt → Prop}, RepS X.K F σ δ H → g δ C →
    (∀ as δ' F' H' vs, RepS X.K F' σ δ' H' → Stp σ δ F H σ δ' F' H' → ArsRep X.K F' σ vs as → C as δ' → Q vs H') → ta σ H Q) {F : Hp} {σ : L2.St} {δ : DSt} {H : Hp} {Q : VK} {C : Ar → DSt → Prop} (R : RepS X.K F σ δ H) (c : dCall d g δ C)
    (k : ∀ a δ' F' H' v, RepS X.K F' σ δ' H' → Stp σ δ F H σ δ' F' H' → ArRep X.K F' σ v a → C a δ' → Q v H') : tCall (lift X.K d) [] E ta σ H Q := by
  refine q R c fun as δ1 F1 H1 vs R1 s1 r1 c1 => ?_
  rw [List.append_nil]
  split at c1
  · rename_i sls hs
    refine call_read R1 r1 hs c1.1 c1.2 fun r sls' F' H' v R2 s2 fin cc => ?_
    cases r with
    | val x => exact k (.val x) _ _ _ _ R2 (s1.trans s2) fin.res cc
    | own xs =>
      obtain ⟨l, us, rfl, h2, h3, h4, h5, h6⟩ := fin.own (as := as) R1
      obtain ⟨R3, sF, hD⟩ := R2.freezeNew h2 h4 h5 h6
      have s12 := s1.trans s2
      refine k (.val (.list xs)) _ _ _ _ R3 ⟨s12.ext.trans sF, fun b o eb => ?_, s12.frm, s12.dom, s12.own, s12.par, s12.ownl⟩ hD cc
      by_cases hb : b = l
      · subst hb; exact .inr (.inl (s1.dom _ h3))
      · rw [upd_ne hb] at eb; exact s12.new b o eb
    | par _ => exact cc.elim
  · exact c1.elim
theorem callCoreN {ta : TA} (q : ∀ {F : Hp} {σ : L2.St} {δ : DSt} {H : Hp} {Q : List V → Hp → Prop} {C : List Ar → DSt → Prop}, RepS X.K F σ δ H → g δ C →
    (∀ as δ' F' H' vs, RepS X.K F' σ δ' H' → Stp σ δ F H σ δ' F' H' → ArsRep X.K F' σ vs as → C as δ' → Q vs H') → ta σ H Q) {F : Hp} {σ : L2.St} {δ : DSt} {H : Hp} {Q : VK} {C : List PyData → DSt → Prop} (R : RepS X.K F σ δ H) (c : dCallN d g δ C)
    (k : ∀ xs δ' F' H' l us, RepS X.K F' σ δ' H' → Stp σ δ F H σ δ' F' H' → F' l = none → H l = none → ¬ OwnA σ δ' l → H' l = some (.lst us) → DpAll X.K F' us xs → C xs δ' → Q (.ref l) H') : tCall (lift X.K d) [] E ta σ H Q := by
  refine q R c fun as δ1 F1 H1 vs R1 s1 r1 c1 => ?_
  rw [List.append_nil]
  split at c1
  · rename_i sls hs
    refine call_read R1 r1 hs c1.1 c1.2 fun r sls' F' H' v R2 s2 fin cc => ?_
    cases r with
    | val x => exact cc.elim
    | own xs =>
      obtain ⟨l, us, rfl, h2, h3, h4, h5, h6⟩ := fin.own (as := as) R1
      exact k xs _ _ _ l us R2 (s1.trans s2) h2 (s1.dom _ h3) h4 h5 h6 cc
    | par _ => exact cc.elim
  · exact c1.elim
theorem pd_call (G : FnOk X.prog X.w X.K X.mg X.base CX k f fd ps (lift X.K d)) (hr : Room k X.A) (hg : Gl X x) (hm : X.mg x = some (.ref f)) (hk : PySem.W.keepIn X.K (.ref f) = true) (hb : Binds X.K fd ps []) (hx : Passes CX X E)
    (ha : PDA X (e :: es) g) (hdb : (x == ("__debug__" : Str)) = false := by decide) (he : starEach (e :: es) X.env = (false, eval e X.env) :: starEach es X.env := by rfl) (hpl : (backTo pos (starEach es X.env)).any (·.1) = false := by rfl) :
    PD X (.Call (.Name x p) (e :: es) [] pos) (dCall d g) := by
  obtain ⟨ta, pa, q⟩ := ha
  exact ⟨_, pe_call G hr hg hm hk hb .nil hx pa hdb he hpl, fun R c k => callCore q R c k⟩
theorem pdn_call (G : FnOk X.prog X.w X.K X.mg X.base CX k f fd ps (lift X.K d)) (hr : Room k X.A) (hg : Gl X x) (hm : X.mg x = some (.ref f)) (hk : PySem.W.keepIn X.K (.ref f) = true) (hb : Binds X.K fd ps []) (hx : Passes CX X E)
    (ha : PDA X (e :: es) g) (hdb : (x == ("__debug__" : Str)) = false := by decide) (he : starEach (e :: es) X.env = (false, eval e X.env) :: starEach es X.env := by rfl) (hpl : (backTo pos (starEach es X.env)).any (·.1) = false := by rfl) :
    PDN X (.Call (.Name x p) (e :: es) [] pos) (dCallN d g) := by
  obtain ⟨ta, pa, q⟩ := ha
  exact ⟨_, pe_call G hr hg hm hk hb .nil hx pa hdb he hpl, fun R c k => callCoreN q R c k⟩
theorem pd_call0 (G : FnOk X.prog X.w X.K X.mg X.base CX k f fd ps (lift X.K d)) (hr : Room k X.A) (hg : Gl X x) (hm : X.mg x = some (.ref f)) (hk : PySem.W.keepIn X.K (.ref f) = true) (hb : Binds X.K fd ps []) (hx : Passes CX X E)
    (hdb : (x == ("__debug__" : Str)) = false := by decide) : PD X (.Call (.Name x p) [] [] pos) (dCall d dNil) := by
  obtain ⟨ta, pa, q⟩ := pda_nil (X := X)
  exact ⟨_, pe_call0 G hr hg hm hk hb .nil hx hdb, fun {F σ δ H Q C} R c k => callCore (ta := tNil) (g := dNil) (fun R c k => k [] _ _ _ _ R .refl trivial c) R c k⟩
theorem pdn_call0 (G : FnOk X.prog X.w X.K X.mg X.base CX k f fd ps (lift X.K d)) (hr : Room k X.A) (hg : Gl X x) (hm : X.mg x = some (.ref f)) (hk : PySem.W.keepIn X.K (.ref f) = true) (hb : Binds X.K fd ps []) (hx : Passes CX X E)
    (hdb : (x == ("__debug__" : Str)) = false := by decide) : PDN X (.Call (.Name x p) [] [] pos) (dCallN d dNil) := by
  obtain ⟨ta, pa, q⟩ := pda_nil (X := X)
  exact ⟨_, pe_call0 G hr hg hm hk hb .nil hx hdb, fun {F σ δ H Q C} R c k => callCoreN (ta := tNil) (g := dNil) (fun R c k => k [] _ _ _ _ R .refl trivial c) R c k⟩
/-! ### calls by the parameters' names alone, in their order -/
structure PDK (X : Cx) (kws : List Keyword) (f : DTA) : Prop where
  ex : ∃ ta, PK X kws ta ∧ ∀ {F : Hp} {σ : L2.St} {δ : DSt} {H : Hp} {Q : List V → Hp → Prop} {C : List Ar → DSt → Prop}, RepS X.K F σ δ H → f δ C →
    (∀ as δ' F' H' vs, RepS X.K F' σ δ' H' → Stp σ δ F H σ δ' F' H' → ArsRep X.K F' σ vs as → C as δ' → Q vs H') → ta σ H Q
theorem pdk_nil : PDK X [] dNil := ⟨_, pk_nil, fun R c k => k [] _ _ _ _ R .refl trivial c⟩
theorem pdk_cons {e : Expr} {kws : List Keyword} {nm : Option Str} {kpos : Pos} {f : DTE} {g : DTA} (h1 : PD X e f) (h2 : PDK X kws g) : PDK X (⟨nm, e, kpos⟩ :: kws) (dCons f g) := by
  obtain ⟨te, p1, q1⟩ := h1
  obtain ⟨ta, p2, q2⟩ := h2
  refine ⟨_, pk_cons p1 p2, fun R c k => ?_⟩
  refine q1 R c fun a δ1 F1 H1 v R1 s1 r1 c1 => ?_
  refine q2 R1 c1 fun as δ2 F2 H2 vs R2 s2 r2 c2 => ?_
  exact k (a :: as) _ _ _ _ R2 (s1.trans s2) ⟨r1.mono s2.ext, r2⟩ c2
theorem pd_callK {kws : List Keyword} (G : FnOk X.prog X.w X.K X.mg X.base CX k f fd ps (lift X.K d)) (hr : Room k X.A) (hg : Gl X x) (hm : X.mg x = some (.ref f)) (hk : PySem.W.keepIn X.K (.ref f) = true)
    (hb : ∀ (s : Shared) (us : List Value), X.K.In s.heap → us.length = ps.length → BindsTo s fd ⟨[], ps.zip us⟩ (ps.zip us)) (hx : Passes CX X E) (hkw : PDK X kws g)
    (hall : (backToKw pos (keywordEach kws X.env)).all (·.1.isSome) = true := by rfl) (hks : (backToKw pos (keywordEach kws X.env)).filterMap (·.1) = ps := by rfl) (hdb : (x == ("__debug__" : Str)) = false := by decide)
    (hpl : ((backTo pos (starEach [] X.env)).any (·.1) || (backToKw pos (keywordEach kws X.env)).any (·.1.isNone)) = false := by rfl) :
    PD X (.Call (.Name x p) [] kws pos) (dCall d g) := by
  obtain ⟨ta, pa, q⟩ := hkw
  refine ⟨tCall (lift X.K d) [] E ta, ⟨fun pins s σ H Q I h => ?_⟩, fun R c k => callCore q R c k⟩
  refine wpAny_Call_Name_kw (ld_glob I hg hm ?_ hdb)
  refine PySem.W.callWith_KW0 (h₀ := X.base) I.ok.mod.kin hk hall ?_ hpl
  refine thn (pa.run pos pins s σ H _ I h) fun us s2 ⟨zs, H2, I2, rz, q2⟩ => ⟨I2.kIn, ?_⟩
  rw [hks]
  have q2 : lift X.K d (zs ++ []) H2 Q E := q2
  rw [List.append_nil] at q2
  have hl : us.length = ps.length := by rw [← rz.length]; exact G.len _ _ _ _ q2
  refine wpAny_call (codeAny_mono (G.run X.A X.stack s2 H2 ⟨[], ps.zip us⟩ us zs Q E hr I2.env0 (hb s2 us I2.kIn hl) rz q2) fun r s' hq => ?_)
  cases r with
  | error e => exact hx pins σ H2 s2 e s' I2 hq
  | ok fl =>
    cases fl with
    | ret u => exact I2.after hq
    | _ => exact False.elim hq
end
end DD

namespace DD
open PySem PySem.Spec PyProof.Rows L2
/-- the def x stands in the module and keeps its promise -/
structure Ok (P : Program) (w : World) (K : PySem.W.Frag) (mg : Str → Option Value) (base : Heap) (x : Str) (k : Nat) (ps : List Str) (d : DSp) : Prop where
  ex : ∃ (f : Addr) (fd : FuncData), mg x = some (.ref f) ∧ PySem.W.keepIn K (.ref f) = true ∧ Binds K fd ps [] ∧ FnOk P w K mg base CX0 k f fd ps (lift K d)
structure OkK (P : Program) (w : World) (K : PySem.W.Frag) (mg : Str → Option Value) (base : Heap) (x : Str) (k : Nat) (ps : List Str) (d : DSp) : Prop where
  ex : ∃ (f : Addr) (fd : FuncData), mg x = some (.ref f) ∧ PySem.W.keepIn K (.ref f) = true ∧ (∀ (s : Shared) (us : List Value), K.In s.heap → us.length = ps.length → BindsTo s fd ⟨[], ps.zip us⟩ (ps.zip us)) ∧ FnOk P w K mg base CX0 k f fd ps (lift K d)
/-- a def of the text, by name -/
structure DefAt (K : PySem.W.Frag) (mg : Str → Option Value) (x : Str) (st : Stmt) : Prop where
  ex : ∃ (f : Addr) (fd : FuncData), mg x = some (.ref f) ∧ Fun K x x st f fd
section
variable {X : Cx} {ps : List Str} {k m : Nat} {x : Str} {p pos : Pos} {e : Expr} {es : List Expr} {d : DSp} {g : DTA}
theorem pc_ok (G : Ok X.prog X.w X.K X.mg X.base x k ps d) (hr : Room m X.A) (hg : Gl X x) (hkm : k ≤ m)
    (ha : PDA X (e :: es) g) (hdb : (x == ("__debug__" : Str)) = false := by decide) (he : starEach (e :: es) X.env = (false, eval e X.env) :: starEach es X.env := by rfl) (hpl : (backTo pos (starEach es X.env)).any (·.1) = false := by rfl) :
    PD X (.Call (.Name x p) (e :: es) [] pos) (dCall d g) := by
  obtain ⟨f, fd, hm, hk, hb, G⟩ := G
  exact pd_call (E := E0) G (hr.mono hkm) hg hm hk hb pass0 ha hdb he hpl
theorem pcn_ok (G : Ok X.prog X.w X.K X.mg X.base x k ps d) (hr : Room m X.A) (hg : Gl X x) (hkm : k ≤ m)
    (ha : PDA X (e :: es) g) (hdb : (x == ("__debug__" : Str)) = false := by decide) (he : starEach (e :: es) X.env = (false, eval e X.env) :: starEach es X.env := by rfl) (hpl : (backTo pos (starEach es X.env)).any (·.1) = false := by rfl) :
    PDN X (.Call (.Name x p) (e :: es) [] pos) (dCallN d g) := by
  obtain ⟨f, fd, hm, hk, hb, G⟩ := G
  exact pdn_call (E := E0) G (hr.mono hkm) hg hm hk hb pass0 ha hdb he hpl
theorem pc_ok0 (G : Ok X.prog X.w X.K X.mg X.base x k ps d) (hr : Room m X.A) (hg : Gl X x) (hkm : k ≤ m) (hdb : (x == ("__debug__" : Str)) = false := by decide) : PD X (.Call (.Name x p) [] [] pos) (dCall d dNil) := by
  obtain ⟨f, fd, hm, hk, hb, G⟩ := G
  exact pd_call0 (E := E0) G (hr.mono hkm) hg hm hk hb pass0 hdb
theorem pcn_ok0 (G : Ok X.prog X.w X.K X.mg X.base x k ps d) (hr : Room m X.A) (hg : Gl X x) (hkm : k ≤ m) (hdb : (x == ("__debug__" : Str)) = false := by decide) : PDN X (.Call (.Name x p) [] [] pos) (dCallN d dNil) := by
  obtain ⟨f, fd, hm, hk, hb, G⟩ := G
  exact pdn_call0 (E := E0) G (hr.mono hkm) hg hm hk hb pass0 hdb
theorem pck_ok {kws : List Keyword} (G : OkK X.prog X.w X.K X.mg X.base x k ps d) (hr : Room m X.A) (hg : Gl X x) (hkm : k ≤ m) (hkw : PDK X kws g)
    (hall : (backToKw pos (keywordEach kws X.env)).all (·.1.isSome) = true := by rfl) (hks : (backToKw pos (keywordEach kws X.env)).filterMap (·.1) = ps := by rfl) (hdb : (x == ("__debug__" : Str)) = false := by decide)
    (hpl : ((backTo pos (starEach [] X.env)).any (·.1) || (backToKw pos (keywordEach kws X.env)).any (·.1.isNone)) = false := by rfl) :
    PD X (.Call (.Name x p) [] kws pos) (dCall d g) := by
  obtain ⟨f, fd, hm, hk, hb, G⟩ := G
  exact pd_callK (E := E0) G (hr.mono hkm) hg hm hk hb pass0 hkw hall hks hdb hpl
end
section
variable {P : Program} {w : World} {K : PySem.W.Frag} {mg : Str → Option Value} {base : Heap}
theorem ok_mk {x : Str} {st : Stmt} {N ps : List Str} {k : Nat} {d : DSp} {g : DTS} (D : DefAt K mg x st) (S : FnScope N ps (defScope st)) (len : ∀ sls C, d sls C → sls.length = ps.length)
    (hb : ∀ (kV doc pm : Value) (an : Option Addr) (cdv ct : Value) (us : List Value), us.length = ps.length → bindArgs (PySem.W.fnOf x x (defArgs st) (defBody st) (defScope st) .none kV doc pm an cdv ct) ⟨us, []⟩ = pure (ps.zip us))
    (hbody : ∀ (f : Addr) (cdv : Value) (A : Around) (outer : List Env) (s : Shared) (H : Hp) (E : XK), Room k (A.deeper (envOfC x (defScope st) s.heap.objs.size f cdv)) → SDs (cxOf CX0 P w K mg base N x (defScope st) f cdv A outer s H E).nox (defBody st) g)
    (law : ∀ sls C, d sls C → g (endsD sls.length C) (startD N sls)) : Ok P w K mg base x (k + 1) ps d := by
  obtain ⟨f, fd, hm, F⟩ := D
  exact ⟨f, fd, hm, F.kp, F.binds hb, fn_dd F S len (hbody f) law⟩
theorem okk_mk {x : Str} {st : Stmt} {N ps : List Str} {k : Nat} {d : DSp} {g : DTS} (D : DefAt K mg x st) (S : FnScope N ps (defScope st)) (len : ∀ sls C, d sls C → sls.length = ps.length)
    (hb : ∀ (kV doc pm : Value) (an : Option Addr) (cdv ct : Value) (us : List Value), us.length = ps.length → bindArgs (PySem.W.fnOf x x (defArgs st) (defBody st) (defScope st) .none kV doc pm an cdv ct) ⟨[], ps.zip us⟩ = pure (ps.zip us))
    (hbody : ∀ (f : Addr) (cdv : Value) (A : Around) (outer : List Env) (s : Shared) (H : Hp) (E : XK), Room k (A.deeper (envOfC x (defScope st) s.heap.objs.size f cdv)) → SDs (cxOf CX0 P w K mg base N x (defScope st) f cdv A outer s H E).nox (defBody st) g)
    (law : ∀ sls C, d sls C → g (endsD sls.length C) (startD N sls)) : OkK P w K mg base x (k + 1) ps d := by
  obtain ⟨f, fd, hm, F⟩ := D
  have G := fn_dd F S len (hbody f) law
  obtain ⟨oc, od, kV, doc, pm, an, cdv, ct, osl, rfl, lk, hcd⟩ := F.ex
  exact ⟨f, _, hm, F.kp, fun s us _ hl => .of_eq (hb kV doc pm an cdv ct us hl), G⟩
/-- the goal that k_head leaves, from the law's promise; what is known of loose names is handed on -/
theorem walk_X {l : PySem.W.OpenLaw} {n k : Nat} {q : Program} {loose : List Str} {XP : (Str → Option Value) → Heap → Prop} {YP : World → Heap → Prop} {d : DefRec} {K : Params → PySem.W.Frag} {sp : DSp} {x : Str}
    (hn : l.most = some n) (hn2 : n ≤ sizeLine) (hdf : d.params.defaults = []) (hr : Room k callerA)
    (hY : ∀ (w : World) (h : Heap), YP w h → (K w.params).In h)
    (F : ∀ (w : World) (mg : Str → Option Value) (fa : Addr) (h : Heap), (K w.params).In h → h.Ns mainGlobals mg → XP mg h → mg d.name = some (.ref fa) →
      ∃ fd : FuncData, (∀ (s : Shared) (u : Value), BindsTo s fd ⟨[u], []⟩ [(x, u)]) ∧
        ∀ base : Heap, (K w.params).In base → base.Ns mainGlobals mg → FnOk l.prog w (K w.params) mg base CX0 k fa fd [x] (lift (K w.params) sp))
    (hsp : ∀ ns : List Int, ns.length ≤ n → sp [.val (.list (ns.map PyData.int))] fun r _ => r = .val (.bool true)) :
    PySem.W.WalkO q loose XP YP l.row.toRowW d [] (fun f vs => PySem.call f vs) := by
  refine Att.attach_call hn hdf fun w s0 s1 mg mb fa o pm cd doc a vs ns G Y ho hd hcd hmg hobj hints hlen hg => ?_
  have KX := hY w _ Y
  obtain ⟨fd, hb, hF⟩ := F w mg fa _ KX G.T.g G.X hmg
  refine law_call KX G.T.g G.T.b G.T.builtins G.T.nolimit hg hobj hints (Nat.le_trans hlen hn2) hr hF hb (fun H hO hS => ?_) fun _ _ _ h => h.elim
  refine ⟨H, _, _, ⟨rfl, Same.refl _, fun i y e => ?_, fun i xs e => ?_, fun i xs e => ?_, fun i j xs ys l _ e => ?_⟩, hsp ns hlen, fun r sls' F' H' v fin e => ?_⟩
  · cases i with
    | zero => cases e; exact ⟨_, rfl, .lst hS (DpAll.ints ns)⟩
    | succ i => simp at e
  · cases i with
    | zero => cases e
    | succ i => simp at e
  · cases i with
    | zero => cases e
    | succ i => simp at e
  · cases i with
    | zero => cases e
    | succ i => simp at e
  · subst e
    cases fin.res
    rfl
end
end DD

namespace DD
open PySem PySem.Spec PyProof.Rows L2
/-! ### how a body is read -/
/-- one statement, what follows held back -/
theorem seq_one {g h : DTS} {D : DEnds} {δ : DSt} (k : ∀ N : DSt → Prop, (∀ δ', h D δ' → N δ') → g { D with nx := N } δ) : dSeq g h D δ := k (h D) fun _ x => x
/-- one statement, then P -/
theorem seq_cut {g h : DTS} {D : DEnds} {δ : DSt} (P : DSt → Prop) (k : ∀ N : DSt → Prop, (∀ δ', P δ' → N δ') → g { D with nx := N } δ) (tail : ∀ δ', P δ' → h D δ') : dSeq g h D δ := k (h D) tail
theorem forL_inv {g : DTG} {b : DTS} {D : DEnds} (P : List PyData → DSt → Prop)
    (step : ∀ d ds δ, P (d :: ds) δ → ∀ N : DSt → Prop, (∀ δ', P ds δ' → N δ') → g d δ fun δ1 => b { nx := N, ct := N, bk := D.nx, rt := D.rt } δ1)
    (fin : ∀ δ, P [] δ → D.nx δ) : ∀ its δ, P its δ → dForL g b its D δ
  | [], δ, h => fin δ h
  | d :: ds, δ, h => step d ds δ h _ fun δ' h' => forL_inv P step fin ds δ' h'
theorem rangeD_at {lo : Int} {n k : Nat} (h : k < (rangeD lo n).length) : (rangeD lo n)[k] = .int (lo + (k : Nat)) := by
  have e : (rangeD lo n)[k]? = some (.int (lo + (k : Nat))) := by
    have hk : k < n := by
      have := h
      unfold rangeD at this
      simpa using this
    unfold rangeD
    rw [List.getElem?_map, List.getElem?_range hk]
    rfl
  rw [List.getElem?_eq_getElem h] at e
  exact Option.some.inj e
/-- over the ints from lo on, n of them; P by the number of turns that are done -/
theorem forR_inv {g : DTG} {b : DTS} {D : DEnds} (lo : Int) (n : Nat) (P : Nat → DSt → Prop)
    (step : ∀ (k : Nat) δ, k < n → P k δ → ∀ N : DSt → Prop, (∀ δ', P (k + 1) δ' → N δ') → g (.int (lo + (k : Nat))) δ fun δ1 => b { nx := N, ct := N, bk := D.nx, rt := D.rt } δ1)
    (fin : ∀ δ, P n δ → D.nx δ) {δ : DSt} (h : P 0 δ) : dForL g b (rangeD lo n) D δ := by
  have key : ∀ m k δ, k + m = n → P k δ → dForL g b ((rangeD lo n).drop k) D δ := by
    intro m
    induction m with
    | zero =>
      intro k δ e h
      have : (rangeD lo n).length ≤ k := by unfold rangeD; simp; omega
      rw [List.drop_eq_nil_of_le this]
      have e : k = n := by omega
      subst e
      exact fin δ h
    | succ m ih =>
      intro k δ e h
      have hk : k < n := by omega
      have hl : k < (rangeD lo n).length := by unfold rangeD; simp; exact hk
      rw [List.drop_eq_getElem_cons hl]
      have e2 : (rangeD lo n)[k] = .int (lo + (k : Nat)) := rangeD_at hl
      rw [e2]
      exact step k δ hk h _ fun δ' h' => ih (k + 1) δ' (by omega) h'
  have := key n 0 δ (by omega) h
  rw [List.drop_zero] at this
  exact this
theorem while_inv {c : DTT} {b : DTS} {D : DEnds} (P : Nat → DSt → Prop)
    (step : ∀ n δ, P n δ → ∀ N : DSt → Prop, (∀ m δ', m < n → P m δ' → N δ') → c δ fun t δ1 => (t = true → b { nx := N, ct := N, bk := D.nx, rt := D.rt } δ1) ∧ (t = false → D.nx δ1))
    {n : Nat} {δ : DSt} (h : P n δ) : dWhile c b D δ := by
  have key : ∀ f n δ, n + 1 ≤ f → P n δ → dWhileN c b f D δ := by
    intro f
    induction f with
    | zero => intro n δ e _; omega
    | succ f ih => intro n δ e h; exact step n δ h _ fun m δ' hm h' => ih m δ' (by omega) h'
  exact ⟨n + 1, key _ n δ (Nat.le_refl _) h⟩
theorem lcL_inv {g : DTG} {tt : DTT} {te : DTE} {vs : List Nat} {C : List PyData → DSt → Prop} (P : List PyData → List PyData → DSt → Prop)
    (step : ∀ d ds acc δ, P (d :: ds) acc δ → ∀ N : List PyData → DSt → Prop, (∀ acc' δ', P ds acc' δ' → N acc' δ') → g d (wipeD δ vs) fun δ2 => tt δ2 fun b δ3 => (b = true → te δ3 fun a δ4 => match a with
      | .val y => acc.length < sizeLine ∧ noOwnB δ4 vs = true ∧ N (acc ++ [y]) (restD δ δ4 vs)
      | _ => False) ∧ (b = false → noOwnB δ3 vs = true ∧ N acc (restD δ δ3 vs)))
    (fin : ∀ acc δ, P [] acc δ → C acc δ) : ∀ its acc δ, P its acc δ → dLcL g tt te vs its acc δ C
  | [], acc, δ, h => fin acc δ h
  | d :: ds, acc, δ, h => step d ds acc δ h (fun acc' δ' => dLcL g tt te vs ds acc' δ' C) fun acc' δ' h' => lcL_inv P step fin ds acc' δ' h'
theorem lcR_inv {g : DTG} {tt : DTT} {te : DTE} {vs : List Nat} {C : List PyData → DSt → Prop} (lo : Int) (n : Nat) (P : Nat → List PyData → DSt → Prop)
    (step : ∀ (k : Nat) acc δ, k < n → P k acc δ → ∀ N : List PyData → DSt → Prop, (∀ acc' δ', P (k + 1) acc' δ' → N acc' δ') → g (.int (lo + (k : Nat))) (wipeD δ vs) fun δ2 => tt δ2 fun b δ3 => (b = true → te δ3 fun a δ4 => match a with
      | .val y => acc.length < sizeLine ∧ noOwnB δ4 vs = true ∧ N (acc ++ [y]) (restD δ δ4 vs)
      | _ => False) ∧ (b = false → noOwnB δ3 vs = true ∧ N acc (restD δ δ3 vs)))
    (fin : ∀ acc δ, P n acc δ → C acc δ) {δ : DSt} (h : P 0 [] δ) : dLcL g tt te vs (rangeD lo n) [] δ C := by
  have key : ∀ m k acc δ, k + m = n → P k acc δ → dLcL g tt te vs ((rangeD lo n).drop k) acc δ C := by
    intro m
    induction m with
    | zero =>
      intro k acc δ e h
      have : (rangeD lo n).length ≤ k := by unfold rangeD; simp; omega
      rw [List.drop_eq_nil_of_le this]
      have e : k = n := by omega
      subst e
      exact fin acc δ h
    | succ m ih =>
      intro k acc δ e h
      have hk : k < n := by omega
      have hl : k < (rangeD lo n).length := by unfold rangeD; simp; exact hk
      rw [List.drop_eq_getElem_cons hl]
      have e2 : (rangeD lo n)[k] = .int (lo + (k : Nat)) := rangeD_at hl
      rw [e2]
      exact step k acc δ hk h (fun acc' δ' => dLcL g tt te vs ((rangeD lo n).drop (k + 1)) acc' δ' C) fun acc' δ' h' => ih (k + 1) acc' δ' (by omega) h'
  have := key n 0 [] δ (by omega) h
  rw [List.drop_zero] at this
  exact this
/-! ### small facts -/
theorem sl_line : sizeLine = 16777216 := sizeLine_eq
theorem atI_at {α : Type} {xs : List α} {i : Int} (h : 0 ≤ i) (h2 : i < (xs.length : Int)) : ∃ c, atI xs i = some c ∧ xs[i.toNat]? = some c ∧ c ∈ xs := by
  have hi : i.toNat < xs.length := by omega
  have e : ((i.toNat : Nat) : Int) = i := by omega
  have := atI_nat (List.getElem?_eq_getElem hi)
  rw [e] at this
  exact ⟨_, this, List.getElem?_eq_getElem hi, List.getElem_mem hi⟩
theorem atI_map {α β : Type} {f : α → β} {xs : List α} {i : Int} (h : 0 ≤ i) (h2 : i < (xs.length : Int)) : ∃ c, xs[i.toNat]? = some c ∧ atI (xs.map f) i = some (f c) ∧ c ∈ xs := by
  have hi : i.toNat < xs.length := by omega
  have e : ((i.toNat : Nat) : Int) = i := by omega
  have h3 : (xs.map f)[i.toNat]? = some (f xs[i.toNat]) := by rw [List.getElem?_map, List.getElem?_eq_getElem hi]; rfl
  have := atI_nat h3
  rw [e] at this
  exact ⟨_, List.getElem?_eq_getElem hi, this, List.getElem_mem hi⟩
end DD

namespace DD
open PySem PySem.Spec PyProof.Rows L2
/-! ### data of the module -/
def mapO {α β : Type} (f : α → Option β) : List α → Option (List β)
  | [] => some []
  | a :: as => match f a, mapO f as with
    | some b, some bs => some (b :: bs)
    | _, _ => none
def datIn (K : PySem.W.Frag) : Nat → Value → Option PyData
  | _, .none => some .none
  | _, .bool b => some (.bool b)
  | _, .int i _ => some (.int i)
  | _, .str z _ => some (.str z)
  | n + 1, .ref a => match K.lookup a with
    | some o => if o.cls == .type "tuple" then (match o.data with
        | .seq its _ => if its.size ≤ sizeLine then (match mapO (datIn K n) its.toList with
            | some ds => some (.tuple ds)
            | none => none) else none
        | _ => none) else none
    | none => none
  | _, _ => none
theorem datIn_ok {K : PySem.W.Frag} : ∀ (n : Nat) (v : Value) (d : PyData), datIn K n v = some d → ∃ x : V, RelV x v ∧ ∀ F, Dp K F x d := by
  intro n
  induction n with
  | zero =>
    intro v d h
    unfold datIn at h
    split at h
    · cases h; exact ⟨.non, rfl, fun F => .non⟩
    · cases h; exact ⟨.bl _, rfl, fun F => .bl _⟩
    · cases h; exact ⟨.int _, ⟨_, rfl⟩, fun F => .int _⟩
    · cases h; exact ⟨.str _, ⟨_, rfl⟩, fun F => .str _⟩
    · exact absurd ‹(0:Nat) = _› (by omega)
    · cases h
  | succ n ih =>
    intro v d h
    have all : ∀ (vs : List Value) (ds : List PyData), mapO (datIn K n) vs = some ds → ∃ xs : List V, Vals xs vs ∧ ∀ F, DpAll K F xs ds := by
      intro vs
      induction vs with
      | nil => intro ds h; cases h; exact ⟨[], .nil, fun F => .nil⟩
      | cons v vs ih2 =>
        intro ds h
        unfold mapO at h
        split at h
        · rename_i b bs h1 h2
          cases h
          obtain ⟨x, r, dx⟩ := ih _ _ h1
          obtain ⟨xs, rs, dxs⟩ := ih2 _ h2
          exact ⟨x :: xs, .cons r rs, fun F => .cons (dx F) (dxs F)⟩
        · cases h
    unfold datIn at h
    split at h
    · cases h; exact ⟨.non, rfl, fun F => .non⟩
    · cases h; exact ⟨.bl _, rfl, fun F => .bl _⟩
    · cases h; exact ⟨.int _, ⟨_, rfl⟩, fun F => .int _⟩
    · cases h; exact ⟨.str _, ⟨_, rfl⟩, fun F => .str _⟩
    · rename_i n' a hn
      cases hn
      split at h
      · rename_i o ho
        split at h
        · rename_i hc
          split at h
          · rename_i its m hd
            split at h
            · rename_i hz
              split at h
              · rename_i ds hds
                cases h
                obtain ⟨xs, rs, dxs⟩ := all _ _ hds
                exact ⟨.ref a, rfl, fun F => .tup (.inr ⟨o, its, m, ho, beq_iff_eq.mp hc, hd, hz, rs⟩) (dxs F)⟩
              · cases h
            · cases h
          · cases h
        · cases h
      · cases h
    · cases h
theorem kD {K : PySem.W.Frag} {mg : Str → Option Value} {c : Str} {v : Value} {n : Nat} {d : PyData} (hm : mg c = some v) (h : datIn K n v = some d) (hd : (c == ("__debug__" : Str)) = false := by decide) :
    ∀ {X : Cx} {pos : Pos}, X.K = K → X.mg = mg → Gl X c → PD X (.Name c pos) (dC d) := by
  intro X pos hK hmg hg
  obtain ⟨x, r, dx⟩ := datIn_ok n v d h
  subst hK hmg
  exact pd_c (v := x) (pe_glob hg hm r hd) dx
/-- a loose name that is a str -/
theorem loose_str {p : Program} {lv : List (Str × PySem.W.WData)} {mg : Str → Option Value} {h : Heap} {x z : Str} (X : PySem.W.XL p lv mg h) (m : (x, PySem.W.WData.str z) ∈ lv) : ∃ t, mg x = some (.str z t) := by
  obtain ⟨v, a, r⟩ := X.2.val _ m
  cases r
  exact ⟨_, a⟩
theorem kLoose {K : PySem.W.Frag} {mg : Str → Option Value} {c z : Str} (hm : ∃ t, mg c = some (.str z t)) (hd : (c == ("__debug__" : Str)) = false := by decide) :
    ∀ {X : Cx} {pos : Pos}, X.K = K → X.mg = mg → Gl X c → PD X (.Name c pos) (dC (.str z)) := by
  intro X pos hK hmg hg
  obtain ⟨t, hm⟩ := hm
  exact kD (n := 0) (d := .str z) hm rfl hd hK hmg hg
theorem def_mk {K : PySem.W.Frag} {h : Heap} {mg : Str → Option Value} {x : Str} {st : Stmt} {f : Addr} (X : K.In h) (G : h.Ns mainGlobals mg)
    {od an : Option Addr} {sl : Array (Option Value)} {oc kV dc pm cd ct : Value}
    (a : PySem.W.nsIn K mainGlobals x = some (some (.ref f))) (l : K.lookup f = some ⟨oc, od, .func (PySem.W.fnOf x x (defArgs st) (defBody st) (defScope st) .none kV dc pm an cd ct), sl⟩) (c : PySem.W.codeIn K cd x = true) (k : PySem.W.keepIn K (.ref f) = true) : DefAt K mg x st :=
  ⟨_, _, PySem.W.mg_of X G a, fun_mk l c k⟩
theorem sp_len {P : Prop} {n m : Nat} (h : n = m) : n = m := h
end DD

/-! MM: value semantics with a store of mutable objects (lists, instances, dicts), over the judgements of HandS. -/
namespace MM
open PySem PySem.Spec PyProof.Rows L2

/-- the frozen part of the heap; the addresses of the store's objects -/
structure Fg where
  f : Hp
  g : List Addr
/-- what a name or an expression holds: frozen data, or an object of the store -/
inductive Ar where
  | val (d : PyData)
  | sl (i : Nat)
inductive Mo where
  | fl (xs : List PyData)
  | ls (xs : List Ar)
  | tu (xs : List Ar)
  | ins (c : Str) (fs : List (Str × Ar))
  | dk (kvs : List (Key × Ar))
  | dt (kvs : List (List Key × Ar))
  | no
structure DSt where
  s : List (Option Ar)
  m : List Mo
/-- what is wished of an exception: its class's name, the slots, the store -/
abbrev EW := Str → List (Option Ar) → List Mo → Prop
instance : Coe Fg Hp := ⟨Fg.f⟩
abbrev DTE := DSt → (Ar → DSt → Prop) → Prop
abbrev DTT := DSt → (Bool → DSt → Prop) → Prop
abbrev DTA := DSt → (List Ar → DSt → Prop) → Prop
structure DEnds where
  nx : DSt → Prop
  rt : Ar → DSt → Prop
  bk : DSt → Prop := fun _ => False
  ct : DSt → Prop := fun _ => False
abbrev DTS := DEnds → DSt → Prop
def ArRep (K : PySem.W.Frag) (F : Fg) (v : V) : Ar → Prop
  | .val d => Dp K F.f v d
  | .sl i => ∃ l, F.g[i]? = some l ∧ v = .ref l
def ArsRep (K : PySem.W.Frag) (F : Fg) : List V → List Ar → Prop
  | [], [] => True
  | v :: vs, a :: as => ArRep K F v a ∧ ArsRep K F vs as
  | _, _ => False
def MoRep (K : PySem.W.Frag) (mg : Str → Option Value) (F : Fg) (H : Hp) (l : Addr) : Mo → Prop
  | .fl xs => ∃ vs, H l = some (.lst vs) ∧ DpAll K F.f vs xs
  | .ls as => ∃ vs, H l = some (.lst vs) ∧ ArsRep K F vs as
  | .tu as => ∃ vs, H l = some (.tup vs) ∧ ArsRep K F vs as
  | .ins c fs => ∃ C dx vs, mg c = some (.ref C) ∧ H l = some (.ins C dx vs) ∧ H dx = some (.own l) ∧ F.f dx = none ∧ vs.map (·.1) = fs.map (·.1) ∧ ArsRep K F (vs.map (·.2)) (fs.map (·.2))
  | .dk kvs => ∃ us, H l = some (.dK us) ∧ us.map (·.1) = kvs.map (·.1) ∧ ArsRep K F (us.map (·.2)) (kvs.map (·.2))
  | .dt kvs => ∃ us, H l = some (.dT us) ∧ us.map (·.1) = kvs.map (·.1) ∧ ArsRep K F (us.map (·.2)) (kvs.map (·.2))
  | .no => True
def live : Mo → Bool
  | .no => false
  | _ => true
/-- the store -/
structure StoC (K : PySem.W.Frag) (mg : Str → Option Value) (F : Fg) (m : List Mo) (H : Hp) : Prop where
  sub : Same F.f H
  glen : F.g.length = m.length
  obj : ∀ (i : Nat) (o : Mo), m[i]? = some o → ∃ l, F.g[i]? = some l ∧ (if live o = true then F.f l = none ∧ MoRep K mg F H l o else F.f l ≠ none)
  inj : ∀ (i j : Nat) (l : Addr) (oi oj : Mo), m[i]? = some oi → m[j]? = some oj → live oi = true → live oj = true → F.g[i]? = some l → F.g[j]? = some l → i = j
structure RepC (K : PySem.W.Frag) (mg : Str → Option Value) (F : Fg) (σ : L2.St) (s : List (Option Ar)) (m : List Mo) (H : Hp) : Prop where
  sto : StoC K mg F m H
  len : σ.length = s.length
  slot : ∀ (i : Nat) (a : Ar), s[i]? = some (some a) → ∃ v, σ[i]? = some (some v) ∧ ArRep K F v a
/-- from one state to a later one -/
structure Stp (F : Fg) (H : Hp) (F' : Fg) (H' : Hp) : Prop where
  ext : Same F.f F'.f
  pre : ∃ ns, F'.g = F.g ++ ns ∧ ∀ l ∈ ns, H l = none
  new : ∀ b o, F'.f b = some o → F.f b = some o ∨ H b = none ∨ b ∈ F.g
  frm : ∀ b o, H b = some o → b ∉ F.g → H' b = some o
  dom : ∀ b, H' b = none → H b = none
theorem Stp.refl {F H} : Stp F H F H :=
  ⟨Same.refl _, ⟨[], by simp, by simp⟩, fun _ _ h => .inl h, fun _ _ h _ => h, fun _ h => h⟩
theorem Stp.trans {F H F1 H1 F2 H2} (a : Stp F H F1 H1) (b : Stp F1 H1 F2 H2) : Stp F H F2 H2 := by
  obtain ⟨ns, e1, n1⟩ := a.pre
  obtain ⟨ms, e2, n2⟩ := b.pre
  refine ⟨a.ext.trans b.ext, ⟨ns ++ ms, by rw [e2, e1, List.append_assoc], fun l hl => ?_⟩, fun c o h => ?_, fun c o h n => ?_, fun c h => a.dom c (b.dom c h)⟩
  · rcases List.mem_append.mp hl with hl | hl
    · exact n1 l hl
    · exact a.dom l (n2 l hl)
  · rcases b.new c o h with q | q | q
    · exact a.new c o q
    · exact .inr (.inl (a.dom c q))
    · rw [e1] at q
      rcases List.mem_append.mp q with q | q
      · exact .inr (.inr q)
      · exact .inr (.inl (n1 c q))
  · refine b.frm c o (a.frm c o h n) fun q => ?_
    rw [e1] at q
    rcases List.mem_append.mp q with q | q
    · exact n q
    · rw [n1 c q] at h; cases h
/-- the state, with what is wished of an exception -/
structure RepS (W : WX) (E : EW) (K : PySem.W.Frag) (mg : Str → Option Value) (F : Fg) (σ : L2.St) (δ : DSt) (H : Hp) : Prop extends RepC K mg F σ δ.s δ.m H where
  wish : ∀ x C d F' σ' s' m' H', RepC K mg F' σ' s' m' H' → Stp F H F' H' → mg x = some (.ref C) → E x s' m' → W (.ref C) d σ' H'
section
variable {W : WX} {E : EW} {K : PySem.W.Frag} {mg : Str → Option Value} {F F' : Fg} {H H' : Hp} {σ : L2.St} {δ : DSt}
theorem ArRep.step (e : Stp F H F' H') {v : V} {a : Ar} (h : ArRep K F v a) : ArRep K F' v a := by
  cases a with
  | val d => exact Dp.mono e.ext d v h
  | sl i =>
    obtain ⟨l, h1, h2⟩ := h
    obtain ⟨ns, e1, _⟩ := e.pre
    exact ⟨l, by rw [e1, List.getElem?_append_left (List.getElem?_eq_some_iff.mp h1).1]; exact h1, h2⟩
theorem ArsRep.step (e : Stp F H F' H') : ∀ {vs : List V} {as : List Ar}, ArsRep K F vs as → ArsRep K F' vs as
  | [], [], _ => trivial
  | v :: vs, a :: as, h => ⟨h.1.step e, ArsRep.step e h.2⟩
  | [], _ :: _, h => h.elim
  | _ :: _, [], h => h.elim
theorem ArsRep.get : ∀ {vs : List V} {as : List Ar} {i : Nat} {a : Ar}, ArsRep K F vs as → as[i]? = some a → ∃ v, vs[i]? = some v ∧ ArRep K F v a
  | [], [], _, _, _, e => by simp at e
  | v :: vs, a :: as, 0, b, h, e => by simp at e; subst e; exact ⟨v, rfl, h.1⟩
  | v :: vs, a :: as, i + 1, b, h, e => by
    obtain ⟨u, h1, h2⟩ := ArsRep.get (i := i) h.2 (by simpa using e)
    exact ⟨u, by simpa using h1, h2⟩
  | [], _ :: _, _, _, h, _ => h.elim
  | _ :: _, [], _, _, h, _ => h.elim
theorem ArsRep.length : ∀ {vs : List V} {as : List Ar}, ArsRep K F vs as → vs.length = as.length
  | [], [], _ => rfl
  | v :: vs, a :: as, h => congrArg (· + 1) (ArsRep.length h.2)
  | [], _ :: _, h => h.elim
  | _ :: _, [], h => h.elim
theorem ArsRep.append : ∀ {vs ws : List V} {as bs : List Ar}, ArsRep K F vs as → ArsRep K F ws bs → ArsRep K F (vs ++ ws) (as ++ bs)
  | [], _, [], _, _, s => s
  | _ :: _, _, _ :: _, _, h, s => ⟨h.1, ArsRep.append h.2 s⟩
  | [], _, _ :: _, _, h, _ => h.elim
  | _ :: _, _, [], _, h, _ => h.elim
theorem ArsRep.set {v : V} {a : Ar} (h : ArRep K F v a) : ∀ {vs : List V} {as : List Ar} (i : Nat), ArsRep K F vs as → ArsRep K F (vs.set i v) (as.set i a)
  | [], [], _, _ => trivial
  | _ :: _, _ :: _, 0, t => ⟨h, t.2⟩
  | _ :: _, _ :: _, i + 1, t => ⟨t.1, ArsRep.set h i t.2⟩
  | [], _ :: _, _, h => h.elim
  | _ :: _, [], _, h => h.elim
theorem ArsRep.take : ∀ {vs : List V} {as : List Ar} (n : Nat), ArsRep K F vs as → ArsRep K F (vs.take n) (as.take n)
  | [], [], n, _ => by simp only [List.take_nil]; trivial
  | _ :: _, _ :: _, 0, _ => trivial
  | _ :: _, _ :: _, n + 1, h => ⟨h.1, ArsRep.take n h.2⟩
  | [], _ :: _, _, h => h.elim
  | _ :: _, [], _, h => h.elim
theorem ArsRep.drop : ∀ {vs : List V} {as : List Ar} (n : Nat), ArsRep K F vs as → ArsRep K F (vs.drop n) (as.drop n)
  | [], [], n, _ => by simp only [List.drop_nil]; trivial
  | _ :: _, _ :: _, 0, h => h
  | _ :: _, _ :: _, n + 1, h => ArsRep.drop n h.2
  | [], _ :: _, _, h => h.elim
  | _ :: _, [], _, h => h.elim
theorem ArsRep.dropLast {vs : List V} {as : List Ar} (h : ArsRep K F vs as) : ArsRep K F vs.dropLast as.dropLast := by
  rw [List.dropLast_eq_take, List.dropLast_eq_take, h.length]
  exact ArsRep.take _ h
theorem ArsRep.ofData : ∀ {vs : List V} {xs : List PyData}, DpAll K F.f vs xs → ArsRep K F vs (xs.map Ar.val)
  | _, _, .nil => trivial
  | _, _, .cons h t => ⟨h, ArsRep.ofData t⟩
/-- objects: what they hold is as it was, where their own place is -/
theorem MoRep.step (e : Stp F H F' H') {l : Addr} {o : Mo} (h : MoRep K mg F H l o) (hl : ∀ u, H l = some u → H' l = some u) (hx : ∀ dx, H dx = some (.own l) → F.f dx = none → H' dx = some (.own l) ∧ F'.f dx = none) : MoRep K mg F' H' l o := by
  cases o with
  | fl xs => obtain ⟨vs, h1, h2⟩ := h; exact ⟨vs, hl _ h1, Dp.monoAll e.ext _ _ h2⟩
  | ls as => obtain ⟨vs, h1, h2⟩ := h; exact ⟨vs, hl _ h1, h2.step e⟩
  | tu as => obtain ⟨vs, h1, h2⟩ := h; exact ⟨vs, hl _ h1, h2.step e⟩
  | ins c fs => obtain ⟨C, dx, vs, h0, h1, h2, h3, h4, h5⟩ := h; exact ⟨C, dx, vs, h0, hl _ h1, (hx dx h2 h3).1, (hx dx h2 h3).2, h4, h5.step e⟩
  | dk kvs => obtain ⟨us, h1, h2, h3⟩ := h; exact ⟨us, hl _ h1, h2, h3.step e⟩
  | dt kvs => obtain ⟨us, h1, h2, h3⟩ := h; exact ⟨us, hl _ h1, h2, h3.step e⟩
  | no => trivial
theorem StoC.at (R : StoC K mg F δ.m H) {i : Nat} {o : Mo} (h : δ.m[i]? = some o) (n : live o = true) : ∃ l, F.g[i]? = some l ∧ F.f l = none ∧ MoRep K mg F H l o := by
  obtain ⟨l, h1, h2⟩ := R.obj i o h
  rw [if_pos n] at h2
  exact ⟨l, h1, h2⟩
theorem MoRep.has {l : Addr} {o : Mo} (h : MoRep K mg F H l o) (n : live o = true) : ∃ u, H l = some u ∧ ∀ x, u ≠ .own x := by
  cases o with
  | fl xs => obtain ⟨vs, h1, h2⟩ := h; exact ⟨_, h1, fun x e => by cases e⟩
  | ls as => obtain ⟨vs, h1, h2⟩ := h; exact ⟨_, h1, fun x e => by cases e⟩
  | tu as => obtain ⟨vs, h1, h2⟩ := h; exact ⟨_, h1, fun x e => by cases e⟩
  | ins c fs => obtain ⟨C, dx, vs, h0, h1, _⟩ := h; exact ⟨_, h1, fun x e => by cases e⟩
  | dk kvs => obtain ⟨us, h1, _⟩ := h; exact ⟨_, h1, fun x e => by cases e⟩
  | dt kvs => obtain ⟨us, h1, _⟩ := h; exact ⟨_, h1, fun x e => by cases e⟩
  | no => cases n
/-- an address of the store that is alive is no dict of an instance -/
theorem StoC.notOwn {m : List Mo} (R : StoC K mg F m H) {l x : Addr} (hl : l ∈ F.g) (h : H l = some (.own x)) (hF : F.f l = none) : False := by
  obtain ⟨i, hi⟩ := List.getElem?_of_mem hl
  have hm : i < m.length := by rw [← R.glen]; exact (List.getElem?_eq_some_iff.mp hi).1
  obtain ⟨l', h1, h2⟩ := R.obj i _ (List.getElem?_eq_getElem hm)
  rw [hi] at h1
  cases h1
  split at h2
  · rename_i n
    obtain ⟨u, e1, e2⟩ := h2.2.has n
    rw [h] at e1
    exact e2 x (Option.some.inj e1).symm
  · exact h2 hF
theorem RepS.next {F' : Fg} {σ' : L2.St} {s' : List (Option Ar)} {m' : List Mo} {H' : Hp} (R : RepS W E K mg F σ δ H) (C : RepC K mg F' σ' s' m' H') (t : Stp F H F' H') : RepS W E K mg F' σ' ⟨s', m'⟩ H' :=
  { C with wish := fun x C d F2 σ2 s2 m2 H2 C2 t2 hm he => R.wish x C d F2 σ2 s2 m2 H2 C2 (t.trans t2) hm he }
/-- what the store, the slots are when only other parts of the heap have changed -/
theorem RepC.stay {s : List (Option Ar)} {m : List Mo} (R : RepC K mg F σ s m H) (e : Stp F H F' H') (hg : F'.g = F.g) (sub : Same F'.f H') (hn : ∀ l, l ∈ F.g → F.f l = none → H' l = H l ∧ F'.f l = none)
    (hx : ∀ dx x, H dx = some (.own x) → F.f dx = none → F'.f dx = none) : RepC K mg F' σ s m H' := by
  refine ⟨⟨sub, by rw [hg]; exact R.sto.glen, fun i o h => ?_, fun i j l oi oj h1 h2 h3 h4 h5 h6 => ?_⟩, R.len, fun i a h => ?_⟩
  · obtain ⟨l, h1, h2⟩ := R.sto.obj i o h
    refine ⟨l, by rw [hg]; exact h1, ?_⟩
    split at h2
    · rename_i n
      obtain ⟨q1, q2⟩ := hn l (List.mem_of_getElem? h1) h2.1
      rw [if_pos n]
      exact ⟨q2, h2.2.step e (fun u hu => by rw [q1]; exact hu) fun dx hd hf => ⟨e.frm dx _ hd fun z => R.sto.notOwn z hd hf, hx dx l hd hf⟩⟩
    · rename_i n
      rw [if_neg n]
      intro q
      cases qf : F.f l with
      | none => exact h2 qf
      | some u => rw [e.ext l u qf] at q; cases q
  · rw [hg] at h5 h6
    exact R.sto.inj i j l oi oj h1 h2 h3 h4 h5 h6
  · obtain ⟨v, h1, h2⟩ := R.slot i a h
    exact ⟨v, h1, h2.step e⟩
/-- a new frozen object -/
theorem RepS.alloc (R : RepS W E K mg F σ δ H) {p : Addr} {o : HO} (n : H p = none) : RepS W E K mg ⟨upd F.f p o, F.g⟩ σ δ (upd H p o) ∧ Stp F H ⟨upd F.f p o, F.g⟩ (upd H p o) := by
  have nF : F.f p = none := R.sto.sub.free n
  have sF : Same F.f (upd F.f p o) := fun b u e => by rw [upd_ne (ne_of_none e nF)]; exact e
  have t : Stp F H ⟨upd F.f p o, F.g⟩ (upd H p o) := by
    refine ⟨sF, ⟨[], by simp, by simp⟩, fun b u e => ?_, fun b u e _ => ?_, fun b e => ?_⟩
    · by_cases hb : b = p
      · subst hb; exact .inr (.inl n)
      · have e : upd F.f p o b = some u := e
        rw [upd_ne hb] at e; exact .inl e
    · rw [upd_ne (ne_of_none e n)]; exact e
    · by_cases hb : b = p
      · subst hb; exact n
      · rw [upd_ne hb] at e; exact e
  refine ⟨R.next (R.toRepC.stay t rfl (fun b u e => ?_) (fun l hl hf => ?_) fun dx x hd hf => ?_) t, t⟩
  · have e : upd F.f p o b = some u := e
    by_cases hb : b = p
    · subst hb; rw [upd_same] at e ⊢; exact e
    · rw [upd_ne hb] at e ⊢; exact R.sto.sub b u e
  · obtain ⟨i, hi⟩ := List.getElem?_of_mem hl
    have hm : i < δ.m.length := by rw [← R.sto.glen]; exact (List.getElem?_eq_some_iff.mp hi).1
    obtain ⟨l', h1, h2⟩ := R.sto.obj i _ (List.getElem?_eq_getElem hm)
    rw [hi] at h1
    cases h1
    split at h2
    · rename_i nl
      obtain ⟨u, e1, _⟩ := h2.2.has nl
      have ne : l ≠ p := ne_of_none e1 n
      exact ⟨upd_ne ne, by show upd F.f p o l = none; rw [upd_ne ne]; exact hf⟩
    · exact absurd hf h2
  · show upd F.f p o dx = none
    rw [upd_ne (ne_of_none hd n)]; exact hf
theorem StoC.liveAt {m : List Mo} (R : StoC K mg F m H) {l : Addr} (hl : l ∈ F.g) (hf : F.f l = none) : ∃ u, H l = some u := by
  obtain ⟨i, hi⟩ := List.getElem?_of_mem hl
  have hm : i < m.length := by rw [← R.glen]; exact (List.getElem?_eq_some_iff.mp hi).1
  obtain ⟨l', h1, h2⟩ := R.obj i _ (List.getElem?_eq_getElem hm)
  rw [hi] at h1
  cases h1
  split at h2
  · rename_i nl
    obtain ⟨u, e1, _⟩ := h2.2.has nl
    exact ⟨u, e1⟩
  · exact absurd hf h2
/-- the heap has grown by things that nobody holds -/
theorem RepS.grow (R : RepS W E K mg F σ δ H) {H' : Hp} (s : Same H H') : RepS W E K mg F σ δ H' ∧ Stp F H F H' := by
  have t : Stp F H F H' := ⟨Same.refl _, ⟨[], by simp, by simp⟩, fun b u e => .inl e, fun b u e _ => s b u e, fun b e => s.free e⟩
  refine ⟨R.next (R.toRepC.stay t rfl (R.sto.sub.trans s) (fun l hl hf => ?_) fun dx x hd hf => hf) t, t⟩
  obtain ⟨u, e1⟩ := R.sto.liveAt hl hf
  exact ⟨(s l u e1).trans e1.symm, hf⟩
/-- a new object of the store -/
theorem RepS.made (R : RepS W E K mg F σ δ H) {p : Addr} {H' : Hp} {o : Mo} (s : Same H H') (n : H p = none) (nl : live o = true) (h : MoRep K mg ⟨F.f, F.g ++ [p]⟩ H' p o) :
    RepS W E K mg ⟨F.f, F.g ++ [p]⟩ σ { δ with m := δ.m ++ [o] } H' ∧ Stp F H ⟨F.f, F.g ++ [p]⟩ H' := by
  have nF : F.f p = none := R.sto.sub.free n
  have t : Stp F H ⟨F.f, F.g ++ [p]⟩ H' := ⟨Same.refl _, ⟨[p], rfl, by simpa using n⟩, fun b u e => .inl e, fun b u e _ => s b u e, fun b e => s.free e⟩
  have old : ∀ {i : Nat} {x : Mo}, δ.m[i]? = some x → ∃ l, F.g[i]? = some l ∧ (live x = true → l ≠ p) := fun {i x} hx => by
    obtain ⟨l, h1, h2⟩ := R.sto.obj i x hx
    refine ⟨l, h1, fun hl => ?_⟩
    rw [if_pos hl] at h2
    obtain ⟨u, e1, _⟩ := h2.2.has hl
    exact ne_of_none e1 n
  have cases_ : ∀ {i : Nat} {x : Mo}, (δ.m ++ [o])[i]? = some x → (i < δ.m.length ∧ δ.m[i]? = some x) ∨ (i = δ.m.length ∧ x = o) := fun {i x} hx => by
    by_cases hi : i < δ.m.length
    · rw [List.getElem?_append_left hi] at hx; exact .inl ⟨hi, hx⟩
    · rw [List.getElem?_append_right (by omega)] at hx
      have : i - δ.m.length = 0 := by
        have := (List.getElem?_eq_some_iff.mp hx).1
        simpa using this
      rw [this] at hx
      exact .inr ⟨by omega, (Option.some.inj hx).symm⟩
  have gl : ∀ {i : Nat}, i < δ.m.length → (F.g ++ [p])[i]? = F.g[i]? := fun {i} hi => List.getElem?_append_left (by rw [R.sto.glen]; exact hi)
  have gp : (F.g ++ [p])[δ.m.length]? = some p := by
    rw [List.getElem?_append_right (by rw [R.sto.glen]; exact Nat.le_refl _), R.sto.glen, Nat.sub_self]; rfl
  refine ⟨R.next (s' := δ.s) (m' := δ.m ++ [o]) ⟨⟨R.sto.sub.trans s, by rw [List.length_append, List.length_append, R.sto.glen]; rfl, fun i x hx => ?_, fun i j l oi oj h1 h2 h3 h4 h5 h6 => ?_⟩, R.len, fun i a ha => ?_⟩ t, t⟩
  · rcases cases_ hx with ⟨hi, hx⟩ | ⟨hi, ex⟩
    · obtain ⟨l, h1, h2⟩ := R.sto.obj i x hx
      refine ⟨l, by show (F.g ++ [p])[i]? = some l; rw [gl hi]; exact h1, ?_⟩
      split at h2
      · rename_i q
        rw [if_pos q]
        exact ⟨h2.1, h2.2.step t (fun u hu => s _ _ hu) fun dx hd hf => ⟨s _ _ hd, hf⟩⟩
      · rename_i q
        rw [if_neg q]
        exact h2
    · subst hi; subst ex
      exact ⟨p, gp, by rw [if_pos nl]; exact ⟨nF, h⟩⟩
  · have h5 : (F.g ++ [p])[i]? = some l := h5
    have h6 : (F.g ++ [p])[j]? = some l := h6
    rcases cases_ h1 with ⟨a1, a2⟩ | ⟨a1, a2⟩
    · rcases cases_ h2 with ⟨b1, b2⟩ | ⟨b1, b2⟩
      · rw [gl a1] at h5
        rw [gl b1] at h6
        exact R.sto.inj i j l oi oj a2 b2 h3 h4 h5 h6
      · subst b1
        rw [gp] at h6
        cases h6
        rw [gl a1] at h5
        obtain ⟨l', q1, q2⟩ := old a2
        rw [q1] at h5
        cases h5
        exact absurd rfl (q2 h3)
    · rcases cases_ h2 with ⟨b1, b2⟩ | ⟨b1, b2⟩
      · subst a1
        rw [gp] at h5
        cases h5
        rw [gl b1] at h6
        obtain ⟨l', q1, q2⟩ := old b2
        rw [q1] at h6
        cases h6
        exact absurd rfl (q2 h4)
      · rw [a1, b1]
  · obtain ⟨v, h1, h2⟩ := R.slot i a ha
    exact ⟨v, h1, h2.step t⟩
/-- an object of the store changes -/
theorem RepS.put (R : RepS W E K mg F σ δ H) {i : Nat} {o o' : Mo} {l : Addr} {u : HO} (h : δ.m[i]? = some o) (n : live o = true) (n' : live o' = true) (hl : F.g[i]? = some l) (hu : ∀ x, u ≠ .own x) (h' : MoRep K mg F (upd H l u) l o') :
    RepS W E K mg F σ { δ with m := δ.m.set i o' } (upd H l u) ∧ Stp F H F (upd H l u) := by
  obtain ⟨l0, q1, q2, q3⟩ := R.sto.at h n
  rw [hl] at q1
  cases q1
  obtain ⟨w, e1, e2⟩ := q3.has n
  have hi : i < δ.m.length := (List.getElem?_eq_some_iff.mp h).1
  have t : Stp F H F (upd H l u) := by
    refine ⟨Same.refl _, ⟨[], by simp, by simp⟩, fun b x e => .inl e, fun b x e nb => ?_, fun b e => ?_⟩
    · have ne : b ≠ l := fun z => nb (by rw [z]; exact List.mem_of_getElem? hl)
      rw [upd_ne ne]; exact e
    · by_cases hb : b = l
      · subst hb; rw [upd_same] at e; cases e
      · rw [upd_ne hb] at e; exact e
  have at' : ∀ {j : Nat} {x : Mo}, (δ.m.set i o')[j]? = some x → (j = i ∧ x = o') ∨ (j ≠ i ∧ δ.m[j]? = some x) := fun {j x} hx => by
    by_cases e : j = i
    · subst e
      rw [List.getElem?_set_self hi] at hx
      exact .inl ⟨rfl, (Option.some.inj hx).symm⟩
    · rw [List.getElem?_set_ne (Ne.symm e)] at hx
      exact .inr ⟨e, hx⟩
  refine ⟨R.next (s' := δ.s) (m' := δ.m.set i o') ⟨⟨fun b x e => ?_, by rw [List.length_set]; exact R.sto.glen, fun j x hx => ?_, fun a b l2 oa ob h1 h2 h3 h4 h5 h6 => ?_⟩, R.len, fun j a ha => ?_⟩ t, t⟩
  · have ne : b ≠ l := fun z => by subst z; rw [q2] at e; cases e
    rw [upd_ne ne]; exact R.sto.sub b x e
  · rcases at' hx with ⟨e, ex⟩ | ⟨e, hx⟩
    · subst e; subst ex
      exact ⟨l, hl, by rw [if_pos n']; exact ⟨q2, h'⟩⟩
    · obtain ⟨l2, g1, g2⟩ := R.sto.obj j x hx
      refine ⟨l2, g1, ?_⟩
      split at g2
      · rename_i q
        rw [if_pos q]
        have ne : l2 ≠ l := fun z => by
          subst z
          exact e (R.sto.inj j i l2 x o hx h q n g1 hl)
        refine ⟨g2.1, g2.2.step t (fun u hu => by rw [upd_ne ne]; exact hu) fun dx hd hf => ⟨?_, hf⟩⟩
        have nd : dx ≠ l := fun z => by
          subst z
          rw [e1] at hd
          exact e2 l2 (Option.some.inj hd)
        rw [upd_ne nd]; exact hd
      · rename_i q
        rw [if_neg q]
        exact g2
  · have g : ∀ {j : Nat} {x : Mo}, (δ.m.set i o')[j]? = some x → live x = true → ∃ y, δ.m[j]? = some y ∧ live y = true := fun {j x} hx nx => by
      rcases at' hx with ⟨e, ex⟩ | ⟨e, hx⟩
      · subst e; exact ⟨o, h, n⟩
      · exact ⟨x, hx, nx⟩
    obtain ⟨x1, y1, z1⟩ := g h1 h3
    obtain ⟨x2, y2, z2⟩ := g h2 h4
    exact R.sto.inj a b l2 x1 x2 y1 y2 z1 z2 h5 h6
  · obtain ⟨v, h1, h2⟩ := R.slot j a ha
    exact ⟨v, h1, h2.step t⟩
/-- a slot is written -/
theorem RepS.setSlot (R : RepS W E K mg F σ δ H) {i : Nat} {v : V} {a : Ar} (h : ArRep K F v a) : RepS W E K mg F (σ.set i (some v)) { δ with s := δ.s.set i (some a) } H := by
  refine R.next (s' := δ.s.set i (some a)) (m' := δ.m) ⟨R.sto, by simp [R.len], fun j b q => ?_⟩ .refl
  by_cases e : j = i
  · subst e
    rcases Nat.lt_or_ge j δ.s.length with z | z
    · rw [List.getElem?_set_self z] at q
      cases q
      exact ⟨v, List.getElem?_set_self (by rw [R.len]; exact z), h⟩
    · rw [List.getElem?_eq_none (by simpa using z)] at q; cases q
  · rw [List.getElem?_set_ne (Ne.symm e)] at q ⊢
    exact R.slot j b q
/-- object i becomes the data d: in a name, in an object -/
def frA (i : Nat) (d : PyData) : Ar → Ar
  | .sl j => if j = i then .val d else .sl j
  | a => a
def frO (i : Nat) (d : PyData) : Mo → Mo
  | .ls as => .ls (as.map (frA i d))
  | .tu as => .tu (as.map (frA i d))
  | .ins c fs => .ins c (fs.map fun p => (p.1, frA i d p.2))
  | .dk kvs => .dk (kvs.map fun p => (p.1, frA i d p.2))
  | .dt kvs => .dt (kvs.map fun p => (p.1, frA i d p.2))
  | o => o
def frS (δ : DSt) (i : Nat) (d : PyData) : DSt := { δ with s := δ.s.map (fun o => o.map (frA i d)), m := (δ.m.set i .no).map (frO i d) }
theorem ArRep.fr {i : Nat} {d : PyData} {l : Addr} {v : V} {a : Ar} (t : Stp F H F' H') (hl : F.g[i]? = some l) (hd : Dp K F'.f (.ref l) d) (h : ArRep K F v a) : ArRep K F' v (frA i d a) := by
  cases a with
  | val x => exact h.step t
  | sl j =>
    show ArRep K F' v (if j = i then .val d else .sl j)
    by_cases e : j = i
    · rw [if_pos e]
      subst e
      obtain ⟨l', h1, h2⟩ := h
      rw [hl] at h1
      cases h1
      subst h2
      exact hd
    · rw [if_neg e]
      exact ArRep.step t (a := .sl j) h
theorem ArsRep.fr {i : Nat} {d : PyData} {l : Addr} (t : Stp F H F' H') (hl : F.g[i]? = some l) (hd : Dp K F'.f (.ref l) d) : ∀ {vs : List V} {as : List Ar}, ArsRep K F vs as → ArsRep K F' vs (as.map (frA i d))
  | [], [], _ => trivial
  | _ :: _, _ :: _, h => ⟨h.1.fr t hl hd, ArsRep.fr t hl hd h.2⟩
  | [], _ :: _, h => h.elim
  | _ :: _, [], h => h.elim
theorem live_fr {i : Nat} {d : PyData} {o : Mo} : live (frO i d o) = live o := by cases o <;> rfl
theorem MoRep.fr {i : Nat} {d : PyData} {l p : Addr} {o : Mo} (t : Stp F H F' H) (hl : F.g[i]? = some l) (hd : Dp K F'.f (.ref l) d) (hx : ∀ dx, H dx = some (.own p) → F.f dx = none → F'.f dx = none) (h : MoRep K mg F H p o) : MoRep K mg F' H p (frO i d o) := by
  cases o with
  | fl xs => obtain ⟨vs, h1, h2⟩ := h; exact ⟨vs, h1, Dp.monoAll t.ext _ _ h2⟩
  | ls as => obtain ⟨vs, h1, h2⟩ := h; exact ⟨vs, h1, h2.fr t hl hd⟩
  | tu as => obtain ⟨vs, h1, h2⟩ := h; exact ⟨vs, h1, h2.fr t hl hd⟩
  | ins c fs =>
    obtain ⟨C, dx, vs, h0, h1, h2, h3, h4, h5⟩ := h
    refine ⟨C, dx, vs, h0, h1, h2, hx dx h2 h3, by rw [h4, List.map_map]; rfl, ?_⟩
    have := h5.fr t hl hd
    rw [List.map_map] at this ⊢
    exact this
  | dk kvs =>
    obtain ⟨us, h1, h2, h3⟩ := h
    refine ⟨us, h1, by rw [h2, List.map_map]; rfl, ?_⟩
    have := h3.fr t hl hd
    rw [List.map_map] at this ⊢
    exact this
  | dt kvs =>
    obtain ⟨us, h1, h2, h3⟩ := h
    refine ⟨us, h1, by rw [h2, List.map_map]; rfl, ?_⟩
    have := h3.fr t hl hd
    rw [List.map_map] at this ⊢
    exact this
  | no => trivial
theorem RepS.freeze (R : RepS W E K mg F σ δ H) {i : Nat} {xs : List PyData} (h : δ.m[i]? = some (.fl xs)) :
    ∃ F' l vs, RepS W E K mg F' σ (frS δ i (.list xs)) H ∧ Stp F H F' H ∧ F.g[i]? = some l ∧ H l = some (.lst vs) ∧ F'.f l = some (.lst vs) ∧ DpAll K F'.f vs xs := by
  obtain ⟨l, hl, nF, vs, hH, hA⟩ := R.sto.at h rfl
  have sF : Same F.f (upd F.f l (.lst vs)) := fun b u e => by rw [upd_ne (ne_of_none e nF)]; exact e
  have t : Stp F H ⟨upd F.f l (.lst vs), F.g⟩ H := by
    refine ⟨sF, ⟨[], by simp, by simp⟩, fun b u e => ?_, fun b u e _ => e, fun b e => e⟩
    by_cases hb : b = l
    · exact .inr (.inr (by rw [hb]; exact List.mem_of_getElem? hl))
    · have e : upd F.f l (.lst vs) b = some u := e
      rw [upd_ne hb] at e; exact .inl e
  have hA' := Dp.monoAll (K := K) sF _ _ hA
  have hD : Dp K (upd F.f l (.lst vs)) (.ref l) (.list xs) := .lst (SqL.of upd_same) hA'
  have hi : i < δ.m.length := (List.getElem?_eq_some_iff.mp h).1
  have at' : ∀ {j : Nat} {x : Mo}, ((δ.m.set i .no).map (frO i (.list xs)))[j]? = some x → (j = i ∧ x = .no) ∨ (j ≠ i ∧ ∃ y, δ.m[j]? = some y ∧ x = frO i (.list xs) y) := fun {j x} hx => by
    rw [List.getElem?_map] at hx
    by_cases e : j = i
    · subst e
      rw [List.getElem?_set_self hi] at hx
      exact .inl ⟨rfl, (Option.some.inj hx).symm⟩
    · rw [List.getElem?_set_ne (Ne.symm e)] at hx
      cases q : δ.m[j]? with
      | none => rw [q] at hx; cases hx
      | some y => rw [q] at hx; exact .inr ⟨e, y, rfl, (Option.some.inj hx).symm⟩
  refine ⟨_, l, vs, R.next (s' := δ.s.map (fun o => o.map (frA i (.list xs)))) (m' := (δ.m.set i .no).map (frO i (.list xs))) ⟨⟨fun b u e => ?_, by rw [List.length_map, List.length_set]; exact R.sto.glen, fun j x hx => ?_, fun a b l2 oa ob h1 h2 h3 h4 h5 h6 => ?_⟩, by rw [List.length_map]; exact R.len, fun j a ha => ?_⟩ t, t, hl, hH, upd_same, hA'⟩
  · have e : upd F.f l (.lst vs) b = some u := e
    by_cases hb : b = l
    · subst hb; rw [upd_same] at e; rw [hH]; exact e
    · rw [upd_ne hb] at e; exact R.sto.sub b u e
  · rcases at' hx with ⟨e, ex⟩ | ⟨e, y, hy, ex⟩
    · subst e; subst ex
      refine ⟨l, hl, ?_⟩
      rw [if_neg (by decide)]
      show upd F.f l (.lst vs) l ≠ none
      rw [upd_same]
      intro z; cases z
    · subst ex
      obtain ⟨l2, g1, g2⟩ := R.sto.obj j y hy
      refine ⟨l2, g1, ?_⟩
      rw [live_fr]
      split at g2
      · rename_i q
        rw [if_pos q]
        have ne : l2 ≠ l := fun z => by
          subst z
          exact e (R.sto.inj j i l2 y (.fl xs) hy h q rfl g1 hl)
        refine ⟨by show upd F.f l (.lst vs) l2 = none; rw [upd_ne ne]; exact g2.1, g2.2.fr t hl hD fun dx hd hf => ?_⟩
        show upd F.f l (.lst vs) dx = none
        have nd : dx ≠ l := fun z => by subst z; rw [hH] at hd; cases hd
        rw [upd_ne nd]; exact hf
      · rename_i q
        rw [if_neg q]
        intro z
        have z : upd F.f l (.lst vs) l2 = none := z
        cases qf : F.f l2 with
        | none => exact g2 qf
        | some u => rw [sF l2 u qf] at z; cases z
  · have g : ∀ {j : Nat} {x : Mo}, ((δ.m.set i .no).map (frO i (.list xs)))[j]? = some x → live x = true → ∃ y, δ.m[j]? = some y ∧ live y = true := fun {j x} hx nx => by
      rcases at' hx with ⟨e, ex⟩ | ⟨e, y, hy, ex⟩
      · subst ex; cases nx
      · subst ex; rw [live_fr] at nx; exact ⟨y, hy, nx⟩
    obtain ⟨x1, y1, z1⟩ := g h1 h3
    obtain ⟨x2, y2, z2⟩ := g h2 h4
    exact R.sto.inj a b l2 x1 x2 y1 y2 z1 z2 h5 h6
  · rw [List.getElem?_map] at ha
    cases q : δ.s[j]? with
    | none => rw [q] at ha; cases ha
    | some oa =>
      rw [q] at ha
      cases oa with
      | none => cases ha
      | some b =>
        cases ha
        obtain ⟨v, h1, h2⟩ := R.slot j b q
        exact ⟨v, h1, h2.fr t hl hD⟩
/-- a thing that is neither frozen nor of the store changes -/
theorem RepS.ghost {p : Addr} {o : HO} (R : RepS W E K mg F σ δ H) (nF : F.f p = none) (nO : p ∉ F.g) (hx : ∀ x, H p ≠ some (.own x)) (w : ∀ x C d F' σ' s' m' H', RepC K mg F' σ' s' m' H' → Stp F (upd H p o) F' H' → mg x = some (.ref C) → E x s' m' → W (.ref C) d σ' H') : RepS W E K mg F σ δ (upd H p o) := by
  have hn : ∀ l, l ∈ F.g → upd H p o l = H l := fun l hl => upd_ne fun z => nO (z ▸ hl)
  refine { toRepC := ⟨⟨fun b u e => ?_, R.sto.glen, fun i x h => ?_, R.sto.inj⟩, R.len, R.slot⟩, wish := w }
  · have ne : b ≠ p := fun z => by subst z; rw [nF] at e; cases e
    rw [upd_ne ne]; exact R.sto.sub b u e
  · obtain ⟨l, h1, h2⟩ := R.sto.obj i x h
    refine ⟨l, h1, ?_⟩
    split at h2
    · rename_i q
      rw [if_pos q]
      have hl := hn l (List.mem_of_getElem? h1)
      have t : Stp F H F (upd H p o) ∨ True := .inr trivial
      refine ⟨h2.1, ?_⟩
      have hown : ∀ dx y, H dx = some (.own y) → upd H p o dx = some (.own y) := fun dx y hd => by
        have ne : dx ≠ p := fun z => by subst z; exact hx y hd
        rw [upd_ne ne]; exact hd
      cases x with
      | fl xs => obtain ⟨vs, a1, a2⟩ := h2.2; exact ⟨vs, hl.trans a1, a2⟩
      | ls as => obtain ⟨vs, a1, a2⟩ := h2.2; exact ⟨vs, hl.trans a1, a2⟩
      | tu as => obtain ⟨vs, a1, a2⟩ := h2.2; exact ⟨vs, hl.trans a1, a2⟩
      | ins c fs => obtain ⟨C, dx, vs, a0, a1, a2, a3, a4, a5⟩ := h2.2; exact ⟨C, dx, vs, a0, hl.trans a1, hown _ _ a2, a3, a4, a5⟩
      | dk kvs => obtain ⟨us, a1, a2, a3⟩ := h2.2; exact ⟨us, hl.trans a1, a2, a3⟩
      | dt kvs => obtain ⟨us, a1, a2, a3⟩ := h2.2; exact ⟨us, hl.trans a1, a2, a3⟩
      | no => cases q
    · rename_i q
      rw [if_neg q]
      exact h2
theorem Stp.ghost {F0 : Fg} {H0 : Hp} {p : Addr} {o : HO} (s : Stp F0 H0 F H) (n : H0 p = none) : Stp F0 H0 F (upd H p o) :=
  ⟨s.ext, s.pre, s.new, fun b u e no => by rw [upd_ne (ne_of_none e n)]; exact s.frm b u e no, fun b e => by
    by_cases hb : b = p
    · subst hb; exact n
    · rw [upd_ne hb] at e; exact s.dom b e⟩
/-- the wish at an earlier state serves a later one -/
theorem RepS.wishAt {F0 : Fg} {H0 : Hp} {σ0 : L2.St} {δ0 : DSt} (R0 : RepS W E K mg F0 σ0 δ0 H0) (s : Stp F0 H0 F H) : ∀ x C d F' σ' s' m' H', RepC K mg F' σ' s' m' H' → Stp F H F' H' → mg x = some (.ref C) → E x s' m' → W (.ref C) d σ' H' :=
  fun x C d F2 σ2 s2 m2 H2 C2 t2 hm he => R0.wish x C d F2 σ2 s2 m2 H2 C2 (s.trans t2) hm he
/-- a new list, so far nobody's, goes to the store -/
theorem RepS.adopt {F0 : Fg} {H0 : Hp} {σ0 : L2.St} {δ0 : DSt} (R0 : RepS W E K mg F0 σ0 δ0 H0) (s : Stp F0 H0 F H) (R : RepC K mg F σ δ.s δ.m H) {p : Addr} {o : Mo} (n : H0 p = none) (nF : F.f p = none) (nO : p ∉ F.g) (nl : live o = true) (h : MoRep K mg ⟨F.f, F.g ++ [p]⟩ H p o) :
    RepS W E K mg ⟨F.f, F.g ++ [p]⟩ σ ⟨δ.s, δ.m ++ [o]⟩ H ∧ Stp F0 H0 ⟨F.f, F.g ++ [p]⟩ H := by
  obtain ⟨ns, e1, e2⟩ := s.pre
  have t : Stp F0 H0 ⟨F.f, F.g ++ [p]⟩ H := ⟨s.ext, ⟨ns ++ [p], by show F.g ++ [p] = _; rw [e1, List.append_assoc], fun l hl => by
    rcases List.mem_append.mp hl with hl | hl
    · exact e2 l hl
    · rw [List.mem_singleton] at hl; rw [hl]; exact n⟩, s.new, s.frm, s.dom⟩
  have gl : ∀ {i : Nat} {l : Addr}, F.g[i]? = some l → (F.g ++ [p])[i]? = some l := fun {i l} hi => by rw [List.getElem?_append_left (List.getElem?_eq_some_iff.mp hi).1]; exact hi
  have ga : ∀ {v : V} {a : Ar}, ArRep K F v a → ArRep K ⟨F.f, F.g ++ [p]⟩ v a := fun {v a} h => by
    cases a with
    | val d => exact h
    | sl i => obtain ⟨l, h1, h2⟩ := h; exact ⟨l, gl h1, h2⟩
  have gas : ∀ {vs : List V} {as : List Ar}, ArsRep K F vs as → ArsRep K ⟨F.f, F.g ++ [p]⟩ vs as := fun {vs} => by
    induction vs with
    | nil => intro as h; cases as with | nil => trivial | cons _ _ => exact h.elim
    | cons v vs ih => intro as h; cases as with | nil => exact h.elim | cons a as => exact ⟨ga h.1, ih h.2⟩
  have gm : ∀ {l : Addr} {x : Mo}, MoRep K mg F H l x → MoRep K mg ⟨F.f, F.g ++ [p]⟩ H l x := fun {l x} h => by
    cases x with
    | fl xs => exact h
    | ls as => obtain ⟨vs, a1, a2⟩ := h; exact ⟨vs, a1, gas a2⟩
    | tu as => obtain ⟨vs, a1, a2⟩ := h; exact ⟨vs, a1, gas a2⟩
    | ins c fs => obtain ⟨C, dx, vs, a0, a1, a2, a3, a4, a5⟩ := h; exact ⟨C, dx, vs, a0, a1, a2, a3, a4, gas a5⟩
    | dk kvs => obtain ⟨us, a1, a2, a3⟩ := h; exact ⟨us, a1, a2, gas a3⟩
    | dt kvs => obtain ⟨us, a1, a2, a3⟩ := h; exact ⟨us, a1, a2, gas a3⟩
    | no => trivial
  have gp : (F.g ++ [p])[δ.m.length]? = some p := by
    rw [List.getElem?_append_right (by rw [R.sto.glen]; exact Nat.le_refl _), R.sto.glen, Nat.sub_self]; rfl
  have glt : ∀ {i : Nat}, i < δ.m.length → (F.g ++ [p])[i]? = F.g[i]? := fun {i} hi => List.getElem?_append_left (by rw [R.sto.glen]; exact hi)
  have cases_ : ∀ {i : Nat} {x : Mo}, (δ.m ++ [o])[i]? = some x → (i < δ.m.length ∧ δ.m[i]? = some x) ∨ (i = δ.m.length ∧ x = o) := fun {i x} hx => by
    by_cases hi : i < δ.m.length
    · rw [List.getElem?_append_left hi] at hx; exact .inl ⟨hi, hx⟩
    · rw [List.getElem?_append_right (by omega)] at hx
      have : i - δ.m.length = 0 := by
        have := (List.getElem?_eq_some_iff.mp hx).1
        simpa using this
      rw [this] at hx
      exact .inr ⟨by omega, (Option.some.inj hx).symm⟩
  refine ⟨R0.next (s' := δ.s) (m' := δ.m ++ [o]) ⟨⟨R.sto.sub, by rw [List.length_append, List.length_append, R.sto.glen]; rfl, fun i x hx => ?_, fun i j l oi oj h1 h2 h3 h4 h5 h6 => ?_⟩, R.len, fun i a ha => ?_⟩ t, t⟩
  · rcases cases_ hx with ⟨hi, hx⟩ | ⟨hi, ex⟩
    · obtain ⟨l, h1, h2⟩ := R.sto.obj i x hx
      refine ⟨l, gl h1, ?_⟩
      split at h2
      · rename_i q
        rw [if_pos q]
        exact ⟨h2.1, gm h2.2⟩
      · rename_i q
        rw [if_neg q]
        exact h2
    · subst hi; subst ex
      exact ⟨p, gp, by rw [if_pos nl]; exact ⟨nF, h⟩⟩
  · have h5 : (F.g ++ [p])[i]? = some l := h5
    have h6 : (F.g ++ [p])[j]? = some l := h6
    rcases cases_ h1 with ⟨a1, a2⟩ | ⟨a1, a2⟩
    · rcases cases_ h2 with ⟨b1, b2⟩ | ⟨b1, b2⟩
      · rw [glt a1] at h5
        rw [glt b1] at h6
        exact R.sto.inj i j l oi oj a2 b2 h3 h4 h5 h6
      · subst b1
        rw [gp] at h6
        cases h6
        rw [glt a1] at h5
        exact absurd (List.mem_of_getElem? h5) nO
    · rcases cases_ h2 with ⟨b1, b2⟩ | ⟨b1, b2⟩
      · subst a1
        rw [gp] at h5
        cases h5
        rw [glt b1] at h6
        exact absurd (List.mem_of_getElem? h6) nO
      · rw [a1, b1]
  · obtain ⟨v, h1, h2⟩ := R.slot i a ha
    exact ⟨v, h1, ga h2⟩
/-- .. or becomes frozen data -/
theorem RepS.freezeNew {F0 : Fg} {H0 : Hp} {σ0 : L2.St} {δ0 : DSt} (R0 : RepS W E K mg F0 σ0 δ0 H0) (s : Stp F0 H0 F H) (R : RepC K mg F σ δ.s δ.m H) {l : Addr} {ws : List V} {xs : List PyData} (n : H0 l = none) (nF : F.f l = none) (nO : l ∉ F.g) (hH : H l = some (.lst ws)) (hA : DpAll K F.f ws xs) :
    RepS W E K mg ⟨upd F.f l (.lst ws), F.g⟩ σ δ H ∧ Stp F0 H0 ⟨upd F.f l (.lst ws), F.g⟩ H ∧ Dp K (upd F.f l (.lst ws)) (.ref l) (.list xs) := by
  have sF : Same F.f (upd F.f l (.lst ws)) := fun b u e => by rw [upd_ne (ne_of_none e nF)]; exact e
  have t : Stp F0 H0 ⟨upd F.f l (.lst ws), F.g⟩ H := ⟨s.ext.trans sF, s.pre, fun b u e => by
    by_cases hb : b = l
    · subst hb; exact .inr (.inl n)
    · have e : upd F.f l (.lst ws) b = some u := e
      rw [upd_ne hb] at e; exact s.new b u e, s.frm, s.dom⟩
  have t1 : Same F.f (upd F.f l (.lst ws)) := sF
  have ga : ∀ {v : V} {a : Ar}, ArRep K F v a → ArRep K ⟨upd F.f l (.lst ws), F.g⟩ v a := fun {v a} h => by
    cases a with
    | val d => exact Dp.mono sF _ _ h
    | sl i => exact h
  have gas : ∀ {vs : List V} {as : List Ar}, ArsRep K F vs as → ArsRep K ⟨upd F.f l (.lst ws), F.g⟩ vs as := fun {vs} => by
    induction vs with
    | nil => intro as h; cases as with | nil => trivial | cons _ _ => exact h.elim
    | cons v vs ih => intro as h; cases as with | nil => exact h.elim | cons a as => exact ⟨ga h.1, ih h.2⟩
  refine ⟨R0.next (s' := δ.s) (m' := δ.m) ⟨⟨fun b u e => ?_, R.sto.glen, fun i x hx => ?_, R.sto.inj⟩, R.len, fun i a ha => ?_⟩ t, t, .lst (SqL.of upd_same) (Dp.monoAll sF _ _ hA)⟩
  · have e : upd F.f l (.lst ws) b = some u := e
    by_cases hb : b = l
    · subst hb; rw [upd_same] at e; rw [hH]; exact e
    · rw [upd_ne hb] at e; exact R.sto.sub b u e
  · obtain ⟨p, h1, h2⟩ := R.sto.obj i x hx
    refine ⟨p, h1, ?_⟩
    have np : p ≠ l := fun z => nO (z ▸ List.mem_of_getElem? h1)
    split at h2
    · rename_i q
      rw [if_pos q]
      refine ⟨by show upd F.f l (.lst ws) p = none; rw [upd_ne np]; exact h2.1, ?_⟩
      have h3 := h2.2
      cases x with
      | fl xs => obtain ⟨vs, a1, a2⟩ := h3; exact ⟨vs, a1, Dp.monoAll sF _ _ a2⟩
      | ls as => obtain ⟨vs, a1, a2⟩ := h3; exact ⟨vs, a1, gas a2⟩
      | tu as => obtain ⟨vs, a1, a2⟩ := h3; exact ⟨vs, a1, gas a2⟩
      | ins c fs =>
        obtain ⟨C, dx, vs, a0, a1, a2, a3, a4, a5⟩ := h3
        have nd : dx ≠ l := fun z => by subst z; rw [hH] at a2; cases a2
        exact ⟨C, dx, vs, a0, a1, a2, by show upd F.f l (.lst ws) dx = none; rw [upd_ne nd]; exact a3, a4, gas a5⟩
      | dk kvs => obtain ⟨us, a1, a2, a3⟩ := h3; exact ⟨us, a1, a2, gas a3⟩
      | dt kvs => obtain ⟨us, a1, a2, a3⟩ := h3; exact ⟨us, a1, a2, gas a3⟩
      | no => cases q
    · rename_i q
      rw [if_neg q]
      show upd F.f l (.lst ws) p ≠ none
      rw [upd_ne np]; exact h2
  · obtain ⟨v, h1, h2⟩ := R.slot i a ha
    exact ⟨v, h1, ga h2⟩
end
end MM

namespace MM
open PySem PySem.Spec PyProof.Rows L2

/-! ### expressions -/
structure PD (W : WX) (E : EW) (X : Cx) (e : Expr) (f : DTE) : Prop where
  ex : ∃ te, PE X e te ∧ ∀ {F : Fg} {σ : L2.St} {δ : DSt} {H : Hp} {Q : VK} {C : Ar → DSt → Prop}, RepS W E X.K X.mg F σ δ H → f δ C →
    (∀ a δ' F' H' v, RepS W E X.K X.mg F' σ δ' H' → Stp F H F' H' → ArRep X.K F' v a → C a δ' → Q v H') → te σ H Q
structure PDT (W : WX) (E : EW) (X : Cx) (e : Expr) (f : DTT) : Prop where
  ex : ∃ te, PT X e te ∧ ∀ {F : Fg} {σ : L2.St} {δ : DSt} {H : Hp} {Q : Bool → Hp → Prop} {C : Bool → DSt → Prop}, RepS W E X.K X.mg F σ δ H → f δ C →
    (∀ a δ' F' H', RepS W E X.K X.mg F' σ δ' H' → Stp F H F' H' → C a δ' → Q a H') → te σ H Q
structure PDW (W : WX) (E : EW) (X : Cx) (e : Expr) (f : DTT) : Prop where
  ex : ∃ te, PW X e te ∧ ∀ {F : Fg} {σ : L2.St} {δ : DSt} {H : Hp} {Q : Bool → Hp → Prop} {C : Bool → DSt → Prop}, RepS W E X.K X.mg F σ δ H → f δ C →
    (∀ a δ' F' H', RepS W E X.K X.mg F' σ δ' H' → Stp F H F' H' → C a δ' → Q a H') → te σ H Q
structure PDA (W : WX) (E : EW) (X : Cx) (es : List Expr) (f : DTA) : Prop where
  ex : ∃ ta, PA X es ta ∧ ∀ {F : Fg} {σ : L2.St} {δ : DSt} {H : Hp} {Q : List V → Hp → Prop} {C : List Ar → DSt → Prop}, RepS W E X.K X.mg F σ δ H → f δ C →
    (∀ as δ' F' H' vs, RepS W E X.K X.mg F' σ δ' H' → Stp F H F' H' → ArsRep X.K F' vs as → C as δ' → Q vs H') → ta σ H Q
/-- an expression that gives a new list, nobody else's -/
structure PDN (W : WX) (E : EW) (X : Cx) (e : Expr) (f : DSt → (List PyData → DSt → Prop) → Prop) : Prop where
  ex : ∃ te, PE X e te ∧ ∀ {F : Fg} {σ : L2.St} {δ : DSt} {H : Hp} {Q : VK} {C : List PyData → DSt → Prop}, RepS W E X.K X.mg F σ δ H → f δ C →
    (∀ xs δ' F' H' l ws, RepS W E X.K X.mg F' σ δ' H' → Stp F H F' H' → F'.f l = none → H l = none → l ∉ F'.g → H' l = some (.lst ws) → DpAll X.K F' ws xs → C xs δ' → Q (.ref l) H') → te σ H Q

def dVar (i : Nat) : DTE := fun δ C => match δ.s[i]? with
  | some (some a) => C a δ
  | _ => False
def dC (d : PyData) : DTE := fun δ C => C (.val d) δ
/-- the data that a list of the store holds -/
def cont (δ : DSt) (i : Nat) : Option (List PyData) := match δ.m[i]? with
  | some (.fl xs) => some xs
  | _ => none
theorem cont_at {δ : DSt} {i : Nat} {xs : List PyData} (h : cont δ i = some xs) : δ.m[i]? = some (.fl xs) := by
  unfold cont at h
  split at h
  · cases h; assumption
  · cases h
/-- the data of what an expression gave, as it is now -/
def rd (δ : DSt) : Ar → Option PyData
  | .val d => some d
  | .sl i => (cont δ i).map PyData.list
/-- .. of frozen data alone -/
def rv : Ar → Option PyData
  | .val d => some d
  | .sl _ => none
section
variable {W : WX} {E : EW} {mg : Str → Option Value} {X : Cx} {K : PySem.W.Frag} {F : Fg} {H : Hp} {σ : L2.St} {δ : DSt}
theorem RepS.own (R : RepS W E K mg F σ δ H) {i : Nat} {xs : List PyData} (h : cont δ i = some xs) : ∃ l vs, F.g[i]? = some l ∧ F.f l = none ∧ H l = some (.lst vs) ∧ DpAll K F.f vs xs := by
  obtain ⟨l, h1, h2, vs, h3, h4⟩ := R.sto.at (cont_at h) rfl
  exact ⟨l, vs, h1, h2, h3, h4⟩
theorem ArRep.rd (R : RepS W E K mg F σ δ H) {v : V} {a : Ar} {d : PyData} (h : ArRep K F v a) (e : MM.rd δ a = some d) : Dp K H v d := by
  cases a with
  | val d' =>
    cases e
    exact Dp.mono R.sto.sub _ _ h
  | sl i =>
    have e : (cont δ i).map PyData.list = some d := e
    cases q : cont δ i with
    | none => rw [q] at e; cases e
    | some xs =>
      rw [q] at e
      cases e
      obtain ⟨l, vs, h1, _, h3, h4⟩ := R.own q
      obtain ⟨l', g1, rfl⟩ := h
      rw [h1] at g1
      cases g1
      exact .lst (SqL.of h3) (Dp.monoAll R.sto.sub _ _ h4)
theorem ArRep.rv {v : V} {a : Ar} {d : PyData} (h : ArRep K F v a) (e : MM.rv a = some d) : Dp K F v d := by
  cases a with
  | val d' => cases e; exact h
  | sl i => cases e
theorem pd_var (i : Nat) {x : Str} {pos : Pos} (hN : X.N[i]? = some x := by rfl) (hv : Vis X.env.scope x := by first | exact Or.inl rfl | exact Or.inr (Or.inl rfl) | exact Or.inr (Or.inr rfl)) (hd : (x == ("__debug__" : Str)) = false := by decide)
    (hcd : (x == ("__classdict__" : Str)) = false := by decide) : PD W E X (.Name x pos) (dVar i) := by
  refine ⟨_, pv i hN hv hd hcd, fun {F σ δ H Q C} R h k => ?_⟩
  unfold dVar at h
  split at h
  · rename_i a ha
    obtain ⟨v, h1, h2⟩ := R.slot i a ha
    exact ⟨v, h1, k a _ _ _ _ R .refl h2 h⟩
  · exact h.elim
theorem pd_c {e : Expr} {v : V} {d : PyData} (h : PE X e (tC v)) (hd : ∀ F, Dp X.K F v d) : PD W E X e (dC d) :=
  ⟨_, h, fun R c k => k (.val d) _ _ _ _ R .refl (hd _) c⟩
theorem pd_int {i j pos} : PD W E X (.Constant (.int i) j pos) (dC (.int i)) := pd_c pe_int fun _ => .int i
theorem pd_str {x j pos} : PD W E X (.Constant (.str x) j pos) (dC (.str x)) := pd_c pe_str fun _ => .str x
theorem pd_bl {b j pos} : PD W E X (.Constant (.bool b) j pos) (dC (.bool b)) := pd_c pe_bl fun _ => .bl b
theorem pd_non {j pos} : PD W E X (.Constant .none j pos) (dC .none) := pd_c pe_non fun _ => .non
theorem pd_globS {x : Str} {z : Str} {t : Tok} {pos : Pos} (hg : Gl X x) (hm : X.mg x = some (.str z t)) (hd : (x == ("__debug__" : Str)) = false := by decide) : PD W E X (.Name x pos) (dC (.str z)) := pd_c (v := .str z) (pe_glob hg hm ⟨_, rfl⟩ hd) fun _ => .str z
theorem pd_globI {x : Str} {z : Int} {t : Tok} {pos : Pos} (hg : Gl X x) (hm : X.mg x = some (.int z t)) (hd : (x == ("__debug__" : Str)) = false := by decide) : PD W E X (.Name x pos) (dC (.int z)) := pd_c (v := .int z) (pe_glob hg hm ⟨_, rfl⟩ hd) fun _ => .int z
/-- a module's tuple -/
theorem pd_globT {x : Str} {a : Addr} {d : PyData} {pos : Pos} (hg : Gl X x) (hm : X.mg x = some (.ref a)) (hT : ∀ F, Dp X.K F (.ref a) d) (hd : (x == ("__debug__" : Str)) = false := by decide) : PD W E X (.Name x pos) (dC d) := pd_c (v := .ref a) (pe_glob hg hm rfl hd) hT

/-! ### argument lists -/
def dNil : DTA := fun δ C => C [] δ
def dCons (f : DTE) (g : DTA) : DTA := fun δ C => f δ fun a δ1 => g δ1 fun as δ2 => C (a :: as) δ2
theorem pda_nil : PDA W E X [] dNil := ⟨_, pa_nil, fun R c k => k [] _ _ _ _ R .refl trivial c⟩
theorem pda_cons {e : Expr} {es : List Expr} {f : DTE} {g : DTA} (h1 : PD W E X e f) (h2 : PDA W E X es g) (hs : starEach (e :: es) X.env = (false, eval e X.env) :: starEach es X.env := by rfl) : PDA W E X (e :: es) (dCons f g) := by
  obtain ⟨te, p1, q1⟩ := h1
  obtain ⟨ta, p2, q2⟩ := h2
  refine ⟨_, pa_cons p1 p2 hs, fun R c k => ?_⟩
  refine q1 R c fun a δ1 F1 H1 v R1 s1 r1 c1 => ?_
  refine q2 R1 c1 fun as δ2 F2 H2 vs R2 s2 r2 c2 => ?_
  exact k (a :: as) _ _ _ _ R2 (s1.trans s2) ⟨r1.step s2, r2⟩ c2
/-- frozen data only -/
def rvs : List Ar → Option (List PyData)
  | [] => some []
  | .val d :: as => match rvs as with
    | some ds => some (d :: ds)
    | none => none
  | .sl _ :: _ => none
theorem ArsRep.rvs : ∀ {vs : List V} {as : List Ar} {ds : List PyData}, ArsRep K F vs as → MM.rvs as = some ds → DpAll K F vs ds
  | [], [], ds, _, e => by cases e; exact .nil
  | v :: vs, .val d :: as, ds, h, e => by
    unfold MM.rvs at e
    split at e
    · cases e; exact .cons h.1 (ArsRep.rvs h.2 ‹_›)
    · cases e
  | _ :: _, .sl _ :: _, _, _, e => by cases e
  | [], _ :: _, _, h, _ => h.elim
  | _ :: _, [], _, h, _ => h.elim

/-! ### two-place operators -/
abbrev DOp := PyData → PyData → (PyData → Prop) → Prop
def OpD (W : WX) (E : EW) (X : Cx) (f : Value → Value → Sem Value) (r : DOp) : Prop :=
  ∃ r' : R2, OpR X f r' ∧ ∀ {F : Fg} {σ : L2.St} {δ : DSt} {H : Hp} {x y : V} {d e : PyData} {Q : VK} {C : PyData → Prop}, RepS W E X.K X.mg F σ δ H → Dp X.K F x d → Dp X.K F y e → r d e C →
    (∀ z F' H' v, RepS W E X.K X.mg F' σ δ H' → Stp F H F' H' → Dp X.K F' v z → C z → Q v H') → r' x y H Q
theorem OpR.or {f : Value → Value → Sem Value} {r r' : R2} (h : OpR X f r) (h' : OpR X f r') : OpR X f (fun x y H Q => r x y H Q ∨ r' x y H Q) := by
  intro pins s σ H x y v u Q I rx ry q
  rcases q with q | q
  · exact h pins s σ H x y v u Q I rx ry q
  · exact h' pins s σ H x y v u Q I rx ry q
def dBin (r : DOp) (fa fb : DTE) : DTE := fun δ C => fa δ fun a δ1 => fb δ1 fun b δ2 => match rv a, rv b with
  | some d, some e => r d e fun z => C (.val z) δ2
  | _, _ => False
theorem pd_op {a b : Expr} {op : Operator} {r : DOp} {fa fb : DTE} {pos : Pos} (ho : OpD W E X (binaryOp op) r) (ha : PD W E X a fa) (hb : PD W E X b fb) : PD W E X (.BinOp a op b pos) (dBin r fa fb) := by
  obtain ⟨r', o1, o2⟩ := ho
  obtain ⟨te, p1, q1⟩ := ha
  obtain ⟨tb, p2, q2⟩ := hb
  refine ⟨_, pe_op o1 p1 p2, fun R c k => ?_⟩
  refine q1 R c fun a δ1 F1 H1 v R1 s1 r1 c1 => ?_
  refine q2 R1 c1 fun b δ2 F2 H2 w R2 s2 r2 c2 => ?_
  split at c2
  · rename_i d e h1 h2
    exact o2 R2 ((r1.step s2).rv h1) (r2.rv h2) c2 fun z F' H' v R3 s3 r3 c3 => k (.val z) _ _ _ _ R3 ((s1.trans s2).trans s3) r3 c3
  · exact c2.elim
/-- comparisons: the data as they are now -/
def OpC (X : Cx) (f : Value → Value → Sem Value) (r : PyData → PyData → (Bool → Prop) → Prop) : Prop :=
  ∃ r' : R2, OpR X f r' ∧ ∀ {H : Hp} {x y : V} {d e : PyData} {Q : VK} {C : Bool → Prop}, Dp X.K H x d → Dp X.K H y e → r d e C → (∀ b, C b → Q (.bl b) H) → r' x y H Q
abbrev DCp := PyData → PyData → (Bool → Prop) → Prop
def dCmp (r : DCp) (fa fb : DTE) : DTT := fun δ C => fa δ fun a δ1 => fb δ1 fun b δ2 => match rd δ2 a, rd δ2 b with
  | some d, some e => r d e fun z => C z δ2
  | _, _ => False
def dB (t : DTT) : DTE := fun δ C => t δ fun b δ1 => C (.val (.bool b)) δ1
/-- an operand stays what it is while the next one is reckoned -/
theorem pd_cmpCore {a b : Expr} {op : CmpOp} {r : DCp} {fa fb : DTE} {pos : Pos} (ho : OpC X (compareOp op) r) (ha : PD W E X a fa) (hb : PD W E X b fb) (hm : behindInMarks op b = false) :
    ∃ te, PE X (.Compare a [op] [b] pos) te ∧ ∀ {F : Fg} {σ : L2.St} {δ : DSt} {H : Hp} {Q : VK} {C : Bool → DSt → Prop}, RepS W E X.K X.mg F σ δ H → dCmp r fa fb δ C →
      (∀ z δ' F' H', RepS W E X.K X.mg F' σ δ' H' → Stp F H F' H' → C z δ' → Q (.bl z) H') → te σ H Q := by
  obtain ⟨r', o1, o2⟩ := ho
  obtain ⟨te, p1, q1⟩ := ha
  obtain ⟨tb, p2, q2⟩ := hb
  refine ⟨_, pe_cmpR o1 p1 p2 hm, fun R c k => ?_⟩
  refine q1 R c fun a δ1 F1 H1 v R1 s1 r1 c1 => ?_
  refine q2 R1 c1 fun b δ2 F2 H2 w R2 s2 r2 c2 => ?_
  split at c2
  · rename_i d e h1 h2
    exact o2 ((r1.step s2).rd R2 h1) (r2.rd R2 h2) c2 fun z c3 => k _ _ _ _ R2 (s1.trans s2) c3
  · exact c2.elim
theorem pd_cmp {a b : Expr} {op : CmpOp} {r : DCp} {fa fb : DTE} {pos : Pos} (ho : OpC X (compareOp op) r) (ha : PD W E X a fa) (hb : PD W E X b fb) (hm : behindInMarks op b = false := by first | exact nomark _ | rfl) : PD W E X (.Compare a [op] [b] pos) (dB (dCmp r fa fb)) := by
  obtain ⟨te, p, q⟩ := pd_cmpCore ho ha hb hm
  exact ⟨te, p, fun R c k => q R c fun z δ' F' H' R' s' c' => k (.val (.bool z)) _ _ _ _ R' s' (Dp.bl z) c'⟩
theorem pdt_cmp {a b : Expr} {op : CmpOp} {r : DCp} {fa fb : DTE} {pos : Pos} (ho : OpC X (compareOp op) r) (ha : PD W E X a fa) (hb : PD W E X b fb) (hm : behindInMarks op b = false := by first | exact nomark _ | rfl) : PDT W E X (.Compare a [op] [b] pos) (dCmp r fa fb) := by
  obtain ⟨r', o1, o2⟩ := ho
  obtain ⟨te, p1, q1⟩ := ha
  obtain ⟨tb, p2, q2⟩ := hb
  refine ⟨_, pt_cmpR o1 p1 p2 hm, fun R c k => ?_⟩
  refine q1 R c fun a δ1 F1 H1 v R1 s1 r1 c1 => ?_
  refine q2 R1 c1 fun b δ2 F2 H2 w R2 s2 r2 c2 => ?_
  split at c2
  · rename_i d e h1 h2
    exact o2 ((r1.step s2).rd R2 h1) (r2.rd R2 h2) c2 fun z c3 => ⟨z, rfl, k _ _ _ _ R2 (s1.trans s2) c3⟩
  · exact c2.elim

/-! ### tests -/
def dT (f : DTE) : DTT := fun δ C => f δ fun a δ1 => match rd δ1 a with
  | some (.bool b) => C b δ1
  | _ => False
/-- an expression that gives True or False, as a test -/
theorem pdt_val {e : Expr} {f : DTE} (h : PD W E X e f) (he : ∀ whole, isTrue e X.env whole = (do let v ← whole; standAt e.pos; holding [v] (truthy v)) := by intro _; rfl) : PDT W E X e (dT f) := by
  obtain ⟨te, p, q⟩ := h
  refine ⟨_, pt_val p he, fun R c k => ?_⟩
  refine q R c fun a δ1 F1 H1 v R1 s1 r1 c1 => ?_
  split at c1
  · rename_i b hb
    have := r1.rd R1 hb
    cases this
    exact ⟨b, rfl, k _ _ _ _ R1 s1 c1⟩
  · exact c1.elim
def truD : PyData → (Bool → Prop) → Prop
  | .none, C => C false
  | .bool b, C => C b
  | .int i, C => C (i != 0)
  | .str z, C => z.length ≤ sizeLine ∧ C ((z.length : Int) != 0)
  | .list xs, C => C (!xs.isEmpty)
  | .tuple xs, C => C (!xs.isEmpty)
  | _, _ => False
def dTru (f : DTE) : DTT := fun δ C => f δ fun a δ1 => match rd δ1 a with
  | some d => truD d fun b => C b δ1
  | _ => False
theorem empty_iff {K : PySem.W.Frag} {F : Hp} {vs : List V} {xs : List PyData} (h : DpAll K F vs xs) : vs.isEmpty = xs.isEmpty := by
  cases h <;> rfl
theorem pdt_tru {e : Expr} {f : DTE} (h : PD W E X e f) (he : ∀ whole, isTrue e X.env whole = (do let v ← whole; standAt e.pos; holding [v] (truthy v)) := by intro _; rfl) : PDT W E X e (dTru f) := by
  obtain ⟨te, p, q⟩ := h
  refine ⟨_, pt_truth p he, fun R c k => ?_⟩
  refine q R c fun a δ1 F1 H1 v R1 s1 r1 c1 => ?_
  split at c1
  · rename_i d hb
    have hd := r1.rd R1 hb
    cases d with
    | none => cases hd; exact ⟨_, rfl, k _ _ _ _ R1 s1 c1⟩
    | bool b => cases hd; exact ⟨_, rfl, k _ _ _ _ R1 s1 c1⟩
    | int i => cases hd; exact ⟨_, rfl, k _ _ _ _ R1 s1 c1⟩
    | str z => cases hd; exact ⟨_, ⟨c1.1, rfl⟩, k _ _ _ _ R1 s1 c1.2⟩
    | list xs =>
      cases hd with
      | lst hs ha => exact ⟨_, .inl ⟨_, hs, rfl⟩, k _ _ _ _ R1 s1 (by rw [empty_iff ha]; exact c1)⟩
    | tuple xs =>
      cases hd with
      | tup hs ha => exact ⟨_, .inr (.inl ⟨_, hs, rfl⟩), k _ _ _ _ R1 s1 (by rw [empty_iff ha]; exact c1)⟩
    | dict _ => cases hd
  · exact c1.elim
def dNot (t : DTT) : DTT := fun δ C => t δ fun b δ1 => C (!b) δ1
def dAnd (t u : DTT) : DTT := fun δ C => t δ fun b δ1 => (b = true → u δ1 C) ∧ (b = false → C false δ1)
def dOr (t u : DTT) : DTT := fun δ C => t δ fun b δ1 => (b = true → C true δ1) ∧ (b = false → u δ1 C)
theorem pdt_not {a : Expr} {t : DTT} {pos : Pos} (h : PDT W E X a t) : PDT W E X (.UnaryOp .Not a pos) (dNot t) := by
  obtain ⟨te, p, q⟩ := h
  exact ⟨_, pt_not p, fun R c k => q R c fun b δ1 F1 H1 R1 s1 c1 => k _ _ _ _ R1 s1 c1⟩
theorem PDW.pt {e : Expr} {t : DTT} (h : PDW W E X e t) : PDT W E X e t := by
  obtain ⟨te, p, q⟩ := h
  exact ⟨_, p.pt, q⟩
theorem pdw_and1 {a : Expr} {t : DTT} {pos : Pos} (h : PDT W E X a t) : PDW W E X (.BoolOp .And [a] pos) t := by
  obtain ⟨te, p, q⟩ := h
  exact ⟨_, pw_and1 p, q⟩
theorem pdw_or1 {a : Expr} {t : DTT} {pos : Pos} (h : PDT W E X a t) : PDW W E X (.BoolOp .Or [a] pos) t := by
  obtain ⟨te, p, q⟩ := h
  exact ⟨_, pw_or1 p, q⟩
theorem pdw_and {a b : Expr} {rest : List Expr} {t u : DTT} {pos : Pos} (h : PDT W E X a t) (h2 : PDW W E X (.BoolOp .And (b :: rest) pos) u) : PDW W E X (.BoolOp .And (a :: b :: rest) pos) (dAnd t u) := by
  obtain ⟨te, p, q⟩ := h
  obtain ⟨tf, p2, q2⟩ := h2
  refine ⟨_, pw_and p p2, fun R c k => ?_⟩
  refine q R c fun b δ1 F1 H1 R1 s1 c1 => ?_
  cases b with
  | true => exact iteT (q2 R1 (c1.1 rfl) fun b δ2 F2 H2 R2 s2 c2 => k _ _ _ _ R2 (s1.trans s2) c2)
  | false => exact iteF (k _ _ _ _ R1 s1 (c1.2 rfl))
theorem pdw_or {a b : Expr} {rest : List Expr} {t u : DTT} {pos : Pos} (h : PDT W E X a t) (h2 : PDW W E X (.BoolOp .Or (b :: rest) pos) u) : PDW W E X (.BoolOp .Or (a :: b :: rest) pos) (dOr t u) := by
  obtain ⟨te, p, q⟩ := h
  obtain ⟨tf, p2, q2⟩ := h2
  refine ⟨_, pw_or p p2, fun R c k => ?_⟩
  refine q R c fun b δ1 F1 H1 R1 s1 c1 => ?_
  cases b with
  | true => exact iteT (k _ _ _ _ R1 s1 (c1.1 rfl))
  | false => exact iteF (q2 R1 (c1.2 rfl) fun b δ2 F2 H2 R2 s2 c2 => k _ _ _ _ R2 (s1.trans s2) c2)
/-- as values: bools -/
def dAndV (f g : DTE) : DTE := fun δ C => f δ fun a δ1 => match a with
  | .val (.bool b) => (b = true → g δ1 C) ∧ (b = false → C (.val (.bool false)) δ1)
  | _ => False
def dOrV (f g : DTE) : DTE := fun δ C => f δ fun a δ1 => match a with
  | .val (.bool b) => (b = true → C (.val (.bool true)) δ1) ∧ (b = false → g δ1 C)
  | _ => False
def dNotV (f : DTE) : DTE := fun δ C => f δ fun a δ1 => match a with
  | .val (.bool b) => C (.val (.bool (!b))) δ1
  | _ => False
theorem pd_one {op} {a : Expr} {f : DTE} {pos : Pos} (h : PD W E X a f) : PD W E X (.BoolOp op [a] pos) f := by
  obtain ⟨te, p, q⟩ := h
  exact ⟨_, pe_one p, q⟩
theorem pd_and {a b : Expr} {rest : List Expr} {f g : DTE} {pos : Pos} (h : PD W E X a f) (h2 : PD W E X (.BoolOp .And (b :: rest) pos) g) : PD W E X (.BoolOp .And (a :: b :: rest) pos) (dAndV f g) := by
  obtain ⟨te, p, q⟩ := h
  obtain ⟨tf, p2, q2⟩ := h2
  refine ⟨_, pe_and p p2, fun R c k => ?_⟩
  refine q R c fun a δ1 F1 H1 v R1 s1 r1 c1 => ?_
  split at c1
  · rename_i b
    cases (show Dp X.K F1 v (.bool b) from r1)
    refine ⟨b, rfl, ?_⟩
    cases b with
    | true => exact iteT (q2 R1 (c1.1 rfl) fun b δ2 F2 H2 v2 R2 s2 r2 c2 => k _ _ _ _ _ R2 (s1.trans s2) r2 c2)
    | false => exact iteF (k (.val (.bool false)) _ _ _ _ R1 s1 (Dp.bl false) (c1.2 rfl))
  · exact c1.elim
theorem pd_or {a b : Expr} {rest : List Expr} {f g : DTE} {pos : Pos} (h : PD W E X a f) (h2 : PD W E X (.BoolOp .Or (b :: rest) pos) g) : PD W E X (.BoolOp .Or (a :: b :: rest) pos) (dOrV f g) := by
  obtain ⟨te, p, q⟩ := h
  obtain ⟨tf, p2, q2⟩ := h2
  refine ⟨_, pe_or p p2, fun R c k => ?_⟩
  refine q R c fun a δ1 F1 H1 v R1 s1 r1 c1 => ?_
  split at c1
  · rename_i b
    cases (show Dp X.K F1 v (.bool b) from r1)
    refine ⟨b, rfl, ?_⟩
    cases b with
    | true => exact iteT (k (.val (.bool true)) _ _ _ _ R1 s1 (Dp.bl true) (c1.1 rfl))
    | false => exact iteF (q2 R1 (c1.2 rfl) fun b δ2 F2 H2 v2 R2 s2 r2 c2 => k _ _ _ _ _ R2 (s1.trans s2) r2 c2)
  · exact c1.elim
theorem pd_not {a : Expr} {f : DTE} {pos : Pos} (h : PD W E X a f) : PD W E X (.UnaryOp .Not a pos) (dNotV f) := by
  obtain ⟨te, p, q⟩ := h
  refine ⟨_, pe_not p, fun R c k => ?_⟩
  refine q R c fun a δ1 F1 H1 v R1 s1 r1 c1 => ?_
  split at c1
  · rename_i b
    cases (show Dp X.K F1 v (.bool b) from r1)
    exact ⟨b, rfl, k (.val (.bool (!b))) _ _ _ _ R1 s1 (Dp.bl _) c1⟩
  · exact c1.elim
def dIfE (t : DTT) (f g : DTE) : DTE := fun δ C => t δ fun b δ1 => (b = true → f δ1 C) ∧ (b = false → g δ1 C)
theorem pd_if {c a b : Expr} {t : DTT} {f g : DTE} {pos : Pos} (hc : PDT W E X c t) (ha : PD W E X a f) (hb : PD W E X b g) : PD W E X (.IfExp c a b pos) (dIfE t f g) := by
  obtain ⟨tc, p, q⟩ := hc
  obtain ⟨ta, pa, qa⟩ := ha
  obtain ⟨tb, pb, qb⟩ := hb
  refine ⟨_, pe_ifExp p pa pb, fun R c k => ?_⟩
  refine q R c fun b δ1 F1 H1 R1 s1 c1 => ?_
  cases b with
  | true => exact iteT (qa R1 (c1.1 rfl) fun b δ2 F2 H2 v2 R2 s2 r2 c2 => k _ _ _ _ _ R2 (s1.trans s2) r2 c2)
  | false => exact iteF (qb R1 (c1.2 rfl) fun b δ2 F2 H2 v2 R2 s2 r2 c2 => k _ _ _ _ _ R2 (s1.trans s2) r2 c2)

/-! ### displays -/
def dTup (f : DTA) : DTE := fun δ C => f δ fun as δ1 => match rvs as with
  | some ds => ds.length ≤ sizeLine ∧ C (.val (.tuple ds)) δ1
  | none => False
theorem pd_tup {es : List Expr} {x1} {f : DTA} {pos : Pos} (h : PDA W E X es f) : PD W E X (.Tuple es x1 pos) (dTup f) := by
  obtain ⟨ta, p, q⟩ := h
  refine ⟨_, pe_tup p, fun R c k => ?_⟩
  refine q R c fun as δ1 F1 H1 vs R1 s1 r1 c1 => ?_
  split at c1
  · rename_i ds hd
    have hA := r1.rvs hd
    refine ⟨by rw [hA.length]; exact c1.1, fun p np => ?_⟩
    obtain ⟨R2, s2⟩ := R1.alloc (o := .tup vs) np
    exact k (.val (.tuple ds)) _ _ _ _ R2 (s1.trans s2) (Dp.tup (SqT.of upd_same) (Dp.monoAll s2.ext _ _ hA)) c1.2
  · exact c1.elim
def dLstN (f : DTA) : DSt → (List PyData → DSt → Prop) → Prop := fun δ C => f δ fun as δ1 => match rvs as with
  | some ds => ds.length ≤ sizeLine ∧ C ds δ1
  | none => False
/-- a heap with a new list, not frozen -/
theorem RepS.fresh {p : Addr} {o : HO} (R : RepS W E K mg F σ δ H) (n : H p = none) : RepS W E K mg F σ δ (upd H p o) ∧ Stp F H F (upd H p o) ∧ F.f p = none ∧ p ∉ F.g := by
  have nF : F.f p = none := R.sto.sub.free n
  obtain ⟨R2, s2⟩ := R.grow (H' := upd H p o) fun b u e => by rw [upd_ne (ne_of_none e n)]; exact e
  refine ⟨R2, s2, nF, fun h => ?_⟩
  obtain ⟨u, e⟩ := R.sto.liveAt h nF
  rw [n] at e; cases e
theorem pdn_lst {es : List Expr} {f : DTA} {pos : Pos} (h : PDA W E X es f) : PDN W E X (.List es pos) (dLstN f) := by
  obtain ⟨ta, p, q⟩ := h
  refine ⟨_, pe_lst p, fun {F σ δ H Q C} R c k => ?_⟩
  refine q R c fun as δ1 F1 H1 vs R1 s1 r1 c1 => ?_
  split at c1
  · rename_i ds hd
    have hA := r1.rvs hd
    refine ⟨by rw [hA.length]; exact c1.1, fun p np => ?_⟩
    obtain ⟨R2, s2, nF, nO⟩ := R1.fresh (o := .lst vs) np
    exact k _ _ _ _ _ _ R2 (s1.trans s2) nF (s1.dom _ np) nO upd_same hA c1.2
  · exact c1.elim
/-- a new list becomes frozen data -/
def dFr (f : DSt → (List PyData → DSt → Prop) → Prop) : DTE := fun δ C => f δ fun xs δ1 => C (.val (.list xs)) δ1
theorem pd_new {e : Expr} {f : DSt → (List PyData → DSt → Prop) → Prop} (h : PDN W E X e f) : PD W E X e (dFr f) := by
  obtain ⟨te, p, q⟩ := h
  refine ⟨te, p, fun {F σ δ H Q C} R c k => ?_⟩
  refine q R c fun xs δ1 F1 H1 l ws R1 s1 nF nH nO hH hA c1 => ?_
  obtain ⟨R2, s2, hD⟩ := R.freezeNew s1 R1.toRepC nH nF nO hH hA
  exact k (.val (.list xs)) _ _ _ _ R2 s2 hD c1
/-- a new list goes to the store -/
def dNw (f : DSt → (List PyData → DSt → Prop) → Prop) : DTE := fun δ C => f δ fun xs δ1 => C (.sl δ1.m.length) ⟨δ1.s, δ1.m ++ [.fl xs]⟩
theorem pd_newS {e : Expr} {f : DSt → (List PyData → DSt → Prop) → Prop} (h : PDN W E X e f) : PD W E X e (dNw f) := by
  obtain ⟨te, p, q⟩ := h
  refine ⟨te, p, fun {F σ δ H Q C} R c k => ?_⟩
  refine q R c fun xs δ1 F1 H1 l ws R1 s1 nF nH nO hH hA c1 => ?_
  obtain ⟨R2, s2⟩ := R.adopt (o := .fl xs) s1 R1.toRepC nH nF nO rfl ⟨ws, hH, hA⟩
  refine k (.sl δ1.m.length) _ _ _ _ R2 s2 ⟨l, ?_, rfl⟩ c1
  show (F1.g ++ [l])[δ1.m.length]? = some l
  rw [List.getElem?_append_right (by rw [R1.sto.glen]; exact Nat.le_refl _), R1.sto.glen, Nat.sub_self]; rfl
end
end MM

namespace MM
open PySem PySem.Spec PyProof.Rows L2
section
variable {W : WX} {E : EW} {mg : Str → Option Value} {X : Cx} {K : PySem.W.Frag} {F : Fg} {H : Hp} {σ : L2.St} {δ : DSt}

/-! ### arithmetic -/
def aAdd : DOp := fun d e C => match d, e with
  | .int i, .int j => C (.int (i + j))
  | .str a, .str b => a.length + b.length ≤ sizeLine ∧ C (.str (a ++ b))
  | .tuple xs, .tuple ys => xs.length + ys.length ≤ sizeLine ∧ C (.tuple (xs ++ ys))
  | _, _ => False
theorem od_add : OpD W E X (binaryOp .Add) aAdd := by
  refine ⟨_, OpR.or op_add (OpR.or op_add_str op_catA), fun {F σ δ H x y d e Q C} R hx hy c k => ?_⟩
  unfold aAdd at c
  split at c
  · cases hx; cases hy
    exact .inl ⟨_, _, rfl, rfl, k _ _ _ _ R .refl (.int _) c⟩
  · cases hx; cases hy
    exact .inr (.inl ⟨_, _, rfl, rfl, c.1, k _ _ _ _ R .refl (.str _) c.2⟩)
  · cases hx with
    | tup h1 a1 =>
      cases hy with
      | tup h2 a2 =>
        rename_i ds es a xs b ys
        refine .inr (.inr ⟨_, _, _, _, rfl, rfl, seqT R.sto.sub h1, seqT R.sto.sub h2, by rw [a1.length, a2.length]; exact c.1, fun e => ?_, fun n e => ?_, fun n m p np => ?_⟩)
        · subst e
          cases a1
          exact k _ _ _ _ R .refl (.tup h2 a2) c.2
        · subst e
          cases a2
          refine k _ _ _ _ R .refl (.tup h1 ?_) c.2
          rw [List.append_nil]
          exact a1
        · obtain ⟨R2, s2⟩ := R.alloc (o := .tup (xs ++ ys)) np
          exact k _ _ _ _ R2 s2 (.tup (SqT.of upd_same) (Dp.monoAll s2.ext _ _ (a1.append a2))) c.2
  · exact c.elim
def aSub : DOp := fun d e C => match d, e with
  | .int i, .int j => C (.int (i - j))
  | _, _ => False
theorem od_sub : OpD W E X (binaryOp .Sub) aSub := by
  refine ⟨_, op_sub, fun {F σ δ H x y d e Q C} R hx hy c k => ?_⟩
  unfold aSub at c
  split at c
  · cases hx; cases hy
    exact ⟨_, _, rfl, rfl, k _ _ _ _ R .refl (.int _) c⟩
  · exact c.elim
def aMod : DOp := fun d e C => match d, e with
  | .int i, .int j => 0 < j ∧ C (.int (i % j))
  | _, _ => False
theorem od_mod : OpD W E X (binaryOp .Mod) aMod := by
  refine ⟨_, op_mod, fun {F σ δ H x y d e Q C} R hx hy c k => ?_⟩
  unfold aMod at c
  split at c
  · cases hx; cases hy
    exact ⟨_, _, rfl, rfl, c.1, k _ _ _ _ R .refl (.int _) c.2⟩
  · exact c.elim
def aDiv : DOp := fun d e C => match d, e with
  | .int i, .int j => (0 < j ∧ j < 1073741824) ∧ C (.int (i / j))
  | _, _ => False
theorem od_div : OpD W E X (binaryOp .FloorDiv) aDiv := by
  refine ⟨_, op_fdiv, fun {F σ δ H x y d e Q C} R hx hy c k => ?_⟩
  unfold aDiv at c
  split at c
  · cases hx; cases hy
    exact ⟨_, _, rfl, rfl, c.1, k _ _ _ _ R .refl (.int _) c.2⟩
  · exact c.elim
def aPow : DOp := fun d e C => match d, e with
  | .int i, .int j => CPow i j ∧ C (.int (i ^ j.toNat))
  | _, _ => False
theorem od_pow : OpD W E X (binaryOp .Pow) aPow := by
  refine ⟨_, op_pow, fun {F σ δ H x y d e Q C} R hx hy c k => ?_⟩
  unfold aPow at c
  split at c
  · cases hx; cases hy
    exact ⟨_, _, rfl, rfl, c.1, k _ _ _ _ R .refl (.int _) c.2⟩
  · exact c.elim
/-- a text, n times -/
def strRep (a : Str) (n : Nat) : Str := ⟨(List.replicate n a.cps.toList).flatten.toArray⟩
theorem foldl_arr (x : Array Nat) : ∀ (n : Nat) (acc : Array Nat), ((List.replicate n x).foldl (· ++ ·) acc) = acc ++ (List.replicate n x.toList).flatten.toArray
  | 0, acc => by simp
  | n + 1, acc => by
    rw [List.replicate_succ, List.foldl_cons, foldl_arr x n (acc ++ x), List.replicate_succ, List.flatten_cons]
    apply Array.ext'
    simp
theorem op_mul_str : OpR X (binaryOp .Mult) (fun x y H Q => ∃ a n, x = .str a ∧ y = .int n ∧ -(2 ^ 62) ≤ n ∧ n < 2 ^ 62 ∧ a.length * n.toNat ≤ sizeLine ∧ Q (.str (strRep a n.toNat)) H) := by
  intro pins s σ H x y v u Q I rx ry h
  obtain ⟨a, n, rfl, rfl, h1, h2, hz, q⟩ := h
  obtain ⟨t, rfl⟩ := rx
  obtain ⟨t', rfl⟩ := ry
  have hs : sizeLine = 16777216 := sizeLine_eq
  refine PySem.P.mul_str ?_ (fun hn hb => ?_) (fun hn hb => ?_) ?_
  · rw [decide_eq_false (by omega), decide_eq_false (by omega)]; rfl
  · have hn0 : 0 < n := by omega
    have e : ((a.length * n.toNat : Nat) : Int) = (a.length : Int) * n := by
      rw [Int.natCast_mul, Int.toNat_of_nonneg (by omega)]
    intro hgt
    have h3 : (a.length : Int) * n ≤ 2 ^ 63 - 1 := by rw [← e]; omega
    have h4 : (a.length : Int) ≤ (2 ^ 63 - 1) / n := (Int.le_ediv_iff_mul_le hn0).mpr h3
    omega
  · unfold Builtin.Str.tooLong
    exact decide_eq_false (by omega)
  · have key : ∀ z : Str, z = strRep a n.toNat → ∀ (t : Tok) (k : Nat), EP X pins σ Q (.str z t) { s with toks := k } := fun z e t k => ⟨.str z, H, I.tok _, ⟨_, rfl⟩, by rw [e]; exact q⟩
    by_cases hn : n < 1
    · rw [if_pos hn]
      have e0 : n.toNat = 0 := by omega
      exact ⟨by decide, key _ (by rw [e0]; rfl) _ _⟩
    · rw [if_neg hn]
      by_cases hb : (n == 1 || a.length == 0) = true
      · rw [if_pos hb]
        refine key _ ?_ t s.toks
        rw [Bool.or_eq_true] at hb
        rcases hb with hb | hb
        · have e1 : n = 1 := by simpa using hb
          subst e1
          show a = strRep a 1
          unfold strRep
          simp
        · have e1 : a.cps.toList = [] := by
            have : a.cps.size = 0 := by simpa [Str.length] using hb
            simpa using this
          have e2 : ∀ m : Nat, (List.replicate m ([] : List Nat)).flatten = [] := fun m => by simp
          unfold strRep
          rw [e1, e2]
          refine TL.ext_tl ?_
          exact e1
      · rw [if_neg hb]
        have e : (⟨(List.replicate n.toNat a.cps).foldl (· ++ ·) #[]⟩ : Str) = strRep a n.toNat := by
          unfold strRep
          rw [foldl_arr]
          simp
        rw [e]
        have hl : (strRep a n.toNat).length ≤ sizeLine := by
          show ((List.replicate n.toNat a.cps.toList).flatten.toArray).size ≤ sizeLine
          rw [List.size_toArray, List.length_flatten, List.map_replicate, List.sum_replicate_nat, Array.length_toList]
          rw [Nat.mul_comm]
          exact hz
        exact ⟨by show (strRep a n.toNat).length ≤ sizeLine; exact hl, key _ rfl _ _⟩
def aMul : DOp := fun d e C => match d, e with
  | .int i, .int j => CMul i j ∧ C (.int (i * j))
  | .str a, .int n => -(2 ^ 62) ≤ n ∧ n < 2 ^ 62 ∧ a.length * n.toNat ≤ sizeLine ∧ C (.str (strRep a n.toNat))
  | _, _ => False
theorem od_mul : OpD W E X (binaryOp .Mult) aMul := by
  refine ⟨_, OpR.or op_mul op_mul_str, fun {F σ δ H x y d e Q C} R hx hy c k => ?_⟩
  unfold aMul at c
  split at c
  · cases hx; cases hy
    exact .inl ⟨_, _, rfl, rfl, c.1, k _ _ _ _ R .refl (.int _) c.2⟩
  · cases hx; cases hy
    exact .inr ⟨_, _, rfl, rfl, c.1, c.2.1, c.2.2.1, k _ _ _ _ R .refl (.str _) c.2.2.2⟩
  · exact c.elim
def aNeg : PyData → (PyData → Prop) → Prop := fun d C => match d with
  | .int i => C (.int (-i))
  | _ => False
def dUn (r : PyData → (PyData → Prop) → Prop) (f : DTE) : DTE := fun δ C => f δ fun a δ1 => match rv a with
  | some d => r d fun z => C (.val z) δ1
  | none => False
theorem pd_neg {a : Expr} {f : DTE} {pos : Pos} (h : PD W E X a f) : PD W E X (.UnaryOp .USub a pos) (dUn aNeg f) := by
  obtain ⟨te, p, q⟩ := h
  refine ⟨_, pe_un un_neg p, fun R c k => ?_⟩
  refine q R c fun a δ1 F1 H1 v R1 s1 r1 c1 => ?_
  split at c1
  · rename_i d hd
    have hd := r1.rv hd
    unfold aNeg at c1
    split at c1
    · cases hd
      exact ⟨_, rfl, k (.val (.int _)) _ _ _ _ R1 s1 (Dp.int _) c1⟩
    · exact c1.elim
  · exact c1.elim

/-! ### comparisons -/
def cLt : DCp := fun d e C => match d, e with
  | .int i, .int j => C (decide (i < j))
  | .str a, .str b => C (decide (a.cps.toList < b.cps.toList))
  | _, _ => False
def cLe : DCp := fun d e C => match d, e with
  | .int i, .int j => C (decide (i ≤ j))
  | .str a, .str b => C (!decide (b.cps.toList < a.cps.toList))
  | _, _ => False
def cGt : DCp := fun d e C => match d, e with
  | .int i, .int j => C (decide (j < i))
  | .str a, .str b => C (decide (b.cps.toList < a.cps.toList))
  | _, _ => False
def cGe : DCp := fun d e C => match d, e with
  | .int i, .int j => C (decide (j ≤ i))
  | .str a, .str b => C (!decide (a.cps.toList < b.cps.toList))
  | _, _ => False
theorem oc_lt : OpC X (compareOp .Lt) cLt := by
  refine ⟨_, OpR.or op_lt op_lt_str, fun {H x y d e Q C} hx hy c k => ?_⟩
  unfold cLt at c
  split at c
  · cases hx; cases hy; exact .inl ⟨_, _, rfl, rfl, k _ c⟩
  · cases hx; cases hy; exact .inr ⟨_, _, rfl, rfl, k _ c⟩
  · exact c.elim
theorem oc_le : OpC X (compareOp .LtE) cLe := by
  refine ⟨_, OpR.or op_le op_le_str, fun {H x y d e Q C} hx hy c k => ?_⟩
  unfold cLe at c
  split at c
  · cases hx; cases hy; exact .inl ⟨_, _, rfl, rfl, k _ c⟩
  · cases hx; cases hy; exact .inr ⟨_, _, rfl, rfl, k _ c⟩
  · exact c.elim
theorem oc_gt : OpC X (compareOp .Gt) cGt := by
  refine ⟨_, OpR.or op_gt op_gt_str, fun {H x y d e Q C} hx hy c k => ?_⟩
  unfold cGt at c
  split at c
  · cases hx; cases hy; exact .inl ⟨_, _, rfl, rfl, k _ c⟩
  · cases hx; cases hy; exact .inr ⟨_, _, rfl, rfl, k _ c⟩
  · exact c.elim
theorem oc_ge : OpC X (compareOp .GtE) cGe := by
  refine ⟨_, OpR.or op_ge op_ge_str, fun {H x y d e Q C} hx hy c k => ?_⟩
  unfold cGe at c
  split at c
  · cases hx; cases hy; exact .inl ⟨_, _, rfl, rfl, k _ c⟩
  · cases hx; cases hy; exact .inr ⟨_, _, rfl, rfl, k _ c⟩
  · exact c.elim
/-- two ints or two texts at once; any other data when they are of a known shape -/
def cEq (neg : Bool) : DCp := fun d e C => match d, e with
  | .int i, .int j => C (if neg then !decide (i = j) else decide (i = j))
  | .str a, .str b => C (if neg then !decide (a = b) else decide (a = b))
  | d, e => SeqAt.shaped d = true ∧ SeqAt.shaped e = true ∧ C (if neg then !PyData.eqv d e else PyData.eqv d e)
theorem decV_int {i j : Int} : decide (V.int i = V.int j) = decide (i = j) := by
  rw [dec_int, Bool.beq_eq_decide_eq]
theorem decV_str {i j : Str} : decide (V.str i = V.str j) = decide (i = j) := by
  rw [dec_str, Bool.beq_eq_decide_eq]
theorem oc_eq (hu : X.A.units + 64 < cLine) : OpC X (compareOp .Eq) (cEq false) := by
  refine ⟨_, OpR.or op_eq (op_eqD hu), fun {H x y d e Q C} hx hy c k => ?_⟩
  unfold cEq at c
  split at c
  · cases hx; cases hy; exact .inl ⟨rfl, by rw [decV_int]; exact k _ c⟩
  · cases hx; cases hy; exact .inl ⟨rfl, by rw [decV_str]; exact k _ c⟩
  · exact .inr ⟨_, _, hx, hy, c.1, c.2.1, k _ c.2.2⟩
theorem oc_ne (hu : X.A.units + 64 < cLine) : OpC X (compareOp .NotEq) (cEq true) := by
  refine ⟨_, OpR.or op_ne (op_neD hu), fun {H x y d e Q C} hx hy c k => ?_⟩
  unfold cEq at c
  split at c
  · cases hx; cases hy; exact .inl ⟨rfl, by rw [decV_int]; exact k _ c⟩
  · cases hx; cases hy; exact .inl ⟨rfl, by rw [decV_str]; exact k _ c⟩
  · exact .inr ⟨_, _, hx, hy, c.1, c.2.1, k _ c.2.2⟩
def flatD : PyData → Bool
  | .none => true
  | .bool _ => true
  | .int _ => true
  | .str _ => true
  | _ => false
theorem flat_of {K : PySem.W.Frag} {F : Hp} {v : V} {d : PyData} (h : Dp K F v d) (f : flatD d = true) : flatV v = true := by
  cases h <;> first | rfl | cases f
theorem eqV_of {K : PySem.W.Frag} {F : Hp} {v w : V} {d e : PyData} (h : Dp K F v d) (g : Dp K F w e) (fd : flatD d = true) (fe : flatD e = true) : eqV v w = PyData.eqv d e := by
  cases h <;> (try (simp [flatD] at fd; done)) <;> cases g <;> (try (simp [flatD] at fe; done)) <;> simp [eqV, PyData.eqv]
theorem inV_of {K : PySem.W.Frag} {F : Hp} {x : V} {d : PyData} (h : Dp K F x d) (fd : flatD d = true) : ∀ {vs : List V} {ds : List PyData}, DpAll K F vs ds → ds.all flatD = true → vs.all flatV = true ∧ inV x vs = ds.any (fun e => PyData.eqv e d)
  | _, _, .nil, _ => ⟨rfl, rfl⟩
  | v :: vs, e :: ds, .cons h1 h2, f => by
    rw [List.all_cons, Bool.and_eq_true] at f
    obtain ⟨g1, g2⟩ := inV_of h fd h2 f.2
    refine ⟨by rw [List.all_cons, flat_of h1 f.1, g1]; rfl, ?_⟩
    unfold inV at g2 ⊢
    rw [List.any_cons, List.any_cons, eqV_of h1 h f.1 fd, g2]
/-- x in a text (one sign), in a list or tuple of flat things -/
def cIn (neg : Bool) : DCp := fun d e C => match d, e with
  | .str a, .str b => match a.cps.toList with
    | [c] => C (if neg then !decide (c ∈ b.cps.toList) else decide (c ∈ b.cps.toList))
    | _ => False
  | d, .list ds => flatD d = true ∧ ds.all flatD = true ∧ C (if neg then !ds.any (fun e => PyData.eqv e d) else ds.any (fun e => PyData.eqv e d))
  | d, .tuple ds => flatD d = true ∧ ds.all flatD = true ∧ C (if neg then !ds.any (fun e => PyData.eqv e d) else ds.any (fun e => PyData.eqv e d))
  | _, _ => False
theorem one_sign {a : Str} {c : Nat} (h : a.cps.toList = [c]) : a = ⟨#[c]⟩ := TL.ext_tl h
theorem oc_in : OpC X (compareOp .In) (cIn false) := by
  refine ⟨_, OpR.or op_in_sign op_in_seq, fun {H x y d e Q C} hx hy c k => ?_⟩
  unfold cIn at c
  split at c
  · rename_i a b
    split at c
    · rename_i c' hc
      cases hx; cases hy
      exact .inl ⟨c', b, by rw [one_sign hc], rfl, k _ c⟩
    · exact c.elim
  · cases hy with
    | lst h1 a1 =>
      obtain ⟨g1, g2⟩ := inV_of hx c.1 a1 c.2.1
      exact .inr ⟨_, _, rfl, .inl h1, flat_of hx c.1, g1, k _ (by rw [g2]; exact c.2.2)⟩
  · cases hy with
    | tup h1 a1 =>
      obtain ⟨g1, g2⟩ := inV_of hx c.1 a1 c.2.1
      exact .inr ⟨_, _, rfl, .inr h1, flat_of hx c.1, g1, k _ (by rw [g2]; exact c.2.2)⟩
  · exact c.elim
theorem oc_notIn : OpC X (compareOp .NotIn) (cIn true) := by
  refine ⟨_, OpR.or op_notIn_sign op_notIn_seq, fun {H x y d e Q C} hx hy c k => ?_⟩
  unfold cIn at c
  split at c
  · rename_i a b
    split at c
    · rename_i c' hc
      cases hx; cases hy
      exact .inl ⟨c', b, by rw [one_sign hc], rfl, k _ c⟩
    · exact c.elim
  · cases hy with
    | lst h1 a1 =>
      obtain ⟨g1, g2⟩ := inV_of hx c.1 a1 c.2.1
      exact .inr ⟨_, _, rfl, .inl h1, flat_of hx c.1, g1, k (!inV x _) (by rw [g2]; exact c.2.2)⟩
  · cases hy with
    | tup h1 a1 =>
      obtain ⟨g1, g2⟩ := inV_of hx c.1 a1 c.2.1
      exact .inr ⟨_, _, rfl, .inr h1, flat_of hx c.1, g1, k (!inV x _) (by rw [g2]; exact c.2.2)⟩
  · exact c.elim
def isNone : PyData → Bool
  | .none => true
  | _ => false
def cIs (neg : Bool) : DCp := fun d e C => match e with
  | .none => C (if neg then !isNone d else isNone d)
  | _ => False
theorem isNone_of {K : PySem.W.Frag} {F : Hp} {v : V} {d : PyData} (h : Dp K F v d) : decide (v = V.non) = isNone d := by
  cases h <;> first | rfl | exact decide_eq_false (fun z => nomatch z)
theorem oc_is : OpC X (compareOp .Is) (cIs false) := by
  refine ⟨_, op_isN, fun {H x y d e Q C} hx hy c k => ?_⟩
  unfold cIs at c
  split at c
  · cases hy
    exact ⟨rfl, by rw [isNone_of hx]; exact k _ c⟩
  · exact c.elim
theorem oc_isnot : OpC X (compareOp .IsNot) (cIs true) := by
  refine ⟨_, op_notN, fun {H x y d e Q C} hx hy c k => ?_⟩
  unfold cIs at c
  split at c
  · cases hy
    exact ⟨rfl, by rw [isNone_of hx]; exact k _ c⟩
  · exact c.elim

/-! ### subscripts -/
theorem atI_of {K : PySem.W.Frag} {F : Hp} {vs : List V} {ds : List PyData} {i : Int} {d : PyData} (h : DpAll K F vs ds) (e : atI ds i = some d) : ∃ v, atI vs i = some v ∧ Dp K F v d := by
  unfold atI at e ⊢
  rw [h.length]
  cases q : ixN ds.length i with
  | none => rw [q] at e; cases e
  | some j =>
    rw [q] at e
    exact h.get e
def ixA (δ : DSt) (a : Ar) (i : Int) (C : Ar → Prop) : Prop := match a with
  | .sl j => match δ.m[j]? with
    | some (.fl xs) => match atI xs i with
      | some d => C (.val d)
      | none => False
    | some (.ls xs) => match atI xs i with
      | some d => C d
      | none => False
    | some (.tu xs) => match atI xs i with
      | some d => C d
      | none => False
    | _ => False
  | .val (.list xs) => match atI xs i with
    | some d => C (.val d)
    | none => False
  | .val (.tuple xs) => match atI xs i with
    | some d => C (.val d)
    | none => False
  | .val (.str z) => z.length ≤ sizeLine ∧ match atI z.cps.toList i with
    | some c => C (.val (.str ⟨#[c]⟩))
    | none => False
  | _ => False
def dIx (fa fb : DTE) : DTE := fun δ C => fa δ fun a δ1 => fb δ1 fun b δ2 => match b with
  | .val (.int i) => ixA δ2 a i fun d => C d δ2
  | _ => False
theorem atI_ars {K : PySem.W.Frag} {F : Fg} {vs : List V} {ds : List Ar} {i : Int} {d : Ar} (h : ArsRep K F vs ds) (e : atI ds i = some d) : ∃ v, atI vs i = some v ∧ ArRep K F v d := by
  unfold atI at e ⊢
  rw [h.length]
  cases q : ixN ds.length i with
  | none => rw [q] at e; cases e
  | some j =>
    rw [q] at e
    exact h.get e
theorem pd_ix {a b : Expr} {fa fb : DTE} {pos : Pos} (ha : PD W E X a fa) (hb : PD W E X b fb) (hs : PlainIx b := by exact fun _ _ => rfl) : PD W E X (.Subscript a b pos) (dIx fa fb) := by
  obtain ⟨te, p1, q1⟩ := ha
  obtain ⟨tb, p2, q2⟩ := hb
  refine ⟨_, pe_ix ix_seq p1 p2 hs, fun R c k => ?_⟩
  refine q1 R c fun a δ1 F1 H1 v R1 s1 r1 c1 => ?_
  refine q2 R1 c1 fun b δ2 F2 H2 w R2 s2 r2 c2 => ?_
  split at c2
  · rename_i i
    cases (show Dp X.K F2 w (.int i) from r2)
    have g1 := r1.step s2
    clear r1
    unfold ixA at c2
    split at c2
    · rename_i j
      obtain ⟨l, gl, rfl⟩ := g1
      split at c2
      · rename_i xs hx
        split at c2
        · rename_i d hd
          obtain ⟨l', e1, _, vs, e3, e4⟩ := R2.sto.at hx rfl
          rw [gl] at e1
          cases e1
          obtain ⟨u, hu, du⟩ := atI_of e4 hd
          exact .inl ⟨_, _, _, _, rfl, rfl, SqL.of e3, hu, k (.val d) _ _ _ _ R2 (s1.trans s2) du c2⟩
        · exact c2.elim
      · rename_i xs hx
        split at c2
        · rename_i d hd
          obtain ⟨l', e1, _, vs, e3, e4⟩ := R2.sto.at hx rfl
          rw [gl] at e1
          cases e1
          obtain ⟨u, hu, du⟩ := atI_ars e4 hd
          exact .inl ⟨_, _, _, _, rfl, rfl, SqL.of e3, hu, k d _ _ _ _ R2 (s1.trans s2) du c2⟩
        · exact c2.elim
      · rename_i xs hx
        split at c2
        · rename_i d hd
          obtain ⟨l', e1, _, vs, e3, e4⟩ := R2.sto.at hx rfl
          rw [gl] at e1
          cases e1
          obtain ⟨u, hu, du⟩ := atI_ars e4 hd
          exact .inr (.inl ⟨_, _, _, _, rfl, rfl, SqT.of e3, hu, k d _ _ _ _ R2 (s1.trans s2) du c2⟩)
        · exact c2.elim
      · exact c2.elim
    · rename_i xs
      split at c2
      · rename_i d hd
        cases (show Dp X.K F2 v (.list xs) from g1) with
        | lst h1 a1 =>
          obtain ⟨u, hu, du⟩ := atI_of a1 hd
          exact .inl ⟨_, _, _, _, rfl, rfl, R2.sto.sub.seq h1, hu, k (.val d) _ _ _ _ R2 (s1.trans s2) du c2⟩
      · exact c2.elim
    · rename_i xs
      split at c2
      · rename_i d hd
        cases (show Dp X.K F2 v (.tuple xs) from g1) with
        | tup h1 a1 =>
          obtain ⟨u, hu, du⟩ := atI_of a1 hd
          exact .inr (.inl ⟨_, _, _, _, rfl, rfl, seqT R2.sto.sub h1, hu, k (.val d) _ _ _ _ R2 (s1.trans s2) du c2⟩)
      · exact c2.elim
    · rename_i z
      cases (show Dp X.K F2 v (.str z) from g1)
      obtain ⟨hz, c2⟩ := c2
      split at c2
      · rename_i c hc
        exact .inr (.inr ⟨_, _, _, rfl, rfl, hz, hc, k (.val (.str ⟨#[c]⟩)) _ _ _ _ R2 (s1.trans s2) (Dp.str _) c2⟩)
      · exact c2.elim
    · exact c2.elim
  · exact c2.elim
/-! ### slices -/
abbrev DTO := DSt → (Option Int → DSt → Prop) → Prop
structure PDO (W : WX) (E : EW) (X : Cx) (e : Option Expr) (f : DTO) : Prop where
  ex : ∃ te, PO X e te ∧ ∀ {F : Fg} {σ : L2.St} {δ : DSt} {H : Hp} {Q : Option Int → Hp → Prop} {C : Option Int → DSt → Prop}, RepS W E X.K X.mg F σ δ H → f δ C →
    (∀ o δ' F' H', RepS W E X.K X.mg F' σ δ' H' → Stp F H F' H' → C o δ' → Q o H') → te σ H Q
def doNone : DTO := fun δ C => C none δ
def doSome (f : DTE) : DTO := fun δ C => f δ fun a δ1 => match a with
  | .val (.int i) => C (some i) δ1
  | _ => False
theorem pdo_none : PDO W E X none doNone := ⟨_, po_none, fun R c k => k _ _ _ _ R .refl c⟩
theorem pdo_some {e : Expr} {f : DTE} (h : PD W E X e f) : PDO W E X (some e) (doSome f) := by
  obtain ⟨te, p, q⟩ := h
  refine ⟨_, po_some p, fun R c k => ?_⟩
  refine q R c fun a δ1 F1 H1 v R1 s1 r1 c1 => ?_
  split at c1
  · rename_i i
    cases (show Dp X.K F1 v (.int i) from r1)
    exact ⟨i, rfl, k _ _ _ _ R1 s1 c1⟩
  · exact c1.elim
def cutD (ds : List PyData) (lo hi : Option Int) : List PyData := (ds.drop (HT.sIx ds.length 0 lo)).take (HT.sIx ds.length ds.length hi - HT.sIx ds.length 0 lo)
theorem cut_of {K : PySem.W.Frag} {F : Hp} {vs : List V} {ds : List PyData} (h : DpAll K F vs ds) (lo hi : Option Int) : DpAll K F (cutV vs lo hi) (cutD ds lo hi) := by
  unfold cutV cutD
  rw [h.length]
  exact (h.drop _).take _
def slD (δ : DSt) (a : Ar) (lo hi : Option Int) (C : PyData → Prop) : Prop := match a with
  | .val (.str z) => z.length ≤ sizeLine ∧ C (.str (cutS z lo hi))
  | .val (.list xs) => C (.list (cutD xs lo hi))
  | .val (.tuple xs) => C (.tuple (cutD xs lo hi))
  | .sl j => match cont δ j with
    | some xs => C (.list (cutD xs lo hi))
    | none => False
  | _ => False
def dSl (f : DTE) (fl fh : DTO) : DTE := fun δ C => f δ fun a δ1 => fl δ1 fun lo δ2 => fh δ2 fun hi δ3 => slD δ3 a lo hi fun d => C (.val d) δ3
theorem sIx_whole {n : Nat} {lo hi : Option Int} (h : HT.sIx n 0 lo = 0 ∧ HT.sIx n n hi = n) (ds : List PyData) (e : ds.length = n) : cutD ds lo hi = ds := by
  unfold cutD
  rw [e, h.1, h.2]
  simp [← e]
theorem pd_slice {e : Expr} {lo hi : Option Expr} {f : DTE} {fl fh : DTO} {pos p2 : Pos} (he : PD W E X e f) (hl : PDO W E X lo fl) (hh : PDO W E X hi fh) : PD W E X (.Subscript e (.Slice lo hi none p2) pos) (dSl f fl fh) := by
  obtain ⟨te, p1, q1⟩ := he
  obtain ⟨tl, p2, q2⟩ := hl
  obtain ⟨th, p3, q3⟩ := hh
  refine ⟨_, pe_slice (SlR.or sl_list (SlR.or sl_tupA sl_str)) p1 p2 p3, fun R c k => ?_⟩
  refine q1 R c fun a δ1 F1 H1 v R1 s1 r1 c1 => ?_
  refine q2 R1 c1 fun lo δ2 F2 H2 R2 s2 c2 => ?_
  refine q3 R2 c2 fun hi δ3 F3 H3 R3 s3 c3 => ?_
  have g1 := r1.step (s2.trans s3)
  clear r1
  have s := (s1.trans s2).trans s3
  unfold slD at c3
  split at c3
  · rename_i z
    cases (show Dp X.K F3 v (.str z) from g1)
    exact .inr (.inr ⟨_, rfl, c3.1, k (.val (.str _)) _ _ _ _ R3 s (Dp.str _) c3.2⟩)
  · rename_i xs
    cases (show Dp X.K F3 v (.list xs) from g1) with
    | lst h1 a1 =>
      refine .inl ⟨_, _, rfl, R3.sto.sub.seq h1, fun p np => ?_⟩
      obtain ⟨R4, s4⟩ := R3.alloc (o := .lst (cutV _ lo hi)) np
      exact k (.val (.list _)) _ _ _ _ R4 (s.trans s4) (Dp.lst (SqL.of upd_same) (Dp.monoAll s4.ext _ _ (cut_of a1 lo hi))) c3
  · rename_i xs
    cases (show Dp X.K F3 v (.tuple xs) from g1) with
    | tup h1 a1 =>
      refine .inr (.inl ⟨_, _, rfl, seqT R3.sto.sub h1, fun hw => ?_, fun _ p np => ?_⟩)
      · refine k (.val (.tuple _)) _ _ _ _ R3 s (Dp.tup h1 ?_) c3
        rw [sIx_whole hw _ a1.length.symm]
        exact a1
      · obtain ⟨R4, s4⟩ := R3.alloc (o := .tup (cutV _ lo hi)) np
        exact k (.val (.tuple _)) _ _ _ _ R4 (s.trans s4) (Dp.tup (SqT.of upd_same) (Dp.monoAll s4.ext _ _ (cut_of a1 lo hi))) c3
  · rename_i j
    split at c3
    · rename_i xs hx
      obtain ⟨l, vs, e1, _, e3, e4⟩ := R3.own hx
      obtain ⟨l', g1, rfl⟩ := g1
      rw [e1] at g1
      cases g1
      refine .inl ⟨_, _, rfl, SqL.of e3, fun p np => ?_⟩
      obtain ⟨R4, s4⟩ := R3.alloc (o := .lst (cutV _ lo hi)) np
      exact k (.val (.list _)) _ _ _ _ R4 (s.trans s4) (Dp.lst (SqL.of upd_same) (Dp.monoAll s4.ext _ _ (cut_of e4 lo hi))) c3
    · exact c3.elim
  · exact c3.elim
/-- a slice of a list, as a new list -/
def dSlN (f : DTE) (fl fh : DTO) : DSt → (List PyData → DSt → Prop) → Prop := fun δ C => f δ fun a δ1 => fl δ1 fun lo δ2 => fh δ2 fun hi δ3 => match rd δ3 a with
  | some (.list xs) => C (cutD xs lo hi) δ3
  | _ => False
theorem listD_rep {H : Hp} {F : Fg} {σ : L2.St} {δ : DSt} {v : V} {a : Ar} {xs : List PyData} (R : RepS W E K mg F σ δ H) (r : ArRep K F v a) (h : rd δ a = some (.list xs)) : ∃ p vs, v = .ref p ∧ SqL K H p vs ∧ DpAll K F.f vs xs := by
  cases a with
  | val d =>
    cases h
    cases (show Dp K F.f v (.list xs) from r) with
    | lst h2 a2 => exact ⟨_, _, rfl, R.sto.sub.seq h2, a2⟩
  | sl i =>
    have hx' : (cont δ i).map PyData.list = some (.list xs) := h
    cases q : cont δ i with
    | none => rw [q] at hx'; cases hx'
    | some ys =>
      rw [q] at hx'
      cases hx'
      obtain ⟨l, vs, e1, e2, e3, e4⟩ := R.own q
      obtain ⟨l', g2, rfl⟩ := r
      rw [e1] at g2
      cases g2
      exact ⟨_, _, rfl, SqL.of e3, e4⟩
theorem pdn_slice {e : Expr} {lo hi : Option Expr} {f : DTE} {fl fh : DTO} {pos p2 : Pos} (he : PD W E X e f) (hl : PDO W E X lo fl) (hh : PDO W E X hi fh) : PDN W E X (.Subscript e (.Slice lo hi none p2) pos) (dSlN f fl fh) := by
  obtain ⟨te, p1, q1⟩ := he
  obtain ⟨tl, p2, q2⟩ := hl
  obtain ⟨th, p3, q3⟩ := hh
  refine ⟨_, pe_slice sl_list p1 p2 p3, fun {F σ δ H Q C} R c k => ?_⟩
  refine q1 R c fun a δ1 F1 H1 v R1 s1 r1 c1 => ?_
  refine q2 R1 c1 fun lo δ2 F2 H2 R2 s2 c2 => ?_
  refine q3 R2 c2 fun hi δ3 F3 H3 R3 s3 c3 => ?_
  have g1 := r1.step (s2.trans s3)
  have s := (s1.trans s2).trans s3
  split at c3
  · rename_i xs hx
    obtain ⟨p0, vs, rfl, h1, a1⟩ := listD_rep R3 g1 hx
    refine ⟨_, _, rfl, h1, fun p np => ?_⟩
    obtain ⟨R4, s4, nF, nO⟩ := R3.fresh (o := .lst (cutV vs lo hi)) np
    exact k _ _ _ _ p _ R4 (s.trans s4) nF (s.dom _ np) nO upd_same (cut_of a1 lo hi) c3
  · exact c3.elim
end
end MM

namespace MM
open PySem PySem.Spec PyProof.Rows L2
section
variable {W : WX} {E : EW} {mg : Str → Option Value} {X : Cx} {K : PySem.W.Frag} {F : Fg} {H : Hp} {σ : L2.St} {δ : DSt}

/-! ### calls of built-in functions and types -/
abbrev DCl := DSt → List Ar → (PyData → Prop) → Prop
def CallD (W : WX) (E : EW) (X : Cx) (f : Value) (r : DCl) : Prop :=
  ∃ r', CallR X f r' ∧ ∀ {F : Fg} {σ : L2.St} {δ : DSt} {H : Hp} {vs : List V} {as : List Ar} {Q : VK} {C : PyData → Prop}, RepS W E X.K X.mg F σ δ H → ArsRep X.K F vs as → r δ as C →
    (∀ z F' H' v, RepS W E X.K X.mg F' σ δ H' → Stp F H F' H' → Dp X.K F' v z → C z → Q v H') → r' vs H Q
def dCB (r : DCl) (f : DTA) : DTE := fun δ C => f δ fun as δ1 => r δ1 as fun z => C (.val z) δ1
theorem pd_callB {e : Expr} {es : List Expr} {x : Str} {id : String} {r : DCl} {f : DTA} {p pos : Pos} (hc : CallD W E X (.builtin id) r) (hg : Gl X x) (hm : X.mg x = none) (hv : bootBuiltins x = some (.builtin id)) (ha : PDA W E X (e :: es) f) (hn : x ≠ "__name__" := by decide) (hdb : (x == ("__debug__" : Str)) = false := by decide)
    (he : starEach (e :: es) X.env = (false, eval e X.env) :: starEach es X.env := by rfl) (hpl : (backTo pos (starEach es X.env)).any (·.1) = false := by rfl) : PD W E X (.Call (.Name x p) (e :: es) [] pos) (dCB r f) := by
  obtain ⟨r', c1, c2⟩ := hc
  obtain ⟨ta, p, q⟩ := ha
  refine ⟨_, pe_callB c1 hg hm hv p hn hdb he hpl, fun R c k => ?_⟩
  refine q R c fun as δ1 F1 H1 vs R1 s1 r1 c3 => ?_
  exact c2 R1 r1 c3 fun z F' H' v R2 s2 r2 c4 => k (.val z) _ _ _ _ R2 (s1.trans s2) r2 c4
theorem pd_callT {e : Expr} {es : List Expr} {x : Str} {T : String} {r : DCl} {f : DTA} {p pos : Pos} (hc : CallD W E X (.type T) r) (hg : Gl X x) (hm : X.mg x = none) (hv : bootBuiltins x = some (.type T)) (ha : PDA W E X (e :: es) f) (hn : x ≠ "__name__" := by decide) (hdb : (x == ("__debug__" : Str)) = false := by decide)
    (he : starEach (e :: es) X.env = (false, eval e X.env) :: starEach es X.env := by rfl) (hpl : (backTo pos (starEach es X.env)).any (·.1) = false := by rfl) : PD W E X (.Call (.Name x p) (e :: es) [] pos) (dCB r f) := by
  obtain ⟨r', c1, c2⟩ := hc
  obtain ⟨ta, p, q⟩ := ha
  refine ⟨_, pe_callTy c1 hg hm hv p hn hdb he hpl, fun R c k => ?_⟩
  refine q R c fun as δ1 F1 H1 vs R1 s1 r1 c3 => ?_
  exact c2 R1 r1 c3 fun z F' H' v R2 s2 r2 c4 => k (.val z) _ _ _ _ R2 (s1.trans s2) r2 c4
theorem arsRep1 {vs : List V} {a : Ar} (h : ArsRep K F vs [a]) : ∃ v, vs = [v] ∧ ArRep K F v a := by
  cases vs with
  | nil => exact h.elim
  | cons v vs =>
    cases vs with
    | nil => exact ⟨v, rfl, h.1⟩
    | cons _ _ => exact h.2.elim
theorem arsRep2 {vs : List V} {a b : Ar} (h : ArsRep K F vs [a, b]) : ∃ v w, vs = [v, w] ∧ ArRep K F v a ∧ ArRep K F w b := by
  cases vs with
  | nil => exact h.elim
  | cons v vs =>
    obtain ⟨w, rfl, h2⟩ := arsRep1 h.2
    exact ⟨v, w, rfl, h.1, h2⟩
def fLen : DCl := fun δ as C => match as with
  | [a] => match rd δ a with
    | some (.str z) => z.length ≤ sizeLine ∧ C (.int z.length)
    | some (.list xs) => C (.int xs.length)
    | some (.tuple xs) => C (.int xs.length)
    | _ => False
  | _ => False
theorem cd_len : CallD W E X (.builtin "len") fLen := by
  refine ⟨_, call_len, fun {F σ δ H vs as Q C} R r c k => ?_⟩
  unfold fLen at c
  split at c
  · obtain ⟨v, rfl, r1⟩ := arsRep1 r
    split at c
    · rename_i z hz
      cases r1.rd R hz
      exact ⟨_, _, rfl, ⟨c.1, rfl⟩, k (.int _) _ _ _ R .refl (.int _) c.2⟩
    · rename_i xs hz
      cases r1.rd R hz with
      | lst h1 a1 => exact ⟨_, _, rfl, .inl ⟨_, h1, rfl⟩, k (.int _) _ _ _ R .refl (.int _) (by rw [a1.length]; exact c)⟩
    · rename_i xs hz
      cases r1.rd R hz with
      | tup h1 a1 => exact ⟨_, _, rfl, .inr ⟨_, h1, rfl⟩, k (.int _) _ _ _ R .refl (.int _) (by rw [a1.length]; exact c)⟩
    · exact c.elim
  · exact c.elim
def fInt : DCl := fun δ as C => match as with
  | [.val (.int i)] => C (.int i)
  | [.val (.bool b)] => C (.int (if b then 1 else 0))
  | _ => False
theorem cd_int : CallD W E X (.type "int") fInt := by
  refine ⟨_, call_int1, fun {F σ δ H vs as Q C} R r c k => ?_⟩
  unfold fInt at c
  split at c
  · obtain ⟨v, rfl, r1⟩ := arsRep1 r
    cases (show Dp X.K F v (.int _) from r1)
    exact .inl ⟨_, rfl, k _ _ _ _ R .refl (.int _) c⟩
  · obtain ⟨v, rfl, r1⟩ := arsRep1 r
    cases (show Dp X.K F v (.bool _) from r1)
    exact .inr ⟨_, rfl, k _ _ _ _ R .refl (.int _) c⟩
  · exact c.elim
/-- the items of a list or tuple, frozen or owned -/
def itemsD (δ : DSt) : Ar → Option (List PyData)
  | .val (.list xs) => some xs
  | .val (.tuple xs) => some xs
  | .sl i => cont δ i
  | _ => none
theorem itemsD_rep (R : RepS W E K mg F σ δ H) {v : V} {a : Ar} {xs : List PyData} (r : ArRep K F v a) (h : itemsD δ a = some xs) : ∃ p vs, v = .ref p ∧ (SqL K H p vs ∨ SqT K H p vs) ∧ DpAll K F vs xs := by
  cases a with
  | sl i =>
    obtain ⟨l, vs, e1, _, e3, e4⟩ := R.own (i := i) h
    obtain ⟨l', r, rfl⟩ := r
    rw [e1] at r
    cases r
    exact ⟨l, vs, rfl, .inl (SqL.of e3), e4⟩
  | val d =>
    have r : Dp K F.f v d := r
    cases r with
    | lst h1 a1 => cases h; exact ⟨_, _, rfl, .inl (R.sto.sub.seq h1), a1⟩
    | tup h1 a1 => cases h; exact ⟨_, _, rfl, .inr (seqT R.sto.sub h1), a1⟩
    | _ => cases h
def fTuple : DCl := fun δ as C => match as with
  | [a] => match itemsD δ a with
    | some xs => C (.tuple xs)
    | none => False
  | _ => False
theorem cd_tuple : CallD W E X (.type "tuple") fTuple := by
  refine ⟨_, call_tuple_of, fun {F σ δ H vs as Q C} R r c k => ?_⟩
  unfold fTuple at c
  split at c
  · obtain ⟨v, rfl, r1⟩ := arsRep1 r
    rename_i a
    cases q : itemsD δ a with
    | none => rw [q] at c; exact c.elim
    | some xs =>
      rw [q] at c
      cases a with
      | sl i =>
        obtain ⟨l, vs, e1, _, e3, e4⟩ := R.own (i := i) q
        obtain ⟨l', r1, rfl⟩ := r1
        rw [e1] at r1
        cases r1
        refine ⟨_, _, rfl, .inl ⟨SqL.of e3, fun p np => ?_⟩⟩
        obtain ⟨R2, s2⟩ := R.alloc (o := .tup vs) np
        exact k _ _ _ _ R2 s2 (.tup (SqT.of upd_same) (Dp.monoAll s2.ext _ _ e4)) c
      | val d =>
        have r1 : Dp X.K F.f v d := r1
        cases r1 with
        | lst h1 a1 =>
          cases q
          refine ⟨_, _, rfl, .inl ⟨R.sto.sub.seq h1, fun p np => ?_⟩⟩
          obtain ⟨R2, s2⟩ := R.alloc (o := .tup _) np
          exact k _ _ _ _ R2 s2 (.tup (SqT.of upd_same) (Dp.monoAll s2.ext _ _ a1)) c
        | tup h1 a1 =>
          cases q
          exact ⟨_, _, rfl, .inr ⟨seqT R.sto.sub h1, k _ _ _ _ R .refl (.tup h1 a1) c⟩⟩
        | _ => cases q
  · exact c.elim
/-- list(xs): a new list -/
def dListN (f : DTA) : DSt → (List PyData → DSt → Prop) → Prop := fun δ C => f δ fun as δ1 => match as with
  | [a] => match itemsD δ1 a with
    | some xs => C xs δ1
    | none => False
  | _ => False
theorem pdn_list {e : Expr} {x : Str} {f : DTA} {p pos : Pos} (hg : Gl X x) (hm : X.mg x = none) (hv : bootBuiltins x = some (.type "list")) (ha : PDA W E X [e] f) (hn : x ≠ "__name__" := by decide) (hdb : (x == ("__debug__" : Str)) = false := by decide)
    (he : starEach [e] X.env = (false, eval e X.env) :: starEach [] X.env := by rfl) (hpl : (backTo pos (starEach [] X.env)).any (·.1) = false := by rfl) : PDN W E X (.Call (.Name x p) [e] [] pos) (dListN f) := by
  obtain ⟨ta, p, q⟩ := ha
  refine ⟨_, pe_callTy call_list_of hg hm hv p hn hdb he hpl, fun {F σ δ H Q C} R c k => ?_⟩
  refine q R c fun as δ1 F1 H1 vs R1 s1 r1 c3 => ?_
  split at c3
  · obtain ⟨v, rfl, r2⟩ := arsRep1 r1
    split at c3
    · rename_i xs hx
      obtain ⟨p, ws, rfl, hs, hA⟩ := itemsD_rep R1 r2 hx
      refine ⟨_, _, rfl, hs, fun l nl => ?_⟩
      obtain ⟨R2, s2, nF, nO⟩ := R1.fresh (o := .lst ws) nl
      exact k _ _ _ _ _ _ R2 (s1.trans s2) nF (s1.dom _ nl) nO upd_same hA c3
    · exact c3.elim
  · exact c3.elim
/-! ### isinstance, with one built-in type -/
def tyName : PyData → String
  | .none => "NoneType"
  | .bool _ => "bool"
  | .int _ => "int"
  | .str _ => "str"
  | .list _ => "list"
  | .tuple _ => "tuple"
  | .dict _ => "dict"
theorem ty_of {v : V} {d : PyData} (h : Dp K H v d) : TyX K H v (.type (tyName d)) := by
  cases h with
  | non => exact .base .non
  | bl b => exact .base (.bl b)
  | int i => exact .base (.int i)
  | str z => exact .base (.str z)
  | lst h1 _ =>
    rcases h1 with (h1 | ⟨o, h1⟩) | ⟨o, its, n, h1, h2, _⟩
    · exact .base (.lst h1)
    · exact .base (.frz h1)
    · exact .kList h1 h2
  | tup h1 _ =>
    rcases h1 with (h1 | ⟨o, h1⟩) | ⟨o, its, n, h1, h2, _⟩
    · exact .base (.tup h1)
    · exact .fTuple h1
    · exact .kTuple h1 h2
def dIsi (T : String) (f : DTE) : DTE := fun δ C => f δ fun a δ1 => match rd δ1 a with
  | some d => match kitB (tyName d) T with
    | some b => C (.val (.bool b)) δ1
    | none => False
  | none => False
theorem pd_isi {e : Expr} {T : String} {f : DTE} {x : Str} {p p2 pos : Pos} (hg : Gl X "isinstance") (hm : X.mg "isinstance" = none) (hT : Gl X x) (hTm : X.mg x = none) (hTv : bootBuiltins x = some (.type T)) (h : PD W E X e f) (hn : x ≠ "__name__" := by decide) (hdb : (x == ("__debug__" : Str)) = false := by decide)
    (he : starEach [e, .Name x p2] X.env = (false, eval e X.env) :: starEach [.Name x p2] X.env := by rfl) (he2 : starEach [.Name x p2] X.env = (false, eval (.Name x p2) X.env) :: starEach [] X.env := by rfl) (hpl : (backTo pos (starEach [.Name x p2] X.env)).any (·.1) = false := by rfl) :
    PD W E X (.Call (.Name "isinstance" p) [e, .Name x p2] [] pos) (dIsi T f) := by
  obtain ⟨te, p, q⟩ := h
  refine ⟨_, pe_callB call_isi hg hm (by decide +kernel) (pa_cons p (pa_cons (pe_bltn (v := .ty T) hT hTm hTv rfl hn hdb) pa_nil he2) he) (by decide) (by decide) he hpl, fun R c k => ?_⟩
  refine q R c fun a δ1 F1 H1 v R1 s1 r1 c1 => ?_
  split at c1
  · rename_i d hd
    split at c1
    · rename_i b hb
      have ty := ty_of (r1.rd R1 hd)
      exact ⟨v, .ty T, _, _, b, rfl, .ty T, ty, kit_ty hb, k (.val (.bool b)) _ _ _ _ R1 s1 (Dp.bl b) c1⟩
    · exact c1.elim
  · exact c1.elim

/-! ### methods of texts -/
abbrev DMt := DSt → Str → List Ar → (PyData → Prop) → Prop
def MethD (W : WX) (E : EW) (X : Cx) (id : String) (r : DMt) : Prop :=
  ∃ r', MtR X id r' ∧ ∀ {F : Fg} {σ : L2.St} {δ : DSt} {H : Hp} {z : Str} {vs : List V} {as : List Ar} {Q : VK} {C : PyData → Prop}, RepS W E X.K X.mg F σ δ H → ArsRep X.K F vs as → r δ z as C →
    (∀ z F' H' v, RepS W E X.K X.mg F' σ δ H' → Stp F H F' H' → Dp X.K F' v z → C z → Q v H') → r' (.str z) vs H Q
def dM (r : DMt) (fo : DTE) (f : DTA) : DTE := fun δ C => fo δ fun a δ1 => match a with
  | .val (.str z) => f δ1 fun as δ2 => r δ2 z as fun y => C (.val y) δ2
  | _ => False
theorem pd_m0 {o : Expr} {id : String} {name : Str} {apos pos : Pos} {r : DMt} {fo : DTE} (slot : Slot "str" name id) (ty : typeOf (.builtin id) = pure (.type "method_descriptor")) (rule : MethD W E X id r) (ho : PD W E X o fo)
    (hbase : attributeBase o name X.env (eval o X.env) = eval o X.env := by rfl) (hline : (apos.endLine == pos.line) = true := by rfl) : PD W E X (.Call (.Attribute o name apos) [] [] pos) (dM r fo dNil) := by
  obtain ⟨r', m1, m2⟩ := rule
  obtain ⟨te, p, q⟩ := ho
  refine ⟨_, pe_m0 slot ty m1 p hbase hline, fun R c k => ?_⟩
  refine q R c fun a δ1 F1 H1 v R1 s1 r1 c1 => ?_
  split at c1
  · rename_i z
    cases (show Dp X.K F1 v (.str z) from r1)
    exact ⟨⟨z, rfl⟩, m2 (as := []) R1 trivial c1 fun z F' H' v R2 s2 r2 c4 => k (.val z) _ _ _ _ R2 (s1.trans s2) r2 c4⟩
  · exact c1.elim
theorem pd_m1 {o e : Expr} {id : String} {name : Str} {apos pos : Pos} {r : DMt} {fo f : DTE} (slot : Slot "str" name id) (ty : typeOf (.builtin id) = pure (.type "method_descriptor")) (rule : MethD W E X id r) (ho : PD W E X o fo) (he : PD W E X e f)
    (hs : starEach [e] X.env = [(false, eval e X.env)] := by rfl) (hbase : attributeBase o name X.env (eval o X.env) = eval o X.env := by rfl) (hline : (apos.endLine == pos.line) = true := by rfl) : PD W E X (.Call (.Attribute o name apos) [e] [] pos) (dM r fo (dCons f dNil)) := by
  obtain ⟨r', m1, m2⟩ := rule
  obtain ⟨te, p, q⟩ := ho
  obtain ⟨tf, p2, q2⟩ := he
  refine ⟨_, pe_m1 slot ty m1 p p2 hs hbase hline, fun R c k => ?_⟩
  refine q R c fun a δ1 F1 H1 v R1 s1 r1 c1 => ?_
  split at c1
  · rename_i z
    cases (show Dp X.K F1 v (.str z) from r1)
    refine ⟨⟨z, rfl⟩, q2 R1 c1 fun b δ2 F2 H2 w R2 s2 r2 c2 => ?_⟩
    exact m2 (as := [b]) R2 ⟨r2, trivial⟩ c2 fun z F' H' v R3 s3 r3 c4 => k (.val z) _ _ _ _ R3 ((s1.trans s2).trans s3) r3 c4
  · exact c1.elim
/-- texts of a list or tuple -/
def strsD : List PyData → Option (List Str)
  | [] => some []
  | .str z :: ds => match strsD ds with
    | some zs => some (z :: zs)
    | none => none
  | _ :: _ => none
theorem strsD_eq : ∀ {ds : List PyData} {zs : List Str}, strsD ds = some zs → ds = zs.map PyData.str
  | [], zs, h => by cases h; rfl
  | d :: ds, zs, h => by
    cases d with
    | str z =>
      unfold strsD at h
      split at h
      · cases h
        rename_i zs' hz
        rw [strsD_eq hz]
        rfl
      · cases h
    | _ => cases h
theorem strsD_map : ∀ zs : List Str, strsD (zs.map PyData.str) = some zs
  | [] => rfl
  | z :: zs => by
    show (match strsD (zs.map PyData.str) with | some zs => some (z :: zs) | none => none) = _
    rw [strsD_map zs]
def mJoin : DMt := fun δ z as C => match as with
  | [a] => match itemsD δ a with
    | some xs => match strsD xs with
      | some ys => (ys.map (·.length)).sum + ys.length * z.length ≤ 16777216 ∧ C (.str (Txt.join z ys))
      | none => False
    | none => False
  | _ => False
theorem md_join : MethD W E X "str.join" mJoin := by
  refine ⟨_, mt_join, fun {F σ δ H z vs as Q C} R r c k => ?_⟩
  unfold mJoin at c
  split at c
  · obtain ⟨v, rfl, r1⟩ := arsRep1 r
    split at c
    · rename_i xs hx
      split at c
      · rename_i ys hy
        obtain ⟨p, ws, rfl, hs, hA⟩ := itemsD_rep R r1 hx
        have e := strsD_eq hy
        subst e
        have e := hA.ofStrs
        subst e
        exact ⟨_, _, ys, rfl, rfl, hs, c.1, k _ _ _ _ R .refl (.str _) c.2⟩
      · exact c.elim
    · exact c.elim
  · exact c.elim
def mSplit : DMt := fun _ z as C => match as with
  | [.val (.str y)] => (y.length == 0) = false ∧ z.length + 2 ≤ sizeLine ∧ C (.list ((Txt.split z y).map PyData.str))
  | _ => False
theorem md_split : MethD W E X "str.split" mSplit := by
  refine ⟨_, mt_split, fun {F σ δ H z vs as Q C} R r c k => ?_⟩
  unfold mSplit at c
  split at c
  · obtain ⟨v, rfl, r1⟩ := arsRep1 r
    cases (show Dp X.K F v (.str _) from r1)
    refine ⟨_, _, rfl, rfl, c.1, c.2.1, fun p np => ?_⟩
    obtain ⟨R2, s2⟩ := R.alloc (o := .lst ((Txt.split z _).map V.str)) np
    exact k _ _ _ _ R2 s2 (.lst (SqL.of upd_same) (DpAll.strs _)) c.2.2
  · exact c.elim
theorem mt_indexY (hc : X.calm = true) : MtR X "str.index" (fun x xs H Q => ∃ (a b : Str) (k : Nat), x = .str a ∧ xs = [.str b] ∧ Txt.index0 a b = some k ∧ Q (.int (k : Nat)) H) := by
  intro pins s σ H x xs v us Q I rx rs h
  obtain ⟨a, b, k, rfl, rfl, hk, q⟩ := h
  obtain ⟨t, rfl⟩ := rx
  cases rs with
  | cons r1 rs =>
    cases rs
    obtain ⟨u, rfl⟩ := r1
    cases e : Builtin.Str.occurrences a b 0 a.length 1 with
    | nil =>
      unfold Txt.index0 at hk
      rw [e] at hk
      cases hk
    | cons j rest =>
      unfold Txt.index0 at hk
      rw [e] at hk
      cases hk
      exact PySem.SC.index e ⟨.int (_ : Nat), H, I.tok _, ⟨_, rfl⟩, q⟩
/-- s.index(one sign that is there) -/
def mIndex : DMt := fun _ z as C => match as with
  | [.val (.str y)] => match Txt.index0 z y with
    | some k => C (.int (k : Nat))
    | none => False
  | _ => False
theorem md_index (hc : X.calm = true) : MethD W E X "str.index" mIndex := by
  refine ⟨_, mt_indexY hc, fun {F σ δ H z vs as Q C} R r c k => ?_⟩
  unfold mIndex at c
  split at c
  · obtain ⟨v, rfl, r1⟩ := arsRep1 r
    cases (show Dp X.K F v (.str _) from r1)
    split at c
    · rename_i j hj
      exact ⟨_, _, j, rfl, rfl, hj, k _ _ _ _ R .refl (.int _) c⟩
    · exact c.elim
  · exact c.elim
/-! ### a list of the store becomes data -/
def dFz (f : DTE) : DTE := fun δ C => f δ fun a δ1 => match a with
  | .val d => C (.val d) δ1
  | .sl i => match cont δ1 i with
    | some xs => C (.val (.list xs)) (frS δ1 i (.list xs))
    | none => False
theorem pd_frz {e : Expr} {f : DTE} (h : PD W E X e f) : PD W E X e (dFz f) := by
  obtain ⟨te, p, q⟩ := h
  refine ⟨te, p, fun {F σ δ H Q C} R c k => ?_⟩
  refine q R c fun a δ1 F1 H1 v R1 s1 r1 c1 => ?_
  split at c1
  · exact k _ _ _ _ _ R1 s1 r1 c1
  · rename_i i
    split at c1
    · rename_i xs hx
      obtain ⟨F2, l, vs, R2, s2, e1, e2, e3, e4⟩ := R1.freeze (cont_at hx)
      obtain ⟨l', g1, rfl⟩ := r1
      rw [e1] at g1
      cases g1
      exact k (.val (.list xs)) _ _ _ _ R2 (s1.trans s2) (Dp.lst (SqL.of e3) e4) c1
    · exact c1.elim
/-! ### methods of a list of the store -/
/-- the items of a list -/
def itemsA : Mo → Option (List Ar)
  | .fl xs => some (xs.map .val)
  | .ls as => some as
  | _ => none
theorem itemsA_rep {F : Fg} {H : Hp} {l : Addr} {o : Mo} {as : List Ar} (h : MoRep K mg F H l o) (e : itemsA o = some as) : ∃ vs, H l = some (.lst vs) ∧ ArsRep K F vs as := by
  cases o with
  | fl xs => cases e; obtain ⟨vs, h1, h2⟩ := h; exact ⟨vs, h1, ArsRep.ofData h2⟩
  | ls xs => cases e; exact h
  | _ => cases e
def isL : Mo → Bool
  | .fl _ => true
  | .ls _ => true
  | _ => false
theorem isL_live {o : Mo} (h : isL o = true) : live o = true := by cases o <;> first | rfl | cases h
def appM (o : Mo) (a : Ar) : Mo := match o, a with
  | .fl xs, .val d => .fl (xs ++ [d])
  | .fl xs, .sl j => .ls (xs.map .val ++ [.sl j])
  | .ls as, a => .ls (as ++ [a])
  | o, _ => o
def lenM : Mo → Nat
  | .fl xs => xs.length
  | .ls xs => xs.length
  | _ => 0
theorem appM_rep {F : Fg} {H : Hp} {l : Addr} {o : Mo} {a : Ar} {w : V} (h : MoRep K mg F H l o) (n : isL o = true) (r : ArRep K F w a) : ∃ vs, H l = some (.lst vs) ∧ vs.length = lenM o ∧ isL (appM o a) = true ∧ MoRep K mg F (upd H l (.lst (vs ++ [w]))) l (appM o a) := by
  cases o with
  | fl xs =>
    obtain ⟨vs, h1, h2⟩ := h
    cases a with
    | val d => exact ⟨vs, h1, h2.length, rfl, _, upd_same, h2.append (.cons r .nil)⟩
    | sl j => exact ⟨vs, h1, h2.length, rfl, _, upd_same, (ArsRep.ofData h2).append ⟨r, trivial⟩⟩
  | ls as =>
    obtain ⟨vs, h1, h2⟩ := h
    exact ⟨vs, h1, h2.length, rfl, _, upd_same, h2.append ⟨r, trivial⟩⟩
  | _ => cases n
def isLi (δ : DSt) (i : Nat) : Bool := match δ.m[i]? with
  | some o => isL o
  | none => false
theorem isLi_at {δ : DSt} {i : Nat} (h : isLi δ i = true) : ∃ o, δ.m[i]? = some o ∧ isL o = true := by
  unfold isLi at h
  split at h
  · exact ⟨_, ‹_›, h⟩
  · cases h
theorem isSl {F : Fg} {H : Hp} {σ : L2.St} {δ : DSt} (R : RepS W E K mg F σ δ H) {i : Nat} {v : V} (h : isLi δ i = true) (r : ArRep K F v (.sl i)) : tyV K "list" v H := by
  obtain ⟨o, ho, n⟩ := isLi_at h
  obtain ⟨l, e1, e2, e3⟩ := R.sto.at ho (isL_live n)
  obtain ⟨l', g1, rfl⟩ := r
  rw [e1] at g1
  cases g1
  cases o with
  | fl xs => obtain ⟨vs, h1, _⟩ := e3; exact .inl ⟨rfl, _, SqL.of h1⟩
  | ls xs => obtain ⟨vs, h1, _⟩ := e3; exact .inl ⟨rfl, _, SqL.of h1⟩
  | _ => cases n
def setM (δ : DSt) (i : Nat) (o : Mo) : DSt := ⟨δ.s, δ.m.set i o⟩
def guardB (b : Bool) (P : Prop) : Prop := match b with
  | true => P
  | false => False
theorem guardB_iff {b : Bool} {P : Prop} : guardB b P ↔ b = true ∧ P := by
  cases b with
  | true => exact ⟨fun h => ⟨rfl, h⟩, fun h => h.2⟩
  | false => exact ⟨fun h => h.elim, fun h => by cases h.1⟩
def dApp (fo f : DTE) : DTE := fun δ C => fo δ fun a δ1 => match a with
  | .sl i => guardB (isLi δ1 i) (f δ1 fun b δ2 => match δ2.m[i]? with
    | some o => guardB (isL o) (lenM o < sizeLine ∧ C (.val .none) (setM δ2 i (appM o b)))
    | none => False)
  | _ => False
theorem pd_append {o e : Expr} {fo f : DTE} {apos cpos : Pos} (ho : PD W E X o fo) (he : PD W E X e f)
    (hbase : attributeBase o "append" X.env (eval o X.env) = eval o X.env := by rfl)
    (hfew : ((backTo cpos (starEach [e] X.env)).all (fun x => !x.1) && (backToKw cpos (keywordEach [] X.env)).all (fun x => x.1.isSome)
      && decide ([e].length + ([] : List Keyword).length + (if ([] : List Keyword).isEmpty then 0 else 1) < 30)) = true := by rfl)
    (hline : (apos.endLine == cpos.line) = true := by rfl) (hs : starEach [e] X.env = (false, eval e X.env) :: starEach [] X.env := by rfl) (hplain : (backTo cpos (starEach [] X.env)).any (·.1) = false := by rfl) :
    PD W E X (.Call (.Attribute o "append" apos) [e] [] cpos) (dApp fo f) := by
  obtain ⟨te, p, q⟩ := ho
  obtain ⟨tf, p2, q2⟩ := he
  refine ⟨_, pe_bm PySem.F.plainAttrs_list PySem.F.slot_list_append PySem.F.type_list_append mt_append p (pa_cons p2 pa_nil hs) hbase hfew hline hs hplain, fun {F σ δ H Q C} R c k => ?_⟩
  refine q R c fun a δ1 F1 H1 v R1 s1 r1 c1 => ?_
  split at c1
  · rename_i i
    obtain ⟨g1, c1⟩ := guardB_iff.mp c1
    refine ⟨isSl R1 g1 r1, q2 R1 c1 fun b δ2 F2 H2 w R2 s2 r2 c2 => ?_⟩
    clear g1
    split at c2
    · rename_i o ho
      obtain ⟨n, hz, c3⟩ := guardB_iff.mp c2
      obtain ⟨l, e1, e2, e3⟩ := R2.sto.at ho (isL_live n)
      obtain ⟨l', g1, rfl⟩ := r1.step s2
      rw [e1] at g1
      cases g1
      obtain ⟨vs, h1, h2, h3, h4⟩ := appM_rep e3 n r2
      obtain ⟨R3, s3⟩ := R2.put (o' := appM o b) (u := .lst (vs ++ [w])) ho (isL_live n) (isL_live h3) e1 (fun x => by intro z; cases z) h4
      exact ⟨l, vs, w, rfl, rfl, h1, by rw [h2]; exact hz, k (.val .none) _ _ _ _ R3 ((s1.trans s2).trans s3) Dp.non c3⟩
    · exact c2.elim
  · exact c1.elim
/-- xs.pop() -/
def popM : Mo → Option (Ar × Mo)
  | .fl xs => match xs[xs.length - 1]? with
    | some d => some (.val d, .fl xs.dropLast)
    | none => none
  | .ls xs => match xs[xs.length - 1]? with
    | some d => some (d, .ls xs.dropLast)
    | none => none
  | _ => none
theorem popM_rep {F : Fg} {H : Hp} {l : Addr} {o o' : Mo} {a : Ar} (h : MoRep K mg F H l o) (e : popM o = some (a, o')) : ∃ vs w, H l = some (.lst vs) ∧ vs[vs.length - 1]? = some w ∧ ArRep K F w a ∧ isL o = true ∧ isL o' = true ∧ MoRep K mg F (upd H l (.lst vs.dropLast)) l o' := by
  cases o with
  | fl xs =>
    obtain ⟨vs, h1, h2⟩ := h
    have e : (match xs[xs.length - 1]? with | some d => some (Ar.val d, Mo.fl xs.dropLast) | none => none) = some (a, o') := e
    cases hd : xs[xs.length - 1]? with
    | none => rw [hd] at e; cases e
    | some d =>
      rw [hd] at e
      cases e
      rw [← h2.length] at hd
      obtain ⟨w, e1, e2⟩ := h2.get hd
      exact ⟨vs, w, h1, e1, e2, rfl, rfl, _, upd_same, h2.dropLast⟩
  | ls xs =>
    obtain ⟨vs, h1, h2⟩ := h
    have e : (match xs[xs.length - 1]? with | some d => some (d, Mo.ls xs.dropLast) | none => none) = some (a, o') := e
    cases hd : xs[xs.length - 1]? with
    | none => rw [hd] at e; cases e
    | some d =>
      rw [hd] at e
      cases e
      rw [← h2.length] at hd
      obtain ⟨w, e1, e2⟩ := h2.get hd
      exact ⟨vs, w, h1, e1, e2, rfl, rfl, _, upd_same, h2.dropLast⟩
  | _ => cases e
def dPop (fo : DTE) : DTE := fun δ C => fo δ fun a δ1 => match a with
  | .sl i => match δ1.m[i]? with
    | some o => match popM o with
      | some (b, o') => C b (setM δ1 i o')
      | none => False
    | none => False
  | _ => False
theorem pd_pop {o : Expr} {fo : DTE} {apos cpos : Pos} (ho : PD W E X o fo)
    (hbase : attributeBase o "pop" X.env (eval o X.env) = eval o X.env := by rfl)
    (hline : (apos.endLine == cpos.line) = true := by rfl) :
    PD W E X (.Call (.Attribute o "pop" apos) [] [] cpos) (dPop fo) := by
  obtain ⟨te, p, q⟩ := ho
  refine ⟨_, pe_bm0 PySem.F.plainAttrs_list PySem.F.slot_list_pop PySem.F.type_list_pop mt_pop p hbase hline, fun {F σ δ H Q C} R c k => ?_⟩
  refine q R c fun a δ1 F1 H1 v R1 s1 r1 c1 => ?_
  split at c1
  · rename_i i
    split at c1
    · rename_i o ho
      split at c1
      · rename_i b o' hp
        have n : isL o = true := by
          cases o with
          | fl xs => rfl
          | ls xs => rfl
          | _ => cases hp
        obtain ⟨l, e1, e2, e3⟩ := R1.sto.at ho (isL_live n)
        have r1' := r1
        obtain ⟨l', g1, rfl⟩ := r1
        rw [e1] at g1
        cases g1
        obtain ⟨vs, w, h1, h2, h3, _, h5, h6⟩ := popM_rep e3 hp
        obtain ⟨R3, s3⟩ := R1.put (o' := o') (u := .lst vs.dropLast) ho (isL_live n) (isL_live h5) e1 (fun x => by intro z; cases z) h6
        exact ⟨isSl R1 (by unfold isLi; rw [ho]; exact n) r1', l, vs, w, rfl, rfl, h1, h2, k b _ _ _ w R3 (s1.trans s3) (h3.step s3) c1⟩
      · exact c1.elim
    · exact c1.elim
  · exact c1.elim
end
end MM

namespace MM
open PySem PySem.Spec PyProof.Rows L2
structure Conn (W : WX) (E : EW) (K : PySem.W.Frag) (mg : Str → Option Value) (F : Fg) (H : Hp) (DD : DEnds) (D : Ends) : Prop where
  nx : ∀ F' σ' δ' H', RepS W E K mg F' σ' δ' H' → Stp F H F' H' → DD.nx δ' → D.nx σ' H'
  bk : ∀ F' σ' δ' H', RepS W E K mg F' σ' δ' H' → Stp F H F' H' → DD.bk δ' → D.bk σ' H'
  ct : ∀ F' σ' δ' H', RepS W E K mg F' σ' δ' H' → Stp F H F' H' → DD.ct δ' → D.ct σ' H'
  rt : ∀ F' σ' δ' H' v r, RepS W E K mg F' σ' δ' H' → Stp F H F' H' → ArRep K F' v r → DD.rt r δ' → D.rt v H'
theorem Conn.step {W : WX} {E : EW} {K : PySem.W.Frag} {mg : Str → Option Value} {F : Fg} {H : Hp} {F1 : Fg} {H1 : Hp} {DD : DEnds} {D : Ends} (c : Conn W E K mg F H DD D) (s : Stp F H F1 H1) : Conn W E K mg F1 H1 DD D :=
  ⟨fun F' σ' δ' H' R t h => c.nx F' σ' δ' H' R (s.trans t) h, fun F' σ' δ' H' R t h => c.bk F' σ' δ' H' R (s.trans t) h, fun F' σ' δ' H' R t h => c.ct F' σ' δ' H' R (s.trans t) h,
    fun F' σ' δ' H' v r R t q h => c.rt F' σ' δ' H' v r R (s.trans t) q h⟩
/-! ### statements -/
structure SD (W : WX) (E : EW) (X : Cx) (st : Stmt) (g : DTS) : Prop where
  ex : ∃ ts, PS X st ts ∧ ∀ {F : Fg} {σ : L2.St} {δ : DSt} {H : Hp} {DD : DEnds} {D : Ends}, RepS W E X.K X.mg F σ δ H → g DD δ → Conn W E X.K X.mg F H DD D → ts D σ H
structure SDs (W : WX) (E : EW) (X : Cx) (st : List Stmt) (g : DTS) : Prop where
  ex : ∃ ts, PSs X st ts ∧ ∀ {F : Fg} {σ : L2.St} {δ : DSt} {H : Hp} {DD : DEnds} {D : Ends}, RepS W E X.K X.mg F σ δ H → g DD δ → Conn W E X.K X.mg F H DD D → ts D σ H
/-- targets: ws the slots that are written -/
abbrev DTG := Ar → DSt → (DSt → Prop) → Prop
abbrev DTGs := List Ar → DSt → (DSt → Prop) → Prop
/-- as it was, but for the slots ws -/
def Agree (ws : List Nat) (σ σ' : L2.St) : Prop := σ'.length = σ.length ∧ ∀ i, i ∉ ws → σ'[i]? = σ[i]?
structure PDG (W : WX) (E : EW) (X : Cx) (tg : Expr) (g : DTG) (ws : List Nat) : Prop where
  ex : ∃ t, PG X tg t ∧ ∀ {F : Fg} {σ : L2.St} {δ : DSt} {H : Hp} {v : V} {d : Ar} {Q : L2.St → Hp → Prop} {C : DSt → Prop}, RepS W E X.K X.mg F σ δ H → ArRep X.K F v d → g d δ C →
    (∀ δ' F' σ' H', RepS W E X.K X.mg F' σ' δ' H' → Stp F H F' H' → Agree ws σ σ' → C δ' → Q σ' H') → t v σ H Q
structure PDGs (W : WX) (E : EW) (X : Cx) (tg : List Expr) (g : DTGs) (ws : List Nat) : Prop where
  ex : ∃ t, PGs X tg t ∧ ∀ {F : Fg} {σ : L2.St} {δ : DSt} {H : Hp} {v : List V} {d : List Ar} {Q : L2.St → Hp → Prop} {C : DSt → Prop}, RepS W E X.K X.mg F σ δ H → ArsRep X.K F v d → g d δ C →
    (∀ δ' F' σ' H', RepS W E X.K X.mg F' σ' δ' H' → Stp F H F' H' → Agree ws σ σ' → C δ' → Q σ' H') → t v σ H Q
def setS (δ : DSt) (i : Nat) (a : Ar) : DSt := ⟨δ.s.set i (some a), δ.m⟩
def dgName (i : Nat) : DTG := fun d δ C => C (setS δ i d)
def dgsNil : DTGs := fun ds δ C => match ds with
  | [] => C δ
  | _ => False
def dgsCons (g : DTG) (h : DTGs) : DTGs := fun ds δ C => match ds with
  | d :: ds => g d δ fun δ1 => h ds δ1 C
  | _ => False
def tupA (δ : DSt) : Ar → Option (List Ar)
  | .val (.tuple ds) => some (ds.map .val)
  | .sl j => match δ.m[j]? with
    | some (.tu as) => some as
    | _ => none
  | _ => none
def dgTup (n : Nat) (g : DTGs) : DTG := fun d δ C => match tupA δ d with
  | some ds => ds.length = n ∧ g ds δ C
  | none => False
section
variable {W : WX} {E : EW} {mg : Str → Option Value} {X : Cx} {K : PySem.W.Frag} {F : Fg} {H : Hp} {σ : L2.St} {δ : DSt} {pos : Pos}
theorem tupA_rep (R : RepS W E K mg F σ δ H) {v : V} {a : Ar} {as : List Ar} (r : ArRep K F v a) (h : tupA δ a = some as) : ∃ p vs, v = .ref p ∧ SqT K H p vs ∧ ArsRep K F vs as := by
  cases a with
  | val d =>
    cases d with
    | tuple ds =>
      cases h
      cases (show Dp K F.f v (.tuple ds) from r) with
      | tup h1 a1 => exact ⟨_, _, rfl, seqT R.sto.sub h1, ArsRep.ofData a1⟩
    | _ => cases h
  | sl j =>
    have h : (match δ.m[j]? with | some (.tu as) => some as | _ => none) = some as := h
    cases q : δ.m[j]? with
    | none => rw [q] at h; cases h
    | some o =>
      rw [q] at h
      cases o with
      | tu as' =>
        cases h
        obtain ⟨l, e1, e2, vs, e3, e4⟩ := R.sto.at q rfl
        obtain ⟨l', g1, rfl⟩ := r
        rw [e1] at g1
        cases g1
        exact ⟨_, _, rfl, SqT.of e3, e4⟩
      | _ => cases h
theorem pdg_name {i : Nat} {x : Str} (hN : X.N.Nodup) (hi : X.N[i]? = some x) (hx : Loc X.env.scope x) (hf : X.fn x = true ∨ X.env.scope.names.lookup x = some .local := by first | exact .inl rfl | exact .inr rfl | assumption) : PDG W E X (.Name x pos) (dgName i) [i] := by
  refine ⟨_, pg_name hN hi hx hf, fun R h c k => ?_⟩
  exact k _ _ _ _ (R.setSlot h) .refl ⟨by simp, fun j hj => List.getElem?_set_ne (Ne.symm (by simpa using hj))⟩ c
theorem pdgs_nil : PDGs W E X [] dgsNil [] := by
  refine ⟨_, pgs_nil, fun {F σ δ H v d Q C} R h c k => ?_⟩
  unfold dgsNil at c
  split at c
  · cases v with
    | nil => exact ⟨rfl, k _ _ _ _ R .refl ⟨rfl, fun _ _ => rfl⟩ c⟩
    | cons _ _ => exact h.elim
  · exact c.elim
theorem pdgs_cons {e : Expr} {es : List Expr} {g : DTG} {h : DTGs} {ws us : List Nat} (h1 : PDG W E X e g ws) (h2 : PDGs W E X es h us)
    (hs : (assignEach (e :: es) X.env).map (·.2) = assign e X.env :: (assignEach es X.env).map (·.2) := by rfl) : PDGs W E X (e :: es) (dgsCons g h) (ws ++ us) := by
  obtain ⟨t, p1, q1⟩ := h1
  obtain ⟨u, p2, q2⟩ := h2
  refine ⟨_, pgs_cons p1 p2 hs, fun {F σ δ H v d Q C} R h c k => ?_⟩
  unfold dgsCons at c
  split at c
  · cases v with
    | nil => exact h.elim
    | cons v vs =>
      refine ⟨_, _, rfl, q1 R h.1 c fun δ1 F1 σ1 H1 R1 s1 f1 c1 => ?_⟩
      refine q2 R1 (h.2.step s1) c1 fun δ2 F2 σ2 H2 R2 s2 f2 c2 => ?_
      exact k _ _ _ _ R2 (s1.trans s2) ⟨f2.1.trans f1.1, fun i hi => by
        rw [List.mem_append, not_or] at hi
        exact (f2.2 i hi.2).trans (f1.2 i hi.1)⟩ c2
  · exact c.elim
theorem pdg_tup {es : List Expr} {kk : Nat} {g : DTGs} {n : Nat} {ws : List Nat} (hc : X.calm = true) (h : PDGs W E X es g ws)
    (hn : (assignEach es X.env).length = n := by rfl) (hst : (assignEach es X.env).findIdx? (·.1) = none := by rfl) : PDG W E X (.Tuple es kk pos) (dgTup n g) ws := by
  obtain ⟨t, p, q⟩ := h
  refine ⟨_, pg_tup hc p hn hst, fun {F σ δ H v d Q C} R h c k => ?_⟩
  unfold dgTup at c
  split at c
  · rename_i ds hd
    obtain ⟨p, vs, rfl, h1, a1⟩ := tupA_rep R h hd
    exact ⟨_, _, rfl, h1, a1.length.trans c.1, q R a1 c.2 k⟩
  · exact c.elim

def dNext : DTS := fun D δ => D.nx δ
theorem nx_of {D : DEnds} {δ : DSt} (h : D.nx δ) : dNext D δ := h
def dSeq (g h : DTS) : DTS := fun D δ => g { D with nx := h D } δ
theorem sds_nil : SDs W E X [] dNext := ⟨_, pss_nil, fun R h k => k.nx _ _ _ _ R .refl h⟩
theorem sds_cons {st : Stmt} {rest : List Stmt} {g h : DTS} (h1 : SD W E X st g) (h2 : SDs W E X rest h) : SDs W E X (st :: rest) (dSeq g h) := by
  obtain ⟨t, p1, q1⟩ := h1
  obtain ⟨u, p2, q2⟩ := h2
  refine ⟨_, pss_cons p1 p2, fun R c k => ?_⟩
  exact q1 R c ⟨fun F' σ' δ' H' R' s' c' => q2 R' c' (k.step s'), k.bk, k.ct, k.rt⟩
theorem sds_one {st : Stmt} {g : DTS} (h1 : SD W E X st g) : SDs W E X [st] g := by
  obtain ⟨t, p1, q1⟩ := h1
  exact ⟨_, pss_one p1, q1⟩
def dBreak : DTS := fun D δ => D.bk δ
def dCont : DTS := fun D δ => D.ct δ
theorem sd_pass : SD W E X (.Pass pos) dNext := ⟨_, ps_pass, fun R h k => k.nx _ _ _ _ R .refl h⟩
theorem sd_break : SD W E X (.Break pos) dBreak := ⟨_, ps_break, fun R h k => k.bk _ _ _ _ R .refl h⟩
theorem sd_continue : SD W E X (.Continue pos) dCont := ⟨_, ps_continue, fun R h k => k.ct _ _ _ _ R .refl h⟩
theorem sd_doc {x j p2} : SD W E X (.Expr (.Constant (.str x) j pos) p2) dNext := ⟨_, ps_doc, fun R h k => k.nx _ _ _ _ R .refl h⟩
/-- a way that is never taken -/
def dNever : DTS := fun _ _ => False
theorem sd_never {st : Stmt} : SD W E X st dNever := ⟨_, ps_never, fun R h k => h⟩
def dDrop (f : DTE) : DTS := fun D δ => f δ fun _ δ1 => D.nx δ1
theorem sd_expr {e : Expr} {f : DTE} (h : PD W E X e f) (hs : swapsWith e none pos.line X.env = pure false := by rfl) : SD W E X (.Expr e pos) (dDrop f) := by
  obtain ⟨te, p, q⟩ := h
  exact ⟨_, ps_expr p hs, fun R c k => q R c fun a δ1 F1 H1 v R1 s1 r1 c1 => k.nx _ _ _ _ R1 s1 c1⟩
def dRet (f : DTE) : DTS := fun D δ => f δ fun a δ1 => D.rt a δ1
theorem sd_ret {e : Expr} {f : DTE} (h : PD W E X e f) : SD W E X (.Return (some e) pos) (dRet f) := by
  obtain ⟨te, p, q⟩ := h
  refine ⟨_, ps_ret p, fun {F σ δ H DD D} R c k => ?_⟩
  exact q R c fun a δ1 F1 H1 v R1 s1 r1 c1 => k.rt _ _ _ _ v a R1 s1 r1 c1
def dRet0 : DTS := fun D δ => D.rt (.val .none) δ
theorem sd_ret0 : SD W E X (.Return none pos) dRet0 := ⟨_, ps_retN, fun R h k => k.rt _ _ _ _ _ (.val .none) R .refl Dp.non h⟩
def dIf (t : DTT) (g h : DTS) : DTS := fun D δ => t δ fun b δ1 => (b = true → g D δ1) ∧ (b = false → h D δ1)
theorem sd_if {c : Expr} {a b : List Stmt} {t : DTT} {g h : DTS} (hc : PDT W E X c t) (ha : SDs W E X a g) (hb : SDs W E X b h) : SD W E X (.If c a b pos) (dIf t g h) := by
  obtain ⟨tc, p, q⟩ := hc
  obtain ⟨ta, pa, qa⟩ := ha
  obtain ⟨tb, pb, qb⟩ := hb
  refine ⟨_, ps_if p pa pb, fun R c k => ?_⟩
  refine q R c fun b δ1 F1 H1 R1 s1 c1 => ?_
  cases b with
  | true => exact iteT (qa R1 (c1.1 rfl) (k.step s1))
  | false => exact iteF (qb R1 (c1.2 rfl) (k.step s1))
def dSet (i : Nat) (f : DTE) : DTS := fun D δ => f δ fun a δ1 => D.nx (setS δ1 i a)
theorem sd_set {i : Nat} {x : Str} {e : Expr} {f : DTE} {p2 : Pos} (hN : X.N.Nodup) (hi : X.N[i]? = some x) (hx : Loc X.env.scope x) (h : PD W E X e f) (hs : swapsWith e (some (.Name x p2)) pos.line X.env = pure false := by rfl)
    (hf : X.fn x = true ∨ X.env.scope.names.lookup x = some .local := by first | exact .inl rfl | exact .inr rfl | assumption) : SD W E X (.Assign [.Name x p2] e pos) (dSet i f) := by
  obtain ⟨te, p, q⟩ := h
  refine ⟨_, ps_set hN hi hx p hs hf, fun R c k => ?_⟩
  exact q R c fun a δ1 F1 H1 v R1 s1 r1 c1 => k.nx _ _ _ _ (R1.setSlot r1) s1 c1
/-- target = e, any target -/
def dAsg (f : DTE) (g : DTG) : DTS := fun D δ => f δ fun a δ1 => g a δ1 D.nx
theorem sd_asg {tg e : Expr} {f : DTE} {g : DTG} {ws : List Nat} (h : PD W E X e f) (hg : PDG W E X tg g ws) (hs : swapsWithSole [tg] e pos.line X.env = pure false := by rfl) (hw : swappedStores [tg] e X.env = pure none := by rfl)
    (h1 : (assignEach [tg] X.env).map (·.2) = [assign tg X.env] := by rfl) : SD W E X (.Assign [tg] e pos) (dAsg f g) := by
  obtain ⟨te, p, q⟩ := h
  obtain ⟨t, pg, qg⟩ := hg
  refine ⟨_, ps_asg p pg hs hw h1, fun R c k => ?_⟩
  refine q R c fun a δ1 F1 H1 v R1 s1 r1 c1 => ?_
  exact qg R1 r1 c1 fun δ2 F2 σ2 H2 R2 s2 _ c2 => k.nx _ _ _ _ R2 (s1.trans s2) c2
/-- name += e -/
def dAug (i : Nat) (r : DOp) (f : DTE) : DTS := fun D δ => match δ.s[i]? with
  | some (some (.val x)) => f δ fun a δ1 => match a with
    | .val y => r x y fun z => D.nx (setS δ1 i (.val z))
    | _ => False
  | _ => False
def IpD (W : WX) (E : EW) (X : Cx) (op : Operator) (r : DOp) : Prop :=
  ∃ r' : TIp, PIp X op r' ∧ ∀ {F : Fg} {σ : L2.St} {δ : DSt} {H : Hp} {x y : V} {d e : PyData} {Q : VK} {C : PyData → Prop}, RepS W E X.K X.mg F σ δ H → Dp X.K F.f x d → Dp X.K F.f y e → r d e C →
    (∀ z F' H' v, RepS W E X.K X.mg F' σ δ H' → Stp F H F' H' → Dp X.K F'.f v z → C z → Q v H') → r' x y H Q
def iAdd : DOp := fun d e C => match d, e with
  | .int i, .int j => C (.int (i + j))
  | _, _ => False
def iSub : DOp := fun d e C => match d, e with
  | .int i, .int j => C (.int (i - j))
  | _, _ => False
theorem id_add : IpD W E X .Add iAdd := by
  refine ⟨_, ip_add, fun {F σ δ H x y d e Q C} R hx hy c k => ?_⟩
  unfold iAdd at c
  split at c
  · cases hx; cases hy
    exact ⟨_, _, rfl, rfl, k _ _ _ _ R .refl (.int _) c⟩
  · exact c.elim
theorem id_sub : IpD W E X .Sub iSub := by
  refine ⟨_, ip_sub, fun {F σ δ H x y d e Q C} R hx hy c k => ?_⟩
  unfold iSub at c
  split at c
  · cases hx; cases hy
    exact ⟨_, _, rfl, rfl, k _ _ _ _ R .refl (.int _) c⟩
  · exact c.elim
theorem sd_aug {i : Nat} {x : Str} {e : Expr} {f : DTE} {op : Operator} {r : DOp} {p2 : Pos} (hN : X.N.Nodup) (hi : X.N[i]? = some x) (hx : Loc X.env.scope x) (h : PD W E X e f) (ho : IpD W E X op r)
    (hf : X.fn x = true ∨ X.env.scope.names.lookup x = some .local := by first | exact .inl rfl | exact .inr rfl | assumption) : SD W E X (.AugAssign (.Name x p2) op e pos) (dAug i r f) := by
  obtain ⟨te, p, q⟩ := h
  obtain ⟨r', o1, o2⟩ := ho
  refine ⟨_, ps_aug hN hi hx p o1 hf, fun {F σ δ H DD D} R c k => ?_⟩
  unfold dAug at c
  split at c
  · rename_i d hd
    obtain ⟨v, e1, e2⟩ := R.slot i (.val d) hd
    refine ⟨v, e1, q R c fun a δ1 F1 H1 w R1 s1 r1 c1 => ?_⟩
    split at c1
    · refine o2 R1 (Dp.mono s1.ext _ _ e2) r1 c1 fun z F2 H2 u R2 s2 r2 c2 => ?_
      exact k.nx _ _ _ _ (R2.setSlot (a := .val z) r2) (s1.trans s2) c2
    · exact c1.elim
  · exact c.elim
/-- xs[i] = e of a list of the store -/
def setL (o : Mo) (n : Nat) (a : Ar) : Mo := match o, a with
  | .fl xs, .val d => .fl (xs.set n d)
  | .fl xs, .sl j => .ls ((xs.map .val).set n (.sl j))
  | .ls as, a => .ls (as.set n a)
  | o, _ => o
theorem setL_rep {l : Addr} {o : Mo} {a : Ar} {w : V} {n : Nat} (h : MoRep K mg F H l o) (nl : isL o = true) (r : ArRep K F w a) : ∃ vs, H l = some (.lst vs) ∧ vs.length = lenM o ∧ isL (setL o n a) = true ∧ MoRep K mg F (upd H l (.lst (vs.set n w))) l (setL o n a) := by
  cases o with
  | fl xs =>
    obtain ⟨vs, h1, h2⟩ := h
    cases a with
    | val d => exact ⟨vs, h1, h2.length, rfl, _, upd_same, DpAll.set r n h2⟩
    | sl j => exact ⟨vs, h1, h2.length, rfl, _, upd_same, ArsRep.set r n (ArsRep.ofData h2)⟩
  | ls as =>
    obtain ⟨vs, h1, h2⟩ := h
    exact ⟨vs, h1, h2.length, rfl, _, upd_same, ArsRep.set r n h2⟩
  | _ => cases nl
def dSetIx (fo fi f : DTE) : DTS := fun D δ => f δ fun a δ1 => fo δ1 fun b δ2 => match b with
    | .sl j => fi δ2 fun c δ3 => match c with
      | .val (.int i) => match δ3.m[j]? with
        | some o => match ixN (lenM o) i with
          | some n => guardB (isL o) (D.nx (setM δ3 j (setL o n a)))
          | none => False
        | none => False
      | _ => False
    | _ => False
theorem sd_setIx {o i e : Expr} {fo fi f : DTE} {p2 : Pos} (ho : PD W E X o fo) (hi : PD W E X i fi) (h : PD W E X e f)
    (ha : ∀ v, assign (.Subscript o i p2) X.env v = (do
      let ov ← holding [v] (eval o X.env)
      let iv ← holding [v, ov] (eval i X.env)
      standAt p2
      holding [v, ov, iv] (setItem ov iv v)
      release [v, ov, iv] []) := by intro _; rfl)
    (hs : swapsWithSole [.Subscript o i p2] e pos.line X.env = pure false := by rfl) (hw : swappedStores [.Subscript o i p2] e X.env = pure none := by rfl)
    (h1 : (assignEach [.Subscript o i p2] X.env).map (·.2) = [assign (.Subscript o i p2) X.env] := by rfl) : SD W E X (.Assign [.Subscript o i p2] e pos) (dSetIx fo fi f) := by
  obtain ⟨te, p, q⟩ := h
  obtain ⟨to, po, qo⟩ := ho
  obtain ⟨ti, pi, qi⟩ := hi
  refine ⟨_, ps_asg p (pg_sub po pi set_list ha) hs hw h1, fun {F σ δ H DD D} R c k => ?_⟩
  refine q R c fun a δ1 F1 H1 v R1 s1 r1 c1 => ?_
  refine qo R1 c1 fun b δ2 F2 H2 w R2 s2 r2 c2 => ?_
  split at c2
  · rename_i j
    refine qi R2 c2 fun z δ3 F3 H3 u R3 s3 r3 c3 => ?_
    split at c3
    · rename_i n
      cases (show Dp X.K F3.f u (.int n) from r3)
      split at c3
      · rename_i o ho
        split at c3
        · rename_i m hm
          obtain ⟨nl, c4⟩ := guardB_iff.mp c3
          obtain ⟨l, e1, e2, e3⟩ := R3.sto.at ho (isL_live nl)
          obtain ⟨l', g1, rfl⟩ := r2.step s3
          rw [e1] at g1
          cases g1
          obtain ⟨vs, h1, h2, h3, h4⟩ := setL_rep (n := m) e3 nl (r1.step (s2.trans s3))
          obtain ⟨R4, s4⟩ := R3.put (o' := setL o m a) (u := .lst (vs.set m v)) ho (isL_live nl) (isL_live h3) e1 (fun x => by intro z; cases z) h4
          exact ⟨l, vs, n, m, rfl, rfl, h1, by rw [h2]; exact hm, k.nx _ _ _ _ R4 (((s1.trans s2).trans s3).trans s4) c4⟩
        · exact c3.elim
      · exact c3.elim
    · exact c3.elim
  · exact c2.elim

/-! ### while -/
def dWhileN (c : DTT) (b : DTS) : Nat → DTS
  | 0 => fun _ _ => False
  | n + 1 => fun D δ => c δ fun t δ1 => (t = true → b { nx := dWhileN c b n D, ct := dWhileN c b n D, bk := D.nx, rt := D.rt } δ1) ∧ (t = false → D.nx δ1)
def dWhile (c : DTT) (b : DTS) : DTS := fun D δ => ∃ n, dWhileN c b n D δ
theorem sd_while {c : Expr} {body : List Stmt} {t : DTT} {b : DTS} (hp : PassesOwn (model X.prog X.w) X.A X.env X.xe) (hc : PDT W E X c t) (hb : SDs W E X body b) : SD W E X (.While c body [] pos) (dWhile t b) := by
  obtain ⟨tc, p, q⟩ := hc
  obtain ⟨tb, pb, qb⟩ := hb
  refine ⟨_, ps_while hp p pb, fun {F σ δ H DD D} R c k => ?_⟩
  obtain ⟨n, c⟩ := c
  refine ⟨fun m σ' H' => ∃ F' δ', RepS W E X.K X.mg F' σ' δ' H' ∧ Stp F H F' H' ∧ dWhileN t b m DD δ', ⟨n, F, δ, R, .refl, c⟩, ?_⟩
  rintro m σ1 H1 ⟨F1, δ1, R1, s1, c1⟩
  cases m with
  | zero => exact c1.elim
  | succ m =>
    refine q R1 c1 fun t' δ2 F2 H2 R2 s2 c2 => ?_
    cases t' with
    | false => exact iteF (k.nx _ _ _ _ R2 (s1.trans s2) (c2.2 rfl))
    | true =>
      refine iteT ⟨fun σ' H' => ∃ F' δ', RepS W E X.K X.mg F' σ' δ' H' ∧ Stp F H F' H' ∧ dWhileN t b m DD δ', fun σ' H' h => ⟨m, Nat.lt_succ_self _, h⟩, ?_⟩
      have s12 := s1.trans s2
      exact qb R2 (c2.1 rfl) ⟨fun F' σ' δ' H' R' s' c' => ⟨F', δ', R', s12.trans s', c'⟩, fun F' σ' δ' H' R' s' c' => k.nx _ _ _ _ R' (s12.trans s') c',
        fun F' σ' δ' H' R' s' c' => ⟨F', δ', R', s12.trans s', c'⟩, fun F' σ' δ' H' v r R' s' q' c' => k.rt _ _ _ _ v r R' (s12.trans s') q' c'⟩

/-! ### what a for walks -/
/-- a list of the store must be as it was -/
def guardOk (gd : Option (Nat × Mo)) (δ : DSt) : Prop := match gd with
  | none => True
  | some (i, o) => δ.m[i]? = some o
def guardAnd (gd : Option (Nat × Mo)) (δ : DSt) (P : Prop) : Prop := match gd with
  | none => P
  | some (i, o) => δ.m[i]? = some o ∧ P
theorem guardAnd_iff {gd : Option (Nat × Mo)} {δ : DSt} {P : Prop} : guardAnd gd δ P ↔ guardOk gd δ ∧ P := by
  cases gd with
  | none => exact ⟨fun h => ⟨trivial, h⟩, fun h => h.2⟩
  | some p => exact Iff.rfl
def IterRep (W : WX) (E : EW) (K : PySem.W.Frag) (mg : Str → Option Value) (F : Fg) (H : Hp) (J : It) (its : List Ar) (gd : Option (Nat × Mo)) : Prop :=
  ∀ F' σ δ H', RepS W E K mg F' σ δ H' → Stp F H F' H' → guardOk gd δ → ∀ i, (its.length ≤ i → J.stop i H') ∧ ∀ d, its[i]? = some d → J.go i H' ∧ ∀ x H'', J.yld i H' x H'' →
    ∃ F'', RepS W E K mg F'' σ δ H'' ∧ Stp F' H' F'' H'' ∧ ArRep K F'' x d
abbrev DTI := DSt → (List Ar → Option (Nat × Mo) → DSt → Prop) → Prop
structure PDI (W : WX) (E : EW) (X : Cx) (tg iter : Expr) (f : DTI) : Prop where
  ex : ∃ wi, PI X tg iter wi ∧ ∀ {F : Fg} {σ : L2.St} {δ : DSt} {H : Hp} {R : It → Hp → Prop} {C : List Ar → Option (Nat × Mo) → DSt → Prop}, RepS W E X.K X.mg F σ δ H → f δ C →
    (∀ its gd δ' F' H' J, RepS W E X.K X.mg F' σ δ' H' → Stp F H F' H' → IterRep W E X.K X.mg F' H' J its gd → guardOk gd δ' → C its gd δ' → R J H') → wi σ H R
def dIterE (f : DTE) : DTI := fun δ C => f δ fun a δ1 => match a with
  | .val (.list xs) => C (xs.map .val) none δ1
  | .val (.tuple xs) => C (xs.map .val) none δ1
  | .val (.str z) => C (z.cps.toList.map fun c => .val (.str ⟨#[c]⟩)) none δ1
  | .sl i => match δ1.m[i]? with
    | some o => match itemsA o with
      | some as => C as (some (i, o)) δ1
      | none => False
    | none => False
  | _ => False
theorem data_get {F : Fg} {vs : List V} {xs : List PyData} (hA : DpAll K F.f vs xs) {i : Nat} {d : Ar} (hd : (xs.map Ar.val)[i]? = some d) : ∃ v, vs[i]? = some v ∧ ArRep K F v d := by
  rw [List.getElem?_map] at hd
  cases q : xs[i]? with
  | none => rw [q] at hd; cases hd
  | some x =>
    rw [q] at hd
    cases hd
    obtain ⟨v, h1, h2⟩ := hA.get q
    exact ⟨v, h1, h2⟩
theorem iter_list {a : Addr} {vs : List V} {xs : List PyData} (h : SqL K F.f a vs) (hA : DpAll K F.f vs xs) : IterRep W E K mg F H (Itl K a) (xs.map .val) none := by
  intro F' σ δ H1 R t _ i
  have hH : SqL K H1 a vs := R.sto.sub.seq (t.ext.seq h)
  refine ⟨fun hi => ⟨vs, hH, by rw [hA.length]; simpa using hi⟩, fun d hd => ?_⟩
  obtain ⟨v, hv, dv⟩ := data_get hA hd
  refine ⟨⟨vs, v, hH, hv⟩, fun x H' hy => ?_⟩
  obtain ⟨rfl, hy⟩ := hy
  have ex : x = v := Option.some.inj ((hy _ hH).symm.trans hv)
  subst ex
  exact ⟨F', R, .refl, dv.step t⟩
theorem iter_tup {a : Addr} {vs : List V} {xs : List PyData} (h : SqT K F.f a vs) (hA : DpAll K F.f vs xs) : IterRep W E K mg F H (Itt K a) (xs.map .val) none := by
  intro F' σ δ H1 R t _ i
  have hH : SqT K H1 a vs := seqT R.sto.sub (seqT t.ext h)
  refine ⟨fun hi => ⟨vs, hH, by rw [hA.length]; simpa using hi⟩, fun d hd => ?_⟩
  obtain ⟨v, hv, dv⟩ := data_get hA hd
  refine ⟨⟨vs, v, hH, hv⟩, fun x H' hy => ?_⟩
  obtain ⟨rfl, hy⟩ := hy
  have ex : x = v := Option.some.inj ((hy _ hH).symm.trans hv)
  subst ex
  exact ⟨F', R, .refl, dv.step t⟩
theorem iter_store {j : Nat} {o : Mo} {l : Addr} {as : List Ar} (hl : F.g[j]? = some l) (ho : itemsA o = some as) : IterRep W E K mg F H (Itl K l) as (some (j, o)) := by
  intro F' σ δ H1 R t gd i
  have n : isL o = true := by cases o <;> first | rfl | cases ho
  obtain ⟨l', e1, e2, e3⟩ := R.sto.at (show δ.m[j]? = some o from gd) (isL_live n)
  obtain ⟨ns, ep, _⟩ := t.pre
  rw [ep, List.getElem?_append_left (List.getElem?_eq_some_iff.mp hl).1, hl] at e1
  cases e1
  obtain ⟨vs, h1, h2⟩ := itemsA_rep e3 ho
  refine ⟨fun hi => ⟨vs, SqL.of h1, by rw [h2.length]; exact hi⟩, fun d hd => ?_⟩
  obtain ⟨v, hv, dv⟩ := h2.get hd
  refine ⟨⟨vs, v, SqL.of h1, hv⟩, fun x H' hy => ?_⟩
  obtain ⟨rfl, hy⟩ := hy
  have ex : x = v := Option.some.inj ((hy _ (SqL.of h1)).symm.trans hv)
  subst ex
  exact ⟨F', R, .refl, dv⟩
theorem iter_str (z : Str) : IterRep W E K mg F H (Its z) (z.cps.toList.map fun c => .val (.str ⟨#[c]⟩)) none := by
  intro F' σ δ H1 R t _ i
  refine ⟨fun hi => by
    have hi : z.cps.size ≤ i := by simpa using hi
    exact hi, fun d hd => ?_⟩
  rw [List.getElem?_map] at hd
  cases q : z.cps.toList[i]? with
  | none => rw [q] at hd; cases hd
  | some c =>
    rw [q] at hd
    cases hd
    have hi : i < z.cps.size := by
      have := (List.getElem?_eq_some_iff.mp q).1
      simpa using this
    refine ⟨hi, fun x H' hy => ?_⟩
    obtain ⟨rfl, c', hc, rfl⟩ := hy
    have : c' = c := by
      have q2 : z.cps[i]? = some c := by simpa using q
      rw [hc] at q2
      exact Option.some.inj q2
    subst this
    exact ⟨F', R, .refl, Dp.str _⟩
theorem pdi_e {tg e : Expr} {f : DTE} (h : PD W E X e f) : PDI W E X tg e (dIterE f) := by
  obtain ⟨te, p, q⟩ := h
  refine ⟨_, DD.pi_any p, fun {F σ δ H R C} RR c k => ?_⟩
  refine q RR c fun a δ1 F1 H1 v R1 s1 r1 c1 => ?_
  split at c1
  · rename_i xs
    cases (show Dp X.K F1.f v (.list xs) from r1) with
    | lst h1 a1 => exact .inl ⟨_, rfl, ⟨_, R1.sto.sub.seq h1⟩, k _ _ _ _ _ _ R1 s1 (iter_list h1 a1) trivial c1⟩
  · rename_i xs
    cases (show Dp X.K F1.f v (.tuple xs) from r1) with
    | tup h1 a1 => exact .inr (.inl ⟨_, rfl, ⟨_, seqT R1.sto.sub h1⟩, k _ _ _ _ _ _ R1 s1 (iter_tup h1 a1) trivial c1⟩)
  · rename_i z
    cases (show Dp X.K F1.f v (.str z) from r1)
    exact .inr (.inr ⟨z, rfl, k _ _ _ _ _ _ R1 s1 (iter_str z) trivial c1⟩)
  · rename_i i
    split at c1
    · rename_i o ho
      split at c1
      · rename_i as has
        have n : isL o = true := by cases o <;> first | rfl | cases has
        obtain ⟨l, e1, e2, e3⟩ := R1.sto.at ho (isL_live n)
        obtain ⟨l', g1, rfl⟩ := r1
        rw [e1] at g1
        cases g1
        obtain ⟨vs, h1, h2⟩ := itemsA_rep e3 has
        exact .inl ⟨_, rfl, ⟨_, SqL.of h1⟩, k _ _ _ _ _ _ R1 s1 (iter_store e1 has) ho c1⟩
      · exact c1.elim
    · exact c1.elim
  · exact c1.elim
def rangeD (lo : Int) (n : Nat) : List Ar := (List.range n).map fun k => .val (.int (lo + (k : Nat)))
theorem iter_rng (lo : Int) (n : Nat) : IterRep W E K mg F H (Itr lo n) (rangeD lo n) none := by
  intro F' σ δ H1 R t _ i
  unfold rangeD
  refine ⟨fun hi => ?_, fun d hd => ?_⟩
  · have hi : n ≤ i := by simpa using hi
    exact hi
  rw [List.getElem?_map] at hd
  by_cases hi : i < n
  · rw [List.getElem?_range hi] at hd
    cases hd
    refine ⟨hi, fun x H' hy => ?_⟩
    obtain ⟨rfl, rfl⟩ := hy
    exact ⟨F', R, .refl, Dp.int _⟩
  · rw [List.getElem?_eq_none (by simpa using hi)] at hd
    cases hd
def dRng1 (f : DTA) : DTI := fun δ C => f δ fun as δ1 => match as with
  | [.val (.int j)] => -(2 ^ 62) ≤ j ∧ j < 2 ^ 62 ∧ C (rangeD 0 j.toNat) none δ1
  | _ => False
def dRng2 (f : DTA) : DTI := fun δ C => f δ fun as δ1 => match as with
  | [.val (.int i), .val (.int j)] => (-(2 ^ 62) ≤ i ∧ i < 2 ^ 62 ∧ -(2 ^ 62) ≤ j ∧ j < 2 ^ 62) ∧ C (rangeD i (j - i).toNat) none δ1
  | _ => False
theorem pdi_range1 {tg a : Expr} {f : DTA} {p : Pos} (hg : Gl X "range") (hm : X.mg "range" = none) (ha : PDA W E X [a] f) (hs : starEach [a] X.env = [(false, eval a X.env)] := by rfl) : PDI W E X tg (.Call (.Name "range" p) [a] [] pos) (dRng1 f) := by
  obtain ⟨ta, p, q⟩ := ha
  refine ⟨_, pi_range1 hg hm p hs, fun {F σ δ H R C} RR c k => ?_⟩
  refine q RR c fun as δ1 F1 H1 vs R1 s1 r1 c1 => ?_
  split at c1
  · rename_i j
    obtain ⟨v, rfl, r2⟩ := arsRep1 r1
    cases (show Dp X.K F1.f v (.int j) from r2)
    exact ⟨j, rfl, c1.1, c1.2.1, k _ _ _ _ _ _ R1 s1 (iter_rng 0 _) trivial c1.2.2⟩
  · exact c1.elim
theorem pdi_range2 {tg a b : Expr} {f : DTA} {p : Pos} (hg : Gl X "range") (hm : X.mg "range" = none) (ha : PDA W E X [a, b] f) (hs : starEach [a, b] X.env = [(false, eval a X.env), (false, eval b X.env)] := by rfl) (hs2 : starEach [b] X.env = [(false, eval b X.env)] := by rfl) : PDI W E X tg (.Call (.Name "range" p) [a, b] [] pos) (dRng2 f) := by
  obtain ⟨ta, p, q⟩ := ha
  refine ⟨_, pi_range2 hg hm p hs hs2, fun {F σ δ H R C} RR c k => ?_⟩
  refine q RR c fun as δ1 F1 H1 vs R1 s1 r1 c1 => ?_
  split at c1
  · rename_i i j
    obtain ⟨v, w, rfl, r2, r3⟩ := arsRep2 r1
    cases (show Dp X.K F1.f v (.int i) from r2)
    cases (show Dp X.K F1.f w (.int j) from r3)
    exact ⟨i, j, rfl, c1.1, k _ _ _ _ _ _ R1 s1 (iter_rng i _) trivial c1.2⟩
  · exact c1.elim
/-! ### for -/
def dForL (g : DTG) (b : DTS) (gd : Option (Nat × Mo)) : List Ar → DTS
  | [] => fun D δ => D.nx δ
  | d :: ds => fun D δ => g d δ fun δ1 => b { nx := fun δ' => guardAnd gd δ' (dForL g b gd ds D δ'), ct := fun δ' => guardAnd gd δ' (dForL g b gd ds D δ'), bk := D.nx, rt := D.rt } δ1
def dFor (fi : DTI) (g : DTG) (b : DTS) : DTS := fun D δ => fi δ fun its gd δ1 => dForL g b gd its D δ1
theorem sd_for {tg iter : Expr} {body : List Stmt} {fi : DTI} {g : DTG} {b : DTS} {ws : List Nat} (hp : PassesOwn (model X.prog X.w) X.A X.env X.xe) (hc : X.calm = true) (hi : PDI W E X tg iter fi) (hg : PDG W E X tg g ws) (hb : SDs W E X body b)
    (hs : ∀ x, foldedSetIterable iter X.env x = pure x := by intro _; rfl) : SD W E X (.For tg iter body [] pos) (dFor fi g b) := by
  obtain ⟨wi, pi, qi⟩ := hi
  obtain ⟨t, pg, qg⟩ := hg
  obtain ⟨tb, pb, qb⟩ := hb
  refine ⟨_, ps_for hp hc pi pg pb hs, fun {F σ δ H DD D} R c k => ?_⟩
  refine qi R c fun its gd δ1 F1 H1 J R1 s1 it gd1 c1 => ?_
  refine ⟨fun i m σ' H' => ∃ F' δ', RepS W E X.K X.mg F' σ' δ' H' ∧ Stp F1 H1 F' H' ∧ guardOk gd δ' ∧ m = its.length - i ∧ dForL g b gd (its.drop i) DD δ', ⟨its.length, F1, δ1, R1, .refl, gd1, rfl, c1⟩, ?_⟩
  rintro i m σ2 H2 ⟨F2, δ2, R2, s2, g2, rfl, c2⟩
  obtain ⟨stop, go⟩ := it F2 σ2 δ2 H2 R2 s2 g2 i
  cases q : its[i]? with
  | none =>
    have hi : its.length ≤ i := List.getElem?_eq_none_iff.mp q
    rw [List.drop_eq_nil_of_le hi] at c2
    exact .inl ⟨stop hi, k.nx _ _ _ _ R2 (s1.trans s2) c2⟩
  | some d =>
    have hi : i < its.length := (List.getElem?_eq_some_iff.mp q).1
    have ed : its.drop i = d :: its.drop (i + 1) := by
      rw [List.drop_eq_getElem_cons hi]
      have := (List.getElem?_eq_some_iff.mp q).2
      rw [this]
    rw [ed] at c2
    obtain ⟨g1, g3⟩ := go d q
    refine .inr ⟨g1, fun σ' H' => ∃ F' δ', RepS W E X.K X.mg F' σ' δ' H' ∧ Stp F1 H1 F' H' ∧ guardOk gd δ' ∧ dForL g b gd (its.drop (i + 1)) DD δ', fun σ' H' ⟨F', δ', a1, a2, a3, a4⟩ => ⟨its.length - (i + 1), by omega, F', δ', a1, a2, a3, rfl, a4⟩, fun x H3 hy => ?_⟩
    obtain ⟨F3, R3, s3, d3⟩ := g3 x H3 hy
    refine qg R3 d3 c2 fun δ4 F4 σ4 H4 R4 s4 _ c4 => ?_
    have s14 := (s2.trans s3).trans s4
    exact qb R4 c4 ⟨fun F' σ' δ' H' R' s' c' => ⟨F', δ', R', s14.trans s', guardAnd_iff.mp c'⟩, fun F' σ' δ' H' R' s' c' => k.nx _ _ _ _ R' (s1.trans (s14.trans s')) c',
      fun F' σ' δ' H' R' s' c' => ⟨F', δ', R', s14.trans s', guardAnd_iff.mp c'⟩, fun F' σ' δ' H' v r R' s' q' c' => k.rt _ _ _ _ v r R' (s1.trans (s14.trans s')) q' c'⟩
end
end MM

namespace MM
open PySem PySem.Spec PyProof.Rows L2
section
variable {W : WX} {E : EW} {mg : Str → Option Value} {X : Cx} {K : PySem.W.Frag} {F : Fg} {H : Hp} {σ : L2.St} {δ : DSt} {pos : Pos}
/-! ### the canonical readings: the same in every block -/
def canE (W : WX) (E : EW) (K : PySem.W.Frag) (mg : Str → Option Value) (f : DTE) : TE := fun σ H Q => ∃ F δ C, RepS W E K mg F σ δ H ∧ f δ C ∧ ∀ a δ' F' H' v, RepS W E K mg F' σ δ' H' → Stp F H F' H' → ArRep K F' v a → C a δ' → Q v H'
def canT (W : WX) (E : EW) (K : PySem.W.Frag) (mg : Str → Option Value) (f : DTT) : TT := fun σ H Q => ∃ F δ C, RepS W E K mg F σ δ H ∧ f δ C ∧ ∀ a δ' F' H', RepS W E K mg F' σ δ' H' → Stp F H F' H' → C a δ' → Q a H'
def canG (W : WX) (E : EW) (K : PySem.W.Frag) (mg : Str → Option Value) (g : DTG) (ws : List Nat) : TG := fun v σ H Q => ∃ F δ d C, RepS W E K mg F σ δ H ∧ ArRep K F v d ∧ g d δ C ∧ ∀ δ' F' σ' H', RepS W E K mg F' σ' δ' H' → Stp F H F' H' → Agree ws σ σ' → C δ' → Q σ' H'
theorem PD.can {e : Expr} {f : DTE} (h : PD W E X e f) : PE X e (canE W E X.K X.mg f) := by
  obtain ⟨te, p, q⟩ := h
  exact ⟨fun pins s σ H Q I ⟨F, δ, C, R, c, k⟩ => p.run pins s σ H Q I (q R c k)⟩
theorem PDG.can {e : Expr} {g : DTG} {ws : List Nat} (h : PDG W E X e g ws) : PG X e (canG W E X.K X.mg g ws) := by
  obtain ⟨te, p, q⟩ := h
  exact ⟨fun pins s σ H v u Q I r ⟨F, δ, d, C, R, hd, c, k⟩ => p.run pins s σ H v u Q I r (q R hd c k)⟩
structure PDTs (W : WX) (E : EW) (X : Cx) (ifs : List Expr) (f : DTT) : Prop where
  ex : ∃ te, PTs X ifs te ∧ ∀ {F : Fg} {σ : L2.St} {δ : DSt} {H : Hp} {Q : Bool → Hp → Prop} {C : Bool → DSt → Prop}, RepS W E X.K X.mg F σ δ H → f δ C →
    (∀ a δ' F' H', RepS W E X.K X.mg F' σ δ' H' → Stp F H F' H' → C a δ' → Q a H') → te σ H Q
theorem PDTs.can {ifs : List Expr} {f : DTT} (h : PDTs W E X ifs f) : PTs X ifs (canT W E X.K X.mg f) := by
  obtain ⟨te, p, q⟩ := h
  exact ⟨fun pins s σ H Q I ⟨F, δ, C, R, c, k⟩ => p.run pins s σ H Q I (q R c k)⟩
def dYes : DTT := fun δ C => C true δ
theorem pdts_nil : PDTs W E X [] dYes := ⟨_, pts_nil, fun R c k => k _ _ _ _ R .refl c⟩
theorem pdts_one {c : Expr} {f : DTT} (h : PDT W E X c f) : PDTs W E X [c] f := by
  obtain ⟨te, p, q⟩ := h
  exact ⟨_, pts_one p, q⟩
/-! ### comprehensions -/
def wipeL (s : List (Option Ar)) : List Nat → List (Option Ar)
  | [] => s
  | v :: vs => (wipeL s vs).set v none
def restL (s0 s : List (Option Ar)) : List Nat → List (Option Ar)
  | [] => s
  | v :: vs => (restL s0 s vs).set v (s0[v]?.getD none)
def wipeD (δ : DSt) (vs : List Nat) : DSt := ⟨wipeL δ.s vs, δ.m⟩
def restD (δ0 δ : DSt) (vs : List Nat) : DSt := ⟨restL δ0.s δ.s vs, δ.m⟩
theorem wipeL_len (s : List (Option Ar)) : ∀ vs : List Nat, (wipeL s vs).length = s.length
  | [] => rfl
  | v :: vs => by unfold wipeL; rw [List.length_set, wipeL_len s vs]
theorem restL_len (s0 s : List (Option Ar)) : ∀ vs : List Nat, (restL s0 s vs).length = s.length
  | [] => rfl
  | v :: vs => by unfold restL; rw [List.length_set, restL_len s0 s vs]
theorem wipeL_out {s : List (Option Ar)} {i : Nat} : ∀ {vs : List Nat}, i ∉ vs → (wipeL s vs)[i]? = s[i]?
  | [], _ => rfl
  | v :: vs, h => by
    have h1 : v ≠ i := fun e => h (by rw [e]; exact List.mem_cons_self)
    unfold wipeL
    rw [List.getElem?_set_ne h1]
    exact wipeL_out fun m => h (List.mem_cons_of_mem _ m)
theorem restL_out {s0 s : List (Option Ar)} {i : Nat} : ∀ {vs : List Nat}, i ∉ vs → (restL s0 s vs)[i]? = s[i]?
  | [], _ => rfl
  | v :: vs, h => by
    have h1 : v ≠ i := fun e => h (by rw [e]; exact List.mem_cons_self)
    unfold restL
    rw [List.getElem?_set_ne h1]
    exact restL_out fun m => h (List.mem_cons_of_mem _ m)
theorem wipeL_in {s : List (Option Ar)} {i : Nat} : ∀ {vs : List Nat}, i ∈ vs → ∀ x, (wipeL s vs)[i]? ≠ some (some x)
  | v :: vs, h, x => by
    unfold wipeL
    by_cases e : v = i
    · subst e
      by_cases hl : v < (wipeL s vs).length
      · rw [List.getElem?_set_self hl]; intro z; cases z
      · rw [List.getElem?_eq_none (by simpa using hl)]; intro z; cases z
    · rw [List.getElem?_set_ne e]
      rcases List.mem_cons.mp h with z | z
      · exact absurd z.symm e
      · exact wipeL_in z x
theorem restL_in {s0 s : List (Option Ar)} {i : Nat} (hl : s0.length = s.length) : ∀ {vs : List Nat}, i ∈ vs → (restL s0 s vs)[i]? = s0[i]?
  | v :: vs, h => by
    unfold restL
    by_cases e : v = i
    · subst e
      by_cases hv : v < s.length
      · rw [List.getElem?_set_self (by rw [restL_len]; exact hv), List.getElem?_eq_getElem (by omega)]
        rfl
      · rw [List.getElem?_eq_none (by simpa [restL_len] using hv), List.getElem?_eq_none (by omega)]
    · rw [List.getElem?_set_ne e]
      rcases List.mem_cons.mp h with z | z
      · exact absurd z.symm e
      · exact restL_in hl z
theorem wipe_agree {vs ws : List Nat} {σ2 : L2.St} (hw : ∀ i ∈ ws, i ∈ vs) (h : Agree ws (wipe σ vs) σ2) : wipe σ2 vs = wipe σ vs := by
  have hlen : σ2.length = σ.length := by rw [h.1, DD.wipe_len]
  refine List.ext_getElem? fun i => ?_
  by_cases hi : i ∈ vs
  · rw [DD.wipe_in hi, DD.wipe_in hi, hlen]
  · rw [wipe_out hi, h.2 i fun z => hi (hw i z)]
theorem RepS.wiped (R : RepS W E K mg F σ δ H) (vs : List Nat) : RepS W E K mg F (wipe σ vs) (wipeD δ vs) H := by
  refine R.next (s' := wipeL δ.s vs) (m' := δ.m) ⟨R.sto, by rw [DD.wipe_len, wipeL_len]; exact R.len, fun i a q => ?_⟩ .refl
  by_cases hi : i ∈ vs
  · exact absurd q (wipeL_in hi _)
  · rw [wipeL_out hi] at q
    rw [wipe_out hi]
    exact R.slot i a q
theorem RepS.restored {F4 : Fg} {H4 : Hp} {σ2 : L2.St} {δ4 : DSt} {vs : List Nat} (R : RepS W E K mg F σ δ H) (R4 : RepS W E K mg F4 σ2 δ4 H4) (t : Stp F H F4 H4) (ag : Agree vs σ σ2) :
    RepS W E K mg F4 σ (restD δ δ4 vs) H4 := by
  have hl : δ.s.length = δ4.s.length := by rw [← R.len, ← R4.len, ag.1]
  refine R4.next (s' := restL δ.s δ4.s vs) (m' := δ4.m) ⟨R4.sto, by rw [restL_len, ← hl]; exact R.len, fun i a q => ?_⟩ .refl
  by_cases hi : i ∈ vs
  · rw [restL_in hl hi] at q
    obtain ⟨v, h1, h2⟩ := R.slot i a q
    exact ⟨v, h1, h2.step t⟩
  · rw [restL_out hi] at q
    rw [← ag.2 i hi]
    exact R4.slot i a q
def dLcL (g : DTG) (tt : DTT) (te : DTE) (vs : List Nat) (gd : Option (Nat × Mo)) : List Ar → List PyData → DSt → (List PyData → DSt → Prop) → Prop
  | [], acc, δ, C => C acc δ
  | d :: ds, acc, δ, C => g d (wipeD δ vs) fun δ2 => tt δ2 fun b δ3 => (b = true → te δ3 fun a δ4 => match a with
      | .val y => acc.length < sizeLine ∧ guardAnd gd δ4 (dLcL g tt te vs gd ds (acc ++ [y]) (restD δ δ4 vs) C)
      | _ => False) ∧ (b = false → guardAnd gd δ3 (dLcL g tt te vs gd ds acc (restD δ δ3 vs) C))
def dLc (fi : DTI) (g : DTG) (tt : DTT) (te : DTE) (vs : List Nat) : DSt → (List PyData → DSt → Prop) → Prop := fun δ C => fi δ fun its gd δ1 => dLcL g tt te vs gd its [] δ1 C
theorem lc_read {fi : DTI} {g : DTG} {tt : DTT} {te : DTE} {vs ws : List Nat} {wi : TI} (hws : ∀ i ∈ ws, i ∈ vs)
    (qi : ∀ {F : Fg} {σ : L2.St} {δ : DSt} {H : Hp} {R : It → Hp → Prop} {C : List Ar → Option (Nat × Mo) → DSt → Prop}, RepS W E K mg F σ δ H → fi δ C →
      (∀ its gd δ' F' H' J, RepS W E K mg F' σ δ' H' → Stp F H F' H' → IterRep W E K mg F' H' J its gd → guardOk gd δ' → C its gd δ' → R J H') → wi σ H R)
    {Q : VK} {C : List PyData → DSt → Prop} (RR : RepS W E K mg F σ δ H) (c : dLc fi g tt te vs δ C)
    (k : ∀ xs δ' F' H' l us, RepS W E K mg F' σ δ' H' → Stp F H F' H' → F'.f l = none → H l = none → l ∉ F'.g → H' l = some (.lst us) → DpAll K F'.f us xs → C xs δ' → Q (.ref l) H') :
    tLc wi (canG W E K mg g ws) (canT W E K mg tt) (canE W E K mg te) vs σ H Q := by
  refine qi RR c fun its gd δ1 F1 H1 J R1 s1 it gd1 c1 D nD => ?_
  obtain ⟨R1', s1', nF1, nO1⟩ := R1.fresh (o := .lst []) nD
  have nD0 : H D = none := s1.dom D nD
  refine ⟨fun i m H' => ∃ F' δ' acc us, RepS W E K mg F' σ δ' H' ∧ Stp F1 H1 F' H' ∧ guardOk gd δ' ∧ F'.f D = none ∧ D ∉ F'.g ∧ H' D = some (.lst us) ∧ DpAll K F'.f us acc ∧ m = its.length - i ∧ dLcL g tt te vs gd (its.drop i) acc δ' C,
    ⟨its.length, F1, δ1, [], [], R1', s1', gd1, nF1, nO1, upd_same, .nil, rfl, c1⟩, ?_⟩
  rintro i m H2 ⟨F2, δ2, acc, us, R2, s2, g2, nF2, nO2, hD2, hA2, rfl, c2⟩
  obtain ⟨stop, go⟩ := it F2 σ δ2 H2 R2 s2 g2 i
  cases q : its[i]? with
  | none =>
    have hi : its.length ≤ i := List.getElem?_eq_none_iff.mp q
    rw [List.drop_eq_nil_of_le hi] at c2
    exact .inl ⟨stop hi, k acc δ2 F2 H2 D us R2 (s1.trans s2) nF2 nD0 nO2 hD2 hA2 c2⟩
  | some d =>
    have hi : i < its.length := (List.getElem?_eq_some_iff.mp q).1
    have ed : its.drop i = d :: its.drop (i + 1) := by
      rw [List.drop_eq_getElem_cons hi]
      have := (List.getElem?_eq_some_iff.mp q).2
      rw [this]
    rw [ed] at c2
    obtain ⟨g1, g3⟩ := go d q
    refine .inr ⟨g1, fun H' => ∃ F' δ' acc us, RepS W E K mg F' σ δ' H' ∧ Stp F1 H1 F' H' ∧ guardOk gd δ' ∧ F'.f D = none ∧ D ∉ F'.g ∧ H' D = some (.lst us) ∧ DpAll K F'.f us acc ∧ dLcL g tt te vs gd (its.drop (i + 1)) acc δ' C,
      fun H' ⟨F', δ', acc, us, a1, a2, a3, a4, a5, a6, a7, a8⟩ => ⟨its.length - (i + 1), by omega, F', δ', acc, us, a1, a2, a3, a4, a5, a6, a7, rfl, a8⟩, fun x H3 hy => ?_⟩
    obtain ⟨F3, R3, s3, d3⟩ := g3 x H3 hy
    have Rw := R3.wiped vs
    -- keeps: what holds of D behind a step from the state of the turn's beginning
    have keep : ∀ {F' : Fg} {H' : Hp}, Stp F2 H2 F' H' → F'.f D = none ∧ D ∉ F'.g ∧ H' D = some (.lst us) := fun {F' H'} s => by
      refine ⟨?_, fun z => ?_, s.frm D _ hD2 nO2⟩
      · cases qF : F'.f D with
        | none => rfl
        | some o =>
          rcases s.new D o qF with z | z | z
          · rw [nF2] at z; cases z
          · rw [hD2] at z; cases z
          · exact (nO2 z).elim
      · obtain ⟨ns, e1, e2⟩ := s.pre
        rw [e1] at z
        rcases List.mem_append.mp z with z | z
        · exact nO2 z
        · rw [e2 D z] at hD2; cases hD2
    refine ⟨F3, wipeD δ2 vs, d, _, Rw, d3, c2, fun δ4 F4 σ4 H4 R4 s4 ag c4 => ⟨wipe_agree hws ag, ?_⟩⟩
    have agv : Agree vs σ σ4 := ⟨by rw [ag.1, DD.wipe_len], fun j hj => by rw [ag.2 j fun z => hj (hws j z), wipe_out hj]⟩
    refine ⟨F4, δ4, _, R4, c4, fun b δ5 F5 H5 R5 s5 c5 => ?_⟩
    have s35 : Stp F3 H3 F5 H5 := s4.trans s5
    cases b with
    | true =>
      refine iteT ⟨F5, δ5, _, R5, c5.1 rfl, fun a δ6 F6 H6 v R6 s6 r6 c6 => ?_⟩
      cases a with
      | sl j => exact c6.elim
      | val y =>
        obtain ⟨hz, c6⟩ := c6
        obtain ⟨gd6, c6⟩ := guardAnd_iff.mp c6
        have s36 := s35.trans s6
        have R7 := R3.restored R6 s36 agv
        have sAll := s3.trans s36
        obtain ⟨k1, k2, k3⟩ := keep sAll
        have s16 := (s2.trans sAll).ghost (o := .lst (us ++ [v])) nD
        exact ⟨us, k3, by rw [hA2.length]; exact hz, F6, restD δ2 δ6 vs, acc ++ [y], us ++ [v], R7.ghost k1 k2 (fun x z => by rw [k3] at z; cases z) (R1.wishAt s16), s16, gd6, k1, k2, upd_same, (Dp.monoAll sAll.ext _ _ hA2).append (.cons r6 .nil), c6⟩
    | false =>
      obtain ⟨gd5, c6⟩ := guardAnd_iff.mp (c5.2 rfl)
      have R7 := R3.restored R5 s35 agv
      have sAll := s3.trans s35
      obtain ⟨k1, k2, k3⟩ := keep sAll
      exact iteF ⟨F5, restD δ2 δ5 vs, acc, us, R7, s2.trans sAll, gd5, k1, k2, k3, Dp.monoAll sAll.ext _ _ hA2, c6⟩
theorem pdn_lc {elt tg iter : Expr} {ifs : List Expr} {scope : Scope} {own : List (Str × Nat)} {fi : DTI} {g : DTG} {tt : DTT} {te : DTE} {ws : List Nat} (hc : X.calm = true) (hN : X.N.Nodup) (hi : PDI W E X tg iter fi) (ok : BlkOk X.N X.env.scope scope own)
    (hg : ∀ (s : Shared) (H : Hp) (C : Addr) (cl : List (Str × Addr)) (fp : List Addr), PDG W E (X.blk s H scope (compEnvC scope cl C X.env) fp) tg g ws) (ht : ∀ (s : Shared) (H : Hp) (C : Addr) (cl : List (Str × Addr)) (fp : List Addr), PDTs W E (X.blk s H scope (compEnvC scope cl C X.env) fp) ifs tt)
    (he : ∀ (s : Shared) (H : Hp) (C : Addr) (cl : List (Str × Addr)) (fp : List Addr), PD W E (X.blk s H scope (compEnvC scope cl C X.env) fp) elt te) (hws : ∀ i ∈ ws, i ∈ own.map (·.2) := by decide) (hs : ∀ x, foldedSetIterable iter X.env x = pure x := by intro _; rfl) :
    PDN W E X (.ListComp elt [⟨tg, iter, ifs, 0⟩] scope pos) (dLc fi g tt te (own.map (·.2))) := by
  obtain ⟨wi, pi, qi⟩ := hi
  refine ⟨_, pe_lc (g := canG W E X.K X.mg g ws) (tt := canT W E X.K X.mg tt) (te := canE W E X.K X.mg te) hc hN pi ok (fun s H C cl fp => (hg s H C cl fp).can) (fun s H C cl fp => (ht s H C cl fp).can) (fun s H C cl fp => (he s H C cl fp).can) hs, fun {F σ δ H Q C} R c k => ?_⟩
  exact lc_read hws qi R c k
/-- name = [..], the name a local: the list goes to the store, or is frozen -/
def dSetN (i : Nat) (f : DSt → (List PyData → DSt → Prop) → Prop) : DTS := fun D δ => f δ fun xs δ1 => D.nx ⟨δ1.s.set i (some (.sl δ1.m.length)), δ1.m ++ [.fl xs]⟩
def dSetF (i : Nat) (f : DSt → (List PyData → DSt → Prop) → Prop) : DTS := fun D δ => f δ fun xs δ1 => D.nx (setS δ1 i (.val (.list xs)))
theorem sd_setLcG {i : Nat} {y : Str} {py : Pos} {elt tg iter : Expr} {ifs : List Expr} {scope : Scope} {own : List (Str × Nat)} {p2 : Pos} {fi : DTI} {g : DTG} {tt : DTT} {te : DTE} {ws : List Nat} (hc : X.calm = true) (hN : X.N.Nodup) (hy : X.N[i]? = some y) (hyl : X.env.scope.names.lookup y = some .local)
    (hsw : swapsWith (.ListComp elt [⟨tg, iter, ifs, 0⟩] scope p2) (some (.Name y py)) pos.line X.env = pure true) (hi : PDI W E X tg iter fi) (ok : BlkOk X.N X.env.scope scope own)
    (hg : ∀ (s : Shared) (H : Hp) (C : Addr) (cl : List (Str × Addr)) (fp : List Addr), PDG W E (X.blk s H scope (compEnvC scope cl C X.env) fp) tg g ws) (ht : ∀ (s : Shared) (H : Hp) (C : Addr) (cl : List (Str × Addr)) (fp : List Addr), PDTs W E (X.blk s H scope (compEnvC scope cl C X.env) fp) ifs tt)
    (he : ∀ (s : Shared) (H : Hp) (C : Addr) (cl : List (Str × Addr)) (fp : List Addr), PD W E (X.blk s H scope (compEnvC scope cl C X.env) fp) elt te) (hws : ∀ i ∈ ws, i ∈ own.map (·.2) := by decide) (hs : ∀ x, foldedSetIterable iter X.env x = pure x := by intro _; rfl) :
    SD W E X (.Assign [.Name y py] (.ListComp elt [⟨tg, iter, ifs, 0⟩] scope p2) pos) (dSetN i (dLc fi g tt te (own.map (·.2)))) ∧ SD W E X (.Assign [.Name y py] (.ListComp elt [⟨tg, iter, ifs, 0⟩] scope p2) pos) (dSetF i (dLc fi g tt te (own.map (·.2)))) := by
  obtain ⟨wi, pi, qi⟩ := hi
  refine ⟨⟨_, ps_setLc (g := canG W E X.K X.mg g ws) (tt := canT W E X.K X.mg tt) (te := canE W E X.K X.mg te) hc hN hy hyl hsw pi ok (fun s H C cl fp => (hg s H C cl fp).can) (fun s H C cl fp => (ht s H C cl fp).can) (fun s H C cl fp => (he s H C cl fp).can) hs, fun {F σ δ H DD D} R c k => ?_⟩,
    ⟨_, ps_setLc (g := canG W E X.K X.mg g ws) (tt := canT W E X.K X.mg tt) (te := canE W E X.K X.mg te) hc hN hy hyl hsw pi ok (fun s H C cl fp => (hg s H C cl fp).can) (fun s H C cl fp => (ht s H C cl fp).can) (fun s H C cl fp => (he s H C cl fp).can) hs, fun {F σ δ H DD D} R c k => ?_⟩⟩
  · refine lc_read hws qi R c fun xs δ1 F1 H1 l us R1 s1 nF nH nO hH hA c1 => ?_
    obtain ⟨R2, s2⟩ := R.adopt (o := .fl xs) s1 R1.toRepC nH nF nO rfl ⟨us, hH, hA⟩
    have hp : (F1.g ++ [l])[δ1.m.length]? = some l := by
      rw [List.getElem?_append_right (by rw [R1.sto.glen]; exact Nat.le_refl _), R1.sto.glen, Nat.sub_self]; rfl
    exact k.nx _ _ _ _ (R2.setSlot (v := .ref l) (a := .sl δ1.m.length) ⟨l, hp, rfl⟩) s2 c1
  · refine lc_read hws qi R c fun xs δ1 F1 H1 l us R1 s1 nF nH nO hH hA c1 => ?_
    obtain ⟨R2, s2, hD⟩ := R.freezeNew s1 R1.toRepC nH nF nO hH hA
    exact k.nx _ _ _ _ (R2.setSlot (v := .ref l) (a := .val (.list xs)) hD) s2 c1
end
end MM

namespace MM
open PySem PySem.Spec PyProof.Rows L2
/-! ### what a def promises: the arguments, the store; the answer and the store behind, or an exception and the store behind -/
abbrev DSp := List Ar → List Mo → (Ar → List Mo → Prop) → (Str → List Mo → Prop) → Prop
def lift (K : PySem.W.Frag) (mg : Str → Option Value) (d : DSp) : Sp := fun vs H Q E' => ∃ F as m C Ex, ArsRep K F vs as ∧ StoC K mg F m H ∧ d as m C Ex ∧
  (∀ r m' F' H' v, StoC K mg F' m' H' → Stp F H F' H' → ArRep K F' v r → C r m' → Q v H') ∧
  (∀ x Cc dd m' F' H', StoC K mg F' m' H' → Stp F H F' H' → mg x = some (.ref Cc) → Ex x m' → E' (.ref Cc) dd H')
/-! ### what a call leaves may be cut -/
def refsA : Ar → List Nat
  | .val _ => []
  | .sl i => [i]
def refsL : List Ar → List Nat
  | [] => []
  | a :: as => refsA a ++ refsL as
def refsO : Mo → List Nat
  | .ls as => refsL as
  | .tu as => refsL as
  | .ins _ fs => refsL (fs.map (·.2))
  | .dk kvs => refsL (kvs.map (·.2))
  | .dt kvs => refsL (kvs.map (·.2))
  | _ => []
def closedL (n : Nat) (m : List Mo) : Prop := ∀ o ∈ m, ∀ i ∈ refsO o, i < n
def outM (n : Nat) (C : Ar → List Mo → Prop) (r : Ar) (m : List Mo) : Prop := C r m ∨ (closedL n (m.take n) ∧ match r with
  | .val d => C (.val d) (m.take n)
  | .sl j => (j < n ∧ C (.sl j) (m.take n)) ∨ (∃ o, m[j]? = some o ∧ n ≤ j ∧ (∀ i ∈ refsO o, i < n) ∧ C (.sl n) (m.take n ++ [o])))
def outX (n : Nat) (Ex : Str → List Mo → Prop) (x : Str) (m : List Mo) : Prop := Ex x m ∨ (closedL n (m.take n) ∧ Ex x (m.take n))
def startD (N : List Str) (as : List Ar) (m : List Mo) : DSt := ⟨as.map some ++ List.replicate (N.length - as.length) none, m⟩
def endsD (n : Nat) (C : Ar → List Mo → Prop) : DEnds := { nx := fun δ => outM n C (.val .none) δ.m, rt := fun r δ => outM n C r δ.m }
def exE (n : Nat) (Ex : Str → List Mo → Prop) : EW := fun x _ m => outX n Ex x m
section
variable {W : WX} {E : EW} {mg : Str → Option Value} {X : Cx} {K : PySem.W.Frag} {F : Fg} {H : Hp} {σ : L2.St} {δ : DSt} {pos : Pos}
theorem ars_below {G : Fg} {n : Nat} (hg : ∀ i l, i < n → F.g[i]? = some l → G.g[i]? = some l) (hf : G.f = F.f) : ∀ {vs : List V} {as : List Ar}, (∀ i ∈ refsL as, i < n) → ArsRep K F vs as → ArsRep K G vs as
  | [], [], _, _ => trivial
  | v :: vs, a :: as, h, r => by
    refine ⟨?_, ars_below hg hf (fun i hi => h i (List.mem_append_right _ hi)) r.2⟩
    cases a with
    | val d => have := r.1; unfold ArRep at this ⊢; rw [hf]; exact this
    | sl j =>
      obtain ⟨l, h1, h2⟩ := r.1
      exact ⟨l, hg j l (h j (List.mem_append_left _ (List.mem_singleton.mpr rfl))) h1, h2⟩
  | [], _ :: _, _, h => h.elim
  | _ :: _, [], _, h => h.elim
theorem mo_below {G : Fg} {n : Nat} (hg : ∀ i l, i < n → F.g[i]? = some l → G.g[i]? = some l) (hf : G.f = F.f) {l : Addr} {o : Mo} (h : ∀ i ∈ refsO o, i < n) (r : MoRep K mg F H l o) : MoRep K mg G H l o := by
  cases o with
  | fl xs => obtain ⟨vs, h1, h2⟩ := r; exact ⟨vs, h1, by rw [hf]; exact h2⟩
  | ls as => obtain ⟨vs, h1, h2⟩ := r; exact ⟨vs, h1, ars_below hg hf h h2⟩
  | tu as => obtain ⟨vs, h1, h2⟩ := r; exact ⟨vs, h1, ars_below hg hf h h2⟩
  | ins c fs => obtain ⟨C, dx, vs, a0, a1, a2, a3, a4, a5⟩ := r; exact ⟨C, dx, vs, a0, a1, a2, by rw [hf]; exact a3, a4, ars_below hg hf h a5⟩
  | dk kvs => obtain ⟨us, h1, h2, h3⟩ := r; exact ⟨us, h1, h2, ars_below hg hf h h3⟩
  | dt kvs => obtain ⟨us, h1, h2, h3⟩ := r; exact ⟨us, h1, h2, ars_below hg hf h h3⟩
  | no => trivial
theorem StoC.cut {m : List Mo} (R : StoC K mg F m H) {n : Nat} (hn : n ≤ m.length) (c : closedL n (m.take n)) : StoC K mg ⟨F.f, F.g.take n⟩ (m.take n) H := by
  have hg : ∀ (i : Nat) (l : Addr), i < n → F.g[i]? = some l → (F.g.take n)[i]? = some l := fun i l hi h => by rw [List.getElem?_take_of_lt hi]; exact h
  refine ⟨R.sub, by rw [List.length_take, List.length_take, R.glen], fun i o h => ?_, fun i j l oi oj h1 h2 h3 h4 h5 h6 => ?_⟩
  · have hi : i < n := by
      have := (List.getElem?_eq_some_iff.mp h).1
      rw [List.length_take] at this; omega
    have hm := List.mem_of_getElem? h
    rw [List.getElem?_take_of_lt hi] at h
    obtain ⟨l, h1, h2⟩ := R.obj i o h
    refine ⟨l, hg i l hi h1, ?_⟩
    split at h2
    · rename_i q
      rw [if_pos q]
      exact ⟨h2.1, mo_below (F := F) (G := ⟨F.f, F.g.take n⟩) hg rfl (c o hm) h2.2⟩
    · rename_i q
      rw [if_neg q]
      exact h2
  · have hi : i < n := by
      have := (List.getElem?_eq_some_iff.mp h1).1
      rw [List.length_take] at this; omega
    have hj : j < n := by
      have := (List.getElem?_eq_some_iff.mp h2).1
      rw [List.length_take] at this; omega
    have h5 : (F.g.take n)[i]? = some l := h5
    have h6 : (F.g.take n)[j]? = some l := h6
    rw [List.getElem?_take_of_lt hi] at h1 h5
    rw [List.getElem?_take_of_lt hj] at h2 h6
    exact R.inj i j l oi oj h1 h2 h3 h4 h5 h6
theorem Stp.cut {F0 : Fg} {H0 : Hp} {n : Nat} (s : Stp F0 H0 F H) (hn : F0.g.length = n) : Stp F0 H0 ⟨F.f, F.g.take n⟩ H := by
  obtain ⟨ns, e1, e2⟩ := s.pre
  refine ⟨s.ext, ⟨[], ?_, by simp⟩, s.new, s.frm, s.dom⟩
  show F.g.take n = F0.g ++ []
  rw [e1, ← hn, List.take_left, List.append_nil]
/-- what stands behind a call, cut or not -/
theorem outM_ok {F0 : Fg} {H0 : Hp} {m m0 : List Mo} {C : Ar → List Mo → Prop} {r : Ar} {v : V} {Q : VK} (R0 : StoC K mg F0 m0 H0) (R : StoC K mg F m H) (s : Stp F0 H0 F H) (rr : ArRep K F v r) (c : outM m0.length C r m)
    (k : ∀ r m' F' H' v, StoC K mg F' m' H' → Stp F0 H0 F' H' → ArRep K F' v r → C r m' → Q v H') : Q v H := by
  obtain ⟨ns, e1, e2⟩ := s.pre
  have hn : m0.length ≤ m.length := by rw [← R.glen, e1, List.length_append, R0.glen]; omega
  have hg0 : F.g.take m0.length = F0.g := by rw [e1, ← R0.glen, List.take_left]
  rcases c with c | ⟨cl, c⟩
  · exact k r m F H v R s rr c
  · have R2 := R.cut hn cl
    have s2 := s.cut R0.glen
    cases r with
    | val d => exact k (.val d) _ _ H v R2 s2 rr c
    | sl j =>
      obtain ⟨l, hl, rfl⟩ := rr
      rcases c with ⟨hj, c⟩ | ⟨o, ho, hj, hr, c⟩
      · exact k (.sl j) _ _ H _ R2 s2 ⟨l, by show (F.g.take m0.length)[j]? = some l; rw [List.getElem?_take_of_lt hj]; exact hl, rfl⟩ c
      · have lt : l ∈ ns := by
          rw [e1, List.getElem?_append_right (by rw [R0.glen]; exact hj)] at hl
          exact List.mem_of_getElem? hl
        have s3 : Stp F0 H0 ⟨F.f, F.g.take m0.length ++ [l]⟩ H := ⟨s.ext, ⟨[l], by show F.g.take m0.length ++ [l] = _; rw [hg0], by simpa using e2 l lt⟩, s.new, s.frm, s.dom⟩
        have glt : ∀ {i : Nat}, i < m0.length → (F.g.take m0.length ++ [l])[i]? = F.g[i]? := fun {i} hi => by
          rw [List.getElem?_append_left (by rw [hg0, R0.glen]; exact hi), List.getElem?_take_of_lt hi]
        have gp : (F.g.take m0.length ++ [l])[m0.length]? = some l := by
          rw [List.getElem?_append_right (by rw [hg0, R0.glen]; exact Nat.le_refl _), hg0, R0.glen, Nat.sub_self]; rfl
        have hg : ∀ (i : Nat) (p : Addr), i < m0.length → F.g[i]? = some p → (F.g.take m0.length ++ [l])[i]? = some p := fun i p hi h => by rw [glt hi]; exact h
        have ml : (m.take m0.length).length = m0.length := by rw [List.length_take]; omega
        have at' : ∀ {i : Nat} {x : Mo}, (m.take m0.length ++ [o])[i]? = some x → (i < m0.length ∧ m[i]? = some x ∧ x ∈ m.take m0.length) ∨ (i = m0.length ∧ x = o) := fun {i x} hx => by
          by_cases hi : i < m0.length
          · rw [List.getElem?_append_left (by rw [ml]; exact hi)] at hx
            have hm := List.mem_of_getElem? hx
            rw [List.getElem?_take_of_lt hi] at hx
            exact .inl ⟨hi, hx, hm⟩
          · rw [List.getElem?_append_right (by rw [ml]; omega), ml] at hx
            have : i - m0.length = 0 := by
              have := (List.getElem?_eq_some_iff.mp hx).1
              simpa using this
            rw [this] at hx
            exact .inr ⟨by omega, (Option.some.inj hx).symm⟩
        refine k (.sl m0.length) _ ⟨F.f, F.g.take m0.length ++ [l]⟩ H _ ⟨R.sub, ?_, fun i x hx => ?_, fun a b p oa ob h1 h2 h3 h4 h5 h6 => ?_⟩ s3 ⟨l, gp, rfl⟩ c
        · rw [List.length_append, List.length_append, ml, hg0, R0.glen]; rfl
        · rcases at' hx with ⟨hi, hx, hm⟩ | ⟨hi, ex⟩
          · obtain ⟨p, h1, h2⟩ := R.obj i x hx
            refine ⟨p, hg i p hi h1, ?_⟩
            split at h2
            · rename_i q
              rw [if_pos q]
              exact ⟨h2.1, mo_below (F := F) (G := ⟨F.f, F.g.take m0.length ++ [l]⟩) hg rfl (cl x hm) h2.2⟩
            · rename_i q
              rw [if_neg q]
              exact h2
          · subst hi; subst ex
            obtain ⟨p, h1, h2⟩ := R.obj j x ho
            rw [hl] at h1
            cases h1
            refine ⟨l, gp, ?_⟩
            split at h2
            · rename_i q
              rw [if_pos q]
              exact ⟨h2.1, mo_below (F := F) (G := ⟨F.f, F.g.take m0.length ++ [l]⟩) hg rfl hr h2.2⟩
            · rename_i q
              rw [if_neg q]
              exact h2
        · have h5 : (F.g.take m0.length ++ [l])[a]? = some p := h5
          have h6 : (F.g.take m0.length ++ [l])[b]? = some p := h6
          rcases at' h1 with ⟨a1, a2, _⟩ | ⟨a1, a2⟩
          · rw [glt a1] at h5
            rcases at' h2 with ⟨b1, b2, _⟩ | ⟨b1, b2⟩
            · rw [glt b1] at h6
              exact R.inj a b p oa ob a2 b2 h3 h4 h5 h6
            · subst b1; subst b2
              rw [gp] at h6
              cases h6
              have := R.inj a j l _ _ a2 ho h3 h4 h5 hl
              omega
          · subst a1; subst a2
            rw [gp] at h5
            cases h5
            rcases at' h2 with ⟨b1, b2, _⟩ | ⟨b1, b2⟩
            · rw [glt b1] at h6
              have := R.inj j b l _ _ ho b2 h3 h4 hl h6
              omega
            · exact b1.symm
theorem outX_ok {F0 : Fg} {H0 : Hp} {m m0 : List Mo} {Ex : Str → List Mo → Prop} {x : Str} {P : Prop} (R0 : StoC K mg F0 m0 H0) (R : StoC K mg F m H) (s : Stp F0 H0 F H) (c : outX m0.length Ex x m)
    (k : ∀ m' F', StoC K mg F' m' H → Stp F0 H0 F' H → Ex x m' → P) : P := by
  obtain ⟨ns, e1, e2⟩ := s.pre
  have hn : m0.length ≤ m.length := by rw [← R.glen, e1, List.length_append, R0.glen]; omega
  rcases c with c | ⟨cl, c⟩
  · exact k m F R s c
  · exact k _ _ (R.cut hn cl) (s.cut R0.glen) c
theorem start_slot {N : List Str} {vs : List V} {as : List Ar} {m : List Mo} (h : ArsRep K F vs as) (hN : as.length ≤ N.length) (R : StoC K mg F m H) : RepC K mg F (L2.start N vs) (startD N as m).s m H := by
  refine ⟨R, ?_, fun i a ha => ?_⟩
  · unfold L2.start startD
    simp [h.length]
  · have ha : (as.map some ++ List.replicate (N.length - as.length) none)[i]? = some (some a) := ha
    by_cases hi : i < as.length
    · rw [List.getElem?_append_left (by simpa using hi), List.getElem?_map, List.getElem?_eq_getElem hi] at ha
      cases ha
      obtain ⟨v, h1, h2⟩ := h.get (List.getElem?_eq_getElem hi)
      refine ⟨v, ?_, h2⟩
      unfold L2.start
      have hv : i < vs.length := by rw [h.length]; exact hi
      rw [List.getElem?_append_left (by simpa using hv), List.getElem?_map, h1]
      rfl
    · rw [List.getElem?_append_right (by simpa using hi), List.getElem?_replicate] at ha
      split at ha <;> cases ha
end
section
variable {P : Program} {w : World} {K : PySem.W.Frag} {mg : Str → Option Value} {base : Heap}
/-- THE RULE for a def -/
theorem fn_mm {x qual : Str} {st : Stmt} {f : Addr} {fd : FuncData} {N ps : List Str} {k : Nat} {d : DSp} {g : EW → DTS} (Fn : Fun K x qual st f fd) (S : FnScope N ps (defScope st)) (len : ∀ as m C Ex, d as m C Ex → as.length = ps.length)
    (hbody : ∀ (cdv : Value) (A : Around) (outer : List Env) (s : Shared) (H : Hp) (E : XK) (W : WX) (V : EW), Room k (A.deeper (envOfC qual (defScope st) s.heap.objs.size f cdv)) → Takes (cxOf (L2.CX P w) P w K mg base N qual (defScope st) f cdv A outer s H E) W →
      SDs W V (cxOf (L2.CX P w) P w K mg base N qual (defScope st) f cdv A outer s H E) (defBody st) (g V))
    (law : ∀ as m C Ex, d as m C Ex → g (exE m.length Ex) (endsD m.length C) (startD N as m)) : FnOk P w K mg base (L2.CX P w) (k + 1) f fd ps (lift K mg d) := by
  have hpl : ps.length ≤ N.length := by have := congrArg List.length S.pre; rw [List.length_take] at this; omega
  refine Fn.okX S (fun vs H Q E h => ?_) (fun cdv A outer s H vs Q E hr h => ?_)
  · obtain ⟨F, as, m, C, Ex, A, _, hd, _⟩ := h
    rw [A.length]
    exact len as m C Ex hd
  · obtain ⟨F, as, m, C, Ex, AR, SR, hd, fin, finX⟩ := h
    have tk : Takes (cxOf (L2.CX P w) P w K mg base N qual (defScope st) f cdv A outer s H E) (fun cls d _ H => E cls d H) := takes_of rfl rfl rfl rfl
    obtain ⟨ts, p, q⟩ := hbody cdv A outer s H E _ (exE m.length Ex) hr tk
    have hN : as.length ≤ N.length := by rw [len as m C Ex hd]; exact hpl
    have RC := start_slot (N := N) AR hN SR
    have R : RepS (fun cls d _ H => E cls d H) (exE m.length Ex) K mg F (L2.start N vs) (startD N as m) H := { RC with wish := fun x C d F' σ' s' m' H' C2 t hm he => outX_ok SR C2.sto t he fun m2 F2 S2 t2 h2 => finX x C d m2 F2 H' S2 t2 hm h2 }
    refine ⟨ts, p, q R (law as m C Ex hd) ⟨fun F' σ' δ' H' R t c => ?_, fun _ _ _ _ _ _ c => c.elim, fun _ _ _ _ _ _ c => c.elim, fun F' σ' δ' H' v r R t z c => ?_⟩⟩
    · exact outM_ok (Q := Q) SR R.sto t (r := .val .none) Dp.non c fin
    · exact outM_ok (Q := Q) SR R.sto t z c fin
end
end MM

namespace MM
open PySem PySem.Spec PyProof.Rows L2
/-! ### calls -/
abbrev EF : EW := fun _ _ _ => False
/-- with the whole store -/
def callG (E : EW) (d : DSp) (as : List Ar) (δ : DSt) (C : Ar → DSt → Prop) : Prop := d as δ.m (fun r m' => C r ⟨δ.s, m'⟩) (fun x m' => E x δ.s m')
/-- with the lists that are handed over alone: places in ρ -/
def idxN (ρ : List Nat) (i : Nat) : Nat := match ρ with
  | [] => 0
  | j :: ρ => if j = i then 0 else idxN ρ i + 1
def memN (ρ : List Nat) (i : Nat) : Bool := match ρ with
  | [] => false
  | j :: ρ => if j = i then true else memN ρ i
def dedN : List Nat → List Nat
  | [] => []
  | i :: is => if memN is i then dedN is else i :: dedN is
def locA (ρ : List Nat) : Ar → Ar
  | .val d => .val d
  | .sl i => .sl (idxN ρ i)
def flatO : Mo → Bool
  | .fl _ => true
  | _ => false
def locM (m : List Mo) : List Nat → Option (List Mo)
  | [] => some []
  | i :: ρ => match m[i]?, locM m ρ with
    | some (.fl xs), some os => some (.fl xs :: os)
    | _, _ => none
def putAll (m : List Mo) : List Nat → List Mo → List Mo
  | i :: ρ, o :: os => putAll (m.set i o) ρ os
  | _, _ => m
def retL (ρ : List Nat) (δ : DSt) (C : Ar → DSt → Prop) (r : Ar) (m' : List Mo) : Prop := match r with
  | .val x => match m'.length == ρ.length && m'.all flatO with
    | true => C (.val x) ⟨δ.s, putAll δ.m ρ m'⟩
    | false => False
  | .sl k => match m'.length == ρ.length + 1 && m'.all flatO && k == ρ.length with
    | true => C (.sl δ.m.length) ⟨δ.s, putAll δ.m ρ m' ++ m'.drop ρ.length⟩
    | false => False
def callL (d : DSp) (as : List Ar) (δ : DSt) (C : Ar → DSt → Prop) : Prop := match locM δ.m (dedN (refsL as)) with
  | some m0 => d (as.map (locA (dedN (refsL as)))) m0 (retL (dedN (refsL as)) δ C) (fun _ _ => False)
  | none => False
theorem memN_iff {i : Nat} : ∀ {ρ : List Nat}, memN ρ i = true ↔ i ∈ ρ
  | [] => by simp [memN]
  | j :: ρ => by
    unfold memN
    by_cases h : j = i
    · rw [if_pos h]; simp [h]
    · rw [if_neg h, memN_iff, List.mem_cons]
      constructor
      · exact fun q => .inr q
      · rintro (q | q)
        · exact absurd q.symm h
        · exact q
theorem ded_spec : ∀ (is : List Nat), (dedN is).Nodup ∧ ∀ i, i ∈ dedN is ↔ i ∈ is
  | [] => ⟨List.nodup_nil, fun i => Iff.rfl⟩
  | i :: is => by
    obtain ⟨h1, h2⟩ := ded_spec is
    unfold dedN
    cases q : memN is i with
    | true =>
      rw [if_pos rfl]
      have hm := memN_iff.mp q
      refine ⟨h1, fun j => ?_⟩
      rw [h2, List.mem_cons]
      constructor
      · exact fun z => .inr z
      · rintro (z | z)
        · rw [z]; exact hm
        · exact z
    | false =>
      rw [if_neg (by simp)]
      have hm : i ∉ is := fun z => by rw [memN_iff.mpr z] at q; cases q
      refine ⟨List.nodup_cons.mpr ⟨fun z => hm ((h2 i).mp z), h1⟩, fun j => ?_⟩
      rw [List.mem_cons, List.mem_cons, h2]
theorem idxN_at : ∀ {ρ : List Nat} {i : Nat}, i ∈ ρ → ρ[idxN ρ i]? = some i
  | j :: ρ, i, h => by
    unfold idxN
    by_cases e : j = i
    · rw [if_pos e, e]; rfl
    · rw [if_neg e, List.getElem?_cons_succ]
      refine idxN_at ?_
      rcases List.mem_cons.mp h with z | z
      · exact absurd z.symm e
      · exact z
theorem locM_spec {m : List Mo} : ∀ {ρ : List Nat} {os : List Mo}, locM m ρ = some os → os.length = ρ.length ∧ ∀ (k i : Nat), ρ[k]? = some i → ∃ xs, m[i]? = some (.fl xs) ∧ os[k]? = some (.fl xs)
  | [], os, h => by cases h; exact ⟨rfl, fun k i e => by simp at e⟩
  | j :: ρ, os, h => by
    unfold locM at h
    split at h
    · rename_i xs os' h1 h2
      cases h
      obtain ⟨l, g⟩ := locM_spec h2
      refine ⟨by simp [l], fun k i e => ?_⟩
      cases k with
      | zero => simp at e; subst e; exact ⟨xs, h1, rfl⟩
      | succ k =>
        obtain ⟨ys, e1, e2⟩ := g k i (by simpa using e)
        exact ⟨ys, e1, by simpa using e2⟩
    · cases h
theorem putAll_len : ∀ {ρ : List Nat} {os m : List Mo}, (putAll m ρ os).length = m.length
  | [], os, m => by simp only [putAll]
  | i :: ρ, [], m => by simp only [putAll]
  | i :: ρ, o :: os, m => by simp only [putAll]; rw [putAll_len, List.length_set]
theorem putAll_out {i : Nat} : ∀ {ρ : List Nat} {os m : List Mo}, i ∉ ρ → (putAll m ρ os)[i]? = m[i]?
  | [], os, m, _ => by simp only [putAll]
  | j :: ρ, [], m, _ => by simp only [putAll]
  | j :: ρ, o :: os, m, h => by
    simp only [putAll]
    rw [putAll_out fun z => h (List.mem_cons_of_mem _ z), List.getElem?_set_ne fun z => h (by rw [z]; exact List.mem_cons_self)]
theorem putAll_in {k i : Nat} {o : Mo} : ∀ {ρ : List Nat} {os m : List Mo}, ρ.Nodup → ρ[k]? = some i → os[k]? = some o → i < m.length → (putAll m ρ os)[i]? = some o
  | [], os, m, _, h, _, _ => by simp at h
  | j :: ρ, [], m, _, _, h, _ => by simp at h
  | j :: ρ, o' :: os, m, nd, h1, h2, hi => by
    simp only [putAll]
    cases k with
    | zero =>
      simp at h1 h2
      subst h1; subst h2
      rw [putAll_out (List.nodup_cons.mp nd).1, List.getElem?_set_self hi]
    | succ k =>
      exact putAll_in (List.nodup_cons.mp nd).2 (by simpa using h1) (by simpa using h2) (by rw [List.length_set]; exact hi)
section
variable {W : WX} {E : EW} {mg : Str → Option Value} {X : Cx} {K : PySem.W.Frag} {F : Fg} {H : Hp} {σ : L2.St} {δ : DSt} {pos : Pos}
theorem callG_ok {d : DSp} {vs : List V} {as : List Ar} {C : Ar → DSt → Prop} {Q : VK} (R : RepS W E K mg F σ δ H) (ra : ArsRep K F vs as) (c : callG E d as δ C)
    (k : ∀ r δ' F' H' v, RepS W E K mg F' σ δ' H' → Stp F H F' H' → ArRep K F' v r → C r δ' → Q v H') : lift K mg d vs H Q (WE W σ) := by
  have rep : ∀ {F' : Fg} {m' : List Mo} {H' : Hp}, StoC K mg F' m' H' → Stp F H F' H' → RepC K mg F' σ δ.s m' H' := fun {F' m' H'} S t => ⟨S, R.len, fun i a h => by
    obtain ⟨v, h1, h2⟩ := R.slot i a h
    exact ⟨v, h1, h2.step t⟩⟩
  exact ⟨F, as, δ.m, _, _, ra, R.sto, c, fun r m' F' H' v S t rr cc => k r ⟨δ.s, m'⟩ F' H' v (R.next (rep S t) t) t rr cc,
    fun x Cc dd m' F' H' S t hm he => R.wish x Cc dd F' σ δ.s m' H' (rep S t) t hm he⟩
theorem callG_ok0 {d : DSp} {vs : List V} {as : List Ar} {C : Ar → DSt → Prop} {Q : VK} (R : RepS W E K mg F σ δ H) (ra : ArsRep K F vs as) (c : callG EF d as δ C)
    (k : ∀ r δ' F' H' v, RepS W E K mg F' σ δ' H' → Stp F H F' H' → ArRep K F' v r → C r δ' → Q v H') : lift K mg d vs H Q E0 := by
  have rep : ∀ {F' : Fg} {m' : List Mo} {H' : Hp}, StoC K mg F' m' H' → Stp F H F' H' → RepC K mg F' σ δ.s m' H' := fun {F' m' H'} S t => ⟨S, R.len, fun i a h => by
    obtain ⟨v, h1, h2⟩ := R.slot i a h
    exact ⟨v, h1, h2.step t⟩⟩
  exact ⟨F, as, δ.m, _, _, ra, R.sto, c, fun r m' F' H' v S t rr cc => k r ⟨δ.s, m'⟩ F' H' v (R.next (rep S t) t) t rr cc,
    fun x Cc dd m' F' H' S t hm he => he.elim⟩
/-- the store behind a call that was handed some lists alone -/
theorem loc_back {ρ : List Nat} {m0 m' : List Mo} {Fl F' : Fg} {H' : Hp} (R : RepC K mg F σ δ.s δ.m H) (nd : ρ.Nodup) (hl : locM δ.m ρ = some m0) (fF : Fl.f = F.f) (hg : ∀ (k i : Nat) (l : Addr), ρ[k]? = some i → Fl.g[k]? = some l → F.g[i]? = some l) (hn : Fl.g.length = ρ.length)
    (S : StoC K mg F' m' H') (t : Stp Fl H F' H') (n1 : ρ.length ≤ m'.length) (n2 : m'.length ≤ ρ.length + 1) (fl : m'.all flatO = true) :
    RepC K mg ⟨F'.f, F.g ++ F'.g.drop ρ.length⟩ σ δ.s (putAll δ.m ρ m' ++ m'.drop ρ.length) H' ∧ Stp F H ⟨F'.f, F.g ++ F'.g.drop ρ.length⟩ H' := by
  obtain ⟨ns, e1, e2⟩ := t.pre
  have ed : F'.g.drop ρ.length = ns := by rw [e1, ← hn, List.drop_left]
  obtain ⟨lm, sp⟩ := locM_spec hl
  have inF : ∀ {b : Addr}, b ∈ Fl.g → b ∈ F.g ∧ ∃ u, H b = some (.lst u) ∧ ∃ i, i ∈ ρ ∧ F.g[i]? = some b := fun {b} hb => by
    obtain ⟨k, hk⟩ := List.getElem?_of_mem hb
    have hk2 : k < ρ.length := by rw [← hn]; exact (List.getElem?_eq_some_iff.mp hk).1
    have hρ := List.getElem?_eq_getElem hk2
    have := hg k _ b hρ hk
    obtain ⟨xs, a1, _⟩ := sp k _ hρ
    obtain ⟨l, b1, b2, vs, b3, b4⟩ := R.sto.at (δ := δ) a1 rfl
    rw [this] at b1
    cases b1
    exact ⟨List.mem_of_getElem? this, vs, b3, _, List.getElem_mem hk2, this⟩
  have T : Stp F H ⟨F'.f, F.g ++ F'.g.drop ρ.length⟩ H' := by
    refine ⟨by rw [← fF]; exact t.ext, ⟨ns, by show F.g ++ F'.g.drop ρ.length = _; rw [ed], e2⟩, fun b o e => ?_, fun b o e nb => t.frm b o e fun z => nb (inF z).1, t.dom⟩
    rcases t.new b o e with q | q | q
    · rw [fF] at q; exact .inl q
    · exact .inr (.inl q)
    · exact .inr (.inr (inF q).1)
  have ml : (putAll δ.m ρ m').length = δ.m.length := putAll_len
  have gl : F'.g.length = m'.length := S.glen
  have stay : ∀ {l : Addr}, F.f l = none → l ∉ Fl.g → (∃ u, H l = some u) → F'.f l = none := fun {l} hf nl hu => by
    cases q : F'.f l with
    | none => rfl
    | some o =>
      obtain ⟨u, hu⟩ := hu
      rcases t.new l o q with z | z | z
      · rw [fF, hf] at z; cases z
      · rw [hu] at z; cases z
      · exact absurd z nl
  have old : ∀ {i : Nat} {l : Addr}, F.g[i]? = some l → (F.g ++ F'.g.drop ρ.length)[i]? = some l := fun {i l} h => by rw [List.getElem?_append_left (List.getElem?_eq_some_iff.mp h).1]; exact h
  -- what stands at a place
  have at_ : ∀ {i : Nat} {o : Mo}, (putAll δ.m ρ m' ++ m'.drop ρ.length)[i]? = some o → (∃ k : Nat, m'[k]? = some o ∧ flatO o = true ∧ (∃ l, F'.g[k]? = some l ∧ (F.g ++ F'.g.drop ρ.length)[i]? = some l) ∧ ((i < δ.m.length ∧ ρ[k]? = some i) ∨ (i = δ.m.length ∧ k = ρ.length))) ∨ (i < δ.m.length ∧ i ∉ ρ ∧ δ.m[i]? = some o) := fun {i o} h => by
    by_cases hi : i < δ.m.length
    · rw [List.getElem?_append_left (by rw [ml]; exact hi)] at h
      by_cases hm : i ∈ ρ
      · have ei := idxN_at hm
        have hk : idxN ρ i < ρ.length := (List.getElem?_eq_some_iff.mp ei).1
        have hk2 : idxN ρ i < m'.length := by omega
        have hp := putAll_in (m := δ.m) nd ei (List.getElem?_eq_getElem hk2) hi
        rw [hp] at h
        have ho : m'[idxN ρ i]? = some o := by rw [List.getElem?_eq_getElem hk2]; exact h
        have hkg : idxN ρ i < Fl.g.length := by omega
        have g1 : F'.g[idxN ρ i]? = some Fl.g[idxN ρ i] := by rw [e1, List.getElem?_append_left hkg, List.getElem?_eq_getElem hkg]
        exact .inl ⟨_, ho, List.all_eq_true.mp fl o (List.mem_of_getElem? ho), ⟨_, g1, old (hg _ i _ ei (List.getElem?_eq_getElem hkg))⟩, .inl ⟨hi, ei⟩⟩
      · rw [putAll_out hm] at h
        exact .inr ⟨hi, hm, h⟩
    · rw [List.getElem?_append_right (by rw [ml]; omega), ml, List.getElem?_drop] at h
      have hb := (List.getElem?_eq_some_iff.mp h).1
      have e : i = δ.m.length := by omega
      have ek : ρ.length + (i - δ.m.length) = ρ.length := by omega
      rw [ek] at h
      have hkg : ρ.length < F'.g.length := by omega
      refine .inl ⟨ρ.length, h, List.all_eq_true.mp fl o (List.mem_of_getElem? h), ⟨_, List.getElem?_eq_getElem hkg, ?_⟩, .inr ⟨e, rfl⟩⟩
      rw [List.getElem?_append_right (by rw [R.sto.glen]; omega), R.sto.glen, e, Nat.sub_self, List.getElem?_drop, Nat.add_zero]
      exact List.getElem?_eq_getElem hkg
  refine ⟨⟨⟨S.sub, ?_, fun i o h => ?_, fun i j l oi oj h1 h2 h3 h4 h5 h6 => ?_⟩, R.len, fun i a h => ?_⟩, T⟩
  · rw [List.length_append, List.length_append, List.length_drop, List.length_drop, ml, R.sto.glen, gl]
  · rcases at_ h with ⟨k, ho, hf, ⟨l, g1, g2⟩, _⟩ | ⟨hi, hm, ho⟩
    · obtain ⟨l', b1, b2⟩ := S.obj k o ho
      rw [g1] at b1
      cases b1
      have lv : live o = true := by cases o <;> first | rfl | cases hf
      rw [if_pos lv] at b2
      refine ⟨l, g2, ?_⟩
      rw [if_pos lv]
      refine ⟨b2.1, ?_⟩
      cases o with
      | fl xs => exact b2.2
      | _ => cases hf
    · obtain ⟨l, b1, b2⟩ := R.sto.obj i o ho
      refine ⟨l, old b1, ?_⟩
      split at b2
      · rename_i q
        rw [if_pos q]
        obtain ⟨u, hu, _⟩ := b2.2.has q
        have nl : l ∉ Fl.g := fun z => by
          obtain ⟨_, _, _, j, hj, gj⟩ := inF z
          have hjl : j < δ.m.length := by rw [← R.sto.glen]; exact (List.getElem?_eq_some_iff.mp gj).1
          obtain ⟨xs, a1, _⟩ := sp _ j (idxN_at hj)
          have := R.sto.inj i j l o _ ho a1 q rfl b1 gj
          exact hm (this ▸ hj)
        refine ⟨stay b2.1 nl ⟨u, hu⟩, b2.2.step T (fun u hu => t.frm l u hu nl) fun dx hd hf => ?_⟩
        have nd : dx ∉ Fl.g := fun z => by
          obtain ⟨_, u, hu, _⟩ := inF z
          rw [hd] at hu; cases hu
        exact ⟨t.frm dx _ hd nd, stay hf nd ⟨_, hd⟩⟩
      · rename_i q
        rw [if_neg q]
        intro z
        have z : F'.f l = none := z
        cases qf : F.f l with
        | none => exact b2 qf
        | some u =>
          rw [← fF] at qf
          rw [t.ext l u qf] at z; cases z
  · have h5 : (F.g ++ F'.g.drop ρ.length)[i]? = some l := h5
    have h6 : (F.g ++ F'.g.drop ρ.length)[j]? = some l := h6
    -- a place outside and one of the call's: apart
    have apart : ∀ {a : Nat} {oa : Mo} {k : Nat} {p : Addr}, a < δ.m.length → a ∉ ρ → δ.m[a]? = some oa → live oa = true → F.g[a]? = some p → F'.g[k]? = some p → False := fun {a oa k p} ha hm hoa la ga gk => by
      obtain ⟨l', b1, b2⟩ := R.sto.obj a oa hoa
      rw [ga] at b1
      cases b1
      rw [if_pos la] at b2
      obtain ⟨u, hu, _⟩ := b2.2.has la
      by_cases hk : k < Fl.g.length
      · have gk2 : Fl.g[k]? = some p := by rw [e1, List.getElem?_append_left hk] at gk; exact gk
        obtain ⟨_, _, _, j, hj, gj⟩ := inF (List.mem_of_getElem? gk2)
        obtain ⟨xs, a1, _⟩ := sp _ j (idxN_at hj)
        have := R.sto.inj a j p oa _ hoa a1 la rfl ga gj
        exact hm (this ▸ hj)
      · rw [e1, List.getElem?_append_right (by omega)] at gk
        rw [e2 p (List.mem_of_getElem? gk)] at hu; cases hu
    have ga : ∀ {a : Nat} {p : Addr}, a < δ.m.length → (F.g ++ F'.g.drop ρ.length)[a]? = some p → F.g[a]? = some p := fun {a p} ha h => by
      rw [List.getElem?_append_left (by rw [R.sto.glen]; exact ha)] at h; exact h
    rcases at_ h1 with ⟨k, ho, hf, ⟨p, g1, g2⟩, w1⟩ | ⟨hi, hm, ho⟩
    · rw [h5] at g2
      cases g2
      rcases at_ h2 with ⟨k2, ho2, hf2, ⟨p2, g3, g4⟩, w2⟩ | ⟨hi2, hm2, ho2⟩
      · rw [h6] at g4
        cases g4
        have := S.inj k k2 l oi oj ho ho2 h3 h4 g1 g3
        subst this
        rcases w1 with ⟨_, w1⟩ | ⟨w1, w1'⟩ <;> rcases w2 with ⟨_, w2⟩ | ⟨w2, w2'⟩
        · rw [w1] at w2; exact Option.some.inj w2
        · rw [w2', List.getElem?_eq_none (Nat.le_refl _)] at w1; cases w1
        · rw [w1', List.getElem?_eq_none (Nat.le_refl _)] at w2; cases w2
        · rw [w1, w2]
      · exact (apart hi2 hm2 ho2 h4 (ga hi2 h6) g1).elim
    · rcases at_ h2 with ⟨k2, ho2, hf2, ⟨p2, g3, g4⟩, w2⟩ | ⟨hi2, hm2, ho2⟩
      · rw [h6] at g4
        cases g4
        exact (apart hi hm ho h3 (ga hi h5) g3).elim
      · exact R.sto.inj i j l oi oj ho ho2 h3 h4 (ga hi h5) (ga hi2 h6)
  · obtain ⟨v, h1, h2⟩ := R.slot i a h
    exact ⟨v, h1, h2.step T⟩
theorem callL_ok {d : DSp} {vs : List V} {as : List Ar} {C : Ar → DSt → Prop} {Q : VK} {E' : XK} (R : RepS W E K mg F σ δ H) (ra : ArsRep K F vs as) (c : callL d as δ C)
    (k : ∀ r δ' F' H' v, RepS W E K mg F' σ δ' H' → Stp F H F' H' → ArRep K F' v r → C r δ' → Q v H') : lift K mg d vs H Q E' := by
  unfold callL at c
  split at c
  · rename_i m0 hm
    generalize hρ : dedN (refsL as) = ρ at *
    obtain ⟨nd, mem⟩ := ded_spec (refsL as)
    rw [hρ] at nd mem
    obtain ⟨lm, sp⟩ := locM_spec hm
    obtain ⟨gs, hgs, hgl⟩ : ∃ gs : List Addr, gs.length = ρ.length ∧ ∀ (k i : Nat), ρ[k]? = some i → F.g[i]? = gs[k]? := by
      refine ⟨ρ.map fun i => F.g[i]?.getD 0, by simp, fun k i h => ?_⟩
      rw [List.getElem?_map, h]
      obtain ⟨xs, a1, _⟩ := sp k i h
      obtain ⟨l, b1, _⟩ := R.sto.at a1 rfl
      show F.g[i]? = some (F.g[i]?.getD 0)
      rw [b1]; rfl
    have hg : ∀ (k i : Nat) (l : Addr), ρ[k]? = some i → gs[k]? = some l → F.g[i]? = some l := fun k i l h1 h2 => by rw [hgl k i h1]; exact h2
    have rl : ∀ {vs : List V} {bs : List Ar}, (∀ i ∈ refsL bs, i ∈ ρ) → ArsRep K F vs bs → ArsRep K ⟨F.f, gs⟩ vs (bs.map (locA ρ)) := fun {vs} => by
      induction vs with
      | nil => intro bs _ h; cases bs with | nil => trivial | cons _ _ => exact h.elim
      | cons v vs ih =>
        intro bs hb h
        cases bs with
        | nil => exact h.elim
        | cons b bs =>
          refine ⟨?_, ih (fun i hi => hb i (List.mem_append_right _ hi)) h.2⟩
          cases b with
          | val x => exact h.1
          | sl j =>
            obtain ⟨l, h1, h2⟩ := h.1
            have hj := hb j (List.mem_append_left _ (List.mem_singleton.mpr rfl))
            exact ⟨l, by show gs[idxN ρ j]? = some l; rw [← hgl _ j (idxN_at hj)]; exact h1, h2⟩
    have S0 : StoC K mg ⟨F.f, gs⟩ m0 H := by
      refine ⟨R.sto.sub, by show gs.length = m0.length; rw [hgs, lm], fun i o h => ?_, fun i j l oi oj h1 h2 h3 h4 h5 h6 => ?_⟩
      · have hi : i < ρ.length := by rw [← lm]; exact (List.getElem?_eq_some_iff.mp h).1
        obtain ⟨xs, a1, a2⟩ := sp i _ (List.getElem?_eq_getElem hi)
        rw [h] at a2
        cases a2
        obtain ⟨l, b1, b2, b3⟩ := R.sto.at a1 rfl
        refine ⟨l, by show gs[i]? = some l; rw [← hgl i _ (List.getElem?_eq_getElem hi)]; exact b1, ?_⟩
        exact (if_pos (show live (.fl xs) = true from rfl)).mpr ⟨b2, b3⟩
      · have hi : i < ρ.length := by rw [← lm]; exact (List.getElem?_eq_some_iff.mp h1).1
        have hj : j < ρ.length := by rw [← lm]; exact (List.getElem?_eq_some_iff.mp h2).1
        obtain ⟨xs, a1, _⟩ := sp i _ (List.getElem?_eq_getElem hi)
        obtain ⟨ys, a2, _⟩ := sp j _ (List.getElem?_eq_getElem hj)
        have := R.sto.inj _ _ l _ _ a1 a2 rfl rfl (hg i _ l (List.getElem?_eq_getElem hi) h5) (hg j _ l (List.getElem?_eq_getElem hj) h6)
        exact (List.getElem_inj nd).mp this
    refine ⟨⟨F.f, gs⟩, as.map (locA ρ), m0, _, _, rl (fun i hi => (mem i).mpr hi) ra, S0, c, fun r m' F' H' v S t rr cc => ?_, fun x Cc dd m' F' H' S t hm he => he.elim⟩
    obtain ⟨ns, e1, _⟩ := t.pre
    have lt : m'.length = ρ.length + ns.length := by rw [← S.glen, e1, List.length_append]; show gs.length + ns.length = _; rw [hgs]
    cases r with
    | val x =>
      unfold retL at cc
      split at cc
      · rename_i y e; cases e
        split at cc
        · rename_i q
          rw [Bool.and_eq_true, beq_iff_eq] at q
          obtain ⟨RC, T⟩ := loc_back (Fl := ⟨F.f, gs⟩) R.toRepC nd hm rfl hg hgs S t (by omega) (by omega) q.2
          have ed : m'.drop ρ.length = [] := List.drop_eq_nil_of_le (by omega)
          rw [ed, List.append_nil] at RC
          exact k (.val x) ⟨δ.s, _⟩ _ H' v (R.next RC T) T rr cc
        · exact cc.elim
      · rename_i e; cases e
    | sl j =>
      unfold retL at cc
      split at cc
      · rename_i e; cases e
      · rename_i j' e
        cases e
        split at cc
        · rename_i q
          rw [Bool.and_eq_true, Bool.and_eq_true, beq_iff_eq, beq_iff_eq] at q
          obtain ⟨⟨q1, q2⟩, q3⟩ := q
          obtain ⟨RC, T⟩ := loc_back (Fl := ⟨F.f, gs⟩) R.toRepC nd hm rfl hg hgs S t (by omega) (by omega) q2
          obtain ⟨l, h1, h2⟩ := rr
          refine k (.sl δ.m.length) ⟨δ.s, _⟩ _ H' v (R.next RC T) T ⟨l, ?_, h2⟩ cc
          show (F.g ++ F'.g.drop ρ.length)[δ.m.length]? = some l
          rw [List.getElem?_append_right (by rw [R.sto.glen]; exact Nat.le_refl _), R.sto.glen, Nat.sub_self, List.getElem?_drop, Nat.add_zero, ← q3]
          exact h1
        · exact cc.elim
  · exact c.elim
end
end MM

namespace MM
open PySem PySem.Spec PyProof.Rows L2
theorem passX {X : Cx} : Passes (L2.CX X.prog X.w) X E0 := fun pins σ H s e s' I c => by
  obtain ⟨a, B, H', cls, d, _, _, _, _, _, _, _, h⟩ := c
  exact h.elim
section
variable {W : WX} {E : EW} {mg : Str → Option Value} {X : Cx} {K : PySem.W.Frag} {F : Fg} {H : Hp} {σ : L2.St} {δ : DSt} {pos : Pos}
variable {f : Addr} {fd : FuncData} {ps : List Str} {k : Nat} {x : Str} {p : Pos} {e : Expr} {es : List Expr} {d : DSp} {g : DTA}
/-! ### calls by name -/
def dCall (d : DSp) (f : DTA) : DTE := fun δ C => f δ fun as δ1 => callL d as δ1 C
def dCallG (d : DSp) (f : DTA) : DTE := fun δ C => f δ fun as δ1 => callG EF d as δ1 C
def dCallX (E : EW) (d : DSp) (f : DTA) : DTE := fun δ C => f δ fun as δ1 => callG E d as δ1 C
abbrev Bnd (K : PySem.W.Frag) (fd : FuncData) (ps : List Str) : Prop := Binds K fd ps []
theorem pd_call (G : FnOk X.prog X.w X.K X.mg X.base (L2.CX X.prog X.w) k f fd ps (lift X.K X.mg d)) (hr : Room k X.A) (hg : Gl X x) (hm : X.mg x = some (.ref f)) (hk : PySem.W.keepIn X.K (.ref f) = true) (hb : Binds X.K fd ps [])
    (ha : PDA W E X (e :: es) g) (hdb : (x == ("__debug__" : Str)) = false := by decide) (he : starEach (e :: es) X.env = (false, eval e X.env) :: starEach es X.env := by rfl) (hpl : (backTo pos (starEach es X.env)).any (·.1) = false := by rfl) :
    PD W E X (.Call (.Name x p) (e :: es) [] pos) (dCall d g) := by
  obtain ⟨ta, pa, q⟩ := ha
  refine ⟨_, pe_call G hr hg hm hk hb .nil passX pa hdb he hpl, fun {F σ δ H Q C} R c k => ?_⟩
  refine q R c fun as δ1 F1 H1 vs R1 s1 r1 c1 => ?_
  rw [List.append_nil]
  exact callL_ok R1 r1 c1 fun r δ' F' H' v R2 s2 r2 c2 => k r _ _ _ _ R2 (s1.trans s2) r2 c2
theorem pd_callG (G : FnOk X.prog X.w X.K X.mg X.base (L2.CX X.prog X.w) k f fd ps (lift X.K X.mg d)) (hr : Room k X.A) (hg : Gl X x) (hm : X.mg x = some (.ref f)) (hk : PySem.W.keepIn X.K (.ref f) = true) (hb : Binds X.K fd ps [])
    (ha : PDA W E X (e :: es) g) (hdb : (x == ("__debug__" : Str)) = false := by decide) (he : starEach (e :: es) X.env = (false, eval e X.env) :: starEach es X.env := by rfl) (hpl : (backTo pos (starEach es X.env)).any (·.1) = false := by rfl) :
    PD W E X (.Call (.Name x p) (e :: es) [] pos) (dCallG d g) := by
  obtain ⟨ta, pa, q⟩ := ha
  refine ⟨_, pe_call G hr hg hm hk hb .nil passX pa hdb he hpl, fun {F σ δ H Q C} R c k => ?_⟩
  refine q R c fun as δ1 F1 H1 vs R1 s1 r1 c1 => ?_
  rw [List.append_nil]
  exact callG_ok0 R1 r1 c1 fun r δ' F' H' v R2 s2 r2 c2 => k r _ _ _ _ R2 (s1.trans s2) r2 c2
theorem pd_callX (G : FnOk X.prog X.w X.K X.mg X.base (L2.CX X.prog X.w) k f fd ps (lift X.K X.mg d)) (tk : Takes X W) (hr : Room k X.A) (hg : Gl X x) (hm : X.mg x = some (.ref f)) (hk : PySem.W.keepIn X.K (.ref f) = true) (hb : Binds X.K fd ps [])
    (ha : PDA W E X (e :: es) g) (hdb : (x == ("__debug__" : Str)) = false := by decide) (he : starEach (e :: es) X.env = (false, eval e X.env) :: starEach es X.env := by rfl) (hpl : (backTo pos (starEach es X.env)).any (·.1) = false := by rfl) :
    PD W E X (.Call (.Name x p) (e :: es) [] pos) (dCallX E d g) := by
  obtain ⟨ta, pa, q⟩ := ha
  refine ⟨_, pe_callS G hr hg hm hk hb (fun σ => passAt tk σ) pa hdb he hpl, fun {F σ δ H Q C} R c k => ?_⟩
  refine q R c fun as δ1 F1 H1 vs R1 s1 r1 c1 => ?_
  exact callG_ok R1 r1 c1 fun r δ' F' H' v R2 s2 r2 c2 => k r _ _ _ _ R2 (s1.trans s2) r2 c2
theorem pd_call0 (G : FnOk X.prog X.w X.K X.mg X.base (L2.CX X.prog X.w) k f fd ps (lift X.K X.mg d)) (hr : Room k X.A) (hg : Gl X x) (hm : X.mg x = some (.ref f)) (hk : PySem.W.keepIn X.K (.ref f) = true) (hb : Binds X.K fd ps [])
    (hdb : (x == ("__debug__" : Str)) = false := by decide) : PD W E X (.Call (.Name x p) [] [] pos) (dCall d dNil) := by
  refine ⟨_, pe_call0 G hr hg hm hk hb .nil passX hdb, fun {F σ δ H Q C} R c k => ?_⟩
  exact callL_ok (vs := []) (as := []) R trivial c fun r δ' F' H' v R2 s2 r2 c2 => k r _ _ _ _ R2 s2 r2 c2
/-! ### calls by the parameters' names alone, in their order -/
structure PDK (W : WX) (E : EW) (X : Cx) (kws : List Keyword) (f : DTA) : Prop where
  ex : ∃ ta, PK X kws ta ∧ ∀ {F : Fg} {σ : L2.St} {δ : DSt} {H : Hp} {Q : List V → Hp → Prop} {C : List Ar → DSt → Prop}, RepS W E X.K X.mg F σ δ H → f δ C →
    (∀ as δ' F' H' vs, RepS W E X.K X.mg F' σ δ' H' → Stp F H F' H' → ArsRep X.K F' vs as → C as δ' → Q vs H') → ta σ H Q
theorem pdk_nil : PDK W E X [] dNil := ⟨_, pk_nil, fun R c k => k [] _ _ _ _ R .refl trivial c⟩
theorem pdk_cons {e : Expr} {kws : List Keyword} {nm : Option Str} {kpos : Pos} {f : DTE} {g : DTA} (h1 : PD W E X e f) (h2 : PDK W E X kws g) : PDK W E X (⟨nm, e, kpos⟩ :: kws) (dCons f g) := by
  obtain ⟨te, p1, q1⟩ := h1
  obtain ⟨ta, p2, q2⟩ := h2
  refine ⟨_, pk_cons p1 p2, fun R c k => ?_⟩
  refine q1 R c fun a δ1 F1 H1 v R1 s1 r1 c1 => ?_
  refine q2 R1 c1 fun as δ2 F2 H2 vs R2 s2 r2 c2 => ?_
  exact k (a :: as) _ _ _ _ R2 (s1.trans s2) ⟨r1.step s2, r2⟩ c2
theorem pd_callK {kws : List Keyword} (G : FnOk X.prog X.w X.K X.mg X.base (L2.CX X.prog X.w) k f fd ps (lift X.K X.mg d)) (hr : Room k X.A) (hg : Gl X x) (hm : X.mg x = some (.ref f)) (hk : PySem.W.keepIn X.K (.ref f) = true)
    (hb : ∀ (s : Shared) (us : List Value), X.K.In s.heap → us.length = ps.length → BindsTo s fd ⟨[], ps.zip us⟩ (ps.zip us)) (hkw : PDK W E X kws g)
    (hall : (backToKw pos (keywordEach kws X.env)).all (·.1.isSome) = true := by rfl) (hks : (backToKw pos (keywordEach kws X.env)).filterMap (·.1) = ps := by rfl) (hdb : (x == ("__debug__" : Str)) = false := by decide)
    (hpl : ((backTo pos (starEach [] X.env)).any (·.1) || (backToKw pos (keywordEach kws X.env)).any (·.1.isNone)) = false := by rfl) :
    PD W E X (.Call (.Name x p) [] kws pos) (dCall d g) := by
  obtain ⟨ta, pa, q⟩ := hkw
  refine ⟨tCall (lift X.K X.mg d) [] E0 ta, ⟨fun pins s σ H Q I h => ?_⟩, fun {F σ δ H Q C} R c k => ?_⟩
  · refine wpAny_Call_Name_kw (ld_glob I hg hm ?_ hdb)
    refine PySem.W.callWith_KW0 (h₀ := X.base) I.ok.mod.kin hk hall ?_ hpl
    refine thn (pa.run pos pins s σ H _ I h) fun us s2 ⟨zs, H2, I2, rz, q2⟩ => ⟨I2.kIn, ?_⟩
    rw [hks]
    have q2 : lift X.K X.mg d (zs ++ []) H2 Q E0 := q2
    rw [List.append_nil] at q2
    have hl : us.length = ps.length := by rw [← rz.length]; exact G.len _ _ _ _ q2
    refine wpAny_call (codeAny_mono (G.run X.A X.stack s2 H2 ⟨[], ps.zip us⟩ us zs Q E0 hr I2.env0 (hb s2 us I2.kIn hl) rz q2) fun r s' hq => ?_)
    cases r with
    | error e => exact passX pins σ H2 s2 e s' I2 hq
    | ok fl =>
      cases fl with
      | ret u => exact I2.after hq
      | _ => exact False.elim hq
  · refine q R c fun as δ1 F1 H1 vs R1 s1 r1 c1 => ?_
    rw [List.append_nil]
    exact callL_ok R1 r1 c1 fun r δ' F' H' v R2 s2 r2 c2 => k r _ _ _ _ R2 (s1.trans s2) r2 c2
/-! ### instances -/
/-- a class of the module -/
structure ClsF (K : PySem.W.Frag) (mg : Str → Option Value) (c : Str) : Prop where
  ex : ∃ C, mg c = some (.ref C) ∧ Cls K C
/-- .. with an attribute f that no class of it has -/
structure FldF (K : PySem.W.Frag) (mg : Str → Option Value) (c f : Str) : Prop where
  ex : ∃ C, mg c = some (.ref C) ∧ Cls K C ∧ NoAttr K C f
theorem look_rep {F : Fg} {f : Str} {a : Ar} : ∀ {vs : List (Str × V)} {fs : List (Str × Ar)}, vs.map (·.1) = fs.map (·.1) → ArsRep K F (vs.map (·.2)) (fs.map (·.2)) → fs.lookup f = some a → ∃ v, vs.lookup f = some v ∧ ArRep K F v a
  | [], [], _, _, h => by cases h
  | [], _ :: _, e, _, _ => by cases e
  | _ :: _, [], e, _, _ => by cases e
  | (g, v) :: vs, (g', b) :: fs, e, r, h => by
    have e1 : g = g' := by injection e
    have e2 : vs.map (·.1) = fs.map (·.1) := by injection e
    subst e1
    rw [List.lookup_cons] at h ⊢
    split at h
    · cases h; exact ⟨v, rfl, r.1⟩
    · exact look_rep e2 r.2 h
theorem look_none {f : Str} : ∀ {vs : List (Str × V)} {fs : List (Str × Ar)}, vs.map (·.1) = fs.map (·.1) → fs.lookup f = none → vs.lookup f = none
  | [], _, _, _ => rfl
  | _ :: _, [], e, _ => by cases e
  | (g, v) :: vs, (g', b) :: fs, e, h => by
    have e1 : g = g' := by injection e
    have e2 : vs.map (·.1) = fs.map (·.1) := by injection e
    subst e1
    rw [List.lookup_cons] at h ⊢
    split at h
    · cases h
    · exact look_none e2 h
/-- o.f -/
def dFld (c f : Str) (fo : DTE) : DTE := fun δ C => fo δ fun a δ1 => match a with
  | .sl i => match δ1.m[i]? with
    | some (.ins c' fs) => c' = c ∧ match fs.lookup f with
      | some b => C b δ1
      | none => False
    | _ => False
  | _ => False
theorem pd_fld {o : Expr} {c f : Str} {fo : DTE} (T : FldF X.K X.mg c f) (ho : PD W E X o fo) (hb : attributeBase o f X.env (eval o X.env) = eval o X.env := by rfl) : PD W E X (.Attribute o f pos) (dFld c f fo) := by
  obtain ⟨te, p, q⟩ := ho
  obtain ⟨C0, t1, t2, t3⟩ := T
  refine ⟨_, pe_fld p hb, fun {F σ δ H Q C} R c k => ?_⟩
  refine q R c fun a δ1 F1 H1 v R1 s1 r1 c1 => ?_
  split at c1
  · rename_i i
    split at c1
    · rename_i c' fs hi
      obtain ⟨rfl, c1⟩ := c1
      split at c1
      · rename_i b hb
        obtain ⟨l, e1, e2, C1, dx, vs, a0, a1, a2, a3, a4, a5⟩ := R1.sto.at hi rfl
        rw [t1] at a0
        cases a0
        obtain ⟨l', g1, rfl⟩ := r1
        rw [e1] at g1
        cases g1
        obtain ⟨w, h1, h2⟩ := look_rep a4 a5 hb
        exact ⟨l, C0, dx, vs, w, rfl, a1, t2, t3, h1, k b _ _ _ _ R1 s1 h2 c1⟩
      · exact c1.elim
    · exact c1.elim
  · exact c1.elim
/-- o.f = e -/
def putA (f : Str) (a : Ar) : List (Str × Ar) → List (Str × Ar)
  | [] => [(f, a)]
  | (g, b) :: r => if g = f then (g, a) :: r else (g, b) :: putA f a r
theorem putA_rep {F : Fg} {f : Str} {a : Ar} {v : V} (h : ArRep K F v a) : ∀ {vs : List (Str × V)} {fs : List (Str × Ar)}, vs.map (·.1) = fs.map (·.1) → ArsRep K F (vs.map (·.2)) (fs.map (·.2)) → (putF f v vs).map (·.1) = (putA f a fs).map (·.1) ∧ ArsRep K F ((putF f v vs).map (·.2)) ((putA f a fs).map (·.2))
  | [], [], _, _ => ⟨rfl, h, trivial⟩
  | [], _ :: _, e, _ => by cases e
  | _ :: _, [], e, _ => by cases e
  | (g, u) :: vs, (g', b) :: fs, e, r => by
    have e1 : g = g' := by injection e
    have e2 : vs.map (·.1) = fs.map (·.1) := by injection e
    subst e1
    unfold putF putA
    by_cases q : g = f
    · rw [if_pos q, if_pos q]
      exact ⟨by rw [List.map_cons, List.map_cons, e2], h, r.2⟩
    · rw [if_neg q, if_neg q]
      obtain ⟨h1, h2⟩ := putA_rep h e2 r.2
      exact ⟨by rw [List.map_cons, List.map_cons, h1], r.1, h2⟩
def dSetFld (c f : Str) (fo fv : DTE) : DTS := fun D δ => fv δ fun b δ1 => fo δ1 fun a δ2 => match a with
  | .sl i => match δ2.m[i]? with
    | some (.ins c' fs) => (c' = c ∧ fs.length < 1000) ∧ D.nx (setM δ2 i (.ins c (putA f b fs)))
    | _ => False
  | _ => False
theorem RepS.putIns (R : RepS W E K mg F σ δ H) {i : Nat} {c f : Str} {fs : List (Str × Ar)} {b : Ar} {w : V} (h : δ.m[i]? = some (.ins c fs)) (r : ArRep K F w b) : ∃ l C dx vs, F.g[i]? = some l ∧ mg c = some (.ref C) ∧ H l = some (.ins C dx vs) ∧ vs.length = fs.length ∧
    RepS W E K mg F σ (setM δ i (.ins c (putA f b fs))) (upd H l (.ins C dx (putF f w vs))) ∧ Stp F H F (upd H l (.ins C dx (putF f w vs))) := by
  obtain ⟨l, e1, e2, C, dx, vs, a0, a1, a2, a3, a4, a5⟩ := R.sto.at h rfl
  obtain ⟨h1, h2⟩ := putA_rep (f := f) r a4 a5
  have nd : dx ≠ l := fun z => by rw [z, a1] at a2; cases a2
  have ln : vs.length = fs.length := by have := congrArg List.length a4; simpa using this
  obtain ⟨R2, s2⟩ := R.put (o' := .ins c (putA f b fs)) (u := .ins C dx (putF f w vs)) h rfl rfl e1 (fun x => by intro z; cases z) ⟨C, dx, _, a0, upd_same, by rw [upd_ne nd]; exact a2, a3, h1, h2⟩
  exact ⟨l, C, dx, vs, e1, a0, a1, ln, R2, s2⟩
theorem sd_setFld {o v : Expr} {c f : Str} {fo fv : DTE} {pos' : Pos} (T : FldF X.K X.mg c f) (ho : PD W E X o fo) (hv : PD W E X v fv) (hs : swapsWith v (some (.Attribute o f pos')) pos.line X.env = pure false := by rfl) : SD W E X (.Assign [.Attribute o f pos'] v pos) (dSetFld c f fo fv) := by
  obtain ⟨te, p, q⟩ := ho
  obtain ⟨tv, p2, q2⟩ := hv
  obtain ⟨C0, t1, t2, t3⟩ := T
  refine ⟨_, ps_fld p p2 hs, fun {F σ δ H DD D} R c k => ?_⟩
  refine q2 R c fun b δ1 F1 H1 w R1 s1 r1 c1 => ?_
  refine q R1 c1 fun a δ2 F2 H2 v R2 s2 r2 c2 => ?_
  split at c2
  · rename_i i
    split at c2
    · rename_i c' fs hi
      obtain ⟨⟨rfl, hz⟩, c2⟩ := c2
      obtain ⟨l, C1, dx, vs, e1, a0, a1, ln, R3, s3⟩ := R2.putIns (f := f) hi (r1.step s2)
      rw [t1] at a0
      cases a0
      obtain ⟨l', g1, rfl⟩ := r2
      rw [e1] at g1
      cases g1
      exact ⟨l, C0, dx, vs, rfl, a1, t2, t3, by rw [ln]; exact hz, k.nx _ _ _ _ R3 ((s1.trans s2).trans s3) c2⟩
    · exact c2.elim
  · exact c2.elim
/-- o.f += e (whole numbers) -/
def dAugFld (c f : Str) (fo fv : DTE) (op : Int → Int → Int) : DTS := fun D δ => fo δ fun a δ1 => match a with
  | .sl i => match δ1.m[i]? with
    | some (.ins c' fs) => match fs.lookup f with
      | some (.val (.int n)) => (c' = c ∧ fs.length < 1000) ∧ fv δ1 fun b δ2 => match b with
        | .val (.int m) => δ2.m[i]? = some (.ins c' fs) ∧ D.nx (setM δ2 i (.ins c (putA f (.val (.int (op n m))) fs)))
        | _ => False
      | _ => False
    | _ => False
  | _ => False
theorem augFld {o v : Expr} {c f : Str} {fo fv : DTE} {tpos : Pos} {opr : Operator} {op : Int → Int → Int} (hop : InOp X opr fun x y H Q => ∃ i j, x = .int i ∧ y = .int j ∧ Q (.int (op i j)) H) (T : FldF X.K X.mg c f) (ho : PD W E X o fo) (hv : PD W E X v fv) : SD W E X (.AugAssign (.Attribute o f tpos) opr v pos) (dAugFld c f fo fv op) := by
  obtain ⟨te, p, q⟩ := ho
  obtain ⟨tv, p2, q2⟩ := hv
  obtain ⟨C0, t1, t2, t3⟩ := T
  refine ⟨_, ps_fldaug p p2 hop, fun {F σ δ H DD D} R c k => ?_⟩
  refine q R c fun a δ1 F1 H1 v R1 s1 r1 c1 => ?_
  split at c1
  · rename_i i
    split at c1
    · rename_i c' fs hi
      split at c1
      · rename_i n hn
        obtain ⟨⟨rfl, hz⟩, c1⟩ := c1
        obtain ⟨l, e1, e2, C1, dx, vs, a0, a1, a2, a3, a4, a5⟩ := R1.sto.at hi rfl
        rw [t1] at a0
        cases a0
        obtain ⟨l', g1, rfl⟩ := r1
        rw [e1] at g1
        cases g1
        obtain ⟨w, h1, h2⟩ := look_rep a4 a5 hn
        cases (show Dp X.K F1.f w (.int n) from h2)
        refine ⟨l, C0, dx, vs, _, rfl, a1, t2, t3, h1, q2 R1 c1 fun b δ2 F2 H2 u R2 s2 r2 c2 => ?_⟩
        split at c2
        · rename_i m
          cases (show Dp X.K F2.f u (.int m) from r2)
          obtain ⟨hi2, c2⟩ := c2
          obtain ⟨l2, C2, dx2, vs2, b1, b0, b2, ln, R3, s3⟩ := R2.putIns (f := f) (b := .val (.int (op n m))) (w := .int (op n m)) hi2 (Dp.int _)
          rw [t1] at b0
          cases b0
          obtain ⟨ns, ep, _⟩ := s2.pre
          rw [ep, List.getElem?_append_left (List.getElem?_eq_some_iff.mp e1).1, e1] at b1
          cases b1
          exact ⟨n, m, rfl, rfl, dx2, vs2, b2, by rw [ln]; exact hz, k.nx _ _ _ _ R3 ((s1.trans s2).trans s3) c2⟩
        · exact c2.elim
      · exact c1.elim
    · exact c1.elim
  · exact c1.elim
/-! ### methods, instances made -/
def dMeth (c m : Str) (d : DSp) (fo : DTE) (g : DTA) : DTE := fun δ C => fo δ fun a δ1 => match a with
  | .sl i => match δ1.m[i]? with
    | some (.ins c' fs) => (c' = c ∧ fs.lookup m = none) ∧ g δ1 fun as δ2 => callG EF d (.sl i :: as) δ2 C
    | _ => False
  | _ => False
/-- the method m of the class c keeps its promise -/
structure MethOk (P : Program) (w : World) (K : PySem.W.Frag) (mg : Str → Option Value) (base : Heap) (c m : Str) (k : Nat) (ps : List Str) (d : DSp) : Prop where
  ex : ∃ (C f : Addr) (fd : FuncData), mg c = some (.ref C) ∧ Cls K C ∧ Meth K C m f ∧ Binds K fd ps [] ∧ FnOk P w K mg base (L2.CX P w) k f fd ps (lift K mg d)
theorem pd_meth {o : Expr} {c m : Str} {j : Nat} {fo : DTE} {apos : Pos} {pl : Sem Bool} (G : MethOk X.prog X.w X.K X.mg X.base c m k ps d) (hr : Room j X.A) (hkm : k ≤ j) (ho : PD W E X o fo) (ha : PDA W E X (e :: es) g)
    (hst : starEach (e :: es) X.env = (false, eval e X.env) :: starEach es X.env := by rfl) (hpl : (backTo pos (starEach es X.env)).any (·.1) = false := by rfl)
    (ht : eval (.Call (.Attribute o m apos) (e :: es) [] pos) X.env = (do
      let ov ← eval o X.env
      standAt apos.atName
      let (f, first) ← holding [ov] (getMethod ov m pl)
      callWith pos f first (backTo pos (starEach (e :: es) X.env)) (backToKw pos (keywordEach [] X.env))) := by rfl) :
    PD W E X (.Call (.Attribute o m apos) (e :: es) [] pos) (dMeth c m d fo g) := by
  obtain ⟨te, p, q⟩ := ho
  obtain ⟨ta, pa, qa⟩ := ha
  obtain ⟨C0, f, fd, t1, t2, t3, hb, G⟩ := G
  refine ⟨_, pe_meth p t2 t3 G (hr.mono hkm) hb .nil passX pa hst hpl ht, fun {F σ δ H Q C} R c k => ?_⟩
  refine q R c fun a δ1 F1 H1 v R1 s1 r1 c1 => ?_
  split at c1
  · rename_i i
    split at c1
    · rename_i c' fs hi
      obtain ⟨⟨rfl, hl⟩, c1⟩ := c1
      obtain ⟨l, e1, e2, C1, dx, vs, a0, a1, a2, a3, a4, a5⟩ := R1.sto.at hi rfl
      rw [t1] at a0
      cases a0
      have r1' := r1
      obtain ⟨l', g1, rfl⟩ := r1
      rw [e1] at g1
      cases g1
      refine ⟨l, dx, vs, rfl, a1, look_none a4 hl, qa R1 c1 fun as δ2 F2 H2 us R2 s2 r2 c2 => ?_⟩
      rw [List.append_nil]
      exact callG_ok0 (as := .sl i :: as) R2 ⟨r1'.step s2, r2⟩ c2 fun r δ' F' H' v R3 s3 r3 c3 => k r _ _ _ _ R3 ((s1.trans s2).trans s3) r3 c3
    · exact c1.elim
  · exact c1.elim
theorem pd_meth0 {o : Expr} {c m : Str} {j : Nat} {fo : DTE} {apos : Pos} {pl : Sem Bool} (G : MethOk X.prog X.w X.K X.mg X.base c m k ps d) (hr : Room j X.A) (hkm : k ≤ j) (ho : PD W E X o fo)
    (ht : eval (.Call (.Attribute o m apos) [] [] pos) X.env = (do
      let ov ← eval o X.env
      standAt apos.atName
      let (f, first) ← holding [ov] (getMethod ov m pl)
      callWith pos f first (backTo pos (starEach [] X.env)) (backToKw pos (keywordEach [] X.env))) := by rfl) :
    PD W E X (.Call (.Attribute o m apos) [] [] pos) (dMeth c m d fo dNil) := by
  obtain ⟨te, p, q⟩ := ho
  obtain ⟨C0, f, fd, t1, t2, t3, hb, G⟩ := G
  refine ⟨_, pe_meth0 p t2 t3 G (hr.mono hkm) hb .nil passX ht, fun {F σ δ H Q C} R c k => ?_⟩
  refine q R c fun a δ1 F1 H1 v R1 s1 r1 c1 => ?_
  split at c1
  · rename_i i
    split at c1
    · rename_i c' fs hi
      obtain ⟨⟨rfl, hl⟩, c1⟩ := c1
      obtain ⟨l, e1, e2, C1, dx, vs, a0, a1, a2, a3, a4, a5⟩ := R1.sto.at hi rfl
      rw [t1] at a0
      cases a0
      have r1' := r1
      obtain ⟨l', g1, rfl⟩ := r1
      rw [e1] at g1
      cases g1
      refine ⟨l, dx, vs, rfl, a1, look_none a4 hl, ?_⟩
      exact callG_ok0 (vs := [.ref l]) (as := [.sl i]) R1 ⟨r1', trivial⟩ c1 fun r δ' F' H' v R3 s3 r3 c3 => k r _ _ _ _ R3 (s1.trans s3) r3 c3
    · exact c1.elim
  · exact c1.elim
def dMake (c : Str) (d : DSp) (g : DTA) : DTE := fun δ C => g δ fun as δ1 => callG EF d (.sl δ1.m.length :: as) ⟨δ1.s, δ1.m ++ [.ins c []]⟩ fun r δ2 => r = .val .none ∧ C (.sl δ1.m.length) δ2
structure MakeOk (P : Program) (w : World) (K : PySem.W.Frag) (mg : Str → Option Value) (base : Heap) (c : Str) (k : Nat) (ps : List Str) (d : DSp) : Prop where
  ex : ∃ (C f : Addr) (fd : FuncData), mg c = some (.ref C) ∧ Mk K C f ∧ Binds K fd ps [] ∧ FnOk P w K mg base (L2.CX P w) k f fd ps (lift K mg d)
theorem make_read {c : Str} {C0 : Addr} {vs : List V} {as : List Ar} {Q : VK} {C : Ar → DSt → Prop} (hc : mg c = some (.ref C0)) (R : RepS W E K mg F σ δ H) (ra : ArsRep K F vs as)
    (cc : callG EF d (.sl δ.m.length :: as) ⟨δ.s, δ.m ++ [.ins c []]⟩ fun r δ2 => r = .val .none ∧ C (.sl δ.m.length) δ2)
    (k : ∀ a δ' F' H' v, RepS W E K mg F' σ δ' H' → Stp F H F' H' → ArRep K F' v a → C a δ' → Q v H') (x dx : Addr) (nx : H x = none) (ndx : H dx = none) (ne : dx ≠ x) :
    lift K mg d (.ref x :: vs) (upd (upd H dx (.own x)) x (.ins C0 dx [])) (fun v H2 => v = .non ∧ Q (.ref x) H2) E0 := by
  have sm : Same H (upd (upd H dx (.own x)) x (.ins C0 dx [])) := fun b u e => by rw [upd_ne (ne_of_none e nx), upd_ne (ne_of_none e ndx)]; exact e
  obtain ⟨R2, s2⟩ := R.made (p := x) (o := .ins c []) sm nx rfl ⟨C0, dx, [], hc, upd_same, by rw [upd_ne ne, upd_same], R.sto.sub.free ndx, rfl, trivial⟩
  have gp : (F.g ++ [x])[δ.m.length]? = some x := by
    rw [List.getElem?_append_right (by rw [R.sto.glen]; exact Nat.le_refl _), R.sto.glen, Nat.sub_self]; rfl
  refine callG_ok0 (as := .sl δ.m.length :: as) R2 ⟨⟨x, gp, rfl⟩, ra.step s2⟩ cc fun r δ' F' H' v R3 s3 r3 c3 => ?_
  obtain ⟨rfl, c3⟩ := c3
  cases (show Dp K F'.f v .none from r3)
  exact ⟨rfl, k _ _ _ _ _ R3 (s2.trans s3) (ArRep.step s3 (a := .sl δ.m.length) ⟨x, gp, rfl⟩) c3⟩
theorem pd_make {c : Str} {j : Nat} (G : MakeOk X.prog X.w X.K X.mg X.base c k ps d) (hr : Room j X.A) (hg : Gl X c) (hkm : k + 1 ≤ j) (ha : PDA W E X (e :: es) g)
    (hdb : (c == ("__debug__" : Str)) = false := by decide) (he : starEach (e :: es) X.env = (false, eval e X.env) :: starEach es X.env := by rfl) (hpl : (backTo pos (starEach es X.env)).any (·.1) = false := by rfl) : PD W E X (.Call (.Name c p) (e :: es) [] pos) (dMake c d g) := by
  obtain ⟨ta, pa, qa⟩ := ha
  obtain ⟨C0, f, fd, t1, t2, hb, G⟩ := G
  refine ⟨_, pe_make t2 G (hr.mono hkm) hg t1 hb .nil passX pa hdb he hpl, fun {F σ δ H Q C} R c k => ?_⟩
  refine qa R c fun as δ1 F1 H1 vs R1 s1 r1 c1 x dx nx ndx ne => ?_
  rw [List.append_nil]
  exact make_read t1 R1 r1 c1 (fun a δ' F' H' v R2 s2 r2 c2 => k a _ _ _ _ R2 (s1.trans s2) r2 c2) x dx nx ndx ne
theorem pd_make0 {c : Str} {j : Nat} (G : MakeOk X.prog X.w X.K X.mg X.base c k ps d) (hr : Room j X.A) (hg : Gl X c) (hkm : k + 1 ≤ j)
    (hdb : (c == ("__debug__" : Str)) = false := by decide) : PD W E X (.Call (.Name c p) [] [] pos) (dMake c d dNil) := by
  obtain ⟨C0, f, fd, t1, t2, hb, G⟩ := G
  refine ⟨_, pe_make0 t2 G (hr.mono hkm) hg t1 hb .nil passX hdb, fun {F σ δ H Q C} R c k => ?_⟩
  intro x dx nx ndx ne
  exact make_read (vs := []) (as := []) t1 R trivial c k x dx nx ndx ne
end
end MM

namespace MM
open PySem PySem.Spec PyProof.Rows L2
/-! ### lists that are read: + and * -/
/-- the module holds no list -/
def noListB (K : PySem.W.Frag) : Bool := K.all fun p => !(p.2.cls == .type "list")
theorem lookup_mem {K : PySem.W.Frag} {a : Addr} {o : Obj} (h : K.lookup a = some o) : (a, o) ∈ K := by
  induction K with
  | nil => cases h
  | cons p K ih =>
    obtain ⟨b, u⟩ := p
    rw [List.lookup_cons] at h
    split at h
    · rename_i e
      cases h
      rw [beq_iff_eq.mp e]
      exact List.mem_cons_self
    · exact List.mem_cons_of_mem _ (ih h)
theorem rd_of {K : PySem.W.Frag} {H : Hp} {a : Addr} {vs : List V} (n : noListB K = true) (h : SqL K H a vs) : Rd H a (.lst vs) := by
  rcases h with h | ⟨o, its, m, h1, h2, _⟩
  · exact h
  · have := List.all_eq_true.mp n _ (lookup_mem h1)
    rw [h2] at this
    cases this
section
variable {W : WX} {E : EW} {mg : Str → Option Value} {X : Cx} {K : PySem.W.Frag} {F : Fg} {H : Hp} {σ : L2.St} {δ : DSt} {pos : Pos}
theorem lstR {pins : List (Addr × Obj)} {s : Shared} {l : Addr} {xs : List V} (I : Inv X pins σ H s) (hH : Rd H l (.lst xs)) : xs.length ≤ sizeLine ∧ ∃ (its : List Value) (n : Nat), Vals xs its ∧ xs.length = its.length ∧ s.heap.get? l = some { cls := .type "list", data := .seq its.toArray n } := by
  obtain ⟨z, its, n, r, e⟩ := hH.ok I.hok
  exact ⟨z, its, n, r, r.length, e⟩
theorem op_catR : OpR X (binaryOp .Add) (fun x y H Q => ∃ l b xs zs, x = .ref l ∧ y = .ref b ∧ Rd H l (.lst xs) ∧ Rd H b (.lst zs) ∧ xs.length + zs.length ≤ sizeLine ∧ ∀ p, H p = none → Q (.ref p) (upd H p (.lst (xs ++ zs)))) := by
  intro pins s σ H x y v u Q I rx ry h
  obtain ⟨l, b, xs, zs, rfl, rfl, hH, hB, hz, q⟩ := h
  cases rx
  cases ry
  obtain ⟨z, its, n, r, hl, e⟩ := lstR I hH
  obtain ⟨z2, its2, n2, r2, hl2, e2⟩ := lstR I hB
  refine PySem.P.add_list e e2 ?_ (by rw [List.size_toArray, List.size_toArray]; omega)
  have ea : its.toArray ++ its2.toArray = (its ++ its2).toArray := by simp
  rw [ea]
  exact ⟨.ref _, _, I.lnew (t' := s.toks) (r.append r2) (by rw [List.length_append]; omega), rfl, q _ I.fresh⟩
theorem mt_extendR : MtM X "list.extend" (fun x vs H Q => ∃ l b xs zs, x = .ref l ∧ vs = [.ref b] ∧ H l = some (.lst xs) ∧ Rd H b (.lst zs) ∧ xs.length + zs.length ≤ sizeLine ∧ Q .non (upd H l (.lst (xs ++ zs)))) := by
  intro pins s σ H x vs v us Q I rx rv h
  obtain ⟨l, b, xs, zs, rfl, rfl, hH, hB, hz, q⟩ := h
  cases rx
  obtain ⟨u, rfl, ru⟩ := rv.one
  cases ru
  obtain ⟨z, its, n, r, hl, e⟩ := I.lstM hH
  obtain ⟨z2, its2, n2, r2, hl2, e2⟩ := lstR I hB
  have hsz : its.toArray.size + its2.toArray.size ≤ sizeLine := by rw [List.size_toArray, List.size_toArray]; omega
  have hlong : ¬ (!its.toArray.isEmpty && Builtin.List.listTooLong (its.toArray.size + its2.toArray.size)) = true := by
    rw [notLongL hsz, Bool.and_false]
    exact Bool.false_ne_true
  refine call_meets F.slot_list_extend ⟨_, e, rfl⟩ F.entry_list_extend (F.args_list_extend_2 _ _)
    (AutoSeq1.list_extend_list_list_0 l its.toArray n b its2.toArray n2 hlong (by rw [List.size_toArray]; omega) (by omega)) ⟨e, e2, ?_⟩
  refine ⟨.non, _, I.lset (its' := its ++ its2) hH e (by simp) (r.append r2) ?_, rfl, q⟩
  rw [List.length_append]
  omega
def aAddL : DOp := fun d e C => match d, e with
  | .list xs, .list ys => xs.length + ys.length ≤ sizeLine ∧ C (.list (xs ++ ys))
  | d, e => aAdd d e C
theorem od_addL (nl : noListB X.K = true) : OpD W E X (binaryOp .Add) aAddL := by
  obtain ⟨r', o1, o2⟩ := od_add (W := W) (E := E) (X := X)
  refine ⟨_, DD.OpR.or op_catR o1, fun {F σ δ H x y d e Q C} R hx hy c k => ?_⟩
  unfold aAddL at c
  split at c
  · cases hx with
    | lst h1 a1 =>
      cases hy with
      | lst h2 a2 =>
        refine .inl ⟨_, _, _, _, rfl, rfl, rd_of nl (R.sto.sub.seq h1), rd_of nl (R.sto.sub.seq h2), by rw [a1.length, a2.length]; exact c.1, fun p np => ?_⟩
        obtain ⟨R2, s2⟩ := R.alloc (o := .lst _) np
        exact k _ _ _ _ R2 s2 (.lst (SqL.of upd_same) (Dp.monoAll s2.ext _ _ (a1.append a2))) c.2
  · exact .inr (o2 R hx hy c k)
/-- a display that holds objects of the store -/
def dLs (f : DTA) : DTE := fun δ C => f δ fun as δ1 => as.length ≤ sizeLine ∧ C (.sl δ1.m.length) ⟨δ1.s, δ1.m ++ [.ls as]⟩
theorem pd_ls {es : List Expr} {f : DTA} (h : PDA W E X es f) : PD W E X (.List es pos) (dLs f) := by
  obtain ⟨ta, p, q⟩ := h
  refine ⟨_, pe_lst p, fun {F σ δ H Q C} R c k => ?_⟩
  refine q R c fun as δ1 F1 H1 vs R1 s1 r1 c1 => ?_
  refine ⟨by rw [r1.length]; exact c1.1, fun p np => ?_⟩
  have sm : Same H1 (upd H1 p (.lst vs)) := fun b u e => by rw [upd_ne (ne_of_none e np)]; exact e
  have gp : (F1.g ++ [p])[δ1.m.length]? = some p := by
    rw [List.getElem?_append_right (by rw [R1.sto.glen]; exact Nat.le_refl _), R1.sto.glen, Nat.sub_self]; rfl
  have st : Stp F1 H1 ⟨F1.f, F1.g ++ [p]⟩ (upd H1 p (.lst vs)) := ⟨Same.refl _, ⟨[p], rfl, by simpa using np⟩, fun b u e => .inl e, fun b u e _ => sm b u e, fun b e => sm.free e⟩
  obtain ⟨R2, s2⟩ := R1.made (p := p) (o := .ls as) sm np rfl ⟨vs, upd_same, r1.step st⟩
  exact k (.sl δ1.m.length) _ _ _ _ R2 (s1.trans s2) ⟨p, gp, rfl⟩ c1.2
/-! ### xs.extend(data), xs.insert(0, e) -/
def extM (o : Mo) (xs : List PyData) : Mo := match o with
  | .fl ys => .fl (ys ++ xs)
  | .ls as => .ls (as ++ xs.map .val)
  | o => o
theorem extM_rep {l : Addr} {o : Mo} {xs : List PyData} {ws : List V} (h : MoRep K mg F H l o) (n : isL o = true) (r : DpAll K F.f ws xs) : ∃ vs, H l = some (.lst vs) ∧ vs.length = lenM o ∧ isL (extM o xs) = true ∧ MoRep K mg F (upd H l (.lst (vs ++ ws))) l (extM o xs) := by
  cases o with
  | fl ys => obtain ⟨vs, h1, h2⟩ := h; exact ⟨vs, h1, h2.length, rfl, _, upd_same, h2.append r⟩
  | ls as => obtain ⟨vs, h1, h2⟩ := h; exact ⟨vs, h1, h2.length, rfl, _, upd_same, h2.append (ArsRep.ofData r)⟩
  | _ => cases n
def dExt (fo f : DTE) : DTE := fun δ C => fo δ fun a δ1 => match a with
  | .sl i => guardB (isLi δ1 i) (f δ1 fun b δ2 => match rd δ2 b with
    | some (.list xs) => match δ2.m[i]? with
      | some o => guardB (isL o) (lenM o + xs.length ≤ sizeLine ∧ C (.val .none) (setM δ2 i (extM o xs)))
      | none => False
    | _ => False)
  | _ => False
theorem pd_extend {o e : Expr} {fo f : DTE} {apos cpos : Pos} (nl : noListB X.K = true) (ho : PD W E X o fo) (he : PD W E X e f)
    (hbase : attributeBase o "extend" X.env (eval o X.env) = eval o X.env := by rfl)
    (hfew : ((backTo cpos (starEach [e] X.env)).all (fun x => !x.1) && (backToKw cpos (keywordEach [] X.env)).all (fun x => x.1.isSome)
      && decide ([e].length + ([] : List Keyword).length + (if ([] : List Keyword).isEmpty then 0 else 1) < 30)) = true := by rfl)
    (hline : (apos.endLine == cpos.line) = true := by rfl) (hs : starEach [e] X.env = (false, eval e X.env) :: starEach [] X.env := by rfl) (hplain : (backTo cpos (starEach [] X.env)).any (·.1) = false := by rfl) :
    PD W E X (.Call (.Attribute o "extend" apos) [e] [] cpos) (dExt fo f) := by
  obtain ⟨te, p, q⟩ := ho
  obtain ⟨tf, p2, q2⟩ := he
  refine ⟨_, pe_bm PySem.F.plainAttrs_list PySem.F.slot_list_extend PySem.F.type_list_extend mt_extendR p (pa_cons p2 pa_nil hs) hbase hfew hline hs hplain, fun {F σ δ H Q C} R c k => ?_⟩
  refine q R c fun a δ1 F1 H1 v R1 s1 r1 c1 => ?_
  split at c1
  · rename_i i
    obtain ⟨gg, c1⟩ := guardB_iff.mp c1
    refine ⟨isSl R1 gg r1, q2 R1 c1 fun b δ2 F2 H2 w R2 s2 r2 c2 => ?_⟩
    clear gg
    split at c2
    · rename_i xs hx
      obtain ⟨p0, ws, rfl, h1, a1⟩ := listD_rep R2 r2 hx
      split at c2
      · rename_i o ho
        obtain ⟨n, hz, c3⟩ := guardB_iff.mp c2
        obtain ⟨l, e1, e2, e3⟩ := R2.sto.at ho (isL_live n)
        obtain ⟨l', g1, rfl⟩ := r1.step s2
        rw [e1] at g1
        cases g1
        obtain ⟨vs, b1, b2, b3, b4⟩ := extM_rep e3 n a1
        obtain ⟨R3, s3⟩ := R2.put (o' := extM o xs) (u := .lst (vs ++ ws)) ho (isL_live n) (isL_live b3) e1 (fun x => by intro z; cases z) b4
        exact ⟨l, p0, vs, ws, rfl, rfl, b1, rd_of nl h1, by rw [b2, a1.length]; exact hz, k (.val .none) _ _ _ _ R3 ((s1.trans s2).trans s3) Dp.non c3⟩
      · exact c2.elim
    · exact c2.elim
  · exact c1.elim
/-- xs.insert(0, data) -/
def insM (o : Mo) (d : PyData) : Mo := match o with
  | .fl ys => .fl (d :: ys)
  | .ls as => .ls (.val d :: as)
  | o => o
def dIns0 (fo f : DTE) : DTE := fun δ C => fo δ fun a δ1 => match a with
  | .sl i => guardB (isLi δ1 i) (f δ1 fun b δ2 => match b with
    | .val d => match δ2.m[i]? with
      | some o => guardB (isL o) (lenM o < sizeLine ∧ C (.val .none) (setM δ2 i (insM o d)))
      | none => False
    | _ => False)
  | _ => False
theorem pd_insert0 {o e : Expr} {fo f : DTE} {jj : Nat} {zp apos cpos : Pos} (ho : PD W E X o fo) (he : PD W E X e f)
    (hbase : attributeBase o "insert" X.env (eval o X.env) = eval o X.env := by rfl)
    (hfew : ((backTo cpos (starEach [.Constant (.int 0) jj zp, e] X.env)).all (fun x => !x.1) && (backToKw cpos (keywordEach [] X.env)).all (fun x => x.1.isSome)
      && decide ([Expr.Constant (.int 0) jj zp, e].length + ([] : List Keyword).length + (if ([] : List Keyword).isEmpty then 0 else 1) < 30)) = true := by rfl)
    (hline : (apos.endLine == cpos.line) = true := by rfl) (hs : starEach [.Constant (.int 0) jj zp, e] X.env = (false, eval (.Constant (.int 0) jj zp) X.env) :: starEach [e] X.env := by rfl) (hs2 : starEach [e] X.env = (false, eval e X.env) :: starEach [] X.env := by rfl) (hplain : (backTo cpos (starEach [e] X.env)).any (·.1) = false := by rfl) :
    PD W E X (.Call (.Attribute o "insert" apos) [.Constant (.int 0) jj zp, e] [] cpos) (dIns0 fo f) := by
  obtain ⟨te, p, q⟩ := ho
  obtain ⟨tf, p2, q2⟩ := he
  refine ⟨_, pe_bm PySem.F.plainAttrs_list PySem.F.slot_list_insert PySem.F.type_list_insert mt_insert p (pa_cons pe_int (pa_cons p2 pa_nil hs2) hs) hbase hfew hline hs hplain, fun {F σ δ H Q C} R c k => ?_⟩
  refine q R c fun a δ1 F1 H1 v R1 s1 r1 c1 => ?_
  split at c1
  · rename_i i
    obtain ⟨gg, c1⟩ := guardB_iff.mp c1
    refine ⟨isSl R1 gg r1, q2 R1 c1 fun b δ2 F2 H2 w R2 s2 r2 c2 => ?_⟩
    clear gg
    split at c2
    · rename_i d
      split at c2
      · rename_i o ho
        obtain ⟨n, hz, c3⟩ := guardB_iff.mp c2
        obtain ⟨l, e1, e2, e3⟩ := R2.sto.at ho (isL_live n)
        obtain ⟨l', g1, rfl⟩ := r1.step s2
        rw [e1] at g1
        cases g1
        have fin : ∀ vs, H2 l = some (.lst vs) → vs.length = lenM o → MoRep X.K X.mg F2 (upd H2 l (.lst (w :: vs))) l (insM o d) → isL (insM o d) = true → _ := fun vs h1 h2 h3 h4 => by
          obtain ⟨R3, s3⟩ := R2.put (o' := insM o d) (u := .lst (w :: vs)) ho (isL_live n) (isL_live h4) e1 (fun x => by intro z; cases z) h3
          exact (⟨l, vs, 0, w, rfl, rfl, h1, by rw [h2]; exact hz, by decide, by decide, k (.val .none) _ _ _ _ R3 ((s1.trans s2).trans s3) Dp.non c3⟩ : ∃ (l' : Addr) (xs : List V) (i : Int) (y : V), V.ref l = .ref l' ∧ [V.int 0, w] = [.int i, y] ∧ H2 l' = some (.lst xs) ∧ xs.length < sizeLine ∧ 0 ≤ i ∧ i < 2 ^ 63 ∧ Q .non (upd H2 l' (.lst (xs.take i.toNat ++ [y] ++ xs.drop i.toNat))))
        cases o with
        | fl ys => obtain ⟨vs, h1, h2⟩ := e3; exact fin vs h1 h2.length ⟨_, upd_same, .cons r2 h2⟩ rfl
        | ls as => obtain ⟨vs, h1, h2⟩ := e3; exact fin vs h1 h2.length ⟨_, upd_same, r2, h2⟩ rfl
        | _ => cases n
      · exact c2.elim
    · exact c2.elim
  · exact c1.elim
end
end MM

namespace MM
open PySem PySem.Spec PyProof.Rows L2
section
variable {W : WX} {E : EW} {mg : Str → Option Value} {X : Cx} {K : PySem.W.Frag} {F : Fg} {H : Hp} {σ : L2.St} {δ : DSt} {pos : Pos}
/-! ### xs[::-1] -/
def dRevN (f : DTE) : DSt → (List PyData → DSt → Prop) → Prop := fun δ C => f δ fun a δ1 => match rd δ1 a with
  | some (.list xs) => C xs.reverse δ1
  | _ => False
theorem pdn_rev {e : Expr} {f : DTE} {k : Nat} {p1 p2 p3 : Pos} (he : PD W E X e f) : PDN W E X (.Subscript e (.Slice none none (some (.UnaryOp .USub (.Constant (.int 1) k p1) p2)) p3) pos) (dRevN f) := by
  obtain ⟨te, p, q⟩ := he
  refine ⟨_, pe_revL p, fun {F σ δ H Q C} R c k => ?_⟩
  refine q R c fun a δ1 F1 H1 v R1 s1 r1 c1 => ?_
  split at c1
  · rename_i xs hx
    obtain ⟨p0, vs, rfl, h1, a1⟩ := listD_rep R1 r1 hx
    refine ⟨_, _, rfl, h1, fun p np => ?_⟩
    obtain ⟨R2, s2, nF, nO⟩ := R1.fresh (o := .lst vs.reverse) np
    exact k _ _ _ _ p _ R2 (s1.trans s2) nF (s1.dom _ np) nO upd_same a1.reverse c1
  · exact c1.elim
/-! ### all, any -/
def boolsD : List PyData → Option (List Bool)
  | [] => some []
  | .bool b :: ds => match boolsD ds with
    | some bs => some (b :: bs)
    | none => none
  | _ :: _ => none
theorem boolsD_eq : ∀ {ds : List PyData} {bs : List Bool}, boolsD ds = some bs → ds = bs.map PyData.bool
  | [], bs, h => by cases h; rfl
  | d :: ds, bs, h => by
    cases d with
    | bool b =>
      unfold boolsD at h
      split at h
      · cases h
        rename_i zs hz
        rw [boolsD_eq hz]
        rfl
      · cases h
    | _ => cases h
theorem boolsD_map : ∀ bs : List Bool, boolsD (bs.map PyData.bool) = some bs
  | [] => rfl
  | b :: bs => by
    show (match boolsD (bs.map PyData.bool) with | some zs => some (b :: zs) | none => none) = _
    rw [boolsD_map bs]
theorem ofBools {G : Hp} : ∀ {vs : List V} {bs : List Bool}, DpAll K G vs (bs.map PyData.bool) → vs = bs.map V.bl
  | vs, [], h => by cases h; rfl
  | vs, b :: bs, h => by
    cases h with
    | cons h1 h2 =>
      cases h1
      rw [ofBools h2]
      rfl
def fAll : DCl := fun δ as C => match as with
  | [a] => match rd δ a with
    | some (.list xs) => match boolsD xs with
      | some bs => C (.bool (bs.all id))
      | none => False
    | _ => False
  | _ => False
theorem cd_all (hc : X.calm = true) : CallD W E X (.builtin "all") fAll := by
  refine ⟨_, cr_all hc, fun {F σ δ H vs as Q C} R r c k => ?_⟩
  unfold fAll at c
  split at c
  · obtain ⟨v, rfl, r1⟩ := arsRep1 r
    split at c
    · rename_i xs hx
      split at c
      · rename_i bs hb
        obtain ⟨p0, vs, rfl, h1, a1⟩ := listD_rep R r1 hx
        rw [boolsD_eq hb] at a1
        rw [ofBools a1] at h1
        exact ⟨_, bs, rfl, h1, k (.bool _) _ _ _ R .refl (Dp.bl _) c⟩
      · exact c.elim
    · exact c.elim
  · exact c.elim
/-! ### a dict of the module whose keys are texts -/
/-- what it holds -/
structure TabF (K : PySem.W.Frag) (w : World) (mg : Str → Option Value) (x : Str) (tab : Str → Option PyData) : Prop where
  ex : ∃ d es n, mg x = some (.ref d) ∧ KDict K w d es n ∧ ∀ z, match tab z with
    | some y => ∃ u v, PySem.W.nsIn K d z = some (some u) ∧ RelV v u ∧ ∀ G, Dp K G v y
    | none => PySem.W.nsIn K d z = some none
def dTabIn (neg : Bool) (tab : Str → Option PyData) (f : DTE) : DTT := fun δ C => f δ fun a δ1 => match a with
  | .val (.str z) => C (if neg then !(tab z).isSome else (tab z).isSome) δ1
  | _ => False
theorem pdt_tabIn {x : Str} {a : Expr} {p2 : Pos} {tab : Str → Option PyData} {f : DTE} (T : TabF X.K X.w X.mg x tab) (hg : Gl X x) (ha : PD W E X a f) (hd : (x == ("__debug__" : Str)) = false := by decide) (hm : behindInMarks .In (.Name x p2) = false := by first | exact nomark _ | rfl) : PDT W E X (.Compare a [.In] [.Name x p2] pos) (dTabIn false tab f) := by
  obtain ⟨te, p, q⟩ := ha
  obtain ⟨d, es, n, t1, t2, t3⟩ := T
  refine ⟨_, pt_cmpR (op_in_kd t2) p (pe_glob (v := .ref d) hg t1 rfl hd) hm, fun {F σ δ H Q C} R c k => ?_⟩
  refine q R c fun a δ1 F1 H1 v R1 s1 r1 c1 => ?_
  split at c1
  · rename_i z
    cases (show Dp X.K F1.f v (.str z) from r1)
    have t := t3 z
    cases hz : tab z with
    | none =>
      rw [hz] at t c1
      exact ⟨z, none, rfl, rfl, t, false, rfl, k _ _ _ _ R1 s1 c1⟩
    | some y =>
      rw [hz] at t c1
      obtain ⟨u, v, e1, _⟩ := t
      exact ⟨z, some u, rfl, rfl, e1, true, rfl, k _ _ _ _ R1 s1 c1⟩
  · exact c1.elim
end
/-! ### one def, by name: its promise -/
structure Ok (P : Program) (w : World) (K : PySem.W.Frag) (mg : Str → Option Value) (base : Heap) (x : Str) (k : Nat) (ps : List Str) (d : DSp) : Prop where
  ex : ∃ (f : Addr) (fd : FuncData), mg x = some (.ref f) ∧ PySem.W.keepIn K (.ref f) = true ∧ Binds K fd ps [] ∧ FnOk P w K mg base (L2.CX P w) k f fd ps (lift K mg d)
structure OkK (P : Program) (w : World) (K : PySem.W.Frag) (mg : Str → Option Value) (base : Heap) (x : Str) (k : Nat) (ps : List Str) (d : DSp) : Prop where
  ex : ∃ (f : Addr) (fd : FuncData), mg x = some (.ref f) ∧ PySem.W.keepIn K (.ref f) = true ∧ (∀ (s : Shared) (us : List Value), K.In s.heap → us.length = ps.length → BindsTo s fd ⟨[], ps.zip us⟩ (ps.zip us)) ∧ FnOk P w K mg base (L2.CX P w) k f fd ps (lift K mg d)
section
variable {W : WX} {E : EW} {X : Cx} {ps : List Str} {k m : Nat} {x : Str} {p pos : Pos} {e : Expr} {es : List Expr} {d : DSp} {g : DTA}
theorem pc_ok (G : Ok X.prog X.w X.K X.mg X.base x k ps d) (hr : Room m X.A) (hg : Gl X x) (hkm : k ≤ m)
    (ha : PDA W E X (e :: es) g) (hdb : (x == ("__debug__" : Str)) = false := by decide) (he : starEach (e :: es) X.env = (false, eval e X.env) :: starEach es X.env := by rfl) (hpl : (backTo pos (starEach es X.env)).any (·.1) = false := by rfl) :
    PD W E X (.Call (.Name x p) (e :: es) [] pos) (dCall d g) := by
  obtain ⟨f, fd, hm, hk, hb, G⟩ := G
  exact pd_call G (hr.mono hkm) hg hm hk hb ha hdb he hpl
theorem pcG_ok (G : Ok X.prog X.w X.K X.mg X.base x k ps d) (hr : Room m X.A) (hg : Gl X x) (hkm : k ≤ m)
    (ha : PDA W E X (e :: es) g) (hdb : (x == ("__debug__" : Str)) = false := by decide) (he : starEach (e :: es) X.env = (false, eval e X.env) :: starEach es X.env := by rfl) (hpl : (backTo pos (starEach es X.env)).any (·.1) = false := by rfl) :
    PD W E X (.Call (.Name x p) (e :: es) [] pos) (dCallG d g) := by
  obtain ⟨f, fd, hm, hk, hb, G⟩ := G
  exact pd_callG G (hr.mono hkm) hg hm hk hb ha hdb he hpl
theorem pcX_ok (G : Ok X.prog X.w X.K X.mg X.base x k ps d) (tk : Takes X W) (hr : Room m X.A) (hg : Gl X x) (hkm : k ≤ m)
    (ha : PDA W E X (e :: es) g) (hdb : (x == ("__debug__" : Str)) = false := by decide) (he : starEach (e :: es) X.env = (false, eval e X.env) :: starEach es X.env := by rfl) (hpl : (backTo pos (starEach es X.env)).any (·.1) = false := by rfl) :
    PD W E X (.Call (.Name x p) (e :: es) [] pos) (dCallX E d g) := by
  obtain ⟨f, fd, hm, hk, hb, G⟩ := G
  exact pd_callX G tk (hr.mono hkm) hg hm hk hb ha hdb he hpl
theorem pc_ok0 (G : Ok X.prog X.w X.K X.mg X.base x k ps d) (hr : Room m X.A) (hg : Gl X x) (hkm : k ≤ m) (hdb : (x == ("__debug__" : Str)) = false := by decide) : PD W E X (.Call (.Name x p) [] [] pos) (dCall d dNil) := by
  obtain ⟨f, fd, hm, hk, hb, G⟩ := G
  exact pd_call0 G (hr.mono hkm) hg hm hk hb hdb
theorem pck_ok {kws : List Keyword} (G : OkK X.prog X.w X.K X.mg X.base x k ps d) (hr : Room m X.A) (hg : Gl X x) (hkm : k ≤ m) (hkw : PDK W E X kws g)
    (hall : (backToKw pos (keywordEach kws X.env)).all (·.1.isSome) = true := by rfl) (hks : (backToKw pos (keywordEach kws X.env)).filterMap (·.1) = ps := by rfl) (hdb : (x == ("__debug__" : Str)) = false := by decide)
    (hpl : ((backTo pos (starEach [] X.env)).any (·.1) || (backToKw pos (keywordEach kws X.env)).any (·.1.isNone)) = false := by rfl) :
    PD W E X (.Call (.Name x p) [] kws pos) (dCall d g) := by
  obtain ⟨f, fd, hm, hk, hb, G⟩ := G
  exact pd_callK G (hr.mono hkm) hg hm hk hb hkw hall hks hdb hpl
end
section
variable {P : Program} {w : World} {K : PySem.W.Frag} {mg : Str → Option Value} {base : Heap}
theorem ok_mk {x : Str} {st : Stmt} {N ps : List Str} {k : Nat} {d : DSp} {g : EW → DTS} (D : DD.DefAt K mg x st) (S : FnScope N ps (defScope st)) (len : ∀ as m C Ex, d as m C Ex → as.length = ps.length)
    (hb : ∀ (kV doc pm : Value) (an : Option Addr) (cdv ct : Value) (us : List Value), us.length = ps.length → bindArgs (PySem.W.fnOf x x (defArgs st) (defBody st) (defScope st) .none kV doc pm an cdv ct) ⟨us, []⟩ = pure (ps.zip us))
    (hbody : ∀ (f : Addr) (cdv : Value) (A : Around) (outer : List Env) (s : Shared) (H : Hp) (E : XK) (W : WX) (V : EW), Room k (A.deeper (envOfC x (defScope st) s.heap.objs.size f cdv)) → Takes (cxOf (L2.CX P w) P w K mg base N x (defScope st) f cdv A outer s H E) W →
      SDs W V (cxOf (L2.CX P w) P w K mg base N x (defScope st) f cdv A outer s H E) (defBody st) (g V))
    (law : ∀ as m C Ex, d as m C Ex → g (exE m.length Ex) (endsD m.length C) (startD N as m)) : Ok P w K mg base x (k + 1) ps d := by
  obtain ⟨f, fd, hm, F⟩ := D
  exact ⟨f, fd, hm, F.kp, F.binds hb, fn_mm F S len (hbody f) law⟩
theorem okk_mk {x : Str} {st : Stmt} {N ps : List Str} {k : Nat} {d : DSp} {g : EW → DTS} (D : DD.DefAt K mg x st) (S : FnScope N ps (defScope st)) (len : ∀ as m C Ex, d as m C Ex → as.length = ps.length)
    (hb : ∀ (kV doc pm : Value) (an : Option Addr) (cdv ct : Value) (us : List Value), us.length = ps.length → bindArgs (PySem.W.fnOf x x (defArgs st) (defBody st) (defScope st) .none kV doc pm an cdv ct) ⟨[], ps.zip us⟩ = pure (ps.zip us))
    (hbody : ∀ (f : Addr) (cdv : Value) (A : Around) (outer : List Env) (s : Shared) (H : Hp) (E : XK) (W : WX) (V : EW), Room k (A.deeper (envOfC x (defScope st) s.heap.objs.size f cdv)) → Takes (cxOf (L2.CX P w) P w K mg base N x (defScope st) f cdv A outer s H E) W →
      SDs W V (cxOf (L2.CX P w) P w K mg base N x (defScope st) f cdv A outer s H E) (defBody st) (g V))
    (law : ∀ as m C Ex, d as m C Ex → g (exE m.length Ex) (endsD m.length C) (startD N as m)) : OkK P w K mg base x (k + 1) ps d := by
  obtain ⟨f, fd, hm, F⟩ := D
  have G := fn_mm F S len (hbody f) law
  obtain ⟨oc, od, kV, doc, pm, an, cdv, ct, osl, rfl, lk, hcd⟩ := F.ex
  exact ⟨f, _, hm, F.kp, fun s us _ hl => .of_eq (hb kV doc pm an cdv ct us hl), G⟩
/-- a method of a class of the module -/
structure MethAt (K : PySem.W.Frag) (mg : Str → Option Value) (c m qual : Str) (st : Stmt) : Prop where
  ex : ∃ (C f : Addr) (fd : FuncData), mg c = some (.ref C) ∧ Cls K C ∧ Meth K C m f ∧ Fun K m qual st f fd
theorem meth_mk {c x qual : Str} {st : Stmt} {N ps : List Str} {k : Nat} {d : DSp} {g : EW → DTS} (D : MethAt K mg c x qual st) (S : FnScope N ps (defScope st)) (len : ∀ as m C Ex, d as m C Ex → as.length = ps.length)
    (hb : ∀ (kV doc pm : Value) (an : Option Addr) (cdv ct : Value) (us : List Value), us.length = ps.length → bindArgs (PySem.W.fnOf x qual (defArgs st) (defBody st) (defScope st) .none kV doc pm an cdv ct) ⟨us, []⟩ = pure (ps.zip us))
    (hbody : ∀ (f : Addr) (cdv : Value) (A : Around) (outer : List Env) (s : Shared) (H : Hp) (E : XK) (W : WX) (V : EW), Room k (A.deeper (envOfC qual (defScope st) s.heap.objs.size f cdv)) → Takes (cxOf (L2.CX P w) P w K mg base N qual (defScope st) f cdv A outer s H E) W →
      SDs W V (cxOf (L2.CX P w) P w K mg base N qual (defScope st) f cdv A outer s H E) (defBody st) (g V))
    (law : ∀ as m C Ex, d as m C Ex → g (exE m.length Ex) (endsD m.length C) (startD N as m)) : MethOk P w K mg base c x (k + 1) ps d := by
  obtain ⟨C, f, fd, hm, hc, hM, F⟩ := D
  exact ⟨C, f, fd, hm, hc, hM, F.binds hb, fn_mm F S len (hbody f) law⟩
/-- .. its __init__ -/
structure InitAt (K : PySem.W.Frag) (mg : Str → Option Value) (c qual : Str) (st : Stmt) : Prop where
  ex : ∃ (C f : Addr) (fd : FuncData), mg c = some (.ref C) ∧ Mk K C f ∧ Fun K "__init__" qual st f fd
theorem make_mk {c qual : Str} {st : Stmt} {N ps : List Str} {k : Nat} {d : DSp} {g : EW → DTS} (D : InitAt K mg c qual st) (S : FnScope N ps (defScope st)) (len : ∀ as m C Ex, d as m C Ex → as.length = ps.length)
    (hb : ∀ (kV doc pm : Value) (an : Option Addr) (cdv ct : Value) (us : List Value), us.length = ps.length → bindArgs (PySem.W.fnOf "__init__" qual (defArgs st) (defBody st) (defScope st) .none kV doc pm an cdv ct) ⟨us, []⟩ = pure (ps.zip us))
    (hbody : ∀ (f : Addr) (cdv : Value) (A : Around) (outer : List Env) (s : Shared) (H : Hp) (E : XK) (W : WX) (V : EW), Room k (A.deeper (envOfC qual (defScope st) s.heap.objs.size f cdv)) → Takes (cxOf (L2.CX P w) P w K mg base N qual (defScope st) f cdv A outer s H E) W →
      SDs W V (cxOf (L2.CX P w) P w K mg base N qual (defScope st) f cdv A outer s H E) (defBody st) (g V))
    (law : ∀ as m C Ex, d as m C Ex → g (exE m.length Ex) (endsD m.length C) (startD N as m)) : MakeOk P w K mg base c (k + 1) ps d := by
  obtain ⟨C, f, fd, hm, hM, F⟩ := D
  exact ⟨C, f, fd, hm, hM, F.binds hb, fn_mm F S len (hbody f) law⟩
/-- no exception leaves: the promise in the law's end -/
theorem FnOk.calm {k : Nat} {f : Addr} {fd : FuncData} {ps : List Str} {sp : Sp} (G : FnOk P w K mg base (L2.CX P w) k f fd ps sp) : FnOk P w K mg base CX0 k f fd ps (fun vs H Q _ => sp vs H Q E0) := by
  refine ⟨fun vs H Q E h => G.len vs H Q E0 h, fun A outer s H args us vs Q E hr e0 hb hv hs => codeAny_mono (G.run A outer s H args us vs Q E0 hr e0 hb hv hs) fun r s' hq => ?_⟩
  cases r with
  | error e =>
    obtain ⟨a, B, H', cls, d, _, _, _, _, _, _, _, h⟩ := (show L2.CX P w outer H s E0 e s' from hq)
    exact h.elim
  | ok fl =>
    cases fl with
    | ret u => exact hq
    | _ => exact (show False from hq).elim
/-- the goal that k_head leaves, from the law's promise -/
theorem walk_X {l : PySem.W.OpenLaw} {n k : Nat} {q : Program} {loose : List Str} {XP : (Str → Option Value) → Heap → Prop} {YP : World → Heap → Prop} {d : DefRec} {K : Params → PySem.W.Frag} {sp : DSp} {x : Str}
    (hn : l.most = some n) (hn2 : n ≤ sizeLine) (hdf : d.params.defaults = []) (hr : Room k callerA)
    (hY : ∀ (w : World) (h : Heap), YP w h → (K w.params).In h)
    (F : ∀ (w : World) (mg : Str → Option Value) (fa : Addr) (h : Heap), (K w.params).In h → h.Ns mainGlobals mg → XP mg h → mg d.name = some (.ref fa) →
      ∃ fd : FuncData, (∀ (s : Shared) (u : Value), BindsTo s fd ⟨[u], []⟩ [(x, u)]) ∧
        ∀ base : Heap, (K w.params).In base → base.Ns mainGlobals mg → FnOk l.prog w (K w.params) mg base (L2.CX l.prog w) k fa fd [x] (lift (K w.params) mg sp))
    (hsp : ∀ ns : List Int, ns.length ≤ n → sp [.val (.list (ns.map PyData.int))] [] (fun r _ => r = .val (.bool true)) fun _ _ => False) :
    PySem.W.WalkO q loose XP YP l.row.toRowW d [] (fun f vs => PySem.call f vs) := by
  refine Att.attach_call hn hdf fun w s0 s1 mg mb fa o pm cd doc a vs ns G Y ho hd hcd hmg hobj hints hlen hg => ?_
  have KX := hY w _ Y
  obtain ⟨fd, hb, hF⟩ := F w mg fa _ KX G.T.g G.X hmg
  have hF := fun base (h1 : (K w.params).In base) h2 => FnOk.calm (hF base h1 h2)
  refine law_call KX G.T.g G.T.b G.T.builtins G.T.nolimit hg hobj hints (Nat.le_trans hlen hn2) hr hF hb (fun H hO hS => ?_) fun _ _ _ h => h.elim
  refine ⟨⟨H, []⟩, [.val (.list (ns.map PyData.int))], [], _, _, ⟨.lst hS (DpAll.ints ns), trivial⟩, ⟨Same.refl _, rfl, fun i o h => by simp at h, fun i j l oi oj h => by simp at h⟩, hsp ns hlen, fun r m' F' H' v S t rr e => ?_, fun x Cc dd m' F' H' S t hm he => he.elim⟩
  subst e
  cases (show Dp _ F'.f v (.bool true) from rr)
  rfl
end
end MM

namespace MM
open PySem PySem.Spec PyProof.Rows L2
/-! ### how a body is read -/
/-- one statement, then P -/
theorem seq_cut {g h : DTS} {D : DEnds} {δ : DSt} (P : DSt → Prop) (k : ∀ N : DSt → Prop, (∀ δ', P δ' → N δ') → g { D with nx := N } δ) (tail : ∀ δ', P δ' → h D δ') : dSeq g h D δ := k (h D) tail
/-- a loop over data; the guard is none -/
theorem forL_inv {g : DTG} {b : DTS} {D : DEnds} (P : List Ar → DSt → Prop)
    (step : ∀ d ds δ, P (d :: ds) δ → ∀ N : DSt → Prop, (∀ δ', P ds δ' → N δ') → g d δ fun δ1 => b { nx := N, ct := N, bk := D.nx, rt := D.rt } δ1)
    (fin : ∀ δ, P [] δ → D.nx δ) : ∀ its δ, P its δ → dForL g b none its D δ
  | [], δ, h => fin δ h
  | d :: ds, δ, h => step d ds δ h _ fun δ' h' => forL_inv P step fin ds δ' h'
/-- a loop over a list of the store, which is o all the while -/
theorem forS_inv {g : DTG} {b : DTS} {D : DEnds} {i : Nat} {o : Mo} (P : List Ar → DSt → Prop)
    (step : ∀ d ds δ, P (d :: ds) δ → ∀ N : DSt → Prop, (∀ δ', δ'.m[i]? = some o → P ds δ' → N δ') → g d δ fun δ1 => b { nx := N, ct := N, bk := D.nx, rt := D.rt } δ1)
    (fin : ∀ δ, P [] δ → D.nx δ) : ∀ its δ, P its δ → dForL g b (some (i, o)) its D δ
  | [], δ, h => fin δ h
  | d :: ds, δ, h => step d ds δ h _ fun δ' hg h' => ⟨hg, forS_inv P step fin ds δ' h'⟩
theorem rangeD_at {lo : Int} {n k : Nat} (h : k < (rangeD lo n).length) : (rangeD lo n)[k] = .val (.int (lo + (k : Nat))) := by
  have e : (rangeD lo n)[k]? = some (.val (.int (lo + (k : Nat)))) := by
    have hk : k < n := by
      have := h
      unfold rangeD at this
      simpa using this
    unfold rangeD
    rw [List.getElem?_map, List.getElem?_range hk]
    rfl
  rw [List.getElem?_eq_getElem h] at e
  exact Option.some.inj e
/-- over the ints from lo on, n of them; P by the number of turns that are done -/
theorem forR_inv {g : DTG} {b : DTS} {D : DEnds} (lo : Int) (n : Nat) (P : Nat → DSt → Prop)
    (step : ∀ (k : Nat) δ, k < n → P k δ → ∀ N : DSt → Prop, (∀ δ', P (k + 1) δ' → N δ') → g (.val (.int (lo + (k : Nat)))) δ fun δ1 => b { nx := N, ct := N, bk := D.nx, rt := D.rt } δ1)
    (fin : ∀ δ, P n δ → D.nx δ) {δ : DSt} (h : P 0 δ) : dForL g b none (rangeD lo n) D δ := by
  have key : ∀ m k δ, k + m = n → P k δ → dForL g b none ((rangeD lo n).drop k) D δ := by
    intro m
    induction m with
    | zero =>
      intro k δ e h
      have : (rangeD lo n).length ≤ k := by unfold rangeD; simp; omega
      rw [List.drop_eq_nil_of_le this]
      have e : k = n := by omega
      subst e
      exact fin δ h
    | succ m ih =>
      intro k δ e h
      have hk : k < n := by omega
      have hl : k < (rangeD lo n).length := by unfold rangeD; simp; exact hk
      rw [List.drop_eq_getElem_cons hl]
      have e2 : (rangeD lo n)[k] = .val (.int (lo + (k : Nat))) := rangeD_at hl
      rw [e2]
      exact step k δ hk h _ fun δ' h' => ih (k + 1) δ' (by omega) h'
  have := key n 0 δ (by omega) h
  rw [List.drop_zero] at this
  exact this
theorem while_inv {c : DTT} {b : DTS} {D : DEnds} (P : Nat → DSt → Prop)
    (step : ∀ n δ, P n δ → ∀ N : DSt → Prop, (∀ m δ', m < n → P m δ' → N δ') → c δ fun t δ1 => (t = true → b { nx := N, ct := N, bk := D.nx, rt := D.rt } δ1) ∧ (t = false → D.nx δ1))
    {n : Nat} {δ : DSt} (h : P n δ) : dWhile c b D δ := by
  have key : ∀ f n δ, n + 1 ≤ f → P n δ → dWhileN c b f D δ := by
    intro f
    induction f with
    | zero => intro n δ e _; omega
    | succ f ih => intro n δ e h; exact step n δ h _ fun m δ' hm h' => ih m δ' (by omega) h'
  exact ⟨n + 1, key _ n δ (Nat.le_refl _) h⟩
/-- a comprehension over data -/
theorem lcL_inv {g : DTG} {tt : DTT} {te : DTE} {vs : List Nat} {C : List PyData → DSt → Prop} (P : List Ar → List PyData → DSt → Prop)
    (step : ∀ d ds acc δ, P (d :: ds) acc δ → ∀ N : List PyData → DSt → Prop, (∀ acc' δ', P ds acc' δ' → N acc' δ') → g d (wipeD δ vs) fun δ2 => tt δ2 fun b δ3 => (b = true → te δ3 fun a δ4 => match a with
      | .val y => acc.length < sizeLine ∧ N (acc ++ [y]) (restD δ δ4 vs)
      | _ => False) ∧ (b = false → N acc (restD δ δ3 vs)))
    (fin : ∀ acc δ, P [] acc δ → C acc δ) : ∀ its acc δ, P its acc δ → dLcL g tt te vs none its acc δ C
  | [], acc, δ, h => fin acc δ h
  | d :: ds, acc, δ, h => step d ds acc δ h (fun acc' δ' => dLcL g tt te vs none ds acc' δ' C) fun acc' δ' h' => lcL_inv P step fin ds acc' δ' h'
theorem lcR_inv {g : DTG} {tt : DTT} {te : DTE} {vs : List Nat} {C : List PyData → DSt → Prop} (lo : Int) (n : Nat) (P : Nat → List PyData → DSt → Prop)
    (step : ∀ (k : Nat) acc δ, k < n → P k acc δ → ∀ N : List PyData → DSt → Prop, (∀ acc' δ', P (k + 1) acc' δ' → N acc' δ') → g (.val (.int (lo + (k : Nat)))) (wipeD δ vs) fun δ2 => tt δ2 fun b δ3 => (b = true → te δ3 fun a δ4 => match a with
      | .val y => acc.length < sizeLine ∧ N (acc ++ [y]) (restD δ δ4 vs)
      | _ => False) ∧ (b = false → N acc (restD δ δ3 vs)))
    (fin : ∀ acc δ, P n acc δ → C acc δ) {δ : DSt} (h : P 0 [] δ) : dLcL g tt te vs none (rangeD lo n) [] δ C := by
  have key : ∀ m k acc δ, k + m = n → P k acc δ → dLcL g tt te vs none ((rangeD lo n).drop k) acc δ C := by
    intro m
    induction m with
    | zero =>
      intro k acc δ e h
      have : (rangeD lo n).length ≤ k := by unfold rangeD; simp; omega
      rw [List.drop_eq_nil_of_le this]
      have e : k = n := by omega
      subst e
      exact fin acc δ h
    | succ m ih =>
      intro k acc δ e h
      have hk : k < n := by omega
      have hl : k < (rangeD lo n).length := by unfold rangeD; simp; exact hk
      rw [List.drop_eq_getElem_cons hl]
      have e2 : (rangeD lo n)[k] = .val (.int (lo + (k : Nat))) := rangeD_at hl
      rw [e2]
      exact step k acc δ hk h (fun acc' δ' => dLcL g tt te vs none ((rangeD lo n).drop (k + 1)) acc' δ' C) fun acc' δ' h' => ih (k + 1) acc' δ' (by omega) h'
  have := key n 0 [] δ (by omega) h
  rw [List.drop_zero] at this
  exact this
end MM

namespace MM
open PySem PySem.Spec PyProof.Rows L2
/-! ### enumerate(t), t a tuple -/
set_option maxHeartbeats 1000000 in
theorem meets_enum1 {v : Value} {o : Obj} {H : Heap → Prop} (B : Begins v o H) :
    Meets (Builtin.«enumerate.__new__» ⟨[.type "enumerate", v], []⟩) (fun _ R s => H s.heap ∧
      R (.ok (.ret (.ref (s.heap.push o).objs.size))) { s with heap := (s.heap.push o).push { cls := .type "enumerate", data := .fields #[.none, .bool false, .ref s.heap.objs.size, rawInt 0, .none, .none] } }) :=
  .of_wp fun prog w A R s h => by
    obtain ⟨hp, g, d, tk, os⟩ := s; obtain ⟨h1, h⟩ := h
    have hsub := sub_enumerate
    have q1 : ∀ {A' : Around} {E : Value → Shared → Prop} {Q : Value → Shared → Prop}, Q (.ref hp.objs.size) ⟨hp.push o, g, d, tk, os⟩ → wpAny (model prog w) A' (pyIter v) Q E ⟨hp, g, d, tk, os⟩ :=
      fun q => B.iter prog w _ _ ⟨hp, g, d, tk, os⟩ _ h1 q
    wp_walk
    refine wpAny_stack_any fun st => wpAny_pure ?_
    split
    · rename_i c _ _ _ _ _
      cases (c == Value.type "enumerate")
      · wp_walk using q1
        exact ⟨_, rfl, h⟩
      · wp_walk using q1
        exact ⟨_, rfl, h⟩
    · wp_walk using q1
      exact ⟨_, rfl, h⟩
theorem call_enum1 {prog : Program} {w : World} {A : Around} {E : Value → Shared → Prop} {s : Shared} {v : Value} {o : Obj} {H : Heap → Prop} {Q : Value → Shared → Prop} (B : Begins v o H) (h1 : H s.heap)
    (h : ∀ h', IsEnum h' (s.heap.objs.size + 1) s.heap.objs.size 0 .none → h'.get? s.heap.objs.size = some o → h'.objs.size = s.heap.objs.size + 2 →
      (∀ b o, s.heap.get? b = some o → h'.get? b = some o) → Q (.ref (s.heap.objs.size + 1)) { s with heap := h' }) :
    wpAny (model prog w) A (call (.type "enumerate") [v]) Q E s := by
  refine callType_new F.called_enumerate (by decide) (F.typeCall_enumerate_1 _) (F.newCall_enumerate_1 _) (fun obj => F.args_object_init_2 obj _) F.entry_enumerate_new
    (meets_enum1 B) ⟨h1, ?_⟩
  have hz : (s.heap.push o).objs.size = s.heap.objs.size + 1 := Heap.size_push ..
  show _ ∧ _
  rw [hz]
  have he : IsEnum ((s.heap.push o).push { cls := .type "enumerate", data := .fields #[.none, .bool false, .ref s.heap.objs.size, rawInt 0, .none, .none] }) (s.heap.objs.size + 1) s.heap.objs.size 0 .none := by
    have := Heap.get?_push_size (s.heap.push o) (o := { cls := .type "enumerate", data := .fields #[.none, .bool false, .ref s.heap.objs.size, rawInt 0, .none, .none] }) rfl
    rw [hz] at this; exact this
  refine ⟨⟨_, he, rfl⟩, h _ he (Heap.get?_push_of_some _ (Heap.get?_push_size _ B.free)) (by rw [Heap.size_push, hz]) fun b o x => Heap.get?_push_of_some _ (Heap.get?_push_of_some _ x)⟩
def IteT (K : PySem.W.Frag) (a : Addr) : It :=
  ⟨fun i H => ∃ (xs : List V) (x : V), SqT K H a xs ∧ xs[i]? = some x, fun i H v H' => ∃ T x, v = .ref T ∧ H T = none ∧ H' = upd H T (.tup [.int (i : Nat), x]) ∧ ∀ xs, SqT K H a xs → xs[i]? = some x, fun i H => ∃ xs : List V, SqT K H a xs ∧ xs.length ≤ i⟩
theorem turn_enumT {P : Program} {w : World} {K : PySem.W.Frag} {elts : List Expr} {kk : Nat} {tpos : Pos} (a e it : Addr) :
    Turn P w K (.Tuple elts kk tpos) (IteT K a) [e, it] e (fun i h => (∃ old, IsEnum h e it ((i : Nat) : Int) old) ∧ h.IsTupleIter it a i ∧ e ≠ it) where
  mem := by simp
  obj := fun i h st b hb => by
    obtain ⟨⟨old, he⟩, ⟨o, ho, hc, hd⟩, _⟩ := st
    have e' : b = e ∨ b = it := by simpa using hb
    rcases e' with z | z
    · rw [z]; exact ⟨_, he, fun v q => nomatch q⟩
    · rw [z]; exact ⟨o, ho, fun v q => by rw [hd] at q; cases q⟩
  keep := fun i h h' st k => let ⟨⟨old, he⟩, hi, hne⟩ := st; ⟨⟨old, k e (by simp) _ he⟩, hi.at fun o q => k it (by simp) o q, hne⟩
  item := by
    intro X hP hw hK hc i pins s σ H E I hf st hg
    subst hP hw hK
    obtain ⟨⟨old, he⟩, hit, hne⟩ := st
    obtain ⟨xs, x, hq, hx⟩ := hg
    obtain ⟨its, rv, p, hz⟩ := I.tuple hq
    obtain ⟨u, hu, ru⟩ := rv.get hx
    have hel : e < s.heap.objs.size := Heap.lt_size he
    have hil : it < s.heap.objs.size := by obtain ⟨_, q, _⟩ := hit; exact Heap.lt_size q
    have pt : s.heap.IsTuple a its.toArray := p
    obtain ⟨oa, ha, hca, _⟩ := id pt
    have nai : a ≠ it := fun z => by
      obtain ⟨o, ho, hc2, _⟩ := id hit
      rw [← z, ha] at ho
      cases ho
      rw [hca] at hc2; simp at hc2
    have nae : e ≠ a := fun z => by
      have he2 : s.heap.get? e = _ := he
      rw [z, ha] at he2
      cases he2
      simp at hca
    have hi : i < its.toArray.size := by
      rw [List.size_toArray]
      exact (List.getElem?_eq_some_iff.mp hu).1
    refine wpAny_pyNext_enum_itemD (Draws.tuple (prog := X.prog) (w := X.w) (A := X.A.in1) (I.ok.hd hc) it a nai its.toArray) he ⟨hit, pt⟩ hi hne (by simp [hne, nae]) fun x2 h' tk hP ho hSt hT hsz hk => ?_
    obtain ⟨hit', _⟩ := hSt
    have e2 : x2 = u := by
      have hP : its.toArray[i]? = some x2 := hP
      rw [show its.toArray[i]? = some u by simpa using hu] at hP
      exact (Option.some.inj hP).symm
    subst e2
    refine ⟨_, rfl, wpAny_letOwnedTupleGo_enum (s := { s with heap := h', toks := tk + 1 }) ho fun h'' he' sb => ?_⟩
    have hT2 : h''.get? s.heap.objs.size = some { cls := .type "tuple", data := .seq #[.int i tk, x2] } := (sb.2 _ (Nat.ne_of_gt hel)).trans hT
    have new : ObjOk X.prog X.w (upd H s.heap.objs.size (.tup [.int (i : Nat), x])) h'' s.heap.objs.size (.tup [.int (i : Nat), x]) :=
      ⟨by show 2 ≤ sizeLine; decide, [.int i tk, x2], .cons ⟨_, rfl⟩ (.cons ru .nil), ⟨_, hT2, rfl, _, rfl⟩⟩
    have I1 : Inv X pins σ (upd H s.heap.objs.size (.tup [.int (i : Nat), x])) { s with heap := h'', toks := tk + 1 } :=
      I.turnedNew (ch := [e, it]) (fun b ob hb q => (sb.2 b (fun z => hb (by simp [z]))).trans (hk b ob (fun z => hb (by simp [z])) (fun z => hb (by simp [z])) q)) hf (Nat.le_refl _) new
    refine ⟨.ref s.heap.objs.size, _, I1, rfl, ⟨_, x, rfl, I.hok.fresh (Nat.le_refl _), rfl, fun ys hy => by rw [I.tuple_inj hy hq]; exact hx⟩, ⟨⟨x2, ?_⟩, hit'.at fun o q => (sb.2 it (Ne.symm hne)).trans q, hne⟩, fun b hb => ?_⟩
    · have e1 : ((i + 1 : Nat) : Int) = (i : Int) + 1 := by omega
      rw [e1]; exact he'
    · have hb' : b < s.heap.objs.size := by
        have e' : b = e ∨ b = it := by simpa using hb
        rcases e' with z | z
        · rw [z]; exact hel
        · rw [z]; exact hil
      rw [upd_ne (Nat.ne_of_lt hb')]
      exact (hf b hb).1
  done := by
    intro X hP hw hK hc i pins s σ H E I hf st hg
    subst hP hw hK
    obtain ⟨⟨old, he⟩, hit, hne⟩ := st
    obtain ⟨xs, hq, hx⟩ := hg
    obtain ⟨its, rv, p, hz⟩ := I.tuple hq
    obtain ⟨f0, f1, f2, f3, f4, f5⟩ := hf it (by simp)
    have hl := rv.length
    have hT : s.TypeIs (.ref e) "enumerate" := ⟨_, he, rfl⟩
    unfold pyNext
    refine wpAny_bind (wpAny_attempt (wpAny_callSpecial?_slot (name := Str.ofString "__next__") hT F.slot_enumerate_next
      (wpAny_call_entry F.slot_enumerate_next hT F.entry_enumerate_next ?_ (F.args_enumerate_next_1 _))))
    show wpAny _ _ (field (.ref e) 2 >>= _) _ _ _
    refine wpAny_bind (wpAny_field he rfl (x := .ref it) rfl ?_)
    refine wpAny_bind (RZ.nextOf_tuple_end (I.ok.hd hc) hit (show s.heap.IsTuple a its.toArray from p) (by simp; omega) fun h' x he' hx' => ?_)
    obtain ⟨o, ho, hc2⟩ := hx'
    refine wpAny_bind (wpAny_isInstance (T := "StopIteration") (b := true) ⟨o, ho, hc2⟩ isSubtype_stop ?_)
    exact wpAny_pure ⟨rfl, I.turned (t' := s.toks) (fun b o hb q => he' b o hb q) f0 f1 f3 f4 f5⟩
  self := fun A i s Q E st h => let ⟨⟨_, he⟩, _⟩ := st; wpAny_pyIter_enum he h
def iEnumT (K : PySem.W.Frag) (ta : TA) : TI := fun σ H R => ta σ H fun vs H1 => ∃ a xs, vs = [.ref a] ∧ SqT K H1 a xs ∧ R (IteT K a) H1
theorem pi_enumT {X : Cx} {e : Expr} {ta : TA} {p pos tpos : Pos} {elts : List Expr} {kk : Nat} (hg : Gl X "enumerate") (hm : X.mg "enumerate" = none) (ha : PA X [e] ta) (hs : starEach [e] X.env = [(false, eval e X.env)] := by rfl) :
    PI X (.Tuple elts kk tpos) (.Call (.Name "enumerate" p) [e] [] pos) (iEnumT X.K ta) := by
  refine ⟨fun pins s σ H R I h => ?_⟩
  refine Call_ (ld_blt I hg hm boot_enumerate (PyProof.Rows.callWith_type1 (thn (ha.run pos pins s σ H _ I h) fun us s1 ⟨vs, H1, I1, r1, q1⟩ => ?_) hs rfl))
  obtain ⟨a, xs, ex, hq, q⟩ := q1
  subst ex
  cases r1 with
  | cons r rr =>
    cases rr
    cases r
    obtain ⟨its, rv, p', hz⟩ := I1.tuple hq
    refine call_enum1 (begins_tuple a its.toArray) (show s1.heap.IsTuple a its.toArray from p') fun h' he hit hsz hk => wpAny_pyIter_enum he ?_
    have I2 : Inv X pins σ H1 { s1 with heap := h' } := I1.kept (t' := s1.toks) hk
    refine ⟨s1.heap.objs.size + 1, [s1.heap.objs.size + 1, s1.heap.objs.size], _, _, H1, rfl, I2, turn_enumT a (s1.heap.objs.size + 1) s1.heap.objs.size, ⟨⟨.none, he⟩, ⟨_, hit, rfl, rfl⟩, Nat.succ_ne_self _⟩, fun b hb => ?_, q⟩
    have e' : b = s1.heap.objs.size + 1 ∨ b = s1.heap.objs.size := by simpa using hb
    have hle : s1.heap.objs.size ≤ b := by
      rcases e' with z | z
      · rw [z]; exact Nat.le_add_right _ _
      · rw [z]; exact Nat.le_refl _
    exact I1.fpOk hle (I1.hok.fresh hle)
section
variable {W : WX} {E : EW} {mg : Str → Option Value} {X : Cx} {K : PySem.W.Frag} {F : Fg} {H : Hp} {σ : L2.St} {δ : DSt} {pos : Pos}
/-- pairs of places and items -/
def enumD (n : Nat) : List PyData → List Ar
  | [] => []
  | x :: xs => .val (.tuple [.int (n : Nat), x]) :: enumD (n + 1) xs
theorem enumD_len : ∀ (xs : List PyData) (n : Nat), (enumD n xs).length = xs.length
  | [], _ => rfl
  | x :: xs, n => by unfold enumD; rw [List.length_cons, enumD_len xs, List.length_cons]
theorem enumD_get : ∀ (xs : List PyData) (n i : Nat) (d : Ar), (enumD n xs)[i]? = some d → ∃ x, xs[i]? = some x ∧ d = .val (.tuple [.int ((n + i : Nat) : Int), x])
  | [], n, i, d, h => by simp [enumD] at h
  | x :: xs, n, 0, d, h => by
    unfold enumD at h
    simp at h
    exact ⟨x, rfl, h.symm⟩
  | x :: xs, n, i + 1, d, h => by
    unfold enumD at h
    rw [List.getElem?_cons_succ] at h
    obtain ⟨y, h1, h2⟩ := enumD_get xs (n + 1) i d h
    exact ⟨y, by rw [List.getElem?_cons_succ]; exact h1, by rw [h2]; congr 4; omega⟩
theorem iter_enumT {a : Addr} {vs : List V} {xs : List PyData} (h : SqT K F.f a vs) (hA : DpAll K F.f vs xs) : IterRep W E K mg F H (IteT K a) (enumD 0 xs) none := by
  intro F' σ δ H1 R t _ i
  have hH : SqT K H1 a vs := seqT R.sto.sub (seqT t.ext h)
  refine ⟨fun hi => ⟨vs, hH, by rw [hA.length]; rw [enumD_len] at hi; exact hi⟩, fun d hd => ?_⟩
  obtain ⟨y, hy, rfl⟩ := enumD_get xs 0 i d hd
  obtain ⟨v, hv, dv⟩ := hA.get hy
  refine ⟨⟨vs, v, hH, hv⟩, fun x H' hy => ?_⟩
  obtain ⟨T, z, rfl, nT, rfl, hy⟩ := hy
  have ex : z = v := Option.some.inj ((hy _ hH).symm.trans hv)
  subst ex
  obtain ⟨R2, s2⟩ := R.alloc (o := .tup [.int (i : Nat), z]) nT
  refine ⟨_, R2, s2, ?_⟩
  have e0 : ((0 + i : Nat) : Int) = (i : Nat) := by rw [Nat.zero_add]
  rw [e0]
  exact Dp.tup (SqT.of upd_same) (.cons (.int _) (.cons (Dp.mono s2.ext _ _ (Dp.mono t.ext _ _ dv)) .nil))
def dEnumT (f : DTE) : DTI := fun δ C => f δ fun a δ1 => match a with
  | .val (.tuple xs) => C (enumD 0 xs) none δ1
  | _ => False
theorem pdi_enumT {e : Expr} {f : DTE} {p tpos : Pos} {elts : List Expr} {kk : Nat} (hg : Gl X "enumerate") (hm : X.mg "enumerate" = none) (h : PD W E X e f) (hs : starEach [e] X.env = [(false, eval e X.env)] := by rfl) :
    PDI W E X (.Tuple elts kk tpos) (.Call (.Name "enumerate" p) [e] [] pos) (dEnumT f) := by
  obtain ⟨te, p, q⟩ := h
  refine ⟨_, pi_enumT hg hm (pa_cons p pa_nil hs) hs, fun {F σ δ H R C} RR c k => ?_⟩
  refine q RR c fun a δ1 F1 H1 v R1 s1 r1 c1 => ?_
  split at c1
  · rename_i xs
    cases (show Dp X.K F1.f v (.tuple xs) from r1) with
    | tup h1 a1 => exact ⟨_, _, rfl, seqT R1.sto.sub h1, k _ _ _ _ _ _ R1 s1 (iter_enumT h1 a1) trivial c1⟩
  · exact c1.elim
/-! ### an item of a module's dict -/
def dTabIx (tab : Str → Option PyData) (f : DTE) : DTE := fun δ C => f δ fun a δ1 => match a with
  | .val (.str z) => match tab z with
    | some y => C (.val y) δ1
    | none => False
  | _ => False
theorem ix_kd {d : Addr} {es : Array DictEntry} {n : Nat} (D : KDict X.K X.w d es n) : IxR X (fun x y H Q => ∃ (z : Str) (u0 : Value) (v0 : V), x = .ref d ∧ y = .str z ∧ PySem.W.nsIn X.K d z = some (some u0) ∧ RelV v0 u0 ∧ Q v0 H) := by
  intro value slice pins s σ H x y v u Q I rx ry h hs
  obtain ⟨z, u0, v0, rfl, rfl, e, r, q⟩ := h
  cases rx
  obtain ⟨t, rfl⟩ := ry
  exact tail_any (kd_type D I) PySem.F.slot_dict_getitem.lookup (wpAny_getItem_of (PySem.strKind_is X.prog X.w z t) (PySem.W.mapOf_K (prog := X.prog) I.kIn D.at_ D.lit) (PySem.W.find_K D.at_ e) ⟨v0, H, I.tok _, r, q⟩) hs
theorem pd_tabIx {x : Str} {a : Expr} {p2 : Pos} {tab : Str → Option PyData} {f : DTE} (T : TabF X.K X.w X.mg x tab) (hg : Gl X x) (ha : PD W E X a f) (hd : (x == ("__debug__" : Str)) = false := by decide) (hs : PlainIx a := by exact fun _ _ => rfl) : PD W E X (.Subscript (.Name x p2) a pos) (dTabIx tab f) := by
  obtain ⟨te, p, q⟩ := ha
  obtain ⟨d, es, n, t1, t2, t3⟩ := T
  refine ⟨_, pe_ix (ix_kd t2) (pe_glob (v := .ref d) hg t1 rfl hd) p hs, fun {F σ δ H Q C} R c k => ?_⟩
  refine q R c fun a δ1 F1 H1 v R1 s1 r1 c1 => ?_
  split at c1
  · rename_i z
    cases (show Dp X.K F1.f v (.str z) from r1)
    have t := t3 z
    split at c1
    · rename_i y hz
      rw [hz] at t
      obtain ⟨u, v, e1, e2, e3⟩ := t
      exact ⟨z, u, v, rfl, rfl, e1, e2, k (.val y) _ _ _ _ R1 s1 (e3 _) c1⟩
    · exact c1.elim
  · exact c1.elim
/-! ### d.get(k, e), d a module's dict -/
def dTabGet (tab : Str → Option PyData) (f g : DTE) : DTE := fun δ C => f δ fun a δ1 => match a with
  | .val (.str z) => g δ1 fun b δ2 => match tab z with
    | some y => C (.val y) δ2
    | none => C b δ2
  | _ => False
theorem pd_tabGet {x : Str} {e g : Expr} {p2 apos cpos : Pos} {tab : Str → Option PyData} {f h : DTE} (T : TabF X.K X.w X.mg x tab) (hg : Gl X x) (he : PD W E X e f) (hh : PD W E X g h) (m : M2 X (.Name x p2) "get" apos e g cpos) (hd : (x == ("__debug__" : Str)) = false := by decide) : PD W E X (.Call (.Attribute (.Name x p2) "get" apos) [e, g] [] cpos) (dTabGet tab f h) := by
  obtain ⟨te, p, q⟩ := he
  obtain ⟨th, ph, qh⟩ := hh
  obtain ⟨d, es, n, t1, t2, t3⟩ := T
  refine ⟨fun σ H Q => te σ H fun y H1 => th σ H1 fun u H2 => ∃ z : Str, y = .str z ∧ match tab z with
    | some y => ∀ v, (∀ G, Dp X.K G v y) → (∃ w, PySem.W.nsIn X.K d z = some (some w) ∧ RelV v w) → Q v H2
    | none => Q u H2, ⟨fun pins s σ H Q I hq => ?_⟩, fun {F σ δ H Q C} R c k => ?_⟩
  · have o : PE X (.Name x p2) (tC (.ref d)) := pe_glob (v := .ref d) hg t1 rfl hd
    refine wpAny_Call_method m.base m.few m.line PySem.F.plainAttrs_dict PySem.F.slot_dict_get PySem.F.type_dict_get (thn (o.run pins s σ H (fun v H1 => v = .ref d ∧ H1 = H) I ⟨rfl, rfl⟩) fun u s1 ⟨x1, H1, I1, rx, ex, eH⟩ => ?_)
    subst ex eH
    obtain rfl : u = Value.ref d := rx
    refine ⟨kd_type t2 I1, fun b e => by cases e; exact ⟨_, I1.kIn _ _ t2.at_, rfl⟩, ?_⟩
    rw [m.trees]
    refine Calls.callWith_builtin rfl (Calls.evalArgs_plain (Calls.spliced_cons (thn (p.run pins s1 σ H1 _ I1 hq) fun iv s2 ⟨y, H2, I2, ry, q2⟩ =>
      Calls.spliced_cons (thn (ph.run pins s2 σ H2 _ I2 q2) fun fv s3 ⟨z, H3, I3, rz, zz, ez, q3⟩ => Calls.spliced_nil ?_))))
    subst ez
    obtain ⟨t, rfl⟩ := ry
    have mo := PySem.W.mapOf_K (prog := X.prog) (w := X.w) I3.kIn t2.at_ t2.lit
    refine call_meetsIn PySem.F.slot_dict_get mo.typeIs PySem.F.entry_dict_get (PySem.F.args_dict_get_3 _ _ _) (meets_dict_get_default (PySem.strKind X.prog X.w) d (PySem.strKind_is X.prog X.w zz t) t2.low fv) ⟨_, mo, ?_⟩
    have tt := t3 zz
    cases hz : tab zz with
    | none =>
      rw [hz] at tt q3
      rw [PySem.W.find_K t2.at_ tt]
      exact ⟨z, H3, I3.tok _, rz, q3⟩
    | some y =>
      rw [hz] at tt q3
      obtain ⟨u, v, e1, e2, e3⟩ := tt
      rw [PySem.W.find_K t2.at_ e1]
      exact ⟨v, H3, I3.tok _, e2, q3 v e3 ⟨u, e1, e2⟩⟩
  · refine q R c fun a δ1 F1 H1 v R1 s1 r1 c1 => ?_
    split at c1
    · rename_i z
      cases (show Dp X.K F1.f v (.str z) from r1)
      refine qh R1 c1 fun b δ2 F2 H2 w R2 s2 r2 c2 => ⟨z, rfl, ?_⟩
      cases hz : tab z with
      | none =>
        rw [hz] at c2
        exact k b _ _ _ _ R2 (s1.trans s2) r2 c2
      | some y =>
        rw [hz] at c2
        exact fun v hv _ => k (.val y) _ _ _ v R2 (s1.trans s2) (hv _) c2
    · exact c1.elim
end
end MM

namespace L2
open PySem PySem.Spec PyProof.Rows
section
variable {X : Cx}
theorem op_repR : OpR X (binaryOp .Mult) (fun x y H Q => ∃ l k xs, x = .ref l ∧ y = .int k ∧ Rd H l (.lst xs) ∧ -(2 ^ 63) ≤ k ∧ k < 2 ^ 63 ∧ xs.length * k.toNat ≤ sizeLine ∧
  ∀ p, H p = none → Q (.ref p) (upd H p (.lst (List.replicate k.toNat xs).flatten))) := by
  intro pins s σ H x y v u Q I rx ry h
  obtain ⟨l, k, xs, rfl, rfl, hH, h1, h2, hz, q⟩ := h
  cases rx
  obtain ⟨t, rfl⟩ := ry
  obtain ⟨z, its, n, r, hl, e⟩ := MM.lstR I hH
  have hlen : its.toArray.size * k.toNat ≤ sizeLine := by rw [List.size_toArray, ← hl]; exact hz
  have hcap : ¬ its.toArray.size * k.toNat > (2 ^ 63 - 1) / 8 := by
    have : (sizeLine : Nat) ≤ (2 ^ 63 - 1) / 8 := by decide
    omega
  have hfit : ¬ (!Builtin.List.listFitsIndex k) = true := by
    rw [fitsIndex_both h1 h2]
    exact Bool.false_ne_true
  have hlong : ¬ Builtin.List.listTooLong (its.toArray.size * k.toNat) = true := by
    rw [notLongL hlen]
    exact Bool.false_ne_true
  have hnew : List.foldl (fun x1 x2 => x1 ++ x2) #[] (List.replicate (if its.toArray.isEmpty = true then 0 else k.toNat) its.toArray) = (List.replicate k.toNat its).flatten.toArray := by
    have f0 : ∀ m : Nat, List.foldl (fun x1 x2 => x1 ++ x2) #[] (List.replicate m its.toArray) = (List.replicate m its).flatten.toArray := fun m => by
      have := foldl_rep its m []
      rw [List.nil_append] at this
      exact this
    rw [f0]
    cases its with
    | nil => simp
    | cons a r' => rw [if_neg (by simp)]
  refine wpAny_binaryOp_repeat_ref (T := "list") (U := "int") (by decide) ⟨_, e, rfl⟩ (fun s' => typeIs_int s' k t) noFill_list_mul F.fills_int_mul F.slot_int_rmul repeat_list F.slot_int_index.lookup
    (call_meets F.slot_int_rmul (typeIs_int s k t) F.entry_int_rmul (F.args_int_rmul_2 _ _) (int___rmul___int_list k t l its.toArray n)
      ⟨e, rfl, ⟨_, e, rfl⟩, call_meets F.slot_list_mul ⟨_, e, rfl⟩ F.entry_list_mul (F.args_list_mul_2 _ _) (AutoListH.list___mul___list_int_3 l its.toArray n k t hfit hcap hlong) ⟨e, ?_⟩⟩)
  rw [hnew]
  exact ⟨.ref _, _, I.lnew (t' := s.toks) (r.rep k.toNat) (by rw [PyProof.Rows.lm_len_rep_flat, Nat.mul_comm]; exact hz), rfl, q _ I.fresh⟩
end
end L2
namespace MM
open PySem PySem.Spec PyProof.Rows L2
theorem repD {K : PySem.W.Frag} {G : Hp} {vs : List V} {ds : List PyData} (h : DpAll K G vs ds) : ∀ n : Nat, DpAll K G (List.replicate n vs).flatten (List.replicate n ds).flatten
  | 0 => .nil
  | n + 1 => by
    rw [List.replicate_succ, List.replicate_succ, List.flatten_cons, List.flatten_cons]
    exact h.append (repD h n)
def aMulL : DOp := fun d e C => match d, e with
  | .list xs, .int n => -(2 ^ 63) ≤ n ∧ n < 2 ^ 63 ∧ xs.length * n.toNat ≤ sizeLine ∧ C (.list (List.replicate n.toNat xs).flatten)
  | d, e => aMul d e C
section
variable {W : WX} {E : EW} {X : Cx}
theorem od_mulL (nl : noListB X.K = true) : OpD W E X (binaryOp .Mult) aMulL := by
  obtain ⟨r', o1, o2⟩ := od_mul (W := W) (E := E) (X := X)
  refine ⟨_, DD.OpR.or op_repR o1, fun {F σ δ H x y d e Q C} R hx hy c k => ?_⟩
  unfold aMulL at c
  split at c
  · cases hx with
    | lst h1 a1 =>
      cases hy
      refine .inl ⟨_, _, _, rfl, rfl, rd_of nl (R.sto.sub.seq h1), c.1, c.2.1, by rw [a1.length]; exact c.2.2.1, fun p np => ?_⟩
      obtain ⟨R2, s2⟩ := R.alloc (o := .lst _) np
      exact k _ _ _ _ R2 s2 (.lst (SqL.of upd_same) (Dp.monoAll s2.ext _ _ (repD a1 _))) c.2.2.2
  · exact .inr (o2 R hx hy c k)
end
end MM

namespace MM
open PySem PySem.Spec PyProof.Rows L2
section
variable {W : WX} {E : EW} {X : Cx}
def mWords : DMt := fun _ z as C => match as with
  | [] => z.length + 2 ≤ sizeLine ∧ C (.list ((Txt.words z).map PyData.str))
  | _ => False
theorem md_words : MethD W E X "str.split" mWords := by
  refine ⟨_, mt_words, fun {F σ δ H z vs as Q C} R r c k => ?_⟩
  unfold mWords at c
  split at c
  · cases vs with
    | cons _ _ => exact r.elim
    | nil =>
      refine ⟨_, rfl, rfl, c.1, fun p np => ?_⟩
      obtain ⟨R2, s2⟩ := R.alloc (o := .lst ((Txt.words z).map V.str)) np
      exact k _ _ _ _ R2 s2 (.lst (SqL.of upd_same) (DpAll.strs _)) c.2
  · exact c.elim
end
end MM

namespace MM
open PySem PySem.Spec PyProof.Rows L2
section
variable {P : Program} {w : World} {K : PySem.W.Frag} {mg : Str → Option Value} {base : Heap}
/-- a promise that is never asked for -/
theorem ok_zero {x : Str} {st : Stmt} {ps : List Str} {k : Nat} {d : DSp} (D : DD.DefAt K mg x st)
    (hb : ∀ (kV doc pm : Value) (an : Option Addr) (cdv ct : Value) (us : List Value), us.length = ps.length → bindArgs (PySem.W.fnOf x x (defArgs st) (defBody st) (defScope st) .none kV doc pm an cdv ct) ⟨us, []⟩ = pure (ps.zip us))
    (no : ∀ as m C Ex, ¬ d as m C Ex) : Ok P w K mg base x k ps d := by
  obtain ⟨f, fd, hm, F⟩ := D
  have nl : ∀ vs H Q E, ¬ lift K mg d vs H Q E := fun vs H Q E h => by
    obtain ⟨_, as, m, C, Ex, _, _, hd, _⟩ := h
    exact no as m C Ex hd
  exact ⟨f, fd, hm, F.kp, F.binds hb, ⟨fun vs H Q E h => absurd h (nl vs H Q E), fun A outer s H args us vs Q E _ _ _ _ h => absurd h (nl vs H Q E)⟩⟩
theorem okk_zero {x : Str} {st : Stmt} {ps : List Str} {k : Nat} {d : DSp} (D : DD.DefAt K mg x st)
    (hb : ∀ (kV doc pm : Value) (an : Option Addr) (cdv ct : Value) (us : List Value), us.length = ps.length → bindArgs (PySem.W.fnOf x x (defArgs st) (defBody st) (defScope st) .none kV doc pm an cdv ct) ⟨[], ps.zip us⟩ = pure (ps.zip us))
    (no : ∀ as m C Ex, ¬ d as m C Ex) : OkK P w K mg base x k ps d := by
  obtain ⟨f, fd, hm, F⟩ := D
  have nl : ∀ vs H Q E, ¬ lift K mg d vs H Q E := fun vs H Q E h => by
    obtain ⟨_, as, m, C, Ex, _, _, hd, _⟩ := h
    exact no as m C Ex hd
  obtain ⟨oc, od, kV, doc, pm, an, cdv, ct, osl, rfl, lk, hcd⟩ := F.ex
  exact ⟨f, _, hm, F.kp, fun s us _ hl => .of_eq (hb kV doc pm an cdv ct us hl), ⟨fun vs H Q E h => absurd h (nl vs H Q E), fun A outer s H args us vs Q E _ _ _ _ h => absurd h (nl vs H Q E)⟩⟩
/-- the entries of a module's dict, by key -/
theorem ents_find {z : Str} : ∀ {es : List DictEntry} {l : List (Str × PyData)}, es.map (fun e => (He.keyOf e).map Prod.fst) = l.map (fun p => some p.1) → es.map (fun e => DD.datIn K 6 e.val) = l.map (fun p => some p.2) →
    match l.lookup z with
    | some y => ∃ e, es.find? (·.key.isStr z) = some e ∧ DD.datIn K 6 e.val = some y
    | none => es.find? (·.key.isStr z) = none ∧ es.any (·.refKey) = false
  | [], [], _, _ => ⟨rfl, rfl⟩
  | [], _ :: _, h, _ => nomatch h
  | _ :: _, [], h, _ => nomatch h
  | e :: es, p :: l, h1, h2 => by
    injection h1 with a1 b1
    injection h2 with a2 b2
    have ih := ents_find (z := z) b1 b2
    obtain ⟨t, ek⟩ : ∃ t, e.key = .str p.1 t := by
      unfold He.keyOf at a1
      dsimp only at a1
      split at a1
      · rename_i x t q
        cases a1
        exact ⟨t, q⟩
      · cases a1
    obtain ⟨k, y⟩ := p
    have hr : e.refKey = false := by unfold DictEntry.refKey; rw [ek]
    rw [List.lookup_cons]
    by_cases q : z = k
    · subst q
      rw [beq_self_eq_true]
      refine ⟨e, ?_, a2⟩
      rw [List.find?_cons_of_pos (by rw [ek]; simp [Value.isStr])]
    · have hq : (z == k) = false := by simpa using q
      rw [hq]
      have hf : (e :: es).find? (·.key.isStr z) = es.find? (·.key.isStr z) := by
        rw [List.find?_cons_of_neg]
        rw [ek]
        have q2 : ¬ k = z := fun e => q e.symm
        simp [Value.isStr, q2]
      simp only [hf, List.any_cons, hr, Bool.false_or]
      exact ih
theorem tab_mk {x : Str} {h : Heap} {d : Addr} {es : Array DictEntry} {n : Nat} {l : List (Str × PyData)} (X : K.In h) (G : h.Ns mainGlobals mg) (a : PySem.W.nsIn K mainGlobals x = some (some (.ref d)))
    (hl : K.lookup d = some ⟨.type "dict", none, .dict es n, #[]⟩) (lo : (d == sysModules) = false) (hk : es.toList.map He.keyOf = He.keysIn w.params (l.map Prod.fst)) (hv : es.toList.map (fun e => DD.datIn K 6 e.val) = l.map (fun p => some p.2)) :
    TabF K w mg x (fun z => l.lookup z) := by
  refine ⟨d, es, n, PySem.W.mg_of X G a, ⟨hl, He.keysLit_of hk, lo⟩, fun z => ?_⟩
  have hk2 : es.toList.map (fun e => (He.keyOf e).map Prod.fst) = l.map (fun p => some p.1) := by
    have := congrArg (List.map (Option.map Prod.fst)) hk
    simpa [He.keysIn, List.map_map, Function.comp_def] using this
  have key := ents_find (z := z) hk2 hv
  have hns : PySem.W.nsIn K d z = (match es.toList.find? (·.key.isStr z) with
      | some e => some (some e.val)
      | none => if es.toList.any (·.refKey) then none else some none) := by
    unfold PySem.W.nsIn
    rw [hl]
    rfl
  show match l.lookup z with
    | some y => _
    | none => _
  cases q : l.lookup z with
  | none =>
    rw [q] at key
    obtain ⟨k1, k2⟩ := key
    show PySem.W.nsIn K d z = some none
    rw [hns, k1]
    show (if es.toList.any (·.refKey) then none else some none) = some none
    rw [k2]
    rfl
  | some y =>
    rw [q] at key
    obtain ⟨e, k1, k2⟩ := key
    obtain ⟨v, r, dv⟩ := DD.datIn_ok 6 e.val y k2
    exact ⟨e.val, v, by rw [hns, k1], r, dv⟩
theorem fld_mk {c f : Str} {h : Heap} {C : Addr} (X : K.In h) (G : h.Ns mainGlobals mg) (a : PySem.W.nsIn K mainGlobals c = some (some (.ref C))) (hc : Cls K C) (n : PySem.W.findIn K (.ref C) f = some none) : FldF K mg c f := ⟨C, PySem.W.mg_of X G a, hc, n⟩
theorem methAt_mk {c m qual : Str} {st : Stmt} {h : Heap} {C f : Addr} {oc : Value} {od an : Option Addr} {osl : Array (Option Value)} {kV doc pm cdv ct : Value} (X : K.In h) (G : h.Ns mainGlobals mg) (a : PySem.W.nsIn K mainGlobals c = some (some (.ref C))) (hc : Cls K C)
    (at_ : PySem.W.findIn K (.ref C) m = some (some (.ref f))) (fn : PySem.W.isFn K (.ref f) = true) (l : K.lookup f = some ⟨oc, od, .func (PySem.W.fnOf m qual (defArgs st) (defBody st) (defScope st) .none kV doc pm an cdv ct), osl⟩)
    (cd : PySem.W.codeIn K cdv qual = true) (k : PySem.W.keepIn K (.ref f) = true) : MethAt K mg c m qual st := ⟨C, f, _, PySem.W.mg_of X G a, hc, ⟨at_, fn, k⟩, fun_mk l cd k⟩
theorem initAt_mk {c qual : Str} {st : Stmt} {h : Heap} {C f : Addr} {oc : Value} {od an : Option Addr} {osl : Array (Option Value)} {kV doc pm cdv ct : Value} (X : K.In h) (G : h.Ns mainGlobals mg) (a : PySem.W.nsIn K mainGlobals c = some (some (.ref C))) (mk : PySem.W.makesIn K C = true)
    (at_ : PySem.W.findIn K (.ref C) "__init__" = some (some (.ref f))) (fn : PySem.W.isFn K (.ref f) = true) (kC : PySem.W.keepIn K (.ref C) = true) (l : K.lookup f = some ⟨oc, od, .func (PySem.W.fnOf "__init__" qual (defArgs st) (defBody st) (defScope st) .none kV doc pm an cdv ct), osl⟩)
    (cd : PySem.W.codeIn K cdv qual = true) (k : PySem.W.keepIn K (.ref f) = true) : InitAt K mg c qual st := ⟨C, f, _, PySem.W.mg_of X G a, ⟨mk, at_, fn, kC⟩, fun_mk l cd k⟩
/-- a constant that is frozen data -/
theorem con_mk {c : Str} {v : Value} {n : Nat} {d : PyData} (hm : mg c = some v) (h : DD.datIn K n v = some d) (hd : (c == ("__debug__" : Str)) = false := by decide) :
    ∀ {W : WX} {E : EW} {X : Cx} {pos : Pos}, X.K = K → X.mg = mg → Gl X c → PD W E X (.Name c pos) (dC d) := by
  intro W E X pos hK hmg hg
  obtain ⟨x, r, dx⟩ := DD.datIn_ok n v d h
  subst hK hmg
  exact pd_c (v := x) (pe_glob hg hm r hd) dx
end
end MM

namespace K16
open PySem PySem.Spec PyProof.Rows L2 MM
/-! ### the text by its places -/
def topS (i : Nat) : Stmt := PySem.Challenge.pw_asiffresh_k16_trees_of_items.main.body.getD i (.Pass ⟨0, 0, 0, 0⟩)
abbrev s__law_draw : Stmt := topS 9
abbrev s__law_next : Stmt := topS 10
abbrev s__law_pick : Stmt := topS 11
abbrev s__law_small : Stmt := topS 12
abbrev s__law_great : Stmt := topS 13
abbrev s__law_module : Stmt := topS 14
abbrev s__law_of : Stmt := topS 18
abbrev s__law_maybe_of : Stmt := topS 19
abbrev s__law_form : Stmt := topS 15
abbrev s__law_told : Stmt := topS 17
abbrev s__law_tolds : Stmt := topS 16
abbrev s__law_item : Stmt := topS 20
abbrev s__law_same : Stmt := topS 30
abbrev s__law_tokens : Stmt := topS 29
abbrev s_ItemWalk__m___init__ : Stmt := inClass (topS 6) 0
abbrev s_ItemWalk__m_expand : Stmt := inClass (topS 6) 2
abbrev s_ItemWalk__m_act : Stmt := inClass (topS 6) 3
abbrev s_ItemWalk__m_meet : Stmt := inClass (topS 6) 1
abbrev s_ItemWalk__m_take : Stmt := inClass (topS 6) 4
abbrev s_terminal : Stmt := topS 5
abbrev s_read_item : Stmt := topS 7
abbrev s__law_dotted : Stmt := topS 22
abbrev s__law_with_of : Stmt := topS 27
abbrev s__law_between : Stmt := topS 21
abbrev s__law_in_brackets : Stmt := topS 23
abbrev s__law_form_row : Stmt := topS 24
abbrev s__law_bare : Stmt := topS 26
abbrev s__law_put : Stmt := topS 25
abbrev s__law_item_row : Stmt := topS 28
abbrev s_law : Stmt := topS 31
def l_RULES : List (Str × PyData) := [("ITEM", (.tuple [(.tuple [(.str "face"), (.str "< 'face face < SHOWN SHOWNS > ; >")]), (.tuple [(.str "use"), (.str "< 'use use Name AS ; >")]), (.tuple [(.str "open"), (.str "< 'open open Name WAY ; >")]), (.tuple [(.str "kind"), (.str "< 'kind kind Name = < MAKER MAKERS > ; >")]), (.tuple [(.str "def"), (.str "< 'def def name GIVENS COLON = TOLD ; >")])])),
  ("SHOWN", (.tuple [(.tuple [(.str "name"), (.str "< 'name name >")]), (.tuple [(.str "Name"), (.str "< 'kind Name MAKERS_TOO >")])])),
  ("SHOWNS", (.tuple [(.tuple [(.str ","), (.str ", SHOWN SHOWNS")]), (.tuple [(.str ""), (.str "")])])),
  ("MAKERS_TOO", (.tuple [(.tuple [(.str "("), (.str "( .. ) '1")]), (.tuple [(.str ""), (.str "'0")])])),
  ("AS", (.tuple [(.tuple [(.str "as"), (.str "as Name")]), (.tuple [(.str ""), (.str "'")])])),
  ("WAY", (.tuple [(.tuple [(.str "hiding"), (.str "'hiding hiding < ( THING THINGS ) >")]), (.tuple [(.str "("), (.str "'only < ( THING THINGS ) >")]), (.tuple [(.str ""), (.str "'all < >")])])),
  ("THING", (.tuple [(.tuple [(.str "name"), (.str "name")]), (.tuple [(.str "Name"), (.str "Name")])])),
  ("THINGS", (.tuple [(.tuple [(.str ","), (.str ", THING THINGS")]), (.tuple [(.str ""), (.str "")])])),
  ("MAKER", (.tuple [(.tuple [(.str "Name"), (.str "< Name PARTS >")])])),
  ("MAKERS", (.tuple [(.tuple [(.str "|"), (.str "| MAKER MAKERS")]), (.tuple [(.str ""), (.str "")])])),
  ("PARTS", (.tuple [(.tuple [(.str "("), (.str "< ( OF OFS ) >")]), (.tuple [(.str ""), (.str "< >")])])),
  ("OF", (.tuple [(.tuple [(.str "Name"), (.str "< Name MODULE >")])])),
  ("OFS", (.tuple [(.tuple [(.str ","), (.str ", OF OFS")]), (.tuple [(.str ""), (.str "")])])),
  ("MODULE", (.tuple [(.tuple [(.str "."), (.str ". Name")]), (.tuple [(.str ""), (.str "^")])])),
  ("GIVENS", (.tuple [(.tuple [(.str "("), (.str "< ( GIVEN MORE_GIVENS ) >")]), (.tuple [(.str ""), (.str "< >")])])),
  ("GIVEN", (.tuple [(.tuple [(.str "name"), (.str "< name COLON >")])])),
  ("MORE_GIVENS", (.tuple [(.tuple [(.str ","), (.str ", GIVEN MORE_GIVENS")]), (.tuple [(.str ""), (.str "")])])),
  ("COLON", (.tuple [(.tuple [(.str ":"), (.str ": OF")]), (.tuple [(.str ""), (.str "'none")])])),
  ("TOLD", (.tuple [(.tuple [(.str "let"), (.str "< 'let let name = TOLD in TOLD !out >")]), (.tuple [(.str "if"), (.str "< 'if if TOLD then TOLD else TOLD !out >")]), (.tuple [(.str "( case name Name"), (.str "SIDE SAME")])])),
  ("TOLDS", (.tuple [(.tuple [(.str ","), (.str ", TOLD TOLDS")]), (.tuple [(.str ""), (.str "")])])),
  ("SAME", (.tuple [(.tuple [(.str "=="), (.str "!same == SIDE >")]), (.tuple [(.str ""), (.str "")])])),
  ("SIDE", (.tuple [(.tuple [(.str "("), (.str "( TOLD )")]), (.tuple [(.str "case"), (.str "< 'case case TOLD of < ARM ARMS > end >")]), (.tuple [(.str "name"), (.str "< ' name CALL >")]), (.tuple [(.str "Name"), (.str "< Name MEMBER >")])])),
  ("MEMBER", (.tuple [(.tuple [(.str "."), (.str ". DOTTED")]), (.tuple [(.str ""), (.str "^ ^make MADE")])])),
  ("DOTTED", (.tuple [(.tuple [(.str "name"), (.str "name CALL")]), (.tuple [(.str "Name"), (.str "Name ^make MADE")])])),
  ("CALL", (.tuple [(.tuple [(.str "("), (.str "^call < ( TOLD TOLDS ) >")]), (.tuple [(.str ""), (.str "^name")])])),
  ("MADE", (.tuple [(.tuple [(.str "("), (.str "< ( TOLD TOLDS ) >")]), (.tuple [(.str ""), (.str "< >")])])),
  ("ARM", (.tuple [(.tuple [(.str "_ name Name"), (.str "< FORM -> TOLD >")])])),
  ("ARMS", (.tuple [(.tuple [(.str "|"), (.str "| ARM ARMS")]), (.tuple [(.str ""), (.str "")])])),
  ("FORM", (.tuple [(.tuple [(.str "_"), (.str "< 'any _ >")]), (.tuple [(.str "name"), (.str "< 'bind name >")]), (.tuple [(.str "Name"), (.str "< Name MODULE ^make FORMS >")])])),
  ("FORMS", (.tuple [(.tuple [(.str "("), (.str "< ( FORM MORE_FORMS ) >")]), (.tuple [(.str ""), (.str "< >")])])),
  ("MORE_FORMS", (.tuple [(.tuple [(.str ","), (.str ", FORM MORE_FORMS")]), (.tuple [(.str ""), (.str "")])]))]
def t_RULES : Str → Option PyData := fun z => l_RULES.lookup z
def l_PIECES : List (Str × PyData) := [("'0", (.int 0)),
  ("'1", (.int 1)),
  ("'none", .none)]
def t_PIECES : Str → Option PyData := fun z => l_PIECES.lookup z
def k_DEEPENING : PyData := (.tuple [(.str "let"), (.str "if"), (.str "case"), (.str "(")])
def k_DEEPEST : PyData := (.int 60)
/-- what the module holds -/
structure Txt (K : PySem.W.Frag) (w : World) (mg : Str → Option Value) : Prop where
  nl : noListB K = true
  d__law_draw : DD.DefAt K mg "_law_draw" s__law_draw
  d__law_next : DD.DefAt K mg "_law_next" s__law_next
  d__law_pick : DD.DefAt K mg "_law_pick" s__law_pick
  d__law_small : DD.DefAt K mg "_law_small" s__law_small
  d__law_great : DD.DefAt K mg "_law_great" s__law_great
  d__law_module : DD.DefAt K mg "_law_module" s__law_module
  d__law_of : DD.DefAt K mg "_law_of" s__law_of
  d__law_maybe_of : DD.DefAt K mg "_law_maybe_of" s__law_maybe_of
  d__law_form : DD.DefAt K mg "_law_form" s__law_form
  d__law_told : DD.DefAt K mg "_law_told" s__law_told
  d__law_tolds : DD.DefAt K mg "_law_tolds" s__law_tolds
  d__law_item : DD.DefAt K mg "_law_item" s__law_item
  d__law_same : DD.DefAt K mg "_law_same" s__law_same
  d__law_tokens : DD.DefAt K mg "_law_tokens" s__law_tokens
  d_ItemWalk__m___init__ : InitAt K mg "ItemWalk" "ItemWalk.__init__" s_ItemWalk__m___init__
  d_ItemWalk__m_expand : MethAt K mg "ItemWalk" "expand" "ItemWalk.expand" s_ItemWalk__m_expand
  d_ItemWalk__m_act : MethAt K mg "ItemWalk" "act" "ItemWalk.act" s_ItemWalk__m_act
  d_ItemWalk__m_meet : MethAt K mg "ItemWalk" "meet" "ItemWalk.meet" s_ItemWalk__m_meet
  d_ItemWalk__m_take : MethAt K mg "ItemWalk" "take" "ItemWalk.take" s_ItemWalk__m_take
  d_terminal : DD.DefAt K mg "terminal" s_terminal
  d_read_item : DD.DefAt K mg "read_item" s_read_item
  d__law_dotted : DD.DefAt K mg "_law_dotted" s__law_dotted
  d__law_with_of : DD.DefAt K mg "_law_with_of" s__law_with_of
  d__law_between : DD.DefAt K mg "_law_between" s__law_between
  d__law_in_brackets : DD.DefAt K mg "_law_in_brackets" s__law_in_brackets
  d__law_form_row : DD.DefAt K mg "_law_form_row" s__law_form_row
  d__law_bare : DD.DefAt K mg "_law_bare" s__law_bare
  d__law_put : DD.DefAt K mg "_law_put" s__law_put
  d__law_item_row : DD.DefAt K mg "_law_item_row" s__law_item_row
  d_law : DD.DefAt K mg "law" s_law
  f_ItemWalk_due : FldF K mg "ItemWalk" "due"
  f_ItemWalk_made : FldF K mg "ItemWalk" "made"
  f_ItemWalk_depth : FldF K mg "ItemWalk" "depth"
  t_RULES : TabF K w mg "RULES" t_RULES
  t_PIECES : TabF K w mg "PIECES" t_PIECES
  k_DEEPENING : ∀ {W : WX} {E : EW} {X : Cx} {pos : Pos}, X.K = K → X.mg = mg → Gl X "DEEPENING" → PD W E X (.Name "DEEPENING" pos) (dC k_DEEPENING)
  k_DEEPEST : ∀ {W : WX} {E : EW} {X : Cx} {pos : Pos}, X.K = K → X.mg = mg → Gl X "DEEPEST" → PD W E X (.Name "DEEPEST" pos) (dC k_DEEPEST)
  n_list : mg "list" = none
  n_len : mg "len" = none
  n_int : mg "int" = none
  n_range : mg "range" = none
  n_tuple : mg "tuple" = none
  n_isinstance : mg "isinstance" = none
  n_bool : mg "bool" = none
  n_all : mg "all" = none
  n_str : mg "str" = none
  n_enumerate : mg "enumerate" = none
def N__law_draw : List Str := ["script"]
theorem sc__law_draw : FnScope N__law_draw ["script"] (defScope s__law_draw) := ⟨rfl, rfl, rfl, by decide +kernel, rfl, by decide +kernel, by decide +kernel⟩
def b__law_draw : DTS := (dRet (dNw (dLstN (dCons (dFr (dListN (dCons (dSl (dVar 0) doNone (doSome (dC (.int 63)))) dNil))) (dCons (dC (.int 0)) (dCons (dC (.int 1)) (dCons (dC (.int 7)) dNil)))))))
theorem d__law_draw {P : Program} {w : World} {K : PySem.W.Frag} {mg : Str → Option Value} {base : Heap} (T : Txt K w mg) (f : Addr) (cdv : Value) (A : Around) (outer : List Env) (s : Shared) (H : Hp) (E : XK) (W : WX) (V : EW)
    (hr : Room 0 (A.deeper (envOfC "_law_draw" (defScope s__law_draw) s.heap.objs.size f cdv))) (tk : Takes (cxOf (L2.CX P w) P w K mg base N__law_draw "_law_draw" (defScope s__law_draw) f cdv A outer s H E) W) : SDs W V (cxOf (L2.CX P w) P w K mg base N__law_draw "_law_draw" (defScope s__law_draw) f cdv A outer s H E) (defBody s__law_draw) (b__law_draw) :=
  (sds_one (sd_ret (pd_newS (pdn_lst (pda_cons (pd_new (pdn_list (by rfl) T.n_list boot_list (pda_cons (pd_slice (pd_var 0) pdo_none (pdo_some pd_int)) pda_nil))) (pda_cons pd_int (pda_cons pd_int (pda_cons pd_int pda_nil))))))))
def N__law_next : List Str := ["draw", "many", "cell", "digit"]
theorem sc__law_next : FnScope N__law_next ["draw", "many"] (defScope s__law_next) := ⟨rfl, rfl, rfl, by decide +kernel, rfl, by decide +kernel, by decide +kernel⟩
def b__law_next : DTS := (dSeq (dIf (dAnd (dCmp cLe (dIx (dVar 0) (dC (.int 2))) (dC (.int 1))) (dCmp cLt (dIx (dVar 0) (dC (.int 1))) (dCB fLen (dCons (dIx (dVar 0) (dC (.int 0))) dNil))))
   (dSeq (dSet 2 (dCB fInt (dCons (dIx (dIx (dVar 0) (dC (.int 0))) (dIx (dVar 0) (dC (.int 1)))) dNil)))
  (dSeq (dSetIx (dVar 0) (dC (.int 1)) (dBin aAddL (dIx (dVar 0) (dC (.int 1))) (dC (.int 1))))
  (dIf (dCmp cGe (dVar 2) (dBin aPow (dC (.int 10)) (dC (.int 18))))
   (dSetIx (dVar 0) (dC (.int 2)) (dVar 2))
   (dSetIx (dVar 0) (dC (.int 3)) (dBin aMod (dCB fInt (dCons (dBin aAddL (dBin aAddL (dBin aMulL (dIx (dVar 0) (dC (.int 3))) (dC (.int 48271))) (dBin aMulL (dVar 2) (dC (.int 69621)))) (dC (.int 11))) dNil)) (dC (.int 2147483647)))))))
   dNext)
  (dSeq (dIf (dCmp cGt (dIx (dVar 0) (dC (.int 2))) (dC (.int 1)))
   (dSeq (dSet 3 (dBin aMod (dCB fInt (dCons (dIx (dVar 0) (dC (.int 2))) dNil)) (dVar 1)))
  (dSeq (dSetIx (dVar 0) (dC (.int 2)) (dBin aDiv (dIx (dVar 0) (dC (.int 2))) (dVar 1)))
  (dRet (dVar 3))))
   dNext)
  (dSeq (dSetIx (dVar 0) (dC (.int 3)) (dBin aMod (dCB fInt (dCons (dBin aAddL (dBin aMulL (dIx (dVar 0) (dC (.int 3))) (dC (.int 48271))) (dC (.int 12345))) dNil)) (dC (.int 2147483647))))
  (dRet (dBin aMod (dBin aDiv (dBin aMod (dCB fInt (dCons (dBin aMulL (dIx (dVar 0) (dC (.int 3))) (dC (.int 69621))) dNil)) (dC (.int 2147483629))) (dC (.int 64))) (dVar 1))))))
theorem d__law_next {P : Program} {w : World} {K : PySem.W.Frag} {mg : Str → Option Value} {base : Heap} (T : Txt K w mg) (f : Addr) (cdv : Value) (A : Around) (outer : List Env) (s : Shared) (H : Hp) (E : XK) (W : WX) (V : EW)
    (hr : Room 0 (A.deeper (envOfC "_law_next" (defScope s__law_next) s.heap.objs.size f cdv))) (tk : Takes (cxOf (L2.CX P w) P w K mg base N__law_next "_law_next" (defScope s__law_next) f cdv A outer s H E) W) : SDs W V (cxOf (L2.CX P w) P w K mg base N__law_next "_law_next" (defScope s__law_next) f cdv A outer s H E) (defBody s__law_next) (b__law_next) :=
  (sds_cons (sd_if (PDW.pt (pdw_and (pdt_cmp oc_le (pd_ix (pd_var 0) pd_int) pd_int) (pdw_and1 (pdt_cmp oc_lt (pd_ix (pd_var 0) pd_int) (pd_callB cd_len (by rfl) T.n_len PySem.boot_len (pda_cons (pd_ix (pd_var 0) pd_int) pda_nil))))))
   (sds_cons (sd_set (i := 2) sc__law_next.nd rfl (by first | exact Or.inl rfl | exact Or.inr rfl) (pd_callT cd_int (by rfl) T.n_int boot_int (pda_cons (pd_ix (pd_ix (pd_var 0) pd_int) (pd_ix (pd_var 0) pd_int)) pda_nil)))
  (sds_cons (sd_setIx (pd_var 0) pd_int (pd_op (od_addL T.nl) (pd_ix (pd_var 0) pd_int) pd_int))
  (sds_one (sd_if (pdt_cmp oc_ge (pd_var 2) (pd_op od_pow pd_int pd_int))
   (sds_one (sd_setIx (pd_var 0) pd_int (pd_var 2)))
   (sds_one (sd_setIx (pd_var 0) pd_int (pd_op od_mod (pd_callT cd_int (by rfl) T.n_int boot_int (pda_cons (pd_op (od_addL T.nl) (pd_op (od_addL T.nl) (pd_op (od_mulL T.nl) (pd_ix (pd_var 0) pd_int) pd_int) (pd_op (od_mulL T.nl) (pd_var 2) pd_int)) pd_int) pda_nil)) pd_int)))))))
   sds_nil)
  (sds_cons (sd_if (pdt_cmp oc_gt (pd_ix (pd_var 0) pd_int) pd_int)
   (sds_cons (sd_set (i := 3) sc__law_next.nd rfl (by first | exact Or.inl rfl | exact Or.inr rfl) (pd_op od_mod (pd_callT cd_int (by rfl) T.n_int boot_int (pda_cons (pd_ix (pd_var 0) pd_int) pda_nil)) (pd_var 1)))
  (sds_cons (sd_setIx (pd_var 0) pd_int (pd_op od_div (pd_ix (pd_var 0) pd_int) (pd_var 1)))
  (sds_one (sd_ret (pd_var 3)))))
   sds_nil)
  (sds_cons (sd_setIx (pd_var 0) pd_int (pd_op od_mod (pd_callT cd_int (by rfl) T.n_int boot_int (pda_cons (pd_op (od_addL T.nl) (pd_op (od_mulL T.nl) (pd_ix (pd_var 0) pd_int) pd_int) pd_int) pda_nil)) pd_int))
  (sds_one (sd_ret (pd_op od_mod (pd_op od_div (pd_op od_mod (pd_callT cd_int (by rfl) T.n_int boot_int (pda_cons (pd_op (od_mulL T.nl) (pd_ix (pd_var 0) pd_int) pd_int) pda_nil)) pd_int) pd_int) (pd_var 1)))))))
def N__law_pick : List Str := ["draw", "row"]
theorem sc__law_pick : FnScope N__law_pick ["draw", "row"] (defScope s__law_pick) := ⟨rfl, rfl, rfl, by decide +kernel, rfl, by decide +kernel, by decide +kernel⟩
def b__law_pick (sp__law_next : DSp) : DTS := (dRet (dIx (dVar 1) (dCall sp__law_next (dCons (dVar 0) (dCons (dCB fLen (dCons (dVar 1) dNil)) dNil)))))
theorem d__law_pick {P : Program} {w : World} {K : PySem.W.Frag} {mg : Str → Option Value} {base : Heap} {sp__law_next : DSp} (T : Txt K w mg) (G__law_next : Ok P w K mg base "_law_next" 1 ["draw", "many"] sp__law_next) (f : Addr) (cdv : Value) (A : Around) (outer : List Env) (s : Shared) (H : Hp) (E : XK) (W : WX) (V : EW)
    (hr : Room 1 (A.deeper (envOfC "_law_pick" (defScope s__law_pick) s.heap.objs.size f cdv))) (tk : Takes (cxOf (L2.CX P w) P w K mg base N__law_pick "_law_pick" (defScope s__law_pick) f cdv A outer s H E) W) : SDs W V (cxOf (L2.CX P w) P w K mg base N__law_pick "_law_pick" (defScope s__law_pick) f cdv A outer s H E) (defBody s__law_pick) (b__law_pick sp__law_next) :=
  (sds_one (sd_ret (pd_ix (pd_var 1) (pc_ok G__law_next hr (by rfl) (by decide) (pda_cons (pd_var 0) (pda_cons (pd_callB cd_len (by rfl) T.n_len PySem.boot_len (pda_cons (pd_var 1) pda_nil)) pda_nil))))))
def N__law_small : List Str := ["draw"]
theorem sc__law_small : FnScope N__law_small ["draw"] (defScope s__law_small) := ⟨rfl, rfl, rfl, by decide +kernel, rfl, by decide +kernel, by decide +kernel⟩
def b__law_small (sp__law_pick : DSp) : DTS := (dRet (dCall sp__law_pick (dCons (dVar 0) (dCons (dFr (dLstN (dCons (dC (.str "a")) (dCons (dC (.str "b2")) (dCons (dC (.str "x_Y")) (dCons (dC (.str "zz")) (dCons (dC (.str "faces")) (dCons (dC (.str "lets")) (dCons (dC (.str "o")) (dCons (dC (.str "endof")) (dCons (dC (.str "name")) (dCons (dC (.str "u9_")) dNil)))))))))))) dNil))))
theorem d__law_small {P : Program} {w : World} {K : PySem.W.Frag} {mg : Str → Option Value} {base : Heap} {sp__law_pick : DSp} (T : Txt K w mg) (G__law_pick : Ok P w K mg base "_law_pick" 2 ["draw", "row"] sp__law_pick) (f : Addr) (cdv : Value) (A : Around) (outer : List Env) (s : Shared) (H : Hp) (E : XK) (W : WX) (V : EW)
    (hr : Room 2 (A.deeper (envOfC "_law_small" (defScope s__law_small) s.heap.objs.size f cdv))) (tk : Takes (cxOf (L2.CX P w) P w K mg base N__law_small "_law_small" (defScope s__law_small) f cdv A outer s H E) W) : SDs W V (cxOf (L2.CX P w) P w K mg base N__law_small "_law_small" (defScope s__law_small) f cdv A outer s H E) (defBody s__law_small) (b__law_small sp__law_pick) :=
  (sds_one (sd_ret (pc_ok G__law_pick hr (by rfl) (by decide) (pda_cons (pd_var 0) (pda_cons (pd_new (pdn_lst (pda_cons pd_str (pda_cons pd_str (pda_cons pd_str (pda_cons pd_str (pda_cons pd_str (pda_cons pd_str (pda_cons pd_str (pda_cons pd_str (pda_cons pd_str (pda_cons pd_str pda_nil)))))))))))) pda_nil)))))
def N__law_great : List Str := ["draw"]
theorem sc__law_great : FnScope N__law_great ["draw"] (defScope s__law_great) := ⟨rfl, rfl, rfl, by decide +kernel, rfl, by decide +kernel, by decide +kernel⟩
def b__law_great (sp__law_pick : DSp) : DTS := (dRet (dCall sp__law_pick (dCons (dVar 0) (dCons (dFr (dLstN (dCons (dC (.str "A")) (dCons (dC (.str "B2")) (dCons (dC (.str "Cc_")) (dCons (dC (.str "Zz")) (dCons (dC (.str "N0")) (dCons (dC (.str "Name")) (dCons (dC (.str "Def")) (dCons (dC (.str "K")) dNil)))))))))) dNil))))
theorem d__law_great {P : Program} {w : World} {K : PySem.W.Frag} {mg : Str → Option Value} {base : Heap} {sp__law_pick : DSp} (T : Txt K w mg) (G__law_pick : Ok P w K mg base "_law_pick" 2 ["draw", "row"] sp__law_pick) (f : Addr) (cdv : Value) (A : Around) (outer : List Env) (s : Shared) (H : Hp) (E : XK) (W : WX) (V : EW)
    (hr : Room 2 (A.deeper (envOfC "_law_great" (defScope s__law_great) s.heap.objs.size f cdv))) (tk : Takes (cxOf (L2.CX P w) P w K mg base N__law_great "_law_great" (defScope s__law_great) f cdv A outer s H E) W) : SDs W V (cxOf (L2.CX P w) P w K mg base N__law_great "_law_great" (defScope s__law_great) f cdv A outer s H E) (defBody s__law_great) (b__law_great sp__law_pick) :=
  (sds_one (sd_ret (pc_ok G__law_pick hr (by rfl) (by decide) (pda_cons (pd_var 0) (pda_cons (pd_new (pdn_lst (pda_cons pd_str (pda_cons pd_str (pda_cons pd_str (pda_cons pd_str (pda_cons pd_str (pda_cons pd_str (pda_cons pd_str (pda_cons pd_str pda_nil)))))))))) pda_nil)))))
def N__law_module : List Str := ["draw"]
theorem sc__law_module : FnScope N__law_module ["draw"] (defScope s__law_module) := ⟨rfl, rfl, rfl, by decide +kernel, rfl, by decide +kernel, by decide +kernel⟩
def b__law_module (sp__law_next : DSp) (sp__law_great : DSp) : DTS := (dRet (dIfE (dCmp (cEq false) (dCall sp__law_next (dCons (dVar 0) (dCons (dC (.int 3)) dNil))) (dC (.int 0))) (dCall sp__law_great (dCons (dVar 0) dNil)) (dC (.str ""))))
theorem d__law_module {P : Program} {w : World} {K : PySem.W.Frag} {mg : Str → Option Value} {base : Heap} {sp__law_next : DSp} {sp__law_great : DSp} (T : Txt K w mg) (G__law_next : Ok P w K mg base "_law_next" 1 ["draw", "many"] sp__law_next) (G__law_great : Ok P w K mg base "_law_great" 3 ["draw"] sp__law_great) (f : Addr) (cdv : Value) (A : Around) (outer : List Env) (s : Shared) (H : Hp) (E : XK) (W : WX) (V : EW)
    (hr : Room 3 (A.deeper (envOfC "_law_module" (defScope s__law_module) s.heap.objs.size f cdv))) (tk : Takes (cxOf (L2.CX P w) P w K mg base N__law_module "_law_module" (defScope s__law_module) f cdv A outer s H E) W) : SDs W V (cxOf (L2.CX P w) P w K mg base N__law_module "_law_module" (defScope s__law_module) f cdv A outer s H E) (defBody s__law_module) (b__law_module sp__law_next sp__law_great) :=
  (sds_one (sd_ret (pd_if (pdt_cmp (oc_eq hr.units) (pc_ok G__law_next hr (by rfl) (by decide) (pda_cons (pd_var 0) (pda_cons pd_int pda_nil))) pd_int) (pc_ok G__law_great hr (by rfl) (by decide) (pda_cons (pd_var 0) pda_nil)) pd_str)))
def N__law_of : List Str := ["draw"]
theorem sc__law_of : FnScope N__law_of ["draw"] (defScope s__law_of) := ⟨rfl, rfl, rfl, by decide +kernel, rfl, by decide +kernel, by decide +kernel⟩
def b__law_of (sp__law_great : DSp) (sp__law_module : DSp) : DTS := (dRet (dTup (dCons (dCall sp__law_module (dCons (dVar 0) dNil)) (dCons (dCall sp__law_great (dCons (dVar 0) dNil)) dNil))))
theorem d__law_of {P : Program} {w : World} {K : PySem.W.Frag} {mg : Str → Option Value} {base : Heap} {sp__law_great : DSp} {sp__law_module : DSp} (T : Txt K w mg) (G__law_great : Ok P w K mg base "_law_great" 3 ["draw"] sp__law_great) (G__law_module : Ok P w K mg base "_law_module" 4 ["draw"] sp__law_module) (f : Addr) (cdv : Value) (A : Around) (outer : List Env) (s : Shared) (H : Hp) (E : XK) (W : WX) (V : EW)
    (hr : Room 4 (A.deeper (envOfC "_law_of" (defScope s__law_of) s.heap.objs.size f cdv))) (tk : Takes (cxOf (L2.CX P w) P w K mg base N__law_of "_law_of" (defScope s__law_of) f cdv A outer s H E) W) : SDs W V (cxOf (L2.CX P w) P w K mg base N__law_of "_law_of" (defScope s__law_of) f cdv A outer s H E) (defBody s__law_of) (b__law_of sp__law_great sp__law_module) :=
  (sds_one (sd_ret (pd_tup (pda_cons (pc_ok G__law_module hr (by rfl) (by decide) (pda_cons (pd_var 0) pda_nil)) (pda_cons (pc_ok G__law_great hr (by rfl) (by decide) (pda_cons (pd_var 0) pda_nil)) pda_nil)))))
def N__law_maybe_of : List Str := ["draw"]
theorem sc__law_maybe_of : FnScope N__law_maybe_of ["draw"] (defScope s__law_maybe_of) := ⟨rfl, rfl, rfl, by decide +kernel, rfl, by decide +kernel, by decide +kernel⟩
def b__law_maybe_of (sp__law_next : DSp) (sp__law_of : DSp) : DTS := (dRet (dIfE (dCmp (cEq false) (dCall sp__law_next (dCons (dVar 0) (dCons (dC (.int 2)) dNil))) (dC (.int 0))) (dCall sp__law_of (dCons (dVar 0) dNil)) (dC .none)))
theorem d__law_maybe_of {P : Program} {w : World} {K : PySem.W.Frag} {mg : Str → Option Value} {base : Heap} {sp__law_next : DSp} {sp__law_of : DSp} (T : Txt K w mg) (G__law_next : Ok P w K mg base "_law_next" 1 ["draw", "many"] sp__law_next) (G__law_of : Ok P w K mg base "_law_of" 5 ["draw"] sp__law_of) (f : Addr) (cdv : Value) (A : Around) (outer : List Env) (s : Shared) (H : Hp) (E : XK) (W : WX) (V : EW)
    (hr : Room 5 (A.deeper (envOfC "_law_maybe_of" (defScope s__law_maybe_of) s.heap.objs.size f cdv))) (tk : Takes (cxOf (L2.CX P w) P w K mg base N__law_maybe_of "_law_maybe_of" (defScope s__law_maybe_of) f cdv A outer s H E) W) : SDs W V (cxOf (L2.CX P w) P w K mg base N__law_maybe_of "_law_maybe_of" (defScope s__law_maybe_of) f cdv A outer s H E) (defBody s__law_maybe_of) (b__law_maybe_of sp__law_next sp__law_of) :=
  (sds_one (sd_ret (pd_if (pdt_cmp (oc_eq hr.units) (pc_ok G__law_next hr (by rfl) (by decide) (pda_cons (pd_var 0) (pda_cons pd_int pda_nil))) pd_int) (pc_ok G__law_of hr (by rfl) (by decide) (pda_cons (pd_var 0) pda_nil)) pd_non)))
def N__law_form : List Str := ["draw", "deep", "kind", "parts", "k"]
theorem sc__law_form : FnScope N__law_form ["draw", "deep"] (defScope s__law_form) := ⟨rfl, rfl, rfl, by decide +kernel, rfl, by decide +kernel, by decide +kernel⟩
def b__law_form (sp__law_next : DSp) (sp__law_small : DSp) (sp__law_form : DSp) (sp__law_great : DSp) (sp__law_module : DSp) : DTS := (dSeq (dSet 2 (dCall sp__law_next (dCons (dVar 0) (dCons (dC (.int 5)) dNil))))
  (dSeq (dIf (dCmp (cEq false) (dVar 2) (dC (.int 0)))
   (dRet (dTup (dCons (dC (.str "any")) dNil)))
   dNext)
  (dSeq (dIf (dCmp cLt (dVar 2) (dC (.int 3)))
   (dRet (dTup (dCons (dC (.str "bind")) (dCons (dCall sp__law_small (dCons (dVar 0) dNil)) dNil))))
   dNext)
  (dSeq (dSet 3 (dCB fTuple (dCons (dFr (dLc (dRng1 (dCons (dIfE (dCmp cGt (dVar 1) (dC (.int 0))) (dCall sp__law_next (dCons (dVar 0) (dCons (dC (.int 4)) dNil))) (dC (.int 0))) dNil)) (dgName 4) dYes (dCall sp__law_form (dCons (dVar 0) (dCons (dBin aSub (dVar 1) (dC (.int 1))) dNil))) [4])) dNil)))
  (dRet (dTup (dCons (dC (.str "make")) (dCons (dCall sp__law_module (dCons (dVar 0) dNil)) (dCons (dCall sp__law_great (dCons (dVar 0) dNil)) (dCons (dVar 3) dNil))))))))))
theorem d__law_form {P : Program} {w : World} {K : PySem.W.Frag} {mg : Str → Option Value} {base : Heap} {n : Nat} {sp__law_next : DSp} {sp__law_small : DSp} {sp__law_form : DSp} {sp__law_great : DSp} {sp__law_module : DSp} (T : Txt K w mg) (G__law_next : Ok P w K mg base "_law_next" 1 ["draw", "many"] sp__law_next) (G__law_small : Ok P w K mg base "_law_small" 3 ["draw"] sp__law_small) (G__law_form : Ok P w K mg base "_law_form" (4 + n) ["draw", "deep"] sp__law_form) (G__law_great : Ok P w K mg base "_law_great" 3 ["draw"] sp__law_great) (G__law_module : Ok P w K mg base "_law_module" 4 ["draw"] sp__law_module) (f : Addr) (cdv : Value) (A : Around) (outer : List Env) (s : Shared) (H : Hp) (E : XK) (W : WX) (V : EW)
    (hr : Room (4 + n) (A.deeper (envOfC "_law_form" (defScope s__law_form) s.heap.objs.size f cdv))) (tk : Takes (cxOf (L2.CX P w) P w K mg base N__law_form "_law_form" (defScope s__law_form) f cdv A outer s H E) W) : SDs W V (cxOf (L2.CX P w) P w K mg base N__law_form "_law_form" (defScope s__law_form) f cdv A outer s H E) (defBody s__law_form) (b__law_form sp__law_next sp__law_small sp__law_form sp__law_great sp__law_module) :=
  (sds_cons (sd_set (i := 2) sc__law_form.nd rfl (by first | exact Or.inl rfl | exact Or.inr rfl) (pc_ok G__law_next hr (by rfl) (by omega) (pda_cons (pd_var 0) (pda_cons pd_int pda_nil))))
  (sds_cons (sd_if (pdt_cmp (oc_eq hr.units) (pd_var 2) pd_int)
   (sds_one (sd_ret (pd_tup (pda_cons pd_str pda_nil))))
   sds_nil)
  (sds_cons (sd_if (pdt_cmp oc_lt (pd_var 2) pd_int)
   (sds_one (sd_ret (pd_tup (pda_cons pd_str (pda_cons (pc_ok G__law_small hr (by rfl) (by omega) (pda_cons (pd_var 0) pda_nil)) pda_nil)))))
   sds_nil)
  (sds_cons (sd_set (i := 3) sc__law_form.nd rfl (by first | exact Or.inl rfl | exact Or.inr rfl) (pd_callT cd_tuple (by rfl) T.n_tuple boot_tuple (pda_cons (pd_new (pdn_lc (own := [("k", 4)]) rfl sc__law_form.nd (pdi_range1 (by rfl) T.n_range (pda_cons (pd_if (pdt_cmp oc_gt (pd_var 1) pd_int) (pc_ok G__law_next hr (by rfl) (by omega) (pda_cons (pd_var 0) (pda_cons pd_int pda_nil))) pd_int) pda_nil)) (blkOk_by (own := [("k", 4)]) (N := N__law_form) (sc := defScope s__law_form) (by decide +kernel)) (fun _ _ _ _ _ => (pdg_name (i := 4) sc__law_form.nd rfl (by first | exact Or.inl rfl | exact Or.inr rfl))) (fun _ _ _ _ _ => pdts_nil) (fun _ _ _ _ _ => (pc_ok G__law_form hr (by rfl) (Nat.le_refl _) (pda_cons (pd_var 0) (pda_cons (pd_op od_sub (pd_var 1) pd_int) pda_nil)))))) pda_nil)))
  (sds_one (sd_ret (pd_tup (pda_cons pd_str (pda_cons (pc_ok G__law_module hr (by rfl) (by omega) (pda_cons (pd_var 0) pda_nil)) (pda_cons (pc_ok G__law_great hr (by rfl) (by omega) (pda_cons (pd_var 0) pda_nil)) (pda_cons (pd_var 3) pda_nil)))))))))))
def N__law_told : List Str := ["draw", "deep", "size", "kind", "told", "arms", "k"]
theorem sc__law_told : FnScope N__law_told ["draw", "deep", "size"] (defScope s__law_told) := ⟨rfl, rfl, rfl, by decide +kernel, rfl, by decide +kernel, by decide +kernel⟩
def b__law_told (sp__law_next : DSp) (sp__law_small : DSp) (sp__law_tolds : DSp) (sp__law_told : DSp) (sp__law_form : DSp) (sp__law_module : DSp) (sp__law_great : DSp) : DTS := (dSeq (dSetIx (dVar 2) (dC (.int 0)) (dBin aSub (dIx (dVar 2) (dC (.int 0))) (dC (.int 1))))
  (dSeq (dSet 3 (dIfE (dAnd (dCmp cGt (dVar 1) (dC (.int 0))) (dCmp cGt (dIx (dVar 2) (dC (.int 0))) (dC (.int 0)))) (dCall sp__law_next (dCons (dVar 0) (dCons (dC (.int 10)) dNil))) (dC (.int 9))))
  (dSeq (dIf (dCmp (cEq false) (dVar 3) (dC (.int 0)))
   (dRet (dBin aAddL (dTup (dCons (dC (.str "let")) (dCons (dCall sp__law_small (dCons (dVar 0) dNil)) dNil))) (dCall sp__law_tolds (dCons (dVar 0) (dCons (dBin aSub (dVar 1) (dC (.int 1))) (dCons (dVar 2) (dCons (dC (.int 2)) dNil)))))))
   dNext)
  (dSeq (dIf (dCmp (cEq false) (dVar 3) (dC (.int 1)))
   (dRet (dBin aAddL (dTup (dCons (dC (.str "if")) dNil)) (dCall sp__law_tolds (dCons (dVar 0) (dCons (dBin aSub (dVar 1) (dC (.int 1))) (dCons (dVar 2) (dCons (dC (.int 3)) dNil)))))))
   dNext)
  (dSeq (dIf (dCmp cLt (dVar 3) (dC (.int 4)))
   (dRet (dBin aAddL (dTup (dCons (dC (.str "same")) dNil)) (dCall sp__law_tolds (dCons (dVar 0) (dCons (dBin aSub (dVar 1) (dC (.int 1))) (dCons (dVar 2) (dCons (dC (.int 2)) dNil)))))))
   dNext)
  (dSeq (dIf (dCmp cLt (dVar 3) (dC (.int 6)))
   (dSeq (dSet 4 (dCall sp__law_told (dCons (dVar 0) (dCons (dBin aSub (dVar 1) (dC (.int 1))) (dCons (dVar 2) dNil)))))
  (dSeq (dSetF 5 (dLc (dRng1 (dCons (dBin aAddL (dC (.int 1)) (dCall sp__law_next (dCons (dVar 0) (dCons (dC (.int 3)) dNil)))) dNil)) (dgName 6) dYes (dTup (dCons (dCall sp__law_form (dCons (dVar 0) (dCons (dC (.int 3)) dNil))) (dCons (dCall sp__law_told (dCons (dVar 0) (dCons (dBin aSub (dVar 1) (dC (.int 1))) (dCons (dVar 2) dNil)))) dNil))) [6]))
  (dRet (dTup (dCons (dC (.str "case")) (dCons (dVar 4) (dCons (dCB fTuple (dCons (dVar 5) dNil)) dNil)))))))
   dNext)
  (dSeq (dIf (dCmp cLt (dVar 3) (dC (.int 8)))
   (dRet (dTup (dCons (dC (.str "call")) (dCons (dCall sp__law_module (dCons (dVar 0) dNil)) (dCons (dCall sp__law_small (dCons (dVar 0) dNil)) (dCons (dCall sp__law_tolds (dCons (dVar 0) (dCons (dBin aSub (dVar 1) (dC (.int 1))) (dCons (dVar 2) (dCons (dBin aAddL (dC (.int 1)) (dCall sp__law_next (dCons (dVar 0) (dCons (dC (.int 3)) dNil)))) dNil))))) dNil))))))
   dNext)
  (dSeq (dIf (dCmp (cEq false) (dVar 3) (dC (.int 8)))
   (dRet (dTup (dCons (dC (.str "make")) (dCons (dCall sp__law_module (dCons (dVar 0) dNil)) (dCons (dCall sp__law_great (dCons (dVar 0) dNil)) (dCons (dCall sp__law_tolds (dCons (dVar 0) (dCons (dBin aSub (dVar 1) (dC (.int 1))) (dCons (dVar 2) (dCons (dCall sp__law_next (dCons (dVar 0) (dCons (dC (.int 4)) dNil))) dNil))))) dNil))))))
   dNext)
  (dSeq (dIf (dCmp (cEq false) (dCall sp__law_next (dCons (dVar 0) (dCons (dC (.int 2)) dNil))) (dC (.int 0)))
   (dRet (dTup (dCons (dC (.str "name")) (dCons (dCall sp__law_module (dCons (dVar 0) dNil)) (dCons (dCall sp__law_small (dCons (dVar 0) dNil)) dNil)))))
   dNext)
  (dRet (dTup (dCons (dC (.str "make")) (dCons (dCall sp__law_module (dCons (dVar 0) dNil)) (dCons (dCall sp__law_great (dCons (dVar 0) dNil)) (dCons (dTup dNil) dNil)))))))))))))))
theorem d__law_told {P : Program} {w : World} {K : PySem.W.Frag} {mg : Str → Option Value} {base : Heap} {n : Nat} {sp__law_next : DSp} {sp__law_small : DSp} {sp__law_tolds : DSp} {sp__law_told : DSp} {sp__law_form : DSp} {sp__law_module : DSp} {sp__law_great : DSp} (T : Txt K w mg) (G__law_next : Ok P w K mg base "_law_next" 1 ["draw", "many"] sp__law_next) (G__law_small : Ok P w K mg base "_law_small" 3 ["draw"] sp__law_small) (G__law_tolds : Ok P w K mg base "_law_tolds" (9 + n) ["draw", "deep", "size", "many"] sp__law_tolds) (G__law_told : Ok P w K mg base "_law_told" (9 + n) ["draw", "deep", "size"] sp__law_told) (G__law_form : Ok P w K mg base "_law_form" 9 ["draw", "deep"] sp__law_form) (G__law_module : Ok P w K mg base "_law_module" 4 ["draw"] sp__law_module) (G__law_great : Ok P w K mg base "_law_great" 3 ["draw"] sp__law_great) (f : Addr) (cdv : Value) (A : Around) (outer : List Env) (s : Shared) (H : Hp) (E : XK) (W : WX) (V : EW)
    (hr : Room (9 + n) (A.deeper (envOfC "_law_told" (defScope s__law_told) s.heap.objs.size f cdv))) (tk : Takes (cxOf (L2.CX P w) P w K mg base N__law_told "_law_told" (defScope s__law_told) f cdv A outer s H E) W) : SDs W V (cxOf (L2.CX P w) P w K mg base N__law_told "_law_told" (defScope s__law_told) f cdv A outer s H E) (defBody s__law_told) (b__law_told sp__law_next sp__law_small sp__law_tolds sp__law_told sp__law_form sp__law_module sp__law_great) :=
  (sds_cons (sd_setIx (pd_var 2) pd_int (pd_op od_sub (pd_ix (pd_var 2) pd_int) pd_int))
  (sds_cons (sd_set (i := 3) sc__law_told.nd rfl (by first | exact Or.inl rfl | exact Or.inr rfl) (pd_if (PDW.pt (pdw_and (pdt_cmp oc_gt (pd_var 1) pd_int) (pdw_and1 (pdt_cmp oc_gt (pd_ix (pd_var 2) pd_int) pd_int)))) (pc_ok G__law_next hr (by rfl) (by omega) (pda_cons (pd_var 0) (pda_cons pd_int pda_nil))) pd_int))
  (sds_cons (sd_if (pdt_cmp (oc_eq hr.units) (pd_var 3) pd_int)
   (sds_one (sd_ret (pd_op (od_addL T.nl) (pd_tup (pda_cons pd_str (pda_cons (pc_ok G__law_small hr (by rfl) (by omega) (pda_cons (pd_var 0) pda_nil)) pda_nil))) (pc_ok G__law_tolds hr (by rfl) (Nat.le_refl _) (pda_cons (pd_var 0) (pda_cons (pd_op od_sub (pd_var 1) pd_int) (pda_cons (pd_var 2) (pda_cons pd_int pda_nil))))))))
   sds_nil)
  (sds_cons (sd_if (pdt_cmp (oc_eq hr.units) (pd_var 3) pd_int)
   (sds_one (sd_ret (pd_op (od_addL T.nl) (pd_tup (pda_cons pd_str pda_nil)) (pc_ok G__law_tolds hr (by rfl) (Nat.le_refl _) (pda_cons (pd_var 0) (pda_cons (pd_op od_sub (pd_var 1) pd_int) (pda_cons (pd_var 2) (pda_cons pd_int pda_nil))))))))
   sds_nil)
  (sds_cons (sd_if (pdt_cmp oc_lt (pd_var 3) pd_int)
   (sds_one (sd_ret (pd_op (od_addL T.nl) (pd_tup (pda_cons pd_str pda_nil)) (pc_ok G__law_tolds hr (by rfl) (Nat.le_refl _) (pda_cons (pd_var 0) (pda_cons (pd_op od_sub (pd_var 1) pd_int) (pda_cons (pd_var 2) (pda_cons pd_int pda_nil))))))))
   sds_nil)
  (sds_cons (sd_if (pdt_cmp oc_lt (pd_var 3) pd_int)
   (sds_cons (sd_set (i := 4) sc__law_told.nd rfl (by first | exact Or.inl rfl | exact Or.inr rfl) (pc_ok G__law_told hr (by rfl) (Nat.le_refl _) (pda_cons (pd_var 0) (pda_cons (pd_op od_sub (pd_var 1) pd_int) (pda_cons (pd_var 2) pda_nil)))))
  (sds_cons ((sd_setLcG (i := 5) (own := [("k", 6)]) rfl sc__law_told.nd rfl rfl (sw_true rfl rfl rfl (by decide +kernel)) (pdi_range1 (by rfl) T.n_range (pda_cons (pd_op (od_addL T.nl) pd_int (pc_ok G__law_next hr (by rfl) (by omega) (pda_cons (pd_var 0) (pda_cons pd_int pda_nil)))) pda_nil)) (blkOk_by (own := [("k", 6)]) (N := N__law_told) (sc := defScope s__law_told) (by decide +kernel)) (fun _ _ _ _ _ => (pdg_name (i := 6) sc__law_told.nd rfl (by first | exact Or.inl rfl | exact Or.inr rfl))) (fun _ _ _ _ _ => pdts_nil) (fun _ _ _ _ _ => (pd_tup (pda_cons (pc_ok G__law_form hr (by rfl) (by omega) (pda_cons (pd_var 0) (pda_cons pd_int pda_nil))) (pda_cons (pc_ok G__law_told hr (by rfl) (Nat.le_refl _) (pda_cons (pd_var 0) (pda_cons (pd_op od_sub (pd_var 1) pd_int) (pda_cons (pd_var 2) pda_nil)))) pda_nil))))).2)
  (sds_one (sd_ret (pd_tup (pda_cons pd_str (pda_cons (pd_var 4) (pda_cons (pd_callT cd_tuple (by rfl) T.n_tuple boot_tuple (pda_cons (pd_var 5) pda_nil)) pda_nil))))))))
   sds_nil)
  (sds_cons (sd_if (pdt_cmp oc_lt (pd_var 3) pd_int)
   (sds_one (sd_ret (pd_tup (pda_cons pd_str (pda_cons (pc_ok G__law_module hr (by rfl) (by omega) (pda_cons (pd_var 0) pda_nil)) (pda_cons (pc_ok G__law_small hr (by rfl) (by omega) (pda_cons (pd_var 0) pda_nil)) (pda_cons (pc_ok G__law_tolds hr (by rfl) (Nat.le_refl _) (pda_cons (pd_var 0) (pda_cons (pd_op od_sub (pd_var 1) pd_int) (pda_cons (pd_var 2) (pda_cons (pd_op (od_addL T.nl) pd_int (pc_ok G__law_next hr (by rfl) (by omega) (pda_cons (pd_var 0) (pda_cons pd_int pda_nil)))) pda_nil))))) pda_nil)))))))
   sds_nil)
  (sds_cons (sd_if (pdt_cmp (oc_eq hr.units) (pd_var 3) pd_int)
   (sds_one (sd_ret (pd_tup (pda_cons pd_str (pda_cons (pc_ok G__law_module hr (by rfl) (by omega) (pda_cons (pd_var 0) pda_nil)) (pda_cons (pc_ok G__law_great hr (by rfl) (by omega) (pda_cons (pd_var 0) pda_nil)) (pda_cons (pc_ok G__law_tolds hr (by rfl) (Nat.le_refl _) (pda_cons (pd_var 0) (pda_cons (pd_op od_sub (pd_var 1) pd_int) (pda_cons (pd_var 2) (pda_cons (pc_ok G__law_next hr (by rfl) (by omega) (pda_cons (pd_var 0) (pda_cons pd_int pda_nil))) pda_nil))))) pda_nil)))))))
   sds_nil)
  (sds_cons (sd_if (pdt_cmp (oc_eq hr.units) (pc_ok G__law_next hr (by rfl) (by omega) (pda_cons (pd_var 0) (pda_cons pd_int pda_nil))) pd_int)
   (sds_one (sd_ret (pd_tup (pda_cons pd_str (pda_cons (pc_ok G__law_module hr (by rfl) (by omega) (pda_cons (pd_var 0) pda_nil)) (pda_cons (pc_ok G__law_small hr (by rfl) (by omega) (pda_cons (pd_var 0) pda_nil)) pda_nil))))))
   sds_nil)
  (sds_one (sd_ret (pd_tup (pda_cons pd_str (pda_cons (pc_ok G__law_module hr (by rfl) (by omega) (pda_cons (pd_var 0) pda_nil)) (pda_cons (pc_ok G__law_great hr (by rfl) (by omega) (pda_cons (pd_var 0) pda_nil)) (pda_cons (pd_tup pda_nil) pda_nil))))))))))))))))
def N__law_tolds : List Str := ["draw", "deep", "size", "many", "k"]
theorem sc__law_tolds : FnScope N__law_tolds ["draw", "deep", "size", "many"] (defScope s__law_tolds) := ⟨rfl, rfl, rfl, by decide +kernel, rfl, by decide +kernel, by decide +kernel⟩
def b__law_tolds (sp__law_told : DSp) : DTS := (dRet (dCB fTuple (dCons (dFr (dLc (dRng1 (dCons (dVar 3) dNil)) (dgName 4) dYes (dCall sp__law_told (dCons (dVar 0) (dCons (dVar 1) (dCons (dVar 2) dNil)))) [4])) dNil)))
theorem d__law_tolds {P : Program} {w : World} {K : PySem.W.Frag} {mg : Str → Option Value} {base : Heap} {n : Nat} {sp__law_told : DSp} (T : Txt K w mg) (G__law_told : Ok P w K mg base "_law_told" (9 + n) ["draw", "deep", "size"] sp__law_told) (f : Addr) (cdv : Value) (A : Around) (outer : List Env) (s : Shared) (H : Hp) (E : XK) (W : WX) (V : EW)
    (hr : Room (9 + n) (A.deeper (envOfC "_law_tolds" (defScope s__law_tolds) s.heap.objs.size f cdv))) (tk : Takes (cxOf (L2.CX P w) P w K mg base N__law_tolds "_law_tolds" (defScope s__law_tolds) f cdv A outer s H E) W) : SDs W V (cxOf (L2.CX P w) P w K mg base N__law_tolds "_law_tolds" (defScope s__law_tolds) f cdv A outer s H E) (defBody s__law_tolds) (b__law_tolds sp__law_told) :=
  (sds_one (sd_ret (pd_callT cd_tuple (by rfl) T.n_tuple boot_tuple (pda_cons (pd_new (pdn_lc (own := [("k", 4)]) rfl sc__law_tolds.nd (pdi_range1 (by rfl) T.n_range (pda_cons (pd_var 3) pda_nil)) (blkOk_by (own := [("k", 4)]) (N := N__law_tolds) (sc := defScope s__law_tolds) (by decide +kernel)) (fun _ _ _ _ _ => (pdg_name (i := 4) sc__law_tolds.nd rfl (by first | exact Or.inl rfl | exact Or.inr rfl))) (fun _ _ _ _ _ => pdts_nil) (fun _ _ _ _ _ => (pc_ok G__law_told hr (by rfl) (Nat.le_refl _) (pda_cons (pd_var 0) (pda_cons (pd_var 1) (pda_cons (pd_var 2) pda_nil))))))) pda_nil))))
def N__law_item : List Str := ["draw", "kind", "deep", "many", "count", "shown", "k", "way", "things", "makers", "givens"]
theorem sc__law_item : FnScope N__law_item ["draw", "kind", "deep", "many"] (defScope s__law_item) := ⟨rfl, rfl, rfl, by decide +kernel, rfl, by decide +kernel, by decide +kernel⟩
def b__law_item (sp__law_next : DSp) (sp__law_small : DSp) (sp__law_great : DSp) (sp__law_pick : DSp) (sp__law_of : DSp) (sp__law_maybe_of : DSp) (sp__law_told : DSp) : DTS := (dSeq (dSet 4 (dBin aAddL (dC (.int 1)) (dCall sp__law_next (dCons (dVar 0) (dCons (dC (.int 4)) dNil)))))
  (dSeq (dIf (dCmp (cEq false) (dVar 1) (dC (.int 0)))
   (dSeq (dSetF 5 (dLc (dRng1 (dCons (dVar 4) dNil)) (dgName 6) dYes (dIfE (dCmp (cEq false) (dCall sp__law_next (dCons (dVar 0) (dCons (dC (.int 2)) dNil))) (dC (.int 0))) (dTup (dCons (dC (.str "name")) (dCons (dCall sp__law_small (dCons (dVar 0) dNil)) dNil))) (dTup (dCons (dC (.str "kind")) (dCons (dCall sp__law_great (dCons (dVar 0) dNil)) (dCons (dCall sp__law_next (dCons (dVar 0) (dCons (dC (.int 2)) dNil))) dNil))))) [6]))
  (dRet (dTup (dCons (dC (.str "face")) (dCons (dCB fTuple (dCons (dVar 5) dNil)) dNil)))))
   dNext)
  (dSeq (dIf (dCmp (cEq false) (dVar 1) (dC (.int 1)))
   (dRet (dTup (dCons (dC (.str "use")) (dCons (dCall sp__law_great (dCons (dVar 0) dNil)) (dCons (dCall sp__law_pick (dCons (dVar 0) (dCons (dFr (dLstN (dCons (dC (.str "")) (dCons (dCall sp__law_great (dCons (dVar 0) dNil)) dNil)))) dNil))) dNil)))))
   dNext)
  (dSeq (dIf (dCmp (cEq false) (dVar 1) (dC (.int 2)))
   (dSeq (dSet 7 (dCall sp__law_pick (dCons (dVar 0) (dCons (dFr (dLstN (dCons (dC (.str "all")) (dCons (dC (.str "only")) (dCons (dC (.str "hiding")) dNil))))) dNil))))
  (dSeq (dSetF 8 (dLc (dRng1 (dCons (dVar 4) dNil)) (dgName 6) dYes (dIfE (dCmp (cEq false) (dCall sp__law_next (dCons (dVar 0) (dCons (dC (.int 2)) dNil))) (dC (.int 0))) (dCall sp__law_small (dCons (dVar 0) dNil)) (dCall sp__law_great (dCons (dVar 0) dNil))) [6]))
  (dRet (dTup (dCons (dC (.str "open")) (dCons (dCall sp__law_great (dCons (dVar 0) dNil)) (dCons (dVar 7) (dCons (dIfE (dCmp (cEq false) (dVar 7) (dC (.str "all"))) (dTup dNil) (dCB fTuple (dCons (dVar 8) dNil))) dNil))))))))
   dNext)
  (dSeq (dIf (dCmp (cEq false) (dVar 1) (dC (.int 3)))
   (dSeq (dSetF 9 (dLc (dRng1 (dCons (dVar 4) dNil)) (dgName 6) dYes (dTup (dCons (dCall sp__law_great (dCons (dVar 0) dNil)) (dCons (dCB fTuple (dCons (dFr (dLc (dRng1 (dCons (dCall sp__law_next (dCons (dVar 0) (dCons (dC (.int 4)) dNil))) dNil)) (dgName 6) dYes (dCall sp__law_of (dCons (dVar 0) dNil)) [6])) dNil)) dNil))) [6]))
  (dRet (dTup (dCons (dC (.str "kind")) (dCons (dCall sp__law_great (dCons (dVar 0) dNil)) (dCons (dCB fTuple (dCons (dVar 9) dNil)) dNil))))))
   dNext)
  (dSeq (dSetF 10 (dLc (dRng1 (dCons (dCall sp__law_next (dCons (dVar 0) (dCons (dC (.int 4)) dNil))) dNil)) (dgName 6) dYes (dTup (dCons (dCall sp__law_small (dCons (dVar 0) dNil)) (dCons (dCall sp__law_maybe_of (dCons (dVar 0) dNil)) dNil))) [6]))
  (dRet (dTup (dCons (dC (.str "def")) (dCons (dCall sp__law_small (dCons (dVar 0) dNil)) (dCons (dCB fTuple (dCons (dVar 10) dNil)) (dCons (dCall sp__law_maybe_of (dCons (dVar 0) dNil)) (dCons (dCall sp__law_told (dCons (dVar 0) (dCons (dVar 2) (dCons (dNw (dLstN (dCons (dVar 3) dNil))) dNil)))) dNil)))))))))))))
theorem d__law_item {P : Program} {w : World} {K : PySem.W.Frag} {mg : Str → Option Value} {base : Heap} {sp__law_next : DSp} {sp__law_small : DSp} {sp__law_great : DSp} {sp__law_pick : DSp} {sp__law_of : DSp} {sp__law_maybe_of : DSp} {sp__law_told : DSp} (T : Txt K w mg) (G__law_next : Ok P w K mg base "_law_next" 1 ["draw", "many"] sp__law_next) (G__law_small : Ok P w K mg base "_law_small" 3 ["draw"] sp__law_small) (G__law_great : Ok P w K mg base "_law_great" 3 ["draw"] sp__law_great) (G__law_pick : Ok P w K mg base "_law_pick" 2 ["draw", "row"] sp__law_pick) (G__law_of : Ok P w K mg base "_law_of" 5 ["draw"] sp__law_of) (G__law_maybe_of : Ok P w K mg base "_law_maybe_of" 6 ["draw"] sp__law_maybe_of) (G__law_told : Ok P w K mg base "_law_told" 49 ["draw", "deep", "size"] sp__law_told) (f : Addr) (cdv : Value) (A : Around) (outer : List Env) (s : Shared) (H : Hp) (E : XK) (W : WX) (V : EW)
    (hr : Room 49 (A.deeper (envOfC "_law_item" (defScope s__law_item) s.heap.objs.size f cdv))) (tk : Takes (cxOf (L2.CX P w) P w K mg base N__law_item "_law_item" (defScope s__law_item) f cdv A outer s H E) W) : SDs W V (cxOf (L2.CX P w) P w K mg base N__law_item "_law_item" (defScope s__law_item) f cdv A outer s H E) (defBody s__law_item) (b__law_item sp__law_next sp__law_small sp__law_great sp__law_pick sp__law_of sp__law_maybe_of sp__law_told) :=
  (sds_cons (sd_set (i := 4) sc__law_item.nd rfl (by first | exact Or.inl rfl | exact Or.inr rfl) (pd_op (od_addL T.nl) pd_int (pc_ok G__law_next hr (by rfl) (by decide) (pda_cons (pd_var 0) (pda_cons pd_int pda_nil)))))
  (sds_cons (sd_if (pdt_cmp (oc_eq hr.units) (pd_var 1) pd_int)
   (sds_cons ((sd_setLcG (i := 5) (own := [("k", 6)]) rfl sc__law_item.nd rfl rfl (sw_true rfl rfl rfl (by decide +kernel)) (pdi_range1 (by rfl) T.n_range (pda_cons (pd_var 4) pda_nil)) (blkOk_by (own := [("k", 6)]) (N := N__law_item) (sc := defScope s__law_item) (by decide +kernel)) (fun _ _ _ _ _ => (pdg_name (i := 6) sc__law_item.nd rfl (by first | exact Or.inl rfl | exact Or.inr rfl))) (fun _ _ _ _ _ => pdts_nil) (fun _ _ _ _ _ => (pd_if (pdt_cmp (oc_eq hr.units) (pc_ok G__law_next hr (by rfl) (by decide) (pda_cons (pd_var 0) (pda_cons pd_int pda_nil))) pd_int) (pd_tup (pda_cons pd_str (pda_cons (pc_ok G__law_small hr (by rfl) (by decide) (pda_cons (pd_var 0) pda_nil)) pda_nil))) (pd_tup (pda_cons pd_str (pda_cons (pc_ok G__law_great hr (by rfl) (by decide) (pda_cons (pd_var 0) pda_nil)) (pda_cons (pc_ok G__law_next hr (by rfl) (by decide) (pda_cons (pd_var 0) (pda_cons pd_int pda_nil))) pda_nil))))))).2)
  (sds_one (sd_ret (pd_tup (pda_cons pd_str (pda_cons (pd_callT cd_tuple (by rfl) T.n_tuple boot_tuple (pda_cons (pd_var 5) pda_nil)) pda_nil))))))
   sds_nil)
  (sds_cons (sd_if (pdt_cmp (oc_eq hr.units) (pd_var 1) pd_int)
   (sds_one (sd_ret (pd_tup (pda_cons pd_str (pda_cons (pc_ok G__law_great hr (by rfl) (by decide) (pda_cons (pd_var 0) pda_nil)) (pda_cons (pc_ok G__law_pick hr (by rfl) (by decide) (pda_cons (pd_var 0) (pda_cons (pd_new (pdn_lst (pda_cons pd_str (pda_cons (pc_ok G__law_great hr (by rfl) (by decide) (pda_cons (pd_var 0) pda_nil)) pda_nil)))) pda_nil))) pda_nil))))))
   sds_nil)
  (sds_cons (sd_if (pdt_cmp (oc_eq hr.units) (pd_var 1) pd_int)
   (sds_cons (sd_set (i := 7) sc__law_item.nd rfl (by first | exact Or.inl rfl | exact Or.inr rfl) (pc_ok G__law_pick hr (by rfl) (by decide) (pda_cons (pd_var 0) (pda_cons (pd_new (pdn_lst (pda_cons pd_str (pda_cons pd_str (pda_cons pd_str pda_nil))))) pda_nil))))
  (sds_cons ((sd_setLcG (i := 8) (own := [("k", 6)]) rfl sc__law_item.nd rfl rfl (sw_true rfl rfl rfl (by decide +kernel)) (pdi_range1 (by rfl) T.n_range (pda_cons (pd_var 4) pda_nil)) (blkOk_by (own := [("k", 6)]) (N := N__law_item) (sc := defScope s__law_item) (by decide +kernel)) (fun _ _ _ _ _ => (pdg_name (i := 6) sc__law_item.nd rfl (by first | exact Or.inl rfl | exact Or.inr rfl))) (fun _ _ _ _ _ => pdts_nil) (fun _ _ _ _ _ => (pd_if (pdt_cmp (oc_eq hr.units) (pc_ok G__law_next hr (by rfl) (by decide) (pda_cons (pd_var 0) (pda_cons pd_int pda_nil))) pd_int) (pc_ok G__law_small hr (by rfl) (by decide) (pda_cons (pd_var 0) pda_nil)) (pc_ok G__law_great hr (by rfl) (by decide) (pda_cons (pd_var 0) pda_nil))))).2)
  (sds_one (sd_ret (pd_tup (pda_cons pd_str (pda_cons (pc_ok G__law_great hr (by rfl) (by decide) (pda_cons (pd_var 0) pda_nil)) (pda_cons (pd_var 7) (pda_cons (pd_if (pdt_cmp (oc_eq hr.units) (pd_var 7) pd_str) (pd_tup pda_nil) (pd_callT cd_tuple (by rfl) T.n_tuple boot_tuple (pda_cons (pd_var 8) pda_nil))) pda_nil)))))))))
   sds_nil)
  (sds_cons (sd_if (pdt_cmp (oc_eq hr.units) (pd_var 1) pd_int)
   (sds_cons ((sd_setLcG (i := 9) (own := [("k", 6)]) rfl sc__law_item.nd rfl rfl (sw_true rfl rfl rfl (by decide +kernel)) (pdi_range1 (by rfl) T.n_range (pda_cons (pd_var 4) pda_nil)) (blkOk_by (own := [("k", 6)]) (N := N__law_item) (sc := defScope s__law_item) (by decide +kernel)) (fun _ _ _ _ _ => (pdg_name (i := 6) sc__law_item.nd rfl (by first | exact Or.inl rfl | exact Or.inr rfl))) (fun _ _ _ _ _ => pdts_nil) (fun _ _ _ _ _ => (pd_tup (pda_cons (pc_ok G__law_great hr (by rfl) (by decide) (pda_cons (pd_var 0) pda_nil)) (pda_cons (pd_callT cd_tuple (by rfl) T.n_tuple boot_tuple (pda_cons (pd_new (pdn_lc (own := [("k", 6)]) rfl sc__law_item.nd (pdi_range1 (by rfl) T.n_range (pda_cons (pc_ok G__law_next hr (by rfl) (by decide) (pda_cons (pd_var 0) (pda_cons pd_int pda_nil))) pda_nil)) (blkOk_by (own := [("k", 6)]) (N := N__law_item) (by rfl)) (fun _ _ _ _ _ => (pdg_name (i := 6) sc__law_item.nd rfl (by first | exact Or.inl rfl | exact Or.inr rfl))) (fun _ _ _ _ _ => pdts_nil) (fun _ _ _ _ _ => (pc_ok G__law_of hr (by rfl) (by decide) (pda_cons (pd_var 0) pda_nil))))) pda_nil)) pda_nil))))).2)
  (sds_one (sd_ret (pd_tup (pda_cons pd_str (pda_cons (pc_ok G__law_great hr (by rfl) (by decide) (pda_cons (pd_var 0) pda_nil)) (pda_cons (pd_callT cd_tuple (by rfl) T.n_tuple boot_tuple (pda_cons (pd_var 9) pda_nil)) pda_nil)))))))
   sds_nil)
  (sds_cons ((sd_setLcG (i := 10) (own := [("k", 6)]) rfl sc__law_item.nd rfl rfl (sw_true rfl rfl rfl (by decide +kernel)) (pdi_range1 (by rfl) T.n_range (pda_cons (pc_ok G__law_next hr (by rfl) (by decide) (pda_cons (pd_var 0) (pda_cons pd_int pda_nil))) pda_nil)) (blkOk_by (own := [("k", 6)]) (N := N__law_item) (sc := defScope s__law_item) (by decide +kernel)) (fun _ _ _ _ _ => (pdg_name (i := 6) sc__law_item.nd rfl (by first | exact Or.inl rfl | exact Or.inr rfl))) (fun _ _ _ _ _ => pdts_nil) (fun _ _ _ _ _ => (pd_tup (pda_cons (pc_ok G__law_small hr (by rfl) (by decide) (pda_cons (pd_var 0) pda_nil)) (pda_cons (pc_ok G__law_maybe_of hr (by rfl) (by decide) (pda_cons (pd_var 0) pda_nil)) pda_nil))))).2)
  (sds_one (sd_ret (pd_tup (pda_cons pd_str (pda_cons (pc_ok G__law_small hr (by rfl) (by decide) (pda_cons (pd_var 0) pda_nil)) (pda_cons (pd_callT cd_tuple (by rfl) T.n_tuple boot_tuple (pda_cons (pd_var 10) pda_nil)) (pda_cons (pc_ok G__law_maybe_of hr (by rfl) (by decide) (pda_cons (pd_var 0) pda_nil)) (pda_cons (pc_ok G__law_told hr (by rfl) (by decide) (pda_cons (pd_var 0) (pda_cons (pd_var 2) (pda_cons (pd_newS (pdn_lst (pda_cons (pd_var 3) pda_nil))) pda_nil)))) pda_nil))))))))))))))
def N__law_same : List Str := ["one", "other", "k"]
theorem sc__law_same : FnScope N__law_same ["one", "other"] (defScope s__law_same) := ⟨rfl, rfl, rfl, by decide +kernel, rfl, by decide +kernel, by decide +kernel⟩
def b__law_same (sp__law_same : DSp) : DTS := (dSeq (dIf (dOr (dTru (dIsi "bool" (dVar 0))) (dTru (dIsi "bool" (dVar 1))))
   (dRet (dC (.bool false)))
   dNext)
  (dSeq (dIf (dAnd (dTru (dIsi "tuple" (dVar 0))) (dTru (dIsi "tuple" (dVar 1))))
   (dRet (dAndV (dB (dCmp (cEq false) (dCB fLen (dCons (dVar 0) dNil)) (dCB fLen (dCons (dVar 1) dNil)))) (dCB fAll (dCons (dFr (dLc (dRng1 (dCons (dCB fLen (dCons (dVar 0) dNil)) dNil)) (dgName 2) dYes (dCall sp__law_same (dCons (dIx (dVar 0) (dVar 2)) (dCons (dIx (dVar 1) (dVar 2)) dNil))) [2])) dNil))))
   dNext)
  (dSeq (dIf (dAnd (dTru (dIsi "int" (dVar 0))) (dTru (dIsi "int" (dVar 1))))
   (dRet (dB (dCmp (cEq false) (dVar 0) (dVar 1))))
   dNext)
  (dSeq (dIf (dAnd (dTru (dIsi "str" (dVar 0))) (dTru (dIsi "str" (dVar 1))))
   (dRet (dB (dCmp (cEq false) (dVar 0) (dVar 1))))
   dNext)
  (dRet (dAndV (dB (dCmp (cIs false) (dVar 0) (dC .none))) (dB (dCmp (cIs false) (dVar 1) (dC .none)))))))))
theorem d__law_same {P : Program} {w : World} {K : PySem.W.Frag} {mg : Str → Option Value} {base : Heap} {n : Nat} {sp__law_same : DSp} (T : Txt K w mg) (G__law_same : Ok P w K mg base "_law_same" (0 + n) ["one", "other"] sp__law_same) (f : Addr) (cdv : Value) (A : Around) (outer : List Env) (s : Shared) (H : Hp) (E : XK) (W : WX) (V : EW)
    (hr : Room (0 + n) (A.deeper (envOfC "_law_same" (defScope s__law_same) s.heap.objs.size f cdv))) (tk : Takes (cxOf (L2.CX P w) P w K mg base N__law_same "_law_same" (defScope s__law_same) f cdv A outer s H E) W) : SDs W V (cxOf (L2.CX P w) P w K mg base N__law_same "_law_same" (defScope s__law_same) f cdv A outer s H E) (defBody s__law_same) (b__law_same sp__law_same) :=
  (sds_cons (sd_if (PDW.pt (pdw_or (pdt_tru (pd_isi (by rfl) T.n_isinstance (by rfl) T.n_bool (by decide +kernel) (pd_var 0))) (pdw_or1 (pdt_tru (pd_isi (by rfl) T.n_isinstance (by rfl) T.n_bool (by decide +kernel) (pd_var 1))))))
   (sds_one (sd_ret pd_bl))
   sds_nil)
  (sds_cons (sd_if (PDW.pt (pdw_and (pdt_tru (pd_isi (by rfl) T.n_isinstance (by rfl) T.n_tuple (by decide +kernel) (pd_var 0))) (pdw_and1 (pdt_tru (pd_isi (by rfl) T.n_isinstance (by rfl) T.n_tuple (by decide +kernel) (pd_var 1))))))
   (sds_one (sd_ret (pd_and (pd_cmp (oc_eq hr.units) (pd_callB cd_len (by rfl) T.n_len PySem.boot_len (pda_cons (pd_var 0) pda_nil)) (pd_callB cd_len (by rfl) T.n_len PySem.boot_len (pda_cons (pd_var 1) pda_nil))) (pd_one (pd_callB (cd_all rfl) (by rfl) T.n_all (by decide +kernel) (pda_cons (pd_new (pdn_lc (own := [("k", 2)]) rfl sc__law_same.nd (pdi_range1 (by rfl) T.n_range (pda_cons (pd_callB cd_len (by rfl) T.n_len PySem.boot_len (pda_cons (pd_var 0) pda_nil)) pda_nil)) (blkOk_by (own := [("k", 2)]) (N := N__law_same) (sc := defScope s__law_same) (by decide +kernel)) (fun _ _ _ _ _ => (pdg_name (i := 2) sc__law_same.nd rfl (by first | exact Or.inl rfl | exact Or.inr rfl))) (fun _ _ _ _ _ => pdts_nil) (fun _ _ _ _ _ => (pc_ok G__law_same hr (by rfl) (Nat.le_refl _) (pda_cons (pd_ix (pd_var 0) (pd_var 2)) (pda_cons (pd_ix (pd_var 1) (pd_var 2)) pda_nil)))))) pda_nil))))))
   sds_nil)
  (sds_cons (sd_if (PDW.pt (pdw_and (pdt_tru (pd_isi (by rfl) T.n_isinstance (by rfl) T.n_int (by decide +kernel) (pd_var 0))) (pdw_and1 (pdt_tru (pd_isi (by rfl) T.n_isinstance (by rfl) T.n_int (by decide +kernel) (pd_var 1))))))
   (sds_one (sd_ret (pd_cmp (oc_eq hr.units) (pd_var 0) (pd_var 1))))
   sds_nil)
  (sds_cons (sd_if (PDW.pt (pdw_and (pdt_tru (pd_isi (by rfl) T.n_isinstance (by rfl) T.n_str (by decide +kernel) (pd_var 0))) (pdw_and1 (pdt_tru (pd_isi (by rfl) T.n_isinstance (by rfl) T.n_str (by decide +kernel) (pd_var 1))))))
   (sds_one (sd_ret (pd_cmp (oc_eq hr.units) (pd_var 0) (pd_var 1))))
   sds_nil)
  (sds_one (sd_ret (pd_and (pd_cmp oc_is (pd_var 0) pd_non) (pd_one (pd_cmp oc_is (pd_var 1) pd_non)))))))))
def N__law_tokens : List Str := ["row", "words", "tokens", "part", "sort"]
theorem sc__law_tokens : FnScope N__law_tokens ["row"] (defScope s__law_tokens) := ⟨rfl, rfl, rfl, by decide +kernel, rfl, by decide +kernel, by decide +kernel⟩
def b__law_tokens : DTS := (dSeq (dSet 1 (dM mSplit (dC (.str "face use as open hiding kind def let in if then else case of end")) (dCons (dC (.str " ")) dNil)))
  (dSeq (dSet 2 (dNw (dLstN dNil)))
  (dSeq (dFor (dIterE (dVar 0)) (dgName 3)
   (dSeq (dSet 4 (dC (.str "sign")))
  (dSeq (dIf (dCmp (cIn false) (dIx (dVar 3) (dC (.int 0))) (dC (.str "abcdefghijklmnopqrstuvwxyz")))
   (dSet 4 (dIfE (dCmp (cIn false) (dVar 3) (dVar 1)) (dC (.str "word")) (dC (.str "name"))))
   dNext)
  (dSeq (dIf (dCmp (cIn false) (dIx (dVar 3) (dC (.int 0))) (dC (.str "ABCDEFGHIJKLMNOPQRSTUVWXYZ")))
   (dSet 4 (dC (.str "Name")))
   dNext)
  (dDrop (dApp (dVar 2) (dTup (dCons (dVar 4) (dCons (dVar 3) dNil)))))))))
  (dRet (dCB fTuple (dCons (dVar 2) dNil))))))
theorem d__law_tokens {P : Program} {w : World} {K : PySem.W.Frag} {mg : Str → Option Value} {base : Heap} (T : Txt K w mg) (f : Addr) (cdv : Value) (A : Around) (outer : List Env) (s : Shared) (H : Hp) (E : XK) (W : WX) (V : EW)
    (hr : Room 0 (A.deeper (envOfC "_law_tokens" (defScope s__law_tokens) s.heap.objs.size f cdv))) (tk : Takes (cxOf (L2.CX P w) P w K mg base N__law_tokens "_law_tokens" (defScope s__law_tokens) f cdv A outer s H E) W) : SDs W V (cxOf (L2.CX P w) P w K mg base N__law_tokens "_law_tokens" (defScope s__law_tokens) f cdv A outer s H E) (defBody s__law_tokens) (b__law_tokens) :=
  (sds_cons (sd_set (i := 1) sc__law_tokens.nd rfl (by first | exact Or.inl rfl | exact Or.inr rfl) (pd_m1 PySem.F.slot_str_split PySem.F.type_str_split md_split pd_str pd_str))
  (sds_cons (sd_set (i := 2) sc__law_tokens.nd rfl (by first | exact Or.inl rfl | exact Or.inr rfl) (pd_newS (pdn_lst pda_nil)))
  (sds_cons (sd_for (passes_of rfl) rfl (pdi_e (pd_var 0)) (pdg_name (i := 3) sc__law_tokens.nd rfl (by first | exact Or.inl rfl | exact Or.inr rfl))
   (sds_cons (sd_set (i := 4) sc__law_tokens.nd rfl (by first | exact Or.inl rfl | exact Or.inr rfl) pd_str)
  (sds_cons (sd_if (pdt_cmp oc_in (pd_ix (pd_var 3) pd_int) pd_str)
   (sds_one (sd_set (i := 4) sc__law_tokens.nd rfl (by first | exact Or.inl rfl | exact Or.inr rfl) (pd_if (pdt_cmp oc_in (pd_var 3) (pd_var 1)) pd_str pd_str)))
   sds_nil)
  (sds_cons (sd_if (pdt_cmp oc_in (pd_ix (pd_var 3) pd_int) pd_str)
   (sds_one (sd_set (i := 4) sc__law_tokens.nd rfl (by first | exact Or.inl rfl | exact Or.inr rfl) pd_str))
   sds_nil)
  (sds_one (sd_expr (pd_append (pd_var 2) (pd_tup (pda_cons (pd_var 4) (pda_cons (pd_var 3) pda_nil))))))))))
  (sds_one (sd_ret (pd_callT cd_tuple (by rfl) T.n_tuple boot_tuple (pda_cons (pd_var 2) pda_nil)))))))
def N_ItemWalk__m___init__ : List Str := ["self"]
theorem sc_ItemWalk__m___init__ : FnScope N_ItemWalk__m___init__ ["self"] (defScope s_ItemWalk__m___init__) := ⟨rfl, rfl, rfl, by decide +kernel, rfl, by decide +kernel, by decide +kernel⟩
def b_ItemWalk__m___init__ : DTS := (dSeq (dSetFld "ItemWalk" "due" (dVar 0) (dNw (dLstN (dCons (dC (.str "ITEM")) dNil))))
  (dSeq (dSetFld "ItemWalk" "made" (dVar 0) (dLs (dCons (dNw (dLstN dNil)) dNil)))
  (dSetFld "ItemWalk" "depth" (dVar 0) (dC (.int 0)))))
theorem d_ItemWalk__m___init__ {P : Program} {w : World} {K : PySem.W.Frag} {mg : Str → Option Value} {base : Heap} (T : Txt K w mg) (f : Addr) (cdv : Value) (A : Around) (outer : List Env) (s : Shared) (H : Hp) (E : XK) (W : WX) (V : EW)
    (hr : Room 0 (A.deeper (envOfC "ItemWalk.__init__" (defScope s_ItemWalk__m___init__) s.heap.objs.size f cdv))) (tk : Takes (cxOf (L2.CX P w) P w K mg base N_ItemWalk__m___init__ "ItemWalk.__init__" (defScope s_ItemWalk__m___init__) f cdv A outer s H E) W) : SDs W V (cxOf (L2.CX P w) P w K mg base N_ItemWalk__m___init__ "ItemWalk.__init__" (defScope s_ItemWalk__m___init__) f cdv A outer s H E) (defBody s_ItemWalk__m___init__) (b_ItemWalk__m___init__) :=
  (sds_cons (sd_setFld T.f_ItemWalk_due (pd_var 0) (pd_newS (pdn_lst (pda_cons pd_str pda_nil))))
  (sds_cons (sd_setFld T.f_ItemWalk_made (pd_var 0) (pd_ls (pda_cons (pd_newS (pdn_lst pda_nil)) pda_nil)))
  (sds_one (sd_setFld T.f_ItemWalk_depth (pd_var 0) pd_int))))
def N_ItemWalk__m_expand : List Str := ["self", "symbol", "sign", "could", "firsts", "rest"]
theorem sc_ItemWalk__m_expand : FnScope N_ItemWalk__m_expand ["self", "symbol", "sign", "could"] (defScope s_ItemWalk__m_expand) := ⟨rfl, rfl, rfl, by decide +kernel, rfl, by decide +kernel, by decide +kernel⟩
def b_ItemWalk__m_expand : DTS := (dSeq (dFor (dIterE (dTabIx t_RULES (dVar 1))) (dgTup 2 (dgsCons (dgName 4) (dgsCons (dgName 5) dgsNil)))
   (dSeq (dIf (dOr (dNot (dTru (dVar 4))) (dCmp (cIn false) (dVar 2) (dM mWords (dVar 4) dNil)))
   (dSeq (dDrop (dExt (dFld "ItemWalk" "due" (dVar 0)) (dFr (dRevN (dM mWords (dVar 5) dNil)))))
  (dRet (dC (.bool true))))
   dNext)
  (dDrop (dExt (dVar 3) (dM mWords (dVar 4) dNil)))))
  (dRet (dC (.bool false))))
theorem d_ItemWalk__m_expand {P : Program} {w : World} {K : PySem.W.Frag} {mg : Str → Option Value} {base : Heap} (T : Txt K w mg) (f : Addr) (cdv : Value) (A : Around) (outer : List Env) (s : Shared) (H : Hp) (E : XK) (W : WX) (V : EW)
    (hr : Room 0 (A.deeper (envOfC "ItemWalk.expand" (defScope s_ItemWalk__m_expand) s.heap.objs.size f cdv))) (tk : Takes (cxOf (L2.CX P w) P w K mg base N_ItemWalk__m_expand "ItemWalk.expand" (defScope s_ItemWalk__m_expand) f cdv A outer s H E) W) : SDs W V (cxOf (L2.CX P w) P w K mg base N_ItemWalk__m_expand "ItemWalk.expand" (defScope s_ItemWalk__m_expand) f cdv A outer s H E) (defBody s_ItemWalk__m_expand) (b_ItemWalk__m_expand) :=
  (sds_cons (sd_for (passes_of rfl) rfl (pdi_e (pd_tabIx T.t_RULES (by rfl) (pd_var 1))) (pdg_tup rfl (pdgs_cons (pdg_name (i := 4) sc_ItemWalk__m_expand.nd rfl (by first | exact Or.inl rfl | exact Or.inr rfl)) (pdgs_cons (pdg_name (i := 5) sc_ItemWalk__m_expand.nd rfl (by first | exact Or.inl rfl | exact Or.inr rfl)) pdgs_nil)))
   (sds_cons (sd_if (PDW.pt (pdw_or (pdt_not (pdt_tru (pd_var 4))) (pdw_or1 (pdt_cmp oc_in (pd_var 2) (pd_m0 PySem.F.slot_str_split PySem.F.type_str_split md_words (pd_var 4))))))
   (sds_cons (sd_expr (pd_extend T.nl (pd_fld T.f_ItemWalk_due (pd_var 0)) (pd_new (pdn_rev (pd_m0 PySem.F.slot_str_split PySem.F.type_str_split md_words (pd_var 5))))))
  (sds_one (sd_ret pd_bl)))
   sds_nil)
  (sds_one (sd_expr (pd_extend T.nl (pd_var 3) (pd_m0 PySem.F.slot_str_split PySem.F.type_str_split md_words (pd_var 4)))))))
  (sds_one (sd_ret pd_bl)))
def N_ItemWalk__m_act : List Str := ["self", "symbol", "mark", "done", "side"]
theorem sc_ItemWalk__m_act : FnScope N_ItemWalk__m_act ["self", "symbol"] (defScope s_ItemWalk__m_act) := ⟨rfl, rfl, rfl, by decide +kernel, rfl, by decide +kernel, by decide +kernel⟩
def b_ItemWalk__m_act : DTS := (dSeq (dSet 2 (dIx (dVar 1) (dC (.int 0))))
  (dIf (dCmp (cEq false) (dVar 2) (dC (.str "<")))
   (dDrop (dApp (dFld "ItemWalk" "made" (dVar 0)) (dNw (dLstN dNil))))
   (dIf (dCmp (cEq false) (dVar 2) (dC (.str ">")))
   (dSeq (dSet 3 (dCB fTuple (dCons (dPop (dFld "ItemWalk" "made" (dVar 0))) dNil)))
  (dDrop (dApp (dIx (dFld "ItemWalk" "made" (dVar 0)) (dUn aNeg (dC (.int 1)))) (dVar 3))))
   (dIf (dCmp (cEq false) (dVar 2) (dC (.str "'")))
   (dDrop (dApp (dIx (dFld "ItemWalk" "made" (dVar 0)) (dUn aNeg (dC (.int 1)))) (dTabGet t_PIECES (dVar 1) (dSl (dVar 1) (doSome (dC (.int 1))) doNone))))
   (dIf (dCmp (cEq false) (dVar 2) (dC (.str "^")))
   (dDrop (dIns0 (dIx (dFld "ItemWalk" "made" (dVar 0)) (dUn aNeg (dC (.int 1)))) (dSl (dVar 1) (doSome (dC (.int 1))) doNone)))
   (dIf (dCmp (cEq false) (dVar 1) (dC (.str "!same")))
   (dSeq (dSet 4 (dPop (dIx (dFld "ItemWalk" "made" (dVar 0)) (dUn aNeg (dC (.int 1))))))
  (dDrop (dApp (dFld "ItemWalk" "made" (dVar 0)) (dNw (dLstN (dCons (dC (.str "same")) (dCons (dVar 4) dNil)))))))
   (dAugFld "ItemWalk" "depth" (dVar 0) (dC (.int 1)) (· - ·))))))))
theorem d_ItemWalk__m_act {P : Program} {w : World} {K : PySem.W.Frag} {mg : Str → Option Value} {base : Heap} (T : Txt K w mg) (f : Addr) (cdv : Value) (A : Around) (outer : List Env) (s : Shared) (H : Hp) (E : XK) (W : WX) (V : EW)
    (hr : Room 0 (A.deeper (envOfC "ItemWalk.act" (defScope s_ItemWalk__m_act) s.heap.objs.size f cdv))) (tk : Takes (cxOf (L2.CX P w) P w K mg base N_ItemWalk__m_act "ItemWalk.act" (defScope s_ItemWalk__m_act) f cdv A outer s H E) W) : SDs W V (cxOf (L2.CX P w) P w K mg base N_ItemWalk__m_act "ItemWalk.act" (defScope s_ItemWalk__m_act) f cdv A outer s H E) (defBody s_ItemWalk__m_act) (b_ItemWalk__m_act) :=
  (sds_cons (sd_set (i := 2) sc_ItemWalk__m_act.nd rfl (by first | exact Or.inl rfl | exact Or.inr rfl) (pd_ix (pd_var 1) pd_int))
  (sds_one (sd_if (pdt_cmp (oc_eq hr.units) (pd_var 2) pd_str)
   (sds_one (sd_expr (pd_append (pd_fld T.f_ItemWalk_made (pd_var 0)) (pd_newS (pdn_lst pda_nil)))))
   (sds_one (sd_if (pdt_cmp (oc_eq hr.units) (pd_var 2) pd_str)
   (sds_cons (sd_set (i := 3) sc_ItemWalk__m_act.nd rfl (by first | exact Or.inl rfl | exact Or.inr rfl) (pd_callT cd_tuple (by rfl) T.n_tuple boot_tuple (pda_cons (pd_pop (pd_fld T.f_ItemWalk_made (pd_var 0))) pda_nil)))
  (sds_one (sd_expr (pd_append (pd_ix (pd_fld T.f_ItemWalk_made (pd_var 0)) (pd_neg pd_int)) (pd_var 3)))))
   (sds_one (sd_if (pdt_cmp (oc_eq hr.units) (pd_var 2) pd_str)
   (sds_one (sd_expr (pd_append (pd_ix (pd_fld T.f_ItemWalk_made (pd_var 0)) (pd_neg pd_int)) (pd_tabGet T.t_PIECES (by rfl) (pd_var 1) (pd_slice (pd_var 1) (pdo_some pd_int) pdo_none) ⟨rfl, rfl, rfl, rfl⟩))))
   (sds_one (sd_if (pdt_cmp (oc_eq hr.units) (pd_var 2) pd_str)
   (sds_one (sd_expr (pd_insert0 (pd_ix (pd_fld T.f_ItemWalk_made (pd_var 0)) (pd_neg pd_int)) (pd_slice (pd_var 1) (pdo_some pd_int) pdo_none))))
   (sds_one (sd_if (pdt_cmp (oc_eq hr.units) (pd_var 1) pd_str)
   (sds_cons (sd_set (i := 4) sc_ItemWalk__m_act.nd rfl (by first | exact Or.inl rfl | exact Or.inr rfl) (pd_pop (pd_ix (pd_fld T.f_ItemWalk_made (pd_var 0)) (pd_neg pd_int))))
  (sds_one (sd_expr (pd_append (pd_fld T.f_ItemWalk_made (pd_var 0)) (pd_newS (pdn_lst (pda_cons pd_str (pda_cons (pd_var 4) pda_nil))))))))
   (sds_one (augFld in_sub T.f_ItemWalk_depth (pd_var 0) pd_int)))))))))))))
def N_ItemWalk__m_meet : List Str := ["self", "sign", "could", "symbol"]
theorem sc_ItemWalk__m_meet : FnScope N_ItemWalk__m_meet ["self", "sign"] (defScope s_ItemWalk__m_meet) := ⟨rfl, rfl, rfl, by decide +kernel, rfl, by decide +kernel, by decide +kernel⟩
def b_ItemWalk__m_meet (sp_ItemWalk__m_expand : DSp) (sp_ItemWalk__m_act : DSp) : DTS := (dSeq (dSet 2 (dNw (dLstN dNil)))
  (dSeq (dWhile (dTru (dFld "ItemWalk" "due" (dVar 0)))
   (dSeq (dSet 3 (dPop (dFld "ItemWalk" "due" (dVar 0))))
  (dSeq (dIf (dCmp (cEq false) (dVar 3) (dVar 1))
   (dRet (dC .none))
   dNext)
  (dIf (dTabIn false t_RULES (dVar 3))
   (dIf (dNot (dTru (dMeth "ItemWalk" "expand" sp_ItemWalk__m_expand (dVar 0) (dCons (dVar 3) (dCons (dVar 1) (dCons (dVar 2) dNil))))))
   (dRet (dFz (dVar 2)))
   dNext)
   (dIf (dCmp (cIn false) (dIx (dVar 3) (dC (.int 0))) (dC (.str "<>'^!")))
   (dDrop (dMeth "ItemWalk" "act" sp_ItemWalk__m_act (dVar 0) (dCons (dVar 3) dNil)))
   (dSeq (dDrop (dApp (dVar 2) (dVar 3)))
  (dRet (dFz (dVar 2)))))))))
  (dRet (dFz (dVar 2)))))
theorem d_ItemWalk__m_meet {P : Program} {w : World} {K : PySem.W.Frag} {mg : Str → Option Value} {base : Heap} {sp_ItemWalk__m_expand : DSp} {sp_ItemWalk__m_act : DSp} (T : Txt K w mg) (G_ItemWalk__m_expand : MethOk P w K mg base "ItemWalk" "expand" 1 ["self", "symbol", "sign", "could"] sp_ItemWalk__m_expand) (G_ItemWalk__m_act : MethOk P w K mg base "ItemWalk" "act" 1 ["self", "symbol"] sp_ItemWalk__m_act) (f : Addr) (cdv : Value) (A : Around) (outer : List Env) (s : Shared) (H : Hp) (E : XK) (W : WX) (V : EW)
    (hr : Room 1 (A.deeper (envOfC "ItemWalk.meet" (defScope s_ItemWalk__m_meet) s.heap.objs.size f cdv))) (tk : Takes (cxOf (L2.CX P w) P w K mg base N_ItemWalk__m_meet "ItemWalk.meet" (defScope s_ItemWalk__m_meet) f cdv A outer s H E) W) : SDs W V (cxOf (L2.CX P w) P w K mg base N_ItemWalk__m_meet "ItemWalk.meet" (defScope s_ItemWalk__m_meet) f cdv A outer s H E) (defBody s_ItemWalk__m_meet) (b_ItemWalk__m_meet sp_ItemWalk__m_expand sp_ItemWalk__m_act) :=
  (sds_cons (sd_set (i := 2) sc_ItemWalk__m_meet.nd rfl (by first | exact Or.inl rfl | exact Or.inr rfl) (pd_newS (pdn_lst pda_nil)))
  (sds_cons (sd_while (passes_of rfl) (pdt_tru (pd_fld T.f_ItemWalk_due (pd_var 0)))
   (sds_cons (sd_set (i := 3) sc_ItemWalk__m_meet.nd rfl (by first | exact Or.inl rfl | exact Or.inr rfl) (pd_pop (pd_fld T.f_ItemWalk_due (pd_var 0))))
  (sds_cons (sd_if (pdt_cmp (oc_eq hr.units) (pd_var 3) (pd_var 1))
   (sds_one (sd_ret pd_non))
   sds_nil)
  (sds_one (sd_if (pdt_tabIn T.t_RULES (by rfl) (pd_var 3))
   (sds_one (sd_if (pdt_not (pdt_tru (pd_meth G_ItemWalk__m_expand hr (by decide) (pd_var 0) (pda_cons (pd_var 3) (pda_cons (pd_var 1) (pda_cons (pd_var 2) pda_nil))))))
   (sds_one (sd_ret (pd_frz (pd_var 2))))
   sds_nil))
   (sds_one (sd_if (pdt_cmp oc_in (pd_ix (pd_var 3) pd_int) pd_str)
   (sds_one (sd_expr (pd_meth G_ItemWalk__m_act hr (by decide) (pd_var 0) (pda_cons (pd_var 3) pda_nil))))
   (sds_cons (sd_expr (pd_append (pd_var 2) (pd_var 3)))
  (sds_one (sd_ret (pd_frz (pd_var 2))))))))))))
  (sds_one (sd_ret (pd_frz (pd_var 2))))))
def N_ItemWalk__m_take : List Str := ["self", "token"]
theorem sc_ItemWalk__m_take : FnScope N_ItemWalk__m_take ["self", "token"] (defScope s_ItemWalk__m_take) := ⟨rfl, rfl, rfl, by decide +kernel, rfl, by decide +kernel, by decide +kernel⟩
def b_ItemWalk__m_take : DTS := (dIf (dCmp (cIn false) (dIx (dVar 1) (dC (.int 0))) (dTup (dCons (dC (.str "name")) (dCons (dC (.str "Name")) dNil))))
   (dDrop (dApp (dIx (dFld "ItemWalk" "made" (dVar 0)) (dUn aNeg (dC (.int 1)))) (dIx (dVar 1) (dC (.int 1)))))
   (dIf (dCmp (cIn false) (dIx (dVar 1) (dC (.int 1))) (dC k_DEEPENING))
   (dAugFld "ItemWalk" "depth" (dVar 0) (dC (.int 1)) (· + ·))
   (dIf (dCmp (cIn false) (dIx (dVar 1) (dC (.int 1))) (dTup (dCons (dC (.str ")")) (dCons (dC (.str "end")) dNil))))
   (dAugFld "ItemWalk" "depth" (dVar 0) (dC (.int 1)) (· - ·))
   dNext)))
theorem d_ItemWalk__m_take {P : Program} {w : World} {K : PySem.W.Frag} {mg : Str → Option Value} {base : Heap} (T : Txt K w mg) (f : Addr) (cdv : Value) (A : Around) (outer : List Env) (s : Shared) (H : Hp) (E : XK) (W : WX) (V : EW)
    (hr : Room 0 (A.deeper (envOfC "ItemWalk.take" (defScope s_ItemWalk__m_take) s.heap.objs.size f cdv))) (tk : Takes (cxOf (L2.CX P w) P w K mg base N_ItemWalk__m_take "ItemWalk.take" (defScope s_ItemWalk__m_take) f cdv A outer s H E) W) : SDs W V (cxOf (L2.CX P w) P w K mg base N_ItemWalk__m_take "ItemWalk.take" (defScope s_ItemWalk__m_take) f cdv A outer s H E) (defBody s_ItemWalk__m_take) (b_ItemWalk__m_take) :=
  (sds_one (sd_if (pdt_cmp oc_in (pd_ix (pd_var 1) pd_int) (pd_tup (pda_cons pd_str (pda_cons pd_str pda_nil))))
   (sds_one (sd_expr (pd_append (pd_ix (pd_fld T.f_ItemWalk_made (pd_var 0)) (pd_neg pd_int)) (pd_ix (pd_var 1) pd_int))))
   (sds_one (sd_if (pdt_cmp oc_in (pd_ix (pd_var 1) pd_int) (T.k_DEEPENING rfl rfl (by rfl)))
   (sds_one (augFld in_add T.f_ItemWalk_depth (pd_var 0) pd_int))
   (sds_one (sd_if (pdt_cmp oc_in (pd_ix (pd_var 1) pd_int) (pd_tup (pda_cons pd_str (pda_cons pd_str pda_nil))))
   (sds_one (augFld in_sub T.f_ItemWalk_depth (pd_var 0) pd_int))
   sds_nil))))))
def N_terminal : List Str := ["token"]
theorem sc_terminal : FnScope N_terminal ["token"] (defScope s_terminal) := ⟨rfl, rfl, rfl, by decide +kernel, rfl, by decide +kernel, by decide +kernel⟩
def b_terminal : DTS := (dSeq (dIf (dCmp (cIn false) (dIx (dVar 0) (dC (.int 0))) (dTup (dCons (dC (.str "name")) (dCons (dC (.str "Name")) dNil))))
   (dRet (dIx (dVar 0) (dC (.int 0))))
   dNext)
  (dSeq (dIf (dCmp (cIn false) (dIx (dVar 0) (dC (.int 0))) (dTup (dCons (dC (.str "word")) (dCons (dC (.str "sign")) dNil))))
   (dRet (dIx (dVar 0) (dC (.int 1))))
   dNext)
  (dRet (dC (.str "")))))
theorem d_terminal {P : Program} {w : World} {K : PySem.W.Frag} {mg : Str → Option Value} {base : Heap} (T : Txt K w mg) (f : Addr) (cdv : Value) (A : Around) (outer : List Env) (s : Shared) (H : Hp) (E : XK) (W : WX) (V : EW)
    (hr : Room 0 (A.deeper (envOfC "terminal" (defScope s_terminal) s.heap.objs.size f cdv))) (tk : Takes (cxOf (L2.CX P w) P w K mg base N_terminal "terminal" (defScope s_terminal) f cdv A outer s H E) W) : SDs W V (cxOf (L2.CX P w) P w K mg base N_terminal "terminal" (defScope s_terminal) f cdv A outer s H E) (defBody s_terminal) (b_terminal) :=
  (sds_cons (sd_if (pdt_cmp oc_in (pd_ix (pd_var 0) pd_int) (pd_tup (pda_cons pd_str (pda_cons pd_str pda_nil))))
   (sds_one (sd_ret (pd_ix (pd_var 0) pd_int)))
   sds_nil)
  (sds_cons (sd_if (pdt_cmp oc_in (pd_ix (pd_var 0) pd_int) (pd_tup (pda_cons pd_str (pda_cons pd_str pda_nil))))
   (sds_one (sd_ret (pd_ix (pd_var 0) pd_int)))
   sds_nil)
  (sds_one (sd_ret pd_str))))
def N_read_item : List Str := ["stretch", "walk", "place", "token", "could"]
theorem sc_read_item : FnScope N_read_item ["stretch"] (defScope s_read_item) := ⟨rfl, rfl, rfl, by decide +kernel, rfl, by decide +kernel, by decide +kernel⟩
def b_read_item (sp_ItemWalk__m___init__ : DSp) (sp_ItemWalk__m_meet : DSp) (sp_terminal : DSp) (sp_ItemWalk__m_take : DSp) : DTS := (dSeq (dSet 1 (dMake "ItemWalk" sp_ItemWalk__m___init__ dNil))
  (dSeq (dFor (dEnumT (dVar 0)) (dgTup 2 (dgsCons (dgName 2) (dgsCons (dgName 3) dgsNil)))
   (dSeq (dSet 4 (dMeth "ItemWalk" "meet" sp_ItemWalk__m_meet (dVar 1) (dCons (dCall sp_terminal (dCons (dVar 3) dNil)) dNil)))
  (dSeq (dIf (dCmp (cIs true) (dVar 4) (dC .none))
   dNever
   dNext)
  (dSeq (dIf (dCmp cGt (dFld "ItemWalk" "depth" (dVar 1)) (dC k_DEEPEST))
   (dRet (dTup (dCons (dC (.str "deep")) (dCons (dVar 2) dNil))))
   dNext)
  (dDrop (dMeth "ItemWalk" "take" sp_ItemWalk__m_take (dVar 1) (dCons (dVar 3) dNil)))))))
  (dSeq (dSet 4 (dMeth "ItemWalk" "meet" sp_ItemWalk__m_meet (dVar 1) (dCons (dC (.str "")) dNil)))
  (dSeq (dIf (dTru (dVar 4))
   dNever
   dNext)
  (dRet (dIx (dIx (dFld "ItemWalk" "made" (dVar 1)) (dC (.int 0))) (dC (.int 0))))))))
theorem d_read_item {P : Program} {w : World} {K : PySem.W.Frag} {mg : Str → Option Value} {base : Heap} {sp_ItemWalk__m___init__ : DSp} {sp_ItemWalk__m_meet : DSp} {sp_terminal : DSp} {sp_ItemWalk__m_take : DSp} (T : Txt K w mg) (G_ItemWalk__m___init__ : MakeOk P w K mg base "ItemWalk" 1 ["self"] sp_ItemWalk__m___init__) (G_ItemWalk__m_meet : MethOk P w K mg base "ItemWalk" "meet" 2 ["self", "sign"] sp_ItemWalk__m_meet) (G_terminal : Ok P w K mg base "terminal" 1 ["token"] sp_terminal) (G_ItemWalk__m_take : MethOk P w K mg base "ItemWalk" "take" 1 ["self", "token"] sp_ItemWalk__m_take) (f : Addr) (cdv : Value) (A : Around) (outer : List Env) (s : Shared) (H : Hp) (E : XK) (W : WX) (V : EW)
    (hr : Room 2 (A.deeper (envOfC "read_item" (defScope s_read_item) s.heap.objs.size f cdv))) (tk : Takes (cxOf (L2.CX P w) P w K mg base N_read_item "read_item" (defScope s_read_item) f cdv A outer s H E) W) : SDs W V (cxOf (L2.CX P w) P w K mg base N_read_item "read_item" (defScope s_read_item) f cdv A outer s H E) (defBody s_read_item) (b_read_item sp_ItemWalk__m___init__ sp_ItemWalk__m_meet sp_terminal sp_ItemWalk__m_take) :=
  (sds_cons (sd_set (i := 1) sc_read_item.nd rfl (by first | exact Or.inl rfl | exact Or.inr rfl) (pd_make0 G_ItemWalk__m___init__ hr (by rfl) (by decide)))
  (sds_cons (sd_for (passes_of rfl) rfl (pdi_enumT (by rfl) T.n_enumerate (pd_var 0)) (pdg_tup rfl (pdgs_cons (pdg_name (i := 2) sc_read_item.nd rfl (by first | exact Or.inl rfl | exact Or.inr rfl)) (pdgs_cons (pdg_name (i := 3) sc_read_item.nd rfl (by first | exact Or.inl rfl | exact Or.inr rfl)) pdgs_nil)))
   (sds_cons (sd_set (i := 4) sc_read_item.nd rfl (by first | exact Or.inl rfl | exact Or.inr rfl) (pd_meth G_ItemWalk__m_meet hr (by decide) (pd_var 1) (pda_cons (pc_ok G_terminal hr (by rfl) (by decide) (pda_cons (pd_var 3) pda_nil)) pda_nil)))
  (sds_cons (sd_if (pdt_cmp oc_isnot (pd_var 4) pd_non)
   (sds_one sd_never)
   sds_nil)
  (sds_cons (sd_if (pdt_cmp oc_gt (pd_fld T.f_ItemWalk_depth (pd_var 1)) (T.k_DEEPEST rfl rfl (by rfl)))
   (sds_one (sd_ret (pd_tup (pda_cons pd_str (pda_cons (pd_var 2) pda_nil)))))
   sds_nil)
  (sds_one (sd_expr (pd_meth G_ItemWalk__m_take hr (by decide) (pd_var 1) (pda_cons (pd_var 3) pda_nil))))))))
  (sds_cons (sd_set (i := 4) sc_read_item.nd rfl (by first | exact Or.inl rfl | exact Or.inr rfl) (pd_meth G_ItemWalk__m_meet hr (by decide) (pd_var 1) (pda_cons pd_str pda_nil)))
  (sds_cons (sd_if (pdt_tru (pd_var 4))
   (sds_one sd_never)
   sds_nil)
  (sds_one (sd_ret (pd_ix (pd_ix (pd_fld T.f_ItemWalk_made (pd_var 1)) pd_int) pd_int)))))))
def N__law_dotted : List Str := ["module", "name"]
theorem sc__law_dotted : FnScope N__law_dotted ["module", "name"] (defScope s__law_dotted) := ⟨rfl, rfl, rfl, by decide +kernel, rfl, by decide +kernel, by decide +kernel⟩
def b__law_dotted : DTS := (dRet (dIfE (dCmp (cEq false) (dVar 0) (dC (.str ""))) (dFr (dLstN (dCons (dVar 1) dNil))) (dFr (dLstN (dCons (dVar 0) (dCons (dC (.str ".")) (dCons (dVar 1) dNil)))))))
theorem d__law_dotted {P : Program} {w : World} {K : PySem.W.Frag} {mg : Str → Option Value} {base : Heap} (T : Txt K w mg) (f : Addr) (cdv : Value) (A : Around) (outer : List Env) (s : Shared) (H : Hp) (E : XK) (W : WX) (V : EW)
    (hr : Room 0 (A.deeper (envOfC "_law_dotted" (defScope s__law_dotted) s.heap.objs.size f cdv))) (tk : Takes (cxOf (L2.CX P w) P w K mg base N__law_dotted "_law_dotted" (defScope s__law_dotted) f cdv A outer s H E) W) : SDs W V (cxOf (L2.CX P w) P w K mg base N__law_dotted "_law_dotted" (defScope s__law_dotted) f cdv A outer s H E) (defBody s__law_dotted) (b__law_dotted) :=
  (sds_one (sd_ret (pd_if (pdt_cmp (oc_eq hr.units) (pd_var 0) pd_str) (pd_new (pdn_lst (pda_cons (pd_var 1) pda_nil))) (pd_new (pdn_lst (pda_cons (pd_var 0) (pda_cons pd_str (pda_cons (pd_var 1) pda_nil))))))))
def N__law_with_of : List Str := ["row", "of"]
theorem sc__law_with_of : FnScope N__law_with_of ["row", "of"] (defScope s__law_with_of) := ⟨rfl, rfl, rfl, by decide +kernel, rfl, by decide +kernel, by decide +kernel⟩
def b__law_with_of (sp__law_dotted : DSp) : DTS := (dRet (dIfE (dCmp (cIs false) (dVar 1) (dC .none)) (dVar 0) (dBin aAddL (dBin aAddL (dVar 0) (dFr (dLstN (dCons (dC (.str ":")) dNil)))) (dCall sp__law_dotted (dCons (dIx (dVar 1) (dC (.int 0))) (dCons (dIx (dVar 1) (dC (.int 1))) dNil))))))
theorem d__law_with_of {P : Program} {w : World} {K : PySem.W.Frag} {mg : Str → Option Value} {base : Heap} {sp__law_dotted : DSp} (T : Txt K w mg) (G__law_dotted : Ok P w K mg base "_law_dotted" 1 ["module", "name"] sp__law_dotted) (f : Addr) (cdv : Value) (A : Around) (outer : List Env) (s : Shared) (H : Hp) (E : XK) (W : WX) (V : EW)
    (hr : Room 1 (A.deeper (envOfC "_law_with_of" (defScope s__law_with_of) s.heap.objs.size f cdv))) (tk : Takes (cxOf (L2.CX P w) P w K mg base N__law_with_of "_law_with_of" (defScope s__law_with_of) f cdv A outer s H E) W) : SDs W V (cxOf (L2.CX P w) P w K mg base N__law_with_of "_law_with_of" (defScope s__law_with_of) f cdv A outer s H E) (defBody s__law_with_of) (b__law_with_of sp__law_dotted) :=
  (sds_one (sd_ret (pd_if (pdt_cmp oc_is (pd_var 1) pd_non) (pd_var 0) (pd_op (od_addL T.nl) (pd_op (od_addL T.nl) (pd_var 0) (pd_new (pdn_lst (pda_cons pd_str pda_nil)))) (pc_ok G__law_dotted hr (by rfl) (by decide) (pda_cons (pd_ix (pd_var 1) pd_int) (pda_cons (pd_ix (pd_var 1) pd_int) pda_nil)))))))
def N__law_between : List Str := ["rows", "sign", "row", "k"]
theorem sc__law_between : FnScope N__law_between ["rows", "sign"] (defScope s__law_between) := ⟨rfl, rfl, rfl, by decide +kernel, rfl, by decide +kernel, by decide +kernel⟩
def b__law_between : DTS := (dSeq (dSet 2 (dFr (dLstN dNil)))
  (dSeq (dFor (dRng1 (dCons (dCB fLen (dCons (dVar 0) dNil)) dNil)) (dgName 3)
   (dSet 2 (dBin aAddL (dBin aAddL (dVar 2) (dIfE (dCmp cGt (dVar 3) (dC (.int 0))) (dFr (dLstN (dCons (dVar 1) dNil))) (dFr (dLstN dNil)))) (dIx (dVar 0) (dVar 3)))))
  (dRet (dVar 2))))
theorem d__law_between {P : Program} {w : World} {K : PySem.W.Frag} {mg : Str → Option Value} {base : Heap} (T : Txt K w mg) (f : Addr) (cdv : Value) (A : Around) (outer : List Env) (s : Shared) (H : Hp) (E : XK) (W : WX) (V : EW)
    (hr : Room 0 (A.deeper (envOfC "_law_between" (defScope s__law_between) s.heap.objs.size f cdv))) (tk : Takes (cxOf (L2.CX P w) P w K mg base N__law_between "_law_between" (defScope s__law_between) f cdv A outer s H E) W) : SDs W V (cxOf (L2.CX P w) P w K mg base N__law_between "_law_between" (defScope s__law_between) f cdv A outer s H E) (defBody s__law_between) (b__law_between) :=
  (sds_cons (sd_set (i := 2) sc__law_between.nd rfl (by first | exact Or.inl rfl | exact Or.inr rfl) (pd_new (pdn_lst pda_nil)))
  (sds_cons (sd_for (passes_of rfl) rfl (pdi_range1 (by rfl) T.n_range (pda_cons (pd_callB cd_len (by rfl) T.n_len PySem.boot_len (pda_cons (pd_var 0) pda_nil)) pda_nil)) (pdg_name (i := 3) sc__law_between.nd rfl (by first | exact Or.inl rfl | exact Or.inr rfl))
   (sds_one (sd_set (i := 2) sc__law_between.nd rfl (by first | exact Or.inl rfl | exact Or.inr rfl) (pd_op (od_addL T.nl) (pd_op (od_addL T.nl) (pd_var 2) (pd_if (pdt_cmp oc_gt (pd_var 3) pd_int) (pd_new (pdn_lst (pda_cons (pd_var 1) pda_nil))) (pd_new (pdn_lst pda_nil)))) (pd_ix (pd_var 0) (pd_var 3))))))
  (sds_one (sd_ret (pd_var 2)))))
def N__law_in_brackets : List Str := ["rows"]
theorem sc__law_in_brackets : FnScope N__law_in_brackets ["rows"] (defScope s__law_in_brackets) := ⟨rfl, rfl, rfl, by decide +kernel, rfl, by decide +kernel, by decide +kernel⟩
def b__law_in_brackets (sp__law_between : DSp) : DTS := (dRet (dIfE (dCmp (cEq false) (dCB fLen (dCons (dVar 0) dNil)) (dC (.int 0))) (dFr (dLstN dNil)) (dBin aAddL (dBin aAddL (dFr (dLstN (dCons (dC (.str "(")) dNil))) (dCall sp__law_between (dCons (dVar 0) (dCons (dC (.str ",")) dNil)))) (dFr (dLstN (dCons (dC (.str ")")) dNil))))))
theorem d__law_in_brackets {P : Program} {w : World} {K : PySem.W.Frag} {mg : Str → Option Value} {base : Heap} {sp__law_between : DSp} (T : Txt K w mg) (G__law_between : Ok P w K mg base "_law_between" 1 ["rows", "sign"] sp__law_between) (f : Addr) (cdv : Value) (A : Around) (outer : List Env) (s : Shared) (H : Hp) (E : XK) (W : WX) (V : EW)
    (hr : Room 1 (A.deeper (envOfC "_law_in_brackets" (defScope s__law_in_brackets) s.heap.objs.size f cdv))) (tk : Takes (cxOf (L2.CX P w) P w K mg base N__law_in_brackets "_law_in_brackets" (defScope s__law_in_brackets) f cdv A outer s H E) W) : SDs W V (cxOf (L2.CX P w) P w K mg base N__law_in_brackets "_law_in_brackets" (defScope s__law_in_brackets) f cdv A outer s H E) (defBody s__law_in_brackets) (b__law_in_brackets sp__law_between) :=
  (sds_one (sd_ret (pd_if (pdt_cmp (oc_eq hr.units) (pd_callB cd_len (by rfl) T.n_len PySem.boot_len (pda_cons (pd_var 0) pda_nil)) pd_int) (pd_new (pdn_lst pda_nil)) (pd_op (od_addL T.nl) (pd_op (od_addL T.nl) (pd_new (pdn_lst (pda_cons pd_str pda_nil))) (pc_ok G__law_between hr (by rfl) (by decide) (pda_cons (pd_var 0) (pda_cons pd_str pda_nil)))) (pd_new (pdn_lst (pda_cons pd_str pda_nil)))))))
def N__law_form_row : List Str := ["form", "part"]
theorem sc__law_form_row : FnScope N__law_form_row ["form"] (defScope s__law_form_row) := ⟨rfl, rfl, rfl, by decide +kernel, rfl, by decide +kernel, by decide +kernel⟩
def b__law_form_row (sp__law_dotted : DSp) (sp__law_in_brackets : DSp) (sp__law_form_row : DSp) : DTS := (dSeq (dIf (dCmp (cEq false) (dIx (dVar 0) (dC (.int 0))) (dC (.str "any")))
   (dRet (dFr (dLstN (dCons (dC (.str "_")) dNil))))
   dNext)
  (dSeq (dIf (dCmp (cEq false) (dIx (dVar 0) (dC (.int 0))) (dC (.str "bind")))
   (dRet (dFr (dLstN (dCons (dIx (dVar 0) (dC (.int 1))) dNil))))
   dNext)
  (dRet (dBin aAddL (dCall sp__law_dotted (dCons (dIx (dVar 0) (dC (.int 1))) (dCons (dIx (dVar 0) (dC (.int 2))) dNil))) (dCall sp__law_in_brackets (dCons (dFr (dLc (dIterE (dIx (dVar 0) (dC (.int 3)))) (dgName 1) dYes (dCall sp__law_form_row (dCons (dVar 1) dNil)) [1])) dNil))))))
theorem d__law_form_row {P : Program} {w : World} {K : PySem.W.Frag} {mg : Str → Option Value} {base : Heap} {n : Nat} {sp__law_dotted : DSp} {sp__law_in_brackets : DSp} {sp__law_form_row : DSp} (T : Txt K w mg) (G__law_dotted : Ok P w K mg base "_law_dotted" 1 ["module", "name"] sp__law_dotted) (G__law_in_brackets : Ok P w K mg base "_law_in_brackets" 2 ["rows"] sp__law_in_brackets) (G__law_form_row : Ok P w K mg base "_law_form_row" (2 + n) ["form"] sp__law_form_row) (f : Addr) (cdv : Value) (A : Around) (outer : List Env) (s : Shared) (H : Hp) (E : XK) (W : WX) (V : EW)
    (hr : Room (2 + n) (A.deeper (envOfC "_law_form_row" (defScope s__law_form_row) s.heap.objs.size f cdv))) (tk : Takes (cxOf (L2.CX P w) P w K mg base N__law_form_row "_law_form_row" (defScope s__law_form_row) f cdv A outer s H E) W) : SDs W V (cxOf (L2.CX P w) P w K mg base N__law_form_row "_law_form_row" (defScope s__law_form_row) f cdv A outer s H E) (defBody s__law_form_row) (b__law_form_row sp__law_dotted sp__law_in_brackets sp__law_form_row) :=
  (sds_cons (sd_if (pdt_cmp (oc_eq hr.units) (pd_ix (pd_var 0) pd_int) pd_str)
   (sds_one (sd_ret (pd_new (pdn_lst (pda_cons pd_str pda_nil)))))
   sds_nil)
  (sds_cons (sd_if (pdt_cmp (oc_eq hr.units) (pd_ix (pd_var 0) pd_int) pd_str)
   (sds_one (sd_ret (pd_new (pdn_lst (pda_cons (pd_ix (pd_var 0) pd_int) pda_nil)))))
   sds_nil)
  (sds_one (sd_ret (pd_op (od_addL T.nl) (pc_ok G__law_dotted hr (by rfl) (by omega) (pda_cons (pd_ix (pd_var 0) pd_int) (pda_cons (pd_ix (pd_var 0) pd_int) pda_nil))) (pc_ok G__law_in_brackets hr (by rfl) (by omega) (pda_cons (pd_new (pdn_lc (own := [("part", 1)]) rfl sc__law_form_row.nd (pdi_e (pd_ix (pd_var 0) pd_int)) (blkOk_by (own := [("part", 1)]) (N := N__law_form_row) (sc := defScope s__law_form_row) (by decide +kernel)) (fun _ _ _ _ _ => (pdg_name (i := 1) sc__law_form_row.nd rfl (by first | exact Or.inl rfl | exact Or.inr rfl))) (fun _ _ _ _ _ => pdts_nil) (fun _ _ _ _ _ => (pc_ok G__law_form_row hr (by rfl) (Nat.le_refl _) (pda_cons (pd_var 1) pda_nil))))) pda_nil)))))))
def N__law_bare : List Str := ["draw", "told", "row", "arms", "arm", "part"]
theorem sc__law_bare : FnScope N__law_bare ["draw", "told"] (defScope s__law_bare) := ⟨rfl, rfl, rfl, by decide +kernel, rfl, by decide +kernel, by decide +kernel⟩
def b__law_bare (sp__law_put : DSp) (sp__law_form_row : DSp) (sp__law_between : DSp) (sp__law_dotted : DSp) (sp__law_in_brackets : DSp) : DTS := (dSeq (dIf (dCmp (cEq false) (dIx (dVar 1) (dC (.int 0))) (dC (.str "let")))
   (dRet (dBin aAddL (dBin aAddL (dBin aAddL (dFr (dLstN (dCons (dC (.str "let")) (dCons (dIx (dVar 1) (dC (.int 1))) (dCons (dC (.str "=")) dNil))))) (dCall sp__law_put (dCons (dVar 0) (dCons (dIx (dVar 1) (dC (.int 2))) (dCons (dC (.bool false)) dNil))))) (dFr (dLstN (dCons (dC (.str "in")) dNil)))) (dCall sp__law_put (dCons (dVar 0) (dCons (dIx (dVar 1) (dC (.int 3))) (dCons (dC (.bool false)) dNil))))))
   dNext)
  (dSeq (dIf (dCmp (cEq false) (dIx (dVar 1) (dC (.int 0))) (dC (.str "if")))
   (dSeq (dSet 2 (dBin aAddL (dBin aAddL (dBin aAddL (dFr (dLstN (dCons (dC (.str "if")) dNil))) (dCall sp__law_put (dCons (dVar 0) (dCons (dIx (dVar 1) (dC (.int 1))) (dCons (dC (.bool false)) dNil))))) (dFr (dLstN (dCons (dC (.str "then")) dNil)))) (dCall sp__law_put (dCons (dVar 0) (dCons (dIx (dVar 1) (dC (.int 2))) (dCons (dC (.bool false)) dNil))))))
  (dRet (dBin aAddL (dBin aAddL (dVar 2) (dFr (dLstN (dCons (dC (.str "else")) dNil)))) (dCall sp__law_put (dCons (dVar 0) (dCons (dIx (dVar 1) (dC (.int 3))) (dCons (dC (.bool false)) dNil)))))))
   dNext)
  (dSeq (dIf (dCmp (cEq false) (dIx (dVar 1) (dC (.int 0))) (dC (.str "same")))
   (dRet (dBin aAddL (dBin aAddL (dCall sp__law_put (dCons (dVar 0) (dCons (dIx (dVar 1) (dC (.int 1))) (dCons (dC (.bool true)) dNil)))) (dFr (dLstN (dCons (dC (.str "==")) dNil)))) (dCall sp__law_put (dCons (dVar 0) (dCons (dIx (dVar 1) (dC (.int 2))) (dCons (dC (.bool true)) dNil))))))
   dNext)
  (dSeq (dIf (dCmp (cEq false) (dIx (dVar 1) (dC (.int 0))) (dC (.str "case")))
   (dSeq (dSetF 3 (dLc (dIterE (dIx (dVar 1) (dC (.int 2)))) (dgName 4) dYes (dBin aAddL (dBin aAddL (dCall sp__law_form_row (dCons (dIx (dVar 4) (dC (.int 0))) dNil)) (dFr (dLstN (dCons (dC (.str "->")) dNil)))) (dCall sp__law_put (dCons (dVar 0) (dCons (dIx (dVar 4) (dC (.int 1))) (dCons (dC (.bool false)) dNil))))) [4]))
  (dRet (dBin aAddL (dBin aAddL (dBin aAddL (dBin aAddL (dFr (dLstN (dCons (dC (.str "case")) dNil))) (dCall sp__law_put (dCons (dVar 0) (dCons (dIx (dVar 1) (dC (.int 1))) (dCons (dC (.bool false)) dNil))))) (dFr (dLstN (dCons (dC (.str "of")) dNil)))) (dCall sp__law_between (dCons (dVar 3) (dCons (dC (.str "|")) dNil)))) (dFr (dLstN (dCons (dC (.str "end")) dNil))))))
   dNext)
  (dSeq (dIf (dCmp (cEq false) (dIx (dVar 1) (dC (.int 0))) (dC (.str "name")))
   (dRet (dCall sp__law_dotted (dCons (dIx (dVar 1) (dC (.int 1))) (dCons (dIx (dVar 1) (dC (.int 2))) dNil))))
   dNext)
  (dRet (dBin aAddL (dCall sp__law_dotted (dCons (dIx (dVar 1) (dC (.int 1))) (dCons (dIx (dVar 1) (dC (.int 2))) dNil))) (dCall sp__law_in_brackets (dCons (dFr (dLc (dIterE (dIx (dVar 1) (dC (.int 3)))) (dgName 5) dYes (dCall sp__law_put (dCons (dVar 0) (dCons (dVar 5) (dCons (dC (.bool false)) dNil)))) [5])) dNil)))))))))
theorem d__law_bare {P : Program} {w : World} {K : PySem.W.Frag} {mg : Str → Option Value} {base : Heap} {n : Nat} {sp__law_put : DSp} {sp__law_form_row : DSp} {sp__law_between : DSp} {sp__law_dotted : DSp} {sp__law_in_brackets : DSp} (T : Txt K w mg) (G__law_put : Ok P w K mg base "_law_put" (12 + n) ["draw", "told", "side"] sp__law_put) (G__law_form_row : Ok P w K mg base "_law_form_row" 12 ["form"] sp__law_form_row) (G__law_between : Ok P w K mg base "_law_between" 1 ["rows", "sign"] sp__law_between) (G__law_dotted : Ok P w K mg base "_law_dotted" 1 ["module", "name"] sp__law_dotted) (G__law_in_brackets : Ok P w K mg base "_law_in_brackets" 2 ["rows"] sp__law_in_brackets) (f : Addr) (cdv : Value) (A : Around) (outer : List Env) (s : Shared) (H : Hp) (E : XK) (W : WX) (V : EW)
    (hr : Room (12 + n) (A.deeper (envOfC "_law_bare" (defScope s__law_bare) s.heap.objs.size f cdv))) (tk : Takes (cxOf (L2.CX P w) P w K mg base N__law_bare "_law_bare" (defScope s__law_bare) f cdv A outer s H E) W) : SDs W V (cxOf (L2.CX P w) P w K mg base N__law_bare "_law_bare" (defScope s__law_bare) f cdv A outer s H E) (defBody s__law_bare) (b__law_bare sp__law_put sp__law_form_row sp__law_between sp__law_dotted sp__law_in_brackets) :=
  (sds_cons (sd_if (pdt_cmp (oc_eq hr.units) (pd_ix (pd_var 1) pd_int) pd_str)
   (sds_one (sd_ret (pd_op (od_addL T.nl) (pd_op (od_addL T.nl) (pd_op (od_addL T.nl) (pd_new (pdn_lst (pda_cons pd_str (pda_cons (pd_ix (pd_var 1) pd_int) (pda_cons pd_str pda_nil))))) (pc_ok G__law_put hr (by rfl) (Nat.le_refl _) (pda_cons (pd_var 0) (pda_cons (pd_ix (pd_var 1) pd_int) (pda_cons pd_bl pda_nil))))) (pd_new (pdn_lst (pda_cons pd_str pda_nil)))) (pc_ok G__law_put hr (by rfl) (Nat.le_refl _) (pda_cons (pd_var 0) (pda_cons (pd_ix (pd_var 1) pd_int) (pda_cons pd_bl pda_nil)))))))
   sds_nil)
  (sds_cons (sd_if (pdt_cmp (oc_eq hr.units) (pd_ix (pd_var 1) pd_int) pd_str)
   (sds_cons (sd_set (i := 2) sc__law_bare.nd rfl (by first | exact Or.inl rfl | exact Or.inr rfl) (pd_op (od_addL T.nl) (pd_op (od_addL T.nl) (pd_op (od_addL T.nl) (pd_new (pdn_lst (pda_cons pd_str pda_nil))) (pc_ok G__law_put hr (by rfl) (Nat.le_refl _) (pda_cons (pd_var 0) (pda_cons (pd_ix (pd_var 1) pd_int) (pda_cons pd_bl pda_nil))))) (pd_new (pdn_lst (pda_cons pd_str pda_nil)))) (pc_ok G__law_put hr (by rfl) (Nat.le_refl _) (pda_cons (pd_var 0) (pda_cons (pd_ix (pd_var 1) pd_int) (pda_cons pd_bl pda_nil))))))
  (sds_one (sd_ret (pd_op (od_addL T.nl) (pd_op (od_addL T.nl) (pd_var 2) (pd_new (pdn_lst (pda_cons pd_str pda_nil)))) (pc_ok G__law_put hr (by rfl) (Nat.le_refl _) (pda_cons (pd_var 0) (pda_cons (pd_ix (pd_var 1) pd_int) (pda_cons pd_bl pda_nil))))))))
   sds_nil)
  (sds_cons (sd_if (pdt_cmp (oc_eq hr.units) (pd_ix (pd_var 1) pd_int) pd_str)
   (sds_one (sd_ret (pd_op (od_addL T.nl) (pd_op (od_addL T.nl) (pc_ok G__law_put hr (by rfl) (Nat.le_refl _) (pda_cons (pd_var 0) (pda_cons (pd_ix (pd_var 1) pd_int) (pda_cons pd_bl pda_nil)))) (pd_new (pdn_lst (pda_cons pd_str pda_nil)))) (pc_ok G__law_put hr (by rfl) (Nat.le_refl _) (pda_cons (pd_var 0) (pda_cons (pd_ix (pd_var 1) pd_int) (pda_cons pd_bl pda_nil)))))))
   sds_nil)
  (sds_cons (sd_if (pdt_cmp (oc_eq hr.units) (pd_ix (pd_var 1) pd_int) pd_str)
   (sds_cons ((sd_setLcG (i := 3) (own := [("arm", 4)]) rfl sc__law_bare.nd rfl rfl (sw_true rfl rfl rfl (by decide +kernel)) (pdi_e (pd_ix (pd_var 1) pd_int)) (blkOk_by (own := [("arm", 4)]) (N := N__law_bare) (sc := defScope s__law_bare) (by decide +kernel)) (fun _ _ _ _ _ => (pdg_name (i := 4) sc__law_bare.nd rfl (by first | exact Or.inl rfl | exact Or.inr rfl))) (fun _ _ _ _ _ => pdts_nil) (fun _ _ _ _ _ => (pd_op (od_addL T.nl) (pd_op (od_addL T.nl) (pc_ok G__law_form_row hr (by rfl) (by omega) (pda_cons (pd_ix (pd_var 4) pd_int) pda_nil)) (pd_new (pdn_lst (pda_cons pd_str pda_nil)))) (pc_ok G__law_put hr (by rfl) (Nat.le_refl _) (pda_cons (pd_var 0) (pda_cons (pd_ix (pd_var 4) pd_int) (pda_cons pd_bl pda_nil))))))).2)
  (sds_one (sd_ret (pd_op (od_addL T.nl) (pd_op (od_addL T.nl) (pd_op (od_addL T.nl) (pd_op (od_addL T.nl) (pd_new (pdn_lst (pda_cons pd_str pda_nil))) (pc_ok G__law_put hr (by rfl) (Nat.le_refl _) (pda_cons (pd_var 0) (pda_cons (pd_ix (pd_var 1) pd_int) (pda_cons pd_bl pda_nil))))) (pd_new (pdn_lst (pda_cons pd_str pda_nil)))) (pc_ok G__law_between hr (by rfl) (by omega) (pda_cons (pd_var 3) (pda_cons pd_str pda_nil)))) (pd_new (pdn_lst (pda_cons pd_str pda_nil)))))))
   sds_nil)
  (sds_cons (sd_if (pdt_cmp (oc_eq hr.units) (pd_ix (pd_var 1) pd_int) pd_str)
   (sds_one (sd_ret (pc_ok G__law_dotted hr (by rfl) (by omega) (pda_cons (pd_ix (pd_var 1) pd_int) (pda_cons (pd_ix (pd_var 1) pd_int) pda_nil)))))
   sds_nil)
  (sds_one (sd_ret (pd_op (od_addL T.nl) (pc_ok G__law_dotted hr (by rfl) (by omega) (pda_cons (pd_ix (pd_var 1) pd_int) (pda_cons (pd_ix (pd_var 1) pd_int) pda_nil))) (pc_ok G__law_in_brackets hr (by rfl) (by omega) (pda_cons (pd_new (pdn_lc (own := [("part", 5)]) rfl sc__law_bare.nd (pdi_e (pd_ix (pd_var 1) pd_int)) (blkOk_by (own := [("part", 5)]) (N := N__law_bare) (sc := defScope s__law_bare) (by decide +kernel)) (fun _ _ _ _ _ => (pdg_name (i := 5) sc__law_bare.nd rfl (by first | exact Or.inl rfl | exact Or.inr rfl))) (fun _ _ _ _ _ => pdts_nil) (fun _ _ _ _ _ => (pc_ok G__law_put hr (by rfl) (Nat.le_refl _) (pda_cons (pd_var 0) (pda_cons (pd_var 5) (pda_cons pd_bl pda_nil))))))) pda_nil))))))))))
def N__law_put : List Str := ["draw", "told", "side", "row", "many"]
theorem sc__law_put : FnScope N__law_put ["draw", "told", "side"] (defScope s__law_put) := ⟨rfl, rfl, rfl, by decide +kernel, rfl, by decide +kernel, by decide +kernel⟩
def b__law_put (sp__law_bare : DSp) (sp__law_next : DSp) : DTS := (dSeq (dSet 3 (dCall sp__law_bare (dCons (dVar 0) (dCons (dVar 1) dNil))))
  (dSeq (dSet 4 (dIfE (dAnd (dTru (dVar 2)) (dCmp (cIn false) (dIx (dVar 1) (dC (.int 0))) (dTup (dCons (dC (.str "let")) (dCons (dC (.str "if")) (dCons (dC (.str "same")) dNil)))))) (dC (.int 1)) (dC (.int 0))))
  (dSeq (dIf (dAnd (dCmp cGt (dCB fLen (dCons (dVar 0) dNil)) (dC (.int 0))) (dCmp (cEq false) (dCall sp__law_next (dCons (dVar 0) (dCons (dC (.int 6)) dNil))) (dC (.int 0))))
   (dSet 4 (dBin aAddL (dBin aAddL (dVar 4) (dC (.int 1))) (dCall sp__law_next (dCons (dVar 0) (dCons (dC (.int 2)) dNil)))))
   dNext)
  (dRet (dBin aAddL (dBin aAddL (dBin aMulL (dFr (dLstN (dCons (dC (.str "(")) dNil))) (dVar 4)) (dVar 3)) (dBin aMulL (dFr (dLstN (dCons (dC (.str ")")) dNil))) (dVar 4)))))))
theorem d__law_put {P : Program} {w : World} {K : PySem.W.Frag} {mg : Str → Option Value} {base : Heap} {n : Nat} {sp__law_bare : DSp} {sp__law_next : DSp} (T : Txt K w mg) (G__law_bare : Ok P w K mg base "_law_bare" (12 + n) ["draw", "told"] sp__law_bare) (G__law_next : Ok P w K mg base "_law_next" 1 ["draw", "many"] sp__law_next) (f : Addr) (cdv : Value) (A : Around) (outer : List Env) (s : Shared) (H : Hp) (E : XK) (W : WX) (V : EW)
    (hr : Room (12 + n) (A.deeper (envOfC "_law_put" (defScope s__law_put) s.heap.objs.size f cdv))) (tk : Takes (cxOf (L2.CX P w) P w K mg base N__law_put "_law_put" (defScope s__law_put) f cdv A outer s H E) W) : SDs W V (cxOf (L2.CX P w) P w K mg base N__law_put "_law_put" (defScope s__law_put) f cdv A outer s H E) (defBody s__law_put) (b__law_put sp__law_bare sp__law_next) :=
  (sds_cons (sd_set (i := 3) sc__law_put.nd rfl (by first | exact Or.inl rfl | exact Or.inr rfl) (pc_ok G__law_bare hr (by rfl) (Nat.le_refl _) (pda_cons (pd_var 0) (pda_cons (pd_var 1) pda_nil))))
  (sds_cons (sd_set (i := 4) sc__law_put.nd rfl (by first | exact Or.inl rfl | exact Or.inr rfl) (pd_if (PDW.pt (pdw_and (pdt_tru (pd_var 2)) (pdw_and1 (pdt_cmp oc_in (pd_ix (pd_var 1) pd_int) (pd_tup (pda_cons pd_str (pda_cons pd_str (pda_cons pd_str pda_nil)))))))) pd_int pd_int))
  (sds_cons (sd_if (PDW.pt (pdw_and (pdt_cmp oc_gt (pd_callB cd_len (by rfl) T.n_len PySem.boot_len (pda_cons (pd_var 0) pda_nil)) pd_int) (pdw_and1 (pdt_cmp (oc_eq hr.units) (pc_ok G__law_next hr (by rfl) (by omega) (pda_cons (pd_var 0) (pda_cons pd_int pda_nil))) pd_int))))
   (sds_one (sd_set (i := 4) sc__law_put.nd rfl (by first | exact Or.inl rfl | exact Or.inr rfl) (pd_op (od_addL T.nl) (pd_op (od_addL T.nl) (pd_var 4) pd_int) (pc_ok G__law_next hr (by rfl) (by omega) (pda_cons (pd_var 0) (pda_cons pd_int pda_nil))))))
   sds_nil)
  (sds_one (sd_ret (pd_op (od_addL T.nl) (pd_op (od_addL T.nl) (pd_op (od_mulL T.nl) (pd_new (pdn_lst (pda_cons pd_str pda_nil))) (pd_var 4)) (pd_var 3)) (pd_op (od_mulL T.nl) (pd_new (pdn_lst (pda_cons pd_str pda_nil))) (pd_var 4))))))))
def N__law_item_row : List Str := ["draw", "tree", "shown", "one", "row", "thing", "makers", "of", "givens", "given", "head"]
theorem sc__law_item_row : FnScope N__law_item_row ["draw", "tree"] (defScope s__law_item_row) := ⟨rfl, rfl, rfl, by decide +kernel, rfl, by decide +kernel, by decide +kernel⟩
def b__law_item_row (sp__law_between : DSp) (sp__law_in_brackets : DSp) (sp__law_dotted : DSp) (sp__law_with_of : DSp) (sp__law_put : DSp) : DTS := (dSeq (dIf (dCmp (cEq false) (dIx (dVar 1) (dC (.int 0))) (dC (.str "face")))
   (dSeq (dSetF 2 (dLc (dIterE (dIx (dVar 1) (dC (.int 1)))) (dgName 3) dYes (dBin aAddL (dFr (dLstN (dCons (dIx (dVar 3) (dC (.int 1))) dNil))) (dIfE (dAnd (dCmp (cEq false) (dIx (dVar 3) (dC (.int 0))) (dC (.str "kind"))) (dCmp (cEq false) (dIx (dVar 3) (dC (.int 2))) (dC (.int 1)))) (dFr (dLstN (dCons (dC (.str "(")) (dCons (dC (.str "..")) (dCons (dC (.str ")")) dNil))))) (dFr (dLstN dNil)))) [3]))
  (dRet (dBin aAddL (dBin aAddL (dFr (dLstN (dCons (dC (.str "face")) dNil))) (dCall sp__law_between (dCons (dVar 2) (dCons (dC (.str ",")) dNil)))) (dFr (dLstN (dCons (dC (.str ";")) dNil))))))
   dNext)
  (dSeq (dIf (dCmp (cEq false) (dIx (dVar 1) (dC (.int 0))) (dC (.str "use")))
   (dRet (dBin aAddL (dBin aAddL (dFr (dLstN (dCons (dC (.str "use")) (dCons (dIx (dVar 1) (dC (.int 1))) dNil)))) (dIfE (dCmp (cEq true) (dIx (dVar 1) (dC (.int 2))) (dC (.str ""))) (dFr (dLstN (dCons (dC (.str "as")) (dCons (dIx (dVar 1) (dC (.int 2))) dNil)))) (dFr (dLstN dNil)))) (dFr (dLstN (dCons (dC (.str ";")) dNil)))))
   dNext)
  (dSeq (dIf (dCmp (cEq false) (dIx (dVar 1) (dC (.int 0))) (dC (.str "open")))
   (dSeq (dSet 4 (dBin aAddL (dFr (dLstN (dCons (dC (.str "open")) (dCons (dIx (dVar 1) (dC (.int 1))) dNil)))) (dIfE (dCmp (cEq false) (dIx (dVar 1) (dC (.int 2))) (dC (.str "hiding"))) (dFr (dLstN (dCons (dC (.str "hiding")) dNil))) (dFr (dLstN dNil)))))
  (dRet (dBin aAddL (dBin aAddL (dVar 4) (dCall sp__law_in_brackets (dCons (dFr (dLc (dIterE (dIx (dVar 1) (dC (.int 3)))) (dgName 5) dYes (dFr (dLstN (dCons (dVar 5) dNil))) [5])) dNil))) (dFr (dLstN (dCons (dC (.str ";")) dNil))))))
   dNext)
  (dSeq (dIf (dCmp (cEq false) (dIx (dVar 1) (dC (.int 0))) (dC (.str "kind")))
   (dSeq (dSetF 6 (dLc (dIterE (dIx (dVar 1) (dC (.int 2)))) (dgName 3) dYes (dBin aAddL (dFr (dLstN (dCons (dIx (dVar 3) (dC (.int 0))) dNil))) (dCall sp__law_in_brackets (dCons (dFr (dLc (dIterE (dIx (dVar 3) (dC (.int 1)))) (dgName 7) dYes (dCall sp__law_dotted (dCons (dIx (dVar 7) (dC (.int 0))) (dCons (dIx (dVar 7) (dC (.int 1))) dNil))) [7])) dNil))) [3]))
  (dRet (dBin aAddL (dBin aAddL (dFr (dLstN (dCons (dC (.str "kind")) (dCons (dIx (dVar 1) (dC (.int 1))) (dCons (dC (.str "=")) dNil))))) (dCall sp__law_between (dCons (dVar 6) (dCons (dC (.str "|")) dNil)))) (dFr (dLstN (dCons (dC (.str ";")) dNil))))))
   dNext)
  (dSeq (dSetF 8 (dLc (dIterE (dIx (dVar 1) (dC (.int 2)))) (dgName 9) dYes (dCall sp__law_with_of (dCons (dFr (dLstN (dCons (dIx (dVar 9) (dC (.int 0))) dNil))) (dCons (dIx (dVar 9) (dC (.int 1))) dNil))) [9]))
  (dSeq (dSet 10 (dCall sp__law_with_of (dCons (dBin aAddL (dFr (dLstN (dCons (dC (.str "def")) (dCons (dIx (dVar 1) (dC (.int 1))) dNil)))) (dCall sp__law_in_brackets (dCons (dVar 8) dNil))) (dCons (dIx (dVar 1) (dC (.int 3))) dNil))))
  (dRet (dBin aAddL (dBin aAddL (dBin aAddL (dVar 10) (dFr (dLstN (dCons (dC (.str "=")) dNil)))) (dCall sp__law_put (dCons (dVar 0) (dCons (dIx (dVar 1) (dC (.int 4))) (dCons (dC (.bool false)) dNil))))) (dFr (dLstN (dCons (dC (.str ";")) dNil)))))))))))
theorem d__law_item_row {P : Program} {w : World} {K : PySem.W.Frag} {mg : Str → Option Value} {base : Heap} {sp__law_between : DSp} {sp__law_in_brackets : DSp} {sp__law_dotted : DSp} {sp__law_with_of : DSp} {sp__law_put : DSp} (T : Txt K w mg) (G__law_between : Ok P w K mg base "_law_between" 1 ["rows", "sign"] sp__law_between) (G__law_in_brackets : Ok P w K mg base "_law_in_brackets" 2 ["rows"] sp__law_in_brackets) (G__law_dotted : Ok P w K mg base "_law_dotted" 1 ["module", "name"] sp__law_dotted) (G__law_with_of : Ok P w K mg base "_law_with_of" 2 ["row", "of"] sp__law_with_of) (G__law_put : Ok P w K mg base "_law_put" 72 ["draw", "told", "side"] sp__law_put) (f : Addr) (cdv : Value) (A : Around) (outer : List Env) (s : Shared) (H : Hp) (E : XK) (W : WX) (V : EW)
    (hr : Room 72 (A.deeper (envOfC "_law_item_row" (defScope s__law_item_row) s.heap.objs.size f cdv))) (tk : Takes (cxOf (L2.CX P w) P w K mg base N__law_item_row "_law_item_row" (defScope s__law_item_row) f cdv A outer s H E) W) : SDs W V (cxOf (L2.CX P w) P w K mg base N__law_item_row "_law_item_row" (defScope s__law_item_row) f cdv A outer s H E) (defBody s__law_item_row) (b__law_item_row sp__law_between sp__law_in_brackets sp__law_dotted sp__law_with_of sp__law_put) :=
  (sds_cons (sd_if (pdt_cmp (oc_eq hr.units) (pd_ix (pd_var 1) pd_int) pd_str)
   (sds_cons ((sd_setLcG (i := 2) (own := [("one", 3)]) rfl sc__law_item_row.nd rfl rfl (sw_true rfl rfl rfl (by decide +kernel)) (pdi_e (pd_ix (pd_var 1) pd_int)) (blkOk_by (own := [("one", 3)]) (N := N__law_item_row) (sc := defScope s__law_item_row) (by decide +kernel)) (fun _ _ _ _ _ => (pdg_name (i := 3) sc__law_item_row.nd rfl (by first | exact Or.inl rfl | exact Or.inr rfl))) (fun _ _ _ _ _ => pdts_nil) (fun _ _ _ _ _ => (pd_op (od_addL T.nl) (pd_new (pdn_lst (pda_cons (pd_ix (pd_var 3) pd_int) pda_nil))) (pd_if (PDW.pt (pdw_and (pdt_cmp (oc_eq hr.units) (pd_ix (pd_var 3) pd_int) pd_str) (pdw_and1 (pdt_cmp (oc_eq hr.units) (pd_ix (pd_var 3) pd_int) pd_int)))) (pd_new (pdn_lst (pda_cons pd_str (pda_cons pd_str (pda_cons pd_str pda_nil))))) (pd_new (pdn_lst pda_nil)))))).2)
  (sds_one (sd_ret (pd_op (od_addL T.nl) (pd_op (od_addL T.nl) (pd_new (pdn_lst (pda_cons pd_str pda_nil))) (pc_ok G__law_between hr (by rfl) (by decide) (pda_cons (pd_var 2) (pda_cons pd_str pda_nil)))) (pd_new (pdn_lst (pda_cons pd_str pda_nil)))))))
   sds_nil)
  (sds_cons (sd_if (pdt_cmp (oc_eq hr.units) (pd_ix (pd_var 1) pd_int) pd_str)
   (sds_one (sd_ret (pd_op (od_addL T.nl) (pd_op (od_addL T.nl) (pd_new (pdn_lst (pda_cons pd_str (pda_cons (pd_ix (pd_var 1) pd_int) pda_nil)))) (pd_if (pdt_cmp (oc_ne hr.units) (pd_ix (pd_var 1) pd_int) pd_str) (pd_new (pdn_lst (pda_cons pd_str (pda_cons (pd_ix (pd_var 1) pd_int) pda_nil)))) (pd_new (pdn_lst pda_nil)))) (pd_new (pdn_lst (pda_cons pd_str pda_nil))))))
   sds_nil)
  (sds_cons (sd_if (pdt_cmp (oc_eq hr.units) (pd_ix (pd_var 1) pd_int) pd_str)
   (sds_cons (sd_set (i := 4) sc__law_item_row.nd rfl (by first | exact Or.inl rfl | exact Or.inr rfl) (pd_op (od_addL T.nl) (pd_new (pdn_lst (pda_cons pd_str (pda_cons (pd_ix (pd_var 1) pd_int) pda_nil)))) (pd_if (pdt_cmp (oc_eq hr.units) (pd_ix (pd_var 1) pd_int) pd_str) (pd_new (pdn_lst (pda_cons pd_str pda_nil))) (pd_new (pdn_lst pda_nil)))))
  (sds_one (sd_ret (pd_op (od_addL T.nl) (pd_op (od_addL T.nl) (pd_var 4) (pc_ok G__law_in_brackets hr (by rfl) (by decide) (pda_cons (pd_new (pdn_lc (own := [("thing", 5)]) rfl sc__law_item_row.nd (pdi_e (pd_ix (pd_var 1) pd_int)) (blkOk_by (own := [("thing", 5)]) (N := N__law_item_row) (sc := defScope s__law_item_row) (by decide +kernel)) (fun _ _ _ _ _ => (pdg_name (i := 5) sc__law_item_row.nd rfl (by first | exact Or.inl rfl | exact Or.inr rfl))) (fun _ _ _ _ _ => pdts_nil) (fun _ _ _ _ _ => (pd_new (pdn_lst (pda_cons (pd_var 5) pda_nil)))))) pda_nil))) (pd_new (pdn_lst (pda_cons pd_str pda_nil)))))))
   sds_nil)
  (sds_cons (sd_if (pdt_cmp (oc_eq hr.units) (pd_ix (pd_var 1) pd_int) pd_str)
   (sds_cons ((sd_setLcG (i := 6) (own := [("one", 3)]) rfl sc__law_item_row.nd rfl rfl (sw_true rfl rfl rfl (by decide +kernel)) (pdi_e (pd_ix (pd_var 1) pd_int)) (blkOk_by (own := [("one", 3)]) (N := N__law_item_row) (sc := defScope s__law_item_row) (by decide +kernel)) (fun _ _ _ _ _ => (pdg_name (i := 3) sc__law_item_row.nd rfl (by first | exact Or.inl rfl | exact Or.inr rfl))) (fun _ _ _ _ _ => pdts_nil) (fun _ _ _ _ _ => (pd_op (od_addL T.nl) (pd_new (pdn_lst (pda_cons (pd_ix (pd_var 3) pd_int) pda_nil))) (pc_ok G__law_in_brackets hr (by rfl) (by decide) (pda_cons (pd_new (pdn_lc (own := [("of", 7)]) rfl sc__law_item_row.nd (pdi_e (pd_ix (pd_var 3) pd_int)) (blkOk_by (own := [("of", 7)]) (N := N__law_item_row) (by rfl)) (fun _ _ _ _ _ => (pdg_name (i := 7) sc__law_item_row.nd rfl (by first | exact Or.inl rfl | exact Or.inr rfl))) (fun _ _ _ _ _ => pdts_nil) (fun _ _ _ _ _ => (pc_ok G__law_dotted hr (by rfl) (by decide) (pda_cons (pd_ix (pd_var 7) pd_int) (pda_cons (pd_ix (pd_var 7) pd_int) pda_nil)))))) pda_nil))))).2)
  (sds_one (sd_ret (pd_op (od_addL T.nl) (pd_op (od_addL T.nl) (pd_new (pdn_lst (pda_cons pd_str (pda_cons (pd_ix (pd_var 1) pd_int) (pda_cons pd_str pda_nil))))) (pc_ok G__law_between hr (by rfl) (by decide) (pda_cons (pd_var 6) (pda_cons pd_str pda_nil)))) (pd_new (pdn_lst (pda_cons pd_str pda_nil)))))))
   sds_nil)
  (sds_cons ((sd_setLcG (i := 8) (own := [("given", 9)]) rfl sc__law_item_row.nd rfl rfl (sw_true rfl rfl rfl (by decide +kernel)) (pdi_e (pd_ix (pd_var 1) pd_int)) (blkOk_by (own := [("given", 9)]) (N := N__law_item_row) (sc := defScope s__law_item_row) (by decide +kernel)) (fun _ _ _ _ _ => (pdg_name (i := 9) sc__law_item_row.nd rfl (by first | exact Or.inl rfl | exact Or.inr rfl))) (fun _ _ _ _ _ => pdts_nil) (fun _ _ _ _ _ => (pc_ok G__law_with_of hr (by rfl) (by decide) (pda_cons (pd_new (pdn_lst (pda_cons (pd_ix (pd_var 9) pd_int) pda_nil))) (pda_cons (pd_ix (pd_var 9) pd_int) pda_nil))))).2)
  (sds_cons (sd_set (i := 10) sc__law_item_row.nd rfl (by first | exact Or.inl rfl | exact Or.inr rfl) (pc_ok G__law_with_of hr (by rfl) (by decide) (pda_cons (pd_op (od_addL T.nl) (pd_new (pdn_lst (pda_cons pd_str (pda_cons (pd_ix (pd_var 1) pd_int) pda_nil)))) (pc_ok G__law_in_brackets hr (by rfl) (by decide) (pda_cons (pd_var 8) pda_nil))) (pda_cons (pd_ix (pd_var 1) pd_int) pda_nil))))
  (sds_one (sd_ret (pd_op (od_addL T.nl) (pd_op (od_addL T.nl) (pd_op (od_addL T.nl) (pd_var 10) (pd_new (pdn_lst (pda_cons pd_str pda_nil)))) (pc_ok G__law_put hr (by rfl) (by decide) (pda_cons (pd_var 0) (pda_cons (pd_ix (pd_var 1) pd_int) (pda_cons pd_bl pda_nil))))) (pd_new (pdn_lst (pda_cons pd_str pda_nil))))))))))))
def N_law : List Str := ["script", "draw", "kind", "tree", "row"]
theorem sc_law : FnScope N_law ["script"] (defScope s_law) := ⟨rfl, rfl, rfl, by decide +kernel, rfl, by decide +kernel, by decide +kernel⟩
def b_law (sp__law_draw : DSp) (sp__law_item : DSp) (sp__law_next : DSp) (sp__law_tokens : DSp) (sp__law_item_row : DSp) (sp__law_same : DSp) (sp_read_item : DSp) : DTS := (dSeq (dSet 1 (dCall sp__law_draw (dCons (dVar 0) dNil)))
  (dSeq (dFor (dRng1 (dCons (dC (.int 6)) dNil)) (dgName 2)
   (dSeq (dSet 3 (dCall sp__law_item (dCons (dVar 1) (dCons (dVar 2) (dCons (dBin aAddL (dC (.int 2)) (dCall sp__law_next (dCons (dVar 1) (dCons (dC (.int 5)) dNil)))) (dCons (dBin aAddL (dC (.int 6)) (dCall sp__law_next (dCons (dVar 1) (dCons (dC (.int 20)) dNil)))) dNil))))))
  (dSeq (dSet 4 (dCall sp__law_tokens (dCons (dCall sp__law_item_row (dCons (dVar 1) (dCons (dVar 3) dNil))) dNil)))
  (dIf (dOr (dNot (dTru (dCall sp__law_same (dCons (dCall sp_read_item (dCons (dVar 4) dNil)) (dCons (dVar 3) dNil))))) (dNot (dTru (dCall sp__law_same (dCons (dCall sp_read_item (dCons (dVar 4) dNil)) (dCons (dVar 3) dNil))))))
   (dRet (dC (.bool false)))
   dNext))))
  (dSeq (dSet 3 (dCall sp__law_item (dCons (dVar 1) (dCons (dCall sp__law_next (dCons (dVar 1) (dCons (dC (.int 5)) dNil))) (dCons (dC (.int 6)) (dCons (dC (.int 40)) dNil))))))
  (dRet (dCall sp__law_same (dCons (dCall sp_read_item (dCons (dCall sp__law_tokens (dCons (dCall sp__law_item_row (dCons (dVar 1) (dCons (dVar 3) dNil))) dNil)) dNil)) (dCons (dVar 3) dNil)))))))
theorem d_law {P : Program} {w : World} {K : PySem.W.Frag} {mg : Str → Option Value} {base : Heap} {sp__law_draw : DSp} {sp__law_item : DSp} {sp__law_next : DSp} {sp__law_tokens : DSp} {sp__law_item_row : DSp} {sp__law_same : DSp} {sp_read_item : DSp} (T : Txt K w mg) (G__law_draw : Ok P w K mg base "_law_draw" 1 ["script"] sp__law_draw) (G__law_item : Ok P w K mg base "_law_item" 50 ["draw", "kind", "deep", "many"] sp__law_item) (G__law_next : Ok P w K mg base "_law_next" 1 ["draw", "many"] sp__law_next) (G__law_tokens : Ok P w K mg base "_law_tokens" 1 ["row"] sp__law_tokens) (G__law_item_row : Ok P w K mg base "_law_item_row" 73 ["draw", "tree"] sp__law_item_row) (G__law_same : Ok P w K mg base "_law_same" 60 ["one", "other"] sp__law_same) (G_read_item : Ok P w K mg base "read_item" 3 ["stretch"] sp_read_item) (K_read_item : OkK P w K mg base "read_item" 3 ["stretch"] sp_read_item) (f : Addr) (cdv : Value) (A : Around) (outer : List Env) (s : Shared) (H : Hp) (E : XK) (W : WX) (V : EW)
    (hr : Room 73 (A.deeper (envOfC "law" (defScope s_law) s.heap.objs.size f cdv))) (tk : Takes (cxOf (L2.CX P w) P w K mg base N_law "law" (defScope s_law) f cdv A outer s H E) W) : SDs W V (cxOf (L2.CX P w) P w K mg base N_law "law" (defScope s_law) f cdv A outer s H E) (defBody s_law) (b_law sp__law_draw sp__law_item sp__law_next sp__law_tokens sp__law_item_row sp__law_same sp_read_item) :=
  (sds_cons (sd_set (i := 1) sc_law.nd rfl (by first | exact Or.inl rfl | exact Or.inr rfl) (pc_ok G__law_draw hr (by rfl) (by decide) (pda_cons (pd_var 0) pda_nil)))
  (sds_cons (sd_for (passes_of rfl) rfl (pdi_range1 (by rfl) T.n_range (pda_cons pd_int pda_nil)) (pdg_name (i := 2) sc_law.nd rfl (by first | exact Or.inl rfl | exact Or.inr rfl))
   (sds_cons (sd_set (i := 3) sc_law.nd rfl (by first | exact Or.inl rfl | exact Or.inr rfl) (pc_ok G__law_item hr (by rfl) (by decide) (pda_cons (pd_var 1) (pda_cons (pd_var 2) (pda_cons (pd_op (od_addL T.nl) pd_int (pc_ok G__law_next hr (by rfl) (by decide) (pda_cons (pd_var 1) (pda_cons pd_int pda_nil)))) (pda_cons (pd_op (od_addL T.nl) pd_int (pc_ok G__law_next hr (by rfl) (by decide) (pda_cons (pd_var 1) (pda_cons pd_int pda_nil)))) pda_nil))))))
  (sds_cons (sd_set (i := 4) sc_law.nd rfl (by first | exact Or.inl rfl | exact Or.inr rfl) (pc_ok G__law_tokens hr (by rfl) (by decide) (pda_cons (pc_ok G__law_item_row hr (by rfl) (by decide) (pda_cons (pd_var 1) (pda_cons (pd_var 3) pda_nil))) pda_nil)))
  (sds_one (sd_if (PDW.pt (pdw_or (pdt_not (pdt_tru (pc_ok G__law_same hr (by rfl) (by decide) (pda_cons (pc_ok G_read_item hr (by rfl) (by decide) (pda_cons (pd_var 4) pda_nil)) (pda_cons (pd_var 3) pda_nil))))) (pdw_or1 (pdt_not (pdt_tru (pc_ok G__law_same hr (by rfl) (by decide) (pda_cons (pck_ok K_read_item hr (by rfl) (by decide) (pdk_cons (pd_var 4) pdk_nil)) (pda_cons (pd_var 3) pda_nil))))))))
   (sds_one (sd_ret pd_bl))
   sds_nil)))))
  (sds_cons (sd_set (i := 3) sc_law.nd rfl (by first | exact Or.inl rfl | exact Or.inr rfl) (pc_ok G__law_item hr (by rfl) (by decide) (pda_cons (pd_var 1) (pda_cons (pc_ok G__law_next hr (by rfl) (by decide) (pda_cons (pd_var 1) (pda_cons pd_int pda_nil))) (pda_cons pd_int (pda_cons pd_int pda_nil))))))
  (sds_one (sd_ret (pc_ok G__law_same hr (by rfl) (by decide) (pda_cons (pc_ok G_read_item hr (by rfl) (by decide) (pda_cons (pc_ok G__law_tokens hr (by rfl) (by decide) (pda_cons (pc_ok G__law_item_row hr (by rfl) (by decide) (pda_cons (pd_var 1) (pda_cons (pd_var 3) pda_nil))) pda_nil)) pda_nil)) (pda_cons (pd_var 3) pda_nil))))))))
end K16

namespace K16
open PySem PySem.Spec PyProof.Rows L2 MM
local macro_rules | `(tactic| walk_at "nd") => `(tactic| first | decide | simp [slots])
local macro_rules | `(tactic| walk_at "w") => `(tactic| conv => whnf)
/-- the state of the draws -/
def DrawOk (ds : List PyData) : Prop := ∃ (ns : List Int) (i a b : Int), ds = [.list (ns.map PyData.int), .int i, .int a, .int b] ∧ 0 ≤ i ∧ 0 ≤ b ∧ b < 2147483647
def sp__law_draw : DSp := fun as m C _ => ∃ ns : List Int, as = [.val (.list (ns.map PyData.int))] ∧ m = [] ∧ ∀ ds, DrawOk ds → C (.sl 0) [.fl ds]
theorem cut_ints (ns : List Int) (lo hi : Option Int) : ∃ ms : List Int, MM.cutD (ns.map PyData.int) lo hi = ms.map PyData.int := by
  refine ⟨(ns.drop (HT.sIx ns.length 0 lo)).take (HT.sIx ns.length ns.length hi - HT.sIx ns.length 0 lo), ?_⟩
  unfold MM.cutD
  rw [List.length_map, List.map_take, List.map_drop]
theorem l__law_draw : ∀ as m C Ex, sp__law_draw as m C Ex → b__law_draw (endsD m.length C) (startD N__law_draw as m) := by
  rintro as m C Ex ⟨ns, rfl, rfl, h⟩
  walk_at "w"
  obtain ⟨ms, e⟩ := cut_ints ns none (some 63)
  refine ⟨by show 4 ≤ sizeLine; decide, ?_⟩
  refine .inl (h _ ⟨ms, 0, 1, 7, ?_, by decide, by decide, by decide⟩)
  rw [e]
def sp__law_next : DSp := fun as m C _ => ∃ (ds : List PyData) (k : Int), as = [.sl 0, .val (.int k)] ∧ m = [.fl ds] ∧ DrawOk ds ∧ 0 < k ∧ k < 1073741824 ∧ ∀ (r : Int) ds', 0 ≤ r → r < k → DrawOk ds' → C (.val (.int r)) [.fl ds']
theorem mul_ok (i j : Int) (h : -18446744073709551616 < j) (h2 : j < 18446744073709551616) : CMul i j := .inr ⟨h, h2⟩
theorem l__law_next : ∀ as m C Ex, sp__law_next as m C Ex → b__law_next (endsD m.length C) (startD N__law_next as m) := by
  rintro as m0 C Ex ⟨_, m, rfl, rfl, ⟨ns, i, a, b, rfl, h1, h2, h3⟩, hm1, hm2, h⟩
  refine seq_cut (fun δ => ∃ i a b x2, δ = ⟨[some (.sl 0), some (.val (.int m)), x2, none], [.fl [.list (ns.map PyData.int), .int i, .int a, .int b]]⟩ ∧ 0 ≤ i ∧ 0 ≤ b ∧ b < 2147483647) (fun N hN => ?_) ?_
  · walk_at "w"
    refine ⟨fun e1 => ?_, fun e1 => ?_⟩
    · walk_at "w"
      refine ⟨fun e2 => ?_, fun e2 => ?_⟩
      · have e2 := of_decide_eq_true e2
        rw [List.length_map] at e2
        obtain ⟨c, _, ec, _⟩ := DD.atI_map (f := PyData.int) h1 e2
        walk_at "w"
        rw [ec]
        walk_at "w"
        refine ⟨⟨by decide, by decide, by decide⟩, ?_⟩
        walk_at "w"
        refine ⟨fun e3 => ?_, fun e3 => ?_⟩
        · walk_at "w"
          exact hN _ ⟨_, _, _, _, rfl, by omega, h2, h3⟩
        · walk_at "w"
          refine ⟨mul_ok _ _ (by decide) (by decide), mul_ok _ _ (by decide) (by decide), by decide, ?_⟩
          walk_at "w"
          exact hN _ ⟨_, _, _, _, rfl, by omega, Int.emod_nonneg _ (by decide), Int.emod_lt_of_pos _ (by decide)⟩
      · walk_at "w"
        exact hN _ ⟨_, _, _, _, rfl, h1, h2, h3⟩
    · walk_at "w"
      refine ⟨fun e2 => (by cases e2), fun e2 => ?_⟩
      walk_at "w"
      exact hN _ ⟨_, _, _, _, rfl, h1, h2, h3⟩
  · rintro _ ⟨i, a, b, x2, rfl, h1, h2, h3⟩
    walk_at "w"
    refine ⟨fun e1 => ?_, fun e1 => ?_⟩
    · walk_at "w"
      refine ⟨hm1, ?_⟩
      walk_at "w"
      refine ⟨⟨hm1, hm2⟩, ?_⟩
      walk_at "w"
      exact .inl <| h _ _ (Int.emod_nonneg _ (by omega)) (Int.emod_lt_of_pos _ hm1) ⟨_, _, _, _, rfl, h1, h2, h3⟩
    · walk_at "w"
      refine ⟨mul_ok _ _ (by decide) (by decide), by decide, ?_⟩
      walk_at "w"
      refine ⟨mul_ok _ _ (by decide) (by decide), by decide, ⟨by decide, by decide⟩, hm1, ?_⟩
      walk_at "w"
      exact .inl <| h _ _ (Int.emod_nonneg _ (by omega)) (Int.emod_lt_of_pos _ hm1) ⟨_, _, _, _, rfl, h1, Int.emod_nonneg _ (by decide), Int.emod_lt_of_pos _ (by decide)⟩
def sp__law_pick : DSp := fun as m C _ => ∃ (ds : List PyData) (d : PyData), as = [.sl 0, .val d] ∧ m = [.fl ds] ∧ DrawOk ds ∧
  ((∃ xs, d = .list xs ∧ 0 < xs.length ∧ xs.length < 1073741824 ∧ ∀ x ∈ xs, ∀ ds', DrawOk ds' → C (.val x) [.fl ds']) ∨
   (∃ z : Str, d = .str z ∧ 0 < z.length ∧ z.length ≤ 1000000 ∧ ∀ c ∈ z.cps.toList, ∀ ds', DrawOk ds' → C (.val (.str ⟨#[c]⟩)) [.fl ds']))
theorem l__law_pick : ∀ as m C Ex, sp__law_pick as m C Ex → b__law_pick sp__law_next (endsD m.length C) (startD N__law_pick as m) := by
  rintro as m C Ex ⟨ds, d, rfl, rfl, hd, h⟩
  rcases h with ⟨xs, rfl, h1, h2, h⟩ | ⟨z, rfl, h1, h2, h⟩
  · walk_at "w"
    refine ⟨ds, _, rfl, rfl, hd, by omega, by omega, fun r ds' r1 r2 hd' => ?_⟩
    walk_at "w"
    obtain ⟨x, ex, _, mx⟩ := DD.atI_at r1 r2
    rw [ex]
    walk_at "w"
    exact .inl (h x mx ds' hd')
  · walk_at "w"
    have hs := DD.sl_line
    refine ⟨by omega, ds, _, rfl, rfl, hd, by omega, by omega, fun r ds' r1 r2 hd' => ?_⟩
    walk_at "w"
    refine ⟨by omega, ?_⟩
    have hl : z.length = z.cps.toList.length := by simp [Str.length]
    rw [hl] at r2
    obtain ⟨x, ex, _, mx⟩ := DD.atI_at r1 r2
    walk_at "w"
    rw [ex]
    walk_at "w"
    exact .inl (h x mx ds' hd')
end K16

namespace K16
open PySem PySem.Spec PyProof.Rows L2 MM
local macro_rules | `(tactic| walk_at "w") => `(tactic| conv => whnf)
def SMALLN : List Str := ["a", "b2", "x_Y", "zz", "faces", "lets", "o", "endof", "name", "u9_"]
def GREATN : List Str := ["A", "B2", "Cc_", "Zz", "N0", "Name", "Def", "K"]
theorem pick_strs {ds : List PyData} {zs : List Str} {C : Ar → List Mo → Prop} {Ex : Str → List Mo → Prop} (hd : DrawOk ds) (h0 : 0 < zs.length) (h1 : zs.length < 1000) (h : ∀ z ∈ zs, ∀ ds', DrawOk ds' → C (.val (.str z)) [.fl ds']) :
    sp__law_pick [.sl 0, .val (.list (zs.map PyData.str))] [.fl ds] C Ex := by
  refine ⟨ds, _, rfl, rfl, hd, .inl ⟨_, rfl, by simpa using h0, by simp; omega, fun x hx ds' hd' => ?_⟩⟩
  obtain ⟨z, hz, rfl⟩ := List.mem_map.mp hx
  exact h z hz ds' hd'
def sp__law_small : DSp := fun as m C _ => ∃ ds : List PyData, as = [.sl 0] ∧ m = [.fl ds] ∧ DrawOk ds ∧ ∀ z ∈ SMALLN, ∀ ds', DrawOk ds' → C (.val (.str z)) [.fl ds']
theorem l__law_small : ∀ as m C Ex, sp__law_small as m C Ex → b__law_small sp__law_pick (endsD m.length C) (startD N__law_small as m) := by
  rintro as m C Ex ⟨ds, rfl, rfl, hd, h⟩
  walk_at "w"
  refine ⟨by show 10 ≤ sizeLine; decide, ?_⟩
  walk_at "w"
  exact pick_strs (Ex := fun _ _ => False) (zs := SMALLN) hd (by decide) (by decide) fun z hz ds' hd' => .inl (h z hz ds' hd')
def sp__law_great : DSp := fun as m C _ => ∃ ds : List PyData, as = [.sl 0] ∧ m = [.fl ds] ∧ DrawOk ds ∧ ∀ z ∈ GREATN, ∀ ds', DrawOk ds' → C (.val (.str z)) [.fl ds']
theorem l__law_great : ∀ as m C Ex, sp__law_great as m C Ex → b__law_great sp__law_pick (endsD m.length C) (startD N__law_great as m) := by
  rintro as m C Ex ⟨ds, rfl, rfl, hd, h⟩
  walk_at "w"
  refine ⟨by show 8 ≤ sizeLine; decide, ?_⟩
  walk_at "w"
  exact pick_strs (Ex := fun _ _ => False) (zs := GREATN) hd (by decide) (by decide) fun z hz ds' hd' => .inl (h z hz ds' hd')
/-- the empty text, or a great name -/
def ModS (z : Str) : Prop := z = "" ∨ z ∈ GREATN
def sp__law_module : DSp := fun as m C _ => ∃ ds : List PyData, as = [.sl 0] ∧ m = [.fl ds] ∧ DrawOk ds ∧ ∀ z, ModS z → ∀ ds', DrawOk ds' → C (.val (.str z)) [.fl ds']
theorem l__law_module : ∀ as m C Ex, sp__law_module as m C Ex → b__law_module sp__law_next sp__law_great (endsD m.length C) (startD N__law_module as m) := by
  rintro as m C Ex ⟨ds, rfl, rfl, hd, h⟩
  walk_at "w"
  refine ⟨ds, _, rfl, rfl, hd, by decide, by decide, fun r ds' _ _ hd' => ?_⟩
  walk_at "w"
  refine ⟨fun e => ?_, fun e => ?_⟩
  · walk_at "w"
    exact ⟨_, rfl, rfl, hd', fun z hz ds' hd' => .inl (h z (.inr hz) ds' hd')⟩
  · exact .inl (h _ (.inl rfl) ds' hd')
/-- a kind's name, with its module -/
def OfD (d : PyData) : Prop := ∃ m n, d = .tuple [.str m, .str n] ∧ ModS m ∧ n ∈ GREATN
def sp__law_of : DSp := fun as m C _ => ∃ ds : List PyData, as = [.sl 0] ∧ m = [.fl ds] ∧ DrawOk ds ∧ ∀ d, OfD d → ∀ ds', DrawOk ds' → C (.val d) [.fl ds']
theorem l__law_of : ∀ as m C Ex, sp__law_of as m C Ex → b__law_of sp__law_great sp__law_module (endsD m.length C) (startD N__law_of as m) := by
  rintro as m C Ex ⟨ds, rfl, rfl, hd, h⟩
  walk_at "w"
  refine ⟨ds, rfl, rfl, hd, fun z hz ds1 hd1 => ?_⟩
  walk_at "w"
  refine ⟨ds1, rfl, rfl, hd1, fun y hy ds2 hd2 => ?_⟩
  walk_at "w"
  refine ⟨by show 2 ≤ sizeLine; decide, ?_⟩
  exact .inl (h _ ⟨z, y, rfl, hz, hy⟩ ds2 hd2)
def sp__law_maybe_of : DSp := fun as m C _ => ∃ ds : List PyData, as = [.sl 0] ∧ m = [.fl ds] ∧ DrawOk ds ∧ ∀ d, (d = .none ∨ OfD d) → ∀ ds', DrawOk ds' → C (.val d) [.fl ds']
theorem l__law_maybe_of : ∀ as m C Ex, sp__law_maybe_of as m C Ex → b__law_maybe_of sp__law_next sp__law_of (endsD m.length C) (startD N__law_maybe_of as m) := by
  rintro as m C Ex ⟨ds, rfl, rfl, hd, h⟩
  walk_at "w"
  refine ⟨ds, _, rfl, rfl, hd, by decide, by decide, fun r ds' _ _ hd' => ?_⟩
  walk_at "w"
  refine ⟨fun e => ?_, fun e => ?_⟩
  · walk_at "w"
    exact ⟨_, rfl, rfl, hd', fun z hz ds' hd' => .inl (h z (.inr hz) ds' hd')⟩
  · exact .inl (h _ (.inl rfl) ds' hd')
end K16

namespace K16
open PySem PySem.Spec PyProof.Rows L2 MM
local macro_rules | `(tactic| walk_at "w") => `(tactic| conv => whnf)
def FormLeaf (d : PyData) : Prop := d = .tuple [.str "any"] ∨ ∃ z ∈ SMALLN, d = .tuple [.str "bind", .str z]
def FormOk : Nat → PyData → Prop
  | 0, d => FormLeaf d ∨ ∃ mo nm, ModS mo ∧ nm ∈ GREATN ∧ d = .tuple [.str "make", .str mo, .str nm, .tuple []]
  | n + 1, d => FormLeaf d ∨ ∃ mo nm ps, ModS mo ∧ nm ∈ GREATN ∧ d = .tuple [.str "make", .str mo, .str nm, .tuple ps] ∧ ps.length ≤ 3 ∧ ∀ p ∈ ps, FormOk n p
def PartsOk (k : Nat) (ps : List PyData) : Prop := ps.length ≤ 3 ∧ match k with
  | 0 => ps = []
  | j + 1 => ∀ p ∈ ps, FormOk j p
theorem FormOk.make {k : Nat} {mo nm : Str} {ps : List PyData} (h1 : ModS mo) (h2 : nm ∈ GREATN) (h : PartsOk k ps) : FormOk k (.tuple [.str "make", .str mo, .str nm, .tuple ps]) := by
  cases k with
  | zero =>
    obtain ⟨_, h⟩ := h
    have h : ps = [] := h
    subst h
    exact .inr ⟨mo, nm, h1, h2, rfl⟩
  | succ j => exact .inr ⟨mo, nm, ps, h1, h2, rfl, h.1, h.2⟩
theorem FormOk.leaf {n : Nat} {d : PyData} (h : FormLeaf d) : FormOk n d := by cases n <;> exact .inl h
def sp__law_form (n : Nat) : DSp := fun as m C _ => ∃ (ds : List PyData) (k : Nat), k < n ∧ as = [.sl 0, .val (.int (k : Nat))] ∧ m = [.fl ds] ∧ k < 100 ∧ DrawOk ds ∧ ∀ d, FormOk k d → ∀ ds', DrawOk ds' → C (.val d) [.fl ds']
theorem l__law_form (n : Nat) : ∀ as m C Ex, sp__law_form (n + 1) as m C Ex → b__law_form sp__law_next sp__law_small (sp__law_form n) sp__law_great sp__law_module (endsD m.length C) (startD N__law_form as m) := by
  rintro as m C Ex ⟨ds, k, hk, rfl, rfl, h100, hd, h⟩
  have hs := DD.sl_line
  walk_at "w"
  refine ⟨ds, _, rfl, rfl, hd, by decide, by decide, fun r ds1 r1 r2 hd1 => ?_⟩
  walk_at "w"
  refine ⟨fun e => ?_, fun e => ?_⟩
  · walk_at "w"
    refine ⟨by show 1 ≤ sizeLine; omega, ?_⟩
    exact .inl (h _ (.leaf (.inl rfl)) _ hd1)
  walk_at "w"
  refine ⟨fun e => ?_, fun e => ?_⟩
  · walk_at "w"
    refine ⟨ds1, rfl, rfl, hd1, fun z hz ds2 hd2 => ?_⟩
    walk_at "w"
    refine ⟨by show 2 ≤ sizeLine; omega, ?_⟩
    exact .inl (h _ (.leaf (.inr ⟨z, hz, rfl⟩)) _ hd2)
  refine nx_of ?_
  dsimp only
  refine seq_cut (fun δ => ∃ ds2 ps, DrawOk ds2 ∧ PartsOk k ps ∧ δ = ⟨[some (.sl 0), some (.val (.int (k : Nat))), some (.val (.int r)), some (.val (.tuple ps)), none], [.fl ds2]⟩) (fun N hN => ?_) ?_
  · walk_at "w"
    refine ⟨fun e1 => ?_, fun e1 => ?_⟩
    · have e1 := of_decide_eq_true e1
      obtain ⟨j, rfl⟩ : ∃ j, k = j + 1 := ⟨k - 1, by omega⟩
      walk_at "w"
      refine ⟨ds1, _, rfl, rfl, hd1, by decide, by decide, fun q ds2 q1 q2 hd2 => ?_⟩
      walk_at "w"
      refine ⟨by omega, by omega, ?_⟩
      refine lcR_inv 0 q.toNat (fun i acc δ => ∃ ds3, DrawOk ds3 ∧ acc.length = i ∧ (∀ p ∈ acc, FormOk j p) ∧ δ = ⟨[some (.sl 0), some (.val (.int ((j + 1 : Nat) : Int))), some (.val (.int r)), none, none], [.fl ds3]⟩) (fun i acc δ hi hP N2 hN2 => ?_) (fun acc δ hP => ?_) ⟨ds2, hd2, rfl, by simp, rfl⟩
      · obtain ⟨ds3, hd3, hal, hac, rfl⟩ := hP
        walk_at "w"
        refine ⟨fun _ => ?_, fun z => (by cases z)⟩
        walk_at "w"
        refine ⟨ds3, j, by omega, ?_, rfl, by omega, hd3, fun d hdd ds4 hd4 => ?_⟩
        · show [Ar.sl 0, .val (.int (((j + 1 : Nat) : Int) - 1))] = _
          have : ((j + 1 : Nat) : Int) - 1 = (j : Nat) := by omega
          rw [this]
        · walk_at "w"
          refine ⟨by omega, ?_⟩
          refine hN2 _ _ ⟨ds4, hd4, by rw [List.length_append, hal]; rfl, fun p hp => ?_, rfl⟩
          rcases List.mem_append.mp hp with hp | hp
          · exact hac p hp
          · rw [List.mem_singleton] at hp
            subst hp
            exact hdd
      · obtain ⟨ds3, hd3, hal, hac, rfl⟩ := hP
        walk_at "w"
        exact hN _ ⟨ds3, acc, hd3, ⟨by omega, hac⟩, rfl⟩
    · have e1 := of_decide_eq_false e1
      have hk0 : k = 0 := by omega
      subst hk0
      walk_at "w"
      refine ⟨by decide, by decide, ?_⟩
      walk_at "w"
      exact hN _ ⟨ds1, [], hd1, ⟨by simp, rfl⟩, rfl⟩
  · rintro _ ⟨ds2, ps, hd2, hp, rfl⟩
    walk_at "w"
    refine ⟨ds2, rfl, rfl, hd2, fun mo hmo ds3 hd3 => ?_⟩
    walk_at "w"
    refine ⟨ds3, rfl, rfl, hd3, fun nm hnm ds4 hd4 => ?_⟩
    walk_at "w"
    refine ⟨by show 4 ≤ sizeLine; omega, ?_⟩
    exact .inl (h _ (.make hmo hnm hp) _ hd4)
end K16

namespace K16
open PySem PySem.Spec PyProof.Rows L2 MM
local macro_rules | `(tactic| walk_at "w") => `(tactic| conv => whnf)
def ToldLeaf (d : PyData) : Prop := (∃ mo nm, ModS mo ∧ nm ∈ SMALLN ∧ d = .tuple [.str "name", .str mo, .str nm]) ∨ ∃ mo nm, ModS mo ∧ nm ∈ GREATN ∧ d = .tuple [.str "make", .str mo, .str nm, .tuple []]
def ArmOk (T : PyData → Prop) (r : PyData) : Prop := ∃ f e, r = .tuple [f, e] ∧ FormOk 3 f ∧ T e
inductive TStep (T : PyData → Prop) : PyData → Prop
  | let_ {z a b} : z ∈ SMALLN → T a → T b → TStep T (.tuple [.str "let", .str z, a, b])
  | if_ {a b c} : T a → T b → T c → TStep T (.tuple [.str "if", a, b, c])
  | same {a b} : T a → T b → TStep T (.tuple [.str "same", a, b])
  | case_ {t arms} : T t → 0 < arms.length → arms.length ≤ 3 → (∀ r ∈ arms, ArmOk T r) → TStep T (.tuple [.str "case", t, .tuple arms])
  | call {mo nm ts} : ModS mo → nm ∈ SMALLN → 0 < ts.length → ts.length ≤ 3 → (∀ t ∈ ts, T t) → TStep T (.tuple [.str "call", .str mo, .str nm, .tuple ts])
  | make {mo nm ts} : ModS mo → nm ∈ GREATN → ts.length ≤ 3 → (∀ t ∈ ts, T t) → TStep T (.tuple [.str "make", .str mo, .str nm, .tuple ts])
def TOk : Nat → PyData → Prop
  | 0, d => ToldLeaf d
  | n + 1, d => ToldLeaf d ∨ TStep (TOk n) d
theorem TOk.leaf {n : Nat} {d : PyData} (h : ToldLeaf d) : TOk n d := by
  cases n with
  | zero => exact h
  | succ n => exact .inl h
def sp__law_told (n : Nat) : DSp := fun as m C _ => ∃ (ds : List PyData) (k : Nat) (sz : Int), 2 * k + 1 ≤ n ∧ as = [.sl 0, .val (.int (k : Nat)), .sl 1] ∧ m = [.fl ds, .fl [.int sz]] ∧ k < 100 ∧ DrawOk ds ∧ ∀ d, TOk k d → ∀ ds' sz', DrawOk ds' → C (.val d) [.fl ds', .fl [.int sz']]
def sp__law_tolds (n : Nat) : DSp := fun as m C _ => ∃ (ds : List PyData) (k : Nat) (sz q : Int), 2 * k + 2 ≤ n ∧ as = [.sl 0, .val (.int (k : Nat)), .sl 1, .val (.int q)] ∧ m = [.fl ds, .fl [.int sz]] ∧ k < 100 ∧ DrawOk ds ∧ 0 ≤ q ∧ q ≤ 3 ∧
  ∀ ts : List PyData, (ts.length : Int) = q → (∀ t ∈ ts, TOk k t) → ∀ ds' sz', DrawOk ds' → C (.val (.tuple ts)) [.fl ds', .fl [.int sz']]
theorem l__law_tolds (n : Nat) : ∀ as m C Ex, sp__law_tolds (n + 1) as m C Ex → b__law_tolds (sp__law_told n) (endsD m.length C) (startD N__law_tolds as m) := by
  rintro as m C Ex ⟨ds, k, sz, q, hk, rfl, rfl, h100, hd, q0, q3, h⟩
  have hs := DD.sl_line
  walk_at "w"
  refine ⟨by omega, by omega, ?_⟩
  refine lcR_inv 0 q.toNat (fun i acc δ => ∃ ds3 sz3, DrawOk ds3 ∧ acc.length = i ∧ (∀ p ∈ acc, TOk k p) ∧ δ = ⟨[some (.sl 0), some (.val (.int (k : Nat))), some (.sl 1), some (.val (.int q)), none], [.fl ds3, .fl [.int sz3]]⟩) (fun i acc δ hi hP N2 hN2 => ?_) (fun acc δ hP => ?_) ⟨ds, sz, hd, rfl, by simp, rfl⟩
  · obtain ⟨ds3, sz3, hd3, hal, hac, rfl⟩ := hP
    walk_at "w"
    refine ⟨fun _ => ?_, fun z => (by cases z)⟩
    walk_at "w"
    refine ⟨ds3, k, sz3, by omega, rfl, rfl, h100, hd3, fun d hdd ds4 sz4 hd4 => ?_⟩
    walk_at "w"
    refine ⟨by omega, ?_⟩
    refine hN2 _ _ ⟨ds4, sz4, hd4, by rw [List.length_append, hal]; rfl, fun p hp => ?_, rfl⟩
    rcases List.mem_append.mp hp with hp | hp
    · exact hac p hp
    · rw [List.mem_singleton] at hp
      subst hp
      exact hdd
  · obtain ⟨ds3, sz3, hd3, hal, hac, rfl⟩ := hP
    walk_at "w"
    exact .inl (h acc (by omega) hac _ _ hd3)
theorem two_of {ts : List PyData} (h : (ts.length : Int) = 2) : ∃ a b, ts = [a, b] := by
  match ts, h with
  | [a, b], _ => exact ⟨a, b, rfl⟩
  | [], h => simp at h
  | [_], h => simp at h
  | _ :: _ :: _ :: _, h => simp at h; omega
theorem three_of {ts : List PyData} (h : (ts.length : Int) = 3) : ∃ a b c, ts = [a, b, c] := by
  match ts, h with
  | [a, b, c], _ => exact ⟨a, b, c, rfl⟩
  | [], h => simp at h
  | [_], h => simp at h
  | [_, _], h => simp at h
  | _ :: _ :: _ :: _ :: _, h => simp at h; omega
theorem l__law_told (n : Nat) : ∀ as m C Ex, sp__law_told (n + 1) as m C Ex → b__law_told sp__law_next sp__law_small (sp__law_tolds n) (sp__law_told n) (sp__law_form 5) sp__law_module sp__law_great (endsD m.length C) (startD N__law_told as m) := by
  rintro as m C Ex ⟨ds, k, sz, hk, rfl, rfl, h100, hd, h⟩
  have hs := DD.sl_line
  unfold b__law_told
  refine seq_cut (fun δ => δ = ⟨[some (.sl 0), some (.val (.int (k : Nat))), some (.sl 1), none, none, none, none], [.fl ds, .fl [.int (sz - 1)]]⟩) (fun N hN => ?_) ?_
  · walk_at "w"
    exact hN _ rfl
  rintro _ rfl
  refine seq_cut (fun δ => ∃ ds1 sz1 r, DrawOk ds1 ∧ (r = 9 ∨ 0 < k) ∧ δ = ⟨[some (.sl 0), some (.val (.int (k : Nat))), some (.sl 1), some (.val (.int r)), none, none, none], [.fl ds1, .fl [.int sz1]]⟩) (fun N hN => ?_) ?_
  · walk_at "w"
    refine ⟨fun e1 => ?_, fun e1 => ?_⟩
    · have e1 := of_decide_eq_true e1
      walk_at "w"
      refine ⟨fun e2 => ?_, fun e2 => ?_⟩
      · walk_at "w"
        refine ⟨ds, _, rfl, rfl, hd, by decide, by decide, fun r ds1 r1 r2 hd1 => ?_⟩
        walk_at "w"
        exact hN _ ⟨ds1, _, r, hd1, .inr (by omega), rfl⟩
      · exact hN _ ⟨ds, _, 9, hd, .inl rfl, rfl⟩
    · refine ⟨fun q => (by cases q), fun _ => ?_⟩
      exact hN _ ⟨ds, _, 9, hd, .inl rfl, rfl⟩
  · rintro _ ⟨ds1, sz1, r, hd1, hr, rfl⟩
    have pred : r ≠ 9 → ∃ j, k = j + 1 := fun q => ⟨k - 1, by omega⟩
    have k1 : ∀ j : Nat, ((j + 1 : Nat) : Int) - 1 = (j : Nat) := fun j => by omega
    walk_at "w"
    refine ⟨fun e => ?_, fun e => ?_⟩
    · have e := of_decide_eq_true e
      obtain ⟨j, rfl⟩ := pred (by omega)
      walk_at "w"
      refine ⟨ds1, rfl, rfl, hd1, fun z hz ds2 hd2 => ?_⟩
      walk_at "w"
      refine ⟨by show 2 ≤ sizeLine; omega, ?_⟩
      walk_at "w"
      refine ⟨ds2, j, sz1, 2, by omega, congrArg (fun z => [Ar.sl 0, Ar.val (.int z), Ar.sl 1, Ar.val (.int (2 : Nat))]) (k1 j), rfl, by omega, hd2, by decide, by decide, fun ts tl th ds3 sz3 hd3 => ?_⟩
      obtain ⟨a, b, rfl⟩ := two_of tl
      walk_at "w"
      refine ⟨by show 2 + 2 ≤ sizeLine; omega, ?_⟩
      exact .inl (h _ (.inr (.let_ hz (th a (by simp)) (th b (by simp)))) _ _ hd3)
    walk_at "w"
    refine ⟨fun e => ?_, fun e => ?_⟩
    · have e := of_decide_eq_true e
      obtain ⟨j, rfl⟩ := pred (by omega)
      walk_at "w"
      refine ⟨by show 1 ≤ sizeLine; omega, ?_⟩
      walk_at "w"
      refine ⟨ds1, j, sz1, 3, by omega, congrArg (fun z => [Ar.sl 0, Ar.val (.int z), Ar.sl 1, Ar.val (.int (3 : Nat))]) (k1 j), rfl, by omega, hd1, by decide, by decide, fun ts tl th ds3 sz3 hd3 => ?_⟩
      obtain ⟨a, b, c, rfl⟩ := three_of tl
      walk_at "w"
      refine ⟨by show 1 + 3 ≤ sizeLine; omega, ?_⟩
      exact .inl (h _ (.inr (.if_ (th a (by simp)) (th b (by simp)) (th c (by simp)))) _ _ hd3)
    walk_at "w"
    refine ⟨fun e => ?_, fun e => ?_⟩
    · have e := of_decide_eq_true e
      obtain ⟨j, rfl⟩ := pred (by omega)
      walk_at "w"
      refine ⟨by show 1 ≤ sizeLine; omega, ?_⟩
      walk_at "w"
      refine ⟨ds1, j, sz1, 2, by omega, congrArg (fun z => [Ar.sl 0, Ar.val (.int z), Ar.sl 1, Ar.val (.int (2 : Nat))]) (k1 j), rfl, by omega, hd1, by decide, by decide, fun ts tl th ds3 sz3 hd3 => ?_⟩
      obtain ⟨a, b, rfl⟩ := two_of tl
      walk_at "w"
      refine ⟨by show 1 + 2 ≤ sizeLine; omega, ?_⟩
      exact .inl (h _ (.inr (.same (th a (by simp)) (th b (by simp)))) _ _ hd3)
    walk_at "w"
    refine ⟨fun e => ?_, fun e => ?_⟩
    · have e := of_decide_eq_true e
      obtain ⟨j, rfl⟩ := pred (by omega)
      walk_at "w"
      refine ⟨ds1, j, sz1, by omega, congrArg (fun z => [Ar.sl 0, Ar.val (.int z), Ar.sl 1]) (k1 j), rfl, by omega, hd1, fun t ht ds2 sz2 hd2 => ?_⟩
      walk_at "w"
      refine ⟨ds2, _, rfl, rfl, hd2, by decide, by decide, fun q ds3 q1 q2 hd3 => ?_⟩
      walk_at "w"
      refine ⟨by omega, by omega, ?_⟩
      refine lcR_inv 0 (1 + q).toNat (fun i acc δ => ∃ ds4 sz4, DrawOk ds4 ∧ acc.length = i ∧ (∀ p ∈ acc, ArmOk (TOk j) p) ∧ δ = ⟨[some (.sl 0), some (.val (.int ((j + 1 : Nat) : Int))), some (.sl 1), some (.val (.int r)), some (.val t), none, none], [.fl ds4, .fl [.int sz4]]⟩) (fun i acc δ hi hP N2 hN2 => ?_) (fun acc δ hP => ?_) ⟨ds3, sz2, hd3, rfl, by simp, rfl⟩
      · obtain ⟨ds4, sz4, hd4, hal, hac, rfl⟩ := hP
        walk_at "w"
        refine ⟨fun _ => ?_, fun z => (by cases z)⟩
        walk_at "w"
        refine ⟨ds4, 3, by decide, rfl, rfl, by decide, hd4, fun f hf ds5 hd5 => ?_⟩
        walk_at "w"
        refine ⟨ds5, j, sz4, by omega, congrArg (fun z => [Ar.sl 0, Ar.val (.int z), Ar.sl 1]) (k1 j), rfl, by omega, hd5, fun e he ds6 sz6 hd6 => ?_⟩
        walk_at "w"
        refine ⟨by show 2 ≤ sizeLine; omega, ?_⟩
        walk_at "w"
        refine ⟨by omega, ?_⟩
        refine hN2 _ _ ⟨ds6, sz6, hd6, by rw [List.length_append, hal]; rfl, fun p hp => ?_, rfl⟩
        rcases List.mem_append.mp hp with hp | hp
        · exact hac p hp
        · rw [List.mem_singleton] at hp
          subst hp
          exact ⟨f, e, rfl, hf, he⟩
      · obtain ⟨ds4, sz4, hd4, hal, hac, rfl⟩ := hP
        walk_at "w"
        refine ⟨by show 3 ≤ sizeLine; omega, ?_⟩
        exact .inl (h _ (.inr (.case_ ht (by omega) (by omega) hac)) _ _ hd4)
    walk_at "w"
    refine ⟨fun e => ?_, fun e => ?_⟩
    · have e := of_decide_eq_true e
      obtain ⟨j, rfl⟩ := pred (by omega)
      walk_at "w"
      refine ⟨ds1, rfl, rfl, hd1, fun mo hmo ds2 hd2 => ?_⟩
      walk_at "w"
      refine ⟨ds2, rfl, rfl, hd2, fun nm hnm ds3 hd3 => ?_⟩
      walk_at "w"
      refine ⟨ds3, _, rfl, rfl, hd3, by decide, by decide, fun q ds4 q1 q2 hd4 => ?_⟩
      walk_at "w"
      refine ⟨ds4, j, sz1, 1 + q, by omega, congrArg (fun z => [Ar.sl 0, Ar.val (.int z), Ar.sl 1, Ar.val (.int (1 + q))]) (k1 j), rfl, by omega, hd4, by omega, by omega, fun ts tl th ds5 sz5 hd5 => ?_⟩
      walk_at "w"
      refine ⟨by show 4 ≤ sizeLine; omega, ?_⟩
      exact .inl (h _ (.inr (.call hmo hnm (by omega) (by omega) th)) _ _ hd5)
    walk_at "w"
    refine ⟨fun e => ?_, fun e => ?_⟩
    · have e := of_decide_eq_true e
      obtain ⟨j, rfl⟩ := pred (by omega)
      walk_at "w"
      refine ⟨ds1, rfl, rfl, hd1, fun mo hmo ds2 hd2 => ?_⟩
      walk_at "w"
      refine ⟨ds2, rfl, rfl, hd2, fun nm hnm ds3 hd3 => ?_⟩
      walk_at "w"
      refine ⟨ds3, _, rfl, rfl, hd3, by decide, by decide, fun q ds4 q1 q2 hd4 => ?_⟩
      walk_at "w"
      refine ⟨ds4, j, sz1, q, by omega, congrArg (fun z => [Ar.sl 0, Ar.val (.int z), Ar.sl 1, Ar.val (.int _)]) (k1 j), rfl, by omega, hd4, by omega, by omega, fun ts tl th ds5 sz5 hd5 => ?_⟩
      walk_at "w"
      refine ⟨by show 4 ≤ sizeLine; omega, ?_⟩
      exact .inl (h _ (.inr (.make hmo hnm (by omega) th)) _ _ hd5)
    walk_at "w"
    refine ⟨ds1, _, rfl, rfl, hd1, by decide, by decide, fun q ds2 q1 q2 hd2 => ?_⟩
    walk_at "w"
    refine ⟨fun e => ?_, fun e => ?_⟩
    · walk_at "w"
      refine ⟨ds2, rfl, rfl, hd2, fun mo hmo ds3 hd3 => ?_⟩
      walk_at "w"
      refine ⟨ds3, rfl, rfl, hd3, fun nm hnm ds4 hd4 => ?_⟩
      walk_at "w"
      refine ⟨by show 3 ≤ sizeLine; omega, ?_⟩
      exact .inl (h _ (.leaf (.inl ⟨mo, nm, hmo, hnm, rfl⟩)) _ _ hd4)
    · walk_at "w"
      refine ⟨ds2, rfl, rfl, hd2, fun mo hmo ds3 hd3 => ?_⟩
      walk_at "w"
      refine ⟨ds3, rfl, rfl, hd3, fun nm hnm ds4 hd4 => ?_⟩
      walk_at "w"
      refine ⟨by show 0 ≤ sizeLine; omega, ?_⟩
      walk_at "w"
      refine ⟨by show 4 ≤ sizeLine; omega, ?_⟩
      exact .inl (h _ (.leaf (.inr ⟨mo, nm, hmo, hnm, rfl⟩)) _ _ hd4)
end K16

namespace K16
open PySem PySem.Spec PyProof.Rows L2 MM
local macro_rules | `(tactic| walk_at "w") => `(tactic| conv => whnf)
inductive ShownD : PyData → Prop
  | name {z} : z ∈ SMALLN → ShownD (.tuple [.str "name", .str z])
  | kind {z} {q : Int} : z ∈ GREATN → q = 0 ∨ q = 1 → ShownD (.tuple [.str "kind", .str z, .int q])
def ThingD (d : PyData) : Prop := ∃ z, (z ∈ SMALLN ∨ z ∈ GREATN) ∧ d = .str z
def MakerD (d : PyData) : Prop := ∃ z os, z ∈ GREATN ∧ os.length ≤ 3 ∧ (∀ o ∈ os, OfD o) ∧ d = .tuple [.str z, .tuple os]
def MaybeOf (d : PyData) : Prop := d = .none ∨ OfD d
def GivenD (d : PyData) : Prop := ∃ z o, z ∈ SMALLN ∧ MaybeOf o ∧ d = .tuple [.str z, o]
inductive ItemD : PyData → Prop
  | face {ts} : 0 < ts.length → ts.length ≤ 4 → (∀ t ∈ ts, ShownD t) → ItemD (.tuple [.str "face", .tuple ts])
  | use {z y : Str} : z ∈ GREATN → y = "" ∨ y ∈ GREATN → ItemD (.tuple [.str "use", .str z, .str y])
  | all {z} : z ∈ GREATN → ItemD (.tuple [.str "open", .str z, .str "all", .tuple []])
  | open_ {z w : Str} {ts} : z ∈ GREATN → w = "only" ∨ w = "hiding" → 0 < ts.length → ts.length ≤ 4 → (∀ t ∈ ts, ThingD t) → ItemD (.tuple [.str "open", .str z, .str w, .tuple ts])
  | kind {z ts} : z ∈ GREATN → 0 < ts.length → ts.length ≤ 4 → (∀ t ∈ ts, MakerD t) → ItemD (.tuple [.str "kind", .str z, .tuple ts])
  | def_ {z ts o t} {k : Nat} : z ∈ SMALLN → ts.length ≤ 3 → (∀ t ∈ ts, GivenD t) → MaybeOf o → k ≤ 6 → TOk k t → ItemD (.tuple [.str "def", .str z, .tuple ts, o, t])
def sp__law_item : DSp := fun as m C _ => ∃ (ds : List PyData) (q z : Int) (k : Nat), as = [.sl 0, .val (.int q), .val (.int (k : Nat)), .val (.int z)] ∧ m = [.fl ds] ∧ k ≤ 6 ∧ DrawOk ds ∧ ∀ d, ItemD d → ∀ ds', DrawOk ds' → C (.val d) [.fl ds']
theorem all_snoc {P : PyData → Prop} {acc : List PyData} {d : PyData} (h : ∀ p ∈ acc, P p) (hd : P d) : ∀ p ∈ acc ++ [d], P p := by
  intro p hp
  rcases List.mem_append.mp hp with hp | hp
  · exact h p hp
  · rw [List.mem_singleton] at hp
    subst hp
    exact hd
theorem closed_fl (xs : List PyData) : closedL 1 [Mo.fl xs] := by
  intro o ho i hi
  rw [List.mem_singleton] at ho
  subst ho
  cases hi
theorem l__law_item : ∀ as m C Ex, sp__law_item as m C Ex → b__law_item sp__law_next sp__law_small sp__law_great sp__law_pick sp__law_of sp__law_maybe_of (sp__law_told 40) (endsD m.length C) (startD N__law_item as m) := by
  rintro as m C Ex ⟨ds, q, z, k, rfl, rfl, hk, hd, h⟩
  have hs := DD.sl_line
  walk_at "w"
  refine ⟨ds, _, rfl, rfl, hd, by decide, by decide, fun r ds1 r1 r2 hd1 => ?_⟩
  walk_at "w"
  refine ⟨fun e => ?_, fun e => ?_⟩
  · walk_at "w"
    refine ⟨by omega, by omega, ?_⟩
    refine lcR_inv 0 (1 + r).toNat (fun i acc δ => ∃ ds4, DrawOk ds4 ∧ acc.length = i ∧ (∀ p ∈ acc, ShownD p) ∧ δ = ⟨[some (.sl 0), some (.val (.int q)), some (.val (.int (k : Nat))), some (.val (.int z)), some (.val (.int (1 + r))), none, none, none, none, none, none], [.fl ds4]⟩) (fun i acc δ hi hP N2 hN2 => ?_) (fun acc δ hP => ?_) ⟨ds1, hd1, rfl, by simp, rfl⟩
    · obtain ⟨ds4, hd4, hal, hac, rfl⟩ := hP
      walk_at "w"
      refine ⟨fun _ => ?_, fun z => (by cases z)⟩
      walk_at "w"
      refine ⟨ds4, _, rfl, rfl, hd4, by decide, by decide, fun v ds5 v1 v2 hd5 => ?_⟩
      walk_at "w"
      refine ⟨fun e2 => ?_, fun e2 => ?_⟩
      · walk_at "w"
        refine ⟨ds5, rfl, rfl, hd5, fun y hy ds6 hd6 => ?_⟩
        walk_at "w"
        refine ⟨by show 2 ≤ sizeLine; omega, ?_⟩
        walk_at "w"
        refine ⟨by omega, ?_⟩
        exact hN2 _ _ ⟨ds6, hd6, by rw [List.length_append, hal]; rfl, all_snoc hac (.name hy), rfl⟩
      · walk_at "w"
        refine ⟨ds5, rfl, rfl, hd5, fun y hy ds6 hd6 => ?_⟩
        walk_at "w"
        refine ⟨ds6, _, rfl, rfl, hd6, by decide, by decide, fun u ds7 u1 u2 hd7 => ?_⟩
        walk_at "w"
        refine ⟨by show 3 ≤ sizeLine; omega, ?_⟩
        walk_at "w"
        refine ⟨by omega, ?_⟩
        exact hN2 _ _ ⟨ds7, hd7, by rw [List.length_append, hal]; rfl, all_snoc hac (.kind hy (by omega)), rfl⟩
    · obtain ⟨ds4, hd4, hal, hac, rfl⟩ := hP
      walk_at "w"
      refine ⟨by show 2 ≤ sizeLine; omega, ?_⟩
      exact .inl (h _ (.face (by omega) (by omega) hac) _ hd4)
  walk_at "w"
  refine ⟨fun e => ?_, fun e => ?_⟩
  · walk_at "w"
    refine ⟨ds1, rfl, rfl, hd1, fun y hy ds2 hd2 => ?_⟩
    walk_at "w"
    refine ⟨ds2, rfl, rfl, hd2, fun x hx ds3 hd3 => ?_⟩
    walk_at "w"
    refine ⟨by show 2 ≤ sizeLine; omega, ?_⟩
    walk_at "w"
    refine pick_strs (Ex := fun _ _ => False) (zs := ["", x]) hd3 (Nat.zero_lt_succ _) (by show 2 < 1000; decide) fun u hu ds4 hd4 => ?_
    walk_at "w"
    refine ⟨by show 3 ≤ sizeLine; omega, ?_⟩
    refine .inl (h _ (.use hy ?_) _ hd4)
    rcases List.mem_cons.mp hu with rfl | hu
    · exact .inl rfl
    · rw [List.mem_singleton] at hu
      exact .inr (hu ▸ hx)
  walk_at "w"
  refine ⟨fun e => ?_, fun e => ?_⟩
  · walk_at "w"
    refine ⟨by show 3 ≤ sizeLine; omega, ?_⟩
    walk_at "w"
    refine pick_strs (Ex := fun _ _ => False) (zs := ["all", "only", "hiding"]) hd1 (by decide) (by decide) fun u hu ds2 hd2 => ?_
    walk_at "w"
    refine ⟨by omega, by omega, ?_⟩
    refine lcR_inv 0 (1 + r).toNat (fun i acc δ => ∃ ds4, DrawOk ds4 ∧ acc.length = i ∧ (∀ p ∈ acc, ThingD p) ∧ δ = ⟨[some (.sl 0), some (.val (.int q)), some (.val (.int (k : Nat))), some (.val (.int z)), some (.val (.int (1 + r))), none, none, some (.val (.str u)), none, none, none], [.fl ds4]⟩) (fun i acc δ hi hP N2 hN2 => ?_) (fun acc δ hP => ?_) ⟨ds2, hd2, rfl, by simp, rfl⟩
    · obtain ⟨ds4, hd4, hal, hac, rfl⟩ := hP
      walk_at "w"
      refine ⟨fun _ => ?_, fun z => (by cases z)⟩
      walk_at "w"
      refine ⟨ds4, _, rfl, rfl, hd4, by decide, by decide, fun v ds5 v1 v2 hd5 => ?_⟩
      walk_at "w"
      refine ⟨fun e2 => ?_, fun e2 => ?_⟩
      · walk_at "w"
        refine ⟨ds5, rfl, rfl, hd5, fun y hy ds6 hd6 => ?_⟩
        walk_at "w"
        refine ⟨by omega, ?_⟩
        exact hN2 _ _ ⟨ds6, hd6, by rw [List.length_append, hal]; rfl, all_snoc hac ⟨_, .inl hy, rfl⟩, rfl⟩
      · walk_at "w"
        refine ⟨ds5, rfl, rfl, hd5, fun y hy ds6 hd6 => ?_⟩
        walk_at "w"
        refine ⟨by omega, ?_⟩
        exact hN2 _ _ ⟨ds6, hd6, by rw [List.length_append, hal]; rfl, all_snoc hac ⟨_, .inr hy, rfl⟩, rfl⟩
    · obtain ⟨ds4, hd4, hal, hac, rfl⟩ := hP
      walk_at "w"
      refine ⟨ds4, rfl, rfl, hd4, fun y hy ds5 hd5 => ?_⟩
      walk_at "w"
      refine ⟨fun e3 => ?_, fun e3 => ?_⟩
      · have e3 : u = "all" := of_decide_eq_true e3
        subst e3
        walk_at "w"
        refine ⟨by show 0 ≤ sizeLine; omega, ?_⟩
        walk_at "w"
        refine ⟨by show 4 ≤ sizeLine; omega, ?_⟩
        exact .inl (h _ (.all hy) _ hd5)
      · have e3 : u ≠ "all" := of_decide_eq_false e3
        walk_at "w"
        refine ⟨by show 4 ≤ sizeLine; omega, ?_⟩
        exact .inl (h _ (.open_ hy (by simpa [e3] using hu) (by omega) (by omega) hac) _ hd5)
  walk_at "w"
  refine ⟨fun e => ?_, fun e => ?_⟩
  · walk_at "w"
    refine ⟨by omega, by omega, ?_⟩
    refine lcR_inv 0 (1 + r).toNat (fun i acc δ => ∃ ds4, DrawOk ds4 ∧ acc.length = i ∧ (∀ p ∈ acc, MakerD p) ∧ δ = ⟨[some (.sl 0), some (.val (.int q)), some (.val (.int (k : Nat))), some (.val (.int z)), some (.val (.int (1 + r))), none, none, none, none, none, none], [.fl ds4]⟩) (fun i acc δ hi hP N2 hN2 => ?_) (fun acc δ hP => ?_) ⟨ds1, hd1, rfl, by simp, rfl⟩
    · obtain ⟨ds4, hd4, hal, hac, rfl⟩ := hP
      walk_at "w"
      refine ⟨fun _ => ?_, fun z => (by cases z)⟩
      walk_at "w"
      refine ⟨ds4, rfl, rfl, hd4, fun y hy ds5 hd5 => ?_⟩
      walk_at "w"
      refine ⟨ds5, _, rfl, rfl, hd5, by decide, by decide, fun v ds6 v1 v2 hd6 => ?_⟩
      walk_at "w"
      refine ⟨by omega, by omega, ?_⟩
      refine lcR_inv 0 v.toNat (fun i' acc' δ => ∃ ds7, DrawOk ds7 ∧ acc'.length = i' ∧ (∀ p ∈ acc', OfD p) ∧ δ = ⟨[some (.sl 0), some (.val (.int q)), some (.val (.int (k : Nat))), some (.val (.int z)), some (.val (.int (1 + r))), none, some (.val (.int (0 + (i : Nat)))), none, none, none, none], [.fl ds7]⟩) (fun i' acc' δ hi' hP' N3 hN3 => ?_) (fun acc' δ hP' => ?_) ⟨ds6, hd6, rfl, by simp, rfl⟩
      · obtain ⟨ds7, hd7, hal', hac', rfl⟩ := hP'
        walk_at "w"
        refine ⟨fun _ => ?_, fun z => (by cases z)⟩
        walk_at "w"
        refine ⟨ds7, rfl, rfl, hd7, fun o ho ds8 hd8 => ?_⟩
        walk_at "w"
        refine ⟨by omega, ?_⟩
        exact hN3 _ _ ⟨ds8, hd8, by rw [List.length_append, hal']; rfl, all_snoc hac' ho, rfl⟩
      · obtain ⟨ds7, hd7, hal', hac', rfl⟩ := hP'
        walk_at "w"
        refine ⟨by show 2 ≤ sizeLine; omega, ?_⟩
        walk_at "w"
        refine ⟨by omega, ?_⟩
        exact hN2 _ _ ⟨ds7, hd7, by rw [List.length_append, hal]; rfl, all_snoc hac ⟨y, _, hy, by omega, hac', rfl⟩, rfl⟩
    · obtain ⟨ds4, hd4, hal, hac, rfl⟩ := hP
      walk_at "w"
      refine ⟨ds4, rfl, rfl, hd4, fun y hy ds5 hd5 => ?_⟩
      walk_at "w"
      refine ⟨by show 3 ≤ sizeLine; omega, ?_⟩
      exact .inl (h _ (.kind hy (by omega) (by omega) hac) _ hd5)
  walk_at "w"
  refine ⟨ds1, _, rfl, rfl, hd1, by decide, by decide, fun v ds2 v1 v2 hd2 => ?_⟩
  walk_at "w"
  refine ⟨by omega, by omega, ?_⟩
  refine lcR_inv 0 v.toNat (fun i acc δ => ∃ ds4, DrawOk ds4 ∧ acc.length = i ∧ (∀ p ∈ acc, GivenD p) ∧ δ = ⟨[some (.sl 0), some (.val (.int q)), some (.val (.int (k : Nat))), some (.val (.int z)), some (.val (.int (1 + r))), none, none, none, none, none, none], [.fl ds4]⟩) (fun i acc δ hi hP N2 hN2 => ?_) (fun acc δ hP => ?_) ⟨ds2, hd2, rfl, by simp, rfl⟩
  · obtain ⟨ds4, hd4, hal, hac, rfl⟩ := hP
    walk_at "w"
    refine ⟨fun _ => ?_, fun z => (by cases z)⟩
    walk_at "w"
    refine ⟨ds4, rfl, rfl, hd4, fun y hy ds5 hd5 => ?_⟩
    walk_at "w"
    refine ⟨ds5, rfl, rfl, hd5, fun o ho ds6 hd6 => ?_⟩
    walk_at "w"
    refine ⟨by show 2 ≤ sizeLine; omega, ?_⟩
    walk_at "w"
    refine ⟨by omega, ?_⟩
    exact hN2 _ _ ⟨ds6, hd6, by rw [List.length_append, hal]; rfl, all_snoc hac ⟨y, o, hy, ho, rfl⟩, rfl⟩
  · obtain ⟨ds4, hd4, hal, hac, rfl⟩ := hP
    walk_at "w"
    refine ⟨ds4, rfl, rfl, hd4, fun y hy ds5 hd5 => ?_⟩
    walk_at "w"
    refine ⟨ds5, rfl, rfl, hd5, fun o ho ds6 hd6 => ?_⟩
    walk_at "w"
    refine ⟨by show 1 ≤ sizeLine; omega, ?_⟩
    walk_at "w"
    refine ⟨ds6, k, z, by omega, rfl, rfl, by omega, hd6, fun t ht ds7 sz7 hd7 => ?_⟩
    walk_at "w"
    refine ⟨by show 5 ≤ sizeLine; omega, ?_⟩
    exact .inr ⟨closed_fl ds7, h _ (.def_ hy (by omega) hac ho hk ht) _ hd7⟩
end K16

namespace K16
open PySem PySem.Spec PyProof.Rows L2 MM
local macro_rules | `(tactic| walk_at "w") => `(tactic| conv => whnf)
/-- a row of strings, as a value -/
abbrev rw_ (r : List Str) : PyData := .list (r.map PyData.str)
def dot (mo nm : Str) : List Str := if mo = "" then [nm] else [mo, ".", nm]
def btw (sign : Str) : List (List Str) → List Str
  | [] => []
  | [r] => r
  | r :: s :: rs => r ++ sign :: btw sign (s :: rs)
def inB (rows : List (List Str)) : List Str := if rows = [] then [] else [("(" : Str)] ++ btw "," rows ++ [(")" : Str)]
theorem atI_nmap {α β : Type} {f : α → β} {xs : List α} {k : Nat} (h : k < xs.length) : atI (xs.map f) (k : Int) = some (f xs[k]) := atI_nat (by rw [List.getElem?_map, List.getElem?_eq_getElem h]; rfl)
theorem btw_snoc (sign : Str) (rs : List (List Str)) (r : List Str) : btw sign (rs ++ [r]) = btw sign rs ++ (if rs = [] then [] else [sign]) ++ r := by
  induction rs with
  | nil => simp [btw]
  | cons a rs ih =>
    cases rs with
    | nil => simp [btw]
    | cons b rs =>
      have e : btw sign (a :: (b :: rs) ++ [r]) = a ++ sign :: btw sign (b :: rs ++ [r]) := rfl
      rw [e, ih]
      simp [btw]
def sp__law_dotted : DSp := fun as m C _ => ∃ mo nm : Str, as = [.val (.str mo), .val (.str nm)] ∧ C (.val (rw_ (dot mo nm))) m
theorem l__law_dotted : ∀ as m C Ex, sp__law_dotted as m C Ex → b__law_dotted (endsD m.length C) (startD N__law_dotted as m) := by
  rintro as m C Ex ⟨mo, nm, rfl, h⟩
  have hs := DD.sl_line
  walk_at "w"
  refine ⟨fun e => ?_, fun e => ?_⟩
  · have e : mo = "" := of_decide_eq_true e
    walk_at "w"
    refine ⟨by show 1 ≤ sizeLine; omega, ?_⟩
    rw [dot, if_pos e] at h
    exact .inl h
  · have e : mo ≠ "" := of_decide_eq_false e
    walk_at "w"
    refine ⟨by show 3 ≤ sizeLine; omega, ?_⟩
    rw [dot, if_neg e] at h
    exact .inl h
def sp__law_between : DSp := fun as m C _ => ∃ (rows : List (List Str)) (sign : Str), as = [.val (.list (rows.map rw_)), .val (.str sign)] ∧ rows.length ≤ 4 ∧ (btw sign rows).length < 4000000 ∧ C (.val (rw_ (btw sign rows))) m
theorem btw_app (sign : Str) (ss : List (List Str)) : ∀ rs : List (List Str), (btw sign rs).length ≤ (btw sign (rs ++ ss)).length := by
  induction ss with
  | nil => intro rs; simp
  | cons s ss ih =>
    intro rs
    have e : rs ++ s :: ss = (rs ++ [s]) ++ ss := by simp
    rw [e]
    refine Nat.le_trans ?_ (ih _)
    rw [btw_snoc]
    simp only [List.length_append]
    omega
theorem btw_len (sign : Str) (rs : List (List Str)) (k : Nat) : (btw sign (rs.take k)).length ≤ (btw sign rs).length := by
  have h := btw_app sign (rs.drop k) (rs.take k)
  rwa [List.take_append_drop] at h
theorem l__law_between : ∀ as m C Ex, sp__law_between as m C Ex → b__law_between (endsD m.length C) (startD N__law_between as m) := by
  rintro as m C Ex ⟨rows, sign, rfl, h4, hl, h⟩
  have hs := DD.sl_line
  unfold b__law_between
  refine seq_cut (fun δ => δ = ⟨[some (.val (.list (rows.map rw_))), some (.val (.str sign)), some (.val (.list [])), none], m⟩) (fun N hN => ?_) ?_
  · walk_at "w"
    refine ⟨by show 0 ≤ sizeLine; omega, ?_⟩
    exact hN _ rfl
  rintro _ rfl
  walk_at "w"
  refine ⟨by omega, by simp; omega, ?_⟩
  refine forR_inv 0 ((rows.map rw_).length : Int).toNat (fun k δ => ∃ x, δ = ⟨[some (.val (.list (rows.map rw_))), some (.val (.str sign)), some (.val (rw_ (btw sign (rows.take k)))), x], m⟩) (fun k δ hk hP N hN => ?_) (fun δ hP => ?_) ⟨none, rfl⟩
  · obtain ⟨x, rfl⟩ := hP
    have hk : k < rows.length := by simpa using hk
    have ek : rows.take (k + 1) = rows.take k ++ [rows[k]] := by rw [List.take_succ, List.getElem?_eq_getElem hk]; rfl
    have bl := btw_len sign rows (k + 1)
    have bs := btw_snoc sign (rows.take k) rows[k]
    rw [← ek] at bs
    have ix : atI (rows.map rw_) (0 + (k : Nat) : Int) = some (rw_ rows[k]) := by
      rw [Int.zero_add]
      exact atI_nmap hk
    have fin : rw_ (btw sign (rows.take (k + 1))) = .list (((btw sign (rows.take k)).map PyData.str ++ (if (0 : Int) < 0 + (k : Nat) then [PyData.str sign] else [])) ++ rows[k].map PyData.str) := by
      rw [bs]
      by_cases q : k = 0
      · subst q; simp [rw_]
      · have q1 : rows.take k ≠ [] := by
          intro q2
          have := congrArg List.length q2
          rw [List.length_take, List.length_nil] at this
          omega
        have q3 : (0 : Int) < 0 + (k : Nat) := by omega
        rw [if_neg q1, if_pos q3]
        simp [rw_]
    have lb : (btw sign (rows.take k)).length + rows[k].length < 4000000 := by
      have q := congrArg List.length bs
      simp only [List.length_append] at q
      omega
    have nx := hN _ ⟨some (.val (.int (0 + (k : Nat)))), rfl⟩
    rw [fin] at nx
    walk_at "w"
    refine ⟨fun e => ?_, fun e => ?_⟩
    · have e : (0 : Int) < 0 + (k : Nat) := of_decide_eq_true e
      rw [if_pos e] at nx
      walk_at "w"
      refine ⟨by show 1 ≤ sizeLine; omega, ?_⟩
      walk_at "w"
      refine ⟨by simp only [List.length_map, List.length_cons, List.length_nil]; omega, ?_⟩
      walk_at "w"
      rw [ix]
      walk_at "w"
      refine ⟨by simp only [List.length_append, List.length_map, List.length_cons, List.length_nil]; omega, ?_⟩
      exact nx
    · have e : ¬ (0 : Int) < 0 + (k : Nat) := of_decide_eq_false e
      rw [if_neg e] at nx
      walk_at "w"
      refine ⟨by show 0 ≤ sizeLine; omega, ?_⟩
      walk_at "w"
      refine ⟨by simp only [List.length_map, List.length_nil]; omega, ?_⟩
      walk_at "w"
      rw [ix]
      walk_at "w"
      refine ⟨by simp only [List.length_append, List.length_map, List.length_nil]; omega, ?_⟩
      exact nx
  · obtain ⟨x, rfl⟩ := hP
    walk_at "w"
    refine .inl ?_
    rw [List.take_of_length_le (by simp)]
    exact h
def sp__law_in_brackets : DSp := fun as m C _ => ∃ rows : List (List Str), as = [.val (.list (rows.map rw_))] ∧ rows.length ≤ 4 ∧ (btw "," rows).length < 4000000 ∧ C (.val (rw_ (inB rows))) m
theorem l__law_in_brackets : ∀ as m C Ex, sp__law_in_brackets as m C Ex → b__law_in_brackets sp__law_between (endsD m.length C) (startD N__law_in_brackets as m) := by
  rintro as m C Ex ⟨rows, rfl, h4, hl, h⟩
  have hs := DD.sl_line
  walk_at "w"
  refine ⟨fun e => ?_, fun e => ?_⟩
  · have e := of_decide_eq_true e
    have e : rows = [] := by
      have e : ((rows.map rw_).length : Int) = 0 := e
      rw [List.length_map] at e
      exact List.eq_nil_of_length_eq_zero (by omega)
    walk_at "w"
    refine ⟨by show 0 ≤ sizeLine; omega, ?_⟩
    rw [inB, if_pos e] at h
    exact .inl h
  · have e := of_decide_eq_false e
    have e : rows ≠ [] := by
      intro q
      subst q
      exact e rfl
    walk_at "w"
    refine ⟨by show 1 ≤ sizeLine; omega, ?_⟩
    walk_at "w"
    refine ⟨rows, _, rfl, h4, hl, ?_⟩
    walk_at "w"
    refine ⟨by simp only [List.length_map, List.length_cons, List.length_nil]; omega, ?_⟩
    walk_at "w"
    refine ⟨by show 1 ≤ sizeLine; omega, ?_⟩
    walk_at "w"
    refine ⟨by simp only [List.length_append, List.length_map, List.length_cons, List.length_nil]; omega, ?_⟩
    rw [inB, if_neg e] at h
    simp only [rw_, List.map_append] at h
    exact .inl h
def ofR : PyData → List Str
  | .tuple [.str mo, .str nm] => [(":" : Str)] ++ dot mo nm
  | _ => []
def sp__law_with_of : DSp := fun as m C _ => ∃ (row : List Str) (o : PyData), as = [.val (rw_ row), .val o] ∧ row.length < 4000000 ∧ MaybeOf o ∧ C (.val (rw_ (row ++ ofR o))) m
theorem dot_len (mo nm : Str) : (dot mo nm).length ≤ 3 := by
  unfold dot
  split <;> simp
theorem l__law_with_of : ∀ as m C Ex, sp__law_with_of as m C Ex → b__law_with_of sp__law_dotted (endsD m.length C) (startD N__law_with_of as m) := by
  rintro as m C Ex ⟨row, o, rfl, hl, ho, h⟩
  have hs := DD.sl_line
  rcases ho with rfl | ⟨mo, nm, rfl, _, _⟩
  · walk_at "w"
    refine ⟨fun e => ?_, fun e => (by cases e)⟩
    simp only [ofR, List.append_nil] at h
    exact .inl h
  · walk_at "w"
    refine ⟨fun e => (by cases e), fun e => ?_⟩
    have dl := dot_len mo nm
    walk_at "w"
    refine ⟨by show 1 ≤ sizeLine; omega, ?_⟩
    walk_at "w"
    refine ⟨by simp only [List.length_map, List.length_cons, List.length_nil]; omega, ?_⟩
    walk_at "w"
    refine ⟨mo, nm, rfl, ?_⟩
    walk_at "w"
    refine ⟨by simp only [List.length_append, List.length_map, List.length_cons, List.length_nil]; omega, ?_⟩
    simp only [ofR, rw_, List.map_append, ← List.append_assoc] at h
    exact .inl h
end K16

namespace K16
open PySem PySem.Spec PyProof.Rows L2 MM
local macro_rules | `(tactic| walk_at "w") => `(tactic| conv => whnf)
mutual
/-- a form, and its row -/
inductive FormR : Nat → PyData → List Str → Prop
  | any {n} : FormR n (.tuple [.str "any"]) ["_"]
  | bind {n z} : z ∈ SMALLN → FormR n (.tuple [.str "bind", .str z]) [z]
  | make {n mo nm ps rs} : ModS mo → nm ∈ GREATN → ps.length ≤ 3 → FormsR n ps rs → FormR n (.tuple [.str "make", .str mo, .str nm, .tuple ps]) (dot mo nm ++ inB rs)
inductive FormsR : Nat → List PyData → List (List Str) → Prop
  | nil {n} : FormsR n [] []
  | cons {n p r ps rs} : FormR n p r → FormsR (n + 1) ps rs → FormsR (n + 1) (p :: ps) (r :: rs)
end
theorem FormsR.snoc {n : Nat} {p : PyData} {r : List Str} (h : FormR n p r) : ∀ {ps : List PyData} {rs : List (List Str)}, FormsR (n + 1) ps rs → FormsR (n + 1) (ps ++ [p]) (rs ++ [r])
  | [], _, .nil => .cons h .nil
  | _ :: _, _, .cons h1 h2 => .cons h1 (FormsR.snoc h h2)
theorem FormsR.len {n : Nat} : ∀ {ps : List PyData} {rs : List (List Str)}, FormsR n ps rs → rs.length = ps.length
  | [], _, .nil => rfl
  | _ :: _, _, .cons h1 h2 => by simp only [List.length_cons, FormsR.len h2]
theorem btw_bound (sign : Str) (B : Nat) : ∀ rs : List (List Str), (∀ r ∈ rs, r.length ≤ B) → (btw sign rs).length ≤ rs.length * (B + 1)
  | [], _ => Nat.zero_le _
  | [r], h => by
    have := h r (by simp)
    simp only [btw, List.length_cons, List.length_nil]
    omega
  | r :: s :: rs, h => by
    have h1 := h r (by simp)
    have ih := btw_bound sign B (s :: rs) fun x hx => h x (List.mem_cons_of_mem _ hx)
    have e : (btw sign (r :: s :: rs)).length = r.length + ((btw sign (s :: rs)).length + 1) := by
      simp only [btw, List.length_append, List.length_cons]
    rw [e, List.length_cons, Nat.succ_mul]
    omega
theorem inB_bound (rs : List (List Str)) : (inB rs).length ≤ (btw "," rs).length + 2 := by
  unfold inB
  split
  · exact Nat.zero_le _
  · simp only [List.length_append, List.length_cons, List.length_nil]
    omega
def FB : Nat → Nat
  | 0 => 3
  | n + 1 => 3 * FB n + 8
theorem FB_pos (n : Nat) : 3 ≤ FB n := by
  induction n with
  | zero => exact Nat.le_refl _
  | succ n ih => show 3 ≤ 3 * FB n + 8; omega
theorem FormsR.bound {n : Nat} (ih : ∀ d r, FormR n d r → r.length ≤ FB n) : ∀ {ps : List PyData} {rs : List (List Str)}, FormsR (n + 1) ps rs → ∀ r ∈ rs, r.length ≤ FB n
  | [], _, .nil => fun _ h => nomatch h
  | _ :: _, _, .cons h1 h2 => fun r hr => by
    rcases List.mem_cons.mp hr with rfl | hr
    · exact ih _ _ h1
    · exact FormsR.bound ih h2 r hr
theorem FormR.bound : ∀ n d r, FormR n d r → r.length ≤ FB n := by
  intro n
  induction n with
  | zero =>
    intro d r h
    cases h with
    | any => show 1 ≤ 3; decide
    | bind _ => show 1 ≤ 3; decide
    | make _ _ _ hs =>
      rename_i mo nm ps rs _ _ _
      cases hs
      have := dot_len mo nm
      simp only [inB, if_true, List.append_nil]
      exact this
  | succ n ih =>
    intro d r h
    have fp := FB_pos (n + 1)
    cases h with
    | any => exact Nat.le_trans (by decide) fp
    | bind _ => exact Nat.le_trans (by show 1 ≤ 3; decide) fp
    | make _ _ h3 hs =>
      rename_i mo nm ps rs _ _
      have d3 := dot_len mo nm
      have b1 := btw_bound "," (FB n) rs (hs.bound ih)
      have b2 := inB_bound rs
      have b3 := hs.len
      have b4 : rs.length * (FB n + 1) ≤ 3 * (FB n + 1) := Nat.mul_le_mul_right _ (by omega)
      show _ ≤ 3 * FB n + 8
      simp only [List.length_append]
      omega
theorem FB_le {n : Nat} (h : n ≤ 3) : FB n ≤ 185 := by
  match n, h with
  | 0, _ => decide
  | 1, _ => decide
  | 2, _ => decide
  | 3, _ => decide
theorem FormOk.split {k : Nat} {d : PyData} (h : FormOk k d) : FormLeaf d ∨ ∃ mo nm ps, ModS mo ∧ nm ∈ GREATN ∧ d = .tuple [.str "make", .str mo, .str nm, .tuple ps] ∧ PartsOk k ps := by
  cases k with
  | zero =>
    rcases h with h | ⟨mo, nm, h1, h2, h3⟩
    · exact .inl h
    · exact .inr ⟨mo, nm, [], h1, h2, h3, by decide, rfl⟩
  | succ j =>
    rcases h with h | ⟨mo, nm, ps, h1, h2, h3, h4, h5⟩
    · exact .inl h
    · exact .inr ⟨mo, nm, ps, h1, h2, h3, h4, h5⟩
def sp__law_form_row (n : Nat) : DSp := fun as m C _ => ∃ (d : PyData) (k : Nat), k < n ∧ k ≤ 3 ∧ as = [.val d] ∧ FormOk k d ∧ ∀ r, FormR k d r → C (.val (rw_ r)) m
theorem l__law_form_row (n : Nat) : ∀ as m C Ex, sp__law_form_row (n + 1) as m C Ex → b__law_form_row sp__law_dotted sp__law_in_brackets (sp__law_form_row n) (endsD m.length C) (startD N__law_form_row as m) := by
  rintro as m C Ex ⟨d, k, hk, k3, rfl, hd, h⟩
  have hs := DD.sl_line
  rcases hd.split with (rfl | ⟨z, hz, rfl⟩) | ⟨mo, nm, ps, hmo, hnm, rfl, hps⟩
  · walk_at "w"
    refine ⟨fun _ => ?_, fun e => (by cases e)⟩
    walk_at "w"
    refine ⟨by show 1 ≤ sizeLine; omega, ?_⟩
    exact .inl (h _ .any)
  · walk_at "w"
    refine ⟨fun e => (by cases e), fun _ => ?_⟩
    walk_at "w"
    refine ⟨fun _ => ?_, fun e => (by cases e)⟩
    walk_at "w"
    refine ⟨by show 1 ≤ sizeLine; omega, ?_⟩
    exact .inl (h _ (.bind hz))
  · walk_at "w"
    refine ⟨fun e => (by cases e), fun _ => ?_⟩
    walk_at "w"
    refine ⟨fun e => (by cases e), fun _ => ?_⟩
    walk_at "w"
    refine ⟨mo, nm, rfl, ?_⟩
    walk_at "w"
    refine lcL_inv (fun its acc δ => ∃ ps1 ps2 rs, ps = ps1 ++ ps2 ∧ its = ps2.map Ar.val ∧ acc = rs.map rw_ ∧ FormsR k ps1 rs ∧ δ = ⟨[some (.val (.tuple [.str "make", .str mo, .str nm, .tuple ps])), none], m⟩) (fun d ds acc δ hP N2 hN2 => ?_) (fun acc δ hP => ?_) _ _ _ ⟨[], ps, [], rfl, rfl, rfl, .nil, rfl⟩
    · obtain ⟨ps1, ps2, rs, e1, e2, rfl, hf, rfl⟩ := hP
      cases ps2 with
      | nil => cases e2
      | cons p ps2 =>
        injection e2 with e2 e3
        subst e2 e3
        cases k with
        | zero =>
          have hp : ps = [] := hps.2
          rw [hp] at e1
          simp at e1
        | succ j =>
          have hp := hps.2 p (by rw [e1]; simp)
          walk_at "w"
          refine ⟨fun _ => ?_, fun e => (by cases e)⟩
          walk_at "w"
          refine ⟨p, j, by omega, by omega, rfl, hp, fun r hr => ?_⟩
          walk_at "w"
          have l1 := hf.len
          have l2 := hps.1
          have l3 := congrArg List.length e1
          simp only [List.length_append, List.length_cons] at l3
          refine ⟨by rw [List.length_map]; omega, ?_⟩
          exact hN2 _ _ ⟨ps1 ++ [p], ps2, rs ++ [r], by rw [e1]; simp, rfl, by simp, hf.snoc hr, rfl⟩
    · obtain ⟨ps1, ps2, rs, e1, e2, rfl, hf, rfl⟩ := hP
      cases ps2 with
      | cons p ps2 => cases e2
      | nil =>
        rw [List.append_nil] at e1
        subst e1
        have hr : FormR k _ _ := .make hmo hnm hps.1 hf
        have bb := FormR.bound _ _ _ hr
        have b3 := FB_le k3
        have i1 : (btw "," rs).length ≤ (inB rs).length := by
          unfold inB
          split
          · rename_i q
            subst q
            exact Nat.le_refl _
          · simp only [List.length_append, List.length_cons, List.length_nil]
            omega
        simp only [List.length_append] at bb
        walk_at "w"
        refine ⟨rs, rfl, by rw [hf.len]; have := hps.1; omega, by omega, ?_⟩
        walk_at "w"
        refine ⟨by simp only [List.length_map]; omega, ?_⟩
        have hh := h _ hr
        simp only [rw_, List.map_append] at hh
        exact .inl hh
end K16

namespace K16
open PySem PySem.Spec PyProof.Rows L2 MM
local macro_rules | `(tactic| walk_at "w") => `(tactic| conv => whnf)
def opn (t : Str) : Prop := t = "let" ∨ t = "if" ∨ t = "same"
mutual
/-- a told tree, and a row of it without outer brackets -/
inductive BareR : Nat → PyData → List Str → Prop
  | name {n mo nm} : ModS mo → nm ∈ SMALLN → BareR n (.tuple [.str "name", .str mo, .str nm]) (dot mo nm)
  | let_ {n z a b ra rb} : z ∈ SMALLN → PutR n false a ra → PutR n false b rb → BareR (n + 1) (.tuple [.str "let", .str z, a, b]) ([("let" : Str), z, "="] ++ ra ++ [("in" : Str)] ++ rb)
  | if_ {n a b c ra rb rc} : PutR n false a ra → PutR n false b rb → PutR n false c rc → BareR (n + 1) (.tuple [.str "if", a, b, c]) ([("if" : Str)] ++ ra ++ [("then" : Str)] ++ rb ++ [("else" : Str)] ++ rc)
  | same {n a b ra rb} : PutR n true a ra → PutR n true b rb → BareR (n + 1) (.tuple [.str "same", a, b]) (ra ++ [("==" : Str)] ++ rb)
  | case_ {n t rt arms rows} : PutR n false t rt → 0 < arms.length → arms.length ≤ 3 → ArmsR n arms rows → BareR (n + 1) (.tuple [.str "case", t, .tuple arms]) ([("case" : Str)] ++ rt ++ [("of" : Str)] ++ btw "|" rows ++ [("end" : Str)])
  | call {n mo nm ts rows} : ModS mo → nm ∈ SMALLN → 0 < ts.length → ts.length ≤ 3 → PutsR n ts rows → BareR n (.tuple [.str "call", .str mo, .str nm, .tuple ts]) (dot mo nm ++ inB rows)
  | make {n mo nm ts rows} : ModS mo → nm ∈ GREATN → ts.length ≤ 3 → PutsR n ts rows → BareR n (.tuple [.str "make", .str mo, .str nm, .tuple ts]) (dot mo nm ++ inB rows)
/-- the row within q pairs of brackets -/
inductive PutR : Nat → Bool → PyData → List Str → Prop
  | mk {n side xs t r} (q : Nat) : atI xs 0 = some (.str t) → BareR n (.tuple xs) r → q ≤ 3 → (side = true → opn t → 1 ≤ q) → PutR n side (.tuple xs) (List.replicate q ("(" : Str) ++ r ++ List.replicate q (")" : Str))
inductive PutsR : Nat → List PyData → List (List Str) → Prop
  | nil {n} : PutsR n [] []
  | cons {n p r ps rs} : PutR n false p r → PutsR (n + 1) ps rs → PutsR (n + 1) (p :: ps) (r :: rs)
inductive ArmsR : Nat → List PyData → List (List Str) → Prop
  | nil {n} : ArmsR n [] []
  | cons {n f e rf re ps rs} : FormR 3 f rf → PutR n false e re → ArmsR n ps rs → ArmsR n (.tuple [f, e] :: ps) ((rf ++ [("->" : Str)] ++ re) :: rs)
end
def BB : Nat → Nat
  | 0 => 3
  | n + 1 => 4 * BB n + 600
theorem PutR.bound {n : Nat} (ih : ∀ d r, BareR n d r → r.length ≤ BB n) {side : Bool} {d : PyData} {r : List Str} (h : PutR n side d r) : r.length ≤ BB n + 6 := by
  cases h with
  | mk q h1 h2 h3 h4 =>
    have := ih _ _ h2
    simp only [List.length_append, List.length_replicate]
    omega
theorem PutsR.len {n : Nat} : ∀ {ps : List PyData} {rs : List (List Str)}, PutsR n ps rs → rs.length = ps.length
  | [], _, .nil => rfl
  | _ :: _, _, .cons h1 h2 => by simp only [List.length_cons, PutsR.len h2]
theorem ArmsR.len {n : Nat} : ∀ {ps : List PyData} {rs : List (List Str)}, ArmsR n ps rs → rs.length = ps.length
  | [], _, .nil => rfl
  | _ :: _, _, .cons h1 h2 h3 => by simp only [List.length_cons, ArmsR.len h3]
theorem PutsR.bound {n : Nat} (ih : ∀ d r, BareR n d r → r.length ≤ BB n) : ∀ {ps : List PyData} {rs : List (List Str)}, PutsR (n + 1) ps rs → ∀ r ∈ rs, r.length ≤ BB n + 6
  | [], _, .nil => fun _ h => nomatch h
  | _ :: _, _, .cons h1 h2 => fun r hr => by
    rcases List.mem_cons.mp hr with rfl | hr
    · exact h1.bound ih
    · exact PutsR.bound ih h2 r hr
theorem ArmsR.bound {n : Nat} (ih : ∀ d r, BareR n d r → r.length ≤ BB n) : ∀ {ps : List PyData} {rs : List (List Str)}, ArmsR n ps rs → ∀ r ∈ rs, r.length ≤ BB n + 192
  | [], _, .nil => fun _ h => nomatch h
  | _ :: _, _, .cons h0 h1 h2 => fun r hr => by
    rcases List.mem_cons.mp hr with rfl | hr
    · have a := FormR.bound _ _ _ h0
      have b := h1.bound ih
      have c := FB_le (Nat.le_refl 3)
      simp only [List.length_append, List.length_cons, List.length_nil]
      omega
    · exact ArmsR.bound ih h2 r hr
theorem BareR.leafB {mo nm : Str} {rows : List (List Str)} {ts : List PyData} {n : Nat} (ih : ∀ j, n = j + 1 → ∀ d r, BareR j d r → r.length ≤ BB j) (h3 : ts.length ≤ 3) (h : PutsR n ts rows) : (dot mo nm ++ inB rows).length ≤ BB n := by
  have d3 := dot_len mo nm
  have b2 := inB_bound rows
  have b3 := h.len
  cases n with
  | zero =>
    cases h
    simp only [inB, if_true, List.append_nil]
    exact d3
  | succ j =>
    have b1 := btw_bound "," (BB j + 6) rows (h.bound (ih j rfl))
    have b4 : rows.length * (BB j + 6 + 1) ≤ 3 * (BB j + 6 + 1) := Nat.mul_le_mul_right _ (by omega)
    show _ ≤ 4 * BB j + 600
    simp only [List.length_append]
    omega
theorem BareR.bound : ∀ n d r, BareR n d r → r.length ≤ BB n := by
  intro n
  induction n with
  | zero =>
    intro d r h
    cases h with
    | name _ _ => exact dot_len _ _
    | call _ _ _ h3 h => exact BareR.leafB (fun j e => nomatch e) h3 h
    | make _ _ h3 h => exact BareR.leafB (fun j e => nomatch e) h3 h
  | succ n ih =>
    intro d r h
    have ih' : ∀ j, n + 1 = j + 1 → ∀ d r, BareR j d r → r.length ≤ BB j := fun j e => by
      have : n = j := by omega
      subst this
      exact ih
    have e : BB (n + 1) = 4 * BB n + 600 := rfl
    cases h with
    | name _ _ => exact Nat.le_trans (dot_len _ _) (by omega)
    | call _ _ _ h3 h => exact BareR.leafB ih' h3 h
    | make _ _ h3 h => exact BareR.leafB ih' h3 h
    | let_ _ h1 h2 =>
      have := h1.bound ih
      have := h2.bound ih
      simp only [List.length_append, List.length_cons, List.length_nil]
      omega
    | if_ h1 h2 h3 =>
      have := h1.bound ih
      have := h2.bound ih
      have := h3.bound ih
      simp only [List.length_append, List.length_cons, List.length_nil]
      omega
    | same h1 h2 =>
      have := h1.bound ih
      have := h2.bound ih
      simp only [List.length_append, List.length_cons, List.length_nil]
      omega
    | case_ h1 h2 h3 h4 =>
      rename_i t rt arms rows
      have := h1.bound ih
      have b1 := btw_bound "|" (BB n + 192) rows (h4.bound ih)
      have b3 := h4.len
      have b4 : rows.length * (BB n + 192 + 1) ≤ 3 * (BB n + 192 + 1) := Nat.mul_le_mul_right _ (by omega)
      simp only [List.length_append, List.length_cons, List.length_nil]
      omega
theorem BB_le {n : Nat} (h : n ≤ 6) : BB n ≤ 900000 := by
  match n, h with
  | 0, _ => decide
  | 1, _ => decide
  | 2, _ => decide
  | 3, _ => decide
  | 4, _ => decide
  | 5, _ => decide
  | 6, _ => decide
theorem TOk.tag {k : Nat} {d : PyData} (h : TOk k d) : ∃ xs t, d = .tuple xs ∧ atI xs 0 = some (.str t) := by
  have leaf : ToldLeaf d → ∃ xs t, d = .tuple xs ∧ atI xs 0 = some (.str t) := by
    rintro (⟨_, _, _, _, rfl⟩ | ⟨_, _, _, _, rfl⟩) <;> exact ⟨_, _, rfl, rfl⟩
  cases k with
  | zero => exact leaf h
  | succ j =>
    rcases h with h | h
    · exact leaf h
    · cases h <;> exact ⟨_, _, rfl, rfl⟩
def sp__law_put (n : Nat) : DSp := fun as m C _ => ∃ (ds : List PyData) (d : PyData) (side : Bool) (k : Nat), 2 * k + 2 ≤ n ∧ k ≤ 6 ∧ as = [.sl 0, .val d, .val (.bool side)] ∧ m = [.fl ds] ∧ DrawOk ds ∧ TOk k d ∧ ∀ r, PutR k side d r → ∀ ds', DrawOk ds' → C (.val (rw_ r)) [.fl ds']
def sp__law_bare (n : Nat) : DSp := fun as m C _ => ∃ (ds : List PyData) (d : PyData) (k : Nat), 2 * k + 1 ≤ n ∧ k ≤ 6 ∧ as = [.sl 0, .val d] ∧ m = [.fl ds] ∧ DrawOk ds ∧ TOk k d ∧ ∀ r, BareR k d r → ∀ ds', DrawOk ds' → C (.val (rw_ r)) [.fl ds']
theorem l__law_put (n : Nat) : ∀ as m C Ex, sp__law_put (n + 1) as m C Ex → b__law_put (sp__law_bare n) sp__law_next (endsD m.length C) (startD N__law_put as m) := by
  rintro as m C Ex ⟨ds, d, side, k, hk, k6, rfl, rfl, hd, ht, h⟩
  have hs := DD.sl_line
  obtain ⟨xs, t, rfl, hat⟩ := ht.tag
  unfold b__law_put
  refine seq_cut (fun δ => ∃ ds1 r, DrawOk ds1 ∧ BareR k (.tuple xs) r ∧ δ = ⟨[some (.sl 0), some (.val (.tuple xs)), some (.val (.bool side)), some (.val (rw_ r)), none], [.fl ds1]⟩) (fun N hN => ?_) ?_
  · walk_at "w"
    refine ⟨ds, _, k, by omega, k6, rfl, rfl, hd, ht, fun r hr ds1 hd1 => ?_⟩
    exact hN _ ⟨ds1, r, hd1, hr, rfl⟩
  rintro _ ⟨ds1, r, hd1, hr, rfl⟩
  refine seq_cut (fun δ => ∃ q : Nat, q ≤ 1 ∧ (side = true → opn t → 1 ≤ q) ∧ δ = ⟨[some (.sl 0), some (.val (.tuple xs)), some (.val (.bool side)), some (.val (rw_ r)), some (.val (.int (q : Nat)))], [.fl ds1]⟩) (fun N hN => ?_) ?_
  · walk_at "w"
    refine ⟨fun e => ?_, fun e => ?_⟩
    · walk_at "w"
      rw [hat]
      walk_at "w"
      refine ⟨by show 3 ≤ sizeLine; omega, ?_⟩
      walk_at "w"
      refine ⟨rfl, rfl, ?_⟩
      refine ⟨fun e2 => ?_, fun e2 => ?_⟩
      · exact hN _ ⟨1, by decide, fun _ _ => by decide, rfl⟩
      · refine hN _ ⟨0, by decide, fun _ o => ?_, rfl⟩
        exfalso
        rcases o with rfl | rfl | rfl <;> exact absurd e2 (by decide)
    · refine ⟨fun z => (by cases z), fun _ => ?_⟩
      exact hN _ ⟨0, by decide, fun a _ => (by rw [e] at a; cases a), rfl⟩
  rintro _ ⟨q, q1, hq, rfl⟩
  refine seq_cut (fun δ => ∃ (q : Nat) (ds2 : List PyData), DrawOk ds2 ∧ q ≤ 3 ∧ (side = true → opn t → 1 ≤ q) ∧ δ = ⟨[some (.sl 0), some (.val (.tuple xs)), some (.val (.bool side)), some (.val (rw_ r)), some (.val (.int (q : Nat)))], [.fl ds2]⟩) (fun N hN => ?_) ?_
  · walk_at "w"
    refine ⟨fun e => ?_, fun e => ?_⟩
    · walk_at "w"
      refine ⟨ds1, _, rfl, rfl, hd1, by decide, by decide, fun v ds2 v1 v2 hd2 => ?_⟩
      walk_at "w"
      refine ⟨fun e2 => ?_, fun e2 => ?_⟩
      · walk_at "w"
        refine ⟨ds2, _, rfl, rfl, hd2, by decide, by decide, fun u ds3 u1 u2 hd3 => ?_⟩
        have nx := hN _ ⟨q + 1 + u.toNat, ds3, hd3, by omega, fun a b => by have := hq a b; omega, rfl⟩
        have eu : ((q + 1 + u.toNat : Nat) : Int) = (q : Int) + 1 + u := by omega
        rw [eu] at nx
        exact nx
      · exact hN _ ⟨q, ds2, hd2, by omega, hq, rfl⟩
    · refine ⟨fun z => (by cases z), fun _ => ?_⟩
      exact hN _ ⟨q, ds1, hd1, by omega, hq, rfl⟩
  rintro _ ⟨q, ds2, hd2, q3, hq, rfl⟩
  have bb := BareR.bound _ _ _ hr
  have b6 := BB_le k6
  have hh := h _ (.mk q hat hr q3 hq) ds2 hd2
  have f1 : rw_ (List.replicate q ("(" : Str) ++ r ++ List.replicate q (")" : Str)) = .list ((List.replicate ((q : Nat) : Int).toNat [PyData.str "("]).flatten ++ r.map PyData.str ++ (List.replicate ((q : Nat) : Int).toNat [PyData.str ")"]).flatten) := by
    rw [Int.toNat_natCast]
    simp [rw_]
  have l1 : ∀ x : PyData, ((List.replicate ((q : Nat) : Int).toNat [x]).flatten).length = q := fun x => by
    rw [Int.toNat_natCast]
    simp
  rw [f1] at hh
  walk_at "w"
  refine ⟨by show 1 ≤ sizeLine; omega, ?_⟩
  walk_at "w"
  refine ⟨by omega, by omega, by simp only [List.length_cons, List.length_nil]; omega, ?_⟩
  walk_at "w"
  refine ⟨by simp only [l1, List.length_map]; omega, ?_⟩
  walk_at "w"
  refine ⟨by show 1 ≤ sizeLine; omega, ?_⟩
  walk_at "w"
  refine ⟨by omega, by omega, by simp only [List.length_cons, List.length_nil]; omega, ?_⟩
  walk_at "w"
  refine ⟨by simp only [List.length_append, l1, List.length_map]; omega, ?_⟩
  exact .inl hh
end K16

namespace K16
open PySem PySem.Spec PyProof.Rows L2 MM
local macro_rules | `(tactic| walk_at "w") => `(tactic| conv => whnf)
theorem PutsR.snoc {n : Nat} {p : PyData} {r : List Str} (h : PutR n false p r) : ∀ {ps : List PyData} {rs : List (List Str)}, PutsR (n + 1) ps rs → PutsR (n + 1) (ps ++ [p]) (rs ++ [r])
  | [], _, .nil => .cons h .nil
  | _ :: _, _, .cons h1 h2 => .cons h1 (PutsR.snoc h h2)
theorem ArmsR.snoc {n : Nat} {f e : PyData} {rf re : List Str} (hf : FormR 3 f rf) (he : PutR n false e re) : ∀ {ps : List PyData} {rs : List (List Str)}, ArmsR n ps rs → ArmsR n (ps ++ [.tuple [f, e]]) (rs ++ [rf ++ [("->" : Str)] ++ re])
  | [], _, .nil => .cons hf he .nil
  | _ :: _, _, .cons h0 h1 h2 => .cons h0 h1 (ArmsR.snoc hf he h2)
theorem btw_le_inB (rs : List (List Str)) : (btw "," rs).length ≤ (inB rs).length := by
  unfold inB
  split
  · rename_i q
    subst q
    exact Nat.le_refl _
  · simp only [List.length_append, List.length_cons, List.length_nil]
    omega
theorem bare_tail (n : Nat) {C : Ar → List Mo → Prop} {ds ts : List PyData} {mo nm tg : Str} {k : Nat} (hk : 2 * k + 1 ≤ n + 1) (k6 : k ≤ 6) (hd : DrawOk ds)
    (n1 : tg ≠ "let") (n2 : tg ≠ "if") (n3 : tg ≠ "same") (n4 : tg ≠ "case") (n5 : tg ≠ "name") (h3 : ts.length ≤ 3) (hts : ts = [] ∨ ∃ j, k = j + 1 ∧ ∀ t ∈ ts, TOk j t)
    (h : ∀ rows, PutsR k ts rows → ∀ ds', DrawOk ds' → C (.val (rw_ (dot mo nm ++ inB rows))) [.fl ds']) :
    b__law_bare (sp__law_put n) (sp__law_form_row 10) sp__law_between sp__law_dotted sp__law_in_brackets (endsD 1 C) (startD N__law_bare [.sl 0, .val (.tuple [.str tg, .str mo, .str nm, .tuple ts])] [.fl ds]) := by
  have hs := DD.sl_line
  walk_at "w"
  refine ⟨fun e => absurd (of_decide_eq_true e) n1, fun _ => ?_⟩
  walk_at "w"
  refine ⟨fun e => absurd (of_decide_eq_true e) n2, fun _ => ?_⟩
  walk_at "w"
  refine ⟨fun e => absurd (of_decide_eq_true e) n3, fun _ => ?_⟩
  walk_at "w"
  refine ⟨fun e => absurd (of_decide_eq_true e) n4, fun _ => ?_⟩
  walk_at "w"
  refine ⟨fun e => absurd (of_decide_eq_true e) n5, fun _ => ?_⟩
  walk_at "w"
  refine ⟨mo, nm, rfl, ?_⟩
  walk_at "w"
  refine lcL_inv (fun its acc δ => ∃ ps1 ps2 rs ds1, ts = ps1 ++ ps2 ∧ its = ps2.map Ar.val ∧ acc = rs.map rw_ ∧ PutsR k ps1 rs ∧ DrawOk ds1 ∧ δ = ⟨[some (.sl 0), some (.val (.tuple [.str tg, .str mo, .str nm, .tuple ts])), none, none, none, none], [.fl ds1]⟩) (fun d dd acc δ hP N2 hN2 => ?_) (fun acc δ hP => ?_) _ _ _ ⟨[], ts, [], ds, rfl, rfl, rfl, .nil, hd, rfl⟩
  · obtain ⟨ps1, ps2, rs, ds1, e1, e2, rfl, hf, hd1, rfl⟩ := hP
    cases ps2 with
    | nil => cases e2
    | cons p ps2 =>
      injection e2 with e2 e3
      subst e2 e3
      rcases hts with hts | ⟨j, rfl, hts⟩
      · rw [hts] at e1
        simp at e1
      · have hp := hts p (by rw [e1]; simp)
        walk_at "w"
        refine ⟨fun _ => ?_, fun e => (by cases e)⟩
        walk_at "w"
        refine ⟨ds1, p, false, j, by omega, by omega, rfl, rfl, hd1, hp, fun r hr ds2 hd2 => ?_⟩
        walk_at "w"
        have l1 := hf.len
        have l3 := congrArg List.length e1
        simp only [List.length_append, List.length_cons] at l3
        refine ⟨by rw [List.length_map]; omega, ?_⟩
        exact hN2 _ _ ⟨ps1 ++ [p], ps2, rs ++ [r], ds2, by rw [e1]; simp, rfl, by simp, hf.snoc hr, hd2, rfl⟩
  · obtain ⟨ps1, ps2, rs, ds1, e1, e2, rfl, hf, hd1, rfl⟩ := hP
    cases ps2 with
    | cons p ps2 => cases e2
    | nil =>
      rw [List.append_nil] at e1
      subst e1
      have bb := BareR.leafB (mo := mo) (nm := nm) (fun j e => by subst e; exact BareR.bound j) h3 hf
      have b3 := BB_le k6
      have i1 := btw_le_inB rs
      simp only [List.length_append] at bb
      walk_at "w"
      refine ⟨rs, rfl, by rw [hf.len]; omega, by omega, ?_⟩
      walk_at "w"
      refine ⟨by simp only [List.length_map]; omega, ?_⟩
      have hh := h _ hf ds1 hd1
      simp only [rw_, List.map_append] at hh
      exact .inl hh
end K16

namespace K16
open PySem PySem.Spec PyProof.Rows L2 MM
local macro_rules | `(tactic| walk_at "w") => `(tactic| conv => whnf)
theorem l__law_bare (n : Nat) : ∀ as m C Ex, sp__law_bare (n + 1) as m C Ex → b__law_bare (sp__law_put n) (sp__law_form_row 10) sp__law_between sp__law_dotted sp__law_in_brackets (endsD m.length C) (startD N__law_bare as m) := by
  rintro as m C Ex ⟨ds, d, k, hk, k6, rfl, rfl, hd, ht, h⟩
  have hs := DD.sl_line
  have leaf : ToldLeaf d → b__law_bare (sp__law_put n) (sp__law_form_row 10) sp__law_between sp__law_dotted sp__law_in_brackets (endsD 1 C) (startD N__law_bare [.sl 0, .val d] [.fl ds]) := by
    rintro (⟨mo, nm, hmo, hnm, rfl⟩ | ⟨mo, nm, hmo, hnm, rfl⟩)
    · walk_at "w"
      refine ⟨fun e => (by cases e), fun _ => ?_⟩
      walk_at "w"
      refine ⟨fun e => (by cases e), fun _ => ?_⟩
      walk_at "w"
      refine ⟨fun e => (by cases e), fun _ => ?_⟩
      walk_at "w"
      refine ⟨fun e => (by cases e), fun _ => ?_⟩
      walk_at "w"
      refine ⟨fun _ => ?_, fun e => (by cases e)⟩
      walk_at "w"
      refine ⟨mo, nm, rfl, ?_⟩
      exact .inl (h _ (.name hmo hnm) _ hd)
    · exact bare_tail n hk k6 hd (by decide) (by decide) (by decide) (by decide) (by decide) (by decide) (.inl rfl) fun rows hr ds' hd' => h _ (.make hmo hnm (by decide) hr) _ hd'
  cases k with
  | zero => exact leaf ht
  | succ j =>
    rcases ht with ht | ht
    · exact leaf ht
    have bb := BB_le (n := j) (by omega)
    have pb : ∀ {s d r}, PutR j s d r → r.length ≤ 900006 := fun {s d r} q => Nat.le_trans (PutR.bound (BareR.bound j) q) (by omega)
    cases ht with
    | let_ hz ha hb =>
      walk_at "w"
      refine ⟨fun _ => ?_, fun e => (by cases e)⟩
      walk_at "w"
      refine ⟨by show 3 ≤ sizeLine; omega, ?_⟩
      walk_at "w"
      refine ⟨ds, _, false, j, by omega, by omega, rfl, rfl, hd, ha, fun ra hra ds1 hd1 => ?_⟩
      have la := pb hra
      walk_at "w"
      refine ⟨by simp only [List.length_map, List.length_cons, List.length_nil]; omega, ?_⟩
      walk_at "w"
      refine ⟨by show 1 ≤ sizeLine; omega, ?_⟩
      walk_at "w"
      refine ⟨by simp only [List.length_append, List.length_map, List.length_cons, List.length_nil]; omega, ?_⟩
      walk_at "w"
      refine ⟨ds1, _, false, j, by omega, by omega, rfl, rfl, hd1, hb, fun rb hrb ds2 hd2 => ?_⟩
      have lb := pb hrb
      walk_at "w"
      refine ⟨by simp only [List.length_append, List.length_map, List.length_cons, List.length_nil]; omega, ?_⟩
      have hh := h _ (.let_ hz hra hrb) _ hd2
      simp only [rw_, List.map_append] at hh
      exact .inl hh
    | if_ ha hb hc =>
      walk_at "w"
      refine ⟨fun e => (by cases e), fun _ => ?_⟩
      walk_at "w"
      refine ⟨fun _ => ?_, fun e => (by cases e)⟩
      walk_at "w"
      refine ⟨by show 1 ≤ sizeLine; omega, ?_⟩
      walk_at "w"
      refine ⟨ds, _, false, j, by omega, by omega, rfl, rfl, hd, ha, fun ra hra ds1 hd1 => ?_⟩
      have la := pb hra
      walk_at "w"
      refine ⟨by simp only [List.length_map, List.length_cons, List.length_nil]; omega, ?_⟩
      walk_at "w"
      refine ⟨by show 1 ≤ sizeLine; omega, ?_⟩
      walk_at "w"
      refine ⟨by simp only [List.length_append, List.length_map, List.length_cons, List.length_nil]; omega, ?_⟩
      walk_at "w"
      refine ⟨ds1, _, false, j, by omega, by omega, rfl, rfl, hd1, hb, fun rb hrb ds2 hd2 => ?_⟩
      have lb := pb hrb
      walk_at "w"
      refine ⟨by simp only [List.length_append, List.length_map, List.length_cons, List.length_nil]; omega, ?_⟩
      walk_at "w"
      refine ⟨by show 1 ≤ sizeLine; omega, ?_⟩
      walk_at "w"
      refine ⟨by simp only [List.length_append, List.length_map, List.length_cons, List.length_nil]; omega, ?_⟩
      walk_at "w"
      refine ⟨ds2, _, false, j, by omega, by omega, rfl, rfl, hd2, hc, fun rc hrc ds3 hd3 => ?_⟩
      have lc := pb hrc
      walk_at "w"
      refine ⟨by simp only [List.length_append, List.length_map, List.length_cons, List.length_nil]; omega, ?_⟩
      have hh := h _ (.if_ hra hrb hrc) _ hd3
      simp only [rw_, List.map_append] at hh
      exact .inl hh
    | same ha hb =>
      walk_at "w"
      refine ⟨fun e => (by cases e), fun _ => ?_⟩
      walk_at "w"
      refine ⟨fun e => (by cases e), fun _ => ?_⟩
      walk_at "w"
      refine ⟨fun _ => ?_, fun e => (by cases e)⟩
      walk_at "w"
      refine ⟨ds, _, true, j, by omega, by omega, rfl, rfl, hd, ha, fun ra hra ds1 hd1 => ?_⟩
      have la := pb hra
      walk_at "w"
      refine ⟨by show 1 ≤ sizeLine; omega, ?_⟩
      walk_at "w"
      refine ⟨by simp only [List.length_map, List.length_cons, List.length_nil]; omega, ?_⟩
      walk_at "w"
      refine ⟨ds1, _, true, j, by omega, by omega, rfl, rfl, hd1, hb, fun rb hrb ds2 hd2 => ?_⟩
      have lb := pb hrb
      walk_at "w"
      refine ⟨by simp only [List.length_append, List.length_map, List.length_cons, List.length_nil]; omega, ?_⟩
      have hh := h _ (.same hra hrb) _ hd2
      simp only [rw_, List.map_append] at hh
      exact .inl hh
    | call hmo hnm h0 h3 hts => exact bare_tail n hk k6 hd (by decide) (by decide) (by decide) (by decide) (by decide) h3 (.inr ⟨j, rfl, hts⟩) fun rows hr ds' hd' => h _ (.call hmo hnm h0 h3 hr) _ hd'
    | make hmo hnm h3 hts => exact bare_tail n hk k6 hd (by decide) (by decide) (by decide) (by decide) (by decide) h3 (.inr ⟨j, rfl, hts⟩) fun rows hr ds' hd' => h _ (.make hmo hnm h3 hr) _ hd'
    | case_ ht h0 h3 harms =>
      rename_i t arms
      walk_at "w"
      refine ⟨fun e => (by cases e), fun _ => ?_⟩
      walk_at "w"
      refine ⟨fun e => (by cases e), fun _ => ?_⟩
      walk_at "w"
      refine ⟨fun e => (by cases e), fun _ => ?_⟩
      walk_at "w"
      refine ⟨fun _ => ?_, fun e => (by cases e)⟩
      walk_at "w"
      refine lcL_inv (fun its acc δ => ∃ ps1 ps2 rs ds1, arms = ps1 ++ ps2 ∧ its = ps2.map Ar.val ∧ acc = rs.map rw_ ∧ ArmsR j ps1 rs ∧ DrawOk ds1 ∧ δ = ⟨[some (.sl 0), some (.val (.tuple [.str "case", t, .tuple arms])), none, none, none, none], [.fl ds1]⟩) (fun d dd acc δ hP N2 hN2 => ?_) (fun acc δ hP => ?_) _ _ _ ⟨[], arms, [], ds, rfl, rfl, rfl, .nil, hd, rfl⟩
      · obtain ⟨ps1, ps2, rs, ds1, e1, e2, rfl, hf, hd1, rfl⟩ := hP
        cases ps2 with
        | nil => cases e2
        | cons p ps2 =>
          injection e2 with e2 e3
          subst e2 e3
          obtain ⟨f, e, rfl, hff, hee⟩ := harms p (by rw [e1]; simp)
          walk_at "w"
          refine ⟨fun _ => ?_, fun e => (by cases e)⟩
          walk_at "w"
          refine ⟨f, 3, by decide, by decide, rfl, hff, fun rf hrf => ?_⟩
          have lf := FormR.bound _ _ _ hrf
          have lf3 := FB_le (Nat.le_refl 3)
          walk_at "w"
          refine ⟨by show 1 ≤ sizeLine; omega, ?_⟩
          walk_at "w"
          refine ⟨by simp only [List.length_map, List.length_cons, List.length_nil]; omega, ?_⟩
          walk_at "w"
          refine ⟨ds1, e, false, j, by omega, by omega, rfl, rfl, hd1, hee, fun re hre ds2 hd2 => ?_⟩
          have le := pb hre
          walk_at "w"
          refine ⟨by simp only [List.length_append, List.length_map, List.length_cons, List.length_nil]; omega, ?_⟩
          walk_at "w"
          have l1 := hf.len
          have l3 := congrArg List.length e1
          simp only [List.length_append, List.length_cons] at l3
          refine ⟨by rw [List.length_map]; omega, ?_⟩
          exact hN2 _ _ ⟨ps1 ++ [.tuple [f, e]], ps2, rs ++ [rf ++ [("->" : Str)] ++ re], ds2, by rw [e1]; simp, rfl, by simp [rw_], hf.snoc hrf hre, hd2, rfl⟩
      · obtain ⟨ps1, ps2, rs, ds1, e1, e2, rfl, hf, hd1, rfl⟩ := hP
        cases ps2 with
        | cons p ps2 => cases e2
        | nil =>
          rw [List.append_nil] at e1
          subst e1
          have bk := btw_bound "|" (BB j + 192) rs (hf.bound (BareR.bound j))
          have b4 : rs.length * (BB j + 192 + 1) ≤ 3 * (BB j + 192 + 1) := Nat.mul_le_mul_right _ (by rw [hf.len]; omega)
          walk_at "w"
          refine ⟨by show 1 ≤ sizeLine; omega, ?_⟩
          walk_at "w"
          refine ⟨ds1, t, false, j, by omega, by omega, rfl, rfl, hd1, ht, fun rt hrt ds2 hd2 => ?_⟩
          have lt := pb hrt
          walk_at "w"
          refine ⟨by simp only [List.length_map, List.length_cons, List.length_nil]; omega, ?_⟩
          walk_at "w"
          refine ⟨by show 1 ≤ sizeLine; omega, ?_⟩
          walk_at "w"
          refine ⟨by simp only [List.length_append, List.length_map, List.length_cons, List.length_nil]; omega, ?_⟩
          walk_at "w"
          refine ⟨rs, _, rfl, by rw [hf.len]; omega, by omega, ?_⟩
          walk_at "w"
          refine ⟨by simp only [List.length_append, List.length_map, List.length_cons, List.length_nil]; omega, ?_⟩
          walk_at "w"
          refine ⟨by show 1 ≤ sizeLine; omega, ?_⟩
          walk_at "w"
          refine ⟨by simp only [List.length_append, List.length_map, List.length_cons, List.length_nil]; omega, ?_⟩
          have hh := h _ (.case_ hrt h0 h3 hf) _ hd2
          simp only [rw_, List.map_append] at hh
          exact .inl hh
end K16

namespace K16
open PySem PySem.Spec PyProof.Rows L2 MM
local macro_rules | `(tactic| walk_at "w") => `(tactic| conv => whnf)
inductive All2 (R : PyData → List Str → Prop) : List PyData → List (List Str) → Prop
  | nil : All2 R [] []
  | cons {d r ds rs} : R d r → All2 R ds rs → All2 R (d :: ds) (r :: rs)
theorem All2.snoc {R : PyData → List Str → Prop} {p : PyData} {r : List Str} (h : R p r) : ∀ {ps : List PyData} {rs : List (List Str)}, All2 R ps rs → All2 R (ps ++ [p]) (rs ++ [r])
  | [], _, .nil => .cons h .nil
  | _ :: _, _, .cons h1 h2 => .cons h1 (All2.snoc h h2)
theorem All2.len {R : PyData → List Str → Prop} : ∀ {ps : List PyData} {rs : List (List Str)}, All2 R ps rs → rs.length = ps.length
  | [], _, .nil => rfl
  | _ :: _, _, .cons h1 h2 => by simp only [List.length_cons, All2.len h2]
theorem All2.bound {R : PyData → List Str → Prop} {B : Nat} (ih : ∀ d r, R d r → r.length ≤ B) : ∀ {ps : List PyData} {rs : List (List Str)}, All2 R ps rs → ∀ r ∈ rs, r.length ≤ B
  | [], _, .nil => fun _ h => nomatch h
  | _ :: _, _, .cons h1 h2 => fun r hr => by
    rcases List.mem_cons.mp hr with rfl | hr
    · exact ih _ _ h1
    · exact All2.bound ih h2 r hr
inductive ShownR : PyData → List Str → Prop
  | name {z} : z ∈ SMALLN → ShownR (.tuple [.str "name", .str z]) [z]
  | kind0 {z} : z ∈ GREATN → ShownR (.tuple [.str "kind", .str z, .int 0]) [z]
  | kind1 {z} : z ∈ GREATN → ShownR (.tuple [.str "kind", .str z, .int 1]) [z, "(", "..", ")"]
theorem ShownR.bound (d : PyData) (r : List Str) (h : ShownR d r) : r.length ≤ 4 := by
  cases h <;> simp
theorem row_use {C : Ar → List Mo → Prop} {ds : List PyData} {z y : Str}
    (h : C (.val (rw_ ([("use" : Str), z] ++ (if y = "" then [] else [("as" : Str), y]) ++ [(";" : Str)]))) [.fl ds]) :
    b__law_item_row sp__law_between sp__law_in_brackets sp__law_dotted sp__law_with_of (sp__law_put 60) (endsD 1 C) (startD N__law_item_row [.sl 0, .val (.tuple [.str "use", .str z, .str y])] [.fl ds]) := by
  have hs := DD.sl_line
  walk_at "w"
  refine ⟨fun e => (by cases e), fun _ => ?_⟩
  walk_at "w"
  refine ⟨fun _ => ?_, fun e => (by cases e)⟩
  walk_at "w"
  refine ⟨by show 2 ≤ sizeLine; omega, ?_⟩
  walk_at "w"
  refine ⟨fun e => ?_, fun e => ?_⟩
  · have e : y ≠ "" := by
      intro q
      subst q
      cases e
    rw [if_neg e] at h
    walk_at "w"
    refine ⟨by show 2 ≤ sizeLine; omega, ?_⟩
    walk_at "w"
    refine ⟨by show 4 ≤ sizeLine; omega, ?_⟩
    walk_at "w"
    refine ⟨by show 1 ≤ sizeLine; omega, ?_⟩
    walk_at "w"
    refine ⟨by show 5 ≤ sizeLine; omega, ?_⟩
    exact .inl h
  · have e : y = "" := by
      have e : (!decide (y = "")) = false := e
      simpa using e
    rw [if_pos e] at h
    walk_at "w"
    refine ⟨by show 0 ≤ sizeLine; omega, ?_⟩
    walk_at "w"
    refine ⟨by show 2 ≤ sizeLine; omega, ?_⟩
    walk_at "w"
    refine ⟨by show 1 ≤ sizeLine; omega, ?_⟩
    walk_at "w"
    refine ⟨by show 3 ≤ sizeLine; omega, ?_⟩
    exact .inl h
theorem row_face {C : Ar → List Mo → Prop} {ds ts : List PyData} (h0 : 0 < ts.length) (h4 : ts.length ≤ 4) (hts : ∀ t ∈ ts, ShownD t)
    (h : ∀ rows, All2 ShownR ts rows → C (.val (rw_ ([("face" : Str)] ++ btw "," rows ++ [(";" : Str)]))) [.fl ds]) :
    b__law_item_row sp__law_between sp__law_in_brackets sp__law_dotted sp__law_with_of (sp__law_put 60) (endsD 1 C) (startD N__law_item_row [.sl 0, .val (.tuple [.str "face", .tuple ts])] [.fl ds]) := by
  have hs := DD.sl_line
  walk_at "w"
  refine ⟨fun _ => ?_, fun e => (by cases e)⟩
  walk_at "w"
  refine lcL_inv (fun its acc δ => ∃ ps1 ps2 rs, ts = ps1 ++ ps2 ∧ its = ps2.map Ar.val ∧ acc = rs.map rw_ ∧ All2 ShownR ps1 rs ∧ δ = ⟨[some (.sl 0), some (.val (.tuple [.str "face", .tuple ts])), none, none, none, none, none, none, none, none, none], [.fl ds]⟩) (fun d dd acc δ hP N2 hN2 => ?_) (fun acc δ hP => ?_) _ _ _ ⟨[], ts, [], rfl, rfl, rfl, .nil, rfl⟩
  · obtain ⟨ps1, ps2, rs, e1, e2, rfl, hf, rfl⟩ := hP
    cases ps2 with
    | nil => cases e2
    | cons p ps2 =>
      injection e2 with e2 e3
      subst e2 e3
      have l1 := hf.len
      have l3 := congrArg List.length e1
      simp only [List.length_append, List.length_cons] at l3
      have l5 : (rs.map rw_).length < sizeLine := by rw [List.length_map]; omega
      have go : ∀ r, ShownR p r → N2 (rs.map rw_ ++ [rw_ r]) _ := fun r hr => hN2 _ _ ⟨ps1 ++ [p], ps2, rs ++ [r], by rw [e1]; simp, rfl, by simp, hf.snoc hr, rfl⟩
      have hp := hts p (by rw [e1]; simp)
      cases hp with
      | name hz =>
        walk_at "w"
        refine ⟨fun _ => ?_, fun e => (by cases e)⟩
        walk_at "w"
        refine ⟨by show 1 ≤ sizeLine; omega, ?_⟩
        walk_at "w"
        refine ⟨fun e => (by cases e), fun _ => ?_⟩
        walk_at "w"
        refine ⟨fun e => (by cases e), fun _ => ?_⟩
        walk_at "w"
        refine ⟨by show 0 ≤ sizeLine; omega, ?_⟩
        walk_at "w"
        refine ⟨by show 1 ≤ sizeLine; omega, ?_⟩
        exact ⟨l5, go _ (.name hz)⟩
      | kind hz hq =>
        rcases hq with rfl | rfl
        · walk_at "w"
          refine ⟨fun _ => ?_, fun e => (by cases e)⟩
          walk_at "w"
          refine ⟨by show 1 ≤ sizeLine; omega, ?_⟩
          walk_at "w"
          refine ⟨fun _ => ?_, fun e => (by cases e)⟩
          walk_at "w"
          refine ⟨fun e => (by cases e), fun _ => ?_⟩
          walk_at "w"
          refine ⟨by show 0 ≤ sizeLine; omega, ?_⟩
          walk_at "w"
          refine ⟨by show 1 ≤ sizeLine; omega, ?_⟩
          exact ⟨l5, go _ (.kind0 hz)⟩
        · walk_at "w"
          refine ⟨fun _ => ?_, fun e => (by cases e)⟩
          walk_at "w"
          refine ⟨by show 1 ≤ sizeLine; omega, ?_⟩
          walk_at "w"
          refine ⟨fun _ => ?_, fun e => (by cases e)⟩
          walk_at "w"
          refine ⟨fun _ => ?_, fun e => (by cases e)⟩
          walk_at "w"
          refine ⟨by show 3 ≤ sizeLine; omega, ?_⟩
          walk_at "w"
          refine ⟨by show 4 ≤ sizeLine; omega, ?_⟩
          exact ⟨l5, go _ (.kind1 hz)⟩
  · obtain ⟨ps1, ps2, rs, e1, e2, rfl, hf, rfl⟩ := hP
    cases ps2 with
    | cons p ps2 => cases e2
    | nil =>
      rw [List.append_nil] at e1
      subst e1
      have bk := btw_bound "," 4 rs (hf.bound ShownR.bound)
      have b4 : rs.length * (4 + 1) ≤ 4 * (4 + 1) := Nat.mul_le_mul_right _ (by rw [hf.len]; omega)
      walk_at "w"
      refine ⟨by show 1 ≤ sizeLine; omega, ?_⟩
      walk_at "w"
      refine ⟨rs, _, rfl, by rw [hf.len]; omega, by omega, ?_⟩
      walk_at "w"
      refine ⟨by simp only [List.length_append, List.length_map, List.length_cons, List.length_nil]; omega, ?_⟩
      walk_at "w"
      refine ⟨by show 1 ≤ sizeLine; omega, ?_⟩
      walk_at "w"
      refine ⟨by simp only [List.length_append, List.length_map, List.length_cons, List.length_nil]; omega, ?_⟩
      have hh := h _ hf
      simp only [rw_, List.map_append] at hh
      exact .inl hh
end K16

namespace K16
open PySem PySem.Spec PyProof.Rows L2 MM
local macro_rules | `(tactic| walk_at "w") => `(tactic| conv => whnf)
def ThingR (d : PyData) (r : List Str) : Prop := ∃ z : Str, (z ∈ SMALLN ∨ z ∈ GREATN) ∧ d = .str z ∧ r = [z]
theorem inB_le {rs : List (List Str)} {B : Nat} (h4 : rs.length ≤ 4) (hb : ∀ r ∈ rs, r.length ≤ B) : (inB rs).length ≤ 4 * (B + 1) + 2 ∧ (btw "," rs).length ≤ 4 * (B + 1) := by
  have b1 := btw_bound "," B rs hb
  have b2 := inB_bound rs
  have b4 : rs.length * (B + 1) ≤ 4 * (B + 1) := Nat.mul_le_mul_right _ h4
  exact ⟨by omega, by omega⟩
theorem row_open {C : Ar → List Mo → Prop} {ds ts : List PyData} {z w : Str} (h4 : ts.length ≤ 4) (hts : ∀ t ∈ ts, ThingD t)
    (h : ∀ rows, All2 ThingR ts rows → C (.val (rw_ ([("open" : Str), z] ++ (if w = "hiding" then [("hiding" : Str)] else []) ++ inB rows ++ [(";" : Str)]))) [.fl ds]) :
    b__law_item_row sp__law_between sp__law_in_brackets sp__law_dotted sp__law_with_of (sp__law_put 60) (endsD 1 C) (startD N__law_item_row [.sl 0, .val (.tuple [.str "open", .str z, .str w, .tuple ts])] [.fl ds]) := by
  have hs := DD.sl_line
  have tail : ∀ row : List Str, row.length ≤ 3 → (∀ rows, All2 ThingR ts rows → C (.val (rw_ (row ++ inB rows ++ [(";" : Str)]))) [.fl ds]) → dRet (dBin aAddL (dBin aAddL (dVar 4) (dCall sp__law_in_brackets (dCons (dFr (dLc (dIterE (dIx (dVar 1) (dC (.int 3)))) (dgName 5) dYes (dFr (dLstN (dCons (dVar 5) dNil))) [5])) dNil))) (dFr (dLstN (dCons (dC (.str ";")) dNil)))) (endsD 1 C) ⟨[some (.sl 0), some (.val (.tuple [.str "open", .str z, .str w, .tuple ts])), none, none, some (.val (rw_ row)), none, none, none, none, none, none], [.fl ds]⟩ := by
    intro row hrow h
    walk_at "w"
    refine lcL_inv (fun its acc δ => ∃ ps1 ps2 rs, ts = ps1 ++ ps2 ∧ its = ps2.map Ar.val ∧ acc = rs.map rw_ ∧ All2 ThingR ps1 rs ∧ δ = ⟨[some (.sl 0), some (.val (.tuple [.str "open", .str z, .str w, .tuple ts])), none, none, some (.val (rw_ row)), none, none, none, none, none, none], [.fl ds]⟩) (fun d dd acc δ hP N2 hN2 => ?_) (fun acc δ hP => ?_) _ _ _ ⟨[], ts, [], rfl, rfl, rfl, .nil, rfl⟩
    · obtain ⟨ps1, ps2, rs, e1, e2, rfl, hf, rfl⟩ := hP
      cases ps2 with
      | nil => cases e2
      | cons p ps2 =>
        injection e2 with e2 e3
        subst e2 e3
        have l1 := hf.len
        have l3 := congrArg List.length e1
        simp only [List.length_append, List.length_cons] at l3
        have l5 : (rs.map rw_).length < sizeLine := by rw [List.length_map]; omega
        have go : ∀ r, ThingR p r → N2 (rs.map rw_ ++ [rw_ r]) _ := fun r hr => hN2 _ _ ⟨ps1 ++ [p], ps2, rs ++ [r], by rw [e1]; simp, rfl, by simp, hf.snoc hr, rfl⟩
        obtain ⟨y, hy, rfl⟩ := hts p (by rw [e1]; simp)
        walk_at "w"
        refine ⟨fun _ => ?_, fun e => (by cases e)⟩
        walk_at "w"
        refine ⟨by show 1 ≤ sizeLine; omega, ?_⟩
        exact ⟨l5, go _ ⟨y, hy, rfl, rfl⟩⟩
    · obtain ⟨ps1, ps2, rs, e1, e2, rfl, hf, rfl⟩ := hP
      cases ps2 with
      | cons p ps2 => cases e2
      | nil =>
        rw [List.append_nil] at e1
        subst e1
        have bk := inB_le (B := 1) (by rw [hf.len]; omega) (hf.bound (B := 1) fun d r q => by obtain ⟨_, _, _, rfl⟩ := q; exact Nat.le_refl _)
        walk_at "w"
        refine ⟨rs, rfl, by rw [hf.len]; omega, by omega, ?_⟩
        walk_at "w"
        refine ⟨by simp only [List.length_append, List.length_map, List.length_cons, List.length_nil]; omega, ?_⟩
        walk_at "w"
        refine ⟨by show 1 ≤ sizeLine; omega, ?_⟩
        walk_at "w"
        refine ⟨by simp only [List.length_append, List.length_map, List.length_cons, List.length_nil]; omega, ?_⟩
        have hh := h _ hf
        simp only [rw_, List.map_append] at hh
        exact .inl hh
  walk_at "w"
  refine ⟨fun e => (by cases e), fun _ => ?_⟩
  walk_at "w"
  refine ⟨fun e => (by cases e), fun _ => ?_⟩
  walk_at "w"
  refine ⟨fun _ => ?_, fun e => (by cases e)⟩
  walk_at "w"
  refine ⟨by show 2 ≤ sizeLine; omega, ?_⟩
  walk_at "w"
  refine ⟨fun e => ?_, fun e => ?_⟩
  · have e : w = "hiding" := of_decide_eq_true e
    rw [if_pos e] at h
    walk_at "w"
    refine ⟨by show 1 ≤ sizeLine; omega, ?_⟩
    walk_at "w"
    refine ⟨by show 3 ≤ sizeLine; omega, ?_⟩
    exact tail _ (by simp) h
  · have e : w ≠ "hiding" := of_decide_eq_false e
    rw [if_neg e] at h
    walk_at "w"
    refine ⟨by show 0 ≤ sizeLine; omega, ?_⟩
    walk_at "w"
    refine ⟨by show 2 ≤ sizeLine; omega, ?_⟩
    exact tail _ (by simp) h
end K16

namespace K16
open PySem PySem.Spec PyProof.Rows L2 MM
local macro_rules | `(tactic| walk_at "w") => `(tactic| conv => whnf)
def DotR (d : PyData) (r : List Str) : Prop := ∃ mo nm : Str, ModS mo ∧ nm ∈ GREATN ∧ d = .tuple [.str mo, .str nm] ∧ r = dot mo nm
def MakerR (d : PyData) (r : List Str) : Prop := ∃ (z : Str) (os : List PyData) (rows : List (List Str)), z ∈ GREATN ∧ os.length ≤ 3 ∧ All2 DotR os rows ∧ d = .tuple [.str z, .tuple os] ∧ r = [z] ++ inB rows
theorem DotR.bound (d : PyData) (r : List Str) (h : DotR d r) : r.length ≤ 3 := by
  obtain ⟨mo, nm, _, _, _, rfl⟩ := h
  exact dot_len mo nm
theorem MakerR.bound (d : PyData) (r : List Str) (h : MakerR d r) : r.length ≤ 19 := by
  obtain ⟨z, os, rows, _, h3, h4, _, rfl⟩ := h
  have := inB_le (B := 3) (by rw [h4.len]; omega) (h4.bound DotR.bound)
  simp only [List.length_append, List.length_cons, List.length_nil]
  omega
theorem row_kind {C : Ar → List Mo → Prop} {ds ts : List PyData} {z : Str} (h4 : ts.length ≤ 4) (hts : ∀ t ∈ ts, MakerD t)
    (h : ∀ rows, All2 MakerR ts rows → C (.val (rw_ ([("kind" : Str), z, "="] ++ btw "|" rows ++ [(";" : Str)]))) [.fl ds]) :
    b__law_item_row sp__law_between sp__law_in_brackets sp__law_dotted sp__law_with_of (sp__law_put 60) (endsD 1 C) (startD N__law_item_row [.sl 0, .val (.tuple [.str "kind", .str z, .tuple ts])] [.fl ds]) := by
  have hs := DD.sl_line
  walk_at "w"
  refine ⟨fun e => (by cases e), fun _ => ?_⟩
  walk_at "w"
  refine ⟨fun e => (by cases e), fun _ => ?_⟩
  walk_at "w"
  refine ⟨fun e => (by cases e), fun _ => ?_⟩
  walk_at "w"
  refine ⟨fun _ => ?_, fun e => (by cases e)⟩
  walk_at "w"
  refine lcL_inv (fun its acc δ => ∃ ps1 ps2 rs, ts = ps1 ++ ps2 ∧ its = ps2.map Ar.val ∧ acc = rs.map rw_ ∧ All2 MakerR ps1 rs ∧ δ = ⟨[some (.sl 0), some (.val (.tuple [.str "kind", .str z, .tuple ts])), none, none, none, none, none, none, none, none, none], [.fl ds]⟩) (fun d dd acc δ hP N2 hN2 => ?_) (fun acc δ hP => ?_) _ _ _ ⟨[], ts, [], rfl, rfl, rfl, .nil, rfl⟩
  · obtain ⟨ps1, ps2, rs, e1, e2, rfl, hf, rfl⟩ := hP
    cases ps2 with
    | nil => cases e2
    | cons p ps2 =>
      injection e2 with e2 e3
      subst e2 e3
      have l1 := hf.len
      have l3 := congrArg List.length e1
      simp only [List.length_append, List.length_cons] at l3
      have l5 : (rs.map rw_).length < sizeLine := by rw [List.length_map]; omega
      have go : ∀ r, MakerR p r → N2 (rs.map rw_ ++ [rw_ r]) _ := fun r hr => hN2 _ _ ⟨ps1 ++ [p], ps2, rs ++ [r], by rw [e1]; simp, rfl, by simp, hf.snoc hr, rfl⟩
      obtain ⟨y, os, hy, ho3, hos, rfl⟩ := hts p (by rw [e1]; simp)
      walk_at "w"
      refine ⟨fun _ => ?_, fun e => (by cases e)⟩
      walk_at "w"
      refine ⟨by show 1 ≤ sizeLine; omega, ?_⟩
      walk_at "w"
      refine lcL_inv (fun its acc δ => ∃ qs1 qs2 us, os = qs1 ++ qs2 ∧ its = qs2.map Ar.val ∧ acc = us.map rw_ ∧ All2 DotR qs1 us ∧ δ = ⟨[some (.sl 0), some (.val (.tuple [.str "kind", .str z, .tuple ts])), none, some (.val (.tuple [.str y, .tuple os])), none, none, none, none, none, none, none], [.fl ds]⟩) (fun d' dd' acc' δ' hP' N3 hN3 => ?_) (fun acc' δ' hP' => ?_) _ _ _ ⟨[], os, [], rfl, rfl, rfl, .nil, rfl⟩
      · obtain ⟨qs1, qs2, us, f1, f2, rfl, hg, rfl⟩ := hP'
        cases qs2 with
        | nil => cases f2
        | cons q qs2 =>
          injection f2 with f2 f3
          subst f2 f3
          have m1 := hg.len
          have m3 := congrArg List.length f1
          simp only [List.length_append, List.length_cons] at m3
          have m5 : (us.map rw_).length < sizeLine := by rw [List.length_map]; omega
          have go' : ∀ r, DotR q r → N3 (us.map rw_ ++ [rw_ r]) _ := fun r hr => hN3 _ _ ⟨qs1 ++ [q], qs2, us ++ [r], by rw [f1]; simp, rfl, by simp, hg.snoc hr, rfl⟩
          obtain ⟨mo, nm, rfl, hmo, hnm⟩ := hos q (by rw [f1]; simp)
          walk_at "w"
          refine ⟨fun _ => ?_, fun e => (by cases e)⟩
          walk_at "w"
          refine ⟨mo, nm, rfl, ?_⟩
          exact ⟨m5, go' _ ⟨mo, nm, hmo, hnm, rfl, rfl⟩⟩
      · obtain ⟨qs1, qs2, us, f1, f2, rfl, hg, rfl⟩ := hP'
        cases qs2 with
        | cons q qs2 => cases f2
        | nil =>
          rw [List.append_nil] at f1
          subst f1
          have bk := inB_le (B := 3) (by rw [hg.len]; omega) (hg.bound DotR.bound)
          walk_at "w"
          refine ⟨us, rfl, by rw [hg.len]; omega, by omega, ?_⟩
          walk_at "w"
          refine ⟨by simp only [List.length_map, List.length_cons, List.length_nil]; omega, ?_⟩
          exact ⟨l5, go _ ⟨y, _, us, hy, ho3, hg, rfl, rfl⟩⟩
  · obtain ⟨ps1, ps2, rs, e1, e2, rfl, hf, rfl⟩ := hP
    cases ps2 with
    | cons p ps2 => cases e2
    | nil =>
      rw [List.append_nil] at e1
      subst e1
      have bk := btw_bound "|" 19 rs (hf.bound MakerR.bound)
      have b4 : rs.length * (19 + 1) ≤ 4 * (19 + 1) := Nat.mul_le_mul_right _ (by rw [hf.len]; omega)
      walk_at "w"
      refine ⟨by show 3 ≤ sizeLine; omega, ?_⟩
      walk_at "w"
      refine ⟨rs, _, rfl, by rw [hf.len]; omega, by omega, ?_⟩
      walk_at "w"
      refine ⟨by simp only [List.length_append, List.length_map, List.length_cons, List.length_nil]; omega, ?_⟩
      walk_at "w"
      refine ⟨by show 1 ≤ sizeLine; omega, ?_⟩
      walk_at "w"
      refine ⟨by simp only [List.length_append, List.length_map, List.length_cons, List.length_nil]; omega, ?_⟩
      have hh := h _ hf
      simp only [rw_, List.map_append] at hh
      exact .inl hh
end K16

namespace K16
open PySem PySem.Spec PyProof.Rows L2 MM
local macro_rules | `(tactic| walk_at "w") => `(tactic| conv => whnf)
def GivenR (d : PyData) (r : List Str) : Prop := ∃ (z : Str) (o : PyData), z ∈ SMALLN ∧ MaybeOf o ∧ d = .tuple [.str z, o] ∧ r = [z] ++ ofR o
theorem ofR_len {o : PyData} (h : MaybeOf o) : (ofR o).length ≤ 4 := by
  rcases h with rfl | ⟨mo, nm, rfl, _, _⟩
  · exact Nat.zero_le _
  · have := dot_len mo nm
    simp only [ofR, List.length_append, List.length_cons, List.length_nil]
    omega
theorem GivenR.bound (d : PyData) (r : List Str) (h : GivenR d r) : r.length ≤ 5 := by
  obtain ⟨z, o, _, ho, _, rfl⟩ := h
  have := ofR_len ho
  simp only [List.length_append, List.length_cons, List.length_nil]
  omega
theorem row_def {C : Ar → List Mo → Prop} {ds ts : List PyData} {z : Str} {o t : PyData} {k : Nat} (h4 : ts.length ≤ 3) (hts : ∀ t ∈ ts, GivenD t) (ho : MaybeOf o) (hk : k ≤ 6) (ht : TOk k t) (hd : DrawOk ds)
    (h : ∀ rows rt, All2 GivenR ts rows → PutR k false t rt → ∀ ds', DrawOk ds' → C (.val (rw_ ([("def" : Str), z] ++ inB rows ++ ofR o ++ [("=" : Str)] ++ rt ++ [(";" : Str)]))) [.fl ds']) :
    b__law_item_row sp__law_between sp__law_in_brackets sp__law_dotted sp__law_with_of (sp__law_put 60) (endsD 1 C) (startD N__law_item_row [.sl 0, .val (.tuple [.str "def", .str z, .tuple ts, o, t])] [.fl ds]) := by
  have hs := DD.sl_line
  walk_at "w"
  refine ⟨fun e => (by cases e), fun _ => ?_⟩
  walk_at "w"
  refine ⟨fun e => (by cases e), fun _ => ?_⟩
  walk_at "w"
  refine ⟨fun e => (by cases e), fun _ => ?_⟩
  walk_at "w"
  refine ⟨fun e => (by cases e), fun _ => ?_⟩
  walk_at "w"
  refine lcL_inv (fun its acc δ => ∃ ps1 ps2 rs, ts = ps1 ++ ps2 ∧ its = ps2.map Ar.val ∧ acc = rs.map rw_ ∧ All2 GivenR ps1 rs ∧ δ = ⟨[some (.sl 0), some (.val (.tuple [.str "def", .str z, .tuple ts, o, t])), none, none, none, none, none, none, none, none, none], [.fl ds]⟩) (fun d dd acc δ hP N2 hN2 => ?_) (fun acc δ hP => ?_) _ _ _ ⟨[], ts, [], rfl, rfl, rfl, .nil, rfl⟩
  · obtain ⟨ps1, ps2, rs, e1, e2, rfl, hf, rfl⟩ := hP
    cases ps2 with
    | nil => cases e2
    | cons p ps2 =>
      injection e2 with e2 e3
      subst e2 e3
      have l1 := hf.len
      have l3 := congrArg List.length e1
      simp only [List.length_append, List.length_cons] at l3
      have l5 : (rs.map rw_).length < sizeLine := by rw [List.length_map]; omega
      have go : ∀ r, GivenR p r → N2 (rs.map rw_ ++ [rw_ r]) _ := fun r hr => hN2 _ _ ⟨ps1 ++ [p], ps2, rs ++ [r], by rw [e1]; simp, rfl, by simp, hf.snoc hr, rfl⟩
      obtain ⟨y, oo, hy, hoo, rfl⟩ := hts p (by rw [e1]; simp)
      walk_at "w"
      refine ⟨fun _ => ?_, fun e => (by cases e)⟩
      walk_at "w"
      refine ⟨by show 1 ≤ sizeLine; omega, ?_⟩
      walk_at "w"
      refine ⟨[y], oo, rfl, by show 1 < 4000000; decide, hoo, ?_⟩
      exact ⟨l5, go _ ⟨y, oo, hy, hoo, rfl, rfl⟩⟩
  · obtain ⟨ps1, ps2, rs, e1, e2, rfl, hf, rfl⟩ := hP
    cases ps2 with
    | cons p ps2 => cases e2
    | nil =>
      rw [List.append_nil] at e1
      subst e1
      have bk := inB_le (B := 5) (by rw [hf.len]; omega) (hf.bound GivenR.bound)
      have ol := ofR_len ho
      walk_at "w"
      refine ⟨by show 2 ≤ sizeLine; omega, ?_⟩
      walk_at "w"
      refine ⟨rs, rfl, by rw [hf.len]; omega, by omega, ?_⟩
      walk_at "w"
      refine ⟨by simp only [List.length_map, List.length_cons, List.length_nil]; omega, ?_⟩
      walk_at "w"
      refine ⟨[("def" : Str), z] ++ inB rs, o, by simp only [rw_, List.map_append]; rfl, by simp only [List.length_append, List.length_cons, List.length_nil]; omega, ho, ?_⟩
      walk_at "w"
      refine ⟨by show 1 ≤ sizeLine; omega, ?_⟩
      walk_at "w"
      refine ⟨by simp only [List.length_append, List.length_map, List.length_cons, List.length_nil]; omega, ?_⟩
      walk_at "w"
      refine ⟨ds, t, false, k, by omega, hk, rfl, rfl, hd, ht, fun rt hrt ds2 hd2 => ?_⟩
      have lt := PutR.bound (BareR.bound k) hrt
      have lk := BB_le hk
      walk_at "w"
      refine ⟨by simp only [List.length_append, List.length_map, List.length_cons, List.length_nil]; omega, ?_⟩
      walk_at "w"
      refine ⟨by show 1 ≤ sizeLine; omega, ?_⟩
      walk_at "w"
      refine ⟨by simp only [List.length_append, List.length_map, List.length_cons, List.length_nil]; omega, ?_⟩
      have hh := h _ _ hf hrt ds2 hd2
      simp only [rw_, List.map_append] at hh
      refine .inl ?_
      simp only [List.map_append]
      exact hh
/-- a whole item, and its row -/
inductive ItemR : PyData → List Str → Prop
  | face {ts rows} : 0 < ts.length → ts.length ≤ 4 → All2 ShownR ts rows → ItemR (.tuple [.str "face", .tuple ts]) ([("face" : Str)] ++ btw "," rows ++ [(";" : Str)])
  | use {z y : Str} : z ∈ GREATN → y = "" ∨ y ∈ GREATN → ItemR (.tuple [.str "use", .str z, .str y]) ([("use" : Str), z] ++ (if y = "" then [] else [("as" : Str), y]) ++ [(";" : Str)])
  | all {z} : z ∈ GREATN → ItemR (.tuple [.str "open", .str z, .str "all", .tuple []]) ([("open" : Str), z] ++ [(";" : Str)])
  | open_ {z w : Str} {ts rows} : z ∈ GREATN → w = "only" ∨ w = "hiding" → 0 < ts.length → ts.length ≤ 4 → All2 ThingR ts rows → ItemR (.tuple [.str "open", .str z, .str w, .tuple ts]) ([("open" : Str), z] ++ (if w = "hiding" then [("hiding" : Str)] else []) ++ inB rows ++ [(";" : Str)])
  | kind {z ts rows} : z ∈ GREATN → 0 < ts.length → ts.length ≤ 4 → All2 MakerR ts rows → ItemR (.tuple [.str "kind", .str z, .tuple ts]) ([("kind" : Str), z, "="] ++ btw "|" rows ++ [(";" : Str)])
  | def_ {z ts rows o t rt} {k : Nat} : z ∈ SMALLN → ts.length ≤ 3 → All2 GivenR ts rows → MaybeOf o → k ≤ 6 → TOk k t → PutR k false t rt → ItemR (.tuple [.str "def", .str z, .tuple ts, o, t]) ([("def" : Str), z] ++ inB rows ++ ofR o ++ [("=" : Str)] ++ rt ++ [(";" : Str)])
def sp__law_item_row : DSp := fun as m C _ => ∃ (ds : List PyData) (d : PyData), as = [.sl 0, .val d] ∧ m = [.fl ds] ∧ DrawOk ds ∧ ItemD d ∧ ∀ r, ItemR d r → ∀ ds', DrawOk ds' → C (.val (rw_ r)) [.fl ds']
theorem l__law_item_row : ∀ as m C Ex, sp__law_item_row as m C Ex → b__law_item_row sp__law_between sp__law_in_brackets sp__law_dotted sp__law_with_of (sp__law_put 60) (endsD m.length C) (startD N__law_item_row as m) := by
  rintro as m C Ex ⟨ds, d, rfl, rfl, hd, hi, h⟩
  cases hi with
  | face h0 h4 hts => exact row_face h0 h4 hts fun rows hr => h _ (.face h0 h4 hr) _ hd
  | use hz hy => exact row_use (h _ (.use hz hy) _ hd)
  | all hz => exact row_open (by decide) (fun _ q => nomatch q) fun rows hr => (by cases hr; exact h _ (.all hz) _ hd)
  | open_ hz hw h0 h4 hts => exact row_open h4 hts fun rows hr => h _ (.open_ hz hw h0 h4 hr) _ hd
  | kind hz h0 h4 hts => exact row_kind h4 hts fun rows hr => h _ (.kind hz h0 h4 hr) _ hd
  | def_ hz h3 hts ho hk ht => exact row_def h3 hts ho hk ht hd fun rows rt hr hrt ds' hd' => h _ (.def_ hz h3 hr ho hk ht hrt) _ hd'
end K16

namespace K16
open PySem PySem.Spec PyProof.Rows L2 MM
local macro_rules | `(tactic| walk_at "w") => `(tactic| conv => whnf)
/-- data of texts, ints, None and tuples -/
inductive Plain : Nat → PyData → Prop
  | str {n z} : Plain n (.str z)
  | int {n} {i : Int} : Plain n (.int i)
  | none {n} : Plain n .none
  | tuple {n xs} : xs.length ≤ 100 → (∀ x ∈ xs, Plain n x) → Plain (n + 1) (.tuple xs)
def sp__law_same (n : Nat) : DSp := fun as m C _ => ∃ (d : PyData) (k : Nat), k < n ∧ as = [.val d, .val d] ∧ Plain k d ∧ C (.val (.bool true)) m
theorem l__law_same (n : Nat) : ∀ as m C Ex, sp__law_same (n + 1) as m C Ex → b__law_same (sp__law_same n) (endsD m.length C) (startD N__law_same as m) := by
  rintro as m C Ex ⟨d, k, hk, rfl, hp, h⟩
  have hs := DD.sl_line
  cases hp with
  | none =>
    walk_at "w"
    iterate 12 try first
      | (refine ⟨fun e => absurd e (by decide), fun _ => ?_⟩; walk_at "w")
      | (refine ⟨fun _ => ?_, fun e => absurd e (by decide)⟩; walk_at "w")
    exact .inl h
  | @str _ z =>
    walk_at "w"
    iterate 12 try first
      | (refine ⟨fun e => absurd e (by decide), fun _ => ?_⟩; walk_at "w")
      | (refine ⟨fun _ => ?_, fun e => absurd e (by decide)⟩; walk_at "w")
    refine .inl ?_
    show C (.val (.bool (decide (z = z)))) m
    rw [decide_eq_true rfl]
    exact h
  | @int _ i =>
    walk_at "w"
    iterate 12 try first
      | (refine ⟨fun e => absurd e (by decide), fun _ => ?_⟩; walk_at "w")
      | (refine ⟨fun _ => ?_, fun e => absurd e (by decide)⟩; walk_at "w")
    refine .inl ?_
    show C (.val (.bool (decide (i = i)))) m
    rw [decide_eq_true rfl]
    exact h
  | tuple hl hx =>
    rename_i j xs
    walk_at "w"
    iterate 12 try first
      | (refine ⟨fun e => absurd e (by decide), fun _ => ?_⟩; walk_at "w")
      | (refine ⟨fun _ => ?_, fun e => absurd e (by decide)⟩; walk_at "w")
    refine ⟨fun _ => ?_, fun e => absurd e (by simp)⟩
    walk_at "w"
    refine ⟨by omega, by omega, ?_⟩
    refine lcR_inv 0 xs.length (fun i acc δ => acc = List.replicate i (PyData.bool true) ∧ δ = ⟨[some (.val (.tuple xs)), some (.val (.tuple xs)), none], m⟩) (fun i acc δ hi hP N2 hN2 => ?_) (fun acc δ hP => ?_) ⟨rfl, rfl⟩
    · obtain ⟨rfl, rfl⟩ := hP
      have ix : atI xs (0 + (i : Nat) : Int) = some xs[i] := by
        rw [Int.zero_add]
        exact atI_nat (List.getElem?_eq_getElem hi)
      walk_at "w"
      refine ⟨fun _ => ?_, fun e => (by cases e)⟩
      walk_at "w"
      rw [ix]
      walk_at "w"
      rw [ix]
      walk_at "w"
      refine ⟨xs[i], j, by omega, rfl, hx _ (List.getElem_mem hi), ?_⟩
      refine ⟨by rw [List.length_replicate]; omega, ?_⟩
      exact hN2 _ _ ⟨by rw [List.replicate_succ'], rfl⟩
    · obtain ⟨rfl, rfl⟩ := hP
      have bd : ∀ q, boolsD (List.replicate q (PyData.bool true)) = some (List.replicate q true) := fun q => by
        induction q with
        | zero => rfl
        | succ q ih =>
          rw [List.replicate_succ, List.replicate_succ]
          simp [boolsD, ih]
      have al : (List.replicate xs.length true).all id = true := by simp
      walk_at "w"
      rw [bd]
      walk_at "w"
      refine .inl ?_
      show C (.val (.bool ((List.replicate xs.length true).all id))) m
      rw [al]
      exact h
end K16

namespace K16
open PySem PySem.Spec PyProof.Rows L2 MM
local macro_rules | `(tactic| walk_at "w") => `(tactic| conv => whnf)
def WRDS : List Str := ["face", "use", "as", "open", "hiding", "kind", "def", "let", "in", "if", "then", "else", "case", "of", "end"]
def SGNS : List Str := ["(", ")", ",", ".", "..", "=", "==", ":", ";", "|", "->", "_"]
def sortOf (z : Str) : Str := if z ∈ SMALLN then "name" else if z ∈ GREATN then "Name" else if z ∈ WRDS then "word" else "sign"
def tokD (z : Str) : PyData := .tuple [.str (sortOf z), .str z]
def TokOk (z : Str) : Prop := z ∈ SMALLN ++ GREATN ++ WRDS ++ SGNS
def sp__law_tokens : DSp := fun as m C _ => ∃ r : List Str, as = [.val (rw_ r)] ∧ m = [] ∧ r.length < 4000000 ∧ (∀ z ∈ r, TokOk z) ∧ C (.val (.tuple (r.map tokD))) m
theorem l__law_tokens : ∀ as m C Ex, sp__law_tokens as m C Ex → b__law_tokens (endsD m.length C) (startD N__law_tokens as m) := by
  rintro as m C Ex ⟨r, rfl, rfl, hl, hr, h⟩
  have hs := DD.sl_line
  unfold b__law_tokens
  refine seq_cut (fun δ => δ = ⟨[some (.val (rw_ r)), some (.val (rw_ WRDS)), none, none, none], []⟩) (fun N hN => ?_) ?_
  · walk_at "w"
    refine ⟨by decide +kernel, by show _ ≤ sizeLine; rw [hs]; decide +kernel, ?_⟩
    have e : Txt.split (Str.ofString "face use as open hiding kind def let in if then else case of end") (Str.ofString " ") = WRDS := by decide +kernel
    rw [e]
    exact hN _ rfl
  rintro _ rfl
  refine seq_cut (fun δ => δ = ⟨[some (.val (rw_ r)), some (.val (rw_ WRDS)), some (.sl 0), none, none], [.fl []]⟩) (fun N hN => ?_) ?_
  · walk_at "w"
    refine ⟨by show 0 ≤ sizeLine; omega, ?_⟩
    exact hN _ rfl
  rintro _ rfl
  walk_at "w"
  refine forL_inv (fun its δ => ∃ (r1 r2 : List Str) (x3 x4 : Option Ar), r = r1 ++ r2 ∧ its = (r2.map PyData.str).map Ar.val ∧ δ = ⟨[some (.val (rw_ r)), some (.val (rw_ WRDS)), some (.sl 0), x3, x4], [.fl (r1.map tokD)]⟩) (fun d dd δ hP N hN => ?_) (fun δ hP => ?_) _ _ ⟨[], r, none, none, rfl, rfl, rfl⟩
  · obtain ⟨r1, r2, x3, x4, e1, e2, rfl⟩ := hP
    cases r2 with
    | nil => cases e2
    | cons z r2 =>
      injection e2 with e2 e3
      subst e2 e3
      have hz := hr z (by rw [e1]; simp)
      have go : ∀ x3 x4, N ⟨[some (.val (rw_ r)), some (.val (rw_ WRDS)), some (.sl 0), x3, x4], [.fl (r1.map tokD ++ [tokD z])]⟩ := fun x3 x4 => hN _ ⟨r1 ++ [z], r2, x3, x4, by rw [e1]; simp, rfl, by simp⟩
      have l3 := congrArg List.length e1
      simp only [List.length_append, List.length_cons] at l3
      have sz : (r1.map tokD).length < sizeLine := by rw [List.length_map]; omega
      have hz : z ∈ SMALLN ++ GREATN ++ WRDS ++ SGNS := hz
      simp only [SMALLN, GREATN, WRDS, SGNS, List.cons_append, List.nil_append, List.mem_cons, List.not_mem_nil, or_false] at hz
      rcases hz with rfl | rfl | rfl | rfl | rfl | rfl | rfl | rfl | rfl | rfl | rfl | rfl | rfl | rfl | rfl | rfl | rfl | rfl | rfl | rfl | rfl | rfl | rfl | rfl | rfl | rfl | rfl | rfl | rfl | rfl | rfl | rfl | rfl | rfl | rfl | rfl | rfl | rfl | rfl | rfl | rfl | rfl | rfl | rfl | rfl
      all_goals walk_at "w"
      all_goals iterate 20 try first
        | exact ⟨sz, go _ _⟩
        | (refine ⟨rfl, (by decide +kernel), ?_⟩; walk_at "w")
        | (refine ⟨by rw [hs]; decide +kernel, ?_⟩; walk_at "w")
        | (refine ⟨fun e => absurd e (by decide +kernel), fun _ => ?_⟩; walk_at "w")
        | (refine ⟨fun _ => ?_, fun e => absurd e (by decide +kernel)⟩; walk_at "w")
  · obtain ⟨r1, r2, x3, x4, e1, e2, rfl⟩ := hP
    cases r2 with
    | cons z r2 => cases e2
    | nil =>
      rw [List.append_nil] at e1
      subst e1
      walk_at "w"
      exact .inr ⟨fun o ho => (nomatch ho), h⟩
end K16

namespace K16
open PySem PySem.Spec PyProof.Rows L2 MM
local macro_rules | `(tactic| walk_at "w") => `(tactic| conv => whnf)
/-- the sign by which the reader knows a token -/
def termOf (z : Str) : Str := if z ∈ SMALLN then "name" else if z ∈ GREATN then "Name" else z
def sp_terminal : DSp := fun as m C _ => ∃ z : Str, as = [.val (tokD z)] ∧ TokOk z ∧ C (.val (.str (termOf z))) m
theorem l_terminal : ∀ as m C Ex, sp_terminal as m C Ex → b_terminal (endsD m.length C) (startD N_terminal as m) := by
  rintro as m C Ex ⟨z, rfl, hz, h⟩
  have hs := DD.sl_line
  have hz : z ∈ SMALLN ++ GREATN ++ WRDS ++ SGNS := hz
  simp only [SMALLN, GREATN, WRDS, SGNS, List.cons_append, List.nil_append, List.mem_cons, List.not_mem_nil, or_false] at hz
  rcases hz with rfl | rfl | rfl | rfl | rfl | rfl | rfl | rfl | rfl | rfl | rfl | rfl | rfl | rfl | rfl | rfl | rfl | rfl | rfl | rfl | rfl | rfl | rfl | rfl | rfl | rfl | rfl | rfl | rfl | rfl | rfl | rfl | rfl | rfl | rfl | rfl | rfl | rfl | rfl | rfl | rfl | rfl | rfl | rfl | rfl
  all_goals walk_at "w"
  all_goals iterate 12 try first
    | exact .inl h
    | (refine ⟨rfl, (by decide +kernel), ?_⟩; walk_at "w")
    | (refine ⟨by rw [hs]; decide +kernel, ?_⟩; walk_at "w")
    | (refine ⟨fun e => absurd e (by decide +kernel), fun _ => ?_⟩; walk_at "w")
    | (refine ⟨fun _ => ?_, fun e => absurd e (by decide +kernel)⟩; walk_at "w")
end K16

namespace K16
open PySem PySem.Spec PyProof.Rows L2 MM
local macro_rules | `(tactic| walk_at "w") => `(tactic| conv => whnf)
/-- the store of a reader at work: the walk, its `due`, the first inner list, `made`, and what came after -/
def stoR (due : List Str) (x : Mo) (js : List Nat) (depth : Int) (tl : List Mo) : List Mo :=
  .ins "ItemWalk" [("due", .sl 1), ("made", .sl 3), ("depth", .val (.int depth))] :: .fl (due.map PyData.str) :: x :: .ls (js.map Ar.sl) :: tl
def sp_ItemWalk__m___init__ : DSp := fun as m C _ => as = [.sl 0] ∧ m = [.ins "ItemWalk" []] ∧ C (.val .none) (stoR ["ITEM"] (.fl []) [2] 0 [])
theorem l_ItemWalk__m___init__ : ∀ as m C Ex, sp_ItemWalk__m___init__ as m C Ex → b_ItemWalk__m___init__ (endsD m.length C) (startD N_ItemWalk__m___init__ as m) := by
  rintro as m C Ex ⟨rfl, rfl, h⟩
  have hs := DD.sl_line
  walk_at "w"
  refine ⟨by show 1 ≤ sizeLine; omega, ?_⟩
  walk_at "w"
  refine ⟨⟨rfl, by decide⟩, ?_⟩
  walk_at "w"
  refine ⟨by show 0 ≤ sizeLine; omega, ?_⟩
  walk_at "w"
  refine ⟨by show 1 ≤ sizeLine; omega, ?_⟩
  walk_at "w"
  refine ⟨⟨rfl, by decide⟩, ?_⟩
  walk_at "w"
  refine ⟨⟨rfl, by decide⟩, ?_⟩
  exact .inl h
end K16

namespace K16
open PySem PySem.Spec PyProof.Rows L2 MM
/-- the inner lists lie where js says, the innermost first -/
inductive Inn (m : List Mo) : List Nat → List (List PyData) → Prop
  | nil : Inn m [] []
  | cons {j js xs xss} : m[j]? = some (.fl xs) → (j = 2 ∨ 4 ≤ j) → j ∉ js → Inn m js xss → Inn m (j :: js) (xs :: xss)
theorem Inn.mono {m m' : List Mo} : ∀ {js : List Nat} {xss : List (List PyData)}, (∀ j ∈ js, (j = 2 ∨ 4 ≤ j) → j < m.length → m'[j]? = m[j]?) → Inn m js xss → Inn m' js xss
  | [], _, _, .nil => .nil
  | j :: js, _, h, .cons h1 h2 h3 h4 => .cons (by rw [h j (by simp) h2 (List.getElem?_eq_some_iff.mp h1).1]; exact h1) h2 h3 (Inn.mono (fun i hi => h i (List.mem_cons_of_mem _ hi)) h4)
theorem Inn.len {m : List Mo} : ∀ {js : List Nat} {xss : List (List PyData)}, Inn m js xss → js.length = xss.length
  | [], _, .nil => rfl
  | j :: js, _, .cons h1 h2 h3 h4 => by rw [List.length_cons, List.length_cons, h4.len]
theorem Inn.lt {m : List Mo} : ∀ {js : List Nat} {xss : List (List PyData)}, Inn m js xss → ∀ j ∈ js, j < m.length
  | [], _, _ => fun i hi => nomatch hi
  | j :: js, _, .cons h1 h2 h3 h4 => fun i hi => (List.mem_cons.mp hi).elim (fun e => e ▸ (List.getElem?_eq_some_iff.mp h1).1) (h4.lt i)
/-- lists that stand beside: they are not touched -/
def Bes (m : List Mo) (js : List Nat) (rs : List (Nat × List PyData)) : Prop := ∀ p ∈ rs, m[p.1]? = some (.fl p.2) ∧ 4 ≤ p.1 ∧ p.1 ∉ js
/-- a reader at work: what is due (the next first), the inner lists of `made` (the innermost first), the depth -/
def Wk (m : List Mo) (stk : List Str) (mk : List (List PyData)) (d : Int) (rs : List (Nat × List PyData)) : Prop := ∃ x js tl, m = stoR stk.reverse x js.reverse d tl ∧ Inn m js mk ∧ Bes m js rs
theorem stoR_set {due x js d tl i} (h : i = 2 ∨ 4 ≤ i) (o : Mo) : ∃ x' tl', (stoR due x js d tl).set i o = stoR due x' js d tl' := by
  rcases h with rfl | h
  · exact ⟨o, tl, rfl⟩
  · obtain ⟨k, rfl⟩ : ∃ k, i = k + 4 := ⟨i - 4, by omega⟩
    exact ⟨x, tl.set k o, rfl⟩
theorem wk_top {m : List Mo} {stk : List Str} {x j js d tl xs mk rs} (ys : List PyData) (e : m = stoR stk.reverse x (j :: js).reverse d tl) (h : Inn m (j :: js) (xs :: mk)) (b : Bes m (j :: js) rs) : Wk (m.set j (.fl ys)) stk (ys :: mk) d rs := by
  cases h with
  | cons h1 h2 h3 h4 =>
    obtain ⟨x', tl', e'⟩ := stoR_set (due := stk.reverse) (x := x) (js := (j :: js).reverse) (d := d) (tl := tl) h2 (.fl ys)
    have lt := (List.getElem?_eq_some_iff.mp h1).1
    refine ⟨x', j :: js, tl', by rw [e]; exact e', .cons (List.getElem?_set_self lt) h2 h3 (h4.mono fun i hi _ _ => List.getElem?_set_ne (fun q : j = i => h3 (q.symm ▸ hi))), fun p hp => ?_⟩
    obtain ⟨b1, b2, b3⟩ := b p hp
    exact ⟨by rw [List.getElem?_set_ne (fun q : j = p.1 => b3 (q ▸ List.mem_cons_self))]; exact b1, b2, b3⟩
theorem wk_push {m : List Mo} {stk : List Str} {x js d tl mk rs} (ys : List PyData) (e : m = stoR stk.reverse x js.reverse d tl) (h : Inn m js mk) (b : Bes m js rs) : Wk ((m ++ [Mo.fl ys]).set 3 (Mo.ls (js.reverse.map Ar.sl ++ [Ar.sl m.length]))) stk (ys :: mk) d rs := by
  have l4 : 4 ≤ m.length := by rw [e]; exact Nat.le_add_left 4 tl.length
  have old : ∀ i, i ≠ 3 → i < m.length → ((m ++ [Mo.fl ys]).set 3 (Mo.ls (js.reverse.map Ar.sl ++ [Ar.sl m.length])))[i]? = m[i]? := fun i h3 hi => by
    rw [List.getElem?_set_ne (Ne.symm h3), List.getElem?_append_left hi]
  have nl : m.length ∉ js := fun hm => absurd (h.lt _ hm) (Nat.lt_irrefl _)
  refine ⟨x, m.length :: js, tl ++ [.fl ys], ?_, .cons ?_ (.inr l4) nl (h.mono fun i _ hi hl => old i (by omega) hl), fun p hp => ?_⟩
  · have e2 : (m.length :: js).reverse.map Ar.sl = js.reverse.map Ar.sl ++ [.sl m.length] := by simp
    unfold stoR
    rw [e2]
    generalize hm : m.length = n
    rw [e]
    rfl
  · rw [List.getElem?_set_ne (by omega), List.getElem?_append_right (Nat.le_refl _), Nat.sub_self]; rfl
  · obtain ⟨b1, b2, b3⟩ := b p hp
    have lt := (List.getElem?_eq_some_iff.mp b1).1
    exact ⟨by rw [old _ (by omega) lt]; exact b1, b2, fun q => (List.mem_cons.mp q).elim (fun q => by omega) b3⟩
theorem wk_pop {m : List Mo} {stk : List Str} {x j js d tl xs mk rs} (e : m = stoR stk.reverse x (j :: js).reverse d tl) (h : Inn m (j :: js) (xs :: mk)) (b : Bes m (j :: js) rs) :
    m.set 3 (Mo.ls (js.reverse.map Ar.sl)) = stoR stk.reverse x js.reverse d tl ∧ Inn (m.set 3 (Mo.ls (js.reverse.map Ar.sl))) js mk ∧ Bes (m.set 3 (Mo.ls (js.reverse.map Ar.sl))) js rs := by
  cases h with
  | cons h1 h2 h3 h4 =>
    refine ⟨by rw [e]; rfl, h4.mono fun i _ hi _ => List.getElem?_set_ne (by omega), fun p hp => ?_⟩
    obtain ⟨b1, b2, b3⟩ := b p hp
    exact ⟨by rw [List.getElem?_set_ne (by omega)]; exact b1, b2, fun q => b3 (List.mem_cons_of_mem _ q)⟩
theorem wk_depth {m : List Mo} {stk : List Str} {x js d tl mk rs} (d' : Int) (e : m = stoR stk.reverse x js.reverse d tl) (h : Inn m js mk) (b : Bes m js rs) : Wk (m.set 0 (.ins "ItemWalk" [("due", .sl 1), ("made", .sl 3), ("depth", .val (.int d'))])) stk mk d' rs := by
  refine ⟨x, js, tl, by rw [e]; rfl, h.mono fun i _ hi _ => List.getElem?_set_ne (by omega), fun p hp => ?_⟩
  obtain ⟨b1, b2, b3⟩ := b p hp
  exact ⟨by rw [List.getElem?_set_ne (by omega)]; exact b1, b2, b3⟩
theorem wk_due {m : List Mo} {stk : List Str} {x js d tl mk rs} (stk' : List Str) (e : m = stoR stk.reverse x js.reverse d tl) (h : Inn m js mk) (b : Bes m js rs) : Wk (m.set 1 (.fl (stk'.reverse.map PyData.str))) stk' mk d rs := by
  refine ⟨x, js, tl, by rw [e]; rfl, h.mono fun i _ hi _ => List.getElem?_set_ne (by omega), fun p hp => ?_⟩
  obtain ⟨b1, b2, b3⟩ := b p hp
  exact ⟨by rw [List.getElem?_set_ne (by omega)]; exact b1, b2, b3⟩
/-! ### how the pieces are read -/
theorem atI_last {α : Type} (xs : List α) (a : α) : atI (xs ++ [a]) (-1) = some a := by
  unfold atI ixN
  have h1 : (1 : Int) ≤ (xs.length : Int) + 1 := by omega
  have h2 : (-1 + ((xs.length : Int) + 1)).toNat = xs.length := by omega
  simp [h1, h2]
theorem isLi_fl {s m i xs} (h : m[i]? = some (.fl xs)) : isLi ⟨s, m⟩ i = true := by unfold isLi; rw [show (⟨s, m⟩ : DSt).m[i]? = _ from h]; rfl
theorem app_at {fo f : DTE} {s m i xs} {x : PyData} {C} (ho : ∀ C : Ar → DSt → Prop, C (.sl i) ⟨s, m⟩ → fo ⟨s, m⟩ C) (hi : m[i]? = some (.fl xs)) (hf : ∀ C : Ar → DSt → Prop, C (.val x) ⟨s, m⟩ → f ⟨s, m⟩ C) (hl : xs.length < sizeLine)
    (h : C (.val .none) ⟨s, m.set i (.fl (xs ++ [x]))⟩) : dApp fo f ⟨s, m⟩ C := by
  refine ho _ ?_
  show guardB (isLi ⟨s, m⟩ i) _
  rw [isLi_fl hi]
  refine hf _ ?_
  show (match m[i]? with | some o => guardB (isL o) (lenM o < sizeLine ∧ C (.val .none) (setM ⟨s, m⟩ i (appM o (.val x)))) | none => False)
  rw [hi]
  exact ⟨hl, h⟩
theorem ins_at {fo f : DTE} {s m i xs} {x : PyData} {C} (ho : ∀ C : Ar → DSt → Prop, C (.sl i) ⟨s, m⟩ → fo ⟨s, m⟩ C) (hi : m[i]? = some (.fl xs)) (hf : ∀ C : Ar → DSt → Prop, C (.val x) ⟨s, m⟩ → f ⟨s, m⟩ C) (hl : xs.length < sizeLine)
    (h : C (.val .none) ⟨s, m.set i (.fl (x :: xs))⟩) : dIns0 fo f ⟨s, m⟩ C := by
  refine ho _ ?_
  show guardB (isLi ⟨s, m⟩ i) _
  rw [isLi_fl hi]
  refine hf _ ?_
  show (match m[i]? with | some o => guardB (isL o) (lenM o < sizeLine ∧ C (.val .none) (setM ⟨s, m⟩ i (insM o x))) | none => False)
  rw [hi]
  exact ⟨hl, h⟩
theorem pop_at {fo : DTE} {s m i} {xs : List PyData} {x : PyData} {C} (ho : ∀ C : Ar → DSt → Prop, C (.sl i) ⟨s, m⟩ → fo ⟨s, m⟩ C) (hi : m[i]? = some (.fl (xs ++ [x])))
    (h : C (.val x) ⟨s, m.set i (.fl xs)⟩) : dPop fo ⟨s, m⟩ C := by
  refine ho _ ?_
  show (match m[i]? with | some o => (match popM o with | some (b, o') => C b (setM ⟨s, m⟩ i o') | none => False) | none => False)
  rw [hi]
  show (match popM (.fl (xs ++ [x])) with | some (b, o') => C b (setM ⟨s, m⟩ i o') | none => False)
  have e : popM (.fl (xs ++ [x])) = some (.val x, .fl xs) := by
    unfold popM
    simp
  rw [e]
  exact h
theorem popL_at {fo : DTE} {s m i} {xs : List Ar} {x : Ar} {C} (ho : ∀ C : Ar → DSt → Prop, C (.sl i) ⟨s, m⟩ → fo ⟨s, m⟩ C) (hi : m[i]? = some (.ls (xs ++ [x])))
    (h : C x ⟨s, m.set i (.ls xs)⟩) : dPop fo ⟨s, m⟩ C := by
  refine ho _ ?_
  show (match m[i]? with | some o => (match popM o with | some (b, o') => C b (setM ⟨s, m⟩ i o') | none => False) | none => False)
  rw [hi]
  show (match popM (.ls (xs ++ [x])) with | some (b, o') => C b (setM ⟨s, m⟩ i o') | none => False)
  have e : popM (.ls (xs ++ [x])) = some (x, .ls xs) := by
    unfold popM
    simp
  rw [e]
  exact h
theorem due_at {ss : List (Option Ar)} {m due x js d tl} (e : m = stoR due x js d tl) (C : Ar → DSt → Prop) (h : C (.sl 1) ⟨some (.sl 0) :: ss, m⟩) : dFld "ItemWalk" "due" (dVar 0) ⟨some (.sl 0) :: ss, m⟩ C := by
  subst e
  exact ⟨rfl, h⟩
theorem made_at {ss : List (Option Ar)} {m due x js d tl} (e : m = stoR due x js d tl) (C : Ar → DSt → Prop) (h : C (.sl 3) ⟨some (.sl 0) :: ss, m⟩) : dFld "ItemWalk" "made" (dVar 0) ⟨some (.sl 0) :: ss, m⟩ C := by
  subst e
  exact ⟨rfl, h⟩
theorem last_at {ss : List (Option Ar)} {m due x js j d tl} (e : m = stoR due x (j :: js).reverse d tl) (C : Ar → DSt → Prop) (h : C (.sl j) ⟨some (.sl 0) :: ss, m⟩) : dIx (dFld "ItemWalk" "made" (dVar 0)) (dUn aNeg (dC (.int 1))) ⟨some (.sl 0) :: ss, m⟩ C := by
  refine made_at e _ ?_
  show ixA ⟨some (.sl 0) :: ss, m⟩ (.sl 3) (-1) fun d => C d ⟨some (.sl 0) :: ss, m⟩
  have e3 : m[3]? = some (.ls (js.reverse.map Ar.sl ++ [.sl j])) := by
    rw [e]
    show some (Mo.ls ((j :: js).reverse.map Ar.sl)) = _
    simp
  show (match (m[3]? : Option Mo) with
    | some (Mo.fl xs) => match atI xs (-1) with
      | some d => C (.val d) ⟨some (.sl 0) :: ss, m⟩
      | none => False
    | some (Mo.ls xs) => match atI xs (-1) with
      | some d => C d ⟨some (.sl 0) :: ss, m⟩
      | none => False
    | some (Mo.tu xs) => match atI xs (-1) with
      | some d => C d ⟨some (.sl 0) :: ss, m⟩
      | none => False
    | _ => False)
  rw [e3]
  show (match atI (js.reverse.map Ar.sl ++ [Ar.sl j]) (-1) with
      | some d => C d ⟨some (.sl 0) :: ss, m⟩
      | none => False)
  rw [atI_last]
  exact h
end K16

namespace K16
open PySem PySem.Spec PyProof.Rows L2 MM
/-! ### the reader as a plain machine -/
mutual
def wt : PyData → Nat
  | .tuple xs => 1 + wts xs
  | _ => 1
def wts : List PyData → Nat
  | [] => 0
  | x :: xs => wt x + wts xs
end
theorem wt_pos (d : PyData) : 1 ≤ wt d := by
  cases d with
  | tuple xs => show 1 ≤ 1 + wts xs; omega
  | _ => exact Nat.le_refl 1
theorem wt_tup (xs : List PyData) : wt (.tuple xs) = 1 + wts xs := rfl
theorem wt_str (z : Str) : wt (.str z) = 1 := rfl
theorem wts_app : ∀ xs ys : List PyData, wts (xs ++ ys) = wts xs + wts ys
  | [], ys => by simp [wts]
  | x :: xs, ys => by rw [List.cons_append, wts, wts, wts_app xs ys, Nat.add_assoc]
theorem len_wts : ∀ xs : List PyData, xs.length ≤ wts xs
  | [] => by simp
  | x :: xs => by
    have := wt_pos x
    have := len_wts xs
    rw [wts, List.length_cons]
    omega
def wtm : List (List PyData) → Nat
  | [] => 0
  | xs :: mk => 1 + wts xs + wtm mk
theorem len_wtm : ∀ mk : List (List PyData), mk.length ≤ wtm mk
  | [] => by simp
  | x :: xs => by
    have := len_wtm xs
    rw [wtm, List.length_cons]
    omega
/-- what a mark adds, what it puts in front -/
def ADDS : List (Str × PyData) := [("'face", .str "face"), ("'use", .str "use"), ("'open", .str "open"), ("'kind", .str "kind"), ("'def", .str "def"), ("'name", .str "name"), ("'1", .int 1), ("'0", .int 0), ("'", .str ""),
  ("'hiding", .str "hiding"), ("'only", .str "only"), ("'all", .str "all"), ("'none", .none), ("'let", .str "let"), ("'if", .str "if"), ("'case", .str "case"), ("'any", .str "any"), ("'bind", .str "bind")]
def INSS : List (Str × Str) := [("^", ""), ("^make", "make"), ("^call", "call"), ("^name", "name")]
inductive ActP : Str → List (List PyData) → Int → List (List PyData) → Int → Prop
  | opn {mk d} : ActP "<" mk d ([] :: mk) d
  | cls {xs ys mk d} : ActP ">" (xs :: ys :: mk) d ((ys ++ [.tuple xs]) :: mk) d
  | add {z x xs mk d} : (z, x) ∈ ADDS → ActP z (xs :: mk) d ((xs ++ [x]) :: mk) d
  | ins {z y xs mk d} : (z, y) ∈ INSS → ActP z (xs :: mk) d ((.str y :: xs) :: mk) d
  | same {a xs mk d} : ActP "!same" ((xs ++ [a]) :: mk) d ([.str "same", a] :: xs :: mk) d
  | out {mk d} : ActP "!out" mk (d + 1) mk d
theorem ActP.le {z mk d mk' d'} (h : ActP z mk d mk' d') : wtm mk ≤ wtm mk' := by
  cases h with
  | out => exact Nat.le_refl _
  | _ => simp only [wtm, wts, wt_tup, wt_str, wts_app]; omega
def ACTS : List Str := (["<", ">", "!same", "!out"] : List Str) ++ ADDS.map Prod.fst ++ INSS.map Prod.fst
theorem ActP.mem {z mk d mk' d'} (h : ActP z mk d mk' d') : z ∈ ACTS := by
  cases h with
  | add h => exact List.mem_append_left _ (List.mem_append_right _ (List.mem_map_of_mem (f := Prod.fst) h))
  | ins h => exact List.mem_append_right _ (List.mem_map_of_mem (f := Prod.fst) h)
  | _ => simp [ACTS]
/-! the rules -/
def rowsD : PyData → List (Str × Str)
  | .tuple xs => xs.map fun | .tuple [.str a, .str b] => (a, b) | _ => ("", "")
  | _ => []
def goP (sign : Str) : List (Str × Str) → Option (List Str)
  | [] => none
  | (a, b) :: rs => if a = "" ∨ sign ∈ Txt.words a then some (Txt.words b) else goP sign rs
def pick_ (sym sign : Str) : Option (List Str) := match t_RULES sym with
  | some d => goP sign (rowsD d)
  | none => none
/-- what a rule is for a sign -/
abbrev PK (sym sign : Str) (ws : List Str) : Prop := pick_ sym sign = some ws
/-- from the stack, the lists and the depth to those behind the symbol that fits -/
inductive MeetN (s : Str) : Nat → List Str → List (List PyData) → Int → List Str → List (List PyData) → Int → Prop
  | hit {stk mk d} : MeetN s 0 (s :: stk) mk d stk mk d
  | act {n z stk mk d mk1 d1 stk' mk' d'} : z ≠ s → ActP z mk d mk1 d1 → MeetN s n stk mk1 d1 stk' mk' d' → MeetN s (n + 1) (z :: stk) mk d stk' mk' d'
  | exp {n z ws stk mk d stk' mk' d'} : z ≠ s → stk.length ≤ 2000 → pick_ z s = some ws → MeetN s n (ws ++ stk) mk d stk' mk' d' → MeetN s (n + 1) (z :: stk) mk d stk' mk' d'
theorem MeetN.le {s n stk mk d stk' mk' d'} (h : MeetN s n stk mk d stk' mk' d') : wtm mk ≤ wtm mk' := by
  induction h with
  | hit => exact Nat.le_refl _
  | act _ a _ ih => exact Nat.le_trans a.le ih
  | exp _ _ _ _ ih => exact ih
def UPS : List Str := ["let", "if", "case", "("]
def DNS : List Str := [")", "end"]
def WDS : List Str := ["face", "use", "as", "open", "hiding", "kind", "def", "in", "then", "else", "of", ",", ".", "..", "=", "==", ":", ";", "|", "->", "_"]
/-- the row is read to its end, and gives the tree t -/
inductive Eat (t : PyData) : List Str → List Str → List (List PyData) → Int → Prop
  | fin {xs d} : t = .tuple xs → Eat t [] [">"] [xs, []] d
  | act {z zs y stk mk d mk1 d1} : ActP y mk d mk1 d1 → Eat t (z :: zs) stk mk1 d1 → Eat t (z :: zs) (y :: stk) mk d
  | exp {z zs y ws stk mk d} : stk.length ≤ 2000 → pick_ y (termOf z) = some ws → Eat t (z :: zs) (ws ++ stk) mk d → Eat t (z :: zs) (y :: stk) mk d
  | nm {z zs stk top mk d} : z ∈ SMALLN → d ≤ 60 → Eat t zs stk ((top ++ [.str z]) :: mk) d → Eat t (z :: zs) ("name" :: stk) (top :: mk) d
  | Nm {z zs stk top mk d} : z ∈ GREATN → d ≤ 60 → Eat t zs stk ((top ++ [.str z]) :: mk) d → Eat t (z :: zs) ("Name" :: stk) (top :: mk) d
  | up {z zs stk mk d} : z ∈ UPS → d ≤ 60 → Eat t zs stk mk (d + 1) → Eat t (z :: zs) (z :: stk) mk d
  | dn {z zs stk mk d} : z ∈ DNS → d + 1 ≤ 60 → Eat t zs stk mk d → Eat t (z :: zs) (z :: stk) mk (d + 1)
  | wd {z zs stk mk d} : z ∈ WDS → d ≤ 60 → Eat t zs stk mk d → Eat t (z :: zs) (z :: stk) mk d
theorem Eat.le {t zs stk mk d} (h : Eat t zs stk mk d) : wtm mk ≤ 1 + (1 + wt t) := by
  induction h with
  | fin e => subst e; simp only [wtm, wts, wt_tup]; omega
  | act a _ ih => exact Nat.le_trans a.le ih
  | exp _ _ _ ih => exact ih
  | nm _ _ _ ih => simp only [wtm, wts, wt_str, wts_app] at ih ⊢; omega
  | Nm _ _ _ ih => simp only [wtm, wts, wt_str, wts_app] at ih ⊢; omega
  | up _ _ _ ih => exact ih
  | dn _ _ _ ih => exact ih
  | wd _ _ _ ih => exact ih
theorem Eat.toks {t zs stk mk d} (h : Eat t zs stk mk d) : ∀ z ∈ zs, TokOk z := by
  have hU : ∀ z ∈ UPS, TokOk z := by unfold TokOk; decide
  have hD : ∀ z ∈ DNS, TokOk z := by unfold TokOk; decide
  have hW : ∀ z ∈ WDS, TokOk z := by unfold TokOk; decide
  induction h with
  | fin e => exact fun z h => nomatch h
  | act a _ ih => exact ih
  | exp _ _ _ ih => exact ih
  | nm hz _ _ ih => exact fun z h => (List.mem_cons.mp h).elim (fun e => e ▸ by unfold TokOk; simp only [List.mem_append]; exact .inl (.inl (.inl hz))) (ih z)
  | Nm hz _ _ ih => exact fun z h => (List.mem_cons.mp h).elim (fun e => e ▸ by unfold TokOk; simp only [List.mem_append]; exact .inl (.inl (.inr hz))) (ih z)
  | up hz _ _ ih => exact fun z h => (List.mem_cons.mp h).elim (fun e => e ▸ hU _ hz) (ih z)
  | dn hz _ _ ih => exact fun z h => (List.mem_cons.mp h).elim (fun e => e ▸ hD _ hz) (ih z)
  | wd hz _ _ ih => exact fun z h => (List.mem_cons.mp h).elim (fun e => e ▸ hW _ hz) (ih z)
end K16

namespace K16
open PySem PySem.Spec PyProof.Rows L2 MM
/-! ### rows that are eaten: lists, names, forms -/
variable {t : PyData}
local macro_rules | `(tactic| walk_at "l") => `(tactic| first | omega | ((try simp only [List.length_cons, List.length_append, List.length_nil, List.append_eq]); omega) | (simp; omega))
theorem eUp {z zs stk mk d} (h : Eat t zs stk mk (d + 1)) (hd : d ≤ 60) (hz : z ∈ UPS := by decide +kernel) : Eat t (z :: zs) (z :: stk) mk d := .up hz hd h
theorem eDn {z zs stk mk d} (h : Eat t zs stk mk d) (hd : d + 1 ≤ 60) (hz : z ∈ DNS := by decide +kernel) : Eat t (z :: zs) (z :: stk) mk (d + 1) := .dn hz hd h
theorem eWd {z zs stk mk d} (h : Eat t zs stk mk d) (hd : d ≤ 60) (hz : z ∈ WDS := by decide +kernel) : Eat t (z :: zs) (z :: stk) mk d := .wd hz hd h
theorem mem_look {α : Type} {y : Str} {x : α} : ∀ {l : List (Str × α)}, l.lookup y = some x → (y, x) ∈ l
  | [], h => nomatch h
  | (a, b) :: l, h => by
    rw [List.lookup_cons] at h
    split at h
    · rename_i e
      have e : y = a := by simpa using e
      cases h
      subst e
      exact List.mem_cons_self
    · exact List.mem_cons_of_mem _ (mem_look h)
theorem eAdd {y x z zs stk top mk d} (h : Eat t (z :: zs) stk ((top ++ [x]) :: mk) d) (hy : ADDS.lookup y = some x := by rfl) : Eat t (z :: zs) (y :: stk) (top :: mk) d := .act (.add (mem_look hy)) h
theorem eIns {y x z zs stk top mk d} (h : Eat t (z :: zs) stk ((.str x :: top) :: mk) d) (hy : INSS.lookup y = some x := by rfl) : Eat t (z :: zs) (y :: stk) (top :: mk) d := .act (.ins (mem_look hy)) h
theorem eOpn {z zs stk mk d} (h : Eat t (z :: zs) stk ([] :: mk) d) : Eat t (z :: zs) ("<" :: stk) mk d := .act .opn h
theorem eCls {z zs stk xs ys mk d} (h : Eat t (z :: zs) stk ((ys ++ [.tuple xs]) :: mk) d) : Eat t (z :: zs) (">" :: stk) (xs :: ys :: mk) d := .act .cls h
theorem eOut {z zs stk mk d} (h : Eat t (z :: zs) stk mk d) : Eat t (z :: zs) ("!out" :: stk) mk (d + 1) := .act .out h
theorem eSame {z zs stk a xs mk d} (h : Eat t (z :: zs) stk ([.str "same", a] :: xs :: mk) d) : Eat t (z :: zs) ("!same" :: stk) ((xs ++ [a]) :: mk) d := .act .same h
theorem eExp {y z zs stk mk d} (ws : List Str) {s : Str} (hs : termOf z = s) (hp : pick_ y s = some ws) (h : Eat t (z :: zs) (ws ++ stk) mk d) (hl : stk.length ≤ 2000 := by walk_at "l") : Eat t (z :: zs) (y :: stk) mk d := .exp hl (by rw [hs]; exact hp) h
theorem eX {y z zs stk mk d} {ws : List Str} (hp : pick_ y (termOf z) = some ws) (h : Eat t (z :: zs) (ws ++ stk) mk d) (hl : stk.length ≤ 2000 := by walk_at "l") : Eat t (z :: zs) (y :: stk) mk d := .exp hl hp h
theorem to_small {z : Str} (h : z ∈ SMALLN) : termOf z = "name" := by unfold termOf; rw [if_pos h]
theorem to_great {z : Str} (h : z ∈ GREATN) : termOf z = "Name" := by
  have : ∀ z ∈ GREATN, termOf z = "Name" := by decide +kernel
  exact this z h
/-- a list with a sign between its parts -/
theorem eat_list {E L sep close : Str} (h1 : PK L sep [sep, E, L]) (h2 : PK L close []) (w1 : sep ∈ WDS) (t1 : termOf sep = sep) (t2 : termOf close = close) (R : PyData → List Str → Prop) {dd : Int} (hdd : dd ≤ 60) {S : Nat} (hS : S ≤ 1990)
    (el : ∀ d r, R d r → ∀ y ys stk top mk, stk.length ≤ S + 1 → (y = sep ∨ y = close) → Eat t (y :: ys) stk ((top ++ [d]) :: mk) dd → Eat t (r ++ y :: ys) (E :: stk) (top :: mk) dd) :
    ∀ d ds r rs, R d r → All2 R ds rs → ∀ ys stk top mk, stk.length ≤ S → Eat t (close :: ys) stk ((top ++ d :: ds) :: mk) dd → Eat t (btw sep (r :: rs) ++ close :: ys) (E :: L :: stk) (top :: mk) dd := by
  intro d ds
  induction ds generalizing d with
  | nil =>
    intro r rs hr hrs ys stk top mk hl k
    cases hrs
    exact el d r hr close ys _ top mk (Nat.succ_le_succ hl) (.inr rfl) (eExp [] t2 h2 k)
  | cons d2 ds ih =>
    intro r rs hr hrs ys stk top mk hl k
    cases hrs with
    | cons hr2 hrs2 =>
      rename_i r2 rs2
      have e : btw sep (r :: r2 :: rs2) ++ close :: ys = r ++ sep :: (btw sep (r2 :: rs2) ++ close :: ys) := by
        show (r ++ sep :: btw sep (r2 :: rs2)) ++ close :: ys = _
        rw [List.append_assoc]; rfl
      rw [e]
      refine el d r hr sep _ _ top mk (Nat.succ_le_succ hl) (.inl rfl) (eExp [sep, E, L] t1 h1 (.wd w1 hdd ?_))
      refine ih d2 r2 rs2 hr2 hrs2 ys stk (top ++ [d]) mk hl ?_
      rw [List.append_assoc]
      exact k
/-! ### what the rules say -/
def FOLT : List Str := ["in", "then", "else", "of", "|", "end", ")", ",", ";"]
def FOLE : List Str := ("==" : Str) :: FOLT
def FOLM : List Str := ("(" : Str) :: FOLE
theorem folt_t : ∀ y ∈ FOLE, termOf y = y := by decide +kernel
theorem p_same : ∀ y ∈ FOLT, PK "SAME" y [] := by decide +kernel
theorem p_member : ∀ y ∈ FOLM, PK "MEMBER" y ["^", "^make", "MADE"] := by decide +kernel
theorem p_call : ∀ y ∈ FOLE, PK "CALL" y ["^name"] := by decide +kernel
theorem p_made : ∀ y ∈ FOLE, PK "MADE" y ["<", ">"] := by decide +kernel
theorem p_told : ∀ y ∈ (["(", "case", "name", "Name"] : List Str), PK "TOLD" y ["SIDE", "SAME"] := by decide +kernel
theorem p_let : PK "TOLD" "let" ["<", "'let", "let", "name", "=", "TOLD", "in", "TOLD", "!out", ">"] := by decide +kernel
theorem p_if : PK "TOLD" "if" ["<", "'if", "if", "TOLD", "then", "TOLD", "else", "TOLD", "!out", ">"] := by decide +kernel
theorem p_same2 : PK "SAME" "==" ["!same", "==", "SIDE", ">"] := by decide +kernel
theorem p_side1 : PK "SIDE" "(" ["(", "TOLD", ")"] := by decide +kernel
theorem p_side2 : PK "SIDE" "case" ["<", "'case", "case", "TOLD", "of", "<", "ARM", "ARMS", ">", "end", ">"] := by decide +kernel
theorem p_side3 : PK "SIDE" "name" ["<", "'", "name", "CALL", ">"] := by decide +kernel
theorem p_side4 : PK "SIDE" "Name" ["<", "Name", "MEMBER", ">"] := by decide +kernel
theorem p_member2 : PK "MEMBER" "." [".", "DOTTED"] := by decide +kernel
theorem p_dot1 : PK "DOTTED" "name" ["name", "CALL"] := by decide +kernel
theorem p_dot2 : PK "DOTTED" "Name" ["Name", "^make", "MADE"] := by decide +kernel
theorem p_call2 : PK "CALL" "(" ["^call", "<", "(", "TOLD", "TOLDS", ")", ">"] := by decide +kernel
theorem p_made2 : PK "MADE" "(" ["<", "(", "TOLD", "TOLDS", ")", ">"] := by decide +kernel
theorem p_arm : ∀ y ∈ (["_", "name", "Name"] : List Str), PK "ARM" y ["<", "FORM", "->", "TOLD", ">"] := by decide +kernel
theorem p_form1 : PK "FORM" "_" ["<", "'any", "_", ">"] := by decide +kernel
theorem p_form2 : PK "FORM" "name" ["<", "'bind", "name", ">"] := by decide +kernel
theorem p_form3 : PK "FORM" "Name" ["<", "Name", "MODULE", "^make", "FORMS", ">"] := by decide +kernel
theorem p_forms : ∀ y ∈ (["->", ",", ")"] : List Str), PK "FORMS" y ["<", ">"] := by decide +kernel
theorem p_forms2 : PK "FORMS" "(" ["<", "(", "FORM", "MORE_FORMS", ")", ">"] := by decide +kernel
theorem p_module : ∀ y ∈ (["(", "->", ",", ")", ";", "=", "|"] : List Str), PK "MODULE" y ["^"] := by decide +kernel
theorem p_module2 : PK "MODULE" "." [".", "Name"] := by decide +kernel
/-! ### All2 of the lists -/
theorem All2.imp {R S : PyData → List Str → Prop} (h : ∀ d r, R d r → S d r) : ∀ {ds rs}, All2 R ds rs → All2 S ds rs
  | [], _, .nil => .nil
  | _ :: _, _, .cons a b => .cons (h _ _ a) (All2.imp h b)
theorem forms_all {n} : ∀ {ps rs}, FormsR (n + 1) ps rs → All2 (FormR n) ps rs
  | [], _, .nil => .nil
  | _ :: _, _, .cons a b => .cons a (forms_all b)
theorem puts_all {n} : ∀ {ps rs}, PutsR (n + 1) ps rs → All2 (PutR n false) ps rs
  | [], _, .nil => .nil
  | _ :: _, _, .cons a b => .cons a (puts_all b)
def ArmR (n : Nat) (d : PyData) (r : List Str) : Prop := ∃ f e rf re, FormR 3 f rf ∧ PutR n false e re ∧ d = .tuple [f, e] ∧ r = rf ++ [("->" : Str)] ++ re
theorem arms_all {n} : ∀ {ps rs}, ArmsR n ps rs → All2 (ArmR n) ps rs
  | [], _, .nil => .nil
  | _ :: _, _, .cons a b c => .cons ⟨_, _, _, _, a, b, rfl, rfl⟩ (arms_all c)
/-! ### names and brackets -/
theorem inB_cons (r : List Str) (rs : List (List Str)) : inB (r :: rs) = ("(" : Str) :: (btw "," (r :: rs) ++ [(")" : Str)]) := by
  unfold inB
  rw [if_neg (by simp)]
  simp
theorem eat_inB {NT E L : Str} (h1 : PK NT "(" ["<", "(", E, L, ")", ">"]) (l1 : PK L "," [",", E, L]) (l2 : PK L ")" []) (R : PyData → List Str → Prop) {dd : Int} (hdd : dd + 1 ≤ 60) {S : Nat} (hS : S ≤ 1990)
    (el : ∀ d r, R d r → ∀ (y : Str) ys stk top mk, stk.length ≤ S + 1 → (y = "," ∨ y = ")") → Eat t (y :: ys) stk ((top ++ [d]) :: mk) (dd + 1) → Eat t (r ++ y :: ys) (E :: stk) (top :: mk) (dd + 1))
    {ps : List PyData} {rs : List (List Str)} (h : All2 R ps rs) {y : Str} {ys stk : List Str} {top : List PyData} {mk : List (List PyData)} (h2 : ps = [] → PK NT (termOf y) ["<", ">"]) (hl : stk.length + 2 ≤ S)
    (k : Eat t (y :: ys) stk ((top ++ [.tuple ps]) :: mk) dd) : Eat t (inB rs ++ y :: ys) (NT :: stk) (top :: mk) dd := by
  cases h with
  | nil => exact eX (h2 rfl) (eOpn (eCls k))
  | cons a b =>
    rw [inB_cons]
    show Eat t ("(" :: ((btw "," _ ++ [(")" : Str)]) ++ y :: ys)) _ _ _
    rw [List.append_assoc]
    refine eExp _ (s := "(") (by decide +kernel) h1 (eOpn (eUp ?_ (by omega)))
    exact eat_list l1 l2 (by decide +kernel) (by decide +kernel) (by decide +kernel) R hdd hS el _ _ _ _ a b _ _ [] _ hl (eDn (eCls k) hdd)
/-- what stands behind: the first sign, then the rest -/
theorem inB_head (rs : List (List Str)) (y : Str) (ys : List Str) : ∃ z zs, inB rs ++ y :: ys = z :: zs ∧ (z = "(" ∨ z = y) := by
  cases rs with
  | nil => exact ⟨y, ys, rfl, .inr rfl⟩
  | cons r rs => rw [inB_cons]; exact ⟨_, _, rfl, .inl rfl⟩
theorem eat_module {mo nm y : Str} {ys stk : List Str} {mk : List (List PyData)} {d : Int} (hm : ModS mo) (hn : nm ∈ GREATN) (hd : d ≤ 60) (hy : PK "MODULE" (termOf y) ["^"]) (hl : stk.length ≤ 1990)
    (k : Eat t (y :: ys) stk ([.str mo, .str nm] :: mk) d) : Eat t (dot mo nm ++ y :: ys) ("Name" :: "MODULE" :: stk) ([] :: mk) d := by
  unfold dot
  by_cases e : mo = ""
  · rw [if_pos e]
    subst e
    exact .Nm hn hd (eX hy (eIns k))
  · rw [if_neg e]
    have hg : mo ∈ GREATN := hm.resolve_left e
    exact .Nm hg hd (eExp _ (s := ".") (by decide +kernel) p_module2 (eWd (.Nm hn hd k) hd))
/-! ### forms -/
theorem FormR.make_or {n ps rs} (h : FormsR n ps rs) : (ps = [] ∧ rs = []) ∨ ∃ j, n = j + 1 := by
  cases h with
  | nil => exact .inl ⟨rfl, rfl⟩
  | cons a b => exact .inr ⟨_, rfl⟩
theorem dot_head {mo nm : Str} (hm : ModS mo) : ∃ z zs, dot mo nm = z :: zs ∧ (z = nm ∨ z ∈ GREATN) := by
  unfold dot
  by_cases e : mo = ""
  · rw [if_pos e]; exact ⟨_, _, rfl, .inl rfl⟩
  · rw [if_neg e]; exact ⟨_, _, rfl, .inr (hm.resolve_left e)⟩
def FORMF : List Str := ["->", ",", ")"]
theorem formf_mod : ∀ y ∈ FORMF, PK "MODULE" (termOf y) ["^"] := by decide +kernel
theorem formf_forms : ∀ y ∈ FORMF, PK "FORMS" (termOf y) ["<", ">"] := by decide +kernel
def ClF (t : PyData) (n : Nat) (d : PyData) (r : List Str) : Prop := (∃ z zs, r = z :: zs ∧ termOf z ∈ (["_", "name", "Name"] : List Str)) ∧ ∀ y ys stk top mk (dd : Int), y ∈ FORMF → dd + (n + 1 : Nat) ≤ 60 → stk.length + 20 * n + 20 ≤ 1990 → Eat t (y :: ys) stk ((top ++ [d]) :: mk) dd → Eat t (r ++ y :: ys) ("FORM" :: stk) (top :: mk) dd
theorem dot_term {mo nm : Str} (hm : ModS mo) (hn : nm ∈ GREATN) : ∃ z zs, dot mo nm = z :: zs ∧ termOf z = "Name" := by
  obtain ⟨z, zs, e, h⟩ := dot_head (nm := nm) hm
  exact ⟨z, zs, e, h.elim (fun e => e ▸ to_great hn) to_great⟩
theorem eat_form1 {n : Nat} (ih : ∀ j, n = j + 1 → ∀ d r, FormR j d r → ClF t j d r) {d : PyData} {r : List Str} (h : FormR n d r) : ClF t n d r := by
  cases h with
  | any => exact ⟨⟨"_", [], rfl, by decide +kernel⟩, fun y ys stk top mk dd hy hd hl k => eExp _ (s := "_") (by decide +kernel) p_form1 (eOpn (eAdd (eWd (eCls k) (by omega))))⟩
  | bind hz => exact ⟨⟨_, [], rfl, by rw [to_small hz]; decide⟩, fun y ys stk top mk dd hy hd hl k => eExp _ (to_small hz) p_form2 (eOpn (eAdd (.nm hz (by omega) (eCls k))))⟩
  | make hm hn h3 hf =>
    rename_i mo nm ps rs
    obtain ⟨z, zs, ez, tz⟩ := dot_term hm hn
    refine ⟨⟨z, zs ++ inB rs, by rw [ez]; rfl, by rw [tz]; decide⟩, fun y ys stk top mk dd hy hd hl k => ?_⟩
    have hd0 : dd + 1 ≤ 60 := by omega
    have hR : All2 (fun d r => ∃ j, n = j + 1 ∧ FormR j d r) ps rs := by
      rcases FormR.make_or hf with ⟨rfl, rfl⟩ | ⟨j, rfl⟩
      · exact .nil
      · exact All2.imp (fun d r h => ⟨j, rfl, h⟩) (forms_all hf)
    have e : dot mo nm ++ inB rs ++ y :: ys = z :: (zs ++ inB rs ++ y :: ys) := by rw [ez]; simp
    rw [e]
    refine eExp _ tz p_form3 (eOpn ?_)
    have e2 : z :: (zs ++ inB rs ++ y :: ys) = dot mo nm ++ (inB rs ++ y :: ys) := by rw [ez]; simp
    rw [e2]
    obtain ⟨y2, ys2, e3, h3⟩ := inB_head rs y ys
    have hy2 : PK "MODULE" (termOf y2) ["^"] := by
      rcases h3 with rfl | rfl
      · decide +kernel
      · exact formf_mod _ hy
    rw [e3]
    refine eat_module hm hn (by omega) hy2 (by walk_at "l") (eIns ?_)
    rw [← e3]
    refine eat_inB (S := stk.length + 10) p_forms2 (by decide +kernel) (by decide +kernel) _ hd0 (by omega) (fun d r hr y ys stk' top mk hl2 hy k => ?_) hR (fun _ => formf_forms y hy) (by walk_at "l") (eCls k)
    obtain ⟨j, rfl, hr⟩ := hr
    exact (ih j rfl d r hr).2 y ys stk' top mk (dd + 1) (by rcases hy with rfl | rfl <;> decide +kernel) (by omega) (by omega) k
theorem eat_form : ∀ n d r, FormR n d r → ClF t n d r := by
  intro n
  induction n with
  | zero => exact fun d r h => eat_form1 (fun j e => absurd e (Nat.succ_ne_zero j).symm) h
  | succ n ih => exact fun d r h => eat_form1 (fun j e => by cases e; exact ih) h
end K16

namespace K16
open PySem PySem.Spec PyProof.Rows L2 MM
/-! ### tolds -/
variable {t : PyData}
local macro_rules | `(tactic| walk_at "l") => `(tactic| first | omega | ((try simp only [List.length_cons, List.length_append, List.length_nil, List.append_eq]); omega) | (simp; omega))
/-- a told where a told is due -/
def ClT (t : PyData) (n : Nat) (d : PyData) (r : List Str) : Prop := ∀ y ys stk top mk (dd : Int), y ∈ FOLT → dd + (4 * n + 5 : Nat) ≤ 60 → stk.length + 40 * n + 71 ≤ 1990 → Eat t (y :: ys) stk ((top ++ [d]) :: mk) dd → Eat t (r ++ y :: ys) ("TOLD" :: stk) (top :: mk) dd
/-- a told where a side is due -/
def ClS (t : PyData) (n : Nat) (d : PyData) (r : List Str) : Prop := (∃ z zs, r = z :: zs ∧ termOf z ∈ (["(", "case", "name", "Name"] : List Str)) ∧
  ∀ y ys stk top mk (dd : Int), y ∈ FOLE → dd + (4 * n + 5 : Nat) ≤ 60 → stk.length + 40 * n + 70 ≤ 1990 → Eat t (y :: ys) stk ((top ++ [d]) :: mk) dd → Eat t (r ++ y :: ys) ("SIDE" :: stk) (top :: mk) dd
theorem folt_term {y : Str} (h : y ∈ FOLT) : termOf y = y := folt_t y (List.mem_cons_of_mem _ h)
theorem told_of_side {n d r} (h : ClS t n d r) : ClT t n d r := by
  intro y ys stk top mk dd hy hd hl k
  obtain ⟨⟨z, zs, e, hz⟩, h⟩ := h
  have e2 : r ++ y :: ys = z :: (zs ++ y :: ys) := by rw [e]; rfl
  rw [e2]
  refine eX (p_told _ hz) ?_
  rw [← e2]
  exact h y ys _ top mk dd (List.mem_cons_of_mem _ hy) hd (by walk_at "l") (eExp [] (folt_term hy) (p_same y hy) k)
/-- brackets around -/
theorem side_br {n : Nat} {d : PyData} {r : List Str} (q : Nat) (h : ∀ y ys stk top mk (dd : Int), y ∈ FOLT → dd + (q + 4 * n + 5 : Nat) ≤ 60 → stk.length + 2 * q + 40 * n + 75 ≤ 1990 → Eat t (y :: ys) stk ((top ++ [d]) :: mk) dd → Eat t (r ++ y :: ys) ("TOLD" :: stk) (top :: mk) dd) :
    (∃ z zs, [("(" : Str)] ++ r ++ [(")" : Str)] = z :: zs ∧ termOf z ∈ (["(", "case", "name", "Name"] : List Str)) ∧
    ∀ y ys stk top mk (dd : Int), y ∈ FOLE → dd + (q + 1 + 4 * n + 5 : Nat) ≤ 60 → stk.length + 2 * q + 40 * n + 76 ≤ 1990 → Eat t (y :: ys) stk ((top ++ [d]) :: mk) dd → Eat t (([("(" : Str)] ++ r ++ [(")" : Str)]) ++ y :: ys) ("SIDE" :: stk) (top :: mk) dd := by
  refine ⟨⟨"(", r ++ [(")" : Str)], rfl, by decide +kernel⟩, fun y ys stk top mk dd hy hd hl k => ?_⟩
  have e : ([("(" : Str)] ++ r ++ [(")" : Str)]) ++ y :: ys = ("(" : Str) :: (r ++ (")" : Str) :: (y :: ys)) := by simp
  rw [e]
  refine eExp _ (s := "(") (by decide +kernel) p_side1 (eUp ?_ (by omega))
  exact h ")" (y :: ys) _ top mk (dd + 1) (by decide +kernel) (by omega) (by walk_at "l") (eDn k (by omega))
theorem told_of_side2 {q n : Nat} {d : PyData} {r : List Str} (h : (∃ z zs, r = z :: zs ∧ termOf z ∈ (["(", "case", "name", "Name"] : List Str)) ∧
    ∀ y ys stk top mk (dd : Int), y ∈ FOLE → dd + (q + 4 * n + 5 : Nat) ≤ 60 → stk.length + 2 * q + 40 * n + 74 ≤ 1990 → Eat t (y :: ys) stk ((top ++ [d]) :: mk) dd → Eat t (r ++ y :: ys) ("SIDE" :: stk) (top :: mk) dd) :
    ∀ y ys stk top mk (dd : Int), y ∈ FOLT → dd + (q + 4 * n + 5 : Nat) ≤ 60 → stk.length + 2 * q + 40 * n + 75 ≤ 1990 → Eat t (y :: ys) stk ((top ++ [d]) :: mk) dd → Eat t (r ++ y :: ys) ("TOLD" :: stk) (top :: mk) dd := by
  intro y ys stk top mk dd hy hd hl k
  obtain ⟨⟨z, zs, e, hz⟩, h⟩ := h
  have e2 : r ++ y :: ys = z :: (zs ++ y :: ys) := by rw [e]; rfl
  rw [e2]
  refine eX (p_told _ hz) ?_
  rw [← e2]
  exact h y ys _ top mk dd (List.mem_cons_of_mem _ hy) hd (by walk_at "l") (eExp [] (folt_term hy) (p_same y hy) k)
theorem rep_br (q : Nat) (r : List Str) : List.replicate (q + 1) ("(" : Str) ++ r ++ List.replicate (q + 1) (")" : Str) = [("(" : Str)] ++ (List.replicate q ("(" : Str) ++ r ++ List.replicate q (")" : Str)) ++ [(")" : Str)] := by
  have e : List.replicate (q + 1) (")" : Str) = List.replicate q (")" : Str) ++ [(")" : Str)] := List.replicate_succ'
  rw [e, List.replicate_succ]
  simp
theorem told_br {n : Nat} {d : PyData} {r : List Str} (h : ClT t n d r) : ∀ q y ys stk top mk (dd : Int), y ∈ FOLT → dd + (q + 4 * n + 5 : Nat) ≤ 60 → stk.length + 2 * q + 40 * n + 75 ≤ 1990 → Eat t (y :: ys) stk ((top ++ [d]) :: mk) dd → Eat t ((List.replicate q ("(" : Str) ++ r ++ List.replicate q (")" : Str)) ++ y :: ys) ("TOLD" :: stk) (top :: mk) dd := by
  intro q
  induction q with
  | zero =>
    intro y ys stk top mk dd hy hd hl k
    have e : (List.replicate 0 ("(" : Str) ++ r ++ List.replicate 0 (")" : Str)) ++ y :: ys = r ++ y :: ys := by simp
    rw [e]
    exact h y ys stk top mk dd hy (by omega) (by omega) k
  | succ q ih =>
    rw [rep_br]
    obtain ⟨h1, h2⟩ := side_br q ih
    exact told_of_side2 ⟨h1, fun y ys stk top mk dd hy hd hl k => h2 y ys stk top mk dd hy (by omega) (by omega) k⟩
/-- what a bare told is -/
def ClB (t : PyData) (n : Nat) (xs : List PyData) (r : List Str) : Prop := ∀ s, atI xs 0 = some (.str s) → ClT t n (.tuple xs) r ∧ (¬ opn s → ClS t n (.tuple xs) r)
theorem put_of_bare {n : Nat} (hb : ∀ xs r, BareR n (.tuple xs) r → ClB t n xs r) {side d r} (h : PutR n side d r) :
    (∀ y ys stk top mk (dd : Int), y ∈ FOLT → dd + (4 * n + 8 : Nat) ≤ 60 → stk.length + 40 * n + 90 ≤ 1990 → Eat t (y :: ys) stk ((top ++ [d]) :: mk) dd → Eat t (r ++ y :: ys) ("TOLD" :: stk) (top :: mk) dd) ∧
    (side = true → (∃ z zs, r = z :: zs ∧ termOf z ∈ (["(", "case", "name", "Name"] : List Str)) ∧
      ∀ y ys stk top mk (dd : Int), y ∈ FOLE → dd + (4 * n + 8 : Nat) ≤ 60 → stk.length + 40 * n + 90 ≤ 1990 → Eat t (y :: ys) stk ((top ++ [d]) :: mk) dd → Eat t (r ++ y :: ys) ("SIDE" :: stk) (top :: mk) dd) := by
  cases h with
  | mk q hs hr hq ho =>
    obtain ⟨bt, bs⟩ := hb _ _ hr _ hs
    refine ⟨fun y ys stk top mk dd hy hd hl k => told_br bt q y ys stk top mk dd hy (by omega) (by omega) k, fun hside => ?_⟩
    cases q with
    | zero =>
      have no : ¬ opn _ := fun o => absurd (ho hside o) (by decide +kernel)
      obtain ⟨⟨z, zs, e, hz⟩, h⟩ := bs no
      have e0 : ∀ r : List Str, List.replicate 0 ("(" : Str) ++ r ++ List.replicate 0 (")" : Str) = r := fun r => by simp
      rw [e0]
      exact ⟨⟨z, zs, e, hz⟩, fun y ys stk top mk dd hy hd hl k => h y ys stk top mk dd hy (by omega) (by omega) k⟩
    | succ q =>
      rw [rep_br]
      obtain ⟨h1, h2⟩ := side_br q (told_br bt q)
      exact ⟨h1, fun y ys stk top mk dd hy hd hl k => h2 y ys stk top mk dd hy (by omega) (by omega) k⟩
end K16

namespace K16
open PySem PySem.Spec PyProof.Rows L2 MM
variable {t : PyData}
local macro_rules | `(tactic| walk_at "l") => `(tactic| first | omega | ((try simp only [List.length_cons, List.length_append, List.length_nil, List.append_eq]); omega) | (simp; omega))
theorem eat_callee {mo nm y : Str} {ys stk : List Str} {top : List PyData} {mk : List (List PyData)} {d : Int} (hm : ModS mo) (hn : nm ∈ SMALLN) (hd : d ≤ 60) (hl : stk.length ≤ 1990)
    (k : Eat t (y :: ys) ("CALL" :: ">" :: stk) ([.str mo, .str nm] :: top :: mk) d) : Eat t (dot mo nm ++ y :: ys) ("SIDE" :: stk) (top :: mk) d := by
  unfold dot
  by_cases e : mo = ""
  · rw [if_pos e]
    subst e
    exact eExp _ (to_small hn) p_side3 (eOpn (eAdd (.nm hn hd k)))
  · rw [if_neg e]
    have hg : mo ∈ GREATN := hm.resolve_left e
    exact eExp _ (to_great hg) p_side4 (eOpn (.Nm hg hd (eExp _ (s := ".") (by decide +kernel) p_member2 (eWd (eExp _ (to_small hn) p_dot1 (.nm hn hd k)) hd))))
theorem eat_maker {mo nm y : Str} {ys stk : List Str} {top : List PyData} {mk : List (List PyData)} {d : Int} (hm : ModS mo) (hn : nm ∈ GREATN) (hd : d ≤ 60) (hy : PK "MEMBER" (termOf y) ["^", "^make", "MADE"]) (hl : stk.length ≤ 1990)
    (k : Eat t (y :: ys) ("MADE" :: ">" :: stk) ([.str "make", .str mo, .str nm] :: top :: mk) d) : Eat t (dot mo nm ++ y :: ys) ("SIDE" :: stk) (top :: mk) d := by
  unfold dot
  by_cases e : mo = ""
  · rw [if_pos e]
    subst e
    exact eExp _ (to_great hn) p_side4 (eOpn (.Nm hn hd (eX hy (eIns (eIns k)))))
  · rw [if_neg e]
    have hg : mo ∈ GREATN := hm.resolve_left e
    exact eExp _ (to_great hg) p_side4 (eOpn (.Nm hg hd (eExp _ (s := ".") (by decide +kernel) p_member2 (eWd (eExp _ (to_great hn) p_dot2 (.Nm hn hd (eIns k))) hd))))
theorem dot_small {mo nm : Str} (hm : ModS mo) (hn : nm ∈ SMALLN) : ∃ z zs, dot mo nm = z :: zs ∧ termOf z ∈ (["(", "case", "name", "Name"] : List Str) := by
  obtain ⟨z, zs, e, h⟩ := dot_head (nm := nm) hm
  exact ⟨z, zs, e, h.elim (fun e => by rw [e, to_small hn]; decide) (fun h => by rw [to_great h]; decide)⟩
theorem dot_great {mo nm : Str} (hm : ModS mo) (hn : nm ∈ GREATN) : ∃ z zs, dot mo nm = z :: zs ∧ termOf z ∈ (["(", "case", "name", "Name"] : List Str) := by
  obtain ⟨z, zs, e, h⟩ := dot_term hm hn
  exact ⟨z, zs, e, by rw [h]; decide⟩
theorem head_app {r : List Str} {L : List Str} (s : List Str) (h : ∃ z zs, r = z :: zs ∧ termOf z ∈ L) : ∃ z zs, r ++ s = z :: zs ∧ termOf z ∈ L := by
  obtain ⟨z, zs, e, hz⟩ := h
  exact ⟨z, zs ++ s, by rw [e]; rfl, hz⟩
theorem PutsR.or {n ps rs} (h : PutsR n ps rs) : (ps = [] ∧ rs = []) ∨ ∃ j, n = j + 1 := by
  cases h with
  | nil => exact .inl ⟨rfl, rfl⟩
  | cons a b => exact .inr ⟨_, rfl⟩
theorem side_mem : ∀ y ∈ FOLE, PK "MEMBER" (termOf y) ["^", "^make", "MADE"] := by decide +kernel
theorem side_made : ∀ y ∈ FOLE, PK "MADE" (termOf y) ["<", ">"] := by decide +kernel
theorem side_call : ∀ y ∈ FOLE, PK "CALL" (termOf y) ["^name"] := by decide +kernel
theorem both {n xs r s} (h : ClS t n (.tuple xs) r) : ClT t n (.tuple xs) r ∧ (¬ opn s → ClS t n (.tuple xs) r) := ⟨told_of_side h, fun _ => h⟩
/-- the IH in use: the tolds one level below -/
abbrev PutC (t : PyData) (j : Nat) : Prop := ∀ side d r, PutR j side d r →
    (∀ y ys stk top mk (dd : Int), y ∈ FOLT → dd + (4 * j + 8 : Nat) ≤ 60 → stk.length + 40 * j + 90 ≤ 1990 → Eat t (y :: ys) stk ((top ++ [d]) :: mk) dd → Eat t (r ++ y :: ys) ("TOLD" :: stk) (top :: mk) dd) ∧
    (side = true → (∃ z zs, r = z :: zs ∧ termOf z ∈ (["(", "case", "name", "Name"] : List Str)) ∧
      ∀ y ys stk top mk (dd : Int), y ∈ FOLE → dd + (4 * j + 8 : Nat) ≤ 60 → stk.length + 40 * j + 90 ≤ 1990 → Eat t (y :: ys) stk ((top ++ [d]) :: mk) dd → Eat t (r ++ y :: ys) ("SIDE" :: stk) (top :: mk) dd)
theorem eat_call {n : Nat} (ih : ∀ j, n = j + 1 → PutC t j) {mo nm : Str} {ts : List PyData} {rows : List (List Str)} (hm : ModS mo) (hn : nm ∈ SMALLN) (h0 : 0 < ts.length) (hp : PutsR n ts rows) : ClS t n (.tuple [.str "call", .str mo, .str nm, .tuple ts]) (dot mo nm ++ inB rows) := by
  refine ⟨head_app _ (dot_small hm hn), fun y ys stk top mk dd hy hd hl k => ?_⟩
  rcases PutsR.or hp with ⟨rfl, rfl⟩ | ⟨j, rfl⟩
  · cases h0
  · cases puts_all hp with
    | nil => cases h0
    | cons a b =>
      rw [inB_cons, List.append_assoc]
      refine eat_callee hm hn (by omega) (by omega) (eExp _ (s := "(") (by decide +kernel) p_call2 (eIns (eOpn (eUp ?_ (by omega)))))
      show Eat t ((btw "," _ ++ [(")" : Str)]) ++ y :: ys) _ _ _
      rw [List.append_assoc]
      refine eat_list (S := stk.length + 5) (by decide +kernel) (by decide +kernel) (by decide +kernel) (by decide +kernel) (by decide +kernel) (PutR j false) (by omega) (by omega) (fun d r hr y ys stk' top mk hl2 hy k => ?_) _ _ _ _ a b _ _ [] _ (by walk_at "l") (eDn (eCls (eCls k)) (by omega))
      exact (ih j rfl false d r hr).1 y ys stk' top mk (dd + 1) (by rcases hy with rfl | rfl <;> decide +kernel) (by omega) (by omega) k
theorem eat_make {n : Nat} (ih : ∀ j, n = j + 1 → PutC t j) {mo nm : Str} {ts : List PyData} {rows : List (List Str)} (hm : ModS mo) (hn : nm ∈ GREATN) (hp : PutsR n ts rows) : ClS t n (.tuple [.str "make", .str mo, .str nm, .tuple ts]) (dot mo nm ++ inB rows) := by
  refine ⟨head_app _ (dot_great hm hn), fun y ys stk top mk dd hy hd hl k => ?_⟩
  have hR : All2 (fun d r => ∃ j, n = j + 1 ∧ PutR j false d r) ts rows := by
    rcases PutsR.or hp with ⟨rfl, rfl⟩ | ⟨j, rfl⟩
    · exact .nil
    · exact All2.imp (fun d r h => ⟨j, rfl, h⟩) (puts_all hp)
  rw [List.append_assoc]
  obtain ⟨y2, ys2, e3, h3⟩ := inB_head rows y ys
  have hy2 : PK "MEMBER" (termOf y2) ["^", "^make", "MADE"] := by
    rcases h3 with rfl | rfl
    · decide +kernel
    · exact side_mem _ hy
  rw [e3]
  refine eat_maker hm hn (by omega) hy2 (by omega) ?_
  rw [← e3]
  refine eat_inB (S := stk.length + 5) p_made2 (by decide +kernel) (by decide +kernel) _ (by omega) (by omega) (fun d r hr y ys stk' top mk hl2 hy k => ?_) hR (fun _ => side_made y hy) (by walk_at "l") (eCls k)
  obtain ⟨j, rfl, hr⟩ := hr
  exact (ih j rfl false d r hr).1 y ys stk' top mk (dd + 1) (by rcases hy with rfl | rfl <;> decide +kernel) (by omega) (by omega) k
theorem eOpnL {l stk mk d} (hl : l ≠ []) (h : Eat t l stk ([] :: mk) d) : Eat t l ("<" :: stk) mk d := by
  cases l with
  | nil => exact absurd rfl hl
  | cons z zs => exact eOpn h
theorem eat_arm {n : Nat} (ih : PutC t n) {d : PyData} {r : List Str} (h : ArmR n d r) : ∀ y ys stk top mk (dd : Int), y ∈ FOLT → dd + (4 * n + 8 : Nat) ≤ 60 → stk.length + 40 * n + 95 ≤ 1990 → Eat t (y :: ys) stk ((top ++ [d]) :: mk) dd → Eat t (r ++ y :: ys) ("ARM" :: stk) (top :: mk) dd := by
  obtain ⟨f, e, rf, re, hf, he, rfl, rfl⟩ := h
  intro y ys stk top mk dd hy hd hl k
  obtain ⟨⟨z, zs, ez, hz⟩, kf⟩ := eat_form (t := t) 3 f rf hf
  have e1 : rf ++ [("->" : Str)] ++ re ++ y :: ys = z :: (zs ++ [("->" : Str)] ++ re ++ y :: ys) := by rw [ez]; simp
  rw [e1]
  refine eX (p_arm _ hz) (eOpn ?_)
  rw [← e1]
  have e2 : rf ++ [("->" : Str)] ++ re ++ y :: ys = rf ++ ("->" : Str) :: (re ++ y :: ys) := by simp
  rw [e2]
  refine kf "->" _ _ _ _ dd (by decide +kernel) (by omega) (by walk_at "l") (eWd ?_ (by omega))
  exact (ih false e re he).1 y ys _ _ _ dd hy hd (by walk_at "l") (eCls k)
theorem eat_case {n : Nat} (ih : PutC t n) {tt : PyData} {rt : List Str} {arms : List PyData} {rows : List (List Str)} (ht : PutR n false tt rt) (h0 : 0 < arms.length) (ha : ArmsR n arms rows) :
    ClS t (n + 1) (.tuple [.str "case", tt, .tuple arms]) ([("case" : Str)] ++ rt ++ [("of" : Str)] ++ btw "|" rows ++ [("end" : Str)]) := by
  refine ⟨⟨"case", rt ++ [("of" : Str)] ++ btw "|" rows ++ [("end" : Str)], by simp, by decide +kernel⟩, fun y ys stk top mk dd hy hd hl k => ?_⟩
  have e : [("case" : Str)] ++ rt ++ [("of" : Str)] ++ btw "|" rows ++ [("end" : Str)] ++ y :: ys = ("case" : Str) :: (rt ++ ("of" : Str) :: (btw "|" rows ++ ("end" : Str) :: (y :: ys))) := by simp
  rw [e]
  refine eExp _ (s := "case") (by decide +kernel) p_side2 (eOpn (eAdd (eUp ?_ (by omega))))
  refine (ih false tt rt ht).1 "of" _ _ _ _ (dd + 1) (by decide +kernel) (by omega) (by walk_at "l") (eWd (eOpnL (by simp) ?_) (by omega))
  have ha := arms_all ha
  cases ha with
  | nil => cases h0
  | cons a b =>
    refine eat_list (S := stk.length + 5) (by decide +kernel) (by decide +kernel) (by decide +kernel) (by decide +kernel) (by decide +kernel) (ArmR n) (by omega) (by omega) (fun d r hr y ys stk' top mk hl2 hy k => ?_) _ _ _ _ a b _ _ [] _ (by walk_at "l") (eCls (eDn (eCls k) (by omega)))
    exact eat_arm ih hr y ys stk' top mk (dd + 1) (by rcases hy with rfl | rfl <;> decide +kernel) (by omega) (by omega) k
theorem eat_let {n : Nat} (ih : PutC t n) {z : Str} {a b : PyData} {ra rb : List Str} (hz : z ∈ SMALLN) (ha : PutR n false a ra) (hb : PutR n false b rb) :
    ClT t (n + 1) (.tuple [.str "let", .str z, a, b]) ([("let" : Str), z, "="] ++ ra ++ [("in" : Str)] ++ rb) := by
  intro y ys stk top mk dd hy hd hl k
  have e : [("let" : Str), z, "="] ++ ra ++ [("in" : Str)] ++ rb ++ y :: ys = ("let" : Str) :: z :: ("=" : Str) :: (ra ++ ("in" : Str) :: (rb ++ y :: ys)) := by simp
  rw [e]
  refine eExp _ (s := "let") (by decide +kernel) p_let (eOpn (eAdd (eUp (.nm hz (by omega) (eWd ?_ (by omega))) (by omega))))
  refine (ih false a ra ha).1 "in" _ _ _ _ (dd + 1) (by decide +kernel) (by omega) (by walk_at "l") (eWd ?_ (by omega))
  exact (ih false b rb hb).1 y ys _ _ _ (dd + 1) hy (by omega) (by walk_at "l") (eOut (eCls k))
theorem eat_if {n : Nat} (ih : PutC t n) {a b c : PyData} {ra rb rc : List Str} (ha : PutR n false a ra) (hb : PutR n false b rb) (hc : PutR n false c rc) :
    ClT t (n + 1) (.tuple [.str "if", a, b, c]) ([("if" : Str)] ++ ra ++ [("then" : Str)] ++ rb ++ [("else" : Str)] ++ rc) := by
  intro y ys stk top mk dd hy hd hl k
  have e : [("if" : Str)] ++ ra ++ [("then" : Str)] ++ rb ++ [("else" : Str)] ++ rc ++ y :: ys = ("if" : Str) :: (ra ++ ("then" : Str) :: (rb ++ ("else" : Str) :: (rc ++ y :: ys))) := by simp
  rw [e]
  refine eExp _ (s := "if") (by decide +kernel) p_if (eOpn (eAdd (eUp ?_ (by omega))))
  refine (ih false a ra ha).1 "then" _ _ _ _ (dd + 1) (by decide +kernel) (by omega) (by walk_at "l") (eWd ?_ (by omega))
  refine (ih false b rb hb).1 "else" _ _ _ _ (dd + 1) (by decide +kernel) (by omega) (by walk_at "l") (eWd ?_ (by omega))
  exact (ih false c rc hc).1 y ys _ _ _ (dd + 1) hy (by omega) (by walk_at "l") (eOut (eCls k))
theorem eat_same {n : Nat} (ih : PutC t n) {a b : PyData} {ra rb : List Str} (ha : PutR n true a ra) (hb : PutR n true b rb) :
    ClT t (n + 1) (.tuple [.str "same", a, b]) (ra ++ [("==" : Str)] ++ rb) := by
  intro y ys stk top mk dd hy hd hl k
  obtain ⟨⟨z, zs, ez, hz⟩, ka⟩ := (ih true a ra ha).2 rfl
  obtain ⟨_, kb⟩ := (ih true b rb hb).2 rfl
  have e1 : ra ++ [("==" : Str)] ++ rb ++ y :: ys = z :: (zs ++ [("==" : Str)] ++ rb ++ y :: ys) := by rw [ez]; simp
  rw [e1]
  refine eX (p_told _ hz) ?_
  rw [← e1]
  have e2 : ra ++ [("==" : Str)] ++ rb ++ y :: ys = ra ++ ("==" : Str) :: (rb ++ y :: ys) := by simp
  rw [e2]
  refine ka "==" _ _ _ _ dd (by decide +kernel) (by omega) (by walk_at "l") (eExp _ (s := "==") (by decide +kernel) p_same2 (eSame (eWd ?_ (by omega))))
  exact kb y ys _ _ _ dd (List.mem_cons_of_mem _ hy) (by omega) (by walk_at "l") (eCls k)
theorem eat_bare {n : Nat} (ih : ∀ j, n = j + 1 → PutC t j) {xs : List PyData} {r : List Str} (h : BareR n (.tuple xs) r) : ClB t n xs r := by
  intro s hs
  generalize hd : PyData.tuple xs = d at h
  cases h with
  | name hm hn =>
    cases hd
    refine both ⟨dot_small hm hn, fun y ys stk top mk dd hy hd hl k => eat_callee hm hn (by omega) (by omega) ?_⟩
    exact eX (side_call _ hy) (eIns (eCls k))
  | let_ hz ha hb =>
    cases hd
    cases hs
    exact ⟨eat_let (ih _ rfl) hz ha hb, fun no => absurd (.inl rfl) no⟩
  | if_ ha hb hc =>
    cases hd
    cases hs
    exact ⟨eat_if (ih _ rfl) ha hb hc, fun no => absurd (.inr (.inl rfl)) no⟩
  | same ha hb =>
    cases hd
    cases hs
    exact ⟨eat_same (ih _ rfl) ha hb, fun no => absurd (.inr (.inr rfl)) no⟩
  | case_ ht h0 h3 ha => cases hd; exact both (eat_case (ih _ rfl) ht h0 ha)
  | call hm hn h0 h3 hp => cases hd; exact both (eat_call ih hm hn h0 hp)
  | make hm hn h3 hp => cases hd; exact both (eat_make ih hm hn hp)
theorem eat_put : ∀ n, PutC t n := by
  intro n
  induction n with
  | zero => exact fun side d r h => put_of_bare (fun xs r h => eat_bare (fun j e => absurd e (Nat.succ_ne_zero j).symm) h) h
  | succ n ih => exact fun side d r h => put_of_bare (fun xs r h => eat_bare (fun j e => by cases e; exact ih) h) h
end K16

namespace K16
open PySem PySem.Spec PyProof.Rows L2 MM
/-! ### items -/
variable {t : PyData}
local macro_rules | `(tactic| walk_at "l") => `(tactic| first | omega | ((try simp only [List.length_cons, List.length_append, List.length_nil, List.append_eq]); omega) | (simp; omega))
def OFF : List Str := [",", ")", "="]
theorem off_mod : ∀ y ∈ OFF, PK "MODULE" (termOf y) ["^"] := by decide +kernel
theorem off_col : ∀ y ∈ OFF, PK "COLON" (termOf y) ["'none"] := by decide +kernel
theorem eat_of {d : PyData} {r : List Str} (h : DotR d r) {y : Str} {ys stk : List Str} {top : List PyData} {mk : List (List PyData)} {dd : Int} (hy : y ∈ OFF) (hd : dd ≤ 60) (hl : stk.length ≤ 1900) (k : Eat t (y :: ys) stk ((top ++ [d]) :: mk) dd) : Eat t (r ++ y :: ys) ("OF" :: stk) (top :: mk) dd := by
  obtain ⟨mo, nm, hm, hn, rfl, rfl⟩ := h
  obtain ⟨z, zs, e, hz⟩ := dot_term hm hn
  have e2 : dot mo nm ++ y :: ys = z :: (zs ++ y :: ys) := by rw [e]; rfl
  rw [e2]
  refine eExp ["<", "Name", "MODULE", ">"] hz (by decide +kernel) (eOpn ?_)
  rw [← e2]
  exact eat_module hm hn hd (off_mod y hy) (by walk_at "l") (eCls k)
theorem eat_colon {o : PyData} (h : MaybeOf o) {y : Str} {ys stk : List Str} {top : List PyData} {mk : List (List PyData)} {dd : Int} (hy : y ∈ OFF) (hd : dd ≤ 60) (hl : stk.length ≤ 1900) (k : Eat t (y :: ys) stk ((top ++ [o]) :: mk) dd) : Eat t (ofR o ++ y :: ys) ("COLON" :: stk) (top :: mk) dd := by
  rcases h with rfl | ⟨mo, nm, rfl, hm, hn⟩
  · exact eX (off_col y hy) (eAdd k)
  · show Eat t (([(":" : Str)] ++ dot mo nm) ++ y :: ys) _ _ _
    exact eExp (z := ":") [":", "OF"] (s := ":") (by decide +kernel) (by decide +kernel) (eWd (eat_of ⟨mo, nm, hm, hn, rfl, rfl⟩ hy hd hl k) hd)
theorem eat_shown {d : PyData} {r : List Str} (h : ShownR d r) {y : Str} {ys stk : List Str} {top : List PyData} {mk : List (List PyData)} (hy : y = "," ∨ y = ";") (hl : stk.length ≤ 1900) (k : Eat t (y :: ys) stk ((top ++ [d]) :: mk) 0) : Eat t (r ++ y :: ys) ("SHOWN" :: stk) (top :: mk) 0 := by
  cases h with
  | name hz => exact eExp ["<", "'name", "name", ">"] (to_small hz) (by decide +kernel) (eOpn (eAdd (.nm hz (by decide +kernel) (eCls k))))
  | kind0 hz =>
    refine eExp ["<", "'kind", "Name", "MAKERS_TOO", ">"] (to_great hz) (by decide +kernel) (eOpn (eAdd (.Nm hz (by decide +kernel) ?_)))
    exact eX (ws := ["'0"]) (by rcases hy with rfl | rfl <;> decide +kernel) (eAdd (eCls k))
  | kind1 hz =>
    refine eExp ["<", "'kind", "Name", "MAKERS_TOO", ">"] (to_great hz) (by decide +kernel) (eOpn (eAdd (.Nm hz (by decide +kernel) ?_)))
    exact eExp (z := "(") ["(", "..", ")", "'1"] (s := "(") (by decide +kernel) (by decide +kernel) (eUp (eWd (eDn (eAdd (eCls k)) (by decide +kernel)) (by decide +kernel)) (by decide +kernel))
theorem eat_thing {d : PyData} {r : List Str} (h : ThingR d r) {y : Str} {ys stk : List Str} {top : List PyData} {mk : List (List PyData)} {dd : Int} (hd : dd ≤ 60) (hl : stk.length ≤ 1900) (k : Eat t (y :: ys) stk ((top ++ [d]) :: mk) dd) : Eat t (r ++ y :: ys) ("THING" :: stk) (top :: mk) dd := by
  obtain ⟨z, hz, rfl, rfl⟩ := h
  rcases hz with hz | hz
  · exact eExp ["name"] (to_small hz) (by decide +kernel) (.nm hz hd k)
  · exact eExp ["Name"] (to_great hz) (by decide +kernel) (.Nm hz hd k)
theorem eat_parts {d : PyData} {r : List Str} (h : MakerR d r) {y : Str} {ys stk : List Str} {top : List PyData} {mk : List (List PyData)} (hy : y = "|" ∨ y = ";") (hl : stk.length ≤ 1800) (k : Eat t (y :: ys) stk ((top ++ [d]) :: mk) 0) : Eat t (r ++ y :: ys) ("MAKER" :: stk) (top :: mk) 0 := by
  obtain ⟨z, os, rows, hz, h3, ha, rfl, rfl⟩ := h
  rw [List.append_assoc]
  refine eExp ["<", "Name", "PARTS", ">"] (to_great hz) (by decide +kernel) (eOpn (.Nm hz (by decide +kernel) ?_))
  refine eat_inB (NT := "PARTS") (E := "OF") (L := "OFS") (by decide +kernel) (by decide +kernel) (by decide +kernel) DotR (by decide +kernel) (S := 1850) (by omega) (fun d r hr y ys stk top mk hl2 hy k => ?_) ha (fun _ => by rcases hy with rfl | rfl <;> decide +kernel) (by walk_at "l") (eCls k)
  exact eat_of hr (by rcases hy with rfl | rfl <;> decide +kernel) (by decide +kernel) (by omega) k
theorem eat_given {d : PyData} {r : List Str} (h : GivenR d r) {y : Str} {ys stk : List Str} {top : List PyData} {mk : List (List PyData)} {dd : Int} (hd : dd ≤ 60) (hy : y = "," ∨ y = ")") (hl : stk.length ≤ 1800) (k : Eat t (y :: ys) stk ((top ++ [d]) :: mk) dd) : Eat t (r ++ y :: ys) ("GIVEN" :: stk) (top :: mk) dd := by
  obtain ⟨z, o, hz, ho, rfl, rfl⟩ := h
  rw [List.append_assoc]
  refine eExp ["<", "name", "COLON", ">"] (to_small hz) (by decide +kernel) (eOpn (.nm hz hd ?_))
  exact eat_colon ho (by rcases hy with rfl | rfl <;> decide +kernel) hd (by walk_at "l") (eCls k)
theorem ofR_head (o : PyData) (h : MaybeOf o) (y : Str) (ys : List Str) : ∃ z zs, ofR o ++ y :: ys = z :: zs ∧ (z = ":" ∨ z = y) := by
  rcases h with rfl | ⟨mo, nm, rfl, _, _⟩
  · exact ⟨y, ys, rfl, .inr rfl⟩
  · exact ⟨_, _, rfl, .inl rfl⟩
/-- every item's row reads as the item -/
theorem eat_item {d : PyData} {r : List Str} (h : ItemR d r) : Eat d r ["ITEM"] [[]] 0 := by
  cases h with
  | face h0 h4 ha =>
    rename_i ts rows
    rw [List.append_assoc]
    refine eExp (z := "face") ["<", "'face", "face", "<", "SHOWN", "SHOWNS", ">", ";", ">"] (s := "face") (by decide +kernel) (by decide +kernel) (eOpn (eAdd (eWd (eOpnL (by simp) ?_) (by decide +kernel))))
    cases ha with
    | nil => cases h0
    | cons a b => exact eat_list (by decide +kernel) (by decide +kernel) (by decide +kernel) (by decide +kernel) (by decide +kernel) ShownR (by decide +kernel) (S := 20) (by decide +kernel) (fun d r hr y ys stk top mk hl hy k => eat_shown hr hy (by omega) k) _ _ _ _ a b _ _ [] _ (by decide +kernel) (eCls (eWd (.fin rfl) (by decide +kernel)))
  | use hz hy =>
    rename_i z y
    rw [List.append_assoc]
    refine eExp (z := "use") ["<", "'use", "use", "Name", "AS", ";", ">"] (s := "use") (by decide +kernel) (by decide +kernel) (eOpn (eAdd (eWd (.Nm hz (by decide +kernel) ?_) (by decide +kernel))))
    by_cases e : y = ""
    · rw [if_pos e]
      subst e
      exact eExp (z := ";") ["'"] (s := ";") (by decide +kernel) (by decide +kernel) (eAdd (eWd (.fin rfl) (by decide +kernel)))
    · rw [if_neg e]
      exact eExp (z := "as") ["as", "Name"] (s := "as") (by decide +kernel) (by decide +kernel) (eWd (.Nm (hy.resolve_left e) (by decide +kernel) (eWd (.fin rfl) (by decide +kernel))) (by decide +kernel))
  | all hz =>
    refine eExp (z := "open") ["<", "'open", "open", "Name", "WAY", ";", ">"] (s := "open") (by decide +kernel) (by decide +kernel) (eOpn (eAdd (eWd (.Nm hz (by decide +kernel) ?_) (by decide +kernel))))
    exact eExp (z := ";") ["'all", "<", ">"] (s := ";") (by decide +kernel) (by decide +kernel) (eAdd (eOpn (eCls (eWd (.fin rfl) (by decide +kernel)))))
  | open_ hz hw h0 h4 ha =>
    rename_i z w ts rows
    cases ha with
    | nil => cases h0
    | cons a b =>
      rw [inB_cons]
      rcases hw with rfl | rfl
      · rw [if_neg (by decide +kernel)]
        simp only [List.cons_append, List.nil_append, List.append_nil, List.append_assoc]
        refine eExp (z := "open") ["<", "'open", "open", "Name", "WAY", ";", ">"] (s := "open") (by decide +kernel) (by decide +kernel) (eOpn (eAdd (eWd (.Nm hz (by decide +kernel) ?_) (by decide +kernel))))
        refine eExp (z := "(") ["'only", "<", "(", "THING", "THINGS", ")", ">"] (s := "(") (by decide +kernel) (by decide +kernel) (eAdd (eOpn (eUp ?_ (by decide +kernel))))
        exact eat_list (by decide +kernel) (by decide +kernel) (by decide +kernel) (by decide +kernel) (by decide +kernel) ThingR (by decide +kernel) (S := 20) (by decide +kernel) (fun d r hr y ys stk top mk hl hy k => eat_thing hr (by decide +kernel) (by omega) k) _ _ _ _ a b _ _ [] _ (by decide +kernel) (eDn (eCls (eWd (.fin rfl) (by decide +kernel))) (by decide +kernel))
      · rw [if_pos rfl]
        simp only [List.cons_append, List.nil_append, List.append_nil, List.append_assoc]
        refine eExp (z := "open") ["<", "'open", "open", "Name", "WAY", ";", ">"] (s := "open") (by decide +kernel) (by decide +kernel) (eOpn (eAdd (eWd (.Nm hz (by decide +kernel) ?_) (by decide +kernel))))
        refine eExp (z := "hiding") ["'hiding", "hiding", "<", "(", "THING", "THINGS", ")", ">"] (s := "hiding") (by decide +kernel) (by decide +kernel) (eAdd (eWd (eOpn (eUp ?_ (by decide +kernel))) (by decide +kernel)))
        exact eat_list (by decide +kernel) (by decide +kernel) (by decide +kernel) (by decide +kernel) (by decide +kernel) ThingR (by decide +kernel) (S := 20) (by decide +kernel) (fun d r hr y ys stk top mk hl hy k => eat_thing hr (by decide +kernel) (by omega) k) _ _ _ _ a b _ _ [] _ (by decide +kernel) (eDn (eCls (eWd (.fin rfl) (by decide +kernel))) (by decide +kernel))
  | kind hz h0 h4 ha =>
    rw [List.append_assoc]
    refine eExp (z := "kind") ["<", "'kind", "kind", "Name", "=", "<", "MAKER", "MAKERS", ">", ";", ">"] (s := "kind") (by decide +kernel) (by decide +kernel) (eOpn (eAdd (eWd (.Nm hz (by decide +kernel) (eWd (eOpnL (by simp) ?_) (by decide +kernel))) (by decide +kernel))))
    cases ha with
    | nil => cases h0
    | cons a b => exact eat_list (by decide +kernel) (by decide +kernel) (by decide +kernel) (by decide +kernel) (by decide +kernel) MakerR (by decide +kernel) (S := 20) (by decide +kernel) (fun d r hr y ys stk top mk hl hy k => eat_parts hr hy (by omega) k) _ _ _ _ a b _ _ [] _ (by decide +kernel) (eCls (eWd (.fin rfl) (by decide +kernel)))
  | def_ hz h3 ha ho hk hT hp =>
    rename_i z ts rows o tt rt kk
    have e : [("def" : Str), z] ++ inB rows ++ ofR o ++ [("=" : Str)] ++ rt ++ [(";" : Str)] = ("def" : Str) :: z :: (inB rows ++ (ofR o ++ ("=" : Str) :: (rt ++ (";" : Str) :: []))) := by simp
    rw [e]
    refine eExp (z := "def") ["<", "'def", "def", "name", "GIVENS", "COLON", "=", "TOLD", ";", ">"] (s := "def") (by decide +kernel) (by decide +kernel) (eOpn (eAdd (eWd (.nm hz (by decide +kernel) ?_) (by decide +kernel))))
    obtain ⟨y2, ys2, e2, h2⟩ := ofR_head o ho "=" (rt ++ [(";" : Str)])
    rw [e2]
    refine eat_inB (NT := "GIVENS") (E := "GIVEN") (L := "MORE_GIVENS") (by decide +kernel) (by decide +kernel) (by decide +kernel) GivenR (by decide +kernel) (S := 100) (by decide +kernel) (fun d r hr y ys stk top mk hl hy k => eat_given hr (by decide +kernel) hy (by omega) k) ha (fun _ => by rcases h2 with rfl | rfl <;> decide +kernel) (by decide +kernel) ?_
    rw [← e2]
    refine eat_colon ho (by decide +kernel) (by decide +kernel) (by decide +kernel) (eWd ?_ (by decide +kernel))
    exact (eat_put kk false tt rt hp).1 ";" [] _ _ _ 0 (by decide +kernel) (by omega) (by show 2 + 40 * kk + 90 ≤ 1990; omega) (eWd (.fin rfl) (by decide +kernel))
end K16

namespace K16
open PySem PySem.Spec PyProof.Rows L2 MM
local macro_rules | `(tactic| walk_at "w") => `(tactic| conv => whnf)
/-! ### take and act -/
theorem push_at {f : DSt → (List PyData → DSt → Prop) → Prop} {ss : List (Option Ar)} {m : List Mo} {due : List Str} {x js d tl ys} {C : Ar → DSt → Prop} (e : m = stoR due x js d tl) (hl : js.length < sizeLine) (hf : ∀ C : List PyData → DSt → Prop, C ys ⟨some (.sl 0) :: ss, m⟩ → f ⟨some (.sl 0) :: ss, m⟩ C)
    (h : C (.val .none) ⟨some (.sl 0) :: ss, (m ++ [Mo.fl ys]).set 3 (Mo.ls (js.map Ar.sl ++ [Ar.sl m.length]))⟩) : dApp (dFld "ItemWalk" "made" (dVar 0)) (dNw f) ⟨some (.sl 0) :: ss, m⟩ C := by
  refine made_at e _ ?_
  have e3 : m[3]? = some (.ls (js.map Ar.sl)) := by rw [e]; rfl
  have l3 : isLi ⟨some (.sl 0) :: ss, m⟩ 3 = true := by unfold isLi; rw [show (⟨some (.sl 0) :: ss, m⟩ : DSt).m[3]? = _ from e3]; rfl
  show guardB (isLi ⟨some (.sl 0) :: ss, m⟩ 3) _
  rw [l3]
  refine hf _ ?_
  have e4 : (m ++ [Mo.fl ys])[3]? = some (.ls (js.map Ar.sl)) := by
    rw [List.getElem?_append_left (List.getElem?_eq_some_iff.mp e3).1]; exact e3
  show (match (m ++ [Mo.fl ys])[3]? with | some o => guardB (isL o) (lenM o < sizeLine ∧ C (.val .none) (setM ⟨some (.sl 0) :: ss, m ++ [Mo.fl ys]⟩ 3 (appM o (.sl m.length)))) | none => False)
  rw [e4]
  exact ⟨by show (js.map Ar.sl).length < sizeLine; rw [List.length_map]; exact hl, h⟩
theorem tup_at {s m i xs} {C : PyData → Prop} (hi : m[i]? = some (Mo.fl xs)) (h : C (.tuple xs)) : fTuple ⟨s, m⟩ [.sl i] C := by
  have e : itemsD ⟨s, m⟩ (.sl i) = some xs := by
    show cont ⟨s, m⟩ i = some xs
    unfold cont
    rw [show (⟨s, m⟩ : DSt).m[i]? = _ from hi]
  show (match itemsD ⟨s, m⟩ (.sl i) with | some xs => C (.tuple xs) | none => False)
  rw [e]
  exact h
theorem wk_depth2 {m : List Mo} {stk : List Str} {x js d tl mk rs} {d1 d2 : Int} (q : d1 = d2) (e : m = stoR stk.reverse x js.reverse d tl) (h : Inn m js mk) (b : Bes m js rs) : Wk (m.set 0 (.ins "ItemWalk" [("due", .sl 1), ("made", .sl 3), ("depth", .val (.int d1))])) stk mk d2 rs := by
  subst q
  exact wk_depth _ e h b
inductive TakeP : Str → List (List PyData) → Int → List (List PyData) → Int → Prop
  | nm {z top mk d} : z ∈ SMALLN ∨ z ∈ GREATN → TakeP z (top :: mk) d ((top ++ [.str z]) :: mk) d
  | up {z mk d} : z ∈ UPS → TakeP z mk d mk (d + 1)
  | dn {z mk d} : z ∈ DNS → TakeP z mk (d + 1) mk d
  | wd {z mk d} : z ∈ WDS → TakeP z mk d mk d
def sp_ItemWalk__m_take : DSp := fun as m C _ => ∃ (z : Str) (stk : List Str) (mk : List (List PyData)) (d : Int) (mk' : List (List PyData)) (d' : Int), as = [.sl 0, .val (tokD z)] ∧ Wk m stk mk d [] ∧ TakeP z mk d mk' d' ∧ wtm mk' ≤ 4000000 ∧ ∀ m', Wk m' stk mk' d' [] → C (.val .none) m'
theorem l_ItemWalk__m_take : ∀ as m C Ex, sp_ItemWalk__m_take as m C Ex → b_ItemWalk__m_take (endsD m.length C) (startD N_ItemWalk__m_take as m) := by
  rintro as m C Ex ⟨z, stk, mk, d, mk', d', rfl, ⟨x, js, tl, e, hI, hB⟩, hT, hw, h⟩
  have hs := DD.sl_line
  cases hT with
  | nm hz =>
    rename_i top mk
    cases hI with
    | cons h1 h2 h3 h4 =>
      rename_i j js
      have hl : top.length < sizeLine := by
        have := len_wts top
        simp only [wtm, wts_app] at hw
        omega
      have key : ∀ k : Str, k = "name" ∨ k = "Name" → b_ItemWalk__m_take (endsD m.length C) (startD N_ItemWalk__m_take [.sl 0, .val (.tuple [.str k, .str z])] m) := by
        rintro k (rfl | rfl)
        all_goals
          walk_at "w"
          refine ⟨by show 2 ≤ sizeLine; omega, rfl, rfl, fun _ => ?_, fun e => (by cases e)⟩
          refine app_at (last_at e) h1 (x := .str z) (fun C h => h) hl ?_
          exact .inl (h _ (wk_top _ e (.cons h1 h2 h3 h4) hB))
      refine key (sortOf z) ?_
      rcases hz with hz | hz
      · exact .inl (by unfold sortOf; rw [if_pos hz])
      · right
        have : ∀ z ∈ GREATN, sortOf z = "Name" := by decide +kernel
        exact this z hz
  | up hz =>
    have hz : z = "let" ∨ z = "if" ∨ z = "case" ∨ z = "(" := by simpa [UPS] using hz
    subst e
    rcases hz with rfl | rfl | rfl | rfl
    all_goals
      walk_at "w"
      refine ⟨by show 2 ≤ sizeLine; omega, rfl, rfl, fun e => (by cases e), fun _ => ?_⟩
      walk_at "w"
      refine ⟨rfl, rfl, fun _ => ?_, fun e => (by cases e)⟩
      exact ⟨⟨rfl, by show 3 < 1000; decide⟩, rfl, .inl (h _ (wk_depth _ rfl hI hB))⟩
  | dn hz =>
    have hz : z = ")" ∨ z = "end" := by simpa [DNS] using hz
    subst e
    have ed : d' + 1 - 1 = d' := by omega
    rcases hz with rfl | rfl
    all_goals
      walk_at "w"
      refine ⟨by show 2 ≤ sizeLine; omega, rfl, rfl, fun e => (by cases e), fun _ => ?_⟩
      walk_at "w"
      refine ⟨rfl, rfl, fun e => (by cases e), fun _ => ?_⟩
      walk_at "w"
      refine ⟨by show 2 ≤ sizeLine; omega, rfl, rfl, fun _ => ?_, fun e => (by cases e)⟩
      exact ⟨⟨rfl, by show 3 < 1000; decide⟩, rfl, .inl (h _ (wk_depth2 ed rfl hI hB))⟩
  | wd hz =>
    simp only [WDS, List.mem_cons, List.not_mem_nil, or_false] at hz
    rcases hz with rfl | rfl | rfl | rfl | rfl | rfl | rfl | rfl | rfl | rfl | rfl | rfl | rfl | rfl | rfl | rfl | rfl | rfl | rfl | rfl | rfl
    all_goals
      walk_at "w"
      refine ⟨by show 2 ≤ sizeLine; omega, rfl, rfl, fun e => (by cases e), fun _ => ?_⟩
      walk_at "w"
      refine ⟨rfl, rfl, fun e => (by cases e), fun _ => ?_⟩
      walk_at "w"
      refine ⟨by show 2 ≤ sizeLine; omega, rfl, rfl, fun e => (by cases e), fun _ => ?_⟩
      exact .inl (h _ ⟨x, js, tl, e, hI, hB⟩)
end K16

namespace K16
open PySem PySem.Spec PyProof.Rows L2 MM
local macro_rules | `(tactic| walk_at "w") => `(tactic| conv => whnf)
theorem drop_at {f : DTE} {D : DEnds} {δ : DSt} (h : f δ fun _ δ1 => D.nx δ1) : dDrop f D δ := h
theorem seq_set {i : Nat} {f : DTE} {g : DTS} {D : DEnds} {δ : DSt} (h : f δ fun a δ1 => g D (setS δ1 i a)) : dSeq (dSet i f) g D δ := h
def sp_ItemWalk__m_act : DSp := fun as m C _ => ∃ (z : Str) (stk : List Str) (mk : List (List PyData)) (d : Int) (mk' : List (List PyData)) (d' : Int) (rs : List (Nat × List PyData)), as = [.sl 0, .val (.str z)] ∧ Wk m stk mk d rs ∧ ActP z mk d mk' d' ∧ wtm mk' ≤ 4000000 ∧ ∀ m', Wk m' stk mk' d' rs → C (.val .none) m'
theorem l_ItemWalk__m_act : ∀ as m C Ex, sp_ItemWalk__m_act as m C Ex → b_ItemWalk__m_act (endsD m.length C) (startD N_ItemWalk__m_act as m) := by
  rintro as m C Ex ⟨z, stk, mk, d, mk', d', rs, rfl, ⟨x, js, tl, e, hI, hB⟩, hT, hw, h⟩
  have hs := DD.sl_line
  have hjs := hI.len
  have hle := hT.le
  have hlm := len_wtm mk
  cases hT with
  | opn =>
    walk_at "w"
    refine ⟨by show 1 ≤ sizeLine; omega, ?_⟩
    walk_at "w"
    refine ⟨fun _ => ?_, fun e => (by cases e)⟩
    refine push_at e (by rw [List.length_reverse]; omega) (fun C h => ⟨Nat.zero_le _, h⟩) ?_
    exact .inl (h _ (wk_push _ e hI hB))
  | cls =>
    rename_i xs ys mk
    cases hI with
    | cons h1 h2 h3 h4 =>
      rename_i j js
      obtain ⟨e', hI', hB'⟩ := wk_pop e (.cons h1 h2 h3 h4) hB
      cases hI' with
      | cons g1 g2 g3 g4 =>
        rename_i j2 js
        walk_at "w"
        refine ⟨by show 1 ≤ sizeLine; omega, ?_⟩
        walk_at "w"
        refine ⟨fun e => (by cases e), fun _ => ?_⟩
        walk_at "w"
        refine ⟨fun _ => ?_, fun e => (by cases e)⟩
        have e3 : m[3]? = some (.ls ((j2 :: js).reverse.map Ar.sl ++ [.sl j])) := by
          rw [e]
          show some (Mo.ls ((j :: j2 :: js).reverse.map Ar.sl)) = _
          simp
        refine popL_at (made_at e) e3 ?_
        have hj : (m.set 3 (Mo.ls ((j2 :: js).reverse.map Ar.sl)))[j]? = some (Mo.fl xs) := by
          rw [List.getElem?_set_ne (by omega)]; exact h1
        refine tup_at hj ?_
        have hl : ys.length < sizeLine := by
          have := len_wts ys
          simp only [wtm, wts_app] at hw
          omega
        dsimp only
        refine drop_at ?_
        refine app_at (f := dVar 3) (last_at (ss := [some (.val (.str ">")), _, some (.val (.tuple xs)), none]) e') g1 (x := .tuple xs) (fun C h => h) hl ?_
        exact .inl (h _ (wk_top _ e' (.cons g1 g2 g3 g4) hB'))
  | add ha =>
    rename_i v xs mk
    cases hI with
    | cons h1 h2 h3 h4 =>
      rename_i j js
      have hl : xs.length < sizeLine := by
        have := len_wts xs
        simp only [wtm, wts_app] at hw
        omega
      have fin := h _ (wk_top (xs ++ [v]) e (.cons h1 h2 h3 h4) hB)
      simp only [ADDS, List.mem_cons, Prod.mk.injEq, List.not_mem_nil, or_false] at ha
      rcases ha with ⟨rfl, rfl⟩ | ⟨rfl, rfl⟩ | ⟨rfl, rfl⟩ | ⟨rfl, rfl⟩ | ⟨rfl, rfl⟩ | ⟨rfl, rfl⟩ | ⟨rfl, rfl⟩ | ⟨rfl, rfl⟩ | ⟨rfl, rfl⟩ | ⟨rfl, rfl⟩ | ⟨rfl, rfl⟩ | ⟨rfl, rfl⟩ | ⟨rfl, rfl⟩ | ⟨rfl, rfl⟩ | ⟨rfl, rfl⟩ | ⟨rfl, rfl⟩ | ⟨rfl, rfl⟩ | ⟨rfl, rfl⟩
      all_goals
        walk_at "w"
        refine ⟨Nat.le_trans (by decide +kernel : _ ≤ 20) (by omega), ?_⟩
        walk_at "w"
        refine ⟨fun e => (by cases e), fun _ => ?_⟩
        walk_at "w"
        refine ⟨fun e => (by cases e), fun _ => ?_⟩
        walk_at "w"
        refine ⟨fun _ => ?_, fun e => (by cases e)⟩
        refine app_at (last_at e) h1 (fun C h => ⟨Nat.le_trans (by decide +kernel : _ ≤ 20) (by omega), h⟩) hl ?_
        exact .inl fin
  | ins ha =>
    rename_i v xs mk
    cases hI with
    | cons h1 h2 h3 h4 =>
      rename_i j js
      have hl : xs.length < sizeLine := by
        have := len_wts xs
        simp only [wtm, wts] at hw
        omega
      have fin := h _ (wk_top (.str v :: xs) e (.cons h1 h2 h3 h4) hB)
      simp only [INSS, List.mem_cons, Prod.mk.injEq, List.not_mem_nil, or_false] at ha
      rcases ha with ⟨rfl, rfl⟩ | ⟨rfl, rfl⟩ | ⟨rfl, rfl⟩ | ⟨rfl, rfl⟩
      all_goals
        walk_at "w"
        refine ⟨Nat.le_trans (by decide +kernel : _ ≤ 20) (by omega), ?_⟩
        walk_at "w"
        refine ⟨fun e => (by cases e), fun _ => ?_⟩
        walk_at "w"
        refine ⟨fun e => (by cases e), fun _ => ?_⟩
        walk_at "w"
        refine ⟨fun e => (by cases e), fun _ => ?_⟩
        walk_at "w"
        refine ⟨fun _ => ?_, fun e => (by cases e)⟩
        refine ins_at (last_at e) h1 (fun C h => ⟨Nat.le_trans (by decide +kernel : _ ≤ 20) (by omega), h⟩) hl ?_
        exact .inl fin
  | same =>
    rename_i a xs mk
    cases hI with
    | cons h1 h2 h3 h4 =>
      rename_i j js
      obtain ⟨x', js', tl', e', hI', hB'⟩ := wk_top xs e (.cons h1 h2 h3 h4) hB
      walk_at "w"
      refine ⟨by show 5 ≤ sizeLine; omega, ?_⟩
      walk_at "w"
      refine ⟨fun e => (by cases e), fun _ => ?_⟩
      walk_at "w"
      refine ⟨fun e => (by cases e), fun _ => ?_⟩
      walk_at "w"
      refine ⟨fun e => (by cases e), fun _ => ?_⟩
      walk_at "w"
      refine ⟨fun e => (by cases e), fun _ => ?_⟩
      walk_at "w"
      refine ⟨fun _ => ?_, fun e => (by cases e)⟩
      refine seq_set ?_
      refine pop_at (last_at e) h1 ?_
      have hjs' := hI'.len
      refine push_at e' (ys := [.str "same", a]) (by rw [List.length_reverse, hjs', List.length_cons]; rw [List.length_cons] at hlm; omega) (fun C h => ⟨by show 2 ≤ sizeLine; omega, h⟩) ?_
      exact .inl (h _ (wk_push _ e' hI' hB'))
  | out =>
    walk_at "w"
    refine ⟨by show 4 ≤ sizeLine; omega, ?_⟩
    walk_at "w"
    refine ⟨fun e => (by cases e), fun _ => ?_⟩
    walk_at "w"
    refine ⟨fun e => (by cases e), fun _ => ?_⟩
    walk_at "w"
    refine ⟨fun e => (by cases e), fun _ => ?_⟩
    walk_at "w"
    refine ⟨fun e => (by cases e), fun _ => ?_⟩
    walk_at "w"
    refine ⟨fun e => (by cases e), fun _ => ?_⟩
    subst e
    exact ⟨⟨rfl, by show 3 < 1000; decide⟩, rfl, .inl (h _ (wk_depth2 (by show d' + 1 - 1 = d'; omega) rfl hI hB))⟩
end K16

namespace K16
open PySem PySem.Spec PyProof.Rows L2 MM
local macro_rules | `(tactic| walk_at "w") => `(tactic| conv => whnf)
/-! ### expand -/
theorem isEmpty_map {α β : Type} (f : α → β) (l : List α) : (l.map f).isEmpty = l.isEmpty := by cases l <;> rfl
theorem if_t {t : DTT} {g h : DTS} {D : DEnds} {δ δ' : DSt} (ht : ∀ C : Bool → DSt → Prop, C true δ' → t δ C) (k : g D δ') : dIf t g h D δ := ht _ ⟨fun _ => k, (nomatch ·)⟩
theorem if_f {t : DTT} {g h : DTS} {D : DEnds} {δ δ' : DSt} (ht : ∀ C : Bool → DSt → Prop, C false δ' → t δ C) (k : h D δ') : dIf t g h D δ := ht _ ⟨(nomatch ·), fun _ => k⟩
theorem ext_at {fo f : DTE} {s m i} {xs ys : List PyData} {C : Ar → DSt → Prop} (ho : ∀ C : Ar → DSt → Prop, C (.sl i) ⟨s, m⟩ → fo ⟨s, m⟩ C) (hi : m[i]? = some (Mo.fl xs)) (hf : ∀ C : Ar → DSt → Prop, C (.val (.list ys)) ⟨s, m⟩ → f ⟨s, m⟩ C) (hl : xs.length + ys.length ≤ sizeLine)
    (h : C (.val .none) ⟨s, m.set i (.fl (xs ++ ys))⟩) : dExt fo f ⟨s, m⟩ C := by
  refine ho _ ?_
  show guardB (isLi ⟨s, m⟩ i) _
  rw [isLi_fl hi]
  refine hf _ ?_
  show (match m[i]? with | some o => guardB (isL o) (lenM o + ys.length ≤ sizeLine ∧ C (.val .none) (setM ⟨s, m⟩ i (extM o ys))) | none => False)
  rw [hi]
  exact ⟨hl, h⟩
theorem wk_side {m : List Mo} {stk mk d c cs} (cs' : List PyData) (h : Wk m stk mk d [(c, cs)]) : m[c]? = some (.fl cs) ∧ Wk (m.set c (.fl cs')) stk mk d [(c, cs')] := by
  obtain ⟨x, js, tl, e, hI, hB⟩ := h
  obtain ⟨b1, b2, b3⟩ := hB (c, cs) (List.mem_singleton.mpr rfl)
  refine ⟨b1, ?_⟩
  obtain ⟨x', tl', e'⟩ := stoR_set (due := stk.reverse) (x := x) (js := js.reverse) (d := d) (tl := tl) (i := c) (.inr b2) (.fl cs')
  refine ⟨x', js, tl', by rw [e]; exact e', hI.mono fun i hi _ _ => List.getElem?_set_ne (fun q : c = i => b3 (q ▸ hi)), fun p hp => ?_⟩
  rw [List.mem_singleton.mp hp]
  exact ⟨List.getElem?_set_self (List.getElem?_eq_some_iff.mp b1).1, b2, b3⟩
abbrev mkrow (p : Str × Str) : PyData := .tuple [.str p.1, .str p.2]
def okP (p : Str × Str) : Bool := decide (p.1.length ≤ 100) && decide (p.2.length ≤ 200) && decide ((Txt.words p.1).length ≤ 4) && decide ((Txt.words p.2).length ≤ 12)
def okRow : PyData → Bool
  | .tuple [.str a, .str b] => okP (a, b)
  | _ => false
def okRows : PyData → Bool
  | .tuple xs => xs.all okRow && decide (xs.length ≤ 5)
  | _ => false
theorem rules_ok : l_RULES.all (fun p => okRows p.2) = true := by decide +kernel
theorem okRow_mk : ∀ d, okRow d = true → ∃ p, d = mkrow p ∧ okP p = true := by
  intro d h
  unfold okRow at h
  split at h
  · exact ⟨_, rfl, h⟩
  · cases h
theorem rows_shape : ∀ xs : List PyData, xs.all okRow = true → xs = (rowsD (.tuple xs)).map mkrow ∧ ∀ p ∈ rowsD (.tuple xs), okP p = true
  | [], _ => ⟨rfl, fun p hp => nomatch hp⟩
  | x :: xs, h => by
    rw [List.all_cons, Bool.and_eq_true] at h
    obtain ⟨p, rfl, hp⟩ := okRow_mk x h.1
    obtain ⟨e, ih⟩ := rows_shape xs h.2
    have e2 : rowsD (.tuple (mkrow p :: xs)) = p :: rowsD (.tuple xs) := rfl
    rw [e2]
    exact ⟨by rw [List.map_cons, ← e], fun q hq => (List.mem_cons.mp hq).elim (fun e => e ▸ hp) (ih q)⟩
theorem okRows_shape : ∀ d, okRows d = true → d = .tuple ((rowsD d).map mkrow) ∧ (rowsD d).length ≤ 5 ∧ ∀ p ∈ rowsD d, okP p = true
  | .tuple xs, hm => by
    have hm : (xs.all okRow && decide (xs.length ≤ 5)) = true := hm
    rw [Bool.and_eq_true] at hm
    obtain ⟨e, h2⟩ := rows_shape xs hm.1
    refine ⟨by rw [← e], ?_, h2⟩
    have h5 : xs.length ≤ 5 := by simpa using hm.2
    have : (rowsD (.tuple xs)).length = xs.length := by show (List.map _ xs).length = _; rw [List.length_map]
    omega
theorem rules_shape {sym : Str} {d : PyData} (h : t_RULES sym = some d) : d = .tuple ((rowsD d).map mkrow) ∧ (rowsD d).length ≤ 5 ∧ ∀ p ∈ rowsD d, okP p = true := by
  have hm := List.all_eq_true.mp rules_ok _ (mem_look h)
  exact okRows_shape d hm
theorem okP_at {p : Str × Str} (h : okP p = true) : p.1.length ≤ 100 ∧ p.2.length ≤ 200 ∧ (Txt.words p.1).length ≤ 4 ∧ (Txt.words p.2).length ≤ 12 := by
  simpa [okP, and_assoc] using h
theorem words_flat (ws : List Str) : (ws.map PyData.str).all flatD = true := by
  rw [List.all_eq_true]
  intro x hx
  obtain ⟨z, _, rfl⟩ := List.mem_map.mp hx
  rfl
theorem words_any (ws : List Str) (z : Str) : (ws.map PyData.str).any (fun e => PyData.eqv e (.str z)) = decide (z ∈ ws) := by
  induction ws with
  | nil => rfl
  | cons w ws ih =>
    rw [List.map_cons, List.any_cons, ih]
    have : PyData.eqv (.str w) (.str z) = decide (w = z) := by
      show (w == z) = decide (w = z)
      exact Bool.beq_eq_decide_eq ..
    rw [this]
    by_cases q : w = z
    · subst q; simp
    · have q2 : ¬ z = w := fun e => q e.symm
      simp [q, q2]
def sp_ItemWalk__m_expand : DSp := fun as m C _ => ∃ (sym sign : Str) (stk : List Str) (mk : List (List PyData)) (d : Int) (c : Nat) (cs : List PyData) (ws : List Str),
  as = [.sl 0, .val (.str sym), .val (.str sign), .sl c] ∧ Wk m stk mk d [(c, cs)] ∧ stk.length ≤ 2000 ∧ cs.length ≤ 4000000 ∧ pick_ sym sign = some ws ∧ ∀ m' cs', Wk m' (ws ++ stk) mk d [(c, cs')] → cs'.length ≤ cs.length + 20 → C (.val (.bool true)) m'
theorem len_zero {a : Str} (h : ¬ a = "") : ¬ a.length = 0 := by
  intro q
  apply h
  obtain ⟨cps⟩ := a
  have : cps = #[] := Array.eq_empty_of_size_eq_zero q
  subst this
  rfl
theorem or_t {t u : DTT} {δ δ' : DSt} (ht : ∀ C : Bool → DSt → Prop, C true δ' → t δ C) : ∀ C : Bool → DSt → Prop, C true δ' → dOr t u δ C := fun C h => ht _ ⟨fun _ => h, (nomatch ·)⟩
theorem or_f {b : Bool} {t u : DTT} {δ δ' δ2 : DSt} (ht : ∀ C : Bool → DSt → Prop, C false δ' → t δ C) (hu : ∀ C : Bool → DSt → Prop, C b δ2 → u δ' C) : ∀ C : Bool → DSt → Prop, C b δ2 → dOr t u δ C := fun C h => ht _ ⟨(nomatch ·), fun _ => hu C h⟩
/-- a text in a slot -/
theorem words_at {i : Nat} {z : Str} {δ : DSt} (hi : δ.s[i]? = some (some (.val (.str z)))) (hl : z.length + 2 ≤ sizeLine) : ∀ C : Ar → DSt → Prop, C (.val (.list ((Txt.words z).map PyData.str))) δ → dM mWords (dVar i) dNil δ C := by
  intro C h
  unfold dM dVar
  rw [hi]
  exact ⟨hl, h⟩
theorem rev_at {i : Nat} {z : Str} {δ : DSt} (hi : δ.s[i]? = some (some (.val (.str z)))) (hl : z.length + 2 ≤ sizeLine) : ∀ C : Ar → DSt → Prop, C (.val (.list ((Txt.words z).map PyData.str).reverse)) δ → dFr (dRevN (dM mWords (dVar i) dNil)) δ C := by
  intro C h
  unfold dFr dRevN dM dVar
  rw [hi]
  exact ⟨hl, h⟩
theorem not_tru {i : Nat} {z : Str} {δ : DSt} (hi : δ.s[i]? = some (some (.val (.str z)))) (hl : z.length ≤ sizeLine) {b : Bool} (hb : decide (z = "") = b) : ∀ C : Bool → DSt → Prop, C b δ → dNot (dTru (dVar i)) δ C := by
  intro C h
  unfold dNot dTru dVar
  rw [hi]
  refine ⟨hl, ?_⟩
  have e : (!((z.length : Int) != 0)) = b := by
    rw [← hb]
    by_cases q : z = ""
    · subst q; rfl
    · have := len_zero q
      have h0 : ((z.length : Int) != 0) = true := by simp; omega
      rw [h0]
      simp [q]
  show C (!((z.length : Int) != 0)) δ
  rw [e]
  exact h
theorem in_at {i : Nat} {z : Str} {ws : List Str} {f : DTE} {δ : DSt} (hi : δ.s[i]? = some (some (.val (.str z)))) (hf : ∀ C : Ar → DSt → Prop, C (.val (.list (ws.map PyData.str))) δ → f δ C) {b : Bool} (hb : decide (z ∈ ws) = b) : ∀ C : Bool → DSt → Prop, C b δ → dCmp (cIn false) (dVar i) f δ C := by
  intro C h
  unfold dCmp dVar
  rw [hi]
  refine hf _ ?_
  refine ⟨rfl, words_flat ws, ?_⟩
  show C ((ws.map PyData.str).any fun e => PyData.eqv e (.str z)) δ
  rw [words_any, hb]
  exact h
theorem dgs2 {i j : Nat} {a b : Ar} {s : List (Option Ar)} {m : List Mo} {C : DSt → Prop} (h : C ⟨(s.set i (some a)).set j (some b), m⟩) : dgsCons (dgName i) (dgsCons (dgName j) dgsNil) [a, b] ⟨s, m⟩ C := h
theorem seqif_t {t : DTT} {g h h2 : DTS} {D : DEnds} {δ δ' : DSt} (ht : ∀ C : Bool → DSt → Prop, C true δ' → t δ C) (k : g { D with nx := h2 D } δ') : dSeq (dIf t g h) h2 D δ := ht _ ⟨fun _ => k, (nomatch ·)⟩
theorem seqif_f {t : DTT} {g h h2 : DTS} {D : DEnds} {δ δ' : DSt} (ht : ∀ C : Bool → DSt → Prop, C false δ' → t δ C) (k : h { D with nx := h2 D } δ') : dSeq (dIf t g h) h2 D δ := ht _ ⟨(nomatch ·), fun _ => k⟩
theorem seq_drop {f : DTE} {g : DTS} {D : DEnds} {δ : DSt} (h : f δ fun _ δ1 => g D δ1) : dSeq (dDrop f) g D δ := h
theorem for_tab {tab : Str → Option PyData} {i : Nat} {z : Str} {xs : List PyData} {g : DTG} {b : DTS} {D : DEnds} {δ : DSt} (hi : δ.s[i]? = some (some (.val (.str z)))) (ht : tab z = some (.tuple xs)) (h : dForL g b none (xs.map Ar.val) D δ) : dFor (dIterE (dTabIx tab (dVar i))) g b D δ := by
  unfold dFor dIterE dTabIx dVar
  rw [hi]
  dsimp only
  rw [ht]
  exact h
theorem l_ItemWalk__m_expand : ∀ as m C Ex, sp_ItemWalk__m_expand as m C Ex → b_ItemWalk__m_expand (endsD m.length C) (startD N_ItemWalk__m_expand as m) := by
  rintro as m C Ex ⟨sym, sign, stk, mk, d, c, cs, ws, rfl, hW, hst, hcs, hp, h⟩
  have hs := DD.sl_line
  unfold pick_ at hp
  cases hr : t_RULES sym with
  | none => rw [hr] at hp; cases hp
  | some D =>
    rw [hr] at hp
    have hp : goP sign (rowsD D) = some ws := hp
    obtain ⟨eD, h5, hok⟩ := rules_shape hr
    unfold b_ItemWalk__m_expand
    refine seq_cut (fun δ => False) (fun N hN => ?_) (fun δ h => h.elim)
    rw [eD] at hr
    refine for_tab (z := sym) rfl hr ?_
    refine forL_inv (P := fun its δ => ∃ ps m' cs' o1 o2, its = (ps.map mkrow).map Ar.val ∧ δ = ⟨[some (.sl 0), some (.val (.str sym)), some (.val (.str sign)), some (.sl c), o1, o2], m'⟩ ∧ Wk m' stk mk d [(c, cs')] ∧ goP sign ps = some ws ∧ cs'.length + 4 * ps.length ≤ cs.length + 20 ∧ ∀ p ∈ ps, okP p = true) ?_ ?_ _ _ ⟨_, m, cs, none, none, rfl, rfl, hW, hp, by omega, hok⟩
    · rintro it its δ ⟨ps, m', cs', o1, o2, e1, rfl, hW', hp', hc', hok'⟩ N hN
      cases ps with
      | nil => cases e1
      | cons p ps =>
        cases e1
        obtain ⟨a, b⟩ := p
        obtain ⟨k1, k2, k3, k4⟩ := okP_at (hok' _ List.mem_cons_self)
        have k1 : a.length ≤ 100 := k1
        have k2 : b.length ≤ 200 := k2
        have k3 : (Txt.words a).length ≤ 4 := k3
        have k4 : (Txt.words b).length ≤ 12 := k4
        refine ⟨rfl, ?_⟩
        refine dgs2 ?_
        show dSeq _ _ _ ⟨[some (.sl 0), some (.val (.str sym)), some (.val (.str sign)), some (.sl c), some (.val (.str a)), some (.val (.str b))], m'⟩
        have hW2 := hW'
        obtain ⟨x, js, tl, e, hI, hB⟩ := hW'
        have take : ∀ D' : DEnds, D'.rt = (endsD m.length C).rt → (Txt.words b) = ws → dSeq (dDrop (dExt (dFld "ItemWalk" "due" (dVar 0)) (dFr (dRevN (dM mWords (dVar 5) dNil))))) (dRet (dC (.bool true))) D' ⟨[some (.sl 0), some (.val (.str sym)), some (.val (.str sign)), some (.sl c), some (.val (.str a)), some (.val (.str b))], m'⟩ := by
          intro D' hD ew
          subst ew
          have e1 : m'[1]? = some (.fl (stk.reverse.map PyData.str)) := by rw [e]; rfl
          refine seq_drop ?_
          refine ext_at (due_at e) e1 (ys := ((Txt.words b).map PyData.str).reverse) (by exact rev_at (z := b) rfl (by omega)) ?_ ?_
          · rw [List.length_map, List.length_reverse, List.length_reverse, List.length_map]; omega
          · have e2 : stk.reverse.map PyData.str ++ ((Txt.words b).map PyData.str).reverse = ((Txt.words b ++ stk).reverse).map PyData.str := by simp
            rw [e2]
            show D'.rt _ _
            rw [hD]
            exact .inl (h _ cs' (wk_due _ e hI hB) (by omega))
        by_cases ha : a = ""
        · refine seqif_t (or_t (not_tru (z := a) rfl (by omega) (decide_eq_true ha))) (take _ rfl ?_)
          unfold goP at hp'
          rw [if_pos (.inl ha)] at hp'
          exact Option.some.inj hp'
        · by_cases hm : sign ∈ Txt.words a
          · refine seqif_t (or_f (not_tru (z := a) rfl (by omega) (decide_eq_false ha)) (in_at (z := sign) (ws := Txt.words a) rfl (words_at (z := a) rfl (by omega)) (decide_eq_true hm))) (take _ rfl ?_)
            unfold goP at hp'
            rw [if_pos (.inr hm)] at hp'
            exact Option.some.inj hp'
          · refine seqif_f (or_f (not_tru (z := a) rfl (by omega) (decide_eq_false ha)) (in_at (z := sign) (ws := Txt.words a) rfl (words_at (z := a) rfl (by omega)) (decide_eq_false hm))) ?_
            unfold goP at hp'
            rw [if_neg (fun q => q.elim ha hm)] at hp'
            obtain ⟨w1, w2⟩ := wk_side (cs' ++ (Txt.words a).map PyData.str) hW2
            refine nx_of ?_
            dsimp only
            refine drop_at ?_
            refine ext_at (i := c) (fun C h => h) w1 (by exact words_at (z := a) rfl (by omega)) ?_ ?_
            · rw [List.length_map]; simp only [List.length_cons] at hc'; omega
            · refine hN _ ⟨ps, _, _, _, _, rfl, rfl, w2, hp', ?_, fun p hp => hok' p (List.mem_cons_of_mem _ hp)⟩
              rw [List.length_append, List.length_map]; simp only [List.length_cons] at hc'; omega
    · rintro δ ⟨ps, m', cs', o1, o2, e1, rfl, hW', hp', hc', hok'⟩
      cases ps with
      | nil => cases hp'
      | cons p ps => cases e1
end K16

namespace K16
open PySem PySem.Spec PyProof.Rows L2 MM
/-! ### how long a meeting may be -/
def NTS : List Str := l_RULES.map Prod.fst
def SIGS : List Str := (["name", "Name"] : List Str) ++ WRDS ++ SGNS
/-- within f steps the symbols are done with, or the sign is met, or there is no way -/
def runs (s : Str) : Nat → List Str → Bool
  | 0, _ => false
  | f + 1, [] => true
  | f + 1, z :: stk => if z = s then true else match pick_ z s with
    | some ws => runs s f (ws ++ stk)
    | none => runs s f stk
theorem pick_mem {z s ws} (h : pick_ z s = some ws) : z ∈ NTS := by
  unfold pick_ at h
  split at h
  · rename_i d hd
    exact List.mem_map_of_mem (f := Prod.fst) (mem_look hd)
  · cases h
theorem acts_none : ∀ z ∈ ACTS, t_RULES z = none := by decide +kernel
theorem act_pick {z s} (h : z ∈ ACTS) : pick_ z s = none := by unfold pick_; rw [acts_none z h]
theorem MeetN.run {s : Str} : ∀ f l, runs s f l = true → ∀ {n stk mk d stk' mk' d'}, MeetN s n (l ++ stk) mk d stk' mk' d' → n ≤ f ∨ ∃ n' mk1 d1, n ≤ n' + f ∧ MeetN s n' stk mk1 d1 stk' mk' d'
  | 0, _, h, _, _, _, _, _, _, _, _ => nomatch h
  | f + 1, [], h, n, stk, mk, d, _, _, _, m => .inr ⟨n, mk, d, by omega, m⟩
  | f + 1, z :: l, h, n, stk, mk, d, stk', mk', d', m => by
    unfold runs at h
    cases m with
    | hit => exact .inl (by omega)
    | act hz a m1 =>
      rename_i n
      rw [if_neg hz, act_pick a.mem] at h
      rcases MeetN.run f l h m1 with q | ⟨n', mk1, d1, q, m2⟩
      · exact .inl (by omega)
      · exact .inr ⟨n', mk1, d1, by omega, m2⟩
    | exp hz hl hp m1 =>
      rename_i n ws
      rw [if_neg hz, hp] at h
      have m1 : MeetN s n ((ws ++ l) ++ stk) mk d stk' mk' d' := by rw [List.append_assoc]; exact m1
      rcases MeetN.run f (ws ++ l) h m1 with q | ⟨n', mk1, d1, q, m2⟩
      · exact .inl (by omega)
      · exact .inr ⟨n', mk1, d1, by omega, m2⟩
theorem runs_all : ∀ z ∈ NTS, ∀ s ∈ SIGS, runs s 20 [z] = true := by decide +kernel
theorem MeetN.bound {s : Str} (hs : s ∈ SIGS) : ∀ stk {n mk d stk' mk' d'}, MeetN s n stk mk d stk' mk' d' → n ≤ 20 * stk.length := by
  intro stk
  induction stk with
  | nil => intro n mk d stk' mk' d' m; cases m
  | cons z stk ih =>
    intro n mk d stk' mk' d' m
    rw [List.length_cons]
    cases m with
    | hit => omega
    | act hz a m1 => have := ih m1; omega
    | exp hz hl hp m1 =>
      rename_i n ws
      have h := runs_all z (pick_mem hp) s hs
      have m2 : MeetN s (n + 1) ([z] ++ stk) mk d stk' mk' d' := .exp hz hl hp m1
      rcases MeetN.run 20 [z] h m2 with q | ⟨n', mk1, d1, q, m3⟩
      · omega
      · have := ih m3; omega
/-- what one token does -/
theorem term_sig {z : Str} (h : TokOk z) : termOf z ∈ SIGS := by
  have : ∀ z ∈ SMALLN ++ GREATN ++ WRDS ++ SGNS, termOf z ∈ SIGS := by decide +kernel
  exact this z h
theorem sig_free : ∀ s ∈ SIGS, s ∉ ACTS ∧ s ∉ NTS := by decide +kernel
theorem eat_step {t z zs stk mk d} (h : Eat t (z :: zs) stk mk d) : ∃ n stk1 mk1 d1 mk2 d2, MeetN (termOf z) n stk mk d stk1 mk1 d1 ∧ d1 ≤ 60 ∧ TakeP z mk1 d1 mk2 d2 ∧ Eat t zs stk1 mk2 d2 := by
  generalize hl : z :: zs = l at h
  have hk : ∀ y, TokOk y → y ∈ l → termOf y ∈ SIGS := fun y hy _ => term_sig hy
  have ht := h.toks
  induction h with
  | fin e => cases hl
  | act a h ih =>
    cases hl
    obtain ⟨n, stk1, mk1, d1, mk2, d2, m, r⟩ := ih rfl hk ht
    refine ⟨n + 1, stk1, mk1, d1, mk2, d2, .act (fun q => ?_) a m, r⟩
    have := sig_free _ (hk z (ht z List.mem_cons_self) List.mem_cons_self)
    exact this.1 (q ▸ a.mem)
  | exp hlen hp h ih =>
    cases hl
    obtain ⟨n, stk1, mk1, d1, mk2, d2, m, r⟩ := ih rfl hk ht
    refine ⟨n + 1, stk1, mk1, d1, mk2, d2, .exp (fun q => ?_) hlen hp m, r⟩
    have := sig_free _ (hk z (ht z List.mem_cons_self) List.mem_cons_self)
    exact this.2 (q ▸ pick_mem hp)
  | nm hz hd h ih =>
    cases hl
    rw [to_small hz]
    exact ⟨0, _, _, _, _, _, .hit, hd, .nm (.inl hz), h⟩
  | Nm hz hd h ih =>
    cases hl
    rw [to_great hz]
    exact ⟨0, _, _, _, _, _, .hit, hd, .nm (.inr hz), h⟩
  | up hz hd h ih =>
    cases hl
    have : ∀ z ∈ UPS, termOf z = z := by decide +kernel
    rw [this z hz]
    exact ⟨0, _, _, _, _, _, .hit, hd, .up hz, h⟩
  | dn hz hd h ih =>
    cases hl
    have : ∀ z ∈ DNS, termOf z = z := by decide +kernel
    rw [this z hz]
    exact ⟨0, _, _, _, _, _, .hit, hd, .dn hz, h⟩
  | wd hz hd h ih =>
    cases hl
    have : ∀ z ∈ WDS, termOf z = z := by decide +kernel
    rw [this z hz]
    exact ⟨0, _, _, _, _, _, .hit, hd, .wd hz, h⟩
end K16

namespace K16
open PySem PySem.Spec PyProof.Rows L2 MM
/-! ### meet -/
theorem tru_due {ss : List (Option Ar)} {m : List Mo} {due : List Str} {x js d tl} (e : m = stoR due x js d tl) {b : Bool} (hb : (!due.isEmpty) = b) : ∀ C : Bool → DSt → Prop, C b ⟨some (.sl 0) :: ss, m⟩ → dTru (dFld "ItemWalk" "due" (dVar 0)) ⟨some (.sl 0) :: ss, m⟩ C := by
  intro C h
  subst hb
  refine due_at e _ ?_
  have e1 : m[1]? = some (.fl (due.map PyData.str)) := by rw [e]; rfl
  have hr : rd ⟨some (.sl 0) :: ss, m⟩ (.sl 1) = some (.list (due.map PyData.str)) := by
    show (cont ⟨some (.sl 0) :: ss, m⟩ 1).map PyData.list = _
    unfold cont
    rw [show (⟨some (.sl 0) :: ss, m⟩ : DSt).m[1]? = _ from e1]
    rfl
  show (match rd ⟨some (.sl 0) :: ss, m⟩ (.sl 1) with | some d => truD d fun b => C b ⟨some (.sl 0) :: ss, m⟩ | _ => False)
  rw [hr]
  show C (!(due.map PyData.str).isEmpty) _
  rw [isEmpty_map]
  exact h
theorem eq_at {i j : Nat} {z y : Str} {δ : DSt} (hi : δ.s[i]? = some (some (.val (.str z)))) (hj : δ.s[j]? = some (some (.val (.str y)))) {b : Bool} (hb : decide (z = y) = b) : ∀ C : Bool → DSt → Prop, C b δ → dCmp (cEq false) (dVar i) (dVar j) δ C := by
  intro C h
  unfold dCmp dVar
  rw [hi]
  dsimp only
  rw [hj]
  show C (decide (z = y)) δ
  rw [hb]
  exact h
theorem tabin_at {tab : Str → Option PyData} {i : Nat} {z : Str} {δ : DSt} (hi : δ.s[i]? = some (some (.val (.str z)))) {b : Bool} (hb : (tab z).isSome = b) : ∀ C : Bool → DSt → Prop, C b δ → dTabIn false tab (dVar i) δ C := by
  intro C h
  unfold dTabIn dVar
  rw [hi]
  show C (tab z).isSome δ
  rw [hb]
  exact h
theorem first_at {i : Nat} {z : Str} {c : Nat} {s : Str} {δ : DSt} (hi : δ.s[i]? = some (some (.val (.str z)))) (hl : z.length ≤ sizeLine) (hc : atI z.cps.toList 0 = some c) (hm : c ∈ s.cps.toList) : ∀ C : Bool → DSt → Prop, C true δ → dCmp (cIn false) (dIx (dVar i) (dC (.int 0))) (dC (.str s)) δ C := by
  intro C h
  unfold dCmp dIx dVar
  rw [hi]
  refine ⟨hl, ?_⟩
  rw [hc]
  show C (decide (c ∈ s.cps.toList)) δ
  rw [decide_eq_true hm]
  exact h
theorem acts_first : ∀ z ∈ ACTS, z.length ≤ 20 ∧ ∃ c, atI z.cps.toList 0 = some c ∧ c ∈ ("<>'^!" : Str).cps.toList := by
  have h : ∀ z ∈ ACTS, z.length ≤ 20 ∧ (match atI z.cps.toList 0 with | some c => decide (c ∈ ("<>'^!" : Str).cps.toList) | none => false) = true := by decide +kernel
  intro z hz
  obtain ⟨h1, h2⟩ := h z hz
  refine ⟨h1, ?_⟩
  split at h2
  · rename_i c hc
    exact ⟨c, hc, by simpa using h2⟩
  · cases h2
theorem wk_drop {m stk mk d rs} (h : Wk m stk mk d rs) : Wk m stk mk d [] := by
  obtain ⟨x, js, tl, e, hI, hB⟩ := h
  exact ⟨x, js, tl, e, hI, fun p hp => nomatch hp⟩
theorem wk_new {m stk mk d} (h : Wk m stk mk d []) (ys : List PyData) : Wk (m ++ [Mo.fl ys]) stk mk d [(m.length, ys)] := by
  obtain ⟨x, js, tl, e, hI, hB⟩ := h
  refine ⟨x, js, tl ++ [Mo.fl ys], by rw [e]; rfl, hI.mono fun i hi _ lt => List.getElem?_append_left lt, fun p hp => ?_⟩
  rw [List.mem_singleton.mp hp]
  refine ⟨by rw [List.getElem?_append_right (Nat.le_refl _), Nat.sub_self]; rfl, ?_, fun q => absurd (hI.lt _ q) (Nat.lt_irrefl _)⟩
  rw [e]
  exact Nat.le_add_left 4 tl.length
theorem frA_ne {c i : Nat} {D : PyData} (h : ¬ i = c) : frA c D (.sl i) = .sl i := by
  show (if i = c then _ else _) = _
  rw [if_neg h]
/-- a list that stood beside is data from now on -/
theorem wk_frz {m stk mk d c cs} (D : PyData) (h : Wk m stk mk d [(c, cs)]) : Wk ((m.set c .no).map (frO c D)) stk mk d [] := by
  obtain ⟨x, js, tl, e, hI, hB⟩ := h
  obtain ⟨b1, b2, b3⟩ := hB (c, cs) (List.mem_singleton.mpr rfl)
  obtain ⟨k, rfl⟩ : ∃ k, c = k + 4 := ⟨c - 4, by have : 4 ≤ c := b2; omega⟩
  refine ⟨frO (k + 4) D x, js, (tl.set k .no).map (frO (k + 4) D), ?_, ?_, fun p hp => nomatch hp⟩
  · rw [e]
    have n1 : frA (k + 4) D (.sl 1) = .sl 1 := frA_ne (by omega)
    have n3 : frA (k + 4) D (.sl 3) = .sl 3 := frA_ne (by omega)
    have nj : (js.reverse.map Ar.sl).map (frA (k + 4) D) = js.reverse.map Ar.sl := by
      rw [List.map_map]
      refine List.map_congr_left fun i hi => ?_
      show frA (k + 4) D (.sl i) = .sl i
      exact frA_ne (fun q => b3 (by show k + 4 ∈ js; rw [← q]; exact List.mem_reverse.mp hi))
    show (Mo.ins "ItemWalk" [("due", frA (k + 4) D (.sl 1)), ("made", frA (k + 4) D (.sl 3)), ("depth", .val (.int d))] :: Mo.fl (stk.reverse.map PyData.str) :: frO (k + 4) D x :: Mo.ls ((js.reverse.map Ar.sl).map (frA (k + 4) D)) :: (tl.set k .no).map (frO (k + 4) D)) = _
    rw [n1, n3, nj]
    rfl
  · clear hB b1 b2 e
    induction hI with
    | nil => exact .nil
    | cons h1 h2 h3 h4 ih =>
      rename_i j js xs xss
      have nj : k + 4 ≠ j := fun q => b3 (q ▸ List.mem_cons_self)
      refine .cons ?_ h2 h3 (ih (fun q => b3 (List.mem_cons_of_mem _ q)))
      rw [List.getElem?_map, List.getElem?_set_ne nj, h1]
      rfl
def sp_ItemWalk__m_meet : DSp := fun as m C _ => ∃ (sign : Str) (stk : List Str) (mk : List (List PyData)) (d : Int), as = [.sl 0, .val (.str sign)] ∧ Wk m stk mk d [] ∧
  ((∃ n stk' mk' d', sign ∈ SIGS ∧ MeetN sign n stk mk d stk' mk' d' ∧ wtm mk' ≤ 4000000 ∧ ∀ m', Wk m' stk' mk' d' [] → C (.val .none) m') ∨
   (∃ xs, sign = "" ∧ stk = [(">" : Str)] ∧ mk = [xs, []] ∧ wts xs ≤ 4000000 - 10 ∧ ∀ m', Wk m' [] [[.tuple xs]] d [] → C (.val (.list [])) m'))
theorem meth_at {c f : Str} {d : DSp} {g : DTA} {ss : List (Option Ar)} {m : List Mo} {due : List Str} {x js dp tl} {as : List Ar} {C : Ar → DSt → Prop} (hc : c = "ItemWalk") (hf : f = "expand" ∨ f = "act" ∨ f = "meet" ∨ f = "take") (e : m = stoR due x js dp tl)
    (hg : ∀ C : List Ar → DSt → Prop, C as ⟨some (.sl 0) :: ss, m⟩ → g ⟨some (.sl 0) :: ss, m⟩ C) (h : d (.sl 0 :: as) m (fun r m' => C r ⟨some (.sl 0) :: ss, m'⟩) (fun _ _ => False)) : dMeth c f d (dVar 0) g ⟨some (.sl 0) :: ss, m⟩ C := by
  subst e hc
  rcases hf with rfl | rfl | rfl | rfl
  all_goals exact ⟨⟨rfl, rfl⟩, hg _ h⟩
theorem meet_hit {m : List Mo} {C : Ar → List Mo → Prop} {sign : Str} {stk mk d n stk' mk' d'} (hW : Wk m stk mk d []) (hS : sign ∈ SIGS) (hM : MeetN sign n stk mk d stk' mk' d') (hw : wtm mk' ≤ 4000000) (h : ∀ m', Wk m' stk' mk' d' [] → C (.val .none) m') :
    b_ItemWalk__m_meet sp_ItemWalk__m_expand sp_ItemWalk__m_act (endsD m.length C) (startD N_ItemWalk__m_meet [.sl 0, .val (.str sign)] m) := by
  have hs := DD.sl_line
  unfold b_ItemWalk__m_meet
  refine seq_set ?_
  refine ⟨Nat.zero_le _, ?_⟩
  show dSeq _ _ _ ⟨[some (.sl 0), some (.val (.str sign)), some (.sl m.length), none], m ++ [Mo.fl []]⟩
  generalize hc : m.length = c
  have hW0 := wk_new hW []
  rw [hc] at hW0
  refine seq_cut (fun _ => False) (fun N hN => ?_) (fun δ h => h.elim)
  refine while_inv (P := fun n δ => ∃ stk mk d cs o3 m', δ = ⟨[some (.sl 0), some (.val (.str sign)), some (.sl c), o3], m'⟩ ∧ Wk m' stk mk d [(c, cs)] ∧ MeetN sign n stk mk d stk' mk' d' ∧ (cs = [] ∨ cs.length + 20 * n ≤ 900000)) ?_ (n := n) ⟨stk, mk, d, [], none, _, rfl, hW0, hM, .inl rfl⟩
  rintro n δ ⟨stk, mk, d, cs, o3, m', rfl, ⟨x, js, tl, e, hI, hB⟩, hM, hcs⟩ N' hN'
  cases hst : stk with
  | nil => subst hst; cases hM
  | cons z stk1 =>
    subst hst
    have e1 : m'[1]? = some (.fl (stk1.reverse.map PyData.str ++ [.str z])) := by
      rw [e]
      show some (Mo.fl ((z :: stk1).reverse.map PyData.str)) = _
      simp
    refine tru_due e (b := true) (by simp) _ ⟨fun _ => ?_, (nomatch ·)⟩
    refine seq_set ?_
    refine pop_at (due_at e) e1 ?_
    have hW2 := wk_due stk1 e hI hB
    show dSeq _ _ _ ⟨[some (.sl 0), some (.val (.str sign)), some (.sl c), some (.val (.str z))], m'.set 1 (.fl (stk1.reverse.map PyData.str))⟩
    generalize m'.set 1 (.fl (stk1.reverse.map PyData.str)) = m2 at hW2 ⊢
    have hW3 := hW2
    obtain ⟨x2, js2, tl2, e2, hI2, hB2⟩ := hW2
    cases hM with
    | hit =>
      refine seqif_t (eq_at (z := sign) (y := sign) rfl rfl (decide_eq_true rfl)) ?_
      exact .inl (h _ (wk_drop hW3))
    | act hz a m1 =>
      rename_i n mk1 d1
      obtain ⟨l20, c1, hc1, hc2⟩ := acts_first z a.mem
      refine seqif_f (eq_at (z := z) (y := sign) rfl rfl (decide_eq_false hz)) ?_
      refine nx_of ?_
      dsimp only
      refine if_f (tabin_at (z := z) (b := false) rfl (by rw [acts_none z a.mem]; rfl)) ?_
      refine if_t (first_at (z := z) rfl (by omega) hc1 hc2) ?_
      refine drop_at ?_
      refine meth_at rfl (.inr (.inl rfl)) e2 (as := [.val (.str z)]) (fun C h => h) ?_
      exact ⟨z, stk1, mk, d, mk1, d1, _, rfl, hW3, a, Nat.le_trans m1.le hw, fun m3 hw3 => hN' n _ (by omega) ⟨_, _, _, _, _, _, rfl, hw3, m1, hcs.imp id (by omega)⟩⟩
    | exp hz hl hp m1 =>
      rename_i n ws
      have hb := (MeetN.exp hz hl hp m1).bound hS
      rw [List.length_cons] at hb
      refine seqif_f (eq_at (z := z) (y := sign) rfl rfl (decide_eq_false hz)) ?_
      refine nx_of ?_
      dsimp only
      have hsome : (t_RULES z).isSome = true := by
        unfold pick_ at hp
        cases q : t_RULES z with
        | none => rw [q] at hp; cases hp
        | some _ => rfl
      refine if_t (tabin_at (z := z) (b := true) rfl hsome) ?_
      show dMeth "ItemWalk" "expand" sp_ItemWalk__m_expand (dVar 0) (dCons (dVar 3) (dCons (dVar 1) (dCons (dVar 2) dNil))) ⟨[some (.sl 0), some (.val (.str sign)), some (.sl c), some (.val (.str z))], m2⟩ _
      refine meth_at rfl (.inl rfl) e2 (as := [.val (.str z), .val (.str sign), .sl c]) (fun C h => h) ?_
      refine ⟨z, sign, stk1, mk, d, c, cs, ws, rfl, hW3, hl, ?_, hp, fun m3 cs' hw3 hl3 => ?_⟩
      · rcases hcs with rfl | q
        · exact Nat.zero_le _
        · omega
      · refine ⟨(nomatch ·), fun _ => ?_⟩
        refine hN' n _ (by omega) ⟨_, _, _, cs', _, _, rfl, hw3, m1, .inr ?_⟩
        rcases hcs with rfl | q
        · rw [List.length_nil] at hl3; omega
        · omega
theorem meet_end {m : List Mo} {C : Ar → List Mo → Prop} {xs : List PyData} {d : Int} (hW : Wk m [(">" : Str)] [xs, []] d []) (hw : wts xs ≤ 4000000 - 10) (h : ∀ m', Wk m' [] [[.tuple xs]] d [] → C (.val (.list [])) m') :
    b_ItemWalk__m_meet sp_ItemWalk__m_expand sp_ItemWalk__m_act (endsD m.length C) (startD N_ItemWalk__m_meet [.sl 0, .val (.str "")] m) := by
  have hs := DD.sl_line
  unfold b_ItemWalk__m_meet
  refine seq_set ?_
  refine ⟨Nat.zero_le _, ?_⟩
  show dSeq _ _ _ ⟨[some (.sl 0), some (.val (.str "")), some (.sl m.length), none], m ++ [Mo.fl []]⟩
  generalize hc : m.length = c
  have hW0 := wk_new hW []
  rw [hc] at hW0
  refine seq_cut (fun δ => ∃ o3 m', δ = ⟨[some (.sl 0), some (.val (.str "")), some (.sl c), o3], m'⟩ ∧ Wk m' [] [[.tuple xs]] d [(c, [])]) (fun N hN => ?_) ?_
  · refine while_inv (P := fun n δ => ∃ o3 m', δ = ⟨[some (.sl 0), some (.val (.str "")), some (.sl c), o3], m'⟩ ∧ ((n = 1 ∧ Wk m' [(">" : Str)] [xs, []] d [(c, [])]) ∨ (n = 0 ∧ Wk m' [] [[.tuple xs]] d [(c, [])]))) ?_ (n := 1) ⟨none, _, rfl, .inl ⟨rfl, hW0⟩⟩
    rintro n δ ⟨o3, m', rfl, ⟨rfl, hW1⟩ | ⟨rfl, hW1⟩⟩ N' hN'
    · obtain ⟨x, js, tl, e, hI, hB⟩ := hW1
      have e1 : m'[1]? = some (.fl (([] : List Str).reverse.map PyData.str ++ [.str ">"])) := by
        rw [e]
        rfl
      refine tru_due e (b := true) rfl _ ⟨fun _ => ?_, (nomatch ·)⟩
      refine seq_set ?_
      refine pop_at (due_at e) e1 ?_
      have hW2 := wk_due [] e hI hB
      show dSeq _ _ _ ⟨[some (.sl 0), some (.val (.str "")), some (.sl c), some (.val (.str ">"))], m'.set 1 (.fl (([] : List Str).reverse.map PyData.str))⟩
      generalize m'.set 1 (.fl (([] : List Str).reverse.map PyData.str)) = m2 at hW2 ⊢
      have hW3 := hW2
      obtain ⟨x2, js2, tl2, e2, hI2, hB2⟩ := hW2
      have a : ActP (">" : Str) [xs, []] d [[.tuple xs]] d := ActP.cls (xs := xs) (ys := []) (mk := [])
      obtain ⟨l20, c1, hc1, hc2⟩ := acts_first ">" a.mem
      refine seqif_f (eq_at (z := ">") (y := "") rfl rfl (by decide +kernel)) ?_
      refine nx_of ?_
      dsimp only
      refine if_f (tabin_at (z := ">") (b := false) rfl (by rw [acts_none _ a.mem]; rfl)) ?_
      refine if_t (first_at (z := ">") rfl (by omega) hc1 hc2) ?_
      refine drop_at ?_
      refine meth_at rfl (.inr (.inl rfl)) e2 (as := [.val (.str ">")]) (fun C h => h) ?_
      refine ⟨">", [], [xs, []], d, _, d, _, rfl, hW3, a, ?_, fun m3 hw3 => hN' 0 _ (by omega) ⟨_, _, rfl, .inr ⟨rfl, hw3⟩⟩⟩
      simp only [wtm, wts, wt_tup]
      omega
    · have hW2 := hW1
      obtain ⟨x, js, tl, e, hI, hB⟩ := hW1
      refine tru_due e (b := false) rfl _ ⟨(nomatch ·), fun _ => ?_⟩
      exact hN _ ⟨_, _, rfl, hW2⟩
  · rintro δ ⟨o3, m', rfl, hW1⟩
    obtain ⟨b1, _⟩ := wk_side [] hW1
    show (match cont ⟨[some (.sl 0), some (.val (.str "")), some (.sl c), o3], m'⟩ c with
      | some xs => (endsD c C).rt (.val (.list xs)) (frS ⟨[some (.sl 0), some (.val (.str "")), some (.sl c), o3], m'⟩ c (.list xs))
      | none => False)
    have hcn : cont ⟨[some (.sl 0), some (.val (.str "")), some (.sl c), o3], m'⟩ c = some [] := by
      unfold cont
      rw [show (⟨[some (.sl 0), some (.val (.str "")), some (.sl c), o3], m'⟩ : DSt).m[c]? = _ from b1]
    rw [hcn]
    exact .inl (h _ (wk_frz _ hW1))
theorem l_ItemWalk__m_meet : ∀ as m C Ex, sp_ItemWalk__m_meet as m C Ex → b_ItemWalk__m_meet sp_ItemWalk__m_expand sp_ItemWalk__m_act (endsD m.length C) (startD N_ItemWalk__m_meet as m) := by
  rintro as m C Ex ⟨sign, stk, mk, d, rfl, hW, ⟨n, stk', mk', d', hS, hM, hw, h⟩ | ⟨xs, rfl, rfl, rfl, hw, h⟩⟩
  · exact meet_hit hW hS hM hw h
  · exact meet_end hW hw h
end K16

namespace K16
open PySem PySem.Spec PyProof.Rows L2 MM
/-! ### read_item -/
theorem meth_at2 {i : Nat} {f : Str} {d : DSp} {g : DTA} {s : List (Option Ar)} {m : List Mo} {due : List Str} {x js dp tl} {as : List Ar} {C : Ar → DSt → Prop} (hi : s[i]? = some (some (.sl 0))) (hf : f = "expand" ∨ f = "act" ∨ f = "meet" ∨ f = "take") (e : m = stoR due x js dp tl)
    (hg : ∀ C : List Ar → DSt → Prop, C as ⟨s, m⟩ → g ⟨s, m⟩ C) (h : d (.sl 0 :: as) m (fun r m' => C r ⟨s, m'⟩) (fun _ _ => False)) : dMeth "ItemWalk" f d (dVar i) g ⟨s, m⟩ C := by
  unfold dMeth dVar
  rw [show (⟨s, m⟩ : DSt).s[i]? = _ from hi]
  subst e
  rcases hf with rfl | rfl | rfl | rfl
  all_goals exact ⟨⟨rfl, rfl⟩, hg _ h⟩
theorem term_at {i : Nat} {z : Str} {δ : DSt} (hi : δ.s[i]? = some (some (.val (tokD z)))) (hz : TokOk z) : ∀ C : List Ar → DSt → Prop, C [.val (.str (termOf z))] δ → dCons (dCall sp_terminal (dCons (dVar i) dNil)) dNil δ C := by
  intro C h
  unfold dCons dCall dVar
  dsimp only
  rw [hi]
  exact ⟨z, rfl, hz, h⟩
theorem var_at {i : Nat} {a : Ar} {δ : DSt} (hi : δ.s[i]? = some (some a)) : ∀ C : List Ar → DSt → Prop, C [a] δ → dCons (dVar i) dNil δ C := by
  intro C h
  unfold dCons dVar
  rw [hi]
  exact h
theorem Eat.last {t stk mk d} (h : Eat t [] stk mk d) : ∃ xs, t = .tuple xs ∧ stk = [(">" : Str)] ∧ mk = [xs, []] := by
  cases h with
  | fin e => exact ⟨_, e, rfl, rfl⟩
theorem ix_sl {fa : DTE} {s m j k} {xs : List PyData} {v : PyData} {C : Ar → DSt → Prop} (ha : ∀ C : Ar → DSt → Prop, C (.sl j) ⟨s, m⟩ → fa ⟨s, m⟩ C) (hj : m[j]? = some (Mo.fl xs)) (hv : atI xs k = some v) (h : C (.val v) ⟨s, m⟩) : dIx fa (dC (.int k)) ⟨s, m⟩ C := by
  refine ha _ ?_
  show ixA ⟨s, m⟩ (.sl j) k (fun d => C d ⟨s, m⟩)
  unfold ixA
  dsimp only
  rw [hj]
  dsimp only
  rw [hv]
  exact h
def sp_read_item : DSp := fun as m C _ => ∃ (r : List Str) (t : PyData), as = [.val (.tuple (r.map tokD))] ∧ m = [] ∧ Eat t r ["ITEM"] [[]] 0 ∧ wt t ≤ 3999000 ∧ C (.val t) []
theorem depth_at {i : Nat} {s : List (Option Ar)} {m : List Mo} {due x js d tl} (hi : s[i]? = some (some (.sl 0))) (e : m = stoR due x js d tl) (hd : d ≤ 60) : ∀ C : Bool → DSt → Prop, C false ⟨s, m⟩ → dCmp cGt (dFld "ItemWalk" "depth" (dVar i)) (dC k_DEEPEST) ⟨s, m⟩ C := by
  intro C h
  unfold dCmp dFld dVar
  rw [show (⟨s, m⟩ : DSt).s[i]? = _ from hi]
  subst e
  refine ⟨rfl, ?_⟩
  have q : decide (60 < d) = false := by simp; omega
  show C (decide (d > 60)) _
  have : decide (d > 60) = false := by simp; omega
  rw [this]
  exact h
theorem l_read_item : ∀ as m C Ex, sp_read_item as m C Ex → b_read_item sp_ItemWalk__m___init__ sp_ItemWalk__m_meet sp_terminal sp_ItemWalk__m_take (endsD m.length C) (startD N_read_item as m) := by
  rintro as m C Ex ⟨r, t, rfl, rfl, hE, hw, h⟩
  have hs := DD.sl_line
  unfold b_read_item
  refine seq_set ?_
  refine ⟨rfl, rfl, rfl, ?_⟩
  show dSeq _ _ _ ⟨[some (.val (.tuple (r.map tokD))), some (.sl 0), none, none, none], stoR ["ITEM"] (.fl []) [2] 0 []⟩
  have hW0 : Wk (stoR ["ITEM"] (.fl []) [2] 0 []) ["ITEM"] [[]] 0 [] := ⟨.fl [], [2], [], rfl, .cons rfl (.inl rfl) (by simp) .nil, fun p hp => nomatch hp⟩
  refine seq_cut (fun δ => ∃ o2 o3 o4 m stk mk d, δ = ⟨[some (.val (.tuple (r.map tokD))), some (.sl 0), o2, o3, o4], m⟩ ∧ Wk m stk mk d [] ∧ Eat t [] stk mk d) (fun N hN => ?_) ?_
  · show dForL _ _ none (enumD 0 (r.map tokD)) _ _
    refine forL_inv (P := fun its δ => ∃ zs k o2 o3 o4 m stk mk d, its = enumD k (zs.map tokD) ∧ δ = ⟨[some (.val (.tuple (r.map tokD))), some (.sl 0), o2, o3, o4], m⟩ ∧ Wk m stk mk d [] ∧ Eat t zs stk mk d) ?_ ?_ _ _ ⟨r, 0, none, none, none, _, _, _, _, rfl, rfl, hW0, hE⟩
    · rintro it its δ ⟨zs, k, o2, o3, o4, m, stk, mk, d, e1, rfl, hW, hE⟩ N' hN'
      cases zs with
      | nil => cases e1
      | cons z zs =>
        injection e1 with e1 e2
        subst e1 e2
        refine ⟨rfl, ?_⟩
        refine dgs2 ?_
        show dSeq _ _ _ ⟨[some (.val (.tuple (r.map tokD))), some (.sl 0), some (.val (.int k)), some (.val (tokD z)), o4], m⟩
        have hz := hE.toks z List.mem_cons_self
        obtain ⟨n, stk1, mk1, d1, mk2, d2, hM, hd1, hT, hE2⟩ := eat_step hE
        have hle := hE2.le
        have hle1 : wtm mk1 ≤ wtm mk2 := by
          cases hT with
          | nm => simp only [wtm, wts_app]; omega
          | _ => exact Nat.le_refl _
        have hW1 := hW
        obtain ⟨x, js, tl, e, hI, hB⟩ := hW1
        refine seq_set ?_
        refine meth_at2 (i := 1) rfl (.inr (.inr (.inl rfl))) e (term_at (z := z) rfl hz) ?_
        refine ⟨termOf z, stk, mk, d, rfl, hW, .inl ⟨n, stk1, mk1, d1, term_sig hz, hM, by omega, fun m2 hW2 => ?_⟩⟩
        show dSeq _ _ _ ⟨[some (.val (.tuple (r.map tokD))), some (.sl 0), some (.val (.int k)), some (.val (tokD z)), some (.val .none)], m2⟩
        refine seqif_f (δ' := ⟨[some (.val (.tuple (r.map tokD))), some (.sl 0), some (.val (.int k)), some (.val (tokD z)), some (.val .none)], m2⟩) (fun C h => h) ?_
        refine nx_of ?_
        dsimp only
        have hW3 := hW2
        obtain ⟨x2, js2, tl2, e2, hI2, hB2⟩ := hW2
        refine seqif_f (depth_at (i := 1) rfl e2 hd1) ?_
        refine nx_of ?_
        dsimp only
        refine drop_at ?_
        refine meth_at2 (i := 1) rfl (.inr (.inr (.inr rfl))) e2 (var_at (a := .val (tokD z)) rfl) ?_
        exact ⟨z, stk1, mk1, d1, mk2, d2, rfl, hW3, hT, by omega, fun m4 hW4 => hN' _ ⟨zs, k + 1, _, _, _, m4, stk1, mk2, d2, rfl, rfl, hW4, hE2⟩⟩
    · rintro δ ⟨zs, k, o2, o3, o4, m, stk, mk, d, e1, rfl, hW, hE⟩
      cases zs with
      | nil => exact hN _ ⟨_, _, _, _, _, _, _, rfl, hW, hE⟩
      | cons z zs => cases e1
  · rintro δ ⟨o2, o3, o4, m, stk, mk, d, rfl, hW, hE⟩
    obtain ⟨xs, rfl, rfl, rfl⟩ := hE.last
    have hW1 := hW
    obtain ⟨x, js, tl, e, hI, hB⟩ := hW1
    refine seq_set ?_
    refine meth_at2 (i := 1) rfl (.inr (.inr (.inl rfl))) e (as := [.val (.str "")]) (fun C h => h) ?_
    rw [wt_tup] at hw
    refine ⟨"", _, _, d, rfl, hW, .inr ⟨xs, rfl, rfl, rfl, by omega, fun m2 hW2 => ?_⟩⟩
    show dSeq _ _ _ ⟨[some (.val (.tuple (r.map tokD))), some (.sl 0), o2, o3, some (.val (.list []))], m2⟩
    refine seqif_f (δ' := ⟨[some (.val (.tuple (r.map tokD))), some (.sl 0), o2, o3, some (.val (.list []))], m2⟩) (fun C h => h) ?_
    refine nx_of ?_
    dsimp only
    obtain ⟨x2, js2, tl2, e2, hI2, hB2⟩ := hW2
    cases hI2 with
    | cons h1 h2 h3 h4 =>
      cases h4
      rename_i j
      refine ix_sl (j := j) (xs := [.tuple xs]) (v := .tuple xs) (fun C h => ?_) h1 rfl ?_
      · subst e2
        exact ⟨rfl, h⟩
      · exact .inr ⟨fun o ho => (by cases ho), h⟩
end K16

namespace K16
open PySem PySem.Spec PyProof.Rows L2 MM
local macro_rules | `(tactic| walk_at "w") => `(tactic| conv => whnf)
/-! ### an item is small -/
theorem wts_le (B : Nat) : ∀ xs : List PyData, (∀ x ∈ xs, wt x ≤ B) → wts xs ≤ xs.length * B
  | [], _ => Nat.zero_le _
  | x :: xs, h => by
    have h1 := h x List.mem_cons_self
    have h2 := wts_le B xs fun y hy => h y (List.mem_cons_of_mem _ hy)
    rw [wts, List.length_cons, Nat.succ_mul]
    omega
def FW : Nat → Nat
  | 0 => 5
  | n + 1 => 3 * FW n + 5
theorem FW_ge : ∀ n, 5 ≤ FW n
  | 0 => Nat.le_refl _
  | n + 1 => by show 5 ≤ 3 * FW n + 5; omega
theorem formLeaf_wt {d} (h : FormLeaf d) : wt d ≤ 5 := by
  rcases h with rfl | ⟨z, _, rfl⟩ <;> simp only [wt_tup, wts, wt_str] <;> omega
theorem form_wt : ∀ n d, FormOk n d → wt d ≤ FW n
  | 0, d, h => by
    rcases h with h | ⟨mo, nm, _, _, rfl⟩
    · exact formLeaf_wt h
    · simp only [wt_tup, wts, wt_str]; exact Nat.le_refl 5
  | n + 1, d, h => by
    have := FW_ge n
    rcases h with h | ⟨mo, nm, ps, _, _, rfl, h3, hp⟩
    · have := formLeaf_wt h
      show _ ≤ 3 * FW n + 5
      omega
    · have h2 := wts_le (FW n) ps fun p hp' => form_wt n p (hp p hp')
      have h4 := Nat.mul_le_mul_right (FW n) h3
      simp only [wt_tup, wts, wt_str]
      show _ ≤ 3 * FW n + 5
      omega
def TW : Nat → Nat
  | 0 => 5
  | n + 1 => 4 * TW n + 700
theorem leaf_wt {d} (h : ToldLeaf d) : wt d ≤ 5 := by
  rcases h with ⟨mo, nm, _, _, rfl⟩ | ⟨mo, nm, _, _, rfl⟩ <;> simp only [wt_tup, wts, wt_str] <;> omega
theorem told_wt : ∀ n d, TOk n d → wt d ≤ TW n
  | 0, d, h => leaf_wt h
  | n + 1, d, h => by
    have e : TW (n + 1) = 4 * TW n + 700 := rfl
    rcases h with h | h
    · have := leaf_wt h
      omega
    · cases h with
      | let_ _ ha hb =>
        have := told_wt n _ ha
        have := told_wt n _ hb
        simp only [wt_tup, wts, wt_str]
        omega
      | if_ ha hb hc =>
        have := told_wt n _ ha
        have := told_wt n _ hb
        have := told_wt n _ hc
        simp only [wt_tup, wts, wt_str]
        omega
      | same ha hb =>
        have := told_wt n _ ha
        have := told_wt n _ hb
        simp only [wt_tup, wts, wt_str]
        omega
      | case_ ht h0 h3 ha =>
        rename_i t arms
        have := told_wt n _ ht
        have h2 := wts_le (TW n + 201) arms fun r hr => by
          obtain ⟨f, e, rfl, hf, he⟩ := ha r hr
          have := form_wt 3 f hf
          have e3 : FW 3 = 200 := rfl
          have := told_wt n e he
          simp only [wt_tup, wts]
          omega
        have h4 := Nat.mul_le_mul_right (TW n + 201) h3
        simp only [wt_tup, wts, wt_str]
        omega
      | call _ _ h0 h3 ha =>
        rename_i mo nm ts _ _
        have h2 := wts_le (TW n) ts fun r hr => told_wt n r (ha r hr)
        have h4 := Nat.mul_le_mul_right (TW n) h3
        simp only [wt_tup, wts, wt_str]
        omega
      | make _ _ h3 ha =>
        rename_i mo nm ts _ _
        have h2 := wts_le (TW n) ts fun r hr => told_wt n r (ha r hr)
        have h4 := Nat.mul_le_mul_right (TW n) h3
        simp only [wt_tup, wts, wt_str]
        omega
theorem TW_le {n : Nat} (h : n ≤ 6) : TW n ≤ 1000000 := by
  match n, h with
  | 0, _ => decide
  | 1, _ => decide
  | 2, _ => decide
  | 3, _ => decide
  | 4, _ => decide
  | 5, _ => decide
  | 6, _ => decide
theorem of_wt {d} (h : OfD d) : wt d ≤ 3 := by
  obtain ⟨m, n, rfl, _, _⟩ := h
  simp only [wt_tup, wts, wt_str]
  exact Nat.le_refl 3
theorem maybe_wt {d} (h : MaybeOf d) : wt d ≤ 3 := by
  rcases h with rfl | h
  · show 1 ≤ 3; omega
  · exact of_wt h
theorem item_wt {d} (h : ItemD d) : wt d ≤ 3999000 := by
  cases h with
  | face h0 h4 ha =>
    rename_i ts
    have h2 := wts_le 4 ts fun r hr => by
      rcases ha r hr with hz | ⟨hz, hq⟩
      · simp only [wt_tup, wts, wt_str]; omega
      · show 1 + (1 + (1 + (1 + 0))) ≤ 4; omega
    simp only [wt_tup, wts, wt_str]
    omega
  | use _ _ => simp only [wt_tup, wts, wt_str]; omega
  | all _ => simp only [wt_tup, wts, wt_str]; omega
  | open_ _ _ h0 h4 ha =>
    rename_i z w ts _ _
    have h2 := wts_le 4 ts fun r hr => by
      obtain ⟨z, _, rfl⟩ := ha r hr
      show 1 ≤ 4; omega
    simp only [wt_tup, wts, wt_str]
    omega
  | kind _ h0 h4 ha =>
    rename_i z ts _
    have h2 := wts_le 20 ts fun r hr => by
      obtain ⟨z, os, _, h3, ho, rfl⟩ := ha r hr
      have h2 := wts_le 3 os fun o ho' => of_wt (ho o ho')
      simp only [wt_tup, wts, wt_str]
      omega
    simp only [wt_tup, wts, wt_str]
    omega
  | def_ _ h3 ha ho hk ht =>
    rename_i z ts o t k _
    have h2 := wts_le 5 ts fun r hr => by
      obtain ⟨z, o, _, ho, rfl⟩ := ha r hr
      have := maybe_wt ho
      simp only [wt_tup, wts, wt_str]
      omega
    have := maybe_wt ho
    have := told_wt k t ht
    have := TW_le hk
    simp only [wt_tup, wts, wt_str]
    omega
/-! ### an item is plain -/
theorem Plain.mono : ∀ {n m : Nat} {d : PyData}, n ≤ m → Plain n d → Plain m d
  | _, _, _, _, .str => .str
  | _, _, _, _, .int => .int
  | _, _, _, _, .none => .none
  | n + 1, m, _, h, .tuple h1 h2 => by
    obtain ⟨k, rfl⟩ : ∃ k, m = k + 1 := ⟨m - 1, by omega⟩
    exact .tuple h1 fun x hx => (h2 x hx).mono (by omega)
/-- all parts are plain -/
inductive PlainL : Nat → List PyData → Prop
  | nil {n} : PlainL n []
  | cons {n x xs} : Plain n x → PlainL n xs → PlainL n (x :: xs)
theorem PlainL.all {n} : ∀ {xs}, PlainL n xs → ∀ x ∈ xs, Plain n x
  | [], _, x, hx => nomatch hx
  | y :: ys, .cons h1 h2, x, hx => (List.mem_cons.mp hx).elim (fun e => e ▸ h1) (h2.all x)
theorem pl {n : Nat} {xs : List PyData} (h : PlainL n xs) (hl : xs.length ≤ 100) : Plain (n + 1) (.tuple xs) := .tuple hl h.all
theorem formLeaf_pl {d} (h : FormLeaf d) : Plain 1 d := by
  rcases h with rfl | ⟨z, _, rfl⟩
  · exact pl (.cons .str .nil) (by show 1 ≤ 100; decide)
  · exact pl (.cons .str (.cons .str .nil)) (by show 2 ≤ 100; decide)
theorem form_pl : ∀ n d, FormOk n d → Plain (2 * n + 2) d
  | 0, d, h => by
    rcases h with h | ⟨mo, nm, _, _, rfl⟩
    · exact (formLeaf_pl h).mono (by omega)
    · exact pl (.cons .str (.cons .str (.cons .str (.cons (pl .nil (by show 0 ≤ 100; decide)) .nil)))) (by show 4 ≤ 100; decide)
  | n + 1, d, h => by
    rcases h with h | ⟨mo, nm, ps, _, _, rfl, h3, hp⟩
    · exact (formLeaf_pl h).mono (by omega)
    · have hps : Plain (2 * n + 3) (.tuple ps) := .tuple (by omega) fun p hp' => form_pl n p (hp p hp')
      exact pl (n := 2 * n + 3) (.cons .str (.cons .str (.cons .str (.cons hps .nil)))) (by show 4 ≤ 100; decide)
theorem leaf_pl {d} (h : ToldLeaf d) : Plain 2 d := by
  rcases h with ⟨mo, nm, _, _, rfl⟩ | ⟨mo, nm, _, _, rfl⟩
  · exact pl (.cons .str (.cons .str (.cons .str .nil))) (by show 3 ≤ 100; decide)
  · exact pl (.cons .str (.cons .str (.cons .str (.cons (pl .nil (by show 0 ≤ 100; decide)) .nil)))) (by show 4 ≤ 100; decide)
theorem told_pl : ∀ n d, TOk n d → Plain (3 * n + 8) d
  | 0, d, h => (leaf_pl h).mono (by omega)
  | n + 1, d, h => by
    have up : ∀ {d}, TOk n d → Plain (3 * n + 10) d := fun h => (told_pl n _ h).mono (by omega)
    rcases h with h | h
    · exact (leaf_pl h).mono (by omega)
    · cases h with
      | let_ _ ha hb => exact pl (n := 3 * n + 10) (.cons .str (.cons .str (.cons (up ha) (.cons (up hb) .nil)))) (by show 4 ≤ 100; decide)
      | if_ ha hb hc => exact pl (n := 3 * n + 10) (.cons .str (.cons (up ha) (.cons (up hb) (.cons (up hc) .nil)))) (by show 4 ≤ 100; decide)
      | same ha hb => exact pl (n := 3 * n + 10) (.cons .str (.cons (up ha) (.cons (up hb) .nil))) (by show 3 ≤ 100; decide)
      | case_ ht h0 h3 ha =>
        rename_i t arms
        have hr : ∀ r ∈ arms, Plain (3 * n + 9) r := fun r hr => by
          obtain ⟨f, e, rfl, hf, he⟩ := ha r hr
          exact pl (n := 3 * n + 8) (.cons ((form_pl 3 f hf).mono (by omega)) (.cons (told_pl n e he) .nil)) (by show 2 ≤ 100; decide)
        exact pl (n := 3 * n + 10) (.cons .str (.cons (up ht) (.cons (.tuple (by omega) hr) .nil))) (by show 3 ≤ 100; decide)
      | call _ _ h0 h3 ha =>
        rename_i mo nm ts _ _
        exact pl (n := 3 * n + 10) (.cons .str (.cons .str (.cons .str (.cons (.tuple (by omega) fun r hr => (told_pl n r (ha r hr)).mono (by omega)) .nil)))) (by show 4 ≤ 100; decide)
      | make _ _ h3 ha =>
        rename_i mo nm ts _ _
        exact pl (n := 3 * n + 10) (.cons .str (.cons .str (.cons .str (.cons (.tuple (by omega) fun r hr => (told_pl n r (ha r hr)).mono (by omega)) .nil)))) (by show 4 ≤ 100; decide)
theorem of_pl {d} (h : OfD d) : Plain 1 d := by
  obtain ⟨m, n, rfl, _, _⟩ := h
  exact pl (.cons .str (.cons .str .nil)) (by show 2 ≤ 100; decide)
theorem maybe_pl {d} (h : MaybeOf d) : Plain 1 d := by
  rcases h with rfl | h
  · exact .none
  · exact of_pl h
theorem item_pl {d} (h : ItemD d) : Plain 30 d := by
  cases h with
  | face h0 h4 ha =>
    rename_i ts
    have hr : ∀ r ∈ ts, Plain 28 r := fun r hr => by
      rcases ha r hr with hz | ⟨hz, hq⟩
      · exact pl (.cons .str (.cons .str .nil)) (by show 2 ≤ 100; decide)
      · exact pl (.cons .str (.cons .str (.cons .int .nil))) (by show 3 ≤ 100; decide)
    exact pl (n := 29) (.cons .str (.cons (.tuple (by omega) hr) .nil)) (by show 2 ≤ 100; decide)
  | use _ _ => exact pl (.cons .str (.cons .str (.cons .str .nil))) (by show 3 ≤ 100; decide)
  | all _ => exact pl (n := 29) (.cons .str (.cons .str (.cons .str (.cons (pl .nil (by show 0 ≤ 100; decide)) .nil)))) (by show 4 ≤ 100; decide)
  | open_ _ _ h0 h4 ha =>
    rename_i z w ts _ _
    have hr : ∀ r ∈ ts, Plain 28 r := fun r hr => by
      obtain ⟨z, _, rfl⟩ := ha r hr
      exact .str
    exact pl (n := 29) (.cons .str (.cons .str (.cons .str (.cons (.tuple (by omega) hr) .nil)))) (by show 4 ≤ 100; decide)
  | kind _ h0 h4 ha =>
    rename_i z ts _
    have hr : ∀ r ∈ ts, Plain 28 r := fun r hr => by
      obtain ⟨z, os, _, h3, ho, rfl⟩ := ha r hr
      exact pl (n := 27) (.cons .str (.cons (.tuple (by omega) fun o ho' => (of_pl (ho o ho')).mono (by omega)) .nil)) (by show 2 ≤ 100; decide)
    exact pl (n := 29) (.cons .str (.cons .str (.cons (.tuple (by omega) hr) .nil))) (by show 3 ≤ 100; decide)
  | def_ _ h3 ha ho hk ht =>
    rename_i z ts o t k _
    have hr : ∀ r ∈ ts, Plain 28 r := fun r hr => by
      obtain ⟨z, o, _, ho, rfl⟩ := ha r hr
      exact pl (n := 27) (.cons .str (.cons ((maybe_pl ho).mono (by omega)) .nil)) (by show 2 ≤ 100; decide)
    exact pl (n := 29) (.cons .str (.cons .str (.cons (.tuple (by omega) hr) (.cons ((maybe_pl ho).mono (by omega)) (.cons ((told_pl k t ht).mono (by omega)) .nil))))) (by show 5 ≤ 100; decide)
/-! ### an item's row is short -/
theorem item_len {d r} (h : ItemR d r) : r.length < 4000000 := by
  cases h with
  | face h0 h4 ha =>
    rename_i ts rows
    have b := btw_bound "," 4 rows (ha.bound ShownR.bound)
    have e := ha.len
    have := Nat.mul_le_mul_right 5 (show rows.length ≤ 4 by omega)
    simp only [List.length_append, List.length_cons, List.length_nil]
    omega
  | use _ _ =>
    rename_i z y _ _
    by_cases e : y = ""
    · rw [if_pos e]; show 3 < 4000000; decide
    · rw [if_neg e]; show 5 < 4000000; decide
  | all _ => show 3 < 4000000; decide
  | open_ _ _ h0 h4 ha =>
    rename_i z w ts rows _ _
    have e := ha.len
    have b := inB_le (B := 1) (show rows.length ≤ 4 by omega) (ha.bound fun d r h => by obtain ⟨z, _, _, rfl⟩ := h; exact Nat.le_refl 1)
    have c : (if w = "hiding" then [("hiding" : Str)] else []).length ≤ 1 := by by_cases q : w = "hiding" <;> simp [q]
    simp only [List.length_append, List.length_cons, List.length_nil]
    omega
  | kind _ h0 h4 ha =>
    rename_i z ts rows _
    have b := btw_bound "|" 19 rows (ha.bound MakerR.bound)
    have e := ha.len
    have := Nat.mul_le_mul_right 20 (show rows.length ≤ 4 by omega)
    simp only [List.length_append, List.length_cons, List.length_nil]
    omega
  | def_ _ h3 ha ho hk hT hp =>
    rename_i z ts rows o tt rt kk _
    have e := ha.len
    have b := inB_le (B := 5) (show rows.length ≤ 4 by omega) (ha.bound GivenR.bound)
    have c := ofR_len ho
    have p := hp.bound (BareR.bound kk)
    have q := BB_le hk
    simp only [List.length_append, List.length_cons, List.length_nil]
    omega
end K16

namespace K16
open PySem PySem.Spec PyProof.Rows L2 MM
local macro_rules | `(tactic| walk_at "w") => `(tactic| conv => whnf)
def sp_law : DSp := fun as m C _ => ∃ (ns : List Int), as = [.val (.list (ns.map PyData.int))] ∧ m = [] ∧ C (.val (.bool true)) m
theorem nat_of {r : Int} (h : 0 ≤ r) : ∃ k : Nat, r = (k : Int) := ⟨r.toNat, (Int.toNat_of_nonneg h).symm⟩
/-- the row of an item, as tokens, read -/
theorem row_reads {d r} (hd : ItemD d) (hr : ItemR d r) : Eat d r ["ITEM"] [[]] 0 ∧ (∀ z ∈ r, TokOk z) ∧ wt d ≤ 3999000 ∧ r.length < 4000000 ∧ Plain 30 d := ⟨eat_item hr, (eat_item hr).toks, item_wt hd, item_len hr, item_pl hd⟩
theorem l_law : ∀ as m C Ex, sp_law as m C Ex → b_law sp__law_draw sp__law_item sp__law_next sp__law_tokens sp__law_item_row (sp__law_same 60) sp_read_item (endsD m.length C) (startD N_law as m) := by
  rintro as m C Ex ⟨ns, rfl, rfl, h⟩
  have hs := DD.sl_line
  unfold b_law
  refine seq_cut (fun δ => ∃ ds, δ = ⟨[some (.val (.list (ns.map PyData.int))), some (.sl 0), none, none, none], [.fl ds]⟩ ∧ DrawOk ds) (fun N hN => ?_) ?_
  · walk_at "w"
    refine ⟨ns, rfl, rfl, fun ds hd => ?_⟩
    exact hN _ ⟨ds, rfl, hd⟩
  rintro δ ⟨ds, rfl, hd⟩
  refine seq_cut (fun δ => ∃ o2 o3 o4 ds, δ = ⟨[some (.val (.list (ns.map PyData.int))), some (.sl 0), o2, o3, o4], [.fl ds]⟩ ∧ DrawOk ds) (fun N hN => ?_) ?_
  · walk_at "w"
    refine ⟨by decide, by decide, ?_⟩
    refine forR_inv 0 6 (P := fun _ δ => ∃ o2 o3 o4 ds, δ = ⟨[some (.val (.list (ns.map PyData.int))), some (.sl 0), o2, o3, o4], [.fl ds]⟩ ∧ DrawOk ds) ?_ (fun δ hP => hN _ hP) ⟨none, none, none, ds, rfl, hd⟩
    rintro k δ hk ⟨o2, o3, o4, ds, rfl, hd⟩ N2 hN2
    walk_at "w"
    refine ⟨ds, 5, rfl, rfl, hd, by decide, by decide, fun r ds1 r0 r1 hd1 => ?_⟩
    obtain ⟨j, rfl⟩ := nat_of r0
    walk_at "w"
    refine ⟨ds1, 20, rfl, rfl, hd1, by decide, by decide, fun r2 ds2 r3 r4 hd2 => ?_⟩
    have ej : (2 : Int) + (j : Int) = ((2 + j : Nat) : Int) := by omega
    walk_at "w"
    refine ⟨ds2, 0 + k, 6 + r2, 2 + j, congrArg (fun z => [Ar.sl 0, Ar.val (.int (0 + (k : Int))), Ar.val (.int z), Ar.val (.int (6 + r2))]) ej, rfl, by omega, hd2, fun d hit ds3 hd3 => ?_⟩
    walk_at "w"
    refine ⟨ds3, d, rfl, rfl, hd3, hit, fun row hrow ds4 hd4 => ?_⟩
    obtain ⟨p1, p2, p3, p4, p5⟩ := row_reads hit hrow
    walk_at "w"
    refine ⟨row, rfl, rfl, p4, p2, ?_⟩
    walk_at "w"
    refine ⟨row, d, rfl, rfl, p1, p3, ?_⟩
    walk_at "w"
    refine ⟨d, 30, by decide, rfl, p5, ?_⟩
    walk_at "w"
    refine ⟨(nomatch ·), fun _ => ?_⟩
    walk_at "w"
    refine ⟨row, d, rfl, rfl, p1, p3, ?_⟩
    walk_at "w"
    refine ⟨d, 30, by decide, rfl, p5, ?_⟩
    walk_at "w"
    refine ⟨(nomatch ·), fun _ => ?_⟩
    exact hN2 _ ⟨_, _, _, ds4, rfl, hd4⟩
  · rintro δ ⟨o2, o3, o4, ds, rfl, hd⟩
    walk_at "w"
    refine ⟨ds, 5, rfl, rfl, hd, by decide, by decide, fun r ds1 r0 r1 hd1 => ?_⟩
    walk_at "w"
    refine ⟨ds1, r, 40, 6, rfl, rfl, by decide, hd1, fun d hit ds2 hd2 => ?_⟩
    walk_at "w"
    refine ⟨ds2, d, rfl, rfl, hd2, hit, fun row hrow ds3 hd3 => ?_⟩
    obtain ⟨p1, p2, p3, p4, p5⟩ := row_reads hit hrow
    walk_at "w"
    refine ⟨row, rfl, rfl, p4, p2, ?_⟩
    walk_at "w"
    refine ⟨row, d, rfl, rfl, p1, p3, ?_⟩
    walk_at "w"
    refine ⟨d, 30, by decide, rfl, p5, ?_⟩
    exact .inr ⟨fun o ho => (by cases ho), h⟩
end K16

namespace K16
open PySem PySem.Spec PyProof.Rows L2 MM
/-! ### every def keeps its promise -/
section
variable {P : Program} {w : World} {K : PySem.W.Frag} {mg : Str → Option Value} {base : Heap}
theorem g__law_draw (T : Txt K w mg) : Ok P w K mg base "_law_draw" 1 ["script"] sp__law_draw := ok_mk (g := fun _ => b__law_draw) T.d__law_draw sc__law_draw (by intro as m C Ex h; first | done | (repeat first | (obtain ⟨e, _⟩ := h; subst e; rfl) | (obtain ⟨_, h⟩ := h))) (fun _ _ _ _ _ _ us hl => match us, hl with | [_], _ => rfl) (fun f cdv A outer s H E W V hr tk => d__law_draw T  f cdv A outer s H E W V hr tk) l__law_draw
theorem g__law_next (T : Txt K w mg) : Ok P w K mg base "_law_next" 1 ["draw", "many"] sp__law_next := ok_mk (g := fun _ => b__law_next) T.d__law_next sc__law_next (by intro as m C Ex h; first | done | (repeat first | (obtain ⟨e, _⟩ := h; subst e; rfl) | (obtain ⟨_, h⟩ := h))) (fun _ _ _ _ _ _ us hl => match us, hl with | [_, _], _ => rfl) (fun f cdv A outer s H E W V hr tk => d__law_next T  f cdv A outer s H E W V hr tk) l__law_next
theorem g__law_pick (T : Txt K w mg) : Ok P w K mg base "_law_pick" 2 ["draw", "row"] sp__law_pick := ok_mk (g := fun _ => b__law_pick sp__law_next) T.d__law_pick sc__law_pick (by intro as m C Ex h; first | done | (repeat first | (obtain ⟨e, _⟩ := h; subst e; rfl) | (obtain ⟨_, h⟩ := h))) (fun _ _ _ _ _ _ us hl => match us, hl with | [_, _], _ => rfl) (fun f cdv A outer s H E W V hr tk => d__law_pick T (G__law_next := (g__law_next T)) f cdv A outer s H E W V hr tk) l__law_pick
theorem g__law_small (T : Txt K w mg) : Ok P w K mg base "_law_small" 3 ["draw"] sp__law_small := ok_mk (g := fun _ => b__law_small sp__law_pick) T.d__law_small sc__law_small (by intro as m C Ex h; first | done | (repeat first | (obtain ⟨e, _⟩ := h; subst e; rfl) | (obtain ⟨_, h⟩ := h))) (fun _ _ _ _ _ _ us hl => match us, hl with | [_], _ => rfl) (fun f cdv A outer s H E W V hr tk => d__law_small T (G__law_pick := (g__law_pick T)) f cdv A outer s H E W V hr tk) l__law_small
theorem g__law_great (T : Txt K w mg) : Ok P w K mg base "_law_great" 3 ["draw"] sp__law_great := ok_mk (g := fun _ => b__law_great sp__law_pick) T.d__law_great sc__law_great (by intro as m C Ex h; first | done | (repeat first | (obtain ⟨e, _⟩ := h; subst e; rfl) | (obtain ⟨_, h⟩ := h))) (fun _ _ _ _ _ _ us hl => match us, hl with | [_], _ => rfl) (fun f cdv A outer s H E W V hr tk => d__law_great T (G__law_pick := (g__law_pick T)) f cdv A outer s H E W V hr tk) l__law_great
theorem g__law_module (T : Txt K w mg) : Ok P w K mg base "_law_module" 4 ["draw"] sp__law_module := ok_mk (g := fun _ => b__law_module sp__law_next sp__law_great) T.d__law_module sc__law_module (by intro as m C Ex h; first | done | (repeat first | (obtain ⟨e, _⟩ := h; subst e; rfl) | (obtain ⟨_, h⟩ := h))) (fun _ _ _ _ _ _ us hl => match us, hl with | [_], _ => rfl) (fun f cdv A outer s H E W V hr tk => d__law_module T (G__law_next := (g__law_next T)) (G__law_great := (g__law_great T)) f cdv A outer s H E W V hr tk) l__law_module
theorem g__law_of (T : Txt K w mg) : Ok P w K mg base "_law_of" 5 ["draw"] sp__law_of := ok_mk (g := fun _ => b__law_of sp__law_great sp__law_module) T.d__law_of sc__law_of (by intro as m C Ex h; first | done | (repeat first | (obtain ⟨e, _⟩ := h; subst e; rfl) | (obtain ⟨_, h⟩ := h))) (fun _ _ _ _ _ _ us hl => match us, hl with | [_], _ => rfl) (fun f cdv A outer s H E W V hr tk => d__law_of T (G__law_great := (g__law_great T)) (G__law_module := (g__law_module T)) f cdv A outer s H E W V hr tk) l__law_of
theorem g__law_maybe_of (T : Txt K w mg) : Ok P w K mg base "_law_maybe_of" 6 ["draw"] sp__law_maybe_of := ok_mk (g := fun _ => b__law_maybe_of sp__law_next sp__law_of) T.d__law_maybe_of sc__law_maybe_of (by intro as m C Ex h; first | done | (repeat first | (obtain ⟨e, _⟩ := h; subst e; rfl) | (obtain ⟨_, h⟩ := h))) (fun _ _ _ _ _ _ us hl => match us, hl with | [_], _ => rfl) (fun f cdv A outer s H E W V hr tk => d__law_maybe_of T (G__law_next := (g__law_next T)) (G__law_of := (g__law_of T)) f cdv A outer s H E W V hr tk) l__law_maybe_of
theorem gn__law_form (T : Txt K w mg) : ∀ n : Nat, Ok P w K mg base "_law_form" (4 + n) ["draw", "deep"] (sp__law_form n)
  | 0 => ok_zero T.d__law_form (fun _ _ _ _ _ _ us hl => match us, hl with | [_, _], _ => rfl) (by intro as m C Ex h; unfold sp__law_form at h; (repeat (obtain ⟨_, h⟩ := h)); omega)
  | n + 1 => ok_mk (g := fun _ => b__law_form sp__law_next sp__law_small (sp__law_form n) sp__law_great sp__law_module) T.d__law_form sc__law_form (by intro as m C Ex h; first | done | (repeat first | (obtain ⟨e, _⟩ := h; subst e; rfl) | (obtain ⟨_, h⟩ := h))) (fun _ _ _ _ _ _ us hl => match us, hl with | [_, _], _ => rfl) (fun f cdv A outer s H E W V hr tk => d__law_form T (G__law_next := (g__law_next T)) (G__law_small := (g__law_small T)) (G__law_form := (gn__law_form T n)) (G__law_great := (g__law_great T)) (G__law_module := (g__law_module T)) f cdv A outer s H E W V hr tk) (l__law_form n)
theorem g__law_form (T : Txt K w mg) : Ok P w K mg base "_law_form" 9 ["draw", "deep"] (sp__law_form 5) := gn__law_form T 5
theorem gn__law_told (T : Txt K w mg) : ∀ n : Nat, Ok P w K mg base "_law_told" (9 + n) ["draw", "deep", "size"] (sp__law_told n) ∧ Ok P w K mg base "_law_tolds" (9 + n) ["draw", "deep", "size", "many"] (sp__law_tolds n)
  | 0 => ⟨ok_zero T.d__law_told (fun _ _ _ _ _ _ us hl => match us, hl with | [_, _, _], _ => rfl) (by intro as m C Ex h; unfold sp__law_told at h; (repeat (obtain ⟨_, h⟩ := h)); omega), ok_zero T.d__law_tolds (fun _ _ _ _ _ _ us hl => match us, hl with | [_, _, _, _], _ => rfl) (by intro as m C Ex h; unfold sp__law_tolds at h; (repeat (obtain ⟨_, h⟩ := h)); omega)⟩
  | n + 1 => by
    have ih := gn__law_told T n
    exact ⟨ok_mk (g := fun _ => b__law_told sp__law_next sp__law_small (sp__law_tolds n) (sp__law_told n) (sp__law_form 5) sp__law_module sp__law_great) T.d__law_told sc__law_told (by intro as m C Ex h; first | done | (repeat first | (obtain ⟨e, _⟩ := h; subst e; rfl) | (obtain ⟨_, h⟩ := h))) (fun _ _ _ _ _ _ us hl => match us, hl with | [_, _, _], _ => rfl) (fun f cdv A outer s H E W V hr tk => d__law_told T (G__law_next := (g__law_next T)) (G__law_small := (g__law_small T)) (G__law_tolds := ih.2) (G__law_told := ih.1) (G__law_form := (g__law_form T)) (G__law_module := (g__law_module T)) (G__law_great := (g__law_great T)) f cdv A outer s H E W V hr tk) (l__law_told n),
      ok_mk (g := fun _ => b__law_tolds (sp__law_told n)) T.d__law_tolds sc__law_tolds (by intro as m C Ex h; first | done | (repeat first | (obtain ⟨e, _⟩ := h; subst e; rfl) | (obtain ⟨_, h⟩ := h))) (fun _ _ _ _ _ _ us hl => match us, hl with | [_, _, _, _], _ => rfl) (fun f cdv A outer s H E W V hr tk => d__law_tolds T (G__law_told := ih.1) f cdv A outer s H E W V hr tk) (l__law_tolds n)⟩
theorem g__law_told (T : Txt K w mg) : Ok P w K mg base "_law_told" 49 ["draw", "deep", "size"] (sp__law_told 40) := (gn__law_told T 40).1
theorem g__law_tolds (T : Txt K w mg) : Ok P w K mg base "_law_tolds" 49 ["draw", "deep", "size", "many"] (sp__law_tolds 40) := (gn__law_told T 40).2
theorem g__law_item (T : Txt K w mg) : Ok P w K mg base "_law_item" 50 ["draw", "kind", "deep", "many"] sp__law_item := ok_mk (g := fun _ => b__law_item sp__law_next sp__law_small sp__law_great sp__law_pick sp__law_of sp__law_maybe_of (sp__law_told 40)) T.d__law_item sc__law_item (by intro as m C Ex h; first | done | (repeat first | (obtain ⟨e, _⟩ := h; subst e; rfl) | (obtain ⟨_, h⟩ := h))) (fun _ _ _ _ _ _ us hl => match us, hl with | [_, _, _, _], _ => rfl) (fun f cdv A outer s H E W V hr tk => d__law_item T (G__law_next := (g__law_next T)) (G__law_small := (g__law_small T)) (G__law_great := (g__law_great T)) (G__law_pick := (g__law_pick T)) (G__law_of := (g__law_of T)) (G__law_maybe_of := (g__law_maybe_of T)) (G__law_told := (g__law_told T)) f cdv A outer s H E W V hr tk) l__law_item
theorem gn__law_same (T : Txt K w mg) : ∀ n : Nat, Ok P w K mg base "_law_same" (0 + n) ["one", "other"] (sp__law_same n)
  | 0 => ok_zero T.d__law_same (fun _ _ _ _ _ _ us hl => match us, hl with | [_, _], _ => rfl) (by intro as m C Ex h; unfold sp__law_same at h; (repeat (obtain ⟨_, h⟩ := h)); omega)
  | n + 1 => ok_mk (g := fun _ => b__law_same (sp__law_same n)) T.d__law_same sc__law_same (by intro as m C Ex h; first | done | (repeat first | (obtain ⟨e, _⟩ := h; subst e; rfl) | (obtain ⟨_, h⟩ := h))) (fun _ _ _ _ _ _ us hl => match us, hl with | [_, _], _ => rfl) (fun f cdv A outer s H E W V hr tk => d__law_same T (G__law_same := (gn__law_same T n)) f cdv A outer s H E W V hr tk) (l__law_same n)
theorem g__law_same (T : Txt K w mg) : Ok P w K mg base "_law_same" 60 ["one", "other"] (sp__law_same 60) := gn__law_same T 60
theorem g__law_tokens (T : Txt K w mg) : Ok P w K mg base "_law_tokens" 1 ["row"] sp__law_tokens := ok_mk (g := fun _ => b__law_tokens) T.d__law_tokens sc__law_tokens (by intro as m C Ex h; first | done | (repeat first | (obtain ⟨e, _⟩ := h; subst e; rfl) | (obtain ⟨_, h⟩ := h))) (fun _ _ _ _ _ _ us hl => match us, hl with | [_], _ => rfl) (fun f cdv A outer s H E W V hr tk => d__law_tokens T  f cdv A outer s H E W V hr tk) l__law_tokens
theorem g_ItemWalk__m___init__ (T : Txt K w mg) : MakeOk P w K mg base "ItemWalk" 1 ["self"] sp_ItemWalk__m___init__ := make_mk (g := fun _ => b_ItemWalk__m___init__) T.d_ItemWalk__m___init__ sc_ItemWalk__m___init__ (by intro as m C Ex h; first | done | (repeat first | (obtain ⟨e, _⟩ := h; subst e; rfl) | (obtain ⟨_, h⟩ := h))) (fun _ _ _ _ _ _ us hl => match us, hl with | [_], _ => rfl) (fun f cdv A outer s H E W V hr tk => d_ItemWalk__m___init__ T  f cdv A outer s H E W V hr tk) l_ItemWalk__m___init__
theorem g_ItemWalk__m_expand (T : Txt K w mg) : MethOk P w K mg base "ItemWalk" "expand" 1 ["self", "symbol", "sign", "could"] sp_ItemWalk__m_expand := meth_mk (g := fun _ => b_ItemWalk__m_expand) T.d_ItemWalk__m_expand sc_ItemWalk__m_expand (by intro as m C Ex h; first | done | (repeat first | (obtain ⟨e, _⟩ := h; subst e; rfl) | (obtain ⟨_, h⟩ := h))) (fun _ _ _ _ _ _ us hl => match us, hl with | [_, _, _, _], _ => rfl) (fun f cdv A outer s H E W V hr tk => d_ItemWalk__m_expand T  f cdv A outer s H E W V hr tk) l_ItemWalk__m_expand
theorem g_ItemWalk__m_act (T : Txt K w mg) : MethOk P w K mg base "ItemWalk" "act" 1 ["self", "symbol"] sp_ItemWalk__m_act := meth_mk (g := fun _ => b_ItemWalk__m_act) T.d_ItemWalk__m_act sc_ItemWalk__m_act (by intro as m C Ex h; first | done | (repeat first | (obtain ⟨e, _⟩ := h; subst e; rfl) | (obtain ⟨_, h⟩ := h))) (fun _ _ _ _ _ _ us hl => match us, hl with | [_, _], _ => rfl) (fun f cdv A outer s H E W V hr tk => d_ItemWalk__m_act T  f cdv A outer s H E W V hr tk) l_ItemWalk__m_act
theorem g_ItemWalk__m_meet (T : Txt K w mg) : MethOk P w K mg base "ItemWalk" "meet" 2 ["self", "sign"] sp_ItemWalk__m_meet := meth_mk (g := fun _ => b_ItemWalk__m_meet sp_ItemWalk__m_expand sp_ItemWalk__m_act) T.d_ItemWalk__m_meet sc_ItemWalk__m_meet (by intro as m C Ex h; first | done | (repeat first | (obtain ⟨e, _⟩ := h; subst e; rfl) | (obtain ⟨_, h⟩ := h))) (fun _ _ _ _ _ _ us hl => match us, hl with | [_, _], _ => rfl) (fun f cdv A outer s H E W V hr tk => d_ItemWalk__m_meet T (G_ItemWalk__m_expand := (g_ItemWalk__m_expand T)) (G_ItemWalk__m_act := (g_ItemWalk__m_act T)) f cdv A outer s H E W V hr tk) l_ItemWalk__m_meet
theorem g_ItemWalk__m_take (T : Txt K w mg) : MethOk P w K mg base "ItemWalk" "take" 1 ["self", "token"] sp_ItemWalk__m_take := meth_mk (g := fun _ => b_ItemWalk__m_take) T.d_ItemWalk__m_take sc_ItemWalk__m_take (by intro as m C Ex h; first | done | (repeat first | (obtain ⟨e, _⟩ := h; subst e; rfl) | (obtain ⟨_, h⟩ := h))) (fun _ _ _ _ _ _ us hl => match us, hl with | [_, _], _ => rfl) (fun f cdv A outer s H E W V hr tk => d_ItemWalk__m_take T  f cdv A outer s H E W V hr tk) l_ItemWalk__m_take
theorem g_terminal (T : Txt K w mg) : Ok P w K mg base "terminal" 1 ["token"] sp_terminal := ok_mk (g := fun _ => b_terminal) T.d_terminal sc_terminal (by intro as m C Ex h; first | done | (repeat first | (obtain ⟨e, _⟩ := h; subst e; rfl) | (obtain ⟨_, h⟩ := h))) (fun _ _ _ _ _ _ us hl => match us, hl with | [_], _ => rfl) (fun f cdv A outer s H E W V hr tk => d_terminal T  f cdv A outer s H E W V hr tk) l_terminal
theorem g_read_item (T : Txt K w mg) : Ok P w K mg base "read_item" 3 ["stretch"] sp_read_item := ok_mk (g := fun _ => b_read_item sp_ItemWalk__m___init__ sp_ItemWalk__m_meet sp_terminal sp_ItemWalk__m_take) T.d_read_item sc_read_item (by intro as m C Ex h; first | done | (repeat first | (obtain ⟨e, _⟩ := h; subst e; rfl) | (obtain ⟨_, h⟩ := h))) (fun _ _ _ _ _ _ us hl => match us, hl with | [_], _ => rfl) (fun f cdv A outer s H E W V hr tk => d_read_item T (G_ItemWalk__m___init__ := (g_ItemWalk__m___init__ T)) (G_ItemWalk__m_meet := (g_ItemWalk__m_meet T)) (G_terminal := (g_terminal T)) (G_ItemWalk__m_take := (g_ItemWalk__m_take T)) f cdv A outer s H E W V hr tk) l_read_item
theorem kk_read_item (T : Txt K w mg) : OkK P w K mg base "read_item" 3 ["stretch"] sp_read_item := okk_mk (g := fun _ => b_read_item sp_ItemWalk__m___init__ sp_ItemWalk__m_meet sp_terminal sp_ItemWalk__m_take) T.d_read_item sc_read_item (by intro as m C Ex h; first | done | (repeat first | (obtain ⟨e, _⟩ := h; subst e; rfl) | (obtain ⟨_, h⟩ := h))) (fun _ _ _ _ _ _ us hl => match us, hl with | [_], _ => rfl) (fun f cdv A outer s H E W V hr tk => d_read_item T (G_ItemWalk__m___init__ := (g_ItemWalk__m___init__ T)) (G_ItemWalk__m_meet := (g_ItemWalk__m_meet T)) (G_terminal := (g_terminal T)) (G_ItemWalk__m_take := (g_ItemWalk__m_take T)) f cdv A outer s H E W V hr tk) l_read_item
theorem g__law_dotted (T : Txt K w mg) : Ok P w K mg base "_law_dotted" 1 ["module", "name"] sp__law_dotted := ok_mk (g := fun _ => b__law_dotted) T.d__law_dotted sc__law_dotted (by intro as m C Ex h; first | done | (repeat first | (obtain ⟨e, _⟩ := h; subst e; rfl) | (obtain ⟨_, h⟩ := h))) (fun _ _ _ _ _ _ us hl => match us, hl with | [_, _], _ => rfl) (fun f cdv A outer s H E W V hr tk => d__law_dotted T  f cdv A outer s H E W V hr tk) l__law_dotted
theorem g__law_with_of (T : Txt K w mg) : Ok P w K mg base "_law_with_of" 2 ["row", "of"] sp__law_with_of := ok_mk (g := fun _ => b__law_with_of sp__law_dotted) T.d__law_with_of sc__law_with_of (by intro as m C Ex h; first | done | (repeat first | (obtain ⟨e, _⟩ := h; subst e; rfl) | (obtain ⟨_, h⟩ := h))) (fun _ _ _ _ _ _ us hl => match us, hl with | [_, _], _ => rfl) (fun f cdv A outer s H E W V hr tk => d__law_with_of T (G__law_dotted := (g__law_dotted T)) f cdv A outer s H E W V hr tk) l__law_with_of
theorem g__law_between (T : Txt K w mg) : Ok P w K mg base "_law_between" 1 ["rows", "sign"] sp__law_between := ok_mk (g := fun _ => b__law_between) T.d__law_between sc__law_between (by intro as m C Ex h; first | done | (repeat first | (obtain ⟨e, _⟩ := h; subst e; rfl) | (obtain ⟨_, h⟩ := h))) (fun _ _ _ _ _ _ us hl => match us, hl with | [_, _], _ => rfl) (fun f cdv A outer s H E W V hr tk => d__law_between T  f cdv A outer s H E W V hr tk) l__law_between
theorem g__law_in_brackets (T : Txt K w mg) : Ok P w K mg base "_law_in_brackets" 2 ["rows"] sp__law_in_brackets := ok_mk (g := fun _ => b__law_in_brackets sp__law_between) T.d__law_in_brackets sc__law_in_brackets (by intro as m C Ex h; first | done | (repeat first | (obtain ⟨e, _⟩ := h; subst e; rfl) | (obtain ⟨_, h⟩ := h))) (fun _ _ _ _ _ _ us hl => match us, hl with | [_], _ => rfl) (fun f cdv A outer s H E W V hr tk => d__law_in_brackets T (G__law_between := (g__law_between T)) f cdv A outer s H E W V hr tk) l__law_in_brackets
theorem gn__law_form_row (T : Txt K w mg) : ∀ n : Nat, Ok P w K mg base "_law_form_row" (2 + n) ["form"] (sp__law_form_row n)
  | 0 => ok_zero T.d__law_form_row (fun _ _ _ _ _ _ us hl => match us, hl with | [_], _ => rfl) (by intro as m C Ex h; unfold sp__law_form_row at h; (repeat (obtain ⟨_, h⟩ := h)); omega)
  | n + 1 => ok_mk (g := fun _ => b__law_form_row sp__law_dotted sp__law_in_brackets (sp__law_form_row n)) T.d__law_form_row sc__law_form_row (by intro as m C Ex h; first | done | (repeat first | (obtain ⟨e, _⟩ := h; subst e; rfl) | (obtain ⟨_, h⟩ := h))) (fun _ _ _ _ _ _ us hl => match us, hl with | [_], _ => rfl) (fun f cdv A outer s H E W V hr tk => d__law_form_row T (G__law_dotted := (g__law_dotted T)) (G__law_in_brackets := (g__law_in_brackets T)) (G__law_form_row := (gn__law_form_row T n)) f cdv A outer s H E W V hr tk) (l__law_form_row n)
theorem g__law_form_row (T : Txt K w mg) : Ok P w K mg base "_law_form_row" 12 ["form"] (sp__law_form_row 10) := gn__law_form_row T 10
theorem gn__law_bare (T : Txt K w mg) : ∀ n : Nat, Ok P w K mg base "_law_bare" (12 + n) ["draw", "told"] (sp__law_bare n) ∧ Ok P w K mg base "_law_put" (12 + n) ["draw", "told", "side"] (sp__law_put n)
  | 0 => ⟨ok_zero T.d__law_bare (fun _ _ _ _ _ _ us hl => match us, hl with | [_, _], _ => rfl) (by intro as m C Ex h; unfold sp__law_bare at h; (repeat (obtain ⟨_, h⟩ := h)); omega), ok_zero T.d__law_put (fun _ _ _ _ _ _ us hl => match us, hl with | [_, _, _], _ => rfl) (by intro as m C Ex h; unfold sp__law_put at h; (repeat (obtain ⟨_, h⟩ := h)); omega)⟩
  | n + 1 => by
    have ih := gn__law_bare T n
    exact ⟨ok_mk (g := fun _ => b__law_bare (sp__law_put n) (sp__law_form_row 10) sp__law_between sp__law_dotted sp__law_in_brackets) T.d__law_bare sc__law_bare (by intro as m C Ex h; first | done | (repeat first | (obtain ⟨e, _⟩ := h; subst e; rfl) | (obtain ⟨_, h⟩ := h))) (fun _ _ _ _ _ _ us hl => match us, hl with | [_, _], _ => rfl) (fun f cdv A outer s H E W V hr tk => d__law_bare T (G__law_put := ih.2) (G__law_form_row := (g__law_form_row T)) (G__law_between := (g__law_between T)) (G__law_dotted := (g__law_dotted T)) (G__law_in_brackets := (g__law_in_brackets T)) f cdv A outer s H E W V hr tk) (l__law_bare n),
      ok_mk (g := fun _ => b__law_put (sp__law_bare n) sp__law_next) T.d__law_put sc__law_put (by intro as m C Ex h; first | done | (repeat first | (obtain ⟨e, _⟩ := h; subst e; rfl) | (obtain ⟨_, h⟩ := h))) (fun _ _ _ _ _ _ us hl => match us, hl with | [_, _, _], _ => rfl) (fun f cdv A outer s H E W V hr tk => d__law_put T (G__law_bare := ih.1) (G__law_next := (g__law_next T)) f cdv A outer s H E W V hr tk) (l__law_put n)⟩
theorem g__law_bare (T : Txt K w mg) : Ok P w K mg base "_law_bare" 72 ["draw", "told"] (sp__law_bare 60) := (gn__law_bare T 60).1
theorem g__law_put (T : Txt K w mg) : Ok P w K mg base "_law_put" 72 ["draw", "told", "side"] (sp__law_put 60) := (gn__law_bare T 60).2
theorem g__law_item_row (T : Txt K w mg) : Ok P w K mg base "_law_item_row" 73 ["draw", "tree"] sp__law_item_row := ok_mk (g := fun _ => b__law_item_row sp__law_between sp__law_in_brackets sp__law_dotted sp__law_with_of (sp__law_put 60)) T.d__law_item_row sc__law_item_row (by intro as m C Ex h; first | done | (repeat first | (obtain ⟨e, _⟩ := h; subst e; rfl) | (obtain ⟨_, h⟩ := h))) (fun _ _ _ _ _ _ us hl => match us, hl with | [_, _], _ => rfl) (fun f cdv A outer s H E W V hr tk => d__law_item_row T (G__law_between := (g__law_between T)) (G__law_in_brackets := (g__law_in_brackets T)) (G__law_dotted := (g__law_dotted T)) (G__law_with_of := (g__law_with_of T)) (G__law_put := (g__law_put T)) f cdv A outer s H E W V hr tk) l__law_item_row
theorem g_law (T : Txt K w mg) : Ok P w K mg base "law" 74 ["script"] sp_law := ok_mk (g := fun _ => b_law sp__law_draw sp__law_item sp__law_next sp__law_tokens sp__law_item_row (sp__law_same 60) sp_read_item) T.d_law sc_law (by intro as m C Ex h; first | done | (repeat first | (obtain ⟨e, _⟩ := h; subst e; rfl) | (obtain ⟨_, h⟩ := h))) (fun _ _ _ _ _ _ us hl => match us, hl with | [_], _ => rfl) (fun f cdv A outer s H E W V hr tk => d_law T (G__law_draw := (g__law_draw T)) (G__law_item := (g__law_item T)) (G__law_next := (g__law_next T)) (G__law_tokens := (g__law_tokens T)) (G__law_item_row := (g__law_item_row T)) (G__law_same := (g__law_same T)) (G_read_item := (g_read_item T)) (K_read_item := kk_read_item T) f cdv A outer s H E W V hr tk) l_law
end
theorem txt_mk {w : World} {K : PySem.W.Frag} {h : Heap} {mg : Str → Option Value} (X : K.In h) (G : h.Ns mainGlobals mg)
    (nl : noListB K = true)
    {C_ItemWalk : Addr} (a_ItemWalk : PySem.W.nsIn K mainGlobals "ItemWalk" = some (some (.ref C_ItemWalk)))
    (pg_ItemWalk : PySem.W.plainGet K C_ItemWalk Str.empty = true) (hd_ItemWalk : PySem.W.hasDictIn K C_ItemWalk = true) (po_ItemWalk : PySem.W.plainOver K C_ItemWalk = true) (sa_ItemWalk : PySem.W.findIn K (.ref C_ItemWalk) "__setattr__" = some (some (.builtin "object.__setattr__"))) (mk_ItemWalk : PySem.W.makesIn K C_ItemWalk = true) (kc_ItemWalk : PySem.W.keepIn K (.ref C_ItemWalk) = true)
    {f__law_draw : Addr} {od_law_draw an_law_draw : Option Addr} {sl_law_draw : Array (Option Value)} {oc_law_draw kV_law_draw dc_law_draw pm_law_draw cd_law_draw ct_law_draw : Value}
    (a__law_draw : PySem.W.nsIn K mainGlobals "_law_draw" = some (some (.ref f__law_draw)))
    (l__law_draw : K.lookup f__law_draw = some ⟨oc_law_draw, od_law_draw, .func (PySem.W.fnOf "_law_draw" "_law_draw" (defArgs s__law_draw) (defBody s__law_draw) (defScope s__law_draw) .none kV_law_draw dc_law_draw pm_law_draw an_law_draw cd_law_draw ct_law_draw), sl_law_draw⟩)
    (c__law_draw : PySem.W.codeIn K cd_law_draw "_law_draw" = true) (k__law_draw : PySem.W.keepIn K (.ref f__law_draw) = true)
    {f__law_next : Addr} {od_law_next an_law_next : Option Addr} {sl_law_next : Array (Option Value)} {oc_law_next kV_law_next dc_law_next pm_law_next cd_law_next ct_law_next : Value}
    (a__law_next : PySem.W.nsIn K mainGlobals "_law_next" = some (some (.ref f__law_next)))
    (l__law_next : K.lookup f__law_next = some ⟨oc_law_next, od_law_next, .func (PySem.W.fnOf "_law_next" "_law_next" (defArgs s__law_next) (defBody s__law_next) (defScope s__law_next) .none kV_law_next dc_law_next pm_law_next an_law_next cd_law_next ct_law_next), sl_law_next⟩)
    (c__law_next : PySem.W.codeIn K cd_law_next "_law_next" = true) (k__law_next : PySem.W.keepIn K (.ref f__law_next) = true)
    {f__law_pick : Addr} {od_law_pick an_law_pick : Option Addr} {sl_law_pick : Array (Option Value)} {oc_law_pick kV_law_pick dc_law_pick pm_law_pick cd_law_pick ct_law_pick : Value}
    (a__law_pick : PySem.W.nsIn K mainGlobals "_law_pick" = some (some (.ref f__law_pick)))
    (l__law_pick : K.lookup f__law_pick = some ⟨oc_law_pick, od_law_pick, .func (PySem.W.fnOf "_law_pick" "_law_pick" (defArgs s__law_pick) (defBody s__law_pick) (defScope s__law_pick) .none kV_law_pick dc_law_pick pm_law_pick an_law_pick cd_law_pick ct_law_pick), sl_law_pick⟩)
    (c__law_pick : PySem.W.codeIn K cd_law_pick "_law_pick" = true) (k__law_pick : PySem.W.keepIn K (.ref f__law_pick) = true)
    {f__law_small : Addr} {od_law_small an_law_small : Option Addr} {sl_law_small : Array (Option Value)} {oc_law_small kV_law_small dc_law_small pm_law_small cd_law_small ct_law_small : Value}
    (a__law_small : PySem.W.nsIn K mainGlobals "_law_small" = some (some (.ref f__law_small)))
    (l__law_small : K.lookup f__law_small = some ⟨oc_law_small, od_law_small, .func (PySem.W.fnOf "_law_small" "_law_small" (defArgs s__law_small) (defBody s__law_small) (defScope s__law_small) .none kV_law_small dc_law_small pm_law_small an_law_small cd_law_small ct_law_small), sl_law_small⟩)
    (c__law_small : PySem.W.codeIn K cd_law_small "_law_small" = true) (k__law_small : PySem.W.keepIn K (.ref f__law_small) = true)
    {f__law_great : Addr} {od_law_great an_law_great : Option Addr} {sl_law_great : Array (Option Value)} {oc_law_great kV_law_great dc_law_great pm_law_great cd_law_great ct_law_great : Value}
    (a__law_great : PySem.W.nsIn K mainGlobals "_law_great" = some (some (.ref f__law_great)))
    (l__law_great : K.lookup f__law_great = some ⟨oc_law_great, od_law_great, .func (PySem.W.fnOf "_law_great" "_law_great" (defArgs s__law_great) (defBody s__law_great) (defScope s__law_great) .none kV_law_great dc_law_great pm_law_great an_law_great cd_law_great ct_law_great), sl_law_great⟩)
    (c__law_great : PySem.W.codeIn K cd_law_great "_law_great" = true) (k__law_great : PySem.W.keepIn K (.ref f__law_great) = true)
    {f__law_module : Addr} {od_law_module an_law_module : Option Addr} {sl_law_module : Array (Option Value)} {oc_law_module kV_law_module dc_law_module pm_law_module cd_law_module ct_law_module : Value}
    (a__law_module : PySem.W.nsIn K mainGlobals "_law_module" = some (some (.ref f__law_module)))
    (l__law_module : K.lookup f__law_module = some ⟨oc_law_module, od_law_module, .func (PySem.W.fnOf "_law_module" "_law_module" (defArgs s__law_module) (defBody s__law_module) (defScope s__law_module) .none kV_law_module dc_law_module pm_law_module an_law_module cd_law_module ct_law_module), sl_law_module⟩)
    (c__law_module : PySem.W.codeIn K cd_law_module "_law_module" = true) (k__law_module : PySem.W.keepIn K (.ref f__law_module) = true)
    {f__law_of : Addr} {od_law_of an_law_of : Option Addr} {sl_law_of : Array (Option Value)} {oc_law_of kV_law_of dc_law_of pm_law_of cd_law_of ct_law_of : Value}
    (a__law_of : PySem.W.nsIn K mainGlobals "_law_of" = some (some (.ref f__law_of)))
    (l__law_of : K.lookup f__law_of = some ⟨oc_law_of, od_law_of, .func (PySem.W.fnOf "_law_of" "_law_of" (defArgs s__law_of) (defBody s__law_of) (defScope s__law_of) .none kV_law_of dc_law_of pm_law_of an_law_of cd_law_of ct_law_of), sl_law_of⟩)
    (c__law_of : PySem.W.codeIn K cd_law_of "_law_of" = true) (k__law_of : PySem.W.keepIn K (.ref f__law_of) = true)
    {f__law_maybe_of : Addr} {od_law_maybe_of an_law_maybe_of : Option Addr} {sl_law_maybe_of : Array (Option Value)} {oc_law_maybe_of kV_law_maybe_of dc_law_maybe_of pm_law_maybe_of cd_law_maybe_of ct_law_maybe_of : Value}
    (a__law_maybe_of : PySem.W.nsIn K mainGlobals "_law_maybe_of" = some (some (.ref f__law_maybe_of)))
    (l__law_maybe_of : K.lookup f__law_maybe_of = some ⟨oc_law_maybe_of, od_law_maybe_of, .func (PySem.W.fnOf "_law_maybe_of" "_law_maybe_of" (defArgs s__law_maybe_of) (defBody s__law_maybe_of) (defScope s__law_maybe_of) .none kV_law_maybe_of dc_law_maybe_of pm_law_maybe_of an_law_maybe_of cd_law_maybe_of ct_law_maybe_of), sl_law_maybe_of⟩)
    (c__law_maybe_of : PySem.W.codeIn K cd_law_maybe_of "_law_maybe_of" = true) (k__law_maybe_of : PySem.W.keepIn K (.ref f__law_maybe_of) = true)
    {f__law_form : Addr} {od_law_form an_law_form : Option Addr} {sl_law_form : Array (Option Value)} {oc_law_form kV_law_form dc_law_form pm_law_form cd_law_form ct_law_form : Value}
    (a__law_form : PySem.W.nsIn K mainGlobals "_law_form" = some (some (.ref f__law_form)))
    (l__law_form : K.lookup f__law_form = some ⟨oc_law_form, od_law_form, .func (PySem.W.fnOf "_law_form" "_law_form" (defArgs s__law_form) (defBody s__law_form) (defScope s__law_form) .none kV_law_form dc_law_form pm_law_form an_law_form cd_law_form ct_law_form), sl_law_form⟩)
    (c__law_form : PySem.W.codeIn K cd_law_form "_law_form" = true) (k__law_form : PySem.W.keepIn K (.ref f__law_form) = true)
    {f__law_told : Addr} {od_law_told an_law_told : Option Addr} {sl_law_told : Array (Option Value)} {oc_law_told kV_law_told dc_law_told pm_law_told cd_law_told ct_law_told : Value}
    (a__law_told : PySem.W.nsIn K mainGlobals "_law_told" = some (some (.ref f__law_told)))
    (l__law_told : K.lookup f__law_told = some ⟨oc_law_told, od_law_told, .func (PySem.W.fnOf "_law_told" "_law_told" (defArgs s__law_told) (defBody s__law_told) (defScope s__law_told) .none kV_law_told dc_law_told pm_law_told an_law_told cd_law_told ct_law_told), sl_law_told⟩)
    (c__law_told : PySem.W.codeIn K cd_law_told "_law_told" = true) (k__law_told : PySem.W.keepIn K (.ref f__law_told) = true)
    {f__law_tolds : Addr} {od_law_tolds an_law_tolds : Option Addr} {sl_law_tolds : Array (Option Value)} {oc_law_tolds kV_law_tolds dc_law_tolds pm_law_tolds cd_law_tolds ct_law_tolds : Value}
    (a__law_tolds : PySem.W.nsIn K mainGlobals "_law_tolds" = some (some (.ref f__law_tolds)))
    (l__law_tolds : K.lookup f__law_tolds = some ⟨oc_law_tolds, od_law_tolds, .func (PySem.W.fnOf "_law_tolds" "_law_tolds" (defArgs s__law_tolds) (defBody s__law_tolds) (defScope s__law_tolds) .none kV_law_tolds dc_law_tolds pm_law_tolds an_law_tolds cd_law_tolds ct_law_tolds), sl_law_tolds⟩)
    (c__law_tolds : PySem.W.codeIn K cd_law_tolds "_law_tolds" = true) (k__law_tolds : PySem.W.keepIn K (.ref f__law_tolds) = true)
    {f__law_item : Addr} {od_law_item an_law_item : Option Addr} {sl_law_item : Array (Option Value)} {oc_law_item kV_law_item dc_law_item pm_law_item cd_law_item ct_law_item : Value}
    (a__law_item : PySem.W.nsIn K mainGlobals "_law_item" = some (some (.ref f__law_item)))
    (l__law_item : K.lookup f__law_item = some ⟨oc_law_item, od_law_item, .func (PySem.W.fnOf "_law_item" "_law_item" (defArgs s__law_item) (defBody s__law_item) (defScope s__law_item) .none kV_law_item dc_law_item pm_law_item an_law_item cd_law_item ct_law_item), sl_law_item⟩)
    (c__law_item : PySem.W.codeIn K cd_law_item "_law_item" = true) (k__law_item : PySem.W.keepIn K (.ref f__law_item) = true)
    {f__law_same : Addr} {od_law_same an_law_same : Option Addr} {sl_law_same : Array (Option Value)} {oc_law_same kV_law_same dc_law_same pm_law_same cd_law_same ct_law_same : Value}
    (a__law_same : PySem.W.nsIn K mainGlobals "_law_same" = some (some (.ref f__law_same)))
    (l__law_same : K.lookup f__law_same = some ⟨oc_law_same, od_law_same, .func (PySem.W.fnOf "_law_same" "_law_same" (defArgs s__law_same) (defBody s__law_same) (defScope s__law_same) .none kV_law_same dc_law_same pm_law_same an_law_same cd_law_same ct_law_same), sl_law_same⟩)
    (c__law_same : PySem.W.codeIn K cd_law_same "_law_same" = true) (k__law_same : PySem.W.keepIn K (.ref f__law_same) = true)
    {f__law_tokens : Addr} {od_law_tokens an_law_tokens : Option Addr} {sl_law_tokens : Array (Option Value)} {oc_law_tokens kV_law_tokens dc_law_tokens pm_law_tokens cd_law_tokens ct_law_tokens : Value}
    (a__law_tokens : PySem.W.nsIn K mainGlobals "_law_tokens" = some (some (.ref f__law_tokens)))
    (l__law_tokens : K.lookup f__law_tokens = some ⟨oc_law_tokens, od_law_tokens, .func (PySem.W.fnOf "_law_tokens" "_law_tokens" (defArgs s__law_tokens) (defBody s__law_tokens) (defScope s__law_tokens) .none kV_law_tokens dc_law_tokens pm_law_tokens an_law_tokens cd_law_tokens ct_law_tokens), sl_law_tokens⟩)
    (c__law_tokens : PySem.W.codeIn K cd_law_tokens "_law_tokens" = true) (k__law_tokens : PySem.W.keepIn K (.ref f__law_tokens) = true)
    {f_ItemWalk__m___init__ : Addr} {odItemWalk__m___init__ anItemWalk__m___init__ : Option Addr} {slItemWalk__m___init__ : Array (Option Value)} {ocItemWalk__m___init__ kVItemWalk__m___init__ dcItemWalk__m___init__ pmItemWalk__m___init__ cdItemWalk__m___init__ ctItemWalk__m___init__ : Value}
    (a_ItemWalk__m___init__ : PySem.W.findIn K (.ref C_ItemWalk) "__init__" = some (some (.ref f_ItemWalk__m___init__))) (i_ItemWalk__m___init__ : PySem.W.isFn K (.ref f_ItemWalk__m___init__) = true)
    (l_ItemWalk__m___init__ : K.lookup f_ItemWalk__m___init__ = some ⟨ocItemWalk__m___init__, odItemWalk__m___init__, .func (PySem.W.fnOf "__init__" "ItemWalk.__init__" (defArgs s_ItemWalk__m___init__) (defBody s_ItemWalk__m___init__) (defScope s_ItemWalk__m___init__) .none kVItemWalk__m___init__ dcItemWalk__m___init__ pmItemWalk__m___init__ anItemWalk__m___init__ cdItemWalk__m___init__ ctItemWalk__m___init__), slItemWalk__m___init__⟩)
    (c_ItemWalk__m___init__ : PySem.W.codeIn K cdItemWalk__m___init__ "ItemWalk.__init__" = true) (k_ItemWalk__m___init__ : PySem.W.keepIn K (.ref f_ItemWalk__m___init__) = true)
    {f_ItemWalk__m_expand : Addr} {odItemWalk__m_expand anItemWalk__m_expand : Option Addr} {slItemWalk__m_expand : Array (Option Value)} {ocItemWalk__m_expand kVItemWalk__m_expand dcItemWalk__m_expand pmItemWalk__m_expand cdItemWalk__m_expand ctItemWalk__m_expand : Value}
    (a_ItemWalk__m_expand : PySem.W.findIn K (.ref C_ItemWalk) "expand" = some (some (.ref f_ItemWalk__m_expand))) (i_ItemWalk__m_expand : PySem.W.isFn K (.ref f_ItemWalk__m_expand) = true)
    (l_ItemWalk__m_expand : K.lookup f_ItemWalk__m_expand = some ⟨ocItemWalk__m_expand, odItemWalk__m_expand, .func (PySem.W.fnOf "expand" "ItemWalk.expand" (defArgs s_ItemWalk__m_expand) (defBody s_ItemWalk__m_expand) (defScope s_ItemWalk__m_expand) .none kVItemWalk__m_expand dcItemWalk__m_expand pmItemWalk__m_expand anItemWalk__m_expand cdItemWalk__m_expand ctItemWalk__m_expand), slItemWalk__m_expand⟩)
    (c_ItemWalk__m_expand : PySem.W.codeIn K cdItemWalk__m_expand "ItemWalk.expand" = true) (k_ItemWalk__m_expand : PySem.W.keepIn K (.ref f_ItemWalk__m_expand) = true)
    {f_ItemWalk__m_act : Addr} {odItemWalk__m_act anItemWalk__m_act : Option Addr} {slItemWalk__m_act : Array (Option Value)} {ocItemWalk__m_act kVItemWalk__m_act dcItemWalk__m_act pmItemWalk__m_act cdItemWalk__m_act ctItemWalk__m_act : Value}
    (a_ItemWalk__m_act : PySem.W.findIn K (.ref C_ItemWalk) "act" = some (some (.ref f_ItemWalk__m_act))) (i_ItemWalk__m_act : PySem.W.isFn K (.ref f_ItemWalk__m_act) = true)
    (l_ItemWalk__m_act : K.lookup f_ItemWalk__m_act = some ⟨ocItemWalk__m_act, odItemWalk__m_act, .func (PySem.W.fnOf "act" "ItemWalk.act" (defArgs s_ItemWalk__m_act) (defBody s_ItemWalk__m_act) (defScope s_ItemWalk__m_act) .none kVItemWalk__m_act dcItemWalk__m_act pmItemWalk__m_act anItemWalk__m_act cdItemWalk__m_act ctItemWalk__m_act), slItemWalk__m_act⟩)
    (c_ItemWalk__m_act : PySem.W.codeIn K cdItemWalk__m_act "ItemWalk.act" = true) (k_ItemWalk__m_act : PySem.W.keepIn K (.ref f_ItemWalk__m_act) = true)
    {f_ItemWalk__m_meet : Addr} {odItemWalk__m_meet anItemWalk__m_meet : Option Addr} {slItemWalk__m_meet : Array (Option Value)} {ocItemWalk__m_meet kVItemWalk__m_meet dcItemWalk__m_meet pmItemWalk__m_meet cdItemWalk__m_meet ctItemWalk__m_meet : Value}
    (a_ItemWalk__m_meet : PySem.W.findIn K (.ref C_ItemWalk) "meet" = some (some (.ref f_ItemWalk__m_meet))) (i_ItemWalk__m_meet : PySem.W.isFn K (.ref f_ItemWalk__m_meet) = true)
    (l_ItemWalk__m_meet : K.lookup f_ItemWalk__m_meet = some ⟨ocItemWalk__m_meet, odItemWalk__m_meet, .func (PySem.W.fnOf "meet" "ItemWalk.meet" (defArgs s_ItemWalk__m_meet) (defBody s_ItemWalk__m_meet) (defScope s_ItemWalk__m_meet) .none kVItemWalk__m_meet dcItemWalk__m_meet pmItemWalk__m_meet anItemWalk__m_meet cdItemWalk__m_meet ctItemWalk__m_meet), slItemWalk__m_meet⟩)
    (c_ItemWalk__m_meet : PySem.W.codeIn K cdItemWalk__m_meet "ItemWalk.meet" = true) (k_ItemWalk__m_meet : PySem.W.keepIn K (.ref f_ItemWalk__m_meet) = true)
    {f_ItemWalk__m_take : Addr} {odItemWalk__m_take anItemWalk__m_take : Option Addr} {slItemWalk__m_take : Array (Option Value)} {ocItemWalk__m_take kVItemWalk__m_take dcItemWalk__m_take pmItemWalk__m_take cdItemWalk__m_take ctItemWalk__m_take : Value}
    (a_ItemWalk__m_take : PySem.W.findIn K (.ref C_ItemWalk) "take" = some (some (.ref f_ItemWalk__m_take))) (i_ItemWalk__m_take : PySem.W.isFn K (.ref f_ItemWalk__m_take) = true)
    (l_ItemWalk__m_take : K.lookup f_ItemWalk__m_take = some ⟨ocItemWalk__m_take, odItemWalk__m_take, .func (PySem.W.fnOf "take" "ItemWalk.take" (defArgs s_ItemWalk__m_take) (defBody s_ItemWalk__m_take) (defScope s_ItemWalk__m_take) .none kVItemWalk__m_take dcItemWalk__m_take pmItemWalk__m_take anItemWalk__m_take cdItemWalk__m_take ctItemWalk__m_take), slItemWalk__m_take⟩)
    (c_ItemWalk__m_take : PySem.W.codeIn K cdItemWalk__m_take "ItemWalk.take" = true) (k_ItemWalk__m_take : PySem.W.keepIn K (.ref f_ItemWalk__m_take) = true)
    {f_terminal : Addr} {odterminal anterminal : Option Addr} {slterminal : Array (Option Value)} {octerminal kVterminal dcterminal pmterminal cdterminal ctterminal : Value}
    (a_terminal : PySem.W.nsIn K mainGlobals "terminal" = some (some (.ref f_terminal)))
    (l_terminal : K.lookup f_terminal = some ⟨octerminal, odterminal, .func (PySem.W.fnOf "terminal" "terminal" (defArgs s_terminal) (defBody s_terminal) (defScope s_terminal) .none kVterminal dcterminal pmterminal anterminal cdterminal ctterminal), slterminal⟩)
    (c_terminal : PySem.W.codeIn K cdterminal "terminal" = true) (k_terminal : PySem.W.keepIn K (.ref f_terminal) = true)
    {f_read_item : Addr} {odread_item anread_item : Option Addr} {slread_item : Array (Option Value)} {ocread_item kVread_item dcread_item pmread_item cdread_item ctread_item : Value}
    (a_read_item : PySem.W.nsIn K mainGlobals "read_item" = some (some (.ref f_read_item)))
    (l_read_item : K.lookup f_read_item = some ⟨ocread_item, odread_item, .func (PySem.W.fnOf "read_item" "read_item" (defArgs s_read_item) (defBody s_read_item) (defScope s_read_item) .none kVread_item dcread_item pmread_item anread_item cdread_item ctread_item), slread_item⟩)
    (c_read_item : PySem.W.codeIn K cdread_item "read_item" = true) (k_read_item : PySem.W.keepIn K (.ref f_read_item) = true)
    {f__law_dotted : Addr} {od_law_dotted an_law_dotted : Option Addr} {sl_law_dotted : Array (Option Value)} {oc_law_dotted kV_law_dotted dc_law_dotted pm_law_dotted cd_law_dotted ct_law_dotted : Value}
    (a__law_dotted : PySem.W.nsIn K mainGlobals "_law_dotted" = some (some (.ref f__law_dotted)))
    (l__law_dotted : K.lookup f__law_dotted = some ⟨oc_law_dotted, od_law_dotted, .func (PySem.W.fnOf "_law_dotted" "_law_dotted" (defArgs s__law_dotted) (defBody s__law_dotted) (defScope s__law_dotted) .none kV_law_dotted dc_law_dotted pm_law_dotted an_law_dotted cd_law_dotted ct_law_dotted), sl_law_dotted⟩)
    (c__law_dotted : PySem.W.codeIn K cd_law_dotted "_law_dotted" = true) (k__law_dotted : PySem.W.keepIn K (.ref f__law_dotted) = true)
    {f__law_with_of : Addr} {od_law_with_of an_law_with_of : Option Addr} {sl_law_with_of : Array (Option Value)} {oc_law_with_of kV_law_with_of dc_law_with_of pm_law_with_of cd_law_with_of ct_law_with_of : Value}
    (a__law_with_of : PySem.W.nsIn K mainGlobals "_law_with_of" = some (some (.ref f__law_with_of)))
    (l__law_with_of : K.lookup f__law_with_of = some ⟨oc_law_with_of, od_law_with_of, .func (PySem.W.fnOf "_law_with_of" "_law_with_of" (defArgs s__law_with_of) (defBody s__law_with_of) (defScope s__law_with_of) .none kV_law_with_of dc_law_with_of pm_law_with_of an_law_with_of cd_law_with_of ct_law_with_of), sl_law_with_of⟩)
    (c__law_with_of : PySem.W.codeIn K cd_law_with_of "_law_with_of" = true) (k__law_with_of : PySem.W.keepIn K (.ref f__law_with_of) = true)
    {f__law_between : Addr} {od_law_between an_law_between : Option Addr} {sl_law_between : Array (Option Value)} {oc_law_between kV_law_between dc_law_between pm_law_between cd_law_between ct_law_between : Value}
    (a__law_between : PySem.W.nsIn K mainGlobals "_law_between" = some (some (.ref f__law_between)))
    (l__law_between : K.lookup f__law_between = some ⟨oc_law_between, od_law_between, .func (PySem.W.fnOf "_law_between" "_law_between" (defArgs s__law_between) (defBody s__law_between) (defScope s__law_between) .none kV_law_between dc_law_between pm_law_between an_law_between cd_law_between ct_law_between), sl_law_between⟩)
    (c__law_between : PySem.W.codeIn K cd_law_between "_law_between" = true) (k__law_between : PySem.W.keepIn K (.ref f__law_between) = true)
    {f__law_in_brackets : Addr} {od_law_in_brackets an_law_in_brackets : Option Addr} {sl_law_in_brackets : Array (Option Value)} {oc_law_in_brackets kV_law_in_brackets dc_law_in_brackets pm_law_in_brackets cd_law_in_brackets ct_law_in_brackets : Value}
    (a__law_in_brackets : PySem.W.nsIn K mainGlobals "_law_in_brackets" = some (some (.ref f__law_in_brackets)))
    (l__law_in_brackets : K.lookup f__law_in_brackets = some ⟨oc_law_in_brackets, od_law_in_brackets, .func (PySem.W.fnOf "_law_in_brackets" "_law_in_brackets" (defArgs s__law_in_brackets) (defBody s__law_in_brackets) (defScope s__law_in_brackets) .none kV_law_in_brackets dc_law_in_brackets pm_law_in_brackets an_law_in_brackets cd_law_in_brackets ct_law_in_brackets), sl_law_in_brackets⟩)
    (c__law_in_brackets : PySem.W.codeIn K cd_law_in_brackets "_law_in_brackets" = true) (k__law_in_brackets : PySem.W.keepIn K (.ref f__law_in_brackets) = true)
    {f__law_form_row : Addr} {od_law_form_row an_law_form_row : Option Addr} {sl_law_form_row : Array (Option Value)} {oc_law_form_row kV_law_form_row dc_law_form_row pm_law_form_row cd_law_form_row ct_law_form_row : Value}
    (a__law_form_row : PySem.W.nsIn K mainGlobals "_law_form_row" = some (some (.ref f__law_form_row)))
    (l__law_form_row : K.lookup f__law_form_row = some ⟨oc_law_form_row, od_law_form_row, .func (PySem.W.fnOf "_law_form_row" "_law_form_row" (defArgs s__law_form_row) (defBody s__law_form_row) (defScope s__law_form_row) .none kV_law_form_row dc_law_form_row pm_law_form_row an_law_form_row cd_law_form_row ct_law_form_row), sl_law_form_row⟩)
    (c__law_form_row : PySem.W.codeIn K cd_law_form_row "_law_form_row" = true) (k__law_form_row : PySem.W.keepIn K (.ref f__law_form_row) = true)
    {f__law_bare : Addr} {od_law_bare an_law_bare : Option Addr} {sl_law_bare : Array (Option Value)} {oc_law_bare kV_law_bare dc_law_bare pm_law_bare cd_law_bare ct_law_bare : Value}
    (a__law_bare : PySem.W.nsIn K mainGlobals "_law_bare" = some (some (.ref f__law_bare)))
    (l__law_bare : K.lookup f__law_bare = some ⟨oc_law_bare, od_law_bare, .func (PySem.W.fnOf "_law_bare" "_law_bare" (defArgs s__law_bare) (defBody s__law_bare) (defScope s__law_bare) .none kV_law_bare dc_law_bare pm_law_bare an_law_bare cd_law_bare ct_law_bare), sl_law_bare⟩)
    (c__law_bare : PySem.W.codeIn K cd_law_bare "_law_bare" = true) (k__law_bare : PySem.W.keepIn K (.ref f__law_bare) = true)
    {f__law_put : Addr} {od_law_put an_law_put : Option Addr} {sl_law_put : Array (Option Value)} {oc_law_put kV_law_put dc_law_put pm_law_put cd_law_put ct_law_put : Value}
    (a__law_put : PySem.W.nsIn K mainGlobals "_law_put" = some (some (.ref f__law_put)))
    (l__law_put : K.lookup f__law_put = some ⟨oc_law_put, od_law_put, .func (PySem.W.fnOf "_law_put" "_law_put" (defArgs s__law_put) (defBody s__law_put) (defScope s__law_put) .none kV_law_put dc_law_put pm_law_put an_law_put cd_law_put ct_law_put), sl_law_put⟩)
    (c__law_put : PySem.W.codeIn K cd_law_put "_law_put" = true) (k__law_put : PySem.W.keepIn K (.ref f__law_put) = true)
    {f__law_item_row : Addr} {od_law_item_row an_law_item_row : Option Addr} {sl_law_item_row : Array (Option Value)} {oc_law_item_row kV_law_item_row dc_law_item_row pm_law_item_row cd_law_item_row ct_law_item_row : Value}
    (a__law_item_row : PySem.W.nsIn K mainGlobals "_law_item_row" = some (some (.ref f__law_item_row)))
    (l__law_item_row : K.lookup f__law_item_row = some ⟨oc_law_item_row, od_law_item_row, .func (PySem.W.fnOf "_law_item_row" "_law_item_row" (defArgs s__law_item_row) (defBody s__law_item_row) (defScope s__law_item_row) .none kV_law_item_row dc_law_item_row pm_law_item_row an_law_item_row cd_law_item_row ct_law_item_row), sl_law_item_row⟩)
    (c__law_item_row : PySem.W.codeIn K cd_law_item_row "_law_item_row" = true) (k__law_item_row : PySem.W.keepIn K (.ref f__law_item_row) = true)
    {f_law : Addr} {odlaw anlaw : Option Addr} {sllaw : Array (Option Value)} {oclaw kVlaw dclaw pmlaw cdlaw ctlaw : Value}
    (a_law : PySem.W.nsIn K mainGlobals "law" = some (some (.ref f_law)))
    (l_law : K.lookup f_law = some ⟨oclaw, odlaw, .func (PySem.W.fnOf "law" "law" (defArgs s_law) (defBody s_law) (defScope s_law) .none kVlaw dclaw pmlaw anlaw cdlaw ctlaw), sllaw⟩)
    (c_law : PySem.W.codeIn K cdlaw "law" = true) (k_law : PySem.W.keepIn K (.ref f_law) = true)
    (n_ItemWalk_due : PySem.W.findIn K (.ref C_ItemWalk) "due" = some none)
    (n_ItemWalk_made : PySem.W.findIn K (.ref C_ItemWalk) "made" = some none)
    (n_ItemWalk_depth : PySem.W.findIn K (.ref C_ItemWalk) "depth" = some none)
    {D_RULES : Addr} {es_RULES : Array DictEntry} {ep_RULES : Nat} (a_RULES : PySem.W.nsIn K mainGlobals "RULES" = some (some (.ref D_RULES)))
    (l_tab_RULES : K.lookup D_RULES = some ⟨.type "dict", none, .dict es_RULES ep_RULES, #[]⟩) (lo_RULES : (D_RULES == sysModules) = false)
    (hk_RULES : es_RULES.toList.map He.keyOf = He.keysIn w.params (l_RULES.map Prod.fst)) (hv_RULES : es_RULES.toList.map (fun e => DD.datIn K 6 e.val) = l_RULES.map (fun p => some p.2))
    {D_PIECES : Addr} {es_PIECES : Array DictEntry} {ep_PIECES : Nat} (a_PIECES : PySem.W.nsIn K mainGlobals "PIECES" = some (some (.ref D_PIECES)))
    (l_tab_PIECES : K.lookup D_PIECES = some ⟨.type "dict", none, .dict es_PIECES ep_PIECES, #[]⟩) (lo_PIECES : (D_PIECES == sysModules) = false)
    (hk_PIECES : es_PIECES.toList.map He.keyOf = He.keysIn w.params (l_PIECES.map Prod.fst)) (hv_PIECES : es_PIECES.toList.map (fun e => DD.datIn K 6 e.val) = l_PIECES.map (fun p => some p.2))
    {v_DEEPENING : Value} (a_DEEPENING : PySem.W.nsIn K mainGlobals "DEEPENING" = some (some v_DEEPENING)) (q_DEEPENING : DD.datIn K 6 v_DEEPENING = some k_DEEPENING)
    {v_DEEPEST : Value} (a_DEEPEST : PySem.W.nsIn K mainGlobals "DEEPEST" = some (some v_DEEPEST)) (q_DEEPEST : DD.datIn K 6 v_DEEPEST = some k_DEEPEST)
    (z_list : PySem.W.nsIn K mainGlobals "list" = some none)
    (z_len : PySem.W.nsIn K mainGlobals "len" = some none)
    (z_int : PySem.W.nsIn K mainGlobals "int" = some none)
    (z_range : PySem.W.nsIn K mainGlobals "range" = some none)
    (z_tuple : PySem.W.nsIn K mainGlobals "tuple" = some none)
    (z_isinstance : PySem.W.nsIn K mainGlobals "isinstance" = some none)
    (z_bool : PySem.W.nsIn K mainGlobals "bool" = some none)
    (z_all : PySem.W.nsIn K mainGlobals "all" = some none)
    (z_str : PySem.W.nsIn K mainGlobals "str" = some none)
    (z_enumerate : PySem.W.nsIn K mainGlobals "enumerate" = some none)
    : Txt K w mg where
  nl := nl
  d__law_draw := DD.def_mk X G a__law_draw l__law_draw c__law_draw k__law_draw
  d__law_next := DD.def_mk X G a__law_next l__law_next c__law_next k__law_next
  d__law_pick := DD.def_mk X G a__law_pick l__law_pick c__law_pick k__law_pick
  d__law_small := DD.def_mk X G a__law_small l__law_small c__law_small k__law_small
  d__law_great := DD.def_mk X G a__law_great l__law_great c__law_great k__law_great
  d__law_module := DD.def_mk X G a__law_module l__law_module c__law_module k__law_module
  d__law_of := DD.def_mk X G a__law_of l__law_of c__law_of k__law_of
  d__law_maybe_of := DD.def_mk X G a__law_maybe_of l__law_maybe_of c__law_maybe_of k__law_maybe_of
  d__law_form := DD.def_mk X G a__law_form l__law_form c__law_form k__law_form
  d__law_told := DD.def_mk X G a__law_told l__law_told c__law_told k__law_told
  d__law_tolds := DD.def_mk X G a__law_tolds l__law_tolds c__law_tolds k__law_tolds
  d__law_item := DD.def_mk X G a__law_item l__law_item c__law_item k__law_item
  d__law_same := DD.def_mk X G a__law_same l__law_same c__law_same k__law_same
  d__law_tokens := DD.def_mk X G a__law_tokens l__law_tokens c__law_tokens k__law_tokens
  d_ItemWalk__m___init__ := initAt_mk X G a_ItemWalk mk_ItemWalk a_ItemWalk__m___init__ i_ItemWalk__m___init__ kc_ItemWalk l_ItemWalk__m___init__ c_ItemWalk__m___init__ k_ItemWalk__m___init__
  d_ItemWalk__m_expand := methAt_mk X G a_ItemWalk ⟨pg_ItemWalk, hd_ItemWalk, po_ItemWalk, sa_ItemWalk⟩ a_ItemWalk__m_expand i_ItemWalk__m_expand l_ItemWalk__m_expand c_ItemWalk__m_expand k_ItemWalk__m_expand
  d_ItemWalk__m_act := methAt_mk X G a_ItemWalk ⟨pg_ItemWalk, hd_ItemWalk, po_ItemWalk, sa_ItemWalk⟩ a_ItemWalk__m_act i_ItemWalk__m_act l_ItemWalk__m_act c_ItemWalk__m_act k_ItemWalk__m_act
  d_ItemWalk__m_meet := methAt_mk X G a_ItemWalk ⟨pg_ItemWalk, hd_ItemWalk, po_ItemWalk, sa_ItemWalk⟩ a_ItemWalk__m_meet i_ItemWalk__m_meet l_ItemWalk__m_meet c_ItemWalk__m_meet k_ItemWalk__m_meet
  d_ItemWalk__m_take := methAt_mk X G a_ItemWalk ⟨pg_ItemWalk, hd_ItemWalk, po_ItemWalk, sa_ItemWalk⟩ a_ItemWalk__m_take i_ItemWalk__m_take l_ItemWalk__m_take c_ItemWalk__m_take k_ItemWalk__m_take
  d_terminal := DD.def_mk X G a_terminal l_terminal c_terminal k_terminal
  d_read_item := DD.def_mk X G a_read_item l_read_item c_read_item k_read_item
  d__law_dotted := DD.def_mk X G a__law_dotted l__law_dotted c__law_dotted k__law_dotted
  d__law_with_of := DD.def_mk X G a__law_with_of l__law_with_of c__law_with_of k__law_with_of
  d__law_between := DD.def_mk X G a__law_between l__law_between c__law_between k__law_between
  d__law_in_brackets := DD.def_mk X G a__law_in_brackets l__law_in_brackets c__law_in_brackets k__law_in_brackets
  d__law_form_row := DD.def_mk X G a__law_form_row l__law_form_row c__law_form_row k__law_form_row
  d__law_bare := DD.def_mk X G a__law_bare l__law_bare c__law_bare k__law_bare
  d__law_put := DD.def_mk X G a__law_put l__law_put c__law_put k__law_put
  d__law_item_row := DD.def_mk X G a__law_item_row l__law_item_row c__law_item_row k__law_item_row
  d_law := DD.def_mk X G a_law l_law c_law k_law
  f_ItemWalk_due := fld_mk X G a_ItemWalk ⟨pg_ItemWalk, hd_ItemWalk, po_ItemWalk, sa_ItemWalk⟩ n_ItemWalk_due
  f_ItemWalk_made := fld_mk X G a_ItemWalk ⟨pg_ItemWalk, hd_ItemWalk, po_ItemWalk, sa_ItemWalk⟩ n_ItemWalk_made
  f_ItemWalk_depth := fld_mk X G a_ItemWalk ⟨pg_ItemWalk, hd_ItemWalk, po_ItemWalk, sa_ItemWalk⟩ n_ItemWalk_depth
  t_RULES := tab_mk X G a_RULES l_tab_RULES lo_RULES hk_RULES hv_RULES
  t_PIECES := tab_mk X G a_PIECES l_tab_PIECES lo_PIECES hk_PIECES hv_PIECES
  k_DEEPENING := con_mk (PySem.W.mg_of X G a_DEEPENING) q_DEEPENING
  k_DEEPEST := con_mk (PySem.W.mg_of X G a_DEEPEST) q_DEEPEST
  n_list := PySem.W.mg_none_of X G z_list
  n_len := PySem.W.mg_none_of X G z_len
  n_int := PySem.W.mg_none_of X G z_int
  n_range := PySem.W.mg_none_of X G z_range
  n_tuple := PySem.W.mg_none_of X G z_tuple
  n_isinstance := PySem.W.mg_none_of X G z_isinstance
  n_bool := PySem.W.mg_none_of X G z_bool
  n_all := PySem.W.mg_none_of X G z_all
  n_str := PySem.W.mg_none_of X G z_str
  n_enumerate := PySem.W.mg_none_of X G z_enumerate
theorem law_ok {l : PySem.W.OpenLaw} {w : World} {K : PySem.W.Frag} {h : Heap} {mg : Str → Option Value} {fa : Addr} (T : Txt K w mg) (hfa : mg "law" = some (.ref fa)) :
    ∃ fd : FuncData, (∀ (s : Shared) (u : Value), BindsTo s fd ⟨[u], []⟩ [("script", u)]) ∧ ∀ base : Heap, K.In base → base.Ns mainGlobals mg → FnOk l.prog w K mg base (L2.CX l.prog w) 74 fa fd ["script"] (lift K mg sp_law) := by
  obtain ⟨f, fd, hm, F⟩ := T.d_law
  cases hm.symm.trans hfa
  refine ⟨fd, fun s u => ?_, fun base _ _ => ?_⟩
  · obtain ⟨oc, od, kV, dc, pm, an, cd, ct, osl, rfl, lk, hcd⟩ := F.ex
    exact .of_eq rfl
  · exact fn_mm (g := fun _ => b_law sp__law_draw sp__law_item sp__law_next sp__law_tokens sp__law_item_row (sp__law_same 60) sp_read_item) F sc_law (by intro as m C Ex h; first | done | (repeat first | (obtain ⟨e, _⟩ := h; subst e; rfl) | (obtain ⟨_, h⟩ := h))) (fun cdv A outer s H E W V hr tk => d_law T (G__law_draw := (g__law_draw T)) (G__law_item := (g__law_item T)) (G__law_next := (g__law_next T)) (G__law_tokens := (g__law_tokens T)) (G__law_item_row := (g__law_item_row T)) (G__law_same := (g__law_same T)) (G_read_item := (g_read_item T)) (K_read_item := kk_read_item T) _ cdv A outer s H E W V hr tk) l_law
end K16
open PySem PySem.W PyProof.Rows
set_option maxHeartbeats 0 in
theorem PySem.Challenge.cw_asiffresh_k16_trees_of_items_holds : PySem.Challenge.rw_asiffresh_k16_trees_of_items.Holds := by
  w_on; o_law; k_head; (case hw => w_witness2)
  k_fill
  refine MM.walk_X (l := PySem.Challenge.rw_asiffresh_k16_trees_of_items) (n := 63) (k := 74) (x := "script") (sp := K16.sp_law) rfl (by decide) rfl ⟨rfl, by decide, by decide⟩ (fun w h Y => PySem.W.kIn_of Y) ?F (fun ns _ => ⟨ns, rfl, rfl, rfl⟩)
  case F =>
    intro w mg fa h KX G XPh hmg
    refine K16.law_ok (h := h) ?T hmg
    case T =>
      refine' K16.txt_mk KX G ?nl ?a_ItemWalk ?pg_ItemWalk ?hd_ItemWalk ?po_ItemWalk ?sa_ItemWalk ?mk_ItemWalk ?kc_ItemWalk ?a__law_draw ?l__law_draw ?c__law_draw ?k__law_draw ?a__law_next ?l__law_next ?c__law_next ?k__law_next ?a__law_pick ?l__law_pick ?c__law_pick ?k__law_pick ?a__law_small ?l__law_small ?c__law_small ?k__law_small ?a__law_great ?l__law_great ?c__law_great ?k__law_great ?a__law_module ?l__law_module ?c__law_module ?k__law_module ?a__law_of ?l__law_of ?c__law_of ?k__law_of ?a__law_maybe_of ?l__law_maybe_of ?c__law_maybe_of ?k__law_maybe_of ?a__law_form ?l__law_form ?c__law_form ?k__law_form ?a__law_told ?l__law_told ?c__law_told ?k__law_told ?a__law_tolds ?l__law_tolds ?c__law_tolds ?k__law_tolds ?a__law_item ?l__law_item ?c__law_item ?k__law_item ?a__law_same ?l__law_same ?c__law_same ?k__law_same ?a__law_tokens ?l__law_tokens ?c__law_tokens ?k__law_tokens ?a_ItemWalk__m___init__ ?i_ItemWalk__m___init__ ?l_ItemWalk__m___init__ ?c_ItemWalk__m___init__ ?k_ItemWalk__m___init__ ?a_ItemWalk__m_expand ?i_ItemWalk__m_expand ?l_ItemWalk__m_expand ?c_ItemWalk__m_expand ?k_ItemWalk__m_expand ?a_ItemWalk__m_act ?i_ItemWalk__m_act ?l_ItemWalk__m_act ?c_ItemWalk__m_act ?k_ItemWalk__m_act ?a_ItemWalk__m_meet ?i_ItemWalk__m_meet ?l_ItemWalk__m_meet ?c_ItemWalk__m_meet ?k_ItemWalk__m_meet ?a_ItemWalk__m_take ?i_ItemWalk__m_take ?l_ItemWalk__m_take ?c_ItemWalk__m_take ?k_ItemWalk__m_take ?a_terminal ?l_terminal ?c_terminal ?k_terminal ?a_read_item ?l_read_item ?c_read_item ?k_read_item ?a__law_dotted ?l__law_dotted ?c__law_dotted ?k__law_dotted ?a__law_with_of ?l__law_with_of ?c__law_with_of ?k__law_with_of ?a__law_between ?l__law_between ?c__law_between ?k__law_between ?a__law_in_brackets ?l__law_in_brackets ?c__law_in_brackets ?k__law_in_brackets ?a__law_form_row ?l__law_form_row ?c__law_form_row ?k__law_form_row ?a__law_bare ?l__law_bare ?c__law_bare ?k__law_bare ?a__law_put ?l__law_put ?c__law_put ?k__law_put ?a__law_item_row ?l__law_item_row ?c__law_item_row ?k__law_item_row ?a_law ?l_law ?c_law ?k_law ?n_ItemWalk_due ?n_ItemWalk_made ?n_ItemWalk_depth ?a_RULES ?l_tab_RULES ?lo_RULES ?hk_RULES ?hv_RULES ?a_PIECES ?l_tab_PIECES ?lo_PIECES ?hk_PIECES ?hv_PIECES ?a_DEEPENING ?q_DEEPENING ?a_DEEPEST ?q_DEEPEST ?z_list ?z_len ?z_int ?z_range ?z_tuple ?z_isinstance ?z_bool ?z_all ?z_str ?z_enumerate
      (case a_ItemWalk => k_is)
      (case pg_ItemWalk => k_is)
      (case hd_ItemWalk => k_is)
      (case po_ItemWalk => k_is)
      (case sa_ItemWalk => k_is)
      (case mk_ItemWalk => k_is)
      (case kc_ItemWalk => k_is)
      (case a__law_draw => k_is)
      (case l__law_draw => k_is)
      (case c__law_draw => k_is)
      (case k__law_draw => k_is)
      (case a__law_next => k_is)
      (case l__law_next => k_is)
      (case c__law_next => k_is)
      (case k__law_next => k_is)
      (case a__law_pick => k_is)
      (case l__law_pick => k_is)
      (case c__law_pick => k_is)
      (case k__law_pick => k_is)
      (case a__law_small => k_is)
      (case l__law_small => k_is)
      (case c__law_small => k_is)
      (case k__law_small => k_is)
      (case a__law_great => k_is)
      (case l__law_great => k_is)
      (case c__law_great => k_is)
      (case k__law_great => k_is)
      (case a__law_module => k_is)
      (case l__law_module => k_is)
      (case c__law_module => k_is)
      (case k__law_module => k_is)
      (case a__law_of => k_is)
      (case l__law_of => k_is)
      (case c__law_of => k_is)
      (case k__law_of => k_is)
      (case a__law_maybe_of => k_is)
      (case l__law_maybe_of => k_is)
      (case c__law_maybe_of => k_is)
      (case k__law_maybe_of => k_is)
      (case a__law_form => k_is)
      (case l__law_form => k_is)
      (case c__law_form => k_is)
      (case k__law_form => k_is)
      (case a__law_told => k_is)
      (case l__law_told => k_is)
      (case c__law_told => k_is)
      (case k__law_told => k_is)
      (case a__law_tolds => k_is)
      (case l__law_tolds => k_is)
      (case c__law_tolds => k_is)
      (case k__law_tolds => k_is)
      (case a__law_item => k_is)
      (case l__law_item => k_is)
      (case c__law_item => k_is)
      (case k__law_item => k_is)
      (case a__law_same => k_is)
      (case l__law_same => k_is)
      (case c__law_same => k_is)
      (case k__law_same => k_is)
      (case a__law_tokens => k_is)
      (case l__law_tokens => k_is)
      (case c__law_tokens => k_is)
      (case k__law_tokens => k_is)
      (case a_ItemWalk__m___init__ => k_is)
      (case i_ItemWalk__m___init__ => k_is)
      (case l_ItemWalk__m___init__ => k_is)
      (case c_ItemWalk__m___init__ => k_is)
      (case k_ItemWalk__m___init__ => k_is)
      (case a_ItemWalk__m_expand => k_is)
      (case i_ItemWalk__m_expand => k_is)
      (case l_ItemWalk__m_expand => k_is)
      (case c_ItemWalk__m_expand => k_is)
      (case k_ItemWalk__m_expand => k_is)
      (case a_ItemWalk__m_act => k_is)
      (case i_ItemWalk__m_act => k_is)
      (case l_ItemWalk__m_act => k_is)
      (case c_ItemWalk__m_act => k_is)
      (case k_ItemWalk__m_act => k_is)
      (case a_ItemWalk__m_meet => k_is)
      (case i_ItemWalk__m_meet => k_is)
      (case l_ItemWalk__m_meet => k_is)
      (case c_ItemWalk__m_meet => k_is)
      (case k_ItemWalk__m_meet => k_is)
      (case a_ItemWalk__m_take => k_is)
      (case i_ItemWalk__m_take => k_is)
      (case l_ItemWalk__m_take => k_is)
      (case c_ItemWalk__m_take => k_is)
      (case k_ItemWalk__m_take => k_is)
      (case a_terminal => k_is)
      (case l_terminal => k_is)
      (case c_terminal => k_is)
      (case k_terminal => k_is)
      (case a_read_item => k_is)
      (case l_read_item => k_is)
      (case c_read_item => k_is)
      (case k_read_item => k_is)
      (case a__law_dotted => k_is)
      (case l__law_dotted => k_is)
      (case c__law_dotted => k_is)
      (case k__law_dotted => k_is)
      (case a__law_with_of => k_is)
      (case l__law_with_of => k_is)
      (case c__law_with_of => k_is)
      (case k__law_with_of => k_is)
      (case a__law_between => k_is)
      (case l__law_between => k_is)
      (case c__law_between => k_is)
      (case k__law_between => k_is)
      (case a__law_in_brackets => k_is)
      (case l__law_in_brackets => k_is)
      (case c__law_in_brackets => k_is)
      (case k__law_in_brackets => k_is)
      (case a__law_form_row => k_is)
      (case l__law_form_row => k_is)
      (case c__law_form_row => k_is)
      (case k__law_form_row => k_is)
      (case a__law_bare => k_is)
      (case l__law_bare => k_is)
      (case c__law_bare => k_is)
      (case k__law_bare => k_is)
      (case a__law_put => k_is)
      (case l__law_put => k_is)
      (case c__law_put => k_is)
      (case k__law_put => k_is)
      (case a__law_item_row => k_is)
      (case l__law_item_row => k_is)
      (case c__law_item_row => k_is)
      (case k__law_item_row => k_is)
      (case a_law => k_is)
      (case l_law => k_is)
      (case c_law => k_is)
      (case k_law => k_is)
      (case n_ItemWalk_due => k_is)
      (case n_ItemWalk_made => k_is)
      (case n_ItemWalk_depth => k_is)
      (case a_RULES => k_is)
      (case l_tab_RULES => k_is)
      (case a_PIECES => k_is)
      (case l_tab_PIECES => k_is)
      (case a_DEEPENING => k_is)
      (case a_DEEPEST => k_is)
      (case z_list => k_is)
      (case z_len => k_is)
      (case z_int => k_is)
      (case z_range => k_is)
      (case z_tuple => k_is)
      (case z_isinstance => k_is)
      (case z_bool => k_is)
      (case z_all => k_is)
      (case z_str => k_is)
      (case z_enumerate => k_is)
      (case lo_RULES => exact rfl)
      (case hk_RULES => exact rfl)
      (case hv_RULES => exact rfl)
      (case lo_PIECES => exact rfl)
      (case hk_PIECES => exact rfl)
      (case hv_PIECES => exact rfl)
      (case q_DEEPENING => exact rfl)
      (case q_DEEPEST => exact rfl)
      (case nl => exact rfl)
