import PyProof.Rows.All
import Wide.All
import OpenK.AllK
import Wide.FinOn
import HandS.ForMost
import HandS.Deep
import HandS.IsInst
import HandS.Wide
import HandS.StrMore
import HandS.Codes
import HandS.TupAny
import HandS.Exc
import HandS.ExcCtx
import HandS.ForExc
import HandS.ExcOwn
import HandS.TryOnly
import HandS.TryMany
import HandS.WordsExc
import HandS.More
import HandS.Style
import KE.GoesEnum
import HandS.Zip0
import HandS.HeadHook3
import HandS.CallLocal
import PyProof.ReprReads
import HandS.TupSets
import HandS.SetTxt0
import HandS.SetFor
import HandS.Strs
import PyProof.Rows.SortStr
import PyProof.Rows.SortShellK
import HandS.Call
import HandS.SetKeys
import PySem.Challenge.RW_asiffresh_k17_first_wrong_token
set_option Elab.async false
set_option linter.all false
set_option maxRecDepth 100000
set_option maxHeartbeats 4000000
/-! DD: value semantics of immutable data (PyData), with owned lists in slots, over the judgements of HandS. -/
namespace DD
open PySem PySem.Spec PyProof.Rows L2

/-- what a slot holds: frozen data; a list of the def's own; a list that was handed in to be changed -/
inductive Sl where
  | val (d : PyData)
  | own (xs : List PyData)
  | par (xs : List PyData)
abbrev DSt := List (Option Sl)
/-- what an expression gives: frozen data, or the owned list in a slot -/
inductive Ar where
  | val (d : PyData)
  | sl (i : Nat)
abbrev DTE := DSt → (Ar → DSt → Prop) → Prop
abbrev DTT := DSt → (Bool → DSt → Prop) → Prop
abbrev DTA := DSt → (List Ar → DSt → Prop) → Prop
structure DEnds where
  nx : DSt → Prop
  rt : Sl → DSt → Prop
  bk : DSt → Prop := fun _ => False
  ct : DSt → Prop := fun _ => False
abbrev DTS := DEnds → DSt → Prop

def OwnC (δ : DSt) (i : Nat) (xs : List PyData) : Prop := δ[i]? = some (some (.own xs)) ∨ δ[i]? = some (some (.par xs))
def OwnA (σ : L2.St) (δ : DSt) (l : Addr) : Prop := ∃ i xs, OwnC δ i xs ∧ σ[i]? = some (some (.ref l))

end DD
namespace L2
open PySem PySem.Spec PyProof.Rows
section
variable {K : PySem.W.Frag}
theorem seqT {H H' : Hp} {a : Addr} {xs : List V} (e : Same H H') (h : SqT K H a xs) : SqT K H' a xs := by
  rcases h with (h | ⟨o, h⟩) | h
  · exact .inl (.inl (e _ _ h))
  · exact .inl (.inr ⟨o, e _ _ h⟩)
  · exact .inr h
mutual
theorem Dp.mono {F F' : Hp} (e : Same F F') : ∀ (d : PyData) (v : V), Dp K F v d → Dp K F' v d
  | .none, _, h => by cases h; exact .non
  | .bool _, _, h => by cases h; exact .bl _
  | .int _, _, h => by cases h; exact .int _
  | .str _, _, h => by cases h; exact .str _
  | .list ds, _, h => by
    cases h with
    | lst hs ha => exact .lst (e.seq hs) (Dp.monoAll e ds _ ha)
  | .tuple ds, _, h => by
    cases h with
    | tup hs ha => exact .tup (seqT e hs) (Dp.monoAll e ds _ ha)
  | .dict _, _, h => by cases h
theorem Dp.monoAll {F F' : Hp} (e : Same F F') : ∀ (ds : List PyData) (vs : List V), DpAll K F vs ds → DpAll K F' vs ds
  | [], _, h => by cases h; exact .nil
  | d :: ds, _, h => by
    cases h with
    | cons h1 h2 => exact .cons (Dp.mono e d _ h1) (Dp.monoAll e ds _ h2)
end
theorem DpAll.length {F : Hp} : ∀ {vs : List V} {ds : List PyData}, DpAll K F vs ds → vs.length = ds.length
  | _, _, .nil => rfl
  | _, _, .cons _ h => congrArg (· + 1) (DpAll.length h)
theorem DpAll.get {F : Hp} : ∀ {vs : List V} {ds : List PyData} {i : Nat} {d : PyData}, DpAll K F vs ds → ds[i]? = some d → ∃ v, vs[i]? = some v ∧ Dp K F v d
  | _, _, i, d, .nil, e => by simp at e
  | _, _, 0, d, .cons h _, e => by simp at e; subst e; exact ⟨_, rfl, h⟩
  | _, _, i + 1, d, .cons _ h, e => by
    obtain ⟨v, h1, h2⟩ := DpAll.get (i := i) (d := d) h (by simpa using e)
    exact ⟨v, by simpa using h1, h2⟩
theorem DpAll.getV {F : Hp} : ∀ {vs : List V} {ds : List PyData} {i : Nat} {v : V}, DpAll K F vs ds → vs[i]? = some v → ∃ d, ds[i]? = some d ∧ Dp K F v d
  | _, _, i, v, .nil, e => by simp at e
  | _, _, 0, v, .cons h _, e => by simp at e; subst e; exact ⟨_, rfl, h⟩
  | _, _, i + 1, v, .cons _ h, e => by
    obtain ⟨d, h1, h2⟩ := DpAll.getV (i := i) (v := v) h (by simpa using e)
    exact ⟨d, by simpa using h1, h2⟩
theorem DpAll.append {F : Hp} : ∀ {vs ws : List V} {ds es : List PyData}, DpAll K F vs ds → DpAll K F ws es → DpAll K F (vs ++ ws) (ds ++ es)
  | _, _, _, _, .nil, s => s
  | _, _, _, _, .cons r t, s => .cons r (DpAll.append t s)
theorem DpAll.take {F : Hp} : ∀ {vs : List V} {ds : List PyData} (n : Nat), DpAll K F vs ds → DpAll K F (vs.take n) (ds.take n)
  | _, _, 0, _ => .nil
  | _, _, n + 1, .nil => .nil
  | _, _, n + 1, .cons r t => .cons r (DpAll.take n t)
theorem DpAll.drop {F : Hp} : ∀ {vs : List V} {ds : List PyData} (n : Nat), DpAll K F vs ds → DpAll K F (vs.drop n) (ds.drop n)
  | _, _, 0, r => r
  | _, _, n + 1, .nil => .nil
  | _, _, n + 1, .cons r t => DpAll.drop n t
theorem DpAll.set {F : Hp} {v : V} {d : PyData} (h : Dp K F v d) : ∀ {vs : List V} {ds : List PyData} (i : Nat), DpAll K F vs ds → DpAll K F (vs.set i v) (ds.set i d)
  | _, _, _, .nil => .nil
  | _, _, 0, .cons _ t => .cons h t
  | _, _, i + 1, .cons r t => .cons r (DpAll.set h i t)
theorem DpAll.reverse {F : Hp} {vs : List V} {ds : List PyData} (h : DpAll K F vs ds) : DpAll K F vs.reverse ds.reverse := by
  have key : ∀ (vs : List V) (ds : List PyData), DpAll K F vs ds → DpAll K F vs.reverse ds.reverse := by
    intro vs
    induction vs with
    | nil => intro ds h; cases h; exact .nil
    | cons v vs ih =>
      intro ds h
      cases h with
      | cons h1 h2 =>
        rw [List.reverse_cons, List.reverse_cons]
        exact DpAll.append (ih _ h2) (.cons h1 .nil)
  exact key _ _ h
theorem DpAll.dropLast {F : Hp} {vs : List V} {ds : List PyData} (h : DpAll K F vs ds) : DpAll K F vs.dropLast ds.dropLast := by
  rw [List.dropLast_eq_take, List.dropLast_eq_take, h.length]
  exact DpAll.take _ h
theorem DpAll.ints {F : Hp} : ∀ (ns : List Int), DpAll K F (ns.map V.int) (ns.map PyData.int)
  | [] => .nil
  | n :: ns => .cons (.int n) (DpAll.ints ns)
theorem DpAll.strs {F : Hp} : ∀ (ns : List Str), DpAll K F (ns.map V.str) (ns.map PyData.str)
  | [] => .nil
  | n :: ns => .cons (.str n) (DpAll.strs ns)
/-- values of texts are texts -/
theorem DpAll.ofStrs {F : Hp} : ∀ {vs : List V} {ns : List Str}, DpAll K F vs (ns.map PyData.str) → vs = ns.map V.str
  | vs, [], h => by cases h; rfl
  | vs, n :: ns, h => by
    cases h with
    | cons h1 h2 =>
      cases h1
      rw [DpAll.ofStrs h2]
      rfl
theorem DpAll.ofInts {F : Hp} : ∀ {vs : List V} {ns : List Int}, DpAll K F vs (ns.map PyData.int) → vs = ns.map V.int
  | vs, [], h => by cases h; rfl
  | vs, n :: ns, h => by
    cases h with
    | cons h1 h2 =>
      cases h1
      rw [DpAll.ofInts h2]
      rfl
end

end L2
namespace DD
open PySem PySem.Spec PyProof.Rows L2
/-- slots, data, heap: F the frozen part -/
structure RepS (K : PySem.W.Frag) (F : Hp) (σ : L2.St) (δ : DSt) (H : Hp) : Prop where
  len : σ.length = δ.length
  sub : Same F H
  val : ∀ (i : Nat) (d : PyData), δ[i]? = some (some (.val d)) → ∃ v, σ[i]? = some (some v) ∧ Dp K F v d
  own : ∀ (i : Nat) (xs : List PyData), OwnC δ i xs → ∃ l vs, σ[i]? = some (some (.ref l)) ∧ F l = none ∧ H l = some (.lst vs) ∧ DpAll K F vs xs
  sep : ∀ (i j : Nat) (xs ys : List PyData) (l : Addr), i ≠ j → OwnC δ i xs → OwnC δ j ys → σ[i]? = some (some (.ref l)) → σ[j]? ≠ some (some (.ref l))
/-- the lists of the def's own -/
def OwnL (σ : L2.St) (δ : DSt) (l : Addr) : Prop := ∃ (i : Nat) (xs : List PyData), δ[i]? = some (some (.own xs)) ∧ σ[i]? = some (some (.ref l))
/-- from one state to a later one -/
structure Stp (σ : L2.St) (δ : DSt) (F H : Hp) (σ' : L2.St) (δ' : DSt) (F' H' : Hp) : Prop where
  ext : Same F F'
  new : ∀ b o, F' b = some o → F b = some o ∨ H b = none ∨ OwnL σ δ b
  frm : ∀ b o, H b = some o → ¬ OwnA σ δ b → H' b = some o
  dom : ∀ b, H' b = none → H b = none
  own : ∀ l, OwnA σ' δ' l → OwnA σ δ l ∨ H l = none
  par : ∀ (i : Nat) (xs : List PyData), δ[i]? = some (some (.par xs)) → (∃ ys : List PyData, δ'[i]? = some (some (.par ys))) ∧ σ'[i]? = σ[i]?
  ownl : ∀ l, OwnL σ' δ' l → OwnL σ δ l ∨ H l = none
theorem Stp.refl {σ δ F H} : Stp σ δ F H σ δ F H :=
  ⟨Same.refl _, fun _ _ h => .inl h, fun _ _ h _ => h, fun _ h => h, fun _ h => .inl h, fun _ _ h => ⟨⟨_, h⟩, rfl⟩, fun _ h => .inl h⟩
theorem Stp.trans {σ δ F H σ1 δ1 F1 H1 σ2 δ2 F2 H2} (a : Stp σ δ F H σ1 δ1 F1 H1) (b : Stp σ1 δ1 F1 H1 σ2 δ2 F2 H2) : Stp σ δ F H σ2 δ2 F2 H2 where
  ext := a.ext.trans b.ext
  new := fun c o h => by
    rcases b.new c o h with q | q | q
    · exact a.new c o q
    · exact .inr (.inl (a.dom c q))
    · rcases a.ownl c q with z | z
      · exact .inr (.inr z)
      · exact .inr (.inl z)
  frm := fun c o h n => by
    refine b.frm c o (a.frm c o h n) fun q => ?_
    rcases a.own c q with z | z
    · exact n z
    · rw [h] at z; cases z
  dom := fun c h => a.dom c (b.dom c h)
  own := fun l h => by
    rcases b.own l h with q | q
    · exact a.own l q
    · exact .inr (a.dom l q)
  par := fun i xs h => by
    obtain ⟨⟨ys, h1⟩, e1⟩ := a.par i xs h
    obtain ⟨q, e2⟩ := b.par i ys h1
    exact ⟨q, e2.trans e1⟩
  ownl := fun l h => by
    rcases b.ownl l h with q | q
    · exact a.ownl l q
    · exact .inr (a.dom l q)

def ArRep (K : PySem.W.Frag) (F : Hp) (σ : L2.St) (v : V) : Ar → Prop
  | .val d => Dp K F v d
  | .sl i => σ[i]? = some (some v)
def ArsRep (K : PySem.W.Frag) (F : Hp) (σ : L2.St) : List V → List Ar → Prop
  | [], [] => True
  | v :: vs, a :: as => ArRep K F σ v a ∧ ArsRep K F σ vs as
  | _, _ => False
theorem ArRep.mono {K : PySem.W.Frag} {F F' : Hp} {σ : L2.St} {v : V} {a : Ar} (e : Same F F') (h : ArRep K F σ v a) : ArRep K F' σ v a := by
  cases a with
  | val d => exact Dp.mono e d v h
  | sl i => exact h

section
variable {K : PySem.W.Frag} {F H : Hp} {σ : L2.St} {δ : DSt}
/-- a new frozen object -/
theorem RepS.alloc (R : RepS K F σ δ H) {p : Addr} {o : HO} (n : H p = none) : RepS K (upd F p o) σ δ (upd H p o) ∧ Stp σ δ F H σ δ (upd F p o) (upd H p o) := by
  have nF : F p = none := R.sub.free n
  have sF : Same F (upd F p o) := fun b u e => by rw [upd_ne (ne_of_none e nF)]; exact e
  refine ⟨⟨R.len, fun b u e => ?_, fun i d h => ?_, fun i xs h => ?_, R.sep⟩, ⟨sF, fun b u e => ?_, fun b u e _ => ?_, fun b e => ?_, fun l h => .inl h, fun i xs h => ⟨⟨_, h⟩, rfl⟩, fun l h => .inl h⟩⟩
  · by_cases hb : b = p
    · subst hb; rw [upd_same] at e ⊢; exact e
    · rw [upd_ne hb] at e ⊢; exact R.sub b u e
  · obtain ⟨v, h1, h2⟩ := R.val i d h
    exact ⟨v, h1, Dp.mono sF d v h2⟩
  · obtain ⟨l, vs, h1, h2, h3, h4⟩ := R.own i xs h
    have ne : l ≠ p := ne_of_none h3 n
    exact ⟨l, vs, h1, by rw [upd_ne ne]; exact h2, by rw [upd_ne ne]; exact h3, Dp.monoAll sF _ _ h4⟩
  · by_cases hb : b = p
    · subst hb; exact .inr (.inl n)
    · rw [upd_ne hb] at e; exact .inl e
  · rw [upd_ne (ne_of_none e n)]; exact e
  · by_cases hb : b = p
    · subst hb; exact n
    · rw [upd_ne hb] at e; exact e
/-- the content of the owned list in slot i changes -/
def putC (δ : DSt) (i : Nat) (ys : List PyData) : DSt :=
  match δ[i]? with
  | some (some (.own _)) => δ.set i (some (.own ys))
  | some (some (.par _)) => δ.set i (some (.par ys))
  | _ => δ
theorem putC_own {δ : DSt} {i : Nat} {xs ys zs : List PyData} {j : Nat} (h : OwnC δ i xs) : OwnC (putC δ i ys) j zs ↔ (if j = i then zs = ys else OwnC δ j zs) := by
  have hi : i < δ.length := by
    rcases h with h | h <;> exact (List.getElem?_eq_some_iff.mp h).1
  unfold putC
  rcases h with h | h
  · rw [h]
    show OwnC (δ.set i (some (.own ys))) j zs ↔ _
    unfold OwnC
    by_cases e : j = i
    · subst e
      rw [List.getElem?_set_self hi, if_pos rfl]
      constructor
      · rintro (q | q)
        · cases q; rfl
        · cases q
      · rintro rfl; exact .inl rfl
    · rw [List.getElem?_set_ne (Ne.symm e), if_neg e]
  · rw [h]
    show OwnC (δ.set i (some (.par ys))) j zs ↔ _
    unfold OwnC
    by_cases e : j = i
    · subst e
      rw [List.getElem?_set_self hi, if_pos rfl]
      constructor
      · rintro (q | q)
        · cases q
        · cases q; rfl
      · rintro rfl; exact .inr rfl
    · rw [List.getElem?_set_ne (Ne.symm e), if_neg e]
theorem putC_len (δ : DSt) (i : Nat) (ys : List PyData) : (putC δ i ys).length = δ.length := by
  unfold putC
  split <;> simp
theorem putC_ne {δ : DSt} {i j : Nat} {ys : List PyData} (h : j ≠ i) : (putC δ i ys)[j]? = δ[j]? := by
  unfold putC
  split <;> first | rw [List.getElem?_set_ne (Ne.symm h)] | rfl
theorem putC_par {δ : DSt} {i j : Nat} {xs ys zs : List PyData} (h : OwnC δ i xs) (q : δ[j]? = some (some (.par zs))) : ∃ ws, (putC δ i ys)[j]? = some (some (.par ws)) := by
  by_cases e : j = i
  · subst e
    have hi : j < δ.length := (List.getElem?_eq_some_iff.mp q).1
    unfold putC
    rw [q]
    exact ⟨ys, List.getElem?_set_self hi⟩
  · exact ⟨zs, by rw [putC_ne e]; exact q⟩
theorem putC_val {δ : DSt} {i j : Nat} {xs ys : List PyData} {d : PyData} (h : OwnC δ i xs) (q : (putC δ i ys)[j]? = some (some (.val d))) : δ[j]? = some (some (.val d)) := by
  by_cases e : j = i
  · subst e
    have hi : j < δ.length := by rcases h with h | h <;> exact (List.getElem?_eq_some_iff.mp h).1
    unfold putC at q
    rcases h with h | h <;> rw [h] at q
    · rw [show (δ.set j (some (Sl.own ys)))[j]? = _ from List.getElem?_set_self hi] at q; cases q
    · rw [show (δ.set j (some (Sl.par ys)))[j]? = _ from List.getElem?_set_self hi] at q; cases q
  · rw [putC_ne e] at q; exact q
theorem putC_ownl {σ : L2.St} {δ : DSt} {i j : Nat} {xs ys zs : List PyData} {b : Addr} (h : OwnC δ i xs) (q : (putC δ i ys)[j]? = some (some (.own zs))) (q2 : σ[j]? = some (some (.ref b))) : OwnL σ δ b := by
  by_cases e : j = i
  · subst e
    have hi : j < δ.length := by rcases h with h | h <;> exact (List.getElem?_eq_some_iff.mp h).1
    rcases h with h | h
    · exact ⟨j, xs, h, q2⟩
    · unfold putC at q
      rw [h] at q
      rw [show (δ.set j (some (Sl.par ys)))[j]? = _ from List.getElem?_set_self hi] at q
      cases q
  · rw [putC_ne e] at q
    exact ⟨j, zs, q, q2⟩
theorem RepS.put (R : RepS K F σ δ H) {i : Nat} {xs ys : List PyData} {l : Addr} {ws : List V} (h : OwnC δ i xs) (hl : σ[i]? = some (some (.ref l))) (hw : DpAll K F ws ys) :
    RepS K F σ (putC δ i ys) (upd H l (.lst ws)) ∧ Stp σ δ F H σ (putC δ i ys) F (upd H l (.lst ws)) := by
  obtain ⟨l', vs, e1, e2, e3, e4⟩ := R.own i xs h
  rw [hl] at e1
  cases e1
  have ownA : ∀ b, OwnA σ (putC δ i ys) b → OwnA σ δ b := fun b ⟨j, zs, q1, q2⟩ => by
    rw [putC_own h] at q1
    by_cases e : j = i
    · subst e; exact ⟨j, xs, h, q2⟩
    · rw [if_neg e] at q1; exact ⟨j, zs, q1, q2⟩
  refine ⟨⟨by rw [putC_len]; exact R.len, fun b u e => ?_, fun j d q => R.val j d (putC_val h q), fun j zs q => ?_, fun a b zs1 zs2 l' ne q1 q2 => ?_⟩,
    ⟨Same.refl _, fun _ _ q => .inl q, fun b u q n => ?_, fun b q => ?_, fun b q => .inl (ownA b q), fun j zs q => ⟨putC_par h q, rfl⟩, fun b ⟨j, zs, q1, q2⟩ => .inl (putC_ownl h q1 q2)⟩⟩
  · have ne : b ≠ l := fun z => by subst z; rw [e2] at e; cases e
    rw [upd_ne ne]; exact R.sub b u e
  · rw [putC_own h] at q
    by_cases e : j = i
    · subst e
      rw [if_pos rfl] at q
      subst q
      exact ⟨l, ws, hl, e2, upd_same, hw⟩
    · rw [if_neg e] at q
      obtain ⟨l2, vs2, f1, f2, f3, f4⟩ := R.own j zs q
      have ne : l2 ≠ l := fun z => by
        subst z
        exact R.sep j i zs xs l2 e q h f1 hl
      exact ⟨l2, vs2, f1, f2, by rw [upd_ne ne]; exact f3, f4⟩
  · rw [putC_own h] at q1 q2
    have g1 : ∃ zs, OwnC δ a zs := by
      by_cases e : a = i
      · exact ⟨xs, e ▸ h⟩
      · rw [if_neg e] at q1; exact ⟨_, q1⟩
    have g2 : ∃ zs, OwnC δ b zs := by
      by_cases e : b = i
      · exact ⟨xs, e ▸ h⟩
      · rw [if_neg e] at q2; exact ⟨_, q2⟩
    obtain ⟨z1, g1⟩ := g1
    obtain ⟨z2, g2⟩ := g2
    exact R.sep a b z1 z2 l' ne g1 g2
  · have ne : b ≠ l := fun z => n ⟨i, xs, h, by rw [z]; exact hl⟩
    rw [upd_ne ne]; exact q
  · by_cases e : b = l
    · subst e; rw [upd_same] at q; cases q
    · rw [upd_ne e] at q; exact q

/-- no list that was handed in stands in slot i -/
def notPar (δ : DSt) (i : Nat) : Prop := ∀ xs, δ[i]? ≠ some (some (.par xs))
theorem RepS.setVal (R : RepS K F σ δ H) {i : Nat} {v : V} {d : PyData} (n : notPar δ i) (h : Dp K F v d) :
    RepS K F (σ.set i (some v)) (δ.set i (some (.val d))) H ∧ Stp σ δ F H (σ.set i (some v)) (δ.set i (some (.val d))) F H := by
  have ow : ∀ j xs, OwnC (δ.set i (some (.val d))) j xs → j ≠ i ∧ OwnC δ j xs := fun j xs q => by
    by_cases e : j = i
    · subst e
      rcases q with q | q
      · rcases Nat.lt_or_ge j δ.length with z | z
        · rw [List.getElem?_set_self z] at q; cases q
        · rw [List.getElem?_eq_none (by simpa using z)] at q; cases q
      · rcases Nat.lt_or_ge j δ.length with z | z
        · rw [List.getElem?_set_self z] at q; cases q
        · rw [List.getElem?_eq_none (by simpa using z)] at q; cases q
    · refine ⟨e, ?_⟩
      unfold OwnC at q ⊢
      rw [List.getElem?_set_ne (Ne.symm e)] at q
      exact q
  refine ⟨⟨by simp [R.len], R.sub, fun j d' q => ?_, fun j xs q => ?_, fun a b xs ys l ne q1 q2 => ?_⟩, ⟨Same.refl _, fun _ _ q => .inl q, fun _ _ q _ => q, fun _ q => q, fun l q => .inl ?_, fun j xs q => ?_, fun l q => .inl ?_⟩⟩
  · by_cases e : j = i
    · subst e
      rcases Nat.lt_or_ge j δ.length with z | z
      · rw [List.getElem?_set_self z] at q
        cases q
        exact ⟨v, List.getElem?_set_self (by rw [R.len]; exact z), h⟩
      · rw [List.getElem?_eq_none (by simpa using z)] at q; cases q
    · rw [List.getElem?_set_ne (Ne.symm e)] at q ⊢
      exact R.val j d' q
  · obtain ⟨e, q⟩ := ow j xs q
    rw [List.getElem?_set_ne (Ne.symm e)]
    exact R.own j xs q
  · obtain ⟨e1, q1⟩ := ow a xs q1
    obtain ⟨e2, q2⟩ := ow b ys q2
    rw [List.getElem?_set_ne (Ne.symm e1), List.getElem?_set_ne (Ne.symm e2)]
    exact R.sep a b xs ys l ne q1 q2
  · obtain ⟨j, xs, q1, q2⟩ := q
    obtain ⟨e, q1⟩ := ow j xs q1
    rw [List.getElem?_set_ne (Ne.symm e)] at q2
    exact ⟨j, xs, q1, q2⟩
  · have e : j ≠ i := fun z => n xs (z ▸ q)
    exact ⟨⟨xs, by rw [List.getElem?_set_ne (Ne.symm e)]; exact q⟩, List.getElem?_set_ne (Ne.symm e)⟩
  · obtain ⟨j, xs, q1, q2⟩ := q
    have e : j ≠ i := (ow j xs (.inl q1)).1
    rw [List.getElem?_set_ne (Ne.symm e)] at q1 q2
    exact ⟨j, xs, q1, q2⟩
/-- a new list goes to slot i -/
theorem RepS.setOwn (R : RepS K F σ δ H) {i : Nat} {l : Addr} {ws : List V} {xs : List PyData} (n : notPar δ i) (hF : F l = none) (hH : H l = some (.lst ws)) (hn : ¬ OwnA σ δ l) (h : DpAll K F ws xs) :
    RepS K F (σ.set i (some (.ref l))) (δ.set i (some (.own xs))) H ∧ (∀ a, OwnA (σ.set i (some (.ref l))) (δ.set i (some (.own xs))) a → OwnA σ δ a ∨ a = l) ∧
      ∀ (j : Nat) (zs : List PyData), δ[j]? = some (some (.par zs)) → (∃ ys : List PyData, (δ.set i (some (.own xs)))[j]? = some (some (.par ys))) ∧ (σ.set i (some (.ref l)))[j]? = σ[j]? := by
  have ow : ∀ j zs, OwnC (δ.set i (some (.own xs))) j zs → (j = i ∧ zs = xs ∧ i < δ.length) ∨ (j ≠ i ∧ OwnC δ j zs) := fun j zs q => by
    by_cases e : j = i
    · subst e
      rcases Nat.lt_or_ge j δ.length with z | z
      · refine .inl ⟨rfl, ?_, z⟩
        rcases q with q | q
        · rw [List.getElem?_set_self z] at q; cases q; rfl
        · rw [List.getElem?_set_self z] at q; cases q
      · rcases q with q | q <;> (rw [List.getElem?_eq_none (by simpa using z)] at q; cases q)
    · refine .inr ⟨e, ?_⟩
      unfold OwnC at q ⊢
      rw [List.getElem?_set_ne (Ne.symm e)] at q
      exact q
  refine ⟨⟨by simp [R.len], R.sub, fun j d' q => ?_, fun j zs q => ?_, fun a b zs ys l' ne q1 q2 => ?_⟩, fun a q => ?_, fun j zs q => ?_⟩
  · by_cases e : j = i
    · subst e
      rcases Nat.lt_or_ge j δ.length with z | z
      · rw [List.getElem?_set_self z] at q; cases q
      · rw [List.getElem?_eq_none (by simpa using z)] at q; cases q
    · rw [List.getElem?_set_ne (Ne.symm e)] at q ⊢
      exact R.val j d' q
  · rcases ow j zs q with ⟨rfl, rfl, z⟩ | ⟨e, q⟩
    · exact ⟨l, ws, List.getElem?_set_self (by rw [R.len]; exact z), hF, hH, h⟩
    · rw [List.getElem?_set_ne (Ne.symm e)]
      exact R.own j zs q
  · intro q3 q4
    rcases ow a zs q1 with ⟨z1, _, z⟩ | ⟨e1, g1⟩
    · rcases ow b ys q2 with ⟨z2, _, _⟩ | ⟨e2, g2⟩
      · exact ne (z1.trans z2.symm)
      · rw [z1, List.getElem?_set_self (by rw [R.len]; exact z)] at q3
        cases q3
        rw [List.getElem?_set_ne (Ne.symm e2)] at q4
        exact hn ⟨b, ys, g2, q4⟩
    · rw [List.getElem?_set_ne (Ne.symm e1)] at q3
      rcases ow b ys q2 with ⟨z2, _, z⟩ | ⟨e2, g2⟩
      · rw [z2, List.getElem?_set_self (by rw [R.len]; exact z)] at q4
        cases q4
        exact hn ⟨a, zs, g1, q3⟩
      · rw [List.getElem?_set_ne (Ne.symm e2)] at q4
        exact R.sep a b zs ys l' ne g1 g2 q3 q4
  · obtain ⟨j, zs, q1, q2⟩ := q
    rcases ow j zs q1 with ⟨rfl, rfl, z⟩ | ⟨e, q1⟩
    · rw [List.getElem?_set_self (by rw [R.len]; exact z)] at q2
      cases q2
      exact .inr rfl
    · rw [List.getElem?_set_ne (Ne.symm e)] at q2
      exact .inl ⟨j, zs, q1, q2⟩
  · have e : j ≠ i := fun z => n zs (z ▸ q)
    exact ⟨⟨zs, by rw [List.getElem?_set_ne (Ne.symm e)]; exact q⟩, List.getElem?_set_ne (Ne.symm e)⟩
theorem RepS.setOwnS (R : RepS K F σ δ H) {i : Nat} {l : Addr} {ws : List V} {xs : List PyData} (n : notPar δ i) (hF : F l = none) (hH : H l = some (.lst ws)) (hn : ¬ OwnA σ δ l) (h : DpAll K F ws xs) :
    RepS K F (σ.set i (some (.ref l))) (δ.set i (some (.own xs))) H ∧ ∀ {σ0 : L2.St} {δ0 : DSt} {F0 H0 : Hp}, Stp σ0 δ0 F0 H0 σ δ F H → H0 l = none → Stp σ0 δ0 F0 H0 (σ.set i (some (.ref l))) (δ.set i (some (.own xs))) F H := by
  obtain ⟨R2, o2, p2⟩ := R.setOwn n hF hH hn h
  refine ⟨R2, fun {σ0 δ0 F0 H0} s hl => ⟨s.ext, s.new, s.frm, s.dom, fun a q => ?_, fun j zs q => ?_, fun a q => ?_⟩⟩
  · rcases o2 a q with z | z
    · exact s.own a z
    · subst z; exact .inr hl
  · obtain ⟨⟨ys, q1⟩, e1⟩ := s.par j zs q
    obtain ⟨q2, e2⟩ := p2 j ys q1
    exact ⟨q2, e2.trans e1⟩
  · obtain ⟨j, zs, q1, q2⟩ := q
    by_cases e : j = i
    · subst e
      have z : j < δ.length := by
        have := (List.getElem?_eq_some_iff.mp q1).1
        simpa using this
      rw [List.getElem?_set_self (by rw [R.len]; exact z)] at q2
      cases q2
      exact .inr hl
    · rw [List.getElem?_set_ne (Ne.symm e)] at q1 q2
      exact s.ownl a ⟨j, zs, q1, q2⟩
/-- the owned list in slot i is frozen -/
theorem RepS.freeze (R : RepS K F σ δ H) {i : Nat} {xs : List PyData} {l : Addr} {vs : List V} (h : δ[i]? = some (some (.own xs))) (hl : σ[i]? = some (some (.ref l))) (hv : H l = some (.lst vs)) :
    RepS K (upd F l (.lst vs)) σ (δ.set i (some (.val (.list xs)))) H ∧ Stp σ δ F H σ (δ.set i (some (.val (.list xs)))) (upd F l (.lst vs)) H := by
  have hi : i < δ.length := (List.getElem?_eq_some_iff.mp h).1
  obtain ⟨l', vs', e1, e2, e3, e4⟩ := R.own i xs (.inl h)
  rw [hl] at e1
  cases e1
  rw [hv] at e3
  cases e3
  have sF : Same F (upd F l (.lst vs)) := fun b u e => by rw [upd_ne (ne_of_none e e2)]; exact e
  have ow : ∀ j ys, OwnC (δ.set i (some (.val (.list xs)))) j ys → j ≠ i ∧ OwnC δ j ys := fun j ys q => by
    by_cases e : j = i
    · subst e
      rcases q with q | q <;> (rw [List.getElem?_set_self hi] at q; cases q)
    · refine ⟨e, ?_⟩
      unfold OwnC at q ⊢
      rw [List.getElem?_set_ne (Ne.symm e)] at q
      exact q
  refine ⟨⟨by simp [R.len], fun b u e => ?_, fun j d q => ?_, fun j ys q => ?_, fun a b ys zs l' ne q1 q2 => ?_⟩, ⟨sF, fun b u e => ?_, fun _ _ q _ => q, fun _ q => q, fun a ⟨j, ys, q1, q2⟩ => .inl ⟨j, ys, (ow j ys q1).2, q2⟩, fun j ys q => ?_, fun a ⟨j, ys, q1, q2⟩ => .inl ?_⟩⟩
  · by_cases hb : b = l
    · subst hb; rw [upd_same] at e; rw [hv]; exact e
    · rw [upd_ne hb] at e; exact R.sub b u e
  · by_cases e : j = i
    · subst e
      rw [List.getElem?_set_self hi] at q
      cases q
      exact ⟨.ref l, hl, .lst (SqL.of upd_same) (Dp.monoAll sF _ _ e4)⟩
    · rw [List.getElem?_set_ne (Ne.symm e)] at q
      obtain ⟨v, q1, q2⟩ := R.val j d q
      exact ⟨v, q1, Dp.mono sF d v q2⟩
  · obtain ⟨e, q⟩ := ow j ys q
    obtain ⟨l2, vs2, f1, f2, f3, f4⟩ := R.own j ys q
    have ne : l2 ≠ l := fun z => by
      subst z
      exact R.sep j i ys xs l2 e q (.inl h) f1 hl
    exact ⟨l2, vs2, f1, by rw [upd_ne ne]; exact f2, f3, Dp.monoAll sF _ _ f4⟩
  · obtain ⟨_, q1⟩ := ow a ys q1
    obtain ⟨_, q2⟩ := ow b zs q2
    exact R.sep a b ys zs l' ne q1 q2
  · by_cases hb : b = l
    · subst hb; exact .inr (.inr ⟨i, xs, h, hl⟩)
    · rw [upd_ne hb] at e; exact .inl e
  · have e : j ≠ i := fun z => by rw [z, h] at q; cases q
    exact ⟨⟨ys, by rw [List.getElem?_set_ne (Ne.symm e)]; exact q⟩, rfl⟩
  · have e : j ≠ i := (ow j ys (.inl q1)).1
    rw [List.getElem?_set_ne (Ne.symm e)] at q1
    exact ⟨j, ys, q1, q2⟩
end
end DD

namespace DD
open PySem PySem.Spec PyProof.Rows L2

/-! ### expressions -/
structure PD (X : Cx) (e : Expr) (f : DTE) : Prop where
  ex : ∃ te, PE X e te ∧ ∀ {F : Hp} {σ : L2.St} {δ : DSt} {H : Hp} {Q : VK} {C : Ar → DSt → Prop}, RepS X.K F σ δ H → f δ C →
    (∀ a δ' F' H' v, RepS X.K F' σ δ' H' → Stp σ δ F H σ δ' F' H' → ArRep X.K F' σ v a → C a δ' → Q v H') → te σ H Q
structure PDT (X : Cx) (e : Expr) (f : DTT) : Prop where
  ex : ∃ te, PT X e te ∧ ∀ {F : Hp} {σ : L2.St} {δ : DSt} {H : Hp} {Q : Bool → Hp → Prop} {C : Bool → DSt → Prop}, RepS X.K F σ δ H → f δ C →
    (∀ a δ' F' H', RepS X.K F' σ δ' H' → Stp σ δ F H σ δ' F' H' → C a δ' → Q a H') → te σ H Q
structure PDW (X : Cx) (e : Expr) (f : DTT) : Prop where
  ex : ∃ te, PW X e te ∧ ∀ {F : Hp} {σ : L2.St} {δ : DSt} {H : Hp} {Q : Bool → Hp → Prop} {C : Bool → DSt → Prop}, RepS X.K F σ δ H → f δ C →
    (∀ a δ' F' H', RepS X.K F' σ δ' H' → Stp σ δ F H σ δ' F' H' → C a δ' → Q a H') → te σ H Q
structure PDA (X : Cx) (es : List Expr) (f : DTA) : Prop where
  ex : ∃ ta, PA X es ta ∧ ∀ {F : Hp} {σ : L2.St} {δ : DSt} {H : Hp} {Q : List V → Hp → Prop} {C : List Ar → DSt → Prop}, RepS X.K F σ δ H → f δ C →
    (∀ as δ' F' H' vs, RepS X.K F' σ δ' H' → Stp σ δ F H σ δ' F' H' → ArsRep X.K F' σ vs as → C as δ' → Q vs H') → ta σ H Q
/-- an expression that gives a new list, nobody else's -/
structure PDN (X : Cx) (e : Expr) (f : DSt → (List PyData → DSt → Prop) → Prop) : Prop where
  ex : ∃ te, PE X e te ∧ ∀ {F : Hp} {σ : L2.St} {δ : DSt} {H : Hp} {Q : VK} {C : List PyData → DSt → Prop}, RepS X.K F σ δ H → f δ C →
    (∀ xs δ' F' H' l ws, RepS X.K F' σ δ' H' → Stp σ δ F H σ δ' F' H' → F' l = none → H l = none → ¬ OwnA σ δ' l → H' l = some (.lst ws) → DpAll X.K F' ws xs → C xs δ' → Q (.ref l) H') → te σ H Q

def dVar (i : Nat) : DTE := fun δ C => match δ[i]? with
  | some (some (.val d)) => C (.val d) δ
  | some (some (.own _)) => C (.sl i) δ
  | some (some (.par _)) => C (.sl i) δ
  | _ => False
def dC (d : PyData) : DTE := fun δ C => C (.val d) δ
/-- the owned list in a slot -/
def cont (δ : DSt) (i : Nat) : Option (List PyData) := match δ[i]? with
  | some (some (.own xs)) => some xs
  | some (some (.par xs)) => some xs
  | _ => none
theorem cont_own {δ : DSt} {i : Nat} {xs : List PyData} (h : cont δ i = some xs) : OwnC δ i xs := by
  unfold cont at h
  split at h
  · cases h; exact .inl ‹_›
  · cases h; exact .inr ‹_›
  · cases h
/-- the data of what an expression gave, as it is now -/
def rd (δ : DSt) : Ar → Option PyData
  | .val d => some d
  | .sl i => (cont δ i).map PyData.list
/-- .. of frozen data alone -/
def rv : Ar → Option PyData
  | .val d => some d
  | .sl _ => none
section
variable {X : Cx} {K : PySem.W.Frag} {F H : Hp} {σ : L2.St} {δ : DSt}
theorem ArRep.rd (R : RepS K F σ δ H) {v : V} {a : Ar} {d : PyData} (h : ArRep K F σ v a) (e : DD.rd δ a = some d) : Dp K H v d := by
  cases a with
  | val d' =>
    cases e
    exact Dp.mono R.sub _ _ h
  | sl i =>
    have e : (cont δ i).map PyData.list = some d := e
    cases q : cont δ i with
    | none => rw [q] at e; cases e
    | some xs =>
      rw [q] at e
      cases e
      obtain ⟨l, vs, h1, _, h3, h4⟩ := R.own i xs (cont_own q)
      have h : σ[i]? = some (some v) := h
      rw [h1] at h
      cases h
      exact .lst (SqL.of h3) (Dp.monoAll R.sub _ _ h4)
theorem ArRep.rv {v : V} {a : Ar} {d : PyData} (h : ArRep K F σ v a) (e : DD.rv a = some d) : Dp K F v d := by
  cases a with
  | val d' => cases e; exact h
  | sl i => cases e
theorem ArsRep.mono {F' : Hp} (e : Same F F') : ∀ {vs : List V} {as : List Ar}, ArsRep K F σ vs as → ArsRep K F' σ vs as
  | [], [], _ => trivial
  | v :: vs, a :: as, h => ⟨h.1.mono e, ArsRep.mono e h.2⟩
  | [], _ :: _, h => h.elim
  | _ :: _, [], h => h.elim

theorem pd_var (i : Nat) {x : Str} {pos : Pos} (hN : X.N[i]? = some x := by rfl) (hv : Vis X.env.scope x := by first | exact Or.inl rfl | exact Or.inr (Or.inl rfl) | exact Or.inr (Or.inr rfl)) (hd : (x == ("__debug__" : Str)) = false := by decide)
    (hcd : (x == ("__classdict__" : Str)) = false := by decide) : PD X (.Name x pos) (dVar i) := by
  refine ⟨_, pv i hN hv hd hcd, fun {F σ δ H Q C} R h k => ?_⟩
  have key : ∀ xs, OwnC δ i xs → C (.sl i) δ → tVar i σ H Q := fun xs o c => by
    obtain ⟨l, vs, h1, _⟩ := R.own i xs o
    exact ⟨.ref l, h1, k (.sl i) _ _ _ _ R .refl h1 c⟩
  unfold dVar at h
  split at h
  · obtain ⟨v, h1, h2⟩ := R.val i _ ‹_›
    exact ⟨v, h1, k (.val _) _ _ _ _ R .refl h2 h⟩
  · exact key _ (.inl ‹_›) h
  · exact key _ (.inr ‹_›) h
  · exact h.elim
theorem pd_c {e : Expr} {v : V} {d : PyData} (h : PE X e (tC v)) (hd : ∀ F, Dp X.K F v d) : PD X e (dC d) :=
  ⟨_, h, fun R c k => k (.val d) _ _ _ _ R .refl (hd _) c⟩
theorem pd_int {i j pos} : PD X (.Constant (.int i) j pos) (dC (.int i)) := pd_c pe_int fun _ => .int i
theorem pd_str {x j pos} : PD X (.Constant (.str x) j pos) (dC (.str x)) := pd_c pe_str fun _ => .str x
theorem pd_bl {b j pos} : PD X (.Constant (.bool b) j pos) (dC (.bool b)) := pd_c pe_bl fun _ => .bl b
theorem pd_non {j pos} : PD X (.Constant .none j pos) (dC .none) := pd_c pe_non fun _ => .non
theorem pd_globS {x : Str} {z : Str} {t : Tok} {pos : Pos} (hg : Gl X x) (hm : X.mg x = some (.str z t)) (hd : (x == ("__debug__" : Str)) = false := by decide) : PD X (.Name x pos) (dC (.str z)) := pd_c (v := .str z) (pe_glob hg hm ⟨_, rfl⟩ hd) fun _ => .str z
theorem pd_globI {x : Str} {z : Int} {t : Tok} {pos : Pos} (hg : Gl X x) (hm : X.mg x = some (.int z t)) (hd : (x == ("__debug__" : Str)) = false := by decide) : PD X (.Name x pos) (dC (.int z)) := pd_c (v := .int z) (pe_glob hg hm ⟨_, rfl⟩ hd) fun _ => .int z
/-- a module's tuple -/
theorem pd_globT {x : Str} {a : Addr} {d : PyData} {pos : Pos} (hg : Gl X x) (hm : X.mg x = some (.ref a)) (hT : ∀ F, Dp X.K F (.ref a) d) (hd : (x == ("__debug__" : Str)) = false := by decide) : PD X (.Name x pos) (dC d) := pd_c (v := .ref a) (pe_glob hg hm rfl hd) hT

/-! ### argument lists -/
def dNil : DTA := fun δ C => C [] δ
def dCons (f : DTE) (g : DTA) : DTA := fun δ C => f δ fun a δ1 => g δ1 fun as δ2 => C (a :: as) δ2
theorem pda_nil : PDA X [] dNil := ⟨_, pa_nil, fun R c k => k [] _ _ _ _ R .refl trivial c⟩
theorem pda_cons {e : Expr} {es : List Expr} {f : DTE} {g : DTA} (h1 : PD X e f) (h2 : PDA X es g) (hs : starEach (e :: es) X.env = (false, eval e X.env) :: starEach es X.env := by rfl) : PDA X (e :: es) (dCons f g) := by
  obtain ⟨te, p1, q1⟩ := h1
  obtain ⟨ta, p2, q2⟩ := h2
  refine ⟨_, pa_cons p1 p2 hs, fun R c k => ?_⟩
  refine q1 R c fun a δ1 F1 H1 v R1 s1 r1 c1 => ?_
  refine q2 R1 c1 fun as δ2 F2 H2 vs R2 s2 r2 c2 => ?_
  exact k (a :: as) _ _ _ _ R2 (s1.trans s2) ⟨r1.mono s2.ext, r2⟩ c2
/-- frozen data only -/
def rvs : List Ar → Option (List PyData)
  | [] => some []
  | .val d :: as => match rvs as with
    | some ds => some (d :: ds)
    | none => none
  | .sl _ :: _ => none
theorem ArsRep.rvs : ∀ {vs : List V} {as : List Ar} {ds : List PyData}, ArsRep K F σ vs as → DD.rvs as = some ds → DpAll K F vs ds
  | [], [], ds, _, e => by cases e; exact .nil
  | v :: vs, .val d :: as, ds, h, e => by
    unfold DD.rvs at e
    split at e
    · cases e; exact .cons h.1 (ArsRep.rvs h.2 ‹_›)
    · cases e
  | _ :: _, .sl _ :: _, _, _, e => by cases e
  | [], _ :: _, _, h, _ => h.elim
  | _ :: _, [], _, h, _ => h.elim

/-! ### two-place operators -/
abbrev DOp := PyData → PyData → (PyData → Prop) → Prop
def OpD (X : Cx) (f : Value → Value → Sem Value) (r : DOp) : Prop :=
  ∃ r' : R2, OpR X f r' ∧ ∀ {F : Hp} {σ : L2.St} {δ : DSt} {H : Hp} {x y : V} {d e : PyData} {Q : VK} {C : PyData → Prop}, RepS X.K F σ δ H → Dp X.K F x d → Dp X.K F y e → r d e C →
    (∀ z F' H' v, RepS X.K F' σ δ H' → Stp σ δ F H σ δ F' H' → Dp X.K F' v z → C z → Q v H') → r' x y H Q
theorem OpR.or {f : Value → Value → Sem Value} {r r' : R2} (h : OpR X f r) (h' : OpR X f r') : OpR X f (fun x y H Q => r x y H Q ∨ r' x y H Q) := by
  intro pins s σ H x y v u Q I rx ry q
  rcases q with q | q
  · exact h pins s σ H x y v u Q I rx ry q
  · exact h' pins s σ H x y v u Q I rx ry q
def dBin (r : DOp) (fa fb : DTE) : DTE := fun δ C => fa δ fun a δ1 => fb δ1 fun b δ2 => match rv a, rv b with
  | some d, some e => r d e fun z => C (.val z) δ2
  | _, _ => False
theorem pd_op {a b : Expr} {op : Operator} {r : DOp} {fa fb : DTE} {pos : Pos} (ho : OpD X (binaryOp op) r) (ha : PD X a fa) (hb : PD X b fb) : PD X (.BinOp a op b pos) (dBin r fa fb) := by
  obtain ⟨r', o1, o2⟩ := ho
  obtain ⟨te, p1, q1⟩ := ha
  obtain ⟨tb, p2, q2⟩ := hb
  refine ⟨_, pe_op o1 p1 p2, fun R c k => ?_⟩
  refine q1 R c fun a δ1 F1 H1 v R1 s1 r1 c1 => ?_
  refine q2 R1 c1 fun b δ2 F2 H2 w R2 s2 r2 c2 => ?_
  split at c2
  · rename_i d e h1 h2
    exact o2 R2 ((r1.mono s2.ext).rv h1) (r2.rv h2) c2 fun z F' H' v R3 s3 r3 c3 => k (.val z) _ _ _ _ R3 ((s1.trans s2).trans s3) r3 c3
  · exact c2.elim
/-- comparisons: the data as they are now -/
def OpC (X : Cx) (f : Value → Value → Sem Value) (r : PyData → PyData → (Bool → Prop) → Prop) : Prop :=
  ∃ r' : R2, OpR X f r' ∧ ∀ {H : Hp} {x y : V} {d e : PyData} {Q : VK} {C : Bool → Prop}, Dp X.K H x d → Dp X.K H y e → r d e C → (∀ b, C b → Q (.bl b) H) → r' x y H Q
abbrev DCp := PyData → PyData → (Bool → Prop) → Prop
def dCmp (r : DCp) (fa fb : DTE) : DTT := fun δ C => fa δ fun a δ1 => fb δ1 fun b δ2 => match rd δ2 a, rd δ2 b with
  | some d, some e => r d e fun z => C z δ2
  | _, _ => False
def dB (t : DTT) : DTE := fun δ C => t δ fun b δ1 => C (.val (.bool b)) δ1
/-- an operand stays what it is while the next one is reckoned -/
theorem pd_cmpCore {a b : Expr} {op : CmpOp} {r : DCp} {fa fb : DTE} {pos : Pos} (ho : OpC X (compareOp op) r) (ha : PD X a fa) (hb : PD X b fb) (hm : behindInMarks op b = false) :
    ∃ te, PE X (.Compare a [op] [b] pos) te ∧ ∀ {F : Hp} {σ : L2.St} {δ : DSt} {H : Hp} {Q : VK} {C : Bool → DSt → Prop}, RepS X.K F σ δ H → dCmp r fa fb δ C →
      (∀ z δ' F' H', RepS X.K F' σ δ' H' → Stp σ δ F H σ δ' F' H' → C z δ' → Q (.bl z) H') → te σ H Q := by
  obtain ⟨r', o1, o2⟩ := ho
  obtain ⟨te, p1, q1⟩ := ha
  obtain ⟨tb, p2, q2⟩ := hb
  refine ⟨_, pe_cmpR o1 p1 p2 hm, fun R c k => ?_⟩
  refine q1 R c fun a δ1 F1 H1 v R1 s1 r1 c1 => ?_
  refine q2 R1 c1 fun b δ2 F2 H2 w R2 s2 r2 c2 => ?_
  split at c2
  · rename_i d e h1 h2
    exact o2 ((r1.mono s2.ext).rd R2 h1) (r2.rd R2 h2) c2 fun z c3 => k _ _ _ _ R2 (s1.trans s2) c3
  · exact c2.elim
theorem pd_cmp {a b : Expr} {op : CmpOp} {r : DCp} {fa fb : DTE} {pos : Pos} (ho : OpC X (compareOp op) r) (ha : PD X a fa) (hb : PD X b fb) (hm : behindInMarks op b = false := by first | exact nomark _ | rfl) : PD X (.Compare a [op] [b] pos) (dB (dCmp r fa fb)) := by
  obtain ⟨te, p, q⟩ := pd_cmpCore ho ha hb hm
  exact ⟨te, p, fun R c k => q R c fun z δ' F' H' R' s' c' => k (.val (.bool z)) _ _ _ _ R' s' (Dp.bl z) c'⟩
theorem pdt_cmp {a b : Expr} {op : CmpOp} {r : DCp} {fa fb : DTE} {pos : Pos} (ho : OpC X (compareOp op) r) (ha : PD X a fa) (hb : PD X b fb) (hm : behindInMarks op b = false := by first | exact nomark _ | rfl) : PDT X (.Compare a [op] [b] pos) (dCmp r fa fb) := by
  obtain ⟨r', o1, o2⟩ := ho
  obtain ⟨te, p1, q1⟩ := ha
  obtain ⟨tb, p2, q2⟩ := hb
  refine ⟨_, pt_cmpR o1 p1 p2 hm, fun R c k => ?_⟩
  refine q1 R c fun a δ1 F1 H1 v R1 s1 r1 c1 => ?_
  refine q2 R1 c1 fun b δ2 F2 H2 w R2 s2 r2 c2 => ?_
  split at c2
  · rename_i d e h1 h2
    exact o2 ((r1.mono s2.ext).rd R2 h1) (r2.rd R2 h2) c2 fun z c3 => ⟨z, rfl, k _ _ _ _ R2 (s1.trans s2) c3⟩
  · exact c2.elim

/-! ### tests -/
def dT (f : DTE) : DTT := fun δ C => f δ fun a δ1 => match rd δ1 a with
  | some (.bool b) => C b δ1
  | _ => False
/-- an expression that gives True or False, as a test -/
theorem pdt_val {e : Expr} {f : DTE} (h : PD X e f) (he : ∀ whole, isTrue e X.env whole = (do let v ← whole; standAt e.pos; holding [v] (truthy v)) := by intro _; rfl) : PDT X e (dT f) := by
  obtain ⟨te, p, q⟩ := h
  refine ⟨_, pt_val p he, fun R c k => ?_⟩
  refine q R c fun a δ1 F1 H1 v R1 s1 r1 c1 => ?_
  split at c1
  · rename_i b hb
    have := r1.rd R1 hb
    cases this
    exact ⟨b, rfl, k _ _ _ _ R1 s1 c1⟩
  · exact c1.elim
def truD : PyData → (Bool → Prop) → Prop
  | .none, C => C false
  | .bool b, C => C b
  | .int i, C => C (i != 0)
  | .str z, C => z.length ≤ sizeLine ∧ C ((z.length : Int) != 0)
  | .list xs, C => C (!xs.isEmpty)
  | .tuple xs, C => C (!xs.isEmpty)
  | _, _ => False
def dTru (f : DTE) : DTT := fun δ C => f δ fun a δ1 => match rd δ1 a with
  | some d => truD d fun b => C b δ1
  | _ => False
theorem empty_iff {K : PySem.W.Frag} {F : Hp} {vs : List V} {xs : List PyData} (h : DpAll K F vs xs) : vs.isEmpty = xs.isEmpty := by
  cases h <;> rfl
theorem pdt_tru {e : Expr} {f : DTE} (h : PD X e f) (he : ∀ whole, isTrue e X.env whole = (do let v ← whole; standAt e.pos; holding [v] (truthy v)) := by intro _; rfl) : PDT X e (dTru f) := by
  obtain ⟨te, p, q⟩ := h
  refine ⟨_, pt_truth p he, fun R c k => ?_⟩
  refine q R c fun a δ1 F1 H1 v R1 s1 r1 c1 => ?_
  split at c1
  · rename_i d hb
    have hd := r1.rd R1 hb
    cases d with
    | none => cases hd; exact ⟨_, rfl, k _ _ _ _ R1 s1 c1⟩
    | bool b => cases hd; exact ⟨_, rfl, k _ _ _ _ R1 s1 c1⟩
    | int i => cases hd; exact ⟨_, rfl, k _ _ _ _ R1 s1 c1⟩
    | str z => cases hd; exact ⟨_, ⟨c1.1, rfl⟩, k _ _ _ _ R1 s1 c1.2⟩
    | list xs =>
      cases hd with
      | lst hs ha => exact ⟨_, .inl ⟨_, hs, rfl⟩, k _ _ _ _ R1 s1 (by rw [empty_iff ha]; exact c1)⟩
    | tuple xs =>
      cases hd with
      | tup hs ha => exact ⟨_, .inr (.inl ⟨_, hs, rfl⟩), k _ _ _ _ R1 s1 (by rw [empty_iff ha]; exact c1)⟩
    | dict _ => cases hd
  · exact c1.elim
def dNot (t : DTT) : DTT := fun δ C => t δ fun b δ1 => C (!b) δ1
def dAnd (t u : DTT) : DTT := fun δ C => t δ fun b δ1 => (b = true → u δ1 C) ∧ (b = false → C false δ1)
def dOr (t u : DTT) : DTT := fun δ C => t δ fun b δ1 => (b = true → C true δ1) ∧ (b = false → u δ1 C)
theorem pdt_not {a : Expr} {t : DTT} {pos : Pos} (h : PDT X a t) : PDT X (.UnaryOp .Not a pos) (dNot t) := by
  obtain ⟨te, p, q⟩ := h
  exact ⟨_, pt_not p, fun R c k => q R c fun b δ1 F1 H1 R1 s1 c1 => k _ _ _ _ R1 s1 c1⟩
theorem PDW.pt {e : Expr} {t : DTT} (h : PDW X e t) : PDT X e t := by
  obtain ⟨te, p, q⟩ := h
  exact ⟨_, p.pt, q⟩
theorem pdw_and1 {a : Expr} {t : DTT} {pos : Pos} (h : PDT X a t) : PDW X (.BoolOp .And [a] pos) t := by
  obtain ⟨te, p, q⟩ := h
  exact ⟨_, pw_and1 p, q⟩
theorem pdw_or1 {a : Expr} {t : DTT} {pos : Pos} (h : PDT X a t) : PDW X (.BoolOp .Or [a] pos) t := by
  obtain ⟨te, p, q⟩ := h
  exact ⟨_, pw_or1 p, q⟩
theorem pdw_and {a b : Expr} {rest : List Expr} {t u : DTT} {pos : Pos} (h : PDT X a t) (h2 : PDW X (.BoolOp .And (b :: rest) pos) u) : PDW X (.BoolOp .And (a :: b :: rest) pos) (dAnd t u) := by
  obtain ⟨te, p, q⟩ := h
  obtain ⟨tf, p2, q2⟩ := h2
  refine ⟨_, pw_and p p2, fun R c k => ?_⟩
  refine q R c fun b δ1 F1 H1 R1 s1 c1 => ?_
  cases b with
  | true => exact iteT (q2 R1 (c1.1 rfl) fun b δ2 F2 H2 R2 s2 c2 => k _ _ _ _ R2 (s1.trans s2) c2)
  | false => exact iteF (k _ _ _ _ R1 s1 (c1.2 rfl))
theorem pdw_or {a b : Expr} {rest : List Expr} {t u : DTT} {pos : Pos} (h : PDT X a t) (h2 : PDW X (.BoolOp .Or (b :: rest) pos) u) : PDW X (.BoolOp .Or (a :: b :: rest) pos) (dOr t u) := by
  obtain ⟨te, p, q⟩ := h
  obtain ⟨tf, p2, q2⟩ := h2
  refine ⟨_, pw_or p p2, fun R c k => ?_⟩
  refine q R c fun b δ1 F1 H1 R1 s1 c1 => ?_
  cases b with
  | true => exact iteT (k _ _ _ _ R1 s1 (c1.1 rfl))
  | false => exact iteF (q2 R1 (c1.2 rfl) fun b δ2 F2 H2 R2 s2 c2 => k _ _ _ _ R2 (s1.trans s2) c2)
/-- as values: bools -/
def dAndV (f g : DTE) : DTE := fun δ C => f δ fun a δ1 => match a with
  | .val (.bool b) => (b = true → g δ1 C) ∧ (b = false → C (.val (.bool false)) δ1)
  | _ => False
def dOrV (f g : DTE) : DTE := fun δ C => f δ fun a δ1 => match a with
  | .val (.bool b) => (b = true → C (.val (.bool true)) δ1) ∧ (b = false → g δ1 C)
  | _ => False
def dNotV (f : DTE) : DTE := fun δ C => f δ fun a δ1 => match a with
  | .val (.bool b) => C (.val (.bool (!b))) δ1
  | _ => False
theorem pd_one {op} {a : Expr} {f : DTE} {pos : Pos} (h : PD X a f) : PD X (.BoolOp op [a] pos) f := by
  obtain ⟨te, p, q⟩ := h
  exact ⟨_, pe_one p, q⟩
theorem pd_and {a b : Expr} {rest : List Expr} {f g : DTE} {pos : Pos} (h : PD X a f) (h2 : PD X (.BoolOp .And (b :: rest) pos) g) : PD X (.BoolOp .And (a :: b :: rest) pos) (dAndV f g) := by
  obtain ⟨te, p, q⟩ := h
  obtain ⟨tf, p2, q2⟩ := h2
  refine ⟨_, pe_and p p2, fun R c k => ?_⟩
  refine q R c fun a δ1 F1 H1 v R1 s1 r1 c1 => ?_
  split at c1
  · rename_i b
    cases (show Dp X.K F1 v (.bool b) from r1)
    refine ⟨b, rfl, ?_⟩
    cases b with
    | true => exact iteT (q2 R1 (c1.1 rfl) fun b δ2 F2 H2 v2 R2 s2 r2 c2 => k _ _ _ _ _ R2 (s1.trans s2) r2 c2)
    | false => exact iteF (k (.val (.bool false)) _ _ _ _ R1 s1 (Dp.bl false) (c1.2 rfl))
  · exact c1.elim
theorem pd_or {a b : Expr} {rest : List Expr} {f g : DTE} {pos : Pos} (h : PD X a f) (h2 : PD X (.BoolOp .Or (b :: rest) pos) g) : PD X (.BoolOp .Or (a :: b :: rest) pos) (dOrV f g) := by
  obtain ⟨te, p, q⟩ := h
  obtain ⟨tf, p2, q2⟩ := h2
  refine ⟨_, pe_or p p2, fun R c k => ?_⟩
  refine q R c fun a δ1 F1 H1 v R1 s1 r1 c1 => ?_
  split at c1
  · rename_i b
    cases (show Dp X.K F1 v (.bool b) from r1)
    refine ⟨b, rfl, ?_⟩
    cases b with
    | true => exact iteT (k (.val (.bool true)) _ _ _ _ R1 s1 (Dp.bl true) (c1.1 rfl))
    | false => exact iteF (q2 R1 (c1.2 rfl) fun b δ2 F2 H2 v2 R2 s2 r2 c2 => k _ _ _ _ _ R2 (s1.trans s2) r2 c2)
  · exact c1.elim
theorem pd_not {a : Expr} {f : DTE} {pos : Pos} (h : PD X a f) : PD X (.UnaryOp .Not a pos) (dNotV f) := by
  obtain ⟨te, p, q⟩ := h
  refine ⟨_, pe_not p, fun R c k => ?_⟩
  refine q R c fun a δ1 F1 H1 v R1 s1 r1 c1 => ?_
  split at c1
  · rename_i b
    cases (show Dp X.K F1 v (.bool b) from r1)
    exact ⟨b, rfl, k (.val (.bool (!b))) _ _ _ _ R1 s1 (Dp.bl _) c1⟩
  · exact c1.elim
def dIfE (t : DTT) (f g : DTE) : DTE := fun δ C => t δ fun b δ1 => (b = true → f δ1 C) ∧ (b = false → g δ1 C)
theorem pd_if {c a b : Expr} {t : DTT} {f g : DTE} {pos : Pos} (hc : PDT X c t) (ha : PD X a f) (hb : PD X b g) : PD X (.IfExp c a b pos) (dIfE t f g) := by
  obtain ⟨tc, p, q⟩ := hc
  obtain ⟨ta, pa, qa⟩ := ha
  obtain ⟨tb, pb, qb⟩ := hb
  refine ⟨_, pe_ifExp p pa pb, fun R c k => ?_⟩
  refine q R c fun b δ1 F1 H1 R1 s1 c1 => ?_
  cases b with
  | true => exact iteT (qa R1 (c1.1 rfl) fun b δ2 F2 H2 v2 R2 s2 r2 c2 => k _ _ _ _ _ R2 (s1.trans s2) r2 c2)
  | false => exact iteF (qb R1 (c1.2 rfl) fun b δ2 F2 H2 v2 R2 s2 r2 c2 => k _ _ _ _ _ R2 (s1.trans s2) r2 c2)

/-! ### displays -/
def dTup (f : DTA) : DTE := fun δ C => f δ fun as δ1 => match rvs as with
  | some ds => ds.length ≤ sizeLine ∧ C (.val (.tuple ds)) δ1
  | none => False
theorem pd_tup {es : List Expr} {x1} {f : DTA} {pos : Pos} (h : PDA X es f) : PD X (.Tuple es x1 pos) (dTup f) := by
  obtain ⟨ta, p, q⟩ := h
  refine ⟨_, pe_tup p, fun R c k => ?_⟩
  refine q R c fun as δ1 F1 H1 vs R1 s1 r1 c1 => ?_
  split at c1
  · rename_i ds hd
    have hA := r1.rvs hd
    refine ⟨by rw [hA.length]; exact c1.1, fun p np => ?_⟩
    obtain ⟨R2, s2⟩ := R1.alloc (o := .tup vs) np
    exact k (.val (.tuple ds)) _ _ _ _ R2 (s1.trans s2) (Dp.tup (SqT.of upd_same) (Dp.monoAll s2.ext _ _ hA)) c1.2
  · exact c1.elim
def dLstN (f : DTA) : DSt → (List PyData → DSt → Prop) → Prop := fun δ C => f δ fun as δ1 => match rvs as with
  | some ds => ds.length ≤ sizeLine ∧ C ds δ1
  | none => False
/-- a heap with a new list, not frozen -/
theorem RepS.fresh {p : Addr} {o : HO} (R : RepS K F σ δ H) (n : H p = none) : RepS K F σ δ (upd H p o) ∧ Stp σ δ F H σ δ F (upd H p o) ∧ F p = none ∧ ¬ OwnA σ δ p := by
  have nF : F p = none := R.sub.free n
  refine ⟨⟨R.len, fun b u e => by rw [upd_ne (ne_of_none e nF)]; exact R.sub b u e, R.val, fun i xs h => ?_, R.sep⟩,
    ⟨Same.refl _, fun _ _ h => .inl h, fun b u e _ => by rw [upd_ne (ne_of_none e n)]; exact e, fun b e => ?_, fun l h => .inl h, fun i xs h => ⟨⟨_, h⟩, rfl⟩, fun l h => .inl h⟩, nF, fun ⟨i, xs, h1, h2⟩ => ?_⟩
  · obtain ⟨l, vs, h1, h2, h3, h4⟩ := R.own i xs h
    exact ⟨l, vs, h1, h2, by rw [upd_ne (ne_of_none h3 n)]; exact h3, h4⟩
  · by_cases hb : b = p
    · subst hb; exact n
    · rw [upd_ne hb] at e; exact e
  · obtain ⟨l, vs, h3, _, h4, _⟩ := R.own i xs h1
    rw [h2] at h3
    cases h3
    rw [n] at h4; cases h4
theorem pdn_lst {es : List Expr} {f : DTA} {pos : Pos} (h : PDA X es f) : PDN X (.List es pos) (dLstN f) := by
  obtain ⟨ta, p, q⟩ := h
  refine ⟨_, pe_lst p, fun {F σ δ H Q C} R c k => ?_⟩
  refine q R c fun as δ1 F1 H1 vs R1 s1 r1 c1 => ?_
  split at c1
  · rename_i ds hd
    have hA := r1.rvs hd
    refine ⟨by rw [hA.length]; exact c1.1, fun p np => ?_⟩
    obtain ⟨R2, s2, nF, nO⟩ := R1.fresh (o := .lst vs) np
    exact k _ _ _ _ _ _ R2 (s1.trans s2) nF (s1.dom _ np) nO upd_same hA c1.2
  · exact c1.elim
/-- a new list becomes frozen data -/
def dFr (f : DSt → (List PyData → DSt → Prop) → Prop) : DTE := fun δ C => f δ fun xs δ1 => C (.val (.list xs)) δ1
theorem RepS.freezeNew {l : Addr} {ws : List V} {xs : List PyData} (R : RepS K F σ δ H) (hF : F l = none) (hO : ¬ OwnA σ δ l) (hH : H l = some (.lst ws)) (hA : DpAll K F ws xs) :
    RepS K (upd F l (.lst ws)) σ δ H ∧ Same F (upd F l (.lst ws)) ∧ Dp K (upd F l (.lst ws)) (.ref l) (.list xs) := by
  have sF : Same F (upd F l (.lst ws)) := fun b u e => by rw [upd_ne (ne_of_none e hF)]; exact e
  refine ⟨⟨R.len, fun b u e => ?_, fun i d h => ?_, fun i ys h => ?_, R.sep⟩, sF, .lst (SqL.of upd_same) (Dp.monoAll sF _ _ hA)⟩
  · by_cases hb : b = l
    · subst hb; rw [upd_same] at e; rw [hH]; exact e
    · rw [upd_ne hb] at e; exact R.sub b u e
  · obtain ⟨v, h1, h2⟩ := R.val i d h
    exact ⟨v, h1, Dp.mono sF d v h2⟩
  · obtain ⟨l2, vs, h1, h2, h3, h4⟩ := R.own i ys h
    have ne : l2 ≠ l := fun z => hO ⟨i, ys, h, by rw [← z]; exact h1⟩
    exact ⟨l2, vs, h1, by rw [upd_ne ne]; exact h2, h3, Dp.monoAll sF _ _ h4⟩
theorem pd_new {e : Expr} {f : DSt → (List PyData → DSt → Prop) → Prop} (h : PDN X e f) : PD X e (dFr f) := by
  obtain ⟨te, p, q⟩ := h
  refine ⟨te, p, fun {F σ δ H Q C} R c k => ?_⟩
  refine q R c fun xs δ1 F1 H1 l ws R1 s1 nF nH nO hH hA c1 => ?_
  obtain ⟨R2, sF, hD⟩ := R1.freezeNew nF nO hH hA
  refine k (.val (.list xs)) _ _ _ _ R2 ⟨s1.ext.trans sF, fun b o e => ?_, s1.frm, s1.dom, s1.own, s1.par, s1.ownl⟩ hD c1
  by_cases hb : b = l
  · subst hb; exact .inr (.inl nH)
  · rw [upd_ne hb] at e; exact s1.new b o e
end
end DD

namespace DD
open PySem PySem.Spec PyProof.Rows L2
section
variable {X : Cx} {K : PySem.W.Frag} {F H : Hp} {σ : L2.St} {δ : DSt}

/-! ### arithmetic -/
def aAdd : DOp := fun d e C => match d, e with
  | .int i, .int j => C (.int (i + j))
  | .str a, .str b => a.length + b.length ≤ sizeLine ∧ C (.str (a ++ b))
  | .tuple xs, .tuple ys => xs.length + ys.length ≤ sizeLine ∧ C (.tuple (xs ++ ys))
  | _, _ => False
theorem od_add : OpD X (binaryOp .Add) aAdd := by
  refine ⟨_, OpR.or op_add (OpR.or op_add_str op_catA), fun {F σ δ H x y d e Q C} R hx hy c k => ?_⟩
  unfold aAdd at c
  split at c
  · cases hx; cases hy
    exact .inl ⟨_, _, rfl, rfl, k _ _ _ _ R .refl (.int _) c⟩
  · cases hx; cases hy
    exact .inr (.inl ⟨_, _, rfl, rfl, c.1, k _ _ _ _ R .refl (.str _) c.2⟩)
  · cases hx with
    | tup h1 a1 =>
      cases hy with
      | tup h2 a2 =>
        rename_i ds es a xs b ys
        refine .inr (.inr ⟨_, _, _, _, rfl, rfl, seqT R.sub h1, seqT R.sub h2, by rw [a1.length, a2.length]; exact c.1, fun e => ?_, fun n e => ?_, fun n m p np => ?_⟩)
        · subst e
          cases a1
          exact k _ _ _ _ R .refl (.tup h2 a2) c.2
        · subst e
          cases a2
          refine k _ _ _ _ R .refl (.tup h1 ?_) c.2
          rw [List.append_nil]
          exact a1
        · obtain ⟨R2, s2⟩ := R.alloc (o := .tup (xs ++ ys)) np
          exact k _ _ _ _ R2 s2 (.tup (SqT.of upd_same) (Dp.monoAll s2.ext _ _ (a1.append a2))) c.2
  · exact c.elim
def aSub : DOp := fun d e C => match d, e with
  | .int i, .int j => C (.int (i - j))
  | _, _ => False
theorem od_sub : OpD X (binaryOp .Sub) aSub := by
  refine ⟨_, op_sub, fun {F σ δ H x y d e Q C} R hx hy c k => ?_⟩
  unfold aSub at c
  split at c
  · cases hx; cases hy
    exact ⟨_, _, rfl, rfl, k _ _ _ _ R .refl (.int _) c⟩
  · exact c.elim
def aMod : DOp := fun d e C => match d, e with
  | .int i, .int j => 0 < j ∧ C (.int (i % j))
  | _, _ => False
theorem od_mod : OpD X (binaryOp .Mod) aMod := by
  refine ⟨_, op_mod, fun {F σ δ H x y d e Q C} R hx hy c k => ?_⟩
  unfold aMod at c
  split at c
  · cases hx; cases hy
    exact ⟨_, _, rfl, rfl, c.1, k _ _ _ _ R .refl (.int _) c.2⟩
  · exact c.elim
def aDiv : DOp := fun d e C => match d, e with
  | .int i, .int j => (0 < j ∧ j < 1073741824) ∧ C (.int (i / j))
  | _, _ => False
theorem od_div : OpD X (binaryOp .FloorDiv) aDiv := by
  refine ⟨_, op_fdiv, fun {F σ δ H x y d e Q C} R hx hy c k => ?_⟩
  unfold aDiv at c
  split at c
  · cases hx; cases hy
    exact ⟨_, _, rfl, rfl, c.1, k _ _ _ _ R .refl (.int _) c.2⟩
  · exact c.elim
def aPow : DOp := fun d e C => match d, e with
  | .int i, .int j => CPow i j ∧ C (.int (i ^ j.toNat))
  | _, _ => False
theorem od_pow : OpD X (binaryOp .Pow) aPow := by
  refine ⟨_, op_pow, fun {F σ δ H x y d e Q C} R hx hy c k => ?_⟩
  unfold aPow at c
  split at c
  · cases hx; cases hy
    exact ⟨_, _, rfl, rfl, c.1, k _ _ _ _ R .refl (.int _) c.2⟩
  · exact c.elim
/-- a text, n times -/
def strRep (a : Str) (n : Nat) : Str := ⟨(List.replicate n a.cps.toList).flatten.toArray⟩
theorem foldl_arr (x : Array Nat) : ∀ (n : Nat) (acc : Array Nat), ((List.replicate n x).foldl (· ++ ·) acc) = acc ++ (List.replicate n x.toList).flatten.toArray
  | 0, acc => by simp
  | n + 1, acc => by
    rw [List.replicate_succ, List.foldl_cons, foldl_arr x n (acc ++ x), List.replicate_succ, List.flatten_cons]
    apply Array.ext'
    simp
theorem op_mul_str : OpR X (binaryOp .Mult) (fun x y H Q => ∃ a n, x = .str a ∧ y = .int n ∧ -(2 ^ 62) ≤ n ∧ n < 2 ^ 62 ∧ a.length * n.toNat ≤ sizeLine ∧ Q (.str (strRep a n.toNat)) H) := by
  intro pins s σ H x y v u Q I rx ry h
  obtain ⟨a, n, rfl, rfl, h1, h2, hz, q⟩ := h
  obtain ⟨t, rfl⟩ := rx
  obtain ⟨t', rfl⟩ := ry
  have hs : sizeLine = 16777216 := sizeLine_eq
  refine PySem.P.mul_str ?_ (fun hn hb => ?_) (fun hn hb => ?_) ?_
  · rw [decide_eq_false (by omega), decide_eq_false (by omega)]; rfl
  · have hn0 : 0 < n := by omega
    have e : ((a.length * n.toNat : Nat) : Int) = (a.length : Int) * n := by
      rw [Int.natCast_mul, Int.toNat_of_nonneg (by omega)]
    intro hgt
    have h3 : (a.length : Int) * n ≤ 2 ^ 63 - 1 := by rw [← e]; omega
    have h4 : (a.length : Int) ≤ (2 ^ 63 - 1) / n := (Int.le_ediv_iff_mul_le hn0).mpr h3
    omega
  · unfold Builtin.Str.tooLong
    exact decide_eq_false (by omega)
  · have key : ∀ z : Str, z = strRep a n.toNat → ∀ (t : Tok) (k : Nat), EP X pins σ Q (.str z t) { s with toks := k } := fun z e t k => ⟨.str z, H, I.tok _, ⟨_, rfl⟩, by rw [e]; exact q⟩
    by_cases hn : n < 1
    · rw [if_pos hn]
      have e0 : n.toNat = 0 := by omega
      exact ⟨by decide, key _ (by rw [e0]; rfl) _ _⟩
    · rw [if_neg hn]
      by_cases hb : (n == 1 || a.length == 0) = true
      · rw [if_pos hb]
        refine key _ ?_ t s.toks
        rw [Bool.or_eq_true] at hb
        rcases hb with hb | hb
        · have e1 : n = 1 := by simpa using hb
          subst e1
          show a = strRep a 1
          unfold strRep
          simp
        · have e1 : a.cps.toList = [] := by
            have : a.cps.size = 0 := by simpa [Str.length] using hb
            simpa using this
          have e2 : ∀ m : Nat, (List.replicate m ([] : List Nat)).flatten = [] := fun m => by simp
          unfold strRep
          rw [e1, e2]
          refine TL.ext_tl ?_
          exact e1
      · rw [if_neg hb]
        have e : (⟨(List.replicate n.toNat a.cps).foldl (· ++ ·) #[]⟩ : Str) = strRep a n.toNat := by
          unfold strRep
          rw [foldl_arr]
          simp
        rw [e]
        have hl : (strRep a n.toNat).length ≤ sizeLine := by
          show ((List.replicate n.toNat a.cps.toList).flatten.toArray).size ≤ sizeLine
          rw [List.size_toArray, List.length_flatten, List.map_replicate, List.sum_replicate_nat, Array.length_toList]
          rw [Nat.mul_comm]
          exact hz
        exact ⟨by show (strRep a n.toNat).length ≤ sizeLine; exact hl, key _ rfl _ _⟩
def aMul : DOp := fun d e C => match d, e with
  | .int i, .int j => CMul i j ∧ C (.int (i * j))
  | .str a, .int n => -(2 ^ 62) ≤ n ∧ n < 2 ^ 62 ∧ a.length * n.toNat ≤ sizeLine ∧ C (.str (strRep a n.toNat))
  | _, _ => False
theorem od_mul : OpD X (binaryOp .Mult) aMul := by
  refine ⟨_, OpR.or op_mul op_mul_str, fun {F σ δ H x y d e Q C} R hx hy c k => ?_⟩
  unfold aMul at c
  split at c
  · cases hx; cases hy
    exact .inl ⟨_, _, rfl, rfl, c.1, k _ _ _ _ R .refl (.int _) c.2⟩
  · cases hx; cases hy
    exact .inr ⟨_, _, rfl, rfl, c.1, c.2.1, c.2.2.1, k _ _ _ _ R .refl (.str _) c.2.2.2⟩
  · exact c.elim
def aNeg : PyData → (PyData → Prop) → Prop := fun d C => match d with
  | .int i => C (.int (-i))
  | _ => False
def dUn (r : PyData → (PyData → Prop) → Prop) (f : DTE) : DTE := fun δ C => f δ fun a δ1 => match rv a with
  | some d => r d fun z => C (.val z) δ1
  | none => False
theorem pd_neg {a : Expr} {f : DTE} {pos : Pos} (h : PD X a f) : PD X (.UnaryOp .USub a pos) (dUn aNeg f) := by
  obtain ⟨te, p, q⟩ := h
  refine ⟨_, pe_un un_neg p, fun R c k => ?_⟩
  refine q R c fun a δ1 F1 H1 v R1 s1 r1 c1 => ?_
  split at c1
  · rename_i d hd
    have hd := r1.rv hd
    unfold aNeg at c1
    split at c1
    · cases hd
      exact ⟨_, rfl, k (.val (.int _)) _ _ _ _ R1 s1 (Dp.int _) c1⟩
    · exact c1.elim
  · exact c1.elim

/-! ### comparisons -/
def cLt : DCp := fun d e C => match d, e with
  | .int i, .int j => C (decide (i < j))
  | .str a, .str b => C (decide (a.cps.toList < b.cps.toList))
  | _, _ => False
def cLe : DCp := fun d e C => match d, e with
  | .int i, .int j => C (decide (i ≤ j))
  | .str a, .str b => C (!decide (b.cps.toList < a.cps.toList))
  | _, _ => False
def cGt : DCp := fun d e C => match d, e with
  | .int i, .int j => C (decide (j < i))
  | .str a, .str b => C (decide (b.cps.toList < a.cps.toList))
  | _, _ => False
def cGe : DCp := fun d e C => match d, e with
  | .int i, .int j => C (decide (j ≤ i))
  | .str a, .str b => C (!decide (a.cps.toList < b.cps.toList))
  | _, _ => False
theorem oc_lt : OpC X (compareOp .Lt) cLt := by
  refine ⟨_, OpR.or op_lt op_lt_str, fun {H x y d e Q C} hx hy c k => ?_⟩
  unfold cLt at c
  split at c
  · cases hx; cases hy; exact .inl ⟨_, _, rfl, rfl, k _ c⟩
  · cases hx; cases hy; exact .inr ⟨_, _, rfl, rfl, k _ c⟩
  · exact c.elim
theorem oc_le : OpC X (compareOp .LtE) cLe := by
  refine ⟨_, OpR.or op_le op_le_str, fun {H x y d e Q C} hx hy c k => ?_⟩
  unfold cLe at c
  split at c
  · cases hx; cases hy; exact .inl ⟨_, _, rfl, rfl, k _ c⟩
  · cases hx; cases hy; exact .inr ⟨_, _, rfl, rfl, k _ c⟩
  · exact c.elim
theorem oc_gt : OpC X (compareOp .Gt) cGt := by
  refine ⟨_, OpR.or op_gt op_gt_str, fun {H x y d e Q C} hx hy c k => ?_⟩
  unfold cGt at c
  split at c
  · cases hx; cases hy; exact .inl ⟨_, _, rfl, rfl, k _ c⟩
  · cases hx; cases hy; exact .inr ⟨_, _, rfl, rfl, k _ c⟩
  · exact c.elim
theorem oc_ge : OpC X (compareOp .GtE) cGe := by
  refine ⟨_, OpR.or op_ge op_ge_str, fun {H x y d e Q C} hx hy c k => ?_⟩
  unfold cGe at c
  split at c
  · cases hx; cases hy; exact .inl ⟨_, _, rfl, rfl, k _ c⟩
  · cases hx; cases hy; exact .inr ⟨_, _, rfl, rfl, k _ c⟩
  · exact c.elim
/-- two ints or two texts at once; any other data when they are of a known shape -/
def cEq (neg : Bool) : DCp := fun d e C => match d, e with
  | .int i, .int j => C (if neg then !decide (i = j) else decide (i = j))
  | .str a, .str b => C (if neg then !decide (a = b) else decide (a = b))
  | d, e => SeqAt.shaped d = true ∧ SeqAt.shaped e = true ∧ C (if neg then !PyData.eqv d e else PyData.eqv d e)
theorem decV_int {i j : Int} : decide (V.int i = V.int j) = decide (i = j) := by
  rw [dec_int, Bool.beq_eq_decide_eq]
theorem decV_str {i j : Str} : decide (V.str i = V.str j) = decide (i = j) := by
  rw [dec_str, Bool.beq_eq_decide_eq]
theorem oc_eq (hu : X.A.units + 64 < cLine) : OpC X (compareOp .Eq) (cEq false) := by
  refine ⟨_, OpR.or op_eq (op_eqD hu), fun {H x y d e Q C} hx hy c k => ?_⟩
  unfold cEq at c
  split at c
  · cases hx; cases hy; exact .inl ⟨rfl, by rw [decV_int]; exact k _ c⟩
  · cases hx; cases hy; exact .inl ⟨rfl, by rw [decV_str]; exact k _ c⟩
  · exact .inr ⟨_, _, hx, hy, c.1, c.2.1, k _ c.2.2⟩
theorem oc_ne (hu : X.A.units + 64 < cLine) : OpC X (compareOp .NotEq) (cEq true) := by
  refine ⟨_, OpR.or op_ne (op_neD hu), fun {H x y d e Q C} hx hy c k => ?_⟩
  unfold cEq at c
  split at c
  · cases hx; cases hy; exact .inl ⟨rfl, by rw [decV_int]; exact k _ c⟩
  · cases hx; cases hy; exact .inl ⟨rfl, by rw [decV_str]; exact k _ c⟩
  · exact .inr ⟨_, _, hx, hy, c.1, c.2.1, k _ c.2.2⟩
def flatD : PyData → Bool
  | .none => true
  | .bool _ => true
  | .int _ => true
  | .str _ => true
  | _ => false
theorem flat_of {K : PySem.W.Frag} {F : Hp} {v : V} {d : PyData} (h : Dp K F v d) (f : flatD d = true) : flatV v = true := by
  cases h <;> first | rfl | cases f
theorem eqV_of {K : PySem.W.Frag} {F : Hp} {v w : V} {d e : PyData} (h : Dp K F v d) (g : Dp K F w e) (fd : flatD d = true) (fe : flatD e = true) : eqV v w = PyData.eqv d e := by
  cases h <;> (try (simp [flatD] at fd; done)) <;> cases g <;> (try (simp [flatD] at fe; done)) <;> simp [eqV, PyData.eqv]
theorem inV_of {K : PySem.W.Frag} {F : Hp} {x : V} {d : PyData} (h : Dp K F x d) (fd : flatD d = true) : ∀ {vs : List V} {ds : List PyData}, DpAll K F vs ds → ds.all flatD = true → vs.all flatV = true ∧ inV x vs = ds.any (fun e => PyData.eqv e d)
  | _, _, .nil, _ => ⟨rfl, rfl⟩
  | v :: vs, e :: ds, .cons h1 h2, f => by
    rw [List.all_cons, Bool.and_eq_true] at f
    obtain ⟨g1, g2⟩ := inV_of h fd h2 f.2
    refine ⟨by rw [List.all_cons, flat_of h1 f.1, g1]; rfl, ?_⟩
    unfold inV at g2 ⊢
    rw [List.any_cons, List.any_cons, eqV_of h1 h f.1 fd, g2]
/-- x in a text (one sign), in a list or tuple of flat things -/
def cIn (neg : Bool) : DCp := fun d e C => match d, e with
  | .str a, .str b => match a.cps.toList with
    | [c] => C (if neg then !decide (c ∈ b.cps.toList) else decide (c ∈ b.cps.toList))
    | _ => False
  | d, .list ds => flatD d = true ∧ ds.all flatD = true ∧ C (if neg then !ds.any (fun e => PyData.eqv e d) else ds.any (fun e => PyData.eqv e d))
  | d, .tuple ds => flatD d = true ∧ ds.all flatD = true ∧ C (if neg then !ds.any (fun e => PyData.eqv e d) else ds.any (fun e => PyData.eqv e d))
  | _, _ => False
theorem one_sign {a : Str} {c : Nat} (h : a.cps.toList = [c]) : a = ⟨#[c]⟩ := TL.ext_tl h
theorem oc_in : OpC X (compareOp .In) (cIn false) := by
  refine ⟨_, OpR.or op_in_sign op_in_seq, fun {H x y d e Q C} hx hy c k => ?_⟩
  unfold cIn at c
  split at c
  · rename_i a b
    split at c
    · rename_i c' hc
      cases hx; cases hy
      exact .inl ⟨c', b, by rw [one_sign hc], rfl, k _ c⟩
    · exact c.elim
  · cases hy with
    | lst h1 a1 =>
      obtain ⟨g1, g2⟩ := inV_of hx c.1 a1 c.2.1
      exact .inr ⟨_, _, rfl, .inl h1, flat_of hx c.1, g1, k _ (by rw [g2]; exact c.2.2)⟩
  · cases hy with
    | tup h1 a1 =>
      obtain ⟨g1, g2⟩ := inV_of hx c.1 a1 c.2.1
      exact .inr ⟨_, _, rfl, .inr h1, flat_of hx c.1, g1, k _ (by rw [g2]; exact c.2.2)⟩
  · exact c.elim
theorem oc_notIn : OpC X (compareOp .NotIn) (cIn true) := by
  refine ⟨_, OpR.or op_notIn_sign op_notIn_seq, fun {H x y d e Q C} hx hy c k => ?_⟩
  unfold cIn at c
  split at c
  · rename_i a b
    split at c
    · rename_i c' hc
      cases hx; cases hy
      exact .inl ⟨c', b, by rw [one_sign hc], rfl, k _ c⟩
    · exact c.elim
  · cases hy with
    | lst h1 a1 =>
      obtain ⟨g1, g2⟩ := inV_of hx c.1 a1 c.2.1
      exact .inr ⟨_, _, rfl, .inl h1, flat_of hx c.1, g1, k (!inV x _) (by rw [g2]; exact c.2.2)⟩
  · cases hy with
    | tup h1 a1 =>
      obtain ⟨g1, g2⟩ := inV_of hx c.1 a1 c.2.1
      exact .inr ⟨_, _, rfl, .inr h1, flat_of hx c.1, g1, k (!inV x _) (by rw [g2]; exact c.2.2)⟩
  · exact c.elim
def isNone : PyData → Bool
  | .none => true
  | _ => false
def cIs (neg : Bool) : DCp := fun d e C => match e with
  | .none => C (if neg then !isNone d else isNone d)
  | _ => False
theorem isNone_of {K : PySem.W.Frag} {F : Hp} {v : V} {d : PyData} (h : Dp K F v d) : decide (v = V.non) = isNone d := by
  cases h <;> first | rfl | exact decide_eq_false (fun z => nomatch z)
theorem oc_is : OpC X (compareOp .Is) (cIs false) := by
  refine ⟨_, op_isN, fun {H x y d e Q C} hx hy c k => ?_⟩
  unfold cIs at c
  split at c
  · cases hy
    exact ⟨rfl, by rw [isNone_of hx]; exact k _ c⟩
  · exact c.elim
theorem oc_isnot : OpC X (compareOp .IsNot) (cIs true) := by
  refine ⟨_, op_notN, fun {H x y d e Q C} hx hy c k => ?_⟩
  unfold cIs at c
  split at c
  · cases hy
    exact ⟨rfl, by rw [isNone_of hx]; exact k _ c⟩
  · exact c.elim

/-! ### subscripts -/
theorem atI_of {K : PySem.W.Frag} {F : Hp} {vs : List V} {ds : List PyData} {i : Int} {d : PyData} (h : DpAll K F vs ds) (e : atI ds i = some d) : ∃ v, atI vs i = some v ∧ Dp K F v d := by
  unfold atI at e ⊢
  rw [h.length]
  cases q : ixN ds.length i with
  | none => rw [q] at e; cases e
  | some j =>
    rw [q] at e
    exact h.get e
def ixD (δ : DSt) (a : Ar) (i : Int) (C : PyData → Prop) : Prop := match a with
  | .sl j => match cont δ j with
    | some xs => match atI xs i with
      | some d => C d
      | none => False
    | none => False
  | .val (.list xs) => match atI xs i with
    | some d => C d
    | none => False
  | .val (.tuple xs) => match atI xs i with
    | some d => C d
    | none => False
  | .val (.str z) => z.length ≤ sizeLine ∧ match atI z.cps.toList i with
    | some c => C (.str ⟨#[c]⟩)
    | none => False
  | _ => False
def dIx (fa fb : DTE) : DTE := fun δ C => fa δ fun a δ1 => fb δ1 fun b δ2 => match b with
  | .val (.int i) => ixD δ2 a i fun d => C (.val d) δ2
  | _ => False
theorem pd_ix {a b : Expr} {fa fb : DTE} {pos : Pos} (ha : PD X a fa) (hb : PD X b fb) (hs : PlainIx b := by exact fun _ _ => rfl) : PD X (.Subscript a b pos) (dIx fa fb) := by
  obtain ⟨te, p1, q1⟩ := ha
  obtain ⟨tb, p2, q2⟩ := hb
  refine ⟨_, pe_ix ix_seq p1 p2 hs, fun R c k => ?_⟩
  refine q1 R c fun a δ1 F1 H1 v R1 s1 r1 c1 => ?_
  refine q2 R1 c1 fun b δ2 F2 H2 w R2 s2 r2 c2 => ?_
  split at c2
  · rename_i i
    cases (show Dp X.K F2 w (.int i) from r2)
    have g1 := r1.mono s2.ext
    clear r1
    unfold ixD at c2
    split at c2
    · rename_i j
      split at c2
      · rename_i xs hx
        split at c2
        · rename_i d hd
          obtain ⟨l, vs, e1, _, e3, e4⟩ := R2.own j xs (cont_own hx)
          have g1 : _ = some (some v) := g1
          rw [e1] at g1
          cases g1
          obtain ⟨u, hu, du⟩ := atI_of e4 hd
          exact .inl ⟨_, _, _, _, rfl, rfl, SqL.of e3, hu, k (.val d) _ _ _ _ R2 (s1.trans s2) du c2⟩
        · exact c2.elim
      · exact c2.elim
    · rename_i xs
      split at c2
      · rename_i d hd
        cases (show Dp X.K F2 v (.list xs) from g1) with
        | lst h1 a1 =>
          obtain ⟨u, hu, du⟩ := atI_of a1 hd
          exact .inl ⟨_, _, _, _, rfl, rfl, R2.sub.seq h1, hu, k (.val d) _ _ _ _ R2 (s1.trans s2) du c2⟩
      · exact c2.elim
    · rename_i xs
      split at c2
      · rename_i d hd
        cases (show Dp X.K F2 v (.tuple xs) from g1) with
        | tup h1 a1 =>
          obtain ⟨u, hu, du⟩ := atI_of a1 hd
          exact .inr (.inl ⟨_, _, _, _, rfl, rfl, seqT R2.sub h1, hu, k (.val d) _ _ _ _ R2 (s1.trans s2) du c2⟩)
      · exact c2.elim
    · rename_i z
      cases (show Dp X.K F2 v (.str z) from g1)
      obtain ⟨hz, c2⟩ := c2
      split at c2
      · rename_i c hc
        exact .inr (.inr ⟨_, _, _, rfl, rfl, hz, hc, k (.val (.str ⟨#[c]⟩)) _ _ _ _ R2 (s1.trans s2) (Dp.str _) c2⟩)
      · exact c2.elim
    · exact c2.elim
  · exact c2.elim
/-! ### slices -/
abbrev DTO := DSt → (Option Int → DSt → Prop) → Prop
structure PDO (X : Cx) (e : Option Expr) (f : DTO) : Prop where
  ex : ∃ te, PO X e te ∧ ∀ {F : Hp} {σ : L2.St} {δ : DSt} {H : Hp} {Q : Option Int → Hp → Prop} {C : Option Int → DSt → Prop}, RepS X.K F σ δ H → f δ C →
    (∀ o δ' F' H', RepS X.K F' σ δ' H' → Stp σ δ F H σ δ' F' H' → C o δ' → Q o H') → te σ H Q
def doNone : DTO := fun δ C => C none δ
def doSome (f : DTE) : DTO := fun δ C => f δ fun a δ1 => match a with
  | .val (.int i) => C (some i) δ1
  | _ => False
theorem pdo_none : PDO X none doNone := ⟨_, po_none, fun R c k => k _ _ _ _ R .refl c⟩
theorem pdo_some {e : Expr} {f : DTE} (h : PD X e f) : PDO X (some e) (doSome f) := by
  obtain ⟨te, p, q⟩ := h
  refine ⟨_, po_some p, fun R c k => ?_⟩
  refine q R c fun a δ1 F1 H1 v R1 s1 r1 c1 => ?_
  split at c1
  · rename_i i
    cases (show Dp X.K F1 v (.int i) from r1)
    exact ⟨i, rfl, k _ _ _ _ R1 s1 c1⟩
  · exact c1.elim
def cutD (ds : List PyData) (lo hi : Option Int) : List PyData := (ds.drop (HT.sIx ds.length 0 lo)).take (HT.sIx ds.length ds.length hi - HT.sIx ds.length 0 lo)
theorem cut_of {K : PySem.W.Frag} {F : Hp} {vs : List V} {ds : List PyData} (h : DpAll K F vs ds) (lo hi : Option Int) : DpAll K F (cutV vs lo hi) (cutD ds lo hi) := by
  unfold cutV cutD
  rw [h.length]
  exact (h.drop _).take _
def slD (δ : DSt) (a : Ar) (lo hi : Option Int) (C : PyData → Prop) : Prop := match a with
  | .val (.str z) => z.length ≤ sizeLine ∧ C (.str (cutS z lo hi))
  | .val (.list xs) => C (.list (cutD xs lo hi))
  | .val (.tuple xs) => C (.tuple (cutD xs lo hi))
  | .sl j => match cont δ j with
    | some xs => C (.list (cutD xs lo hi))
    | none => False
  | _ => False
def dSl (f : DTE) (fl fh : DTO) : DTE := fun δ C => f δ fun a δ1 => fl δ1 fun lo δ2 => fh δ2 fun hi δ3 => slD δ3 a lo hi fun d => C (.val d) δ3
theorem sIx_whole {n : Nat} {lo hi : Option Int} (h : HT.sIx n 0 lo = 0 ∧ HT.sIx n n hi = n) (ds : List PyData) (e : ds.length = n) : cutD ds lo hi = ds := by
  unfold cutD
  rw [e, h.1, h.2]
  simp [← e]
theorem pd_slice {e : Expr} {lo hi : Option Expr} {f : DTE} {fl fh : DTO} {pos p2 : Pos} (he : PD X e f) (hl : PDO X lo fl) (hh : PDO X hi fh) : PD X (.Subscript e (.Slice lo hi none p2) pos) (dSl f fl fh) := by
  obtain ⟨te, p1, q1⟩ := he
  obtain ⟨tl, p2, q2⟩ := hl
  obtain ⟨th, p3, q3⟩ := hh
  refine ⟨_, pe_slice (SlR.or sl_list (SlR.or sl_tupA sl_str)) p1 p2 p3, fun R c k => ?_⟩
  refine q1 R c fun a δ1 F1 H1 v R1 s1 r1 c1 => ?_
  refine q2 R1 c1 fun lo δ2 F2 H2 R2 s2 c2 => ?_
  refine q3 R2 c2 fun hi δ3 F3 H3 R3 s3 c3 => ?_
  have g1 := r1.mono (s2.ext.trans s3.ext)
  clear r1
  have s := (s1.trans s2).trans s3
  unfold slD at c3
  split at c3
  · rename_i z
    cases (show Dp X.K F3 v (.str z) from g1)
    exact .inr (.inr ⟨_, rfl, c3.1, k (.val (.str _)) _ _ _ _ R3 s (Dp.str _) c3.2⟩)
  · rename_i xs
    cases (show Dp X.K F3 v (.list xs) from g1) with
    | lst h1 a1 =>
      refine .inl ⟨_, _, rfl, R3.sub.seq h1, fun p np => ?_⟩
      obtain ⟨R4, s4⟩ := R3.alloc (o := .lst (cutV _ lo hi)) np
      exact k (.val (.list _)) _ _ _ _ R4 (s.trans s4) (Dp.lst (SqL.of upd_same) (Dp.monoAll s4.ext _ _ (cut_of a1 lo hi))) c3
  · rename_i xs
    cases (show Dp X.K F3 v (.tuple xs) from g1) with
    | tup h1 a1 =>
      refine .inr (.inl ⟨_, _, rfl, seqT R3.sub h1, fun hw => ?_, fun _ p np => ?_⟩)
      · refine k (.val (.tuple _)) _ _ _ _ R3 s (Dp.tup h1 ?_) c3
        rw [sIx_whole hw _ a1.length.symm]
        exact a1
      · obtain ⟨R4, s4⟩ := R3.alloc (o := .tup (cutV _ lo hi)) np
        exact k (.val (.tuple _)) _ _ _ _ R4 (s.trans s4) (Dp.tup (SqT.of upd_same) (Dp.monoAll s4.ext _ _ (cut_of a1 lo hi))) c3
  · rename_i j
    split at c3
    · rename_i xs hx
      obtain ⟨l, vs, e1, _, e3, e4⟩ := R3.own j xs (cont_own hx)
      have g1 : _ = some (some v) := g1
      rw [e1] at g1
      cases g1
      refine .inl ⟨_, _, rfl, SqL.of e3, fun p np => ?_⟩
      obtain ⟨R4, s4⟩ := R3.alloc (o := .lst (cutV _ lo hi)) np
      exact k (.val (.list _)) _ _ _ _ R4 (s.trans s4) (Dp.lst (SqL.of upd_same) (Dp.monoAll s4.ext _ _ (cut_of e4 lo hi))) c3
    · exact c3.elim
  · exact c3.elim
end
end DD

namespace DD
open PySem PySem.Spec PyProof.Rows L2
section
variable {X : Cx} {K : PySem.W.Frag} {F H : Hp} {σ : L2.St} {δ : DSt}

/-! ### calls of built-in functions and types -/
abbrev DCl := DSt → List Ar → (PyData → Prop) → Prop
def CallD (X : Cx) (f : Value) (r : DCl) : Prop :=
  ∃ r', CallR X f r' ∧ ∀ {F : Hp} {σ : L2.St} {δ : DSt} {H : Hp} {vs : List V} {as : List Ar} {Q : VK} {C : PyData → Prop}, RepS X.K F σ δ H → ArsRep X.K F σ vs as → r δ as C →
    (∀ z F' H' v, RepS X.K F' σ δ H' → Stp σ δ F H σ δ F' H' → Dp X.K F' v z → C z → Q v H') → r' vs H Q
def dCB (r : DCl) (f : DTA) : DTE := fun δ C => f δ fun as δ1 => r δ1 as fun z => C (.val z) δ1
theorem pd_callB {e : Expr} {es : List Expr} {x : Str} {id : String} {r : DCl} {f : DTA} {p pos : Pos} (hc : CallD X (.builtin id) r) (hg : Gl X x) (hm : X.mg x = none) (hv : bootBuiltins x = some (.builtin id)) (ha : PDA X (e :: es) f) (hn : x ≠ "__name__" := by decide) (hdb : (x == ("__debug__" : Str)) = false := by decide)
    (he : starEach (e :: es) X.env = (false, eval e X.env) :: starEach es X.env := by rfl) (hpl : (backTo pos (starEach es X.env)).any (·.1) = false := by rfl) : PD X (.Call (.Name x p) (e :: es) [] pos) (dCB r f) := by
  obtain ⟨r', c1, c2⟩ := hc
  obtain ⟨ta, p, q⟩ := ha
  refine ⟨_, pe_callB c1 hg hm hv p hn hdb he hpl, fun R c k => ?_⟩
  refine q R c fun as δ1 F1 H1 vs R1 s1 r1 c3 => ?_
  exact c2 R1 r1 c3 fun z F' H' v R2 s2 r2 c4 => k (.val z) _ _ _ _ R2 (s1.trans s2) r2 c4
theorem pd_callT {e : Expr} {es : List Expr} {x : Str} {T : String} {r : DCl} {f : DTA} {p pos : Pos} (hc : CallD X (.type T) r) (hg : Gl X x) (hm : X.mg x = none) (hv : bootBuiltins x = some (.type T)) (ha : PDA X (e :: es) f) (hn : x ≠ "__name__" := by decide) (hdb : (x == ("__debug__" : Str)) = false := by decide)
    (he : starEach (e :: es) X.env = (false, eval e X.env) :: starEach es X.env := by rfl) (hpl : (backTo pos (starEach es X.env)).any (·.1) = false := by rfl) : PD X (.Call (.Name x p) (e :: es) [] pos) (dCB r f) := by
  obtain ⟨r', c1, c2⟩ := hc
  obtain ⟨ta, p, q⟩ := ha
  refine ⟨_, pe_callTy c1 hg hm hv p hn hdb he hpl, fun R c k => ?_⟩
  refine q R c fun as δ1 F1 H1 vs R1 s1 r1 c3 => ?_
  exact c2 R1 r1 c3 fun z F' H' v R2 s2 r2 c4 => k (.val z) _ _ _ _ R2 (s1.trans s2) r2 c4
theorem arsRep1 {vs : List V} {a : Ar} (h : ArsRep K F σ vs [a]) : ∃ v, vs = [v] ∧ ArRep K F σ v a := by
  cases vs with
  | nil => exact h.elim
  | cons v vs =>
    cases vs with
    | nil => exact ⟨v, rfl, h.1⟩
    | cons _ _ => exact h.2.elim
theorem arsRep2 {vs : List V} {a b : Ar} (h : ArsRep K F σ vs [a, b]) : ∃ v w, vs = [v, w] ∧ ArRep K F σ v a ∧ ArRep K F σ w b := by
  cases vs with
  | nil => exact h.elim
  | cons v vs =>
    obtain ⟨w, rfl, h2⟩ := arsRep1 h.2
    exact ⟨v, w, rfl, h.1, h2⟩
def fLen : DCl := fun δ as C => match as with
  | [a] => match rd δ a with
    | some (.str z) => z.length ≤ sizeLine ∧ C (.int z.length)
    | some (.list xs) => C (.int xs.length)
    | some (.tuple xs) => C (.int xs.length)
    | _ => False
  | _ => False
theorem cd_len : CallD X (.builtin "len") fLen := by
  refine ⟨_, call_len, fun {F σ δ H vs as Q C} R r c k => ?_⟩
  unfold fLen at c
  split at c
  · obtain ⟨v, rfl, r1⟩ := arsRep1 r
    split at c
    · rename_i z hz
      cases r1.rd R hz
      exact ⟨_, _, rfl, ⟨c.1, rfl⟩, k (.int _) _ _ _ R .refl (.int _) c.2⟩
    · rename_i xs hz
      cases r1.rd R hz with
      | lst h1 a1 => exact ⟨_, _, rfl, .inl ⟨_, h1, rfl⟩, k (.int _) _ _ _ R .refl (.int _) (by rw [a1.length]; exact c)⟩
    · rename_i xs hz
      cases r1.rd R hz with
      | tup h1 a1 => exact ⟨_, _, rfl, .inr ⟨_, h1, rfl⟩, k (.int _) _ _ _ R .refl (.int _) (by rw [a1.length]; exact c)⟩
    · exact c.elim
  · exact c.elim
def fInt : DCl := fun δ as C => match as with
  | [.val (.int i)] => C (.int i)
  | [.val (.bool b)] => C (.int (if b then 1 else 0))
  | _ => False
theorem cd_int : CallD X (.type "int") fInt := by
  refine ⟨_, call_int1, fun {F σ δ H vs as Q C} R r c k => ?_⟩
  unfold fInt at c
  split at c
  · obtain ⟨v, rfl, r1⟩ := arsRep1 r
    cases (show Dp X.K F v (.int _) from r1)
    exact .inl ⟨_, rfl, k _ _ _ _ R .refl (.int _) c⟩
  · obtain ⟨v, rfl, r1⟩ := arsRep1 r
    cases (show Dp X.K F v (.bool _) from r1)
    exact .inr ⟨_, rfl, k _ _ _ _ R .refl (.int _) c⟩
  · exact c.elim
/-- the items of a list or tuple, frozen or owned -/
def itemsD (δ : DSt) : Ar → Option (List PyData)
  | .val (.list xs) => some xs
  | .val (.tuple xs) => some xs
  | .sl i => cont δ i
  | _ => none
theorem itemsD_rep (R : RepS K F σ δ H) {v : V} {a : Ar} {xs : List PyData} (r : ArRep K F σ v a) (h : itemsD δ a = some xs) : ∃ p vs, v = .ref p ∧ (SqL K H p vs ∨ SqT K H p vs) ∧ DpAll K F vs xs := by
  cases a with
  | sl i =>
    obtain ⟨l, vs, e1, _, e3, e4⟩ := R.own i xs (cont_own h)
    have r : σ[i]? = some (some v) := r
    rw [e1] at r
    cases r
    exact ⟨l, vs, rfl, .inl (SqL.of e3), e4⟩
  | val d =>
    have r : Dp K F v d := r
    cases r with
    | lst h1 a1 => cases h; exact ⟨_, _, rfl, .inl (R.sub.seq h1), a1⟩
    | tup h1 a1 => cases h; exact ⟨_, _, rfl, .inr (seqT R.sub h1), a1⟩
    | _ => cases h
def fTuple : DCl := fun δ as C => match as with
  | [a] => match itemsD δ a with
    | some xs => C (.tuple xs)
    | none => False
  | _ => False
theorem cd_tuple : CallD X (.type "tuple") fTuple := by
  refine ⟨_, call_tuple_of, fun {F σ δ H vs as Q C} R r c k => ?_⟩
  unfold fTuple at c
  split at c
  · obtain ⟨v, rfl, r1⟩ := arsRep1 r
    rename_i a
    cases q : itemsD δ a with
    | none => rw [q] at c; exact c.elim
    | some xs =>
      rw [q] at c
      cases a with
      | sl i =>
        obtain ⟨l, vs, e1, _, e3, e4⟩ := R.own i xs (cont_own q)
        have r1 : σ[i]? = some (some v) := r1
        rw [e1] at r1
        cases r1
        refine ⟨_, _, rfl, .inl ⟨SqL.of e3, fun p np => ?_⟩⟩
        obtain ⟨R2, s2⟩ := R.alloc (o := .tup vs) np
        exact k _ _ _ _ R2 s2 (.tup (SqT.of upd_same) (Dp.monoAll s2.ext _ _ e4)) c
      | val d =>
        have r1 : Dp X.K F v d := r1
        cases r1 with
        | lst h1 a1 =>
          cases q
          refine ⟨_, _, rfl, .inl ⟨R.sub.seq h1, fun p np => ?_⟩⟩
          obtain ⟨R2, s2⟩ := R.alloc (o := .tup _) np
          exact k _ _ _ _ R2 s2 (.tup (SqT.of upd_same) (Dp.monoAll s2.ext _ _ a1)) c
        | tup h1 a1 =>
          cases q
          exact ⟨_, _, rfl, .inr ⟨seqT R.sub h1, k _ _ _ _ R .refl (.tup h1 a1) c⟩⟩
        | _ => cases q
  · exact c.elim
/-- list(xs): a new list -/
def dListN (f : DTA) : DSt → (List PyData → DSt → Prop) → Prop := fun δ C => f δ fun as δ1 => match as with
  | [a] => match itemsD δ1 a with
    | some xs => C xs δ1
    | none => False
  | _ => False
theorem pdn_list {e : Expr} {x : Str} {f : DTA} {p pos : Pos} (hg : Gl X x) (hm : X.mg x = none) (hv : bootBuiltins x = some (.type "list")) (ha : PDA X [e] f) (hn : x ≠ "__name__" := by decide) (hdb : (x == ("__debug__" : Str)) = false := by decide)
    (he : starEach [e] X.env = (false, eval e X.env) :: starEach [] X.env := by rfl) (hpl : (backTo pos (starEach [] X.env)).any (·.1) = false := by rfl) : PDN X (.Call (.Name x p) [e] [] pos) (dListN f) := by
  obtain ⟨ta, p, q⟩ := ha
  refine ⟨_, pe_callTy call_list_of hg hm hv p hn hdb he hpl, fun {F σ δ H Q C} R c k => ?_⟩
  refine q R c fun as δ1 F1 H1 vs R1 s1 r1 c3 => ?_
  split at c3
  · obtain ⟨v, rfl, r2⟩ := arsRep1 r1
    split at c3
    · rename_i xs hx
      obtain ⟨p, ws, rfl, hs, hA⟩ := itemsD_rep R1 r2 hx
      refine ⟨_, _, rfl, hs, fun l nl => ?_⟩
      obtain ⟨R2, s2, nF, nO⟩ := R1.fresh (o := .lst ws) nl
      exact k _ _ _ _ _ _ R2 (s1.trans s2) nF (s1.dom _ nl) nO upd_same hA c3
    · exact c3.elim
  · exact c3.elim
/-! ### isinstance, with one built-in type -/
def tyName : PyData → String
  | .none => "NoneType"
  | .bool _ => "bool"
  | .int _ => "int"
  | .str _ => "str"
  | .list _ => "list"
  | .tuple _ => "tuple"
  | .dict _ => "dict"
theorem ty_of {v : V} {d : PyData} (h : Dp K H v d) : TyX K H v (.type (tyName d)) := by
  cases h with
  | non => exact .base .non
  | bl b => exact .base (.bl b)
  | int i => exact .base (.int i)
  | str z => exact .base (.str z)
  | lst h1 _ =>
    rcases h1 with (h1 | ⟨o, h1⟩) | ⟨o, its, n, h1, h2, _⟩
    · exact .base (.lst h1)
    · exact .base (.frz h1)
    · exact .kList h1 h2
  | tup h1 _ =>
    rcases h1 with (h1 | ⟨o, h1⟩) | ⟨o, its, n, h1, h2, _⟩
    · exact .base (.tup h1)
    · exact .fTuple h1
    · exact .kTuple h1 h2
def dIsi (T : String) (f : DTE) : DTE := fun δ C => f δ fun a δ1 => match rd δ1 a with
  | some d => match kitB (tyName d) T with
    | some b => C (.val (.bool b)) δ1
    | none => False
  | none => False
theorem pd_isi {e : Expr} {T : String} {f : DTE} {x : Str} {p p2 pos : Pos} (hg : Gl X "isinstance") (hm : X.mg "isinstance" = none) (hT : Gl X x) (hTm : X.mg x = none) (hTv : bootBuiltins x = some (.type T)) (h : PD X e f) (hn : x ≠ "__name__" := by decide) (hdb : (x == ("__debug__" : Str)) = false := by decide)
    (he : starEach [e, .Name x p2] X.env = (false, eval e X.env) :: starEach [.Name x p2] X.env := by rfl) (he2 : starEach [.Name x p2] X.env = (false, eval (.Name x p2) X.env) :: starEach [] X.env := by rfl) (hpl : (backTo pos (starEach [.Name x p2] X.env)).any (·.1) = false := by rfl) :
    PD X (.Call (.Name "isinstance" p) [e, .Name x p2] [] pos) (dIsi T f) := by
  obtain ⟨te, p, q⟩ := h
  refine ⟨_, pe_callB call_isi hg hm (by decide +kernel) (pa_cons p (pa_cons (pe_bltn (v := .ty T) hT hTm hTv rfl hn hdb) pa_nil he2) he) (by decide) (by decide) he hpl, fun R c k => ?_⟩
  refine q R c fun a δ1 F1 H1 v R1 s1 r1 c1 => ?_
  split at c1
  · rename_i d hd
    split at c1
    · rename_i b hb
      have ty := ty_of (r1.rd R1 hd)
      exact ⟨v, .ty T, _, _, b, rfl, .ty T, ty, kit_ty hb, k (.val (.bool b)) _ _ _ _ R1 s1 (Dp.bl b) c1⟩
    · exact c1.elim
  · exact c1.elim

/-! ### methods of texts -/
abbrev DMt := DSt → Str → List Ar → (PyData → Prop) → Prop
def MethD (X : Cx) (id : String) (r : DMt) : Prop :=
  ∃ r', MtR X id r' ∧ ∀ {F : Hp} {σ : L2.St} {δ : DSt} {H : Hp} {z : Str} {vs : List V} {as : List Ar} {Q : VK} {C : PyData → Prop}, RepS X.K F σ δ H → ArsRep X.K F σ vs as → r δ z as C →
    (∀ z F' H' v, RepS X.K F' σ δ H' → Stp σ δ F H σ δ F' H' → Dp X.K F' v z → C z → Q v H') → r' (.str z) vs H Q
def dM (r : DMt) (fo : DTE) (f : DTA) : DTE := fun δ C => fo δ fun a δ1 => match a with
  | .val (.str z) => f δ1 fun as δ2 => r δ2 z as fun y => C (.val y) δ2
  | _ => False
theorem pd_m0 {o : Expr} {id : String} {name : Str} {apos pos : Pos} {r : DMt} {fo : DTE} (slot : Slot "str" name id) (ty : typeOf (.builtin id) = pure (.type "method_descriptor")) (rule : MethD X id r) (ho : PD X o fo)
    (hbase : attributeBase o name X.env (eval o X.env) = eval o X.env := by rfl) (hline : (apos.endLine == pos.line) = true := by rfl) : PD X (.Call (.Attribute o name apos) [] [] pos) (dM r fo dNil) := by
  obtain ⟨r', m1, m2⟩ := rule
  obtain ⟨te, p, q⟩ := ho
  refine ⟨_, pe_m0 slot ty m1 p hbase hline, fun R c k => ?_⟩
  refine q R c fun a δ1 F1 H1 v R1 s1 r1 c1 => ?_
  split at c1
  · rename_i z
    cases (show Dp X.K F1 v (.str z) from r1)
    exact ⟨⟨z, rfl⟩, m2 (as := []) R1 trivial c1 fun z F' H' v R2 s2 r2 c4 => k (.val z) _ _ _ _ R2 (s1.trans s2) r2 c4⟩
  · exact c1.elim
theorem pd_m1 {o e : Expr} {id : String} {name : Str} {apos pos : Pos} {r : DMt} {fo f : DTE} (slot : Slot "str" name id) (ty : typeOf (.builtin id) = pure (.type "method_descriptor")) (rule : MethD X id r) (ho : PD X o fo) (he : PD X e f)
    (hs : starEach [e] X.env = [(false, eval e X.env)] := by rfl) (hbase : attributeBase o name X.env (eval o X.env) = eval o X.env := by rfl) (hline : (apos.endLine == pos.line) = true := by rfl) : PD X (.Call (.Attribute o name apos) [e] [] pos) (dM r fo (dCons f dNil)) := by
  obtain ⟨r', m1, m2⟩ := rule
  obtain ⟨te, p, q⟩ := ho
  obtain ⟨tf, p2, q2⟩ := he
  refine ⟨_, pe_m1 slot ty m1 p p2 hs hbase hline, fun R c k => ?_⟩
  refine q R c fun a δ1 F1 H1 v R1 s1 r1 c1 => ?_
  split at c1
  · rename_i z
    cases (show Dp X.K F1 v (.str z) from r1)
    refine ⟨⟨z, rfl⟩, q2 R1 c1 fun b δ2 F2 H2 w R2 s2 r2 c2 => ?_⟩
    exact m2 (as := [b]) R2 ⟨r2, trivial⟩ c2 fun z F' H' v R3 s3 r3 c4 => k (.val z) _ _ _ _ R3 ((s1.trans s2).trans s3) r3 c4
  · exact c1.elim
/-- texts of a list or tuple -/
def strsD : List PyData → Option (List Str)
  | [] => some []
  | .str z :: ds => match strsD ds with
    | some zs => some (z :: zs)
    | none => none
  | _ :: _ => none
theorem strsD_eq : ∀ {ds : List PyData} {zs : List Str}, strsD ds = some zs → ds = zs.map PyData.str
  | [], zs, h => by cases h; rfl
  | d :: ds, zs, h => by
    cases d with
    | str z =>
      unfold strsD at h
      split at h
      · cases h
        rename_i zs' hz
        rw [strsD_eq hz]
        rfl
      · cases h
    | _ => cases h
theorem strsD_map : ∀ zs : List Str, strsD (zs.map PyData.str) = some zs
  | [] => rfl
  | z :: zs => by
    show (match strsD (zs.map PyData.str) with | some zs => some (z :: zs) | none => none) = _
    rw [strsD_map zs]
def mJoin : DMt := fun δ z as C => match as with
  | [a] => match itemsD δ a with
    | some xs => match strsD xs with
      | some ys => (ys.map (·.length)).sum + ys.length * z.length ≤ 16777216 ∧ C (.str (Txt.join z ys))
      | none => False
    | none => False
  | _ => False
theorem md_join : MethD X "str.join" mJoin := by
  refine ⟨_, mt_join, fun {F σ δ H z vs as Q C} R r c k => ?_⟩
  unfold mJoin at c
  split at c
  · obtain ⟨v, rfl, r1⟩ := arsRep1 r
    split at c
    · rename_i xs hx
      split at c
      · rename_i ys hy
        obtain ⟨p, ws, rfl, hs, hA⟩ := itemsD_rep R r1 hx
        have e := strsD_eq hy
        subst e
        have e := hA.ofStrs
        subst e
        exact ⟨_, _, ys, rfl, rfl, hs, c.1, k _ _ _ _ R .refl (.str _) c.2⟩
      · exact c.elim
    · exact c.elim
  · exact c.elim
def mSplit : DMt := fun _ z as C => match as with
  | [.val (.str y)] => (y.length == 0) = false ∧ z.length + 2 ≤ sizeLine ∧ C (.list ((Txt.split z y).map PyData.str))
  | _ => False
theorem md_split : MethD X "str.split" mSplit := by
  refine ⟨_, mt_split, fun {F σ δ H z vs as Q C} R r c k => ?_⟩
  unfold mSplit at c
  split at c
  · obtain ⟨v, rfl, r1⟩ := arsRep1 r
    cases (show Dp X.K F v (.str _) from r1)
    refine ⟨_, _, rfl, rfl, c.1, c.2.1, fun p np => ?_⟩
    obtain ⟨R2, s2⟩ := R.alloc (o := .lst ((Txt.split z _).map V.str)) np
    exact k _ _ _ _ R2 s2 (.lst (SqL.of upd_same) (DpAll.strs _)) c.2.2
  · exact c.elim
theorem mt_indexY (hc : X.calm = true) : MtR X "str.index" (fun x xs H Q => ∃ (a b : Str) (k : Nat), x = .str a ∧ xs = [.str b] ∧ Txt.index0 a b = some k ∧ Q (.int (k : Nat)) H) := by
  intro pins s σ H x xs v us Q I rx rs h
  obtain ⟨a, b, k, rfl, rfl, hk, q⟩ := h
  obtain ⟨t, rfl⟩ := rx
  cases rs with
  | cons r1 rs =>
    cases rs
    obtain ⟨u, rfl⟩ := r1
    cases e : Builtin.Str.occurrences a b 0 a.length 1 with
    | nil =>
      unfold Txt.index0 at hk
      rw [e] at hk
      cases hk
    | cons j rest =>
      unfold Txt.index0 at hk
      rw [e] at hk
      cases hk
      exact PySem.SC.index e ⟨.int (_ : Nat), H, I.tok _, ⟨_, rfl⟩, q⟩
/-- s.index(one sign that is there) -/
def mIndex : DMt := fun _ z as C => match as with
  | [.val (.str y)] => match Txt.index0 z y with
    | some k => C (.int (k : Nat))
    | none => False
  | _ => False
theorem md_index (hc : X.calm = true) : MethD X "str.index" mIndex := by
  refine ⟨_, mt_indexY hc, fun {F σ δ H z vs as Q C} R r c k => ?_⟩
  unfold mIndex at c
  split at c
  · obtain ⟨v, rfl, r1⟩ := arsRep1 r
    cases (show Dp X.K F v (.str _) from r1)
    split at c
    · rename_i j hj
      exact ⟨_, _, j, rfl, rfl, hj, k _ _ _ _ R .refl (.int _) c⟩
    · exact c.elim
  · exact c.elim
/-! ### methods of an owned list -/
def dApp (fo f : DTE) : DTE := fun δ C => fo δ fun a δ1 => match a with
  | .sl i => (cont δ1 i).isSome = true ∧ f δ1 fun b δ2 => match b with
    | .val d => match cont δ2 i with
      | some xs => xs.length < sizeLine ∧ C (.val .none) (putC δ2 i (xs ++ [d]))
      | none => False
    | _ => False
  | _ => False
theorem isSl (R : RepS K F σ δ H) {i : Nat} {v : V} (h : (cont δ i).isSome = true) (e : σ[i]? = some (some v)) : tyV K "list" v H := by
  obtain ⟨xs, hx⟩ := Option.isSome_iff_exists.mp h
  obtain ⟨l, vs, e1, _, e3, _⟩ := R.own i xs (cont_own hx)
  rw [e] at e1
  cases e1
  exact .inl ⟨rfl, _, SqL.of e3⟩
theorem pd_append {o e : Expr} {fo f : DTE} {apos cpos : Pos} (ho : PD X o fo) (he : PD X e f)
    (hbase : attributeBase o "append" X.env (eval o X.env) = eval o X.env := by rfl)
    (hfew : ((backTo cpos (starEach [e] X.env)).all (fun x => !x.1) && (backToKw cpos (keywordEach [] X.env)).all (fun x => x.1.isSome)
      && decide ([e].length + ([] : List Keyword).length + (if ([] : List Keyword).isEmpty then 0 else 1) < 30)) = true := by rfl)
    (hline : (apos.endLine == cpos.line) = true := by rfl) (hs : starEach [e] X.env = (false, eval e X.env) :: starEach [] X.env := by rfl) (hplain : (backTo cpos (starEach [] X.env)).any (·.1) = false := by rfl) :
    PD X (.Call (.Attribute o "append" apos) [e] [] cpos) (dApp fo f) := by
  obtain ⟨te, p, q⟩ := ho
  obtain ⟨tf, p2, q2⟩ := he
  refine ⟨_, pe_bm PySem.F.plainAttrs_list PySem.F.slot_list_append PySem.F.type_list_append mt_append p (pa_cons p2 pa_nil hs) hbase hfew hline hs hplain, fun {F σ δ H Q C} R c k => ?_⟩
  refine q R c fun a δ1 F1 H1 v R1 s1 r1 c1 => ?_
  split at c1
  · rename_i i
    have r1 : σ[i]? = some (some v) := r1
    have ty := isSl R1 c1.1 r1
    refine ⟨ty, q2 R1 c1.2 fun b δ2 F2 H2 w R2 s2 r2 c2 => ?_⟩
    split at c2
    · rename_i d
      split at c2
      · rename_i xs hx
        obtain ⟨l, vs, e1, e2, e3, e4⟩ := R2.own i xs (cont_own hx)
        rw [r1] at e1
        cases e1
        obtain ⟨R3, s3⟩ := R2.put (cont_own hx) r1 (e4.append (.cons r2 .nil))
        exact ⟨l, vs, w, rfl, rfl, e3, by rw [e4.length]; exact c2.1, k (.val .none) _ _ _ _ R3 ((s1.trans s2).trans s3) Dp.non c2.2⟩
      · exact c2.elim
    · exact c2.elim
  · exact c1.elim
end
end DD

namespace DD
open PySem PySem.Spec PyProof.Rows L2

/-- what a return hands back -/
def ResRep (K : PySem.W.Frag) (H F' : Hp) (σ' : L2.St) (δ' : DSt) (H' : Hp) (v : V) : Sl → Prop
  | .val d => Dp K F' v d
  | .own xs => ∃ l ws, v = .ref l ∧ F' l = none ∧ H' l = some (.lst ws) ∧ DpAll K F' ws xs ∧ (OwnL σ' δ' l ∨ (¬ OwnA σ' δ' l ∧ H l = none))
  | .par _ => False
structure Conn (K : PySem.W.Frag) (F : Hp) (σ : L2.St) (δ : DSt) (H : Hp) (DD : DEnds) (D : Ends) : Prop where
  nx : ∀ F' σ' δ' H', RepS K F' σ' δ' H' → Stp σ δ F H σ' δ' F' H' → DD.nx δ' → D.nx σ' H'
  bk : ∀ F' σ' δ' H', RepS K F' σ' δ' H' → Stp σ δ F H σ' δ' F' H' → DD.bk δ' → D.bk σ' H'
  ct : ∀ F' σ' δ' H', RepS K F' σ' δ' H' → Stp σ δ F H σ' δ' F' H' → DD.ct δ' → D.ct σ' H'
  rt : ∀ F' σ' δ' H' v r, RepS K F' σ' δ' H' → Stp σ δ F H σ' δ' F' H' → ResRep K H F' σ' δ' H' v r → DD.rt r δ' → D.rt v H'
section
variable {X : Cx} {K : PySem.W.Frag} {F H : Hp} {σ : L2.St} {δ : DSt}
theorem ResRep.step {H0 F' H' : Hp} {σ' : L2.St} {δ' : DSt} {v : V} {r : Sl} (d : ∀ b, H b = none → H0 b = none) (h : ResRep K H F' σ' δ' H' v r) : ResRep K H0 F' σ' δ' H' v r := by
  cases r with
  | val x => exact h
  | own xs =>
    obtain ⟨l, ws, h1, h2, h3, h4, h5⟩ := h
    refine ⟨l, ws, h1, h2, h3, h4, ?_⟩
    rcases h5 with h5 | h5
    · exact .inl h5
    · exact .inr ⟨h5.1, d _ h5.2⟩
  | par _ => exact h
theorem Conn.step {F1 H1 : Hp} {σ1 : L2.St} {δ1 : DSt} {DD : DEnds} {D : Ends} (c : Conn K F σ δ H DD D) (s : Stp σ δ F H σ1 δ1 F1 H1) : Conn K F1 σ1 δ1 H1 DD D :=
  ⟨fun F' σ' δ' H' R t h => c.nx F' σ' δ' H' R (s.trans t) h, fun F' σ' δ' H' R t h => c.bk F' σ' δ' H' R (s.trans t) h, fun F' σ' δ' H' R t h => c.ct F' σ' δ' H' R (s.trans t) h,
    fun F' σ' δ' H' v r R t q h => c.rt F' σ' δ' H' v r R (s.trans t) (q.step s.dom) h⟩
end
/-! ### statements -/
structure SD (X : Cx) (st : Stmt) (g : DTS) : Prop where
  ex : ∃ ts, PS X st ts ∧ ∀ {F : Hp} {σ : L2.St} {δ : DSt} {H : Hp} {DD : DEnds} {D : Ends}, RepS X.K F σ δ H → g DD δ → Conn X.K F σ δ H DD D → ts D σ H
structure SDs (X : Cx) (st : List Stmt) (g : DTS) : Prop where
  ex : ∃ ts, PSs X st ts ∧ ∀ {F : Hp} {σ : L2.St} {δ : DSt} {H : Hp} {DD : DEnds} {D : Ends}, RepS X.K F σ δ H → g DD δ → Conn X.K F σ δ H DD D → ts D σ H
/-- targets: ws the slots that are written -/
abbrev DTG := PyData → DSt → (DSt → Prop) → Prop
abbrev DTGs := List PyData → DSt → (DSt → Prop) → Prop
/-- as it was, but for the slots ws -/
def Agree (ws : List Nat) (σ σ' : L2.St) : Prop := σ'.length = σ.length ∧ ∀ i, i ∉ ws → σ'[i]? = σ[i]?
structure PDG (X : Cx) (tg : Expr) (g : DTG) (ws : List Nat) : Prop where
  ex : ∃ t, PG X tg t ∧ ∀ {F : Hp} {σ : L2.St} {δ : DSt} {H : Hp} {v : V} {d : PyData} {Q : L2.St → Hp → Prop} {C : DSt → Prop}, RepS X.K F σ δ H → Dp X.K F v d → g d δ C →
    (∀ δ' F' σ' H', RepS X.K F' σ' δ' H' → Stp σ δ F H σ' δ' F' H' → Agree ws σ σ' → C δ' → Q σ' H') → t v σ H Q
structure PDGs (X : Cx) (tg : List Expr) (g : DTGs) (ws : List Nat) : Prop where
  ex : ∃ t, PGs X tg t ∧ ∀ {F : Hp} {σ : L2.St} {δ : DSt} {H : Hp} {v : List V} {d : List PyData} {Q : L2.St → Hp → Prop} {C : DSt → Prop}, RepS X.K F σ δ H → DpAll X.K F v d → g d δ C →
    (∀ δ' F' σ' H', RepS X.K F' σ' δ' H' → Stp σ δ F H σ' δ' F' H' → Agree ws σ σ' → C δ' → Q σ' H') → t v σ H Q
def notParB (δ : DSt) (i : Nat) : Bool := match δ[i]? with
  | some (some (.par _)) => false
  | _ => true
theorem notParB_of {δ : DSt} {i : Nat} (h : notParB δ i = true) : notPar δ i := fun xs e => by
  unfold notParB at h
  rw [e] at h
  cases h
def dgName (i : Nat) : DTG := fun d δ C => notParB δ i = true ∧ C (δ.set i (some (.val d)))
def dgsNil : DTGs := fun ds δ C => match ds with
  | [] => C δ
  | _ => False
def dgsCons (g : DTG) (h : DTGs) : DTGs := fun ds δ C => match ds with
  | d :: ds => g d δ fun δ1 => h ds δ1 C
  | _ => False
def dgTup (n : Nat) (g : DTGs) : DTG := fun d δ C => match d with
  | .tuple ds => ds.length = n ∧ g ds δ C
  | _ => False
section
variable {X : Cx} {K : PySem.W.Frag} {F H : Hp} {σ : L2.St} {δ : DSt} {pos : Pos}
theorem pdg_name {i : Nat} {x : Str} (hN : X.N.Nodup) (hi : X.N[i]? = some x) (hx : Loc X.env.scope x) (hf : X.fn x = true ∨ X.env.scope.names.lookup x = some .local := by first | exact .inl rfl | exact .inr rfl | assumption) : PDG X (.Name x pos) (dgName i) [i] := by
  refine ⟨_, pg_name hN hi hx hf, fun R h c k => ?_⟩
  obtain ⟨R2, s2⟩ := R.setVal (notParB_of c.1) h
  exact k _ _ _ _ R2 s2 ⟨by simp, fun j hj => List.getElem?_set_ne (Ne.symm (by simpa using hj))⟩ c.2
theorem pdgs_nil : PDGs X [] dgsNil [] := by
  refine ⟨_, pgs_nil, fun {F σ δ H v d Q C} R h c k => ?_⟩
  unfold dgsNil at c
  split at c
  · cases h
    exact ⟨rfl, k _ _ _ _ R .refl ⟨rfl, fun _ _ => rfl⟩ c⟩
  · exact c.elim
theorem pdgs_cons {e : Expr} {es : List Expr} {g : DTG} {h : DTGs} {ws us : List Nat} (h1 : PDG X e g ws) (h2 : PDGs X es h us)
    (hs : (assignEach (e :: es) X.env).map (·.2) = assign e X.env :: (assignEach es X.env).map (·.2) := by rfl) : PDGs X (e :: es) (dgsCons g h) (ws ++ us) := by
  obtain ⟨t, p1, q1⟩ := h1
  obtain ⟨u, p2, q2⟩ := h2
  refine ⟨_, pgs_cons p1 p2 hs, fun {F σ δ H v d Q C} R h c k => ?_⟩
  unfold dgsCons at c
  split at c
  · cases h with
    | cons a1 a2 =>
      refine ⟨_, _, rfl, q1 R a1 c fun δ1 F1 σ1 H1 R1 s1 f1 c1 => ?_⟩
      refine q2 R1 (Dp.monoAll s1.ext _ _ a2) c1 fun δ2 F2 σ2 H2 R2 s2 f2 c2 => ?_
      exact k _ _ _ _ R2 (s1.trans s2) ⟨f2.1.trans f1.1, fun i hi => by
        rw [List.mem_append, not_or] at hi
        exact (f2.2 i hi.2).trans (f1.2 i hi.1)⟩ c2
  · exact c.elim
theorem pdg_tup {es : List Expr} {kk : Nat} {g : DTGs} {n : Nat} {ws : List Nat} (hc : X.calm = true) (h : PDGs X es g ws)
    (hn : (assignEach es X.env).length = n := by rfl) (hst : (assignEach es X.env).findIdx? (·.1) = none := by rfl) : PDG X (.Tuple es kk pos) (dgTup n g) ws := by
  obtain ⟨t, p, q⟩ := h
  refine ⟨_, pg_tup hc p hn hst, fun {F σ δ H v d Q C} R h c k => ?_⟩
  unfold dgTup at c
  split at c
  · cases h with
    | tup h1 a1 => exact ⟨_, _, rfl, seqT R.sub h1, a1.length.trans c.1, q R a1 c.2 k⟩
  · exact c.elim

def dNext : DTS := fun D δ => D.nx δ
def dSeq (g h : DTS) : DTS := fun D δ => g { D with nx := h D } δ
theorem sds_nil : SDs X [] dNext := ⟨_, pss_nil, fun R h k => k.nx _ _ _ _ R .refl h⟩
theorem sds_cons {st : Stmt} {rest : List Stmt} {g h : DTS} (h1 : SD X st g) (h2 : SDs X rest h) : SDs X (st :: rest) (dSeq g h) := by
  obtain ⟨t, p1, q1⟩ := h1
  obtain ⟨u, p2, q2⟩ := h2
  refine ⟨_, pss_cons p1 p2, fun R c k => ?_⟩
  exact q1 R c ⟨fun F' σ' δ' H' R' s' c' => q2 R' c' (k.step s'), k.bk, k.ct, k.rt⟩
theorem sds_one {st : Stmt} {g : DTS} (h1 : SD X st g) : SDs X [st] g := by
  obtain ⟨t, p1, q1⟩ := h1
  exact ⟨_, pss_one p1, q1⟩
def dBreak : DTS := fun D δ => D.bk δ
def dCont : DTS := fun D δ => D.ct δ
theorem sd_pass : SD X (.Pass pos) dNext := ⟨_, ps_pass, fun R h k => k.nx _ _ _ _ R .refl h⟩
theorem sd_break : SD X (.Break pos) dBreak := ⟨_, ps_break, fun R h k => k.bk _ _ _ _ R .refl h⟩
theorem sd_continue : SD X (.Continue pos) dCont := ⟨_, ps_continue, fun R h k => k.ct _ _ _ _ R .refl h⟩
theorem sd_doc {x j p2} : SD X (.Expr (.Constant (.str x) j pos) p2) dNext := ⟨_, ps_doc, fun R h k => k.nx _ _ _ _ R .refl h⟩
def dDrop (f : DTE) : DTS := fun D δ => f δ fun _ δ1 => D.nx δ1
theorem sd_expr {e : Expr} {f : DTE} (h : PD X e f) (hs : swapsWith e none pos.line X.env = pure false := by rfl) : SD X (.Expr e pos) (dDrop f) := by
  obtain ⟨te, p, q⟩ := h
  exact ⟨_, ps_expr p hs, fun R c k => q R c fun a δ1 F1 H1 v R1 s1 r1 c1 => k.nx _ _ _ _ R1 s1 c1⟩
def dRet (f : DTE) : DTS := fun D δ => f δ fun a δ1 => match a with
  | .val d => D.rt (.val d) δ1
  | .sl i => match δ1[i]? with
    | some (some (.own xs)) => D.rt (.own xs) δ1
    | _ => False
theorem sd_ret {e : Expr} {f : DTE} (h : PD X e f) : SD X (.Return (some e) pos) (dRet f) := by
  obtain ⟨te, p, q⟩ := h
  refine ⟨_, ps_ret p, fun {F σ δ H DD D} R c k => ?_⟩
  refine q R c fun a δ1 F1 H1 v R1 s1 r1 c1 => ?_
  split at c1
  · rename_i d
    exact k.rt _ _ _ _ v (.val d) R1 s1 r1 c1
  · rename_i i
    split at c1
    · rename_i xs hx
      obtain ⟨l, ws, e1, e2, e3, e4⟩ := R1.own i xs (.inl hx)
      have r1 : σ[i]? = some (some v) := r1
      rw [e1] at r1
      cases r1
      exact k.rt _ _ _ _ _ (.own xs) R1 s1 ⟨l, ws, rfl, e2, e3, e4, .inl ⟨i, xs, hx, e1⟩⟩ c1
    · exact c1.elim
def dRetN (f : DSt → (List PyData → DSt → Prop) → Prop) : DTS := fun D δ => f δ fun xs δ1 => D.rt (.own xs) δ1
theorem sd_retNew {e : Expr} {f : DSt → (List PyData → DSt → Prop) → Prop} (h : PDN X e f) : SD X (.Return (some e) pos) (dRetN f) := by
  obtain ⟨te, p, q⟩ := h
  refine ⟨_, ps_ret p, fun {F σ δ H DD D} R c k => ?_⟩
  exact q R c fun xs δ1 F1 H1 l ws R1 s1 nF nH nO hH hA c1 => k.rt _ _ _ _ _ (.own xs) R1 s1 ⟨l, ws, rfl, nF, hH, hA, .inr ⟨nO, nH⟩⟩ c1
def dRet0 : DTS := fun D δ => D.rt (.val .none) δ
theorem sd_ret0 : SD X (.Return none pos) dRet0 := ⟨_, ps_retN, fun R h k => k.rt _ _ _ _ _ (.val .none) R .refl Dp.non h⟩
def dIf (t : DTT) (g h : DTS) : DTS := fun D δ => t δ fun b δ1 => (b = true → g D δ1) ∧ (b = false → h D δ1)
theorem sd_if {c : Expr} {a b : List Stmt} {t : DTT} {g h : DTS} (hc : PDT X c t) (ha : SDs X a g) (hb : SDs X b h) : SD X (.If c a b pos) (dIf t g h) := by
  obtain ⟨tc, p, q⟩ := hc
  obtain ⟨ta, pa, qa⟩ := ha
  obtain ⟨tb, pb, qb⟩ := hb
  refine ⟨_, ps_if p pa pb, fun R c k => ?_⟩
  refine q R c fun b δ1 F1 H1 R1 s1 c1 => ?_
  cases b with
  | true => exact iteT (qa R1 (c1.1 rfl) (k.step s1))
  | false => exact iteF (qb R1 (c1.2 rfl) (k.step s1))
def dSet (i : Nat) (f : DTE) : DTS := fun D δ => f δ fun a δ1 => match a with
  | .val d => notParB δ1 i = true ∧ D.nx (δ1.set i (some (.val d)))
  | _ => False
theorem sd_set {i : Nat} {x : Str} {e : Expr} {f : DTE} {p2 : Pos} (hN : X.N.Nodup) (hi : X.N[i]? = some x) (hx : Loc X.env.scope x) (h : PD X e f) (hs : swapsWith e (some (.Name x p2)) pos.line X.env = pure false := by rfl)
    (hf : X.fn x = true ∨ X.env.scope.names.lookup x = some .local := by first | exact .inl rfl | exact .inr rfl | assumption) : SD X (.Assign [.Name x p2] e pos) (dSet i f) := by
  obtain ⟨te, p, q⟩ := h
  refine ⟨_, ps_set hN hi hx p hs hf, fun R c k => ?_⟩
  refine q R c fun a δ1 F1 H1 v R1 s1 r1 c1 => ?_
  split at c1
  · obtain ⟨R2, s2⟩ := R1.setVal (notParB_of c1.1) r1
    exact k.nx _ _ _ _ R2 (s1.trans s2) c1.2
  · exact c1.elim
def dSetN (i : Nat) (f : DSt → (List PyData → DSt → Prop) → Prop) : DTS := fun D δ => f δ fun xs δ1 => notParB δ1 i = true ∧ D.nx (δ1.set i (some (.own xs)))
theorem sd_setNew {i : Nat} {x : Str} {e : Expr} {f : DSt → (List PyData → DSt → Prop) → Prop} {p2 : Pos} (hN : X.N.Nodup) (hi : X.N[i]? = some x) (hx : Loc X.env.scope x) (h : PDN X e f) (hs : swapsWith e (some (.Name x p2)) pos.line X.env = pure false := by rfl)
    (hf : X.fn x = true ∨ X.env.scope.names.lookup x = some .local := by first | exact .inl rfl | exact .inr rfl | assumption) : SD X (.Assign [.Name x p2] e pos) (dSetN i f) := by
  obtain ⟨te, p, q⟩ := h
  refine ⟨_, ps_set hN hi hx p hs hf, fun R c k => ?_⟩
  refine q R c fun xs δ1 F1 H1 l ws R1 s1 nF nH nO hH hA c1 => ?_
  obtain ⟨R2, st⟩ := R1.setOwnS (notParB_of c1.1) nF hH nO hA
  exact k.nx _ _ _ _ R2 (st s1 nH) c1.2
/-- target = e, any target -/
def dAsg (f : DTE) (g : DTG) : DTS := fun D δ => f δ fun a δ1 => match a with
  | .val d => g d δ1 D.nx
  | _ => False
theorem sd_asg {tg e : Expr} {f : DTE} {g : DTG} {ws : List Nat} (h : PD X e f) (hg : PDG X tg g ws) (hs : swapsWithSole [tg] e pos.line X.env = pure false := by rfl) (hw : swappedStores [tg] e X.env = pure none := by rfl)
    (h1 : (assignEach [tg] X.env).map (·.2) = [assign tg X.env] := by rfl) : SD X (.Assign [tg] e pos) (dAsg f g) := by
  obtain ⟨te, p, q⟩ := h
  obtain ⟨t, pg, qg⟩ := hg
  refine ⟨_, ps_asg p pg hs hw h1, fun R c k => ?_⟩
  refine q R c fun a δ1 F1 H1 v R1 s1 r1 c1 => ?_
  split at c1
  · exact qg R1 r1 c1 fun δ2 F2 σ2 H2 R2 s2 _ c2 => k.nx _ _ _ _ R2 (s1.trans s2) c2
  · exact c1.elim
/-- name += e -/
def dAug (i : Nat) (r : DOp) (f : DTE) : DTS := fun D δ => match δ[i]? with
  | some (some (.val x)) => f δ fun a δ1 => match a with
    | .val y => r x y fun z => notParB δ1 i = true ∧ D.nx (δ1.set i (some (.val z)))
    | _ => False
  | _ => False
def IpD (X : Cx) (op : Operator) (r : DOp) : Prop :=
  ∃ r' : TIp, PIp X op r' ∧ ∀ {F : Hp} {σ : L2.St} {δ : DSt} {H : Hp} {x y : V} {d e : PyData} {Q : VK} {C : PyData → Prop}, RepS X.K F σ δ H → Dp X.K F x d → Dp X.K F y e → r d e C →
    (∀ z F' H' v, RepS X.K F' σ δ H' → Stp σ δ F H σ δ F' H' → Dp X.K F' v z → C z → Q v H') → r' x y H Q
def iAdd : DOp := fun d e C => match d, e with
  | .int i, .int j => C (.int (i + j))
  | _, _ => False
def iSub : DOp := fun d e C => match d, e with
  | .int i, .int j => C (.int (i - j))
  | _, _ => False
theorem id_add : IpD X .Add iAdd := by
  refine ⟨_, ip_add, fun {F σ δ H x y d e Q C} R hx hy c k => ?_⟩
  unfold iAdd at c
  split at c
  · cases hx; cases hy
    exact ⟨_, _, rfl, rfl, k _ _ _ _ R .refl (.int _) c⟩
  · exact c.elim
theorem id_sub : IpD X .Sub iSub := by
  refine ⟨_, ip_sub, fun {F σ δ H x y d e Q C} R hx hy c k => ?_⟩
  unfold iSub at c
  split at c
  · cases hx; cases hy
    exact ⟨_, _, rfl, rfl, k _ _ _ _ R .refl (.int _) c⟩
  · exact c.elim
theorem sd_aug {i : Nat} {x : Str} {e : Expr} {f : DTE} {op : Operator} {r : DOp} {p2 : Pos} (hN : X.N.Nodup) (hi : X.N[i]? = some x) (hx : Loc X.env.scope x) (h : PD X e f) (ho : IpD X op r)
    (hf : X.fn x = true ∨ X.env.scope.names.lookup x = some .local := by first | exact .inl rfl | exact .inr rfl | assumption) : SD X (.AugAssign (.Name x p2) op e pos) (dAug i r f) := by
  obtain ⟨te, p, q⟩ := h
  obtain ⟨r', o1, o2⟩ := ho
  refine ⟨_, ps_aug hN hi hx p o1 hf, fun {F σ δ H DD D} R c k => ?_⟩
  unfold dAug at c
  split at c
  · rename_i d hd
    obtain ⟨v, e1, e2⟩ := R.val i d hd
    refine ⟨v, e1, q R c fun a δ1 F1 H1 w R1 s1 r1 c1 => ?_⟩
    split at c1
    · refine o2 R1 (Dp.mono s1.ext _ _ e2) r1 c1 fun z F2 H2 u R2 s2 r2 c2 => ?_
      obtain ⟨R3, s3⟩ := R2.setVal (notParB_of c2.1) r2
      exact k.nx _ _ _ _ R3 ((s1.trans s2).trans s3) c2.2
    · exact c1.elim
  · exact c.elim
/-- xs[i] = e of an owned list -/
def dSetIx (fo fi f : DTE) : DTS := fun D δ => f δ fun a δ1 => match a with
  | .val d => fo δ1 fun b δ2 => match b with
    | .sl j => fi δ2 fun c δ3 => match c with
      | .val (.int i) => match cont δ3 j with
        | some xs => match ixN xs.length i with
          | some n => D.nx (putC δ3 j (xs.set n d))
          | none => False
        | none => False
      | _ => False
    | _ => False
  | _ => False
theorem sd_setIx {o i e : Expr} {fo fi f : DTE} {p2 : Pos} (ho : PD X o fo) (hi : PD X i fi) (h : PD X e f)
    (ha : ∀ v, assign (.Subscript o i p2) X.env v = (do
      let ov ← holding [v] (eval o X.env)
      let iv ← holding [v, ov] (eval i X.env)
      standAt p2
      holding [v, ov, iv] (setItem ov iv v)
      release [v, ov, iv] []) := by intro _; rfl)
    (hs : swapsWithSole [.Subscript o i p2] e pos.line X.env = pure false := by rfl) (hw : swappedStores [.Subscript o i p2] e X.env = pure none := by rfl)
    (h1 : (assignEach [.Subscript o i p2] X.env).map (·.2) = [assign (.Subscript o i p2) X.env] := by rfl) : SD X (.Assign [.Subscript o i p2] e pos) (dSetIx fo fi f) := by
  obtain ⟨te, p, q⟩ := h
  obtain ⟨to, po, qo⟩ := ho
  obtain ⟨ti, pi, qi⟩ := hi
  refine ⟨_, ps_asg p (pg_sub po pi set_list ha) hs hw h1, fun {F σ δ H DD D} R c k => ?_⟩
  refine q R c fun a δ1 F1 H1 v R1 s1 r1 c1 => ?_
  split at c1
  · rename_i d
    refine qo R1 c1 fun b δ2 F2 H2 w R2 s2 r2 c2 => ?_
    split at c2
    · rename_i j
      refine qi R2 c2 fun z δ3 F3 H3 u R3 s3 r3 c3 => ?_
      split at c3
      · rename_i n
        cases (show Dp X.K F3 u (.int n) from r3)
        split at c3
        · rename_i xs hx
          split at c3
          · rename_i m hm
            obtain ⟨l, vs, e1, e2, e3, e4⟩ := R3.own j xs (cont_own hx)
            have r2 : σ[j]? = some (some w) := r2
            have e1' := e1
            rw [r2] at e1'
            cases e1'
            obtain ⟨R4, s4⟩ := R3.put (cont_own hx) e1 (DpAll.set (Dp.mono (s2.ext.trans s3.ext) _ _ r1) m e4)
            exact ⟨l, vs, n, m, rfl, rfl, e3, by rw [e4.length]; exact hm, k.nx _ _ _ _ R4 (((s1.trans s2).trans s3).trans s4) c3⟩
          · exact c3.elim
        · exact c3.elim
      · exact c3.elim
    · exact c2.elim
  · exact c1.elim

/-! ### while -/
def dWhileN (c : DTT) (b : DTS) : Nat → DTS
  | 0 => fun _ _ => False
  | n + 1 => fun D δ => c δ fun t δ1 => (t = true → b { nx := dWhileN c b n D, ct := dWhileN c b n D, bk := D.nx, rt := D.rt } δ1) ∧ (t = false → D.nx δ1)
def dWhile (c : DTT) (b : DTS) : DTS := fun D δ => ∃ n, dWhileN c b n D δ
theorem sd_while {c : Expr} {body : List Stmt} {t : DTT} {b : DTS} (hp : PassesOwn (model X.prog X.w) X.A X.env X.xe) (hc : PDT X c t) (hb : SDs X body b) : SD X (.While c body [] pos) (dWhile t b) := by
  obtain ⟨tc, p, q⟩ := hc
  obtain ⟨tb, pb, qb⟩ := hb
  refine ⟨_, ps_while hp p pb, fun {F σ δ H DD D} R c k => ?_⟩
  obtain ⟨n, c⟩ := c
  refine ⟨fun m σ' H' => ∃ F' δ', RepS X.K F' σ' δ' H' ∧ Stp σ δ F H σ' δ' F' H' ∧ dWhileN t b m DD δ', ⟨n, F, δ, R, .refl, c⟩, ?_⟩
  rintro m σ1 H1 ⟨F1, δ1, R1, s1, c1⟩
  cases m with
  | zero => exact c1.elim
  | succ m =>
    refine q R1 c1 fun t' δ2 F2 H2 R2 s2 c2 => ?_
    cases t' with
    | false => exact iteF (k.nx _ _ _ _ R2 (s1.trans s2) (c2.2 rfl))
    | true =>
      refine iteT ⟨fun σ' H' => ∃ F' δ', RepS X.K F' σ' δ' H' ∧ Stp σ δ F H σ' δ' F' H' ∧ dWhileN t b m DD δ', fun σ' H' h => ⟨m, Nat.lt_succ_self _, h⟩, ?_⟩
      have s12 := s1.trans s2
      exact qb R2 (c2.1 rfl) ⟨fun F' σ' δ' H' R' s' c' => ⟨F', δ', R', s12.trans s', c'⟩, fun F' σ' δ' H' R' s' c' => k.nx _ _ _ _ R' (s12.trans s') c',
        fun F' σ' δ' H' R' s' c' => ⟨F', δ', R', s12.trans s', c'⟩, fun F' σ' δ' H' v r R' s' q' c' => k.rt _ _ _ _ v r R' (s12.trans s') (q'.step s12.dom) c'⟩

/-! ### what a for walks -/
def IterRep (K : PySem.W.Frag) (F : Hp) (J : It) (its : List PyData) : Prop :=
  ∀ F' σ δ H, RepS K F' σ δ H → Same F F' → ∀ i, (its.length ≤ i → J.stop i H) ∧ ∀ d, its[i]? = some d → J.go i H ∧ ∀ x H', J.yld i H x H' →
    ∃ F'', RepS K F'' σ δ H' ∧ Stp σ δ F' H σ δ F'' H' ∧ Dp K F'' x d
abbrev DTI := DSt → (List PyData → DSt → Prop) → Prop
structure PDI (X : Cx) (tg iter : Expr) (f : DTI) : Prop where
  ex : ∃ wi, PI X tg iter wi ∧ ∀ {F : Hp} {σ : L2.St} {δ : DSt} {H : Hp} {R : It → Hp → Prop} {C : List PyData → DSt → Prop}, RepS X.K F σ δ H → f δ C →
    (∀ its δ' F' H' J, RepS X.K F' σ δ' H' → Stp σ δ F H σ δ' F' H' → IterRep X.K F' J its → C its δ' → R J H') → wi σ H R
/-- a list, a tuple or a text, as the value is -/
def iAny (K : PySem.W.Frag) (tl : TE) : TI := fun σ H R => tl σ H fun x H1 => (∃ a, x = .ref a ∧ (∃ xs, SqL K H1 a xs) ∧ R (Itl K a) H1) ∨ (∃ a, x = .ref a ∧ (∃ xs, SqT K H1 a xs) ∧ R (Itt K a) H1) ∨ ∃ z, x = .str z ∧ R (Its z) H1
theorem pi_any {tg l : Expr} {tl : TE} (hl : PE X l tl) : PI X tg l (iAny X.K tl) := by
  refine ⟨fun pins s σ H R I h => thn (hl.run pins s σ H _ I h) fun v s1 ⟨x, H1, I1, r1, q1⟩ => ?_⟩
  have new : ∀ b, b ∈ [s1.heap.objs.size] → FpOk X pins H1 b := fun b hb => by
    have e : b = s1.heap.objs.size := by simpa using hb
    rw [e]
    exact I1.fpOk (Nat.le_refl _) (I1.hok.fresh (Nat.le_refl _))
  rcases q1 with ⟨a, e, ⟨xs, hq⟩, q⟩ | ⟨a, e, ⟨xs, hq⟩, q⟩ | ⟨z, e, q⟩
  · subst e
    cases r1
    obtain ⟨us, _, pl, _⟩ := I1.list hq
    exact wpAny_pyIter_list pl.isList ⟨_, _, _, _, H1, rfl, I1.kept (t' := s1.toks) fun b o e => Heap.get?_push_of_some _ e, turn_list a _, ⟨_, Heap.get?_push_size _ rfl, rfl, rfl⟩, new, q⟩
  · subst e
    cases r1
    obtain ⟨us, _, pl, _⟩ := I1.tuple hq
    exact wpAny_pyIter_tuple (show s1.heap.IsTuple a us.toArray from pl) ⟨_, _, _, _, H1, rfl, I1.kept (t' := s1.toks) fun b o e => Heap.get?_push_of_some _ e, turn_tuple a _, ⟨_, Heap.get?_push_size _ rfl, rfl, rfl⟩, new, q⟩
  · subst e
    obtain ⟨t, rfl⟩ := r1
    cases ha : z.cps.all (· < 128) with
    | false => exact wpAny_pyIter_wide ha (pi_one (tk := s1.toks) I1 _ (turn_str _ z t "str_iterator" (.inr rfl)) ⟨_, Heap.get?_push_size _ rfl, rfl, rfl⟩ q)
    | true => exact wpAny_pyIter_ascii ha (pi_one (tk := s1.toks) I1 _ (turn_str _ z t "str_ascii_iterator" (.inl rfl)) ⟨_, Heap.get?_push_size _ rfl, rfl, rfl⟩ q)
def dIterE (f : DTE) : DTI := fun δ C => f δ fun a δ1 => match a with
  | .val (.list xs) => C xs δ1
  | .val (.tuple xs) => C xs δ1
  | .val (.str z) => C (z.cps.toList.map fun c => .str ⟨#[c]⟩) δ1
  | .sl i => match δ1[i]? with
    | some (some (.own xs)) => C xs (δ1.set i (some (.val (.list xs))))
    | _ => False
  | _ => False
theorem iter_list {F : Hp} {a : Addr} {vs : List V} {xs : List PyData} (h : SqL K F a vs) (hA : DpAll K F vs xs) : IterRep K F (Itl K a) xs := by
  intro F' σ δ H R e i
  have hH : SqL K H a vs := R.sub.seq (e.seq h)
  refine ⟨fun hi => ⟨vs, hH, by rw [hA.length]; exact hi⟩, fun d hd => ?_⟩
  obtain ⟨v, hv, dv⟩ := hA.get hd
  refine ⟨⟨vs, v, hH, hv⟩, fun x H' hy => ?_⟩
  obtain ⟨rfl, hy⟩ := hy
  have ex : x = v := Option.some.inj ((hy _ hH).symm.trans hv)
  subst ex
  exact ⟨F', R, .refl, Dp.mono e _ _ dv⟩
theorem iter_tup {F : Hp} {a : Addr} {vs : List V} {xs : List PyData} (h : SqT K F a vs) (hA : DpAll K F vs xs) : IterRep K F (Itt K a) xs := by
  intro F' σ δ H R e i
  have hH : SqT K H a vs := seqT R.sub (seqT e h)
  refine ⟨fun hi => ⟨vs, hH, by rw [hA.length]; exact hi⟩, fun d hd => ?_⟩
  obtain ⟨v, hv, dv⟩ := hA.get hd
  refine ⟨⟨vs, v, hH, hv⟩, fun x H' hy => ?_⟩
  obtain ⟨rfl, hy⟩ := hy
  have ex : x = v := Option.some.inj ((hy _ hH).symm.trans hv)
  subst ex
  exact ⟨F', R, .refl, Dp.mono e _ _ dv⟩
theorem iter_str {F : Hp} (z : Str) : IterRep K F (Its z) (z.cps.toList.map fun c => .str ⟨#[c]⟩) := by
  intro F' σ δ H R e i
  refine ⟨fun hi => by
    have hi : z.cps.size ≤ i := by simpa using hi
    exact hi, fun d hd => ?_⟩
  rw [List.getElem?_map] at hd
  cases q : z.cps.toList[i]? with
  | none => rw [q] at hd; cases hd
  | some c =>
    rw [q] at hd
    cases hd
    have hi : i < z.cps.size := by
      have := (List.getElem?_eq_some_iff.mp q).1
      simpa using this
    refine ⟨hi, fun x H' hy => ?_⟩
    obtain ⟨rfl, c', hc, rfl⟩ := hy
    have : c' = c := by
      have q2 : z.cps[i]? = some c := by simpa using q
      rw [hc] at q2
      exact Option.some.inj q2
    subst this
    exact ⟨F', R, .refl, Dp.str _⟩
theorem pdi_e {tg e : Expr} {f : DTE} (h : PD X e f) : PDI X tg e (dIterE f) := by
  obtain ⟨te, p, q⟩ := h
  refine ⟨_, pi_any p, fun {F σ δ H R C} RR c k => ?_⟩
  refine q RR c fun a δ1 F1 H1 v R1 s1 r1 c1 => ?_
  split at c1
  · rename_i xs
    cases (show Dp X.K F1 v (.list xs) from r1) with
    | lst h1 a1 => exact .inl ⟨_, rfl, ⟨_, R1.sub.seq h1⟩, k _ _ _ _ _ R1 s1 (iter_list h1 a1) c1⟩
  · rename_i xs
    cases (show Dp X.K F1 v (.tuple xs) from r1) with
    | tup h1 a1 => exact .inr (.inl ⟨_, rfl, ⟨_, seqT R1.sub h1⟩, k _ _ _ _ _ R1 s1 (iter_tup h1 a1) c1⟩)
  · rename_i z
    cases (show Dp X.K F1 v (.str z) from r1)
    exact .inr (.inr ⟨z, rfl, k _ _ _ _ _ R1 s1 (iter_str z) c1⟩)
  · rename_i i
    split at c1
    · rename_i xs hx
      obtain ⟨l, ws, e1, e2, e3, e4⟩ := R1.own i xs (.inl hx)
      have r1 : σ[i]? = some (some v) := r1
      rw [e1] at r1
      cases r1
      obtain ⟨R2, s2⟩ := R1.freeze hx e1 e3
      exact .inl ⟨_, rfl, ⟨_, SqL.of e3⟩, k _ _ _ _ _ R2 (s1.trans s2) (iter_list (SqL.of upd_same) (Dp.monoAll s2.ext _ _ e4)) c1⟩
    · exact c1.elim
  · exact c1.elim
def rangeD (lo : Int) (n : Nat) : List PyData := (List.range n).map fun k => .int (lo + (k : Nat))
theorem iter_rng {F : Hp} (lo : Int) (n : Nat) : IterRep K F (Itr lo n) (rangeD lo n) := by
  intro F' σ δ H R e i
  unfold rangeD
  refine ⟨fun hi => ?_, fun d hd => ?_⟩
  · have hi : n ≤ i := by simpa using hi
    exact hi
  rw [List.getElem?_map] at hd
  by_cases hi : i < n
  · rw [List.getElem?_range hi] at hd
    cases hd
    refine ⟨hi, fun x H' hy => ?_⟩
    obtain ⟨rfl, rfl⟩ := hy
    exact ⟨F', R, .refl, Dp.int _⟩
  · rw [List.getElem?_eq_none (by simpa using hi)] at hd
    cases hd
def dRng1 (f : DTA) : DTI := fun δ C => f δ fun as δ1 => match as with
  | [.val (.int j)] => -(2 ^ 62) ≤ j ∧ j < 2 ^ 62 ∧ C (rangeD 0 j.toNat) δ1
  | _ => False
def dRng2 (f : DTA) : DTI := fun δ C => f δ fun as δ1 => match as with
  | [.val (.int i), .val (.int j)] => (-(2 ^ 62) ≤ i ∧ i < 2 ^ 62 ∧ -(2 ^ 62) ≤ j ∧ j < 2 ^ 62) ∧ C (rangeD i (j - i).toNat) δ1
  | _ => False
theorem pdi_range1 {tg a : Expr} {f : DTA} {p : Pos} (hg : Gl X "range") (hm : X.mg "range" = none) (ha : PDA X [a] f) (hs : starEach [a] X.env = [(false, eval a X.env)] := by rfl) : PDI X tg (.Call (.Name "range" p) [a] [] pos) (dRng1 f) := by
  obtain ⟨ta, p, q⟩ := ha
  refine ⟨_, pi_range1 hg hm p hs, fun {F σ δ H R C} RR c k => ?_⟩
  refine q RR c fun as δ1 F1 H1 vs R1 s1 r1 c1 => ?_
  split at c1
  · rename_i j
    obtain ⟨v, rfl, r2⟩ := arsRep1 r1
    cases (show Dp X.K F1 v (.int j) from r2)
    exact ⟨j, rfl, c1.1, c1.2.1, k _ _ _ _ _ R1 s1 (iter_rng 0 _) c1.2.2⟩
  · exact c1.elim
theorem pdi_range2 {tg a b : Expr} {f : DTA} {p : Pos} (hg : Gl X "range") (hm : X.mg "range" = none) (ha : PDA X [a, b] f) (hs : starEach [a, b] X.env = [(false, eval a X.env), (false, eval b X.env)] := by rfl) (hs2 : starEach [b] X.env = [(false, eval b X.env)] := by rfl) : PDI X tg (.Call (.Name "range" p) [a, b] [] pos) (dRng2 f) := by
  obtain ⟨ta, p, q⟩ := ha
  refine ⟨_, pi_range2 hg hm p hs hs2, fun {F σ δ H R C} RR c k => ?_⟩
  refine q RR c fun as δ1 F1 H1 vs R1 s1 r1 c1 => ?_
  split at c1
  · rename_i i j
    obtain ⟨v, w, rfl, r2, r3⟩ := arsRep2 r1
    cases (show Dp X.K F1 v (.int i) from r2)
    cases (show Dp X.K F1 w (.int j) from r3)
    exact ⟨i, j, rfl, c1.1, k _ _ _ _ _ R1 s1 (iter_rng i _) c1.2⟩
  · exact c1.elim
/-! ### for -/
def dForL (g : DTG) (b : DTS) : List PyData → DTS
  | [] => fun D δ => D.nx δ
  | d :: ds => fun D δ => g d δ fun δ1 => b { nx := dForL g b ds D, ct := dForL g b ds D, bk := D.nx, rt := D.rt } δ1
def dFor (fi : DTI) (g : DTG) (b : DTS) : DTS := fun D δ => fi δ fun its δ1 => dForL g b its D δ1
theorem sd_for {tg iter : Expr} {body : List Stmt} {fi : DTI} {g : DTG} {b : DTS} {ws : List Nat} (hp : PassesOwn (model X.prog X.w) X.A X.env X.xe) (hc : X.calm = true) (hi : PDI X tg iter fi) (hg : PDG X tg g ws) (hb : SDs X body b)
    (hs : ∀ x, foldedSetIterable iter X.env x = pure x := by intro _; rfl) : SD X (.For tg iter body [] pos) (dFor fi g b) := by
  obtain ⟨wi, pi, qi⟩ := hi
  obtain ⟨t, pg, qg⟩ := hg
  obtain ⟨tb, pb, qb⟩ := hb
  refine ⟨_, ps_for hp hc pi pg pb hs, fun {F σ δ H DD D} R c k => ?_⟩
  refine qi R c fun its δ1 F1 H1 J R1 s1 it c1 => ?_
  refine ⟨fun i m σ' H' => ∃ F' δ', RepS X.K F' σ' δ' H' ∧ Stp σ δ F H σ' δ' F' H' ∧ Same F1 F' ∧ m = its.length - i ∧ dForL g b (its.drop i) DD δ', ⟨its.length, F1, δ1, R1, s1, Same.refl _, rfl, c1⟩, ?_⟩
  rintro i m σ2 H2 ⟨F2, δ2, R2, s2, e2, rfl, c2⟩
  obtain ⟨stop, go⟩ := it F2 σ2 δ2 H2 R2 e2 i
  cases q : its[i]? with
  | none =>
    have hi : its.length ≤ i := List.getElem?_eq_none_iff.mp q
    rw [List.drop_eq_nil_of_le hi] at c2
    exact .inl ⟨stop hi, k.nx _ _ _ _ R2 s2 c2⟩
  | some d =>
    have hi : i < its.length := (List.getElem?_eq_some_iff.mp q).1
    have ed : its.drop i = d :: its.drop (i + 1) := by
      rw [List.drop_eq_getElem_cons hi]
      have := (List.getElem?_eq_some_iff.mp q).2
      rw [this]
    rw [ed] at c2
    obtain ⟨g1, g2⟩ := go d q
    refine .inr ⟨g1, fun σ' H' => ∃ F' δ', RepS X.K F' σ' δ' H' ∧ Stp σ δ F H σ' δ' F' H' ∧ Same F1 F' ∧ dForL g b (its.drop (i + 1)) DD δ', fun σ' H' ⟨F', δ', a1, a2, a3, a4⟩ => ⟨its.length - (i + 1), by omega, F', δ', a1, a2, a3, rfl, a4⟩, fun x H3 hy => ?_⟩
    obtain ⟨F3, R3, s3, d3⟩ := g2 x H3 hy
    refine qg R3 d3 c2 fun δ4 F4 σ4 H4 R4 s4 _ c4 => ?_
    have s24 := (s2.trans s3).trans s4
    have e4 := (e2.trans s3.ext).trans s4.ext
    exact qb R4 c4 ⟨fun F' σ' δ' H' R' s' c' => ⟨F', δ', R', s24.trans s', e4.trans s'.ext, c'⟩, fun F' σ' δ' H' R' s' c' => k.nx _ _ _ _ R' (s24.trans s') c',
      fun F' σ' δ' H' R' s' c' => ⟨F', δ', R', s24.trans s', e4.trans s'.ext, c'⟩, fun F' σ' δ' H' v r R' s' q' c' => k.rt _ _ _ _ v r R' (s24.trans s') (q'.step s24.dom) c'⟩
end
end DD

namespace DD
open PySem PySem.Spec PyProof.Rows L2
section
variable {X : Cx} {K : PySem.W.Frag} {F H : Hp} {σ : L2.St} {δ : DSt} {pos : Pos}
/-! ### the canonical readings: the same in every block -/
def canE (K : PySem.W.Frag) (f : DTE) : TE := fun σ H Q => ∃ F δ C, RepS K F σ δ H ∧ f δ C ∧ ∀ a δ' F' H' v, RepS K F' σ δ' H' → Stp σ δ F H σ δ' F' H' → ArRep K F' σ v a → C a δ' → Q v H'
def canT (K : PySem.W.Frag) (f : DTT) : TT := fun σ H Q => ∃ F δ C, RepS K F σ δ H ∧ f δ C ∧ ∀ a δ' F' H', RepS K F' σ δ' H' → Stp σ δ F H σ δ' F' H' → C a δ' → Q a H'
def canG (K : PySem.W.Frag) (g : DTG) (ws : List Nat) : TG := fun v σ H Q => ∃ F δ d C, RepS K F σ δ H ∧ Dp K F v d ∧ g d δ C ∧ ∀ δ' F' σ' H', RepS K F' σ' δ' H' → Stp σ δ F H σ' δ' F' H' → Agree ws σ σ' → C δ' → Q σ' H'
theorem PD.can {e : Expr} {f : DTE} (h : PD X e f) : PE X e (canE X.K f) := by
  obtain ⟨te, p, q⟩ := h
  exact ⟨fun pins s σ H Q I ⟨F, δ, C, R, c, k⟩ => p.run pins s σ H Q I (q R c k)⟩
theorem PDG.can {e : Expr} {g : DTG} {ws : List Nat} (h : PDG X e g ws) : PG X e (canG X.K g ws) := by
  obtain ⟨te, p, q⟩ := h
  exact ⟨fun pins s σ H v u Q I r ⟨F, δ, d, C, R, hd, c, k⟩ => p.run pins s σ H v u Q I r (q R hd c k)⟩
structure PDTs (X : Cx) (ifs : List Expr) (f : DTT) : Prop where
  ex : ∃ te, PTs X ifs te ∧ ∀ {F : Hp} {σ : L2.St} {δ : DSt} {H : Hp} {Q : Bool → Hp → Prop} {C : Bool → DSt → Prop}, RepS X.K F σ δ H → f δ C →
    (∀ a δ' F' H', RepS X.K F' σ δ' H' → Stp σ δ F H σ δ' F' H' → C a δ' → Q a H') → te σ H Q
theorem PDTs.can {ifs : List Expr} {f : DTT} (h : PDTs X ifs f) : PTs X ifs (canT X.K f) := by
  obtain ⟨te, p, q⟩ := h
  exact ⟨fun pins s σ H Q I ⟨F, δ, C, R, c, k⟩ => p.run pins s σ H Q I (q R c k)⟩
def dYes : DTT := fun δ C => C true δ
theorem pdts_nil : PDTs X [] dYes := ⟨_, pts_nil, fun R c k => k _ _ _ _ R .refl c⟩
theorem pdts_one {c : Expr} {f : DTT} (h : PDT X c f) : PDTs X [c] f := by
  obtain ⟨te, p, q⟩ := h
  exact ⟨_, pts_one p, q⟩

/-! ### comprehensions -/
def wipeD (δ : DSt) : List Nat → DSt
  | [] => δ
  | v :: vs => (wipeD δ vs).set v none
def restD (δ0 δ : DSt) : List Nat → DSt
  | [] => δ
  | v :: vs => (restD δ0 δ vs).set v (δ0[v]?.getD none)
def noOwnB (δ : DSt) (vs : List Nat) : Bool := vs.all fun v => match δ[v]? with
  | some (some (.own _)) => false
  | some (some (.par _)) => false
  | _ => true
theorem noOwnB_of {vs : List Nat} (h : noOwnB δ vs = true) {i : Nat} (hi : i ∈ vs) (xs : List PyData) : ¬ OwnC δ i xs := by
  have := List.all_eq_true.mp h i hi
  rintro (e | e) <;> (rw [e] at this; cases this)
theorem wipeD_len (δ : DSt) : ∀ vs : List Nat, (wipeD δ vs).length = δ.length
  | [] => rfl
  | v :: vs => by unfold wipeD; rw [List.length_set, wipeD_len δ vs]
theorem restD_len (δ0 δ : DSt) : ∀ vs : List Nat, (restD δ0 δ vs).length = δ.length
  | [] => rfl
  | v :: vs => by unfold restD; rw [List.length_set, restD_len δ0 δ vs]
theorem wipe_len (σ : L2.St) : ∀ vs : List Nat, (wipe σ vs).length = σ.length
  | [] => rfl
  | v :: vs => by unfold wipe; rw [List.length_set, wipe_len σ vs]
theorem wipeD_out {i : Nat} : ∀ {vs : List Nat}, i ∉ vs → (wipeD δ vs)[i]? = δ[i]?
  | [], _ => rfl
  | v :: vs, h => by
    have h1 : v ≠ i := fun e => h (by rw [e]; exact List.mem_cons_self)
    unfold wipeD
    rw [List.getElem?_set_ne h1]
    exact wipeD_out fun m => h (List.mem_cons_of_mem _ m)
theorem restD_out {δ0 : DSt} {i : Nat} : ∀ {vs : List Nat}, i ∉ vs → (restD δ0 δ vs)[i]? = δ[i]?
  | [], _ => rfl
  | v :: vs, h => by
    have h1 : v ≠ i := fun e => h (by rw [e]; exact List.mem_cons_self)
    unfold restD
    rw [List.getElem?_set_ne h1]
    exact restD_out fun m => h (List.mem_cons_of_mem _ m)
theorem wipeD_in {i : Nat} : ∀ {vs : List Nat}, i ∈ vs → ∀ x, (wipeD δ vs)[i]? ≠ some (some x)
  | v :: vs, h, x => by
    unfold wipeD
    by_cases e : v = i
    · subst e
      by_cases hl : v < (wipeD δ vs).length
      · rw [List.getElem?_set_self hl]; intro z; cases z
      · rw [List.getElem?_eq_none (by simpa using hl)]; intro z; cases z
    · rw [List.getElem?_set_ne e]
      rcases List.mem_cons.mp h with z | z
      · exact absurd z.symm e
      · exact wipeD_in z x
theorem wipe_in {i : Nat} : ∀ {vs : List Nat}, i ∈ vs → (wipe σ vs)[i]? = if i < σ.length then some none else none
  | v :: vs, h => by
    unfold wipe
    by_cases e : v = i
    · subst e
      by_cases hl : v < σ.length
      · rw [List.getElem?_set_self (by rw [wipe_len]; exact hl), if_pos hl]
      · rw [List.getElem?_eq_none (by simpa [wipe_len] using hl), if_neg hl]
    · rw [List.getElem?_set_ne e]
      rcases List.mem_cons.mp h with z | z
      · exact absurd z.symm e
      · exact wipe_in z
theorem restD_in {δ0 : DSt} {i : Nat} (hl : δ0.length = δ.length) : ∀ {vs : List Nat}, i ∈ vs → (restD δ0 δ vs)[i]? = δ0[i]?
  | v :: vs, h => by
    unfold restD
    by_cases e : v = i
    · subst e
      by_cases hv : v < δ.length
      · rw [List.getElem?_set_self (by rw [restD_len]; exact hv), List.getElem?_eq_getElem (by omega)]
        rfl
      · rw [List.getElem?_eq_none (by simpa [restD_len] using hv), List.getElem?_eq_none (by omega)]
    · rw [List.getElem?_set_ne e]
      rcases List.mem_cons.mp h with z | z
      · exact absurd z.symm e
      · exact restD_in hl z
theorem wipe_agree {vs ws : List Nat} {σ2 : L2.St} (hw : ∀ i ∈ ws, i ∈ vs) (h : Agree ws (wipe σ vs) σ2) : wipe σ2 vs = wipe σ vs := by
  have hlen : σ2.length = σ.length := by rw [h.1, wipe_len]
  refine List.ext_getElem? fun i => ?_
  by_cases hi : i ∈ vs
  · rw [wipe_in hi, wipe_in hi, hlen]
  · rw [wipe_out hi, h.2 i fun z => hi (hw i z)]
theorem RepS.wiped (R : RepS K F σ δ H) {vs : List Nat} (no : noOwnB δ vs = true) : RepS K F (wipe σ vs) (wipeD δ vs) H ∧ Stp σ δ F H (wipe σ vs) (wipeD δ vs) F H := by
  have ow : ∀ i xs, OwnC (wipeD δ vs) i xs → i ∉ vs ∧ OwnC δ i xs := fun i xs q => by
    by_cases hi : i ∈ vs
    · rcases q with q | q <;> exact absurd q (wipeD_in hi _)
    · refine ⟨hi, ?_⟩
      unfold OwnC at q ⊢
      rw [wipeD_out hi] at q
      exact q
  refine ⟨⟨by rw [wipe_len, wipeD_len]; exact R.len, R.sub, fun i d q => ?_, fun i xs q => ?_, fun i j xs ys l ne q1 q2 => ?_⟩, ⟨Same.refl _, fun _ _ q => .inl q, fun _ _ q _ => q, fun _ q => q, fun l ⟨i, xs, q1, q2⟩ => .inl ?_, fun i xs q => ?_, fun l ⟨i, xs, q1, q2⟩ => .inl ?_⟩⟩
  · by_cases hi : i ∈ vs
    · exact absurd q (wipeD_in hi _)
    · rw [wipeD_out hi] at q
      rw [wipe_out hi]
      exact R.val i d q
  · obtain ⟨hi, q⟩ := ow i xs q
    rw [wipe_out hi]
    exact R.own i xs q
  · obtain ⟨h1, q1⟩ := ow i xs q1
    obtain ⟨h2, q2⟩ := ow j ys q2
    rw [wipe_out h1, wipe_out h2]
    exact R.sep i j xs ys l ne q1 q2
  · obtain ⟨h1, q1⟩ := ow i xs q1
    rw [wipe_out h1] at q2
    exact ⟨i, xs, q1, q2⟩
  · have hi : i ∉ vs := fun z => noOwnB_of no z xs (.inr q)
    rw [wipe_out hi, wipeD_out hi]
    exact ⟨⟨xs, q⟩, rfl⟩
  · have hi := (ow i xs (.inl q1)).1
    rw [wipeD_out hi] at q1
    rw [wipe_out hi] at q2
    exact ⟨i, xs, q1, q2⟩
theorem RepS.restored {F4 H4 : Hp} {σ2 : L2.St} {δ4 : DSt} {vs : List Nat} (R : RepS K F σ δ H) (R4 : RepS K F4 σ2 δ4 H4) (e : Same F F4) (ag : Agree vs σ σ2) (no : noOwnB δ vs = true) (no4 : noOwnB δ4 vs = true) :
    RepS K F4 σ (restD δ δ4 vs) H4 ∧ Stp σ2 δ4 F4 H4 σ (restD δ δ4 vs) F4 H4 := by
  have hl : δ.length = δ4.length := by rw [← R.len, ← R4.len, ag.1]
  have ow : ∀ i xs, OwnC (restD δ δ4 vs) i xs → i ∉ vs ∧ OwnC δ4 i xs := fun i xs q => by
    by_cases hi : i ∈ vs
    · unfold OwnC at q
      rw [restD_in hl hi] at q
      exact absurd q (noOwnB_of no hi xs)
    · refine ⟨hi, ?_⟩
      unfold OwnC at q ⊢
      rw [restD_out hi] at q
      exact q
  refine ⟨⟨by rw [restD_len, ← hl]; exact R.len, R4.sub, fun i d q => ?_, fun i xs q => ?_, fun i j xs ys l ne q1 q2 => ?_⟩, ⟨Same.refl _, fun _ _ q => .inl q, fun _ _ q _ => q, fun _ q => q, fun l ⟨i, xs, q1, q2⟩ => .inl ?_, fun i xs q => ?_, fun l ⟨i, xs, q1, q2⟩ => .inl ?_⟩⟩
  · by_cases hi : i ∈ vs
    · rw [restD_in hl hi] at q
      obtain ⟨v, h1, h2⟩ := R.val i d q
      exact ⟨v, h1, Dp.mono e d v h2⟩
    · rw [restD_out hi] at q
      rw [← ag.2 i hi]
      exact R4.val i d q
  · obtain ⟨hi, q⟩ := ow i xs q
    rw [← ag.2 i hi]
    exact R4.own i xs q
  · obtain ⟨h1, q1⟩ := ow i xs q1
    obtain ⟨h2, q2⟩ := ow j ys q2
    rw [← ag.2 i h1, ← ag.2 j h2]
    exact R4.sep i j xs ys l ne q1 q2
  · obtain ⟨h1, q1⟩ := ow i xs q1
    rw [← ag.2 i h1] at q2
    exact ⟨i, xs, q1, q2⟩
  · have hi : i ∉ vs := fun z => noOwnB_of no4 z xs (.inr q)
    rw [restD_out hi, ag.2 i hi]
    exact ⟨⟨xs, q⟩, rfl⟩
  · have hi := (ow i xs (.inl q1)).1
    rw [restD_out hi] at q1
    rw [← ag.2 i hi] at q2
    exact ⟨i, xs, q1, q2⟩
/-- a thing that is neither frozen nor owned changes -/
theorem RepS.ghost {p : Addr} {o : HO} (R : RepS K F σ δ H) (nF : F p = none) (nO : ¬ OwnA σ δ p) : RepS K F σ δ (upd H p o) := by
  refine ⟨R.len, fun b u e => ?_, R.val, fun i xs h => ?_, R.sep⟩
  · have ne : b ≠ p := fun z => by subst z; rw [nF] at e; cases e
    rw [upd_ne ne]; exact R.sub b u e
  · obtain ⟨l, vs, h1, h2, h3, h4⟩ := R.own i xs h
    have ne : l ≠ p := fun z => nO ⟨i, xs, h, by rw [← z]; exact h1⟩
    exact ⟨l, vs, h1, h2, by rw [upd_ne ne]; exact h3, h4⟩
theorem Stp.ghost {σ0 : L2.St} {δ0 : DSt} {F0 H0 : Hp} {p : Addr} {o : HO} (s : Stp σ0 δ0 F0 H0 σ δ F H) (n : H0 p = none) : Stp σ0 δ0 F0 H0 σ δ F (upd H p o) :=
  ⟨s.ext, s.new, fun b u e no => by rw [upd_ne (ne_of_none e n)]; exact s.frm b u e no, fun b e => by
    by_cases hb : b = p
    · subst hb; exact n
    · rw [upd_ne hb] at e; exact s.dom b e, s.own, s.par, s.ownl⟩
def dLcL (g : DTG) (tt : DTT) (te : DTE) (vs : List Nat) : List PyData → List PyData → DSt → (List PyData → DSt → Prop) → Prop
  | [], acc, δ, C => C acc δ
  | d :: ds, acc, δ, C => g d (wipeD δ vs) fun δ2 => tt δ2 fun b δ3 => (b = true → te δ3 fun a δ4 => match a with
      | .val y => acc.length < sizeLine ∧ noOwnB δ4 vs = true ∧ dLcL g tt te vs ds (acc ++ [y]) (restD δ δ4 vs) C
      | _ => False) ∧ (b = false → noOwnB δ3 vs = true ∧ dLcL g tt te vs ds acc (restD δ δ3 vs) C)
def dLc (fi : DTI) (g : DTG) (tt : DTT) (te : DTE) (vs : List Nat) : DSt → (List PyData → DSt → Prop) → Prop := fun δ C => fi δ fun its δ1 => noOwnB δ1 vs = true ∧ dLcL g tt te vs its [] δ1 C
theorem noOwn_rest {δ0 : DSt} {vs : List Nat} (hl : δ0.length = δ.length) (no : noOwnB δ0 vs = true) : noOwnB (restD δ0 δ vs) vs = true := by
  refine List.all_eq_true.mpr fun i hi => ?_
  rw [restD_in hl hi]
  exact List.all_eq_true.mp no i hi
theorem lc_read {fi : DTI} {g : DTG} {tt : DTT} {te : DTE} {vs ws : List Nat} {wi : TI} (hws : ∀ i ∈ ws, i ∈ vs)
    (qi : ∀ {F : Hp} {σ : L2.St} {δ : DSt} {H : Hp} {R : It → Hp → Prop} {C : List PyData → DSt → Prop}, RepS K F σ δ H → fi δ C →
      (∀ its δ' F' H' J, RepS K F' σ δ' H' → Stp σ δ F H σ δ' F' H' → IterRep K F' J its → C its δ' → R J H') → wi σ H R)
    {Q : VK} {C : List PyData → DSt → Prop} (RR : RepS K F σ δ H) (c : dLc fi g tt te vs δ C)
    (k : ∀ xs δ' F' H' l us, RepS K F' σ δ' H' → Stp σ δ F H σ δ' F' H' → F' l = none → H l = none → ¬ OwnA σ δ' l → H' l = some (.lst us) → DpAll K F' us xs → C xs δ' → Q (.ref l) H') :
    tLc wi (canG K g ws) (canT K tt) (canE K te) vs σ H Q := by
  refine qi RR c fun its δ1 F1 H1 J R1 s1 it ⟨no1, c1⟩ D nD => ?_
  obtain ⟨R1', s1', nF1, nO1⟩ := R1.fresh (o := .lst []) nD
  have nD0 : H D = none := s1.dom D nD
  refine ⟨fun i m H' => ∃ F' δ' acc us, RepS K F' σ δ' H' ∧ Stp σ δ F H σ δ' F' H' ∧ Same F1 F' ∧ F' D = none ∧ ¬ OwnA σ δ' D ∧ H' D = some (.lst us) ∧ DpAll K F' us acc ∧ noOwnB δ' vs = true ∧ m = its.length - i ∧ dLcL g tt te vs (its.drop i) acc δ' C,
    ⟨its.length, F1, δ1, [], [], R1', s1.trans s1', Same.refl _, nF1, nO1, upd_same, .nil, no1, rfl, c1⟩, ?_⟩
  rintro i m H2 ⟨F2, δ2, acc, us, R2, s2, e2, nF2, nO2, hD2, hA2, no2, rfl, c2⟩
  obtain ⟨stop, go⟩ := it F2 σ δ2 H2 R2 e2 i
  cases q : its[i]? with
  | none =>
    have hi : its.length ≤ i := List.getElem?_eq_none_iff.mp q
    rw [List.drop_eq_nil_of_le hi] at c2
    exact .inl ⟨stop hi, k acc δ2 F2 H2 D us R2 s2 nF2 nD0 nO2 hD2 hA2 c2⟩
  | some d =>
    have hi : i < its.length := (List.getElem?_eq_some_iff.mp q).1
    have ed : its.drop i = d :: its.drop (i + 1) := by
      rw [List.drop_eq_getElem_cons hi]
      have := (List.getElem?_eq_some_iff.mp q).2
      rw [this]
    rw [ed] at c2
    obtain ⟨g1, g2⟩ := go d q
    refine .inr ⟨g1, fun H' => ∃ F' δ' acc us, RepS K F' σ δ' H' ∧ Stp σ δ F H σ δ' F' H' ∧ Same F1 F' ∧ F' D = none ∧ ¬ OwnA σ δ' D ∧ H' D = some (.lst us) ∧ DpAll K F' us acc ∧ noOwnB δ' vs = true ∧ dLcL g tt te vs (its.drop (i + 1)) acc δ' C,
      fun H' ⟨F', δ', acc, us, a1, a2, a3, a4, a5, a6, a7, a8, a9⟩ => ⟨its.length - (i + 1), by omega, F', δ', acc, us, a1, a2, a3, a4, a5, a6, a7, a8, rfl, a9⟩, fun x H3 hy => ?_⟩
    obtain ⟨F3, R3, s3, d3⟩ := g2 x H3 hy
    obtain ⟨Rw, sw⟩ := R3.wiped no2
    -- keeps: what holds of D behind a step from the state of the turn's beginning
    have keep : ∀ {F' H' : Hp} {σ' : L2.St} {δ' : DSt}, Stp σ δ2 F2 H2 σ' δ' F' H' → F' D = none ∧ ¬ OwnA σ' δ' D ∧ H' D = some (.lst us) := fun {F' H' σ' δ'} s => by
      refine ⟨?_, fun z => ?_, s.frm D _ hD2 nO2⟩
      · cases qF : F' D with
        | none => rfl
        | some o =>
          rcases s.new D o qF with z | z | ⟨j, xs, z1, z2⟩
          · rw [nF2] at z; cases z
          · rw [hD2] at z; cases z
          · exact (nO2 ⟨j, xs, .inl z1, z2⟩).elim
      · rcases s.own D z with z | z
        · exact nO2 z
        · rw [hD2] at z; cases z
    refine ⟨F3, wipeD δ2 vs, d, _, Rw, d3, c2, fun δ4 F4 σ4 H4 R4 s4 ag c4 => ⟨wipe_agree hws ag, ?_⟩⟩
    have agv : Agree vs σ σ4 := ⟨by rw [ag.1, wipe_len], fun j hj => by rw [ag.2 j fun z => hj (hws j z), wipe_out hj]⟩
    refine ⟨F4, δ4, _, R4, c4, fun b δ5 F5 H5 R5 s5 c5 => ?_⟩
    have s35 : Stp σ δ2 F3 H3 σ4 δ5 F5 H5 := (sw.trans s4).trans s5
    cases b with
    | true =>
      refine iteT ⟨F5, δ5, _, R5, c5.1 rfl, fun a δ6 F6 H6 v R6 s6 r6 c6 => ?_⟩
      split at c6
      · rename_i y
        obtain ⟨hz, no6, c6⟩ := c6
        have s36 := s35.trans s6
        obtain ⟨R7, s7⟩ := R3.restored R6 s36.ext agv no2 no6
        have sAll := (s3.trans s36).trans s7
        obtain ⟨k1, k2, k3⟩ := keep sAll
        have hl : δ2.length = δ6.length := by rw [← R2.len, ← R6.len, agv.1]
        refine ⟨us, k3, by rw [hA2.length]; exact hz, F6, restD δ2 δ6 vs, acc ++ [y], us ++ [v], R7.ghost k1 k2, ?_, (e2.trans sAll.ext), k1, k2, upd_same, (Dp.monoAll sAll.ext _ _ hA2).append (.cons r6 .nil), noOwn_rest hl no2, c6⟩
        exact (s2.trans sAll).ghost nD0
      · exact c6.elim
    | false =>
      obtain ⟨no5, c6⟩ := c5.2 rfl
      obtain ⟨R7, s7⟩ := R3.restored R5 s35.ext agv no2 no5
      have sAll := (s3.trans s35).trans s7
      obtain ⟨k1, k2, k3⟩ := keep sAll
      have hl : δ2.length = δ5.length := by rw [← R2.len, ← R5.len, agv.1]
      exact iteF ⟨F5, restD δ2 δ5 vs, acc, us, R7, s2.trans sAll, e2.trans sAll.ext, k1, k2, k3, Dp.monoAll sAll.ext _ _ hA2, noOwn_rest hl no2, c6⟩
theorem pdn_lc {elt tg iter : Expr} {ifs : List Expr} {scope : Scope} {own : List (Str × Nat)} {fi : DTI} {g : DTG} {tt : DTT} {te : DTE} {ws : List Nat} (hc : X.calm = true) (hN : X.N.Nodup) (hi : PDI X tg iter fi) (ok : BlkOk X.N X.env.scope scope own)
    (hg : ∀ (s : Shared) (H : Hp) (C : Addr) (cl : List (Str × Addr)) (fp : List Addr), PDG (X.blk s H scope (compEnvC scope cl C X.env) fp) tg g ws) (ht : ∀ (s : Shared) (H : Hp) (C : Addr) (cl : List (Str × Addr)) (fp : List Addr), PDTs (X.blk s H scope (compEnvC scope cl C X.env) fp) ifs tt)
    (he : ∀ (s : Shared) (H : Hp) (C : Addr) (cl : List (Str × Addr)) (fp : List Addr), PD (X.blk s H scope (compEnvC scope cl C X.env) fp) elt te) (hws : ∀ i ∈ ws, i ∈ own.map (·.2) := by decide) (hs : ∀ x, foldedSetIterable iter X.env x = pure x := by intro _; rfl) :
    PDN X (.ListComp elt [⟨tg, iter, ifs, 0⟩] scope pos) (dLc fi g tt te (own.map (·.2))) := by
  obtain ⟨wi, pi, qi⟩ := hi
  refine ⟨_, pe_lc (g := canG X.K g ws) (tt := canT X.K tt) (te := canE X.K te) hc hN pi ok (fun s H C cl fp => (hg s H C cl fp).can) (fun s H C cl fp => (ht s H C cl fp).can) (fun s H C cl fp => (he s H C cl fp).can) hs, fun {F σ δ H Q C} R c k => ?_⟩
  exact lc_read hws qi R c k
/-- name = [..], the name a local -/
theorem sd_setLc {i : Nat} {y : Str} {py : Pos} {elt tg iter : Expr} {ifs : List Expr} {scope : Scope} {own : List (Str × Nat)} {p2 : Pos} {fi : DTI} {g : DTG} {tt : DTT} {te : DTE} {ws : List Nat} (hc : X.calm = true) (hN : X.N.Nodup) (hy : X.N[i]? = some y) (hyl : X.env.scope.names.lookup y = some .local)
    (hsw : swapsWith (.ListComp elt [⟨tg, iter, ifs, 0⟩] scope p2) (some (.Name y py)) pos.line X.env = pure true) (hi : PDI X tg iter fi) (ok : BlkOk X.N X.env.scope scope own)
    (hg : ∀ (s : Shared) (H : Hp) (C : Addr) (cl : List (Str × Addr)) (fp : List Addr), PDG (X.blk s H scope (compEnvC scope cl C X.env) fp) tg g ws) (ht : ∀ (s : Shared) (H : Hp) (C : Addr) (cl : List (Str × Addr)) (fp : List Addr), PDTs (X.blk s H scope (compEnvC scope cl C X.env) fp) ifs tt)
    (he : ∀ (s : Shared) (H : Hp) (C : Addr) (cl : List (Str × Addr)) (fp : List Addr), PD (X.blk s H scope (compEnvC scope cl C X.env) fp) elt te) (hws : ∀ i ∈ ws, i ∈ own.map (·.2) := by decide) (hs : ∀ x, foldedSetIterable iter X.env x = pure x := by intro _; rfl) :
    SD X (.Assign [.Name y py] (.ListComp elt [⟨tg, iter, ifs, 0⟩] scope p2) pos) (dSetN i (dLc fi g tt te (own.map (·.2)))) := by
  obtain ⟨wi, pi, qi⟩ := hi
  refine ⟨_, ps_setLc (g := canG X.K g ws) (tt := canT X.K tt) (te := canE X.K te) hc hN hy hyl hsw pi ok (fun s H C cl fp => (hg s H C cl fp).can) (fun s H C cl fp => (ht s H C cl fp).can) (fun s H C cl fp => (he s H C cl fp).can) hs, fun {F σ δ H DD D} R c k => ?_⟩
  refine lc_read hws qi R c fun xs δ1 F1 H1 l us R1 s1 nF nH nO hH hA c1 => ?_
  obtain ⟨R2, st⟩ := R1.setOwnS (notParB_of c1.1) nF hH nO hA
  exact k.nx _ _ _ _ R2 (st s1 nH) c1.2
end
end DD

namespace DD
open PySem PySem.Spec PyProof.Rows L2
/-! ### what a def promises, over data: the arguments (frozen, or a list to be changed); the answer and the arguments behind -/
abbrev DSp := List Sl → (Sl → List Sl → Prop) → Prop
structure ArgRep (K : PySem.W.Frag) (F H : Hp) (vs : List V) (sls : List Sl) : Prop where
  len : vs.length = sls.length
  sub : Same F H
  val : ∀ (i : Nat) (d : PyData), sls[i]? = some (.val d) → ∃ v, vs[i]? = some v ∧ Dp K F v d
  par : ∀ (i : Nat) (xs : List PyData), sls[i]? = some (.par xs) → ∃ l us, vs[i]? = some (.ref l) ∧ F l = none ∧ H l = some (.lst us) ∧ DpAll K F us xs
  noown : ∀ (i : Nat) (xs : List PyData), sls[i]? ≠ some (.own xs)
  sep : ∀ (i j : Nat) (xs ys : List PyData) (l : Addr), i ≠ j → sls[i]? = some (.par xs) → sls[j]? = some (.par ys) → vs[i]? = some (.ref l) → vs[j]? ≠ some (.ref l)
structure FinRep (K : PySem.W.Frag) (F H : Hp) (vs : List V) (sls : List Sl) (F' H' : Hp) (v : V) (r : Sl) (sls' : List Sl) : Prop where
  ext : Same F F'
  sub : Same F' H'
  new : ∀ b o, F' b = some o → F b = some o ∨ H b = none
  frm : ∀ b o, H b = some o → (∀ (i : Nat) (xs : List PyData), sls[i]? = some (.par xs) → vs[i]? ≠ some (.ref b)) → H' b = some o
  dom : ∀ b, H' b = none → H b = none
  par : ∀ (i : Nat) (xs : List PyData), sls[i]? = some (.par xs) → ∃ ys l us, sls'[i]? = some (.par ys) ∧ vs[i]? = some (.ref l) ∧ F' l = none ∧ H' l = some (.lst us) ∧ DpAll K F' us ys
  res : match r with
    | .val d => Dp K F' v d
    | .own xs => ∃ l us, v = .ref l ∧ F' l = none ∧ H l = none ∧ H' l = some (.lst us) ∧ DpAll K F' us xs
    | .par _ => False
def lift (K : PySem.W.Frag) (d : DSp) : Sp := fun vs H Q _ => ∃ F sls C, ArgRep K F H vs sls ∧ d sls C ∧ ∀ r sls' F' H' v, FinRep K F H vs sls F' H' v r sls' → C r sls' → Q v H'
def argsOf (n : Nat) (δ : DSt) : List Sl := (δ.take n).map fun o => o.getD (.val .none)
def startD (N : List Str) (sls : List Sl) : DSt := sls.map some ++ List.replicate (N.length - sls.length) none
def endsD (n : Nat) (C : Sl → List Sl → Prop) : DEnds := { nx := fun δ => C (.val .none) (argsOf n δ), rt := fun r δ => C r (argsOf n δ) }
section
variable {K : PySem.W.Frag} {F H : Hp}
theorem startD_get {N : List Str} {sls : List Sl} {i : Nat} {s : Sl} : (startD N sls)[i]? = some (some s) ↔ sls[i]? = some s := by
  unfold startD
  by_cases hi : i < sls.length
  · rw [List.getElem?_append_left (by simpa using hi), List.getElem?_map, List.getElem?_eq_getElem hi]
    simp
  · rw [List.getElem?_append_right (by simpa using hi), List.getElem?_replicate]
    have : sls[i]? = none := List.getElem?_eq_none (by omega)
    rw [this]
    constructor
    · intro h
      split at h <;> cases h
    · intro h; cases h
theorem start_get {N : List Str} {vs : List V} {i : Nat} {v : V} (h : vs[i]? = some v) : (L2.start N vs)[i]? = some (some v) := by
  unfold L2.start
  have hi : i < vs.length := (List.getElem?_eq_some_iff.mp h).1
  rw [List.getElem?_append_left (by simpa using hi), List.getElem?_map, h]
  rfl
theorem start_of {N : List Str} {vs : List V} {i : Nat} {v : V} (h : (L2.start N vs)[i]? = some (some v)) : vs[i]? = some v := by
  unfold L2.start at h
  by_cases hi : i < vs.length
  · rw [List.getElem?_append_left (by simpa using hi), List.getElem?_map] at h
    cases q : vs[i]? with
    | none => rw [q] at h; cases h
    | some x => rw [q] at h; cases h; rfl
  · rw [List.getElem?_append_right (by simpa using hi), List.getElem?_replicate] at h
    split at h <;> cases h
theorem ArgRep.begins {N : List Str} {vs : List V} {sls : List Sl} (A : ArgRep K F H vs sls) (hN : sls.length ≤ N.length) : RepS K F (L2.start N vs) (startD N sls) H := by
  have ow : ∀ i xs, OwnC (startD N sls) i xs → sls[i]? = some (.par xs) := fun i xs h => by
    rcases h with h | h
    · exact absurd (startD_get.mp h) (A.noown i xs)
    · exact startD_get.mp h
  refine ⟨?_, A.sub, fun i d h => ?_, fun i xs h => ?_, fun i j xs ys l ne h1 h2 h3 h4 => ?_⟩
  · unfold L2.start startD
    simp [A.len]
  · obtain ⟨v, h1, h2⟩ := A.val i d (startD_get.mp h)
    exact ⟨v, start_get h1, h2⟩
  · obtain ⟨l, us, h1, h2, h3, h4⟩ := A.par i xs (ow i xs h)
    exact ⟨l, us, start_get h1, h2, h3, h4⟩
  · exact A.sep i j xs ys l ne (ow i xs h1) (ow j ys h2) (start_of h3) (start_of h4)
theorem argsOf_get {n i : Nat} {δ : DSt} {s : Sl} (hi : i < n) (h : δ[i]? = some (some s)) : (argsOf n δ)[i]? = some s := by
  unfold argsOf
  rw [List.getElem?_map, List.getElem?_take_of_lt hi, h]
  rfl
/-- a def's body, behind its entry -/
theorem ArgRep.fin {N : List Str} {vs : List V} {sls : List Sl} (A : ArgRep K F H vs sls) (hN : sls.length ≤ N.length) {F' H' : Hp} {σ' : L2.St} {δ' : DSt} {v : V} {r : Sl}
    (R : RepS K F' σ' δ' H') (s : Stp (L2.start N vs) (startD N sls) F H σ' δ' F' H') (q : ResRep K H F' σ' δ' H' v r) : FinRep K F H vs sls F' H' v r (argsOf sls.length δ') := by
  have noL : ∀ l, ¬ OwnL (L2.start N vs) (startD N sls) l := fun l ⟨i, xs, h1, _⟩ => A.noown i xs (startD_get.mp h1)
  refine ⟨s.ext, R.sub, fun b o h => ?_, fun b o h no => s.frm b o h fun ⟨i, xs, h1, h2⟩ => ?_, s.dom, fun i xs h => ?_, ?_⟩
  · rcases s.new b o h with z | z | z
    · exact .inl z
    · exact .inr z
    · exact (noL b z).elim
  · rcases h1 with h1 | h1
    · exact A.noown i xs (startD_get.mp h1)
    · exact no i xs (startD_get.mp h1) (start_of h2)
  · obtain ⟨⟨ys, h1⟩, h2⟩ := s.par i xs (startD_get.mpr h)
    obtain ⟨l, us, h3, _, _, _⟩ := A.par i xs h
    rw [start_get h3] at h2
    obtain ⟨l', us', g1, g2, g3, g4⟩ := R.own i ys (.inr h1)
    rw [h2] at g1
    cases g1
    have hi : i < sls.length := (List.getElem?_eq_some_iff.mp h).1
    exact ⟨ys, l, us', argsOf_get hi h1, h3, g2, g3, g4⟩
  · cases r with
    | val d => exact q
    | own xs =>
      obtain ⟨l, us, h1, h2, h3, h4, h5⟩ := q
      refine ⟨l, us, h1, h2, ?_, h3, h4⟩
      rcases h5 with h5 | h5
      · rcases s.ownl l h5 with z | z
        · exact (noL l z).elim
        · exact z
      · exact h5.2
    | par _ => exact q
end
section
variable {P : Program} {w : World} {K : PySem.W.Frag} {mg : Str → Option Value} {base : Heap}
/-- THE RULE for a def that raises nothing -/
theorem fn_dd {x qual : Str} {st : Stmt} {f : Addr} {fd : FuncData} {N ps : List Str} {k : Nat} {d : DSp} {g : DTS} (Fn : Fun K x qual st f fd) (S : FnScope N ps (defScope st)) (len : ∀ sls C, d sls C → sls.length = ps.length)
    (hbody : ∀ (cdv : Value) (A : Around) (outer : List Env) (s : Shared) (H : Hp) (E : XK), Room k (A.deeper (envOfC qual (defScope st) s.heap.objs.size f cdv)) → SDs (cxOf CX0 P w K mg base N qual (defScope st) f cdv A outer s H E).nox (defBody st) g)
    (law : ∀ sls C, d sls C → g (endsD sls.length C) (startD N sls)) : FnOk P w K mg base CX0 (k + 1) f fd ps (lift K d) := by
  have hpl : ps.length ≤ N.length := by have := congrArg List.length S.pre; rw [List.length_take] at this; omega
  refine Fn.ok S (fun vs H Q E h => ?_) (fun cdv A outer s H vs Q E hr h => ?_)
  · obtain ⟨F, sls, C, A, hd, _⟩ := h
    rw [A.len]
    exact len sls C hd
  · obtain ⟨F, sls, C, AR, hd, fin⟩ := h
    obtain ⟨ts, p, q⟩ := hbody cdv A outer s H E hr
    have hN : sls.length ≤ N.length := by rw [len sls C hd]; exact hpl
    refine ⟨ts, p, q (AR.begins hN) (law sls C hd) ⟨fun F' σ' δ' H' R t c => ?_, fun _ _ _ _ _ _ c => c.elim, fun _ _ _ _ _ _ c => c.elim, fun F' σ' δ' H' v r R t z c => ?_⟩⟩
    · exact fin _ _ F' H' .non (AR.fin hN R t (r := .val .none) Dp.non) c
    · exact fin _ _ F' H' v (AR.fin hN R t z) c
end
/-! ### calls of such a def -/
def slOf (δ : DSt) : Ar → Option Sl
  | .val d => some (.val d)
  | .sl i => (cont δ i).map Sl.par
def slsOf (δ : DSt) : List Ar → Option (List Sl)
  | [] => some []
  | a :: as => match slOf δ a, slsOf δ as with
    | some s, some ss => some (s :: ss)
    | _, _ => none
def put1 (δ : DSt) : Ar → Sl → DSt
  | .sl i, .par ys => putC δ i ys
  | _, _ => δ
def putArgs (δ : DSt) : List Ar → List Sl → DSt
  | [], _ => δ
  | _ :: _, [] => δ
  | a :: as, s :: ss => putArgs (put1 δ a s) as ss
def slots : List Ar → List Nat
  | [] => []
  | .sl i :: as => i :: slots as
  | _ :: as => slots as
theorem slsOf_get {δ : DSt} : ∀ {as : List Ar} {ss : List Sl}, slsOf δ as = some ss → ss.length = as.length ∧ ∀ (i : Nat) (a : Ar), as[i]? = some a → ∃ s, ss[i]? = some s ∧ slOf δ a = some s
  | [], ss, h => by cases h; exact ⟨rfl, fun i a e => by simp at e⟩
  | a :: as, ss, h => by
    unfold slsOf at h
    split at h
    · rename_i s ss' h1 h2
      cases h
      obtain ⟨l, g⟩ := slsOf_get h2
      refine ⟨by simp [l], fun i b e => ?_⟩
      cases i with
      | zero =>
        simp at e
        subst e
        exact ⟨s, rfl, h1⟩
      | succ i =>
        simp at e
        obtain ⟨s', e1, e2⟩ := g i b e
        exact ⟨s', by simpa using e1, e2⟩
    · cases h
theorem slots_inj : ∀ {as : List Ar} {i j k : Nat}, (slots as).Nodup → as[i]? = some (.sl k) → as[j]? = some (.sl k) → i = j
  | [], i, j, k, _, h, _ => by simp at h
  | a :: as, 0, 0, k, _, _, _ => rfl
  | a :: as, 0, j + 1, k, nd, h1, h2 => by
    simp at h1 h2
    subst h1
    have : k ∈ slots as := by
      clear nd
      revert j
      induction as with
      | nil => intro j h2; simp at h2
      | cons b bs ih =>
        intro j h2
        cases j with
        | zero => simp at h2; subst h2; exact List.mem_cons_self
        | succ j =>
          simp at h2
          have := ih j h2
          cases b with
          | sl n => exact List.mem_cons_of_mem _ this
          | val d => exact this
    exact absurd this (List.nodup_cons.mp nd).1
  | a :: as, i + 1, 0, k, nd, h1, h2 => by
    exact (slots_inj (as := a :: as) (i := 0) (j := i + 1) nd h2 h1).symm
  | a :: as, i + 1, j + 1, k, nd, h1, h2 => by
    simp at h1 h2
    have nd2 : (slots as).Nodup := by
      cases a with
      | sl n => exact (List.nodup_cons.mp nd).2
      | val d => exact nd
    exact congrArg (· + 1) (slots_inj nd2 h1 h2)
termination_by as i j => (as.length, i)

theorem putC_own' {δ : DSt} {i : Nat} {ys zs : List PyData} {j : Nat} (h : OwnC (putC δ i ys) j zs) : (j = i ∧ zs = ys ∧ ∃ xs, OwnC δ i xs) ∨ (j ≠ i ∧ OwnC δ j zs) := by
  by_cases e : j = i
  · subst e
    refine .inl ⟨rfl, ?_⟩
    have : ∃ xs, OwnC δ j xs := by
      unfold putC at h
      split at h
      · exact ⟨_, .inl ‹_›⟩
      · exact ⟨_, .inr ‹_›⟩
      · exact ⟨_, h⟩
    obtain ⟨xs, hx⟩ := this
    rw [putC_own hx, if_pos rfl] at h
    exact ⟨h, xs, hx⟩
  · refine .inr ⟨e, ?_⟩
    unfold OwnC at h ⊢
    rw [putC_ne e] at h
    exact h
theorem putC_val' {δ : DSt} {i j : Nat} {ys : List PyData} {d : PyData} (q : (putC δ i ys)[j]? = some (some (.val d))) : δ[j]? = some (some (.val d)) := by
  by_cases h : ∃ xs, OwnC δ i xs
  · obtain ⟨xs, h⟩ := h
    exact putC_val h q
  · unfold putC at q
    split at q
    · exact (h ⟨_, .inl ‹_›⟩).elim
    · exact (h ⟨_, .inr ‹_›⟩).elim
    · exact q
theorem putC_par' {δ : DSt} {i j : Nat} {ys zs : List PyData} (q : δ[j]? = some (some (.par zs))) : ∃ ws, (putC δ i ys)[j]? = some (some (.par ws)) := by
  by_cases h : ∃ xs, OwnC δ i xs
  · obtain ⟨xs, h⟩ := h
    exact putC_par h q
  · refine ⟨zs, ?_⟩
    unfold putC
    split
    · exact (h ⟨_, .inl ‹_›⟩).elim
    · exact (h ⟨_, .inr ‹_›⟩).elim
    · exact q
theorem putC_ownl' {δ : DSt} {i j : Nat} {ys zs : List PyData} (q : (putC δ i ys)[j]? = some (some (.own zs))) : ∃ xs, δ[j]? = some (some (.own xs)) := by
  by_cases e : j = i
  · subst e
    unfold putC at q
    split at q
    · exact ⟨_, ‹_›⟩
    · rename_i xs h
      have hi : j < δ.length := (List.getElem?_eq_some_iff.mp h).1
      rw [List.getElem?_set_self hi] at q
      cases q
    · exact ⟨_, q⟩
  · rw [putC_ne e] at q
    exact ⟨_, q⟩
theorem putArgs_len : ∀ {as : List Ar} {ss : List Sl} {δ : DSt}, (putArgs δ as ss).length = δ.length
  | [], _, _ => by simp only [putArgs]
  | .sl i :: as, .par ys :: ss, δ => by simp only [putArgs, put1]; rw [putArgs_len, putC_len]
  | .sl i :: as, .val _ :: ss, δ => by simp only [putArgs, put1]; exact putArgs_len
  | .sl i :: as, .own _ :: ss, δ => by simp only [putArgs, put1]; exact putArgs_len
  | .val _ :: as, _ :: ss, δ => by simp only [putArgs, put1]; exact putArgs_len
  | _ :: _, [], δ => by simp only [putArgs]
theorem putArgs_val {j : Nat} {d : PyData} : ∀ {as : List Ar} {ss : List Sl} {δ : DSt}, (putArgs δ as ss)[j]? = some (some (.val d)) → δ[j]? = some (some (.val d))
  | [], _, _, h => by simp only [putArgs, put1] at h; exact h
  | .sl i :: as, .par ys :: ss, δ, h => by simp only [putArgs, put1] at h; exact putC_val' (putArgs_val h)
  | .sl i :: as, .val _ :: ss, δ, h => by simp only [putArgs, put1] at h; exact putArgs_val h
  | .sl i :: as, .own _ :: ss, δ, h => by simp only [putArgs, put1] at h; exact putArgs_val h
  | .val _ :: as, _ :: ss, δ, h => by simp only [putArgs, put1] at h; exact putArgs_val h
  | _ :: _, [], δ, h => by simp only [putArgs, put1] at h; exact h
theorem putArgs_par {j : Nat} : ∀ {as : List Ar} {ss : List Sl} {δ : DSt} {zs : List PyData}, δ[j]? = some (some (.par zs)) → ∃ ws, (putArgs δ as ss)[j]? = some (some (.par ws))
  | [], _, _, zs, h => by simp only [putArgs, put1]; exact ⟨zs, h⟩
  | .sl i :: as, .par ys :: ss, δ, zs, h => by
    simp only [putArgs, put1]
    obtain ⟨ws, h2⟩ := putC_par' (i := i) (ys := ys) h
    exact putArgs_par h2
  | .sl i :: as, .val _ :: ss, δ, zs, h => by simp only [putArgs, put1]; exact putArgs_par h
  | .sl i :: as, .own _ :: ss, δ, zs, h => by simp only [putArgs, put1]; exact putArgs_par h
  | .val _ :: as, _ :: ss, δ, zs, h => by simp only [putArgs, put1]; exact putArgs_par h
  | _ :: _, [], δ, zs, h => by simp only [putArgs, put1]; exact ⟨zs, h⟩
theorem putArgs_ownl {j : Nat} : ∀ {as : List Ar} {ss : List Sl} {δ : DSt} {zs : List PyData}, (putArgs δ as ss)[j]? = some (some (.own zs)) → ∃ xs, δ[j]? = some (some (.own xs))
  | [], _, _, zs, h => by simp only [putArgs, put1] at h; exact ⟨zs, h⟩
  | .sl i :: as, .par ys :: ss, δ, zs, h => by
    simp only [putArgs, put1] at h
    obtain ⟨xs, h2⟩ := putArgs_ownl h
    exact putC_ownl' h2
  | .sl i :: as, .val _ :: ss, δ, zs, h => by simp only [putArgs, put1] at h; exact putArgs_ownl h
  | .sl i :: as, .own _ :: ss, δ, zs, h => by simp only [putArgs, put1] at h; exact putArgs_ownl h
  | .val _ :: as, _ :: ss, δ, zs, h => by simp only [putArgs, put1] at h; exact putArgs_ownl h
  | _ :: _, [], δ, zs, h => by simp only [putArgs, put1] at h; exact ⟨zs, h⟩
theorem putArgs_own {j : Nat} {zs : List PyData} : ∀ {as : List Ar} {ss : List Sl} {δ : DSt}, OwnC (putArgs δ as ss) j zs →
    (∃ xs, OwnC δ j xs) ∧ ((∃ k : Nat, as[k]? = some (.sl j) ∧ ss[k]? = some (.par zs)) ∨ (OwnC δ j zs ∧ ∀ (k : Nat) (ys : List PyData), as[k]? = some (.sl j) → ss[k]? ≠ some (.par ys)))
  | [], _, _, h => by simp only [putArgs, put1] at h; exact ⟨⟨_, h⟩, .inr ⟨h, fun k ys e => by simp at e⟩⟩
  | .sl i :: as, .par ys :: ss, δ, h => by
    simp only [putArgs, put1] at h
    obtain ⟨⟨xs, h1⟩, h2⟩ := putArgs_own h
    have g1 : ∃ xs, OwnC δ j xs := by
      rcases putC_own' h1 with ⟨e, _, q⟩ | ⟨_, q⟩
      · rw [e]; exact q
      · exact ⟨_, q⟩
    refine ⟨g1, ?_⟩
    rcases h2 with ⟨k, e1, e2⟩ | ⟨h2, no⟩
    · exact .inl ⟨k + 1, by simpa using e1, by simpa using e2⟩
    · rcases putC_own' h2 with ⟨e, e2, q⟩ | ⟨e, q⟩
      · subst e; subst e2
        exact .inl ⟨0, rfl, rfl⟩
      · refine .inr ⟨q, fun k ys' e1 => ?_⟩
        cases k with
        | zero =>
          simp at e1
          exact (e e1.symm).elim
        | succ k => simpa using no k ys' (by simpa using e1)
  | .sl i :: as, .val _ :: ss, δ, h => by
    simp only [putArgs, put1] at h
    obtain ⟨h1, h2⟩ := putArgs_own h
    refine ⟨h1, ?_⟩
    rcases h2 with ⟨k, e1, e2⟩ | ⟨h2, no⟩
    · exact .inl ⟨k + 1, by simpa using e1, by simpa using e2⟩
    · refine .inr ⟨h2, fun k ys' e1 => ?_⟩
      cases k with
      | zero => simp
      | succ k => simpa using no k ys' (by simpa using e1)
  | .sl i :: as, .own _ :: ss, δ, h => by
    simp only [putArgs, put1] at h
    obtain ⟨h1, h2⟩ := putArgs_own h
    refine ⟨h1, ?_⟩
    rcases h2 with ⟨k, e1, e2⟩ | ⟨h2, no⟩
    · exact .inl ⟨k + 1, by simpa using e1, by simpa using e2⟩
    · refine .inr ⟨h2, fun k ys' e1 => ?_⟩
      cases k with
      | zero => simp
      | succ k => simpa using no k ys' (by simpa using e1)
  | .val _ :: as, s :: ss, δ, h => by
    simp only [putArgs, put1] at h
    obtain ⟨h1, h2⟩ := putArgs_own h
    refine ⟨h1, ?_⟩
    rcases h2 with ⟨k, e1, e2⟩ | ⟨h2, no⟩
    · exact .inl ⟨k + 1, by simpa using e1, by simpa using e2⟩
    · refine .inr ⟨h2, fun k ys' e1 => ?_⟩
      cases k with
      | zero => simp at e1
      | succ k => simpa using no k ys' (by simpa using e1)
  | _ :: _, [], δ, h => by simp only [putArgs, put1] at h; exact ⟨⟨_, h⟩, .inr ⟨h, fun k ys e => by simp⟩⟩
section
variable {X : Cx} {K : PySem.W.Frag} {F H : Hp} {σ : L2.St} {δ : DSt}
theorem ArsRep.get : ∀ {vs : List V} {as : List Ar} {i : Nat} {a : Ar}, ArsRep K F σ vs as → as[i]? = some a → ∃ v, vs[i]? = some v ∧ ArRep K F σ v a
  | [], [], _, _, _, e => by simp at e
  | v :: vs, a :: as, 0, b, h, e => by simp at e; subst e; exact ⟨v, rfl, h.1⟩
  | v :: vs, a :: as, i + 1, b, h, e => by
    obtain ⟨u, h1, h2⟩ := ArsRep.get (i := i) h.2 (by simpa using e)
    exact ⟨u, by simpa using h1, h2⟩
  | [], _ :: _, _, _, h, _ => h.elim
  | _ :: _, [], _, _, h, _ => h.elim
theorem ArsRep.length : ∀ {vs : List V} {as : List Ar}, ArsRep K F σ vs as → vs.length = as.length
  | [], [], _ => rfl
  | v :: vs, a :: as, h => congrArg (· + 1) (ArsRep.length h.2)
  | [], _ :: _, h => h.elim
  | _ :: _, [], h => h.elim
/-- what stands at place i of the arguments -/
theorem sls_at {vs : List V} {as : List Ar} {sls : List Sl} (r : ArsRep K F σ vs as) (e : slsOf δ as = some sls) {i : Nat} {s : Sl} (h : sls[i]? = some s) : ∃ a v, as[i]? = some a ∧ vs[i]? = some v ∧ ArRep K F σ v a ∧ slOf δ a = some s := by
  obtain ⟨l, g⟩ := slsOf_get e
  have hi : i < as.length := by rw [← l]; exact (List.getElem?_eq_some_iff.mp h).1
  obtain ⟨s', e1, e2⟩ := g i as[i] (List.getElem?_eq_getElem hi)
  rw [h] at e1
  cases e1
  obtain ⟨v, h1, h2⟩ := r.get (List.getElem?_eq_getElem hi)
  exact ⟨_, v, List.getElem?_eq_getElem hi, h1, h2, e2⟩
theorem slOf_par {a : Ar} {xs : List PyData} (h : slOf δ a = some (.par xs)) : ∃ j, a = .sl j ∧ cont δ j = some xs := by
  cases a with
  | val d => cases h
  | sl j =>
    refine ⟨j, rfl, ?_⟩
    have h : (cont δ j).map Sl.par = some (.par xs) := h
    cases q : cont δ j with
    | none => rw [q] at h; cases h
    | some ys => rw [q] at h; cases h; rfl
theorem RepS.args (R : RepS K F σ δ H) {vs : List V} {as : List Ar} {sls : List Sl} (r : ArsRep K F σ vs as) (e : slsOf δ as = some sls) (nd : (slots as).Nodup) : ArgRep K F H vs sls := by
  refine ⟨by rw [r.length, (slsOf_get e).1], R.sub, fun i d h => ?_, fun i xs h => ?_, fun i xs h => ?_, fun i j xs ys l ne h1 h2 h3 h4 => ?_⟩
  · obtain ⟨a, v, e1, e2, e3, e4⟩ := sls_at r e h
    cases a with
    | val d' => cases e4; exact ⟨v, e2, e3⟩
    | sl j =>
      have e4 : (cont δ j).map Sl.par = some (.val d) := e4
      cases q : cont δ j with
      | none => rw [q] at e4; cases e4
      | some ys => rw [q] at e4; cases e4
  · obtain ⟨a, v, e1, e2, e3, e4⟩ := sls_at r e h
    obtain ⟨j, rfl, hc⟩ := slOf_par e4
    obtain ⟨l, us, f1, f2, f3, f4⟩ := R.own j xs (cont_own hc)
    have e3 : σ[j]? = some (some v) := e3
    rw [f1] at e3
    cases e3
    exact ⟨l, us, e2, f2, f3, f4⟩
  · obtain ⟨a, v, e1, e2, e3, e4⟩ := sls_at r e h
    cases a with
    | val d' => cases e4
    | sl j =>
      have e4 : (cont δ j).map Sl.par = some (.own xs) := e4
      cases q : cont δ j with
      | none => rw [q] at e4; cases e4
      | some ys => rw [q] at e4; cases e4
  · obtain ⟨a, v, e1, e2, e3, e4⟩ := sls_at r e h1
    obtain ⟨b, w, f1, f2, f3, f4⟩ := sls_at r e h2
    obtain ⟨m, rfl, hc⟩ := slOf_par e4
    obtain ⟨n, rfl, hd⟩ := slOf_par f4
    rw [h3] at e2
    cases e2
    rw [h4] at f2
    cases f2
    have mn : m ≠ n := fun z => by
      subst z
      exact ne (slots_inj nd e1 f1)
    exact R.sep m n xs ys l mn (cont_own hc) (cont_own hd) e3 f3
theorem FinRep.back {vs : List V} {as : List Ar} {sls sls' : List Sl} {F' H' : Hp} {v : V} {r : Sl} (R : RepS K F σ δ H) (ra : ArsRep K F σ vs as) (e : slsOf δ as = some sls) (fin : FinRep K F H vs sls F' H' v r sls') :
    RepS K F' σ (putArgs δ as sls') H' ∧ Stp σ δ F H σ (putArgs δ as sls') F' H' := by
  have ownA : ∀ l, OwnA σ (putArgs δ as sls') l → OwnA σ δ l := fun l ⟨j, zs, h1, h2⟩ => by
    obtain ⟨⟨xs, h⟩, _⟩ := putArgs_own h1
    exact ⟨j, xs, h, h2⟩
  refine ⟨⟨by rw [putArgs_len]; exact R.len, fin.sub, fun i d h => ?_, fun j zs h => ?_, fun i j xs ys l ne h1 h2 => ?_⟩, ⟨fin.ext, fun b o h => ?_, fun b o h no => ?_, fin.dom, fun l h => .inl (ownA l h), fun i xs h => ⟨putArgs_par h, rfl⟩, fun l ⟨j, zs, h1, h2⟩ => ?_⟩⟩
  · obtain ⟨u, h1, h2⟩ := R.val i d (putArgs_val h)
    exact ⟨u, h1, Dp.mono fin.ext _ _ h2⟩
  · obtain ⟨⟨xs, h0⟩, h1⟩ := putArgs_own h
    rcases h1 with ⟨k, e1, e2⟩ | ⟨h1, no⟩
    · obtain ⟨s, g1, g2⟩ := (slsOf_get e).2 k _ e1
      have g2 : (cont δ j).map Sl.par = some s := g2
      cases q : cont δ j with
      | none => rw [q] at g2; cases g2
      | some ys =>
        rw [q] at g2
        cases g2
        obtain ⟨zs', l, us, f1, f2, f3, f4, f5⟩ := fin.par k ys g1
        rw [e2] at f1
        cases f1
        obtain ⟨u, k1, k2⟩ := ra.get e1
        rw [f2] at k1
        cases k1
        exact ⟨l, us, k2, f3, f4, f5⟩
    · obtain ⟨l, us, f1, f2, f3, f4⟩ := R.own j zs h1
      refine ⟨l, us, f1, ?_, fin.frm l _ f3 fun i ys hi hv => ?_, Dp.monoAll fin.ext _ _ f4⟩
      · cases qF : F' l with
        | none => rfl
        | some o =>
          rcases fin.new l o qF with z | z
          · rw [f2] at z; cases z
          · rw [f3] at z; cases z
      · obtain ⟨a, u, g1, g2, g3, g4⟩ := sls_at ra e hi
        obtain ⟨m, rfl, hc⟩ := slOf_par g4
        rw [hv] at g2
        cases g2
        by_cases mj : m = j
        · subst mj
          obtain ⟨ys', _, _, f, _⟩ := fin.par i ys hi
          exact no i ys' g1 f
        · exact R.sep m j ys zs l mj (cont_own hc) h1 g3 f1
  · obtain ⟨⟨x1, g1⟩, _⟩ := putArgs_own h1
    obtain ⟨⟨x2, g2⟩, _⟩ := putArgs_own h2
    exact R.sep i j x1 x2 l ne g1 g2
  · rcases fin.new b o h with z | z
    · exact .inl z
    · exact .inr (.inl z)
  · refine fin.frm b o h fun i xs hi hv => ?_
    obtain ⟨a, u, g1, g2, g3, g4⟩ := sls_at ra e hi
    obtain ⟨m, rfl, hc⟩ := slOf_par g4
    rw [hv] at g2
    cases g2
    exact no ⟨m, xs, cont_own hc, g3⟩
  · obtain ⟨xs, h⟩ := putArgs_ownl h1
    exact .inl ⟨j, xs, h, h2⟩

def dCall (d : DSp) (f : DTA) : DTE := fun δ C => f δ fun as δ1 => match slsOf δ1 as with
  | some sls => (slots as).Nodup ∧ d sls fun r sls' => match r with
    | .val x => C (.val x) (putArgs δ1 as sls')
    | .own xs => C (.val (.list xs)) (putArgs δ1 as sls')
    | .par _ => False
  | none => False
def dCallN (d : DSp) (f : DTA) : DSt → (List PyData → DSt → Prop) → Prop := fun δ C => f δ fun as δ1 => match slsOf δ1 as with
  | some sls => (slots as).Nodup ∧ d sls fun r sls' => match r with
    | .own xs => C xs (putArgs δ1 as sls')
    | _ => False
  | none => False
theorem call_read {d : DSp} {vs : List V} {as : List Ar} {sls : List Sl} {C : Sl → List Sl → Prop} {Q : VK} {E : XK} (R : RepS K F σ δ H) (ra : ArsRep K F σ vs as) (e : slsOf δ as = some sls) (nd : (slots as).Nodup) (c : d sls C)
    (k : ∀ r sls' F' H' v, RepS K F' σ (putArgs δ as sls') H' → Stp σ δ F H σ (putArgs δ as sls') F' H' → FinRep K F H vs sls F' H' v r sls' → C r sls' → Q v H') : lift K d vs H Q E := by
  refine ⟨F, sls, C, R.args ra e nd, c, fun r sls' F' H' v fin cc => ?_⟩
  obtain ⟨R2, s2⟩ := fin.back R ra e
  exact k r sls' F' H' v R2 s2 fin cc
/-- an owned list that came out of a call stands apart -/
theorem FinRep.own {vs : List V} {as : List Ar} {sls sls' : List Sl} {F' H' : Hp} {v : V} {xs : List PyData} (R : RepS K F σ δ H) (fin : FinRep K F H vs sls F' H' v (.own xs) sls') :
    ∃ l us, v = .ref l ∧ F' l = none ∧ H l = none ∧ ¬ OwnA σ (putArgs δ as sls') l ∧ H' l = some (.lst us) ∧ DpAll K F' us xs := by
  obtain ⟨l, us, h1, h2, h3, h4, h5⟩ := fin.res
  refine ⟨l, us, h1, h2, h3, fun ⟨j, zs, q1, q2⟩ => ?_, h4, h5⟩
  obtain ⟨⟨ys, q⟩, _⟩ := putArgs_own q1
  obtain ⟨l', us', f1, _, f3, _⟩ := R.own j ys q
  rw [q2] at f1
  cases f1
  rw [h3] at f3
  cases f3
variable {f : Addr} {fd : FuncData} {ps : List Str} {k : Nat} {CX : CXT} {E : XK} {x : Str} {p pos : Pos} {e : Expr} {es : List Expr} {d : DSp} {g : DTA}
theorem callCore {ta : TA} (q : ∀ {F : Hp} {σ : L2.St} {δ : DSt} {H : Hp} {Q : List V → Hp → Prop} {C : List Ar → DSt → Prop}, RepS X.K F σ δ H → g δ C →
    (∀ as δ' F' H' vs, RepS X.K F' σ δ' H' → Stp σ δ F H σ δ' F' H' → ArsRep X.K F' σ vs as → C as δ' → Q vs H') → ta σ H Q) {F : Hp} {σ : L2.St} {δ : DSt} {H : Hp} {Q : VK} {C : Ar → DSt → Prop} (R : RepS X.K F σ δ H) (c : dCall d g δ C)
    (k : ∀ a δ' F' H' v, RepS X.K F' σ δ' H' → Stp σ δ F H σ δ' F' H' → ArRep X.K F' σ v a → C a δ' → Q v H') : tCall (lift X.K d) [] E ta σ H Q := by
  refine q R c fun as δ1 F1 H1 vs R1 s1 r1 c1 => ?_
  rw [List.append_nil]
  split at c1
  · rename_i sls hs
    refine call_read R1 r1 hs c1.1 c1.2 fun r sls' F' H' v R2 s2 fin cc => ?_
    cases r with
    | val x => exact k (.val x) _ _ _ _ R2 (s1.trans s2) fin.res cc
    | own xs =>
      obtain ⟨l, us, rfl, h2, h3, h4, h5, h6⟩ := fin.own (as := as) R1
      obtain ⟨R3, sF, hD⟩ := R2.freezeNew h2 h4 h5 h6
      have s12 := s1.trans s2
      refine k (.val (.list xs)) _ _ _ _ R3 ⟨s12.ext.trans sF, fun b o eb => ?_, s12.frm, s12.dom, s12.own, s12.par, s12.ownl⟩ hD cc
      by_cases hb : b = l
      · subst hb; exact .inr (.inl (s1.dom _ h3))
      · rw [upd_ne hb] at eb; exact s12.new b o eb
    | par _ => exact cc.elim
  · exact c1.elim
theorem callCoreN {ta : TA} (q : ∀ {F : Hp} {σ : L2.St} {δ : DSt} {H : Hp} {Q : List V → Hp → Prop} {C : List Ar → DSt → Prop}, RepS X.K F σ δ H → g δ C →
    (∀ as δ' F' H' vs, RepS X.K F' σ δ' H' → Stp σ δ F H σ δ' F' H' → ArsRep X.K F' σ vs as → C as δ' → Q vs H') → ta σ H Q) {F : Hp} {σ : L2.St} {δ : DSt} {H : Hp} {Q : VK} {C : List PyData → DSt → Prop} (R : RepS X.K F σ δ H) (c : dCallN d g δ C)
    (k : ∀ xs δ' F' H' l us, RepS X.K F' σ δ' H' → Stp σ δ F H σ δ' F' H' → F' l = none → H l = none → ¬ OwnA σ δ' l → H' l = some (.lst us) → DpAll X.K F' us xs → C xs δ' → Q (.ref l) H') : tCall (lift X.K d) [] E ta σ H Q := by
  refine q R c fun as δ1 F1 H1 vs R1 s1 r1 c1 => ?_
  rw [List.append_nil]
  split at c1
  · rename_i sls hs
    refine call_read R1 r1 hs c1.1 c1.2 fun r sls' F' H' v R2 s2 fin cc => ?_
    cases r with
    | val x => exact cc.elim
    | own xs =>
      obtain ⟨l, us, rfl, h2, h3, h4, h5, h6⟩ := fin.own (as := as) R1
      exact k xs _ _ _ l us R2 (s1.trans s2) h2 (s1.dom _ h3) h4 h5 h6 cc
    | par _ => exact cc.elim
  · exact c1.elim
theorem pd_call (G : FnOk X.prog X.w X.K X.mg X.base CX k f fd ps (lift X.K d)) (hr : Room k X.A) (hg : Gl X x) (hm : X.mg x = some (.ref f)) (hk : PySem.W.keepIn X.K (.ref f) = true) (hb : Binds X.K fd ps []) (hx : Passes CX X E)
    (ha : PDA X (e :: es) g) (hdb : (x == ("__debug__" : Str)) = false := by decide) (he : starEach (e :: es) X.env = (false, eval e X.env) :: starEach es X.env := by rfl) (hpl : (backTo pos (starEach es X.env)).any (·.1) = false := by rfl) :
    PD X (.Call (.Name x p) (e :: es) [] pos) (dCall d g) := by
  obtain ⟨ta, pa, q⟩ := ha
  exact ⟨_, pe_call G hr hg hm hk hb .nil hx pa hdb he hpl, fun R c k => callCore q R c k⟩
theorem pdn_call (G : FnOk X.prog X.w X.K X.mg X.base CX k f fd ps (lift X.K d)) (hr : Room k X.A) (hg : Gl X x) (hm : X.mg x = some (.ref f)) (hk : PySem.W.keepIn X.K (.ref f) = true) (hb : Binds X.K fd ps []) (hx : Passes CX X E)
    (ha : PDA X (e :: es) g) (hdb : (x == ("__debug__" : Str)) = false := by decide) (he : starEach (e :: es) X.env = (false, eval e X.env) :: starEach es X.env := by rfl) (hpl : (backTo pos (starEach es X.env)).any (·.1) = false := by rfl) :
    PDN X (.Call (.Name x p) (e :: es) [] pos) (dCallN d g) := by
  obtain ⟨ta, pa, q⟩ := ha
  exact ⟨_, pe_call G hr hg hm hk hb .nil hx pa hdb he hpl, fun R c k => callCoreN q R c k⟩
theorem pd_call0 (G : FnOk X.prog X.w X.K X.mg X.base CX k f fd ps (lift X.K d)) (hr : Room k X.A) (hg : Gl X x) (hm : X.mg x = some (.ref f)) (hk : PySem.W.keepIn X.K (.ref f) = true) (hb : Binds X.K fd ps []) (hx : Passes CX X E)
    (hdb : (x == ("__debug__" : Str)) = false := by decide) : PD X (.Call (.Name x p) [] [] pos) (dCall d dNil) := by
  obtain ⟨ta, pa, q⟩ := pda_nil (X := X)
  exact ⟨_, pe_call0 G hr hg hm hk hb .nil hx hdb, fun {F σ δ H Q C} R c k => callCore (ta := tNil) (g := dNil) (fun R c k => k [] _ _ _ _ R .refl trivial c) R c k⟩
theorem pdn_call0 (G : FnOk X.prog X.w X.K X.mg X.base CX k f fd ps (lift X.K d)) (hr : Room k X.A) (hg : Gl X x) (hm : X.mg x = some (.ref f)) (hk : PySem.W.keepIn X.K (.ref f) = true) (hb : Binds X.K fd ps []) (hx : Passes CX X E)
    (hdb : (x == ("__debug__" : Str)) = false := by decide) : PDN X (.Call (.Name x p) [] [] pos) (dCallN d dNil) := by
  obtain ⟨ta, pa, q⟩ := pda_nil (X := X)
  exact ⟨_, pe_call0 G hr hg hm hk hb .nil hx hdb, fun {F σ δ H Q C} R c k => callCoreN (ta := tNil) (g := dNil) (fun R c k => k [] _ _ _ _ R .refl trivial c) R c k⟩
/-! ### calls by the parameters' names alone, in their order -/
structure PDK (X : Cx) (kws : List Keyword) (f : DTA) : Prop where
  ex : ∃ ta, PK X kws ta ∧ ∀ {F : Hp} {σ : L2.St} {δ : DSt} {H : Hp} {Q : List V → Hp → Prop} {C : List Ar → DSt → Prop}, RepS X.K F σ δ H → f δ C →
    (∀ as δ' F' H' vs, RepS X.K F' σ δ' H' → Stp σ δ F H σ δ' F' H' → ArsRep X.K F' σ vs as → C as δ' → Q vs H') → ta σ H Q
theorem pdk_nil : PDK X [] dNil := ⟨_, pk_nil, fun R c k => k [] _ _ _ _ R .refl trivial c⟩
theorem pdk_cons {e : Expr} {kws : List Keyword} {nm : Option Str} {kpos : Pos} {f : DTE} {g : DTA} (h1 : PD X e f) (h2 : PDK X kws g) : PDK X (⟨nm, e, kpos⟩ :: kws) (dCons f g) := by
  obtain ⟨te, p1, q1⟩ := h1
  obtain ⟨ta, p2, q2⟩ := h2
  refine ⟨_, pk_cons p1 p2, fun R c k => ?_⟩
  refine q1 R c fun a δ1 F1 H1 v R1 s1 r1 c1 => ?_
  refine q2 R1 c1 fun as δ2 F2 H2 vs R2 s2 r2 c2 => ?_
  exact k (a :: as) _ _ _ _ R2 (s1.trans s2) ⟨r1.mono s2.ext, r2⟩ c2
theorem pd_callK {kws : List Keyword} (G : FnOk X.prog X.w X.K X.mg X.base CX k f fd ps (lift X.K d)) (hr : Room k X.A) (hg : Gl X x) (hm : X.mg x = some (.ref f)) (hk : PySem.W.keepIn X.K (.ref f) = true)
    (hb : ∀ (s : Shared) (us : List Value), X.K.In s.heap → us.length = ps.length → BindsTo s fd ⟨[], ps.zip us⟩ (ps.zip us)) (hx : Passes CX X E) (hkw : PDK X kws g)
    (hall : (backToKw pos (keywordEach kws X.env)).all (·.1.isSome) = true := by rfl) (hks : (backToKw pos (keywordEach kws X.env)).filterMap (·.1) = ps := by rfl) (hdb : (x == ("__debug__" : Str)) = false := by decide)
    (hpl : ((backTo pos (starEach [] X.env)).any (·.1) || (backToKw pos (keywordEach kws X.env)).any (·.1.isNone)) = false := by rfl) :
    PD X (.Call (.Name x p) [] kws pos) (dCall d g) := by
  obtain ⟨ta, pa, q⟩ := hkw
  refine ⟨tCall (lift X.K d) [] E ta, ⟨fun pins s σ H Q I h => ?_⟩, fun R c k => callCore q R c k⟩
  refine wpAny_Call_Name_kw (ld_glob I hg hm ?_ hdb)
  refine PySem.W.callWith_KW0 (h₀ := X.base) I.ok.mod.kin hk hall ?_ hpl
  refine thn (pa.run pos pins s σ H _ I h) fun us s2 ⟨zs, H2, I2, rz, q2⟩ => ⟨I2.kIn, ?_⟩
  rw [hks]
  have q2 : lift X.K d (zs ++ []) H2 Q E := q2
  rw [List.append_nil] at q2
  have hl : us.length = ps.length := by rw [← rz.length]; exact G.len _ _ _ _ q2
  refine wpAny_call (codeAny_mono (G.run X.A X.stack s2 H2 ⟨[], ps.zip us⟩ us zs Q E hr I2.env0 (hb s2 us I2.kIn hl) rz q2) fun r s' hq => ?_)
  cases r with
  | error e => exact hx pins σ H2 s2 e s' I2 hq
  | ok fl =>
    cases fl with
    | ret u => exact I2.after hq
    | _ => exact False.elim hq
end
end DD

namespace DD
open PySem PySem.Spec PyProof.Rows L2
/-- the def x stands in the module and keeps its promise -/
structure Ok (P : Program) (w : World) (K : PySem.W.Frag) (mg : Str → Option Value) (base : Heap) (x : Str) (k : Nat) (ps : List Str) (d : DSp) : Prop where
  ex : ∃ (f : Addr) (fd : FuncData), mg x = some (.ref f) ∧ PySem.W.keepIn K (.ref f) = true ∧ Binds K fd ps [] ∧ FnOk P w K mg base CX0 k f fd ps (lift K d)
structure OkK (P : Program) (w : World) (K : PySem.W.Frag) (mg : Str → Option Value) (base : Heap) (x : Str) (k : Nat) (ps : List Str) (d : DSp) : Prop where
  ex : ∃ (f : Addr) (fd : FuncData), mg x = some (.ref f) ∧ PySem.W.keepIn K (.ref f) = true ∧ (∀ (s : Shared) (us : List Value), K.In s.heap → us.length = ps.length → BindsTo s fd ⟨[], ps.zip us⟩ (ps.zip us)) ∧ FnOk P w K mg base CX0 k f fd ps (lift K d)
/-- a def of the text, by name -/
structure DefAt (K : PySem.W.Frag) (mg : Str → Option Value) (x : Str) (st : Stmt) : Prop where
  ex : ∃ (f : Addr) (fd : FuncData), mg x = some (.ref f) ∧ Fun K x x st f fd
section
variable {X : Cx} {ps : List Str} {k m : Nat} {x : Str} {p pos : Pos} {e : Expr} {es : List Expr} {d : DSp} {g : DTA}
theorem pc_ok (G : Ok X.prog X.w X.K X.mg X.base x k ps d) (hr : Room m X.A) (hg : Gl X x) (hkm : k ≤ m)
    (ha : PDA X (e :: es) g) (hdb : (x == ("__debug__" : Str)) = false := by decide) (he : starEach (e :: es) X.env = (false, eval e X.env) :: starEach es X.env := by rfl) (hpl : (backTo pos (starEach es X.env)).any (·.1) = false := by rfl) :
    PD X (.Call (.Name x p) (e :: es) [] pos) (dCall d g) := by
  obtain ⟨f, fd, hm, hk, hb, G⟩ := G
  exact pd_call (E := E0) G (hr.mono hkm) hg hm hk hb pass0 ha hdb he hpl
theorem pcn_ok (G : Ok X.prog X.w X.K X.mg X.base x k ps d) (hr : Room m X.A) (hg : Gl X x) (hkm : k ≤ m)
    (ha : PDA X (e :: es) g) (hdb : (x == ("__debug__" : Str)) = false := by decide) (he : starEach (e :: es) X.env = (false, eval e X.env) :: starEach es X.env := by rfl) (hpl : (backTo pos (starEach es X.env)).any (·.1) = false := by rfl) :
    PDN X (.Call (.Name x p) (e :: es) [] pos) (dCallN d g) := by
  obtain ⟨f, fd, hm, hk, hb, G⟩ := G
  exact pdn_call (E := E0) G (hr.mono hkm) hg hm hk hb pass0 ha hdb he hpl
theorem pc_ok0 (G : Ok X.prog X.w X.K X.mg X.base x k ps d) (hr : Room m X.A) (hg : Gl X x) (hkm : k ≤ m) (hdb : (x == ("__debug__" : Str)) = false := by decide) : PD X (.Call (.Name x p) [] [] pos) (dCall d dNil) := by
  obtain ⟨f, fd, hm, hk, hb, G⟩ := G
  exact pd_call0 (E := E0) G (hr.mono hkm) hg hm hk hb pass0 hdb
theorem pcn_ok0 (G : Ok X.prog X.w X.K X.mg X.base x k ps d) (hr : Room m X.A) (hg : Gl X x) (hkm : k ≤ m) (hdb : (x == ("__debug__" : Str)) = false := by decide) : PDN X (.Call (.Name x p) [] [] pos) (dCallN d dNil) := by
  obtain ⟨f, fd, hm, hk, hb, G⟩ := G
  exact pdn_call0 (E := E0) G (hr.mono hkm) hg hm hk hb pass0 hdb
theorem pck_ok {kws : List Keyword} (G : OkK X.prog X.w X.K X.mg X.base x k ps d) (hr : Room m X.A) (hg : Gl X x) (hkm : k ≤ m) (hkw : PDK X kws g)
    (hall : (backToKw pos (keywordEach kws X.env)).all (·.1.isSome) = true := by rfl) (hks : (backToKw pos (keywordEach kws X.env)).filterMap (·.1) = ps := by rfl) (hdb : (x == ("__debug__" : Str)) = false := by decide)
    (hpl : ((backTo pos (starEach [] X.env)).any (·.1) || (backToKw pos (keywordEach kws X.env)).any (·.1.isNone)) = false := by rfl) :
    PD X (.Call (.Name x p) [] kws pos) (dCall d g) := by
  obtain ⟨f, fd, hm, hk, hb, G⟩ := G
  exact pd_callK (E := E0) G (hr.mono hkm) hg hm hk hb pass0 hkw hall hks hdb hpl
end
section
variable {P : Program} {w : World} {K : PySem.W.Frag} {mg : Str → Option Value} {base : Heap}
theorem ok_mk {x : Str} {st : Stmt} {N ps : List Str} {k : Nat} {d : DSp} {g : DTS} (D : DefAt K mg x st) (S : FnScope N ps (defScope st)) (len : ∀ sls C, d sls C → sls.length = ps.length)
    (hb : ∀ (kV doc pm : Value) (an : Option Addr) (cdv ct : Value) (us : List Value), us.length = ps.length → bindArgs (PySem.W.fnOf x x (defArgs st) (defBody st) (defScope st) .none kV doc pm an cdv ct) ⟨us, []⟩ = pure (ps.zip us))
    (hbody : ∀ (f : Addr) (cdv : Value) (A : Around) (outer : List Env) (s : Shared) (H : Hp) (E : XK), Room k (A.deeper (envOfC x (defScope st) s.heap.objs.size f cdv)) → SDs (cxOf CX0 P w K mg base N x (defScope st) f cdv A outer s H E).nox (defBody st) g)
    (law : ∀ sls C, d sls C → g (endsD sls.length C) (startD N sls)) : Ok P w K mg base x (k + 1) ps d := by
  obtain ⟨f, fd, hm, F⟩ := D
  exact ⟨f, fd, hm, F.kp, F.binds hb, fn_dd F S len (hbody f) law⟩
theorem okk_mk {x : Str} {st : Stmt} {N ps : List Str} {k : Nat} {d : DSp} {g : DTS} (D : DefAt K mg x st) (S : FnScope N ps (defScope st)) (len : ∀ sls C, d sls C → sls.length = ps.length)
    (hb : ∀ (kV doc pm : Value) (an : Option Addr) (cdv ct : Value) (us : List Value), us.length = ps.length → bindArgs (PySem.W.fnOf x x (defArgs st) (defBody st) (defScope st) .none kV doc pm an cdv ct) ⟨[], ps.zip us⟩ = pure (ps.zip us))
    (hbody : ∀ (f : Addr) (cdv : Value) (A : Around) (outer : List Env) (s : Shared) (H : Hp) (E : XK), Room k (A.deeper (envOfC x (defScope st) s.heap.objs.size f cdv)) → SDs (cxOf CX0 P w K mg base N x (defScope st) f cdv A outer s H E).nox (defBody st) g)
    (law : ∀ sls C, d sls C → g (endsD sls.length C) (startD N sls)) : OkK P w K mg base x (k + 1) ps d := by
  obtain ⟨f, fd, hm, F⟩ := D
  have G := fn_dd F S len (hbody f) law
  obtain ⟨oc, od, kV, doc, pm, an, cdv, ct, osl, rfl, lk, hcd⟩ := F.ex
  exact ⟨f, _, hm, F.kp, fun s us _ hl => .of_eq (hb kV doc pm an cdv ct us hl), G⟩
/-- the goal that k_head leaves, from the law's promise; what is known of loose names is handed on -/
theorem walk_X {l : PySem.W.OpenLaw} {n k : Nat} {q : Program} {loose : List Str} {XP : (Str → Option Value) → Heap → Prop} {YP : World → Heap → Prop} {d : DefRec} {K : Params → PySem.W.Frag} {sp : DSp} {x : Str}
    (hn : l.most = some n) (hn2 : n ≤ sizeLine) (hdf : d.params.defaults = []) (hr : Room k callerA)
    (hY : ∀ (w : World) (h : Heap), YP w h → (K w.params).In h)
    (F : ∀ (w : World) (mg : Str → Option Value) (fa : Addr) (h : Heap), (K w.params).In h → h.Ns mainGlobals mg → XP mg h → mg d.name = some (.ref fa) →
      ∃ fd : FuncData, (∀ (s : Shared) (u : Value), BindsTo s fd ⟨[u], []⟩ [(x, u)]) ∧
        ∀ base : Heap, (K w.params).In base → base.Ns mainGlobals mg → FnOk l.prog w (K w.params) mg base CX0 k fa fd [x] (lift (K w.params) sp))
    (hsp : ∀ ns : List Int, ns.length ≤ n → sp [.val (.list (ns.map PyData.int))] fun r _ => r = .val (.bool true)) :
    PySem.W.WalkO q loose XP YP l.row.toRowW d [] (fun f vs => PySem.call f vs) := by
  refine Att.attach_call hn hdf fun w s0 s1 mg mb fa o pm cd doc a vs ns G Y ho hd hcd hmg hobj hints hlen hg => ?_
  have KX := hY w _ Y
  obtain ⟨fd, hb, hF⟩ := F w mg fa _ KX G.T.g G.X hmg
  refine law_call KX G.T.g G.T.b G.T.builtins G.T.nolimit hg hobj hints (Nat.le_trans hlen hn2) hr hF hb (fun H hO hS => ?_) fun _ _ _ h => h.elim
  refine ⟨H, _, _, ⟨rfl, Same.refl _, fun i y e => ?_, fun i xs e => ?_, fun i xs e => ?_, fun i j xs ys l _ e => ?_⟩, hsp ns hlen, fun r sls' F' H' v fin e => ?_⟩
  · cases i with
    | zero => cases e; exact ⟨_, rfl, .lst hS (DpAll.ints ns)⟩
    | succ i => simp at e
  · cases i with
    | zero => cases e
    | succ i => simp at e
  · cases i with
    | zero => cases e
    | succ i => simp at e
  · cases i with
    | zero => cases e
    | succ i => simp at e
  · subst e
    cases fin.res
    rfl
end
end DD

namespace DD
open PySem PySem.Spec PyProof.Rows L2
/-! ### how a body is read -/
/-- one statement, what follows held back -/
theorem seq_one {g h : DTS} {D : DEnds} {δ : DSt} (k : ∀ N : DSt → Prop, (∀ δ', h D δ' → N δ') → g { D with nx := N } δ) : dSeq g h D δ := k (h D) fun _ x => x
/-- one statement, then P -/
theorem seq_cut {g h : DTS} {D : DEnds} {δ : DSt} (P : DSt → Prop) (k : ∀ N : DSt → Prop, (∀ δ', P δ' → N δ') → g { D with nx := N } δ) (tail : ∀ δ', P δ' → h D δ') : dSeq g h D δ := k (h D) tail
theorem forL_inv {g : DTG} {b : DTS} {D : DEnds} (P : List PyData → DSt → Prop)
    (step : ∀ d ds δ, P (d :: ds) δ → ∀ N : DSt → Prop, (∀ δ', P ds δ' → N δ') → g d δ fun δ1 => b { nx := N, ct := N, bk := D.nx, rt := D.rt } δ1)
    (fin : ∀ δ, P [] δ → D.nx δ) : ∀ its δ, P its δ → dForL g b its D δ
  | [], δ, h => fin δ h
  | d :: ds, δ, h => step d ds δ h _ fun δ' h' => forL_inv P step fin ds δ' h'
theorem rangeD_at {lo : Int} {n k : Nat} (h : k < (rangeD lo n).length) : (rangeD lo n)[k] = .int (lo + (k : Nat)) := by
  have e : (rangeD lo n)[k]? = some (.int (lo + (k : Nat))) := by
    have hk : k < n := by
      have := h
      unfold rangeD at this
      simpa using this
    unfold rangeD
    rw [List.getElem?_map, List.getElem?_range hk]
    rfl
  rw [List.getElem?_eq_getElem h] at e
  exact Option.some.inj e
/-- over the ints from lo on, n of them; P by the number of turns that are done -/
theorem forR_inv {g : DTG} {b : DTS} {D : DEnds} (lo : Int) (n : Nat) (P : Nat → DSt → Prop)
    (step : ∀ (k : Nat) δ, k < n → P k δ → ∀ N : DSt → Prop, (∀ δ', P (k + 1) δ' → N δ') → g (.int (lo + (k : Nat))) δ fun δ1 => b { nx := N, ct := N, bk := D.nx, rt := D.rt } δ1)
    (fin : ∀ δ, P n δ → D.nx δ) {δ : DSt} (h : P 0 δ) : dForL g b (rangeD lo n) D δ := by
  have key : ∀ m k δ, k + m = n → P k δ → dForL g b ((rangeD lo n).drop k) D δ := by
    intro m
    induction m with
    | zero =>
      intro k δ e h
      have : (rangeD lo n).length ≤ k := by unfold rangeD; simp; omega
      rw [List.drop_eq_nil_of_le this]
      have e : k = n := by omega
      subst e
      exact fin δ h
    | succ m ih =>
      intro k δ e h
      have hk : k < n := by omega
      have hl : k < (rangeD lo n).length := by unfold rangeD; simp; exact hk
      rw [List.drop_eq_getElem_cons hl]
      have e2 : (rangeD lo n)[k] = .int (lo + (k : Nat)) := rangeD_at hl
      rw [e2]
      exact step k δ hk h _ fun δ' h' => ih (k + 1) δ' (by omega) h'
  have := key n 0 δ (by omega) h
  rw [List.drop_zero] at this
  exact this
theorem while_inv {c : DTT} {b : DTS} {D : DEnds} (P : Nat → DSt → Prop)
    (step : ∀ n δ, P n δ → ∀ N : DSt → Prop, (∀ m δ', m < n → P m δ' → N δ') → c δ fun t δ1 => (t = true → b { nx := N, ct := N, bk := D.nx, rt := D.rt } δ1) ∧ (t = false → D.nx δ1))
    {n : Nat} {δ : DSt} (h : P n δ) : dWhile c b D δ := by
  have key : ∀ f n δ, n + 1 ≤ f → P n δ → dWhileN c b f D δ := by
    intro f
    induction f with
    | zero => intro n δ e _; omega
    | succ f ih => intro n δ e h; exact step n δ h _ fun m δ' hm h' => ih m δ' (by omega) h'
  exact ⟨n + 1, key _ n δ (Nat.le_refl _) h⟩
theorem lcL_inv {g : DTG} {tt : DTT} {te : DTE} {vs : List Nat} {C : List PyData → DSt → Prop} (P : List PyData → List PyData → DSt → Prop)
    (step : ∀ d ds acc δ, P (d :: ds) acc δ → ∀ N : List PyData → DSt → Prop, (∀ acc' δ', P ds acc' δ' → N acc' δ') → g d (wipeD δ vs) fun δ2 => tt δ2 fun b δ3 => (b = true → te δ3 fun a δ4 => match a with
      | .val y => acc.length < sizeLine ∧ noOwnB δ4 vs = true ∧ N (acc ++ [y]) (restD δ δ4 vs)
      | _ => False) ∧ (b = false → noOwnB δ3 vs = true ∧ N acc (restD δ δ3 vs)))
    (fin : ∀ acc δ, P [] acc δ → C acc δ) : ∀ its acc δ, P its acc δ → dLcL g tt te vs its acc δ C
  | [], acc, δ, h => fin acc δ h
  | d :: ds, acc, δ, h => step d ds acc δ h (fun acc' δ' => dLcL g tt te vs ds acc' δ' C) fun acc' δ' h' => lcL_inv P step fin ds acc' δ' h'
theorem lcR_inv {g : DTG} {tt : DTT} {te : DTE} {vs : List Nat} {C : List PyData → DSt → Prop} (lo : Int) (n : Nat) (P : Nat → List PyData → DSt → Prop)
    (step : ∀ (k : Nat) acc δ, k < n → P k acc δ → ∀ N : List PyData → DSt → Prop, (∀ acc' δ', P (k + 1) acc' δ' → N acc' δ') → g (.int (lo + (k : Nat))) (wipeD δ vs) fun δ2 => tt δ2 fun b δ3 => (b = true → te δ3 fun a δ4 => match a with
      | .val y => acc.length < sizeLine ∧ noOwnB δ4 vs = true ∧ N (acc ++ [y]) (restD δ δ4 vs)
      | _ => False) ∧ (b = false → noOwnB δ3 vs = true ∧ N acc (restD δ δ3 vs)))
    (fin : ∀ acc δ, P n acc δ → C acc δ) {δ : DSt} (h : P 0 [] δ) : dLcL g tt te vs (rangeD lo n) [] δ C := by
  have key : ∀ m k acc δ, k + m = n → P k acc δ → dLcL g tt te vs ((rangeD lo n).drop k) acc δ C := by
    intro m
    induction m with
    | zero =>
      intro k acc δ e h
      have : (rangeD lo n).length ≤ k := by unfold rangeD; simp; omega
      rw [List.drop_eq_nil_of_le this]
      have e : k = n := by omega
      subst e
      exact fin acc δ h
    | succ m ih =>
      intro k acc δ e h
      have hk : k < n := by omega
      have hl : k < (rangeD lo n).length := by unfold rangeD; simp; exact hk
      rw [List.drop_eq_getElem_cons hl]
      have e2 : (rangeD lo n)[k] = .int (lo + (k : Nat)) := rangeD_at hl
      rw [e2]
      exact step k acc δ hk h (fun acc' δ' => dLcL g tt te vs ((rangeD lo n).drop (k + 1)) acc' δ' C) fun acc' δ' h' => ih (k + 1) acc' δ' (by omega) h'
  have := key n 0 [] δ (by omega) h
  rw [List.drop_zero] at this
  exact this
/-! ### small facts -/
theorem sl_line : sizeLine = 16777216 := sizeLine_eq
theorem atI_at {α : Type} {xs : List α} {i : Int} (h : 0 ≤ i) (h2 : i < (xs.length : Int)) : ∃ c, atI xs i = some c ∧ xs[i.toNat]? = some c ∧ c ∈ xs := by
  have hi : i.toNat < xs.length := by omega
  have e : ((i.toNat : Nat) : Int) = i := by omega
  have := atI_nat (List.getElem?_eq_getElem hi)
  rw [e] at this
  exact ⟨_, this, List.getElem?_eq_getElem hi, List.getElem_mem hi⟩
theorem atI_map {α β : Type} {f : α → β} {xs : List α} {i : Int} (h : 0 ≤ i) (h2 : i < (xs.length : Int)) : ∃ c, xs[i.toNat]? = some c ∧ atI (xs.map f) i = some (f c) ∧ c ∈ xs := by
  have hi : i.toNat < xs.length := by omega
  have e : ((i.toNat : Nat) : Int) = i := by omega
  have h3 : (xs.map f)[i.toNat]? = some (f xs[i.toNat]) := by rw [List.getElem?_map, List.getElem?_eq_getElem hi]; rfl
  have := atI_nat h3
  rw [e] at this
  exact ⟨_, List.getElem?_eq_getElem hi, this, List.getElem_mem hi⟩
end DD

namespace DD
open PySem PySem.Spec PyProof.Rows L2
/-! ### data of the module -/
def mapO {α β : Type} (f : α → Option β) : List α → Option (List β)
  | [] => some []
  | a :: as => match f a, mapO f as with
    | some b, some bs => some (b :: bs)
    | _, _ => none
def datIn (K : PySem.W.Frag) : Nat → Value → Option PyData
  | _, .none => some .none
  | _, .bool b => some (.bool b)
  | _, .int i _ => some (.int i)
  | _, .str z _ => some (.str z)
  | n + 1, .ref a => match K.lookup a with
    | some o => if o.cls == .type "tuple" then (match o.data with
        | .seq its _ => if its.size ≤ sizeLine then (match mapO (datIn K n) its.toList with
            | some ds => some (.tuple ds)
            | none => none) else none
        | _ => none) else none
    | none => none
  | _, _ => none
theorem datIn_ok {K : PySem.W.Frag} : ∀ (n : Nat) (v : Value) (d : PyData), datIn K n v = some d → ∃ x : V, RelV x v ∧ ∀ F, Dp K F x d := by
  intro n
  induction n with
  | zero =>
    intro v d h
    unfold datIn at h
    split at h
    · cases h; exact ⟨.non, rfl, fun F => .non⟩
    · cases h; exact ⟨.bl _, rfl, fun F => .bl _⟩
    · cases h; exact ⟨.int _, ⟨_, rfl⟩, fun F => .int _⟩
    · cases h; exact ⟨.str _, ⟨_, rfl⟩, fun F => .str _⟩
    · exact absurd ‹(0:Nat) = _› (by omega)
    · cases h
  | succ n ih =>
    intro v d h
    have all : ∀ (vs : List Value) (ds : List PyData), mapO (datIn K n) vs = some ds → ∃ xs : List V, Vals xs vs ∧ ∀ F, DpAll K F xs ds := by
      intro vs
      induction vs with
      | nil => intro ds h; cases h; exact ⟨[], .nil, fun F => .nil⟩
      | cons v vs ih2 =>
        intro ds h
        unfold mapO at h
        split at h
        · rename_i b bs h1 h2
          cases h
          obtain ⟨x, r, dx⟩ := ih _ _ h1
          obtain ⟨xs, rs, dxs⟩ := ih2 _ h2
          exact ⟨x :: xs, .cons r rs, fun F => .cons (dx F) (dxs F)⟩
        · cases h
    unfold datIn at h
    split at h
    · cases h; exact ⟨.non, rfl, fun F => .non⟩
    · cases h; exact ⟨.bl _, rfl, fun F => .bl _⟩
    · cases h; exact ⟨.int _, ⟨_, rfl⟩, fun F => .int _⟩
    · cases h; exact ⟨.str _, ⟨_, rfl⟩, fun F => .str _⟩
    · rename_i n' a hn
      cases hn
      split at h
      · rename_i o ho
        split at h
        · rename_i hc
          split at h
          · rename_i its m hd
            split at h
            · rename_i hz
              split at h
              · rename_i ds hds
                cases h
                obtain ⟨xs, rs, dxs⟩ := all _ _ hds
                exact ⟨.ref a, rfl, fun F => .tup (.inr ⟨o, its, m, ho, beq_iff_eq.mp hc, hd, hz, rs⟩) (dxs F)⟩
              · cases h
            · cases h
          · cases h
        · cases h
      · cases h
    · cases h
theorem kD {K : PySem.W.Frag} {mg : Str → Option Value} {c : Str} {v : Value} {n : Nat} {d : PyData} (hm : mg c = some v) (h : datIn K n v = some d) (hd : (c == ("__debug__" : Str)) = false := by decide) :
    ∀ {X : Cx} {pos : Pos}, X.K = K → X.mg = mg → Gl X c → PD X (.Name c pos) (dC d) := by
  intro X pos hK hmg hg
  obtain ⟨x, r, dx⟩ := datIn_ok n v d h
  subst hK hmg
  exact pd_c (v := x) (pe_glob hg hm r hd) dx
/-- a loose name that is a str -/
theorem loose_str {p : Program} {lv : List (Str × PySem.W.WData)} {mg : Str → Option Value} {h : Heap} {x z : Str} (X : PySem.W.XL p lv mg h) (m : (x, PySem.W.WData.str z) ∈ lv) : ∃ t, mg x = some (.str z t) := by
  obtain ⟨v, a, r⟩ := X.2.val _ m
  cases r
  exact ⟨_, a⟩
theorem kLoose {K : PySem.W.Frag} {mg : Str → Option Value} {c z : Str} (hm : ∃ t, mg c = some (.str z t)) (hd : (c == ("__debug__" : Str)) = false := by decide) :
    ∀ {X : Cx} {pos : Pos}, X.K = K → X.mg = mg → Gl X c → PD X (.Name c pos) (dC (.str z)) := by
  intro X pos hK hmg hg
  obtain ⟨t, hm⟩ := hm
  exact kD (n := 0) (d := .str z) hm rfl hd hK hmg hg
theorem def_mk {K : PySem.W.Frag} {h : Heap} {mg : Str → Option Value} {x : Str} {st : Stmt} {f : Addr} (X : K.In h) (G : h.Ns mainGlobals mg)
    {od an : Option Addr} {sl : Array (Option Value)} {oc kV dc pm cd ct : Value}
    (a : PySem.W.nsIn K mainGlobals x = some (some (.ref f))) (l : K.lookup f = some ⟨oc, od, .func (PySem.W.fnOf x x (defArgs st) (defBody st) (defScope st) .none kV dc pm an cd ct), sl⟩) (c : PySem.W.codeIn K cd x = true) (k : PySem.W.keepIn K (.ref f) = true) : DefAt K mg x st :=
  ⟨_, _, PySem.W.mg_of X G a, fun_mk l c k⟩
theorem sp_len {P : Prop} {n m : Nat} (h : n = m) : n = m := h
end DD

/-! MM: value semantics with a store of mutable objects (lists, instances, dicts), over the judgements of HandS. -/
namespace MM
open PySem PySem.Spec PyProof.Rows L2

/-- the frozen part of the heap; the addresses of the store's objects -/
structure Fg where
  f : Hp
  g : List Addr
/-- what a name or an expression holds: frozen data, or an object of the store -/
inductive Ar where
  | val (d : PyData)
  | sl (i : Nat)
  | fn (f : Addr)
inductive Mo where
  | fl (xs : List PyData)
  | ls (xs : List Ar)
  | tu (xs : List Ar)
  | ins (c : Str) (fs : List (Str × Ar))
  | dk (kvs : List (Key × Ar))
  | dt (kvs : List (List Key × Ar))
  | no
structure DSt where
  s : List (Option Ar)
  m : List Mo
/-- what is wished of an exception: its class's name, the slots, the store -/
abbrev EW := Str → List (Option Ar) → List Mo → Prop
instance : Coe Fg Hp := ⟨Fg.f⟩
abbrev DTE := DSt → (Ar → DSt → Prop) → Prop
abbrev DTT := DSt → (Bool → DSt → Prop) → Prop
abbrev DTA := DSt → (List Ar → DSt → Prop) → Prop
structure DEnds where
  nx : DSt → Prop
  rt : Ar → DSt → Prop
  bk : DSt → Prop := fun _ => False
  ct : DSt → Prop := fun _ => False
abbrev DTS := DEnds → DSt → Prop
def ArRep (K : PySem.W.Frag) (F : Fg) (v : V) : Ar → Prop
  | .val d => Dp K F.f v d
  | .sl i => ∃ l, F.g[i]? = some l ∧ v = .ref l
  | .fn f => v = .ref f
def ArsRep (K : PySem.W.Frag) (F : Fg) : List V → List Ar → Prop
  | [], [] => True
  | v :: vs, a :: as => ArRep K F v a ∧ ArsRep K F vs as
  | _, _ => False
def MoRep (K : PySem.W.Frag) (mg : Str → Option Value) (F : Fg) (H : Hp) (l : Addr) : Mo → Prop
  | .fl xs => ∃ vs, H l = some (.lst vs) ∧ DpAll K F.f vs xs
  | .ls as => ∃ vs, H l = some (.lst vs) ∧ ArsRep K F vs as
  | .tu as => ∃ vs, H l = some (.tup vs) ∧ ArsRep K F vs as
  | .ins c fs => ∃ C dx vs, mg c = some (.ref C) ∧ H l = some (.ins C dx vs) ∧ H dx = some (.own l) ∧ F.f dx = none ∧ vs.map (·.1) = fs.map (·.1) ∧ ArsRep K F (vs.map (·.2)) (fs.map (·.2))
  | .dk kvs => ∃ us, H l = some (.dK us) ∧ us.map (·.1) = kvs.map (·.1) ∧ ArsRep K F (us.map (·.2)) (kvs.map (·.2))
  | .dt kvs => ∃ us, H l = some (.dT us) ∧ us.map (·.1) = kvs.map (·.1) ∧ ArsRep K F (us.map (·.2)) (kvs.map (·.2))
  | .no => True
def live : Mo → Bool
  | .no => false
  | _ => true
/-- the store -/
structure StoC (K : PySem.W.Frag) (mg : Str → Option Value) (F : Fg) (m : List Mo) (H : Hp) : Prop where
  sub : Same F.f H
  glen : F.g.length = m.length
  obj : ∀ (i : Nat) (o : Mo), m[i]? = some o → ∃ l, F.g[i]? = some l ∧ (if live o = true then F.f l = none ∧ MoRep K mg F H l o else F.f l ≠ none)
  inj : ∀ (i j : Nat) (l : Addr) (oi oj : Mo), m[i]? = some oi → m[j]? = some oj → live oi = true → live oj = true → F.g[i]? = some l → F.g[j]? = some l → i = j
structure RepC (K : PySem.W.Frag) (mg : Str → Option Value) (F : Fg) (σ : L2.St) (s : List (Option Ar)) (m : List Mo) (H : Hp) : Prop where
  sto : StoC K mg F m H
  len : σ.length = s.length
  slot : ∀ (i : Nat) (a : Ar), s[i]? = some (some a) → ∃ v, σ[i]? = some (some v) ∧ ArRep K F v a
/-- from one state to a later one -/
structure Stp (F : Fg) (H : Hp) (F' : Fg) (H' : Hp) : Prop where
  ext : Same F.f F'.f
  pre : ∃ ns, F'.g = F.g ++ ns ∧ ∀ l ∈ ns, H l = none
  new : ∀ b o, F'.f b = some o → F.f b = some o ∨ H b = none ∨ b ∈ F.g
  frm : ∀ b o, H b = some o → b ∉ F.g → H' b = some o
  dom : ∀ b, H' b = none → H b = none
theorem Stp.refl {F H} : Stp F H F H :=
  ⟨Same.refl _, ⟨[], by simp, by simp⟩, fun _ _ h => .inl h, fun _ _ h _ => h, fun _ h => h⟩
theorem Stp.trans {F H F1 H1 F2 H2} (a : Stp F H F1 H1) (b : Stp F1 H1 F2 H2) : Stp F H F2 H2 := by
  obtain ⟨ns, e1, n1⟩ := a.pre
  obtain ⟨ms, e2, n2⟩ := b.pre
  refine ⟨a.ext.trans b.ext, ⟨ns ++ ms, by rw [e2, e1, List.append_assoc], fun l hl => ?_⟩, fun c o h => ?_, fun c o h n => ?_, fun c h => a.dom c (b.dom c h)⟩
  · rcases List.mem_append.mp hl with hl | hl
    · exact n1 l hl
    · exact a.dom l (n2 l hl)
  · rcases b.new c o h with q | q | q
    · exact a.new c o q
    · exact .inr (.inl (a.dom c q))
    · rw [e1] at q
      rcases List.mem_append.mp q with q | q
      · exact .inr (.inr q)
      · exact .inr (.inl (n1 c q))
  · refine b.frm c o (a.frm c o h n) fun q => ?_
    rw [e1] at q
    rcases List.mem_append.mp q with q | q
    · exact n q
    · rw [n1 c q] at h; cases h
/-- the state, with what is wished of an exception -/
structure RepS (W : WX) (E : EW) (K : PySem.W.Frag) (mg : Str → Option Value) (F : Fg) (σ : L2.St) (δ : DSt) (H : Hp) : Prop extends RepC K mg F σ δ.s δ.m H where
  wish : ∀ x C d F' σ' s' m' H', RepC K mg F' σ' s' m' H' → Stp F H F' H' → mg x = some (.ref C) → E x s' m' → W (.ref C) d σ' H'
section
variable {W : WX} {E : EW} {K : PySem.W.Frag} {mg : Str → Option Value} {F F' : Fg} {H H' : Hp} {σ : L2.St} {δ : DSt}
theorem ArRep.step (e : Stp F H F' H') {v : V} {a : Ar} (h : ArRep K F v a) : ArRep K F' v a := by
  cases a with
  | val d => exact Dp.mono e.ext d v h
  | fn f => exact h
  | sl i =>
    obtain ⟨l, h1, h2⟩ := h
    obtain ⟨ns, e1, _⟩ := e.pre
    exact ⟨l, by rw [e1, List.getElem?_append_left (List.getElem?_eq_some_iff.mp h1).1]; exact h1, h2⟩
theorem ArsRep.step (e : Stp F H F' H') : ∀ {vs : List V} {as : List Ar}, ArsRep K F vs as → ArsRep K F' vs as
  | [], [], _ => trivial
  | v :: vs, a :: as, h => ⟨h.1.step e, ArsRep.step e h.2⟩
  | [], _ :: _, h => h.elim
  | _ :: _, [], h => h.elim
theorem ArsRep.get : ∀ {vs : List V} {as : List Ar} {i : Nat} {a : Ar}, ArsRep K F vs as → as[i]? = some a → ∃ v, vs[i]? = some v ∧ ArRep K F v a
  | [], [], _, _, _, e => by simp at e
  | v :: vs, a :: as, 0, b, h, e => by simp at e; subst e; exact ⟨v, rfl, h.1⟩
  | v :: vs, a :: as, i + 1, b, h, e => by
    obtain ⟨u, h1, h2⟩ := ArsRep.get (i := i) h.2 (by simpa using e)
    exact ⟨u, by simpa using h1, h2⟩
  | [], _ :: _, _, _, h, _ => h.elim
  | _ :: _, [], _, _, h, _ => h.elim
theorem ArsRep.length : ∀ {vs : List V} {as : List Ar}, ArsRep K F vs as → vs.length = as.length
  | [], [], _ => rfl
  | v :: vs, a :: as, h => congrArg (· + 1) (ArsRep.length h.2)
  | [], _ :: _, h => h.elim
  | _ :: _, [], h => h.elim
theorem ArsRep.append : ∀ {vs ws : List V} {as bs : List Ar}, ArsRep K F vs as → ArsRep K F ws bs → ArsRep K F (vs ++ ws) (as ++ bs)
  | [], _, [], _, _, s => s
  | _ :: _, _, _ :: _, _, h, s => ⟨h.1, ArsRep.append h.2 s⟩
  | [], _, _ :: _, _, h, _ => h.elim
  | _ :: _, _, [], _, h, _ => h.elim
theorem ArsRep.set {v : V} {a : Ar} (h : ArRep K F v a) : ∀ {vs : List V} {as : List Ar} (i : Nat), ArsRep K F vs as → ArsRep K F (vs.set i v) (as.set i a)
  | [], [], _, _ => trivial
  | _ :: _, _ :: _, 0, t => ⟨h, t.2⟩
  | _ :: _, _ :: _, i + 1, t => ⟨t.1, ArsRep.set h i t.2⟩
  | [], _ :: _, _, h => h.elim
  | _ :: _, [], _, h => h.elim
theorem ArsRep.take : ∀ {vs : List V} {as : List Ar} (n : Nat), ArsRep K F vs as → ArsRep K F (vs.take n) (as.take n)
  | [], [], n, _ => by simp only [List.take_nil]; trivial
  | _ :: _, _ :: _, 0, _ => trivial
  | _ :: _, _ :: _, n + 1, h => ⟨h.1, ArsRep.take n h.2⟩
  | [], _ :: _, _, h => h.elim
  | _ :: _, [], _, h => h.elim
theorem ArsRep.drop : ∀ {vs : List V} {as : List Ar} (n : Nat), ArsRep K F vs as → ArsRep K F (vs.drop n) (as.drop n)
  | [], [], n, _ => by simp only [List.drop_nil]; trivial
  | _ :: _, _ :: _, 0, h => h
  | _ :: _, _ :: _, n + 1, h => ArsRep.drop n h.2
  | [], _ :: _, _, h => h.elim
  | _ :: _, [], _, h => h.elim
theorem ArsRep.dropLast {vs : List V} {as : List Ar} (h : ArsRep K F vs as) : ArsRep K F vs.dropLast as.dropLast := by
  rw [List.dropLast_eq_take, List.dropLast_eq_take, h.length]
  exact ArsRep.take _ h
theorem ArsRep.ofData : ∀ {vs : List V} {xs : List PyData}, DpAll K F.f vs xs → ArsRep K F vs (xs.map Ar.val)
  | _, _, .nil => trivial
  | _, _, .cons h t => ⟨h, ArsRep.ofData t⟩
/-- objects: what they hold is as it was, where their own place is -/
theorem MoRep.step (e : Stp F H F' H') {l : Addr} {o : Mo} (h : MoRep K mg F H l o) (hl : ∀ u, H l = some u → H' l = some u) (hx : ∀ dx, H dx = some (.own l) → F.f dx = none → H' dx = some (.own l) ∧ F'.f dx = none) : MoRep K mg F' H' l o := by
  cases o with
  | fl xs => obtain ⟨vs, h1, h2⟩ := h; exact ⟨vs, hl _ h1, Dp.monoAll e.ext _ _ h2⟩
  | ls as => obtain ⟨vs, h1, h2⟩ := h; exact ⟨vs, hl _ h1, h2.step e⟩
  | tu as => obtain ⟨vs, h1, h2⟩ := h; exact ⟨vs, hl _ h1, h2.step e⟩
  | ins c fs => obtain ⟨C, dx, vs, h0, h1, h2, h3, h4, h5⟩ := h; exact ⟨C, dx, vs, h0, hl _ h1, (hx dx h2 h3).1, (hx dx h2 h3).2, h4, h5.step e⟩
  | dk kvs => obtain ⟨us, h1, h2, h3⟩ := h; exact ⟨us, hl _ h1, h2, h3.step e⟩
  | dt kvs => obtain ⟨us, h1, h2, h3⟩ := h; exact ⟨us, hl _ h1, h2, h3.step e⟩
  | no => trivial
theorem StoC.at (R : StoC K mg F δ.m H) {i : Nat} {o : Mo} (h : δ.m[i]? = some o) (n : live o = true) : ∃ l, F.g[i]? = some l ∧ F.f l = none ∧ MoRep K mg F H l o := by
  obtain ⟨l, h1, h2⟩ := R.obj i o h
  rw [if_pos n] at h2
  exact ⟨l, h1, h2⟩
theorem MoRep.has {l : Addr} {o : Mo} (h : MoRep K mg F H l o) (n : live o = true) : ∃ u, H l = some u ∧ ∀ x, u ≠ .own x := by
  cases o with
  | fl xs => obtain ⟨vs, h1, h2⟩ := h; exact ⟨_, h1, fun x e => by cases e⟩
  | ls as => obtain ⟨vs, h1, h2⟩ := h; exact ⟨_, h1, fun x e => by cases e⟩
  | tu as => obtain ⟨vs, h1, h2⟩ := h; exact ⟨_, h1, fun x e => by cases e⟩
  | ins c fs => obtain ⟨C, dx, vs, h0, h1, _⟩ := h; exact ⟨_, h1, fun x e => by cases e⟩
  | dk kvs => obtain ⟨us, h1, _⟩ := h; exact ⟨_, h1, fun x e => by cases e⟩
  | dt kvs => obtain ⟨us, h1, _⟩ := h; exact ⟨_, h1, fun x e => by cases e⟩
  | no => cases n
/-- an address of the store that is alive is no dict of an instance -/
theorem StoC.notOwn {m : List Mo} (R : StoC K mg F m H) {l x : Addr} (hl : l ∈ F.g) (h : H l = some (.own x)) (hF : F.f l = none) : False := by
  obtain ⟨i, hi⟩ := List.getElem?_of_mem hl
  have hm : i < m.length := by rw [← R.glen]; exact (List.getElem?_eq_some_iff.mp hi).1
  obtain ⟨l', h1, h2⟩ := R.obj i _ (List.getElem?_eq_getElem hm)
  rw [hi] at h1
  cases h1
  split at h2
  · rename_i n
    obtain ⟨u, e1, e2⟩ := h2.2.has n
    rw [h] at e1
    exact e2 x (Option.some.inj e1).symm
  · exact h2 hF
theorem RepS.next {F' : Fg} {σ' : L2.St} {s' : List (Option Ar)} {m' : List Mo} {H' : Hp} (R : RepS W E K mg F σ δ H) (C : RepC K mg F' σ' s' m' H') (t : Stp F H F' H') : RepS W E K mg F' σ' ⟨s', m'⟩ H' :=
  { C with wish := fun x C d F2 σ2 s2 m2 H2 C2 t2 hm he => R.wish x C d F2 σ2 s2 m2 H2 C2 (t.trans t2) hm he }
/-- what the store, the slots are when only other parts of the heap have changed -/
theorem RepC.stay {s : List (Option Ar)} {m : List Mo} (R : RepC K mg F σ s m H) (e : Stp F H F' H') (hg : F'.g = F.g) (sub : Same F'.f H') (hn : ∀ l, l ∈ F.g → F.f l = none → H' l = H l ∧ F'.f l = none)
    (hx : ∀ dx x, H dx = some (.own x) → F.f dx = none → F'.f dx = none) : RepC K mg F' σ s m H' := by
  refine ⟨⟨sub, by rw [hg]; exact R.sto.glen, fun i o h => ?_, fun i j l oi oj h1 h2 h3 h4 h5 h6 => ?_⟩, R.len, fun i a h => ?_⟩
  · obtain ⟨l, h1, h2⟩ := R.sto.obj i o h
    refine ⟨l, by rw [hg]; exact h1, ?_⟩
    split at h2
    · rename_i n
      obtain ⟨q1, q2⟩ := hn l (List.mem_of_getElem? h1) h2.1
      rw [if_pos n]
      exact ⟨q2, h2.2.step e (fun u hu => by rw [q1]; exact hu) fun dx hd hf => ⟨e.frm dx _ hd fun z => R.sto.notOwn z hd hf, hx dx l hd hf⟩⟩
    · rename_i n
      rw [if_neg n]
      intro q
      cases qf : F.f l with
      | none => exact h2 qf
      | some u => rw [e.ext l u qf] at q; cases q
  · rw [hg] at h5 h6
    exact R.sto.inj i j l oi oj h1 h2 h3 h4 h5 h6
  · obtain ⟨v, h1, h2⟩ := R.slot i a h
    exact ⟨v, h1, h2.step e⟩
/-- a new frozen object -/
theorem RepS.alloc (R : RepS W E K mg F σ δ H) {p : Addr} {o : HO} (n : H p = none) : RepS W E K mg ⟨upd F.f p o, F.g⟩ σ δ (upd H p o) ∧ Stp F H ⟨upd F.f p o, F.g⟩ (upd H p o) := by
  have nF : F.f p = none := R.sto.sub.free n
  have sF : Same F.f (upd F.f p o) := fun b u e => by rw [upd_ne (ne_of_none e nF)]; exact e
  have t : Stp F H ⟨upd F.f p o, F.g⟩ (upd H p o) := by
    refine ⟨sF, ⟨[], by simp, by simp⟩, fun b u e => ?_, fun b u e _ => ?_, fun b e => ?_⟩
    · by_cases hb : b = p
      · subst hb; exact .inr (.inl n)
      · have e : upd F.f p o b = some u := e
        rw [upd_ne hb] at e; exact .inl e
    · rw [upd_ne (ne_of_none e n)]; exact e
    · by_cases hb : b = p
      · subst hb; exact n
      · rw [upd_ne hb] at e; exact e
  refine ⟨R.next (R.toRepC.stay t rfl (fun b u e => ?_) (fun l hl hf => ?_) fun dx x hd hf => ?_) t, t⟩
  · have e : upd F.f p o b = some u := e
    by_cases hb : b = p
    · subst hb; rw [upd_same] at e ⊢; exact e
    · rw [upd_ne hb] at e ⊢; exact R.sto.sub b u e
  · obtain ⟨i, hi⟩ := List.getElem?_of_mem hl
    have hm : i < δ.m.length := by rw [← R.sto.glen]; exact (List.getElem?_eq_some_iff.mp hi).1
    obtain ⟨l', h1, h2⟩ := R.sto.obj i _ (List.getElem?_eq_getElem hm)
    rw [hi] at h1
    cases h1
    split at h2
    · rename_i nl
      obtain ⟨u, e1, _⟩ := h2.2.has nl
      have ne : l ≠ p := ne_of_none e1 n
      exact ⟨upd_ne ne, by show upd F.f p o l = none; rw [upd_ne ne]; exact hf⟩
    · exact absurd hf h2
  · show upd F.f p o dx = none
    rw [upd_ne (ne_of_none hd n)]; exact hf
theorem StoC.liveAt {m : List Mo} (R : StoC K mg F m H) {l : Addr} (hl : l ∈ F.g) (hf : F.f l = none) : ∃ u, H l = some u := by
  obtain ⟨i, hi⟩ := List.getElem?_of_mem hl
  have hm : i < m.length := by rw [← R.glen]; exact (List.getElem?_eq_some_iff.mp hi).1
  obtain ⟨l', h1, h2⟩ := R.obj i _ (List.getElem?_eq_getElem hm)
  rw [hi] at h1
  cases h1
  split at h2
  · rename_i nl
    obtain ⟨u, e1, _⟩ := h2.2.has nl
    exact ⟨u, e1⟩
  · exact absurd hf h2
/-- the heap has grown by things that nobody holds -/
theorem RepS.grow (R : RepS W E K mg F σ δ H) {H' : Hp} (s : Same H H') : RepS W E K mg F σ δ H' ∧ Stp F H F H' := by
  have t : Stp F H F H' := ⟨Same.refl _, ⟨[], by simp, by simp⟩, fun b u e => .inl e, fun b u e _ => s b u e, fun b e => s.free e⟩
  refine ⟨R.next (R.toRepC.stay t rfl (R.sto.sub.trans s) (fun l hl hf => ?_) fun dx x hd hf => hf) t, t⟩
  obtain ⟨u, e1⟩ := R.sto.liveAt hl hf
  exact ⟨(s l u e1).trans e1.symm, hf⟩
/-- a new object of the store -/
theorem RepS.made (R : RepS W E K mg F σ δ H) {p : Addr} {H' : Hp} {o : Mo} (s : Same H H') (n : H p = none) (nl : live o = true) (h : MoRep K mg ⟨F.f, F.g ++ [p]⟩ H' p o) :
    RepS W E K mg ⟨F.f, F.g ++ [p]⟩ σ { δ with m := δ.m ++ [o] } H' ∧ Stp F H ⟨F.f, F.g ++ [p]⟩ H' := by
  have nF : F.f p = none := R.sto.sub.free n
  have t : Stp F H ⟨F.f, F.g ++ [p]⟩ H' := ⟨Same.refl _, ⟨[p], rfl, by simpa using n⟩, fun b u e => .inl e, fun b u e _ => s b u e, fun b e => s.free e⟩
  have old : ∀ {i : Nat} {x : Mo}, δ.m[i]? = some x → ∃ l, F.g[i]? = some l ∧ (live x = true → l ≠ p) := fun {i x} hx => by
    obtain ⟨l, h1, h2⟩ := R.sto.obj i x hx
    refine ⟨l, h1, fun hl => ?_⟩
    rw [if_pos hl] at h2
    obtain ⟨u, e1, _⟩ := h2.2.has hl
    exact ne_of_none e1 n
  have cases_ : ∀ {i : Nat} {x : Mo}, (δ.m ++ [o])[i]? = some x → (i < δ.m.length ∧ δ.m[i]? = some x) ∨ (i = δ.m.length ∧ x = o) := fun {i x} hx => by
    by_cases hi : i < δ.m.length
    · rw [List.getElem?_append_left hi] at hx; exact .inl ⟨hi, hx⟩
    · rw [List.getElem?_append_right (by omega)] at hx
      have : i - δ.m.length = 0 := by
        have := (List.getElem?_eq_some_iff.mp hx).1
        simpa using this
      rw [this] at hx
      exact .inr ⟨by omega, (Option.some.inj hx).symm⟩
  have gl : ∀ {i : Nat}, i < δ.m.length → (F.g ++ [p])[i]? = F.g[i]? := fun {i} hi => List.getElem?_append_left (by rw [R.sto.glen]; exact hi)
  have gp : (F.g ++ [p])[δ.m.length]? = some p := by
    rw [List.getElem?_append_right (by rw [R.sto.glen]; exact Nat.le_refl _), R.sto.glen, Nat.sub_self]; rfl
  refine ⟨R.next (s' := δ.s) (m' := δ.m ++ [o]) ⟨⟨R.sto.sub.trans s, by rw [List.length_append, List.length_append, R.sto.glen]; rfl, fun i x hx => ?_, fun i j l oi oj h1 h2 h3 h4 h5 h6 => ?_⟩, R.len, fun i a ha => ?_⟩ t, t⟩
  · rcases cases_ hx with ⟨hi, hx⟩ | ⟨hi, ex⟩
    · obtain ⟨l, h1, h2⟩ := R.sto.obj i x hx
      refine ⟨l, by show (F.g ++ [p])[i]? = some l; rw [gl hi]; exact h1, ?_⟩
      split at h2
      · rename_i q
        rw [if_pos q]
        exact ⟨h2.1, h2.2.step t (fun u hu => s _ _ hu) fun dx hd hf => ⟨s _ _ hd, hf⟩⟩
      · rename_i q
        rw [if_neg q]
        exact h2
    · subst hi; subst ex
      exact ⟨p, gp, by rw [if_pos nl]; exact ⟨nF, h⟩⟩
  · have h5 : (F.g ++ [p])[i]? = some l := h5
    have h6 : (F.g ++ [p])[j]? = some l := h6
    rcases cases_ h1 with ⟨a1, a2⟩ | ⟨a1, a2⟩
    · rcases cases_ h2 with ⟨b1, b2⟩ | ⟨b1, b2⟩
      · rw [gl a1] at h5
        rw [gl b1] at h6
        exact R.sto.inj i j l oi oj a2 b2 h3 h4 h5 h6
      · subst b1
        rw [gp] at h6
        cases h6
        rw [gl a1] at h5
        obtain ⟨l', q1, q2⟩ := old a2
        rw [q1] at h5
        cases h5
        exact absurd rfl (q2 h3)
    · rcases cases_ h2 with ⟨b1, b2⟩ | ⟨b1, b2⟩
      · subst a1
        rw [gp] at h5
        cases h5
        rw [gl b1] at h6
        obtain ⟨l', q1, q2⟩ := old b2
        rw [q1] at h6
        cases h6
        exact absurd rfl (q2 h4)
      · rw [a1, b1]
  · obtain ⟨v, h1, h2⟩ := R.slot i a ha
    exact ⟨v, h1, h2.step t⟩
/-- an object of the store changes -/
theorem RepS.put (R : RepS W E K mg F σ δ H) {i : Nat} {o o' : Mo} {l : Addr} {u : HO} (h : δ.m[i]? = some o) (n : live o = true) (n' : live o' = true) (hl : F.g[i]? = some l) (hu : ∀ x, u ≠ .own x) (h' : MoRep K mg F (upd H l u) l o') :
    RepS W E K mg F σ { δ with m := δ.m.set i o' } (upd H l u) ∧ Stp F H F (upd H l u) := by
  obtain ⟨l0, q1, q2, q3⟩ := R.sto.at h n
  rw [hl] at q1
  cases q1
  obtain ⟨w, e1, e2⟩ := q3.has n
  have hi : i < δ.m.length := (List.getElem?_eq_some_iff.mp h).1
  have t : Stp F H F (upd H l u) := by
    refine ⟨Same.refl _, ⟨[], by simp, by simp⟩, fun b x e => .inl e, fun b x e nb => ?_, fun b e => ?_⟩
    · have ne : b ≠ l := fun z => nb (by rw [z]; exact List.mem_of_getElem? hl)
      rw [upd_ne ne]; exact e
    · by_cases hb : b = l
      · subst hb; rw [upd_same] at e; cases e
      · rw [upd_ne hb] at e; exact e
  have at' : ∀ {j : Nat} {x : Mo}, (δ.m.set i o')[j]? = some x → (j = i ∧ x = o') ∨ (j ≠ i ∧ δ.m[j]? = some x) := fun {j x} hx => by
    by_cases e : j = i
    · subst e
      rw [List.getElem?_set_self hi] at hx
      exact .inl ⟨rfl, (Option.some.inj hx).symm⟩
    · rw [List.getElem?_set_ne (Ne.symm e)] at hx
      exact .inr ⟨e, hx⟩
  refine ⟨R.next (s' := δ.s) (m' := δ.m.set i o') ⟨⟨fun b x e => ?_, by rw [List.length_set]; exact R.sto.glen, fun j x hx => ?_, fun a b l2 oa ob h1 h2 h3 h4 h5 h6 => ?_⟩, R.len, fun j a ha => ?_⟩ t, t⟩
  · have ne : b ≠ l := fun z => by subst z; rw [q2] at e; cases e
    rw [upd_ne ne]; exact R.sto.sub b x e
  · rcases at' hx with ⟨e, ex⟩ | ⟨e, hx⟩
    · subst e; subst ex
      exact ⟨l, hl, by rw [if_pos n']; exact ⟨q2, h'⟩⟩
    · obtain ⟨l2, g1, g2⟩ := R.sto.obj j x hx
      refine ⟨l2, g1, ?_⟩
      split at g2
      · rename_i q
        rw [if_pos q]
        have ne : l2 ≠ l := fun z => by
          subst z
          exact e (R.sto.inj j i l2 x o hx h q n g1 hl)
        refine ⟨g2.1, g2.2.step t (fun u hu => by rw [upd_ne ne]; exact hu) fun dx hd hf => ⟨?_, hf⟩⟩
        have nd : dx ≠ l := fun z => by
          subst z
          rw [e1] at hd
          exact e2 l2 (Option.some.inj hd)
        rw [upd_ne nd]; exact hd
      · rename_i q
        rw [if_neg q]
        exact g2
  · have g : ∀ {j : Nat} {x : Mo}, (δ.m.set i o')[j]? = some x → live x = true → ∃ y, δ.m[j]? = some y ∧ live y = true := fun {j x} hx nx => by
      rcases at' hx with ⟨e, ex⟩ | ⟨e, hx⟩
      · subst e; exact ⟨o, h, n⟩
      · exact ⟨x, hx, nx⟩
    obtain ⟨x1, y1, z1⟩ := g h1 h3
    obtain ⟨x2, y2, z2⟩ := g h2 h4
    exact R.sto.inj a b l2 x1 x2 y1 y2 z1 z2 h5 h6
  · obtain ⟨v, h1, h2⟩ := R.slot j a ha
    exact ⟨v, h1, h2.step t⟩
/-- a slot is written -/
theorem RepS.setSlot (R : RepS W E K mg F σ δ H) {i : Nat} {v : V} {a : Ar} (h : ArRep K F v a) : RepS W E K mg F (σ.set i (some v)) { δ with s := δ.s.set i (some a) } H := by
  refine R.next (s' := δ.s.set i (some a)) (m' := δ.m) ⟨R.sto, by simp [R.len], fun j b q => ?_⟩ .refl
  by_cases e : j = i
  · subst e
    rcases Nat.lt_or_ge j δ.s.length with z | z
    · rw [List.getElem?_set_self z] at q
      cases q
      exact ⟨v, List.getElem?_set_self (by rw [R.len]; exact z), h⟩
    · rw [List.getElem?_eq_none (by simpa using z)] at q; cases q
  · rw [List.getElem?_set_ne (Ne.symm e)] at q ⊢
    exact R.slot j b q
/-- object i becomes the data d: in a name, in an object -/
def frA (i : Nat) (d : PyData) : Ar → Ar
  | .sl j => if j = i then .val d else .sl j
  | a => a
def frO (i : Nat) (d : PyData) : Mo → Mo
  | .ls as => .ls (as.map (frA i d))
  | .tu as => .tu (as.map (frA i d))
  | .ins c fs => .ins c (fs.map fun p => (p.1, frA i d p.2))
  | .dk kvs => .dk (kvs.map fun p => (p.1, frA i d p.2))
  | .dt kvs => .dt (kvs.map fun p => (p.1, frA i d p.2))
  | o => o
def frS (δ : DSt) (i : Nat) (d : PyData) : DSt := { δ with s := δ.s.map (fun o => o.map (frA i d)), m := (δ.m.set i .no).map (frO i d) }
theorem ArRep.fr {i : Nat} {d : PyData} {l : Addr} {v : V} {a : Ar} (t : Stp F H F' H') (hl : F.g[i]? = some l) (hd : Dp K F'.f (.ref l) d) (h : ArRep K F v a) : ArRep K F' v (frA i d a) := by
  cases a with
  | val x => exact h.step t
  | fn f => exact h
  | sl j =>
    show ArRep K F' v (if j = i then .val d else .sl j)
    by_cases e : j = i
    · rw [if_pos e]
      subst e
      obtain ⟨l', h1, h2⟩ := h
      rw [hl] at h1
      cases h1
      subst h2
      exact hd
    · rw [if_neg e]
      exact ArRep.step t (a := .sl j) h
theorem ArsRep.fr {i : Nat} {d : PyData} {l : Addr} (t : Stp F H F' H') (hl : F.g[i]? = some l) (hd : Dp K F'.f (.ref l) d) : ∀ {vs : List V} {as : List Ar}, ArsRep K F vs as → ArsRep K F' vs (as.map (frA i d))
  | [], [], _ => trivial
  | _ :: _, _ :: _, h => ⟨h.1.fr t hl hd, ArsRep.fr t hl hd h.2⟩
  | [], _ :: _, h => h.elim
  | _ :: _, [], h => h.elim
theorem live_fr {i : Nat} {d : PyData} {o : Mo} : live (frO i d o) = live o := by cases o <;> rfl
theorem MoRep.fr {i : Nat} {d : PyData} {l p : Addr} {o : Mo} (t : Stp F H F' H) (hl : F.g[i]? = some l) (hd : Dp K F'.f (.ref l) d) (hx : ∀ dx, H dx = some (.own p) → F.f dx = none → F'.f dx = none) (h : MoRep K mg F H p o) : MoRep K mg F' H p (frO i d o) := by
  cases o with
  | fl xs => obtain ⟨vs, h1, h2⟩ := h; exact ⟨vs, h1, Dp.monoAll t.ext _ _ h2⟩
  | ls as => obtain ⟨vs, h1, h2⟩ := h; exact ⟨vs, h1, h2.fr t hl hd⟩
  | tu as => obtain ⟨vs, h1, h2⟩ := h; exact ⟨vs, h1, h2.fr t hl hd⟩
  | ins c fs =>
    obtain ⟨C, dx, vs, h0, h1, h2, h3, h4, h5⟩ := h
    refine ⟨C, dx, vs, h0, h1, h2, hx dx h2 h3, by rw [h4, List.map_map]; rfl, ?_⟩
    have := h5.fr t hl hd
    rw [List.map_map] at this ⊢
    exact this
  | dk kvs =>
    obtain ⟨us, h1, h2, h3⟩ := h
    refine ⟨us, h1, by rw [h2, List.map_map]; rfl, ?_⟩
    have := h3.fr t hl hd
    rw [List.map_map] at this ⊢
    exact this
  | dt kvs =>
    obtain ⟨us, h1, h2, h3⟩ := h
    refine ⟨us, h1, by rw [h2, List.map_map]; rfl, ?_⟩
    have := h3.fr t hl hd
    rw [List.map_map] at this ⊢
    exact this
  | no => trivial
theorem RepS.freeze (R : RepS W E K mg F σ δ H) {i : Nat} {xs : List PyData} (h : δ.m[i]? = some (.fl xs)) :
    ∃ F' l vs, RepS W E K mg F' σ (frS δ i (.list xs)) H ∧ Stp F H F' H ∧ F.g[i]? = some l ∧ H l = some (.lst vs) ∧ F'.f l = some (.lst vs) ∧ DpAll K F'.f vs xs := by
  obtain ⟨l, hl, nF, vs, hH, hA⟩ := R.sto.at h rfl
  have sF : Same F.f (upd F.f l (.lst vs)) := fun b u e => by rw [upd_ne (ne_of_none e nF)]; exact e
  have t : Stp F H ⟨upd F.f l (.lst vs), F.g⟩ H := by
    refine ⟨sF, ⟨[], by simp, by simp⟩, fun b u e => ?_, fun b u e _ => e, fun b e => e⟩
    by_cases hb : b = l
    · exact .inr (.inr (by rw [hb]; exact List.mem_of_getElem? hl))
    · have e : upd F.f l (.lst vs) b = some u := e
      rw [upd_ne hb] at e; exact .inl e
  have hA' := Dp.monoAll (K := K) sF _ _ hA
  have hD : Dp K (upd F.f l (.lst vs)) (.ref l) (.list xs) := .lst (SqL.of upd_same) hA'
  have hi : i < δ.m.length := (List.getElem?_eq_some_iff.mp h).1
  have at' : ∀ {j : Nat} {x : Mo}, ((δ.m.set i .no).map (frO i (.list xs)))[j]? = some x → (j = i ∧ x = .no) ∨ (j ≠ i ∧ ∃ y, δ.m[j]? = some y ∧ x = frO i (.list xs) y) := fun {j x} hx => by
    rw [List.getElem?_map] at hx
    by_cases e : j = i
    · subst e
      rw [List.getElem?_set_self hi] at hx
      exact .inl ⟨rfl, (Option.some.inj hx).symm⟩
    · rw [List.getElem?_set_ne (Ne.symm e)] at hx
      cases q : δ.m[j]? with
      | none => rw [q] at hx; cases hx
      | some y => rw [q] at hx; exact .inr ⟨e, y, rfl, (Option.some.inj hx).symm⟩
  refine ⟨_, l, vs, R.next (s' := δ.s.map (fun o => o.map (frA i (.list xs)))) (m' := (δ.m.set i .no).map (frO i (.list xs))) ⟨⟨fun b u e => ?_, by rw [List.length_map, List.length_set]; exact R.sto.glen, fun j x hx => ?_, fun a b l2 oa ob h1 h2 h3 h4 h5 h6 => ?_⟩, by rw [List.length_map]; exact R.len, fun j a ha => ?_⟩ t, t, hl, hH, upd_same, hA'⟩
  · have e : upd F.f l (.lst vs) b = some u := e
    by_cases hb : b = l
    · subst hb; rw [upd_same] at e; rw [hH]; exact e
    · rw [upd_ne hb] at e; exact R.sto.sub b u e
  · rcases at' hx with ⟨e, ex⟩ | ⟨e, y, hy, ex⟩
    · subst e; subst ex
      refine ⟨l, hl, ?_⟩
      rw [if_neg (by decide)]
      show upd F.f l (.lst vs) l ≠ none
      rw [upd_same]
      intro z; cases z
    · subst ex
      obtain ⟨l2, g1, g2⟩ := R.sto.obj j y hy
      refine ⟨l2, g1, ?_⟩
      rw [live_fr]
      split at g2
      · rename_i q
        rw [if_pos q]
        have ne : l2 ≠ l := fun z => by
          subst z
          exact e (R.sto.inj j i l2 y (.fl xs) hy h q rfl g1 hl)
        refine ⟨by show upd F.f l (.lst vs) l2 = none; rw [upd_ne ne]; exact g2.1, g2.2.fr t hl hD fun dx hd hf => ?_⟩
        show upd F.f l (.lst vs) dx = none
        have nd : dx ≠ l := fun z => by subst z; rw [hH] at hd; cases hd
        rw [upd_ne nd]; exact hf
      · rename_i q
        rw [if_neg q]
        intro z
        have z : upd F.f l (.lst vs) l2 = none := z
        cases qf : F.f l2 with
        | none => exact g2 qf
        | some u => rw [sF l2 u qf] at z; cases z
  · have g : ∀ {j : Nat} {x : Mo}, ((δ.m.set i .no).map (frO i (.list xs)))[j]? = some x → live x = true → ∃ y, δ.m[j]? = some y ∧ live y = true := fun {j x} hx nx => by
      rcases at' hx with ⟨e, ex⟩ | ⟨e, y, hy, ex⟩
      · subst ex; cases nx
      · subst ex; rw [live_fr] at nx; exact ⟨y, hy, nx⟩
    obtain ⟨x1, y1, z1⟩ := g h1 h3
    obtain ⟨x2, y2, z2⟩ := g h2 h4
    exact R.sto.inj a b l2 x1 x2 y1 y2 z1 z2 h5 h6
  · rw [List.getElem?_map] at ha
    cases q : δ.s[j]? with
    | none => rw [q] at ha; cases ha
    | some oa =>
      rw [q] at ha
      cases oa with
      | none => cases ha
      | some b =>
        cases ha
        obtain ⟨v, h1, h2⟩ := R.slot j b q
        exact ⟨v, h1, h2.fr t hl hD⟩
/-- a thing that is neither frozen nor of the store changes -/
theorem RepS.ghost {p : Addr} {o : HO} (R : RepS W E K mg F σ δ H) (nF : F.f p = none) (nO : p ∉ F.g) (hx : ∀ x, H p ≠ some (.own x)) (w : ∀ x C d F' σ' s' m' H', RepC K mg F' σ' s' m' H' → Stp F (upd H p o) F' H' → mg x = some (.ref C) → E x s' m' → W (.ref C) d σ' H') : RepS W E K mg F σ δ (upd H p o) := by
  have hn : ∀ l, l ∈ F.g → upd H p o l = H l := fun l hl => upd_ne fun z => nO (z ▸ hl)
  refine { toRepC := ⟨⟨fun b u e => ?_, R.sto.glen, fun i x h => ?_, R.sto.inj⟩, R.len, R.slot⟩, wish := w }
  · have ne : b ≠ p := fun z => by subst z; rw [nF] at e; cases e
    rw [upd_ne ne]; exact R.sto.sub b u e
  · obtain ⟨l, h1, h2⟩ := R.sto.obj i x h
    refine ⟨l, h1, ?_⟩
    split at h2
    · rename_i q
      rw [if_pos q]
      have hl := hn l (List.mem_of_getElem? h1)
      have t : Stp F H F (upd H p o) ∨ True := .inr trivial
      refine ⟨h2.1, ?_⟩
      have hown : ∀ dx y, H dx = some (.own y) → upd H p o dx = some (.own y) := fun dx y hd => by
        have ne : dx ≠ p := fun z => by subst z; exact hx y hd
        rw [upd_ne ne]; exact hd
      cases x with
      | fl xs => obtain ⟨vs, a1, a2⟩ := h2.2; exact ⟨vs, hl.trans a1, a2⟩
      | ls as => obtain ⟨vs, a1, a2⟩ := h2.2; exact ⟨vs, hl.trans a1, a2⟩
      | tu as => obtain ⟨vs, a1, a2⟩ := h2.2; exact ⟨vs, hl.trans a1, a2⟩
      | ins c fs => obtain ⟨C, dx, vs, a0, a1, a2, a3, a4, a5⟩ := h2.2; exact ⟨C, dx, vs, a0, hl.trans a1, hown _ _ a2, a3, a4, a5⟩
      | dk kvs => obtain ⟨us, a1, a2, a3⟩ := h2.2; exact ⟨us, hl.trans a1, a2, a3⟩
      | dt kvs => obtain ⟨us, a1, a2, a3⟩ := h2.2; exact ⟨us, hl.trans a1, a2, a3⟩
      | no => cases q
    · rename_i q
      rw [if_neg q]
      exact h2
theorem Stp.ghost {F0 : Fg} {H0 : Hp} {p : Addr} {o : HO} (s : Stp F0 H0 F H) (n : H0 p = none) : Stp F0 H0 F (upd H p o) :=
  ⟨s.ext, s.pre, s.new, fun b u e no => by rw [upd_ne (ne_of_none e n)]; exact s.frm b u e no, fun b e => by
    by_cases hb : b = p
    · subst hb; exact n
    · rw [upd_ne hb] at e; exact s.dom b e⟩
/-- the wish at an earlier state serves a later one -/
theorem RepS.wishAt {F0 : Fg} {H0 : Hp} {σ0 : L2.St} {δ0 : DSt} (R0 : RepS W E K mg F0 σ0 δ0 H0) (s : Stp F0 H0 F H) : ∀ x C d F' σ' s' m' H', RepC K mg F' σ' s' m' H' → Stp F H F' H' → mg x = some (.ref C) → E x s' m' → W (.ref C) d σ' H' :=
  fun x C d F2 σ2 s2 m2 H2 C2 t2 hm he => R0.wish x C d F2 σ2 s2 m2 H2 C2 (s.trans t2) hm he
/-- a new list, so far nobody's, goes to the store -/
theorem RepS.adopt {F0 : Fg} {H0 : Hp} {σ0 : L2.St} {δ0 : DSt} (R0 : RepS W E K mg F0 σ0 δ0 H0) (s : Stp F0 H0 F H) (R : RepC K mg F σ δ.s δ.m H) {p : Addr} {o : Mo} (n : H0 p = none) (nF : F.f p = none) (nO : p ∉ F.g) (nl : live o = true) (h : MoRep K mg ⟨F.f, F.g ++ [p]⟩ H p o) :
    RepS W E K mg ⟨F.f, F.g ++ [p]⟩ σ ⟨δ.s, δ.m ++ [o]⟩ H ∧ Stp F0 H0 ⟨F.f, F.g ++ [p]⟩ H := by
  obtain ⟨ns, e1, e2⟩ := s.pre
  have t : Stp F0 H0 ⟨F.f, F.g ++ [p]⟩ H := ⟨s.ext, ⟨ns ++ [p], by show F.g ++ [p] = _; rw [e1, List.append_assoc], fun l hl => by
    rcases List.mem_append.mp hl with hl | hl
    · exact e2 l hl
    · rw [List.mem_singleton] at hl; rw [hl]; exact n⟩, s.new, s.frm, s.dom⟩
  have gl : ∀ {i : Nat} {l : Addr}, F.g[i]? = some l → (F.g ++ [p])[i]? = some l := fun {i l} hi => by rw [List.getElem?_append_left (List.getElem?_eq_some_iff.mp hi).1]; exact hi
  have ga : ∀ {v : V} {a : Ar}, ArRep K F v a → ArRep K ⟨F.f, F.g ++ [p]⟩ v a := fun {v a} h => by
    cases a with
    | val d => exact h
    | fn f => exact h
    | sl i => obtain ⟨l, h1, h2⟩ := h; exact ⟨l, gl h1, h2⟩
  have gas : ∀ {vs : List V} {as : List Ar}, ArsRep K F vs as → ArsRep K ⟨F.f, F.g ++ [p]⟩ vs as := fun {vs} => by
    induction vs with
    | nil => intro as h; cases as with | nil => trivial | cons _ _ => exact h.elim
    | cons v vs ih => intro as h; cases as with | nil => exact h.elim | cons a as => exact ⟨ga h.1, ih h.2⟩
  have gm : ∀ {l : Addr} {x : Mo}, MoRep K mg F H l x → MoRep K mg ⟨F.f, F.g ++ [p]⟩ H l x := fun {l x} h => by
    cases x with
    | fl xs => exact h
    | ls as => obtain ⟨vs, a1, a2⟩ := h; exact ⟨vs, a1, gas a2⟩
    | tu as => obtain ⟨vs, a1, a2⟩ := h; exact ⟨vs, a1, gas a2⟩
    | ins c fs => obtain ⟨C, dx, vs, a0, a1, a2, a3, a4, a5⟩ := h; exact ⟨C, dx, vs, a0, a1, a2, a3, a4, gas a5⟩
    | dk kvs => obtain ⟨us, a1, a2, a3⟩ := h; exact ⟨us, a1, a2, gas a3⟩
    | dt kvs => obtain ⟨us, a1, a2, a3⟩ := h; exact ⟨us, a1, a2, gas a3⟩
    | no => trivial
  have gp : (F.g ++ [p])[δ.m.length]? = some p := by
    rw [List.getElem?_append_right (by rw [R.sto.glen]; exact Nat.le_refl _), R.sto.glen, Nat.sub_self]; rfl
  have glt : ∀ {i : Nat}, i < δ.m.length → (F.g ++ [p])[i]? = F.g[i]? := fun {i} hi => List.getElem?_append_left (by rw [R.sto.glen]; exact hi)
  have cases_ : ∀ {i : Nat} {x : Mo}, (δ.m ++ [o])[i]? = some x → (i < δ.m.length ∧ δ.m[i]? = some x) ∨ (i = δ.m.length ∧ x = o) := fun {i x} hx => by
    by_cases hi : i < δ.m.length
    · rw [List.getElem?_append_left hi] at hx; exact .inl ⟨hi, hx⟩
    · rw [List.getElem?_append_right (by omega)] at hx
      have : i - δ.m.length = 0 := by
        have := (List.getElem?_eq_some_iff.mp hx).1
        simpa using this
      rw [this] at hx
      exact .inr ⟨by omega, (Option.some.inj hx).symm⟩
  refine ⟨R0.next (s' := δ.s) (m' := δ.m ++ [o]) ⟨⟨R.sto.sub, by rw [List.length_append, List.length_append, R.sto.glen]; rfl, fun i x hx => ?_, fun i j l oi oj h1 h2 h3 h4 h5 h6 => ?_⟩, R.len, fun i a ha => ?_⟩ t, t⟩
  · rcases cases_ hx with ⟨hi, hx⟩ | ⟨hi, ex⟩
    · obtain ⟨l, h1, h2⟩ := R.sto.obj i x hx
      refine ⟨l, gl h1, ?_⟩
      split at h2
      · rename_i q
        rw [if_pos q]
        exact ⟨h2.1, gm h2.2⟩
      · rename_i q
        rw [if_neg q]
        exact h2
    · subst hi; subst ex
      exact ⟨p, gp, by rw [if_pos nl]; exact ⟨nF, h⟩⟩
  · have h5 : (F.g ++ [p])[i]? = some l := h5
    have h6 : (F.g ++ [p])[j]? = some l := h6
    rcases cases_ h1 with ⟨a1, a2⟩ | ⟨a1, a2⟩
    · rcases cases_ h2 with ⟨b1, b2⟩ | ⟨b1, b2⟩
      · rw [glt a1] at h5
        rw [glt b1] at h6
        exact R.sto.inj i j l oi oj a2 b2 h3 h4 h5 h6
      · subst b1
        rw [gp] at h6
        cases h6
        rw [glt a1] at h5
        exact absurd (List.mem_of_getElem? h5) nO
    · rcases cases_ h2 with ⟨b1, b2⟩ | ⟨b1, b2⟩
      · subst a1
        rw [gp] at h5
        cases h5
        rw [glt b1] at h6
        exact absurd (List.mem_of_getElem? h6) nO
      · rw [a1, b1]
  · obtain ⟨v, h1, h2⟩ := R.slot i a ha
    exact ⟨v, h1, ga h2⟩
/-- .. or becomes frozen data -/
theorem RepS.freezeNew {F0 : Fg} {H0 : Hp} {σ0 : L2.St} {δ0 : DSt} (R0 : RepS W E K mg F0 σ0 δ0 H0) (s : Stp F0 H0 F H) (R : RepC K mg F σ δ.s δ.m H) {l : Addr} {ws : List V} {xs : List PyData} (n : H0 l = none) (nF : F.f l = none) (nO : l ∉ F.g) (hH : H l = some (.lst ws)) (hA : DpAll K F.f ws xs) :
    RepS W E K mg ⟨upd F.f l (.lst ws), F.g⟩ σ δ H ∧ Stp F0 H0 ⟨upd F.f l (.lst ws), F.g⟩ H ∧ Dp K (upd F.f l (.lst ws)) (.ref l) (.list xs) := by
  have sF : Same F.f (upd F.f l (.lst ws)) := fun b u e => by rw [upd_ne (ne_of_none e nF)]; exact e
  have t : Stp F0 H0 ⟨upd F.f l (.lst ws), F.g⟩ H := ⟨s.ext.trans sF, s.pre, fun b u e => by
    by_cases hb : b = l
    · subst hb; exact .inr (.inl n)
    · have e : upd F.f l (.lst ws) b = some u := e
      rw [upd_ne hb] at e; exact s.new b u e, s.frm, s.dom⟩
  have t1 : Same F.f (upd F.f l (.lst ws)) := sF
  have ga : ∀ {v : V} {a : Ar}, ArRep K F v a → ArRep K ⟨upd F.f l (.lst ws), F.g⟩ v a := fun {v a} h => by
    cases a with
    | val d => exact Dp.mono sF _ _ h
    | fn f => exact h
    | sl i => exact h
  have gas : ∀ {vs : List V} {as : List Ar}, ArsRep K F vs as → ArsRep K ⟨upd F.f l (.lst ws), F.g⟩ vs as := fun {vs} => by
    induction vs with
    | nil => intro as h; cases as with | nil => trivial | cons _ _ => exact h.elim
    | cons v vs ih => intro as h; cases as with | nil => exact h.elim | cons a as => exact ⟨ga h.1, ih h.2⟩
  refine ⟨R0.next (s' := δ.s) (m' := δ.m) ⟨⟨fun b u e => ?_, R.sto.glen, fun i x hx => ?_, R.sto.inj⟩, R.len, fun i a ha => ?_⟩ t, t, .lst (SqL.of upd_same) (Dp.monoAll sF _ _ hA)⟩
  · have e : upd F.f l (.lst ws) b = some u := e
    by_cases hb : b = l
    · subst hb; rw [upd_same] at e; rw [hH]; exact e
    · rw [upd_ne hb] at e; exact R.sto.sub b u e
  · obtain ⟨p, h1, h2⟩ := R.sto.obj i x hx
    refine ⟨p, h1, ?_⟩
    have np : p ≠ l := fun z => nO (z ▸ List.mem_of_getElem? h1)
    split at h2
    · rename_i q
      rw [if_pos q]
      refine ⟨by show upd F.f l (.lst ws) p = none; rw [upd_ne np]; exact h2.1, ?_⟩
      have h3 := h2.2
      cases x with
      | fl xs => obtain ⟨vs, a1, a2⟩ := h3; exact ⟨vs, a1, Dp.monoAll sF _ _ a2⟩
      | ls as => obtain ⟨vs, a1, a2⟩ := h3; exact ⟨vs, a1, gas a2⟩
      | tu as => obtain ⟨vs, a1, a2⟩ := h3; exact ⟨vs, a1, gas a2⟩
      | ins c fs =>
        obtain ⟨C, dx, vs, a0, a1, a2, a3, a4, a5⟩ := h3
        have nd : dx ≠ l := fun z => by subst z; rw [hH] at a2; cases a2
        exact ⟨C, dx, vs, a0, a1, a2, by show upd F.f l (.lst ws) dx = none; rw [upd_ne nd]; exact a3, a4, gas a5⟩
      | dk kvs => obtain ⟨us, a1, a2, a3⟩ := h3; exact ⟨us, a1, a2, gas a3⟩
      | dt kvs => obtain ⟨us, a1, a2, a3⟩ := h3; exact ⟨us, a1, a2, gas a3⟩
      | no => cases q
    · rename_i q
      rw [if_neg q]
      show upd F.f l (.lst ws) p ≠ none
      rw [upd_ne np]; exact h2
  · obtain ⟨v, h1, h2⟩ := R.slot i a ha
    exact ⟨v, h1, ga h2⟩
end
end MM

namespace MM
open PySem PySem.Spec PyProof.Rows L2

/-! ### expressions -/
structure PD (W : WX) (E : EW) (X : Cx) (e : Expr) (f : DTE) : Prop where
  ex : ∃ te, PE X e te ∧ ∀ {F : Fg} {σ : L2.St} {δ : DSt} {H : Hp} {Q : VK} {C : Ar → DSt → Prop}, RepS W E X.K X.mg F σ δ H → f δ C →
    (∀ a δ' F' H' v, RepS W E X.K X.mg F' σ δ' H' → Stp F H F' H' → ArRep X.K F' v a → C a δ' → Q v H') → te σ H Q
structure PDT (W : WX) (E : EW) (X : Cx) (e : Expr) (f : DTT) : Prop where
  ex : ∃ te, PT X e te ∧ ∀ {F : Fg} {σ : L2.St} {δ : DSt} {H : Hp} {Q : Bool → Hp → Prop} {C : Bool → DSt → Prop}, RepS W E X.K X.mg F σ δ H → f δ C →
    (∀ a δ' F' H', RepS W E X.K X.mg F' σ δ' H' → Stp F H F' H' → C a δ' → Q a H') → te σ H Q
structure PDW (W : WX) (E : EW) (X : Cx) (e : Expr) (f : DTT) : Prop where
  ex : ∃ te, PW X e te ∧ ∀ {F : Fg} {σ : L2.St} {δ : DSt} {H : Hp} {Q : Bool → Hp → Prop} {C : Bool → DSt → Prop}, RepS W E X.K X.mg F σ δ H → f δ C →
    (∀ a δ' F' H', RepS W E X.K X.mg F' σ δ' H' → Stp F H F' H' → C a δ' → Q a H') → te σ H Q
structure PDA (W : WX) (E : EW) (X : Cx) (es : List Expr) (f : DTA) : Prop where
  ex : ∃ ta, PA X es ta ∧ ∀ {F : Fg} {σ : L2.St} {δ : DSt} {H : Hp} {Q : List V → Hp → Prop} {C : List Ar → DSt → Prop}, RepS W E X.K X.mg F σ δ H → f δ C →
    (∀ as δ' F' H' vs, RepS W E X.K X.mg F' σ δ' H' → Stp F H F' H' → ArsRep X.K F' vs as → C as δ' → Q vs H') → ta σ H Q
/-- an expression that gives a new list, nobody else's -/
structure PDN (W : WX) (E : EW) (X : Cx) (e : Expr) (f : DSt → (List PyData → DSt → Prop) → Prop) : Prop where
  ex : ∃ te, PE X e te ∧ ∀ {F : Fg} {σ : L2.St} {δ : DSt} {H : Hp} {Q : VK} {C : List PyData → DSt → Prop}, RepS W E X.K X.mg F σ δ H → f δ C →
    (∀ xs δ' F' H' l ws, RepS W E X.K X.mg F' σ δ' H' → Stp F H F' H' → F'.f l = none → H l = none → l ∉ F'.g → H' l = some (.lst ws) → DpAll X.K F' ws xs → C xs δ' → Q (.ref l) H') → te σ H Q

def dVar (i : Nat) : DTE := fun δ C => match δ.s[i]? with
  | some (some a) => C a δ
  | _ => False
def dC (d : PyData) : DTE := fun δ C => C (.val d) δ
/-- the data that a list of the store holds -/
def cont (δ : DSt) (i : Nat) : Option (List PyData) := match δ.m[i]? with
  | some (.fl xs) => some xs
  | _ => none
theorem cont_at {δ : DSt} {i : Nat} {xs : List PyData} (h : cont δ i = some xs) : δ.m[i]? = some (.fl xs) := by
  unfold cont at h
  split at h
  · cases h; assumption
  · cases h
/-- the data of what an expression gave, as it is now -/
def rd (δ : DSt) : Ar → Option PyData
  | .val d => some d
  | .sl i => (cont δ i).map PyData.list
  | .fn _ => none
/-- .. of frozen data alone -/
def rv : Ar → Option PyData
  | .val d => some d
  | .sl _ => none
  | .fn _ => none
section
variable {W : WX} {E : EW} {mg : Str → Option Value} {X : Cx} {K : PySem.W.Frag} {F : Fg} {H : Hp} {σ : L2.St} {δ : DSt}
theorem RepS.own (R : RepS W E K mg F σ δ H) {i : Nat} {xs : List PyData} (h : cont δ i = some xs) : ∃ l vs, F.g[i]? = some l ∧ F.f l = none ∧ H l = some (.lst vs) ∧ DpAll K F.f vs xs := by
  obtain ⟨l, h1, h2, vs, h3, h4⟩ := R.sto.at (cont_at h) rfl
  exact ⟨l, vs, h1, h2, h3, h4⟩
theorem ArRep.rd (R : RepS W E K mg F σ δ H) {v : V} {a : Ar} {d : PyData} (h : ArRep K F v a) (e : MM.rd δ a = some d) : Dp K H v d := by
  cases a with
  | val d' =>
    cases e
    exact Dp.mono R.sto.sub _ _ h
  | fn f => cases e
  | sl i =>
    have e : (cont δ i).map PyData.list = some d := e
    cases q : cont δ i with
    | none => rw [q] at e; cases e
    | some xs =>
      rw [q] at e
      cases e
      obtain ⟨l, vs, h1, _, h3, h4⟩ := R.own q
      obtain ⟨l', g1, rfl⟩ := h
      rw [h1] at g1
      cases g1
      exact .lst (SqL.of h3) (Dp.monoAll R.sto.sub _ _ h4)
theorem ArRep.rv {v : V} {a : Ar} {d : PyData} (h : ArRep K F v a) (e : MM.rv a = some d) : Dp K F v d := by
  cases a with
  | val d' => cases e; exact h
  | fn f => cases e
  | sl i => cases e
theorem pd_var (i : Nat) {x : Str} {pos : Pos} (hN : X.N[i]? = some x := by rfl) (hv : Vis X.env.scope x := by first | exact Or.inl rfl | exact Or.inr (Or.inl rfl) | exact Or.inr (Or.inr rfl)) (hd : (x == ("__debug__" : Str)) = false := by decide)
    (hcd : (x == ("__classdict__" : Str)) = false := by decide) : PD W E X (.Name x pos) (dVar i) := by
  refine ⟨_, pv i hN hv hd hcd, fun {F σ δ H Q C} R h k => ?_⟩
  unfold dVar at h
  split at h
  · rename_i a ha
    obtain ⟨v, h1, h2⟩ := R.slot i a ha
    exact ⟨v, h1, k a _ _ _ _ R .refl h2 h⟩
  · exact h.elim
theorem pd_c {e : Expr} {v : V} {d : PyData} (h : PE X e (tC v)) (hd : ∀ F, Dp X.K F v d) : PD W E X e (dC d) :=
  ⟨_, h, fun R c k => k (.val d) _ _ _ _ R .refl (hd _) c⟩
theorem pd_int {i j pos} : PD W E X (.Constant (.int i) j pos) (dC (.int i)) := pd_c pe_int fun _ => .int i
theorem pd_str {x j pos} : PD W E X (.Constant (.str x) j pos) (dC (.str x)) := pd_c pe_str fun _ => .str x
theorem pd_bl {b j pos} : PD W E X (.Constant (.bool b) j pos) (dC (.bool b)) := pd_c pe_bl fun _ => .bl b
theorem pd_non {j pos} : PD W E X (.Constant .none j pos) (dC .none) := pd_c pe_non fun _ => .non
theorem pd_globS {x : Str} {z : Str} {t : Tok} {pos : Pos} (hg : Gl X x) (hm : X.mg x = some (.str z t)) (hd : (x == ("__debug__" : Str)) = false := by decide) : PD W E X (.Name x pos) (dC (.str z)) := pd_c (v := .str z) (pe_glob hg hm ⟨_, rfl⟩ hd) fun _ => .str z
theorem pd_globI {x : Str} {z : Int} {t : Tok} {pos : Pos} (hg : Gl X x) (hm : X.mg x = some (.int z t)) (hd : (x == ("__debug__" : Str)) = false := by decide) : PD W E X (.Name x pos) (dC (.int z)) := pd_c (v := .int z) (pe_glob hg hm ⟨_, rfl⟩ hd) fun _ => .int z
/-- a module's tuple -/
theorem pd_globT {x : Str} {a : Addr} {d : PyData} {pos : Pos} (hg : Gl X x) (hm : X.mg x = some (.ref a)) (hT : ∀ F, Dp X.K F (.ref a) d) (hd : (x == ("__debug__" : Str)) = false := by decide) : PD W E X (.Name x pos) (dC d) := pd_c (v := .ref a) (pe_glob hg hm rfl hd) hT

/-! ### argument lists -/
def dNil : DTA := fun δ C => C [] δ
def dCons (f : DTE) (g : DTA) : DTA := fun δ C => f δ fun a δ1 => g δ1 fun as δ2 => C (a :: as) δ2
theorem pda_nil : PDA W E X [] dNil := ⟨_, pa_nil, fun R c k => k [] _ _ _ _ R .refl trivial c⟩
theorem pda_cons {e : Expr} {es : List Expr} {f : DTE} {g : DTA} (h1 : PD W E X e f) (h2 : PDA W E X es g) (hs : starEach (e :: es) X.env = (false, eval e X.env) :: starEach es X.env := by rfl) : PDA W E X (e :: es) (dCons f g) := by
  obtain ⟨te, p1, q1⟩ := h1
  obtain ⟨ta, p2, q2⟩ := h2
  refine ⟨_, pa_cons p1 p2 hs, fun R c k => ?_⟩
  refine q1 R c fun a δ1 F1 H1 v R1 s1 r1 c1 => ?_
  refine q2 R1 c1 fun as δ2 F2 H2 vs R2 s2 r2 c2 => ?_
  exact k (a :: as) _ _ _ _ R2 (s1.trans s2) ⟨r1.step s2, r2⟩ c2
/-- frozen data only -/
def rvs : List Ar → Option (List PyData)
  | [] => some []
  | .val d :: as => match rvs as with
    | some ds => some (d :: ds)
    | none => none
  | .sl _ :: _ => none
  | .fn _ :: _ => none
theorem ArsRep.rvs : ∀ {vs : List V} {as : List Ar} {ds : List PyData}, ArsRep K F vs as → MM.rvs as = some ds → DpAll K F vs ds
  | [], [], ds, _, e => by cases e; exact .nil
  | v :: vs, .val d :: as, ds, h, e => by
    unfold MM.rvs at e
    split at e
    · cases e; exact .cons h.1 (ArsRep.rvs h.2 ‹_›)
    · cases e
  | _ :: _, .sl _ :: _, _, _, e => by cases e
  | _ :: _, .fn _ :: _, _, _, e => by cases e
  | [], _ :: _, _, h, _ => h.elim
  | _ :: _, [], _, h, _ => h.elim

/-! ### two-place operators -/
abbrev DOp := PyData → PyData → (PyData → Prop) → Prop
def OpD (W : WX) (E : EW) (X : Cx) (f : Value → Value → Sem Value) (r : DOp) : Prop :=
  ∃ r' : R2, OpR X f r' ∧ ∀ {F : Fg} {σ : L2.St} {δ : DSt} {H : Hp} {x y : V} {d e : PyData} {Q : VK} {C : PyData → Prop}, RepS W E X.K X.mg F σ δ H → Dp X.K F x d → Dp X.K F y e → r d e C →
    (∀ z F' H' v, RepS W E X.K X.mg F' σ δ H' → Stp F H F' H' → Dp X.K F' v z → C z → Q v H') → r' x y H Q
theorem OpR.or {f : Value → Value → Sem Value} {r r' : R2} (h : OpR X f r) (h' : OpR X f r') : OpR X f (fun x y H Q => r x y H Q ∨ r' x y H Q) := by
  intro pins s σ H x y v u Q I rx ry q
  rcases q with q | q
  · exact h pins s σ H x y v u Q I rx ry q
  · exact h' pins s σ H x y v u Q I rx ry q
def dBin (r : DOp) (fa fb : DTE) : DTE := fun δ C => fa δ fun a δ1 => fb δ1 fun b δ2 => match rv a, rv b with
  | some d, some e => r d e fun z => C (.val z) δ2
  | _, _ => False
theorem pd_op {a b : Expr} {op : Operator} {r : DOp} {fa fb : DTE} {pos : Pos} (ho : OpD W E X (binaryOp op) r) (ha : PD W E X a fa) (hb : PD W E X b fb) : PD W E X (.BinOp a op b pos) (dBin r fa fb) := by
  obtain ⟨r', o1, o2⟩ := ho
  obtain ⟨te, p1, q1⟩ := ha
  obtain ⟨tb, p2, q2⟩ := hb
  refine ⟨_, pe_op o1 p1 p2, fun R c k => ?_⟩
  refine q1 R c fun a δ1 F1 H1 v R1 s1 r1 c1 => ?_
  refine q2 R1 c1 fun b δ2 F2 H2 w R2 s2 r2 c2 => ?_
  split at c2
  · rename_i d e h1 h2
    exact o2 R2 ((r1.step s2).rv h1) (r2.rv h2) c2 fun z F' H' v R3 s3 r3 c3 => k (.val z) _ _ _ _ R3 ((s1.trans s2).trans s3) r3 c3
  · exact c2.elim
/-- comparisons: the data as they are now -/
def OpC (X : Cx) (f : Value → Value → Sem Value) (r : PyData → PyData → (Bool → Prop) → Prop) : Prop :=
  ∃ r' : R2, OpR X f r' ∧ ∀ {H : Hp} {x y : V} {d e : PyData} {Q : VK} {C : Bool → Prop}, Dp X.K H x d → Dp X.K H y e → r d e C → (∀ b, C b → Q (.bl b) H) → r' x y H Q
abbrev DCp := PyData → PyData → (Bool → Prop) → Prop
def dCmp (r : DCp) (fa fb : DTE) : DTT := fun δ C => fa δ fun a δ1 => fb δ1 fun b δ2 => match rd δ2 a, rd δ2 b with
  | some d, some e => r d e fun z => C z δ2
  | _, _ => False
def dB (t : DTT) : DTE := fun δ C => t δ fun b δ1 => C (.val (.bool b)) δ1
/-- an operand stays what it is while the next one is reckoned -/
theorem pd_cmpCore {a b : Expr} {op : CmpOp} {r : DCp} {fa fb : DTE} {pos : Pos} (ho : OpC X (compareOp op) r) (ha : PD W E X a fa) (hb : PD W E X b fb) (hm : behindInMarks op b = false) :
    ∃ te, PE X (.Compare a [op] [b] pos) te ∧ ∀ {F : Fg} {σ : L2.St} {δ : DSt} {H : Hp} {Q : VK} {C : Bool → DSt → Prop}, RepS W E X.K X.mg F σ δ H → dCmp r fa fb δ C →
      (∀ z δ' F' H', RepS W E X.K X.mg F' σ δ' H' → Stp F H F' H' → C z δ' → Q (.bl z) H') → te σ H Q := by
  obtain ⟨r', o1, o2⟩ := ho
  obtain ⟨te, p1, q1⟩ := ha
  obtain ⟨tb, p2, q2⟩ := hb
  refine ⟨_, pe_cmpR o1 p1 p2 hm, fun R c k => ?_⟩
  refine q1 R c fun a δ1 F1 H1 v R1 s1 r1 c1 => ?_
  refine q2 R1 c1 fun b δ2 F2 H2 w R2 s2 r2 c2 => ?_
  split at c2
  · rename_i d e h1 h2
    exact o2 ((r1.step s2).rd R2 h1) (r2.rd R2 h2) c2 fun z c3 => k _ _ _ _ R2 (s1.trans s2) c3
  · exact c2.elim
theorem pd_cmp {a b : Expr} {op : CmpOp} {r : DCp} {fa fb : DTE} {pos : Pos} (ho : OpC X (compareOp op) r) (ha : PD W E X a fa) (hb : PD W E X b fb) (hm : behindInMarks op b = false := by first | exact nomark _ | rfl) : PD W E X (.Compare a [op] [b] pos) (dB (dCmp r fa fb)) := by
  obtain ⟨te, p, q⟩ := pd_cmpCore ho ha hb hm
  exact ⟨te, p, fun R c k => q R c fun z δ' F' H' R' s' c' => k (.val (.bool z)) _ _ _ _ R' s' (Dp.bl z) c'⟩
theorem pdt_cmp {a b : Expr} {op : CmpOp} {r : DCp} {fa fb : DTE} {pos : Pos} (ho : OpC X (compareOp op) r) (ha : PD W E X a fa) (hb : PD W E X b fb) (hm : behindInMarks op b = false := by first | exact nomark _ | rfl) : PDT W E X (.Compare a [op] [b] pos) (dCmp r fa fb) := by
  obtain ⟨r', o1, o2⟩ := ho
  obtain ⟨te, p1, q1⟩ := ha
  obtain ⟨tb, p2, q2⟩ := hb
  refine ⟨_, pt_cmpR o1 p1 p2 hm, fun R c k => ?_⟩
  refine q1 R c fun a δ1 F1 H1 v R1 s1 r1 c1 => ?_
  refine q2 R1 c1 fun b δ2 F2 H2 w R2 s2 r2 c2 => ?_
  split at c2
  · rename_i d e h1 h2
    exact o2 ((r1.step s2).rd R2 h1) (r2.rd R2 h2) c2 fun z c3 => ⟨z, rfl, k _ _ _ _ R2 (s1.trans s2) c3⟩
  · exact c2.elim

/-! ### tests -/
def dT (f : DTE) : DTT := fun δ C => f δ fun a δ1 => match rd δ1 a with
  | some (.bool b) => C b δ1
  | _ => False
/-- an expression that gives True or False, as a test -/
theorem pdt_val {e : Expr} {f : DTE} (h : PD W E X e f) (he : ∀ whole, isTrue e X.env whole = (do let v ← whole; standAt e.pos; holding [v] (truthy v)) := by intro _; rfl) : PDT W E X e (dT f) := by
  obtain ⟨te, p, q⟩ := h
  refine ⟨_, pt_val p he, fun R c k => ?_⟩
  refine q R c fun a δ1 F1 H1 v R1 s1 r1 c1 => ?_
  split at c1
  · rename_i b hb
    have := r1.rd R1 hb
    cases this
    exact ⟨b, rfl, k _ _ _ _ R1 s1 c1⟩
  · exact c1.elim
def truD : PyData → (Bool → Prop) → Prop
  | .none, C => C false
  | .bool b, C => C b
  | .int i, C => C (i != 0)
  | .str z, C => z.length ≤ sizeLine ∧ C ((z.length : Int) != 0)
  | .list xs, C => C (!xs.isEmpty)
  | .tuple xs, C => C (!xs.isEmpty)
  | _, _ => False
def dTru (f : DTE) : DTT := fun δ C => f δ fun a δ1 => match rd δ1 a with
  | some d => truD d fun b => C b δ1
  | _ => False
theorem empty_iff {K : PySem.W.Frag} {F : Hp} {vs : List V} {xs : List PyData} (h : DpAll K F vs xs) : vs.isEmpty = xs.isEmpty := by
  cases h <;> rfl
theorem pdt_tru {e : Expr} {f : DTE} (h : PD W E X e f) (he : ∀ whole, isTrue e X.env whole = (do let v ← whole; standAt e.pos; holding [v] (truthy v)) := by intro _; rfl) : PDT W E X e (dTru f) := by
  obtain ⟨te, p, q⟩ := h
  refine ⟨_, pt_truth p he, fun R c k => ?_⟩
  refine q R c fun a δ1 F1 H1 v R1 s1 r1 c1 => ?_
  split at c1
  · rename_i d hb
    have hd := r1.rd R1 hb
    cases d with
    | none => cases hd; exact ⟨_, rfl, k _ _ _ _ R1 s1 c1⟩
    | bool b => cases hd; exact ⟨_, rfl, k _ _ _ _ R1 s1 c1⟩
    | int i => cases hd; exact ⟨_, rfl, k _ _ _ _ R1 s1 c1⟩
    | str z => cases hd; exact ⟨_, ⟨c1.1, rfl⟩, k _ _ _ _ R1 s1 c1.2⟩
    | list xs =>
      cases hd with
      | lst hs ha => exact ⟨_, .inl ⟨_, hs, rfl⟩, k _ _ _ _ R1 s1 (by rw [empty_iff ha]; exact c1)⟩
    | tuple xs =>
      cases hd with
      | tup hs ha => exact ⟨_, .inr (.inl ⟨_, hs, rfl⟩), k _ _ _ _ R1 s1 (by rw [empty_iff ha]; exact c1)⟩
    | dict _ => cases hd
  · exact c1.elim
def dNot (t : DTT) : DTT := fun δ C => t δ fun b δ1 => C (!b) δ1
def dAnd (t u : DTT) : DTT := fun δ C => t δ fun b δ1 => (b = true → u δ1 C) ∧ (b = false → C false δ1)
def dOr (t u : DTT) : DTT := fun δ C => t δ fun b δ1 => (b = true → C true δ1) ∧ (b = false → u δ1 C)
theorem pdt_not {a : Expr} {t : DTT} {pos : Pos} (h : PDT W E X a t) : PDT W E X (.UnaryOp .Not a pos) (dNot t) := by
  obtain ⟨te, p, q⟩ := h
  exact ⟨_, pt_not p, fun R c k => q R c fun b δ1 F1 H1 R1 s1 c1 => k _ _ _ _ R1 s1 c1⟩
theorem PDW.pt {e : Expr} {t : DTT} (h : PDW W E X e t) : PDT W E X e t := by
  obtain ⟨te, p, q⟩ := h
  exact ⟨_, p.pt, q⟩
theorem pdw_and1 {a : Expr} {t : DTT} {pos : Pos} (h : PDT W E X a t) : PDW W E X (.BoolOp .And [a] pos) t := by
  obtain ⟨te, p, q⟩ := h
  exact ⟨_, pw_and1 p, q⟩
theorem pdw_or1 {a : Expr} {t : DTT} {pos : Pos} (h : PDT W E X a t) : PDW W E X (.BoolOp .Or [a] pos) t := by
  obtain ⟨te, p, q⟩ := h
  exact ⟨_, pw_or1 p, q⟩
theorem pdw_and {a b : Expr} {rest : List Expr} {t u : DTT} {pos : Pos} (h : PDT W E X a t) (h2 : PDW W E X (.BoolOp .And (b :: rest) pos) u) : PDW W E X (.BoolOp .And (a :: b :: rest) pos) (dAnd t u) := by
  obtain ⟨te, p, q⟩ := h
  obtain ⟨tf, p2, q2⟩ := h2
  refine ⟨_, pw_and p p2, fun R c k => ?_⟩
  refine q R c fun b δ1 F1 H1 R1 s1 c1 => ?_
  cases b with
  | true => exact iteT (q2 R1 (c1.1 rfl) fun b δ2 F2 H2 R2 s2 c2 => k _ _ _ _ R2 (s1.trans s2) c2)
  | false => exact iteF (k _ _ _ _ R1 s1 (c1.2 rfl))
theorem pdw_or {a b : Expr} {rest : List Expr} {t u : DTT} {pos : Pos} (h : PDT W E X a t) (h2 : PDW W E X (.BoolOp .Or (b :: rest) pos) u) : PDW W E X (.BoolOp .Or (a :: b :: rest) pos) (dOr t u) := by
  obtain ⟨te, p, q⟩ := h
  obtain ⟨tf, p2, q2⟩ := h2
  refine ⟨_, pw_or p p2, fun R c k => ?_⟩
  refine q R c fun b δ1 F1 H1 R1 s1 c1 => ?_
  cases b with
  | true => exact iteT (k _ _ _ _ R1 s1 (c1.1 rfl))
  | false => exact iteF (q2 R1 (c1.2 rfl) fun b δ2 F2 H2 R2 s2 c2 => k _ _ _ _ R2 (s1.trans s2) c2)
/-- as values: bools -/
def dAndV (f g : DTE) : DTE := fun δ C => f δ fun a δ1 => match a with
  | .val (.bool b) => (b = true → g δ1 C) ∧ (b = false → C (.val (.bool false)) δ1)
  | _ => False
def dOrV (f g : DTE) : DTE := fun δ C => f δ fun a δ1 => match a with
  | .val (.bool b) => (b = true → C (.val (.bool true)) δ1) ∧ (b = false → g δ1 C)
  | _ => False
def dNotV (f : DTE) : DTE := fun δ C => f δ fun a δ1 => match a with
  | .val (.bool b) => C (.val (.bool (!b))) δ1
  | _ => False
theorem pd_one {op} {a : Expr} {f : DTE} {pos : Pos} (h : PD W E X a f) : PD W E X (.BoolOp op [a] pos) f := by
  obtain ⟨te, p, q⟩ := h
  exact ⟨_, pe_one p, q⟩
theorem pd_and {a b : Expr} {rest : List Expr} {f g : DTE} {pos : Pos} (h : PD W E X a f) (h2 : PD W E X (.BoolOp .And (b :: rest) pos) g) : PD W E X (.BoolOp .And (a :: b :: rest) pos) (dAndV f g) := by
  obtain ⟨te, p, q⟩ := h
  obtain ⟨tf, p2, q2⟩ := h2
  refine ⟨_, pe_and p p2, fun R c k => ?_⟩
  refine q R c fun a δ1 F1 H1 v R1 s1 r1 c1 => ?_
  split at c1
  · rename_i b
    cases (show Dp X.K F1 v (.bool b) from r1)
    refine ⟨b, rfl, ?_⟩
    cases b with
    | true => exact iteT (q2 R1 (c1.1 rfl) fun b δ2 F2 H2 v2 R2 s2 r2 c2 => k _ _ _ _ _ R2 (s1.trans s2) r2 c2)
    | false => exact iteF (k (.val (.bool false)) _ _ _ _ R1 s1 (Dp.bl false) (c1.2 rfl))
  · exact c1.elim
theorem pd_or {a b : Expr} {rest : List Expr} {f g : DTE} {pos : Pos} (h : PD W E X a f) (h2 : PD W E X (.BoolOp .Or (b :: rest) pos) g) : PD W E X (.BoolOp .Or (a :: b :: rest) pos) (dOrV f g) := by
  obtain ⟨te, p, q⟩ := h
  obtain ⟨tf, p2, q2⟩ := h2
  refine ⟨_, pe_or p p2, fun R c k => ?_⟩
  refine q R c fun a δ1 F1 H1 v R1 s1 r1 c1 => ?_
  split at c1
  · rename_i b
    cases (show Dp X.K F1 v (.bool b) from r1)
    refine ⟨b, rfl, ?_⟩
    cases b with
    | true => exact iteT (k (.val (.bool true)) _ _ _ _ R1 s1 (Dp.bl true) (c1.1 rfl))
    | false => exact iteF (q2 R1 (c1.2 rfl) fun b δ2 F2 H2 v2 R2 s2 r2 c2 => k _ _ _ _ _ R2 (s1.trans s2) r2 c2)
  · exact c1.elim
theorem pd_not {a : Expr} {f : DTE} {pos : Pos} (h : PD W E X a f) : PD W E X (.UnaryOp .Not a pos) (dNotV f) := by
  obtain ⟨te, p, q⟩ := h
  refine ⟨_, pe_not p, fun R c k => ?_⟩
  refine q R c fun a δ1 F1 H1 v R1 s1 r1 c1 => ?_
  split at c1
  · rename_i b
    cases (show Dp X.K F1 v (.bool b) from r1)
    exact ⟨b, rfl, k (.val (.bool (!b))) _ _ _ _ R1 s1 (Dp.bl _) c1⟩
  · exact c1.elim
def dIfE (t : DTT) (f g : DTE) : DTE := fun δ C => t δ fun b δ1 => (b = true → f δ1 C) ∧ (b = false → g δ1 C)
theorem pd_if {c a b : Expr} {t : DTT} {f g : DTE} {pos : Pos} (hc : PDT W E X c t) (ha : PD W E X a f) (hb : PD W E X b g) : PD W E X (.IfExp c a b pos) (dIfE t f g) := by
  obtain ⟨tc, p, q⟩ := hc
  obtain ⟨ta, pa, qa⟩ := ha
  obtain ⟨tb, pb, qb⟩ := hb
  refine ⟨_, pe_ifExp p pa pb, fun R c k => ?_⟩
  refine q R c fun b δ1 F1 H1 R1 s1 c1 => ?_
  cases b with
  | true => exact iteT (qa R1 (c1.1 rfl) fun b δ2 F2 H2 v2 R2 s2 r2 c2 => k _ _ _ _ _ R2 (s1.trans s2) r2 c2)
  | false => exact iteF (qb R1 (c1.2 rfl) fun b δ2 F2 H2 v2 R2 s2 r2 c2 => k _ _ _ _ _ R2 (s1.trans s2) r2 c2)

/-! ### displays -/
def dTup (f : DTA) : DTE := fun δ C => f δ fun as δ1 => match rvs as with
  | some ds => ds.length ≤ sizeLine ∧ C (.val (.tuple ds)) δ1
  | none => False
theorem pd_tup {es : List Expr} {x1} {f : DTA} {pos : Pos} (h : PDA W E X es f) : PD W E X (.Tuple es x1 pos) (dTup f) := by
  obtain ⟨ta, p, q⟩ := h
  refine ⟨_, pe_tup p, fun R c k => ?_⟩
  refine q R c fun as δ1 F1 H1 vs R1 s1 r1 c1 => ?_
  split at c1
  · rename_i ds hd
    have hA := r1.rvs hd
    refine ⟨by rw [hA.length]; exact c1.1, fun p np => ?_⟩
    obtain ⟨R2, s2⟩ := R1.alloc (o := .tup vs) np
    exact k (.val (.tuple ds)) _ _ _ _ R2 (s1.trans s2) (Dp.tup (SqT.of upd_same) (Dp.monoAll s2.ext _ _ hA)) c1.2
  · exact c1.elim
def dLstN (f : DTA) : DSt → (List PyData → DSt → Prop) → Prop := fun δ C => f δ fun as δ1 => match rvs as with
  | some ds => ds.length ≤ sizeLine ∧ C ds δ1
  | none => False
/-- a heap with a new list, not frozen -/
theorem RepS.fresh {p : Addr} {o : HO} (R : RepS W E K mg F σ δ H) (n : H p = none) : RepS W E K mg F σ δ (upd H p o) ∧ Stp F H F (upd H p o) ∧ F.f p = none ∧ p ∉ F.g := by
  have nF : F.f p = none := R.sto.sub.free n
  obtain ⟨R2, s2⟩ := R.grow (H' := upd H p o) fun b u e => by rw [upd_ne (ne_of_none e n)]; exact e
  refine ⟨R2, s2, nF, fun h => ?_⟩
  obtain ⟨u, e⟩ := R.sto.liveAt h nF
  rw [n] at e; cases e
theorem pdn_lst {es : List Expr} {f : DTA} {pos : Pos} (h : PDA W E X es f) : PDN W E X (.List es pos) (dLstN f) := by
  obtain ⟨ta, p, q⟩ := h
  refine ⟨_, pe_lst p, fun {F σ δ H Q C} R c k => ?_⟩
  refine q R c fun as δ1 F1 H1 vs R1 s1 r1 c1 => ?_
  split at c1
  · rename_i ds hd
    have hA := r1.rvs hd
    refine ⟨by rw [hA.length]; exact c1.1, fun p np => ?_⟩
    obtain ⟨R2, s2, nF, nO⟩ := R1.fresh (o := .lst vs) np
    exact k _ _ _ _ _ _ R2 (s1.trans s2) nF (s1.dom _ np) nO upd_same hA c1.2
  · exact c1.elim
/-- a new list becomes frozen data -/
def dFr (f : DSt → (List PyData → DSt → Prop) → Prop) : DTE := fun δ C => f δ fun xs δ1 => C (.val (.list xs)) δ1
theorem pd_new {e : Expr} {f : DSt → (List PyData → DSt → Prop) → Prop} (h : PDN W E X e f) : PD W E X e (dFr f) := by
  obtain ⟨te, p, q⟩ := h
  refine ⟨te, p, fun {F σ δ H Q C} R c k => ?_⟩
  refine q R c fun xs δ1 F1 H1 l ws R1 s1 nF nH nO hH hA c1 => ?_
  obtain ⟨R2, s2, hD⟩ := R.freezeNew s1 R1.toRepC nH nF nO hH hA
  exact k (.val (.list xs)) _ _ _ _ R2 s2 hD c1
/-- a new list goes to the store -/
def dNw (f : DSt → (List PyData → DSt → Prop) → Prop) : DTE := fun δ C => f δ fun xs δ1 => C (.sl δ1.m.length) ⟨δ1.s, δ1.m ++ [.fl xs]⟩
theorem pd_newS {e : Expr} {f : DSt → (List PyData → DSt → Prop) → Prop} (h : PDN W E X e f) : PD W E X e (dNw f) := by
  obtain ⟨te, p, q⟩ := h
  refine ⟨te, p, fun {F σ δ H Q C} R c k => ?_⟩
  refine q R c fun xs δ1 F1 H1 l ws R1 s1 nF nH nO hH hA c1 => ?_
  obtain ⟨R2, s2⟩ := R.adopt (o := .fl xs) s1 R1.toRepC nH nF nO rfl ⟨ws, hH, hA⟩
  refine k (.sl δ1.m.length) _ _ _ _ R2 s2 ⟨l, ?_, rfl⟩ c1
  show (F1.g ++ [l])[δ1.m.length]? = some l
  rw [List.getElem?_append_right (by rw [R1.sto.glen]; exact Nat.le_refl _), R1.sto.glen, Nat.sub_self]; rfl
end
end MM

namespace MM
open PySem PySem.Spec PyProof.Rows L2
section
variable {W : WX} {E : EW} {mg : Str → Option Value} {X : Cx} {K : PySem.W.Frag} {F : Fg} {H : Hp} {σ : L2.St} {δ : DSt}

/-! ### arithmetic -/
def aAdd : DOp := fun d e C => match d, e with
  | .int i, .int j => C (.int (i + j))
  | .str a, .str b => a.length + b.length ≤ sizeLine ∧ C (.str (a ++ b))
  | .tuple xs, .tuple ys => xs.length + ys.length ≤ sizeLine ∧ C (.tuple (xs ++ ys))
  | _, _ => False
theorem od_add : OpD W E X (binaryOp .Add) aAdd := by
  refine ⟨_, OpR.or op_add (OpR.or op_add_str op_catA), fun {F σ δ H x y d e Q C} R hx hy c k => ?_⟩
  unfold aAdd at c
  split at c
  · cases hx; cases hy
    exact .inl ⟨_, _, rfl, rfl, k _ _ _ _ R .refl (.int _) c⟩
  · cases hx; cases hy
    exact .inr (.inl ⟨_, _, rfl, rfl, c.1, k _ _ _ _ R .refl (.str _) c.2⟩)
  · cases hx with
    | tup h1 a1 =>
      cases hy with
      | tup h2 a2 =>
        rename_i ds es a xs b ys
        refine .inr (.inr ⟨_, _, _, _, rfl, rfl, seqT R.sto.sub h1, seqT R.sto.sub h2, by rw [a1.length, a2.length]; exact c.1, fun e => ?_, fun n e => ?_, fun n m p np => ?_⟩)
        · subst e
          cases a1
          exact k _ _ _ _ R .refl (.tup h2 a2) c.2
        · subst e
          cases a2
          refine k _ _ _ _ R .refl (.tup h1 ?_) c.2
          rw [List.append_nil]
          exact a1
        · obtain ⟨R2, s2⟩ := R.alloc (o := .tup (xs ++ ys)) np
          exact k _ _ _ _ R2 s2 (.tup (SqT.of upd_same) (Dp.monoAll s2.ext _ _ (a1.append a2))) c.2
  · exact c.elim
def aSub : DOp := fun d e C => match d, e with
  | .int i, .int j => C (.int (i - j))
  | _, _ => False
theorem od_sub : OpD W E X (binaryOp .Sub) aSub := by
  refine ⟨_, op_sub, fun {F σ δ H x y d e Q C} R hx hy c k => ?_⟩
  unfold aSub at c
  split at c
  · cases hx; cases hy
    exact ⟨_, _, rfl, rfl, k _ _ _ _ R .refl (.int _) c⟩
  · exact c.elim
def aMod : DOp := fun d e C => match d, e with
  | .int i, .int j => 0 < j ∧ C (.int (i % j))
  | _, _ => False
theorem od_mod : OpD W E X (binaryOp .Mod) aMod := by
  refine ⟨_, op_mod, fun {F σ δ H x y d e Q C} R hx hy c k => ?_⟩
  unfold aMod at c
  split at c
  · cases hx; cases hy
    exact ⟨_, _, rfl, rfl, c.1, k _ _ _ _ R .refl (.int _) c.2⟩
  · exact c.elim
def aDiv : DOp := fun d e C => match d, e with
  | .int i, .int j => (0 < j ∧ j < 1073741824) ∧ C (.int (i / j))
  | _, _ => False
theorem od_div : OpD W E X (binaryOp .FloorDiv) aDiv := by
  refine ⟨_, op_fdiv, fun {F σ δ H x y d e Q C} R hx hy c k => ?_⟩
  unfold aDiv at c
  split at c
  · cases hx; cases hy
    exact ⟨_, _, rfl, rfl, c.1, k _ _ _ _ R .refl (.int _) c.2⟩
  · exact c.elim
def aPow : DOp := fun d e C => match d, e with
  | .int i, .int j => CPow i j ∧ C (.int (i ^ j.toNat))
  | _, _ => False
theorem od_pow : OpD W E X (binaryOp .Pow) aPow := by
  refine ⟨_, op_pow, fun {F σ δ H x y d e Q C} R hx hy c k => ?_⟩
  unfold aPow at c
  split at c
  · cases hx; cases hy
    exact ⟨_, _, rfl, rfl, c.1, k _ _ _ _ R .refl (.int _) c.2⟩
  · exact c.elim
/-- a text, n times -/
def strRep (a : Str) (n : Nat) : Str := ⟨(List.replicate n a.cps.toList).flatten.toArray⟩
theorem foldl_arr (x : Array Nat) : ∀ (n : Nat) (acc : Array Nat), ((List.replicate n x).foldl (· ++ ·) acc) = acc ++ (List.replicate n x.toList).flatten.toArray
  | 0, acc => by simp
  | n + 1, acc => by
    rw [List.replicate_succ, List.foldl_cons, foldl_arr x n (acc ++ x), List.replicate_succ, List.flatten_cons]
    apply Array.ext'
    simp
theorem op_mul_str : OpR X (binaryOp .Mult) (fun x y H Q => ∃ a n, x = .str a ∧ y = .int n ∧ -(2 ^ 62) ≤ n ∧ n < 2 ^ 62 ∧ a.length * n.toNat ≤ sizeLine ∧ Q (.str (strRep a n.toNat)) H) := by
  intro pins s σ H x y v u Q I rx ry h
  obtain ⟨a, n, rfl, rfl, h1, h2, hz, q⟩ := h
  obtain ⟨t, rfl⟩ := rx
  obtain ⟨t', rfl⟩ := ry
  have hs : sizeLine = 16777216 := sizeLine_eq
  refine PySem.P.mul_str ?_ (fun hn hb => ?_) (fun hn hb => ?_) ?_
  · rw [decide_eq_false (by omega), decide_eq_false (by omega)]; rfl
  · have hn0 : 0 < n := by omega
    have e : ((a.length * n.toNat : Nat) : Int) = (a.length : Int) * n := by
      rw [Int.natCast_mul, Int.toNat_of_nonneg (by omega)]
    intro hgt
    have h3 : (a.length : Int) * n ≤ 2 ^ 63 - 1 := by rw [← e]; omega
    have h4 : (a.length : Int) ≤ (2 ^ 63 - 1) / n := (Int.le_ediv_iff_mul_le hn0).mpr h3
    omega
  · unfold Builtin.Str.tooLong
    exact decide_eq_false (by omega)
  · have key : ∀ z : Str, z = strRep a n.toNat → ∀ (t : Tok) (k : Nat), EP X pins σ Q (.str z t) { s with toks := k } := fun z e t k => ⟨.str z, H, I.tok _, ⟨_, rfl⟩, by rw [e]; exact q⟩
    by_cases hn : n < 1
    · rw [if_pos hn]
      have e0 : n.toNat = 0 := by omega
      exact ⟨by decide, key _ (by rw [e0]; rfl) _ _⟩
    · rw [if_neg hn]
      by_cases hb : (n == 1 || a.length == 0) = true
      · rw [if_pos hb]
        refine key _ ?_ t s.toks
        rw [Bool.or_eq_true] at hb
        rcases hb with hb | hb
        · have e1 : n = 1 := by simpa using hb
          subst e1
          show a = strRep a 1
          unfold strRep
          simp
        · have e1 : a.cps.toList = [] := by
            have : a.cps.size = 0 := by simpa [Str.length] using hb
            simpa using this
          have e2 : ∀ m : Nat, (List.replicate m ([] : List Nat)).flatten = [] := fun m => by simp
          unfold strRep
          rw [e1, e2]
          refine TL.ext_tl ?_
          exact e1
      · rw [if_neg hb]
        have e : (⟨(List.replicate n.toNat a.cps).foldl (· ++ ·) #[]⟩ : Str) = strRep a n.toNat := by
          unfold strRep
          rw [foldl_arr]
          simp
        rw [e]
        have hl : (strRep a n.toNat).length ≤ sizeLine := by
          show ((List.replicate n.toNat a.cps.toList).flatten.toArray).size ≤ sizeLine
          rw [List.size_toArray, List.length_flatten, List.map_replicate, List.sum_replicate_nat, Array.length_toList]
          rw [Nat.mul_comm]
          exact hz
        exact ⟨by show (strRep a n.toNat).length ≤ sizeLine; exact hl, key _ rfl _ _⟩
def aMul : DOp := fun d e C => match d, e with
  | .int i, .int j => CMul i j ∧ C (.int (i * j))
  | .str a, .int n => -(2 ^ 62) ≤ n ∧ n < 2 ^ 62 ∧ a.length * n.toNat ≤ sizeLine ∧ C (.str (strRep a n.toNat))
  | _, _ => False
theorem od_mul : OpD W E X (binaryOp .Mult) aMul := by
  refine ⟨_, OpR.or op_mul op_mul_str, fun {F σ δ H x y d e Q C} R hx hy c k => ?_⟩
  unfold aMul at c
  split at c
  · cases hx; cases hy
    exact .inl ⟨_, _, rfl, rfl, c.1, k _ _ _ _ R .refl (.int _) c.2⟩
  · cases hx; cases hy
    exact .inr ⟨_, _, rfl, rfl, c.1, c.2.1, c.2.2.1, k _ _ _ _ R .refl (.str _) c.2.2.2⟩
  · exact c.elim
def aNeg : PyData → (PyData → Prop) → Prop := fun d C => match d with
  | .int i => C (.int (-i))
  | _ => False
def dUn (r : PyData → (PyData → Prop) → Prop) (f : DTE) : DTE := fun δ C => f δ fun a δ1 => match rv a with
  | some d => r d fun z => C (.val z) δ1
  | none => False
theorem pd_neg {a : Expr} {f : DTE} {pos : Pos} (h : PD W E X a f) : PD W E X (.UnaryOp .USub a pos) (dUn aNeg f) := by
  obtain ⟨te, p, q⟩ := h
  refine ⟨_, pe_un un_neg p, fun R c k => ?_⟩
  refine q R c fun a δ1 F1 H1 v R1 s1 r1 c1 => ?_
  split at c1
  · rename_i d hd
    have hd := r1.rv hd
    unfold aNeg at c1
    split at c1
    · cases hd
      exact ⟨_, rfl, k (.val (.int _)) _ _ _ _ R1 s1 (Dp.int _) c1⟩
    · exact c1.elim
  · exact c1.elim

/-! ### comparisons -/
def cLt : DCp := fun d e C => match d, e with
  | .int i, .int j => C (decide (i < j))
  | .str a, .str b => C (decide (a.cps.toList < b.cps.toList))
  | _, _ => False
def cLe : DCp := fun d e C => match d, e with
  | .int i, .int j => C (decide (i ≤ j))
  | .str a, .str b => C (!decide (b.cps.toList < a.cps.toList))
  | _, _ => False
def cGt : DCp := fun d e C => match d, e with
  | .int i, .int j => C (decide (j < i))
  | .str a, .str b => C (decide (b.cps.toList < a.cps.toList))
  | _, _ => False
def cGe : DCp := fun d e C => match d, e with
  | .int i, .int j => C (decide (j ≤ i))
  | .str a, .str b => C (!decide (a.cps.toList < b.cps.toList))
  | _, _ => False
theorem oc_lt : OpC X (compareOp .Lt) cLt := by
  refine ⟨_, OpR.or op_lt op_lt_str, fun {H x y d e Q C} hx hy c k => ?_⟩
  unfold cLt at c
  split at c
  · cases hx; cases hy; exact .inl ⟨_, _, rfl, rfl, k _ c⟩
  · cases hx; cases hy; exact .inr ⟨_, _, rfl, rfl, k _ c⟩
  · exact c.elim
theorem oc_le : OpC X (compareOp .LtE) cLe := by
  refine ⟨_, OpR.or op_le op_le_str, fun {H x y d e Q C} hx hy c k => ?_⟩
  unfold cLe at c
  split at c
  · cases hx; cases hy; exact .inl ⟨_, _, rfl, rfl, k _ c⟩
  · cases hx; cases hy; exact .inr ⟨_, _, rfl, rfl, k _ c⟩
  · exact c.elim
theorem oc_gt : OpC X (compareOp .Gt) cGt := by
  refine ⟨_, OpR.or op_gt op_gt_str, fun {H x y d e Q C} hx hy c k => ?_⟩
  unfold cGt at c
  split at c
  · cases hx; cases hy; exact .inl ⟨_, _, rfl, rfl, k _ c⟩
  · cases hx; cases hy; exact .inr ⟨_, _, rfl, rfl, k _ c⟩
  · exact c.elim
theorem oc_ge : OpC X (compareOp .GtE) cGe := by
  refine ⟨_, OpR.or op_ge op_ge_str, fun {H x y d e Q C} hx hy c k => ?_⟩
  unfold cGe at c
  split at c
  · cases hx; cases hy; exact .inl ⟨_, _, rfl, rfl, k _ c⟩
  · cases hx; cases hy; exact .inr ⟨_, _, rfl, rfl, k _ c⟩
  · exact c.elim
/-- two ints or two texts at once; any other data when they are of a known shape -/
def cEq (neg : Bool) : DCp := fun d e C => match d, e with
  | .int i, .int j => C (if neg then !decide (i = j) else decide (i = j))
  | .str a, .str b => C (if neg then !decide (a = b) else decide (a = b))
  | d, e => SeqAt.shaped d = true ∧ SeqAt.shaped e = true ∧ C (if neg then !PyData.eqv d e else PyData.eqv d e)
theorem decV_int {i j : Int} : decide (V.int i = V.int j) = decide (i = j) := by
  rw [dec_int, Bool.beq_eq_decide_eq]
theorem decV_str {i j : Str} : decide (V.str i = V.str j) = decide (i = j) := by
  rw [dec_str, Bool.beq_eq_decide_eq]
theorem oc_eq (hu : X.A.units + 64 < cLine) : OpC X (compareOp .Eq) (cEq false) := by
  refine ⟨_, OpR.or op_eq (op_eqD hu), fun {H x y d e Q C} hx hy c k => ?_⟩
  unfold cEq at c
  split at c
  · cases hx; cases hy; exact .inl ⟨rfl, by rw [decV_int]; exact k _ c⟩
  · cases hx; cases hy; exact .inl ⟨rfl, by rw [decV_str]; exact k _ c⟩
  · exact .inr ⟨_, _, hx, hy, c.1, c.2.1, k _ c.2.2⟩
theorem oc_ne (hu : X.A.units + 64 < cLine) : OpC X (compareOp .NotEq) (cEq true) := by
  refine ⟨_, OpR.or op_ne (op_neD hu), fun {H x y d e Q C} hx hy c k => ?_⟩
  unfold cEq at c
  split at c
  · cases hx; cases hy; exact .inl ⟨rfl, by rw [decV_int]; exact k _ c⟩
  · cases hx; cases hy; exact .inl ⟨rfl, by rw [decV_str]; exact k _ c⟩
  · exact .inr ⟨_, _, hx, hy, c.1, c.2.1, k _ c.2.2⟩
def flatD : PyData → Bool
  | .none => true
  | .bool _ => true
  | .int _ => true
  | .str _ => true
  | _ => false
theorem flat_of {K : PySem.W.Frag} {F : Hp} {v : V} {d : PyData} (h : Dp K F v d) (f : flatD d = true) : flatV v = true := by
  cases h <;> first | rfl | cases f
theorem eqV_of {K : PySem.W.Frag} {F : Hp} {v w : V} {d e : PyData} (h : Dp K F v d) (g : Dp K F w e) (fd : flatD d = true) (fe : flatD e = true) : eqV v w = PyData.eqv d e := by
  cases h <;> (try (simp [flatD] at fd; done)) <;> cases g <;> (try (simp [flatD] at fe; done)) <;> simp [eqV, PyData.eqv]
theorem inV_of {K : PySem.W.Frag} {F : Hp} {x : V} {d : PyData} (h : Dp K F x d) (fd : flatD d = true) : ∀ {vs : List V} {ds : List PyData}, DpAll K F vs ds → ds.all flatD = true → vs.all flatV = true ∧ inV x vs = ds.any (fun e => PyData.eqv e d)
  | _, _, .nil, _ => ⟨rfl, rfl⟩
  | v :: vs, e :: ds, .cons h1 h2, f => by
    rw [List.all_cons, Bool.and_eq_true] at f
    obtain ⟨g1, g2⟩ := inV_of h fd h2 f.2
    refine ⟨by rw [List.all_cons, flat_of h1 f.1, g1]; rfl, ?_⟩
    unfold inV at g2 ⊢
    rw [List.any_cons, List.any_cons, eqV_of h1 h f.1 fd, g2]
/-- x in a text (one sign), in a list or tuple of flat things -/
def cIn (neg : Bool) : DCp := fun d e C => match d, e with
  | .str a, .str b => match a.cps.toList with
    | [c] => C (if neg then !decide (c ∈ b.cps.toList) else decide (c ∈ b.cps.toList))
    | _ => False
  | d, .list ds => flatD d = true ∧ ds.all flatD = true ∧ C (if neg then !ds.any (fun e => PyData.eqv e d) else ds.any (fun e => PyData.eqv e d))
  | d, .tuple ds => flatD d = true ∧ ds.all flatD = true ∧ C (if neg then !ds.any (fun e => PyData.eqv e d) else ds.any (fun e => PyData.eqv e d))
  | _, _ => False
theorem one_sign {a : Str} {c : Nat} (h : a.cps.toList = [c]) : a = ⟨#[c]⟩ := TL.ext_tl h
theorem oc_in : OpC X (compareOp .In) (cIn false) := by
  refine ⟨_, OpR.or op_in_sign op_in_seq, fun {H x y d e Q C} hx hy c k => ?_⟩
  unfold cIn at c
  split at c
  · rename_i a b
    split at c
    · rename_i c' hc
      cases hx; cases hy
      exact .inl ⟨c', b, by rw [one_sign hc], rfl, k _ c⟩
    · exact c.elim
  · cases hy with
    | lst h1 a1 =>
      obtain ⟨g1, g2⟩ := inV_of hx c.1 a1 c.2.1
      exact .inr ⟨_, _, rfl, .inl h1, flat_of hx c.1, g1, k _ (by rw [g2]; exact c.2.2)⟩
  · cases hy with
    | tup h1 a1 =>
      obtain ⟨g1, g2⟩ := inV_of hx c.1 a1 c.2.1
      exact .inr ⟨_, _, rfl, .inr h1, flat_of hx c.1, g1, k _ (by rw [g2]; exact c.2.2)⟩
  · exact c.elim
theorem oc_notIn : OpC X (compareOp .NotIn) (cIn true) := by
  refine ⟨_, OpR.or op_notIn_sign op_notIn_seq, fun {H x y d e Q C} hx hy c k => ?_⟩
  unfold cIn at c
  split at c
  · rename_i a b
    split at c
    · rename_i c' hc
      cases hx; cases hy
      exact .inl ⟨c', b, by rw [one_sign hc], rfl, k _ c⟩
    · exact c.elim
  · cases hy with
    | lst h1 a1 =>
      obtain ⟨g1, g2⟩ := inV_of hx c.1 a1 c.2.1
      exact .inr ⟨_, _, rfl, .inl h1, flat_of hx c.1, g1, k (!inV x _) (by rw [g2]; exact c.2.2)⟩
  · cases hy with
    | tup h1 a1 =>
      obtain ⟨g1, g2⟩ := inV_of hx c.1 a1 c.2.1
      exact .inr ⟨_, _, rfl, .inr h1, flat_of hx c.1, g1, k (!inV x _) (by rw [g2]; exact c.2.2)⟩
  · exact c.elim
def isNone : PyData → Bool
  | .none => true
  | _ => false
def cIs (neg : Bool) : DCp := fun d e C => match e with
  | .none => C (if neg then !isNone d else isNone d)
  | _ => False
theorem isNone_of {K : PySem.W.Frag} {F : Hp} {v : V} {d : PyData} (h : Dp K F v d) : decide (v = V.non) = isNone d := by
  cases h <;> first | rfl | exact decide_eq_false (fun z => nomatch z)
theorem oc_is : OpC X (compareOp .Is) (cIs false) := by
  refine ⟨_, op_isN, fun {H x y d e Q C} hx hy c k => ?_⟩
  unfold cIs at c
  split at c
  · cases hy
    exact ⟨rfl, by rw [isNone_of hx]; exact k _ c⟩
  · exact c.elim
theorem oc_isnot : OpC X (compareOp .IsNot) (cIs true) := by
  refine ⟨_, op_notN, fun {H x y d e Q C} hx hy c k => ?_⟩
  unfold cIs at c
  split at c
  · cases hy
    exact ⟨rfl, by rw [isNone_of hx]; exact k _ c⟩
  · exact c.elim

/-! ### subscripts -/
theorem atI_of {K : PySem.W.Frag} {F : Hp} {vs : List V} {ds : List PyData} {i : Int} {d : PyData} (h : DpAll K F vs ds) (e : atI ds i = some d) : ∃ v, atI vs i = some v ∧ Dp K F v d := by
  unfold atI at e ⊢
  rw [h.length]
  cases q : ixN ds.length i with
  | none => rw [q] at e; cases e
  | some j =>
    rw [q] at e
    exact h.get e
def ixA (δ : DSt) (a : Ar) (i : Int) (C : Ar → Prop) : Prop := match a with
  | .sl j => match δ.m[j]? with
    | some (.fl xs) => match atI xs i with
      | some d => C (.val d)
      | none => False
    | some (.ls xs) => match atI xs i with
      | some d => C d
      | none => False
    | some (.tu xs) => match atI xs i with
      | some d => C d
      | none => False
    | _ => False
  | .val (.list xs) => match atI xs i with
    | some d => C (.val d)
    | none => False
  | .val (.tuple xs) => match atI xs i with
    | some d => C (.val d)
    | none => False
  | .val (.str z) => z.length ≤ sizeLine ∧ match atI z.cps.toList i with
    | some c => C (.val (.str ⟨#[c]⟩))
    | none => False
  | _ => False
def dIx (fa fb : DTE) : DTE := fun δ C => fa δ fun a δ1 => fb δ1 fun b δ2 => match b with
  | .val (.int i) => ixA δ2 a i fun d => C d δ2
  | _ => False
theorem atI_ars {K : PySem.W.Frag} {F : Fg} {vs : List V} {ds : List Ar} {i : Int} {d : Ar} (h : ArsRep K F vs ds) (e : atI ds i = some d) : ∃ v, atI vs i = some v ∧ ArRep K F v d := by
  unfold atI at e ⊢
  rw [h.length]
  cases q : ixN ds.length i with
  | none => rw [q] at e; cases e
  | some j =>
    rw [q] at e
    exact h.get e
theorem pd_ix {a b : Expr} {fa fb : DTE} {pos : Pos} (ha : PD W E X a fa) (hb : PD W E X b fb) (hs : PlainIx b := by exact fun _ _ => rfl) : PD W E X (.Subscript a b pos) (dIx fa fb) := by
  obtain ⟨te, p1, q1⟩ := ha
  obtain ⟨tb, p2, q2⟩ := hb
  refine ⟨_, pe_ix ix_seq p1 p2 hs, fun R c k => ?_⟩
  refine q1 R c fun a δ1 F1 H1 v R1 s1 r1 c1 => ?_
  refine q2 R1 c1 fun b δ2 F2 H2 w R2 s2 r2 c2 => ?_
  split at c2
  · rename_i i
    cases (show Dp X.K F2 w (.int i) from r2)
    have g1 := r1.step s2
    clear r1
    unfold ixA at c2
    split at c2
    · rename_i j
      obtain ⟨l, gl, rfl⟩ := g1
      split at c2
      · rename_i xs hx
        split at c2
        · rename_i d hd
          obtain ⟨l', e1, _, vs, e3, e4⟩ := R2.sto.at hx rfl
          rw [gl] at e1
          cases e1
          obtain ⟨u, hu, du⟩ := atI_of e4 hd
          exact .inl ⟨_, _, _, _, rfl, rfl, SqL.of e3, hu, k (.val d) _ _ _ _ R2 (s1.trans s2) du c2⟩
        · exact c2.elim
      · rename_i xs hx
        split at c2
        · rename_i d hd
          obtain ⟨l', e1, _, vs, e3, e4⟩ := R2.sto.at hx rfl
          rw [gl] at e1
          cases e1
          obtain ⟨u, hu, du⟩ := atI_ars e4 hd
          exact .inl ⟨_, _, _, _, rfl, rfl, SqL.of e3, hu, k d _ _ _ _ R2 (s1.trans s2) du c2⟩
        · exact c2.elim
      · rename_i xs hx
        split at c2
        · rename_i d hd
          obtain ⟨l', e1, _, vs, e3, e4⟩ := R2.sto.at hx rfl
          rw [gl] at e1
          cases e1
          obtain ⟨u, hu, du⟩ := atI_ars e4 hd
          exact .inr (.inl ⟨_, _, _, _, rfl, rfl, SqT.of e3, hu, k d _ _ _ _ R2 (s1.trans s2) du c2⟩)
        · exact c2.elim
      · exact c2.elim
    · rename_i xs
      split at c2
      · rename_i d hd
        cases (show Dp X.K F2 v (.list xs) from g1) with
        | lst h1 a1 =>
          obtain ⟨u, hu, du⟩ := atI_of a1 hd
          exact .inl ⟨_, _, _, _, rfl, rfl, R2.sto.sub.seq h1, hu, k (.val d) _ _ _ _ R2 (s1.trans s2) du c2⟩
      · exact c2.elim
    · rename_i xs
      split at c2
      · rename_i d hd
        cases (show Dp X.K F2 v (.tuple xs) from g1) with
        | tup h1 a1 =>
          obtain ⟨u, hu, du⟩ := atI_of a1 hd
          exact .inr (.inl ⟨_, _, _, _, rfl, rfl, seqT R2.sto.sub h1, hu, k (.val d) _ _ _ _ R2 (s1.trans s2) du c2⟩)
      · exact c2.elim
    · rename_i z
      cases (show Dp X.K F2 v (.str z) from g1)
      obtain ⟨hz, c2⟩ := c2
      split at c2
      · rename_i c hc
        exact .inr (.inr ⟨_, _, _, rfl, rfl, hz, hc, k (.val (.str ⟨#[c]⟩)) _ _ _ _ R2 (s1.trans s2) (Dp.str _) c2⟩)
      · exact c2.elim
    · exact c2.elim
  · exact c2.elim
/-! ### slices -/
abbrev DTO := DSt → (Option Int → DSt → Prop) → Prop
structure PDO (W : WX) (E : EW) (X : Cx) (e : Option Expr) (f : DTO) : Prop where
  ex : ∃ te, PO X e te ∧ ∀ {F : Fg} {σ : L2.St} {δ : DSt} {H : Hp} {Q : Option Int → Hp → Prop} {C : Option Int → DSt → Prop}, RepS W E X.K X.mg F σ δ H → f δ C →
    (∀ o δ' F' H', RepS W E X.K X.mg F' σ δ' H' → Stp F H F' H' → C o δ' → Q o H') → te σ H Q
def doNone : DTO := fun δ C => C none δ
def doSome (f : DTE) : DTO := fun δ C => f δ fun a δ1 => match a with
  | .val (.int i) => C (some i) δ1
  | _ => False
theorem pdo_none : PDO W E X none doNone := ⟨_, po_none, fun R c k => k _ _ _ _ R .refl c⟩
theorem pdo_some {e : Expr} {f : DTE} (h : PD W E X e f) : PDO W E X (some e) (doSome f) := by
  obtain ⟨te, p, q⟩ := h
  refine ⟨_, po_some p, fun R c k => ?_⟩
  refine q R c fun a δ1 F1 H1 v R1 s1 r1 c1 => ?_
  split at c1
  · rename_i i
    cases (show Dp X.K F1 v (.int i) from r1)
    exact ⟨i, rfl, k _ _ _ _ R1 s1 c1⟩
  · exact c1.elim
def cutD (ds : List PyData) (lo hi : Option Int) : List PyData := (ds.drop (HT.sIx ds.length 0 lo)).take (HT.sIx ds.length ds.length hi - HT.sIx ds.length 0 lo)
theorem cut_of {K : PySem.W.Frag} {F : Hp} {vs : List V} {ds : List PyData} (h : DpAll K F vs ds) (lo hi : Option Int) : DpAll K F (cutV vs lo hi) (cutD ds lo hi) := by
  unfold cutV cutD
  rw [h.length]
  exact (h.drop _).take _
def slD (δ : DSt) (a : Ar) (lo hi : Option Int) (C : PyData → Prop) : Prop := match a with
  | .val (.str z) => z.length ≤ sizeLine ∧ C (.str (cutS z lo hi))
  | .val (.list xs) => C (.list (cutD xs lo hi))
  | .val (.tuple xs) => C (.tuple (cutD xs lo hi))
  | .sl j => match cont δ j with
    | some xs => C (.list (cutD xs lo hi))
    | none => False
  | _ => False
def dSl (f : DTE) (fl fh : DTO) : DTE := fun δ C => f δ fun a δ1 => fl δ1 fun lo δ2 => fh δ2 fun hi δ3 => slD δ3 a lo hi fun d => C (.val d) δ3
theorem sIx_whole {n : Nat} {lo hi : Option Int} (h : HT.sIx n 0 lo = 0 ∧ HT.sIx n n hi = n) (ds : List PyData) (e : ds.length = n) : cutD ds lo hi = ds := by
  unfold cutD
  rw [e, h.1, h.2]
  simp [← e]
theorem pd_slice {e : Expr} {lo hi : Option Expr} {f : DTE} {fl fh : DTO} {pos p2 : Pos} (he : PD W E X e f) (hl : PDO W E X lo fl) (hh : PDO W E X hi fh) : PD W E X (.Subscript e (.Slice lo hi none p2) pos) (dSl f fl fh) := by
  obtain ⟨te, p1, q1⟩ := he
  obtain ⟨tl, p2, q2⟩ := hl
  obtain ⟨th, p3, q3⟩ := hh
  refine ⟨_, pe_slice (SlR.or sl_list (SlR.or sl_tupA sl_str)) p1 p2 p3, fun R c k => ?_⟩
  refine q1 R c fun a δ1 F1 H1 v R1 s1 r1 c1 => ?_
  refine q2 R1 c1 fun lo δ2 F2 H2 R2 s2 c2 => ?_
  refine q3 R2 c2 fun hi δ3 F3 H3 R3 s3 c3 => ?_
  have g1 := r1.step (s2.trans s3)
  clear r1
  have s := (s1.trans s2).trans s3
  unfold slD at c3
  split at c3
  · rename_i z
    cases (show Dp X.K F3 v (.str z) from g1)
    exact .inr (.inr ⟨_, rfl, c3.1, k (.val (.str _)) _ _ _ _ R3 s (Dp.str _) c3.2⟩)
  · rename_i xs
    cases (show Dp X.K F3 v (.list xs) from g1) with
    | lst h1 a1 =>
      refine .inl ⟨_, _, rfl, R3.sto.sub.seq h1, fun p np => ?_⟩
      obtain ⟨R4, s4⟩ := R3.alloc (o := .lst (cutV _ lo hi)) np
      exact k (.val (.list _)) _ _ _ _ R4 (s.trans s4) (Dp.lst (SqL.of upd_same) (Dp.monoAll s4.ext _ _ (cut_of a1 lo hi))) c3
  · rename_i xs
    cases (show Dp X.K F3 v (.tuple xs) from g1) with
    | tup h1 a1 =>
      refine .inr (.inl ⟨_, _, rfl, seqT R3.sto.sub h1, fun hw => ?_, fun _ p np => ?_⟩)
      · refine k (.val (.tuple _)) _ _ _ _ R3 s (Dp.tup h1 ?_) c3
        rw [sIx_whole hw _ a1.length.symm]
        exact a1
      · obtain ⟨R4, s4⟩ := R3.alloc (o := .tup (cutV _ lo hi)) np
        exact k (.val (.tuple _)) _ _ _ _ R4 (s.trans s4) (Dp.tup (SqT.of upd_same) (Dp.monoAll s4.ext _ _ (cut_of a1 lo hi))) c3
  · rename_i j
    split at c3
    · rename_i xs hx
      obtain ⟨l, vs, e1, _, e3, e4⟩ := R3.own hx
      obtain ⟨l', g1, rfl⟩ := g1
      rw [e1] at g1
      cases g1
      refine .inl ⟨_, _, rfl, SqL.of e3, fun p np => ?_⟩
      obtain ⟨R4, s4⟩ := R3.alloc (o := .lst (cutV _ lo hi)) np
      exact k (.val (.list _)) _ _ _ _ R4 (s.trans s4) (Dp.lst (SqL.of upd_same) (Dp.monoAll s4.ext _ _ (cut_of e4 lo hi))) c3
    · exact c3.elim
  · exact c3.elim
/-- a slice of a list, as a new list -/
def dSlN (f : DTE) (fl fh : DTO) : DSt → (List PyData → DSt → Prop) → Prop := fun δ C => f δ fun a δ1 => fl δ1 fun lo δ2 => fh δ2 fun hi δ3 => match rd δ3 a with
  | some (.list xs) => C (cutD xs lo hi) δ3
  | _ => False
theorem listD_rep {H : Hp} {F : Fg} {σ : L2.St} {δ : DSt} {v : V} {a : Ar} {xs : List PyData} (R : RepS W E K mg F σ δ H) (r : ArRep K F v a) (h : rd δ a = some (.list xs)) : ∃ p vs, v = .ref p ∧ SqL K H p vs ∧ DpAll K F.f vs xs := by
  cases a with
  | val d =>
    cases h
    cases (show Dp K F.f v (.list xs) from r) with
    | lst h2 a2 => exact ⟨_, _, rfl, R.sto.sub.seq h2, a2⟩
  | fn f => cases h
  | sl i =>
    have hx' : (cont δ i).map PyData.list = some (.list xs) := h
    cases q : cont δ i with
    | none => rw [q] at hx'; cases hx'
    | some ys =>
      rw [q] at hx'
      cases hx'
      obtain ⟨l, vs, e1, e2, e3, e4⟩ := R.own q
      obtain ⟨l', g2, rfl⟩ := r
      rw [e1] at g2
      cases g2
      exact ⟨_, _, rfl, SqL.of e3, e4⟩
theorem pdn_slice {e : Expr} {lo hi : Option Expr} {f : DTE} {fl fh : DTO} {pos p2 : Pos} (he : PD W E X e f) (hl : PDO W E X lo fl) (hh : PDO W E X hi fh) : PDN W E X (.Subscript e (.Slice lo hi none p2) pos) (dSlN f fl fh) := by
  obtain ⟨te, p1, q1⟩ := he
  obtain ⟨tl, p2, q2⟩ := hl
  obtain ⟨th, p3, q3⟩ := hh
  refine ⟨_, pe_slice sl_list p1 p2 p3, fun {F σ δ H Q C} R c k => ?_⟩
  refine q1 R c fun a δ1 F1 H1 v R1 s1 r1 c1 => ?_
  refine q2 R1 c1 fun lo δ2 F2 H2 R2 s2 c2 => ?_
  refine q3 R2 c2 fun hi δ3 F3 H3 R3 s3 c3 => ?_
  have g1 := r1.step (s2.trans s3)
  have s := (s1.trans s2).trans s3
  split at c3
  · rename_i xs hx
    obtain ⟨p0, vs, rfl, h1, a1⟩ := listD_rep R3 g1 hx
    refine ⟨_, _, rfl, h1, fun p np => ?_⟩
    obtain ⟨R4, s4, nF, nO⟩ := R3.fresh (o := .lst (cutV vs lo hi)) np
    exact k _ _ _ _ p _ R4 (s.trans s4) nF (s.dom _ np) nO upd_same (cut_of a1 lo hi) c3
  · exact c3.elim
end
end MM

namespace MM
open PySem PySem.Spec PyProof.Rows L2
section
variable {W : WX} {E : EW} {mg : Str → Option Value} {X : Cx} {K : PySem.W.Frag} {F : Fg} {H : Hp} {σ : L2.St} {δ : DSt}

/-! ### calls of built-in functions and types -/
abbrev DCl := DSt → List Ar → (PyData → Prop) → Prop
def CallD (W : WX) (E : EW) (X : Cx) (f : Value) (r : DCl) : Prop :=
  ∃ r', CallR X f r' ∧ ∀ {F : Fg} {σ : L2.St} {δ : DSt} {H : Hp} {vs : List V} {as : List Ar} {Q : VK} {C : PyData → Prop}, RepS W E X.K X.mg F σ δ H → ArsRep X.K F vs as → r δ as C →
    (∀ z F' H' v, RepS W E X.K X.mg F' σ δ H' → Stp F H F' H' → Dp X.K F' v z → C z → Q v H') → r' vs H Q
def dCB (r : DCl) (f : DTA) : DTE := fun δ C => f δ fun as δ1 => r δ1 as fun z => C (.val z) δ1
theorem pd_callB {e : Expr} {es : List Expr} {x : Str} {id : String} {r : DCl} {f : DTA} {p pos : Pos} (hc : CallD W E X (.builtin id) r) (hg : Gl X x) (hm : X.mg x = none) (hv : bootBuiltins x = some (.builtin id)) (ha : PDA W E X (e :: es) f) (hn : x ≠ "__name__" := by decide) (hdb : (x == ("__debug__" : Str)) = false := by decide)
    (he : starEach (e :: es) X.env = (false, eval e X.env) :: starEach es X.env := by rfl) (hpl : (backTo pos (starEach es X.env)).any (·.1) = false := by rfl) : PD W E X (.Call (.Name x p) (e :: es) [] pos) (dCB r f) := by
  obtain ⟨r', c1, c2⟩ := hc
  obtain ⟨ta, p, q⟩ := ha
  refine ⟨_, pe_callB c1 hg hm hv p hn hdb he hpl, fun R c k => ?_⟩
  refine q R c fun as δ1 F1 H1 vs R1 s1 r1 c3 => ?_
  exact c2 R1 r1 c3 fun z F' H' v R2 s2 r2 c4 => k (.val z) _ _ _ _ R2 (s1.trans s2) r2 c4
theorem pd_callT {e : Expr} {es : List Expr} {x : Str} {T : String} {r : DCl} {f : DTA} {p pos : Pos} (hc : CallD W E X (.type T) r) (hg : Gl X x) (hm : X.mg x = none) (hv : bootBuiltins x = some (.type T)) (ha : PDA W E X (e :: es) f) (hn : x ≠ "__name__" := by decide) (hdb : (x == ("__debug__" : Str)) = false := by decide)
    (he : starEach (e :: es) X.env = (false, eval e X.env) :: starEach es X.env := by rfl) (hpl : (backTo pos (starEach es X.env)).any (·.1) = false := by rfl) : PD W E X (.Call (.Name x p) (e :: es) [] pos) (dCB r f) := by
  obtain ⟨r', c1, c2⟩ := hc
  obtain ⟨ta, p, q⟩ := ha
  refine ⟨_, pe_callTy c1 hg hm hv p hn hdb he hpl, fun R c k => ?_⟩
  refine q R c fun as δ1 F1 H1 vs R1 s1 r1 c3 => ?_
  exact c2 R1 r1 c3 fun z F' H' v R2 s2 r2 c4 => k (.val z) _ _ _ _ R2 (s1.trans s2) r2 c4
theorem arsRep1 {vs : List V} {a : Ar} (h : ArsRep K F vs [a]) : ∃ v, vs = [v] ∧ ArRep K F v a := by
  cases vs with
  | nil => exact h.elim
  | cons v vs =>
    cases vs with
    | nil => exact ⟨v, rfl, h.1⟩
    | cons _ _ => exact h.2.elim
theorem arsRep2 {vs : List V} {a b : Ar} (h : ArsRep K F vs [a, b]) : ∃ v w, vs = [v, w] ∧ ArRep K F v a ∧ ArRep K F w b := by
  cases vs with
  | nil => exact h.elim
  | cons v vs =>
    obtain ⟨w, rfl, h2⟩ := arsRep1 h.2
    exact ⟨v, w, rfl, h.1, h2⟩
def fLen : DCl := fun δ as C => match as with
  | [a] => match rd δ a with
    | some (.str z) => z.length ≤ sizeLine ∧ C (.int z.length)
    | some (.list xs) => C (.int xs.length)
    | some (.tuple xs) => C (.int xs.length)
    | _ => False
  | _ => False
theorem cd_len : CallD W E X (.builtin "len") fLen := by
  refine ⟨_, call_len, fun {F σ δ H vs as Q C} R r c k => ?_⟩
  unfold fLen at c
  split at c
  · obtain ⟨v, rfl, r1⟩ := arsRep1 r
    split at c
    · rename_i z hz
      cases r1.rd R hz
      exact ⟨_, _, rfl, ⟨c.1, rfl⟩, k (.int _) _ _ _ R .refl (.int _) c.2⟩
    · rename_i xs hz
      cases r1.rd R hz with
      | lst h1 a1 => exact ⟨_, _, rfl, .inl ⟨_, h1, rfl⟩, k (.int _) _ _ _ R .refl (.int _) (by rw [a1.length]; exact c)⟩
    · rename_i xs hz
      cases r1.rd R hz with
      | tup h1 a1 => exact ⟨_, _, rfl, .inr ⟨_, h1, rfl⟩, k (.int _) _ _ _ R .refl (.int _) (by rw [a1.length]; exact c)⟩
    · exact c.elim
  · exact c.elim
def fInt : DCl := fun δ as C => match as with
  | [.val (.int i)] => C (.int i)
  | [.val (.bool b)] => C (.int (if b then 1 else 0))
  | _ => False
theorem cd_int : CallD W E X (.type "int") fInt := by
  refine ⟨_, call_int1, fun {F σ δ H vs as Q C} R r c k => ?_⟩
  unfold fInt at c
  split at c
  · obtain ⟨v, rfl, r1⟩ := arsRep1 r
    cases (show Dp X.K F v (.int _) from r1)
    exact .inl ⟨_, rfl, k _ _ _ _ R .refl (.int _) c⟩
  · obtain ⟨v, rfl, r1⟩ := arsRep1 r
    cases (show Dp X.K F v (.bool _) from r1)
    exact .inr ⟨_, rfl, k _ _ _ _ R .refl (.int _) c⟩
  · exact c.elim
/-- the items of a list or tuple, frozen or owned -/
def itemsD (δ : DSt) : Ar → Option (List PyData)
  | .val (.list xs) => some xs
  | .val (.tuple xs) => some xs
  | .sl i => cont δ i
  | _ => none
theorem itemsD_rep (R : RepS W E K mg F σ δ H) {v : V} {a : Ar} {xs : List PyData} (r : ArRep K F v a) (h : itemsD δ a = some xs) : ∃ p vs, v = .ref p ∧ (SqL K H p vs ∨ SqT K H p vs) ∧ DpAll K F vs xs := by
  cases a with
  | fn f => cases h
  | sl i =>
    obtain ⟨l, vs, e1, _, e3, e4⟩ := R.own (i := i) h
    obtain ⟨l', r, rfl⟩ := r
    rw [e1] at r
    cases r
    exact ⟨l, vs, rfl, .inl (SqL.of e3), e4⟩
  | val d =>
    have r : Dp K F.f v d := r
    cases r with
    | lst h1 a1 => cases h; exact ⟨_, _, rfl, .inl (R.sto.sub.seq h1), a1⟩
    | tup h1 a1 => cases h; exact ⟨_, _, rfl, .inr (seqT R.sto.sub h1), a1⟩
    | _ => cases h
def fTuple : DCl := fun δ as C => match as with
  | [a] => match itemsD δ a with
    | some xs => C (.tuple xs)
    | none => False
  | _ => False
theorem cd_tuple : CallD W E X (.type "tuple") fTuple := by
  refine ⟨_, call_tuple_of, fun {F σ δ H vs as Q C} R r c k => ?_⟩
  unfold fTuple at c
  split at c
  · obtain ⟨v, rfl, r1⟩ := arsRep1 r
    rename_i a
    cases q : itemsD δ a with
    | none => rw [q] at c; exact c.elim
    | some xs =>
      rw [q] at c
      cases a with
      | fn f => cases q
      | sl i =>
        obtain ⟨l, vs, e1, _, e3, e4⟩ := R.own (i := i) q
        obtain ⟨l', r1, rfl⟩ := r1
        rw [e1] at r1
        cases r1
        refine ⟨_, _, rfl, .inl ⟨SqL.of e3, fun p np => ?_⟩⟩
        obtain ⟨R2, s2⟩ := R.alloc (o := .tup vs) np
        exact k _ _ _ _ R2 s2 (.tup (SqT.of upd_same) (Dp.monoAll s2.ext _ _ e4)) c
      | val d =>
        have r1 : Dp X.K F.f v d := r1
        cases r1 with
        | lst h1 a1 =>
          cases q
          refine ⟨_, _, rfl, .inl ⟨R.sto.sub.seq h1, fun p np => ?_⟩⟩
          obtain ⟨R2, s2⟩ := R.alloc (o := .tup _) np
          exact k _ _ _ _ R2 s2 (.tup (SqT.of upd_same) (Dp.monoAll s2.ext _ _ a1)) c
        | tup h1 a1 =>
          cases q
          exact ⟨_, _, rfl, .inr ⟨seqT R.sto.sub h1, k _ _ _ _ R .refl (.tup h1 a1) c⟩⟩
        | _ => cases q
  · exact c.elim
/-- list(xs): a new list -/
def dListN (f : DTA) : DSt → (List PyData → DSt → Prop) → Prop := fun δ C => f δ fun as δ1 => match as with
  | [a] => match itemsD δ1 a with
    | some xs => C xs δ1
    | none => False
  | _ => False
theorem pdn_list {e : Expr} {x : Str} {f : DTA} {p pos : Pos} (hg : Gl X x) (hm : X.mg x = none) (hv : bootBuiltins x = some (.type "list")) (ha : PDA W E X [e] f) (hn : x ≠ "__name__" := by decide) (hdb : (x == ("__debug__" : Str)) = false := by decide)
    (he : starEach [e] X.env = (false, eval e X.env) :: starEach [] X.env := by rfl) (hpl : (backTo pos (starEach [] X.env)).any (·.1) = false := by rfl) : PDN W E X (.Call (.Name x p) [e] [] pos) (dListN f) := by
  obtain ⟨ta, p, q⟩ := ha
  refine ⟨_, pe_callTy call_list_of hg hm hv p hn hdb he hpl, fun {F σ δ H Q C} R c k => ?_⟩
  refine q R c fun as δ1 F1 H1 vs R1 s1 r1 c3 => ?_
  split at c3
  · obtain ⟨v, rfl, r2⟩ := arsRep1 r1
    split at c3
    · rename_i xs hx
      obtain ⟨p, ws, rfl, hs, hA⟩ := itemsD_rep R1 r2 hx
      refine ⟨_, _, rfl, hs, fun l nl => ?_⟩
      obtain ⟨R2, s2, nF, nO⟩ := R1.fresh (o := .lst ws) nl
      exact k _ _ _ _ _ _ R2 (s1.trans s2) nF (s1.dom _ nl) nO upd_same hA c3
    · exact c3.elim
  · exact c3.elim
/-! ### isinstance, with one built-in type -/
def tyName : PyData → String
  | .none => "NoneType"
  | .bool _ => "bool"
  | .int _ => "int"
  | .str _ => "str"
  | .list _ => "list"
  | .tuple _ => "tuple"
  | .dict _ => "dict"
theorem ty_of {v : V} {d : PyData} (h : Dp K H v d) : TyX K H v (.type (tyName d)) := by
  cases h with
  | non => exact .base .non
  | bl b => exact .base (.bl b)
  | int i => exact .base (.int i)
  | str z => exact .base (.str z)
  | lst h1 _ =>
    rcases h1 with (h1 | ⟨o, h1⟩) | ⟨o, its, n, h1, h2, _⟩
    · exact .base (.lst h1)
    · exact .base (.frz h1)
    · exact .kList h1 h2
  | tup h1 _ =>
    rcases h1 with (h1 | ⟨o, h1⟩) | ⟨o, its, n, h1, h2, _⟩
    · exact .base (.tup h1)
    · exact .fTuple h1
    · exact .kTuple h1 h2
def dIsi (T : String) (f : DTE) : DTE := fun δ C => f δ fun a δ1 => match rd δ1 a with
  | some d => match kitB (tyName d) T with
    | some b => C (.val (.bool b)) δ1
    | none => False
  | none => False
theorem pd_isi {e : Expr} {T : String} {f : DTE} {x : Str} {p p2 pos : Pos} (hg : Gl X "isinstance") (hm : X.mg "isinstance" = none) (hT : Gl X x) (hTm : X.mg x = none) (hTv : bootBuiltins x = some (.type T)) (h : PD W E X e f) (hn : x ≠ "__name__" := by decide) (hdb : (x == ("__debug__" : Str)) = false := by decide)
    (he : starEach [e, .Name x p2] X.env = (false, eval e X.env) :: starEach [.Name x p2] X.env := by rfl) (he2 : starEach [.Name x p2] X.env = (false, eval (.Name x p2) X.env) :: starEach [] X.env := by rfl) (hpl : (backTo pos (starEach [.Name x p2] X.env)).any (·.1) = false := by rfl) :
    PD W E X (.Call (.Name "isinstance" p) [e, .Name x p2] [] pos) (dIsi T f) := by
  obtain ⟨te, p, q⟩ := h
  refine ⟨_, pe_callB call_isi hg hm (by decide +kernel) (pa_cons p (pa_cons (pe_bltn (v := .ty T) hT hTm hTv rfl hn hdb) pa_nil he2) he) (by decide) (by decide) he hpl, fun R c k => ?_⟩
  refine q R c fun a δ1 F1 H1 v R1 s1 r1 c1 => ?_
  split at c1
  · rename_i d hd
    split at c1
    · rename_i b hb
      have ty := ty_of (r1.rd R1 hd)
      exact ⟨v, .ty T, _, _, b, rfl, .ty T, ty, kit_ty hb, k (.val (.bool b)) _ _ _ _ R1 s1 (Dp.bl b) c1⟩
    · exact c1.elim
  · exact c1.elim

/-! ### methods of texts -/
abbrev DMt := DSt → Str → List Ar → (PyData → Prop) → Prop
def MethD (W : WX) (E : EW) (X : Cx) (id : String) (r : DMt) : Prop :=
  ∃ r', MtR X id r' ∧ ∀ {F : Fg} {σ : L2.St} {δ : DSt} {H : Hp} {z : Str} {vs : List V} {as : List Ar} {Q : VK} {C : PyData → Prop}, RepS W E X.K X.mg F σ δ H → ArsRep X.K F vs as → r δ z as C →
    (∀ z F' H' v, RepS W E X.K X.mg F' σ δ H' → Stp F H F' H' → Dp X.K F' v z → C z → Q v H') → r' (.str z) vs H Q
def dM (r : DMt) (fo : DTE) (f : DTA) : DTE := fun δ C => fo δ fun a δ1 => match a with
  | .val (.str z) => f δ1 fun as δ2 => r δ2 z as fun y => C (.val y) δ2
  | _ => False
theorem pd_m0 {o : Expr} {id : String} {name : Str} {apos pos : Pos} {r : DMt} {fo : DTE} (slot : Slot "str" name id) (ty : typeOf (.builtin id) = pure (.type "method_descriptor")) (rule : MethD W E X id r) (ho : PD W E X o fo)
    (hbase : attributeBase o name X.env (eval o X.env) = eval o X.env := by rfl) (hline : (apos.endLine == pos.line) = true := by rfl) : PD W E X (.Call (.Attribute o name apos) [] [] pos) (dM r fo dNil) := by
  obtain ⟨r', m1, m2⟩ := rule
  obtain ⟨te, p, q⟩ := ho
  refine ⟨_, pe_m0 slot ty m1 p hbase hline, fun R c k => ?_⟩
  refine q R c fun a δ1 F1 H1 v R1 s1 r1 c1 => ?_
  split at c1
  · rename_i z
    cases (show Dp X.K F1 v (.str z) from r1)
    exact ⟨⟨z, rfl⟩, m2 (as := []) R1 trivial c1 fun z F' H' v R2 s2 r2 c4 => k (.val z) _ _ _ _ R2 (s1.trans s2) r2 c4⟩
  · exact c1.elim
theorem pd_m1 {o e : Expr} {id : String} {name : Str} {apos pos : Pos} {r : DMt} {fo f : DTE} (slot : Slot "str" name id) (ty : typeOf (.builtin id) = pure (.type "method_descriptor")) (rule : MethD W E X id r) (ho : PD W E X o fo) (he : PD W E X e f)
    (hs : starEach [e] X.env = [(false, eval e X.env)] := by rfl) (hbase : attributeBase o name X.env (eval o X.env) = eval o X.env := by rfl) (hline : (apos.endLine == pos.line) = true := by rfl) : PD W E X (.Call (.Attribute o name apos) [e] [] pos) (dM r fo (dCons f dNil)) := by
  obtain ⟨r', m1, m2⟩ := rule
  obtain ⟨te, p, q⟩ := ho
  obtain ⟨tf, p2, q2⟩ := he
  refine ⟨_, pe_m1 slot ty m1 p p2 hs hbase hline, fun R c k => ?_⟩
  refine q R c fun a δ1 F1 H1 v R1 s1 r1 c1 => ?_
  split at c1
  · rename_i z
    cases (show Dp X.K F1 v (.str z) from r1)
    refine ⟨⟨z, rfl⟩, q2 R1 c1 fun b δ2 F2 H2 w R2 s2 r2 c2 => ?_⟩
    exact m2 (as := [b]) R2 ⟨r2, trivial⟩ c2 fun z F' H' v R3 s3 r3 c4 => k (.val z) _ _ _ _ R3 ((s1.trans s2).trans s3) r3 c4
  · exact c1.elim
/-- texts of a list or tuple -/
def strsD : List PyData → Option (List Str)
  | [] => some []
  | .str z :: ds => match strsD ds with
    | some zs => some (z :: zs)
    | none => none
  | _ :: _ => none
theorem strsD_eq : ∀ {ds : List PyData} {zs : List Str}, strsD ds = some zs → ds = zs.map PyData.str
  | [], zs, h => by cases h; rfl
  | d :: ds, zs, h => by
    cases d with
    | str z =>
      unfold strsD at h
      split at h
      · cases h
        rename_i zs' hz
        rw [strsD_eq hz]
        rfl
      · cases h
    | _ => cases h
theorem strsD_map : ∀ zs : List Str, strsD (zs.map PyData.str) = some zs
  | [] => rfl
  | z :: zs => by
    show (match strsD (zs.map PyData.str) with | some zs => some (z :: zs) | none => none) = _
    rw [strsD_map zs]
def mJoin : DMt := fun δ z as C => match as with
  | [a] => match itemsD δ a with
    | some xs => match strsD xs with
      | some ys => (ys.map (·.length)).sum + ys.length * z.length ≤ 16777216 ∧ C (.str (Txt.join z ys))
      | none => False
    | none => False
  | _ => False
theorem md_join : MethD W E X "str.join" mJoin := by
  refine ⟨_, mt_join, fun {F σ δ H z vs as Q C} R r c k => ?_⟩
  unfold mJoin at c
  split at c
  · obtain ⟨v, rfl, r1⟩ := arsRep1 r
    split at c
    · rename_i xs hx
      split at c
      · rename_i ys hy
        obtain ⟨p, ws, rfl, hs, hA⟩ := itemsD_rep R r1 hx
        have e := strsD_eq hy
        subst e
        have e := hA.ofStrs
        subst e
        exact ⟨_, _, ys, rfl, rfl, hs, c.1, k _ _ _ _ R .refl (.str _) c.2⟩
      · exact c.elim
    · exact c.elim
  · exact c.elim
def mSplit : DMt := fun _ z as C => match as with
  | [.val (.str y)] => (y.length == 0) = false ∧ z.length + 2 ≤ sizeLine ∧ C (.list ((Txt.split z y).map PyData.str))
  | _ => False
theorem md_split : MethD W E X "str.split" mSplit := by
  refine ⟨_, mt_split, fun {F σ δ H z vs as Q C} R r c k => ?_⟩
  unfold mSplit at c
  split at c
  · obtain ⟨v, rfl, r1⟩ := arsRep1 r
    cases (show Dp X.K F v (.str _) from r1)
    refine ⟨_, _, rfl, rfl, c.1, c.2.1, fun p np => ?_⟩
    obtain ⟨R2, s2⟩ := R.alloc (o := .lst ((Txt.split z _).map V.str)) np
    exact k _ _ _ _ R2 s2 (.lst (SqL.of upd_same) (DpAll.strs _)) c.2.2
  · exact c.elim
theorem mt_indexY (hc : X.calm = true) : MtR X "str.index" (fun x xs H Q => ∃ (a b : Str) (k : Nat), x = .str a ∧ xs = [.str b] ∧ Txt.index0 a b = some k ∧ Q (.int (k : Nat)) H) := by
  intro pins s σ H x xs v us Q I rx rs h
  obtain ⟨a, b, k, rfl, rfl, hk, q⟩ := h
  obtain ⟨t, rfl⟩ := rx
  cases rs with
  | cons r1 rs =>
    cases rs
    obtain ⟨u, rfl⟩ := r1
    cases e : Builtin.Str.occurrences a b 0 a.length 1 with
    | nil =>
      unfold Txt.index0 at hk
      rw [e] at hk
      cases hk
    | cons j rest =>
      unfold Txt.index0 at hk
      rw [e] at hk
      cases hk
      exact PySem.SC.index e ⟨.int (_ : Nat), H, I.tok _, ⟨_, rfl⟩, q⟩
/-- s.index(one sign that is there) -/
def mIndex : DMt := fun _ z as C => match as with
  | [.val (.str y)] => match Txt.index0 z y with
    | some k => C (.int (k : Nat))
    | none => False
  | _ => False
theorem md_index (hc : X.calm = true) : MethD W E X "str.index" mIndex := by
  refine ⟨_, mt_indexY hc, fun {F σ δ H z vs as Q C} R r c k => ?_⟩
  unfold mIndex at c
  split at c
  · obtain ⟨v, rfl, r1⟩ := arsRep1 r
    cases (show Dp X.K F v (.str _) from r1)
    split at c
    · rename_i j hj
      exact ⟨_, _, j, rfl, rfl, hj, k _ _ _ _ R .refl (.int _) c⟩
    · exact c.elim
  · exact c.elim
/-! ### a list of the store becomes data -/
def dFz (f : DTE) : DTE := fun δ C => f δ fun a δ1 => match a with
  | .val d => C (.val d) δ1
  | .fn _ => False
  | .sl i => match cont δ1 i with
    | some xs => C (.val (.list xs)) (frS δ1 i (.list xs))
    | none => False
theorem pd_frz {e : Expr} {f : DTE} (h : PD W E X e f) : PD W E X e (dFz f) := by
  obtain ⟨te, p, q⟩ := h
  refine ⟨te, p, fun {F σ δ H Q C} R c k => ?_⟩
  refine q R c fun a δ1 F1 H1 v R1 s1 r1 c1 => ?_
  split at c1
  · exact k _ _ _ _ _ R1 s1 r1 c1
  · exact c1.elim
  · rename_i i
    split at c1
    · rename_i xs hx
      obtain ⟨F2, l, vs, R2, s2, e1, e2, e3, e4⟩ := R1.freeze (cont_at hx)
      obtain ⟨l', g1, rfl⟩ := r1
      rw [e1] at g1
      cases g1
      exact k (.val (.list xs)) _ _ _ _ R2 (s1.trans s2) (Dp.lst (SqL.of e3) e4) c1
    · exact c1.elim
/-! ### methods of a list of the store -/
/-- the items of a list -/
def itemsA : Mo → Option (List Ar)
  | .fl xs => some (xs.map .val)
  | .ls as => some as
  | _ => none
theorem itemsA_rep {F : Fg} {H : Hp} {l : Addr} {o : Mo} {as : List Ar} (h : MoRep K mg F H l o) (e : itemsA o = some as) : ∃ vs, H l = some (.lst vs) ∧ ArsRep K F vs as := by
  cases o with
  | fl xs => cases e; obtain ⟨vs, h1, h2⟩ := h; exact ⟨vs, h1, ArsRep.ofData h2⟩
  | ls xs => cases e; exact h
  | _ => cases e
def isL : Mo → Bool
  | .fl _ => true
  | .ls _ => true
  | _ => false
theorem isL_live {o : Mo} (h : isL o = true) : live o = true := by cases o <;> first | rfl | cases h
def appM (o : Mo) (a : Ar) : Mo := match o, a with
  | .fl xs, .val d => .fl (xs ++ [d])
  | .fl xs, .sl j => .ls (xs.map .val ++ [.sl j])
  | .fl xs, .fn j => .ls (xs.map .val ++ [.fn j])
  | .ls as, a => .ls (as ++ [a])
  | o, _ => o
def lenM : Mo → Nat
  | .fl xs => xs.length
  | .ls xs => xs.length
  | _ => 0
theorem appM_rep {F : Fg} {H : Hp} {l : Addr} {o : Mo} {a : Ar} {w : V} (h : MoRep K mg F H l o) (n : isL o = true) (r : ArRep K F w a) : ∃ vs, H l = some (.lst vs) ∧ vs.length = lenM o ∧ isL (appM o a) = true ∧ MoRep K mg F (upd H l (.lst (vs ++ [w]))) l (appM o a) := by
  cases o with
  | fl xs =>
    obtain ⟨vs, h1, h2⟩ := h
    cases a with
    | val d => exact ⟨vs, h1, h2.length, rfl, _, upd_same, h2.append (.cons r .nil)⟩
    | fn j => exact ⟨vs, h1, h2.length, rfl, _, upd_same, (ArsRep.ofData h2).append ⟨r, trivial⟩⟩
    | sl j => exact ⟨vs, h1, h2.length, rfl, _, upd_same, (ArsRep.ofData h2).append ⟨r, trivial⟩⟩
  | ls as =>
    obtain ⟨vs, h1, h2⟩ := h
    exact ⟨vs, h1, h2.length, rfl, _, upd_same, h2.append ⟨r, trivial⟩⟩
  | _ => cases n
def isLi (δ : DSt) (i : Nat) : Bool := match δ.m[i]? with
  | some o => isL o
  | none => false
theorem isLi_at {δ : DSt} {i : Nat} (h : isLi δ i = true) : ∃ o, δ.m[i]? = some o ∧ isL o = true := by
  unfold isLi at h
  split at h
  · exact ⟨_, ‹_›, h⟩
  · cases h
theorem isSl {F : Fg} {H : Hp} {σ : L2.St} {δ : DSt} (R : RepS W E K mg F σ δ H) {i : Nat} {v : V} (h : isLi δ i = true) (r : ArRep K F v (.sl i)) : tyV K "list" v H := by
  obtain ⟨o, ho, n⟩ := isLi_at h
  obtain ⟨l, e1, e2, e3⟩ := R.sto.at ho (isL_live n)
  obtain ⟨l', g1, rfl⟩ := r
  rw [e1] at g1
  cases g1
  cases o with
  | fl xs => obtain ⟨vs, h1, _⟩ := e3; exact .inl ⟨rfl, _, SqL.of h1⟩
  | ls xs => obtain ⟨vs, h1, _⟩ := e3; exact .inl ⟨rfl, _, SqL.of h1⟩
  | _ => cases n
def setM (δ : DSt) (i : Nat) (o : Mo) : DSt := ⟨δ.s, δ.m.set i o⟩
def guardB (b : Bool) (P : Prop) : Prop := match b with
  | true => P
  | false => False
theorem guardB_iff {b : Bool} {P : Prop} : guardB b P ↔ b = true ∧ P := by
  cases b with
  | true => exact ⟨fun h => ⟨rfl, h⟩, fun h => h.2⟩
  | false => exact ⟨fun h => h.elim, fun h => by cases h.1⟩
def dApp (fo f : DTE) : DTE := fun δ C => fo δ fun a δ1 => match a with
  | .sl i => guardB (isLi δ1 i) (f δ1 fun b δ2 => match δ2.m[i]? with
    | some o => guardB (isL o) (lenM o < sizeLine ∧ C (.val .none) (setM δ2 i (appM o b)))
    | none => False)
  | _ => False
theorem pd_append {o e : Expr} {fo f : DTE} {apos cpos : Pos} (ho : PD W E X o fo) (he : PD W E X e f)
    (hbase : attributeBase o "append" X.env (eval o X.env) = eval o X.env := by rfl)
    (hfew : ((backTo cpos (starEach [e] X.env)).all (fun x => !x.1) && (backToKw cpos (keywordEach [] X.env)).all (fun x => x.1.isSome)
      && decide ([e].length + ([] : List Keyword).length + (if ([] : List Keyword).isEmpty then 0 else 1) < 30)) = true := by rfl)
    (hline : (apos.endLine == cpos.line) = true := by rfl) (hs : starEach [e] X.env = (false, eval e X.env) :: starEach [] X.env := by rfl) (hplain : (backTo cpos (starEach [] X.env)).any (·.1) = false := by rfl) :
    PD W E X (.Call (.Attribute o "append" apos) [e] [] cpos) (dApp fo f) := by
  obtain ⟨te, p, q⟩ := ho
  obtain ⟨tf, p2, q2⟩ := he
  refine ⟨_, pe_bm PySem.F.plainAttrs_list PySem.F.slot_list_append PySem.F.type_list_append mt_append p (pa_cons p2 pa_nil hs) hbase hfew hline hs hplain, fun {F σ δ H Q C} R c k => ?_⟩
  refine q R c fun a δ1 F1 H1 v R1 s1 r1 c1 => ?_
  split at c1
  · rename_i i
    obtain ⟨g1, c1⟩ := guardB_iff.mp c1
    refine ⟨isSl R1 g1 r1, q2 R1 c1 fun b δ2 F2 H2 w R2 s2 r2 c2 => ?_⟩
    clear g1
    split at c2
    · rename_i o ho
      obtain ⟨n, hz, c3⟩ := guardB_iff.mp c2
      obtain ⟨l, e1, e2, e3⟩ := R2.sto.at ho (isL_live n)
      obtain ⟨l', g1, rfl⟩ := r1.step s2
      rw [e1] at g1
      cases g1
      obtain ⟨vs, h1, h2, h3, h4⟩ := appM_rep e3 n r2
      obtain ⟨R3, s3⟩ := R2.put (o' := appM o b) (u := .lst (vs ++ [w])) ho (isL_live n) (isL_live h3) e1 (fun x => by intro z; cases z) h4
      exact ⟨l, vs, w, rfl, rfl, h1, by rw [h2]; exact hz, k (.val .none) _ _ _ _ R3 ((s1.trans s2).trans s3) Dp.non c3⟩
    · exact c2.elim
  · exact c1.elim
/-- xs.pop() -/
def popM : Mo → Option (Ar × Mo)
  | .fl xs => match xs[xs.length - 1]? with
    | some d => some (.val d, .fl xs.dropLast)
    | none => none
  | .ls xs => match xs[xs.length - 1]? with
    | some d => some (d, .ls xs.dropLast)
    | none => none
  | _ => none
theorem popM_rep {F : Fg} {H : Hp} {l : Addr} {o o' : Mo} {a : Ar} (h : MoRep K mg F H l o) (e : popM o = some (a, o')) : ∃ vs w, H l = some (.lst vs) ∧ vs[vs.length - 1]? = some w ∧ ArRep K F w a ∧ isL o = true ∧ isL o' = true ∧ MoRep K mg F (upd H l (.lst vs.dropLast)) l o' := by
  cases o with
  | fl xs =>
    obtain ⟨vs, h1, h2⟩ := h
    have e : (match xs[xs.length - 1]? with | some d => some (Ar.val d, Mo.fl xs.dropLast) | none => none) = some (a, o') := e
    cases hd : xs[xs.length - 1]? with
    | none => rw [hd] at e; cases e
    | some d =>
      rw [hd] at e
      cases e
      rw [← h2.length] at hd
      obtain ⟨w, e1, e2⟩ := h2.get hd
      exact ⟨vs, w, h1, e1, e2, rfl, rfl, _, upd_same, h2.dropLast⟩
  | ls xs =>
    obtain ⟨vs, h1, h2⟩ := h
    have e : (match xs[xs.length - 1]? with | some d => some (d, Mo.ls xs.dropLast) | none => none) = some (a, o') := e
    cases hd : xs[xs.length - 1]? with
    | none => rw [hd] at e; cases e
    | some d =>
      rw [hd] at e
      cases e
      rw [← h2.length] at hd
      obtain ⟨w, e1, e2⟩ := h2.get hd
      exact ⟨vs, w, h1, e1, e2, rfl, rfl, _, upd_same, h2.dropLast⟩
  | _ => cases e
def dPop (fo : DTE) : DTE := fun δ C => fo δ fun a δ1 => match a with
  | .sl i => match δ1.m[i]? with
    | some o => match popM o with
      | some (b, o') => C b (setM δ1 i o')
      | none => False
    | none => False
  | _ => False
theorem pd_pop {o : Expr} {fo : DTE} {apos cpos : Pos} (ho : PD W E X o fo)
    (hbase : attributeBase o "pop" X.env (eval o X.env) = eval o X.env := by rfl)
    (hline : (apos.endLine == cpos.line) = true := by rfl) :
    PD W E X (.Call (.Attribute o "pop" apos) [] [] cpos) (dPop fo) := by
  obtain ⟨te, p, q⟩ := ho
  refine ⟨_, pe_bm0 PySem.F.plainAttrs_list PySem.F.slot_list_pop PySem.F.type_list_pop mt_pop p hbase hline, fun {F σ δ H Q C} R c k => ?_⟩
  refine q R c fun a δ1 F1 H1 v R1 s1 r1 c1 => ?_
  split at c1
  · rename_i i
    split at c1
    · rename_i o ho
      split at c1
      · rename_i b o' hp
        have n : isL o = true := by
          cases o with
          | fl xs => rfl
          | ls xs => rfl
          | _ => cases hp
        obtain ⟨l, e1, e2, e3⟩ := R1.sto.at ho (isL_live n)
        have r1' := r1
        obtain ⟨l', g1, rfl⟩ := r1
        rw [e1] at g1
        cases g1
        obtain ⟨vs, w, h1, h2, h3, _, h5, h6⟩ := popM_rep e3 hp
        obtain ⟨R3, s3⟩ := R1.put (o' := o') (u := .lst vs.dropLast) ho (isL_live n) (isL_live h5) e1 (fun x => by intro z; cases z) h6
        exact ⟨isSl R1 (by unfold isLi; rw [ho]; exact n) r1', l, vs, w, rfl, rfl, h1, h2, k b _ _ _ w R3 (s1.trans s3) (h3.step s3) c1⟩
      · exact c1.elim
    · exact c1.elim
  · exact c1.elim
end
end MM

namespace MM
open PySem PySem.Spec PyProof.Rows L2
structure Conn (W : WX) (E : EW) (K : PySem.W.Frag) (mg : Str → Option Value) (F : Fg) (H : Hp) (DD : DEnds) (D : Ends) : Prop where
  nx : ∀ F' σ' δ' H', RepS W E K mg F' σ' δ' H' → Stp F H F' H' → DD.nx δ' → D.nx σ' H'
  bk : ∀ F' σ' δ' H', RepS W E K mg F' σ' δ' H' → Stp F H F' H' → DD.bk δ' → D.bk σ' H'
  ct : ∀ F' σ' δ' H', RepS W E K mg F' σ' δ' H' → Stp F H F' H' → DD.ct δ' → D.ct σ' H'
  rt : ∀ F' σ' δ' H' v r, RepS W E K mg F' σ' δ' H' → Stp F H F' H' → ArRep K F' v r → DD.rt r δ' → D.rt v H'
theorem Conn.step {W : WX} {E : EW} {K : PySem.W.Frag} {mg : Str → Option Value} {F : Fg} {H : Hp} {F1 : Fg} {H1 : Hp} {DD : DEnds} {D : Ends} (c : Conn W E K mg F H DD D) (s : Stp F H F1 H1) : Conn W E K mg F1 H1 DD D :=
  ⟨fun F' σ' δ' H' R t h => c.nx F' σ' δ' H' R (s.trans t) h, fun F' σ' δ' H' R t h => c.bk F' σ' δ' H' R (s.trans t) h, fun F' σ' δ' H' R t h => c.ct F' σ' δ' H' R (s.trans t) h,
    fun F' σ' δ' H' v r R t q h => c.rt F' σ' δ' H' v r R (s.trans t) q h⟩
/-! ### statements -/
structure SD (W : WX) (E : EW) (X : Cx) (st : Stmt) (g : DTS) : Prop where
  ex : ∃ ts, PS X st ts ∧ ∀ {F : Fg} {σ : L2.St} {δ : DSt} {H : Hp} {DD : DEnds} {D : Ends}, RepS W E X.K X.mg F σ δ H → g DD δ → Conn W E X.K X.mg F H DD D → ts D σ H
structure SDs (W : WX) (E : EW) (X : Cx) (st : List Stmt) (g : DTS) : Prop where
  ex : ∃ ts, PSs X st ts ∧ ∀ {F : Fg} {σ : L2.St} {δ : DSt} {H : Hp} {DD : DEnds} {D : Ends}, RepS W E X.K X.mg F σ δ H → g DD δ → Conn W E X.K X.mg F H DD D → ts D σ H
/-- targets: ws the slots that are written -/
abbrev DTG := Ar → DSt → (DSt → Prop) → Prop
abbrev DTGs := List Ar → DSt → (DSt → Prop) → Prop
/-- as it was, but for the slots ws -/
def Agree (ws : List Nat) (σ σ' : L2.St) : Prop := σ'.length = σ.length ∧ ∀ i, i ∉ ws → σ'[i]? = σ[i]?
structure PDG (W : WX) (E : EW) (X : Cx) (tg : Expr) (g : DTG) (ws : List Nat) : Prop where
  ex : ∃ t, PG X tg t ∧ ∀ {F : Fg} {σ : L2.St} {δ : DSt} {H : Hp} {v : V} {d : Ar} {Q : L2.St → Hp → Prop} {C : DSt → Prop}, RepS W E X.K X.mg F σ δ H → ArRep X.K F v d → g d δ C →
    (∀ δ' F' σ' H', RepS W E X.K X.mg F' σ' δ' H' → Stp F H F' H' → Agree ws σ σ' → C δ' → Q σ' H') → t v σ H Q
structure PDGs (W : WX) (E : EW) (X : Cx) (tg : List Expr) (g : DTGs) (ws : List Nat) : Prop where
  ex : ∃ t, PGs X tg t ∧ ∀ {F : Fg} {σ : L2.St} {δ : DSt} {H : Hp} {v : List V} {d : List Ar} {Q : L2.St → Hp → Prop} {C : DSt → Prop}, RepS W E X.K X.mg F σ δ H → ArsRep X.K F v d → g d δ C →
    (∀ δ' F' σ' H', RepS W E X.K X.mg F' σ' δ' H' → Stp F H F' H' → Agree ws σ σ' → C δ' → Q σ' H') → t v σ H Q
def setS (δ : DSt) (i : Nat) (a : Ar) : DSt := ⟨δ.s.set i (some a), δ.m⟩
def dgName (i : Nat) : DTG := fun d δ C => C (setS δ i d)
def dgsNil : DTGs := fun ds δ C => match ds with
  | [] => C δ
  | _ => False
def dgsCons (g : DTG) (h : DTGs) : DTGs := fun ds δ C => match ds with
  | d :: ds => g d δ fun δ1 => h ds δ1 C
  | _ => False
def tupA (δ : DSt) : Ar → Option (List Ar)
  | .val (.tuple ds) => some (ds.map .val)
  | .sl j => match δ.m[j]? with
    | some (.tu as) => some as
    | _ => none
  | _ => none
def dgTup (n : Nat) (g : DTGs) : DTG := fun d δ C => match tupA δ d with
  | some ds => ds.length = n ∧ g ds δ C
  | none => False
section
variable {W : WX} {E : EW} {mg : Str → Option Value} {X : Cx} {K : PySem.W.Frag} {F : Fg} {H : Hp} {σ : L2.St} {δ : DSt} {pos : Pos}
theorem tupA_rep (R : RepS W E K mg F σ δ H) {v : V} {a : Ar} {as : List Ar} (r : ArRep K F v a) (h : tupA δ a = some as) : ∃ p vs, v = .ref p ∧ SqT K H p vs ∧ ArsRep K F vs as := by
  cases a with
  | val d =>
    cases d with
    | tuple ds =>
      cases h
      cases (show Dp K F.f v (.tuple ds) from r) with
      | tup h1 a1 => exact ⟨_, _, rfl, seqT R.sto.sub h1, ArsRep.ofData a1⟩
    | _ => cases h
  | fn f => cases h
  | sl j =>
    have h : (match δ.m[j]? with | some (.tu as) => some as | _ => none) = some as := h
    cases q : δ.m[j]? with
    | none => rw [q] at h; cases h
    | some o =>
      rw [q] at h
      cases o with
      | tu as' =>
        cases h
        obtain ⟨l, e1, e2, vs, e3, e4⟩ := R.sto.at q rfl
        obtain ⟨l', g1, rfl⟩ := r
        rw [e1] at g1
        cases g1
        exact ⟨_, _, rfl, SqT.of e3, e4⟩
      | _ => cases h
theorem pdg_name {i : Nat} {x : Str} (hN : X.N.Nodup) (hi : X.N[i]? = some x) (hx : Loc X.env.scope x) (hf : X.fn x = true ∨ X.env.scope.names.lookup x = some .local := by first | exact .inl rfl | exact .inr rfl | assumption) : PDG W E X (.Name x pos) (dgName i) [i] := by
  refine ⟨_, pg_name hN hi hx hf, fun R h c k => ?_⟩
  exact k _ _ _ _ (R.setSlot h) .refl ⟨by simp, fun j hj => List.getElem?_set_ne (Ne.symm (by simpa using hj))⟩ c
theorem pdgs_nil : PDGs W E X [] dgsNil [] := by
  refine ⟨_, pgs_nil, fun {F σ δ H v d Q C} R h c k => ?_⟩
  unfold dgsNil at c
  split at c
  · cases v with
    | nil => exact ⟨rfl, k _ _ _ _ R .refl ⟨rfl, fun _ _ => rfl⟩ c⟩
    | cons _ _ => exact h.elim
  · exact c.elim
theorem pdgs_cons {e : Expr} {es : List Expr} {g : DTG} {h : DTGs} {ws us : List Nat} (h1 : PDG W E X e g ws) (h2 : PDGs W E X es h us)
    (hs : (assignEach (e :: es) X.env).map (·.2) = assign e X.env :: (assignEach es X.env).map (·.2) := by rfl) : PDGs W E X (e :: es) (dgsCons g h) (ws ++ us) := by
  obtain ⟨t, p1, q1⟩ := h1
  obtain ⟨u, p2, q2⟩ := h2
  refine ⟨_, pgs_cons p1 p2 hs, fun {F σ δ H v d Q C} R h c k => ?_⟩
  unfold dgsCons at c
  split at c
  · cases v with
    | nil => exact h.elim
    | cons v vs =>
      refine ⟨_, _, rfl, q1 R h.1 c fun δ1 F1 σ1 H1 R1 s1 f1 c1 => ?_⟩
      refine q2 R1 (h.2.step s1) c1 fun δ2 F2 σ2 H2 R2 s2 f2 c2 => ?_
      exact k _ _ _ _ R2 (s1.trans s2) ⟨f2.1.trans f1.1, fun i hi => by
        rw [List.mem_append, not_or] at hi
        exact (f2.2 i hi.2).trans (f1.2 i hi.1)⟩ c2
  · exact c.elim
theorem pdg_tup {es : List Expr} {kk : Nat} {g : DTGs} {n : Nat} {ws : List Nat} (hc : X.calm = true) (h : PDGs W E X es g ws)
    (hn : (assignEach es X.env).length = n := by rfl) (hst : (assignEach es X.env).findIdx? (·.1) = none := by rfl) : PDG W E X (.Tuple es kk pos) (dgTup n g) ws := by
  obtain ⟨t, p, q⟩ := h
  refine ⟨_, pg_tup hc p hn hst, fun {F σ δ H v d Q C} R h c k => ?_⟩
  unfold dgTup at c
  split at c
  · rename_i ds hd
    obtain ⟨p, vs, rfl, h1, a1⟩ := tupA_rep R h hd
    exact ⟨_, _, rfl, h1, a1.length.trans c.1, q R a1 c.2 k⟩
  · exact c.elim

def dNext : DTS := fun D δ => D.nx δ
theorem nx_of {D : DEnds} {δ : DSt} (h : D.nx δ) : dNext D δ := h
def dSeq (g h : DTS) : DTS := fun D δ => g { D with nx := h D } δ
theorem sds_nil : SDs W E X [] dNext := ⟨_, pss_nil, fun R h k => k.nx _ _ _ _ R .refl h⟩
theorem sds_cons {st : Stmt} {rest : List Stmt} {g h : DTS} (h1 : SD W E X st g) (h2 : SDs W E X rest h) : SDs W E X (st :: rest) (dSeq g h) := by
  obtain ⟨t, p1, q1⟩ := h1
  obtain ⟨u, p2, q2⟩ := h2
  refine ⟨_, pss_cons p1 p2, fun R c k => ?_⟩
  exact q1 R c ⟨fun F' σ' δ' H' R' s' c' => q2 R' c' (k.step s'), k.bk, k.ct, k.rt⟩
theorem sds_one {st : Stmt} {g : DTS} (h1 : SD W E X st g) : SDs W E X [st] g := by
  obtain ⟨t, p1, q1⟩ := h1
  exact ⟨_, pss_one p1, q1⟩
def dBreak : DTS := fun D δ => D.bk δ
def dCont : DTS := fun D δ => D.ct δ
theorem sd_pass : SD W E X (.Pass pos) dNext := ⟨_, ps_pass, fun R h k => k.nx _ _ _ _ R .refl h⟩
theorem sd_break : SD W E X (.Break pos) dBreak := ⟨_, ps_break, fun R h k => k.bk _ _ _ _ R .refl h⟩
theorem sd_continue : SD W E X (.Continue pos) dCont := ⟨_, ps_continue, fun R h k => k.ct _ _ _ _ R .refl h⟩
theorem sd_doc {x j p2} : SD W E X (.Expr (.Constant (.str x) j pos) p2) dNext := ⟨_, ps_doc, fun R h k => k.nx _ _ _ _ R .refl h⟩
/-- a way that is never taken -/
def dNever : DTS := fun _ _ => False
theorem sd_never {st : Stmt} : SD W E X st dNever := ⟨_, ps_never, fun R h k => h⟩
def dDrop (f : DTE) : DTS := fun D δ => f δ fun _ δ1 => D.nx δ1
theorem sd_expr {e : Expr} {f : DTE} (h : PD W E X e f) (hs : swapsWith e none pos.line X.env = pure false := by rfl) : SD W E X (.Expr e pos) (dDrop f) := by
  obtain ⟨te, p, q⟩ := h
  exact ⟨_, ps_expr p hs, fun R c k => q R c fun a δ1 F1 H1 v R1 s1 r1 c1 => k.nx _ _ _ _ R1 s1 c1⟩
def dRet (f : DTE) : DTS := fun D δ => f δ fun a δ1 => D.rt a δ1
theorem sd_ret {e : Expr} {f : DTE} (h : PD W E X e f) : SD W E X (.Return (some e) pos) (dRet f) := by
  obtain ⟨te, p, q⟩ := h
  refine ⟨_, ps_ret p, fun {F σ δ H DD D} R c k => ?_⟩
  exact q R c fun a δ1 F1 H1 v R1 s1 r1 c1 => k.rt _ _ _ _ v a R1 s1 r1 c1
def dRet0 : DTS := fun D δ => D.rt (.val .none) δ
theorem sd_ret0 : SD W E X (.Return none pos) dRet0 := ⟨_, ps_retN, fun R h k => k.rt _ _ _ _ _ (.val .none) R .refl Dp.non h⟩
def dIf (t : DTT) (g h : DTS) : DTS := fun D δ => t δ fun b δ1 => (b = true → g D δ1) ∧ (b = false → h D δ1)
theorem sd_if {c : Expr} {a b : List Stmt} {t : DTT} {g h : DTS} (hc : PDT W E X c t) (ha : SDs W E X a g) (hb : SDs W E X b h) : SD W E X (.If c a b pos) (dIf t g h) := by
  obtain ⟨tc, p, q⟩ := hc
  obtain ⟨ta, pa, qa⟩ := ha
  obtain ⟨tb, pb, qb⟩ := hb
  refine ⟨_, ps_if p pa pb, fun R c k => ?_⟩
  refine q R c fun b δ1 F1 H1 R1 s1 c1 => ?_
  cases b with
  | true => exact iteT (qa R1 (c1.1 rfl) (k.step s1))
  | false => exact iteF (qb R1 (c1.2 rfl) (k.step s1))
def dSet (i : Nat) (f : DTE) : DTS := fun D δ => f δ fun a δ1 => D.nx (setS δ1 i a)
theorem sd_set {i : Nat} {x : Str} {e : Expr} {f : DTE} {p2 : Pos} (hN : X.N.Nodup) (hi : X.N[i]? = some x) (hx : Loc X.env.scope x) (h : PD W E X e f) (hs : swapsWith e (some (.Name x p2)) pos.line X.env = pure false := by rfl)
    (hf : X.fn x = true ∨ X.env.scope.names.lookup x = some .local := by first | exact .inl rfl | exact .inr rfl | assumption) : SD W E X (.Assign [.Name x p2] e pos) (dSet i f) := by
  obtain ⟨te, p, q⟩ := h
  refine ⟨_, ps_set hN hi hx p hs hf, fun R c k => ?_⟩
  exact q R c fun a δ1 F1 H1 v R1 s1 r1 c1 => k.nx _ _ _ _ (R1.setSlot r1) s1 c1
/-- target = e, any target -/
def dAsg (f : DTE) (g : DTG) : DTS := fun D δ => f δ fun a δ1 => g a δ1 D.nx
theorem sd_asg {tg e : Expr} {f : DTE} {g : DTG} {ws : List Nat} (h : PD W E X e f) (hg : PDG W E X tg g ws) (hs : swapsWithSole [tg] e pos.line X.env = pure false := by rfl) (hw : swappedStores [tg] e X.env = pure none := by rfl)
    (h1 : (assignEach [tg] X.env).map (·.2) = [assign tg X.env] := by rfl) : SD W E X (.Assign [tg] e pos) (dAsg f g) := by
  obtain ⟨te, p, q⟩ := h
  obtain ⟨t, pg, qg⟩ := hg
  refine ⟨_, ps_asg p pg hs hw h1, fun R c k => ?_⟩
  refine q R c fun a δ1 F1 H1 v R1 s1 r1 c1 => ?_
  exact qg R1 r1 c1 fun δ2 F2 σ2 H2 R2 s2 _ c2 => k.nx _ _ _ _ R2 (s1.trans s2) c2
/-- name += e -/
def dAug (i : Nat) (r : DOp) (f : DTE) : DTS := fun D δ => match δ.s[i]? with
  | some (some (.val x)) => f δ fun a δ1 => match a with
    | .val y => r x y fun z => D.nx (setS δ1 i (.val z))
    | _ => False
  | _ => False
def IpD (W : WX) (E : EW) (X : Cx) (op : Operator) (r : DOp) : Prop :=
  ∃ r' : TIp, PIp X op r' ∧ ∀ {F : Fg} {σ : L2.St} {δ : DSt} {H : Hp} {x y : V} {d e : PyData} {Q : VK} {C : PyData → Prop}, RepS W E X.K X.mg F σ δ H → Dp X.K F.f x d → Dp X.K F.f y e → r d e C →
    (∀ z F' H' v, RepS W E X.K X.mg F' σ δ H' → Stp F H F' H' → Dp X.K F'.f v z → C z → Q v H') → r' x y H Q
def iAdd : DOp := fun d e C => match d, e with
  | .int i, .int j => C (.int (i + j))
  | _, _ => False
def iSub : DOp := fun d e C => match d, e with
  | .int i, .int j => C (.int (i - j))
  | _, _ => False
theorem id_add : IpD W E X .Add iAdd := by
  refine ⟨_, ip_add, fun {F σ δ H x y d e Q C} R hx hy c k => ?_⟩
  unfold iAdd at c
  split at c
  · cases hx; cases hy
    exact ⟨_, _, rfl, rfl, k _ _ _ _ R .refl (.int _) c⟩
  · exact c.elim
theorem id_sub : IpD W E X .Sub iSub := by
  refine ⟨_, ip_sub, fun {F σ δ H x y d e Q C} R hx hy c k => ?_⟩
  unfold iSub at c
  split at c
  · cases hx; cases hy
    exact ⟨_, _, rfl, rfl, k _ _ _ _ R .refl (.int _) c⟩
  · exact c.elim
theorem sd_aug {i : Nat} {x : Str} {e : Expr} {f : DTE} {op : Operator} {r : DOp} {p2 : Pos} (hN : X.N.Nodup) (hi : X.N[i]? = some x) (hx : Loc X.env.scope x) (h : PD W E X e f) (ho : IpD W E X op r)
    (hf : X.fn x = true ∨ X.env.scope.names.lookup x = some .local := by first | exact .inl rfl | exact .inr rfl | assumption) : SD W E X (.AugAssign (.Name x p2) op e pos) (dAug i r f) := by
  obtain ⟨te, p, q⟩ := h
  obtain ⟨r', o1, o2⟩ := ho
  refine ⟨_, ps_aug hN hi hx p o1 hf, fun {F σ δ H DD D} R c k => ?_⟩
  unfold dAug at c
  split at c
  · rename_i d hd
    obtain ⟨v, e1, e2⟩ := R.slot i (.val d) hd
    refine ⟨v, e1, q R c fun a δ1 F1 H1 w R1 s1 r1 c1 => ?_⟩
    split at c1
    · refine o2 R1 (Dp.mono s1.ext _ _ e2) r1 c1 fun z F2 H2 u R2 s2 r2 c2 => ?_
      exact k.nx _ _ _ _ (R2.setSlot (a := .val z) r2) (s1.trans s2) c2
    · exact c1.elim
  · exact c.elim
/-- xs[i] = e of a list of the store -/
def setL (o : Mo) (n : Nat) (a : Ar) : Mo := match o, a with
  | .fl xs, .val d => .fl (xs.set n d)
  | .fl xs, .sl j => .ls ((xs.map .val).set n (.sl j))
  | .fl xs, .fn j => .ls ((xs.map .val).set n (.fn j))
  | .ls as, a => .ls (as.set n a)
  | o, _ => o
theorem setL_rep {l : Addr} {o : Mo} {a : Ar} {w : V} {n : Nat} (h : MoRep K mg F H l o) (nl : isL o = true) (r : ArRep K F w a) : ∃ vs, H l = some (.lst vs) ∧ vs.length = lenM o ∧ isL (setL o n a) = true ∧ MoRep K mg F (upd H l (.lst (vs.set n w))) l (setL o n a) := by
  cases o with
  | fl xs =>
    obtain ⟨vs, h1, h2⟩ := h
    cases a with
    | val d => exact ⟨vs, h1, h2.length, rfl, _, upd_same, DpAll.set r n h2⟩
    | fn j => exact ⟨vs, h1, h2.length, rfl, _, upd_same, ArsRep.set r n (ArsRep.ofData h2)⟩
    | sl j => exact ⟨vs, h1, h2.length, rfl, _, upd_same, ArsRep.set r n (ArsRep.ofData h2)⟩
  | ls as =>
    obtain ⟨vs, h1, h2⟩ := h
    exact ⟨vs, h1, h2.length, rfl, _, upd_same, ArsRep.set r n h2⟩
  | _ => cases nl
def dSetIx (fo fi f : DTE) : DTS := fun D δ => f δ fun a δ1 => fo δ1 fun b δ2 => match b with
    | .sl j => fi δ2 fun c δ3 => match c with
      | .val (.int i) => match δ3.m[j]? with
        | some o => match ixN (lenM o) i with
          | some n => guardB (isL o) (D.nx (setM δ3 j (setL o n a)))
          | none => False
        | none => False
      | _ => False
    | _ => False
theorem sd_setIx {o i e : Expr} {fo fi f : DTE} {p2 : Pos} (ho : PD W E X o fo) (hi : PD W E X i fi) (h : PD W E X e f)
    (ha : ∀ v, assign (.Subscript o i p2) X.env v = (do
      let ov ← holding [v] (eval o X.env)
      let iv ← holding [v, ov] (eval i X.env)
      standAt p2
      holding [v, ov, iv] (setItem ov iv v)
      release [v, ov, iv] []) := by intro _; rfl)
    (hs : swapsWithSole [.Subscript o i p2] e pos.line X.env = pure false := by rfl) (hw : swappedStores [.Subscript o i p2] e X.env = pure none := by rfl)
    (h1 : (assignEach [.Subscript o i p2] X.env).map (·.2) = [assign (.Subscript o i p2) X.env] := by rfl) : SD W E X (.Assign [.Subscript o i p2] e pos) (dSetIx fo fi f) := by
  obtain ⟨te, p, q⟩ := h
  obtain ⟨to, po, qo⟩ := ho
  obtain ⟨ti, pi, qi⟩ := hi
  refine ⟨_, ps_asg p (pg_sub po pi set_list ha) hs hw h1, fun {F σ δ H DD D} R c k => ?_⟩
  refine q R c fun a δ1 F1 H1 v R1 s1 r1 c1 => ?_
  refine qo R1 c1 fun b δ2 F2 H2 w R2 s2 r2 c2 => ?_
  split at c2
  · rename_i j
    refine qi R2 c2 fun z δ3 F3 H3 u R3 s3 r3 c3 => ?_
    split at c3
    · rename_i n
      cases (show Dp X.K F3.f u (.int n) from r3)
      split at c3
      · rename_i o ho
        split at c3
        · rename_i m hm
          obtain ⟨nl, c4⟩ := guardB_iff.mp c3
          obtain ⟨l, e1, e2, e3⟩ := R3.sto.at ho (isL_live nl)
          obtain ⟨l', g1, rfl⟩ := r2.step s3
          rw [e1] at g1
          cases g1
          obtain ⟨vs, h1, h2, h3, h4⟩ := setL_rep (n := m) e3 nl (r1.step (s2.trans s3))
          obtain ⟨R4, s4⟩ := R3.put (o' := setL o m a) (u := .lst (vs.set m v)) ho (isL_live nl) (isL_live h3) e1 (fun x => by intro z; cases z) h4
          exact ⟨l, vs, n, m, rfl, rfl, h1, by rw [h2]; exact hm, k.nx _ _ _ _ R4 (((s1.trans s2).trans s3).trans s4) c4⟩
        · exact c3.elim
      · exact c3.elim
    · exact c3.elim
  · exact c2.elim

/-! ### while -/
def dWhileN (c : DTT) (b : DTS) : Nat → DTS
  | 0 => fun _ _ => False
  | n + 1 => fun D δ => c δ fun t δ1 => (t = true → b { nx := dWhileN c b n D, ct := dWhileN c b n D, bk := D.nx, rt := D.rt } δ1) ∧ (t = false → D.nx δ1)
def dWhile (c : DTT) (b : DTS) : DTS := fun D δ => ∃ n, dWhileN c b n D δ
theorem sd_while {c : Expr} {body : List Stmt} {t : DTT} {b : DTS} (hp : PassesOwn (model X.prog X.w) X.A X.env X.xe) (hc : PDT W E X c t) (hb : SDs W E X body b) : SD W E X (.While c body [] pos) (dWhile t b) := by
  obtain ⟨tc, p, q⟩ := hc
  obtain ⟨tb, pb, qb⟩ := hb
  refine ⟨_, ps_while hp p pb, fun {F σ δ H DD D} R c k => ?_⟩
  obtain ⟨n, c⟩ := c
  refine ⟨fun m σ' H' => ∃ F' δ', RepS W E X.K X.mg F' σ' δ' H' ∧ Stp F H F' H' ∧ dWhileN t b m DD δ', ⟨n, F, δ, R, .refl, c⟩, ?_⟩
  rintro m σ1 H1 ⟨F1, δ1, R1, s1, c1⟩
  cases m with
  | zero => exact c1.elim
  | succ m =>
    refine q R1 c1 fun t' δ2 F2 H2 R2 s2 c2 => ?_
    cases t' with
    | false => exact iteF (k.nx _ _ _ _ R2 (s1.trans s2) (c2.2 rfl))
    | true =>
      refine iteT ⟨fun σ' H' => ∃ F' δ', RepS W E X.K X.mg F' σ' δ' H' ∧ Stp F H F' H' ∧ dWhileN t b m DD δ', fun σ' H' h => ⟨m, Nat.lt_succ_self _, h⟩, ?_⟩
      have s12 := s1.trans s2
      exact qb R2 (c2.1 rfl) ⟨fun F' σ' δ' H' R' s' c' => ⟨F', δ', R', s12.trans s', c'⟩, fun F' σ' δ' H' R' s' c' => k.nx _ _ _ _ R' (s12.trans s') c',
        fun F' σ' δ' H' R' s' c' => ⟨F', δ', R', s12.trans s', c'⟩, fun F' σ' δ' H' v r R' s' q' c' => k.rt _ _ _ _ v r R' (s12.trans s') q' c'⟩

/-! ### what a for walks -/
/-- a list of the store must be as it was -/
def guardOk (gd : Option (Nat × Mo)) (δ : DSt) : Prop := match gd with
  | none => True
  | some (i, o) => δ.m[i]? = some o
def guardAnd (gd : Option (Nat × Mo)) (δ : DSt) (P : Prop) : Prop := match gd with
  | none => P
  | some (i, o) => δ.m[i]? = some o ∧ P
theorem guardAnd_iff {gd : Option (Nat × Mo)} {δ : DSt} {P : Prop} : guardAnd gd δ P ↔ guardOk gd δ ∧ P := by
  cases gd with
  | none => exact ⟨fun h => ⟨trivial, h⟩, fun h => h.2⟩
  | some p => exact Iff.rfl
def IterRep (W : WX) (E : EW) (K : PySem.W.Frag) (mg : Str → Option Value) (F : Fg) (H : Hp) (J : It) (its : List Ar) (gd : Option (Nat × Mo)) : Prop :=
  ∀ F' σ δ H', RepS W E K mg F' σ δ H' → Stp F H F' H' → guardOk gd δ → ∀ i, (its.length ≤ i → J.stop i H') ∧ ∀ d, its[i]? = some d → J.go i H' ∧ ∀ x H'', J.yld i H' x H'' →
    ∃ F'', RepS W E K mg F'' σ δ H'' ∧ Stp F' H' F'' H'' ∧ ArRep K F'' x d
abbrev DTI := DSt → (List Ar → Option (Nat × Mo) → DSt → Prop) → Prop
structure PDI (W : WX) (E : EW) (X : Cx) (tg iter : Expr) (f : DTI) : Prop where
  ex : ∃ wi, PI X tg iter wi ∧ ∀ {F : Fg} {σ : L2.St} {δ : DSt} {H : Hp} {R : It → Hp → Prop} {C : List Ar → Option (Nat × Mo) → DSt → Prop}, RepS W E X.K X.mg F σ δ H → f δ C →
    (∀ its gd δ' F' H' J, RepS W E X.K X.mg F' σ δ' H' → Stp F H F' H' → IterRep W E X.K X.mg F' H' J its gd → guardOk gd δ' → C its gd δ' → R J H') → wi σ H R
def dIterE (f : DTE) : DTI := fun δ C => f δ fun a δ1 => match a with
  | .val (.list xs) => C (xs.map .val) none δ1
  | .val (.tuple xs) => C (xs.map .val) none δ1
  | .val (.str z) => C (z.cps.toList.map fun c => .val (.str ⟨#[c]⟩)) none δ1
  | .sl i => match δ1.m[i]? with
    | some o => match itemsA o with
      | some as => C as (some (i, o)) δ1
      | none => False
    | none => False
  | _ => False
theorem data_get {F : Fg} {vs : List V} {xs : List PyData} (hA : DpAll K F.f vs xs) {i : Nat} {d : Ar} (hd : (xs.map Ar.val)[i]? = some d) : ∃ v, vs[i]? = some v ∧ ArRep K F v d := by
  rw [List.getElem?_map] at hd
  cases q : xs[i]? with
  | none => rw [q] at hd; cases hd
  | some x =>
    rw [q] at hd
    cases hd
    obtain ⟨v, h1, h2⟩ := hA.get q
    exact ⟨v, h1, h2⟩
theorem iter_list {a : Addr} {vs : List V} {xs : List PyData} (h : SqL K F.f a vs) (hA : DpAll K F.f vs xs) : IterRep W E K mg F H (Itl K a) (xs.map .val) none := by
  intro F' σ δ H1 R t _ i
  have hH : SqL K H1 a vs := R.sto.sub.seq (t.ext.seq h)
  refine ⟨fun hi => ⟨vs, hH, by rw [hA.length]; simpa using hi⟩, fun d hd => ?_⟩
  obtain ⟨v, hv, dv⟩ := data_get hA hd
  refine ⟨⟨vs, v, hH, hv⟩, fun x H' hy => ?_⟩
  obtain ⟨rfl, hy⟩ := hy
  have ex : x = v := Option.some.inj ((hy _ hH).symm.trans hv)
  subst ex
  exact ⟨F', R, .refl, dv.step t⟩
theorem iter_tup {a : Addr} {vs : List V} {xs : List PyData} (h : SqT K F.f a vs) (hA : DpAll K F.f vs xs) : IterRep W E K mg F H (Itt K a) (xs.map .val) none := by
  intro F' σ δ H1 R t _ i
  have hH : SqT K H1 a vs := seqT R.sto.sub (seqT t.ext h)
  refine ⟨fun hi => ⟨vs, hH, by rw [hA.length]; simpa using hi⟩, fun d hd => ?_⟩
  obtain ⟨v, hv, dv⟩ := data_get hA hd
  refine ⟨⟨vs, v, hH, hv⟩, fun x H' hy => ?_⟩
  obtain ⟨rfl, hy⟩ := hy
  have ex : x = v := Option.some.inj ((hy _ hH).symm.trans hv)
  subst ex
  exact ⟨F', R, .refl, dv.step t⟩
theorem iter_store {j : Nat} {o : Mo} {l : Addr} {as : List Ar} (hl : F.g[j]? = some l) (ho : itemsA o = some as) : IterRep W E K mg F H (Itl K l) as (some (j, o)) := by
  intro F' σ δ H1 R t gd i
  have n : isL o = true := by cases o <;> first | rfl | cases ho
  obtain ⟨l', e1, e2, e3⟩ := R.sto.at (show δ.m[j]? = some o from gd) (isL_live n)
  obtain ⟨ns, ep, _⟩ := t.pre
  rw [ep, List.getElem?_append_left (List.getElem?_eq_some_iff.mp hl).1, hl] at e1
  cases e1
  obtain ⟨vs, h1, h2⟩ := itemsA_rep e3 ho
  refine ⟨fun hi => ⟨vs, SqL.of h1, by rw [h2.length]; exact hi⟩, fun d hd => ?_⟩
  obtain ⟨v, hv, dv⟩ := h2.get hd
  refine ⟨⟨vs, v, SqL.of h1, hv⟩, fun x H' hy => ?_⟩
  obtain ⟨rfl, hy⟩ := hy
  have ex : x = v := Option.some.inj ((hy _ (SqL.of h1)).symm.trans hv)
  subst ex
  exact ⟨F', R, .refl, dv⟩
theorem iter_str (z : Str) : IterRep W E K mg F H (Its z) (z.cps.toList.map fun c => .val (.str ⟨#[c]⟩)) none := by
  intro F' σ δ H1 R t _ i
  refine ⟨fun hi => by
    have hi : z.cps.size ≤ i := by simpa using hi
    exact hi, fun d hd => ?_⟩
  rw [List.getElem?_map] at hd
  cases q : z.cps.toList[i]? with
  | none => rw [q] at hd; cases hd
  | some c =>
    rw [q] at hd
    cases hd
    have hi : i < z.cps.size := by
      have := (List.getElem?_eq_some_iff.mp q).1
      simpa using this
    refine ⟨hi, fun x H' hy => ?_⟩
    obtain ⟨rfl, c', hc, rfl⟩ := hy
    have : c' = c := by
      have q2 : z.cps[i]? = some c := by simpa using q
      rw [hc] at q2
      exact Option.some.inj q2
    subst this
    exact ⟨F', R, .refl, Dp.str _⟩
theorem pdi_e {tg e : Expr} {f : DTE} (h : PD W E X e f) : PDI W E X tg e (dIterE f) := by
  obtain ⟨te, p, q⟩ := h
  refine ⟨_, DD.pi_any p, fun {F σ δ H R C} RR c k => ?_⟩
  refine q RR c fun a δ1 F1 H1 v R1 s1 r1 c1 => ?_
  split at c1
  · rename_i xs
    cases (show Dp X.K F1.f v (.list xs) from r1) with
    | lst h1 a1 => exact .inl ⟨_, rfl, ⟨_, R1.sto.sub.seq h1⟩, k _ _ _ _ _ _ R1 s1 (iter_list h1 a1) trivial c1⟩
  · rename_i xs
    cases (show Dp X.K F1.f v (.tuple xs) from r1) with
    | tup h1 a1 => exact .inr (.inl ⟨_, rfl, ⟨_, seqT R1.sto.sub h1⟩, k _ _ _ _ _ _ R1 s1 (iter_tup h1 a1) trivial c1⟩)
  · rename_i z
    cases (show Dp X.K F1.f v (.str z) from r1)
    exact .inr (.inr ⟨z, rfl, k _ _ _ _ _ _ R1 s1 (iter_str z) trivial c1⟩)
  · rename_i i
    split at c1
    · rename_i o ho
      split at c1
      · rename_i as has
        have n : isL o = true := by cases o <;> first | rfl | cases has
        obtain ⟨l, e1, e2, e3⟩ := R1.sto.at ho (isL_live n)
        obtain ⟨l', g1, rfl⟩ := r1
        rw [e1] at g1
        cases g1
        obtain ⟨vs, h1, h2⟩ := itemsA_rep e3 has
        exact .inl ⟨_, rfl, ⟨_, SqL.of h1⟩, k _ _ _ _ _ _ R1 s1 (iter_store e1 has) ho c1⟩
      · exact c1.elim
    · exact c1.elim
  · exact c1.elim
def rangeD (lo : Int) (n : Nat) : List Ar := (List.range n).map fun k => .val (.int (lo + (k : Nat)))
theorem iter_rng (lo : Int) (n : Nat) : IterRep W E K mg F H (Itr lo n) (rangeD lo n) none := by
  intro F' σ δ H1 R t _ i
  unfold rangeD
  refine ⟨fun hi => ?_, fun d hd => ?_⟩
  · have hi : n ≤ i := by simpa using hi
    exact hi
  rw [List.getElem?_map] at hd
  by_cases hi : i < n
  · rw [List.getElem?_range hi] at hd
    cases hd
    refine ⟨hi, fun x H' hy => ?_⟩
    obtain ⟨rfl, rfl⟩ := hy
    exact ⟨F', R, .refl, Dp.int _⟩
  · rw [List.getElem?_eq_none (by simpa using hi)] at hd
    cases hd
def dRng1 (f : DTA) : DTI := fun δ C => f δ fun as δ1 => match as with
  | [.val (.int j)] => -(2 ^ 62) ≤ j ∧ j < 2 ^ 62 ∧ C (rangeD 0 j.toNat) none δ1
  | _ => False
def dRng2 (f : DTA) : DTI := fun δ C => f δ fun as δ1 => match as with
  | [.val (.int i), .val (.int j)] => (-(2 ^ 62) ≤ i ∧ i < 2 ^ 62 ∧ -(2 ^ 62) ≤ j ∧ j < 2 ^ 62) ∧ C (rangeD i (j - i).toNat) none δ1
  | _ => False
theorem pdi_range1 {tg a : Expr} {f : DTA} {p : Pos} (hg : Gl X "range") (hm : X.mg "range" = none) (ha : PDA W E X [a] f) (hs : starEach [a] X.env = [(false, eval a X.env)] := by rfl) : PDI W E X tg (.Call (.Name "range" p) [a] [] pos) (dRng1 f) := by
  obtain ⟨ta, p, q⟩ := ha
  refine ⟨_, pi_range1 hg hm p hs, fun {F σ δ H R C} RR c k => ?_⟩
  refine q RR c fun as δ1 F1 H1 vs R1 s1 r1 c1 => ?_
  split at c1
  · rename_i j
    obtain ⟨v, rfl, r2⟩ := arsRep1 r1
    cases (show Dp X.K F1.f v (.int j) from r2)
    exact ⟨j, rfl, c1.1, c1.2.1, k _ _ _ _ _ _ R1 s1 (iter_rng 0 _) trivial c1.2.2⟩
  · exact c1.elim
theorem pdi_range2 {tg a b : Expr} {f : DTA} {p : Pos} (hg : Gl X "range") (hm : X.mg "range" = none) (ha : PDA W E X [a, b] f) (hs : starEach [a, b] X.env = [(false, eval a X.env), (false, eval b X.env)] := by rfl) (hs2 : starEach [b] X.env = [(false, eval b X.env)] := by rfl) : PDI W E X tg (.Call (.Name "range" p) [a, b] [] pos) (dRng2 f) := by
  obtain ⟨ta, p, q⟩ := ha
  refine ⟨_, pi_range2 hg hm p hs hs2, fun {F σ δ H R C} RR c k => ?_⟩
  refine q RR c fun as δ1 F1 H1 vs R1 s1 r1 c1 => ?_
  split at c1
  · rename_i i j
    obtain ⟨v, w, rfl, r2, r3⟩ := arsRep2 r1
    cases (show Dp X.K F1.f v (.int i) from r2)
    cases (show Dp X.K F1.f w (.int j) from r3)
    exact ⟨i, j, rfl, c1.1, k _ _ _ _ _ _ R1 s1 (iter_rng i _) trivial c1.2⟩
  · exact c1.elim
/-! ### for -/
def dForL (g : DTG) (b : DTS) (gd : Option (Nat × Mo)) : List Ar → DTS
  | [] => fun D δ => D.nx δ
  | d :: ds => fun D δ => g d δ fun δ1 => b { nx := fun δ' => guardAnd gd δ' (dForL g b gd ds D δ'), ct := fun δ' => guardAnd gd δ' (dForL g b gd ds D δ'), bk := D.nx, rt := D.rt } δ1
def dFor (fi : DTI) (g : DTG) (b : DTS) : DTS := fun D δ => fi δ fun its gd δ1 => dForL g b gd its D δ1
theorem sd_for {tg iter : Expr} {body : List Stmt} {fi : DTI} {g : DTG} {b : DTS} {ws : List Nat} (hp : PassesOwn (model X.prog X.w) X.A X.env X.xe) (hc : X.calm = true) (hi : PDI W E X tg iter fi) (hg : PDG W E X tg g ws) (hb : SDs W E X body b)
    (hs : ∀ x, foldedSetIterable iter X.env x = pure x := by intro _; rfl) : SD W E X (.For tg iter body [] pos) (dFor fi g b) := by
  obtain ⟨wi, pi, qi⟩ := hi
  obtain ⟨t, pg, qg⟩ := hg
  obtain ⟨tb, pb, qb⟩ := hb
  refine ⟨_, ps_for hp hc pi pg pb hs, fun {F σ δ H DD D} R c k => ?_⟩
  refine qi R c fun its gd δ1 F1 H1 J R1 s1 it gd1 c1 => ?_
  refine ⟨fun i m σ' H' => ∃ F' δ', RepS W E X.K X.mg F' σ' δ' H' ∧ Stp F1 H1 F' H' ∧ guardOk gd δ' ∧ m = its.length - i ∧ dForL g b gd (its.drop i) DD δ', ⟨its.length, F1, δ1, R1, .refl, gd1, rfl, c1⟩, ?_⟩
  rintro i m σ2 H2 ⟨F2, δ2, R2, s2, g2, rfl, c2⟩
  obtain ⟨stop, go⟩ := it F2 σ2 δ2 H2 R2 s2 g2 i
  cases q : its[i]? with
  | none =>
    have hi : its.length ≤ i := List.getElem?_eq_none_iff.mp q
    rw [List.drop_eq_nil_of_le hi] at c2
    exact .inl ⟨stop hi, k.nx _ _ _ _ R2 (s1.trans s2) c2⟩
  | some d =>
    have hi : i < its.length := (List.getElem?_eq_some_iff.mp q).1
    have ed : its.drop i = d :: its.drop (i + 1) := by
      rw [List.drop_eq_getElem_cons hi]
      have := (List.getElem?_eq_some_iff.mp q).2
      rw [this]
    rw [ed] at c2
    obtain ⟨g1, g3⟩ := go d q
    refine .inr ⟨g1, fun σ' H' => ∃ F' δ', RepS W E X.K X.mg F' σ' δ' H' ∧ Stp F1 H1 F' H' ∧ guardOk gd δ' ∧ dForL g b gd (its.drop (i + 1)) DD δ', fun σ' H' ⟨F', δ', a1, a2, a3, a4⟩ => ⟨its.length - (i + 1), by omega, F', δ', a1, a2, a3, rfl, a4⟩, fun x H3 hy => ?_⟩
    obtain ⟨F3, R3, s3, d3⟩ := g3 x H3 hy
    refine qg R3 d3 c2 fun δ4 F4 σ4 H4 R4 s4 _ c4 => ?_
    have s14 := (s2.trans s3).trans s4
    exact qb R4 c4 ⟨fun F' σ' δ' H' R' s' c' => ⟨F', δ', R', s14.trans s', guardAnd_iff.mp c'⟩, fun F' σ' δ' H' R' s' c' => k.nx _ _ _ _ R' (s1.trans (s14.trans s')) c',
      fun F' σ' δ' H' R' s' c' => ⟨F', δ', R', s14.trans s', guardAnd_iff.mp c'⟩, fun F' σ' δ' H' v r R' s' q' c' => k.rt _ _ _ _ v r R' (s1.trans (s14.trans s')) q' c'⟩
end
end MM

namespace MM
open PySem PySem.Spec PyProof.Rows L2
section
variable {W : WX} {E : EW} {mg : Str → Option Value} {X : Cx} {K : PySem.W.Frag} {F : Fg} {H : Hp} {σ : L2.St} {δ : DSt} {pos : Pos}
/-! ### the canonical readings: the same in every block -/
def canE (W : WX) (E : EW) (K : PySem.W.Frag) (mg : Str → Option Value) (f : DTE) : TE := fun σ H Q => ∃ F δ C, RepS W E K mg F σ δ H ∧ f δ C ∧ ∀ a δ' F' H' v, RepS W E K mg F' σ δ' H' → Stp F H F' H' → ArRep K F' v a → C a δ' → Q v H'
def canT (W : WX) (E : EW) (K : PySem.W.Frag) (mg : Str → Option Value) (f : DTT) : TT := fun σ H Q => ∃ F δ C, RepS W E K mg F σ δ H ∧ f δ C ∧ ∀ a δ' F' H', RepS W E K mg F' σ δ' H' → Stp F H F' H' → C a δ' → Q a H'
def canG (W : WX) (E : EW) (K : PySem.W.Frag) (mg : Str → Option Value) (g : DTG) (ws : List Nat) : TG := fun v σ H Q => ∃ F δ d C, RepS W E K mg F σ δ H ∧ ArRep K F v d ∧ g d δ C ∧ ∀ δ' F' σ' H', RepS W E K mg F' σ' δ' H' → Stp F H F' H' → Agree ws σ σ' → C δ' → Q σ' H'
theorem PD.can {e : Expr} {f : DTE} (h : PD W E X e f) : PE X e (canE W E X.K X.mg f) := by
  obtain ⟨te, p, q⟩ := h
  exact ⟨fun pins s σ H Q I ⟨F, δ, C, R, c, k⟩ => p.run pins s σ H Q I (q R c k)⟩
theorem PDG.can {e : Expr} {g : DTG} {ws : List Nat} (h : PDG W E X e g ws) : PG X e (canG W E X.K X.mg g ws) := by
  obtain ⟨te, p, q⟩ := h
  exact ⟨fun pins s σ H v u Q I r ⟨F, δ, d, C, R, hd, c, k⟩ => p.run pins s σ H v u Q I r (q R hd c k)⟩
structure PDTs (W : WX) (E : EW) (X : Cx) (ifs : List Expr) (f : DTT) : Prop where
  ex : ∃ te, PTs X ifs te ∧ ∀ {F : Fg} {σ : L2.St} {δ : DSt} {H : Hp} {Q : Bool → Hp → Prop} {C : Bool → DSt → Prop}, RepS W E X.K X.mg F σ δ H → f δ C →
    (∀ a δ' F' H', RepS W E X.K X.mg F' σ δ' H' → Stp F H F' H' → C a δ' → Q a H') → te σ H Q
theorem PDTs.can {ifs : List Expr} {f : DTT} (h : PDTs W E X ifs f) : PTs X ifs (canT W E X.K X.mg f) := by
  obtain ⟨te, p, q⟩ := h
  exact ⟨fun pins s σ H Q I ⟨F, δ, C, R, c, k⟩ => p.run pins s σ H Q I (q R c k)⟩
def dYes : DTT := fun δ C => C true δ
theorem pdts_nil : PDTs W E X [] dYes := ⟨_, pts_nil, fun R c k => k _ _ _ _ R .refl c⟩
theorem pdts_one {c : Expr} {f : DTT} (h : PDT W E X c f) : PDTs W E X [c] f := by
  obtain ⟨te, p, q⟩ := h
  exact ⟨_, pts_one p, q⟩
/-! ### comprehensions -/
def wipeL (s : List (Option Ar)) : List Nat → List (Option Ar)
  | [] => s
  | v :: vs => (wipeL s vs).set v none
def restL (s0 s : List (Option Ar)) : List Nat → List (Option Ar)
  | [] => s
  | v :: vs => (restL s0 s vs).set v (s0[v]?.getD none)
def wipeD (δ : DSt) (vs : List Nat) : DSt := ⟨wipeL δ.s vs, δ.m⟩
def restD (δ0 δ : DSt) (vs : List Nat) : DSt := ⟨restL δ0.s δ.s vs, δ.m⟩
theorem wipeL_len (s : List (Option Ar)) : ∀ vs : List Nat, (wipeL s vs).length = s.length
  | [] => rfl
  | v :: vs => by unfold wipeL; rw [List.length_set, wipeL_len s vs]
theorem restL_len (s0 s : List (Option Ar)) : ∀ vs : List Nat, (restL s0 s vs).length = s.length
  | [] => rfl
  | v :: vs => by unfold restL; rw [List.length_set, restL_len s0 s vs]
theorem wipeL_out {s : List (Option Ar)} {i : Nat} : ∀ {vs : List Nat}, i ∉ vs → (wipeL s vs)[i]? = s[i]?
  | [], _ => rfl
  | v :: vs, h => by
    have h1 : v ≠ i := fun e => h (by rw [e]; exact List.mem_cons_self)
    unfold wipeL
    rw [List.getElem?_set_ne h1]
    exact wipeL_out fun m => h (List.mem_cons_of_mem _ m)
theorem restL_out {s0 s : List (Option Ar)} {i : Nat} : ∀ {vs : List Nat}, i ∉ vs → (restL s0 s vs)[i]? = s[i]?
  | [], _ => rfl
  | v :: vs, h => by
    have h1 : v ≠ i := fun e => h (by rw [e]; exact List.mem_cons_self)
    unfold restL
    rw [List.getElem?_set_ne h1]
    exact restL_out fun m => h (List.mem_cons_of_mem _ m)
theorem wipeL_in {s : List (Option Ar)} {i : Nat} : ∀ {vs : List Nat}, i ∈ vs → ∀ x, (wipeL s vs)[i]? ≠ some (some x)
  | v :: vs, h, x => by
    unfold wipeL
    by_cases e : v = i
    · subst e
      by_cases hl : v < (wipeL s vs).length
      · rw [List.getElem?_set_self hl]; intro z; cases z
      · rw [List.getElem?_eq_none (by simpa using hl)]; intro z; cases z
    · rw [List.getElem?_set_ne e]
      rcases List.mem_cons.mp h with z | z
      · exact absurd z.symm e
      · exact wipeL_in z x
theorem restL_in {s0 s : List (Option Ar)} {i : Nat} (hl : s0.length = s.length) : ∀ {vs : List Nat}, i ∈ vs → (restL s0 s vs)[i]? = s0[i]?
  | v :: vs, h => by
    unfold restL
    by_cases e : v = i
    · subst e
      by_cases hv : v < s.length
      · rw [List.getElem?_set_self (by rw [restL_len]; exact hv), List.getElem?_eq_getElem (by omega)]
        rfl
      · rw [List.getElem?_eq_none (by simpa [restL_len] using hv), List.getElem?_eq_none (by omega)]
    · rw [List.getElem?_set_ne e]
      rcases List.mem_cons.mp h with z | z
      · exact absurd z.symm e
      · exact restL_in hl z
theorem wipe_agree {vs ws : List Nat} {σ2 : L2.St} (hw : ∀ i ∈ ws, i ∈ vs) (h : Agree ws (wipe σ vs) σ2) : wipe σ2 vs = wipe σ vs := by
  have hlen : σ2.length = σ.length := by rw [h.1, DD.wipe_len]
  refine List.ext_getElem? fun i => ?_
  by_cases hi : i ∈ vs
  · rw [DD.wipe_in hi, DD.wipe_in hi, hlen]
  · rw [wipe_out hi, h.2 i fun z => hi (hw i z)]
theorem RepS.wiped (R : RepS W E K mg F σ δ H) (vs : List Nat) : RepS W E K mg F (wipe σ vs) (wipeD δ vs) H := by
  refine R.next (s' := wipeL δ.s vs) (m' := δ.m) ⟨R.sto, by rw [DD.wipe_len, wipeL_len]; exact R.len, fun i a q => ?_⟩ .refl
  by_cases hi : i ∈ vs
  · exact absurd q (wipeL_in hi _)
  · rw [wipeL_out hi] at q
    rw [wipe_out hi]
    exact R.slot i a q
theorem RepS.restored {F4 : Fg} {H4 : Hp} {σ2 : L2.St} {δ4 : DSt} {vs : List Nat} (R : RepS W E K mg F σ δ H) (R4 : RepS W E K mg F4 σ2 δ4 H4) (t : Stp F H F4 H4) (ag : Agree vs σ σ2) :
    RepS W E K mg F4 σ (restD δ δ4 vs) H4 := by
  have hl : δ.s.length = δ4.s.length := by rw [← R.len, ← R4.len, ag.1]
  refine R4.next (s' := restL δ.s δ4.s vs) (m' := δ4.m) ⟨R4.sto, by rw [restL_len, ← hl]; exact R.len, fun i a q => ?_⟩ .refl
  by_cases hi : i ∈ vs
  · rw [restL_in hl hi] at q
    obtain ⟨v, h1, h2⟩ := R.slot i a q
    exact ⟨v, h1, h2.step t⟩
  · rw [restL_out hi] at q
    rw [← ag.2 i hi]
    exact R4.slot i a q
def dLcL (g : DTG) (tt : DTT) (te : DTE) (vs : List Nat) (gd : Option (Nat × Mo)) : List Ar → List PyData → DSt → (List PyData → DSt → Prop) → Prop
  | [], acc, δ, C => C acc δ
  | d :: ds, acc, δ, C => g d (wipeD δ vs) fun δ2 => tt δ2 fun b δ3 => (b = true → te δ3 fun a δ4 => match a with
      | .val y => acc.length < sizeLine ∧ guardAnd gd δ4 (dLcL g tt te vs gd ds (acc ++ [y]) (restD δ δ4 vs) C)
      | _ => False) ∧ (b = false → guardAnd gd δ3 (dLcL g tt te vs gd ds acc (restD δ δ3 vs) C))
def dLc (fi : DTI) (g : DTG) (tt : DTT) (te : DTE) (vs : List Nat) : DSt → (List PyData → DSt → Prop) → Prop := fun δ C => fi δ fun its gd δ1 => dLcL g tt te vs gd its [] δ1 C
theorem lc_read {fi : DTI} {g : DTG} {tt : DTT} {te : DTE} {vs ws : List Nat} {wi : TI} (hws : ∀ i ∈ ws, i ∈ vs)
    (qi : ∀ {F : Fg} {σ : L2.St} {δ : DSt} {H : Hp} {R : It → Hp → Prop} {C : List Ar → Option (Nat × Mo) → DSt → Prop}, RepS W E K mg F σ δ H → fi δ C →
      (∀ its gd δ' F' H' J, RepS W E K mg F' σ δ' H' → Stp F H F' H' → IterRep W E K mg F' H' J its gd → guardOk gd δ' → C its gd δ' → R J H') → wi σ H R)
    {Q : VK} {C : List PyData → DSt → Prop} (RR : RepS W E K mg F σ δ H) (c : dLc fi g tt te vs δ C)
    (k : ∀ xs δ' F' H' l us, RepS W E K mg F' σ δ' H' → Stp F H F' H' → F'.f l = none → H l = none → l ∉ F'.g → H' l = some (.lst us) → DpAll K F'.f us xs → C xs δ' → Q (.ref l) H') :
    tLc wi (canG W E K mg g ws) (canT W E K mg tt) (canE W E K mg te) vs σ H Q := by
  refine qi RR c fun its gd δ1 F1 H1 J R1 s1 it gd1 c1 D nD => ?_
  obtain ⟨R1', s1', nF1, nO1⟩ := R1.fresh (o := .lst []) nD
  have nD0 : H D = none := s1.dom D nD
  refine ⟨fun i m H' => ∃ F' δ' acc us, RepS W E K mg F' σ δ' H' ∧ Stp F1 H1 F' H' ∧ guardOk gd δ' ∧ F'.f D = none ∧ D ∉ F'.g ∧ H' D = some (.lst us) ∧ DpAll K F'.f us acc ∧ m = its.length - i ∧ dLcL g tt te vs gd (its.drop i) acc δ' C,
    ⟨its.length, F1, δ1, [], [], R1', s1', gd1, nF1, nO1, upd_same, .nil, rfl, c1⟩, ?_⟩
  rintro i m H2 ⟨F2, δ2, acc, us, R2, s2, g2, nF2, nO2, hD2, hA2, rfl, c2⟩
  obtain ⟨stop, go⟩ := it F2 σ δ2 H2 R2 s2 g2 i
  cases q : its[i]? with
  | none =>
    have hi : its.length ≤ i := List.getElem?_eq_none_iff.mp q
    rw [List.drop_eq_nil_of_le hi] at c2
    exact .inl ⟨stop hi, k acc δ2 F2 H2 D us R2 (s1.trans s2) nF2 nD0 nO2 hD2 hA2 c2⟩
  | some d =>
    have hi : i < its.length := (List.getElem?_eq_some_iff.mp q).1
    have ed : its.drop i = d :: its.drop (i + 1) := by
      rw [List.drop_eq_getElem_cons hi]
      have := (List.getElem?_eq_some_iff.mp q).2
      rw [this]
    rw [ed] at c2
    obtain ⟨g1, g3⟩ := go d q
    refine .inr ⟨g1, fun H' => ∃ F' δ' acc us, RepS W E K mg F' σ δ' H' ∧ Stp F1 H1 F' H' ∧ guardOk gd δ' ∧ F'.f D = none ∧ D ∉ F'.g ∧ H' D = some (.lst us) ∧ DpAll K F'.f us acc ∧ dLcL g tt te vs gd (its.drop (i + 1)) acc δ' C,
      fun H' ⟨F', δ', acc, us, a1, a2, a3, a4, a5, a6, a7, a8⟩ => ⟨its.length - (i + 1), by omega, F', δ', acc, us, a1, a2, a3, a4, a5, a6, a7, rfl, a8⟩, fun x H3 hy => ?_⟩
    obtain ⟨F3, R3, s3, d3⟩ := g3 x H3 hy
    have Rw := R3.wiped vs
    -- keeps: what holds of D behind a step from the state of the turn's beginning
    have keep : ∀ {F' : Fg} {H' : Hp}, Stp F2 H2 F' H' → F'.f D = none ∧ D ∉ F'.g ∧ H' D = some (.lst us) := fun {F' H'} s => by
      refine ⟨?_, fun z => ?_, s.frm D _ hD2 nO2⟩
      · cases qF : F'.f D with
        | none => rfl
        | some o =>
          rcases s.new D o qF with z | z | z
          · rw [nF2] at z; cases z
          · rw [hD2] at z; cases z
          · exact (nO2 z).elim
      · obtain ⟨ns, e1, e2⟩ := s.pre
        rw [e1] at z
        rcases List.mem_append.mp z with z | z
        · exact nO2 z
        · rw [e2 D z] at hD2; cases hD2
    refine ⟨F3, wipeD δ2 vs, d, _, Rw, d3, c2, fun δ4 F4 σ4 H4 R4 s4 ag c4 => ⟨wipe_agree hws ag, ?_⟩⟩
    have agv : Agree vs σ σ4 := ⟨by rw [ag.1, DD.wipe_len], fun j hj => by rw [ag.2 j fun z => hj (hws j z), wipe_out hj]⟩
    refine ⟨F4, δ4, _, R4, c4, fun b δ5 F5 H5 R5 s5 c5 => ?_⟩
    have s35 : Stp F3 H3 F5 H5 := s4.trans s5
    cases b with
    | true =>
      refine iteT ⟨F5, δ5, _, R5, c5.1 rfl, fun a δ6 F6 H6 v R6 s6 r6 c6 => ?_⟩
      cases a with
      | fn f => exact c6.elim
      | sl j => exact c6.elim
      | val y =>
        obtain ⟨hz, c6⟩ := c6
        obtain ⟨gd6, c6⟩ := guardAnd_iff.mp c6
        have s36 := s35.trans s6
        have R7 := R3.restored R6 s36 agv
        have sAll := s3.trans s36
        obtain ⟨k1, k2, k3⟩ := keep sAll
        have s16 := (s2.trans sAll).ghost (o := .lst (us ++ [v])) nD
        exact ⟨us, k3, by rw [hA2.length]; exact hz, F6, restD δ2 δ6 vs, acc ++ [y], us ++ [v], R7.ghost k1 k2 (fun x z => by rw [k3] at z; cases z) (R1.wishAt s16), s16, gd6, k1, k2, upd_same, (Dp.monoAll sAll.ext _ _ hA2).append (.cons r6 .nil), c6⟩
    | false =>
      obtain ⟨gd5, c6⟩ := guardAnd_iff.mp (c5.2 rfl)
      have R7 := R3.restored R5 s35 agv
      have sAll := s3.trans s35
      obtain ⟨k1, k2, k3⟩ := keep sAll
      exact iteF ⟨F5, restD δ2 δ5 vs, acc, us, R7, s2.trans sAll, gd5, k1, k2, k3, Dp.monoAll sAll.ext _ _ hA2, c6⟩
theorem pdn_lc {elt tg iter : Expr} {ifs : List Expr} {scope : Scope} {own : List (Str × Nat)} {fi : DTI} {g : DTG} {tt : DTT} {te : DTE} {ws : List Nat} (hc : X.calm = true) (hN : X.N.Nodup) (hi : PDI W E X tg iter fi) (ok : BlkOk X.N X.env.scope scope own)
    (hg : ∀ (s : Shared) (H : Hp) (C : Addr) (cl : List (Str × Addr)) (fp : List Addr), PDG W E (X.blk s H scope (compEnvC scope cl C X.env) fp) tg g ws) (ht : ∀ (s : Shared) (H : Hp) (C : Addr) (cl : List (Str × Addr)) (fp : List Addr), PDTs W E (X.blk s H scope (compEnvC scope cl C X.env) fp) ifs tt)
    (he : ∀ (s : Shared) (H : Hp) (C : Addr) (cl : List (Str × Addr)) (fp : List Addr), PD W E (X.blk s H scope (compEnvC scope cl C X.env) fp) elt te) (hws : ∀ i ∈ ws, i ∈ own.map (·.2) := by decide) (hs : ∀ x, foldedSetIterable iter X.env x = pure x := by intro _; rfl) :
    PDN W E X (.ListComp elt [⟨tg, iter, ifs, 0⟩] scope pos) (dLc fi g tt te (own.map (·.2))) := by
  obtain ⟨wi, pi, qi⟩ := hi
  refine ⟨_, pe_lc (g := canG W E X.K X.mg g ws) (tt := canT W E X.K X.mg tt) (te := canE W E X.K X.mg te) hc hN pi ok (fun s H C cl fp => (hg s H C cl fp).can) (fun s H C cl fp => (ht s H C cl fp).can) (fun s H C cl fp => (he s H C cl fp).can) hs, fun {F σ δ H Q C} R c k => ?_⟩
  exact lc_read hws qi R c k
/-- name = [..], the name a local: the list goes to the store, or is frozen -/
def dSetN (i : Nat) (f : DSt → (List PyData → DSt → Prop) → Prop) : DTS := fun D δ => f δ fun xs δ1 => D.nx ⟨δ1.s.set i (some (.sl δ1.m.length)), δ1.m ++ [.fl xs]⟩
def dSetF (i : Nat) (f : DSt → (List PyData → DSt → Prop) → Prop) : DTS := fun D δ => f δ fun xs δ1 => D.nx (setS δ1 i (.val (.list xs)))
theorem sd_setLcG {i : Nat} {y : Str} {py : Pos} {elt tg iter : Expr} {ifs : List Expr} {scope : Scope} {own : List (Str × Nat)} {p2 : Pos} {fi : DTI} {g : DTG} {tt : DTT} {te : DTE} {ws : List Nat} (hc : X.calm = true) (hN : X.N.Nodup) (hy : X.N[i]? = some y) (hyl : X.env.scope.names.lookup y = some .local)
    (hsw : swapsWith (.ListComp elt [⟨tg, iter, ifs, 0⟩] scope p2) (some (.Name y py)) pos.line X.env = pure true) (hi : PDI W E X tg iter fi) (ok : BlkOk X.N X.env.scope scope own)
    (hg : ∀ (s : Shared) (H : Hp) (C : Addr) (cl : List (Str × Addr)) (fp : List Addr), PDG W E (X.blk s H scope (compEnvC scope cl C X.env) fp) tg g ws) (ht : ∀ (s : Shared) (H : Hp) (C : Addr) (cl : List (Str × Addr)) (fp : List Addr), PDTs W E (X.blk s H scope (compEnvC scope cl C X.env) fp) ifs tt)
    (he : ∀ (s : Shared) (H : Hp) (C : Addr) (cl : List (Str × Addr)) (fp : List Addr), PD W E (X.blk s H scope (compEnvC scope cl C X.env) fp) elt te) (hws : ∀ i ∈ ws, i ∈ own.map (·.2) := by decide) (hs : ∀ x, foldedSetIterable iter X.env x = pure x := by intro _; rfl) :
    SD W E X (.Assign [.Name y py] (.ListComp elt [⟨tg, iter, ifs, 0⟩] scope p2) pos) (dSetN i (dLc fi g tt te (own.map (·.2)))) ∧ SD W E X (.Assign [.Name y py] (.ListComp elt [⟨tg, iter, ifs, 0⟩] scope p2) pos) (dSetF i (dLc fi g tt te (own.map (·.2)))) := by
  obtain ⟨wi, pi, qi⟩ := hi
  refine ⟨⟨_, ps_setLc (g := canG W E X.K X.mg g ws) (tt := canT W E X.K X.mg tt) (te := canE W E X.K X.mg te) hc hN hy hyl hsw pi ok (fun s H C cl fp => (hg s H C cl fp).can) (fun s H C cl fp => (ht s H C cl fp).can) (fun s H C cl fp => (he s H C cl fp).can) hs, fun {F σ δ H DD D} R c k => ?_⟩,
    ⟨_, ps_setLc (g := canG W E X.K X.mg g ws) (tt := canT W E X.K X.mg tt) (te := canE W E X.K X.mg te) hc hN hy hyl hsw pi ok (fun s H C cl fp => (hg s H C cl fp).can) (fun s H C cl fp => (ht s H C cl fp).can) (fun s H C cl fp => (he s H C cl fp).can) hs, fun {F σ δ H DD D} R c k => ?_⟩⟩
  · refine lc_read hws qi R c fun xs δ1 F1 H1 l us R1 s1 nF nH nO hH hA c1 => ?_
    obtain ⟨R2, s2⟩ := R.adopt (o := .fl xs) s1 R1.toRepC nH nF nO rfl ⟨us, hH, hA⟩
    have hp : (F1.g ++ [l])[δ1.m.length]? = some l := by
      rw [List.getElem?_append_right (by rw [R1.sto.glen]; exact Nat.le_refl _), R1.sto.glen, Nat.sub_self]; rfl
    exact k.nx _ _ _ _ (R2.setSlot (v := .ref l) (a := .sl δ1.m.length) ⟨l, hp, rfl⟩) s2 c1
  · refine lc_read hws qi R c fun xs δ1 F1 H1 l us R1 s1 nF nH nO hH hA c1 => ?_
    obtain ⟨R2, s2, hD⟩ := R.freezeNew s1 R1.toRepC nH nF nO hH hA
    exact k.nx _ _ _ _ (R2.setSlot (v := .ref l) (a := .val (.list xs)) hD) s2 c1
end
end MM

namespace MM
open PySem PySem.Spec PyProof.Rows L2
/-! ### what a def promises: the arguments, the store; the answer and the store behind, or an exception and the store behind -/
abbrev DSp := List Ar → List Mo → (Ar → List Mo → Prop) → (Str → List Mo → Prop) → Prop
def lift (K : PySem.W.Frag) (mg : Str → Option Value) (d : DSp) : Sp := fun vs H Q E' => ∃ F as m C Ex, ArsRep K F vs as ∧ StoC K mg F m H ∧ d as m C Ex ∧
  (∀ r m' F' H' v, StoC K mg F' m' H' → Stp F H F' H' → ArRep K F' v r → C r m' → Q v H') ∧
  (∀ x Cc dd m' F' H', StoC K mg F' m' H' → Stp F H F' H' → mg x = some (.ref Cc) → Ex x m' → E' (.ref Cc) dd H')
/-! ### what a call leaves may be cut -/
def refsA : Ar → List Nat
  | .val _ => []
  | .sl i => [i]
  | .fn _ => []
def refsL : List Ar → List Nat
  | [] => []
  | a :: as => refsA a ++ refsL as
def refsO : Mo → List Nat
  | .ls as => refsL as
  | .tu as => refsL as
  | .ins _ fs => refsL (fs.map (·.2))
  | .dk kvs => refsL (kvs.map (·.2))
  | .dt kvs => refsL (kvs.map (·.2))
  | _ => []
def closedL (n : Nat) (m : List Mo) : Prop := ∀ o ∈ m, ∀ i ∈ refsO o, i < n
def outM (n : Nat) (C : Ar → List Mo → Prop) (r : Ar) (m : List Mo) : Prop := C r m ∨ (closedL n (m.take n) ∧ match r with
  | .val d => C (.val d) (m.take n)
  | .fn _ => False
  | .sl j => (j < n ∧ C (.sl j) (m.take n)) ∨ (∃ o, m[j]? = some o ∧ n ≤ j ∧ (∀ i ∈ refsO o, i < n) ∧ C (.sl n) (m.take n ++ [o])))
def outX (n : Nat) (Ex : Str → List Mo → Prop) (x : Str) (m : List Mo) : Prop := Ex x m ∨ (closedL n (m.take n) ∧ Ex x (m.take n))
def startD (N : List Str) (as : List Ar) (m : List Mo) : DSt := ⟨as.map some ++ List.replicate (N.length - as.length) none, m⟩
def endsD (n : Nat) (C : Ar → List Mo → Prop) : DEnds := { nx := fun δ => outM n C (.val .none) δ.m, rt := fun r δ => outM n C r δ.m }
def exE (n : Nat) (Ex : Str → List Mo → Prop) : EW := fun x _ m => outX n Ex x m
section
variable {W : WX} {E : EW} {mg : Str → Option Value} {X : Cx} {K : PySem.W.Frag} {F : Fg} {H : Hp} {σ : L2.St} {δ : DSt} {pos : Pos}
theorem ars_below {G : Fg} {n : Nat} (hg : ∀ i l, i < n → F.g[i]? = some l → G.g[i]? = some l) (hf : G.f = F.f) : ∀ {vs : List V} {as : List Ar}, (∀ i ∈ refsL as, i < n) → ArsRep K F vs as → ArsRep K G vs as
  | [], [], _, _ => trivial
  | v :: vs, a :: as, h, r => by
    refine ⟨?_, ars_below hg hf (fun i hi => h i (List.mem_append_right _ hi)) r.2⟩
    cases a with
    | val d => have := r.1; unfold ArRep at this ⊢; rw [hf]; exact this
    | fn f => exact r.1
    | sl j =>
      obtain ⟨l, h1, h2⟩ := r.1
      exact ⟨l, hg j l (h j (List.mem_append_left _ (List.mem_singleton.mpr rfl))) h1, h2⟩
  | [], _ :: _, _, h => h.elim
  | _ :: _, [], _, h => h.elim
theorem mo_below {G : Fg} {n : Nat} (hg : ∀ i l, i < n → F.g[i]? = some l → G.g[i]? = some l) (hf : G.f = F.f) {l : Addr} {o : Mo} (h : ∀ i ∈ refsO o, i < n) (r : MoRep K mg F H l o) : MoRep K mg G H l o := by
  cases o with
  | fl xs => obtain ⟨vs, h1, h2⟩ := r; exact ⟨vs, h1, by rw [hf]; exact h2⟩
  | ls as => obtain ⟨vs, h1, h2⟩ := r; exact ⟨vs, h1, ars_below hg hf h h2⟩
  | tu as => obtain ⟨vs, h1, h2⟩ := r; exact ⟨vs, h1, ars_below hg hf h h2⟩
  | ins c fs => obtain ⟨C, dx, vs, a0, a1, a2, a3, a4, a5⟩ := r; exact ⟨C, dx, vs, a0, a1, a2, by rw [hf]; exact a3, a4, ars_below hg hf h a5⟩
  | dk kvs => obtain ⟨us, h1, h2, h3⟩ := r; exact ⟨us, h1, h2, ars_below hg hf h h3⟩
  | dt kvs => obtain ⟨us, h1, h2, h3⟩ := r; exact ⟨us, h1, h2, ars_below hg hf h h3⟩
  | no => trivial
theorem StoC.cut {m : List Mo} (R : StoC K mg F m H) {n : Nat} (hn : n ≤ m.length) (c : closedL n (m.take n)) : StoC K mg ⟨F.f, F.g.take n⟩ (m.take n) H := by
  have hg : ∀ (i : Nat) (l : Addr), i < n → F.g[i]? = some l → (F.g.take n)[i]? = some l := fun i l hi h => by rw [List.getElem?_take_of_lt hi]; exact h
  refine ⟨R.sub, by rw [List.length_take, List.length_take, R.glen], fun i o h => ?_, fun i j l oi oj h1 h2 h3 h4 h5 h6 => ?_⟩
  · have hi : i < n := by
      have := (List.getElem?_eq_some_iff.mp h).1
      rw [List.length_take] at this; omega
    have hm := List.mem_of_getElem? h
    rw [List.getElem?_take_of_lt hi] at h
    obtain ⟨l, h1, h2⟩ := R.obj i o h
    refine ⟨l, hg i l hi h1, ?_⟩
    split at h2
    · rename_i q
      rw [if_pos q]
      exact ⟨h2.1, mo_below (F := F) (G := ⟨F.f, F.g.take n⟩) hg rfl (c o hm) h2.2⟩
    · rename_i q
      rw [if_neg q]
      exact h2
  · have hi : i < n := by
      have := (List.getElem?_eq_some_iff.mp h1).1
      rw [List.length_take] at this; omega
    have hj : j < n := by
      have := (List.getElem?_eq_some_iff.mp h2).1
      rw [List.length_take] at this; omega
    have h5 : (F.g.take n)[i]? = some l := h5
    have h6 : (F.g.take n)[j]? = some l := h6
    rw [List.getElem?_take_of_lt hi] at h1 h5
    rw [List.getElem?_take_of_lt hj] at h2 h6
    exact R.inj i j l oi oj h1 h2 h3 h4 h5 h6
theorem Stp.cut {F0 : Fg} {H0 : Hp} {n : Nat} (s : Stp F0 H0 F H) (hn : F0.g.length = n) : Stp F0 H0 ⟨F.f, F.g.take n⟩ H := by
  obtain ⟨ns, e1, e2⟩ := s.pre
  refine ⟨s.ext, ⟨[], ?_, by simp⟩, s.new, s.frm, s.dom⟩
  show F.g.take n = F0.g ++ []
  rw [e1, ← hn, List.take_left, List.append_nil]
/-- what stands behind a call, cut or not -/
theorem outM_ok {F0 : Fg} {H0 : Hp} {m m0 : List Mo} {C : Ar → List Mo → Prop} {r : Ar} {v : V} {Q : VK} (R0 : StoC K mg F0 m0 H0) (R : StoC K mg F m H) (s : Stp F0 H0 F H) (rr : ArRep K F v r) (c : outM m0.length C r m)
    (k : ∀ r m' F' H' v, StoC K mg F' m' H' → Stp F0 H0 F' H' → ArRep K F' v r → C r m' → Q v H') : Q v H := by
  obtain ⟨ns, e1, e2⟩ := s.pre
  have hn : m0.length ≤ m.length := by rw [← R.glen, e1, List.length_append, R0.glen]; omega
  have hg0 : F.g.take m0.length = F0.g := by rw [e1, ← R0.glen, List.take_left]
  rcases c with c | ⟨cl, c⟩
  · exact k r m F H v R s rr c
  · have R2 := R.cut hn cl
    have s2 := s.cut R0.glen
    cases r with
    | val d => exact k (.val d) _ _ H v R2 s2 rr c
    | fn f => exact c.elim
    | sl j =>
      obtain ⟨l, hl, rfl⟩ := rr
      rcases c with ⟨hj, c⟩ | ⟨o, ho, hj, hr, c⟩
      · exact k (.sl j) _ _ H _ R2 s2 ⟨l, by show (F.g.take m0.length)[j]? = some l; rw [List.getElem?_take_of_lt hj]; exact hl, rfl⟩ c
      · have lt : l ∈ ns := by
          rw [e1, List.getElem?_append_right (by rw [R0.glen]; exact hj)] at hl
          exact List.mem_of_getElem? hl
        have s3 : Stp F0 H0 ⟨F.f, F.g.take m0.length ++ [l]⟩ H := ⟨s.ext, ⟨[l], by show F.g.take m0.length ++ [l] = _; rw [hg0], by simpa using e2 l lt⟩, s.new, s.frm, s.dom⟩
        have glt : ∀ {i : Nat}, i < m0.length → (F.g.take m0.length ++ [l])[i]? = F.g[i]? := fun {i} hi => by
          rw [List.getElem?_append_left (by rw [hg0, R0.glen]; exact hi), List.getElem?_take_of_lt hi]
        have gp : (F.g.take m0.length ++ [l])[m0.length]? = some l := by
          rw [List.getElem?_append_right (by rw [hg0, R0.glen]; exact Nat.le_refl _), hg0, R0.glen, Nat.sub_self]; rfl
        have hg : ∀ (i : Nat) (p : Addr), i < m0.length → F.g[i]? = some p → (F.g.take m0.length ++ [l])[i]? = some p := fun i p hi h => by rw [glt hi]; exact h
        have ml : (m.take m0.length).length = m0.length := by rw [List.length_take]; omega
        have at' : ∀ {i : Nat} {x : Mo}, (m.take m0.length ++ [o])[i]? = some x → (i < m0.length ∧ m[i]? = some x ∧ x ∈ m.take m0.length) ∨ (i = m0.length ∧ x = o) := fun {i x} hx => by
          by_cases hi : i < m0.length
          · rw [List.getElem?_append_left (by rw [ml]; exact hi)] at hx
            have hm := List.mem_of_getElem? hx
            rw [List.getElem?_take_of_lt hi] at hx
            exact .inl ⟨hi, hx, hm⟩
          · rw [List.getElem?_append_right (by rw [ml]; omega), ml] at hx
            have : i - m0.length = 0 := by
              have := (List.getElem?_eq_some_iff.mp hx).1
              simpa using this
            rw [this] at hx
            exact .inr ⟨by omega, (Option.some.inj hx).symm⟩
        refine k (.sl m0.length) _ ⟨F.f, F.g.take m0.length ++ [l]⟩ H _ ⟨R.sub, ?_, fun i x hx => ?_, fun a b p oa ob h1 h2 h3 h4 h5 h6 => ?_⟩ s3 ⟨l, gp, rfl⟩ c
        · rw [List.length_append, List.length_append, ml, hg0, R0.glen]; rfl
        · rcases at' hx with ⟨hi, hx, hm⟩ | ⟨hi, ex⟩
          · obtain ⟨p, h1, h2⟩ := R.obj i x hx
            refine ⟨p, hg i p hi h1, ?_⟩
            split at h2
            · rename_i q
              rw [if_pos q]
              exact ⟨h2.1, mo_below (F := F) (G := ⟨F.f, F.g.take m0.length ++ [l]⟩) hg rfl (cl x hm) h2.2⟩
            · rename_i q
              rw [if_neg q]
              exact h2
          · subst hi; subst ex
            obtain ⟨p, h1, h2⟩ := R.obj j x ho
            rw [hl] at h1
            cases h1
            refine ⟨l, gp, ?_⟩
            split at h2
            · rename_i q
              rw [if_pos q]
              exact ⟨h2.1, mo_below (F := F) (G := ⟨F.f, F.g.take m0.length ++ [l]⟩) hg rfl hr h2.2⟩
            · rename_i q
              rw [if_neg q]
              exact h2
        · have h5 : (F.g.take m0.length ++ [l])[a]? = some p := h5
          have h6 : (F.g.take m0.length ++ [l])[b]? = some p := h6
          rcases at' h1 with ⟨a1, a2, _⟩ | ⟨a1, a2⟩
          · rw [glt a1] at h5
            rcases at' h2 with ⟨b1, b2, _⟩ | ⟨b1, b2⟩
            · rw [glt b1] at h6
              exact R.inj a b p oa ob a2 b2 h3 h4 h5 h6
            · subst b1; subst b2
              rw [gp] at h6
              cases h6
              have := R.inj a j l _ _ a2 ho h3 h4 h5 hl
              omega
          · subst a1; subst a2
            rw [gp] at h5
            cases h5
            rcases at' h2 with ⟨b1, b2, _⟩ | ⟨b1, b2⟩
            · rw [glt b1] at h6
              have := R.inj j b l _ _ ho b2 h3 h4 hl h6
              omega
            · exact b1.symm
theorem outX_ok {F0 : Fg} {H0 : Hp} {m m0 : List Mo} {Ex : Str → List Mo → Prop} {x : Str} {P : Prop} (R0 : StoC K mg F0 m0 H0) (R : StoC K mg F m H) (s : Stp F0 H0 F H) (c : outX m0.length Ex x m)
    (k : ∀ m' F', StoC K mg F' m' H → Stp F0 H0 F' H → Ex x m' → P) : P := by
  obtain ⟨ns, e1, e2⟩ := s.pre
  have hn : m0.length ≤ m.length := by rw [← R.glen, e1, List.length_append, R0.glen]; omega
  rcases c with c | ⟨cl, c⟩
  · exact k m F R s c
  · exact k _ _ (R.cut hn cl) (s.cut R0.glen) c
theorem start_slot {N : List Str} {vs : List V} {as : List Ar} {m : List Mo} (h : ArsRep K F vs as) (hN : as.length ≤ N.length) (R : StoC K mg F m H) : RepC K mg F (L2.start N vs) (startD N as m).s m H := by
  refine ⟨R, ?_, fun i a ha => ?_⟩
  · unfold L2.start startD
    simp [h.length]
  · have ha : (as.map some ++ List.replicate (N.length - as.length) none)[i]? = some (some a) := ha
    by_cases hi : i < as.length
    · rw [List.getElem?_append_left (by simpa using hi), List.getElem?_map, List.getElem?_eq_getElem hi] at ha
      cases ha
      obtain ⟨v, h1, h2⟩ := h.get (List.getElem?_eq_getElem hi)
      refine ⟨v, ?_, h2⟩
      unfold L2.start
      have hv : i < vs.length := by rw [h.length]; exact hi
      rw [List.getElem?_append_left (by simpa using hv), List.getElem?_map, h1]
      rfl
    · rw [List.getElem?_append_right (by simpa using hi), List.getElem?_replicate] at ha
      split at ha <;> cases ha
end
section
variable {P : Program} {w : World} {K : PySem.W.Frag} {mg : Str → Option Value} {base : Heap}
/-- THE RULE for a def -/
theorem fn_mm {x qual : Str} {st : Stmt} {f : Addr} {fd : FuncData} {N ps : List Str} {k : Nat} {d : DSp} {g : EW → DTS} (Fn : Fun K x qual st f fd) (S : FnScope N ps (defScope st)) (len : ∀ as m C Ex, d as m C Ex → as.length = ps.length)
    (hbody : ∀ (cdv : Value) (A : Around) (outer : List Env) (s : Shared) (H : Hp) (E : XK) (W : WX) (V : EW), Room k (A.deeper (envOfC qual (defScope st) s.heap.objs.size f cdv)) → Takes (cxOf (L2.CX P w) P w K mg base N qual (defScope st) f cdv A outer s H E) W →
      SDs W V (cxOf (L2.CX P w) P w K mg base N qual (defScope st) f cdv A outer s H E) (defBody st) (g V))
    (law : ∀ as m C Ex, d as m C Ex → g (exE m.length Ex) (endsD m.length C) (startD N as m)) : FnOk P w K mg base (L2.CX P w) (k + 1) f fd ps (lift K mg d) := by
  have hpl : ps.length ≤ N.length := by have := congrArg List.length S.pre; rw [List.length_take] at this; omega
  refine Fn.okX S (fun vs H Q E h => ?_) (fun cdv A outer s H vs Q E hr h => ?_)
  · obtain ⟨F, as, m, C, Ex, A, _, hd, _⟩ := h
    rw [A.length]
    exact len as m C Ex hd
  · obtain ⟨F, as, m, C, Ex, AR, SR, hd, fin, finX⟩ := h
    have tk : Takes (cxOf (L2.CX P w) P w K mg base N qual (defScope st) f cdv A outer s H E) (fun cls d _ H => E cls d H) := takes_of rfl rfl rfl rfl
    obtain ⟨ts, p, q⟩ := hbody cdv A outer s H E _ (exE m.length Ex) hr tk
    have hN : as.length ≤ N.length := by rw [len as m C Ex hd]; exact hpl
    have RC := start_slot (N := N) AR hN SR
    have R : RepS (fun cls d _ H => E cls d H) (exE m.length Ex) K mg F (L2.start N vs) (startD N as m) H := { RC with wish := fun x C d F' σ' s' m' H' C2 t hm he => outX_ok SR C2.sto t he fun m2 F2 S2 t2 h2 => finX x C d m2 F2 H' S2 t2 hm h2 }
    refine ⟨ts, p, q R (law as m C Ex hd) ⟨fun F' σ' δ' H' R t c => ?_, fun _ _ _ _ _ _ c => c.elim, fun _ _ _ _ _ _ c => c.elim, fun F' σ' δ' H' v r R t z c => ?_⟩⟩
    · exact outM_ok (Q := Q) SR R.sto t (r := .val .none) Dp.non c fin
    · exact outM_ok (Q := Q) SR R.sto t z c fin
end
end MM

namespace MM
open PySem PySem.Spec PyProof.Rows L2
/-! ### calls -/
abbrev EF : EW := fun _ _ _ => False
/-- with the whole store -/
def callG (E : EW) (d : DSp) (as : List Ar) (δ : DSt) (C : Ar → DSt → Prop) : Prop := d as δ.m (fun r m' => C r ⟨δ.s, m'⟩) (fun x m' => E x δ.s m')
/-- with the lists that are handed over alone: places in ρ -/
def idxN (ρ : List Nat) (i : Nat) : Nat := match ρ with
  | [] => 0
  | j :: ρ => if j = i then 0 else idxN ρ i + 1
def memN (ρ : List Nat) (i : Nat) : Bool := match ρ with
  | [] => false
  | j :: ρ => if j = i then true else memN ρ i
def dedN : List Nat → List Nat
  | [] => []
  | i :: is => if memN is i then dedN is else i :: dedN is
def locA (ρ : List Nat) : Ar → Ar
  | .val d => .val d
  | .sl i => .sl (idxN ρ i)
  | .fn f => .fn f
def flatO : Mo → Bool
  | .fl _ => true
  | _ => false
def locM (m : List Mo) : List Nat → Option (List Mo)
  | [] => some []
  | i :: ρ => match m[i]?, locM m ρ with
    | some (.fl xs), some os => some (.fl xs :: os)
    | _, _ => none
def putAll (m : List Mo) : List Nat → List Mo → List Mo
  | i :: ρ, o :: os => putAll (m.set i o) ρ os
  | _, _ => m
def retL (ρ : List Nat) (δ : DSt) (C : Ar → DSt → Prop) (r : Ar) (m' : List Mo) : Prop := match r with
  | .val x => match m'.length == ρ.length && m'.all flatO with
    | true => C (.val x) ⟨δ.s, putAll δ.m ρ m'⟩
    | false => False
  | .fn _ => False
  | .sl k => match m'.length == ρ.length + 1 && m'.all flatO && k == ρ.length with
    | true => C (.sl δ.m.length) ⟨δ.s, putAll δ.m ρ m' ++ m'.drop ρ.length⟩
    | false => False
def callL (d : DSp) (as : List Ar) (δ : DSt) (C : Ar → DSt → Prop) : Prop := match locM δ.m (dedN (refsL as)) with
  | some m0 => d (as.map (locA (dedN (refsL as)))) m0 (retL (dedN (refsL as)) δ C) (fun _ _ => False)
  | none => False
theorem memN_iff {i : Nat} : ∀ {ρ : List Nat}, memN ρ i = true ↔ i ∈ ρ
  | [] => by simp [memN]
  | j :: ρ => by
    unfold memN
    by_cases h : j = i
    · rw [if_pos h]; simp [h]
    · rw [if_neg h, memN_iff, List.mem_cons]
      constructor
      · exact fun q => .inr q
      · rintro (q | q)
        · exact absurd q.symm h
        · exact q
theorem ded_spec : ∀ (is : List Nat), (dedN is).Nodup ∧ ∀ i, i ∈ dedN is ↔ i ∈ is
  | [] => ⟨List.nodup_nil, fun i => Iff.rfl⟩
  | i :: is => by
    obtain ⟨h1, h2⟩ := ded_spec is
    unfold dedN
    cases q : memN is i with
    | true =>
      rw [if_pos rfl]
      have hm := memN_iff.mp q
      refine ⟨h1, fun j => ?_⟩
      rw [h2, List.mem_cons]
      constructor
      · exact fun z => .inr z
      · rintro (z | z)
        · rw [z]; exact hm
        · exact z
    | false =>
      rw [if_neg (by simp)]
      have hm : i ∉ is := fun z => by rw [memN_iff.mpr z] at q; cases q
      refine ⟨List.nodup_cons.mpr ⟨fun z => hm ((h2 i).mp z), h1⟩, fun j => ?_⟩
      rw [List.mem_cons, List.mem_cons, h2]
theorem idxN_at : ∀ {ρ : List Nat} {i : Nat}, i ∈ ρ → ρ[idxN ρ i]? = some i
  | j :: ρ, i, h => by
    unfold idxN
    by_cases e : j = i
    · rw [if_pos e, e]; rfl
    · rw [if_neg e, List.getElem?_cons_succ]
      refine idxN_at ?_
      rcases List.mem_cons.mp h with z | z
      · exact absurd z.symm e
      · exact z
theorem locM_spec {m : List Mo} : ∀ {ρ : List Nat} {os : List Mo}, locM m ρ = some os → os.length = ρ.length ∧ ∀ (k i : Nat), ρ[k]? = some i → ∃ xs, m[i]? = some (.fl xs) ∧ os[k]? = some (.fl xs)
  | [], os, h => by cases h; exact ⟨rfl, fun k i e => by simp at e⟩
  | j :: ρ, os, h => by
    unfold locM at h
    split at h
    · rename_i xs os' h1 h2
      cases h
      obtain ⟨l, g⟩ := locM_spec h2
      refine ⟨by simp [l], fun k i e => ?_⟩
      cases k with
      | zero => simp at e; subst e; exact ⟨xs, h1, rfl⟩
      | succ k =>
        obtain ⟨ys, e1, e2⟩ := g k i (by simpa using e)
        exact ⟨ys, e1, by simpa using e2⟩
    · cases h
theorem putAll_len : ∀ {ρ : List Nat} {os m : List Mo}, (putAll m ρ os).length = m.length
  | [], os, m => by simp only [putAll]
  | i :: ρ, [], m => by simp only [putAll]
  | i :: ρ, o :: os, m => by simp only [putAll]; rw [putAll_len, List.length_set]
theorem putAll_out {i : Nat} : ∀ {ρ : List Nat} {os m : List Mo}, i ∉ ρ → (putAll m ρ os)[i]? = m[i]?
  | [], os, m, _ => by simp only [putAll]
  | j :: ρ, [], m, _ => by simp only [putAll]
  | j :: ρ, o :: os, m, h => by
    simp only [putAll]
    rw [putAll_out fun z => h (List.mem_cons_of_mem _ z), List.getElem?_set_ne fun z => h (by rw [z]; exact List.mem_cons_self)]
theorem putAll_in {k i : Nat} {o : Mo} : ∀ {ρ : List Nat} {os m : List Mo}, ρ.Nodup → ρ[k]? = some i → os[k]? = some o → i < m.length → (putAll m ρ os)[i]? = some o
  | [], os, m, _, h, _, _ => by simp at h
  | j :: ρ, [], m, _, _, h, _ => by simp at h
  | j :: ρ, o' :: os, m, nd, h1, h2, hi => by
    simp only [putAll]
    cases k with
    | zero =>
      simp at h1 h2
      subst h1; subst h2
      rw [putAll_out (List.nodup_cons.mp nd).1, List.getElem?_set_self hi]
    | succ k =>
      exact putAll_in (List.nodup_cons.mp nd).2 (by simpa using h1) (by simpa using h2) (by rw [List.length_set]; exact hi)
section
variable {W : WX} {E : EW} {mg : Str → Option Value} {X : Cx} {K : PySem.W.Frag} {F : Fg} {H : Hp} {σ : L2.St} {δ : DSt} {pos : Pos}
theorem callG_ok {d : DSp} {vs : List V} {as : List Ar} {C : Ar → DSt → Prop} {Q : VK} (R : RepS W E K mg F σ δ H) (ra : ArsRep K F vs as) (c : callG E d as δ C)
    (k : ∀ r δ' F' H' v, RepS W E K mg F' σ δ' H' → Stp F H F' H' → ArRep K F' v r → C r δ' → Q v H') : lift K mg d vs H Q (WE W σ) := by
  have rep : ∀ {F' : Fg} {m' : List Mo} {H' : Hp}, StoC K mg F' m' H' → Stp F H F' H' → RepC K mg F' σ δ.s m' H' := fun {F' m' H'} S t => ⟨S, R.len, fun i a h => by
    obtain ⟨v, h1, h2⟩ := R.slot i a h
    exact ⟨v, h1, h2.step t⟩⟩
  exact ⟨F, as, δ.m, _, _, ra, R.sto, c, fun r m' F' H' v S t rr cc => k r ⟨δ.s, m'⟩ F' H' v (R.next (rep S t) t) t rr cc,
    fun x Cc dd m' F' H' S t hm he => R.wish x Cc dd F' σ δ.s m' H' (rep S t) t hm he⟩
theorem callG_ok0 {d : DSp} {vs : List V} {as : List Ar} {C : Ar → DSt → Prop} {Q : VK} (R : RepS W E K mg F σ δ H) (ra : ArsRep K F vs as) (c : callG EF d as δ C)
    (k : ∀ r δ' F' H' v, RepS W E K mg F' σ δ' H' → Stp F H F' H' → ArRep K F' v r → C r δ' → Q v H') : lift K mg d vs H Q E0 := by
  have rep : ∀ {F' : Fg} {m' : List Mo} {H' : Hp}, StoC K mg F' m' H' → Stp F H F' H' → RepC K mg F' σ δ.s m' H' := fun {F' m' H'} S t => ⟨S, R.len, fun i a h => by
    obtain ⟨v, h1, h2⟩ := R.slot i a h
    exact ⟨v, h1, h2.step t⟩⟩
  exact ⟨F, as, δ.m, _, _, ra, R.sto, c, fun r m' F' H' v S t rr cc => k r ⟨δ.s, m'⟩ F' H' v (R.next (rep S t) t) t rr cc,
    fun x Cc dd m' F' H' S t hm he => he.elim⟩
/-- the store behind a call that was handed some lists alone -/
theorem loc_back {ρ : List Nat} {m0 m' : List Mo} {Fl F' : Fg} {H' : Hp} (R : RepC K mg F σ δ.s δ.m H) (nd : ρ.Nodup) (hl : locM δ.m ρ = some m0) (fF : Fl.f = F.f) (hg : ∀ (k i : Nat) (l : Addr), ρ[k]? = some i → Fl.g[k]? = some l → F.g[i]? = some l) (hn : Fl.g.length = ρ.length)
    (S : StoC K mg F' m' H') (t : Stp Fl H F' H') (n1 : ρ.length ≤ m'.length) (n2 : m'.length ≤ ρ.length + 1) (fl : m'.all flatO = true) :
    RepC K mg ⟨F'.f, F.g ++ F'.g.drop ρ.length⟩ σ δ.s (putAll δ.m ρ m' ++ m'.drop ρ.length) H' ∧ Stp F H ⟨F'.f, F.g ++ F'.g.drop ρ.length⟩ H' := by
  obtain ⟨ns, e1, e2⟩ := t.pre
  have ed : F'.g.drop ρ.length = ns := by rw [e1, ← hn, List.drop_left]
  obtain ⟨lm, sp⟩ := locM_spec hl
  have inF : ∀ {b : Addr}, b ∈ Fl.g → b ∈ F.g ∧ ∃ u, H b = some (.lst u) ∧ ∃ i, i ∈ ρ ∧ F.g[i]? = some b := fun {b} hb => by
    obtain ⟨k, hk⟩ := List.getElem?_of_mem hb
    have hk2 : k < ρ.length := by rw [← hn]; exact (List.getElem?_eq_some_iff.mp hk).1
    have hρ := List.getElem?_eq_getElem hk2
    have := hg k _ b hρ hk
    obtain ⟨xs, a1, _⟩ := sp k _ hρ
    obtain ⟨l, b1, b2, vs, b3, b4⟩ := R.sto.at (δ := δ) a1 rfl
    rw [this] at b1
    cases b1
    exact ⟨List.mem_of_getElem? this, vs, b3, _, List.getElem_mem hk2, this⟩
  have T : Stp F H ⟨F'.f, F.g ++ F'.g.drop ρ.length⟩ H' := by
    refine ⟨by rw [← fF]; exact t.ext, ⟨ns, by show F.g ++ F'.g.drop ρ.length = _; rw [ed], e2⟩, fun b o e => ?_, fun b o e nb => t.frm b o e fun z => nb (inF z).1, t.dom⟩
    rcases t.new b o e with q | q | q
    · rw [fF] at q; exact .inl q
    · exact .inr (.inl q)
    · exact .inr (.inr (inF q).1)
  have ml : (putAll δ.m ρ m').length = δ.m.length := putAll_len
  have gl : F'.g.length = m'.length := S.glen
  have stay : ∀ {l : Addr}, F.f l = none → l ∉ Fl.g → (∃ u, H l = some u) → F'.f l = none := fun {l} hf nl hu => by
    cases q : F'.f l with
    | none => rfl
    | some o =>
      obtain ⟨u, hu⟩ := hu
      rcases t.new l o q with z | z | z
      · rw [fF, hf] at z; cases z
      · rw [hu] at z; cases z
      · exact absurd z nl
  have old : ∀ {i : Nat} {l : Addr}, F.g[i]? = some l → (F.g ++ F'.g.drop ρ.length)[i]? = some l := fun {i l} h => by rw [List.getElem?_append_left (List.getElem?_eq_some_iff.mp h).1]; exact h
  -- what stands at a place
  have at_ : ∀ {i : Nat} {o : Mo}, (putAll δ.m ρ m' ++ m'.drop ρ.length)[i]? = some o → (∃ k : Nat, m'[k]? = some o ∧ flatO o = true ∧ (∃ l, F'.g[k]? = some l ∧ (F.g ++ F'.g.drop ρ.length)[i]? = some l) ∧ ((i < δ.m.length ∧ ρ[k]? = some i) ∨ (i = δ.m.length ∧ k = ρ.length))) ∨ (i < δ.m.length ∧ i ∉ ρ ∧ δ.m[i]? = some o) := fun {i o} h => by
    by_cases hi : i < δ.m.length
    · rw [List.getElem?_append_left (by rw [ml]; exact hi)] at h
      by_cases hm : i ∈ ρ
      · have ei := idxN_at hm
        have hk : idxN ρ i < ρ.length := (List.getElem?_eq_some_iff.mp ei).1
        have hk2 : idxN ρ i < m'.length := by omega
        have hp := putAll_in (m := δ.m) nd ei (List.getElem?_eq_getElem hk2) hi
        rw [hp] at h
        have ho : m'[idxN ρ i]? = some o := by rw [List.getElem?_eq_getElem hk2]; exact h
        have hkg : idxN ρ i < Fl.g.length := by omega
        have g1 : F'.g[idxN ρ i]? = some Fl.g[idxN ρ i] := by rw [e1, List.getElem?_append_left hkg, List.getElem?_eq_getElem hkg]
        exact .inl ⟨_, ho, List.all_eq_true.mp fl o (List.mem_of_getElem? ho), ⟨_, g1, old (hg _ i _ ei (List.getElem?_eq_getElem hkg))⟩, .inl ⟨hi, ei⟩⟩
      · rw [putAll_out hm] at h
        exact .inr ⟨hi, hm, h⟩
    · rw [List.getElem?_append_right (by rw [ml]; omega), ml, List.getElem?_drop] at h
      have hb := (List.getElem?_eq_some_iff.mp h).1
      have e : i = δ.m.length := by omega
      have ek : ρ.length + (i - δ.m.length) = ρ.length := by omega
      rw [ek] at h
      have hkg : ρ.length < F'.g.length := by omega
      refine .inl ⟨ρ.length, h, List.all_eq_true.mp fl o (List.mem_of_getElem? h), ⟨_, List.getElem?_eq_getElem hkg, ?_⟩, .inr ⟨e, rfl⟩⟩
      rw [List.getElem?_append_right (by rw [R.sto.glen]; omega), R.sto.glen, e, Nat.sub_self, List.getElem?_drop, Nat.add_zero]
      exact List.getElem?_eq_getElem hkg
  refine ⟨⟨⟨S.sub, ?_, fun i o h => ?_, fun i j l oi oj h1 h2 h3 h4 h5 h6 => ?_⟩, R.len, fun i a h => ?_⟩, T⟩
  · rw [List.length_append, List.length_append, List.length_drop, List.length_drop, ml, R.sto.glen, gl]
  · rcases at_ h with ⟨k, ho, hf, ⟨l, g1, g2⟩, _⟩ | ⟨hi, hm, ho⟩
    · obtain ⟨l', b1, b2⟩ := S.obj k o ho
      rw [g1] at b1
      cases b1
      have lv : live o = true := by cases o <;> first | rfl | cases hf
      rw [if_pos lv] at b2
      refine ⟨l, g2, ?_⟩
      rw [if_pos lv]
      refine ⟨b2.1, ?_⟩
      cases o with
      | fl xs => exact b2.2
      | _ => cases hf
    · obtain ⟨l, b1, b2⟩ := R.sto.obj i o ho
      refine ⟨l, old b1, ?_⟩
      split at b2
      · rename_i q
        rw [if_pos q]
        obtain ⟨u, hu, _⟩ := b2.2.has q
        have nl : l ∉ Fl.g := fun z => by
          obtain ⟨_, _, _, j, hj, gj⟩ := inF z
          have hjl : j < δ.m.length := by rw [← R.sto.glen]; exact (List.getElem?_eq_some_iff.mp gj).1
          obtain ⟨xs, a1, _⟩ := sp _ j (idxN_at hj)
          have := R.sto.inj i j l o _ ho a1 q rfl b1 gj
          exact hm (this ▸ hj)
        refine ⟨stay b2.1 nl ⟨u, hu⟩, b2.2.step T (fun u hu => t.frm l u hu nl) fun dx hd hf => ?_⟩
        have nd : dx ∉ Fl.g := fun z => by
          obtain ⟨_, u, hu, _⟩ := inF z
          rw [hd] at hu; cases hu
        exact ⟨t.frm dx _ hd nd, stay hf nd ⟨_, hd⟩⟩
      · rename_i q
        rw [if_neg q]
        intro z
        have z : F'.f l = none := z
        cases qf : F.f l with
        | none => exact b2 qf
        | some u =>
          rw [← fF] at qf
          rw [t.ext l u qf] at z; cases z
  · have h5 : (F.g ++ F'.g.drop ρ.length)[i]? = some l := h5
    have h6 : (F.g ++ F'.g.drop ρ.length)[j]? = some l := h6
    -- a place outside and one of the call's: apart
    have apart : ∀ {a : Nat} {oa : Mo} {k : Nat} {p : Addr}, a < δ.m.length → a ∉ ρ → δ.m[a]? = some oa → live oa = true → F.g[a]? = some p → F'.g[k]? = some p → False := fun {a oa k p} ha hm hoa la ga gk => by
      obtain ⟨l', b1, b2⟩ := R.sto.obj a oa hoa
      rw [ga] at b1
      cases b1
      rw [if_pos la] at b2
      obtain ⟨u, hu, _⟩ := b2.2.has la
      by_cases hk : k < Fl.g.length
      · have gk2 : Fl.g[k]? = some p := by rw [e1, List.getElem?_append_left hk] at gk; exact gk
        obtain ⟨_, _, _, j, hj, gj⟩ := inF (List.mem_of_getElem? gk2)
        obtain ⟨xs, a1, _⟩ := sp _ j (idxN_at hj)
        have := R.sto.inj a j p oa _ hoa a1 la rfl ga gj
        exact hm (this ▸ hj)
      · rw [e1, List.getElem?_append_right (by omega)] at gk
        rw [e2 p (List.mem_of_getElem? gk)] at hu; cases hu
    have ga : ∀ {a : Nat} {p : Addr}, a < δ.m.length → (F.g ++ F'.g.drop ρ.length)[a]? = some p → F.g[a]? = some p := fun {a p} ha h => by
      rw [List.getElem?_append_left (by rw [R.sto.glen]; exact ha)] at h; exact h
    rcases at_ h1 with ⟨k, ho, hf, ⟨p, g1, g2⟩, w1⟩ | ⟨hi, hm, ho⟩
    · rw [h5] at g2
      cases g2
      rcases at_ h2 with ⟨k2, ho2, hf2, ⟨p2, g3, g4⟩, w2⟩ | ⟨hi2, hm2, ho2⟩
      · rw [h6] at g4
        cases g4
        have := S.inj k k2 l oi oj ho ho2 h3 h4 g1 g3
        subst this
        rcases w1 with ⟨_, w1⟩ | ⟨w1, w1'⟩ <;> rcases w2 with ⟨_, w2⟩ | ⟨w2, w2'⟩
        · rw [w1] at w2; exact Option.some.inj w2
        · rw [w2', List.getElem?_eq_none (Nat.le_refl _)] at w1; cases w1
        · rw [w1', List.getElem?_eq_none (Nat.le_refl _)] at w2; cases w2
        · rw [w1, w2]
      · exact (apart hi2 hm2 ho2 h4 (ga hi2 h6) g1).elim
    · rcases at_ h2 with ⟨k2, ho2, hf2, ⟨p2, g3, g4⟩, w2⟩ | ⟨hi2, hm2, ho2⟩
      · rw [h6] at g4
        cases g4
        exact (apart hi hm ho h3 (ga hi h5) g3).elim
      · exact R.sto.inj i j l oi oj ho ho2 h3 h4 (ga hi h5) (ga hi2 h6)
  · obtain ⟨v, h1, h2⟩ := R.slot i a h
    exact ⟨v, h1, h2.step T⟩
theorem callL_ok {d : DSp} {vs : List V} {as : List Ar} {C : Ar → DSt → Prop} {Q : VK} {E' : XK} (R : RepS W E K mg F σ δ H) (ra : ArsRep K F vs as) (c : callL d as δ C)
    (k : ∀ r δ' F' H' v, RepS W E K mg F' σ δ' H' → Stp F H F' H' → ArRep K F' v r → C r δ' → Q v H') : lift K mg d vs H Q E' := by
  unfold callL at c
  split at c
  · rename_i m0 hm
    generalize hρ : dedN (refsL as) = ρ at *
    obtain ⟨nd, mem⟩ := ded_spec (refsL as)
    rw [hρ] at nd mem
    obtain ⟨lm, sp⟩ := locM_spec hm
    obtain ⟨gs, hgs, hgl⟩ : ∃ gs : List Addr, gs.length = ρ.length ∧ ∀ (k i : Nat), ρ[k]? = some i → F.g[i]? = gs[k]? := by
      refine ⟨ρ.map fun i => F.g[i]?.getD 0, by simp, fun k i h => ?_⟩
      rw [List.getElem?_map, h]
      obtain ⟨xs, a1, _⟩ := sp k i h
      obtain ⟨l, b1, _⟩ := R.sto.at a1 rfl
      show F.g[i]? = some (F.g[i]?.getD 0)
      rw [b1]; rfl
    have hg : ∀ (k i : Nat) (l : Addr), ρ[k]? = some i → gs[k]? = some l → F.g[i]? = some l := fun k i l h1 h2 => by rw [hgl k i h1]; exact h2
    have rl : ∀ {vs : List V} {bs : List Ar}, (∀ i ∈ refsL bs, i ∈ ρ) → ArsRep K F vs bs → ArsRep K ⟨F.f, gs⟩ vs (bs.map (locA ρ)) := fun {vs} => by
      induction vs with
      | nil => intro bs _ h; cases bs with | nil => trivial | cons _ _ => exact h.elim
      | cons v vs ih =>
        intro bs hb h
        cases bs with
        | nil => exact h.elim
        | cons b bs =>
          refine ⟨?_, ih (fun i hi => hb i (List.mem_append_right _ hi)) h.2⟩
          cases b with
          | val x => exact h.1
          | fn f => exact h.1
          | sl j =>
            obtain ⟨l, h1, h2⟩ := h.1
            have hj := hb j (List.mem_append_left _ (List.mem_singleton.mpr rfl))
            exact ⟨l, by show gs[idxN ρ j]? = some l; rw [← hgl _ j (idxN_at hj)]; exact h1, h2⟩
    have S0 : StoC K mg ⟨F.f, gs⟩ m0 H := by
      refine ⟨R.sto.sub, by show gs.length = m0.length; rw [hgs, lm], fun i o h => ?_, fun i j l oi oj h1 h2 h3 h4 h5 h6 => ?_⟩
      · have hi : i < ρ.length := by rw [← lm]; exact (List.getElem?_eq_some_iff.mp h).1
        obtain ⟨xs, a1, a2⟩ := sp i _ (List.getElem?_eq_getElem hi)
        rw [h] at a2
        cases a2
        obtain ⟨l, b1, b2, b3⟩ := R.sto.at a1 rfl
        refine ⟨l, by show gs[i]? = some l; rw [← hgl i _ (List.getElem?_eq_getElem hi)]; exact b1, ?_⟩
        exact (if_pos (show live (.fl xs) = true from rfl)).mpr ⟨b2, b3⟩
      · have hi : i < ρ.length := by rw [← lm]; exact (List.getElem?_eq_some_iff.mp h1).1
        have hj : j < ρ.length := by rw [← lm]; exact (List.getElem?_eq_some_iff.mp h2).1
        obtain ⟨xs, a1, _⟩ := sp i _ (List.getElem?_eq_getElem hi)
        obtain ⟨ys, a2, _⟩ := sp j _ (List.getElem?_eq_getElem hj)
        have := R.sto.inj _ _ l _ _ a1 a2 rfl rfl (hg i _ l (List.getElem?_eq_getElem hi) h5) (hg j _ l (List.getElem?_eq_getElem hj) h6)
        exact (List.getElem_inj nd).mp this
    refine ⟨⟨F.f, gs⟩, as.map (locA ρ), m0, _, _, rl (fun i hi => (mem i).mpr hi) ra, S0, c, fun r m' F' H' v S t rr cc => ?_, fun x Cc dd m' F' H' S t hm he => he.elim⟩
    obtain ⟨ns, e1, _⟩ := t.pre
    have lt : m'.length = ρ.length + ns.length := by rw [← S.glen, e1, List.length_append]; show gs.length + ns.length = _; rw [hgs]
    cases r with
    | val x =>
      unfold retL at cc
      split at cc
      · rename_i y e; cases e
        split at cc
        · rename_i q
          rw [Bool.and_eq_true, beq_iff_eq] at q
          obtain ⟨RC, T⟩ := loc_back (Fl := ⟨F.f, gs⟩) R.toRepC nd hm rfl hg hgs S t (by omega) (by omega) q.2
          have ed : m'.drop ρ.length = [] := List.drop_eq_nil_of_le (by omega)
          rw [ed, List.append_nil] at RC
          exact k (.val x) ⟨δ.s, _⟩ _ H' v (R.next RC T) T rr cc
        · exact cc.elim
      · rename_i e; cases e
      · rename_i e; cases e
    | fn f => exact cc.elim
    | sl j =>
      unfold retL at cc
      split at cc
      · rename_i e; cases e
      · rename_i e; cases e
      · rename_i j' e
        cases e
        split at cc
        · rename_i q
          rw [Bool.and_eq_true, Bool.and_eq_true, beq_iff_eq, beq_iff_eq] at q
          obtain ⟨⟨q1, q2⟩, q3⟩ := q
          obtain ⟨RC, T⟩ := loc_back (Fl := ⟨F.f, gs⟩) R.toRepC nd hm rfl hg hgs S t (by omega) (by omega) q2
          obtain ⟨l, h1, h2⟩ := rr
          refine k (.sl δ.m.length) ⟨δ.s, _⟩ _ H' v (R.next RC T) T ⟨l, ?_, h2⟩ cc
          show (F.g ++ F'.g.drop ρ.length)[δ.m.length]? = some l
          rw [List.getElem?_append_right (by rw [R.sto.glen]; exact Nat.le_refl _), R.sto.glen, Nat.sub_self, List.getElem?_drop, Nat.add_zero, ← q3]
          exact h1
        · exact cc.elim
  · exact c.elim
end
end MM

namespace MM
open PySem PySem.Spec PyProof.Rows L2
theorem passX {X : Cx} : Passes (L2.CX X.prog X.w) X E0 := fun pins σ H s e s' I c => by
  obtain ⟨a, B, H', cls, d, _, _, _, _, _, _, _, h⟩ := c
  exact h.elim
section
variable {W : WX} {E : EW} {mg : Str → Option Value} {X : Cx} {K : PySem.W.Frag} {F : Fg} {H : Hp} {σ : L2.St} {δ : DSt} {pos : Pos}
variable {f : Addr} {fd : FuncData} {ps : List Str} {k : Nat} {x : Str} {p : Pos} {e : Expr} {es : List Expr} {d : DSp} {g : DTA}
/-! ### calls by name -/
def dCall (d : DSp) (f : DTA) : DTE := fun δ C => f δ fun as δ1 => callL d as δ1 C
def dCallG (d : DSp) (f : DTA) : DTE := fun δ C => f δ fun as δ1 => callG EF d as δ1 C
def dCallX (E : EW) (d : DSp) (f : DTA) : DTE := fun δ C => f δ fun as δ1 => callG E d as δ1 C
abbrev Bnd (K : PySem.W.Frag) (fd : FuncData) (ps : List Str) : Prop := Binds K fd ps []
theorem pd_call (G : FnOk X.prog X.w X.K X.mg X.base (L2.CX X.prog X.w) k f fd ps (lift X.K X.mg d)) (hr : Room k X.A) (hg : Gl X x) (hm : X.mg x = some (.ref f)) (hk : PySem.W.keepIn X.K (.ref f) = true) (hb : Binds X.K fd ps [])
    (ha : PDA W E X (e :: es) g) (hdb : (x == ("__debug__" : Str)) = false := by decide) (he : starEach (e :: es) X.env = (false, eval e X.env) :: starEach es X.env := by rfl) (hpl : (backTo pos (starEach es X.env)).any (·.1) = false := by rfl) :
    PD W E X (.Call (.Name x p) (e :: es) [] pos) (dCall d g) := by
  obtain ⟨ta, pa, q⟩ := ha
  refine ⟨_, pe_call G hr hg hm hk hb .nil passX pa hdb he hpl, fun {F σ δ H Q C} R c k => ?_⟩
  refine q R c fun as δ1 F1 H1 vs R1 s1 r1 c1 => ?_
  rw [List.append_nil]
  exact callL_ok R1 r1 c1 fun r δ' F' H' v R2 s2 r2 c2 => k r _ _ _ _ R2 (s1.trans s2) r2 c2
theorem pd_callG (G : FnOk X.prog X.w X.K X.mg X.base (L2.CX X.prog X.w) k f fd ps (lift X.K X.mg d)) (hr : Room k X.A) (hg : Gl X x) (hm : X.mg x = some (.ref f)) (hk : PySem.W.keepIn X.K (.ref f) = true) (hb : Binds X.K fd ps [])
    (ha : PDA W E X (e :: es) g) (hdb : (x == ("__debug__" : Str)) = false := by decide) (he : starEach (e :: es) X.env = (false, eval e X.env) :: starEach es X.env := by rfl) (hpl : (backTo pos (starEach es X.env)).any (·.1) = false := by rfl) :
    PD W E X (.Call (.Name x p) (e :: es) [] pos) (dCallG d g) := by
  obtain ⟨ta, pa, q⟩ := ha
  refine ⟨_, pe_call G hr hg hm hk hb .nil passX pa hdb he hpl, fun {F σ δ H Q C} R c k => ?_⟩
  refine q R c fun as δ1 F1 H1 vs R1 s1 r1 c1 => ?_
  rw [List.append_nil]
  exact callG_ok0 R1 r1 c1 fun r δ' F' H' v R2 s2 r2 c2 => k r _ _ _ _ R2 (s1.trans s2) r2 c2
theorem pd_callX (G : FnOk X.prog X.w X.K X.mg X.base (L2.CX X.prog X.w) k f fd ps (lift X.K X.mg d)) (tk : Takes X W) (hr : Room k X.A) (hg : Gl X x) (hm : X.mg x = some (.ref f)) (hk : PySem.W.keepIn X.K (.ref f) = true) (hb : Binds X.K fd ps [])
    (ha : PDA W E X (e :: es) g) (hdb : (x == ("__debug__" : Str)) = false := by decide) (he : starEach (e :: es) X.env = (false, eval e X.env) :: starEach es X.env := by rfl) (hpl : (backTo pos (starEach es X.env)).any (·.1) = false := by rfl) :
    PD W E X (.Call (.Name x p) (e :: es) [] pos) (dCallX E d g) := by
  obtain ⟨ta, pa, q⟩ := ha
  refine ⟨_, pe_callS G hr hg hm hk hb (fun σ => passAt tk σ) pa hdb he hpl, fun {F σ δ H Q C} R c k => ?_⟩
  refine q R c fun as δ1 F1 H1 vs R1 s1 r1 c1 => ?_
  exact callG_ok R1 r1 c1 fun r δ' F' H' v R2 s2 r2 c2 => k r _ _ _ _ R2 (s1.trans s2) r2 c2
theorem pd_call0 (G : FnOk X.prog X.w X.K X.mg X.base (L2.CX X.prog X.w) k f fd ps (lift X.K X.mg d)) (hr : Room k X.A) (hg : Gl X x) (hm : X.mg x = some (.ref f)) (hk : PySem.W.keepIn X.K (.ref f) = true) (hb : Binds X.K fd ps [])
    (hdb : (x == ("__debug__" : Str)) = false := by decide) : PD W E X (.Call (.Name x p) [] [] pos) (dCall d dNil) := by
  refine ⟨_, pe_call0 G hr hg hm hk hb .nil passX hdb, fun {F σ δ H Q C} R c k => ?_⟩
  exact callL_ok (vs := []) (as := []) R trivial c fun r δ' F' H' v R2 s2 r2 c2 => k r _ _ _ _ R2 s2 r2 c2
/-! ### calls by the parameters' names alone, in their order -/
structure PDK (W : WX) (E : EW) (X : Cx) (kws : List Keyword) (f : DTA) : Prop where
  ex : ∃ ta, PK X kws ta ∧ ∀ {F : Fg} {σ : L2.St} {δ : DSt} {H : Hp} {Q : List V → Hp → Prop} {C : List Ar → DSt → Prop}, RepS W E X.K X.mg F σ δ H → f δ C →
    (∀ as δ' F' H' vs, RepS W E X.K X.mg F' σ δ' H' → Stp F H F' H' → ArsRep X.K F' vs as → C as δ' → Q vs H') → ta σ H Q
theorem pdk_nil : PDK W E X [] dNil := ⟨_, pk_nil, fun R c k => k [] _ _ _ _ R .refl trivial c⟩
theorem pdk_cons {e : Expr} {kws : List Keyword} {nm : Option Str} {kpos : Pos} {f : DTE} {g : DTA} (h1 : PD W E X e f) (h2 : PDK W E X kws g) : PDK W E X (⟨nm, e, kpos⟩ :: kws) (dCons f g) := by
  obtain ⟨te, p1, q1⟩ := h1
  obtain ⟨ta, p2, q2⟩ := h2
  refine ⟨_, pk_cons p1 p2, fun R c k => ?_⟩
  refine q1 R c fun a δ1 F1 H1 v R1 s1 r1 c1 => ?_
  refine q2 R1 c1 fun as δ2 F2 H2 vs R2 s2 r2 c2 => ?_
  exact k (a :: as) _ _ _ _ R2 (s1.trans s2) ⟨r1.step s2, r2⟩ c2
theorem pd_callK {kws : List Keyword} (G : FnOk X.prog X.w X.K X.mg X.base (L2.CX X.prog X.w) k f fd ps (lift X.K X.mg d)) (hr : Room k X.A) (hg : Gl X x) (hm : X.mg x = some (.ref f)) (hk : PySem.W.keepIn X.K (.ref f) = true)
    (hb : ∀ (s : Shared) (us : List Value), X.K.In s.heap → us.length = ps.length → BindsTo s fd ⟨[], ps.zip us⟩ (ps.zip us)) (hkw : PDK W E X kws g)
    (hall : (backToKw pos (keywordEach kws X.env)).all (·.1.isSome) = true := by rfl) (hks : (backToKw pos (keywordEach kws X.env)).filterMap (·.1) = ps := by rfl) (hdb : (x == ("__debug__" : Str)) = false := by decide)
    (hpl : ((backTo pos (starEach [] X.env)).any (·.1) || (backToKw pos (keywordEach kws X.env)).any (·.1.isNone)) = false := by rfl) :
    PD W E X (.Call (.Name x p) [] kws pos) (dCall d g) := by
  obtain ⟨ta, pa, q⟩ := hkw
  refine ⟨tCall (lift X.K X.mg d) [] E0 ta, ⟨fun pins s σ H Q I h => ?_⟩, fun {F σ δ H Q C} R c k => ?_⟩
  · refine wpAny_Call_Name_kw (ld_glob I hg hm ?_ hdb)
    refine PySem.W.callWith_KW0 (h₀ := X.base) I.ok.mod.kin hk hall ?_ hpl
    refine thn (pa.run pos pins s σ H _ I h) fun us s2 ⟨zs, H2, I2, rz, q2⟩ => ⟨I2.kIn, ?_⟩
    rw [hks]
    have q2 : lift X.K X.mg d (zs ++ []) H2 Q E0 := q2
    rw [List.append_nil] at q2
    have hl : us.length = ps.length := by rw [← rz.length]; exact G.len _ _ _ _ q2
    refine wpAny_call (codeAny_mono (G.run X.A X.stack s2 H2 ⟨[], ps.zip us⟩ us zs Q E0 hr I2.env0 (hb s2 us I2.kIn hl) rz q2) fun r s' hq => ?_)
    cases r with
    | error e => exact passX pins σ H2 s2 e s' I2 hq
    | ok fl =>
      cases fl with
      | ret u => exact I2.after hq
      | _ => exact False.elim hq
  · refine q R c fun as δ1 F1 H1 vs R1 s1 r1 c1 => ?_
    rw [List.append_nil]
    exact callL_ok R1 r1 c1 fun r δ' F' H' v R2 s2 r2 c2 => k r _ _ _ _ R2 (s1.trans s2) r2 c2
/-! ### instances -/
/-- a class of the module -/
structure ClsF (K : PySem.W.Frag) (mg : Str → Option Value) (c : Str) : Prop where
  ex : ∃ C, mg c = some (.ref C) ∧ Cls K C
/-- .. with an attribute f that no class of it has -/
structure FldF (K : PySem.W.Frag) (mg : Str → Option Value) (c f : Str) : Prop where
  ex : ∃ C, mg c = some (.ref C) ∧ Cls K C ∧ NoAttr K C f
theorem look_rep {F : Fg} {f : Str} {a : Ar} : ∀ {vs : List (Str × V)} {fs : List (Str × Ar)}, vs.map (·.1) = fs.map (·.1) → ArsRep K F (vs.map (·.2)) (fs.map (·.2)) → fs.lookup f = some a → ∃ v, vs.lookup f = some v ∧ ArRep K F v a
  | [], [], _, _, h => by cases h
  | [], _ :: _, e, _, _ => by cases e
  | _ :: _, [], e, _, _ => by cases e
  | (g, v) :: vs, (g', b) :: fs, e, r, h => by
    have e1 : g = g' := by injection e
    have e2 : vs.map (·.1) = fs.map (·.1) := by injection e
    subst e1
    rw [List.lookup_cons] at h ⊢
    split at h
    · cases h; exact ⟨v, rfl, r.1⟩
    · exact look_rep e2 r.2 h
theorem look_none {f : Str} : ∀ {vs : List (Str × V)} {fs : List (Str × Ar)}, vs.map (·.1) = fs.map (·.1) → fs.lookup f = none → vs.lookup f = none
  | [], _, _, _ => rfl
  | _ :: _, [], e, _ => by cases e
  | (g, v) :: vs, (g', b) :: fs, e, h => by
    have e1 : g = g' := by injection e
    have e2 : vs.map (·.1) = fs.map (·.1) := by injection e
    subst e1
    rw [List.lookup_cons] at h ⊢
    split at h
    · cases h
    · exact look_none e2 h
/-- o.f -/
def dFld (c f : Str) (fo : DTE) : DTE := fun δ C => fo δ fun a δ1 => match a with
  | .sl i => match δ1.m[i]? with
    | some (.ins c' fs) => c' = c ∧ match fs.lookup f with
      | some b => C b δ1
      | none => False
    | _ => False
  | _ => False
theorem pd_fld {o : Expr} {c f : Str} {fo : DTE} (T : FldF X.K X.mg c f) (ho : PD W E X o fo) (hb : attributeBase o f X.env (eval o X.env) = eval o X.env := by rfl) : PD W E X (.Attribute o f pos) (dFld c f fo) := by
  obtain ⟨te, p, q⟩ := ho
  obtain ⟨C0, t1, t2, t3⟩ := T
  refine ⟨_, pe_fld p hb, fun {F σ δ H Q C} R c k => ?_⟩
  refine q R c fun a δ1 F1 H1 v R1 s1 r1 c1 => ?_
  split at c1
  · rename_i i
    split at c1
    · rename_i c' fs hi
      obtain ⟨rfl, c1⟩ := c1
      split at c1
      · rename_i b hb
        obtain ⟨l, e1, e2, C1, dx, vs, a0, a1, a2, a3, a4, a5⟩ := R1.sto.at hi rfl
        rw [t1] at a0
        cases a0
        obtain ⟨l', g1, rfl⟩ := r1
        rw [e1] at g1
        cases g1
        obtain ⟨w, h1, h2⟩ := look_rep a4 a5 hb
        exact ⟨l, C0, dx, vs, w, rfl, a1, t2, t3, h1, k b _ _ _ _ R1 s1 h2 c1⟩
      · exact c1.elim
    · exact c1.elim
  · exact c1.elim
/-- o.f = e -/
def putA (f : Str) (a : Ar) : List (Str × Ar) → List (Str × Ar)
  | [] => [(f, a)]
  | (g, b) :: r => if g = f then (g, a) :: r else (g, b) :: putA f a r
theorem putA_rep {F : Fg} {f : Str} {a : Ar} {v : V} (h : ArRep K F v a) : ∀ {vs : List (Str × V)} {fs : List (Str × Ar)}, vs.map (·.1) = fs.map (·.1) → ArsRep K F (vs.map (·.2)) (fs.map (·.2)) → (putF f v vs).map (·.1) = (putA f a fs).map (·.1) ∧ ArsRep K F ((putF f v vs).map (·.2)) ((putA f a fs).map (·.2))
  | [], [], _, _ => ⟨rfl, h, trivial⟩
  | [], _ :: _, e, _ => by cases e
  | _ :: _, [], e, _ => by cases e
  | (g, u) :: vs, (g', b) :: fs, e, r => by
    have e1 : g = g' := by injection e
    have e2 : vs.map (·.1) = fs.map (·.1) := by injection e
    subst e1
    unfold putF putA
    by_cases q : g = f
    · rw [if_pos q, if_pos q]
      exact ⟨by rw [List.map_cons, List.map_cons, e2], h, r.2⟩
    · rw [if_neg q, if_neg q]
      obtain ⟨h1, h2⟩ := putA_rep h e2 r.2
      exact ⟨by rw [List.map_cons, List.map_cons, h1], r.1, h2⟩
def dSetFld (c f : Str) (fo fv : DTE) : DTS := fun D δ => fv δ fun b δ1 => fo δ1 fun a δ2 => match a with
  | .sl i => match δ2.m[i]? with
    | some (.ins c' fs) => (c' = c ∧ fs.length < 1000) ∧ D.nx (setM δ2 i (.ins c (putA f b fs)))
    | _ => False
  | _ => False
theorem RepS.putIns (R : RepS W E K mg F σ δ H) {i : Nat} {c f : Str} {fs : List (Str × Ar)} {b : Ar} {w : V} (h : δ.m[i]? = some (.ins c fs)) (r : ArRep K F w b) : ∃ l C dx vs, F.g[i]? = some l ∧ mg c = some (.ref C) ∧ H l = some (.ins C dx vs) ∧ vs.length = fs.length ∧
    RepS W E K mg F σ (setM δ i (.ins c (putA f b fs))) (upd H l (.ins C dx (putF f w vs))) ∧ Stp F H F (upd H l (.ins C dx (putF f w vs))) := by
  obtain ⟨l, e1, e2, C, dx, vs, a0, a1, a2, a3, a4, a5⟩ := R.sto.at h rfl
  obtain ⟨h1, h2⟩ := putA_rep (f := f) r a4 a5
  have nd : dx ≠ l := fun z => by rw [z, a1] at a2; cases a2
  have ln : vs.length = fs.length := by have := congrArg List.length a4; simpa using this
  obtain ⟨R2, s2⟩ := R.put (o' := .ins c (putA f b fs)) (u := .ins C dx (putF f w vs)) h rfl rfl e1 (fun x => by intro z; cases z) ⟨C, dx, _, a0, upd_same, by rw [upd_ne nd]; exact a2, a3, h1, h2⟩
  exact ⟨l, C, dx, vs, e1, a0, a1, ln, R2, s2⟩
theorem sd_setFld {o v : Expr} {c f : Str} {fo fv : DTE} {pos' : Pos} (T : FldF X.K X.mg c f) (ho : PD W E X o fo) (hv : PD W E X v fv) (hs : swapsWith v (some (.Attribute o f pos')) pos.line X.env = pure false := by rfl) : SD W E X (.Assign [.Attribute o f pos'] v pos) (dSetFld c f fo fv) := by
  obtain ⟨te, p, q⟩ := ho
  obtain ⟨tv, p2, q2⟩ := hv
  obtain ⟨C0, t1, t2, t3⟩ := T
  refine ⟨_, ps_fld p p2 hs, fun {F σ δ H DD D} R c k => ?_⟩
  refine q2 R c fun b δ1 F1 H1 w R1 s1 r1 c1 => ?_
  refine q R1 c1 fun a δ2 F2 H2 v R2 s2 r2 c2 => ?_
  split at c2
  · rename_i i
    split at c2
    · rename_i c' fs hi
      obtain ⟨⟨rfl, hz⟩, c2⟩ := c2
      obtain ⟨l, C1, dx, vs, e1, a0, a1, ln, R3, s3⟩ := R2.putIns (f := f) hi (r1.step s2)
      rw [t1] at a0
      cases a0
      obtain ⟨l', g1, rfl⟩ := r2
      rw [e1] at g1
      cases g1
      exact ⟨l, C0, dx, vs, rfl, a1, t2, t3, by rw [ln]; exact hz, k.nx _ _ _ _ R3 ((s1.trans s2).trans s3) c2⟩
    · exact c2.elim
  · exact c2.elim
/-- o.f += e (whole numbers) -/
def dAugFld (c f : Str) (fo fv : DTE) (op : Int → Int → Int) : DTS := fun D δ => fo δ fun a δ1 => match a with
  | .sl i => match δ1.m[i]? with
    | some (.ins c' fs) => match fs.lookup f with
      | some (.val (.int n)) => (c' = c ∧ fs.length < 1000) ∧ fv δ1 fun b δ2 => match b with
        | .val (.int m) => δ2.m[i]? = some (.ins c' fs) ∧ D.nx (setM δ2 i (.ins c (putA f (.val (.int (op n m))) fs)))
        | _ => False
      | _ => False
    | _ => False
  | _ => False
theorem augFld {o v : Expr} {c f : Str} {fo fv : DTE} {tpos : Pos} {opr : Operator} {op : Int → Int → Int} (hop : InOp X opr fun x y H Q => ∃ i j, x = .int i ∧ y = .int j ∧ Q (.int (op i j)) H) (T : FldF X.K X.mg c f) (ho : PD W E X o fo) (hv : PD W E X v fv) : SD W E X (.AugAssign (.Attribute o f tpos) opr v pos) (dAugFld c f fo fv op) := by
  obtain ⟨te, p, q⟩ := ho
  obtain ⟨tv, p2, q2⟩ := hv
  obtain ⟨C0, t1, t2, t3⟩ := T
  refine ⟨_, ps_fldaug p p2 hop, fun {F σ δ H DD D} R c k => ?_⟩
  refine q R c fun a δ1 F1 H1 v R1 s1 r1 c1 => ?_
  split at c1
  · rename_i i
    split at c1
    · rename_i c' fs hi
      split at c1
      · rename_i n hn
        obtain ⟨⟨rfl, hz⟩, c1⟩ := c1
        obtain ⟨l, e1, e2, C1, dx, vs, a0, a1, a2, a3, a4, a5⟩ := R1.sto.at hi rfl
        rw [t1] at a0
        cases a0
        obtain ⟨l', g1, rfl⟩ := r1
        rw [e1] at g1
        cases g1
        obtain ⟨w, h1, h2⟩ := look_rep a4 a5 hn
        cases (show Dp X.K F1.f w (.int n) from h2)
        refine ⟨l, C0, dx, vs, _, rfl, a1, t2, t3, h1, q2 R1 c1 fun b δ2 F2 H2 u R2 s2 r2 c2 => ?_⟩
        split at c2
        · rename_i m
          cases (show Dp X.K F2.f u (.int m) from r2)
          obtain ⟨hi2, c2⟩ := c2
          obtain ⟨l2, C2, dx2, vs2, b1, b0, b2, ln, R3, s3⟩ := R2.putIns (f := f) (b := .val (.int (op n m))) (w := .int (op n m)) hi2 (Dp.int _)
          rw [t1] at b0
          cases b0
          obtain ⟨ns, ep, _⟩ := s2.pre
          rw [ep, List.getElem?_append_left (List.getElem?_eq_some_iff.mp e1).1, e1] at b1
          cases b1
          exact ⟨n, m, rfl, rfl, dx2, vs2, b2, by rw [ln]; exact hz, k.nx _ _ _ _ R3 ((s1.trans s2).trans s3) c2⟩
        · exact c2.elim
      · exact c1.elim
    · exact c1.elim
  · exact c1.elim
/-! ### methods, instances made -/
def dMeth (c m : Str) (d : DSp) (fo : DTE) (g : DTA) : DTE := fun δ C => fo δ fun a δ1 => match a with
  | .sl i => match δ1.m[i]? with
    | some (.ins c' fs) => (c' = c ∧ fs.lookup m = none) ∧ g δ1 fun as δ2 => callG EF d (.sl i :: as) δ2 C
    | _ => False
  | _ => False
/-- the method m of the class c keeps its promise -/
structure MethOk (P : Program) (w : World) (K : PySem.W.Frag) (mg : Str → Option Value) (base : Heap) (c m : Str) (k : Nat) (ps : List Str) (d : DSp) : Prop where
  ex : ∃ (C f : Addr) (fd : FuncData), mg c = some (.ref C) ∧ Cls K C ∧ Meth K C m f ∧ Binds K fd ps [] ∧ FnOk P w K mg base (L2.CX P w) k f fd ps (lift K mg d)
theorem pd_meth {o : Expr} {c m : Str} {j : Nat} {fo : DTE} {apos : Pos} {pl : Sem Bool} (G : MethOk X.prog X.w X.K X.mg X.base c m k ps d) (hr : Room j X.A) (hkm : k ≤ j) (ho : PD W E X o fo) (ha : PDA W E X (e :: es) g)
    (hst : starEach (e :: es) X.env = (false, eval e X.env) :: starEach es X.env := by rfl) (hpl : (backTo pos (starEach es X.env)).any (·.1) = false := by rfl)
    (ht : eval (.Call (.Attribute o m apos) (e :: es) [] pos) X.env = (do
      let ov ← eval o X.env
      standAt apos.atName
      let (f, first) ← holding [ov] (getMethod ov m pl)
      callWith pos f first (backTo pos (starEach (e :: es) X.env)) (backToKw pos (keywordEach [] X.env))) := by rfl) :
    PD W E X (.Call (.Attribute o m apos) (e :: es) [] pos) (dMeth c m d fo g) := by
  obtain ⟨te, p, q⟩ := ho
  obtain ⟨ta, pa, qa⟩ := ha
  obtain ⟨C0, f, fd, t1, t2, t3, hb, G⟩ := G
  refine ⟨_, pe_meth p t2 t3 G (hr.mono hkm) hb .nil passX pa hst hpl ht, fun {F σ δ H Q C} R c k => ?_⟩
  refine q R c fun a δ1 F1 H1 v R1 s1 r1 c1 => ?_
  split at c1
  · rename_i i
    split at c1
    · rename_i c' fs hi
      obtain ⟨⟨rfl, hl⟩, c1⟩ := c1
      obtain ⟨l, e1, e2, C1, dx, vs, a0, a1, a2, a3, a4, a5⟩ := R1.sto.at hi rfl
      rw [t1] at a0
      cases a0
      have r1' := r1
      obtain ⟨l', g1, rfl⟩ := r1
      rw [e1] at g1
      cases g1
      refine ⟨l, dx, vs, rfl, a1, look_none a4 hl, qa R1 c1 fun as δ2 F2 H2 us R2 s2 r2 c2 => ?_⟩
      rw [List.append_nil]
      exact callG_ok0 (as := .sl i :: as) R2 ⟨r1'.step s2, r2⟩ c2 fun r δ' F' H' v R3 s3 r3 c3 => k r _ _ _ _ R3 ((s1.trans s2).trans s3) r3 c3
    · exact c1.elim
  · exact c1.elim
theorem pd_meth0 {o : Expr} {c m : Str} {j : Nat} {fo : DTE} {apos : Pos} {pl : Sem Bool} (G : MethOk X.prog X.w X.K X.mg X.base c m k ps d) (hr : Room j X.A) (hkm : k ≤ j) (ho : PD W E X o fo)
    (ht : eval (.Call (.Attribute o m apos) [] [] pos) X.env = (do
      let ov ← eval o X.env
      standAt apos.atName
      let (f, first) ← holding [ov] (getMethod ov m pl)
      callWith pos f first (backTo pos (starEach [] X.env)) (backToKw pos (keywordEach [] X.env))) := by rfl) :
    PD W E X (.Call (.Attribute o m apos) [] [] pos) (dMeth c m d fo dNil) := by
  obtain ⟨te, p, q⟩ := ho
  obtain ⟨C0, f, fd, t1, t2, t3, hb, G⟩ := G
  refine ⟨_, pe_meth0 p t2 t3 G (hr.mono hkm) hb .nil passX ht, fun {F σ δ H Q C} R c k => ?_⟩
  refine q R c fun a δ1 F1 H1 v R1 s1 r1 c1 => ?_
  split at c1
  · rename_i i
    split at c1
    · rename_i c' fs hi
      obtain ⟨⟨rfl, hl⟩, c1⟩ := c1
      obtain ⟨l, e1, e2, C1, dx, vs, a0, a1, a2, a3, a4, a5⟩ := R1.sto.at hi rfl
      rw [t1] at a0
      cases a0
      have r1' := r1
      obtain ⟨l', g1, rfl⟩ := r1
      rw [e1] at g1
      cases g1
      refine ⟨l, dx, vs, rfl, a1, look_none a4 hl, ?_⟩
      exact callG_ok0 (vs := [.ref l]) (as := [.sl i]) R1 ⟨r1', trivial⟩ c1 fun r δ' F' H' v R3 s3 r3 c3 => k r _ _ _ _ R3 (s1.trans s3) r3 c3
    · exact c1.elim
  · exact c1.elim
def dMake (c : Str) (d : DSp) (g : DTA) : DTE := fun δ C => g δ fun as δ1 => callG EF d (.sl δ1.m.length :: as) ⟨δ1.s, δ1.m ++ [.ins c []]⟩ fun r δ2 => r = .val .none ∧ C (.sl δ1.m.length) δ2
structure MakeOk (P : Program) (w : World) (K : PySem.W.Frag) (mg : Str → Option Value) (base : Heap) (c : Str) (k : Nat) (ps : List Str) (d : DSp) : Prop where
  ex : ∃ (C f : Addr) (fd : FuncData), mg c = some (.ref C) ∧ Mk K C f ∧ Binds K fd ps [] ∧ FnOk P w K mg base (L2.CX P w) k f fd ps (lift K mg d)
theorem make_read {c : Str} {C0 : Addr} {vs : List V} {as : List Ar} {Q : VK} {C : Ar → DSt → Prop} (hc : mg c = some (.ref C0)) (R : RepS W E K mg F σ δ H) (ra : ArsRep K F vs as)
    (cc : callG EF d (.sl δ.m.length :: as) ⟨δ.s, δ.m ++ [.ins c []]⟩ fun r δ2 => r = .val .none ∧ C (.sl δ.m.length) δ2)
    (k : ∀ a δ' F' H' v, RepS W E K mg F' σ δ' H' → Stp F H F' H' → ArRep K F' v a → C a δ' → Q v H') (x dx : Addr) (nx : H x = none) (ndx : H dx = none) (ne : dx ≠ x) :
    lift K mg d (.ref x :: vs) (upd (upd H dx (.own x)) x (.ins C0 dx [])) (fun v H2 => v = .non ∧ Q (.ref x) H2) E0 := by
  have sm : Same H (upd (upd H dx (.own x)) x (.ins C0 dx [])) := fun b u e => by rw [upd_ne (ne_of_none e nx), upd_ne (ne_of_none e ndx)]; exact e
  obtain ⟨R2, s2⟩ := R.made (p := x) (o := .ins c []) sm nx rfl ⟨C0, dx, [], hc, upd_same, by rw [upd_ne ne, upd_same], R.sto.sub.free ndx, rfl, trivial⟩
  have gp : (F.g ++ [x])[δ.m.length]? = some x := by
    rw [List.getElem?_append_right (by rw [R.sto.glen]; exact Nat.le_refl _), R.sto.glen, Nat.sub_self]; rfl
  refine callG_ok0 (as := .sl δ.m.length :: as) R2 ⟨⟨x, gp, rfl⟩, ra.step s2⟩ cc fun r δ' F' H' v R3 s3 r3 c3 => ?_
  obtain ⟨rfl, c3⟩ := c3
  cases (show Dp K F'.f v .none from r3)
  exact ⟨rfl, k _ _ _ _ _ R3 (s2.trans s3) (ArRep.step s3 (a := .sl δ.m.length) ⟨x, gp, rfl⟩) c3⟩
theorem pd_make {c : Str} {j : Nat} (G : MakeOk X.prog X.w X.K X.mg X.base c k ps d) (hr : Room j X.A) (hg : Gl X c) (hkm : k + 1 ≤ j) (ha : PDA W E X (e :: es) g)
    (hdb : (c == ("__debug__" : Str)) = false := by decide) (he : starEach (e :: es) X.env = (false, eval e X.env) :: starEach es X.env := by rfl) (hpl : (backTo pos (starEach es X.env)).any (·.1) = false := by rfl) : PD W E X (.Call (.Name c p) (e :: es) [] pos) (dMake c d g) := by
  obtain ⟨ta, pa, qa⟩ := ha
  obtain ⟨C0, f, fd, t1, t2, hb, G⟩ := G
  refine ⟨_, pe_make t2 G (hr.mono hkm) hg t1 hb .nil passX pa hdb he hpl, fun {F σ δ H Q C} R c k => ?_⟩
  refine qa R c fun as δ1 F1 H1 vs R1 s1 r1 c1 x dx nx ndx ne => ?_
  rw [List.append_nil]
  exact make_read t1 R1 r1 c1 (fun a δ' F' H' v R2 s2 r2 c2 => k a _ _ _ _ R2 (s1.trans s2) r2 c2) x dx nx ndx ne
theorem pd_make0 {c : Str} {j : Nat} (G : MakeOk X.prog X.w X.K X.mg X.base c k ps d) (hr : Room j X.A) (hg : Gl X c) (hkm : k + 1 ≤ j)
    (hdb : (c == ("__debug__" : Str)) = false := by decide) : PD W E X (.Call (.Name c p) [] [] pos) (dMake c d dNil) := by
  obtain ⟨C0, f, fd, t1, t2, hb, G⟩ := G
  refine ⟨_, pe_make0 t2 G (hr.mono hkm) hg t1 hb .nil passX hdb, fun {F σ δ H Q C} R c k => ?_⟩
  intro x dx nx ndx ne
  exact make_read (vs := []) (as := []) t1 R trivial c k x dx nx ndx ne
end
end MM

namespace MM
open PySem PySem.Spec PyProof.Rows L2
/-! ### lists that are read: + and * -/
/-- the module holds no list -/
def noListB (K : PySem.W.Frag) : Bool := K.all fun p => !(p.2.cls == .type "list")
theorem lookup_mem {K : PySem.W.Frag} {a : Addr} {o : Obj} (h : K.lookup a = some o) : (a, o) ∈ K := by
  induction K with
  | nil => cases h
  | cons p K ih =>
    obtain ⟨b, u⟩ := p
    rw [List.lookup_cons] at h
    split at h
    · rename_i e
      cases h
      rw [beq_iff_eq.mp e]
      exact List.mem_cons_self
    · exact List.mem_cons_of_mem _ (ih h)
theorem rd_of {K : PySem.W.Frag} {H : Hp} {a : Addr} {vs : List V} (n : noListB K = true) (h : SqL K H a vs) : Rd H a (.lst vs) := by
  rcases h with h | ⟨o, its, m, h1, h2, _⟩
  · exact h
  · have := List.all_eq_true.mp n _ (lookup_mem h1)
    rw [h2] at this
    cases this
section
variable {W : WX} {E : EW} {mg : Str → Option Value} {X : Cx} {K : PySem.W.Frag} {F : Fg} {H : Hp} {σ : L2.St} {δ : DSt} {pos : Pos}
theorem lstR {pins : List (Addr × Obj)} {s : Shared} {l : Addr} {xs : List V} (I : Inv X pins σ H s) (hH : Rd H l (.lst xs)) : xs.length ≤ sizeLine ∧ ∃ (its : List Value) (n : Nat), Vals xs its ∧ xs.length = its.length ∧ s.heap.get? l = some { cls := .type "list", data := .seq its.toArray n } := by
  obtain ⟨z, its, n, r, e⟩ := hH.ok I.hok
  exact ⟨z, its, n, r, r.length, e⟩
theorem op_catR : OpR X (binaryOp .Add) (fun x y H Q => ∃ l b xs zs, x = .ref l ∧ y = .ref b ∧ Rd H l (.lst xs) ∧ Rd H b (.lst zs) ∧ xs.length + zs.length ≤ sizeLine ∧ ∀ p, H p = none → Q (.ref p) (upd H p (.lst (xs ++ zs)))) := by
  intro pins s σ H x y v u Q I rx ry h
  obtain ⟨l, b, xs, zs, rfl, rfl, hH, hB, hz, q⟩ := h
  cases rx
  cases ry
  obtain ⟨z, its, n, r, hl, e⟩ := lstR I hH
  obtain ⟨z2, its2, n2, r2, hl2, e2⟩ := lstR I hB
  refine PySem.P.add_list e e2 ?_ (by rw [List.size_toArray, List.size_toArray]; omega)
  have ea : its.toArray ++ its2.toArray = (its ++ its2).toArray := by simp
  rw [ea]
  exact ⟨.ref _, _, I.lnew (t' := s.toks) (r.append r2) (by rw [List.length_append]; omega), rfl, q _ I.fresh⟩
theorem mt_extendR : MtM X "list.extend" (fun x vs H Q => ∃ l b xs zs, x = .ref l ∧ vs = [.ref b] ∧ H l = some (.lst xs) ∧ Rd H b (.lst zs) ∧ xs.length + zs.length ≤ sizeLine ∧ Q .non (upd H l (.lst (xs ++ zs)))) := by
  intro pins s σ H x vs v us Q I rx rv h
  obtain ⟨l, b, xs, zs, rfl, rfl, hH, hB, hz, q⟩ := h
  cases rx
  obtain ⟨u, rfl, ru⟩ := rv.one
  cases ru
  obtain ⟨z, its, n, r, hl, e⟩ := I.lstM hH
  obtain ⟨z2, its2, n2, r2, hl2, e2⟩ := lstR I hB
  have hsz : its.toArray.size + its2.toArray.size ≤ sizeLine := by rw [List.size_toArray, List.size_toArray]; omega
  have hlong : ¬ (!its.toArray.isEmpty && Builtin.List.listTooLong (its.toArray.size + its2.toArray.size)) = true := by
    rw [notLongL hsz, Bool.and_false]
    exact Bool.false_ne_true
  refine call_meets F.slot_list_extend ⟨_, e, rfl⟩ F.entry_list_extend (F.args_list_extend_2 _ _)
    (AutoSeq1.list_extend_list_list_0 l its.toArray n b its2.toArray n2 hlong (by rw [List.size_toArray]; omega) (by omega)) ⟨e, e2, ?_⟩
  refine ⟨.non, _, I.lset (its' := its ++ its2) hH e (by simp) (r.append r2) ?_, rfl, q⟩
  rw [List.length_append]
  omega
def aAddL : DOp := fun d e C => match d, e with
  | .list xs, .list ys => xs.length + ys.length ≤ sizeLine ∧ C (.list (xs ++ ys))
  | d, e => aAdd d e C
theorem od_addL (nl : noListB X.K = true) : OpD W E X (binaryOp .Add) aAddL := by
  obtain ⟨r', o1, o2⟩ := od_add (W := W) (E := E) (X := X)
  refine ⟨_, DD.OpR.or op_catR o1, fun {F σ δ H x y d e Q C} R hx hy c k => ?_⟩
  unfold aAddL at c
  split at c
  · cases hx with
    | lst h1 a1 =>
      cases hy with
      | lst h2 a2 =>
        refine .inl ⟨_, _, _, _, rfl, rfl, rd_of nl (R.sto.sub.seq h1), rd_of nl (R.sto.sub.seq h2), by rw [a1.length, a2.length]; exact c.1, fun p np => ?_⟩
        obtain ⟨R2, s2⟩ := R.alloc (o := .lst _) np
        exact k _ _ _ _ R2 s2 (.lst (SqL.of upd_same) (Dp.monoAll s2.ext _ _ (a1.append a2))) c.2
  · exact .inr (o2 R hx hy c k)
/-- a display that holds objects of the store -/
def dLs (f : DTA) : DTE := fun δ C => f δ fun as δ1 => as.length ≤ sizeLine ∧ C (.sl δ1.m.length) ⟨δ1.s, δ1.m ++ [.ls as]⟩
theorem pd_ls {es : List Expr} {f : DTA} (h : PDA W E X es f) : PD W E X (.List es pos) (dLs f) := by
  obtain ⟨ta, p, q⟩ := h
  refine ⟨_, pe_lst p, fun {F σ δ H Q C} R c k => ?_⟩
  refine q R c fun as δ1 F1 H1 vs R1 s1 r1 c1 => ?_
  refine ⟨by rw [r1.length]; exact c1.1, fun p np => ?_⟩
  have sm : Same H1 (upd H1 p (.lst vs)) := fun b u e => by rw [upd_ne (ne_of_none e np)]; exact e
  have gp : (F1.g ++ [p])[δ1.m.length]? = some p := by
    rw [List.getElem?_append_right (by rw [R1.sto.glen]; exact Nat.le_refl _), R1.sto.glen, Nat.sub_self]; rfl
  have st : Stp F1 H1 ⟨F1.f, F1.g ++ [p]⟩ (upd H1 p (.lst vs)) := ⟨Same.refl _, ⟨[p], rfl, by simpa using np⟩, fun b u e => .inl e, fun b u e _ => sm b u e, fun b e => sm.free e⟩
  obtain ⟨R2, s2⟩ := R1.made (p := p) (o := .ls as) sm np rfl ⟨vs, upd_same, r1.step st⟩
  exact k (.sl δ1.m.length) _ _ _ _ R2 (s1.trans s2) ⟨p, gp, rfl⟩ c1.2
/-! ### xs.extend(data), xs.insert(0, e) -/
def extM (o : Mo) (xs : List PyData) : Mo := match o with
  | .fl ys => .fl (ys ++ xs)
  | .ls as => .ls (as ++ xs.map .val)
  | o => o
theorem extM_rep {l : Addr} {o : Mo} {xs : List PyData} {ws : List V} (h : MoRep K mg F H l o) (n : isL o = true) (r : DpAll K F.f ws xs) : ∃ vs, H l = some (.lst vs) ∧ vs.length = lenM o ∧ isL (extM o xs) = true ∧ MoRep K mg F (upd H l (.lst (vs ++ ws))) l (extM o xs) := by
  cases o with
  | fl ys => obtain ⟨vs, h1, h2⟩ := h; exact ⟨vs, h1, h2.length, rfl, _, upd_same, h2.append r⟩
  | ls as => obtain ⟨vs, h1, h2⟩ := h; exact ⟨vs, h1, h2.length, rfl, _, upd_same, h2.append (ArsRep.ofData r)⟩
  | _ => cases n
def dExt (fo f : DTE) : DTE := fun δ C => fo δ fun a δ1 => match a with
  | .sl i => guardB (isLi δ1 i) (f δ1 fun b δ2 => match rd δ2 b with
    | some (.list xs) => match δ2.m[i]? with
      | some o => guardB (isL o) (lenM o + xs.length ≤ sizeLine ∧ C (.val .none) (setM δ2 i (extM o xs)))
      | none => False
    | _ => False)
  | _ => False
theorem pd_extend {o e : Expr} {fo f : DTE} {apos cpos : Pos} (nl : noListB X.K = true) (ho : PD W E X o fo) (he : PD W E X e f)
    (hbase : attributeBase o "extend" X.env (eval o X.env) = eval o X.env := by rfl)
    (hfew : ((backTo cpos (starEach [e] X.env)).all (fun x => !x.1) && (backToKw cpos (keywordEach [] X.env)).all (fun x => x.1.isSome)
      && decide ([e].length + ([] : List Keyword).length + (if ([] : List Keyword).isEmpty then 0 else 1) < 30)) = true := by rfl)
    (hline : (apos.endLine == cpos.line) = true := by rfl) (hs : starEach [e] X.env = (false, eval e X.env) :: starEach [] X.env := by rfl) (hplain : (backTo cpos (starEach [] X.env)).any (·.1) = false := by rfl) :
    PD W E X (.Call (.Attribute o "extend" apos) [e] [] cpos) (dExt fo f) := by
  obtain ⟨te, p, q⟩ := ho
  obtain ⟨tf, p2, q2⟩ := he
  refine ⟨_, pe_bm PySem.F.plainAttrs_list PySem.F.slot_list_extend PySem.F.type_list_extend mt_extendR p (pa_cons p2 pa_nil hs) hbase hfew hline hs hplain, fun {F σ δ H Q C} R c k => ?_⟩
  refine q R c fun a δ1 F1 H1 v R1 s1 r1 c1 => ?_
  split at c1
  · rename_i i
    obtain ⟨gg, c1⟩ := guardB_iff.mp c1
    refine ⟨isSl R1 gg r1, q2 R1 c1 fun b δ2 F2 H2 w R2 s2 r2 c2 => ?_⟩
    clear gg
    split at c2
    · rename_i xs hx
      obtain ⟨p0, ws, rfl, h1, a1⟩ := listD_rep R2 r2 hx
      split at c2
      · rename_i o ho
        obtain ⟨n, hz, c3⟩ := guardB_iff.mp c2
        obtain ⟨l, e1, e2, e3⟩ := R2.sto.at ho (isL_live n)
        obtain ⟨l', g1, rfl⟩ := r1.step s2
        rw [e1] at g1
        cases g1
        obtain ⟨vs, b1, b2, b3, b4⟩ := extM_rep e3 n a1
        obtain ⟨R3, s3⟩ := R2.put (o' := extM o xs) (u := .lst (vs ++ ws)) ho (isL_live n) (isL_live b3) e1 (fun x => by intro z; cases z) b4
        exact ⟨l, p0, vs, ws, rfl, rfl, b1, rd_of nl h1, by rw [b2, a1.length]; exact hz, k (.val .none) _ _ _ _ R3 ((s1.trans s2).trans s3) Dp.non c3⟩
      · exact c2.elim
    · exact c2.elim
  · exact c1.elim
/-- xs.insert(0, data) -/
def insM (o : Mo) (d : PyData) : Mo := match o with
  | .fl ys => .fl (d :: ys)
  | .ls as => .ls (.val d :: as)
  | o => o
def dIns0 (fo f : DTE) : DTE := fun δ C => fo δ fun a δ1 => match a with
  | .sl i => guardB (isLi δ1 i) (f δ1 fun b δ2 => match b with
    | .val d => match δ2.m[i]? with
      | some o => guardB (isL o) (lenM o < sizeLine ∧ C (.val .none) (setM δ2 i (insM o d)))
      | none => False
    | _ => False)
  | _ => False
theorem pd_insert0 {o e : Expr} {fo f : DTE} {jj : Nat} {zp apos cpos : Pos} (ho : PD W E X o fo) (he : PD W E X e f)
    (hbase : attributeBase o "insert" X.env (eval o X.env) = eval o X.env := by rfl)
    (hfew : ((backTo cpos (starEach [.Constant (.int 0) jj zp, e] X.env)).all (fun x => !x.1) && (backToKw cpos (keywordEach [] X.env)).all (fun x => x.1.isSome)
      && decide ([Expr.Constant (.int 0) jj zp, e].length + ([] : List Keyword).length + (if ([] : List Keyword).isEmpty then 0 else 1) < 30)) = true := by rfl)
    (hline : (apos.endLine == cpos.line) = true := by rfl) (hs : starEach [.Constant (.int 0) jj zp, e] X.env = (false, eval (.Constant (.int 0) jj zp) X.env) :: starEach [e] X.env := by rfl) (hs2 : starEach [e] X.env = (false, eval e X.env) :: starEach [] X.env := by rfl) (hplain : (backTo cpos (starEach [e] X.env)).any (·.1) = false := by rfl) :
    PD W E X (.Call (.Attribute o "insert" apos) [.Constant (.int 0) jj zp, e] [] cpos) (dIns0 fo f) := by
  obtain ⟨te, p, q⟩ := ho
  obtain ⟨tf, p2, q2⟩ := he
  refine ⟨_, pe_bm PySem.F.plainAttrs_list PySem.F.slot_list_insert PySem.F.type_list_insert mt_insert p (pa_cons pe_int (pa_cons p2 pa_nil hs2) hs) hbase hfew hline hs hplain, fun {F σ δ H Q C} R c k => ?_⟩
  refine q R c fun a δ1 F1 H1 v R1 s1 r1 c1 => ?_
  split at c1
  · rename_i i
    obtain ⟨gg, c1⟩ := guardB_iff.mp c1
    refine ⟨isSl R1 gg r1, q2 R1 c1 fun b δ2 F2 H2 w R2 s2 r2 c2 => ?_⟩
    clear gg
    split at c2
    · rename_i d
      split at c2
      · rename_i o ho
        obtain ⟨n, hz, c3⟩ := guardB_iff.mp c2
        obtain ⟨l, e1, e2, e3⟩ := R2.sto.at ho (isL_live n)
        obtain ⟨l', g1, rfl⟩ := r1.step s2
        rw [e1] at g1
        cases g1
        have fin : ∀ vs, H2 l = some (.lst vs) → vs.length = lenM o → MoRep X.K X.mg F2 (upd H2 l (.lst (w :: vs))) l (insM o d) → isL (insM o d) = true → _ := fun vs h1 h2 h3 h4 => by
          obtain ⟨R3, s3⟩ := R2.put (o' := insM o d) (u := .lst (w :: vs)) ho (isL_live n) (isL_live h4) e1 (fun x => by intro z; cases z) h3
          exact (⟨l, vs, 0, w, rfl, rfl, h1, by rw [h2]; exact hz, by decide, by decide, k (.val .none) _ _ _ _ R3 ((s1.trans s2).trans s3) Dp.non c3⟩ : ∃ (l' : Addr) (xs : List V) (i : Int) (y : V), V.ref l = .ref l' ∧ [V.int 0, w] = [.int i, y] ∧ H2 l' = some (.lst xs) ∧ xs.length < sizeLine ∧ 0 ≤ i ∧ i < 2 ^ 63 ∧ Q .non (upd H2 l' (.lst (xs.take i.toNat ++ [y] ++ xs.drop i.toNat))))
        cases o with
        | fl ys => obtain ⟨vs, h1, h2⟩ := e3; exact fin vs h1 h2.length ⟨_, upd_same, .cons r2 h2⟩ rfl
        | ls as => obtain ⟨vs, h1, h2⟩ := e3; exact fin vs h1 h2.length ⟨_, upd_same, r2, h2⟩ rfl
        | _ => cases n
      · exact c2.elim
    · exact c2.elim
  · exact c1.elim
end
end MM

namespace MM
open PySem PySem.Spec PyProof.Rows L2
section
variable {W : WX} {E : EW} {mg : Str → Option Value} {X : Cx} {K : PySem.W.Frag} {F : Fg} {H : Hp} {σ : L2.St} {δ : DSt} {pos : Pos}
/-! ### xs[::-1] -/
def dRevN (f : DTE) : DSt → (List PyData → DSt → Prop) → Prop := fun δ C => f δ fun a δ1 => match rd δ1 a with
  | some (.list xs) => C xs.reverse δ1
  | _ => False
theorem pdn_rev {e : Expr} {f : DTE} {k : Nat} {p1 p2 p3 : Pos} (he : PD W E X e f) : PDN W E X (.Subscript e (.Slice none none (some (.UnaryOp .USub (.Constant (.int 1) k p1) p2)) p3) pos) (dRevN f) := by
  obtain ⟨te, p, q⟩ := he
  refine ⟨_, pe_revL p, fun {F σ δ H Q C} R c k => ?_⟩
  refine q R c fun a δ1 F1 H1 v R1 s1 r1 c1 => ?_
  split at c1
  · rename_i xs hx
    obtain ⟨p0, vs, rfl, h1, a1⟩ := listD_rep R1 r1 hx
    refine ⟨_, _, rfl, h1, fun p np => ?_⟩
    obtain ⟨R2, s2, nF, nO⟩ := R1.fresh (o := .lst vs.reverse) np
    exact k _ _ _ _ p _ R2 (s1.trans s2) nF (s1.dom _ np) nO upd_same a1.reverse c1
  · exact c1.elim
/-! ### all, any -/
def boolsD : List PyData → Option (List Bool)
  | [] => some []
  | .bool b :: ds => match boolsD ds with
    | some bs => some (b :: bs)
    | none => none
  | _ :: _ => none
theorem boolsD_eq : ∀ {ds : List PyData} {bs : List Bool}, boolsD ds = some bs → ds = bs.map PyData.bool
  | [], bs, h => by cases h; rfl
  | d :: ds, bs, h => by
    cases d with
    | bool b =>
      unfold boolsD at h
      split at h
      · cases h
        rename_i zs hz
        rw [boolsD_eq hz]
        rfl
      · cases h
    | _ => cases h
theorem boolsD_map : ∀ bs : List Bool, boolsD (bs.map PyData.bool) = some bs
  | [] => rfl
  | b :: bs => by
    show (match boolsD (bs.map PyData.bool) with | some zs => some (b :: zs) | none => none) = _
    rw [boolsD_map bs]
theorem ofBools {G : Hp} : ∀ {vs : List V} {bs : List Bool}, DpAll K G vs (bs.map PyData.bool) → vs = bs.map V.bl
  | vs, [], h => by cases h; rfl
  | vs, b :: bs, h => by
    cases h with
    | cons h1 h2 =>
      cases h1
      rw [ofBools h2]
      rfl
def fAll : DCl := fun δ as C => match as with
  | [a] => match rd δ a with
    | some (.list xs) => match boolsD xs with
      | some bs => C (.bool (bs.all id))
      | none => False
    | _ => False
  | _ => False
theorem cd_all (hc : X.calm = true) : CallD W E X (.builtin "all") fAll := by
  refine ⟨_, cr_all hc, fun {F σ δ H vs as Q C} R r c k => ?_⟩
  unfold fAll at c
  split at c
  · obtain ⟨v, rfl, r1⟩ := arsRep1 r
    split at c
    · rename_i xs hx
      split at c
      · rename_i bs hb
        obtain ⟨p0, vs, rfl, h1, a1⟩ := listD_rep R r1 hx
        rw [boolsD_eq hb] at a1
        rw [ofBools a1] at h1
        exact ⟨_, bs, rfl, h1, k (.bool _) _ _ _ R .refl (Dp.bl _) c⟩
      · exact c.elim
    · exact c.elim
  · exact c.elim
/-! ### a dict of the module whose keys are texts -/
/-- what it holds -/
structure TabF (K : PySem.W.Frag) (w : World) (mg : Str → Option Value) (x : Str) (tab : Str → Option PyData) : Prop where
  ex : ∃ d es n, mg x = some (.ref d) ∧ KDict K w d es n ∧ ∀ z, match tab z with
    | some y => ∃ u v, PySem.W.nsIn K d z = some (some u) ∧ RelV v u ∧ ∀ G, Dp K G v y
    | none => PySem.W.nsIn K d z = some none
def dTabIn (neg : Bool) (tab : Str → Option PyData) (f : DTE) : DTT := fun δ C => f δ fun a δ1 => match a with
  | .val (.str z) => C (if neg then !(tab z).isSome else (tab z).isSome) δ1
  | _ => False
theorem pdt_tabIn {x : Str} {a : Expr} {p2 : Pos} {tab : Str → Option PyData} {f : DTE} (T : TabF X.K X.w X.mg x tab) (hg : Gl X x) (ha : PD W E X a f) (hd : (x == ("__debug__" : Str)) = false := by decide) (hm : behindInMarks .In (.Name x p2) = false := by first | exact nomark _ | rfl) : PDT W E X (.Compare a [.In] [.Name x p2] pos) (dTabIn false tab f) := by
  obtain ⟨te, p, q⟩ := ha
  obtain ⟨d, es, n, t1, t2, t3⟩ := T
  refine ⟨_, pt_cmpR (op_in_kd t2) p (pe_glob (v := .ref d) hg t1 rfl hd) hm, fun {F σ δ H Q C} R c k => ?_⟩
  refine q R c fun a δ1 F1 H1 v R1 s1 r1 c1 => ?_
  split at c1
  · rename_i z
    cases (show Dp X.K F1.f v (.str z) from r1)
    have t := t3 z
    cases hz : tab z with
    | none =>
      rw [hz] at t c1
      exact ⟨z, none, rfl, rfl, t, false, rfl, k _ _ _ _ R1 s1 c1⟩
    | some y =>
      rw [hz] at t c1
      obtain ⟨u, v, e1, _⟩ := t
      exact ⟨z, some u, rfl, rfl, e1, true, rfl, k _ _ _ _ R1 s1 c1⟩
  · exact c1.elim
end
/-! ### one def, by name: its promise -/
structure Ok (P : Program) (w : World) (K : PySem.W.Frag) (mg : Str → Option Value) (base : Heap) (x : Str) (k : Nat) (ps : List Str) (d : DSp) : Prop where
  ex : ∃ (f : Addr) (fd : FuncData), mg x = some (.ref f) ∧ PySem.W.keepIn K (.ref f) = true ∧ Binds K fd ps [] ∧ FnOk P w K mg base (L2.CX P w) k f fd ps (lift K mg d)
structure OkK (P : Program) (w : World) (K : PySem.W.Frag) (mg : Str → Option Value) (base : Heap) (x : Str) (k : Nat) (ps : List Str) (d : DSp) : Prop where
  ex : ∃ (f : Addr) (fd : FuncData), mg x = some (.ref f) ∧ PySem.W.keepIn K (.ref f) = true ∧ (∀ (s : Shared) (us : List Value), K.In s.heap → us.length = ps.length → BindsTo s fd ⟨[], ps.zip us⟩ (ps.zip us)) ∧ FnOk P w K mg base (L2.CX P w) k f fd ps (lift K mg d)
section
variable {W : WX} {E : EW} {X : Cx} {ps : List Str} {k m : Nat} {x : Str} {p pos : Pos} {e : Expr} {es : List Expr} {d : DSp} {g : DTA}
theorem pc_ok (G : Ok X.prog X.w X.K X.mg X.base x k ps d) (hr : Room m X.A) (hg : Gl X x) (hkm : k ≤ m)
    (ha : PDA W E X (e :: es) g) (hdb : (x == ("__debug__" : Str)) = false := by decide) (he : starEach (e :: es) X.env = (false, eval e X.env) :: starEach es X.env := by rfl) (hpl : (backTo pos (starEach es X.env)).any (·.1) = false := by rfl) :
    PD W E X (.Call (.Name x p) (e :: es) [] pos) (dCall d g) := by
  obtain ⟨f, fd, hm, hk, hb, G⟩ := G
  exact pd_call G (hr.mono hkm) hg hm hk hb ha hdb he hpl
theorem pcG_ok (G : Ok X.prog X.w X.K X.mg X.base x k ps d) (hr : Room m X.A) (hg : Gl X x) (hkm : k ≤ m)
    (ha : PDA W E X (e :: es) g) (hdb : (x == ("__debug__" : Str)) = false := by decide) (he : starEach (e :: es) X.env = (false, eval e X.env) :: starEach es X.env := by rfl) (hpl : (backTo pos (starEach es X.env)).any (·.1) = false := by rfl) :
    PD W E X (.Call (.Name x p) (e :: es) [] pos) (dCallG d g) := by
  obtain ⟨f, fd, hm, hk, hb, G⟩ := G
  exact pd_callG G (hr.mono hkm) hg hm hk hb ha hdb he hpl
theorem pcX_ok (G : Ok X.prog X.w X.K X.mg X.base x k ps d) (tk : Takes X W) (hr : Room m X.A) (hg : Gl X x) (hkm : k ≤ m)
    (ha : PDA W E X (e :: es) g) (hdb : (x == ("__debug__" : Str)) = false := by decide) (he : starEach (e :: es) X.env = (false, eval e X.env) :: starEach es X.env := by rfl) (hpl : (backTo pos (starEach es X.env)).any (·.1) = false := by rfl) :
    PD W E X (.Call (.Name x p) (e :: es) [] pos) (dCallX E d g) := by
  obtain ⟨f, fd, hm, hk, hb, G⟩ := G
  exact pd_callX G tk (hr.mono hkm) hg hm hk hb ha hdb he hpl
theorem pc_ok0 (G : Ok X.prog X.w X.K X.mg X.base x k ps d) (hr : Room m X.A) (hg : Gl X x) (hkm : k ≤ m) (hdb : (x == ("__debug__" : Str)) = false := by decide) : PD W E X (.Call (.Name x p) [] [] pos) (dCall d dNil) := by
  obtain ⟨f, fd, hm, hk, hb, G⟩ := G
  exact pd_call0 G (hr.mono hkm) hg hm hk hb hdb
theorem pck_ok {kws : List Keyword} (G : OkK X.prog X.w X.K X.mg X.base x k ps d) (hr : Room m X.A) (hg : Gl X x) (hkm : k ≤ m) (hkw : PDK W E X kws g)
    (hall : (backToKw pos (keywordEach kws X.env)).all (·.1.isSome) = true := by rfl) (hks : (backToKw pos (keywordEach kws X.env)).filterMap (·.1) = ps := by rfl) (hdb : (x == ("__debug__" : Str)) = false := by decide)
    (hpl : ((backTo pos (starEach [] X.env)).any (·.1) || (backToKw pos (keywordEach kws X.env)).any (·.1.isNone)) = false := by rfl) :
    PD W E X (.Call (.Name x p) [] kws pos) (dCall d g) := by
  obtain ⟨f, fd, hm, hk, hb, G⟩ := G
  exact pd_callK G (hr.mono hkm) hg hm hk hb hkw hall hks hdb hpl
end
section
variable {P : Program} {w : World} {K : PySem.W.Frag} {mg : Str → Option Value} {base : Heap}
theorem ok_mk {x : Str} {st : Stmt} {N ps : List Str} {k : Nat} {d : DSp} {g : EW → DTS} (D : DD.DefAt K mg x st) (S : FnScope N ps (defScope st)) (len : ∀ as m C Ex, d as m C Ex → as.length = ps.length)
    (hb : ∀ (kV doc pm : Value) (an : Option Addr) (cdv ct : Value) (us : List Value), us.length = ps.length → bindArgs (PySem.W.fnOf x x (defArgs st) (defBody st) (defScope st) .none kV doc pm an cdv ct) ⟨us, []⟩ = pure (ps.zip us))
    (hbody : ∀ (f : Addr) (cdv : Value) (A : Around) (outer : List Env) (s : Shared) (H : Hp) (E : XK) (W : WX) (V : EW), Room k (A.deeper (envOfC x (defScope st) s.heap.objs.size f cdv)) → Takes (cxOf (L2.CX P w) P w K mg base N x (defScope st) f cdv A outer s H E) W →
      SDs W V (cxOf (L2.CX P w) P w K mg base N x (defScope st) f cdv A outer s H E) (defBody st) (g V))
    (law : ∀ as m C Ex, d as m C Ex → g (exE m.length Ex) (endsD m.length C) (startD N as m)) : Ok P w K mg base x (k + 1) ps d := by
  obtain ⟨f, fd, hm, F⟩ := D
  exact ⟨f, fd, hm, F.kp, F.binds hb, fn_mm F S len (hbody f) law⟩
theorem okk_mk {x : Str} {st : Stmt} {N ps : List Str} {k : Nat} {d : DSp} {g : EW → DTS} (D : DD.DefAt K mg x st) (S : FnScope N ps (defScope st)) (len : ∀ as m C Ex, d as m C Ex → as.length = ps.length)
    (hb : ∀ (kV doc pm : Value) (an : Option Addr) (cdv ct : Value) (us : List Value), us.length = ps.length → bindArgs (PySem.W.fnOf x x (defArgs st) (defBody st) (defScope st) .none kV doc pm an cdv ct) ⟨[], ps.zip us⟩ = pure (ps.zip us))
    (hbody : ∀ (f : Addr) (cdv : Value) (A : Around) (outer : List Env) (s : Shared) (H : Hp) (E : XK) (W : WX) (V : EW), Room k (A.deeper (envOfC x (defScope st) s.heap.objs.size f cdv)) → Takes (cxOf (L2.CX P w) P w K mg base N x (defScope st) f cdv A outer s H E) W →
      SDs W V (cxOf (L2.CX P w) P w K mg base N x (defScope st) f cdv A outer s H E) (defBody st) (g V))
    (law : ∀ as m C Ex, d as m C Ex → g (exE m.length Ex) (endsD m.length C) (startD N as m)) : OkK P w K mg base x (k + 1) ps d := by
  obtain ⟨f, fd, hm, F⟩ := D
  have G := fn_mm F S len (hbody f) law
  obtain ⟨oc, od, kV, doc, pm, an, cdv, ct, osl, rfl, lk, hcd⟩ := F.ex
  exact ⟨f, _, hm, F.kp, fun s us _ hl => .of_eq (hb kV doc pm an cdv ct us hl), G⟩
/-- a method of a class of the module -/
structure MethAt (K : PySem.W.Frag) (mg : Str → Option Value) (c m qual : Str) (st : Stmt) : Prop where
  ex : ∃ (C f : Addr) (fd : FuncData), mg c = some (.ref C) ∧ Cls K C ∧ Meth K C m f ∧ Fun K m qual st f fd
theorem meth_mk {c x qual : Str} {st : Stmt} {N ps : List Str} {k : Nat} {d : DSp} {g : EW → DTS} (D : MethAt K mg c x qual st) (S : FnScope N ps (defScope st)) (len : ∀ as m C Ex, d as m C Ex → as.length = ps.length)
    (hb : ∀ (kV doc pm : Value) (an : Option Addr) (cdv ct : Value) (us : List Value), us.length = ps.length → bindArgs (PySem.W.fnOf x qual (defArgs st) (defBody st) (defScope st) .none kV doc pm an cdv ct) ⟨us, []⟩ = pure (ps.zip us))
    (hbody : ∀ (f : Addr) (cdv : Value) (A : Around) (outer : List Env) (s : Shared) (H : Hp) (E : XK) (W : WX) (V : EW), Room k (A.deeper (envOfC qual (defScope st) s.heap.objs.size f cdv)) → Takes (cxOf (L2.CX P w) P w K mg base N qual (defScope st) f cdv A outer s H E) W →
      SDs W V (cxOf (L2.CX P w) P w K mg base N qual (defScope st) f cdv A outer s H E) (defBody st) (g V))
    (law : ∀ as m C Ex, d as m C Ex → g (exE m.length Ex) (endsD m.length C) (startD N as m)) : MethOk P w K mg base c x (k + 1) ps d := by
  obtain ⟨C, f, fd, hm, hc, hM, F⟩ := D
  exact ⟨C, f, fd, hm, hc, hM, F.binds hb, fn_mm F S len (hbody f) law⟩
/-- .. its __init__ -/
structure InitAt (K : PySem.W.Frag) (mg : Str → Option Value) (c qual : Str) (st : Stmt) : Prop where
  ex : ∃ (C f : Addr) (fd : FuncData), mg c = some (.ref C) ∧ Mk K C f ∧ Fun K "__init__" qual st f fd
theorem make_mk {c qual : Str} {st : Stmt} {N ps : List Str} {k : Nat} {d : DSp} {g : EW → DTS} (D : InitAt K mg c qual st) (S : FnScope N ps (defScope st)) (len : ∀ as m C Ex, d as m C Ex → as.length = ps.length)
    (hb : ∀ (kV doc pm : Value) (an : Option Addr) (cdv ct : Value) (us : List Value), us.length = ps.length → bindArgs (PySem.W.fnOf "__init__" qual (defArgs st) (defBody st) (defScope st) .none kV doc pm an cdv ct) ⟨us, []⟩ = pure (ps.zip us))
    (hbody : ∀ (f : Addr) (cdv : Value) (A : Around) (outer : List Env) (s : Shared) (H : Hp) (E : XK) (W : WX) (V : EW), Room k (A.deeper (envOfC qual (defScope st) s.heap.objs.size f cdv)) → Takes (cxOf (L2.CX P w) P w K mg base N qual (defScope st) f cdv A outer s H E) W →
      SDs W V (cxOf (L2.CX P w) P w K mg base N qual (defScope st) f cdv A outer s H E) (defBody st) (g V))
    (law : ∀ as m C Ex, d as m C Ex → g (exE m.length Ex) (endsD m.length C) (startD N as m)) : MakeOk P w K mg base c (k + 1) ps d := by
  obtain ⟨C, f, fd, hm, hM, F⟩ := D
  exact ⟨C, f, fd, hm, hM, F.binds hb, fn_mm F S len (hbody f) law⟩
/-- no exception leaves: the promise in the law's end -/
theorem FnOk.calm {k : Nat} {f : Addr} {fd : FuncData} {ps : List Str} {sp : Sp} (G : FnOk P w K mg base (L2.CX P w) k f fd ps sp) : FnOk P w K mg base CX0 k f fd ps (fun vs H Q _ => sp vs H Q E0) := by
  refine ⟨fun vs H Q E h => G.len vs H Q E0 h, fun A outer s H args us vs Q E hr e0 hb hv hs => codeAny_mono (G.run A outer s H args us vs Q E0 hr e0 hb hv hs) fun r s' hq => ?_⟩
  cases r with
  | error e =>
    obtain ⟨a, B, H', cls, d, _, _, _, _, _, _, _, h⟩ := (show L2.CX P w outer H s E0 e s' from hq)
    exact h.elim
  | ok fl =>
    cases fl with
    | ret u => exact hq
    | _ => exact (show False from hq).elim
/-- the goal that k_head leaves, from the law's promise -/
theorem walk_X {l : PySem.W.OpenLaw} {n k : Nat} {q : Program} {loose : List Str} {XP : (Str → Option Value) → Heap → Prop} {YP : World → Heap → Prop} {d : DefRec} {K : Params → PySem.W.Frag} {sp : DSp} {x : Str}
    (hn : l.most = some n) (hn2 : n ≤ sizeLine) (hdf : d.params.defaults = []) (hr : Room k callerA)
    (hY : ∀ (w : World) (h : Heap), YP w h → (K w.params).In h)
    (F : ∀ (w : World) (mg : Str → Option Value) (fa : Addr) (h : Heap), (K w.params).In h → h.Ns mainGlobals mg → XP mg h → mg d.name = some (.ref fa) →
      ∃ fd : FuncData, (∀ (s : Shared) (u : Value), BindsTo s fd ⟨[u], []⟩ [(x, u)]) ∧
        ∀ base : Heap, (K w.params).In base → base.Ns mainGlobals mg → FnOk l.prog w (K w.params) mg base (L2.CX l.prog w) k fa fd [x] (lift (K w.params) mg sp))
    (hsp : ∀ ns : List Int, ns.length ≤ n → sp [.val (.list (ns.map PyData.int))] [] (fun r _ => r = .val (.bool true)) fun _ _ => False) :
    PySem.W.WalkO q loose XP YP l.row.toRowW d [] (fun f vs => PySem.call f vs) := by
  refine Att.attach_call hn hdf fun w s0 s1 mg mb fa o pm cd doc a vs ns G Y ho hd hcd hmg hobj hints hlen hg => ?_
  have KX := hY w _ Y
  obtain ⟨fd, hb, hF⟩ := F w mg fa _ KX G.T.g G.X hmg
  have hF := fun base (h1 : (K w.params).In base) h2 => FnOk.calm (hF base h1 h2)
  refine law_call KX G.T.g G.T.b G.T.builtins G.T.nolimit hg hobj hints (Nat.le_trans hlen hn2) hr hF hb (fun H hO hS => ?_) fun _ _ _ h => h.elim
  refine ⟨⟨H, []⟩, [.val (.list (ns.map PyData.int))], [], _, _, ⟨.lst hS (DpAll.ints ns), trivial⟩, ⟨Same.refl _, rfl, fun i o h => by simp at h, fun i j l oi oj h => by simp at h⟩, hsp ns hlen, fun r m' F' H' v S t rr e => ?_, fun x Cc dd m' F' H' S t hm he => he.elim⟩
  subst e
  cases (show Dp _ F'.f v (.bool true) from rr)
  rfl
end
end MM

namespace MM
open PySem PySem.Spec PyProof.Rows L2
/-! ### how a body is read -/
/-- one statement, then P -/
theorem seq_cut {g h : DTS} {D : DEnds} {δ : DSt} (P : DSt → Prop) (k : ∀ N : DSt → Prop, (∀ δ', P δ' → N δ') → g { D with nx := N } δ) (tail : ∀ δ', P δ' → h D δ') : dSeq g h D δ := k (h D) tail
/-- a loop over data; the guard is none -/
theorem forL_inv {g : DTG} {b : DTS} {D : DEnds} (P : List Ar → DSt → Prop)
    (step : ∀ d ds δ, P (d :: ds) δ → ∀ N : DSt → Prop, (∀ δ', P ds δ' → N δ') → g d δ fun δ1 => b { nx := N, ct := N, bk := D.nx, rt := D.rt } δ1)
    (fin : ∀ δ, P [] δ → D.nx δ) : ∀ its δ, P its δ → dForL g b none its D δ
  | [], δ, h => fin δ h
  | d :: ds, δ, h => step d ds δ h _ fun δ' h' => forL_inv P step fin ds δ' h'
/-- a loop over a list of the store, which is o all the while -/
theorem forS_inv {g : DTG} {b : DTS} {D : DEnds} {i : Nat} {o : Mo} (P : List Ar → DSt → Prop)
    (step : ∀ d ds δ, P (d :: ds) δ → ∀ N : DSt → Prop, (∀ δ', δ'.m[i]? = some o → P ds δ' → N δ') → g d δ fun δ1 => b { nx := N, ct := N, bk := D.nx, rt := D.rt } δ1)
    (fin : ∀ δ, P [] δ → D.nx δ) : ∀ its δ, P its δ → dForL g b (some (i, o)) its D δ
  | [], δ, h => fin δ h
  | d :: ds, δ, h => step d ds δ h _ fun δ' hg h' => ⟨hg, forS_inv P step fin ds δ' h'⟩
theorem rangeD_at {lo : Int} {n k : Nat} (h : k < (rangeD lo n).length) : (rangeD lo n)[k] = .val (.int (lo + (k : Nat))) := by
  have e : (rangeD lo n)[k]? = some (.val (.int (lo + (k : Nat)))) := by
    have hk : k < n := by
      have := h
      unfold rangeD at this
      simpa using this
    unfold rangeD
    rw [List.getElem?_map, List.getElem?_range hk]
    rfl
  rw [List.getElem?_eq_getElem h] at e
  exact Option.some.inj e
/-- over the ints from lo on, n of them; P by the number of turns that are done -/
theorem forR_inv {g : DTG} {b : DTS} {D : DEnds} (lo : Int) (n : Nat) (P : Nat → DSt → Prop)
    (step : ∀ (k : Nat) δ, k < n → P k δ → ∀ N : DSt → Prop, (∀ δ', P (k + 1) δ' → N δ') → g (.val (.int (lo + (k : Nat)))) δ fun δ1 => b { nx := N, ct := N, bk := D.nx, rt := D.rt } δ1)
    (fin : ∀ δ, P n δ → D.nx δ) {δ : DSt} (h : P 0 δ) : dForL g b none (rangeD lo n) D δ := by
  have key : ∀ m k δ, k + m = n → P k δ → dForL g b none ((rangeD lo n).drop k) D δ := by
    intro m
    induction m with
    | zero =>
      intro k δ e h
      have : (rangeD lo n).length ≤ k := by unfold rangeD; simp; omega
      rw [List.drop_eq_nil_of_le this]
      have e : k = n := by omega
      subst e
      exact fin δ h
    | succ m ih =>
      intro k δ e h
      have hk : k < n := by omega
      have hl : k < (rangeD lo n).length := by unfold rangeD; simp; exact hk
      rw [List.drop_eq_getElem_cons hl]
      have e2 : (rangeD lo n)[k] = .val (.int (lo + (k : Nat))) := rangeD_at hl
      rw [e2]
      exact step k δ hk h _ fun δ' h' => ih (k + 1) δ' (by omega) h'
  have := key n 0 δ (by omega) h
  rw [List.drop_zero] at this
  exact this
theorem while_inv {c : DTT} {b : DTS} {D : DEnds} (P : Nat → DSt → Prop)
    (step : ∀ n δ, P n δ → ∀ N : DSt → Prop, (∀ m δ', m < n → P m δ' → N δ') → c δ fun t δ1 => (t = true → b { nx := N, ct := N, bk := D.nx, rt := D.rt } δ1) ∧ (t = false → D.nx δ1))
    {n : Nat} {δ : DSt} (h : P n δ) : dWhile c b D δ := by
  have key : ∀ f n δ, n + 1 ≤ f → P n δ → dWhileN c b f D δ := by
    intro f
    induction f with
    | zero => intro n δ e _; omega
    | succ f ih => intro n δ e h; exact step n δ h _ fun m δ' hm h' => ih m δ' (by omega) h'
  exact ⟨n + 1, key _ n δ (Nat.le_refl _) h⟩
/-- a comprehension over data -/
theorem lcL_inv {g : DTG} {tt : DTT} {te : DTE} {vs : List Nat} {C : List PyData → DSt → Prop} (P : List Ar → List PyData → DSt → Prop)
    (step : ∀ d ds acc δ, P (d :: ds) acc δ → ∀ N : List PyData → DSt → Prop, (∀ acc' δ', P ds acc' δ' → N acc' δ') → g d (wipeD δ vs) fun δ2 => tt δ2 fun b δ3 => (b = true → te δ3 fun a δ4 => match a with
      | .val y => acc.length < sizeLine ∧ N (acc ++ [y]) (restD δ δ4 vs)
      | _ => False) ∧ (b = false → N acc (restD δ δ3 vs)))
    (fin : ∀ acc δ, P [] acc δ → C acc δ) : ∀ its acc δ, P its acc δ → dLcL g tt te vs none its acc δ C
  | [], acc, δ, h => fin acc δ h
  | d :: ds, acc, δ, h => step d ds acc δ h (fun acc' δ' => dLcL g tt te vs none ds acc' δ' C) fun acc' δ' h' => lcL_inv P step fin ds acc' δ' h'
theorem lcR_inv {g : DTG} {tt : DTT} {te : DTE} {vs : List Nat} {C : List PyData → DSt → Prop} (lo : Int) (n : Nat) (P : Nat → List PyData → DSt → Prop)
    (step : ∀ (k : Nat) acc δ, k < n → P k acc δ → ∀ N : List PyData → DSt → Prop, (∀ acc' δ', P (k + 1) acc' δ' → N acc' δ') → g (.val (.int (lo + (k : Nat)))) (wipeD δ vs) fun δ2 => tt δ2 fun b δ3 => (b = true → te δ3 fun a δ4 => match a with
      | .val y => acc.length < sizeLine ∧ N (acc ++ [y]) (restD δ δ4 vs)
      | _ => False) ∧ (b = false → N acc (restD δ δ3 vs)))
    (fin : ∀ acc δ, P n acc δ → C acc δ) {δ : DSt} (h : P 0 [] δ) : dLcL g tt te vs none (rangeD lo n) [] δ C := by
  have key : ∀ m k acc δ, k + m = n → P k acc δ → dLcL g tt te vs none ((rangeD lo n).drop k) acc δ C := by
    intro m
    induction m with
    | zero =>
      intro k acc δ e h
      have : (rangeD lo n).length ≤ k := by unfold rangeD; simp; omega
      rw [List.drop_eq_nil_of_le this]
      have e : k = n := by omega
      subst e
      exact fin acc δ h
    | succ m ih =>
      intro k acc δ e h
      have hk : k < n := by omega
      have hl : k < (rangeD lo n).length := by unfold rangeD; simp; exact hk
      rw [List.drop_eq_getElem_cons hl]
      have e2 : (rangeD lo n)[k] = .val (.int (lo + (k : Nat))) := rangeD_at hl
      rw [e2]
      exact step k acc δ hk h (fun acc' δ' => dLcL g tt te vs none ((rangeD lo n).drop (k + 1)) acc' δ' C) fun acc' δ' h' => ih (k + 1) acc' δ' (by omega) h'
  have := key n 0 [] δ (by omega) h
  rw [List.drop_zero] at this
  exact this
end MM

namespace MM
open PySem PySem.Spec PyProof.Rows L2
/-! ### enumerate(t), t a tuple -/
set_option maxHeartbeats 1000000 in
theorem meets_enum1 {v : Value} {o : Obj} {H : Heap → Prop} (B : Begins v o H) :
    Meets (Builtin.«enumerate.__new__» ⟨[.type "enumerate", v], []⟩) (fun _ R s => H s.heap ∧
      R (.ok (.ret (.ref (s.heap.push o).objs.size))) { s with heap := (s.heap.push o).push { cls := .type "enumerate", data := .fields #[.none, .bool false, .ref s.heap.objs.size, rawInt 0, .none, .none] } }) :=
  .of_wp fun prog w A R s h => by
    obtain ⟨hp, g, d, tk, os⟩ := s; obtain ⟨h1, h⟩ := h
    have hsub := sub_enumerate
    have q1 : ∀ {A' : Around} {E : Value → Shared → Prop} {Q : Value → Shared → Prop}, Q (.ref hp.objs.size) ⟨hp.push o, g, d, tk, os⟩ → wpAny (model prog w) A' (pyIter v) Q E ⟨hp, g, d, tk, os⟩ :=
      fun q => B.iter prog w _ _ ⟨hp, g, d, tk, os⟩ _ h1 q
    wp_walk
    refine wpAny_stack_any fun st => wpAny_pure ?_
    split
    · rename_i c _ _ _ _ _
      cases (c == Value.type "enumerate")
      · wp_walk using q1
        exact ⟨_, rfl, h⟩
      · wp_walk using q1
        exact ⟨_, rfl, h⟩
    · wp_walk using q1
      exact ⟨_, rfl, h⟩
theorem call_enum1 {prog : Program} {w : World} {A : Around} {E : Value → Shared → Prop} {s : Shared} {v : Value} {o : Obj} {H : Heap → Prop} {Q : Value → Shared → Prop} (B : Begins v o H) (h1 : H s.heap)
    (h : ∀ h', IsEnum h' (s.heap.objs.size + 1) s.heap.objs.size 0 .none → h'.get? s.heap.objs.size = some o → h'.objs.size = s.heap.objs.size + 2 →
      (∀ b o, s.heap.get? b = some o → h'.get? b = some o) → Q (.ref (s.heap.objs.size + 1)) { s with heap := h' }) :
    wpAny (model prog w) A (call (.type "enumerate") [v]) Q E s := by
  refine callType_new F.called_enumerate (by decide) (F.typeCall_enumerate_1 _) (F.newCall_enumerate_1 _) (fun obj => F.args_object_init_2 obj _) F.entry_enumerate_new
    (meets_enum1 B) ⟨h1, ?_⟩
  have hz : (s.heap.push o).objs.size = s.heap.objs.size + 1 := Heap.size_push ..
  show _ ∧ _
  rw [hz]
  have he : IsEnum ((s.heap.push o).push { cls := .type "enumerate", data := .fields #[.none, .bool false, .ref s.heap.objs.size, rawInt 0, .none, .none] }) (s.heap.objs.size + 1) s.heap.objs.size 0 .none := by
    have := Heap.get?_push_size (s.heap.push o) (o := { cls := .type "enumerate", data := .fields #[.none, .bool false, .ref s.heap.objs.size, rawInt 0, .none, .none] }) rfl
    rw [hz] at this; exact this
  refine ⟨⟨_, he, rfl⟩, h _ he (Heap.get?_push_of_some _ (Heap.get?_push_size _ B.free)) (by rw [Heap.size_push, hz]) fun b o x => Heap.get?_push_of_some _ (Heap.get?_push_of_some _ x)⟩
def IteT (K : PySem.W.Frag) (a : Addr) : It :=
  ⟨fun i H => ∃ (xs : List V) (x : V), SqT K H a xs ∧ xs[i]? = some x, fun i H v H' => ∃ T x, v = .ref T ∧ H T = none ∧ H' = upd H T (.tup [.int (i : Nat), x]) ∧ ∀ xs, SqT K H a xs → xs[i]? = some x, fun i H => ∃ xs : List V, SqT K H a xs ∧ xs.length ≤ i⟩
theorem turn_enumT {P : Program} {w : World} {K : PySem.W.Frag} {elts : List Expr} {kk : Nat} {tpos : Pos} (a e it : Addr) :
    Turn P w K (.Tuple elts kk tpos) (IteT K a) [e, it] e (fun i h => (∃ old, IsEnum h e it ((i : Nat) : Int) old) ∧ h.IsTupleIter it a i ∧ e ≠ it) where
  mem := by simp
  obj := fun i h st b hb => by
    obtain ⟨⟨old, he⟩, ⟨o, ho, hc, hd⟩, _⟩ := st
    have e' : b = e ∨ b = it := by simpa using hb
    rcases e' with z | z
    · rw [z]; exact ⟨_, he, fun v q => nomatch q⟩
    · rw [z]; exact ⟨o, ho, fun v q => by rw [hd] at q; cases q⟩
  keep := fun i h h' st k => let ⟨⟨old, he⟩, hi, hne⟩ := st; ⟨⟨old, k e (by simp) _ he⟩, hi.at fun o q => k it (by simp) o q, hne⟩
  item := by
    intro X hP hw hK hc i pins s σ H E I hf st hg
    subst hP hw hK
    obtain ⟨⟨old, he⟩, hit, hne⟩ := st
    obtain ⟨xs, x, hq, hx⟩ := hg
    obtain ⟨its, rv, p, hz⟩ := I.tuple hq
    obtain ⟨u, hu, ru⟩ := rv.get hx
    have hel : e < s.heap.objs.size := Heap.lt_size he
    have hil : it < s.heap.objs.size := by obtain ⟨_, q, _⟩ := hit; exact Heap.lt_size q
    have pt : s.heap.IsTuple a its.toArray := p
    obtain ⟨oa, ha, hca, _⟩ := id pt
    have nai : a ≠ it := fun z => by
      obtain ⟨o, ho, hc2, _⟩ := id hit
      rw [← z, ha] at ho
      cases ho
      rw [hca] at hc2; simp at hc2
    have nae : e ≠ a := fun z => by
      have he2 : s.heap.get? e = _ := he
      rw [z, ha] at he2
      cases he2
      simp at hca
    have hi : i < its.toArray.size := by
      rw [List.size_toArray]
      exact (List.getElem?_eq_some_iff.mp hu).1
    refine wpAny_pyNext_enum_itemD (Draws.tuple (prog := X.prog) (w := X.w) (A := X.A.in1) (I.ok.hd hc) it a nai its.toArray) he ⟨hit, pt⟩ hi hne (by simp [hne, nae]) fun x2 h' tk hP ho hSt hT hsz hk => ?_
    obtain ⟨hit', _⟩ := hSt
    have e2 : x2 = u := by
      have hP : its.toArray[i]? = some x2 := hP
      rw [show its.toArray[i]? = some u by simpa using hu] at hP
      exact (Option.some.inj hP).symm
    subst e2
    refine ⟨_, rfl, wpAny_letOwnedTupleGo_enum (s := { s with heap := h', toks := tk + 1 }) ho fun h'' he' sb => ?_⟩
    have hT2 : h''.get? s.heap.objs.size = some { cls := .type "tuple", data := .seq #[.int i tk, x2] } := (sb.2 _ (Nat.ne_of_gt hel)).trans hT
    have new : ObjOk X.prog X.w (upd H s.heap.objs.size (.tup [.int (i : Nat), x])) h'' s.heap.objs.size (.tup [.int (i : Nat), x]) :=
      ⟨by show 2 ≤ sizeLine; decide, [.int i tk, x2], .cons ⟨_, rfl⟩ (.cons ru .nil), ⟨_, hT2, rfl, _, rfl⟩⟩
    have I1 : Inv X pins σ (upd H s.heap.objs.size (.tup [.int (i : Nat), x])) { s with heap := h'', toks := tk + 1 } :=
      I.turnedNew (ch := [e, it]) (fun b ob hb q => (sb.2 b (fun z => hb (by simp [z]))).trans (hk b ob (fun z => hb (by simp [z])) (fun z => hb (by simp [z])) q)) hf (Nat.le_refl _) new
    refine ⟨.ref s.heap.objs.size, _, I1, rfl, ⟨_, x, rfl, I.hok.fresh (Nat.le_refl _), rfl, fun ys hy => by rw [I.tuple_inj hy hq]; exact hx⟩, ⟨⟨x2, ?_⟩, hit'.at fun o q => (sb.2 it (Ne.symm hne)).trans q, hne⟩, fun b hb => ?_⟩
    · have e1 : ((i + 1 : Nat) : Int) = (i : Int) + 1 := by omega
      rw [e1]; exact he'
    · have hb' : b < s.heap.objs.size := by
        have e' : b = e ∨ b = it := by simpa using hb
        rcases e' with z | z
        · rw [z]; exact hel
        · rw [z]; exact hil
      rw [upd_ne (Nat.ne_of_lt hb')]
      exact (hf b hb).1
  done := by
    intro X hP hw hK hc i pins s σ H E I hf st hg
    subst hP hw hK
    obtain ⟨⟨old, he⟩, hit, hne⟩ := st
    obtain ⟨xs, hq, hx⟩ := hg
    obtain ⟨its, rv, p, hz⟩ := I.tuple hq
    obtain ⟨f0, f1, f2, f3, f4, f5⟩ := hf it (by simp)
    have hl := rv.length
    have hT : s.TypeIs (.ref e) "enumerate" := ⟨_, he, rfl⟩
    unfold pyNext
    refine wpAny_bind (wpAny_attempt (wpAny_callSpecial?_slot (name := Str.ofString "__next__") hT F.slot_enumerate_next
      (wpAny_call_entry F.slot_enumerate_next hT F.entry_enumerate_next ?_ (F.args_enumerate_next_1 _))))
    show wpAny _ _ (field (.ref e) 2 >>= _) _ _ _
    refine wpAny_bind (wpAny_field he rfl (x := .ref it) rfl ?_)
    refine wpAny_bind (RZ.nextOf_tuple_end (I.ok.hd hc) hit (show s.heap.IsTuple a its.toArray from p) (by simp; omega) fun h' x he' hx' => ?_)
    obtain ⟨o, ho, hc2⟩ := hx'
    refine wpAny_bind (wpAny_isInstance (T := "StopIteration") (b := true) ⟨o, ho, hc2⟩ isSubtype_stop ?_)
    exact wpAny_pure ⟨rfl, I.turned (t' := s.toks) (fun b o hb q => he' b o hb q) f0 f1 f3 f4 f5⟩
  self := fun A i s Q E st h => let ⟨⟨_, he⟩, _⟩ := st; wpAny_pyIter_enum he h
def iEnumT (K : PySem.W.Frag) (ta : TA) : TI := fun σ H R => ta σ H fun vs H1 => ∃ a xs, vs = [.ref a] ∧ SqT K H1 a xs ∧ R (IteT K a) H1
theorem pi_enumT {X : Cx} {e : Expr} {ta : TA} {p pos tpos : Pos} {elts : List Expr} {kk : Nat} (hg : Gl X "enumerate") (hm : X.mg "enumerate" = none) (ha : PA X [e] ta) (hs : starEach [e] X.env = [(false, eval e X.env)] := by rfl) :
    PI X (.Tuple elts kk tpos) (.Call (.Name "enumerate" p) [e] [] pos) (iEnumT X.K ta) := by
  refine ⟨fun pins s σ H R I h => ?_⟩
  refine Call_ (ld_blt I hg hm boot_enumerate (PyProof.Rows.callWith_type1 (thn (ha.run pos pins s σ H _ I h) fun us s1 ⟨vs, H1, I1, r1, q1⟩ => ?_) hs rfl))
  obtain ⟨a, xs, ex, hq, q⟩ := q1
  subst ex
  cases r1 with
  | cons r rr =>
    cases rr
    cases r
    obtain ⟨its, rv, p', hz⟩ := I1.tuple hq
    refine call_enum1 (begins_tuple a its.toArray) (show s1.heap.IsTuple a its.toArray from p') fun h' he hit hsz hk => wpAny_pyIter_enum he ?_
    have I2 : Inv X pins σ H1 { s1 with heap := h' } := I1.kept (t' := s1.toks) hk
    refine ⟨s1.heap.objs.size + 1, [s1.heap.objs.size + 1, s1.heap.objs.size], _, _, H1, rfl, I2, turn_enumT a (s1.heap.objs.size + 1) s1.heap.objs.size, ⟨⟨.none, he⟩, ⟨_, hit, rfl, rfl⟩, Nat.succ_ne_self _⟩, fun b hb => ?_, q⟩
    have e' : b = s1.heap.objs.size + 1 ∨ b = s1.heap.objs.size := by simpa using hb
    have hle : s1.heap.objs.size ≤ b := by
      rcases e' with z | z
      · rw [z]; exact Nat.le_add_right _ _
      · rw [z]; exact Nat.le_refl _
    exact I1.fpOk hle (I1.hok.fresh hle)
section
variable {W : WX} {E : EW} {mg : Str → Option Value} {X : Cx} {K : PySem.W.Frag} {F : Fg} {H : Hp} {σ : L2.St} {δ : DSt} {pos : Pos}
/-- pairs of places and items -/
def enumD (n : Nat) : List PyData → List Ar
  | [] => []
  | x :: xs => .val (.tuple [.int (n : Nat), x]) :: enumD (n + 1) xs
theorem enumD_len : ∀ (xs : List PyData) (n : Nat), (enumD n xs).length = xs.length
  | [], _ => rfl
  | x :: xs, n => by unfold enumD; rw [List.length_cons, enumD_len xs, List.length_cons]
theorem enumD_get : ∀ (xs : List PyData) (n i : Nat) (d : Ar), (enumD n xs)[i]? = some d → ∃ x, xs[i]? = some x ∧ d = .val (.tuple [.int ((n + i : Nat) : Int), x])
  | [], n, i, d, h => by simp [enumD] at h
  | x :: xs, n, 0, d, h => by
    unfold enumD at h
    simp at h
    exact ⟨x, rfl, h.symm⟩
  | x :: xs, n, i + 1, d, h => by
    unfold enumD at h
    rw [List.getElem?_cons_succ] at h
    obtain ⟨y, h1, h2⟩ := enumD_get xs (n + 1) i d h
    exact ⟨y, by rw [List.getElem?_cons_succ]; exact h1, by rw [h2]; congr 4; omega⟩
theorem iter_enumT {a : Addr} {vs : List V} {xs : List PyData} (h : SqT K F.f a vs) (hA : DpAll K F.f vs xs) : IterRep W E K mg F H (IteT K a) (enumD 0 xs) none := by
  intro F' σ δ H1 R t _ i
  have hH : SqT K H1 a vs := seqT R.sto.sub (seqT t.ext h)
  refine ⟨fun hi => ⟨vs, hH, by rw [hA.length]; rw [enumD_len] at hi; exact hi⟩, fun d hd => ?_⟩
  obtain ⟨y, hy, rfl⟩ := enumD_get xs 0 i d hd
  obtain ⟨v, hv, dv⟩ := hA.get hy
  refine ⟨⟨vs, v, hH, hv⟩, fun x H' hy => ?_⟩
  obtain ⟨T, z, rfl, nT, rfl, hy⟩ := hy
  have ex : z = v := Option.some.inj ((hy _ hH).symm.trans hv)
  subst ex
  obtain ⟨R2, s2⟩ := R.alloc (o := .tup [.int (i : Nat), z]) nT
  refine ⟨_, R2, s2, ?_⟩
  have e0 : ((0 + i : Nat) : Int) = (i : Nat) := by rw [Nat.zero_add]
  rw [e0]
  exact Dp.tup (SqT.of upd_same) (.cons (.int _) (.cons (Dp.mono s2.ext _ _ (Dp.mono t.ext _ _ dv)) .nil))
def dEnumT (f : DTE) : DTI := fun δ C => f δ fun a δ1 => match a with
  | .val (.tuple xs) => C (enumD 0 xs) none δ1
  | _ => False
theorem pdi_enumT {e : Expr} {f : DTE} {p tpos : Pos} {elts : List Expr} {kk : Nat} (hg : Gl X "enumerate") (hm : X.mg "enumerate" = none) (h : PD W E X e f) (hs : starEach [e] X.env = [(false, eval e X.env)] := by rfl) :
    PDI W E X (.Tuple elts kk tpos) (.Call (.Name "enumerate" p) [e] [] pos) (dEnumT f) := by
  obtain ⟨te, p, q⟩ := h
  refine ⟨_, pi_enumT hg hm (pa_cons p pa_nil hs) hs, fun {F σ δ H R C} RR c k => ?_⟩
  refine q RR c fun a δ1 F1 H1 v R1 s1 r1 c1 => ?_
  split at c1
  · rename_i xs
    cases (show Dp X.K F1.f v (.tuple xs) from r1) with
    | tup h1 a1 => exact ⟨_, _, rfl, seqT R1.sto.sub h1, k _ _ _ _ _ _ R1 s1 (iter_enumT h1 a1) trivial c1⟩
  · exact c1.elim
/-! ### an item of a module's dict -/
def dTabIx (tab : Str → Option PyData) (f : DTE) : DTE := fun δ C => f δ fun a δ1 => match a with
  | .val (.str z) => match tab z with
    | some y => C (.val y) δ1
    | none => False
  | _ => False
theorem ix_kd {d : Addr} {es : Array DictEntry} {n : Nat} (D : KDict X.K X.w d es n) : IxR X (fun x y H Q => ∃ (z : Str) (u0 : Value) (v0 : V), x = .ref d ∧ y = .str z ∧ PySem.W.nsIn X.K d z = some (some u0) ∧ RelV v0 u0 ∧ Q v0 H) := by
  intro value slice pins s σ H x y v u Q I rx ry h hs
  obtain ⟨z, u0, v0, rfl, rfl, e, r, q⟩ := h
  cases rx
  obtain ⟨t, rfl⟩ := ry
  exact tail_any (kd_type D I) PySem.F.slot_dict_getitem.lookup (wpAny_getItem_of (PySem.strKind_is X.prog X.w z t) (PySem.W.mapOf_K (prog := X.prog) I.kIn D.at_ D.lit) (PySem.W.find_K D.at_ e) ⟨v0, H, I.tok _, r, q⟩) hs
theorem pd_tabIx {x : Str} {a : Expr} {p2 : Pos} {tab : Str → Option PyData} {f : DTE} (T : TabF X.K X.w X.mg x tab) (hg : Gl X x) (ha : PD W E X a f) (hd : (x == ("__debug__" : Str)) = false := by decide) (hs : PlainIx a := by exact fun _ _ => rfl) : PD W E X (.Subscript (.Name x p2) a pos) (dTabIx tab f) := by
  obtain ⟨te, p, q⟩ := ha
  obtain ⟨d, es, n, t1, t2, t3⟩ := T
  refine ⟨_, pe_ix (ix_kd t2) (pe_glob (v := .ref d) hg t1 rfl hd) p hs, fun {F σ δ H Q C} R c k => ?_⟩
  refine q R c fun a δ1 F1 H1 v R1 s1 r1 c1 => ?_
  split at c1
  · rename_i z
    cases (show Dp X.K F1.f v (.str z) from r1)
    have t := t3 z
    split at c1
    · rename_i y hz
      rw [hz] at t
      obtain ⟨u, v, e1, e2, e3⟩ := t
      exact ⟨z, u, v, rfl, rfl, e1, e2, k (.val y) _ _ _ _ R1 s1 (e3 _) c1⟩
    · exact c1.elim
  · exact c1.elim
/-! ### d.get(k, e), d a module's dict -/
def dTabGet (tab : Str → Option PyData) (f g : DTE) : DTE := fun δ C => f δ fun a δ1 => match a with
  | .val (.str z) => g δ1 fun b δ2 => match tab z with
    | some y => C (.val y) δ2
    | none => C b δ2
  | _ => False
theorem pd_tabGet {x : Str} {e g : Expr} {p2 apos cpos : Pos} {tab : Str → Option PyData} {f h : DTE} (T : TabF X.K X.w X.mg x tab) (hg : Gl X x) (he : PD W E X e f) (hh : PD W E X g h) (m : M2 X (.Name x p2) "get" apos e g cpos) (hd : (x == ("__debug__" : Str)) = false := by decide) : PD W E X (.Call (.Attribute (.Name x p2) "get" apos) [e, g] [] cpos) (dTabGet tab f h) := by
  obtain ⟨te, p, q⟩ := he
  obtain ⟨th, ph, qh⟩ := hh
  obtain ⟨d, es, n, t1, t2, t3⟩ := T
  refine ⟨fun σ H Q => te σ H fun y H1 => th σ H1 fun u H2 => ∃ z : Str, y = .str z ∧ match tab z with
    | some y => ∀ v, (∀ G, Dp X.K G v y) → (∃ w, PySem.W.nsIn X.K d z = some (some w) ∧ RelV v w) → Q v H2
    | none => Q u H2, ⟨fun pins s σ H Q I hq => ?_⟩, fun {F σ δ H Q C} R c k => ?_⟩
  · have o : PE X (.Name x p2) (tC (.ref d)) := pe_glob (v := .ref d) hg t1 rfl hd
    refine wpAny_Call_method m.base m.few m.line PySem.F.plainAttrs_dict PySem.F.slot_dict_get PySem.F.type_dict_get (thn (o.run pins s σ H (fun v H1 => v = .ref d ∧ H1 = H) I ⟨rfl, rfl⟩) fun u s1 ⟨x1, H1, I1, rx, ex, eH⟩ => ?_)
    subst ex eH
    obtain rfl : u = Value.ref d := rx
    refine ⟨kd_type t2 I1, fun b e => by cases e; exact ⟨_, I1.kIn _ _ t2.at_, rfl⟩, ?_⟩
    rw [m.trees]
    refine Calls.callWith_builtin rfl (Calls.evalArgs_plain (Calls.spliced_cons (thn (p.run pins s1 σ H1 _ I1 hq) fun iv s2 ⟨y, H2, I2, ry, q2⟩ =>
      Calls.spliced_cons (thn (ph.run pins s2 σ H2 _ I2 q2) fun fv s3 ⟨z, H3, I3, rz, zz, ez, q3⟩ => Calls.spliced_nil ?_))))
    subst ez
    obtain ⟨t, rfl⟩ := ry
    have mo := PySem.W.mapOf_K (prog := X.prog) (w := X.w) I3.kIn t2.at_ t2.lit
    refine call_meetsIn PySem.F.slot_dict_get mo.typeIs PySem.F.entry_dict_get (PySem.F.args_dict_get_3 _ _ _) (meets_dict_get_default (PySem.strKind X.prog X.w) d (PySem.strKind_is X.prog X.w zz t) t2.low fv) ⟨_, mo, ?_⟩
    have tt := t3 zz
    cases hz : tab zz with
    | none =>
      rw [hz] at tt q3
      rw [PySem.W.find_K t2.at_ tt]
      exact ⟨z, H3, I3.tok _, rz, q3⟩
    | some y =>
      rw [hz] at tt q3
      obtain ⟨u, v, e1, e2, e3⟩ := tt
      rw [PySem.W.find_K t2.at_ e1]
      exact ⟨v, H3, I3.tok _, e2, q3 v e3 ⟨u, e1, e2⟩⟩
  · refine q R c fun a δ1 F1 H1 v R1 s1 r1 c1 => ?_
    split at c1
    · rename_i z
      cases (show Dp X.K F1.f v (.str z) from r1)
      refine qh R1 c1 fun b δ2 F2 H2 w R2 s2 r2 c2 => ⟨z, rfl, ?_⟩
      cases hz : tab z with
      | none =>
        rw [hz] at c2
        exact k b _ _ _ _ R2 (s1.trans s2) r2 c2
      | some y =>
        rw [hz] at c2
        exact fun v hv _ => k (.val y) _ _ _ v R2 (s1.trans s2) (hv _) c2
    · exact c1.elim
end
end MM

namespace L2
open PySem PySem.Spec PyProof.Rows
section
variable {X : Cx}
theorem op_repR : OpR X (binaryOp .Mult) (fun x y H Q => ∃ l k xs, x = .ref l ∧ y = .int k ∧ Rd H l (.lst xs) ∧ -(2 ^ 63) ≤ k ∧ k < 2 ^ 63 ∧ xs.length * k.toNat ≤ sizeLine ∧
  ∀ p, H p = none → Q (.ref p) (upd H p (.lst (List.replicate k.toNat xs).flatten))) := by
  intro pins s σ H x y v u Q I rx ry h
  obtain ⟨l, k, xs, rfl, rfl, hH, h1, h2, hz, q⟩ := h
  cases rx
  obtain ⟨t, rfl⟩ := ry
  obtain ⟨z, its, n, r, hl, e⟩ := MM.lstR I hH
  have hlen : its.toArray.size * k.toNat ≤ sizeLine := by rw [List.size_toArray, ← hl]; exact hz
  have hcap : ¬ its.toArray.size * k.toNat > (2 ^ 63 - 1) / 8 := by
    have : (sizeLine : Nat) ≤ (2 ^ 63 - 1) / 8 := by decide
    omega
  have hfit : ¬ (!Builtin.List.listFitsIndex k) = true := by
    rw [fitsIndex_both h1 h2]
    exact Bool.false_ne_true
  have hlong : ¬ Builtin.List.listTooLong (its.toArray.size * k.toNat) = true := by
    rw [notLongL hlen]
    exact Bool.false_ne_true
  have hnew : List.foldl (fun x1 x2 => x1 ++ x2) #[] (List.replicate (if its.toArray.isEmpty = true then 0 else k.toNat) its.toArray) = (List.replicate k.toNat its).flatten.toArray := by
    have f0 : ∀ m : Nat, List.foldl (fun x1 x2 => x1 ++ x2) #[] (List.replicate m its.toArray) = (List.replicate m its).flatten.toArray := fun m => by
      have := foldl_rep its m []
      rw [List.nil_append] at this
      exact this
    rw [f0]
    cases its with
    | nil => simp
    | cons a r' => rw [if_neg (by simp)]
  refine wpAny_binaryOp_repeat_ref (T := "list") (U := "int") (by decide) ⟨_, e, rfl⟩ (fun s' => typeIs_int s' k t) noFill_list_mul F.fills_int_mul F.slot_int_rmul repeat_list F.slot_int_index.lookup
    (call_meets F.slot_int_rmul (typeIs_int s k t) F.entry_int_rmul (F.args_int_rmul_2 _ _) (int___rmul___int_list k t l its.toArray n)
      ⟨e, rfl, ⟨_, e, rfl⟩, call_meets F.slot_list_mul ⟨_, e, rfl⟩ F.entry_list_mul (F.args_list_mul_2 _ _) (AutoListH.list___mul___list_int_3 l its.toArray n k t hfit hcap hlong) ⟨e, ?_⟩⟩)
  rw [hnew]
  exact ⟨.ref _, _, I.lnew (t' := s.toks) (r.rep k.toNat) (by rw [PyProof.Rows.lm_len_rep_flat, Nat.mul_comm]; exact hz), rfl, q _ I.fresh⟩
end
end L2
namespace MM
open PySem PySem.Spec PyProof.Rows L2
theorem repD {K : PySem.W.Frag} {G : Hp} {vs : List V} {ds : List PyData} (h : DpAll K G vs ds) : ∀ n : Nat, DpAll K G (List.replicate n vs).flatten (List.replicate n ds).flatten
  | 0 => .nil
  | n + 1 => by
    rw [List.replicate_succ, List.replicate_succ, List.flatten_cons, List.flatten_cons]
    exact h.append (repD h n)
def aMulL : DOp := fun d e C => match d, e with
  | .list xs, .int n => -(2 ^ 63) ≤ n ∧ n < 2 ^ 63 ∧ xs.length * n.toNat ≤ sizeLine ∧ C (.list (List.replicate n.toNat xs).flatten)
  | d, e => aMul d e C
section
variable {W : WX} {E : EW} {X : Cx}
theorem od_mulL (nl : noListB X.K = true) : OpD W E X (binaryOp .Mult) aMulL := by
  obtain ⟨r', o1, o2⟩ := od_mul (W := W) (E := E) (X := X)
  refine ⟨_, DD.OpR.or op_repR o1, fun {F σ δ H x y d e Q C} R hx hy c k => ?_⟩
  unfold aMulL at c
  split at c
  · cases hx with
    | lst h1 a1 =>
      cases hy
      refine .inl ⟨_, _, _, rfl, rfl, rd_of nl (R.sto.sub.seq h1), c.1, c.2.1, by rw [a1.length]; exact c.2.2.1, fun p np => ?_⟩
      obtain ⟨R2, s2⟩ := R.alloc (o := .lst _) np
      exact k _ _ _ _ R2 s2 (.lst (SqL.of upd_same) (Dp.monoAll s2.ext _ _ (repD a1 _))) c.2.2.2
  · exact .inr (o2 R hx hy c k)
end
end MM

namespace MM
open PySem PySem.Spec PyProof.Rows L2
section
variable {W : WX} {E : EW} {X : Cx}
def mWords : DMt := fun _ z as C => match as with
  | [] => z.length + 2 ≤ sizeLine ∧ C (.list ((Txt.words z).map PyData.str))
  | _ => False
theorem md_words : MethD W E X "str.split" mWords := by
  refine ⟨_, mt_words, fun {F σ δ H z vs as Q C} R r c k => ?_⟩
  unfold mWords at c
  split at c
  · cases vs with
    | cons _ _ => exact r.elim
    | nil =>
      refine ⟨_, rfl, rfl, c.1, fun p np => ?_⟩
      obtain ⟨R2, s2⟩ := R.alloc (o := .lst ((Txt.words z).map V.str)) np
      exact k _ _ _ _ R2 s2 (.lst (SqL.of upd_same) (DpAll.strs _)) c.2
  · exact c.elim
end
end MM

namespace MM
open PySem PySem.Spec PyProof.Rows L2
section
variable {P : Program} {w : World} {K : PySem.W.Frag} {mg : Str → Option Value} {base : Heap}
/-- a promise that is never asked for -/
theorem ok_zero {x : Str} {st : Stmt} {ps : List Str} {k : Nat} {d : DSp} (D : DD.DefAt K mg x st)
    (hb : ∀ (kV doc pm : Value) (an : Option Addr) (cdv ct : Value) (us : List Value), us.length = ps.length → bindArgs (PySem.W.fnOf x x (defArgs st) (defBody st) (defScope st) .none kV doc pm an cdv ct) ⟨us, []⟩ = pure (ps.zip us))
    (no : ∀ as m C Ex, ¬ d as m C Ex) : Ok P w K mg base x k ps d := by
  obtain ⟨f, fd, hm, F⟩ := D
  have nl : ∀ vs H Q E, ¬ lift K mg d vs H Q E := fun vs H Q E h => by
    obtain ⟨_, as, m, C, Ex, _, _, hd, _⟩ := h
    exact no as m C Ex hd
  exact ⟨f, fd, hm, F.kp, F.binds hb, ⟨fun vs H Q E h => absurd h (nl vs H Q E), fun A outer s H args us vs Q E _ _ _ _ h => absurd h (nl vs H Q E)⟩⟩
theorem okk_zero {x : Str} {st : Stmt} {ps : List Str} {k : Nat} {d : DSp} (D : DD.DefAt K mg x st)
    (hb : ∀ (kV doc pm : Value) (an : Option Addr) (cdv ct : Value) (us : List Value), us.length = ps.length → bindArgs (PySem.W.fnOf x x (defArgs st) (defBody st) (defScope st) .none kV doc pm an cdv ct) ⟨[], ps.zip us⟩ = pure (ps.zip us))
    (no : ∀ as m C Ex, ¬ d as m C Ex) : OkK P w K mg base x k ps d := by
  obtain ⟨f, fd, hm, F⟩ := D
  have nl : ∀ vs H Q E, ¬ lift K mg d vs H Q E := fun vs H Q E h => by
    obtain ⟨_, as, m, C, Ex, _, _, hd, _⟩ := h
    exact no as m C Ex hd
  obtain ⟨oc, od, kV, doc, pm, an, cdv, ct, osl, rfl, lk, hcd⟩ := F.ex
  exact ⟨f, _, hm, F.kp, fun s us _ hl => .of_eq (hb kV doc pm an cdv ct us hl), ⟨fun vs H Q E h => absurd h (nl vs H Q E), fun A outer s H args us vs Q E _ _ _ _ h => absurd h (nl vs H Q E)⟩⟩
/-- the entries of a module's dict, by key -/
theorem ents_find {z : Str} : ∀ {es : List DictEntry} {l : List (Str × PyData)}, es.map (fun e => (He.keyOf e).map Prod.fst) = l.map (fun p => some p.1) → es.map (fun e => DD.datIn K 6 e.val) = l.map (fun p => some p.2) →
    match l.lookup z with
    | some y => ∃ e, es.find? (·.key.isStr z) = some e ∧ DD.datIn K 6 e.val = some y
    | none => es.find? (·.key.isStr z) = none ∧ es.any (·.refKey) = false
  | [], [], _, _ => ⟨rfl, rfl⟩
  | [], _ :: _, h, _ => nomatch h
  | _ :: _, [], h, _ => nomatch h
  | e :: es, p :: l, h1, h2 => by
    injection h1 with a1 b1
    injection h2 with a2 b2
    have ih := ents_find (z := z) b1 b2
    obtain ⟨t, ek⟩ : ∃ t, e.key = .str p.1 t := by
      unfold He.keyOf at a1
      dsimp only at a1
      split at a1
      · rename_i x t q
        cases a1
        exact ⟨t, q⟩
      · cases a1
    obtain ⟨k, y⟩ := p
    have hr : e.refKey = false := by unfold DictEntry.refKey; rw [ek]
    rw [List.lookup_cons]
    by_cases q : z = k
    · subst q
      rw [beq_self_eq_true]
      refine ⟨e, ?_, a2⟩
      rw [List.find?_cons_of_pos (by rw [ek]; simp [Value.isStr])]
    · have hq : (z == k) = false := by simpa using q
      rw [hq]
      have hf : (e :: es).find? (·.key.isStr z) = es.find? (·.key.isStr z) := by
        rw [List.find?_cons_of_neg]
        rw [ek]
        have q2 : ¬ k = z := fun e => q e.symm
        simp [Value.isStr, q2]
      simp only [hf, List.any_cons, hr, Bool.false_or]
      exact ih
theorem tab_mk {x : Str} {h : Heap} {d : Addr} {es : Array DictEntry} {n : Nat} {l : List (Str × PyData)} (X : K.In h) (G : h.Ns mainGlobals mg) (a : PySem.W.nsIn K mainGlobals x = some (some (.ref d)))
    (hl : K.lookup d = some ⟨.type "dict", none, .dict es n, #[]⟩) (lo : (d == sysModules) = false) (hk : es.toList.map He.keyOf = He.keysIn w.params (l.map Prod.fst)) (hv : es.toList.map (fun e => DD.datIn K 6 e.val) = l.map (fun p => some p.2)) :
    TabF K w mg x (fun z => l.lookup z) := by
  refine ⟨d, es, n, PySem.W.mg_of X G a, ⟨hl, He.keysLit_of hk, lo⟩, fun z => ?_⟩
  have hk2 : es.toList.map (fun e => (He.keyOf e).map Prod.fst) = l.map (fun p => some p.1) := by
    have := congrArg (List.map (Option.map Prod.fst)) hk
    simpa [He.keysIn, List.map_map, Function.comp_def] using this
  have key := ents_find (z := z) hk2 hv
  have hns : PySem.W.nsIn K d z = (match es.toList.find? (·.key.isStr z) with
      | some e => some (some e.val)
      | none => if es.toList.any (·.refKey) then none else some none) := by
    unfold PySem.W.nsIn
    rw [hl]
    rfl
  show match l.lookup z with
    | some y => _
    | none => _
  cases q : l.lookup z with
  | none =>
    rw [q] at key
    obtain ⟨k1, k2⟩ := key
    show PySem.W.nsIn K d z = some none
    rw [hns, k1]
    show (if es.toList.any (·.refKey) then none else some none) = some none
    rw [k2]
    rfl
  | some y =>
    rw [q] at key
    obtain ⟨e, k1, k2⟩ := key
    obtain ⟨v, r, dv⟩ := DD.datIn_ok 6 e.val y k2
    exact ⟨e.val, v, by rw [hns, k1], r, dv⟩
theorem fld_mk {c f : Str} {h : Heap} {C : Addr} (X : K.In h) (G : h.Ns mainGlobals mg) (a : PySem.W.nsIn K mainGlobals c = some (some (.ref C))) (hc : Cls K C) (n : PySem.W.findIn K (.ref C) f = some none) : FldF K mg c f := ⟨C, PySem.W.mg_of X G a, hc, n⟩
theorem methAt_mk {c m qual : Str} {st : Stmt} {h : Heap} {C f : Addr} {oc : Value} {od an : Option Addr} {osl : Array (Option Value)} {kV doc pm cdv ct : Value} (X : K.In h) (G : h.Ns mainGlobals mg) (a : PySem.W.nsIn K mainGlobals c = some (some (.ref C))) (hc : Cls K C)
    (at_ : PySem.W.findIn K (.ref C) m = some (some (.ref f))) (fn : PySem.W.isFn K (.ref f) = true) (l : K.lookup f = some ⟨oc, od, .func (PySem.W.fnOf m qual (defArgs st) (defBody st) (defScope st) .none kV doc pm an cdv ct), osl⟩)
    (cd : PySem.W.codeIn K cdv qual = true) (k : PySem.W.keepIn K (.ref f) = true) : MethAt K mg c m qual st := ⟨C, f, _, PySem.W.mg_of X G a, hc, ⟨at_, fn, k⟩, fun_mk l cd k⟩
theorem initAt_mk {c qual : Str} {st : Stmt} {h : Heap} {C f : Addr} {oc : Value} {od an : Option Addr} {osl : Array (Option Value)} {kV doc pm cdv ct : Value} (X : K.In h) (G : h.Ns mainGlobals mg) (a : PySem.W.nsIn K mainGlobals c = some (some (.ref C))) (mk : PySem.W.makesIn K C = true)
    (at_ : PySem.W.findIn K (.ref C) "__init__" = some (some (.ref f))) (fn : PySem.W.isFn K (.ref f) = true) (kC : PySem.W.keepIn K (.ref C) = true) (l : K.lookup f = some ⟨oc, od, .func (PySem.W.fnOf "__init__" qual (defArgs st) (defBody st) (defScope st) .none kV doc pm an cdv ct), osl⟩)
    (cd : PySem.W.codeIn K cdv qual = true) (k : PySem.W.keepIn K (.ref f) = true) : InitAt K mg c qual st := ⟨C, f, _, PySem.W.mg_of X G a, ⟨mk, at_, fn, kC⟩, fun_mk l cd k⟩
/-- a constant that is frozen data -/
theorem con_mk {c : Str} {v : Value} {n : Nat} {d : PyData} (hm : mg c = some v) (h : DD.datIn K n v = some d) (hd : (c == ("__debug__" : Str)) = false := by decide) :
    ∀ {W : WX} {E : EW} {X : Cx} {pos : Pos}, X.K = K → X.mg = mg → Gl X c → PD W E X (.Name c pos) (dC d) := by
  intro W E X pos hK hmg hg
  obtain ⟨x, r, dx⟩ := DD.datIn_ok n v d h
  subst hK hmg
  exact pd_c (v := x) (pe_glob hg hm r hd) dx
end
end MM

namespace MM
open PySem PySem.Spec PyProof.Rows L2
/-! ### a module's dict of defs; a call of what a name holds -/
structure FnTab (K : PySem.W.Frag) (w : World) (mg : Str → Option Value) (x : Str) (tab : Str → Option Addr) : Prop where
  ex : ∃ d es n, mg x = some (.ref d) ∧ KDict K w d es n ∧ ∀ z f, tab z = some f → PySem.W.nsIn K d z = some (some (.ref f))
def dFnIx (tab : Str → Option Addr) (f : DTE) : DTE := fun δ C => f δ fun a δ1 => match a with
  | .val (.str z) => match tab z with
    | some g => C (.fn g) δ1
    | none => False
  | _ => False
structure HeldM (P : Program) (w : World) (K : PySem.W.Frag) (mg : Str → Option Value) (base : Heap) (k : Nat) (f : Addr) (d : DSp) : Prop where
  ex : ∃ (fd : FuncData) (ps : List Str), FnOk P w K mg base (L2.CX P w) k f fd ps (lift K mg d) ∧ PySem.W.keepIn K (.ref f) = true ∧ Binds K fd ps []
def dCallF (S : Addr → DSp → Prop) (i : Nat) (g : DTA) : DTE := fun δ C => match δ.s[i]? with
  | some (some (.fn f)) => ∃ d, S f d ∧ g δ fun as δ1 => callL d as δ1 C
  | _ => False
section
variable {W : WX} {E : EW} {X : Cx} {pos : Pos}
theorem pd_fnIx {x : Str} {a : Expr} {p2 : Pos} {tab : Str → Option Addr} {f : DTE} (T : FnTab X.K X.w X.mg x tab) (hg : Gl X x) (ha : PD W E X a f) (hd : (x == ("__debug__" : Str)) = false := by decide) (hs : PlainIx a := by exact fun _ _ => rfl) : PD W E X (.Subscript (.Name x p2) a pos) (dFnIx tab f) := by
  obtain ⟨te, p, q⟩ := ha
  obtain ⟨d, es, n, t1, t2, t3⟩ := T
  refine ⟨_, pe_ix (ix_kd t2) (pe_glob (v := .ref d) hg t1 rfl hd) p hs, fun {F σ δ H Q C} R c k => ?_⟩
  refine q R c fun a δ1 F1 H1 v R1 s1 r1 c1 => ?_
  split at c1
  · rename_i z
    cases (show Dp X.K F1.f v (.str z) from r1)
    split at c1
    · rename_i g hz
      exact ⟨z, .ref g, .ref g, rfl, rfl, t3 z g hz, rfl, k (.fn g) _ _ _ _ R1 s1 rfl c1⟩
    · exact c1.elim
  · exact c1.elim
/-- at the level of V: the slot tells which def -/
theorem pe_held {S : Addr → DSp → Prop} {k i : Nat} {x : Str} {p : Pos} {e : Expr} {es : List Expr} {t : TA} (A : ∀ f d, S f d → HeldM X.prog X.w X.K X.mg X.base k f d) (hr : Room k X.A) (hN : X.N[i]? = some x) (hv : Vis X.env.scope x) (ha : PA X (e :: es) t)
    (hdb : (x == ("__debug__" : Str)) = false := by decide) (hcd : (x == ("__classdict__" : Str)) = false := by decide)
    (he : starEach (e :: es) X.env = (false, eval e X.env) :: starEach es X.env := by rfl) (hpl : (backTo pos (starEach es X.env)).any (·.1) = false := by rfl) :
    PE X (.Call (.Name x p) (e :: es) [] pos) (fun σ H Q => ∃ f d, σ[i]? = some (some (V.ref f)) ∧ S f d ∧ t σ H fun vs H1 => lift X.K X.mg d (vs ++ []) H1 Q E0) :=
  ⟨fun pins s σ H Q I ⟨f, d, hs, hS, ht⟩ => by
    obtain ⟨fd, ps, G, hk, hb⟩ := (A f d hS).ex
    exact (pe_callL (p := p) (pos := pos) (dvs := []) G hr hN hv hk hb .nil passX ha hdb hcd he hpl).run pins s σ H Q I ⟨hs, ht⟩⟩
theorem pd_callF {S : Addr → DSp → Prop} {k m i : Nat} {x : Str} {p : Pos} {e : Expr} {es : List Expr} {g : DTA} (A : ∀ f d, S f d → HeldM X.prog X.w X.K X.mg X.base k f d) (hr : Room m X.A) (hkm : k ≤ m) (hN : X.N[i]? = some x := by rfl)
    (ha : PDA W E X (e :: es) g) (hv : Vis X.env.scope x := by first | exact Or.inl rfl | exact Or.inr (Or.inl rfl) | exact Or.inr (Or.inr rfl)) (hdb : (x == ("__debug__" : Str)) = false := by decide) (hcd : (x == ("__classdict__" : Str)) = false := by decide)
    (he : starEach (e :: es) X.env = (false, eval e X.env) :: starEach es X.env := by rfl) (hpl : (backTo pos (starEach es X.env)).any (·.1) = false := by rfl) :
    PD W E X (.Call (.Name x p) (e :: es) [] pos) (dCallF S i g) := by
  obtain ⟨ta, pa, q⟩ := ha
  refine ⟨_, pe_held A (hr.mono hkm) hN hv pa hdb hcd he hpl, fun {F σ δ H Q C} R c k => ?_⟩
  unfold dCallF at c
  split at c
  · rename_i f hf
    obtain ⟨v, h1, h2⟩ := R.slot i _ hf
    obtain rfl : v = V.ref f := h2
    obtain ⟨d, hS, c⟩ := c
    refine ⟨f, d, h1, hS, ?_⟩
    refine q R c fun as δ1 F1 H1 vs R1 s1 r1 c1 => ?_
    rw [List.append_nil]
    exact callL_ok R1 r1 c1 fun r δ' F' H' v R2 s2 r2 c2 => k r _ _ _ _ R2 (s1.trans s2) r2 c2
  · exact c.elim
end
end MM

namespace MM
open PySem PySem.Spec PyProof.Rows L2
section
variable {X : Cx}
theorem call_repr_tup (hg : X.A.guards = some []) (hu : X.A.units + 200 < cLine) : CallR X (.builtin "repr") (fun xs H Q => ∃ (ds : List PyData) (v : V), xs = [v] ∧ Dp X.K H v (.tuple ds) ∧ PyData.showable (.tuple ds) = true ∧ PyData.hasDict (.tuple ds) = false ∧ PyData.depth (.tuple ds) ≤ 100 ∧
    (PyData.shown (.tuple ds)).length ≤ sizeLine ∧ Q (.str (PyData.shown (.tuple ds))) H) := by
  intro pins s σ H xs us Q I r h
  obtain ⟨ds, v, rfl, hd, hs, hnd, hdp, hz, q⟩ := h
  obtain ⟨u, rfl, ru⟩ := vals1 r
  obtain ⟨as, rd⟩ := Dp.reads I (.tuple ds) v u hd ru
  cases rd with
  | tuple h1 h2 h3 h4 =>
    rename_i a o vs n
    have hz' : (tupleText (PyData.shownAll ds)).length ≤ sizeLine := by simpa only [PyData.shown] using hz
    have hs' : PyData.showableAll ds = true := by simpa [PyData.showable] using hs
    have hnd' : PyData.hasDictAll ds = false := by simpa [PyData.hasDict] using hnd
    obtain ⟨bs, hb, hk⟩ := ReprAllK.of_readsAll (prog := X.prog) (w := X.w) h4 hs' (fun hx => by rw [hnd'] at hx; cases hx) (fun t ht => Nat.le_trans (tupleText_mem_le ht) hz')
    have rd : Reads s.heap (.ref a) (.tuple ds) _ := .tuple h1 h2 h3 h4
    have hna : a ∉ bs := not_mem_of_deeper rd (by simp only [PyData.depth]; omega) hb
    have hT : s.TypeIs (.ref a) "tuple" := ⟨_, h1, h2⟩
    simp only [PyData.depth] at hdp
    refine Calls.call_function_entry F.kind_repr F.plain_repr F.entry_repr (F.args_repr1 _) ?_
    unfold Builtin.«repr»
    refine wpAny_bind (m := oneArg "repr" _) (wpAny_pure ?_)
    have hu1 : X.A.in1.units + 100 < cLine := by
      have e : X.A.in1.units ≤ X.A.units + 100 := by rw [Around.in1_units]; omega
      omega
    refine wpAny_bind (wpAny_cRoomFor (by omega) ?_)
    refine wpAny_bind (wpAny_specialOf (name := Str.ofString "__repr__") hT F.slot_tuple_repr.lookup ?_)
    refine wpAny_bind (m := callSpecialIfBound? (.ref a) (Str.ofString "__repr__")) (wpAny_callSpecialIfBound?_slotG (name := Str.ofString "__repr__") hT F.slot_tuple_repr
      (call_tuple_reprK h1 h2 h3 hna hk (by rw [Around.in1_guards]; exact hg) (fun b _ => Clear.nil b) (by omega) (fun _ _ e => e) (fun h' u tk hk' => ?_) hz'))
    refine wpAny_bind (wpAny_isInstance (T := "str") (b := true) rfl isSubtype_str_str ?_)
    refine wpAny_pure ⟨_, rfl, .str _, H, I.kept hk', ⟨_, rfl⟩, ?_⟩
    simpa only [PyData.shown] using q
/-- a text of data -/
def reprOk (ds : List PyData) : Prop := PyData.showable (.tuple ds) = true ∧ PyData.hasDict (.tuple ds) = false ∧ PyData.depth (.tuple ds) ≤ 100 ∧ (PyData.shown (.tuple ds)).length ≤ sizeLine
def fRepr : DCl := fun δ as C => match as with
  | [.val (.tuple ds)] => reprOk ds ∧ C (.str (PyData.shown (.tuple ds)))
  | _ => False
theorem cd_repr {W : WX} {E : EW} (hg : X.A.guards = some []) (hu : X.A.units + 200 < cLine) : CallD W E X (.builtin "repr") fRepr := by
  refine ⟨_, call_repr_tup hg hu, fun {F σ δ H vs as Q C} R r c k => ?_⟩
  unfold fRepr at c
  split at c
  · rename_i ds
    obtain ⟨v, rfl, r1⟩ := arsRep1 r
    obtain ⟨⟨c1, c2, c3, c4⟩, c5⟩ := c
    exact ⟨ds, v, rfl, Dp.mono R.sto.sub _ _ r1, c1, c2, c3, c4, k (.str _) _ _ _ R .refl (.str _) c5⟩
  · exact c.elim
end
end MM

namespace MM
open PySem PySem.Spec PyProof.Rows L2
section
variable {P : Program} {w : World} {K : PySem.W.Frag} {mg : Str → Option Value} {base : Heap}
/-- a def's promise for one surrounding alone -/
def RunAt (P : Program) (w : World) (K : PySem.W.Frag) (mg : Str → Option Value) (base : Heap) (A : Around) (f : Addr) (fd : FuncData) (ps : List Str) (sp : Sp) : Prop :=
  ∀ (outer : List Env) (s : Shared) (H : Hp) (args : Args) (us : List Value) (vs : List V) (Q : VK) (E : XK), Env0 P w K mg base A outer s H → BindsTo s fd args (ps.zip us) → Vals vs us → sp vs H Q E →
    codeAny (model P w) A (.call (.ref f) args) (CR (L2.CX P w) outer P w H s Q E) s
theorem run_body {A : Around} {x qual : Str} {st : Stmt} {f : Addr} {fd : FuncData} {N ps : List Str} {k : Nat} {sp : Sp} (Fn : Fun K x qual st f fd) (S : FnScope N ps (defScope st)) (len : ∀ vs H Q E, sp vs H Q E → vs.length = ps.length) (hr : Room (k + 1) A)
    (hbody : ∀ (cdv : Value) (outer : List Env) (s : Shared) (H : Hp) (vs : List V) (Q : VK) (E : XK), Room k (A.deeper (envOfC qual (defScope st) s.heap.objs.size f cdv)) → sp vs H Q E →
      ∃ t, PSs (cxOf (L2.CX P w) P w K mg base N qual (defScope st) f cdv A outer s H E) (defBody st) t ∧ t { nx := fun _ H' => Q .non H', rt := Q } (start N vs) H) : RunAt P w K mg base A f fd ps sp := by
  obtain ⟨oc, od, kV, doc, pm, an, cdv, ct, osl, rfl, atF, hcode⟩ := Fn.ex
  intro outer s H args us vs Q E env0 hbind rv hsp
  have stays : ∀ b o, base.get? b = some o → s.heap.get? b = some o := fun b o e => (env0.bs b o e).1
  have inS : K.In s.heap := env0.mod.kin.keeps stays
  have params : ∀ y ∈ ps.zip us, (defScope st).names.lookup y.1 = some .local ∨ ((defScope st).names.lookup y.1 = some .cell ∧ ((cellsFrom (s.heap.objs.size + 1) (defScope st).names []).lookup y.1).isSome = true) := by
    rintro ⟨n, v⟩ hy
    exact (S.par n (List.of_mem_zip hy).1).elim .inl fun q => .inr ⟨q, PySem.W.cellsFrom_some _ _ _ (.inl q)⟩
  refine codeAny_call_function hr.depth (inS _ _ atF) rfl S.co S.gen rfl (PySem.W.codeRec_of inS hcode) (hbind _ _ _ _ ?_)
  refine wpAny_newFunctionEnv_cells S.kind params fun env henv s1 inC => ?_
  cases henv
  refine ⟨(env0.mod.nolimit.keeps stays).keeps inC.toInCall.keep, codeAny_func ?_⟩
  obtain ⟨t, pt, ht⟩ := hbody cdv outer s H vs Q E (hr.deeper _) hsp
  have I0 := inv_start (CX := L2.CX P w) (E := E) S hr.hd env0 (len _ _ _ _ hsp) rv inC
  have leave : ∀ {σ' : L2.St} {H' : Hp} {v : V} {u : Value} {s' : Shared}, Inv (cxOf (L2.CX P w) P w K mg base N qual (defScope st) f cdv A outer s H E) [] σ' H' s' → RelV v u → Q v H' → CE outer P w H s Q u s' :=
    fun {σ' H' v u s'} J r q => ⟨v, H', J.os, J.bare, J.base, J.hok, r, q⟩
  refine wpAny_mono (pt.run [] s1 _ H _ I0 ht) (fun fl s' out => ?_) fun _ _ out => out
  match fl, out with
  | .ret u, ⟨v, _, _, J, r, q⟩ => exact leave J r q
  | .next, ⟨_, _, J, q⟩ => exact leave (v := V.non) (u := Value.none) J rfl q
  | .brk, ⟨_, _, _, q⟩ => exact False.elim q
  | .cont, ⟨_, _, _, q⟩ => exact False.elim q
end
end MM

namespace MM
open PySem PySem.Spec PyProof.Rows L2
/-- the head, from the promise at the caller's own surrounding alone -/
theorem head_at {P : Program} {w : World} {K : PySem.W.Frag} {mg mb : Str → Option Value} {fa a : Addr} {fd : FuncData} {x : Str} {sp : Sp} {s₁ : Shared} {vs : List Value} {ns : List Int}
    (inK : K.In s₁.heap) (nsG : s₁.heap.Ns mainGlobals mg) (nsB : s₁.heap.Ns builtinsNs mb) (boot : ∀ z : Str, z ≠ "__name__" → mb z = bootBuiltins z) (noLim : s₁.heap.NoLimit) (noGen : s₁.gens = #[])
    (atA : s₁.heap.get? a = some { cls := .type "list", data := .seq vs.toArray }) (whole : IntsAre vs ns) (few : ns.length ≤ sizeLine)
    (R : ∀ base : Heap, K.In base → base.Ns mainGlobals mg → RunAt P w K mg base callerA fa fd [x] sp) (bnd : ∀ (s : Shared) (u : Value), BindsTo s fd ⟨[u], []⟩ [(x, u)])
    (ask : ∀ H : Hp, SqL K H a (ns.map V.int) → sp [.ref a] H (fun v _ => v = .bl true) fun _ _ _ => False) :
    codeAny (model P w) callerA (.call (.ref fa) ⟨[.ref a], []⟩) (fun r s' => r = .ok (.ret (.bool true)) ∧ OldK s₁.heap s'.heap ∧ s'.os = s₁.os ∧ AllBare s'.gens) s₁ := by
  have rel := vals_ints whole
  have lens := whole.length
  obtain ⟨H, own, seq, okH⟩ : ∃ H : Hp, (∀ b u, H b = some u → b = a ∧ K.lookup a = none ∧ u = .frz { cls := .type "list", data := .seq vs.toArray } (.lst (ns.map V.int))) ∧ SqL K H a (ns.map V.int) ∧ HOk P w H s₁.heap := by
    cases hk : K.lookup a with
    | some o =>
      have same := (inK a o hk).symm.trans atA
      cases same
      exact ⟨fun _ => none, fun b u z => (by cases (show (none : Option HO) = some u from z)), .inr ⟨_, vs.toArray, _, hk, rfl, rfl, rfl, by rw [List.size_toArray, lens]; exact few, by simpa using rel⟩, fun b u z => (by cases (show (none : Option HO) = some u from z))⟩
    | none =>
      refine ⟨fun b => if b = a then some (.frz { cls := .type "list", data := .seq vs.toArray } (.lst (ns.map V.int))) else none, fun b u z => ?_, .inl (.inr ⟨_, if_pos rfl⟩), fun b u z => ?_⟩
      · by_cases q : b = a
        · exact ⟨q, rfl, (Option.some.inj ((if_pos q).symm.trans z)).symm⟩
        · exact (nomatch (if_neg q).symm.trans z)
      · by_cases q : b = a
        · have z2 := (Option.some.inj ((if_pos q).symm.trans z)).symm
          subst q z2
          exact ⟨atA, by rw [List.length_map]; exact few, vs, _, rel, atA⟩
        · exact (nomatch (if_neg q).symm.trans z)
  have freeOf : ∀ b, ¬ (b = a ∧ K.lookup a = none) → H b = none := fun b no => by
    cases q : H b with
    | none => rfl
    | some u => exact absurd ⟨(own b u q).1, (own b u q).2.1⟩ no
  have freeK : ∀ b o, K.lookup b = some o → H b = none := fun b o e => freeOf b fun ⟨q, z⟩ => by
    rw [q, z] at e
    cases e
  have freeD : ∀ {b : Addr} {o : Obj} {es : Array DictEntry} {ep : Nat}, s₁.heap.get? b = some o → o.data = .dict es ep → H b = none := fun {b o es ep} e d => freeOf b fun ⟨q, _⟩ => by
    subst q
    rw [atA] at e
    cases e
    exact (nomatch (show Data.seq vs.toArray _ = Data.dict es ep from d))
  have keepNs : ∀ {b : Addr} {m : Str → Option Value}, s₁.heap.Ns b m → (hidT s₁.heap H).Ns b m := fun {b m} ⟨o, es, ep, e, d, r⟩ => ⟨o, es, ep, hidT_get e (freeD e d), d, r⟩
  have inB : K.In (hidT s₁.heap H) := fun b o e => hidT_get (inK b o e) (freeK b o e)
  obtain ⟨mc, l1, l2⟩ := noLim
  have env0 : Env0 P w K mg (hidT s₁.heap H) callerA [] s₁ H := by
    refine ⟨rfl, ⟨inB, keepNs nsG, ⟨mb, keepNs nsB, boot⟩, mc, keepNs l1, l2⟩, fun b o e => of_hidT e, Nat.le_of_eq (hidT_size _ _), trivial, fun b hb => (by cases hb), okH, ?_⟩
    rw [noGen]
    intro i g
    simp at g
  refine codeAny_mono (R _ inB (keepNs nsG) [] s₁ H ⟨[.ref a], []⟩ [.ref a] [.ref a] _ _ env0 (bnd s₁ (.ref a)) (.cons rfl .nil) (ask H seq)) fun r s' out => ?_
  match r, out with
  | .error e, out =>
    obtain ⟨_, _, _, _, _, _, _, _, _, _, _, _, no⟩ := (show L2.CX P w [] H s₁ (fun _ _ _ => False) e s' from out)
    exact no.elim
  | .ok (.ret u), ⟨v, H', os, bare, un, ok', ru, q⟩ =>
    obtain rfl : v = .bl true := q
    obtain rfl : u = Value.bool true := ru
    refine ⟨rfl, OldK.of_keep fun b o e => ?_, os, bare⟩
    cases z : H b with
    | none => exact un.keep b o e z (fun m => (by cases m)) (fun m => (by cases m))
    | some u2 =>
      obtain ⟨_, _, rfl⟩ := own b u2 z
      obtain ⟨e1, _⟩ := okH b _ z
      obtain ⟨e2, _⟩ := ok' b _ (un.frzs b _ _ z)
      exact e2.trans (e1.symm.trans e)
  | .ok .next, out => exact False.elim out
  | .ok .brk, out => exact False.elim out
  | .ok .cont, out => exact False.elim out
/-- the goal that k_head leaves, from the law's promise at the caller's own surrounding -/
theorem walk_G {l : PySem.W.OpenLaw} {n : Nat} {q : Program} {loose : List Str} {XP : (Str → Option Value) → Heap → Prop} {YP : World → Heap → Prop} {d : DefRec} {K : Params → PySem.W.Frag} {sp : DSp} {x : Str}
    (hn : l.most = some n) (hn2 : n ≤ sizeLine) (hdf : d.params.defaults = [])
    (hY : ∀ (w : World) (h : Heap), YP w h → (K w.params).In h)
    (F : ∀ (w : World) (mg : Str → Option Value) (fa : Addr) (h : Heap), (K w.params).In h → h.Ns mainGlobals mg → XP mg h → mg d.name = some (.ref fa) →
      ∃ fd : FuncData, (∀ (s : Shared) (u : Value), BindsTo s fd ⟨[u], []⟩ [(x, u)]) ∧
        ∀ base : Heap, (K w.params).In base → base.Ns mainGlobals mg → RunAt l.prog w (K w.params) mg base callerA fa fd [x] (lift (K w.params) mg sp))
    (hsp : ∀ ns : List Int, ns.length ≤ n → sp [.val (.list (ns.map PyData.int))] [] (fun r _ => r = .val (.bool true)) fun _ _ => False) :
    PySem.W.WalkO q loose XP YP l.row.toRowW d [] (fun f vs => PySem.call f vs) := by
  refine Att.attach_call hn hdf fun w s0 s1 mg mb fa o pm cd doc a vs ns G Y ho hd hcd hmg hobj hints hlen hg => ?_
  have KX := hY w _ Y
  obtain ⟨fd, hb, hF⟩ := F w mg fa _ KX G.T.g G.X hmg
  refine head_at KX G.T.g G.T.b G.T.builtins G.T.nolimit hg hobj hints (Nat.le_trans hlen hn2) hF hb fun H hS => ?_
  refine ⟨⟨H, []⟩, [.val (.list (ns.map PyData.int))], [], _, _, ⟨.lst hS (DpAll.ints ns), trivial⟩, ⟨Same.refl _, rfl, fun i o h => by simp at h, fun i j l oi oj h => by simp at h⟩, hsp ns hlen, fun r m' F' H' v S t rr e => ?_, fun x Cc dd m' F' H' S t hm he => he.elim⟩
  subst e
  cases (show Dp _ F'.f v (.bool true) from rr)
  rfl
section
variable {P : Program} {w : World} {K : PySem.W.Frag} {mg : Str → Option Value} {base : Heap}
/-- a def's promise for one surrounding, over the store -/
theorem run_mm {A : Around} {x qual : Str} {st : Stmt} {f : Addr} {fd : FuncData} {N ps : List Str} {k : Nat} {d : DSp} {g : EW → DTS} (Fn : Fun K x qual st f fd) (S : FnScope N ps (defScope st)) (len : ∀ as m C Ex, d as m C Ex → as.length = ps.length) (hr : Room (k + 1) A)
    (hbody : ∀ (cdv : Value) (outer : List Env) (s : Shared) (H : Hp) (E : XK) (W : WX) (V : EW), Room k (A.deeper (envOfC qual (defScope st) s.heap.objs.size f cdv)) → Takes (cxOf (L2.CX P w) P w K mg base N qual (defScope st) f cdv A outer s H E) W →
      SDs W V (cxOf (L2.CX P w) P w K mg base N qual (defScope st) f cdv A outer s H E) (defBody st) (g V))
    (law : ∀ as m C Ex, d as m C Ex → g (exE m.length Ex) (endsD m.length C) (startD N as m)) : RunAt P w K mg base A f fd ps (lift K mg d) := by
  have hpl : ps.length ≤ N.length := by have := congrArg List.length S.pre; rw [List.length_take] at this; omega
  refine run_body Fn S (fun vs H Q E h => ?_) hr (fun cdv outer s H vs Q E hr h => ?_)
  · obtain ⟨F, as, m, C, Ex, A, _, hd, _⟩ := h
    rw [A.length]
    exact len as m C Ex hd
  · obtain ⟨F, as, m, C, Ex, AR, SR, hd, fin, finX⟩ := h
    have tk : Takes (cxOf (L2.CX P w) P w K mg base N qual (defScope st) f cdv A outer s H E) (fun cls d _ H => E cls d H) := takes_of rfl rfl rfl rfl
    obtain ⟨ts, p, q⟩ := hbody cdv outer s H E _ (exE m.length Ex) hr tk
    have hN : as.length ≤ N.length := by rw [len as m C Ex hd]; exact hpl
    have RC := start_slot (N := N) AR hN SR
    have R : RepS (fun cls d _ H => E cls d H) (exE m.length Ex) K mg F (L2.start N vs) (startD N as m) H := { RC with wish := fun x C d F' σ' s' m' H' C2 t hm he => outX_ok SR C2.sto t he fun m2 F2 S2 t2 h2 => finX x C d m2 F2 H' S2 t2 hm h2 }
    refine ⟨ts, p, q R (law as m C Ex hd) ⟨fun F' σ' δ' H' R t c => ?_, fun _ _ _ _ _ _ c => c.elim, fun _ _ _ _ _ _ c => c.elim, fun F' σ' δ' H' v r R t z c => ?_⟩⟩
    · exact outM_ok (Q := Q) SR R.sto t (r := .val .none) Dp.non c fin
    · exact outM_ok (Q := Q) SR R.sto t z c fin
end
end MM

namespace MM
open PySem PySem.Spec PyProof.Rows L2
section
variable {W : WX} {E : EW} {mg : Str → Option Value} {X : Cx} {K : PySem.W.Frag} {F : Fg} {H : Hp} {pos : Pos}
/-- enumerate over a frozen list -/
theorem iter_enumL {a : Addr} {vs : List V} {xs : List PyData} (h : SqL K F.f a vs) (hA : DpAll K F.f vs xs) : IterRep W E K mg F H (L2.Ite K a) (enumD 0 xs) none := by
  intro F' σ δ H1 R t _ i
  have hH : SqL K H1 a vs := R.sto.sub.seq (t.ext.seq h)
  refine ⟨fun hi => ⟨vs, hH, by rw [hA.length]; rw [enumD_len] at hi; exact hi⟩, fun d hd => ?_⟩
  obtain ⟨y, hy, rfl⟩ := enumD_get xs 0 i d hd
  obtain ⟨v, hv, dv⟩ := hA.get hy
  refine ⟨⟨vs, v, hH, hv⟩, fun x H' hz => ?_⟩
  obtain ⟨T, z, rfl, nT, rfl, hz⟩ := hz
  obtain rfl : z = v := Option.some.inj ((hz _ hH).symm.trans hv)
  obtain ⟨R2, s2⟩ := R.alloc (o := .tup [.int (i : Nat), z]) nT
  refine ⟨_, R2, s2, ?_⟩
  have e0 : ((0 + i : Nat) : Int) = (i : Nat) := by rw [Nat.zero_add]
  rw [e0]
  exact Dp.tup (SqT.of upd_same) (.cons (.int _) (.cons (Dp.mono s2.ext _ _ (Dp.mono t.ext _ _ dv)) .nil))
def dEnumL (f : DTE) : DTI := fun δ C => f δ fun a δ1 => match a with
  | .val (.list xs) => C (enumD 0 xs) none δ1
  | _ => False
theorem pdi_enumL {e : Expr} {f : DTE} {p tpos : Pos} {elts : List Expr} {kk : Nat} (hg : Gl X "enumerate") (hm : X.mg "enumerate" = none) (h : PD W E X e f) (hs : starEach [e] X.env = [(false, eval e X.env)] := by rfl) :
    PDI W E X (.Tuple elts kk tpos) (.Call (.Name "enumerate" p) [e] [] pos) (dEnumL f) := by
  obtain ⟨te, p, q⟩ := h
  refine ⟨_, pi_enum hg hm (pa_cons p pa_nil hs) hs, fun {F σ δ H R C} RR c k => ?_⟩
  refine q RR c fun a δ1 F1 H1 v R1 s1 r1 c1 => ?_
  split at c1
  · rename_i xs
    cases (show Dp X.K F1.f v (.list xs) from r1) with
    | lst h1 a1 => exact ⟨_, _, rfl, R1.sto.sub.seq h1, k _ _ _ _ _ _ R1 s1 (iter_enumL h1 a1) trivial c1⟩
  · exact c1.elim
end
end MM

namespace MM
open PySem PySem.Spec PyProof.Rows L2
/-! ### a module's dict of its own defs -/
def tabOf (l : List (Str × Str)) (mg : Str → Option Value) : Str → Option Addr := fun z => match l.lookup z with
  | some x => match mg x with
    | some (.ref f) => some f
    | _ => none
  | none => none
theorem tabOf_at {l : List (Str × Str)} {mg : Str → Option Value} {z x : Str} {f : Addr} (hl : l.lookup z = some x) (h : tabOf l mg z = some f) : mg x = some (.ref f) := by
  unfold tabOf at h
  rw [hl] at h
  dsimp only at h
  split at h
  · rename_i q
    cases h
    exact q
  · cases h
theorem tabOf_some {l : List (Str × Str)} {mg : Str → Option Value} {z x : Str} {f : Addr} (hl : l.lookup z = some x) (h : mg x = some (.ref f)) : tabOf l mg z = some f := by
  unfold tabOf
  rw [hl]
  dsimp only
  rw [h]
theorem ents_findV {z : Str} : ∀ {es : List DictEntry} {l : List (Str × Option Value)}, es.map (fun e => (He.keyOf e).map Prod.fst) = l.map (fun p => some p.1) → es.map (fun e => some e.val) = l.map (fun p => p.2) →
    ∀ y, l.lookup z = some (some y) → ∃ e, es.find? (·.key.isStr z) = some e ∧ e.val = y
  | [], [], _, _, y, h => nomatch h
  | [], _ :: _, h, _, _, _ => nomatch h
  | _ :: _, [], h, _, _, _ => nomatch h
  | e :: es, p :: l, h1, h2, y, hy => by
    injection h1 with a1 b1
    injection h2 with a2 b2
    obtain ⟨t, ek⟩ : ∃ t, e.key = .str p.1 t := by
      unfold He.keyOf at a1
      dsimp only at a1
      split at a1
      · rename_i x t q
        cases a1
        exact ⟨t, q⟩
      · cases a1
    obtain ⟨k, v⟩ := p
    rw [List.lookup_cons] at hy
    by_cases q : z = k
    · subst q
      rw [beq_self_eq_true] at hy
      have hy : v = some y := by simpa using hy
      refine ⟨e, ?_, ?_⟩
      · rw [List.find?_cons_of_pos (by rw [ek]; simp [Value.isStr])]
      · exact Option.some.inj (a2.trans hy)
    · have hq : (z == k) = false := by simpa using q
      rw [hq] at hy
      have hf : (e :: es).find? (·.key.isStr z) = es.find? (·.key.isStr z) := by
        rw [List.find?_cons_of_neg]
        rw [ek]
        have q2 : ¬ k = z := fun e => q e.symm
        simp [Value.isStr, q2]
      rw [hf]
      exact ents_findV b1 b2 y hy
section
variable {P : Program} {w : World} {K : PySem.W.Frag} {mg : Str → Option Value} {base : Heap}
theorem lookup_map {l : List (Str × Str)} {z x : Str} (h : l.lookup z = some x) : (l.map fun p => (p.1, mg p.2)).lookup z = some (mg x) := by
  induction l with
  | nil => cases h
  | cons p l ih =>
    obtain ⟨k, y⟩ := p
    rw [List.lookup_cons] at h
    rw [List.map_cons, List.lookup_cons]
    cases q : z == k with
    | true =>
      rw [q] at h
      have : y = x := by simpa using h
      rw [this]
    | false =>
      rw [q] at h
      exact ih h
theorem fntab_mk {x : Str} {h : Heap} {d : Addr} {es : Array DictEntry} {n : Nat} {l : List (Str × Str)} (X : K.In h) (G : h.Ns mainGlobals mg) (a : PySem.W.nsIn K mainGlobals x = some (some (.ref d)))
    (hl : K.lookup d = some ⟨.type "dict", none, .dict es n, #[]⟩) (lo : (d == sysModules) = false) (hk : es.toList.map He.keyOf = He.keysIn w.params (l.map Prod.fst)) (hv : es.toList.map (fun e => some e.val) = l.map (fun p => mg p.2)) :
    FnTab K w mg x (tabOf l mg) := by
  refine ⟨d, es, n, PySem.W.mg_of X G a, ⟨hl, He.keysLit_of hk, lo⟩, fun z f hz => ?_⟩
  have hk2 : es.toList.map (fun e => (He.keyOf e).map Prod.fst) = (l.map fun p => (p.1, mg p.2)).map (fun p => some p.1) := by
    have := congrArg (List.map (Option.map Prod.fst)) hk
    simpa [He.keysIn, List.map_map, Function.comp_def] using this
  have hv2 : es.toList.map (fun e => some e.val) = (l.map fun p => (p.1, mg p.2)).map (fun p => p.2) := by
    rw [hv, List.map_map]
    rfl
  cases q : l.lookup z with
  | none => unfold tabOf at hz; rw [q] at hz; cases hz
  | some y =>
    have hm := tabOf_at q hz
    obtain ⟨e, k1, k2⟩ := ents_findV hk2 hv2 (.ref f) (by rw [lookup_map q, hm])
    have hns : PySem.W.nsIn K d z = (match es.toList.find? (·.key.isStr z) with
        | some e => some (some e.val)
        | none => if es.toList.any (·.refKey) then none else some none) := by
      unfold PySem.W.nsIn
      rw [hl]
      rfl
    rw [hns, k1]
    show some (some e.val) = _
    rw [k2]
theorem held_of {x : Str} {j k : Nat} {ps : List Str} {d : DSp} {f : Addr} (G : Ok P w K mg base x j ps d) (hm : mg x = some (.ref f)) (h : j ≤ k) : HeldM P w K mg base k f d := by
  obtain ⟨f', fd, hm', kp, b, F⟩ := G
  cases hm'.symm.trans hm
  exact ⟨fd, ps, F.mono h, kp, b⟩
theorem def_has {x : Str} {st : Stmt} (D : DD.DefAt K mg x st) : ∃ f, mg x = some (.ref f) := by
  obtain ⟨f, fd, hm, _⟩ := D
  exact ⟨f, hm⟩
end
end MM

/-! sets of texts: one text more, a list gathered, sorted -/
namespace TX
open PySem PySem.Spec PyProof.Rows L2 PySem.Froz
section
variable {P : Program} {w : World} {A : Around} {E : Value → Shared → Prop} {s : Shared}
def txV (v : Value) : Str := match v with
  | .str k _ => k
  | _ => Str.empty
abbrev txs (D : SD) : List Str := D.1.toList.map fun e => txV e.2
theorem tail_perm (ep : Nat) (es : Array (Int × Value)) (t : SetTable) (b : Bool) : (tailTx ep es t b).1.toList.Perm es.toList := by
  unfold tailTx
  split
  · exact relayAll_perm _ _ _
  · exact List.Perm.refl _
theorem addTx_perm (h : Int) (v : Value) (D : SD) : (addTx h v D).1.toList.Perm ((h, v) :: D.1.toList) := by
  have p := layNew_perm D.2.2 D.1 h v
  rw [Array.toList_push] at p
  exact (tail_perm _ _ _ _).trans (p.trans (List.perm_append_singleton (h, v) D.1.toList))
/-- a set of the unlike texts l, fit to be walked -/
structure XS (P : Program) (w : World) (h : Heap) (a : Addr) (l : List Str) : Prop where
  ex : ∃ D : SD, h.get? a = some (sObj "set" D) ∧ TxOk P w D l ∧ (txs D).Perm l ∧ Ris D.2.2.place.toList ∧ (w.params.followText "set-order" = true ∨ D.2.2.led = true)
  nd : l.Nodup
theorem XS.at {h h' : Heap} {a : Addr} {l : List Str} (x : XS P w h a l) (k : ∀ o, h.get? a = some o → h'.get? a = some o) : XS P w h' a l := by
  obtain ⟨⟨D, ho, r⟩, nd⟩ := x
  exact ⟨⟨D, k _ ho, r⟩, nd⟩
theorem tail_walk {ep : Nat} {es : Array (Int × Value)} {t : SetTable} {b : Bool} (r : Ris t.place.toList) (l : w.params.followText "set-order" = true ∨ t.led = true) :
    Ris (tailTx ep es t b).2.2.place.toList ∧ (w.params.followText "set-order" = true ∨ (tailTx ep es t b).2.2.led = true) := by
  unfold tailTx
  split
  · refine ⟨relayAll_ris _ _ _, l.imp id fun z => ?_⟩
    show (relayAll t es _).2.1.led = true
    rw [relayAll_led]
    exact z
  · exact ⟨r, l⟩
theorem add_walk {h : Int} {v : Value} {D : SD} (r : Ris D.2.2.place.toList) (l : w.params.followText "set-order" = true ∨ D.2.2.led = true) :
    Ris (addTx h v D).2.2.place.toList ∧ (w.params.followText "set-order" = true ∨ (addTx h v D).2.2.led = true) := by
  have r1 := layNew_ris D.2.2 D.1 h v r
  have l1 : w.params.followText "set-order" = true ∨ (layNew D.2.2 D.1 h v).2.1.led = true := l.imp id fun z => by rw [layNew_led]; exact z
  unfold addTx
  refine tail_walk ?_ ?_
  · split <;> exact r1
  · split <;> exact l1
/-- a text that is there already -/
theorem there_x {a : Addr} {D : SD} {l : List Str} {k : Str} {u : Tok} {Q : Bool → Shared → Prop} (ho : s.heap.get? a = some (sObj "set" D)) (F : TxOk P w D l) (hk : k ∈ l) (hb : l.length < scanBound)
    (h : Q false s) : wpAny (model P w) A (setAddHashed a (.str k u) (hashStr w k)) Q E s := by
  obtain ⟨es, ep, t⟩ := D
  obtain ⟨el, mem, sz, fit⟩ := F
  dsimp only at el mem sz fit
  obtain ⟨e, he, q⟩ := (mem k).mp hk
  obtain ⟨j, hj⟩ : ∃ j, List.findIdx? (fun e => (PySem.strKind P w).is k e.2) es.toList = some j := by
    cases r : List.findIdx? (fun e => (PySem.strKind P w).is k e.2) es.toList with
    | some j => exact ⟨j, rfl⟩
    | none =>
      have := List.findIdx?_eq_none_iff.mp r e he
      rw [q] at this
      cases this
  unfold setAddHashed setAddHashedIn
  refine wpAny_holding (wpAny_bind (wpAny_setState_of ho rfl fit ?_))
  dsimp only
  rw [byScan_of rfl (by rw [sz]; exact hb) el]
  simp only [↓reduceIte]
  unfold setAddByScan
  refine wpAny_bind (wpAny_bind (wpAny_rule ?_))
  refine wpAny_bind (wpAny_setScan_of (knd := PySem.strKind P w) (k := k) (is_str k u) ho rfl fit el ?_)
  rw [hj]
  exact wpAny_pure (wpAny_pure h)
/-- one text more, or the same ones -/
theorem XS.more {a : Addr} {l : List Str} {k : Str} {u : Tok} {Q : Bool → Shared → Prop} (x : XS P w s.heap a l) (hb : l.length + 1 < scanBound)
    (h : ∀ b h', Heap.SameBut a s.heap h' → XS P w h' a (if k ∈ l then l else k :: l) → Q b { s with heap := h' }) : wpAny (model P w) A (setAddHashed a (.str k u) (hashStr w k)) Q E s := by
  obtain ⟨⟨D, ho, F, pm, r, ld⟩, nd⟩ := x
  by_cases hk : k ∈ l
  · refine there_x ho F hk (by omega) ?_
    have q := h false s.heap (Heap.SameBut.refl a s.heap)
    rw [if_pos hk] at q
    exact q ⟨⟨D, ho, F, pm, r, ld⟩, nd⟩
  · refine add_x ho F hk hb ?_
    have q := h true _ (Heap.SameBut.update s.heap a fun _ => sObj "set" (addTx (hashStr w k) (.str k u) D))
    rw [if_neg hk] at q
    obtain ⟨r2, l2⟩ := add_walk (h := hashStr w k) (v := .str k u) r ld
    exact q ⟨⟨_, get_upd _ ho rfl, add_ok u F, ((addTx_perm _ _ _).map _).trans (pm.cons k), r2, l2⟩, List.nodup_cons.mpr ⟨hk, nd⟩⟩
abbrev freshSet (w : World) : Obj := { cls := .type "set", dict := none, data := .set #[] 0 (.fresh 0 0 (!w.params.followText "set-order")) }
theorem XS.fresh {h : Heap} {a : Addr} (ho : h.get? a = some (freshSet w)) : XS P w h a [] where
  ex := ⟨(#[], 0, .fresh 0 0 (!w.params.followText "set-order")), ho, TxOk.nil rfl, List.Perm.refl _, List.Pairwise.nil, by
    show _ ∨ (!w.params.followText "set-order") = true
    cases w.params.followText "set-order"
    · exact .inr rfl
    · exact .inl rfl⟩
  nd := List.nodup_nil
/-- what is met first, backwards -/
def metX (xs : List Str) : List Str := xs.foldl (fun l k => if k ∈ l then l else k :: l) []
theorem met_snoc (xs : List Str) (k : Str) : metX (xs ++ [k]) = if k ∈ metX xs then metX xs else k :: metX xs := by
  unfold metX
  rw [List.foldl_append]
  rfl
theorem met_fold (k : Str) : ∀ (xs l : List Str), (k ∈ xs.foldl (fun l k => if k ∈ l then l else k :: l) l ↔ k ∈ l ∨ k ∈ xs) ∧ (xs.foldl (fun l k => if k ∈ l then l else k :: l) l).length ≤ l.length + xs.length
  | [], l => ⟨by simp, Nat.le_refl _⟩
  | x :: xs, l => by
    obtain ⟨h1, h2⟩ := met_fold k xs (if x ∈ l then l else x :: l)
    rw [List.foldl_cons]
    refine ⟨h1.trans ?_, Nat.le_trans h2 ?_⟩
    · by_cases q : x ∈ l
      · rw [if_pos q, List.mem_cons]
        exact ⟨fun h => h.elim .inl fun h => .inr (.inr h), fun h => h.elim .inl fun h => h.elim (fun e => .inl (e ▸ q)) .inr⟩
      · rw [if_neg q, List.mem_cons, List.mem_cons]
        exact ⟨fun h => h.elim (fun h => h.elim (fun e => .inr (.inl e)) .inl) fun h => .inr (.inr h), fun h => h.elim (fun h => .inl (.inr h)) fun h => h.elim (fun e => .inl (.inl e)) .inr⟩
    · split
      · rw [List.length_cons]; omega
      · rw [List.length_cons, List.length_cons]; omega
theorem met_mem (k : Str) (xs : List Str) : k ∈ metX xs ↔ k ∈ xs := by
  have := (met_fold k xs []).1
  simpa [metX] using this
theorem met_len (xs : List Str) : (metX xs).length ≤ xs.length := by
  have := (met_fold Str.empty xs []).2
  simpa [metX] using this
theorem fold_le : ∀ (xs l : List Str), l.length ≤ (xs.foldl (fun l k => if k ∈ l then l else k :: l) l).length
  | [], l => Nat.le_refl _
  | x :: xs, l => by
    rw [List.foldl_cons]
    refine Nat.le_trans ?_ (fold_le xs _)
    split
    · exact Nat.le_refl _
    · exact Nat.le_succ _
theorem met_le (xs : List Str) (i : Nat) : (metX (xs.take i)).length ≤ (metX xs).length := by
  have h := fold_le (xs.drop i) (metX (xs.take i))
  unfold metX at h ⊢
  rwa [← List.foldl_append, List.take_append_drop] at h
/-- the walk over any items into a set: J i holds of the heap behind the first i -/
theorem gather {I S : Addr} {fp wr : List Addr} {G : Array GenState → Array GenState → Prop} {n : Nat} {Pv : Nat → Value → Prop} {St : Nat → Shared → Prop} {R : Result → Shared → Prop} (W : WalksS P w A.in1 I fp wr G n Pv St) (hS : S ∉ fp)
    (J : Nat → Heap → Prop) (keep : ∀ i h h', J i h → (∀ b o, b ∉ wr → h.get? b = some o → h'.get? b = some o) → J i h')
    (add : ∀ (i : Nat) (v : Value) (s : Shared) (Q : Bool → Shared → Prop) (E : Value → Shared → Prop), i < n → Pv i v → J i s.heap → (∀ b h' tk, Heap.SameBut S s.heap h' → s.toks ≤ tk → J (i + 1) h' → Q b { s with heap := h', toks := tk }) → wpAny (model P w) A.in1 (setAdd S v) Q E s) :
    ∀ (m i : Nat) (s : Shared), i + m = n → St i s → J i s.heap → (∀ s', Moved (S :: wr) G s s' → J n s'.heap → R (.ok (.ret .none)) s') → codeAny (model P w) A (.builtin "set.update.loop" ⟨[.ref S, .ref I], []⟩) R s := by
  intro m
  induction m with
  | zero =>
    intro i s e st j k
    obtain rfl : i = n := e
    refine codeAny_builtin F.entry_set_update_loop ?_
    rw [Around.under_plainId F.plain_set_update_loop _]
    show wpAny _ A.in1 (pyNext (.ref I) >>= _) _ _ s
    refine wpAny_bind (W.done s _ _ st fun s' mv => ?_)
    show wpAny _ A.in1 (ret Value.none) _ _ s'
    exact wpAny_pure (k s' (mv.mono fun _ hb => List.mem_cons_of_mem _ hb) (keep _ _ _ j fun b o hb => mv.heap b o hb))
  | succ m ih =>
    intro i s e st j k
    refine codeAny_builtin F.entry_set_update_loop ?_
    rw [Around.under_plainId F.plain_set_update_loop _]
    show wpAny _ A.in1 (pyNext (.ref I) >>= _) _ _ s
    refine wpAny_bind (W.item i s _ _ (by omega) st fun v s1 hv st1 mv => ?_)
    show wpAny _ A.in1 (holding [v] (setAdd S v) >>= _) _ _ s1
    refine wpAny_bind (wpAny_holding ?_)
    refine add i v s1 _ _ (by omega) hv (keep _ _ _ j fun b o hb => mv.heap b o hb) fun b h' tk sb le j1 => ?_
    refine wpAny_pure ⟨plainId_quiet F.plain_set_update_loop _, ih (i + 1) _ (by omega) (W.frame _ s1 h' tk st1 le fun c hc o ho => ?_) j1 fun s2 mv2 j2 => k s2 ?_ j2⟩
    · rw [sb.2 c fun (q : c = S) => hS (q ▸ hc)]
      exact ho
    · refine Moved.trans W.gtrans ((mv.mono fun _ hb => List.mem_cons_of_mem _ hb).then_heap le fun c o hc ho => ?_) mv2
      rw [sb.2 c fun (q : c = S) => hc (by rw [q]; exact List.mem_cons_self)]
      exact ho
/-- set(xs), xs a list: J i holds of the heap behind its first i items -/
theorem set_call {l : Addr} {items : Array Value} {Q : Value → Shared → Prop} (hh : A.handled = none) (hl : s.heap.IsList l items) (J : Nat → Heap → Prop)
    (j0 : ∀ h, h.get? s.heap.objs.size = some (freshSet w) → (∀ b o, s.heap.get? b = some o → h.get? b = some o) → J 0 h)
    (keep : ∀ i h h', J i h → (∀ b o, b ≤ s.heap.objs.size → h.get? b = some o → h'.get? b = some o) → J i h')
    (add : ∀ (A' : Around) (i : Nat) (v : Value) (s1 : Shared) (Q : Bool → Shared → Prop) (E : Value → Shared → Prop), items[i]? = some v → J i s1.heap → (∀ b o, s.heap.get? b = some o → s1.heap.get? b = some o) →
      (∀ b h' tk, Heap.SameBut s.heap.objs.size s1.heap h' → s1.toks ≤ tk → J (i + 1) h' → Q b { s1 with heap := h', toks := tk }) → wpAny (model P w) A' (setAdd s.heap.objs.size v) Q E s1)
    (h : ∀ h' tk, J items.size h' → (∀ b o, s.heap.get? b = some o → h'.get? b = some o) → Q (.ref s.heap.objs.size) { s with heap := h', toks := tk }) :
    wpAny (model P w) A (call (.type "set") [.ref l]) Q E s := by
  obtain ⟨c, tl, hmro⟩ := F.called_set.mro
  have hmade := F.called_set.made
  have hsub := F.called_set.sub
  have hnt := F.called_set.notType
  have hcc := F.called_set.canCreate
  have hct := F.typeCall_set_1 (.ref l)
  refine wpAny_call (codeAny_of_tree ?_)
  show wpAny _ _ (callAny (.type "set") _) _ _ _
  refine wpAny_pure ⟨Code.quiet_builtin _ (by decide +kernel), codeAny_builtin F.entry_type_call ?_⟩
  rw [Around.under_plain (weight_type_call_type "set" [.ref l] []) rfl]
  repeat (any_goals (first | assumption | wp_step))
  refine codeAny_mono (code_set_led1 (.ref l) (E := E) (Q₁ := fun v s1 => v = .ref s.heap.objs.size ∧ s1 = { s with heap := s.heap.push (freshSet w) }) ⟨rfl, rfl⟩) fun r s1 hr => ?_
  match r, hr with
  | .error _, hr => exact hr
  | .ok .next, hr => exact hr.elim
  | .ok .brk, hr => exact hr.elim
  | .ok .cont, hr => exact hr.elim
  | .ok (.ret v), hr =>
    obtain ⟨rfl, rfl⟩ := hr
    have oS : (s.heap.push (freshSet w)).get? s.heap.objs.size = some (freshSet w) := Heap.get?_push_size _ rfl
    have tS : Shared.TypeIs { s with heap := s.heap.push (freshSet w) } (.ref s.heap.objs.size) "set" := ⟨_, oS, rfl⟩
    have hin := F.called_set.init.lookup
    have hbi := F.called_set.init.bind (.ref s.heap.objs.size)
    repeat (any_goals (first | assumption | wp_step))
    refine codeAny_mono (codeAny_call_builtin (R := wants (fun r s2 => r = .none ∧ ∃ h' tk, s2 = { s with heap := h', toks := tk } ∧ J items.size h' ∧ ∀ b o, s.heap.get? b = some o → h'.get? b = some o) E) F.called_set.init.plain F.entry_set_init (check_set_init_1 tS ?_)) fun r2 s2 hr2 => ?_
    · have l1 : (s.heap.push (freshSet w)).IsList l items := hl.push _
      obtain ⟨⟨oc, od, oda, os⟩, ho, hc, nn, hd⟩ := id hl
      dsimp only at hc hd
      subst hc hd
      have ho1 : (s.heap.push (freshSet w)).get? l = some { cls := .type "list", dict := od, data := .seq items nn, slots := os } := Heap.get?_push_of_some _ ho
      have q1 := F.sub_list_set
      have q2 := F.sub_list_frozenset
      have q3 : (Value.type "list" == Value.type "dict") = false := by decide
      unfold Builtin.«set.__init__» noKeywords Builtin.Frozenset.updateFrom
      generalize hit : pyIter = PI
      wp_walk
      subst hit
      refine wpAny_pyIter_list l1 ?_
      refine wpAny_bind (wpAny_runValue ?_)
      have lt : l < s.heap.objs.size := Heap.lt_size ho
      have e2 : (s.heap.push (freshSet w)).objs.size = s.heap.objs.size + 1 := Heap.size_push ..
      have nI : l ≠ (s.heap.push (freshSet w)).objs.size := by rw [e2]; exact Nat.ne_of_lt (Nat.lt_succ_of_lt lt)
      have nS : s.heap.objs.size ∉ [(s.heap.push (freshSet w)).objs.size, l] := by
        rw [e2]
        simp only [List.mem_cons, List.not_mem_nil, or_false, not_or]
        exact ⟨Nat.ne_of_lt (Nat.lt_succ_self _), Nat.ne_of_gt lt⟩
      refine gather ((Walks.list (by simp [hh]) _ l nI items).toS) nS (fun i h => J i h ∧ ∀ b o, s.heap.get? b = some o → h.get? b = some o)
        (fun i h1 h2 ⟨a, b⟩ k => ⟨keep i h1 h2 a fun c o lc => k c o (by rw [List.mem_singleton, e2]; exact Nat.ne_of_lt (Nat.lt_succ_of_le lc)), fun c o hc => k c o (by rw [List.mem_singleton, e2]; exact Nat.ne_of_lt (Nat.lt_succ_of_lt (Heap.lt_size hc))) (b c o hc)⟩)
        (fun i v s1 Q E hi hv ⟨a, b⟩ k => add _ i v s1 Q E hv a b fun bb h' tk sb le j => k bb h' tk sb le ⟨j, fun c o hc => by
          rw [sb.2 c (Nat.ne_of_lt (Heap.lt_size hc))]
          exact b c o hc⟩)
        items.size 0 _ (by omega) ⟨⟨_, Heap.get?_push_size _ rfl, rfl, rfl⟩, l1.push _⟩ ⟨j0 _ (Heap.get?_push_of_some _ oS) fun b o e => Heap.get?_push_of_some _ (Heap.get?_push_of_some _ e), fun b o e => Heap.get?_push_of_some _ (Heap.get?_push_of_some _ e)⟩ fun s2 mv ⟨j, k⟩ => ?_
      obtain ⟨h2, g2, d2, t2, os2⟩ := s2
      obtain rfl : g2 = s.gens := mv.gens
      obtain rfl : d2 = s.drawn := mv.drawn
      obtain rfl : os2 = s.os := mv.os
      refine wpAny_pure ?_
      show wpAny _ _ (ret Value.none) _ _ _
      exact wpAny_pure ⟨rfl, h2, t2, rfl, j, k⟩
    · match r2, hr2 with
      | .error _, hr2 => exact hr2
      | .ok .next, hr2 => exact hr2.elim
      | .ok .brk, hr2 => exact hr2.elim
      | .ok .cont, hr2 => exact hr2.elim
      | .ok (.ret r), hr2 =>
        obtain ⟨rfl, h', tk, rfl, j, k⟩ := hr2
        repeat (any_goals (first | assumption | wp_step))
        exact h h' tk j k
theorem strs_of : ∀ vs : List Value, (∀ v ∈ vs, ∃ k t, v = Value.str k t) → StrsAre vs (vs.map txV)
  | [], _ => .nil
  | v :: vs, h => by
    obtain ⟨k, t, rfl⟩ := h v List.mem_cons_self
    exact .cons k t (strs_of vs fun u hu => h u (List.mem_cons_of_mem _ hu))
/-- sorted(set), the set's texts -/
theorem sorted_texts {a : Addr} {l : List Str} {Q : Value → Shared → Prop} (x : XS P w s.heap a l) (hh : A.handled = none) (h64 : l.length < 64)
    (hQ : ∀ s' p (out : Array Value) (c : Nat) (ns : List Str), (∀ b o, s.heap.get? b = some o → s'.heap.get? b = some o) → s'.gens = s.gens → s'.os = s.os → s.heap.objs.size ≤ p → s'.heap.get? p = some (seqObj "list" out c) →
      StrsAre out.toList ns → ns.Perm l → sortedS ns = true → Q (.ref p) s') : wpAny (model P w) A (call (.builtin "sorted") [.ref a]) Q E s := by
  obtain ⟨⟨⟨es, ep, t⟩, ho, F, pm, r, ld⟩, nd⟩ := x
  have hsz : es.size = l.length := F.sz
  refine Calls.call_function_entry kind_sorted plain_sorted entry_sorted (args_sorted1 _) ?_
  unfold Builtin.«sorted»
  refine wpAny_bind (m := checkCount "sorted" 1 1 _) (wpAny_pure ?_)
  refine wpAny_bind (collect_set (A := A.in1) hh ⟨_, ho, rfl, rfl⟩ F.fit (by show es.size < scanBound; unfold scanBound; omega) r ld fun s1 vs k1 z1 g1 o1 p1 => ?_)
  have hvs : StrsAre vs (vs.map txV) := strs_of vs fun v hv => by
    obtain ⟨e, he, q⟩ := List.mem_map.mp (p1.mem_iff.mp hv)
    obtain ⟨⟨k, hk, _⟩, _⟩ := F.el e he
    obtain ⟨t2, e2⟩ := Value.isStrOf_shape hk
    exact ⟨k, t2, q ▸ e2⟩
  have p2 : (vs.map txV).Perm l := by
    have q := p1.map txV
    rw [List.map_map] at q
    exact q.trans pm
  have lv : vs.length = l.length := by rw [← p2.length_eq, List.length_map]
  refine wpAny_bind (wpAny_newList ?_ (by rw [lv, sizeLine_eq]; omega))
  have oL : (s1.heap.push (seqObj "list" vs.toArray 0)).get? s1.heap.objs.size = some (seqObj "list" vs.toArray 0) := Heap.get?_push_size _ rfl
  refine wpAny_bind (wpAny_holding (wpAny_call_entry slot_list_sort ⟨_, oL, rfl⟩ entry_list_sort (list_sort_treeK PyProof.Rows.strKind_oneLt oL hvs.keysOf (fun v1 v2 rest e => keyKind_strs (by rw [← e]; exact hvs)) (by omega) fun st a1 a2 => ⟨_, rfl, ?_⟩) (args_list_sort _)))
  obtain ⟨ns, b1, b2, b3⟩ := sorted_out_str hvs a1 a2
  obtain ⟨c, hc⟩ := sortedHeap_at (vs := vs) (out := (arrOf st).map (·.2)) oL
  refine wpAny_pure ⟨_, rfl, hQ _ s1.heap.objs.size _ c ns (fun b o e => ?_) g1 o1 z1 hc b1 (b2.trans p2) b3⟩
  have lt := Heap.lt_size (k1 b o e)
  show (sortedHeap (s1.heap.push (seqObj "list" vs.toArray 0)) s1.heap.objs.size vs _).get? b = some o
  rw [sortedHeap_old (Nat.ne_of_lt lt) (by rw [size_push']; exact Nat.lt_succ_of_lt lt)]
  exact Heap.get?_push_of_some _ (k1 b o e)
end
end TX

namespace TX
open PySem PySem.Spec PyProof.Rows L2
section
variable {X : Cx}
/-- the set of texts at a -/
def SetXO (P : Program) (w : World) (a : Addr) (l : List Str) : HO := .ext fun h => XS P w h a l
theorem setXO_new {w : World} {P : Program} {H : Hp} {h : Heap} {a : Addr} {l : List Str} (R : XS P w h a l) : ObjOk P w H h a (SetXO P w a l) := by
  obtain ⟨D, ho, _⟩ := R.ex
  exact ⟨R, ⟨_, ho⟩, fun h1 h2 p k => p.at k⟩
def rSetX (K : PySem.W.Frag) (P : Program) (w : World) : List V → Hp → VK → Prop := fun xs H Q => ∃ (p : Addr) (ys : List Str), xs = [.ref p] ∧ SqL K H p (ys.map V.str) ∧ (metX ys).length + 1 < scanBound ∧ ∀ a, H a = none → Q (.ref a) (upd H a (SetXO P w a (metX ys)))
theorem cr_setX (hc : X.calm = true) : CallR X (.type "set") (rSetX X.K X.prog X.w) := by
  intro pins s σ H xs us Q I r h
  obtain ⟨p, ys, rfl, hs, hb, q⟩ := h
  obtain ⟨its, rv, hl, _⟩ := I.list hs
  rw [Vals.ref1 r]
  have sa := rv.strs
  have el : ∀ i (v : Value), its.toArray[i]? = some v → ∃ t, v = .str (ys.getD i Str.empty) t := fun i v hv => SS.strs_at sa i v (by simpa using hv)
  have len : its.length = ys.length := by have := rv.length; rw [List.length_map] at this; exact this.symm
  refine set_call (I.ok.hd hc) hl.isList (fun i h => XS X.prog X.w h s.heap.objs.size (metX (ys.take i))) (fun h ho _ => XS.fresh ho) (fun i h1 h2 j k => j.at fun o e => k _ o (Nat.le_refl _) e) (fun A' i v s1 Q E hv j _ k => ?_) (fun h' tk j k => ?_)
  · obtain ⟨t, rfl⟩ := el i v hv
    have hi : i < ys.length := by
      have : i < its.toArray.size := by
        by_cases z : i < its.toArray.size
        · exact z
        · rw [Array.getElem?_eq_none (by omega)] at hv; cases hv
      rw [List.size_toArray, len] at this
      exact this
    have e1 : ys.getD i Str.empty = ys[i] := by rw [List.getD_eq_getElem?_getD, List.getElem?_eq_getElem hi]; rfl
    have e2 : ys.take (i + 1) = ys.take i ++ [ys[i]] := by rw [List.take_succ, List.getElem?_eq_getElem hi]; rfl
    rw [e1]
    unfold setAdd
    refine wpAny_holding ?_
    refine wpAny_bind ((PySem.strKind X.prog X.w).pyHash (k := ys[i]) (strKind_is _ _ _ _) ?_)
    have ml := met_le ys i
    refine XS.more (s := { s1 with toks := s1.toks + 1 }) j (by omega) fun b h' sb j2 => k b h' _ sb (Nat.le_succ _) ?_
    rw [e2, met_snoc]
    exact j2
  · have e3 : its.toArray.size = ys.length := by rw [← len]; simp
    rw [e3, List.take_length] at j
    exact ⟨.ref _, _, I.laid (t' := tk) k (Nat.le_refl _) (setXO_new j), rfl, q _ (I.hok.fresh (Nat.le_refl _))⟩
def rSortX (P : Program) (w : World) : List V → Hp → VK → Prop := fun xs H Q => ∃ (a : Addr) (l : List Str), xs = [.ref a] ∧ H a = some (SetXO P w a l) ∧ l.length < 64 ∧ ∀ (ns : List Str) (p : Addr), ns.Perm l → sortedS ns = true → H p = none → Q (.ref p) (upd H p (.lst (ns.map V.str)))
theorem cr_sortX (hc : X.calm = true) : CallR X (.builtin "sorted") (rSortX X.prog X.w) := by
  intro pins s σ H xs us Q I r h
  obtain ⟨a, l, rfl, ha, h64, q⟩ := h
  have R : XS X.prog X.w s.heap a l := (I.hok a _ ha).1
  rw [Vals.ref1 r]
  refine sorted_texts R (I.ok.hd hc) h64 fun s' p out c ns k g o hp hg hi pm so => ?_
  have hlen : (ns.map V.str).length ≤ sizeLine := by rw [List.length_map, pm.length_eq, sizeLine_eq]; omega
  have hn : H p = none := I.hok.fresh hp
  have J : Inv X pins σ (upd H p (.lst (ns.map V.str))) { s with heap := s'.heap, gens := s'.gens, drawn := s'.drawn, toks := s'.toks } :=
    I.call (ch := []) (Un.laid k hp hn) (I.hok.laid k hp ⟨hlen, out.toList, c, vals_of_strs hi, hg⟩) (by rw [g]; exact I.bare) (fun _ z => nomatch z)
  have e : s' = { s with heap := s'.heap, gens := s'.gens, drawn := s'.drawn, toks := s'.toks } := by
    cases s'
    cases s
    cases o
    rfl
  rw [e]
  exact ⟨.ref p, _, J, rfl, q ns p pm so hn⟩
end
end TX

namespace MM
open PySem PySem.Spec PyProof.Rows L2
/-! ### dicts of the store: keys are ints and texts -/
def keyD : PyData → Option Key
  | .int i => some (.inl i)
  | .str z => some (.inr z)
  | _ => none
def datK : Key → PyData
  | .inl i => .int i
  | .inr z => .str z
def getD (kvs : List (Key × Ar)) (k : Key) : Option Ar := (kvs.find? fun kv => decide (kv.1 = k)).map (·.2)
def putD (kvs : List (Key × Ar)) (k : Key) (a : Ar) : List (Key × Ar) :=
  if (kvs.any fun kv => decide (kv.1 = k)) = true then kvs.map (fun kv => if kv.1 = k then (kv.1, a) else kv) else kvs ++ [(k, a)]
section
variable {K : PySem.W.Frag} {mg : Str → Option Value} {F : Fg} {H : Hp}
theorem keyD_rep {v : V} {d : PyData} {k : Key} (h : Dp K F.f v d) (e : keyD d = some k) : v = kV k := by
  cases d with
  | int i => cases e; cases h; rfl
  | str z => cases e; cases h; rfl
  | _ => cases e
theorem datK_rep (k : Key) : Dp K F.f (kV k) (datK k) := by
  cases k with
  | inl i => exact .int i
  | inr z => exact .str z
theorem getD_rep {k : Key} : ∀ {us : List (Key × V)} {kvs : List (Key × Ar)}, us.map (·.1) = kvs.map (·.1) → ArsRep K F (us.map (·.2)) (kvs.map (·.2)) →
    match getD kvs k with
    | some a => ∃ v, valV us k = some v ∧ ArRep K F v a
    | none => valV us k = none
  | [], [], _, _ => rfl
  | [], _ :: _, e, _ => nomatch e
  | _ :: _, [], e, _ => nomatch e
  | (j, v) :: us, (j', a) :: kvs, e, r => by
    injection e with e1 e2
    have e1 : j = j' := e1
    subst e1
    have ih := getD_rep (k := k) e2 r.2
    by_cases q : j = k
    · have g : getD ((j, a) :: kvs) k = some a := by simp [getD, List.find?_cons, q]
      rw [g]
      exact ⟨v, valV_pos q, r.1⟩
    · have g : getD ((j, a) :: kvs) k = getD kvs k := by simp [getD, List.find?_cons, q]
      rw [g, valV_neg (p := (j, v)) q]
      exact ih
theorem any_rep {k : Key} : ∀ {us : List (Key × V)} {kvs : List (Key × Ar)}, us.map (·.1) = kvs.map (·.1) → (us.any fun kv => decide (kv.1 = k)) = (kvs.any fun kv => decide (kv.1 = k))
  | [], [], _ => rfl
  | [], _ :: _, e => nomatch e
  | _ :: _, [], e => nomatch e
  | (j, v) :: us, (j', a) :: kvs, e => by
    injection e with e1 e2
    have e1 : j = j' := e1
    subst e1
    rw [List.any_cons, List.any_cons, any_rep e2]
theorem map_rep {k : Key} {v : V} {a : Ar} (h : ArRep K F v a) : ∀ {us : List (Key × V)} {kvs : List (Key × Ar)}, us.map (·.1) = kvs.map (·.1) → ArsRep K F (us.map (·.2)) (kvs.map (·.2)) →
    (us.map fun kv => if kv.1 = k then (kv.1, v) else kv).map (·.1) = (kvs.map fun kv => if kv.1 = k then (kv.1, a) else kv).map (·.1) ∧
    ArsRep K F ((us.map fun kv => if kv.1 = k then (kv.1, v) else kv).map (·.2)) ((kvs.map fun kv => if kv.1 = k then (kv.1, a) else kv).map (·.2))
  | [], [], _, _ => ⟨rfl, trivial⟩
  | [], _ :: _, e, _ => nomatch e
  | _ :: _, [], e, _ => nomatch e
  | (j, u) :: us, (j', b) :: kvs, e, r => by
    injection e with e1 e2
    have e1 : j = j' := e1
    subst e1
    obtain ⟨h1, h2⟩ := map_rep (k := k) h e2 r.2
    simp only [List.map_cons]
    by_cases q : j = k
    · rw [if_pos q, if_pos q]
      exact ⟨by rw [h1], h, h2⟩
    · rw [if_neg q, if_neg q]
      exact ⟨by rw [h1], r.1, h2⟩
theorem putD_rep {k : Key} {v : V} {a : Ar} (h : ArRep K F v a) {us : List (Key × V)} {kvs : List (Key × Ar)} (e : us.map (·.1) = kvs.map (·.1)) (r : ArsRep K F (us.map (·.2)) (kvs.map (·.2))) :
    (putK us k v).map (·.1) = (putD kvs k a).map (·.1) ∧ ArsRep K F ((putK us k v).map (·.2)) ((putD kvs k a).map (·.2)) := by
  unfold putK putD
  rw [any_rep e]
  split
  · exact map_rep h e r
  · refine ⟨by simp [e], ?_⟩
    rw [List.map_append, List.map_append]
    exact r.append ⟨h, trivial⟩
end
section
variable {W : WX} {E : EW} {X : Cx} {pos : Pos}
/-- {} -/
def dDict : DTE := fun δ C => C (.sl δ.m.length) ⟨δ.s, δ.m ++ [.dk []]⟩
theorem pd_dict : PD W E X (.Dict [] [] pos) dDict := by
  refine ⟨_, pe_dnewK, fun {F σ δ H Q C} R c k => fun p np => ?_⟩
  have sm : Same H (upd H p (.dK [])) := fun b u e => by rw [upd_ne (ne_of_none e np)]; exact e
  obtain ⟨R2, s2⟩ := R.made (o := .dk []) sm np rfl ⟨[], upd_same, rfl, trivial⟩
  refine k (.sl δ.m.length) _ _ _ _ R2 s2 ⟨p, ?_, rfl⟩ c
  show (F.g ++ [p])[δ.m.length]? = some p
  rw [List.getElem?_append_right (by rw [R.sto.glen]; exact Nat.le_refl _), R.sto.glen, Nat.sub_self]; rfl
/-- the dict at a, and a key -/
def atD (δ : DSt) (a b : Ar) : Option (Nat × List (Key × Ar) × Key) := match a, b with
  | .sl i, .val d => match δ.m[i]?, keyD d with
    | some (.dk kvs), some k => some (i, kvs, k)
    | _, _ => none
  | _, _ => none
theorem atD_rep {F : Fg} {σ : L2.St} {δ : DSt} {H : Hp} (R : RepS W E X.K X.mg F σ δ H) {v u : V} {a b : Ar} (ha : ArRep X.K F v a) (hb : ArRep X.K F u b) {i : Nat} {kvs : List (Key × Ar)} {k : Key} (e : atD δ a b = some (i, kvs, k)) :
    a = .sl i ∧ δ.m[i]? = some (.dk kvs) ∧ u = kV k ∧ ∃ l us, v = .ref l ∧ F.g[i]? = some l ∧ H l = some (.dK us) ∧ us.map (·.1) = kvs.map (·.1) ∧ ArsRep X.K F (us.map (·.2)) (kvs.map (·.2)) := by
  unfold atD at e
  split at e
  · rename_i j d
    split at e
    · rename_i kvs' k' h1 h2
      cases e
      obtain ⟨l, g1, rfl⟩ := ha
      obtain ⟨l', e1, e2, us, e3, e4, e5⟩ := R.sto.at h1 rfl
      rw [g1] at e1
      cases e1
      exact ⟨rfl, h1, keyD_rep hb h2, l, us, rfl, g1, e3, e4, e5⟩
    · cases e
  · cases e
/-- d[k] -/
def dDGet (fd fk : DTE) : DTE := fun δ C => fd δ fun a δ1 => fk δ1 fun b δ2 => match atD δ2 a b with
  | some (_, kvs, k) => match getD kvs k with
    | some x => C x δ2
    | none => False
  | none => False
theorem pd_dget {o i : Expr} {fd fk : DTE} (hu : X.A.units + 1 < cLine) (ho : PD W E X o fd) (hi : PD W E X i fk) (hs : NoSl i := by exact fun _ _ => rfl) : PD W E X (.Subscript o i pos) (dDGet fd fk) := by
  obtain ⟨td, p, q⟩ := ho
  obtain ⟨tk, p2, q2⟩ := hi
  refine ⟨_, pe_dget hu p p2 hs, fun {F σ δ H Q C} R c k => ?_⟩
  refine q R c fun a δ1 F1 H1 v R1 s1 r1 c1 => ?_
  refine q2 R1 c1 fun b δ2 F2 H2 u R2 s2 r2 c2 => ?_
  split at c2
  · rename_i n kvs kk hk
    obtain ⟨-, -, rfl, l, us, rfl, e1, e2, e3, e4⟩ := atD_rep R2 (r1.step s2) r2 hk
    have g := getD_rep (k := kk) e3 e4
    split at c2
    · rename_i x hx
      rw [hx] at g
      obtain ⟨w, g1, g2⟩ := g
      exact ⟨l, w, rfl, .inl ⟨us, kk, .inl e2, rfl, g1.symm⟩, k x _ _ _ _ R2 (s1.trans s2) g2 c2⟩
    · exact c2.elim
  · exact c2.elim
/-- k in d, k not in d -/
def dDIn (neg : Bool) (fk fd : DTE) : DTT := fun δ C => fk δ fun b δ1 => fd δ1 fun a δ2 => match atD δ2 a b with
  | some (_, kvs, k) => C (if neg then !(getD kvs k).isSome else (getD kvs k).isSome) δ2
  | none => False
theorem pdt_din {o i : Expr} {fd fk : DTE} (hu : X.A.units + 1 < cLine) (hi : PD W E X i fk) (ho : PD W E X o fd) (hm : behindInMarks .In o = false := by first | exact nomark _ | rfl) : PDT W E X (.Compare i [.In] [o] pos) (dDIn false fk fd) := by
  obtain ⟨td, p, q⟩ := ho
  obtain ⟨tk, p2, q2⟩ := hi
  refine ⟨_, pt_cmp (pc_din hu p2 p) hm, fun {F σ δ H Q C} R c k => ?_⟩
  refine q2 R c fun b δ1 F1 H1 u R1 s1 r1 c1 => ?_
  refine q R1 c1 fun a δ2 F2 H2 v R2 s2 r2 c2 => ?_
  split at c2
  · rename_i n kvs kk hk
    obtain ⟨-, -, rfl, l, us, rfl, e1, e2, e3, e4⟩ := atD_rep R2 r2 (r1.step s2) hk
    have g := getD_rep (k := kk) e3 e4
    refine ⟨l, valV us kk, rfl, .inl ⟨us, kk, .inl e2, rfl, rfl⟩, ?_⟩
    have e : (valV us kk).isSome = (getD kvs kk).isSome := by
      split at g
      · rename_i x hx
        obtain ⟨w, g1, _⟩ := g
        rw [g1, hx]
        rfl
      · rename_i hx
        rw [g, hx]
        rfl
    refine ⟨_, rfl, k _ _ _ _ R2 (s1.trans s2) ?_⟩
    rw [e]
    exact c2
  · exact c2.elim
theorem pdt_dnin {o i : Expr} {fd fk : DTE} (hu : X.A.units + 1 < cLine) (hi : PD W E X i fk) (ho : PD W E X o fd) (hm : behindInMarks .NotIn o = false := by first | exact nomark _ | rfl) : PDT W E X (.Compare i [.NotIn] [o] pos) (dDIn true fk fd) := by
  obtain ⟨td, p, q⟩ := ho
  obtain ⟨tk, p2, q2⟩ := hi
  refine ⟨_, pt_cmp (pc_dnotin hu p2 p) hm, fun {F σ δ H Q C} R c k => ?_⟩
  refine q2 R c fun b δ1 F1 H1 u R1 s1 r1 c1 => ?_
  refine q R1 c1 fun a δ2 F2 H2 v R2 s2 r2 c2 => ?_
  split at c2
  · rename_i n kvs kk hk
    obtain ⟨-, -, rfl, l, us, rfl, e1, e2, e3, e4⟩ := atD_rep R2 r2 (r1.step s2) hk
    have g := getD_rep (k := kk) e3 e4
    refine ⟨l, valV us kk, rfl, .inl ⟨us, kk, .inl e2, rfl, rfl⟩, ?_⟩
    have e : (valV us kk).isSome = (getD kvs kk).isSome := by
      split at g
      · rename_i x hx
        obtain ⟨w, g1, _⟩ := g
        rw [g1, hx]
        rfl
      · rename_i hx
        rw [g, hx]
        rfl
    refine ⟨_, rfl, k _ _ _ _ R2 (s1.trans s2) ?_⟩
    rw [e]
    exact c2
  · exact c2.elim
def isDk (δ : DSt) (i : Nat) : Bool := match δ.m[i]? with
  | some (.dk _) => true
  | _ => false
theorem isDk_rep {F : Fg} {σ : L2.St} {δ : DSt} {H : Hp} (R : RepS W E X.K X.mg F σ δ H) {i : Nat} {v : V} (h : isDk δ i = true) (r : ArRep X.K F v (.sl i)) : ∃ l, v = .ref l ∧ IsD H l := by
  unfold isDk at h
  split at h
  · rename_i kvs h1
    obtain ⟨l, g1, rfl⟩ := r
    obtain ⟨l', e1, e2, us, e3, e4, e5⟩ := R.sto.at h1 rfl
    rw [g1] at e1
    cases e1
    exact ⟨l, rfl, .inl ⟨us, .inl e3⟩⟩
  · cases h
/-- d.setdefault(k, x) -/
def dDSetd (fd fk fx : DTE) : DTE := fun δ C => fd δ fun a δ1 => match a with
  | .sl i => guardB (isDk δ1 i) (fk δ1 fun b δ2 => fx δ2 fun x δ3 => match atD δ3 (.sl i) b with
    | some (_, kvs, k) => kvs.length < sizeLine ∧ match getD kvs k with
      | some y => C y δ3
      | none => C x (setM δ3 i (.dk (putD kvs k x)))
    | none => False)
  | _ => False
theorem pd_dsetd {o e f : Expr} {fd fk fx : DTE} {apos cpos : Pos} (ho : PD W E X o fd) (he : PD W E X e fk) (hf : PD W E X f fx) (m : M2 X o "setdefault" apos e f cpos) : PD W E X (.Call (.Attribute o "setdefault" apos) [e, f] [] cpos) (dDSetd fd fk fx) := by
  obtain ⟨td, p, q⟩ := ho
  obtain ⟨tk, p2, q2⟩ := he
  obtain ⟨tx, p3, q3⟩ := hf
  refine ⟨_, pe_dsetd p p2 p3 m, fun {F σ δ H Q C} R c k => ?_⟩
  refine q R c fun a δ1 F1 H1 v R1 s1 r1 c1 => ?_
  split at c1
  · rename_i i
    obtain ⟨g1, c1⟩ := guardB_iff.mp c1
    obtain ⟨l0, rfl, hD⟩ := isDk_rep R1 g1 r1
    refine ⟨l0, rfl, hD, ?_⟩
    refine q2 R1 c1 fun b δ2 F2 H2 u R2 s2 r2 c2 => ?_
    refine q3 R2 c2 fun x δ3 F3 H3 z R3 s3 r3 c3 => ?_
    split at c3
    · rename_i n kvs kk hk
      obtain ⟨q0, hm, rfl, l, us, el, e1, e2, e3, e4⟩ := atD_rep R3 ((r1.step s2).step s3) (r2.step s3) hk
      cases el
      cases q0
      have g := getD_rep (k := kk) e3 e4
      have len : us.length = kvs.length := by have := congrArg List.length e3; simpa using this
      refine ⟨us, kk, e2, rfl, by rw [len]; exact c3.1, fun w hw => ?_, fun hw => ?_⟩
      · cases hg : getD kvs kk with
        | none => rw [hg] at g; rw [hw] at g; cases g
        | some y =>
          rw [hg] at g
          obtain ⟨w', g2, g3⟩ := g
          cases g2.symm.trans hw
          have c4 := c3.2
          rw [hg] at c4
          exact k y _ _ _ _ R3 ((s1.trans s2).trans s3) g3 c4
      · cases hg : getD kvs kk with
        | some y =>
          rw [hg] at g
          obtain ⟨w', g2, _⟩ := g
          rw [hw] at g2
          cases g2
        | none =>
          have c4 := c3.2
          rw [hg] at c4
          obtain ⟨pk, pr⟩ := putD_rep (k := kk) r3 e3 e4
          obtain ⟨R4, s4⟩ := R3.put (o' := .dk (putD kvs kk x)) (u := .dK (putK us kk z)) hm rfl rfl e1 (fun _ h => by cases h) ⟨_, upd_same, pk, pr⟩
          exact k x _ _ _ _ R4 (((s1.trans s2).trans s3).trans s4) (r3.step s4) c4
    · exact c3.elim
  · exact c1.elim
/-- d[k] = x -/
def dDPut (fd fk fx : DTE) : DTS := fun D δ => fx δ fun x δ1 => fd δ1 fun a δ2 => fk δ2 fun b δ3 => match atD δ3 a b with
  | some (i, kvs, k) => kvs.length < sizeLine ∧ D.nx (setM δ3 i (.dk (putD kvs k x)))
  | none => False
theorem sd_dput {o i e : Expr} {fd fk fx : DTE} {p2 : Pos} (hu : X.A.units + 1 < cLine) (ho : PD W E X o fd) (hi : PD W E X i fk) (h : PD W E X e fx) (hs : swapsWith e (some (.Subscript o i p2)) pos.line X.env = pure false := by rfl) :
    SD W E X (.Assign [.Subscript o i p2] e pos) (dDPut fd fk fx) := by
  obtain ⟨td, p, q⟩ := ho
  obtain ⟨tk, p2, q2⟩ := hi
  obtain ⟨tx, p3, q3⟩ := h
  refine ⟨_, ps_dput hu p p2 p3 hs, fun {F σ δ H DD D} R c k => ?_⟩
  refine q3 R c fun x δ1 F1 H1 z R1 s1 r1 c1 => ?_
  refine q R1 c1 fun a δ2 F2 H2 v R2 s2 r2 c2 => ?_
  refine q2 R2 c2 fun b δ3 F3 H3 u R3 s3 r3 c3 => ?_
  split at c3
  · rename_i n kvs kk hk
    obtain ⟨rfl, hm, rfl, l, us, rfl, e1, e2, e3, e4⟩ := atD_rep R3 (r2.step s3) r3 hk
    have len : us.length = kvs.length := by have := congrArg List.length e3; simpa using this
    have rx := r1.step (s2.trans s3)
    obtain ⟨pk, pr⟩ := putD_rep (k := kk) rx e3 e4
    obtain ⟨R4, s4⟩ := R3.put (o' := .dk (putD kvs kk x)) (u := .dK (putK us kk z)) hm rfl rfl e1 (fun _ h => by cases h) ⟨_, upd_same, pk, pr⟩
    exact ⟨l, _, rfl, .inl ⟨us, kk, e2, rfl, by rw [len]; exact c3.1, rfl⟩, k.nx _ _ _ _ R4 (((s1.trans s2).trans s3).trans s4) c3.2⟩
  · exact c3.elim
/-- list(d): its keys -/
def dKeysN (fd : DTE) : DSt → (List PyData → DSt → Prop) → Prop := fun δ C => fd δ fun a δ1 => match a with
  | .sl i => match δ1.m[i]? with
    | some (.dk kvs) => C (kvs.map fun kv => datK kv.1) δ1
    | _ => False
  | _ => False
theorem datK_all {K : PySem.W.Frag} {F : Fg} : ∀ ks : List Key, DpAll K F.f (ks.map kV) (ks.map datK)
  | [] => .nil
  | k :: ks => .cons (datK_rep k) (datK_all ks)
theorem pdn_keys {e : Expr} {x : Str} {fd : DTE} {p : Pos} (hc : X.calm = true) (hg : Gl X x) (hm : X.mg x = none) (hv : bootBuiltins x = some (.type "list")) (ha : PD W E X e fd) (hn : x ≠ "__name__" := by decide) (hdb : (x == ("__debug__" : Str)) = false := by decide)
    (he : starEach [e] X.env = (false, eval e X.env) :: starEach [] X.env := by rfl) (hpl : (backTo pos (starEach [] X.env)).any (·.1) = false := by rfl) : PDN W E X (.Call (.Name x p) [e] [] pos) (dKeysN fd) := by
  obtain ⟨ta, p, q⟩ := ha
  refine ⟨_, pe_callTy (call_listD hc) hg hm hv (pa_cons p pa_nil he) hn hdb he hpl, fun {F σ δ H Q C} R c k => ?_⟩
  refine q R c fun a δ1 F1 H1 v R1 s1 r1 c1 => ?_
  split at c1
  · rename_i i
    split at c1
    · rename_i kvs h1
      obtain ⟨l, g1, rfl⟩ := r1
      obtain ⟨l', e1, e2, us, e3, e4, e5⟩ := R1.sto.at h1 rfl
      rw [g1] at e1
      cases e1
      refine ⟨l, us, rfl, .inl e3, fun p np => ?_⟩
      obtain ⟨R2, s2, nF, nO⟩ := R1.fresh (o := .lst (us.map fun kv => kV kv.1)) np
      refine k _ _ _ _ _ _ R2 (s1.trans s2) nF (s1.dom _ np) nO upd_same ?_ c1
      have ek : (us.map fun kv => kV kv.1) = (kvs.map (·.1)).map kV := by rw [← e4, List.map_map]; rfl
      rw [ek]
      have ed : (kvs.map fun kv => datK kv.1) = (kvs.map (·.1)).map datK := by rw [List.map_map]; rfl
      rw [ed]
      exact datK_all _
    · exact c1.elim
  · exact c1.elim
/-! ### lists of texts, sorted -/
theorem strs_back {K : PySem.W.Frag} {F : Hp} : ∀ {ys : List Str} {vs : List V}, DpAll K F vs (ys.map PyData.str) → vs = ys.map V.str
  | [], _, .nil => rfl
  | y :: ys, _, .cons h t => by
    cases h
    rw [strs_back t]
    rfl
theorem strsD_rep {K : PySem.W.Frag} {F : Hp} {vs : List V} {ds : List PyData} {ys : List Str} (h : DpAll K F vs ds) (e : strsD ds = some ys) : vs = ys.map V.str := by
  rw [strsD_eq e] at h
  exact strs_back h
theorem str_all {K : PySem.W.Frag} {F : Hp} : ∀ ys : List Str, DpAll K F (ys.map V.str) (ys.map PyData.str)
  | [] => .nil
  | y :: ys => .cons (.str y) (str_all ys)
/-- sorted(xs), texts -/
def dSortN (f : DTE) : DSt → (List PyData → DSt → Prop) → Prop := fun δ C => f δ fun a δ1 => match rd δ1 a with
  | some (.list xs) => match strsD xs with
    | some ys => ys.length < 64 ∧ ∀ ns : List Str, ns.Perm ys → sortedS ns = true → C (ns.map PyData.str) δ1
    | none => False
  | _ => False
theorem pdn_sort {e : Expr} {f : DTE} {p : Pos} (hg : Gl X "sorted") (hm : X.mg "sorted" = none) (ha : PD W E X e f)
    (he : starEach [e] X.env = (false, eval e X.env) :: starEach [] X.env := by rfl) (hpl : (backTo pos (starEach [] X.env)).any (·.1) = false := by rfl) : PDN W E X (.Call (.Name "sorted" p) [e] [] pos) (dSortN f) := by
  obtain ⟨ta, p, q⟩ := ha
  refine ⟨_, pe_callB cr_sortedS hg hm (by decide +kernel) (pa_cons p pa_nil he) (by decide) (by decide) he hpl, fun {F σ δ H Q C} R c k => ?_⟩
  refine q R c fun a δ1 F1 H1 v R1 s1 r1 c1 => ?_
  split at c1
  · rename_i xs hx
    split at c1
    · rename_i ys hy
      obtain ⟨p0, vs, rfl, h1, a1⟩ := listD_rep R1 r1 hx
      rw [strsD_rep a1 hy] at h1
      refine ⟨p0, ys, rfl, h1, c1.1, fun ns l pm so nl => ?_⟩
      obtain ⟨R2, s2, nF, nO⟩ := R1.fresh (o := .lst (ns.map V.str)) nl
      exact k _ _ _ _ _ _ R2 (s1.trans s2) nF (s1.dom _ nl) nO upd_same (str_all ns) (c1.2 ns pm so)
    · exact c1.elim
  · exact c1.elim
/-- sorted(set(xs)), texts -/
def dSortSetN (f : DTE) : DSt → (List PyData → DSt → Prop) → Prop := fun δ C => f δ fun a δ1 => match rd δ1 a with
  | some (.list xs) => match strsD xs with
    | some ys => (TX.metX ys).length < 64 ∧ ∀ ns : List Str, ns.Perm (TX.metX ys) → sortedS ns = true → C (ns.map PyData.str) δ1
    | none => False
  | _ => False
theorem pdn_sortSet {e : Expr} {f : DTE} {p p2 pos2 : Pos} (hc : X.calm = true) (hg : Gl X "sorted") (hm : X.mg "sorted" = none) (hg2 : Gl X "set") (hm2 : X.mg "set" = none) (ha : PD W E X e f)
    (he : starEach [e] X.env = (false, eval e X.env) :: starEach [] X.env := by rfl) (hpl2 : (backTo pos2 (starEach [] X.env)).any (·.1) = false := by rfl)
    (he2 : starEach [.Call (.Name "set" p2) [e] [] pos2] X.env = (false, eval (.Call (.Name "set" p2) [e] [] pos2) X.env) :: starEach [] X.env := by rfl) (hpl : (backTo pos (starEach [] X.env)).any (·.1) = false := by rfl) :
    PDN W E X (.Call (.Name "sorted" p) [.Call (.Name "set" p2) [e] [] pos2] [] pos) (dSortSetN f) := by
  obtain ⟨ta, p, q⟩ := ha
  refine ⟨_, pe_callB (TX.cr_sortX hc) hg hm (by decide +kernel) (pa_cons (pe_callTy (TX.cr_setX hc) hg2 hm2 (by decide +kernel) (pa_cons p pa_nil he) (by decide) (by decide) he hpl2) pa_nil he2) (by decide) (by decide) he2 hpl, fun {F σ δ H Q C} R c k => ?_⟩
  refine q R c fun a δ1 F1 H1 v R1 s1 r1 c1 => ?_
  split at c1
  · rename_i xs hx
    split at c1
    · rename_i ys hy
      obtain ⟨p0, vs, rfl, h1, a1⟩ := listD_rep R1 r1 hx
      rw [strsD_rep a1 hy] at h1
      refine ⟨p0, ys, rfl, h1, by have := c1.1; unfold scanBound; omega, fun a na => ?_⟩
      have sm : Same H1 (upd H1 a (TX.SetXO X.prog X.w a (TX.metX ys))) := fun b u e => by rw [upd_ne (ne_of_none e na)]; exact e
      obtain ⟨R2, s2⟩ := R1.grow sm
      refine ⟨a, _, rfl, upd_same, c1.1, fun ns l pm so nl => ?_⟩
      obtain ⟨R3, s3, nF, nO⟩ := R2.fresh (o := .lst (ns.map V.str)) nl
      exact k _ _ _ _ _ _ R3 ((s1.trans s2).trans s3) nF ((s1.trans s2).dom _ nl) nO upd_same (str_all ns) (c1.2 ns pm so)
    · exact c1.elim
  · exact c1.elim
end
end MM

namespace MM
open PySem PySem.Spec PyProof.Rows L2
section
variable {W : WX} {E : EW} {X : Cx} {pos : Pos}
/-- xs.reverse() -/
def dRevS (fo : DTE) : DTE := fun δ C => fo δ fun a δ1 => match a with
  | .sl i => match δ1.m[i]? with
    | some (.fl xs) => C (.val .none) (setM δ1 i (.fl xs.reverse))
    | _ => False
  | _ => False
theorem pd_reverse {o : Expr} {fo : DTE} {apos cpos : Pos} (ho : PD W E X o fo)
    (hbase : attributeBase o "reverse" X.env (eval o X.env) = eval o X.env := by rfl)
    (hline : (apos.endLine == cpos.line) = true := by rfl) :
    PD W E X (.Call (.Attribute o "reverse" apos) [] [] cpos) (dRevS fo) := by
  obtain ⟨te, p, q⟩ := ho
  refine ⟨_, pe_bm0 PySem.F.plainAttrs_list PySem.F.slot_list_reverse PySem.F.type_list_reverse mt_reverse p hbase hline, fun {F σ δ H Q C} R c k => ?_⟩
  refine q R c fun a δ1 F1 H1 v R1 s1 r1 c1 => ?_
  split at c1
  · rename_i i
    split at c1
    · rename_i xs ho
      obtain ⟨l, e1, e2, e3⟩ := R1.sto.at ho rfl
      have r1' := r1
      obtain ⟨l', g1, rfl⟩ := r1
      rw [e1] at g1
      cases g1
      obtain ⟨vs, h1, h2⟩ := e3
      obtain ⟨R3, s3⟩ := R1.put (o' := .fl xs.reverse) (u := .lst vs.reverse) ho rfl rfl e1 (fun x => by intro z; cases z) ⟨vs.reverse, upd_same, h2.reverse⟩
      exact ⟨isSl R1 (by unfold isLi; rw [ho]; rfl) r1', l, vs, rfl, rfl, h1, k (.val .none) _ _ _ _ R3 (s1.trans s3) Dp.non c1⟩
    · exact c1.elim
  · exact c1.elim
end
section
variable {W : WX} {E : EW} {X : Cx} {ps : List Str} {k m : Nat} {x : Str} {p pos : Pos} {d : DSp}
/-- a call of no arguments, over the whole store -/
theorem pcG_ok0 (G : Ok X.prog X.w X.K X.mg X.base x k ps d) (hr : Room m X.A) (hg : Gl X x) (hkm : k ≤ m) (hdb : (x == ("__debug__" : Str)) = false := by decide) : PD W E X (.Call (.Name x p) [] [] pos) (dCallG d dNil) := by
  obtain ⟨f, fd, hm, hk, hb, G⟩ := G
  refine ⟨_, pe_call0 G (hr.mono hkm) hg hm hk hb .nil passX hdb, fun {F σ δ H Q C} R c k => ?_⟩
  exact callG_ok0 (vs := []) (as := []) R trivial c fun r δ' F' H' v R2 s2 r2 c2 => k r _ _ _ _ R2 s2 r2 c2
end
end MM

namespace K17
open PySem PySem.Spec PyProof.Rows L2 MM
/-! ### the text by its places -/
def topS (i : Nat) : Stmt := PySem.Challenge.pw_asiffresh_k17_first_wrong_token.main.body.getD i (.Pass ⟨0, 0, 0, 0⟩)
abbrev s__law_draw : Stmt := topS 9
abbrev s__law_rules : Stmt := topS 11
abbrev s__law_next : Stmt := topS 10
abbrev s__law_grown : Stmt := topS 15
abbrev s__law_step : Stmt := topS 13
abbrev s__law_key : Stmt := topS 18
abbrev s__law_first_wrong : Stmt := topS 19
abbrev s_ItemWalk__m___init__ : Stmt := inClass (topS 6) 0
abbrev s_ItemWalk__m_expand : Stmt := inClass (topS 6) 2
abbrev s_ItemWalk__m_act : Stmt := inClass (topS 6) 3
abbrev s_ItemWalk__m_meet : Stmt := inClass (topS 6) 1
abbrev s_ItemWalk__m_take : Stmt := inClass (topS 6) 4
abbrev s_terminal : Stmt := topS 5
abbrev s_read_item : Stmt := topS 7
abbrev s__law_keys : Stmt := topS 12
abbrev s__law_could : Stmt := topS 14
abbrev s__law_right : Stmt := topS 20
abbrev s__law_pick : Stmt := topS 16
abbrev s__law_token : Stmt := topS 17
abbrev s__law_place : Stmt := topS 23
abbrev s__law_spoilt : Stmt := topS 21
abbrev s__law_ended : Stmt := topS 22
abbrev s_law : Stmt := topS 24
def l_RULES : List (Str × PyData) := [("ITEM", (.tuple [(.tuple [(.str "face"), (.str "< 'face face < SHOWN SHOWNS > ; >")]), (.tuple [(.str "use"), (.str "< 'use use Name AS ; >")]), (.tuple [(.str "open"), (.str "< 'open open Name WAY ; >")]), (.tuple [(.str "kind"), (.str "< 'kind kind Name = < MAKER MAKERS > ; >")]), (.tuple [(.str "def"), (.str "< 'def def name GIVENS COLON = TOLD ; >")])])),
  ("SHOWN", (.tuple [(.tuple [(.str "name"), (.str "< 'name name >")]), (.tuple [(.str "Name"), (.str "< 'kind Name MAKERS_TOO >")])])),
  ("SHOWNS", (.tuple [(.tuple [(.str ","), (.str ", SHOWN SHOWNS")]), (.tuple [(.str ""), (.str "")])])),
  ("MAKERS_TOO", (.tuple [(.tuple [(.str "("), (.str "( .. ) '1")]), (.tuple [(.str ""), (.str "'0")])])),
  ("AS", (.tuple [(.tuple [(.str "as"), (.str "as Name")]), (.tuple [(.str ""), (.str "'")])])),
  ("WAY", (.tuple [(.tuple [(.str "hiding"), (.str "'hiding hiding < ( THING THINGS ) >")]), (.tuple [(.str "("), (.str "'only < ( THING THINGS ) >")]), (.tuple [(.str ""), (.str "'all < >")])])),
  ("THING", (.tuple [(.tuple [(.str "name"), (.str "name")]), (.tuple [(.str "Name"), (.str "Name")])])),
  ("THINGS", (.tuple [(.tuple [(.str ","), (.str ", THING THINGS")]), (.tuple [(.str ""), (.str "")])])),
  ("MAKER", (.tuple [(.tuple [(.str "Name"), (.str "< Name PARTS >")])])),
  ("MAKERS", (.tuple [(.tuple [(.str "|"), (.str "| MAKER MAKERS")]), (.tuple [(.str ""), (.str "")])])),
  ("PARTS", (.tuple [(.tuple [(.str "("), (.str "< ( OF OFS ) >")]), (.tuple [(.str ""), (.str "< >")])])),
  ("OF", (.tuple [(.tuple [(.str "Name"), (.str "< Name MODULE >")])])),
  ("OFS", (.tuple [(.tuple [(.str ","), (.str ", OF OFS")]), (.tuple [(.str ""), (.str "")])])),
  ("MODULE", (.tuple [(.tuple [(.str "."), (.str ". Name")]), (.tuple [(.str ""), (.str "^")])])),
  ("GIVENS", (.tuple [(.tuple [(.str "("), (.str "< ( GIVEN MORE_GIVENS ) >")]), (.tuple [(.str ""), (.str "< >")])])),
  ("GIVEN", (.tuple [(.tuple [(.str "name"), (.str "< name COLON >")])])),
  ("MORE_GIVENS", (.tuple [(.tuple [(.str ","), (.str ", GIVEN MORE_GIVENS")]), (.tuple [(.str ""), (.str "")])])),
  ("COLON", (.tuple [(.tuple [(.str ":"), (.str ": OF")]), (.tuple [(.str ""), (.str "'none")])])),
  ("TOLD", (.tuple [(.tuple [(.str "let"), (.str "< 'let let name = TOLD in TOLD !out >")]), (.tuple [(.str "if"), (.str "< 'if if TOLD then TOLD else TOLD !out >")]), (.tuple [(.str "( case name Name"), (.str "SIDE SAME")])])),
  ("TOLDS", (.tuple [(.tuple [(.str ","), (.str ", TOLD TOLDS")]), (.tuple [(.str ""), (.str "")])])),
  ("SAME", (.tuple [(.tuple [(.str "=="), (.str "!same == SIDE >")]), (.tuple [(.str ""), (.str "")])])),
  ("SIDE", (.tuple [(.tuple [(.str "("), (.str "( TOLD )")]), (.tuple [(.str "case"), (.str "< 'case case TOLD of < ARM ARMS > end >")]), (.tuple [(.str "name"), (.str "< ' name CALL >")]), (.tuple [(.str "Name"), (.str "< Name MEMBER >")])])),
  ("MEMBER", (.tuple [(.tuple [(.str "."), (.str ". DOTTED")]), (.tuple [(.str ""), (.str "^ ^make MADE")])])),
  ("DOTTED", (.tuple [(.tuple [(.str "name"), (.str "name CALL")]), (.tuple [(.str "Name"), (.str "Name ^make MADE")])])),
  ("CALL", (.tuple [(.tuple [(.str "("), (.str "^call < ( TOLD TOLDS ) >")]), (.tuple [(.str ""), (.str "^name")])])),
  ("MADE", (.tuple [(.tuple [(.str "("), (.str "< ( TOLD TOLDS ) >")]), (.tuple [(.str ""), (.str "< >")])])),
  ("ARM", (.tuple [(.tuple [(.str "_ name Name"), (.str "< FORM -> TOLD >")])])),
  ("ARMS", (.tuple [(.tuple [(.str "|"), (.str "| ARM ARMS")]), (.tuple [(.str ""), (.str "")])])),
  ("FORM", (.tuple [(.tuple [(.str "_"), (.str "< 'any _ >")]), (.tuple [(.str "name"), (.str "< 'bind name >")]), (.tuple [(.str "Name"), (.str "< Name MODULE ^make FORMS >")])])),
  ("FORMS", (.tuple [(.tuple [(.str "("), (.str "< ( FORM MORE_FORMS ) >")]), (.tuple [(.str ""), (.str "< >")])])),
  ("MORE_FORMS", (.tuple [(.tuple [(.str ","), (.str ", FORM MORE_FORMS")]), (.tuple [(.str ""), (.str "")])]))]
def t_RULES : Str → Option PyData := fun z => l_RULES.lookup z
def l_PIECES : List (Str × PyData) := [("'0", (.int 0)),
  ("'1", (.int 1)),
  ("'none", .none)]
def t_PIECES : Str → Option PyData := fun z => l_PIECES.lookup z
def k_DEEPENING : PyData := (.tuple [(.str "let"), (.str "if"), (.str "case"), (.str "(")])
def k_DEEPEST : PyData := (.int 60)
/-- what the module holds -/
structure Txt (K : PySem.W.Frag) (w : World) (mg : Str → Option Value) : Prop where
  nl : noListB K = true
  d__law_draw : DD.DefAt K mg "_law_draw" s__law_draw
  d__law_rules : DD.DefAt K mg "_law_rules" s__law_rules
  d__law_next : DD.DefAt K mg "_law_next" s__law_next
  d__law_grown : DD.DefAt K mg "_law_grown" s__law_grown
  d__law_step : DD.DefAt K mg "_law_step" s__law_step
  d__law_key : DD.DefAt K mg "_law_key" s__law_key
  d__law_first_wrong : DD.DefAt K mg "_law_first_wrong" s__law_first_wrong
  d_ItemWalk__m___init__ : InitAt K mg "ItemWalk" "ItemWalk.__init__" s_ItemWalk__m___init__
  d_ItemWalk__m_expand : MethAt K mg "ItemWalk" "expand" "ItemWalk.expand" s_ItemWalk__m_expand
  d_ItemWalk__m_act : MethAt K mg "ItemWalk" "act" "ItemWalk.act" s_ItemWalk__m_act
  d_ItemWalk__m_meet : MethAt K mg "ItemWalk" "meet" "ItemWalk.meet" s_ItemWalk__m_meet
  d_ItemWalk__m_take : MethAt K mg "ItemWalk" "take" "ItemWalk.take" s_ItemWalk__m_take
  d_terminal : DD.DefAt K mg "terminal" s_terminal
  d_read_item : DD.DefAt K mg "read_item" s_read_item
  d__law_keys : DD.DefAt K mg "_law_keys" s__law_keys
  d__law_could : DD.DefAt K mg "_law_could" s__law_could
  d__law_right : DD.DefAt K mg "_law_right" s__law_right
  d__law_pick : DD.DefAt K mg "_law_pick" s__law_pick
  d__law_token : DD.DefAt K mg "_law_token" s__law_token
  d__law_place : DD.DefAt K mg "_law_place" s__law_place
  d__law_spoilt : DD.DefAt K mg "_law_spoilt" s__law_spoilt
  d__law_ended : DD.DefAt K mg "_law_ended" s__law_ended
  d_law : DD.DefAt K mg "law" s_law
  f_ItemWalk_due : FldF K mg "ItemWalk" "due"
  f_ItemWalk_made : FldF K mg "ItemWalk" "made"
  f_ItemWalk_depth : FldF K mg "ItemWalk" "depth"
  t_RULES : TabF K w mg "RULES" t_RULES
  t_PIECES : TabF K w mg "PIECES" t_PIECES
  k_DEEPENING : ∀ {W : WX} {E : EW} {X : Cx} {pos : Pos}, X.K = K → X.mg = mg → Gl X "DEEPENING" → PD W E X (.Name "DEEPENING" pos) (dC k_DEEPENING)
  k_DEEPEST : ∀ {W : WX} {E : EW} {X : Cx} {pos : Pos}, X.K = K → X.mg = mg → Gl X "DEEPEST" → PD W E X (.Name "DEEPEST" pos) (dC k_DEEPEST)
  n_list : mg "list" = none
  n_len : mg "len" = none
  n_int : mg "int" = none
  n_range : mg "range" = none
  n_sorted : mg "sorted" = none
  n_tuple : mg "tuple" = none
  n_enumerate : mg "enumerate" = none
  n_set : mg "set" = none
  n_isinstance : mg "isinstance" = none
  n_str : mg "str" = none
  n_bool : mg "bool" = none
def N__law_draw : List Str := ["script"]
theorem sc__law_draw : FnScope N__law_draw ["script"] (defScope s__law_draw) := ⟨rfl, rfl, rfl, by decide +kernel, rfl, by decide +kernel, by decide +kernel⟩
def b__law_draw : DTS := (dRet (dNw (dLstN (dCons (dFr (dListN (dCons (dSl (dVar 0) doNone (doSome (dC (.int 63)))) dNil))) (dCons (dC (.int 0)) (dCons (dC (.int 1)) (dCons (dC (.int 7)) dNil)))))))
theorem d__law_draw {P : Program} {w : World} {K : PySem.W.Frag} {mg : Str → Option Value} {base : Heap} (T : Txt K w mg) (f : Addr) (cdv : Value) (A : Around) (outer : List Env) (s : Shared) (H : Hp) (E : XK) (W : WX) (V : EW)
    (hr : Room 0 (A.deeper (envOfC "_law_draw" (defScope s__law_draw) s.heap.objs.size f cdv))) (tk : Takes (cxOf (L2.CX P w) P w K mg base N__law_draw "_law_draw" (defScope s__law_draw) f cdv A outer s H E) W) : SDs W V (cxOf (L2.CX P w) P w K mg base N__law_draw "_law_draw" (defScope s__law_draw) f cdv A outer s H E) (defBody s__law_draw) (b__law_draw) :=
  (sds_one (sd_ret (pd_newS (pdn_lst (pda_cons (pd_new (pdn_list (by rfl) T.n_list boot_list (pda_cons (pd_slice (pd_var 0) pdo_none (pdo_some pd_int)) pda_nil))) (pda_cons pd_int (pda_cons pd_int (pda_cons pd_int pda_nil))))))))
def N__law_rules : List Str := ["rows", "rules", "row", "parts", "ways"]
theorem sc__law_rules : FnScope N__law_rules [] (defScope s__law_rules) := ⟨rfl, rfl, rfl, by decide +kernel, rfl, by decide +kernel, by decide +kernel⟩
def b__law_rules : DTS := (dSeq (dSet 0 (dFr (dLstN (dCons (dC (.str "<item> face face <shown> <shown+> ;")) (dCons (dC (.str "<item> use use Name <as> ;")) (dCons (dC (.str "<item> open open Name <way> ;")) dNil))))))
  (dSeq (dSet 0 (dBin aAddL (dVar 0) (dFr (dLstN (dCons (dC (.str "<item> kind kind Name = <maker> <maker+> ;")) (dCons (dC (.str "<item> def def name <givens> <of?> = <told> ;")) dNil))))))
  (dSeq (dSet 0 (dBin aAddL (dVar 0) (dFr (dLstN (dCons (dC (.str "<shown> name name")) (dCons (dC (.str "<shown> Name Name <all>")) (dCons (dC (.str "<all> ( ( .. )")) (dCons (dC (.str "<all> -")) dNil))))))))
  (dSeq (dSet 0 (dBin aAddL (dVar 0) (dFr (dLstN (dCons (dC (.str "<shown+> , , <shown> <shown+>")) (dCons (dC (.str "<shown+> -")) (dCons (dC (.str "<as> as as Name")) (dCons (dC (.str "<as> -")) dNil))))))))
  (dSeq (dSet 0 (dBin aAddL (dVar 0) (dFr (dLstN (dCons (dC (.str "<way> hiding hiding ( <thing> <thing+> )")) (dCons (dC (.str "<way> ( ( <thing> <thing+> )")) (dCons (dC (.str "<way> -")) dNil)))))))
  (dSeq (dSet 0 (dBin aAddL (dVar 0) (dFr (dLstN (dCons (dC (.str "<thing> name name")) (dCons (dC (.str "<thing> Name Name")) (dCons (dC (.str "<thing+> , , <thing> <thing+>")) (dCons (dC (.str "<thing+> -")) dNil))))))))
  (dSeq (dSet 0 (dBin aAddL (dVar 0) (dFr (dLstN (dCons (dC (.str "<maker> Name Name <parts>")) (dCons (dC (.str "<maker+> | | <maker> <maker+>")) (dCons (dC (.str "<maker+> -")) dNil)))))))
  (dSeq (dSet 0 (dBin aAddL (dVar 0) (dFr (dLstN (dCons (dC (.str "<parts> ( ( <of> <of+> )")) (dCons (dC (.str "<parts> -")) (dCons (dC (.str "<of> Name Name <dot>")) (dCons (dC (.str "<dot> . . Name")) (dCons (dC (.str "<dot> -")) dNil)))))))))
  (dSeq (dSet 0 (dBin aAddL (dVar 0) (dFr (dLstN (dCons (dC (.str "<of+> , , <of> <of+>")) (dCons (dC (.str "<of+> -")) (dCons (dC (.str "<givens> ( ( <given> <given+> )")) (dCons (dC (.str "<givens> -")) dNil))))))))
  (dSeq (dSet 0 (dBin aAddL (dVar 0) (dFr (dLstN (dCons (dC (.str "<given> name name <of?>")) (dCons (dC (.str "<given+> , , <given> <given+>")) (dCons (dC (.str "<given+> -")) (dCons (dC (.str "<of?> : : <of>")) (dCons (dC (.str "<of?> -")) dNil)))))))))
  (dSeq (dSet 0 (dBin aAddL (dVar 0) (dFr (dLstN (dCons (dC (.str "<told> let let name = <told> in <told>")) (dCons (dC (.str "<told> if if <told> then <told> else <told>")) dNil))))))
  (dSeq (dSet 0 (dBin aAddL (dVar 0) (dFr (dLstN (dCons (dC (.str "<told> ( <side> <same>")) (dCons (dC (.str "<told> case <side> <same>")) (dCons (dC (.str "<told> name <side> <same>")) (dCons (dC (.str "<told> Name <side> <same>")) dNil))))))))
  (dSeq (dSet 0 (dBin aAddL (dVar 0) (dFr (dLstN (dCons (dC (.str "<same> == == <side>")) (dCons (dC (.str "<same> -")) (dCons (dC (.str "<side> ( ( <told> )")) (dCons (dC (.str "<side> case case <told> of <arm> <arm+> end")) dNil))))))))
  (dSeq (dSet 0 (dBin aAddL (dVar 0) (dFr (dLstN (dCons (dC (.str "<side> name name <call>")) (dCons (dC (.str "<side> Name Name <far> <call>")) (dCons (dC (.str "<far> . . <last>")) (dCons (dC (.str "<far> -")) dNil))))))))
  (dSeq (dSet 0 (dBin aAddL (dVar 0) (dFr (dLstN (dCons (dC (.str "<last> name name")) (dCons (dC (.str "<last> Name Name")) (dCons (dC (.str "<call> ( ( <told> <told+> )")) (dCons (dC (.str "<call> -")) dNil))))))))
  (dSeq (dSet 0 (dBin aAddL (dVar 0) (dFr (dLstN (dCons (dC (.str "<told+> , , <told> <told+>")) (dCons (dC (.str "<told+> -")) (dCons (dC (.str "<arm> _ <form> -> <told>")) (dCons (dC (.str "<arm> name <form> -> <told>")) dNil))))))))
  (dSeq (dSet 0 (dBin aAddL (dVar 0) (dFr (dLstN (dCons (dC (.str "<arm> Name <form> -> <told>")) (dCons (dC (.str "<arm+> | | <arm> <arm+>")) (dCons (dC (.str "<arm+> -")) (dCons (dC (.str "<form> _ _")) (dCons (dC (.str "<form> name name")) dNil)))))))))
  (dSeq (dSet 0 (dBin aAddL (dVar 0) (dFr (dLstN (dCons (dC (.str "<form> Name Name <dot> <forms>")) (dCons (dC (.str "<forms> ( ( <form> <form+> )")) (dCons (dC (.str "<forms> -")) (dCons (dC (.str "<form+> , , <form> <form+>")) (dCons (dC (.str "<form+> -")) dNil)))))))))
  (dSeq (dSet 1 dDict)
  (dSeq (dFor (dIterE (dVar 0)) (dgName 2)
   (dSeq (dSet 3 (dM mSplit (dVar 2) (dCons (dC (.str " ")) dNil)))
  (dSeq (dSet 4 (dDSetd (dVar 1) (dIx (dVar 3) (dC (.int 0))) dDict))
  (dDPut (dVar 4) (dIx (dVar 3) (dC (.int 1))) (dSl (dVar 3) (doSome (dC (.int 2))) doNone)))))
  (dRet (dVar 1))))))))))))))))))))))
theorem d__law_rules {P : Program} {w : World} {K : PySem.W.Frag} {mg : Str → Option Value} {base : Heap} (T : Txt K w mg) (f : Addr) (cdv : Value) (A : Around) (outer : List Env) (s : Shared) (H : Hp) (E : XK) (W : WX) (V : EW)
    (hr : Room 0 (A.deeper (envOfC "_law_rules" (defScope s__law_rules) s.heap.objs.size f cdv))) (tk : Takes (cxOf (L2.CX P w) P w K mg base N__law_rules "_law_rules" (defScope s__law_rules) f cdv A outer s H E) W) : SDs W V (cxOf (L2.CX P w) P w K mg base N__law_rules "_law_rules" (defScope s__law_rules) f cdv A outer s H E) (defBody s__law_rules) (b__law_rules) :=
  (sds_cons (sd_set (i := 0) sc__law_rules.nd rfl (by first | exact Or.inl rfl | exact Or.inr rfl) (pd_new (pdn_lst (pda_cons pd_str (pda_cons pd_str (pda_cons pd_str pda_nil))))))
  (sds_cons (sd_set (i := 0) sc__law_rules.nd rfl (by first | exact Or.inl rfl | exact Or.inr rfl) (pd_op (od_addL T.nl) (pd_var 0) (pd_new (pdn_lst (pda_cons pd_str (pda_cons pd_str pda_nil))))))
  (sds_cons (sd_set (i := 0) sc__law_rules.nd rfl (by first | exact Or.inl rfl | exact Or.inr rfl) (pd_op (od_addL T.nl) (pd_var 0) (pd_new (pdn_lst (pda_cons pd_str (pda_cons pd_str (pda_cons pd_str (pda_cons pd_str pda_nil))))))))
  (sds_cons (sd_set (i := 0) sc__law_rules.nd rfl (by first | exact Or.inl rfl | exact Or.inr rfl) (pd_op (od_addL T.nl) (pd_var 0) (pd_new (pdn_lst (pda_cons pd_str (pda_cons pd_str (pda_cons pd_str (pda_cons pd_str pda_nil))))))))
  (sds_cons (sd_set (i := 0) sc__law_rules.nd rfl (by first | exact Or.inl rfl | exact Or.inr rfl) (pd_op (od_addL T.nl) (pd_var 0) (pd_new (pdn_lst (pda_cons pd_str (pda_cons pd_str (pda_cons pd_str pda_nil)))))))
  (sds_cons (sd_set (i := 0) sc__law_rules.nd rfl (by first | exact Or.inl rfl | exact Or.inr rfl) (pd_op (od_addL T.nl) (pd_var 0) (pd_new (pdn_lst (pda_cons pd_str (pda_cons pd_str (pda_cons pd_str (pda_cons pd_str pda_nil))))))))
  (sds_cons (sd_set (i := 0) sc__law_rules.nd rfl (by first | exact Or.inl rfl | exact Or.inr rfl) (pd_op (od_addL T.nl) (pd_var 0) (pd_new (pdn_lst (pda_cons pd_str (pda_cons pd_str (pda_cons pd_str pda_nil)))))))
  (sds_cons (sd_set (i := 0) sc__law_rules.nd rfl (by first | exact Or.inl rfl | exact Or.inr rfl) (pd_op (od_addL T.nl) (pd_var 0) (pd_new (pdn_lst (pda_cons pd_str (pda_cons pd_str (pda_cons pd_str (pda_cons pd_str (pda_cons pd_str pda_nil)))))))))
  (sds_cons (sd_set (i := 0) sc__law_rules.nd rfl (by first | exact Or.inl rfl | exact Or.inr rfl) (pd_op (od_addL T.nl) (pd_var 0) (pd_new (pdn_lst (pda_cons pd_str (pda_cons pd_str (pda_cons pd_str (pda_cons pd_str pda_nil))))))))
  (sds_cons (sd_set (i := 0) sc__law_rules.nd rfl (by first | exact Or.inl rfl | exact Or.inr rfl) (pd_op (od_addL T.nl) (pd_var 0) (pd_new (pdn_lst (pda_cons pd_str (pda_cons pd_str (pda_cons pd_str (pda_cons pd_str (pda_cons pd_str pda_nil)))))))))
  (sds_cons (sd_set (i := 0) sc__law_rules.nd rfl (by first | exact Or.inl rfl | exact Or.inr rfl) (pd_op (od_addL T.nl) (pd_var 0) (pd_new (pdn_lst (pda_cons pd_str (pda_cons pd_str pda_nil))))))
  (sds_cons (sd_set (i := 0) sc__law_rules.nd rfl (by first | exact Or.inl rfl | exact Or.inr rfl) (pd_op (od_addL T.nl) (pd_var 0) (pd_new (pdn_lst (pda_cons pd_str (pda_cons pd_str (pda_cons pd_str (pda_cons pd_str pda_nil))))))))
  (sds_cons (sd_set (i := 0) sc__law_rules.nd rfl (by first | exact Or.inl rfl | exact Or.inr rfl) (pd_op (od_addL T.nl) (pd_var 0) (pd_new (pdn_lst (pda_cons pd_str (pda_cons pd_str (pda_cons pd_str (pda_cons pd_str pda_nil))))))))
  (sds_cons (sd_set (i := 0) sc__law_rules.nd rfl (by first | exact Or.inl rfl | exact Or.inr rfl) (pd_op (od_addL T.nl) (pd_var 0) (pd_new (pdn_lst (pda_cons pd_str (pda_cons pd_str (pda_cons pd_str (pda_cons pd_str pda_nil))))))))
  (sds_cons (sd_set (i := 0) sc__law_rules.nd rfl (by first | exact Or.inl rfl | exact Or.inr rfl) (pd_op (od_addL T.nl) (pd_var 0) (pd_new (pdn_lst (pda_cons pd_str (pda_cons pd_str (pda_cons pd_str (pda_cons pd_str pda_nil))))))))
  (sds_cons (sd_set (i := 0) sc__law_rules.nd rfl (by first | exact Or.inl rfl | exact Or.inr rfl) (pd_op (od_addL T.nl) (pd_var 0) (pd_new (pdn_lst (pda_cons pd_str (pda_cons pd_str (pda_cons pd_str (pda_cons pd_str pda_nil))))))))
  (sds_cons (sd_set (i := 0) sc__law_rules.nd rfl (by first | exact Or.inl rfl | exact Or.inr rfl) (pd_op (od_addL T.nl) (pd_var 0) (pd_new (pdn_lst (pda_cons pd_str (pda_cons pd_str (pda_cons pd_str (pda_cons pd_str (pda_cons pd_str pda_nil)))))))))
  (sds_cons (sd_set (i := 0) sc__law_rules.nd rfl (by first | exact Or.inl rfl | exact Or.inr rfl) (pd_op (od_addL T.nl) (pd_var 0) (pd_new (pdn_lst (pda_cons pd_str (pda_cons pd_str (pda_cons pd_str (pda_cons pd_str (pda_cons pd_str pda_nil)))))))))
  (sds_cons (sd_set (i := 1) sc__law_rules.nd rfl (by first | exact Or.inl rfl | exact Or.inr rfl) pd_dict)
  (sds_cons (sd_for (passes_of rfl) rfl (pdi_e (pd_var 0)) (pdg_name (i := 2) sc__law_rules.nd rfl (by first | exact Or.inl rfl | exact Or.inr rfl))
   (sds_cons (sd_set (i := 3) sc__law_rules.nd rfl (by first | exact Or.inl rfl | exact Or.inr rfl) (pd_m1 PySem.F.slot_str_split PySem.F.type_str_split md_split (pd_var 2) pd_str))
  (sds_cons (sd_set (i := 4) sc__law_rules.nd rfl (by first | exact Or.inl rfl | exact Or.inr rfl) (pd_dsetd (pd_var 1) (pd_ix (pd_var 3) pd_int) pd_dict ⟨rfl, rfl, rfl, rfl⟩))
  (sds_one (sd_dput (Nat.lt_of_le_of_lt (Nat.add_le_add_left (by decide) _) hr.units) (pd_var 4) (pd_ix (pd_var 3) pd_int) (pd_slice (pd_var 3) (pdo_some pd_int) pdo_none))))))
  (sds_one (sd_ret (pd_var 1)))))))))))))))))))))))
def N__law_next : List Str := ["draw", "many", "cell", "digit"]
theorem sc__law_next : FnScope N__law_next ["draw", "many"] (defScope s__law_next) := ⟨rfl, rfl, rfl, by decide +kernel, rfl, by decide +kernel, by decide +kernel⟩
def b__law_next : DTS := (dSeq (dIf (dAnd (dCmp cLe (dIx (dVar 0) (dC (.int 2))) (dC (.int 1))) (dCmp cLt (dIx (dVar 0) (dC (.int 1))) (dCB fLen (dCons (dIx (dVar 0) (dC (.int 0))) dNil))))
   (dSeq (dSet 2 (dCB fInt (dCons (dIx (dIx (dVar 0) (dC (.int 0))) (dIx (dVar 0) (dC (.int 1)))) dNil)))
  (dSeq (dSetIx (dVar 0) (dC (.int 1)) (dBin aAddL (dIx (dVar 0) (dC (.int 1))) (dC (.int 1))))
  (dIf (dCmp cGe (dVar 2) (dBin aPow (dC (.int 10)) (dC (.int 18))))
   (dSetIx (dVar 0) (dC (.int 2)) (dVar 2))
   (dSetIx (dVar 0) (dC (.int 3)) (dBin aMod (dCB fInt (dCons (dBin aAddL (dBin aAddL (dBin aMulL (dIx (dVar 0) (dC (.int 3))) (dC (.int 48271))) (dBin aMulL (dVar 2) (dC (.int 69621)))) (dC (.int 11))) dNil)) (dC (.int 2147483647)))))))
   dNext)
  (dSeq (dIf (dCmp cGt (dIx (dVar 0) (dC (.int 2))) (dC (.int 1)))
   (dSeq (dSet 3 (dBin aMod (dCB fInt (dCons (dIx (dVar 0) (dC (.int 2))) dNil)) (dVar 1)))
  (dSeq (dSetIx (dVar 0) (dC (.int 2)) (dBin aDiv (dIx (dVar 0) (dC (.int 2))) (dVar 1)))
  (dRet (dVar 3))))
   dNext)
  (dSeq (dSetIx (dVar 0) (dC (.int 3)) (dBin aMod (dCB fInt (dCons (dBin aAddL (dBin aMulL (dIx (dVar 0) (dC (.int 3))) (dC (.int 48271))) (dC (.int 12345))) dNil)) (dC (.int 2147483647))))
  (dRet (dBin aMod (dBin aDiv (dBin aMod (dCB fInt (dCons (dBin aMulL (dIx (dVar 0) (dC (.int 3))) (dC (.int 69621))) dNil)) (dC (.int 2147483629))) (dC (.int 64))) (dVar 1))))))
theorem d__law_next {P : Program} {w : World} {K : PySem.W.Frag} {mg : Str → Option Value} {base : Heap} (T : Txt K w mg) (f : Addr) (cdv : Value) (A : Around) (outer : List Env) (s : Shared) (H : Hp) (E : XK) (W : WX) (V : EW)
    (hr : Room 0 (A.deeper (envOfC "_law_next" (defScope s__law_next) s.heap.objs.size f cdv))) (tk : Takes (cxOf (L2.CX P w) P w K mg base N__law_next "_law_next" (defScope s__law_next) f cdv A outer s H E) W) : SDs W V (cxOf (L2.CX P w) P w K mg base N__law_next "_law_next" (defScope s__law_next) f cdv A outer s H E) (defBody s__law_next) (b__law_next) :=
  (sds_cons (sd_if (PDW.pt (pdw_and (pdt_cmp oc_le (pd_ix (pd_var 0) pd_int) pd_int) (pdw_and1 (pdt_cmp oc_lt (pd_ix (pd_var 0) pd_int) (pd_callB cd_len (by rfl) T.n_len PySem.boot_len (pda_cons (pd_ix (pd_var 0) pd_int) pda_nil))))))
   (sds_cons (sd_set (i := 2) sc__law_next.nd rfl (by first | exact Or.inl rfl | exact Or.inr rfl) (pd_callT cd_int (by rfl) T.n_int boot_int (pda_cons (pd_ix (pd_ix (pd_var 0) pd_int) (pd_ix (pd_var 0) pd_int)) pda_nil)))
  (sds_cons (sd_setIx (pd_var 0) pd_int (pd_op (od_addL T.nl) (pd_ix (pd_var 0) pd_int) pd_int))
  (sds_one (sd_if (pdt_cmp oc_ge (pd_var 2) (pd_op od_pow pd_int pd_int))
   (sds_one (sd_setIx (pd_var 0) pd_int (pd_var 2)))
   (sds_one (sd_setIx (pd_var 0) pd_int (pd_op od_mod (pd_callT cd_int (by rfl) T.n_int boot_int (pda_cons (pd_op (od_addL T.nl) (pd_op (od_addL T.nl) (pd_op (od_mulL T.nl) (pd_ix (pd_var 0) pd_int) pd_int) (pd_op (od_mulL T.nl) (pd_var 2) pd_int)) pd_int) pda_nil)) pd_int)))))))
   sds_nil)
  (sds_cons (sd_if (pdt_cmp oc_gt (pd_ix (pd_var 0) pd_int) pd_int)
   (sds_cons (sd_set (i := 3) sc__law_next.nd rfl (by first | exact Or.inl rfl | exact Or.inr rfl) (pd_op od_mod (pd_callT cd_int (by rfl) T.n_int boot_int (pda_cons (pd_ix (pd_var 0) pd_int) pda_nil)) (pd_var 1)))
  (sds_cons (sd_setIx (pd_var 0) pd_int (pd_op od_div (pd_ix (pd_var 0) pd_int) (pd_var 1)))
  (sds_one (sd_ret (pd_var 3)))))
   sds_nil)
  (sds_cons (sd_setIx (pd_var 0) pd_int (pd_op od_mod (pd_callT cd_int (by rfl) T.n_int boot_int (pda_cons (pd_op (od_addL T.nl) (pd_op (od_mulL T.nl) (pd_ix (pd_var 0) pd_int) pd_int) pd_int) pda_nil)) pd_int))
  (sds_one (sd_ret (pd_op od_mod (pd_op od_div (pd_op od_mod (pd_callT cd_int (by rfl) T.n_int boot_int (pda_cons (pd_op (od_mulL T.nl) (pd_ix (pd_var 0) pd_int) pd_int) pda_nil)) pd_int) pd_int) (pd_var 1)))))))
def N__law_grown : List Str := ["draw", "rules", "stack", "many", "keys", "k", "top", "ways", "key", "row"]
theorem sc__law_grown : FnScope N__law_grown ["draw", "rules", "stack", "many"] (defScope s__law_grown) := ⟨rfl, rfl, rfl, by decide +kernel, rfl, by decide +kernel, by decide +kernel⟩
def b__law_grown (sp__law_next : DSp) : DTS := (dSeq (dSet 2 (dNw (dListN (dCons (dVar 2) dNil))))
  (dSeq (dSet 4 (dNw (dLstN dNil)))
  (dSeq (dFor (dRng1 (dCons (dC (.int 1500)) dNil)) (dgName 5)
   (dSeq (dIf (dCmp (cEq false) (dCB fLen (dCons (dVar 2) dNil)) (dC (.int 0)))
   dBreak
   dNext)
  (dSeq (dSet 6 (dPop (dVar 2)))
  (dSeq (dIf (dDIn true (dVar 6) (dVar 1))
   (dSeq (dDrop (dApp (dVar 4) (dVar 6)))
  dCont)
   dNext)
  (dSeq (dSet 7 (dFr (dSortN (dFr (dKeysN (dDGet (dVar 1) (dVar 6)))))))
  (dSeq (dSet 8 (dIfE (dCmp cLt (dCB fLen (dCons (dVar 4) dNil)) (dVar 3)) (dIx (dVar 7) (dCall sp__law_next (dCons (dVar 0) (dCons (dCB fLen (dCons (dVar 7) dNil)) dNil)))) (dIfE (dCmp (cIn false) (dC (.str "-")) (dVar 7)) (dC (.str "-")) (dIfE (dCmp (cIn false) (dC (.str "name")) (dVar 7)) (dC (.str "name")) (dIx (dVar 7) (dC (.int 0)))))))
  (dSeq (dSet 9 (dNw (dListN (dCons (dDGet (dDGet (dVar 1) (dVar 6)) (dVar 8)) dNil))))
  (dSeq (dDrop (dRevS (dVar 9)))
  (dDrop (dExt (dVar 2) (dVar 9)))))))))))
  (dRet (dFz (dVar 4))))))
theorem d__law_grown {P : Program} {w : World} {K : PySem.W.Frag} {mg : Str → Option Value} {base : Heap} {sp__law_next : DSp} (T : Txt K w mg) (G__law_next : Ok P w K mg base "_law_next" 1 ["draw", "many"] sp__law_next) (f : Addr) (cdv : Value) (A : Around) (outer : List Env) (s : Shared) (H : Hp) (E : XK) (W : WX) (V : EW)
    (hr : Room 1 (A.deeper (envOfC "_law_grown" (defScope s__law_grown) s.heap.objs.size f cdv))) (tk : Takes (cxOf (L2.CX P w) P w K mg base N__law_grown "_law_grown" (defScope s__law_grown) f cdv A outer s H E) W) : SDs W V (cxOf (L2.CX P w) P w K mg base N__law_grown "_law_grown" (defScope s__law_grown) f cdv A outer s H E) (defBody s__law_grown) (b__law_grown sp__law_next) :=
  (sds_cons (sd_set (i := 2) sc__law_grown.nd rfl (by first | exact Or.inl rfl | exact Or.inr rfl) (pd_newS (pdn_list (by rfl) T.n_list boot_list (pda_cons (pd_var 2) pda_nil))))
  (sds_cons (sd_set (i := 4) sc__law_grown.nd rfl (by first | exact Or.inl rfl | exact Or.inr rfl) (pd_newS (pdn_lst pda_nil)))
  (sds_cons (sd_for (passes_of rfl) rfl (pdi_range1 (by rfl) T.n_range (pda_cons pd_int pda_nil)) (pdg_name (i := 5) sc__law_grown.nd rfl (by first | exact Or.inl rfl | exact Or.inr rfl))
   (sds_cons (sd_if (pdt_cmp (oc_eq hr.units) (pd_callB cd_len (by rfl) T.n_len PySem.boot_len (pda_cons (pd_var 2) pda_nil)) pd_int)
   (sds_one sd_break)
   sds_nil)
  (sds_cons (sd_set (i := 6) sc__law_grown.nd rfl (by first | exact Or.inl rfl | exact Or.inr rfl) (pd_pop (pd_var 2)))
  (sds_cons (sd_if (pdt_dnin (Nat.lt_of_le_of_lt (Nat.add_le_add_left (by decide) _) hr.units) (pd_var 6) (pd_var 1))
   (sds_cons (sd_expr (pd_append (pd_var 4) (pd_var 6)))
  (sds_one sd_continue))
   sds_nil)
  (sds_cons (sd_set (i := 7) sc__law_grown.nd rfl (by first | exact Or.inl rfl | exact Or.inr rfl) (pd_new (pdn_sort (by rfl) T.n_sorted (pd_new (pdn_keys rfl (by rfl) T.n_list boot_list (pd_dget (Nat.lt_of_le_of_lt (Nat.add_le_add_left (by decide) _) hr.units) (pd_var 1) (pd_var 6)))))))
  (sds_cons (sd_set (i := 8) sc__law_grown.nd rfl (by first | exact Or.inl rfl | exact Or.inr rfl) (pd_if (pdt_cmp oc_lt (pd_callB cd_len (by rfl) T.n_len PySem.boot_len (pda_cons (pd_var 4) pda_nil)) (pd_var 3)) (pd_ix (pd_var 7) (pc_ok G__law_next hr (by rfl) (by decide) (pda_cons (pd_var 0) (pda_cons (pd_callB cd_len (by rfl) T.n_len PySem.boot_len (pda_cons (pd_var 7) pda_nil)) pda_nil)))) (pd_if (pdt_cmp oc_in pd_str (pd_var 7)) pd_str (pd_if (pdt_cmp oc_in pd_str (pd_var 7)) pd_str (pd_ix (pd_var 7) pd_int)))))
  (sds_cons (sd_set (i := 9) sc__law_grown.nd rfl (by first | exact Or.inl rfl | exact Or.inr rfl) (pd_newS (pdn_list (by rfl) T.n_list boot_list (pda_cons (pd_dget (Nat.lt_of_le_of_lt (Nat.add_le_add_left (by decide) _) hr.units) (pd_dget (Nat.lt_of_le_of_lt (Nat.add_le_add_left (by decide) _) hr.units) (pd_var 1) (pd_var 6)) (pd_var 8)) pda_nil))))
  (sds_cons (sd_expr (pd_reverse (pd_var 9)))
  (sds_one (sd_expr (pd_extend T.nl (pd_var 2) (pd_var 9))))))))))))
  (sds_one (sd_ret (pd_frz (pd_var 4)))))))
def N__law_step : List Str := ["rules", "stack", "key", "k", "top", "ways", "row"]
theorem sc__law_step : FnScope N__law_step ["rules", "stack", "key"] (defScope s__law_step) := ⟨rfl, rfl, rfl, by decide +kernel, rfl, by decide +kernel, by decide +kernel⟩
def b__law_step : DTS := (dSeq (dSet 1 (dNw (dListN (dCons (dVar 1) dNil))))
  (dSeq (dFor (dRng1 (dCons (dC (.int 900)) dNil)) (dgName 3)
   (dSeq (dIf (dCmp (cEq false) (dCB fLen (dCons (dVar 1) dNil)) (dC (.int 0)))
   (dRet (dC .none))
   dNext)
  (dSeq (dSet 4 (dPop (dVar 1)))
  (dSeq (dIf (dDIn true (dVar 4) (dVar 0))
   (dRet (dFz (dIfE (dCmp (cEq false) (dVar 4) (dVar 2)) (dVar 1) (dC .none))))
   dNext)
  (dSeq (dSet 5 (dDGet (dVar 0) (dVar 4)))
  (dIf (dDIn false (dVar 2) (dVar 5))
   (dSeq (dSet 6 (dNw (dListN (dCons (dDGet (dVar 5) (dVar 2)) dNil))))
  (dSeq (dDrop (dRevS (dVar 6)))
  (dDrop (dExt (dVar 1) (dVar 6)))))
   (dIf (dDIn true (dC (.str "-")) (dVar 5))
   (dRet (dC .none))
   dNext)))))))
  (dRet (dC .none))))
theorem d__law_step {P : Program} {w : World} {K : PySem.W.Frag} {mg : Str → Option Value} {base : Heap} (T : Txt K w mg) (f : Addr) (cdv : Value) (A : Around) (outer : List Env) (s : Shared) (H : Hp) (E : XK) (W : WX) (V : EW)
    (hr : Room 0 (A.deeper (envOfC "_law_step" (defScope s__law_step) s.heap.objs.size f cdv))) (tk : Takes (cxOf (L2.CX P w) P w K mg base N__law_step "_law_step" (defScope s__law_step) f cdv A outer s H E) W) : SDs W V (cxOf (L2.CX P w) P w K mg base N__law_step "_law_step" (defScope s__law_step) f cdv A outer s H E) (defBody s__law_step) (b__law_step) :=
  (sds_cons (sd_set (i := 1) sc__law_step.nd rfl (by first | exact Or.inl rfl | exact Or.inr rfl) (pd_newS (pdn_list (by rfl) T.n_list boot_list (pda_cons (pd_var 1) pda_nil))))
  (sds_cons (sd_for (passes_of rfl) rfl (pdi_range1 (by rfl) T.n_range (pda_cons pd_int pda_nil)) (pdg_name (i := 3) sc__law_step.nd rfl (by first | exact Or.inl rfl | exact Or.inr rfl))
   (sds_cons (sd_if (pdt_cmp (oc_eq hr.units) (pd_callB cd_len (by rfl) T.n_len PySem.boot_len (pda_cons (pd_var 1) pda_nil)) pd_int)
   (sds_one (sd_ret pd_non))
   sds_nil)
  (sds_cons (sd_set (i := 4) sc__law_step.nd rfl (by first | exact Or.inl rfl | exact Or.inr rfl) (pd_pop (pd_var 1)))
  (sds_cons (sd_if (pdt_dnin (Nat.lt_of_le_of_lt (Nat.add_le_add_left (by decide) _) hr.units) (pd_var 4) (pd_var 0))
   (sds_one (sd_ret (pd_frz (pd_if (pdt_cmp (oc_eq hr.units) (pd_var 4) (pd_var 2)) (pd_var 1) pd_non))))
   sds_nil)
  (sds_cons (sd_set (i := 5) sc__law_step.nd rfl (by first | exact Or.inl rfl | exact Or.inr rfl) (pd_dget (Nat.lt_of_le_of_lt (Nat.add_le_add_left (by decide) _) hr.units) (pd_var 0) (pd_var 4)))
  (sds_one (sd_if (pdt_din (Nat.lt_of_le_of_lt (Nat.add_le_add_left (by decide) _) hr.units) (pd_var 2) (pd_var 5))
   (sds_cons (sd_set (i := 6) sc__law_step.nd rfl (by first | exact Or.inl rfl | exact Or.inr rfl) (pd_newS (pdn_list (by rfl) T.n_list boot_list (pda_cons (pd_dget (Nat.lt_of_le_of_lt (Nat.add_le_add_left (by decide) _) hr.units) (pd_var 5) (pd_var 2)) pda_nil))))
  (sds_cons (sd_expr (pd_reverse (pd_var 6)))
  (sds_one (sd_expr (pd_extend T.nl (pd_var 1) (pd_var 6))))))
   (sds_one (sd_if (pdt_dnin (Nat.lt_of_le_of_lt (Nat.add_le_add_left (by decide) _) hr.units) pd_str (pd_var 5))
   (sds_one (sd_ret pd_non))
   sds_nil)))))))))
  (sds_one (sd_ret pd_non))))
def N__law_key : List Str := ["token"]
theorem sc__law_key : FnScope N__law_key ["token"] (defScope s__law_key) := ⟨rfl, rfl, rfl, by decide +kernel, rfl, by decide +kernel, by decide +kernel⟩
def b__law_key : DTS := (dRet (dIfE (dCmp (cIn false) (dIx (dVar 0) (dC (.int 0))) (dTup (dCons (dC (.str "word")) (dCons (dC (.str "sign")) dNil)))) (dIx (dVar 0) (dC (.int 1))) (dIx (dVar 0) (dC (.int 0)))))
theorem d__law_key {P : Program} {w : World} {K : PySem.W.Frag} {mg : Str → Option Value} {base : Heap} (T : Txt K w mg) (f : Addr) (cdv : Value) (A : Around) (outer : List Env) (s : Shared) (H : Hp) (E : XK) (W : WX) (V : EW)
    (hr : Room 0 (A.deeper (envOfC "_law_key" (defScope s__law_key) s.heap.objs.size f cdv))) (tk : Takes (cxOf (L2.CX P w) P w K mg base N__law_key "_law_key" (defScope s__law_key) f cdv A outer s H E) W) : SDs W V (cxOf (L2.CX P w) P w K mg base N__law_key "_law_key" (defScope s__law_key) f cdv A outer s H E) (defBody s__law_key) (b__law_key) :=
  (sds_one (sd_ret (pd_if (pdt_cmp oc_in (pd_ix (pd_var 0) pd_int) (pd_tup (pda_cons pd_str (pda_cons pd_str pda_nil)))) (pd_ix (pd_var 0) pd_int) (pd_ix (pd_var 0) pd_int))))
def N__law_first_wrong : List Str := ["rules", "row", "stack", "at", "after"]
theorem sc__law_first_wrong : FnScope N__law_first_wrong ["rules", "row"] (defScope s__law_first_wrong) := ⟨rfl, rfl, rfl, by decide +kernel, rfl, by decide +kernel, by decide +kernel⟩
def b__law_first_wrong (sp__law_step : DSp) (sp__law_key : DSp) : DTS := (dSeq (dSet 2 (dFr (dLstN (dCons (dC (.str "<item>")) dNil))))
  (dSeq (dFor (dRng1 (dCons (dCB fLen (dCons (dVar 1) dNil)) dNil)) (dgName 3)
   (dSeq (dSet 4 (dCallG sp__law_step (dCons (dVar 0) (dCons (dVar 2) (dCons (dCall sp__law_key (dCons (dIx (dVar 1) (dVar 3)) dNil)) dNil)))))
  (dSeq (dIf (dCmp (cIs false) (dVar 4) (dC .none))
   (dRet (dFr (dLstN (dCons (dVar 3) (dCons (dVar 2) dNil)))))
   dNext)
  (dSet 2 (dVar 4)))))
  (dRet (dFr (dLstN (dCons (dCB fLen (dCons (dVar 1) dNil)) (dCons (dVar 2) dNil)))))))
theorem d__law_first_wrong {P : Program} {w : World} {K : PySem.W.Frag} {mg : Str → Option Value} {base : Heap} {sp__law_step : DSp} {sp__law_key : DSp} (T : Txt K w mg) (G__law_step : Ok P w K mg base "_law_step" 1 ["rules", "stack", "key"] sp__law_step) (G__law_key : Ok P w K mg base "_law_key" 1 ["token"] sp__law_key) (f : Addr) (cdv : Value) (A : Around) (outer : List Env) (s : Shared) (H : Hp) (E : XK) (W : WX) (V : EW)
    (hr : Room 1 (A.deeper (envOfC "_law_first_wrong" (defScope s__law_first_wrong) s.heap.objs.size f cdv))) (tk : Takes (cxOf (L2.CX P w) P w K mg base N__law_first_wrong "_law_first_wrong" (defScope s__law_first_wrong) f cdv A outer s H E) W) : SDs W V (cxOf (L2.CX P w) P w K mg base N__law_first_wrong "_law_first_wrong" (defScope s__law_first_wrong) f cdv A outer s H E) (defBody s__law_first_wrong) (b__law_first_wrong sp__law_step sp__law_key) :=
  (sds_cons (sd_set (i := 2) sc__law_first_wrong.nd rfl (by first | exact Or.inl rfl | exact Or.inr rfl) (pd_new (pdn_lst (pda_cons pd_str pda_nil))))
  (sds_cons (sd_for (passes_of rfl) rfl (pdi_range1 (by rfl) T.n_range (pda_cons (pd_callB cd_len (by rfl) T.n_len PySem.boot_len (pda_cons (pd_var 1) pda_nil)) pda_nil)) (pdg_name (i := 3) sc__law_first_wrong.nd rfl (by first | exact Or.inl rfl | exact Or.inr rfl))
   (sds_cons (sd_set (i := 4) sc__law_first_wrong.nd rfl (by first | exact Or.inl rfl | exact Or.inr rfl) (pcG_ok G__law_step hr (by rfl) (by decide) (pda_cons (pd_var 0) (pda_cons (pd_var 2) (pda_cons (pc_ok G__law_key hr (by rfl) (by decide) (pda_cons (pd_ix (pd_var 1) (pd_var 3)) pda_nil)) pda_nil)))))
  (sds_cons (sd_if (pdt_cmp oc_is (pd_var 4) pd_non)
   (sds_one (sd_ret (pd_new (pdn_lst (pda_cons (pd_var 3) (pda_cons (pd_var 2) pda_nil))))))
   sds_nil)
  (sds_one (sd_set (i := 2) sc__law_first_wrong.nd rfl (by first | exact Or.inl rfl | exact Or.inr rfl) (pd_var 4))))))
  (sds_one (sd_ret (pd_new (pdn_lst (pda_cons (pd_callB cd_len (by rfl) T.n_len PySem.boot_len (pda_cons (pd_var 1) pda_nil)) (pda_cons (pd_var 2) pda_nil))))))))
def N_ItemWalk__m___init__ : List Str := ["self"]
theorem sc_ItemWalk__m___init__ : FnScope N_ItemWalk__m___init__ ["self"] (defScope s_ItemWalk__m___init__) := ⟨rfl, rfl, rfl, by decide +kernel, rfl, by decide +kernel, by decide +kernel⟩
def b_ItemWalk__m___init__ : DTS := (dSeq (dSetFld "ItemWalk" "due" (dVar 0) (dNw (dLstN (dCons (dC (.str "ITEM")) dNil))))
  (dSeq (dSetFld "ItemWalk" "made" (dVar 0) (dLs (dCons (dNw (dLstN dNil)) dNil)))
  (dSetFld "ItemWalk" "depth" (dVar 0) (dC (.int 0)))))
theorem d_ItemWalk__m___init__ {P : Program} {w : World} {K : PySem.W.Frag} {mg : Str → Option Value} {base : Heap} (T : Txt K w mg) (f : Addr) (cdv : Value) (A : Around) (outer : List Env) (s : Shared) (H : Hp) (E : XK) (W : WX) (V : EW)
    (hr : Room 0 (A.deeper (envOfC "ItemWalk.__init__" (defScope s_ItemWalk__m___init__) s.heap.objs.size f cdv))) (tk : Takes (cxOf (L2.CX P w) P w K mg base N_ItemWalk__m___init__ "ItemWalk.__init__" (defScope s_ItemWalk__m___init__) f cdv A outer s H E) W) : SDs W V (cxOf (L2.CX P w) P w K mg base N_ItemWalk__m___init__ "ItemWalk.__init__" (defScope s_ItemWalk__m___init__) f cdv A outer s H E) (defBody s_ItemWalk__m___init__) (b_ItemWalk__m___init__) :=
  (sds_cons (sd_setFld T.f_ItemWalk_due (pd_var 0) (pd_newS (pdn_lst (pda_cons pd_str pda_nil))))
  (sds_cons (sd_setFld T.f_ItemWalk_made (pd_var 0) (pd_ls (pda_cons (pd_newS (pdn_lst pda_nil)) pda_nil)))
  (sds_one (sd_setFld T.f_ItemWalk_depth (pd_var 0) pd_int))))
def N_ItemWalk__m_expand : List Str := ["self", "symbol", "sign", "could", "firsts", "rest"]
theorem sc_ItemWalk__m_expand : FnScope N_ItemWalk__m_expand ["self", "symbol", "sign", "could"] (defScope s_ItemWalk__m_expand) := ⟨rfl, rfl, rfl, by decide +kernel, rfl, by decide +kernel, by decide +kernel⟩
def b_ItemWalk__m_expand : DTS := (dSeq (dFor (dIterE (dTabIx t_RULES (dVar 1))) (dgTup 2 (dgsCons (dgName 4) (dgsCons (dgName 5) dgsNil)))
   (dSeq (dIf (dOr (dNot (dTru (dVar 4))) (dCmp (cIn false) (dVar 2) (dM mWords (dVar 4) dNil)))
   (dSeq (dDrop (dExt (dFld "ItemWalk" "due" (dVar 0)) (dFr (dRevN (dM mWords (dVar 5) dNil)))))
  (dRet (dC (.bool true))))
   dNext)
  (dDrop (dExt (dVar 3) (dM mWords (dVar 4) dNil)))))
  (dRet (dC (.bool false))))
theorem d_ItemWalk__m_expand {P : Program} {w : World} {K : PySem.W.Frag} {mg : Str → Option Value} {base : Heap} (T : Txt K w mg) (f : Addr) (cdv : Value) (A : Around) (outer : List Env) (s : Shared) (H : Hp) (E : XK) (W : WX) (V : EW)
    (hr : Room 0 (A.deeper (envOfC "ItemWalk.expand" (defScope s_ItemWalk__m_expand) s.heap.objs.size f cdv))) (tk : Takes (cxOf (L2.CX P w) P w K mg base N_ItemWalk__m_expand "ItemWalk.expand" (defScope s_ItemWalk__m_expand) f cdv A outer s H E) W) : SDs W V (cxOf (L2.CX P w) P w K mg base N_ItemWalk__m_expand "ItemWalk.expand" (defScope s_ItemWalk__m_expand) f cdv A outer s H E) (defBody s_ItemWalk__m_expand) (b_ItemWalk__m_expand) :=
  (sds_cons (sd_for (passes_of rfl) rfl (pdi_e (pd_tabIx T.t_RULES (by rfl) (pd_var 1))) (pdg_tup rfl (pdgs_cons (pdg_name (i := 4) sc_ItemWalk__m_expand.nd rfl (by first | exact Or.inl rfl | exact Or.inr rfl)) (pdgs_cons (pdg_name (i := 5) sc_ItemWalk__m_expand.nd rfl (by first | exact Or.inl rfl | exact Or.inr rfl)) pdgs_nil)))
   (sds_cons (sd_if (PDW.pt (pdw_or (pdt_not (pdt_tru (pd_var 4))) (pdw_or1 (pdt_cmp oc_in (pd_var 2) (pd_m0 PySem.F.slot_str_split PySem.F.type_str_split md_words (pd_var 4))))))
   (sds_cons (sd_expr (pd_extend T.nl (pd_fld T.f_ItemWalk_due (pd_var 0)) (pd_new (pdn_rev (pd_m0 PySem.F.slot_str_split PySem.F.type_str_split md_words (pd_var 5))))))
  (sds_one (sd_ret pd_bl)))
   sds_nil)
  (sds_one (sd_expr (pd_extend T.nl (pd_var 3) (pd_m0 PySem.F.slot_str_split PySem.F.type_str_split md_words (pd_var 4)))))))
  (sds_one (sd_ret pd_bl)))
def N_ItemWalk__m_act : List Str := ["self", "symbol", "mark", "done", "side"]
theorem sc_ItemWalk__m_act : FnScope N_ItemWalk__m_act ["self", "symbol"] (defScope s_ItemWalk__m_act) := ⟨rfl, rfl, rfl, by decide +kernel, rfl, by decide +kernel, by decide +kernel⟩
def b_ItemWalk__m_act : DTS := (dSeq (dSet 2 (dIx (dVar 1) (dC (.int 0))))
  (dIf (dCmp (cEq false) (dVar 2) (dC (.str "<")))
   (dDrop (dApp (dFld "ItemWalk" "made" (dVar 0)) (dNw (dLstN dNil))))
   (dIf (dCmp (cEq false) (dVar 2) (dC (.str ">")))
   (dSeq (dSet 3 (dCB fTuple (dCons (dPop (dFld "ItemWalk" "made" (dVar 0))) dNil)))
  (dDrop (dApp (dIx (dFld "ItemWalk" "made" (dVar 0)) (dUn aNeg (dC (.int 1)))) (dVar 3))))
   (dIf (dCmp (cEq false) (dVar 2) (dC (.str "'")))
   (dDrop (dApp (dIx (dFld "ItemWalk" "made" (dVar 0)) (dUn aNeg (dC (.int 1)))) (dTabGet t_PIECES (dVar 1) (dSl (dVar 1) (doSome (dC (.int 1))) doNone))))
   (dIf (dCmp (cEq false) (dVar 2) (dC (.str "^")))
   (dDrop (dIns0 (dIx (dFld "ItemWalk" "made" (dVar 0)) (dUn aNeg (dC (.int 1)))) (dSl (dVar 1) (doSome (dC (.int 1))) doNone)))
   (dIf (dCmp (cEq false) (dVar 1) (dC (.str "!same")))
   (dSeq (dSet 4 (dPop (dIx (dFld "ItemWalk" "made" (dVar 0)) (dUn aNeg (dC (.int 1))))))
  (dDrop (dApp (dFld "ItemWalk" "made" (dVar 0)) (dNw (dLstN (dCons (dC (.str "same")) (dCons (dVar 4) dNil)))))))
   (dAugFld "ItemWalk" "depth" (dVar 0) (dC (.int 1)) (· - ·))))))))
theorem d_ItemWalk__m_act {P : Program} {w : World} {K : PySem.W.Frag} {mg : Str → Option Value} {base : Heap} (T : Txt K w mg) (f : Addr) (cdv : Value) (A : Around) (outer : List Env) (s : Shared) (H : Hp) (E : XK) (W : WX) (V : EW)
    (hr : Room 0 (A.deeper (envOfC "ItemWalk.act" (defScope s_ItemWalk__m_act) s.heap.objs.size f cdv))) (tk : Takes (cxOf (L2.CX P w) P w K mg base N_ItemWalk__m_act "ItemWalk.act" (defScope s_ItemWalk__m_act) f cdv A outer s H E) W) : SDs W V (cxOf (L2.CX P w) P w K mg base N_ItemWalk__m_act "ItemWalk.act" (defScope s_ItemWalk__m_act) f cdv A outer s H E) (defBody s_ItemWalk__m_act) (b_ItemWalk__m_act) :=
  (sds_cons (sd_set (i := 2) sc_ItemWalk__m_act.nd rfl (by first | exact Or.inl rfl | exact Or.inr rfl) (pd_ix (pd_var 1) pd_int))
  (sds_one (sd_if (pdt_cmp (oc_eq hr.units) (pd_var 2) pd_str)
   (sds_one (sd_expr (pd_append (pd_fld T.f_ItemWalk_made (pd_var 0)) (pd_newS (pdn_lst pda_nil)))))
   (sds_one (sd_if (pdt_cmp (oc_eq hr.units) (pd_var 2) pd_str)
   (sds_cons (sd_set (i := 3) sc_ItemWalk__m_act.nd rfl (by first | exact Or.inl rfl | exact Or.inr rfl) (pd_callT cd_tuple (by rfl) T.n_tuple boot_tuple (pda_cons (pd_pop (pd_fld T.f_ItemWalk_made (pd_var 0))) pda_nil)))
  (sds_one (sd_expr (pd_append (pd_ix (pd_fld T.f_ItemWalk_made (pd_var 0)) (pd_neg pd_int)) (pd_var 3)))))
   (sds_one (sd_if (pdt_cmp (oc_eq hr.units) (pd_var 2) pd_str)
   (sds_one (sd_expr (pd_append (pd_ix (pd_fld T.f_ItemWalk_made (pd_var 0)) (pd_neg pd_int)) (pd_tabGet T.t_PIECES (by rfl) (pd_var 1) (pd_slice (pd_var 1) (pdo_some pd_int) pdo_none) ⟨rfl, rfl, rfl, rfl⟩))))
   (sds_one (sd_if (pdt_cmp (oc_eq hr.units) (pd_var 2) pd_str)
   (sds_one (sd_expr (pd_insert0 (pd_ix (pd_fld T.f_ItemWalk_made (pd_var 0)) (pd_neg pd_int)) (pd_slice (pd_var 1) (pdo_some pd_int) pdo_none))))
   (sds_one (sd_if (pdt_cmp (oc_eq hr.units) (pd_var 1) pd_str)
   (sds_cons (sd_set (i := 4) sc_ItemWalk__m_act.nd rfl (by first | exact Or.inl rfl | exact Or.inr rfl) (pd_pop (pd_ix (pd_fld T.f_ItemWalk_made (pd_var 0)) (pd_neg pd_int))))
  (sds_one (sd_expr (pd_append (pd_fld T.f_ItemWalk_made (pd_var 0)) (pd_newS (pdn_lst (pda_cons pd_str (pda_cons (pd_var 4) pda_nil))))))))
   (sds_one (augFld in_sub T.f_ItemWalk_depth (pd_var 0) pd_int)))))))))))))
def N_ItemWalk__m_meet : List Str := ["self", "sign", "could", "symbol"]
theorem sc_ItemWalk__m_meet : FnScope N_ItemWalk__m_meet ["self", "sign"] (defScope s_ItemWalk__m_meet) := ⟨rfl, rfl, rfl, by decide +kernel, rfl, by decide +kernel, by decide +kernel⟩
def b_ItemWalk__m_meet (sp_ItemWalk__m_expand : DSp) (sp_ItemWalk__m_act : DSp) : DTS := (dSeq (dSet 2 (dNw (dLstN dNil)))
  (dSeq (dWhile (dTru (dFld "ItemWalk" "due" (dVar 0)))
   (dSeq (dSet 3 (dPop (dFld "ItemWalk" "due" (dVar 0))))
  (dSeq (dIf (dCmp (cEq false) (dVar 3) (dVar 1))
   (dRet (dC .none))
   dNext)
  (dIf (dTabIn false t_RULES (dVar 3))
   (dIf (dNot (dTru (dMeth "ItemWalk" "expand" sp_ItemWalk__m_expand (dVar 0) (dCons (dVar 3) (dCons (dVar 1) (dCons (dVar 2) dNil))))))
   (dRet (dFz (dVar 2)))
   dNext)
   (dIf (dCmp (cIn false) (dIx (dVar 3) (dC (.int 0))) (dC (.str "<>'^!")))
   (dDrop (dMeth "ItemWalk" "act" sp_ItemWalk__m_act (dVar 0) (dCons (dVar 3) dNil)))
   (dSeq (dDrop (dApp (dVar 2) (dVar 3)))
  (dRet (dFz (dVar 2)))))))))
  (dRet (dFz (dVar 2)))))
theorem d_ItemWalk__m_meet {P : Program} {w : World} {K : PySem.W.Frag} {mg : Str → Option Value} {base : Heap} {sp_ItemWalk__m_expand : DSp} {sp_ItemWalk__m_act : DSp} (T : Txt K w mg) (G_ItemWalk__m_expand : MethOk P w K mg base "ItemWalk" "expand" 1 ["self", "symbol", "sign", "could"] sp_ItemWalk__m_expand) (G_ItemWalk__m_act : MethOk P w K mg base "ItemWalk" "act" 1 ["self", "symbol"] sp_ItemWalk__m_act) (f : Addr) (cdv : Value) (A : Around) (outer : List Env) (s : Shared) (H : Hp) (E : XK) (W : WX) (V : EW)
    (hr : Room 1 (A.deeper (envOfC "ItemWalk.meet" (defScope s_ItemWalk__m_meet) s.heap.objs.size f cdv))) (tk : Takes (cxOf (L2.CX P w) P w K mg base N_ItemWalk__m_meet "ItemWalk.meet" (defScope s_ItemWalk__m_meet) f cdv A outer s H E) W) : SDs W V (cxOf (L2.CX P w) P w K mg base N_ItemWalk__m_meet "ItemWalk.meet" (defScope s_ItemWalk__m_meet) f cdv A outer s H E) (defBody s_ItemWalk__m_meet) (b_ItemWalk__m_meet sp_ItemWalk__m_expand sp_ItemWalk__m_act) :=
  (sds_cons (sd_set (i := 2) sc_ItemWalk__m_meet.nd rfl (by first | exact Or.inl rfl | exact Or.inr rfl) (pd_newS (pdn_lst pda_nil)))
  (sds_cons (sd_while (passes_of rfl) (pdt_tru (pd_fld T.f_ItemWalk_due (pd_var 0)))
   (sds_cons (sd_set (i := 3) sc_ItemWalk__m_meet.nd rfl (by first | exact Or.inl rfl | exact Or.inr rfl) (pd_pop (pd_fld T.f_ItemWalk_due (pd_var 0))))
  (sds_cons (sd_if (pdt_cmp (oc_eq hr.units) (pd_var 3) (pd_var 1))
   (sds_one (sd_ret pd_non))
   sds_nil)
  (sds_one (sd_if (pdt_tabIn T.t_RULES (by rfl) (pd_var 3))
   (sds_one (sd_if (pdt_not (pdt_tru (pd_meth G_ItemWalk__m_expand hr (by decide) (pd_var 0) (pda_cons (pd_var 3) (pda_cons (pd_var 1) (pda_cons (pd_var 2) pda_nil))))))
   (sds_one (sd_ret (pd_frz (pd_var 2))))
   sds_nil))
   (sds_one (sd_if (pdt_cmp oc_in (pd_ix (pd_var 3) pd_int) pd_str)
   (sds_one (sd_expr (pd_meth G_ItemWalk__m_act hr (by decide) (pd_var 0) (pda_cons (pd_var 3) pda_nil))))
   (sds_cons (sd_expr (pd_append (pd_var 2) (pd_var 3)))
  (sds_one (sd_ret (pd_frz (pd_var 2))))))))))))
  (sds_one (sd_ret (pd_frz (pd_var 2))))))
def N_ItemWalk__m_take : List Str := ["self", "token"]
theorem sc_ItemWalk__m_take : FnScope N_ItemWalk__m_take ["self", "token"] (defScope s_ItemWalk__m_take) := ⟨rfl, rfl, rfl, by decide +kernel, rfl, by decide +kernel, by decide +kernel⟩
def b_ItemWalk__m_take : DTS := (dIf (dCmp (cIn false) (dIx (dVar 1) (dC (.int 0))) (dTup (dCons (dC (.str "name")) (dCons (dC (.str "Name")) dNil))))
   (dDrop (dApp (dIx (dFld "ItemWalk" "made" (dVar 0)) (dUn aNeg (dC (.int 1)))) (dIx (dVar 1) (dC (.int 1)))))
   (dIf (dCmp (cIn false) (dIx (dVar 1) (dC (.int 1))) (dC k_DEEPENING))
   (dAugFld "ItemWalk" "depth" (dVar 0) (dC (.int 1)) (· + ·))
   (dIf (dCmp (cIn false) (dIx (dVar 1) (dC (.int 1))) (dTup (dCons (dC (.str ")")) (dCons (dC (.str "end")) dNil))))
   (dAugFld "ItemWalk" "depth" (dVar 0) (dC (.int 1)) (· - ·))
   dNext)))
theorem d_ItemWalk__m_take {P : Program} {w : World} {K : PySem.W.Frag} {mg : Str → Option Value} {base : Heap} (T : Txt K w mg) (f : Addr) (cdv : Value) (A : Around) (outer : List Env) (s : Shared) (H : Hp) (E : XK) (W : WX) (V : EW)
    (hr : Room 0 (A.deeper (envOfC "ItemWalk.take" (defScope s_ItemWalk__m_take) s.heap.objs.size f cdv))) (tk : Takes (cxOf (L2.CX P w) P w K mg base N_ItemWalk__m_take "ItemWalk.take" (defScope s_ItemWalk__m_take) f cdv A outer s H E) W) : SDs W V (cxOf (L2.CX P w) P w K mg base N_ItemWalk__m_take "ItemWalk.take" (defScope s_ItemWalk__m_take) f cdv A outer s H E) (defBody s_ItemWalk__m_take) (b_ItemWalk__m_take) :=
  (sds_one (sd_if (pdt_cmp oc_in (pd_ix (pd_var 1) pd_int) (pd_tup (pda_cons pd_str (pda_cons pd_str pda_nil))))
   (sds_one (sd_expr (pd_append (pd_ix (pd_fld T.f_ItemWalk_made (pd_var 0)) (pd_neg pd_int)) (pd_ix (pd_var 1) pd_int))))
   (sds_one (sd_if (pdt_cmp oc_in (pd_ix (pd_var 1) pd_int) (T.k_DEEPENING rfl rfl (by rfl)))
   (sds_one (augFld in_add T.f_ItemWalk_depth (pd_var 0) pd_int))
   (sds_one (sd_if (pdt_cmp oc_in (pd_ix (pd_var 1) pd_int) (pd_tup (pda_cons pd_str (pda_cons pd_str pda_nil))))
   (sds_one (augFld in_sub T.f_ItemWalk_depth (pd_var 0) pd_int))
   sds_nil))))))
def N_terminal : List Str := ["token"]
theorem sc_terminal : FnScope N_terminal ["token"] (defScope s_terminal) := ⟨rfl, rfl, rfl, by decide +kernel, rfl, by decide +kernel, by decide +kernel⟩
def b_terminal : DTS := (dSeq (dIf (dCmp (cIn false) (dIx (dVar 0) (dC (.int 0))) (dTup (dCons (dC (.str "name")) (dCons (dC (.str "Name")) dNil))))
   (dRet (dIx (dVar 0) (dC (.int 0))))
   dNext)
  (dSeq (dIf (dCmp (cIn false) (dIx (dVar 0) (dC (.int 0))) (dTup (dCons (dC (.str "word")) (dCons (dC (.str "sign")) dNil))))
   (dRet (dIx (dVar 0) (dC (.int 1))))
   dNext)
  (dRet (dC (.str "")))))
theorem d_terminal {P : Program} {w : World} {K : PySem.W.Frag} {mg : Str → Option Value} {base : Heap} (T : Txt K w mg) (f : Addr) (cdv : Value) (A : Around) (outer : List Env) (s : Shared) (H : Hp) (E : XK) (W : WX) (V : EW)
    (hr : Room 0 (A.deeper (envOfC "terminal" (defScope s_terminal) s.heap.objs.size f cdv))) (tk : Takes (cxOf (L2.CX P w) P w K mg base N_terminal "terminal" (defScope s_terminal) f cdv A outer s H E) W) : SDs W V (cxOf (L2.CX P w) P w K mg base N_terminal "terminal" (defScope s_terminal) f cdv A outer s H E) (defBody s_terminal) (b_terminal) :=
  (sds_cons (sd_if (pdt_cmp oc_in (pd_ix (pd_var 0) pd_int) (pd_tup (pda_cons pd_str (pda_cons pd_str pda_nil))))
   (sds_one (sd_ret (pd_ix (pd_var 0) pd_int)))
   sds_nil)
  (sds_cons (sd_if (pdt_cmp oc_in (pd_ix (pd_var 0) pd_int) (pd_tup (pda_cons pd_str (pda_cons pd_str pda_nil))))
   (sds_one (sd_ret (pd_ix (pd_var 0) pd_int)))
   sds_nil)
  (sds_one (sd_ret pd_str))))
def N_read_item : List Str := ["stretch", "walk", "place", "token", "could"]
theorem sc_read_item : FnScope N_read_item ["stretch"] (defScope s_read_item) := ⟨rfl, rfl, rfl, by decide +kernel, rfl, by decide +kernel, by decide +kernel⟩
def b_read_item (sp_ItemWalk__m___init__ : DSp) (sp_ItemWalk__m_meet : DSp) (sp_terminal : DSp) (sp_ItemWalk__m_take : DSp) : DTS := (dSeq (dSet 1 (dMake "ItemWalk" sp_ItemWalk__m___init__ dNil))
  (dSeq (dFor (dEnumT (dVar 0)) (dgTup 2 (dgsCons (dgName 2) (dgsCons (dgName 3) dgsNil)))
   (dSeq (dSet 4 (dMeth "ItemWalk" "meet" sp_ItemWalk__m_meet (dVar 1) (dCons (dCall sp_terminal (dCons (dVar 3) dNil)) dNil)))
  (dSeq (dIf (dCmp (cIs true) (dVar 4) (dC .none))
   (dRet (dTup (dCons (dC (.str "wrong")) (dCons (dVar 2) (dCons (dCB fTuple (dCons (dFr (dSortSetN (dVar 4))) dNil)) dNil)))))
   dNext)
  (dSeq (dIf (dCmp cGt (dFld "ItemWalk" "depth" (dVar 1)) (dC k_DEEPEST))
   (dRet (dTup (dCons (dC (.str "deep")) (dCons (dVar 2) dNil))))
   dNext)
  (dDrop (dMeth "ItemWalk" "take" sp_ItemWalk__m_take (dVar 1) (dCons (dVar 3) dNil)))))))
  (dSeq (dSet 4 (dMeth "ItemWalk" "meet" sp_ItemWalk__m_meet (dVar 1) (dCons (dC (.str "")) dNil)))
  (dSeq (dIf (dTru (dVar 4))
   (dRet (dTup (dCons (dC (.str "wrong")) (dCons (dCB fLen (dCons (dVar 0) dNil)) (dCons (dCB fTuple (dCons (dFr (dSortSetN (dVar 4))) dNil)) dNil)))))
   dNext)
  (dRet (dIx (dIx (dFld "ItemWalk" "made" (dVar 1)) (dC (.int 0))) (dC (.int 0))))))))
theorem d_read_item {P : Program} {w : World} {K : PySem.W.Frag} {mg : Str → Option Value} {base : Heap} {sp_ItemWalk__m___init__ : DSp} {sp_ItemWalk__m_meet : DSp} {sp_terminal : DSp} {sp_ItemWalk__m_take : DSp} (T : Txt K w mg) (G_ItemWalk__m___init__ : MakeOk P w K mg base "ItemWalk" 1 ["self"] sp_ItemWalk__m___init__) (G_ItemWalk__m_meet : MethOk P w K mg base "ItemWalk" "meet" 2 ["self", "sign"] sp_ItemWalk__m_meet) (G_terminal : Ok P w K mg base "terminal" 1 ["token"] sp_terminal) (G_ItemWalk__m_take : MethOk P w K mg base "ItemWalk" "take" 1 ["self", "token"] sp_ItemWalk__m_take) (f : Addr) (cdv : Value) (A : Around) (outer : List Env) (s : Shared) (H : Hp) (E : XK) (W : WX) (V : EW)
    (hr : Room 2 (A.deeper (envOfC "read_item" (defScope s_read_item) s.heap.objs.size f cdv))) (tk : Takes (cxOf (L2.CX P w) P w K mg base N_read_item "read_item" (defScope s_read_item) f cdv A outer s H E) W) : SDs W V (cxOf (L2.CX P w) P w K mg base N_read_item "read_item" (defScope s_read_item) f cdv A outer s H E) (defBody s_read_item) (b_read_item sp_ItemWalk__m___init__ sp_ItemWalk__m_meet sp_terminal sp_ItemWalk__m_take) :=
  (sds_cons (sd_set (i := 1) sc_read_item.nd rfl (by first | exact Or.inl rfl | exact Or.inr rfl) (pd_make0 G_ItemWalk__m___init__ hr (by rfl) (by decide)))
  (sds_cons (sd_for (passes_of rfl) rfl (pdi_enumT (by rfl) T.n_enumerate (pd_var 0)) (pdg_tup rfl (pdgs_cons (pdg_name (i := 2) sc_read_item.nd rfl (by first | exact Or.inl rfl | exact Or.inr rfl)) (pdgs_cons (pdg_name (i := 3) sc_read_item.nd rfl (by first | exact Or.inl rfl | exact Or.inr rfl)) pdgs_nil)))
   (sds_cons (sd_set (i := 4) sc_read_item.nd rfl (by first | exact Or.inl rfl | exact Or.inr rfl) (pd_meth G_ItemWalk__m_meet hr (by decide) (pd_var 1) (pda_cons (pc_ok G_terminal hr (by rfl) (by decide) (pda_cons (pd_var 3) pda_nil)) pda_nil)))
  (sds_cons (sd_if (pdt_cmp oc_isnot (pd_var 4) pd_non)
   (sds_one (sd_ret (pd_tup (pda_cons pd_str (pda_cons (pd_var 2) (pda_cons (pd_callT cd_tuple (by rfl) T.n_tuple boot_tuple (pda_cons (pd_new (pdn_sortSet rfl (by rfl) T.n_sorted (by rfl) T.n_set (pd_var 4))) pda_nil)) pda_nil))))))
   sds_nil)
  (sds_cons (sd_if (pdt_cmp oc_gt (pd_fld T.f_ItemWalk_depth (pd_var 1)) (T.k_DEEPEST rfl rfl (by rfl)))
   (sds_one (sd_ret (pd_tup (pda_cons pd_str (pda_cons (pd_var 2) pda_nil)))))
   sds_nil)
  (sds_one (sd_expr (pd_meth G_ItemWalk__m_take hr (by decide) (pd_var 1) (pda_cons (pd_var 3) pda_nil))))))))
  (sds_cons (sd_set (i := 4) sc_read_item.nd rfl (by first | exact Or.inl rfl | exact Or.inr rfl) (pd_meth G_ItemWalk__m_meet hr (by decide) (pd_var 1) (pda_cons pd_str pda_nil)))
  (sds_cons (sd_if (pdt_tru (pd_var 4))
   (sds_one (sd_ret (pd_tup (pda_cons pd_str (pda_cons (pd_callB cd_len (by rfl) T.n_len PySem.boot_len (pda_cons (pd_var 0) pda_nil)) (pda_cons (pd_callT cd_tuple (by rfl) T.n_tuple boot_tuple (pda_cons (pd_new (pdn_sortSet rfl (by rfl) T.n_sorted (by rfl) T.n_set (pd_var 4))) pda_nil)) pda_nil))))))
   sds_nil)
  (sds_one (sd_ret (pd_ix (pd_ix (pd_fld T.f_ItemWalk_made (pd_var 1)) pd_int) pd_int)))))))
def N__law_keys : List Str := ["words"]
theorem sc__law_keys : FnScope N__law_keys [] (defScope s__law_keys) := ⟨rfl, rfl, rfl, by decide +kernel, rfl, by decide +kernel, by decide +kernel⟩
def b__law_keys : DTS := (dSeq (dSet 0 (dC (.str "face use as open hiding kind def let in if then else case of end name Name")))
  (dRet (dFr (dSortN (dM mSplit (dBin aAddL (dVar 0) (dC (.str " ( ) , ; . : = | _ .. == ->"))) (dCons (dC (.str " ")) dNil))))))
theorem d__law_keys {P : Program} {w : World} {K : PySem.W.Frag} {mg : Str → Option Value} {base : Heap} (T : Txt K w mg) (f : Addr) (cdv : Value) (A : Around) (outer : List Env) (s : Shared) (H : Hp) (E : XK) (W : WX) (V : EW)
    (hr : Room 0 (A.deeper (envOfC "_law_keys" (defScope s__law_keys) s.heap.objs.size f cdv))) (tk : Takes (cxOf (L2.CX P w) P w K mg base N__law_keys "_law_keys" (defScope s__law_keys) f cdv A outer s H E) W) : SDs W V (cxOf (L2.CX P w) P w K mg base N__law_keys "_law_keys" (defScope s__law_keys) f cdv A outer s H E) (defBody s__law_keys) (b__law_keys) :=
  (sds_cons (sd_set (i := 0) sc__law_keys.nd rfl (by first | exact Or.inl rfl | exact Or.inr rfl) pd_str)
  (sds_one (sd_ret (pd_new (pdn_sort (by rfl) T.n_sorted (pd_m1 PySem.F.slot_str_split PySem.F.type_str_split md_split (pd_op (od_addL T.nl) (pd_var 0) pd_str) pd_str))))))
def N__law_could : List Str := ["rules", "stack", "key"]
theorem sc__law_could : FnScope N__law_could ["rules", "stack"] (defScope s__law_could) := ⟨rfl, rfl, rfl, by decide +kernel, rfl, by decide +kernel, by decide +kernel⟩
def b__law_could (sp__law_keys : DSp) (sp__law_step : DSp) : DTS := (dRet (dCB fTuple (dCons (dFr (dLc (dIterE (dCall sp__law_keys dNil)) (dgName 2) (dCmp (cIs true) (dCallG sp__law_step (dCons (dVar 0) (dCons (dVar 1) (dCons (dVar 2) dNil)))) (dC .none)) (dVar 2) [2])) dNil)))
theorem d__law_could {P : Program} {w : World} {K : PySem.W.Frag} {mg : Str → Option Value} {base : Heap} {sp__law_keys : DSp} {sp__law_step : DSp} (T : Txt K w mg) (G__law_keys : Ok P w K mg base "_law_keys" 1 [] sp__law_keys) (G__law_step : Ok P w K mg base "_law_step" 1 ["rules", "stack", "key"] sp__law_step) (f : Addr) (cdv : Value) (A : Around) (outer : List Env) (s : Shared) (H : Hp) (E : XK) (W : WX) (V : EW)
    (hr : Room 1 (A.deeper (envOfC "_law_could" (defScope s__law_could) s.heap.objs.size f cdv))) (tk : Takes (cxOf (L2.CX P w) P w K mg base N__law_could "_law_could" (defScope s__law_could) f cdv A outer s H E) W) : SDs W V (cxOf (L2.CX P w) P w K mg base N__law_could "_law_could" (defScope s__law_could) f cdv A outer s H E) (defBody s__law_could) (b__law_could sp__law_keys sp__law_step) :=
  (sds_one (sd_ret (pd_callT cd_tuple (by rfl) T.n_tuple boot_tuple (pda_cons (pd_new (pdn_lc (own := [("key", 2)]) rfl sc__law_could.nd (pdi_e (pc_ok0 G__law_keys hr (by rfl) (by decide))) (blkOk_by (own := [("key", 2)]) (N := N__law_could) (sc := defScope s__law_could) (by decide +kernel)) (fun _ _ _ _ _ => (pdg_name (i := 2) sc__law_could.nd rfl (by first | exact Or.inl rfl | exact Or.inr rfl))) (fun _ _ _ _ _ => (pdts_one (pdt_cmp oc_isnot (pcG_ok G__law_step hr (by rfl) (by decide) (pda_cons (pd_var 0) (pda_cons (pd_var 1) (pda_cons (pd_var 2) pda_nil)))) pd_non))) (fun _ _ _ _ _ => (pd_var 2)))) pda_nil))))
def N__law_right : List Str := ["rules", "row", "wrong", "told"]
theorem sc__law_right : FnScope N__law_right ["rules", "row"] (defScope s__law_right) := ⟨rfl, rfl, rfl, by decide +kernel, rfl, by decide +kernel, by decide +kernel⟩
def b__law_right (sp__law_first_wrong : DSp) (sp_read_item : DSp) (sp__law_could : DSp) : DTS := (dSeq (dSet 2 (dCallG sp__law_first_wrong (dCons (dVar 0) (dCons (dVar 1) dNil))))
  (dSeq (dSet 3 (dCall sp_read_item (dCons (dCB fTuple (dCons (dVar 1) dNil)) dNil)))
  (dSeq (dIf (dOr (dNot (dTru (dIsi "tuple" (dVar 3)))) (dCmp cLt (dCB fLen (dCons (dVar 3) dNil)) (dC (.int 2))))
   (dRet (dC (.bool false)))
   dNext)
  (dSeq (dIf (dAnd (dCmp (cEq false) (dIx (dVar 2) (dC (.int 0))) (dCB fLen (dCons (dVar 1) dNil))) (dCmp (cEq false) (dCB fLen (dCons (dIx (dVar 2) (dC (.int 1))) dNil)) (dC (.int 0))))
   (dRet (dAndV (dIsi "str" (dIx (dVar 3) (dC (.int 0)))) (dB (dCmp (cEq false) (dIx (dVar 3) (dC (.int 0))) (dIx (dIx (dVar 1) (dC (.int 0))) (dC (.int 1)))))))
   dNext)
  (dSeq (dIf (dOr (dCmp (cEq true) (dCB fLen (dCons (dVar 3) dNil)) (dC (.int 3))) (dOr (dCmp (cEq true) (dIx (dVar 3) (dC (.int 0))) (dC (.str "wrong"))) (dOr (dNot (dTru (dIsi "str" (dIx (dVar 3) (dC (.int 0)))))) (dOr (dNot (dTru (dIsi "int" (dIx (dVar 3) (dC (.int 1)))))) (dTru (dIsi "bool" (dIx (dVar 3) (dC (.int 1)))))))))
   (dRet (dC (.bool false)))
   dNext)
  (dRet (dAndV (dB (dCmp (cEq false) (dIx (dVar 3) (dC (.int 1))) (dIx (dVar 2) (dC (.int 0))))) (dAndV (dIsi "tuple" (dIx (dVar 3) (dC (.int 2)))) (dB (dCmp (cEq false) (dIx (dVar 3) (dC (.int 2))) (dCallG sp__law_could (dCons (dVar 0) (dCons (dIx (dVar 2) (dC (.int 1))) dNil)))))))))))))
theorem d__law_right {P : Program} {w : World} {K : PySem.W.Frag} {mg : Str → Option Value} {base : Heap} {sp__law_first_wrong : DSp} {sp_read_item : DSp} {sp__law_could : DSp} (T : Txt K w mg) (G__law_first_wrong : Ok P w K mg base "_law_first_wrong" 2 ["rules", "row"] sp__law_first_wrong) (G_read_item : Ok P w K mg base "read_item" 3 ["stretch"] sp_read_item) (G__law_could : Ok P w K mg base "_law_could" 2 ["rules", "stack"] sp__law_could) (f : Addr) (cdv : Value) (A : Around) (outer : List Env) (s : Shared) (H : Hp) (E : XK) (W : WX) (V : EW)
    (hr : Room 3 (A.deeper (envOfC "_law_right" (defScope s__law_right) s.heap.objs.size f cdv))) (tk : Takes (cxOf (L2.CX P w) P w K mg base N__law_right "_law_right" (defScope s__law_right) f cdv A outer s H E) W) : SDs W V (cxOf (L2.CX P w) P w K mg base N__law_right "_law_right" (defScope s__law_right) f cdv A outer s H E) (defBody s__law_right) (b__law_right sp__law_first_wrong sp_read_item sp__law_could) :=
  (sds_cons (sd_set (i := 2) sc__law_right.nd rfl (by first | exact Or.inl rfl | exact Or.inr rfl) (pcG_ok G__law_first_wrong hr (by rfl) (by decide) (pda_cons (pd_var 0) (pda_cons (pd_var 1) pda_nil))))
  (sds_cons (sd_set (i := 3) sc__law_right.nd rfl (by first | exact Or.inl rfl | exact Or.inr rfl) (pc_ok G_read_item hr (by rfl) (by decide) (pda_cons (pd_callT cd_tuple (by rfl) T.n_tuple boot_tuple (pda_cons (pd_var 1) pda_nil)) pda_nil)))
  (sds_cons (sd_if (PDW.pt (pdw_or (pdt_not (pdt_tru (pd_isi (by rfl) T.n_isinstance (by rfl) T.n_tuple (by decide +kernel) (pd_var 3)))) (pdw_or1 (pdt_cmp oc_lt (pd_callB cd_len (by rfl) T.n_len PySem.boot_len (pda_cons (pd_var 3) pda_nil)) pd_int))))
   (sds_one (sd_ret pd_bl))
   sds_nil)
  (sds_cons (sd_if (PDW.pt (pdw_and (pdt_cmp (oc_eq hr.units) (pd_ix (pd_var 2) pd_int) (pd_callB cd_len (by rfl) T.n_len PySem.boot_len (pda_cons (pd_var 1) pda_nil))) (pdw_and1 (pdt_cmp (oc_eq hr.units) (pd_callB cd_len (by rfl) T.n_len PySem.boot_len (pda_cons (pd_ix (pd_var 2) pd_int) pda_nil)) pd_int))))
   (sds_one (sd_ret (pd_and (pd_isi (by rfl) T.n_isinstance (by rfl) T.n_str (by decide +kernel) (pd_ix (pd_var 3) pd_int)) (pd_one (pd_cmp (oc_eq hr.units) (pd_ix (pd_var 3) pd_int) (pd_ix (pd_ix (pd_var 1) pd_int) pd_int))))))
   sds_nil)
  (sds_cons (sd_if (PDW.pt (pdw_or (pdt_cmp (oc_ne hr.units) (pd_callB cd_len (by rfl) T.n_len PySem.boot_len (pda_cons (pd_var 3) pda_nil)) pd_int) (pdw_or (pdt_cmp (oc_ne hr.units) (pd_ix (pd_var 3) pd_int) pd_str) (pdw_or (pdt_not (pdt_tru (pd_isi (by rfl) T.n_isinstance (by rfl) T.n_str (by decide +kernel) (pd_ix (pd_var 3) pd_int)))) (pdw_or (pdt_not (pdt_tru (pd_isi (by rfl) T.n_isinstance (by rfl) T.n_int (by decide +kernel) (pd_ix (pd_var 3) pd_int)))) (pdw_or1 (pdt_tru (pd_isi (by rfl) T.n_isinstance (by rfl) T.n_bool (by decide +kernel) (pd_ix (pd_var 3) pd_int)))))))))
   (sds_one (sd_ret pd_bl))
   sds_nil)
  (sds_one (sd_ret (pd_and (pd_cmp (oc_eq hr.units) (pd_ix (pd_var 3) pd_int) (pd_ix (pd_var 2) pd_int)) (pd_and (pd_isi (by rfl) T.n_isinstance (by rfl) T.n_tuple (by decide +kernel) (pd_ix (pd_var 3) pd_int)) (pd_one (pd_cmp (oc_eq hr.units) (pd_ix (pd_var 3) pd_int) (pcG_ok G__law_could hr (by rfl) (by decide) (pda_cons (pd_var 0) (pda_cons (pd_ix (pd_var 2) pd_int) pda_nil))))))))))))))
def N__law_pick : List Str := ["draw", "row"]
theorem sc__law_pick : FnScope N__law_pick ["draw", "row"] (defScope s__law_pick) := ⟨rfl, rfl, rfl, by decide +kernel, rfl, by decide +kernel, by decide +kernel⟩
def b__law_pick (sp__law_next : DSp) : DTS := (dRet (dIx (dVar 1) (dCall sp__law_next (dCons (dVar 0) (dCons (dCB fLen (dCons (dVar 1) dNil)) dNil)))))
theorem d__law_pick {P : Program} {w : World} {K : PySem.W.Frag} {mg : Str → Option Value} {base : Heap} {sp__law_next : DSp} (T : Txt K w mg) (G__law_next : Ok P w K mg base "_law_next" 1 ["draw", "many"] sp__law_next) (f : Addr) (cdv : Value) (A : Around) (outer : List Env) (s : Shared) (H : Hp) (E : XK) (W : WX) (V : EW)
    (hr : Room 1 (A.deeper (envOfC "_law_pick" (defScope s__law_pick) s.heap.objs.size f cdv))) (tk : Takes (cxOf (L2.CX P w) P w K mg base N__law_pick "_law_pick" (defScope s__law_pick) f cdv A outer s H E) W) : SDs W V (cxOf (L2.CX P w) P w K mg base N__law_pick "_law_pick" (defScope s__law_pick) f cdv A outer s H E) (defBody s__law_pick) (b__law_pick sp__law_next) :=
  (sds_one (sd_ret (pd_ix (pd_var 1) (pc_ok G__law_next hr (by rfl) (by decide) (pda_cons (pd_var 0) (pda_cons (pd_callB cd_len (by rfl) T.n_len PySem.boot_len (pda_cons (pd_var 1) pda_nil)) pda_nil))))))
def N__law_token : List Str := ["draw", "key"]
theorem sc__law_token : FnScope N__law_token ["draw", "key"] (defScope s__law_token) := ⟨rfl, rfl, rfl, by decide +kernel, rfl, by decide +kernel, by decide +kernel⟩
def b__law_token (sp__law_pick : DSp) : DTS := (dSeq (dIf (dCmp (cEq false) (dVar 1) (dC (.str "name")))
   (dRet (dTup (dCons (dC (.str "name")) (dCons (dCall sp__law_pick (dCons (dVar 0) (dCons (dFr (dLstN (dCons (dC (.str "a")) (dCons (dC (.str "b2")) (dCons (dC (.str "x_Y")) (dCons (dC (.str "faces")) (dCons (dC (.str "lets")) (dCons (dC (.str "name")) (dCons (dC (.str "u9_")) dNil))))))))) dNil))) dNil))))
   dNext)
  (dSeq (dIf (dCmp (cEq false) (dVar 1) (dC (.str "Name")))
   (dRet (dTup (dCons (dC (.str "Name")) (dCons (dCall sp__law_pick (dCons (dVar 0) (dCons (dFr (dLstN (dCons (dC (.str "A")) (dCons (dC (.str "B2")) (dCons (dC (.str "Cc_")) (dCons (dC (.str "Name")) (dCons (dC (.str "Def")) (dCons (dC (.str "K")) dNil)))))))) dNil))) dNil))))
   dNext)
  (dSeq (dIf (dCmp (cEq false) (dVar 1) (dC (.str "wrong")))
   (dRet (dTup (dCons (dC (.str "wrong")) (dCons (dCall sp__law_pick (dCons (dVar 0) (dCons (dFr (dLstN (dCons (dC (.str "9a")) (dCons (dC (.str "@")) (dCons (dC (.str "__")) (dCons (dC (.str "-")) (dCons (dC (.str "_x")) (dCons (dC (.str "\"")) (dCons (dC (.str "0")) dNil))))))))) dNil))) dNil))))
   dNext)
  (dRet (dTup (dCons (dIfE (dCmp (cIn false) (dIx (dVar 1) (dC (.int 0))) (dC (.str "abcdefghijklmnopqrstuvwxyz"))) (dC (.str "word")) (dC (.str "sign"))) (dCons (dVar 1) dNil)))))))
theorem d__law_token {P : Program} {w : World} {K : PySem.W.Frag} {mg : Str → Option Value} {base : Heap} {sp__law_pick : DSp} (T : Txt K w mg) (G__law_pick : Ok P w K mg base "_law_pick" 2 ["draw", "row"] sp__law_pick) (f : Addr) (cdv : Value) (A : Around) (outer : List Env) (s : Shared) (H : Hp) (E : XK) (W : WX) (V : EW)
    (hr : Room 2 (A.deeper (envOfC "_law_token" (defScope s__law_token) s.heap.objs.size f cdv))) (tk : Takes (cxOf (L2.CX P w) P w K mg base N__law_token "_law_token" (defScope s__law_token) f cdv A outer s H E) W) : SDs W V (cxOf (L2.CX P w) P w K mg base N__law_token "_law_token" (defScope s__law_token) f cdv A outer s H E) (defBody s__law_token) (b__law_token sp__law_pick) :=
  (sds_cons (sd_if (pdt_cmp (oc_eq hr.units) (pd_var 1) pd_str)
   (sds_one (sd_ret (pd_tup (pda_cons pd_str (pda_cons (pc_ok G__law_pick hr (by rfl) (by decide) (pda_cons (pd_var 0) (pda_cons (pd_new (pdn_lst (pda_cons pd_str (pda_cons pd_str (pda_cons pd_str (pda_cons pd_str (pda_cons pd_str (pda_cons pd_str (pda_cons pd_str pda_nil))))))))) pda_nil))) pda_nil)))))
   sds_nil)
  (sds_cons (sd_if (pdt_cmp (oc_eq hr.units) (pd_var 1) pd_str)
   (sds_one (sd_ret (pd_tup (pda_cons pd_str (pda_cons (pc_ok G__law_pick hr (by rfl) (by decide) (pda_cons (pd_var 0) (pda_cons (pd_new (pdn_lst (pda_cons pd_str (pda_cons pd_str (pda_cons pd_str (pda_cons pd_str (pda_cons pd_str (pda_cons pd_str pda_nil)))))))) pda_nil))) pda_nil)))))
   sds_nil)
  (sds_cons (sd_if (pdt_cmp (oc_eq hr.units) (pd_var 1) pd_str)
   (sds_one (sd_ret (pd_tup (pda_cons pd_str (pda_cons (pc_ok G__law_pick hr (by rfl) (by decide) (pda_cons (pd_var 0) (pda_cons (pd_new (pdn_lst (pda_cons pd_str (pda_cons pd_str (pda_cons pd_str (pda_cons pd_str (pda_cons pd_str (pda_cons pd_str (pda_cons pd_str pda_nil))))))))) pda_nil))) pda_nil)))))
   sds_nil)
  (sds_one (sd_ret (pd_tup (pda_cons (pd_if (pdt_cmp oc_in (pd_ix (pd_var 1) pd_int) pd_str) pd_str pd_str) (pda_cons (pd_var 1) pda_nil))))))))
def N__law_place : List Str := ["draw", "row", "keys", "token", "key", "spots", "at"]
theorem sc__law_place : FnScope N__law_place ["draw", "row"] (defScope s__law_place) := ⟨rfl, rfl, rfl, by decide +kernel, rfl, by decide +kernel, by decide +kernel⟩
def b__law_place (sp__law_key : DSp) (sp__law_pick : DSp) : DTS := (dSeq (dSet 2 (dFr (dLc (dIterE (dSl (dVar 1) doNone (doSome (dUn aNeg (dC (.int 1)))))) (dgName 3) dYes (dCall sp__law_key (dCons (dVar 3) dNil)) [3])))
  (dSeq (dSet 4 (dCall sp__law_pick (dCons (dVar 0) (dCons (dBin aAddL (dFr (dLstN (dCons (dC (.str "")) dNil))) (dFr (dSortSetN (dVar 2)))) dNil))))
  (dSeq (dSetF 5 (dLc (dRng1 (dCons (dCB fLen (dCons (dVar 2) dNil)) dNil)) (dgName 6) (dCmp (cEq false) (dIx (dVar 2) (dVar 6)) (dVar 4)) (dBin aAddL (dVar 6) (dC (.int 1))) [6]))
  (dRet (dIfE (dCmp (cEq false) (dCB fLen (dCons (dVar 5) dNil)) (dC (.int 0))) (dC (.int 0)) (dCall sp__law_pick (dCons (dVar 0) (dCons (dVar 5) dNil))))))))
theorem d__law_place {P : Program} {w : World} {K : PySem.W.Frag} {mg : Str → Option Value} {base : Heap} {sp__law_key : DSp} {sp__law_pick : DSp} (T : Txt K w mg) (G__law_key : Ok P w K mg base "_law_key" 1 ["token"] sp__law_key) (G__law_pick : Ok P w K mg base "_law_pick" 2 ["draw", "row"] sp__law_pick) (f : Addr) (cdv : Value) (A : Around) (outer : List Env) (s : Shared) (H : Hp) (E : XK) (W : WX) (V : EW)
    (hr : Room 2 (A.deeper (envOfC "_law_place" (defScope s__law_place) s.heap.objs.size f cdv))) (tk : Takes (cxOf (L2.CX P w) P w K mg base N__law_place "_law_place" (defScope s__law_place) f cdv A outer s H E) W) : SDs W V (cxOf (L2.CX P w) P w K mg base N__law_place "_law_place" (defScope s__law_place) f cdv A outer s H E) (defBody s__law_place) (b__law_place sp__law_key sp__law_pick) :=
  (sds_cons (sd_set (i := 2) sc__law_place.nd rfl (by first | exact Or.inl rfl | exact Or.inr rfl) (pd_new (pdn_lc (own := [("token", 3)]) rfl sc__law_place.nd (pdi_e (pd_slice (pd_var 1) pdo_none (pdo_some (pd_neg pd_int)))) (blkOk_by (own := [("token", 3)]) (N := N__law_place) (sc := defScope s__law_place) (by decide +kernel)) (fun _ _ _ _ _ => (pdg_name (i := 3) sc__law_place.nd rfl (by first | exact Or.inl rfl | exact Or.inr rfl))) (fun _ _ _ _ _ => pdts_nil) (fun _ _ _ _ _ => (pc_ok G__law_key hr (by rfl) (by decide) (pda_cons (pd_var 3) pda_nil))))))
  (sds_cons (sd_set (i := 4) sc__law_place.nd rfl (by first | exact Or.inl rfl | exact Or.inr rfl) (pc_ok G__law_pick hr (by rfl) (by decide) (pda_cons (pd_var 0) (pda_cons (pd_op (od_addL T.nl) (pd_new (pdn_lst (pda_cons pd_str pda_nil))) (pd_new (pdn_sortSet rfl (by rfl) T.n_sorted (by rfl) T.n_set (pd_var 2)))) pda_nil))))
  (sds_cons ((sd_setLcG (i := 5) (own := [("at", 6)]) rfl sc__law_place.nd rfl rfl (sw_true rfl rfl rfl (by decide +kernel)) (pdi_range1 (by rfl) T.n_range (pda_cons (pd_callB cd_len (by rfl) T.n_len PySem.boot_len (pda_cons (pd_var 2) pda_nil)) pda_nil)) (blkOk_by (own := [("at", 6)]) (N := N__law_place) (sc := defScope s__law_place) (by decide +kernel)) (fun _ _ _ _ _ => (pdg_name (i := 6) sc__law_place.nd rfl (by first | exact Or.inl rfl | exact Or.inr rfl))) (fun _ _ _ _ _ => (pdts_one (pdt_cmp (oc_eq hr.units) (pd_ix (pd_var 2) (pd_var 6)) (pd_var 4)))) (fun _ _ _ _ _ => (pd_op (od_addL T.nl) (pd_var 6) pd_int))).2)
  (sds_one (sd_ret (pd_if (pdt_cmp (oc_eq hr.units) (pd_callB cd_len (by rfl) T.n_len PySem.boot_len (pda_cons (pd_var 5) pda_nil)) pd_int) pd_int (pc_ok G__law_pick hr (by rfl) (by decide) (pda_cons (pd_var 0) (pda_cons (pd_var 5) pda_nil)))))))))
def N__law_spoilt : List Str := ["draw", "row", "at", "five", "key"]
theorem sc__law_spoilt : FnScope N__law_spoilt ["draw", "row", "at"] (defScope s__law_spoilt) := ⟨rfl, rfl, rfl, by decide +kernel, rfl, by decide +kernel, by decide +kernel⟩
def b__law_spoilt (sp__law_pick : DSp) (sp__law_keys : DSp) (sp__law_token : DSp) (sp__law_next : DSp) : DTS := (dSeq (dSet 3 (dFr (dLstN (dCons (dC (.str "face")) (dCons (dC (.str "use")) (dCons (dC (.str "open")) (dCons (dC (.str "kind")) (dCons (dC (.str "def")) dNil))))))))
  (dSeq (dSet 4 (dCall sp__law_pick (dCons (dVar 0) (dCons (dFr (dLc (dIterE (dBin aAddL (dCall sp__law_keys dNil) (dFr (dLstN (dCons (dC (.str "wrong")) (dCons (dC (.str "wrong")) dNil)))))) (dgName 4) (dOr (dCmp (cEq false) (dVar 2) (dC (.int 0))) (dCmp (cIn true) (dVar 4) (dVar 3))) (dVar 4) [4])) dNil))))
  (dSeq (dIf (dCmp (cEq false) (dVar 4) (dC (.str ";")))
   (dRet (dBin aAddL (dSl (dVar 1) doNone (doSome (dVar 2))) (dFr (dLstN (dCons (dTup (dCons (dC (.str "sign")) (dCons (dC (.str ";")) dNil))) dNil)))))
   dNext)
  (dRet (dBin aAddL (dBin aAddL (dSl (dVar 1) doNone (doSome (dVar 2))) (dFr (dLstN (dCons (dCall sp__law_token (dCons (dVar 0) (dCons (dVar 4) dNil))) dNil)))) (dSl (dVar 1) (doSome (dBin aAddL (dVar 2) (dIfE (dCmp (cEq false) (dVar 2) (dC (.int 0))) (dC (.int 1)) (dCall sp__law_next (dCons (dVar 0) (dCons (dC (.int 2)) dNil)))))) doNone))))))
theorem d__law_spoilt {P : Program} {w : World} {K : PySem.W.Frag} {mg : Str → Option Value} {base : Heap} {sp__law_pick : DSp} {sp__law_keys : DSp} {sp__law_token : DSp} {sp__law_next : DSp} (T : Txt K w mg) (G__law_pick : Ok P w K mg base "_law_pick" 2 ["draw", "row"] sp__law_pick) (G__law_keys : Ok P w K mg base "_law_keys" 1 [] sp__law_keys) (G__law_token : Ok P w K mg base "_law_token" 3 ["draw", "key"] sp__law_token) (G__law_next : Ok P w K mg base "_law_next" 1 ["draw", "many"] sp__law_next) (f : Addr) (cdv : Value) (A : Around) (outer : List Env) (s : Shared) (H : Hp) (E : XK) (W : WX) (V : EW)
    (hr : Room 3 (A.deeper (envOfC "_law_spoilt" (defScope s__law_spoilt) s.heap.objs.size f cdv))) (tk : Takes (cxOf (L2.CX P w) P w K mg base N__law_spoilt "_law_spoilt" (defScope s__law_spoilt) f cdv A outer s H E) W) : SDs W V (cxOf (L2.CX P w) P w K mg base N__law_spoilt "_law_spoilt" (defScope s__law_spoilt) f cdv A outer s H E) (defBody s__law_spoilt) (b__law_spoilt sp__law_pick sp__law_keys sp__law_token sp__law_next) :=
  (sds_cons (sd_set (i := 3) sc__law_spoilt.nd rfl (by first | exact Or.inl rfl | exact Or.inr rfl) (pd_new (pdn_lst (pda_cons pd_str (pda_cons pd_str (pda_cons pd_str (pda_cons pd_str (pda_cons pd_str pda_nil))))))))
  (sds_cons (sd_set (i := 4) sc__law_spoilt.nd rfl (by first | exact Or.inl rfl | exact Or.inr rfl) (pc_ok G__law_pick hr (by rfl) (by decide) (pda_cons (pd_var 0) (pda_cons (pd_new (pdn_lc (own := [("key", 4)]) rfl sc__law_spoilt.nd (pdi_e (pd_op (od_addL T.nl) (pc_ok0 G__law_keys hr (by rfl) (by decide)) (pd_new (pdn_lst (pda_cons pd_str (pda_cons pd_str pda_nil)))))) (blkOk_by (own := [("key", 4)]) (N := N__law_spoilt) (sc := defScope s__law_spoilt) (by decide +kernel)) (fun _ _ _ _ _ => (pdg_name (i := 4) sc__law_spoilt.nd rfl (by first | exact Or.inl rfl | exact Or.inr rfl))) (fun _ _ _ _ _ => (pdts_one (PDW.pt (pdw_or (pdt_cmp (oc_eq hr.units) (pd_var 2) pd_int) (pdw_or1 (pdt_cmp oc_notIn (pd_var 4) (pd_var 3))))))) (fun _ _ _ _ _ => (pd_var 4)))) pda_nil))))
  (sds_cons (sd_if (pdt_cmp (oc_eq hr.units) (pd_var 4) pd_str)
   (sds_one (sd_ret (pd_op (od_addL T.nl) (pd_slice (pd_var 1) pdo_none (pdo_some (pd_var 2))) (pd_new (pdn_lst (pda_cons (pd_tup (pda_cons pd_str (pda_cons pd_str pda_nil))) pda_nil))))))
   sds_nil)
  (sds_one (sd_ret (pd_op (od_addL T.nl) (pd_op (od_addL T.nl) (pd_slice (pd_var 1) pdo_none (pdo_some (pd_var 2))) (pd_new (pdn_lst (pda_cons (pc_ok G__law_token hr (by rfl) (by decide) (pda_cons (pd_var 0) (pda_cons (pd_var 4) pda_nil))) pda_nil)))) (pd_slice (pd_var 1) (pdo_some (pd_op (od_addL T.nl) (pd_var 2) (pd_if (pdt_cmp (oc_eq hr.units) (pd_var 2) pd_int) pd_int (pc_ok G__law_next hr (by rfl) (by decide) (pda_cons (pd_var 0) (pda_cons pd_int pda_nil)))))) pdo_none)))))))
def N__law_ended : List Str := ["draw", "rules", "row", "at", "stack", "key", "rest", "one"]
theorem sc__law_ended : FnScope N__law_ended ["draw", "rules", "row", "at"] (defScope s__law_ended) := ⟨rfl, rfl, rfl, by decide +kernel, rfl, by decide +kernel, by decide +kernel⟩
def b__law_ended (sp__law_first_wrong : DSp) (sp__law_pick : DSp) (sp__law_could : DSp) (sp__law_grown : DSp) (sp__law_step : DSp) (sp__law_token : DSp) : DTS := (dSeq (dSet 4 (dIx (dCallG sp__law_first_wrong (dCons (dVar 1) (dCons (dSl (dVar 2) doNone (doSome (dVar 3))) dNil))) (dC (.int 1))))
  (dSeq (dSet 5 (dCall sp__law_pick (dCons (dVar 0) (dCons (dCallG sp__law_could (dCons (dVar 1) (dCons (dVar 4) dNil))) dNil))))
  (dSeq (dSet 6 (dCallG sp__law_grown (dCons (dVar 0) (dCons (dVar 1) (dCons (dCallG sp__law_step (dCons (dVar 1) (dCons (dVar 4) (dCons (dVar 5) dNil)))) (dCons (dC (.int 0)) dNil))))))
  (dRet (dBin aAddL (dSl (dVar 2) doNone (doSome (dVar 3))) (dFr (dLc (dIterE (dBin aAddL (dFr (dLstN (dCons (dVar 5) dNil))) (dVar 6))) (dgName 7) dYes (dCall sp__law_token (dCons (dVar 0) (dCons (dVar 7) dNil))) [7])))))))
theorem d__law_ended {P : Program} {w : World} {K : PySem.W.Frag} {mg : Str → Option Value} {base : Heap} {sp__law_first_wrong : DSp} {sp__law_pick : DSp} {sp__law_could : DSp} {sp__law_grown : DSp} {sp__law_step : DSp} {sp__law_token : DSp} (T : Txt K w mg) (G__law_first_wrong : Ok P w K mg base "_law_first_wrong" 2 ["rules", "row"] sp__law_first_wrong) (G__law_pick : Ok P w K mg base "_law_pick" 2 ["draw", "row"] sp__law_pick) (G__law_could : Ok P w K mg base "_law_could" 2 ["rules", "stack"] sp__law_could) (G__law_grown : Ok P w K mg base "_law_grown" 2 ["draw", "rules", "stack", "many"] sp__law_grown) (G__law_step : Ok P w K mg base "_law_step" 1 ["rules", "stack", "key"] sp__law_step) (G__law_token : Ok P w K mg base "_law_token" 3 ["draw", "key"] sp__law_token) (f : Addr) (cdv : Value) (A : Around) (outer : List Env) (s : Shared) (H : Hp) (E : XK) (W : WX) (V : EW)
    (hr : Room 3 (A.deeper (envOfC "_law_ended" (defScope s__law_ended) s.heap.objs.size f cdv))) (tk : Takes (cxOf (L2.CX P w) P w K mg base N__law_ended "_law_ended" (defScope s__law_ended) f cdv A outer s H E) W) : SDs W V (cxOf (L2.CX P w) P w K mg base N__law_ended "_law_ended" (defScope s__law_ended) f cdv A outer s H E) (defBody s__law_ended) (b__law_ended sp__law_first_wrong sp__law_pick sp__law_could sp__law_grown sp__law_step sp__law_token) :=
  (sds_cons (sd_set (i := 4) sc__law_ended.nd rfl (by first | exact Or.inl rfl | exact Or.inr rfl) (pd_ix (pcG_ok G__law_first_wrong hr (by rfl) (by decide) (pda_cons (pd_var 1) (pda_cons (pd_slice (pd_var 2) pdo_none (pdo_some (pd_var 3))) pda_nil))) pd_int))
  (sds_cons (sd_set (i := 5) sc__law_ended.nd rfl (by first | exact Or.inl rfl | exact Or.inr rfl) (pc_ok G__law_pick hr (by rfl) (by decide) (pda_cons (pd_var 0) (pda_cons (pcG_ok G__law_could hr (by rfl) (by decide) (pda_cons (pd_var 1) (pda_cons (pd_var 4) pda_nil))) pda_nil))))
  (sds_cons (sd_set (i := 6) sc__law_ended.nd rfl (by first | exact Or.inl rfl | exact Or.inr rfl) (pcG_ok G__law_grown hr (by rfl) (by decide) (pda_cons (pd_var 0) (pda_cons (pd_var 1) (pda_cons (pcG_ok G__law_step hr (by rfl) (by decide) (pda_cons (pd_var 1) (pda_cons (pd_var 4) (pda_cons (pd_var 5) pda_nil)))) (pda_cons pd_int pda_nil))))))
  (sds_one (sd_ret (pd_op (od_addL T.nl) (pd_slice (pd_var 2) pdo_none (pdo_some (pd_var 3))) (pd_new (pdn_lc (own := [("one", 7)]) rfl sc__law_ended.nd (pdi_e (pd_op (od_addL T.nl) (pd_new (pdn_lst (pda_cons (pd_var 5) pda_nil))) (pd_var 6))) (blkOk_by (own := [("one", 7)]) (N := N__law_ended) (sc := defScope s__law_ended) (by decide +kernel)) (fun _ _ _ _ _ => (pdg_name (i := 7) sc__law_ended.nd rfl (by first | exact Or.inl rfl | exact Or.inr rfl))) (fun _ _ _ _ _ => pdts_nil) (fun _ _ _ _ _ => (pc_ok G__law_token hr (by rfl) (by decide) (pda_cons (pd_var 0) (pda_cons (pd_var 7) pda_nil))))))))))))
def N_law : List Str := ["script", "draw", "rules", "k", "first", "rest", "row", "key", "turn", "at"]
theorem sc_law : FnScope N_law ["script"] (defScope s_law) := ⟨rfl, rfl, rfl, by decide +kernel, rfl, by decide +kernel, by decide +kernel⟩
def b_law (sp__law_draw : DSp) (sp__law_rules : DSp) (sp__law_pick : DSp) (sp__law_grown : DSp) (sp__law_next : DSp) (sp__law_step : DSp) (sp__law_token : DSp) (sp__law_right : DSp) (sp__law_place : DSp) (sp__law_spoilt : DSp) (sp__law_ended : DSp) : DTS := (dSeq (dSet 1 (dCall sp__law_draw (dCons (dVar 0) dNil)))
  (dSeq (dSet 2 (dCallG sp__law_rules dNil))
  (dSeq (dFor (dRng1 (dCons (dC (.int 3)) dNil)) (dgName 3)
   (dSeq (dSet 4 (dIfE (dCmp cGt (dVar 3) (dC (.int 0))) (dC (.str "def")) (dCall sp__law_pick (dCons (dVar 1) (dCons (dFr (dLstN (dCons (dC (.str "face")) (dCons (dC (.str "use")) (dCons (dC (.str "open")) (dCons (dC (.str "kind")) (dCons (dC (.str "kind")) (dCons (dC (.str "def")) dNil)))))))) dNil)))))
  (dSeq (dSet 5 (dCallG sp__law_grown (dCons (dVar 1) (dCons (dVar 2) (dCons (dCallG sp__law_step (dCons (dVar 2) (dCons (dFr (dLstN (dCons (dC (.str "<item>")) dNil))) (dCons (dVar 4) dNil)))) (dCons (dBin aAddL (dC (.int 2)) (dCall sp__law_next (dCons (dVar 1) (dCons (dC (.int 13)) dNil)))) dNil))))))
  (dSeq (dSetF 6 (dLc (dIterE (dBin aAddL (dFr (dLstN (dCons (dVar 4) dNil))) (dVar 5))) (dgName 7) dYes (dCall sp__law_token (dCons (dVar 1) (dCons (dVar 7) dNil))) [7]))
  (dSeq (dIf (dNot (dTru (dCallG sp__law_right (dCons (dVar 2) (dCons (dVar 6) dNil)))))
   (dRet (dC (.bool false)))
   dNext)
  (dFor (dRng1 (dCons (dC (.int 2)) dNil)) (dgName 8)
   (dSeq (dSet 9 (dCall sp__law_place (dCons (dVar 1) (dCons (dVar 6) dNil))))
  (dSeq (dIf (dAnd (dCmp cGt (dVar 9) (dC (.int 0))) (dNot (dTru (dCallG sp__law_right (dCons (dVar 2) (dCons (dSl (dVar 6) doNone (doSome (dVar 9))) dNil))))))
   (dRet (dC (.bool false)))
   dNext)
  (dIf (dOr (dNot (dTru (dCallG sp__law_right (dCons (dVar 2) (dCons (dCall sp__law_spoilt (dCons (dVar 1) (dCons (dVar 6) (dCons (dVar 9) dNil)))) dNil))))) (dNot (dTru (dCallG sp__law_right (dCons (dVar 2) (dCons (dCallG sp__law_ended (dCons (dVar 1) (dCons (dVar 2) (dCons (dVar 6) (dCons (dVar 9) dNil))))) dNil))))))
   (dRet (dC (.bool false)))
   dNext)))))))))
  (dRet (dAndV (dCallG sp__law_right (dCons (dVar 2) (dCons (dFr (dLstN (dCons (dTup (dCons (dC (.str "sign")) (dCons (dC (.str ";")) dNil))) dNil))) dNil))) (dCallG sp__law_right (dCons (dVar 2) (dCons (dFr (dLstN (dCons (dTup (dCons (dC (.str "wrong")) (dCons (dC (.str "?")) dNil))) dNil))) dNil))))))))
theorem d_law {P : Program} {w : World} {K : PySem.W.Frag} {mg : Str → Option Value} {base : Heap} {sp__law_draw : DSp} {sp__law_rules : DSp} {sp__law_pick : DSp} {sp__law_grown : DSp} {sp__law_next : DSp} {sp__law_step : DSp} {sp__law_token : DSp} {sp__law_right : DSp} {sp__law_place : DSp} {sp__law_spoilt : DSp} {sp__law_ended : DSp} (T : Txt K w mg) (G__law_draw : Ok P w K mg base "_law_draw" 1 ["script"] sp__law_draw) (G__law_rules : Ok P w K mg base "_law_rules" 1 [] sp__law_rules) (G__law_pick : Ok P w K mg base "_law_pick" 2 ["draw", "row"] sp__law_pick) (G__law_grown : Ok P w K mg base "_law_grown" 2 ["draw", "rules", "stack", "many"] sp__law_grown) (G__law_next : Ok P w K mg base "_law_next" 1 ["draw", "many"] sp__law_next) (G__law_step : Ok P w K mg base "_law_step" 1 ["rules", "stack", "key"] sp__law_step) (G__law_token : Ok P w K mg base "_law_token" 3 ["draw", "key"] sp__law_token) (G__law_right : Ok P w K mg base "_law_right" 4 ["rules", "row"] sp__law_right) (G__law_place : Ok P w K mg base "_law_place" 3 ["draw", "row"] sp__law_place) (G__law_spoilt : Ok P w K mg base "_law_spoilt" 4 ["draw", "row", "at"] sp__law_spoilt) (G__law_ended : Ok P w K mg base "_law_ended" 4 ["draw", "rules", "row", "at"] sp__law_ended) (f : Addr) (cdv : Value) (A : Around) (outer : List Env) (s : Shared) (H : Hp) (E : XK) (W : WX) (V : EW)
    (hr : Room 4 (A.deeper (envOfC "law" (defScope s_law) s.heap.objs.size f cdv))) (tk : Takes (cxOf (L2.CX P w) P w K mg base N_law "law" (defScope s_law) f cdv A outer s H E) W) : SDs W V (cxOf (L2.CX P w) P w K mg base N_law "law" (defScope s_law) f cdv A outer s H E) (defBody s_law) (b_law sp__law_draw sp__law_rules sp__law_pick sp__law_grown sp__law_next sp__law_step sp__law_token sp__law_right sp__law_place sp__law_spoilt sp__law_ended) :=
  (sds_cons (sd_set (i := 1) sc_law.nd rfl (by first | exact Or.inl rfl | exact Or.inr rfl) (pc_ok G__law_draw hr (by rfl) (by decide) (pda_cons (pd_var 0) pda_nil)))
  (sds_cons (sd_set (i := 2) sc_law.nd rfl (by first | exact Or.inl rfl | exact Or.inr rfl) (pcG_ok0 G__law_rules hr (by rfl) (by decide)))
  (sds_cons (sd_for (passes_of rfl) rfl (pdi_range1 (by rfl) T.n_range (pda_cons pd_int pda_nil)) (pdg_name (i := 3) sc_law.nd rfl (by first | exact Or.inl rfl | exact Or.inr rfl))
   (sds_cons (sd_set (i := 4) sc_law.nd rfl (by first | exact Or.inl rfl | exact Or.inr rfl) (pd_if (pdt_cmp oc_gt (pd_var 3) pd_int) pd_str (pc_ok G__law_pick hr (by rfl) (by decide) (pda_cons (pd_var 1) (pda_cons (pd_new (pdn_lst (pda_cons pd_str (pda_cons pd_str (pda_cons pd_str (pda_cons pd_str (pda_cons pd_str (pda_cons pd_str pda_nil)))))))) pda_nil)))))
  (sds_cons (sd_set (i := 5) sc_law.nd rfl (by first | exact Or.inl rfl | exact Or.inr rfl) (pcG_ok G__law_grown hr (by rfl) (by decide) (pda_cons (pd_var 1) (pda_cons (pd_var 2) (pda_cons (pcG_ok G__law_step hr (by rfl) (by decide) (pda_cons (pd_var 2) (pda_cons (pd_new (pdn_lst (pda_cons pd_str pda_nil))) (pda_cons (pd_var 4) pda_nil)))) (pda_cons (pd_op (od_addL T.nl) pd_int (pc_ok G__law_next hr (by rfl) (by decide) (pda_cons (pd_var 1) (pda_cons pd_int pda_nil)))) pda_nil))))))
  (sds_cons ((sd_setLcG (i := 6) (own := [("key", 7)]) rfl sc_law.nd rfl rfl (sw_true rfl rfl rfl (by decide +kernel)) (pdi_e (pd_op (od_addL T.nl) (pd_new (pdn_lst (pda_cons (pd_var 4) pda_nil))) (pd_var 5))) (blkOk_by (own := [("key", 7)]) (N := N_law) (sc := defScope s_law) (by decide +kernel)) (fun _ _ _ _ _ => (pdg_name (i := 7) sc_law.nd rfl (by first | exact Or.inl rfl | exact Or.inr rfl))) (fun _ _ _ _ _ => pdts_nil) (fun _ _ _ _ _ => (pc_ok G__law_token hr (by rfl) (by decide) (pda_cons (pd_var 1) (pda_cons (pd_var 7) pda_nil))))).2)
  (sds_cons (sd_if (pdt_not (pdt_tru (pcG_ok G__law_right hr (by rfl) (by decide) (pda_cons (pd_var 2) (pda_cons (pd_var 6) pda_nil)))))
   (sds_one (sd_ret pd_bl))
   sds_nil)
  (sds_one (sd_for (passes_of rfl) rfl (pdi_range1 (by rfl) T.n_range (pda_cons pd_int pda_nil)) (pdg_name (i := 8) sc_law.nd rfl (by first | exact Or.inl rfl | exact Or.inr rfl))
   (sds_cons (sd_set (i := 9) sc_law.nd rfl (by first | exact Or.inl rfl | exact Or.inr rfl) (pc_ok G__law_place hr (by rfl) (by decide) (pda_cons (pd_var 1) (pda_cons (pd_var 6) pda_nil))))
  (sds_cons (sd_if (PDW.pt (pdw_and (pdt_cmp oc_gt (pd_var 9) pd_int) (pdw_and1 (pdt_not (pdt_tru (pcG_ok G__law_right hr (by rfl) (by decide) (pda_cons (pd_var 2) (pda_cons (pd_slice (pd_var 6) pdo_none (pdo_some (pd_var 9))) pda_nil))))))))
   (sds_one (sd_ret pd_bl))
   sds_nil)
  (sds_one (sd_if (PDW.pt (pdw_or (pdt_not (pdt_tru (pcG_ok G__law_right hr (by rfl) (by decide) (pda_cons (pd_var 2) (pda_cons (pc_ok G__law_spoilt hr (by rfl) (by decide) (pda_cons (pd_var 1) (pda_cons (pd_var 6) (pda_cons (pd_var 9) pda_nil)))) pda_nil))))) (pdw_or1 (pdt_not (pdt_tru (pcG_ok G__law_right hr (by rfl) (by decide) (pda_cons (pd_var 2) (pda_cons (pcG_ok G__law_ended hr (by rfl) (by decide) (pda_cons (pd_var 1) (pda_cons (pd_var 2) (pda_cons (pd_var 6) (pda_cons (pd_var 9) pda_nil))))) pda_nil))))))))
   (sds_one (sd_ret pd_bl))
   sds_nil)))))))))))
  (sds_one (sd_ret (pd_and (pcG_ok G__law_right hr (by rfl) (by decide) (pda_cons (pd_var 2) (pda_cons (pd_new (pdn_lst (pda_cons (pd_tup (pda_cons pd_str (pda_cons pd_str pda_nil))) pda_nil))) pda_nil))) (pd_one (pcG_ok G__law_right hr (by rfl) (by decide) (pda_cons (pd_var 2) (pda_cons (pd_new (pdn_lst (pda_cons (pd_tup (pda_cons pd_str (pda_cons pd_str pda_nil))) pda_nil))) pda_nil))))))))))
end K17

namespace K17
open PySem PySem.Spec PyProof.Rows L2 MM
local macro_rules | `(tactic| walk_at "nd") => `(tactic| first | decide | simp [slots])
local macro_rules | `(tactic| walk_at "w") => `(tactic| conv => whnf)
/-- the state of the draws -/
def DrawOk (ds : List PyData) : Prop := ∃ (ns : List Int) (i a b : Int), ds = [.list (ns.map PyData.int), .int i, .int a, .int b] ∧ 0 ≤ i ∧ 0 ≤ b ∧ b < 2147483647
def sp__law_draw : DSp := fun as m C _ => ∃ ns : List Int, as = [.val (.list (ns.map PyData.int))] ∧ m = [] ∧ ∀ ds, DrawOk ds → C (.sl 0) [.fl ds]
theorem cut_ints (ns : List Int) (lo hi : Option Int) : ∃ ms : List Int, MM.cutD (ns.map PyData.int) lo hi = ms.map PyData.int := by
  refine ⟨(ns.drop (HT.sIx ns.length 0 lo)).take (HT.sIx ns.length ns.length hi - HT.sIx ns.length 0 lo), ?_⟩
  unfold MM.cutD
  rw [List.length_map, List.map_take, List.map_drop]
theorem l__law_draw : ∀ as m C Ex, sp__law_draw as m C Ex → b__law_draw (endsD m.length C) (startD N__law_draw as m) := by
  rintro as m C Ex ⟨ns, rfl, rfl, h⟩
  walk_at "w"
  obtain ⟨ms, e⟩ := cut_ints ns none (some 63)
  refine ⟨by show 4 ≤ sizeLine; decide, ?_⟩
  refine .inl (h _ ⟨ms, 0, 1, 7, ?_, by decide, by decide, by decide⟩)
  rw [e]
def sp__law_next : DSp := fun as m C _ => ∃ (ds : List PyData) (k : Int), as = [.sl 0, .val (.int k)] ∧ m = [.fl ds] ∧ DrawOk ds ∧ 0 < k ∧ k < 1073741824 ∧ ∀ (r : Int) ds', 0 ≤ r → r < k → DrawOk ds' → C (.val (.int r)) [.fl ds']
theorem mul_ok (i j : Int) (h : -18446744073709551616 < j) (h2 : j < 18446744073709551616) : CMul i j := .inr ⟨h, h2⟩
theorem l__law_next : ∀ as m C Ex, sp__law_next as m C Ex → b__law_next (endsD m.length C) (startD N__law_next as m) := by
  rintro as m0 C Ex ⟨_, m, rfl, rfl, ⟨ns, i, a, b, rfl, h1, h2, h3⟩, hm1, hm2, h⟩
  refine seq_cut (fun δ => ∃ i a b x2, δ = ⟨[some (.sl 0), some (.val (.int m)), x2, none], [.fl [.list (ns.map PyData.int), .int i, .int a, .int b]]⟩ ∧ 0 ≤ i ∧ 0 ≤ b ∧ b < 2147483647) (fun N hN => ?_) ?_
  · walk_at "w"
    refine ⟨fun e1 => ?_, fun e1 => ?_⟩
    · walk_at "w"
      refine ⟨fun e2 => ?_, fun e2 => ?_⟩
      · have e2 := of_decide_eq_true e2
        rw [List.length_map] at e2
        obtain ⟨c, _, ec, _⟩ := DD.atI_map (f := PyData.int) h1 e2
        walk_at "w"
        rw [ec]
        walk_at "w"
        refine ⟨⟨by decide, by decide, by decide⟩, ?_⟩
        walk_at "w"
        refine ⟨fun e3 => ?_, fun e3 => ?_⟩
        · walk_at "w"
          exact hN _ ⟨_, _, _, _, rfl, by omega, h2, h3⟩
        · walk_at "w"
          refine ⟨mul_ok _ _ (by decide) (by decide), mul_ok _ _ (by decide) (by decide), by decide, ?_⟩
          walk_at "w"
          exact hN _ ⟨_, _, _, _, rfl, by omega, Int.emod_nonneg _ (by decide), Int.emod_lt_of_pos _ (by decide)⟩
      · walk_at "w"
        exact hN _ ⟨_, _, _, _, rfl, h1, h2, h3⟩
    · walk_at "w"
      refine ⟨fun e2 => (by cases e2), fun e2 => ?_⟩
      walk_at "w"
      exact hN _ ⟨_, _, _, _, rfl, h1, h2, h3⟩
  · rintro _ ⟨i, a, b, x2, rfl, h1, h2, h3⟩
    walk_at "w"
    refine ⟨fun e1 => ?_, fun e1 => ?_⟩
    · walk_at "w"
      refine ⟨hm1, ?_⟩
      walk_at "w"
      refine ⟨⟨hm1, hm2⟩, ?_⟩
      walk_at "w"
      exact .inl <| h _ _ (Int.emod_nonneg _ (by omega)) (Int.emod_lt_of_pos _ hm1) ⟨_, _, _, _, rfl, h1, h2, h3⟩
    · walk_at "w"
      refine ⟨mul_ok _ _ (by decide) (by decide), by decide, ?_⟩
      walk_at "w"
      refine ⟨mul_ok _ _ (by decide) (by decide), by decide, ⟨by decide, by decide⟩, hm1, ?_⟩
      walk_at "w"
      exact .inl <| h _ _ (Int.emod_nonneg _ (by omega)) (Int.emod_lt_of_pos _ hm1) ⟨_, _, _, _, rfl, h1, Int.emod_nonneg _ (by decide), Int.emod_lt_of_pos _ (by decide)⟩
def sp__law_pick : DSp := fun as m C _ => ∃ (ds : List PyData) (d : PyData), as = [.sl 0, .val d] ∧ m = [.fl ds] ∧ DrawOk ds ∧
  ((∃ xs, (d = .list xs ∨ d = .tuple xs) ∧ 0 < xs.length ∧ xs.length < 1073741824 ∧ ∀ x ∈ xs, ∀ ds', DrawOk ds' → C (.val x) [.fl ds']) ∨
   (∃ z : Str, d = .str z ∧ 0 < z.length ∧ z.length ≤ 1000000 ∧ ∀ c ∈ z.cps.toList, ∀ ds', DrawOk ds' → C (.val (.str ⟨#[c]⟩)) [.fl ds']))
theorem l__law_pick : ∀ as m C Ex, sp__law_pick as m C Ex → b__law_pick sp__law_next (endsD m.length C) (startD N__law_pick as m) := by
  rintro as m C Ex ⟨ds, d, rfl, rfl, hd, h⟩
  rcases h with ⟨xs, rfl | rfl, h1, h2, h⟩ | ⟨z, rfl, h1, h2, h⟩
  · walk_at "w"
    refine ⟨ds, _, rfl, rfl, hd, by omega, by omega, fun r ds' r1 r2 hd' => ?_⟩
    walk_at "w"
    obtain ⟨x, ex, _, mx⟩ := DD.atI_at r1 r2
    rw [ex]
    walk_at "w"
    exact .inl (h x mx ds' hd')
  · walk_at "w"
    refine ⟨ds, _, rfl, rfl, hd, by omega, by omega, fun r ds' r1 r2 hd' => ?_⟩
    walk_at "w"
    obtain ⟨x, ex, _, mx⟩ := DD.atI_at r1 r2
    rw [ex]
    walk_at "w"
    exact .inl (h x mx ds' hd')
  · walk_at "w"
    have hs := DD.sl_line
    refine ⟨by omega, ds, _, rfl, rfl, hd, by omega, by omega, fun r ds' r1 r2 hd' => ?_⟩
    walk_at "w"
    refine ⟨by omega, ?_⟩
    have hl : z.length = z.cps.toList.length := by simp [Str.length]
    rw [hl] at r2
    obtain ⟨x, ex, _, mx⟩ := DD.atI_at r1 r2
    walk_at "w"
    rw [ex]
    walk_at "w"
    exact .inl (h x mx ds' hd')
end K17

namespace K17
open PySem PySem.Spec PyProof.Rows L2 MM
local macro_rules | `(tactic| walk_at "w") => `(tactic| conv => whnf)
/-! ### the law's rules, as a table -/
abbrev r3 (a b : Str) (c : List Str) : Str × Str × List Str := (a, b, c)
abbrev r2 (a : Str) (c : List Str) : Str × List Str := (a, c)
def R17 : List (Str × Str × List Str) := [r3 "<item>" "face" ["face", "<shown>", "<shown+>", ";"],
  r3 "<item>" "use" ["use", "Name", "<as>", ";"],
  r3 "<item>" "open" ["open", "Name", "<way>", ";"],
  r3 "<item>" "kind" ["kind", "Name", "=", "<maker>", "<maker+>", ";"],
  r3 "<item>" "def" ["def", "name", "<givens>", "<of?>", "=", "<told>", ";"],
  r3 "<shown>" "name" ["name"],
  r3 "<shown>" "Name" ["Name", "<all>"],
  r3 "<all>" "(" ["(", "..", ")"],
  r3 "<all>" "-" [],
  r3 "<shown+>" "," [",", "<shown>", "<shown+>"],
  r3 "<shown+>" "-" [],
  r3 "<as>" "as" ["as", "Name"],
  r3 "<as>" "-" [],
  r3 "<way>" "hiding" ["hiding", "(", "<thing>", "<thing+>", ")"],
  r3 "<way>" "(" ["(", "<thing>", "<thing+>", ")"],
  r3 "<way>" "-" [],
  r3 "<thing>" "name" ["name"],
  r3 "<thing>" "Name" ["Name"],
  r3 "<thing+>" "," [",", "<thing>", "<thing+>"],
  r3 "<thing+>" "-" [],
  r3 "<maker>" "Name" ["Name", "<parts>"],
  r3 "<maker+>" "|" ["|", "<maker>", "<maker+>"],
  r3 "<maker+>" "-" [],
  r3 "<parts>" "(" ["(", "<of>", "<of+>", ")"],
  r3 "<parts>" "-" [],
  r3 "<of>" "Name" ["Name", "<dot>"],
  r3 "<dot>" "." [".", "Name"],
  r3 "<dot>" "-" [],
  r3 "<of+>" "," [",", "<of>", "<of+>"],
  r3 "<of+>" "-" [],
  r3 "<givens>" "(" ["(", "<given>", "<given+>", ")"],
  r3 "<givens>" "-" [],
  r3 "<given>" "name" ["name", "<of?>"],
  r3 "<given+>" "," [",", "<given>", "<given+>"],
  r3 "<given+>" "-" [],
  r3 "<of?>" ":" [":", "<of>"],
  r3 "<of?>" "-" [],
  r3 "<told>" "let" ["let", "name", "=", "<told>", "in", "<told>"],
  r3 "<told>" "if" ["if", "<told>", "then", "<told>", "else", "<told>"],
  r3 "<told>" "(" ["<side>", "<same>"],
  r3 "<told>" "case" ["<side>", "<same>"],
  r3 "<told>" "name" ["<side>", "<same>"],
  r3 "<told>" "Name" ["<side>", "<same>"],
  r3 "<same>" "==" ["==", "<side>"],
  r3 "<same>" "-" [],
  r3 "<side>" "(" ["(", "<told>", ")"],
  r3 "<side>" "case" ["case", "<told>", "of", "<arm>", "<arm+>", "end"],
  r3 "<side>" "name" ["name", "<call>"],
  r3 "<side>" "Name" ["Name", "<far>", "<call>"],
  r3 "<far>" "." [".", "<last>"],
  r3 "<far>" "-" [],
  r3 "<last>" "name" ["name"],
  r3 "<last>" "Name" ["Name"],
  r3 "<call>" "(" ["(", "<told>", "<told+>", ")"],
  r3 "<call>" "-" [],
  r3 "<told+>" "," [",", "<told>", "<told+>"],
  r3 "<told+>" "-" [],
  r3 "<arm>" "_" ["<form>", "->", "<told>"],
  r3 "<arm>" "name" ["<form>", "->", "<told>"],
  r3 "<arm>" "Name" ["<form>", "->", "<told>"],
  r3 "<arm+>" "|" ["|", "<arm>", "<arm+>"],
  r3 "<arm+>" "-" [],
  r3 "<form>" "_" ["_"],
  r3 "<form>" "name" ["name"],
  r3 "<form>" "Name" ["Name", "<dot>", "<forms>"],
  r3 "<forms>" "(" ["(", "<form>", "<form+>", ")"],
  r3 "<forms>" "-" [],
  r3 "<form+>" "," [",", "<form>", "<form+>"],
  r3 "<form+>" "-" []]
def NTL : List Str := ["<item>", "<shown>", "<all>", "<shown+>", "<as>", "<way>", "<thing>", "<thing+>", "<maker>", "<maker+>", "<parts>", "<of>", "<dot>", "<of+>", "<givens>", "<given>", "<given+>", "<of?>", "<told>", "<same>", "<side>", "<far>", "<last>", "<call>", "<told+>", "<arm>", "<arm+>", "<form>", "<forms>", "<form+>"]
/-- what the law's stack is for a symbol of the reader -/
def HM : List (Str × List Str) := [r2 "ITEM" ["<item>"],
  r2 "SHOWN" ["<shown>"],
  r2 "SHOWNS" ["<shown+>"],
  r2 "MAKERS_TOO" ["<all>"],
  r2 "AS" ["<as>"],
  r2 "WAY" ["<way>"],
  r2 "THING" ["<thing>"],
  r2 "THINGS" ["<thing+>"],
  r2 "MAKER" ["<maker>"],
  r2 "MAKERS" ["<maker+>"],
  r2 "PARTS" ["<parts>"],
  r2 "OF" ["<of>"],
  r2 "OFS" ["<of+>"],
  r2 "MODULE" ["<dot>"],
  r2 "GIVENS" ["<givens>"],
  r2 "GIVEN" ["<given>"],
  r2 "MORE_GIVENS" ["<given+>"],
  r2 "COLON" ["<of?>"],
  r2 "TOLD" ["<told>"],
  r2 "TOLDS" ["<told+>"],
  r2 "SAME" ["<same>"],
  r2 "SIDE" ["<side>"],
  r2 "MEMBER" ["<far>", "<call>"],
  r2 "DOTTED" ["<last>", "<call>"],
  r2 "CALL" ["<call>"],
  r2 "MADE" ["<call>"],
  r2 "ARM" ["<arm>"],
  r2 "ARMS" ["<arm+>"],
  r2 "FORM" ["<form>"],
  r2 "FORMS" ["<forms>"],
  r2 "MORE_FORMS" ["<form+>"]]
def wayL (z s : Str) : Option (List Str) := (R17.find? fun p => decide (p.1 = z) && decide (p.2.1 = s)).map fun p => p.2.2
def isNL (z : Str) : Bool := decide (z ∈ NTL)
def epsL (z : Str) : Bool := (wayL z "-").isSome
def firsts (z : Str) : List Str := ((R17.filter fun p => decide (p.1 = z)).map fun p => p.2.1).filter fun s => !decide (s = "-")
/-- the symbol consumes the sign: what is left of it -/
def hitR (s : Str) : Nat → Str → Option (List Str)
  | 0, _ => none
  | f + 1, z => match wayL z s with
    | some (t :: r) => if isNL t = true then (hitR s f t).map (· ++ r) else if t = s then some r else none
    | _ => none
def stepL (s : Str) : List Str → Option (List Str)
  | [] => none
  | z :: L => if isNL z = true then match hitR s 4 z with
      | some r => some (r ++ L)
      | none => if (epsL z && (wayL z s).isNone) = true then stepL s L else none
    else if z = s then some L else none
def firstL : List Str → List Str
  | [] => []
  | z :: L => if isNL z = true then firsts z ++ (if epsL z = true then firstL L else []) else [z]
def KEYS : List Str := ["face", "use", "as", "open", "hiding", "kind", "def", "let", "in", "if", "then", "else", "case", "of", "end", "name", "Name", "(", ")", ",", ";", ".", ":", "=", "|", "_", "..", "==", "->"]
theorem keys_hit : ∀ z ∈ NTL, ∀ s ∈ KEYS, (hitR s 4 z).isSome = decide (s ∈ firsts z) ∧ (wayL z s).isSome = decide (s ∈ firsts z) := by decide +kernel
theorem firsts_keys : ∀ z ∈ NTL, ∀ s ∈ firsts z, s ∈ KEYS := by decide +kernel
theorem isNL_mem {z : Str} (h : isNL z = true) : z ∈ NTL := of_decide_eq_true h
/-- the signs that fit are the first ones -/
theorem step_first {s : Str} (hs : s ∈ KEYS) : ∀ L : List Str, (stepL s L).isSome = decide (s ∈ firstL L)
  | [] => by simp [stepL, firstL]
  | z :: L => by
    unfold stepL firstL
    by_cases n : isNL z = true
    · rw [if_pos n, if_pos n]
      obtain ⟨h1, h2⟩ := keys_hit z (isNL_mem n) s hs
      cases hh : hitR s 4 z with
      | some r =>
        rw [hh] at h1
        have : s ∈ firsts z := of_decide_eq_true h1.symm
        simp [this]
      | none =>
        rw [hh] at h1
        have f : s ∉ firsts z := of_decide_eq_false h1.symm
        have w : (wayL z s).isNone = true := by
          cases q : wayL z s with
          | none => rfl
          | some _ => rw [q] at h2; exact absurd (of_decide_eq_true h2.symm) f
        by_cases e : epsL z = true
        · rw [if_pos (by rw [e, w]; rfl), if_pos e, step_first hs L]
          simp [f]
        · rw [if_neg (by rw [w]; simpa using e), if_neg e]
          simp [f]
    · rw [if_neg n, if_neg n]
      by_cases q : z = s
      · subst q; simp
      · rw [if_neg q]
        have : ¬ s = z := fun e => q e.symm
        simp [this]
/-- no other sign fits -/
theorem step_other : ∀ z ∈ NTL, ∀ s : Str, s ∉ firsts z → s ≠ "-" → wayL z s = none := by
  have key : ∀ p ∈ R17, p.2.1 = "-" ∨ p.2.1 ∈ firsts p.1 := by decide +kernel
  intro z hz s hs hn
  unfold wayL
  cases q : R17.find? fun p => decide (p.1 = z) && decide (p.2.1 = s) with
  | none => rfl
  | some p =>
    have h1 := List.find?_some q
    have h2 := List.mem_of_find?_eq_some q
    rw [Bool.and_eq_true] at h1
    have e1 : p.1 = z := of_decide_eq_true h1.1
    have e2 : p.2.1 = s := of_decide_eq_true h1.2
    rcases key p h2 with e | e
    · exact absurd (e2.symm.trans e) hn
    · exact absurd (by rw [← e1, ← e2]; exact e) hs
theorem first_keys {L : List Str} (h : ∀ z ∈ L, isNL z = true ∨ z ∈ KEYS) : ∀ s ∈ firstL L, s ∈ KEYS := by
  induction L with
  | nil => intro s hs; cases hs
  | cons z L ih =>
    intro s hs
    unfold firstL at hs
    by_cases n : isNL z = true
    · rw [if_pos n] at hs
      rcases List.mem_append.mp hs with hs | hs
      · exact firsts_keys z (isNL_mem n) s hs
      · split at hs
        · exact ih (fun y hy => h y (List.mem_cons_of_mem _ hy)) s hs
        · cases hs
    · rw [if_neg n] at hs
      rw [List.mem_singleton.mp hs]
      exact (h z List.mem_cons_self).resolve_left n
end K17

namespace K17
open PySem PySem.Spec PyProof.Rows L2 MM
local macro_rules | `(tactic| walk_at "w") => `(tactic| conv => whnf)
/-! ### what a reader's marks add, what they put in front -/
def ADDS : List (Str × PyData) := [("'face", .str "face"), ("'use", .str "use"), ("'open", .str "open"), ("'kind", .str "kind"), ("'def", .str "def"), ("'name", .str "name"), ("'1", .int 1), ("'0", .int 0), ("'", .str ""),
  ("'hiding", .str "hiding"), ("'only", .str "only"), ("'all", .str "all"), ("'none", .none), ("'let", .str "let"), ("'if", .str "if"), ("'case", .str "case"), ("'any", .str "any"), ("'bind", .str "bind")]
def INSS : List (Str × Str) := [("^", ""), ("^make", "make"), ("^call", "call"), ("^name", "name")]
def ADDN : List Str := ADDS.map Prod.fst
def INSN : List Str := INSS.map Prod.fst
def ACTS : List Str := (["<", ">", "!same", "!out"] : List Str) ++ ADDN ++ INSN
/-! ### the lists' lengths, from below: the inner ones (the innermost first), and the item's own -/
abbrev Ab := List Nat × Nat
abbrev r1 (a : Str) (c : Nat) : Str × Nat := (a, c)
def CNT : List (Str × Nat) := [r1 "SHOWN" 1, r1 "SHOWNS" 0, r1 "MAKERS_TOO" 1, r1 "AS" 1, r1 "WAY" 2, r1 "THING" 1, r1 "THINGS" 0, r1 "MAKER" 1, r1 "MAKERS" 0, r1 "PARTS" 1, r1 "OF" 1, r1 "OFS" 0, r1 "MODULE" 1, r1 "GIVENS" 1, r1 "GIVEN" 1,
  r1 "MORE_GIVENS" 0, r1 "COLON" 1, r1 "TOLD" 1, r1 "TOLDS" 0, r1 "SAME" 0, r1 "SIDE" 1, r1 "MEMBER" 2, r1 "DOTTED" 2, r1 "CALL" 1, r1 "MADE" 1, r1 "ARM" 1, r1 "ARMS" 0, r1 "FORM" 1, r1 "FORMS" 1, r1 "MORE_FORMS" 0]
/-- these stand in the item's own list -/
def ITL : List Str := ["AS", "WAY", "GIVENS", "COLON", "OF", "TOLD", "SIDE", "SAME"]
def reqN (z : Str) : Nat := if z = "SAME" then 1 else 0
def reqI (z : Str) : Nat := if z = "SAME" then 2 else if z = "TOLD" ∨ z = "SIDE" then 1 else 0
inductive Op
  | opn | cls | same | nop | add | ins | bad | nt (c n : Nat) (i : Option Nat)
def opOf (z : Str) : Op :=
  if z = "ITEM" then .bad else if z = "<" then .opn else if z = ">" then .cls else if z = "!same" then .same else if z = "!out" then .nop
  else if z ∈ ADDN then .add else if z ∈ INSN then .ins else if z = "name" ∨ z = "Name" then .add
  else match CNT.lookup z with
    | some c => .nt c (reqN z) (if z ∈ ITL then some (reqI z) else none)
    | none => .nop
/-- within the inner lists -/
def effN : Op → List Nat → Option (List Nat)
  | .opn, x :: r => some (0 :: x :: r)
  | .cls, _ :: y :: r => some ((y + 1) :: r)
  | .same, (x + 1) :: r => some (2 :: x :: r)
  | .nop, x :: r => some (x :: r)
  | .add, x :: r => some ((x + 1) :: r)
  | .ins, x :: r => some ((x + 1) :: r)
  | .nt c n _, x :: r => if n ≤ x then some ((x + c) :: r) else none
  | _, _ => none
def effA : Op → Ab → Option Ab
  | .opn, ([], a) => some ([0], a)
  | .cls, ([_], a) => some ([], a + 1)
  | .same, ([], a + 2) => some ([2], a + 1)
  | .nop, ([], a) => some ([], a)
  | .add, ([], a) => some ([], a + 1)
  | .nt c _ (some n), ([], a) => if n ≤ a then some ([], a + c) else none
  | o, (x :: r, a) => (effN o (x :: r)).map fun q => (q, a)
  | _, _ => none
def runN : List Str → List Nat → Option (List Nat)
  | [], p => some p
  | z :: l, p => match effN (opOf z) p with
    | some q => runN l q
    | none => none
def runA : List Str → Ab → Option Ab
  | [], s => some s
  | z :: l, s => match effA (opOf z) s with
    | some q => runA l q
    | none => none
theorem effN_shift {o : Op} : ∀ {p : List Nat} {x : Nat} {q : List Nat}, effN o (p ++ [x]) = some q → ∃ p' y, q = p' ++ [y] ∧ ∀ k r, effN o (p ++ (x + k) :: r) = some (p' ++ (y + k) :: r) := by
  intro p x q h
  cases p with
  | nil =>
    cases o with
    | opn => cases h; exact ⟨[0], x, rfl, fun k r => rfl⟩
    | cls => cases h
    | same =>
      cases x with
      | zero => cases h
      | succ x => cases h; exact ⟨[2], x, rfl, fun k r => by rw [Nat.add_right_comm]; rfl⟩
    | nop => cases h; exact ⟨[], x, rfl, fun k r => rfl⟩
    | add => cases h; exact ⟨[], x + 1, rfl, fun k r => by rw [Nat.add_right_comm]; rfl⟩
    | ins => cases h; exact ⟨[], x + 1, rfl, fun k r => by rw [Nat.add_right_comm]; rfl⟩
    | bad => cases h
    | nt c n i =>
      have h : (if n ≤ x then some ([x + c] : List Nat) else none) = some q := h
      split at h
      · rename_i hn
        cases h
        refine ⟨[], x + c, rfl, fun k r => ?_⟩
        show (if n ≤ x + k then some ((x + k + c) :: r) else none) = _
        rw [if_pos (by omega), Nat.add_right_comm]
        rfl
      · cases h
  | cons u p =>
    cases o with
    | opn => cases h; exact ⟨0 :: u :: p, x, rfl, fun k r => rfl⟩
    | cls =>
      cases p with
      | nil => cases h; exact ⟨[], x + 1, rfl, fun k r => by rw [Nat.add_right_comm]; rfl⟩
      | cons v p => cases h; exact ⟨(v + 1) :: p, x, rfl, fun k r => rfl⟩
    | same =>
      cases u with
      | zero => cases h
      | succ u => cases h; exact ⟨2 :: u :: p, x, rfl, fun k r => rfl⟩
    | nop => cases h; exact ⟨u :: p, x, rfl, fun k r => rfl⟩
    | add => cases h; exact ⟨(u + 1) :: p, x, rfl, fun k r => rfl⟩
    | ins => cases h; exact ⟨(u + 1) :: p, x, rfl, fun k r => rfl⟩
    | bad => cases h
    | nt c n i =>
      have h : (if n ≤ u then some ((u + c) :: (p ++ [x])) else none) = some q := h
      split at h
      · rename_i hn
        cases h
        refine ⟨(u + c) :: p, x, rfl, fun k r => ?_⟩
        show (if n ≤ u then some ((u + c) :: (p ++ (x + k) :: r)) else none) = _
        rw [if_pos hn]
        rfl
      · cases h
theorem runN_shift : ∀ {ws : List Str} {p : List Nat} {x : Nat} {q : List Nat}, runN ws (p ++ [x]) = some q → ∃ p' y, q = p' ++ [y] ∧ ∀ k r, runN ws (p ++ (x + k) :: r) = some (p' ++ (y + k) :: r)
  | [], p, x, q, h => by cases h; exact ⟨p, x, rfl, fun k r => rfl⟩
  | z :: ws, p, x, q, h => by
    unfold runN at h
    split at h
    · rename_i q1 h1
      obtain ⟨p1, y1, rfl, f1⟩ := effN_shift h1
      obtain ⟨p2, y2, rfl, f2⟩ := runN_shift h
      refine ⟨p2, y2, rfl, fun k r => ?_⟩
      unfold runN
      rw [f1 k r]
      exact f2 k r
    · cases h
theorem effN_ne {o : Op} {p q : List Nat} (h : effN o p = some q) : p ≠ [] ∧ q ≠ [] := by
  unfold effN at h
  split at h
  all_goals first
    | (cases h; exact ⟨by simp, by simp⟩)
    | cases h
    | (split at h <;> first | (cases h; exact ⟨by simp, by simp⟩) | cases h)
theorem effA_N {o : Op} {p q : List Nat} {a : Nat} (h : effN o p = some q) : effA o (p, a) = some (q, a) := by
  cases p with
  | nil => exact absurd rfl (effN_ne h).1
  | cons x r =>
    have e : effA o (x :: r, a) = ((effN o (x :: r)).map fun q => (q, a)) ∨ (o = .cls ∧ r = []) := by
      cases o with
      | cls =>
        cases r with
        | nil => exact .inr ⟨rfl, rfl⟩
        | cons y r => exact .inl rfl
      | nt c n i => cases i <;> exact .inl rfl
      | _ => exact .inl rfl
    rcases e with e | ⟨rfl, rfl⟩
    · rw [e, h]; rfl
    · cases h
theorem runA_N : ∀ {ws : List Str} {p q : List Nat} {a : Nat}, runN ws p = some q → runA ws (p, a) = some (q, a)
  | [], p, q, a, h => by cases h; rfl
  | z :: ws, p, q, a, h => by
    unfold runN at h
    split at h
    · rename_i q1 h1
      unfold runA
      rw [effA_N h1]
      exact runA_N h
    · cases h
theorem effA_shift {o : Op} {p q : List Nat} {a b : Nat} (h : effA o (p, a) = some (q, b)) (k : Nat) : effA o (p, a + k) = some (q, b + k) := by
  cases p with
  | nil =>
    cases o with
    | opn => cases h; rfl
    | cls => cases h
    | same =>
      match a, h with
      | 0, h => cases h
      | 1, h => cases h
      | a + 2, h =>
        cases h
        have e : a + 2 + k = (a + k) + 2 := by omega
        rw [e]
        show some (([2] : List Nat), a + k + 1) = _
        rw [Nat.add_right_comm]
    | nop => cases h; rfl
    | add => cases h; show some (([] : List Nat), a + k + 1) = _; rw [Nat.add_right_comm]
    | ins => cases h
    | bad => cases h
    | nt c n i =>
      cases i with
      | none => cases h
      | some n =>
        have h : (if n ≤ a then some (([] : List Nat), a + c) else none) = some (q, b) := h
        split at h
        · cases h
          show (if n ≤ a + k then some (([] : List Nat), a + k + c) else none) = _
          rw [if_pos (by omega), Nat.add_right_comm]
        · cases h
  | cons x r =>
    by_cases e : effN o (x :: r) = none
    · cases o with
      | cls =>
        cases r with
        | nil => cases h; show some (([] : List Nat), a + k + 1) = _; rw [Nat.add_right_comm]
        | cons y r => cases e
      | nt c n i =>
        have h : ((effN (.nt c n i) (x :: r)).map fun q => (q, a)) = some (q, b) := by cases i <;> exact h
        rw [e] at h
        cases h
      | same =>
        cases x with
        | zero => cases h
        | succ x => cases e
      | bad => cases h
      | _ => cases e
    · cases q1 : effN o (x :: r) with
      | none => exact absurd q1 e
      | some q' =>
        rw [effA_N q1] at h
        cases h
        exact effA_N q1
theorem runA_shift : ∀ {ws : List Str} {p q : List Nat} {a b : Nat}, runA ws (p, a) = some (q, b) → ∀ k, runA ws (p, a + k) = some (q, b + k)
  | [], p, q, a, b, h, k => by cases h; rfl
  | z :: ws, p, q, a, b, h, k => by
    unfold runA at h
    split at h
    · rename_i q1 h1
      obtain ⟨p1, b1⟩ := q1
      unfold runA
      rw [effA_shift h1 k]
      exact runA_shift h k
    · cases h
/-! ### monotone, and every rule keeps it -/
def LeL : List Nat → List Nat → Prop
  | [], [] => True
  | x :: p, y :: q => x ≤ y ∧ LeL p q
  | _, _ => False
def LeA (s t : Ab) : Prop := LeL s.1 t.1 ∧ s.2 ≤ t.2
theorem LeL.refl : ∀ p, LeL p p
  | [] => trivial
  | x :: p => ⟨Nat.le_refl _, LeL.refl p⟩
theorem effN_mono {o : Op} {p q p' : List Nat} (l : LeL p q) (h : effN o p = some p') : ∃ q', effN o q = some q' ∧ LeL p' q' := by
  cases p with
  | nil => exact absurd rfl (effN_ne h).1
  | cons x p =>
    cases q with
    | nil => exact l.elim
    | cons y q =>
      obtain ⟨l1, l2⟩ := l
      cases o with
      | opn => cases h; exact ⟨_, rfl, Nat.le_refl _, l1, l2⟩
      | cls =>
        cases p with
        | nil => cases h
        | cons u p =>
          cases q with
          | nil => exact l2.elim
          | cons v q => cases h; exact ⟨_, rfl, Nat.succ_le_succ l2.1, l2.2⟩
      | same =>
        cases x with
        | zero => cases h
        | succ x =>
          cases y with
          | zero => omega
          | succ y => cases h; exact ⟨_, rfl, Nat.le_refl _, Nat.le_of_succ_le_succ l1, l2⟩
      | nop => cases h; exact ⟨_, rfl, l1, l2⟩
      | add => cases h; exact ⟨_, rfl, Nat.succ_le_succ l1, l2⟩
      | ins => cases h; exact ⟨_, rfl, Nat.succ_le_succ l1, l2⟩
      | bad => cases h
      | nt c n i =>
        have h : (if n ≤ x then some ((x + c) :: p) else none) = some p' := h
        split at h
        · cases h
          refine ⟨(y + c) :: q, ?_, by show x + c ≤ y + c; omega, l2⟩
          show (if n ≤ y then some ((y + c) :: q) else none) = _
          rw [if_pos (by omega)]
        · cases h
theorem effA_mono {o : Op} {s t s' : Ab} (l : LeA s t) (h : effA o s = some s') : ∃ t', effA o t = some t' ∧ LeA s' t' := by
  obtain ⟨p, a⟩ := s
  obtain ⟨q, b⟩ := t
  obtain ⟨p', a'⟩ := s'
  obtain ⟨l1, l2⟩ := l
  dsimp only at l1 l2
  cases p with
  | nil =>
    cases q with
    | cons _ _ => exact l1.elim
    | nil =>
      obtain ⟨k, rfl⟩ : ∃ k, b = a + k := ⟨b - a, by omega⟩
      exact ⟨_, effA_shift h k, LeL.refl _, Nat.le_add_right _ _⟩
  | cons x p =>
    cases hn : effN o (x :: p) with
    | some p1 =>
      rw [effA_N hn] at h
      cases h
      obtain ⟨q', h1, h2⟩ := effN_mono l1 hn
      exact ⟨_, effA_N h1, h2, l2⟩
    | none =>
      cases q with
      | nil => exact l1.elim
      | cons y q =>
        cases o with
        | cls =>
          cases p with
          | cons u p => cases hn
          | nil =>
            cases q with
            | cons _ _ => exact l1.2.elim
            | nil => cases h; exact ⟨_, rfl, trivial, Nat.succ_le_succ l2⟩
        | same =>
          cases x with
          | zero => cases h
          | succ x => cases hn
        | nt c n i =>
          have h : ((effN (.nt c n i) (x :: p)).map fun q => (q, a)) = some (p', a') := by cases i <;> exact h
          rw [hn] at h
          cases h
        | bad => cases h
        | _ => cases hn
theorem runA_mono : ∀ {ws : List Str} {s t s' : Ab}, LeA s t → runA ws s = some s' → ∃ t', runA ws t = some t' ∧ LeA s' t'
  | [], s, t, s', l, h => by cases h; exact ⟨t, rfl, l⟩
  | z :: ws, s, t, s', l, h => by
    unfold runA at h
    split at h
    · rename_i s1 h1
      obtain ⟨t1, h2, l2⟩ := effA_mono l h1
      obtain ⟨t', h3, l3⟩ := runA_mono l2 h
      refine ⟨t', ?_, l3⟩
      unfold runA
      rw [h2]
      exact h3
    · cases h
theorem runA_app : ∀ (ws vs : List Str) (s : Ab), runA (ws ++ vs) s = (runA ws s).bind (runA vs)
  | [], vs, s => rfl
  | z :: ws, vs, s => by
    rw [List.cons_append]
    unfold runA
    cases effA (opOf z) s with
    | none => rfl
    | some q => exact runA_app ws vs q
/-! the rules -/
def rowsD : PyData → List (Str × Str)
  | .tuple xs => xs.map fun | .tuple [.str a, .str b] => (a, b) | _ => ("", "")
  | _ => []
def rulesOf (z : Str) : List (List Str × List Str) := match t_RULES z with
  | some d => (rowsD d).map fun p => (Txt.words p.1, Txt.words p.2)
  | none => []
def NTP : List Str := l_RULES.map Prod.fst
def okIn (z : Str) (ws : List Str) : Bool := match runN ws [reqN z] with
  | some [k] => decide (reqN z + (CNT.lookup z).getD 0 ≤ k)
  | _ => false
def okIt (z : Str) (ws : List Str) : Bool := match runA ws ([], reqI z) with
  | some ([], k) => decide (reqI z + (CNT.lookup z).getD 0 ≤ k)
  | _ => false
theorem rules_typed : ∀ z ∈ NTP, z = "ITEM" ∨ (CNT.lookup z).isSome = true ∧ opOf z = .nt ((CNT.lookup z).getD 0) (reqN z) (if z ∈ ITL then some (reqI z) else none) ∧ ∀ r ∈ rulesOf z, okIn z r.2 = true ∧ (z ∈ ITL → okIt z r.2 = true) := by
  have h0 : ∀ z ∈ NTP, z = ("ITEM" : Str) ∨ ((CNT.lookup z).isSome = true ∧ ((rulesOf z).all fun r => okIn z r.2) = true) := by decide +kernel
  have h00 : ∀ z ∈ ITL, ((rulesOf z).all fun r => okIt z r.2) = true := by decide +kernel
  have h1 : ∀ z ∈ NTP, z = ("ITEM" : Str) ∨ (CNT.lookup z).isSome = true ∧ ∀ r ∈ rulesOf z, okIn z r.2 = true ∧ (z ∈ ITL → okIt z r.2 = true) := by
    intro z hz
    rcases h0 z hz with q | ⟨q1, q2⟩
    · exact .inl q
    · exact .inr ⟨q1, fun r hr => ⟨List.all_eq_true.mp q2 r hr, fun hi => List.all_eq_true.mp (h00 z hi) r hr⟩⟩
  have h2 : ∀ z ∈ CNT.map Prod.fst, opOf z = .nt ((CNT.lookup z).getD 0) (reqN z) (if z ∈ ITL then some (reqI z) else none) := by
    intro z hz
    simp only [CNT, List.map_cons, List.map_nil, List.mem_cons, List.not_mem_nil, or_false] at hz
    rcases hz with rfl | rfl | rfl | rfl | rfl | rfl | rfl | rfl | rfl | rfl | rfl | rfl | rfl | rfl | rfl | rfl | rfl | rfl | rfl | rfl | rfl | rfl | rfl | rfl | rfl | rfl | rfl | rfl | rfl | rfl
    all_goals rfl
  intro z hz
  rcases h1 z hz with q | ⟨q1, q2⟩
  · exact .inl q
  · refine .inr ⟨q1, h2 z ?_, q2⟩
    have : ∀ z ∈ NTP, (CNT.lookup z).isSome = true → z ∈ CNT.map Prod.fst := by decide +kernel
    exact this z hz q1
/-- a rule's row does at least what its symbol does -/
theorem rule_run {z : Str} {ws : List Str} (hz : z ∈ NTP) (hi : z ≠ "ITEM") (hr : ∃ f, (f, ws) ∈ rulesOf z) {s t : Ab} (h : effA (opOf z) s = some t) : ∃ t', runA ws s = some t' ∧ LeA t t' := by
  obtain ⟨f, hr⟩ := hr
  obtain ⟨c1, c2, c3⟩ := (rules_typed z hz).resolve_left hi
  obtain ⟨k1, k2⟩ := c3 _ hr
  rw [c2] at h
  obtain ⟨p, a⟩ := s
  cases p with
  | cons x p =>
    have h : ((effN (.nt ((CNT.lookup z).getD 0) (reqN z) (if z ∈ ITL then some (reqI z) else none)) (x :: p)).map fun q => (q, a)) = some t := by
      by_cases q : z ∈ ITL
      · rw [if_pos q] at h ⊢; exact h
      · rw [if_neg q] at h ⊢; exact h
    have h : ((if reqN z ≤ x then some ((x + (CNT.lookup z).getD 0) :: p) else none).map fun q => (q, a)) = some t := h
    split at h
    · rename_i hx
      cases h
      unfold okIn at k1
      split at k1
      · rename_i k hk
        have hk2 : reqN z + (CNT.lookup z).getD 0 ≤ k := of_decide_eq_true k1
        obtain ⟨p', y, e, f⟩ := runN_shift (p := []) (x := reqN z) hk
        have e2 : p' = [] ∧ y = k := by
          cases p' with
          | nil => exact ⟨rfl, by injection e with e _; exact e.symm⟩
          | cons u p' => injection e with _ e; cases p' <;> cases e
        obtain ⟨rfl, rfl⟩ := e2
        have g := f (x - reqN z) p
        have ex : reqN z + (x - reqN z) = x := by omega
        rw [ex] at g
        exact ⟨_, runA_N g, ⟨by show x + _ ≤ y + (x - reqN z); omega, LeL.refl p⟩, Nat.le_refl _⟩
      · cases k1
    · cases h
  | nil =>
    by_cases q : z ∈ ITL
    · rw [if_pos q] at h
      have h : (if reqI z ≤ a then some (([] : List Nat), a + (CNT.lookup z).getD 0) else none) = some t := h
      split at h
      · rename_i ha
        cases h
        have k2 := k2 q
        unfold okIt at k2
        split at k2
        · rename_i k hk
          have hk2 : reqI z + (CNT.lookup z).getD 0 ≤ k := of_decide_eq_true k2
          have g := runA_shift hk (a - reqI z)
          have ex : reqI z + (a - reqI z) = a := by omega
          rw [ex] at g
          exact ⟨_, g, trivial, by show a + _ ≤ k + (a - reqI z); omega⟩
        · cases k2
      · cases h
    · rw [if_neg q] at h
      cases h
end K17

namespace K17
open PySem PySem.Spec PyProof.Rows L2 MM
local macro_rules | `(tactic| walk_at "w") => `(tactic| conv => whnf)
def stoR (due : List Str) (x : Mo) (js : List Nat) (depth : Int) (tl : List Mo) : List Mo :=
  .ins "ItemWalk" [("due", .sl 1), ("made", .sl 3), ("depth", .val (.int depth))] :: .fl (due.map PyData.str) :: x :: .ls (js.map Ar.sl) :: tl
def sp_ItemWalk__m___init__ : DSp := fun as m C _ => as = [.sl 0] ∧ m = [.ins "ItemWalk" []] ∧ C (.val .none) (stoR ["ITEM"] (.fl []) [2] 0 [])
theorem l_ItemWalk__m___init__ : ∀ as m C Ex, sp_ItemWalk__m___init__ as m C Ex → b_ItemWalk__m___init__ (endsD m.length C) (startD N_ItemWalk__m___init__ as m) := by
  rintro as m C Ex ⟨rfl, rfl, h⟩
  have hs := DD.sl_line
  walk_at "w"
  refine ⟨by show 1 ≤ sizeLine; omega, ?_⟩
  walk_at "w"
  refine ⟨⟨rfl, by decide⟩, ?_⟩
  walk_at "w"
  refine ⟨by show 0 ≤ sizeLine; omega, ?_⟩
  walk_at "w"
  refine ⟨by show 1 ≤ sizeLine; omega, ?_⟩
  walk_at "w"
  refine ⟨⟨rfl, by decide⟩, ?_⟩
  walk_at "w"
  refine ⟨⟨rfl, by decide⟩, ?_⟩
  exact .inl h
inductive Inn (m : List Mo) : List Nat → List (List PyData) → Prop
  | nil : Inn m [] []
  | cons {j js xs xss} : m[j]? = some (.fl xs) → (j = 2 ∨ 4 ≤ j) → j ∉ js → Inn m js xss → Inn m (j :: js) (xs :: xss)
theorem Inn.mono {m m' : List Mo} : ∀ {js : List Nat} {xss : List (List PyData)}, (∀ j ∈ js, (j = 2 ∨ 4 ≤ j) → j < m.length → m'[j]? = m[j]?) → Inn m js xss → Inn m' js xss
  | [], _, _, .nil => .nil
  | j :: js, _, h, .cons h1 h2 h3 h4 => .cons (by rw [h j (by simp) h2 (List.getElem?_eq_some_iff.mp h1).1]; exact h1) h2 h3 (Inn.mono (fun i hi => h i (List.mem_cons_of_mem _ hi)) h4)
theorem Inn.len {m : List Mo} : ∀ {js : List Nat} {xss : List (List PyData)}, Inn m js xss → js.length = xss.length
  | [], _, .nil => rfl
  | j :: js, _, .cons h1 h2 h3 h4 => by rw [List.length_cons, List.length_cons, h4.len]
theorem Inn.lt {m : List Mo} : ∀ {js : List Nat} {xss : List (List PyData)}, Inn m js xss → ∀ j ∈ js, j < m.length
  | [], _, _ => fun i hi => nomatch hi
  | j :: js, _, .cons h1 h2 h3 h4 => fun i hi => (List.mem_cons.mp hi).elim (fun e => e ▸ (List.getElem?_eq_some_iff.mp h1).1) (h4.lt i)
def Bes (m : List Mo) (js : List Nat) (rs : List (Nat × List PyData)) : Prop := ∀ p ∈ rs, m[p.1]? = some (.fl p.2) ∧ 4 ≤ p.1 ∧ p.1 ∉ js
def Wk (m : List Mo) (stk : List Str) (mk : List (List PyData)) (d : Int) (rs : List (Nat × List PyData)) : Prop := ∃ x js tl, m = stoR stk.reverse x js.reverse d tl ∧ Inn m js mk ∧ Bes m js rs
theorem stoR_set {due x js d tl i} (h : i = 2 ∨ 4 ≤ i) (o : Mo) : ∃ x' tl', (stoR due x js d tl).set i o = stoR due x' js d tl' := by
  rcases h with rfl | h
  · exact ⟨o, tl, rfl⟩
  · obtain ⟨k, rfl⟩ : ∃ k, i = k + 4 := ⟨i - 4, by omega⟩
    exact ⟨x, tl.set k o, rfl⟩
theorem wk_top {m : List Mo} {stk : List Str} {x j js d tl xs mk rs} (ys : List PyData) (e : m = stoR stk.reverse x (j :: js).reverse d tl) (h : Inn m (j :: js) (xs :: mk)) (b : Bes m (j :: js) rs) : Wk (m.set j (.fl ys)) stk (ys :: mk) d rs := by
  cases h with
  | cons h1 h2 h3 h4 =>
    obtain ⟨x', tl', e'⟩ := stoR_set (due := stk.reverse) (x := x) (js := (j :: js).reverse) (d := d) (tl := tl) h2 (.fl ys)
    have lt := (List.getElem?_eq_some_iff.mp h1).1
    refine ⟨x', j :: js, tl', by rw [e]; exact e', .cons (List.getElem?_set_self lt) h2 h3 (h4.mono fun i hi _ _ => List.getElem?_set_ne (fun q : j = i => h3 (q.symm ▸ hi))), fun p hp => ?_⟩
    obtain ⟨b1, b2, b3⟩ := b p hp
    exact ⟨by rw [List.getElem?_set_ne (fun q : j = p.1 => b3 (q ▸ List.mem_cons_self))]; exact b1, b2, b3⟩
theorem wk_push {m : List Mo} {stk : List Str} {x js d tl mk rs} (ys : List PyData) (e : m = stoR stk.reverse x js.reverse d tl) (h : Inn m js mk) (b : Bes m js rs) : Wk ((m ++ [Mo.fl ys]).set 3 (Mo.ls (js.reverse.map Ar.sl ++ [Ar.sl m.length]))) stk (ys :: mk) d rs := by
  have l4 : 4 ≤ m.length := by rw [e]; exact Nat.le_add_left 4 tl.length
  have old : ∀ i, i ≠ 3 → i < m.length → ((m ++ [Mo.fl ys]).set 3 (Mo.ls (js.reverse.map Ar.sl ++ [Ar.sl m.length])))[i]? = m[i]? := fun i h3 hi => by
    rw [List.getElem?_set_ne (Ne.symm h3), List.getElem?_append_left hi]
  have nl : m.length ∉ js := fun hm => absurd (h.lt _ hm) (Nat.lt_irrefl _)
  refine ⟨x, m.length :: js, tl ++ [.fl ys], ?_, .cons ?_ (.inr l4) nl (h.mono fun i _ hi hl => old i (by omega) hl), fun p hp => ?_⟩
  · have e2 : (m.length :: js).reverse.map Ar.sl = js.reverse.map Ar.sl ++ [.sl m.length] := by simp
    unfold stoR
    rw [e2]
    generalize hm : m.length = n
    rw [e]
    rfl
  · rw [List.getElem?_set_ne (by omega), List.getElem?_append_right (Nat.le_refl _), Nat.sub_self]; rfl
  · obtain ⟨b1, b2, b3⟩ := b p hp
    have lt := (List.getElem?_eq_some_iff.mp b1).1
    exact ⟨by rw [old _ (by omega) lt]; exact b1, b2, fun q => (List.mem_cons.mp q).elim (fun q => by omega) b3⟩
theorem wk_pop {m : List Mo} {stk : List Str} {x j js d tl xs mk rs} (e : m = stoR stk.reverse x (j :: js).reverse d tl) (h : Inn m (j :: js) (xs :: mk)) (b : Bes m (j :: js) rs) :
    m.set 3 (Mo.ls (js.reverse.map Ar.sl)) = stoR stk.reverse x js.reverse d tl ∧ Inn (m.set 3 (Mo.ls (js.reverse.map Ar.sl))) js mk ∧ Bes (m.set 3 (Mo.ls (js.reverse.map Ar.sl))) js rs := by
  cases h with
  | cons h1 h2 h3 h4 =>
    refine ⟨by rw [e]; rfl, h4.mono fun i _ hi _ => List.getElem?_set_ne (by omega), fun p hp => ?_⟩
    obtain ⟨b1, b2, b3⟩ := b p hp
    exact ⟨by rw [List.getElem?_set_ne (by omega)]; exact b1, b2, fun q => b3 (List.mem_cons_of_mem _ q)⟩
theorem wk_depth {m : List Mo} {stk : List Str} {x js d tl mk rs} (d' : Int) (e : m = stoR stk.reverse x js.reverse d tl) (h : Inn m js mk) (b : Bes m js rs) : Wk (m.set 0 (.ins "ItemWalk" [("due", .sl 1), ("made", .sl 3), ("depth", .val (.int d'))])) stk mk d' rs := by
  refine ⟨x, js, tl, by rw [e]; rfl, h.mono fun i _ hi _ => List.getElem?_set_ne (by omega), fun p hp => ?_⟩
  obtain ⟨b1, b2, b3⟩ := b p hp
  exact ⟨by rw [List.getElem?_set_ne (by omega)]; exact b1, b2, b3⟩
theorem wk_due {m : List Mo} {stk : List Str} {x js d tl mk rs} (stk' : List Str) (e : m = stoR stk.reverse x js.reverse d tl) (h : Inn m js mk) (b : Bes m js rs) : Wk (m.set 1 (.fl (stk'.reverse.map PyData.str))) stk' mk d rs := by
  refine ⟨x, js, tl, by rw [e]; rfl, h.mono fun i _ hi _ => List.getElem?_set_ne (by omega), fun p hp => ?_⟩
  obtain ⟨b1, b2, b3⟩ := b p hp
  exact ⟨by rw [List.getElem?_set_ne (by omega)]; exact b1, b2, b3⟩
theorem atI_last {α : Type} (xs : List α) (a : α) : atI (xs ++ [a]) (-1) = some a := by
  unfold atI ixN
  have h1 : (1 : Int) ≤ (xs.length : Int) + 1 := by omega
  have h2 : (-1 + ((xs.length : Int) + 1)).toNat = xs.length := by omega
  simp [h1, h2]
theorem isLi_fl {s m i xs} (h : m[i]? = some (.fl xs)) : isLi ⟨s, m⟩ i = true := by unfold isLi; rw [show (⟨s, m⟩ : DSt).m[i]? = _ from h]; rfl
theorem app_at {fo f : DTE} {s m i xs} {x : PyData} {C} (ho : ∀ C : Ar → DSt → Prop, C (.sl i) ⟨s, m⟩ → fo ⟨s, m⟩ C) (hi : m[i]? = some (.fl xs)) (hf : ∀ C : Ar → DSt → Prop, C (.val x) ⟨s, m⟩ → f ⟨s, m⟩ C) (hl : xs.length < sizeLine)
    (h : C (.val .none) ⟨s, m.set i (.fl (xs ++ [x]))⟩) : dApp fo f ⟨s, m⟩ C := by
  refine ho _ ?_
  show guardB (isLi ⟨s, m⟩ i) _
  rw [isLi_fl hi]
  refine hf _ ?_
  show (match m[i]? with | some o => guardB (isL o) (lenM o < sizeLine ∧ C (.val .none) (setM ⟨s, m⟩ i (appM o (.val x)))) | none => False)
  rw [hi]
  exact ⟨hl, h⟩
theorem ins_at {fo f : DTE} {s m i xs} {x : PyData} {C} (ho : ∀ C : Ar → DSt → Prop, C (.sl i) ⟨s, m⟩ → fo ⟨s, m⟩ C) (hi : m[i]? = some (.fl xs)) (hf : ∀ C : Ar → DSt → Prop, C (.val x) ⟨s, m⟩ → f ⟨s, m⟩ C) (hl : xs.length < sizeLine)
    (h : C (.val .none) ⟨s, m.set i (.fl (x :: xs))⟩) : dIns0 fo f ⟨s, m⟩ C := by
  refine ho _ ?_
  show guardB (isLi ⟨s, m⟩ i) _
  rw [isLi_fl hi]
  refine hf _ ?_
  show (match m[i]? with | some o => guardB (isL o) (lenM o < sizeLine ∧ C (.val .none) (setM ⟨s, m⟩ i (insM o x))) | none => False)
  rw [hi]
  exact ⟨hl, h⟩
theorem pop_at {fo : DTE} {s m i} {xs : List PyData} {x : PyData} {C} (ho : ∀ C : Ar → DSt → Prop, C (.sl i) ⟨s, m⟩ → fo ⟨s, m⟩ C) (hi : m[i]? = some (.fl (xs ++ [x])))
    (h : C (.val x) ⟨s, m.set i (.fl xs)⟩) : dPop fo ⟨s, m⟩ C := by
  refine ho _ ?_
  show (match m[i]? with | some o => (match popM o with | some (b, o') => C b (setM ⟨s, m⟩ i o') | none => False) | none => False)
  rw [hi]
  show (match popM (.fl (xs ++ [x])) with | some (b, o') => C b (setM ⟨s, m⟩ i o') | none => False)
  have e : popM (.fl (xs ++ [x])) = some (.val x, .fl xs) := by
    unfold popM
    simp
  rw [e]
  exact h
theorem popL_at {fo : DTE} {s m i} {xs : List Ar} {x : Ar} {C} (ho : ∀ C : Ar → DSt → Prop, C (.sl i) ⟨s, m⟩ → fo ⟨s, m⟩ C) (hi : m[i]? = some (.ls (xs ++ [x])))
    (h : C x ⟨s, m.set i (.ls xs)⟩) : dPop fo ⟨s, m⟩ C := by
  refine ho _ ?_
  show (match m[i]? with | some o => (match popM o with | some (b, o') => C b (setM ⟨s, m⟩ i o') | none => False) | none => False)
  rw [hi]
  show (match popM (.ls (xs ++ [x])) with | some (b, o') => C b (setM ⟨s, m⟩ i o') | none => False)
  have e : popM (.ls (xs ++ [x])) = some (x, .ls xs) := by
    unfold popM
    simp
  rw [e]
  exact h
theorem due_at {ss : List (Option Ar)} {m due x js d tl} (e : m = stoR due x js d tl) (C : Ar → DSt → Prop) (h : C (.sl 1) ⟨some (.sl 0) :: ss, m⟩) : dFld "ItemWalk" "due" (dVar 0) ⟨some (.sl 0) :: ss, m⟩ C := by
  subst e
  exact ⟨rfl, h⟩
theorem made_at {ss : List (Option Ar)} {m due x js d tl} (e : m = stoR due x js d tl) (C : Ar → DSt → Prop) (h : C (.sl 3) ⟨some (.sl 0) :: ss, m⟩) : dFld "ItemWalk" "made" (dVar 0) ⟨some (.sl 0) :: ss, m⟩ C := by
  subst e
  exact ⟨rfl, h⟩
theorem last_at {ss : List (Option Ar)} {m due x js j d tl} (e : m = stoR due x (j :: js).reverse d tl) (C : Ar → DSt → Prop) (h : C (.sl j) ⟨some (.sl 0) :: ss, m⟩) : dIx (dFld "ItemWalk" "made" (dVar 0)) (dUn aNeg (dC (.int 1))) ⟨some (.sl 0) :: ss, m⟩ C := by
  refine made_at e _ ?_
  show ixA ⟨some (.sl 0) :: ss, m⟩ (.sl 3) (-1) fun d => C d ⟨some (.sl 0) :: ss, m⟩
  have e3 : m[3]? = some (.ls (js.reverse.map Ar.sl ++ [.sl j])) := by
    rw [e]
    show some (Mo.ls ((j :: js).reverse.map Ar.sl)) = _
    simp
  show (match (m[3]? : Option Mo) with
    | some (Mo.fl xs) => match atI xs (-1) with
      | some d => C (.val d) ⟨some (.sl 0) :: ss, m⟩
      | none => False
    | some (Mo.ls xs) => match atI xs (-1) with
      | some d => C d ⟨some (.sl 0) :: ss, m⟩
      | none => False
    | some (Mo.tu xs) => match atI xs (-1) with
      | some d => C d ⟨some (.sl 0) :: ss, m⟩
      | none => False
    | _ => False)
  rw [e3]
  show (match atI (js.reverse.map Ar.sl ++ [Ar.sl j]) (-1) with
      | some d => C d ⟨some (.sl 0) :: ss, m⟩
      | none => False)
  rw [atI_last]
  exact h
theorem mem_look {α : Type} {y : Str} {x : α} : ∀ {l : List (Str × α)}, l.lookup y = some x → (y, x) ∈ l
  | [], h => nomatch h
  | (a, b) :: l, h => by
    rw [List.lookup_cons] at h
    split at h
    · rename_i e
      have e : y = a := by simpa using e
      cases h
      subst e
      exact List.mem_cons_self
    · exact List.mem_cons_of_mem _ (mem_look h)
theorem push_at {f : DSt → (List PyData → DSt → Prop) → Prop} {ss : List (Option Ar)} {m : List Mo} {due : List Str} {x js d tl ys} {C : Ar → DSt → Prop} (e : m = stoR due x js d tl) (hl : js.length < sizeLine) (hf : ∀ C : List PyData → DSt → Prop, C ys ⟨some (.sl 0) :: ss, m⟩ → f ⟨some (.sl 0) :: ss, m⟩ C)
    (h : C (.val .none) ⟨some (.sl 0) :: ss, (m ++ [Mo.fl ys]).set 3 (Mo.ls (js.map Ar.sl ++ [Ar.sl m.length]))⟩) : dApp (dFld "ItemWalk" "made" (dVar 0)) (dNw f) ⟨some (.sl 0) :: ss, m⟩ C := by
  refine made_at e _ ?_
  have e3 : m[3]? = some (.ls (js.map Ar.sl)) := by rw [e]; rfl
  have l3 : isLi ⟨some (.sl 0) :: ss, m⟩ 3 = true := by unfold isLi; rw [show (⟨some (.sl 0) :: ss, m⟩ : DSt).m[3]? = _ from e3]; rfl
  show guardB (isLi ⟨some (.sl 0) :: ss, m⟩ 3) _
  rw [l3]
  refine hf _ ?_
  have e4 : (m ++ [Mo.fl ys])[3]? = some (.ls (js.map Ar.sl)) := by
    rw [List.getElem?_append_left (List.getElem?_eq_some_iff.mp e3).1]; exact e3
  show (match (m ++ [Mo.fl ys])[3]? with | some o => guardB (isL o) (lenM o < sizeLine ∧ C (.val .none) (setM ⟨some (.sl 0) :: ss, m ++ [Mo.fl ys]⟩ 3 (appM o (.sl m.length)))) | none => False)
  rw [e4]
  exact ⟨by show (js.map Ar.sl).length < sizeLine; rw [List.length_map]; exact hl, h⟩
theorem tup_at {s m i xs} {C : PyData → Prop} (hi : m[i]? = some (Mo.fl xs)) (h : C (.tuple xs)) : fTuple ⟨s, m⟩ [.sl i] C := by
  have e : itemsD ⟨s, m⟩ (.sl i) = some xs := by
    show cont ⟨s, m⟩ i = some xs
    unfold cont
    rw [show (⟨s, m⟩ : DSt).m[i]? = _ from hi]
  show (match itemsD ⟨s, m⟩ (.sl i) with | some xs => C (.tuple xs) | none => False)
  rw [e]
  exact h
theorem wk_depth2 {m : List Mo} {stk : List Str} {x js d tl mk rs} {d1 d2 : Int} (q : d1 = d2) (e : m = stoR stk.reverse x js.reverse d tl) (h : Inn m js mk) (b : Bes m js rs) : Wk (m.set 0 (.ins "ItemWalk" [("due", .sl 1), ("made", .sl 3), ("depth", .val (.int d1))])) stk mk d2 rs := by
  subst q
  exact wk_depth _ e h b
theorem drop_at {f : DTE} {D : DEnds} {δ : DSt} (h : f δ fun _ δ1 => D.nx δ1) : dDrop f D δ := h
theorem seq_set {i : Nat} {f : DTE} {g : DTS} {D : DEnds} {δ : DSt} (h : f δ fun a δ1 => g D (setS δ1 i a)) : dSeq (dSet i f) g D δ := h
theorem isEmpty_map {α β : Type} (f : α → β) (l : List α) : (l.map f).isEmpty = l.isEmpty := by cases l <;> rfl
theorem if_t {t : DTT} {g h : DTS} {D : DEnds} {δ δ' : DSt} (ht : ∀ C : Bool → DSt → Prop, C true δ' → t δ C) (k : g D δ') : dIf t g h D δ := ht _ ⟨fun _ => k, (nomatch ·)⟩
theorem if_f {t : DTT} {g h : DTS} {D : DEnds} {δ δ' : DSt} (ht : ∀ C : Bool → DSt → Prop, C false δ' → t δ C) (k : h D δ') : dIf t g h D δ := ht _ ⟨(nomatch ·), fun _ => k⟩
theorem ext_at {fo f : DTE} {s m i} {xs ys : List PyData} {C : Ar → DSt → Prop} (ho : ∀ C : Ar → DSt → Prop, C (.sl i) ⟨s, m⟩ → fo ⟨s, m⟩ C) (hi : m[i]? = some (Mo.fl xs)) (hf : ∀ C : Ar → DSt → Prop, C (.val (.list ys)) ⟨s, m⟩ → f ⟨s, m⟩ C) (hl : xs.length + ys.length ≤ sizeLine)
    (h : C (.val .none) ⟨s, m.set i (.fl (xs ++ ys))⟩) : dExt fo f ⟨s, m⟩ C := by
  refine ho _ ?_
  show guardB (isLi ⟨s, m⟩ i) _
  rw [isLi_fl hi]
  refine hf _ ?_
  show (match m[i]? with | some o => guardB (isL o) (lenM o + ys.length ≤ sizeLine ∧ C (.val .none) (setM ⟨s, m⟩ i (extM o ys))) | none => False)
  rw [hi]
  exact ⟨hl, h⟩
theorem wk_side {m : List Mo} {stk mk d c cs} (cs' : List PyData) (h : Wk m stk mk d [(c, cs)]) : m[c]? = some (.fl cs) ∧ Wk (m.set c (.fl cs')) stk mk d [(c, cs')] := by
  obtain ⟨x, js, tl, e, hI, hB⟩ := h
  obtain ⟨b1, b2, b3⟩ := hB (c, cs) (List.mem_singleton.mpr rfl)
  refine ⟨b1, ?_⟩
  obtain ⟨x', tl', e'⟩ := stoR_set (due := stk.reverse) (x := x) (js := js.reverse) (d := d) (tl := tl) (i := c) (.inr b2) (.fl cs')
  refine ⟨x', js, tl', by rw [e]; exact e', hI.mono fun i hi _ _ => List.getElem?_set_ne (fun q : c = i => b3 (q ▸ hi)), fun p hp => ?_⟩
  rw [List.mem_singleton.mp hp]
  exact ⟨List.getElem?_set_self (List.getElem?_eq_some_iff.mp b1).1, b2, b3⟩
abbrev mkrow (p : Str × Str) : PyData := .tuple [.str p.1, .str p.2]
def okP (p : Str × Str) : Bool := decide (p.1.length ≤ 100) && decide (p.2.length ≤ 200) && decide ((Txt.words p.1).length ≤ 4) && decide ((Txt.words p.2).length ≤ 12)
def okRow : PyData → Bool
  | .tuple [.str a, .str b] => okP (a, b)
  | _ => false
def okRows : PyData → Bool
  | .tuple xs => xs.all okRow && decide (xs.length ≤ 5)
  | _ => false
theorem rules_ok : l_RULES.all (fun p => okRows p.2) = true := by decide +kernel
theorem okRow_mk : ∀ d, okRow d = true → ∃ p, d = mkrow p ∧ okP p = true := by
  intro d h
  unfold okRow at h
  split at h
  · exact ⟨_, rfl, h⟩
  · cases h
theorem rows_shape : ∀ xs : List PyData, xs.all okRow = true → xs = (rowsD (.tuple xs)).map mkrow ∧ ∀ p ∈ rowsD (.tuple xs), okP p = true
  | [], _ => ⟨rfl, fun p hp => nomatch hp⟩
  | x :: xs, h => by
    rw [List.all_cons, Bool.and_eq_true] at h
    obtain ⟨p, rfl, hp⟩ := okRow_mk x h.1
    obtain ⟨e, ih⟩ := rows_shape xs h.2
    have e2 : rowsD (.tuple (mkrow p :: xs)) = p :: rowsD (.tuple xs) := rfl
    rw [e2]
    exact ⟨by rw [List.map_cons, ← e], fun q hq => (List.mem_cons.mp hq).elim (fun e => e ▸ hp) (ih q)⟩
theorem okRows_shape : ∀ d, okRows d = true → d = .tuple ((rowsD d).map mkrow) ∧ (rowsD d).length ≤ 5 ∧ ∀ p ∈ rowsD d, okP p = true
  | .tuple xs, hm => by
    have hm : (xs.all okRow && decide (xs.length ≤ 5)) = true := hm
    rw [Bool.and_eq_true] at hm
    obtain ⟨e, h2⟩ := rows_shape xs hm.1
    refine ⟨by rw [← e], ?_, h2⟩
    have h5 : xs.length ≤ 5 := by simpa using hm.2
    have : (rowsD (.tuple xs)).length = xs.length := by show (List.map _ xs).length = _; rw [List.length_map]
    omega
theorem rules_shape {sym : Str} {d : PyData} (h : t_RULES sym = some d) : d = .tuple ((rowsD d).map mkrow) ∧ (rowsD d).length ≤ 5 ∧ ∀ p ∈ rowsD d, okP p = true := by
  have hm := List.all_eq_true.mp rules_ok _ (mem_look h)
  exact okRows_shape d hm
theorem okP_at {p : Str × Str} (h : okP p = true) : p.1.length ≤ 100 ∧ p.2.length ≤ 200 ∧ (Txt.words p.1).length ≤ 4 ∧ (Txt.words p.2).length ≤ 12 := by
  simpa [okP, and_assoc] using h
theorem words_flat (ws : List Str) : (ws.map PyData.str).all flatD = true := by
  rw [List.all_eq_true]
  intro x hx
  obtain ⟨z, _, rfl⟩ := List.mem_map.mp hx
  rfl
theorem words_any (ws : List Str) (z : Str) : (ws.map PyData.str).any (fun e => PyData.eqv e (.str z)) = decide (z ∈ ws) := by
  induction ws with
  | nil => rfl
  | cons w ws ih =>
    rw [List.map_cons, List.any_cons, ih]
    have : PyData.eqv (.str w) (.str z) = decide (w = z) := by
      show (w == z) = decide (w = z)
      exact Bool.beq_eq_decide_eq ..
    rw [this]
    by_cases q : w = z
    · subst q; simp
    · have q2 : ¬ z = w := fun e => q e.symm
      simp [q, q2]
theorem len_zero {a : Str} (h : ¬ a = "") : ¬ a.length = 0 := by
  intro q
  apply h
  obtain ⟨cps⟩ := a
  have : cps = #[] := Array.eq_empty_of_size_eq_zero q
  subst this
  rfl
theorem or_t {t u : DTT} {δ δ' : DSt} (ht : ∀ C : Bool → DSt → Prop, C true δ' → t δ C) : ∀ C : Bool → DSt → Prop, C true δ' → dOr t u δ C := fun C h => ht _ ⟨fun _ => h, (nomatch ·)⟩
theorem or_f {b : Bool} {t u : DTT} {δ δ' δ2 : DSt} (ht : ∀ C : Bool → DSt → Prop, C false δ' → t δ C) (hu : ∀ C : Bool → DSt → Prop, C b δ2 → u δ' C) : ∀ C : Bool → DSt → Prop, C b δ2 → dOr t u δ C := fun C h => ht _ ⟨(nomatch ·), fun _ => hu C h⟩
theorem words_at {i : Nat} {z : Str} {δ : DSt} (hi : δ.s[i]? = some (some (.val (.str z)))) (hl : z.length + 2 ≤ sizeLine) : ∀ C : Ar → DSt → Prop, C (.val (.list ((Txt.words z).map PyData.str))) δ → dM mWords (dVar i) dNil δ C := by
  intro C h
  unfold dM dVar
  rw [hi]
  exact ⟨hl, h⟩
theorem rev_at {i : Nat} {z : Str} {δ : DSt} (hi : δ.s[i]? = some (some (.val (.str z)))) (hl : z.length + 2 ≤ sizeLine) : ∀ C : Ar → DSt → Prop, C (.val (.list ((Txt.words z).map PyData.str).reverse)) δ → dFr (dRevN (dM mWords (dVar i) dNil)) δ C := by
  intro C h
  unfold dFr dRevN dM dVar
  rw [hi]
  exact ⟨hl, h⟩
theorem not_tru {i : Nat} {z : Str} {δ : DSt} (hi : δ.s[i]? = some (some (.val (.str z)))) (hl : z.length ≤ sizeLine) {b : Bool} (hb : decide (z = "") = b) : ∀ C : Bool → DSt → Prop, C b δ → dNot (dTru (dVar i)) δ C := by
  intro C h
  unfold dNot dTru dVar
  rw [hi]
  refine ⟨hl, ?_⟩
  have e : (!((z.length : Int) != 0)) = b := by
    rw [← hb]
    by_cases q : z = ""
    · subst q; rfl
    · have := len_zero q
      have h0 : ((z.length : Int) != 0) = true := by simp; omega
      rw [h0]
      simp [q]
  show C (!((z.length : Int) != 0)) δ
  rw [e]
  exact h
theorem in_at {i : Nat} {z : Str} {ws : List Str} {f : DTE} {δ : DSt} (hi : δ.s[i]? = some (some (.val (.str z)))) (hf : ∀ C : Ar → DSt → Prop, C (.val (.list (ws.map PyData.str))) δ → f δ C) {b : Bool} (hb : decide (z ∈ ws) = b) : ∀ C : Bool → DSt → Prop, C b δ → dCmp (cIn false) (dVar i) f δ C := by
  intro C h
  unfold dCmp dVar
  rw [hi]
  refine hf _ ?_
  refine ⟨rfl, words_flat ws, ?_⟩
  show C ((ws.map PyData.str).any fun e => PyData.eqv e (.str z)) δ
  rw [words_any, hb]
  exact h
theorem dgs2 {i j : Nat} {a b : Ar} {s : List (Option Ar)} {m : List Mo} {C : DSt → Prop} (h : C ⟨(s.set i (some a)).set j (some b), m⟩) : dgsCons (dgName i) (dgsCons (dgName j) dgsNil) [a, b] ⟨s, m⟩ C := h
theorem seqif_t {t : DTT} {g h h2 : DTS} {D : DEnds} {δ δ' : DSt} (ht : ∀ C : Bool → DSt → Prop, C true δ' → t δ C) (k : g { D with nx := h2 D } δ') : dSeq (dIf t g h) h2 D δ := ht _ ⟨fun _ => k, (nomatch ·)⟩
theorem seqif_f {t : DTT} {g h h2 : DTS} {D : DEnds} {δ δ' : DSt} (ht : ∀ C : Bool → DSt → Prop, C false δ' → t δ C) (k : h { D with nx := h2 D } δ') : dSeq (dIf t g h) h2 D δ := ht _ ⟨(nomatch ·), fun _ => k⟩
theorem seq_drop {f : DTE} {g : DTS} {D : DEnds} {δ : DSt} (h : f δ fun _ δ1 => g D δ1) : dSeq (dDrop f) g D δ := h
theorem for_tab {tab : Str → Option PyData} {i : Nat} {z : Str} {xs : List PyData} {g : DTG} {b : DTS} {D : DEnds} {δ : DSt} (hi : δ.s[i]? = some (some (.val (.str z)))) (ht : tab z = some (.tuple xs)) (h : dForL g b none (xs.map Ar.val) D δ) : dFor (dIterE (dTabIx tab (dVar i))) g b D δ := by
  unfold dFor dIterE dTabIx dVar
  rw [hi]
  dsimp only
  rw [ht]
  exact h
theorem tru_due {ss : List (Option Ar)} {m : List Mo} {due : List Str} {x js d tl} (e : m = stoR due x js d tl) {b : Bool} (hb : (!due.isEmpty) = b) : ∀ C : Bool → DSt → Prop, C b ⟨some (.sl 0) :: ss, m⟩ → dTru (dFld "ItemWalk" "due" (dVar 0)) ⟨some (.sl 0) :: ss, m⟩ C := by
  intro C h
  subst hb
  refine due_at e _ ?_
  have e1 : m[1]? = some (.fl (due.map PyData.str)) := by rw [e]; rfl
  have hr : rd ⟨some (.sl 0) :: ss, m⟩ (.sl 1) = some (.list (due.map PyData.str)) := by
    show (cont ⟨some (.sl 0) :: ss, m⟩ 1).map PyData.list = _
    unfold cont
    rw [show (⟨some (.sl 0) :: ss, m⟩ : DSt).m[1]? = _ from e1]
    rfl
  show (match rd ⟨some (.sl 0) :: ss, m⟩ (.sl 1) with | some d => truD d fun b => C b ⟨some (.sl 0) :: ss, m⟩ | _ => False)
  rw [hr]
  show C (!(due.map PyData.str).isEmpty) _
  rw [isEmpty_map]
  exact h
theorem eq_at {i j : Nat} {z y : Str} {δ : DSt} (hi : δ.s[i]? = some (some (.val (.str z)))) (hj : δ.s[j]? = some (some (.val (.str y)))) {b : Bool} (hb : decide (z = y) = b) : ∀ C : Bool → DSt → Prop, C b δ → dCmp (cEq false) (dVar i) (dVar j) δ C := by
  intro C h
  unfold dCmp dVar
  rw [hi]
  dsimp only
  rw [hj]
  show C (decide (z = y)) δ
  rw [hb]
  exact h
theorem tabin_at {tab : Str → Option PyData} {i : Nat} {z : Str} {δ : DSt} (hi : δ.s[i]? = some (some (.val (.str z)))) {b : Bool} (hb : (tab z).isSome = b) : ∀ C : Bool → DSt → Prop, C b δ → dTabIn false tab (dVar i) δ C := by
  intro C h
  unfold dTabIn dVar
  rw [hi]
  show C (tab z).isSome δ
  rw [hb]
  exact h
theorem first_at {i : Nat} {z : Str} {c : Nat} {s : Str} {δ : DSt} (hi : δ.s[i]? = some (some (.val (.str z)))) (hl : z.length ≤ sizeLine) (hc : atI z.cps.toList 0 = some c) (hm : c ∈ s.cps.toList) : ∀ C : Bool → DSt → Prop, C true δ → dCmp (cIn false) (dIx (dVar i) (dC (.int 0))) (dC (.str s)) δ C := by
  intro C h
  unfold dCmp dIx dVar
  rw [hi]
  refine ⟨hl, ?_⟩
  rw [hc]
  show C (decide (c ∈ s.cps.toList)) δ
  rw [decide_eq_true hm]
  exact h
theorem wk_drop {m stk mk d rs} (h : Wk m stk mk d rs) : Wk m stk mk d [] := by
  obtain ⟨x, js, tl, e, hI, hB⟩ := h
  exact ⟨x, js, tl, e, hI, fun p hp => nomatch hp⟩
theorem wk_new {m stk mk d} (h : Wk m stk mk d []) (ys : List PyData) : Wk (m ++ [Mo.fl ys]) stk mk d [(m.length, ys)] := by
  obtain ⟨x, js, tl, e, hI, hB⟩ := h
  refine ⟨x, js, tl ++ [Mo.fl ys], by rw [e]; rfl, hI.mono fun i hi _ lt => List.getElem?_append_left lt, fun p hp => ?_⟩
  rw [List.mem_singleton.mp hp]
  refine ⟨by rw [List.getElem?_append_right (Nat.le_refl _), Nat.sub_self]; rfl, ?_, fun q => absurd (hI.lt _ q) (Nat.lt_irrefl _)⟩
  rw [e]
  exact Nat.le_add_left 4 tl.length
theorem frA_ne {c i : Nat} {D : PyData} (h : ¬ i = c) : frA c D (.sl i) = .sl i := by
  show (if i = c then _ else _) = _
  rw [if_neg h]
theorem wk_frz {m stk mk d c cs} (D : PyData) (h : Wk m stk mk d [(c, cs)]) : Wk ((m.set c .no).map (frO c D)) stk mk d [] := by
  obtain ⟨x, js, tl, e, hI, hB⟩ := h
  obtain ⟨b1, b2, b3⟩ := hB (c, cs) (List.mem_singleton.mpr rfl)
  obtain ⟨k, rfl⟩ : ∃ k, c = k + 4 := ⟨c - 4, by have : 4 ≤ c := b2; omega⟩
  refine ⟨frO (k + 4) D x, js, (tl.set k .no).map (frO (k + 4) D), ?_, ?_, fun p hp => nomatch hp⟩
  · rw [e]
    have n1 : frA (k + 4) D (.sl 1) = .sl 1 := frA_ne (by omega)
    have n3 : frA (k + 4) D (.sl 3) = .sl 3 := frA_ne (by omega)
    have nj : (js.reverse.map Ar.sl).map (frA (k + 4) D) = js.reverse.map Ar.sl := by
      rw [List.map_map]
      refine List.map_congr_left fun i hi => ?_
      show frA (k + 4) D (.sl i) = .sl i
      exact frA_ne (fun q => b3 (by show k + 4 ∈ js; rw [← q]; exact List.mem_reverse.mp hi))
    show (Mo.ins "ItemWalk" [("due", frA (k + 4) D (.sl 1)), ("made", frA (k + 4) D (.sl 3)), ("depth", .val (.int d))] :: Mo.fl (stk.reverse.map PyData.str) :: frO (k + 4) D x :: Mo.ls ((js.reverse.map Ar.sl).map (frA (k + 4) D)) :: (tl.set k .no).map (frO (k + 4) D)) = _
    rw [n1, n3, nj]
    rfl
  · clear hB b1 b2 e
    induction hI with
    | nil => exact .nil
    | cons h1 h2 h3 h4 ih =>
      rename_i j js xs xss
      have nj : k + 4 ≠ j := fun q => b3 (q ▸ List.mem_cons_self)
      refine .cons ?_ h2 h3 (ih (fun q => b3 (List.mem_cons_of_mem _ q)))
      rw [List.getElem?_map, List.getElem?_set_ne nj, h1]
      rfl
theorem meth_at {c f : Str} {d : DSp} {g : DTA} {ss : List (Option Ar)} {m : List Mo} {due : List Str} {x js dp tl} {as : List Ar} {C : Ar → DSt → Prop} (hc : c = "ItemWalk") (hf : f = "expand" ∨ f = "act" ∨ f = "meet" ∨ f = "take") (e : m = stoR due x js dp tl)
    (hg : ∀ C : List Ar → DSt → Prop, C as ⟨some (.sl 0) :: ss, m⟩ → g ⟨some (.sl 0) :: ss, m⟩ C) (h : d (.sl 0 :: as) m (fun r m' => C r ⟨some (.sl 0) :: ss, m'⟩) (fun _ _ => False)) : dMeth c f d (dVar 0) g ⟨some (.sl 0) :: ss, m⟩ C := by
  subst e hc
  rcases hf with rfl | rfl | rfl | rfl
  all_goals exact ⟨⟨rfl, rfl⟩, hg _ h⟩
theorem meth_at2 {i : Nat} {f : Str} {d : DSp} {g : DTA} {s : List (Option Ar)} {m : List Mo} {due : List Str} {x js dp tl} {as : List Ar} {C : Ar → DSt → Prop} (hi : s[i]? = some (some (.sl 0))) (hf : f = "expand" ∨ f = "act" ∨ f = "meet" ∨ f = "take") (e : m = stoR due x js dp tl)
    (hg : ∀ C : List Ar → DSt → Prop, C as ⟨s, m⟩ → g ⟨s, m⟩ C) (h : d (.sl 0 :: as) m (fun r m' => C r ⟨s, m'⟩) (fun _ _ => False)) : dMeth "ItemWalk" f d (dVar i) g ⟨s, m⟩ C := by
  unfold dMeth dVar
  rw [show (⟨s, m⟩ : DSt).s[i]? = _ from hi]
  subst e
  rcases hf with rfl | rfl | rfl | rfl
  all_goals exact ⟨⟨rfl, rfl⟩, hg _ h⟩
theorem var_at {i : Nat} {a : Ar} {δ : DSt} (hi : δ.s[i]? = some (some a)) : ∀ C : List Ar → DSt → Prop, C [a] δ → dCons (dVar i) dNil δ C := by
  intro C h
  unfold dCons dVar
  rw [hi]
  exact h
theorem ix_sl {fa : DTE} {s m j k} {xs : List PyData} {v : PyData} {C : Ar → DSt → Prop} (ha : ∀ C : Ar → DSt → Prop, C (.sl j) ⟨s, m⟩ → fa ⟨s, m⟩ C) (hj : m[j]? = some (Mo.fl xs)) (hv : atI xs k = some v) (h : C (.val v) ⟨s, m⟩) : dIx fa (dC (.int k)) ⟨s, m⟩ C := by
  refine ha _ ?_
  show ixA ⟨s, m⟩ (.sl j) k (fun d => C d ⟨s, m⟩)
  unfold ixA
  dsimp only
  rw [hj]
  dsimp only
  rw [hv]
  exact h
end K17

namespace K17
open PySem PySem.Spec PyProof.Rows L2 MM
local macro_rules | `(tactic| walk_at "w") => `(tactic| conv => whnf)
/-! ### tokens -/
def WRDS : List Str := ["face", "use", "as", "open", "hiding", "kind", "def", "let", "in", "if", "then", "else", "case", "of", "end"]
def SGNS : List Str := ["(", ")", ",", ";", ".", ":", "=", "|", "_", "..", "==", "->"]
abbrev Tk := Str × Str
def tokD (p : Tk) : PyData := .tuple [.str p.1, .str p.2]
def TokOk (p : Tk) : Prop := (p.1 = "name" ∨ p.1 = "Name" ∨ p.1 = "wrong") ∨ (p.1 = "word" ∧ p.2 ∈ WRDS) ∨ (p.1 = "sign" ∧ p.2 ∈ SGNS)
def keyOf (p : Tk) : Str := if p.1 = "word" ∨ p.1 = "sign" then p.2 else p.1
def signOf (p : Tk) : Str := if p.1 = "name" ∨ p.1 = "Name" then p.1 else if p.1 = "word" ∨ p.1 = "sign" then p.2 else ""
def sp_terminal : DSp := fun as m C _ => ∃ p : Tk, as = [.val (tokD p)] ∧ TokOk p ∧ C (.val (.str (signOf p))) m
theorem l_terminal : ∀ as m C Ex, sp_terminal as m C Ex → b_terminal (endsD m.length C) (startD N_terminal as m) := by
  rintro as m C Ex ⟨⟨k, z⟩, rfl, hz, h⟩
  have hs := DD.sl_line
  have hk : k = "name" ∨ k = "Name" ∨ k = "wrong" ∨ k = "word" ∨ k = "sign" := by
    rcases hz with (h | h | h) | ⟨h, _⟩ | ⟨h, _⟩
    · exact .inl h
    · exact .inr (.inl h)
    · exact .inr (.inr (.inl h))
    · exact .inr (.inr (.inr (.inl h)))
    · exact .inr (.inr (.inr (.inr h)))
  clear hz
  show b_terminal (endsD m.length C) (startD N_terminal [.val (.tuple [.str k, .str z])] m)
  rcases hk with rfl | rfl | rfl | rfl | rfl
  all_goals walk_at "w"
  all_goals iterate 12 try first
    | exact .inl h
    | (refine ⟨rfl, rfl, ?_⟩; walk_at "w")
    | (refine ⟨by rw [hs]; decide +kernel, ?_⟩; walk_at "w")
    | (refine ⟨fun e => absurd e (by decide +kernel), fun _ => ?_⟩; walk_at "w")
    | (refine ⟨fun _ => ?_, fun e => absurd e (by decide +kernel)⟩; walk_at "w")
def sp__law_key : DSp := fun as m C _ => ∃ p : Tk, as = [.val (tokD p)] ∧ TokOk p ∧ C (.val (.str (keyOf p))) m
theorem l__law_key : ∀ as m C Ex, sp__law_key as m C Ex → b__law_key (endsD m.length C) (startD N__law_key as m) := by
  rintro as m C Ex ⟨⟨k, z⟩, rfl, hz, h⟩
  have hs := DD.sl_line
  have hk : k = "name" ∨ k = "Name" ∨ k = "wrong" ∨ k = "word" ∨ k = "sign" := by
    rcases hz with (h | h | h) | ⟨h, _⟩ | ⟨h, _⟩
    · exact .inl h
    · exact .inr (.inl h)
    · exact .inr (.inr (.inl h))
    · exact .inr (.inr (.inr (.inl h)))
    · exact .inr (.inr (.inr (.inr h)))
  clear hz
  show b__law_key (endsD m.length C) (startD N__law_key [.val (.tuple [.str k, .str z])] m)
  rcases hk with rfl | rfl | rfl | rfl | rfl
  all_goals walk_at "w"
  all_goals iterate 12 try first
    | exact .inl h
    | (refine ⟨rfl, rfl, ?_⟩; walk_at "w")
    | (refine ⟨by rw [hs]; decide +kernel, ?_⟩; walk_at "w")
    | (refine ⟨fun e => absurd e (by decide +kernel), fun _ => ?_⟩; walk_at "w")
    | (refine ⟨fun _ => ?_, fun e => absurd e (by decide +kernel)⟩; walk_at "w")
/-! ### the lists that are being made -/
def wl : List (List PyData) → Nat
  | [] => 0
  | xs :: mk => 1 + xs.length + wl mk
theorem len_wl : ∀ mk : List (List PyData), mk.length ≤ wl mk
  | [] => by simp
  | x :: xs => by
    have := len_wl xs
    rw [wl, List.length_cons]
    omega
inductive ActP : Str → List (List PyData) → Int → List (List PyData) → Int → Prop
  | opn {mk d} : ActP "<" mk d ([] :: mk) d
  | cls {xs ys mk d} : ActP ">" (xs :: ys :: mk) d ((ys ++ [.tuple xs]) :: mk) d
  | add {z x xs mk d} : (z, x) ∈ ADDS → ActP z (xs :: mk) d ((xs ++ [x]) :: mk) d
  | ins {z y xs mk d} : (z, y) ∈ INSS → ActP z (xs :: mk) d ((.str y :: xs) :: mk) d
  | same {a xs mk d} : ActP "!same" ((xs ++ [a]) :: mk) d ([.str "same", a] :: xs :: mk) d
  | out {mk d} : ActP "!out" mk (d + 1) mk d
theorem ActP.le {z mk d mk' d'} (h : ActP z mk d mk' d') : wl mk' ≤ wl mk + 2 := by
  cases h with
  | out => omega
  | _ => simp only [wl, List.length_append, List.length_cons, List.length_nil]; omega
theorem ActP.dep {z mk d mk' d'} (h : ActP z mk d mk' d') : d' ≤ d := by
  cases h <;> omega
theorem ActP.mem {z mk d mk' d'} (h : ActP z mk d mk' d') : z ∈ ACTS := by
  cases h with
  | add h => exact List.mem_append_left _ (List.mem_append_right _ (List.mem_map_of_mem (f := Prod.fst) h))
  | ins h => exact List.mem_append_right _ (List.mem_map_of_mem (f := Prod.fst) h)
  | _ => simp [ACTS]
def goP (sign : Str) : List (Str × Str) → Option (List Str)
  | [] => none
  | (a, b) :: rs => if a = "" ∨ sign ∈ Txt.words a then some (Txt.words b) else goP sign rs
/-- what is noted ahead of the way that is taken -/
def pasP (sign : Str) : List (Str × Str) → List Str
  | [] => []
  | (a, b) :: rs => if a = "" ∨ sign ∈ Txt.words a then [] else Txt.words a ++ pasP sign rs
def pick_ (sym sign : Str) : Option (List Str) := match t_RULES sym with
  | some d => goP sign (rowsD d)
  | none => none
def pas_ (sym sign : Str) : List Str := match t_RULES sym with
  | some d => pasP sign (rowsD d)
  | none => []
theorem acts_none : ∀ z ∈ ACTS, t_RULES z = none := by decide +kernel
theorem acts_first : ∀ z ∈ ACTS, z.length ≤ 20 ∧ ∃ c, atI z.cps.toList 0 = some c ∧ c ∈ ("<>'^!" : Str).cps.toList := by
  have h : ∀ z ∈ ACTS, z.length ≤ 20 ∧ (match atI z.cps.toList 0 with | some c => decide (c ∈ ("<>'^!" : Str).cps.toList) | none => false) = true := by decide +kernel
  intro z hz
  obtain ⟨h1, h2⟩ := h z hz
  refine ⟨h1, ?_⟩
  split at h2
  · rename_i c hc
    exact ⟨c, hc, by simpa using h2⟩
  · cases h2
def UPS : List Str := ["let", "if", "case", "("]
def DNS : List Str := [")", "end"]
/-- taking in a token that fits -/
inductive TakeP : Tk → List (List PyData) → Int → List (List PyData) → Int → Prop
  | nm {k z : Str} {top mk d} : k = "name" ∨ k = "Name" → TakeP (k, z) (top :: mk) d ((top ++ [.str z]) :: mk) d
  | up {k z : Str} {mk d} : k = "word" ∨ k = "sign" → z ∈ UPS → TakeP (k, z) mk d mk (d + 1)
  | dn {k z : Str} {mk d} : k = "word" ∨ k = "sign" → z ∈ DNS → TakeP (k, z) mk (d + 1) mk d
  | wd {k z : Str} {mk d} : k = "word" ∨ k = "sign" → z ∉ UPS → z ∉ DNS → TakeP (k, z) mk d mk d
def sp_ItemWalk__m_take : DSp := fun as m C _ => ∃ (p : Tk) (stk : List Str) (mk : List (List PyData)) (d : Int) (mk' : List (List PyData)) (d' : Int), as = [.sl 0, .val (tokD p)] ∧ Wk m stk mk d [] ∧ TakeP p mk d mk' d' ∧ wl mk ≤ 4000000 ∧ ∀ m', Wk m' stk mk' d' [] → C (.val .none) m'
theorem l_ItemWalk__m_take : ∀ as m C Ex, sp_ItemWalk__m_take as m C Ex → b_ItemWalk__m_take (endsD m.length C) (startD N_ItemWalk__m_take as m) := by
  rintro as m C Ex ⟨p, stk, mk, d, mk', d', rfl, ⟨x, js, tl, e, hI, hB⟩, hT, hw, h⟩
  have hs := DD.sl_line
  cases hT with
  | nm hk =>
    rename_i k z top mk
    cases hI with
    | cons h1 h2 h3 h4 =>
      rename_i j js
      have hl : top.length < sizeLine := by
        simp only [wl] at hw
        omega
      rcases hk with rfl | rfl
      all_goals
        walk_at "w"
        refine ⟨by show 2 ≤ sizeLine; omega, rfl, rfl, fun _ => ?_, fun e => (by cases e)⟩
        refine app_at (last_at e) h1 (x := .str z) (fun C h => h) hl ?_
        exact .inl (h _ (wk_top _ e (.cons h1 h2 h3 h4) hB))
  | up hk hz =>
    rename_i k z
    have hz : z = "let" ∨ z = "if" ∨ z = "case" ∨ z = "(" := by simpa [UPS] using hz
    subst e
    rcases hk with rfl | rfl
    all_goals rcases hz with rfl | rfl | rfl | rfl
    all_goals
      walk_at "w"
      refine ⟨by show 2 ≤ sizeLine; omega, rfl, rfl, fun e => (by cases e), fun _ => ?_⟩
      walk_at "w"
      refine ⟨rfl, rfl, fun _ => ?_, fun e => (by cases e)⟩
      exact ⟨⟨rfl, by show 3 < 1000; decide⟩, rfl, .inl (h _ (wk_depth _ rfl hI hB))⟩
  | dn hk hz =>
    rename_i k z
    have hz : z = ")" ∨ z = "end" := by simpa [DNS] using hz
    subst e
    have ed : d' + 1 - 1 = d' := by omega
    rcases hk with rfl | rfl
    all_goals rcases hz with rfl | rfl
    all_goals
      walk_at "w"
      refine ⟨by show 2 ≤ sizeLine; omega, rfl, rfl, fun e => (by cases e), fun _ => ?_⟩
      walk_at "w"
      refine ⟨rfl, rfl, fun e => (by cases e), fun _ => ?_⟩
      walk_at "w"
      refine ⟨by show 2 ≤ sizeLine; omega, rfl, rfl, fun _ => ?_, fun e => (by cases e)⟩
      exact ⟨⟨rfl, by show 3 < 1000; decide⟩, rfl, .inl (h _ (wk_depth2 ed rfl hI hB))⟩
  | wd hk hz1 hz2 =>
    rename_i k z
    have any2 : ∀ ws : List Str, z ∉ ws → ((ws.map PyData.str).any fun e => PyData.eqv e (.str z)) = false := fun ws hn => by rw [words_any]; exact decide_eq_false hn
    have a1 : (([PyData.str "let", PyData.str "if", PyData.str "case", PyData.str "("] : List PyData).any fun e => PyData.eqv e (.str z)) = false := any2 UPS hz1
    have a2 : (([PyData.str ")", PyData.str "end"] : List PyData).any fun e => PyData.eqv e (.str z)) = false := any2 DNS hz2
    rcases hk with rfl | rfl
    all_goals
      walk_at "w"
      refine ⟨by show 2 ≤ sizeLine; omega, rfl, rfl, fun e => (by cases e), fun _ => ?_⟩
      walk_at "w"
      refine ⟨rfl, rfl, fun e => absurd (a1.symm.trans e) (by decide), fun _ => ?_⟩
      walk_at "w"
      refine ⟨by show 2 ≤ sizeLine; omega, rfl, rfl, fun e => absurd (a2.symm.trans e) (by decide), fun _ => ?_⟩
      exact .inl (h _ ⟨x, js, tl, e, hI, hB⟩)
def sp_ItemWalk__m_act : DSp := fun as m C _ => ∃ (z : Str) (stk : List Str) (mk : List (List PyData)) (d : Int) (mk' : List (List PyData)) (d' : Int) (rs : List (Nat × List PyData)), as = [.sl 0, .val (.str z)] ∧ Wk m stk mk d rs ∧ ActP z mk d mk' d' ∧ wl mk ≤ 4000000 ∧ ∀ m', Wk m' stk mk' d' rs → C (.val .none) m'
theorem l_ItemWalk__m_act : ∀ as m C Ex, sp_ItemWalk__m_act as m C Ex → b_ItemWalk__m_act (endsD m.length C) (startD N_ItemWalk__m_act as m) := by
  rintro as m C Ex ⟨z, stk, mk, d, mk', d', rs, rfl, ⟨x, js, tl, e, hI, hB⟩, hT, hw, h⟩
  have hs := DD.sl_line
  have hjs := hI.len
  have hlm := len_wl mk
  cases hT with
  | opn =>
    walk_at "w"
    refine ⟨by show 1 ≤ sizeLine; omega, ?_⟩
    walk_at "w"
    refine ⟨fun _ => ?_, fun e => (by cases e)⟩
    refine push_at e (by rw [List.length_reverse]; omega) (fun C h => ⟨Nat.zero_le _, h⟩) ?_
    exact .inl (h _ (wk_push _ e hI hB))
  | cls =>
    rename_i xs ys mk
    cases hI with
    | cons h1 h2 h3 h4 =>
      rename_i j js
      obtain ⟨e', hI', hB'⟩ := wk_pop e (.cons h1 h2 h3 h4) hB
      cases hI' with
      | cons g1 g2 g3 g4 =>
        rename_i j2 js
        walk_at "w"
        refine ⟨by show 1 ≤ sizeLine; omega, ?_⟩
        walk_at "w"
        refine ⟨fun e => (by cases e), fun _ => ?_⟩
        walk_at "w"
        refine ⟨fun _ => ?_, fun e => (by cases e)⟩
        have e3 : m[3]? = some (.ls ((j2 :: js).reverse.map Ar.sl ++ [.sl j])) := by
          rw [e]
          show some (Mo.ls ((j :: j2 :: js).reverse.map Ar.sl)) = _
          simp
        refine popL_at (made_at e) e3 ?_
        have hj : (m.set 3 (Mo.ls ((j2 :: js).reverse.map Ar.sl)))[j]? = some (Mo.fl xs) := by
          rw [List.getElem?_set_ne (by omega)]; exact h1
        refine tup_at hj ?_
        have hl : ys.length < sizeLine := by
          simp only [wl] at hw
          omega
        dsimp only
        refine drop_at ?_
        refine app_at (f := dVar 3) (last_at (ss := [some (.val (.str ">")), _, some (.val (.tuple xs)), none]) e') g1 (x := .tuple xs) (fun C h => h) hl ?_
        exact .inl (h _ (wk_top _ e' (.cons g1 g2 g3 g4) hB'))
  | add ha =>
    rename_i v xs mk
    cases hI with
    | cons h1 h2 h3 h4 =>
      rename_i j js
      have hl : xs.length < sizeLine := by
        simp only [wl] at hw
        omega
      have fin := h _ (wk_top (xs ++ [v]) e (.cons h1 h2 h3 h4) hB)
      simp only [ADDS, List.mem_cons, Prod.mk.injEq, List.not_mem_nil, or_false] at ha
      rcases ha with ⟨rfl, rfl⟩ | ⟨rfl, rfl⟩ | ⟨rfl, rfl⟩ | ⟨rfl, rfl⟩ | ⟨rfl, rfl⟩ | ⟨rfl, rfl⟩ | ⟨rfl, rfl⟩ | ⟨rfl, rfl⟩ | ⟨rfl, rfl⟩ | ⟨rfl, rfl⟩ | ⟨rfl, rfl⟩ | ⟨rfl, rfl⟩ | ⟨rfl, rfl⟩ | ⟨rfl, rfl⟩ | ⟨rfl, rfl⟩ | ⟨rfl, rfl⟩ | ⟨rfl, rfl⟩ | ⟨rfl, rfl⟩
      all_goals
        walk_at "w"
        refine ⟨Nat.le_trans (by decide +kernel : _ ≤ 20) (by omega), ?_⟩
        walk_at "w"
        refine ⟨fun e => (by cases e), fun _ => ?_⟩
        walk_at "w"
        refine ⟨fun e => (by cases e), fun _ => ?_⟩
        walk_at "w"
        refine ⟨fun _ => ?_, fun e => (by cases e)⟩
        refine app_at (last_at e) h1 (fun C h => ⟨Nat.le_trans (by decide +kernel : _ ≤ 20) (by omega), h⟩) hl ?_
        exact .inl fin
  | ins ha =>
    rename_i v xs mk
    cases hI with
    | cons h1 h2 h3 h4 =>
      rename_i j js
      have hl : xs.length < sizeLine := by
        simp only [wl] at hw
        omega
      have fin := h _ (wk_top (.str v :: xs) e (.cons h1 h2 h3 h4) hB)
      simp only [INSS, List.mem_cons, Prod.mk.injEq, List.not_mem_nil, or_false] at ha
      rcases ha with ⟨rfl, rfl⟩ | ⟨rfl, rfl⟩ | ⟨rfl, rfl⟩ | ⟨rfl, rfl⟩
      all_goals
        walk_at "w"
        refine ⟨Nat.le_trans (by decide +kernel : _ ≤ 20) (by omega), ?_⟩
        walk_at "w"
        refine ⟨fun e => (by cases e), fun _ => ?_⟩
        walk_at "w"
        refine ⟨fun e => (by cases e), fun _ => ?_⟩
        walk_at "w"
        refine ⟨fun e => (by cases e), fun _ => ?_⟩
        walk_at "w"
        refine ⟨fun _ => ?_, fun e => (by cases e)⟩
        refine ins_at (last_at e) h1 (fun C h => ⟨Nat.le_trans (by decide +kernel : _ ≤ 20) (by omega), h⟩) hl ?_
        exact .inl fin
  | same =>
    rename_i a xs mk
    cases hI with
    | cons h1 h2 h3 h4 =>
      rename_i j js
      obtain ⟨x', js', tl', e', hI', hB'⟩ := wk_top xs e (.cons h1 h2 h3 h4) hB
      walk_at "w"
      refine ⟨by show 5 ≤ sizeLine; omega, ?_⟩
      walk_at "w"
      refine ⟨fun e => (by cases e), fun _ => ?_⟩
      walk_at "w"
      refine ⟨fun e => (by cases e), fun _ => ?_⟩
      walk_at "w"
      refine ⟨fun e => (by cases e), fun _ => ?_⟩
      walk_at "w"
      refine ⟨fun e => (by cases e), fun _ => ?_⟩
      walk_at "w"
      refine ⟨fun _ => ?_, fun e => (by cases e)⟩
      refine seq_set ?_
      refine pop_at (last_at e) h1 ?_
      have hjs' := hI'.len
      refine push_at e' (ys := [.str "same", a]) (by rw [List.length_reverse, hjs', List.length_cons]; rw [List.length_cons] at hlm; omega) (fun C h => ⟨by show 2 ≤ sizeLine; omega, h⟩) ?_
      exact .inl (h _ (wk_push _ e' hI' hB'))
  | out =>
    walk_at "w"
    refine ⟨by show 4 ≤ sizeLine; omega, ?_⟩
    walk_at "w"
    refine ⟨fun e => (by cases e), fun _ => ?_⟩
    walk_at "w"
    refine ⟨fun e => (by cases e), fun _ => ?_⟩
    walk_at "w"
    refine ⟨fun e => (by cases e), fun _ => ?_⟩
    walk_at "w"
    refine ⟨fun e => (by cases e), fun _ => ?_⟩
    walk_at "w"
    refine ⟨fun e => (by cases e), fun _ => ?_⟩
    subst e
    exact ⟨⟨rfl, by show 3 < 1000; decide⟩, rfl, .inl (h _ (wk_depth2 (by show d' + 1 - 1 = d'; omega) rfl hI hB))⟩
end K17

namespace K17
open PySem PySem.Spec PyProof.Rows L2 MM
local macro_rules | `(tactic| walk_at "w") => `(tactic| conv => whnf)
/-! ### expand -/
def sp_ItemWalk__m_expand : DSp := fun as m C _ => ∃ (sym sign : Str) (stk : List Str) (mk : List (List PyData)) (d : Int) (c : Nat) (cs : List PyData),
  as = [.sl 0, .val (.str sym), .val (.str sign), .sl c] ∧ Wk m stk mk d [(c, cs)] ∧ stk.length ≤ 400000 ∧ cs.length ≤ 4000000 ∧ (t_RULES sym).isSome = true ∧
  (∀ ws, pick_ sym sign = some ws → ∀ m', Wk m' (ws ++ stk) mk d [(c, cs ++ (pas_ sym sign).map PyData.str)] → C (.val (.bool true)) m') ∧
  (pick_ sym sign = none → ∀ m', Wk m' stk mk d [(c, cs ++ (pas_ sym sign).map PyData.str)] → C (.val (.bool false)) m')
theorem l_ItemWalk__m_expand : ∀ as m C Ex, sp_ItemWalk__m_expand as m C Ex → b_ItemWalk__m_expand (endsD m.length C) (startD N_ItemWalk__m_expand as m) := by
  rintro as m C Ex ⟨sym, sign, stk, mk, d, c, cs, rfl, hW, hst, hcs, hso, h1, h2⟩
  have hs := DD.sl_line
  unfold pick_ pas_ at h1 h2
  cases hr : t_RULES sym with
  | none => rw [hr] at hso; cases hso
  | some D =>
    rw [hr] at h1 h2
    dsimp only at h1 h2
    obtain ⟨eD, h5, hok⟩ := rules_shape hr
    unfold b_ItemWalk__m_expand
    refine seq_cut (fun δ => goP sign (rowsD D) = none ∧ ∃ m' o1 o2, δ = ⟨[some (.sl 0), some (.val (.str sym)), some (.val (.str sign)), some (.sl c), o1, o2], m'⟩ ∧ Wk m' stk mk d [(c, cs ++ (pasP sign (rowsD D)).map PyData.str)]) (fun N hN => ?_) ?_
    · rw [eD] at hr
      refine for_tab (z := sym) rfl hr ?_
      refine forL_inv (P := fun its δ => ∃ ps m' cs' o1 o2, its = (ps.map mkrow).map Ar.val ∧ δ = ⟨[some (.sl 0), some (.val (.str sym)), some (.val (.str sign)), some (.sl c), o1, o2], m'⟩ ∧ Wk m' stk mk d [(c, cs')] ∧ goP sign ps = goP sign (rowsD D) ∧ cs' ++ (pasP sign ps).map PyData.str = cs ++ (pasP sign (rowsD D)).map PyData.str ∧ cs'.length + 4 * ps.length ≤ cs.length + 20 ∧ ∀ p ∈ ps, okP p = true) ?_ ?_ _ _ ⟨_, m, cs, none, none, rfl, rfl, hW, rfl, rfl, by omega, hok⟩
      · rintro it its δ ⟨ps, m', cs', o1, o2, e1, rfl, hW', hg', hp', hc', hok'⟩ N hN
        cases ps with
        | nil => cases e1
        | cons p ps =>
          cases e1
          obtain ⟨a, b⟩ := p
          obtain ⟨k1, k2, k3, k4⟩ := okP_at (hok' _ List.mem_cons_self)
          have k1 : a.length ≤ 100 := k1
          have k2 : b.length ≤ 200 := k2
          have k3 : (Txt.words a).length ≤ 4 := k3
          have k4 : (Txt.words b).length ≤ 12 := k4
          refine ⟨rfl, ?_⟩
          refine dgs2 ?_
          show dSeq _ _ _ ⟨[some (.sl 0), some (.val (.str sym)), some (.val (.str sign)), some (.sl c), some (.val (.str a)), some (.val (.str b))], m'⟩
          have hW2 := hW'
          obtain ⟨x, js, tl, e, hI, hB⟩ := hW'
          have take : ∀ D' : DEnds, D'.rt = (endsD m.length C).rt → goP sign ((a, b) :: ps) = some (Txt.words b) → pasP sign ((a, b) :: ps) = [] → dSeq (dDrop (dExt (dFld "ItemWalk" "due" (dVar 0)) (dFr (dRevN (dM mWords (dVar 5) dNil))))) (dRet (dC (.bool true))) D' ⟨[some (.sl 0), some (.val (.str sym)), some (.val (.str sign)), some (.sl c), some (.val (.str a)), some (.val (.str b))], m'⟩ := by
            intro D' hD q1 q2
            have e1 : m'[1]? = some (.fl (stk.reverse.map PyData.str)) := by rw [e]; rfl
            refine seq_drop ?_
            refine ext_at (due_at e) e1 (ys := ((Txt.words b).map PyData.str).reverse) (by exact rev_at (z := b) rfl (by omega)) ?_ ?_
            · rw [List.length_map, List.length_reverse, List.length_reverse, List.length_map]; omega
            · have e2 : stk.reverse.map PyData.str ++ ((Txt.words b).map PyData.str).reverse = ((Txt.words b ++ stk).reverse).map PyData.str := by simp
              rw [e2]
              show D'.rt _ _
              rw [hD]
              refine .inl (h1 _ (hg'.symm.trans q1) _ ?_)
              rw [← hp', q2]
              have e3 : cs' ++ List.map PyData.str [] = cs' := List.append_nil _
              rw [e3]
              exact wk_due _ e hI hB
          by_cases ha : a = ""
          · refine seqif_t (or_t (not_tru (z := a) rfl (by omega) (decide_eq_true ha))) (take _ rfl ?_ ?_)
            · unfold goP; rw [if_pos (.inl ha)]
            · unfold pasP; rw [if_pos (.inl ha)]
          · by_cases hm : sign ∈ Txt.words a
            · refine seqif_t (or_f (not_tru (z := a) rfl (by omega) (decide_eq_false ha)) (in_at (z := sign) (ws := Txt.words a) rfl (words_at (z := a) rfl (by omega)) (decide_eq_true hm))) (take _ rfl ?_ ?_)
              · unfold goP; rw [if_pos (.inr hm)]
              · unfold pasP; rw [if_pos (.inr hm)]
            · refine seqif_f (or_f (not_tru (z := a) rfl (by omega) (decide_eq_false ha)) (in_at (z := sign) (ws := Txt.words a) rfl (words_at (z := a) rfl (by omega)) (decide_eq_false hm))) ?_
              have q1 : goP sign ((a, b) :: ps) = goP sign ps := if_neg (fun q => q.elim ha hm)
              have q2 : pasP sign ((a, b) :: ps) = Txt.words a ++ pasP sign ps := if_neg (fun q => q.elim ha hm)
              rw [q1] at hg'
              rw [q2] at hp'
              obtain ⟨w1, w2⟩ := wk_side (cs' ++ (Txt.words a).map PyData.str) hW2
              refine nx_of ?_
              dsimp only
              refine drop_at ?_
              refine ext_at (i := c) (fun C h => h) w1 (by exact words_at (z := a) rfl (by omega)) ?_ ?_
              · rw [List.length_map]; simp only [List.length_cons] at hc'; omega
              · refine hN _ ⟨ps, _, _, _, _, rfl, rfl, w2, hg', ?_, ?_, fun p hp => hok' p (List.mem_cons_of_mem _ hp)⟩
                · rw [← hp', List.map_append, List.append_assoc]
                · rw [List.length_append, List.length_map]; simp only [List.length_cons] at hc'; omega
      · rintro δ ⟨ps, m', cs', o1, o2, e1, rfl, hW', hg', hp', hc', hok'⟩
        cases ps with
        | nil =>
          have hp' : cs' ++ List.map PyData.str [] = _ := hp'
          rw [List.map_nil, List.append_nil] at hp'
          rw [hp'] at hW'
          exact hN _ ⟨hg'.symm, _, _, _, rfl, hW'⟩
        | cons p ps => cases e1
    · rintro δ ⟨hg, m', o1, o2, rfl, hW'⟩
      exact .inl (h2 hg _ hW')
/-! ### meet -/
theorem keys_none : ∀ z ∈ KEYS, t_RULES z = none := by decide +kernel
theorem keys_first : ∀ z ∈ KEYS, z.length ≤ 20 ∧ ∃ c, atI z.cps.toList 0 = some c ∧ c ∉ ("<>'^!" : Str).cps.toList := by
  have h : ∀ z ∈ KEYS, z.length ≤ 20 ∧ (match atI z.cps.toList 0 with | some c => decide (c ∉ ("<>'^!" : Str).cps.toList) | none => false) = true := by decide +kernel
  intro z hz
  obtain ⟨h1, h2⟩ := h z hz
  refine ⟨h1, ?_⟩
  split at h2
  · rename_i c hc
    exact ⟨c, hc, by simpa using h2⟩
  · cases h2
theorem first_no {i : Nat} {z : Str} {c : Nat} {s : Str} {δ : DSt} (hi : δ.s[i]? = some (some (.val (.str z)))) (hl : z.length ≤ sizeLine) (hc : atI z.cps.toList 0 = some c) (hm : c ∉ s.cps.toList) : ∀ C : Bool → DSt → Prop, C false δ → dCmp (cIn false) (dIx (dVar i) (dC (.int 0))) (dC (.str s)) δ C := by
  intro C h
  unfold dCmp dIx dVar
  rw [hi]
  refine ⟨hl, ?_⟩
  rw [hc]
  show C (decide (c ∈ s.cps.toList)) δ
  rw [decide_eq_false hm]
  exact h
/-- from the stack, the lists, the depth and what could stand here, to those behind; true: the sign was met -/
inductive MeetF (s : Str) : Nat → List Str → List (List PyData) → Int → List Str → Bool → List Str → List (List PyData) → Int → List Str → Prop
  | hit {stk mk d cs} : MeetF s 0 (s :: stk) mk d cs true stk mk d cs
  | emp {mk d cs} : MeetF s 0 [] mk d cs false [] mk d cs
  | act {n z stk mk d cs mk1 d1 b stk' mk' d' cs'} : z ≠ s → ActP z mk d mk1 d1 → wl mk ≤ 4000000 → MeetF s n stk mk1 d1 cs b stk' mk' d' cs' → MeetF s (n + 1) (z :: stk) mk d cs b stk' mk' d' cs'
  | exp {n z ws stk mk d cs b stk' mk' d' cs'} : z ≠ s → stk.length ≤ 400000 → cs.length ≤ 4000000 → pick_ z s = some ws → MeetF s n (ws ++ stk) mk d (cs ++ pas_ z s) b stk' mk' d' cs' → MeetF s (n + 1) (z :: stk) mk d cs b stk' mk' d' cs'
  | non {z stk mk d cs} : z ≠ s → stk.length ≤ 400000 → cs.length ≤ 4000000 → (t_RULES z).isSome = true → pick_ z s = none → MeetF s 0 (z :: stk) mk d cs false stk mk d (cs ++ pas_ z s)
  | ter {z stk mk d cs} : z ≠ s → cs.length ≤ 4000000 → z ∈ KEYS → MeetF s 0 (z :: stk) mk d cs false stk mk d (cs ++ [z])
theorem MeetF.dep {s n stk mk d cs b stk' mk' d' cs'} (h : MeetF s n stk mk d cs b stk' mk' d' cs') : d' ≤ d := by
  induction h with
  | hit => exact Int.le_refl _
  | emp => exact Int.le_refl _
  | act _ a _ _ ih => exact Int.le_trans ih a.dep
  | exp _ _ _ _ _ ih => exact ih
  | non => exact Int.le_refl _
  | ter => exact Int.le_refl _
def meetA (b : Bool) (cs : List Str) : PyData := if b = true then .none else .list (cs.map PyData.str)
def sp_ItemWalk__m_meet : DSp := fun as m C _ => ∃ (sign : Str) (n : Nat) (stk : List Str) (mk : List (List PyData)) (d : Int) (b : Bool) (stk' : List Str) (mk' : List (List PyData)) (d' : Int) (cs' : List Str),
  as = [.sl 0, .val (.str sign)] ∧ Wk m stk mk d [] ∧ MeetF sign n stk mk d [] b stk' mk' d' cs' ∧ ∀ m', Wk m' stk' mk' d' [] → C (.val (meetA b cs')) m'
theorem fz_at {m : List Mo} {a0 a1 o3 : Option Ar} {c n : Nat} {cs : List Str} {stk mk d} {C : Ar → List Mo → Prop} {D : DEnds} (hD : D.rt = (endsD n C).rt) (hW : Wk m stk mk d [(c, cs.map PyData.str)]) (h : ∀ m', Wk m' stk mk d [] → C (.val (.list (cs.map PyData.str))) m') :
    dRet (dFz (dVar 2)) D ⟨[a0, a1, some (.sl c), o3], m⟩ := by
  obtain ⟨b1, _⟩ := wk_side [] hW
  show (match cont ⟨[a0, a1, some (.sl c), o3], m⟩ c with
      | some xs => D.rt (.val (.list xs)) (frS ⟨[a0, a1, some (.sl c), o3], m⟩ c (.list xs))
      | none => False)
  have hcn : cont ⟨[a0, a1, some (.sl c), o3], m⟩ c = some (cs.map PyData.str) := by
    unfold cont
    rw [show (⟨[a0, a1, some (.sl c), o3], m⟩ : DSt).m[c]? = _ from b1]
  rw [hcn, hD]
  exact .inl (h _ (wk_frz _ hW))
theorem l_ItemWalk__m_meet : ∀ as m C Ex, sp_ItemWalk__m_meet as m C Ex → b_ItemWalk__m_meet sp_ItemWalk__m_expand sp_ItemWalk__m_act (endsD m.length C) (startD N_ItemWalk__m_meet as m) := by
  rintro as m C Ex ⟨sign, n, stk, mk, d, b, stk', mk', d', csF, rfl, hW, hM, h⟩
  have hs := DD.sl_line
  unfold b_ItemWalk__m_meet
  refine seq_set ?_
  refine ⟨Nat.zero_le _, ?_⟩
  show dSeq _ _ _ ⟨[some (.sl 0), some (.val (.str sign)), some (.sl m.length), none], m ++ [Mo.fl []]⟩
  generalize hc : m.length = c
  have hW0 := wk_new hW []
  rw [hc] at hW0
  refine seq_cut (fun δ => ∃ o3 m', δ = ⟨[some (.sl 0), some (.val (.str sign)), some (.sl c), o3], m'⟩ ∧ b = false ∧ Wk m' stk' mk' d' [(c, csF.map PyData.str)]) (fun N hN => ?_) ?_
  · refine while_inv (P := fun n δ => ∃ stk mk d cs o3 m', δ = ⟨[some (.sl 0), some (.val (.str sign)), some (.sl c), o3], m'⟩ ∧ Wk m' stk mk d [(c, cs.map PyData.str)] ∧ MeetF sign n stk mk d cs b stk' mk' d' csF) ?_ (n := n) ⟨stk, mk, d, [], none, _, rfl, hW0, hM⟩
    rintro n δ ⟨stk, mk, d, cs, o3, m', rfl, hWW, hM⟩ N' hN'
    have hWd := hWW
    obtain ⟨x, js, tl, e, hI, hB⟩ := hWW
    cases hst : stk with
    | nil =>
      subst hst
      refine tru_due e (b := false) (by simp) _ ⟨(nomatch ·), fun _ => ?_⟩
      cases hM
      exact hN _ ⟨_, _, rfl, rfl, hWd⟩
    | cons z stk1 =>
      subst hst
      have e1 : m'[1]? = some (.fl (stk1.reverse.map PyData.str ++ [.str z])) := by
        rw [e]
        show some (Mo.fl ((z :: stk1).reverse.map PyData.str)) = _
        simp
      refine tru_due e (b := true) (by simp) _ ⟨fun _ => ?_, (nomatch ·)⟩
      refine seq_set ?_
      refine pop_at (due_at e) e1 ?_
      have hW2 := wk_due stk1 e hI hB
      show dSeq _ _ _ ⟨[some (.sl 0), some (.val (.str sign)), some (.sl c), some (.val (.str z))], m'.set 1 (.fl (stk1.reverse.map PyData.str))⟩
      generalize m'.set 1 (.fl (stk1.reverse.map PyData.str)) = m2 at hW2 ⊢
      have hW3 := hW2
      obtain ⟨x2, js2, tl2, e2, hI2, hB2⟩ := hW2
      cases hM with
      | hit =>
        refine seqif_t (eq_at (z := sign) (y := sign) rfl rfl (decide_eq_true rfl)) ?_
        exact .inl (h _ (wk_drop hW3))
      | act hz a hw m1 =>
        rename_i n mk1 d1
        obtain ⟨l20, c1, hc1, hc2⟩ := acts_first z a.mem
        refine seqif_f (eq_at (z := z) (y := sign) rfl rfl (decide_eq_false hz)) ?_
        refine nx_of ?_
        dsimp only
        refine if_f (tabin_at (z := z) (b := false) rfl (by rw [acts_none z a.mem]; rfl)) ?_
        refine if_t (first_at (z := z) rfl (by omega) hc1 hc2) ?_
        refine drop_at ?_
        refine meth_at rfl (.inr (.inl rfl)) e2 (as := [.val (.str z)]) (fun C h => h) ?_
        exact ⟨z, stk1, mk, d, mk1, d1, _, rfl, hW3, a, hw, fun m3 hw3 => hN' n _ (by omega) ⟨_, _, _, _, _, _, rfl, hw3, m1⟩⟩
      | exp hz hl hcl hp m1 =>
        rename_i n ws
        refine seqif_f (eq_at (z := z) (y := sign) rfl rfl (decide_eq_false hz)) ?_
        refine nx_of ?_
        dsimp only
        have hsome : (t_RULES z).isSome = true := by
          unfold pick_ at hp
          cases q : t_RULES z with
          | none => rw [q] at hp; cases hp
          | some _ => rfl
        refine if_t (tabin_at (z := z) (b := true) rfl hsome) ?_
        show dMeth "ItemWalk" "expand" sp_ItemWalk__m_expand (dVar 0) (dCons (dVar 3) (dCons (dVar 1) (dCons (dVar 2) dNil))) ⟨[some (.sl 0), some (.val (.str sign)), some (.sl c), some (.val (.str z))], m2⟩ _
        refine meth_at rfl (.inl rfl) e2 (as := [.val (.str z), .val (.str sign), .sl c]) (fun C h => h) ?_
        refine ⟨z, sign, stk1, mk, d, c, cs.map PyData.str, rfl, hW3, hl, by rw [List.length_map]; exact hcl, hsome, fun ws' hw' m3 hw3 => ?_, fun q => ?_⟩
        · cases hp.symm.trans hw'
          refine ⟨(nomatch ·), fun _ => ?_⟩
          rw [← List.map_append] at hw3
          exact hN' n _ (by omega) ⟨_, _, _, _, _, _, rfl, hw3, m1⟩
        · rw [hp] at q; cases q
      | non hz hl hcl hsome hp =>
        refine seqif_f (eq_at (z := z) (y := sign) rfl rfl (decide_eq_false hz)) ?_
        refine nx_of ?_
        dsimp only
        refine if_t (tabin_at (z := z) (b := true) rfl hsome) ?_
        show dMeth "ItemWalk" "expand" sp_ItemWalk__m_expand (dVar 0) (dCons (dVar 3) (dCons (dVar 1) (dCons (dVar 2) dNil))) ⟨[some (.sl 0), some (.val (.str sign)), some (.sl c), some (.val (.str z))], m2⟩ _
        refine meth_at rfl (.inl rfl) e2 (as := [.val (.str z), .val (.str sign), .sl c]) (fun C h => h) ?_
        refine ⟨z, sign, _, _, _, c, cs.map PyData.str, rfl, hW3, hl, by rw [List.length_map]; exact hcl, hsome, fun ws' hw' => ?_, fun q m3 hw3 => ?_⟩
        · rw [hp] at hw'; cases hw'
        · refine ⟨fun _ => ?_, (nomatch ·)⟩
          rw [← List.map_append] at hw3
          exact fz_at rfl hw3 h
      | ter hz hcl hk =>
        obtain ⟨l20, c1, hc1, hc2⟩ := keys_first z hk
        refine seqif_f (eq_at (z := z) (y := sign) rfl rfl (decide_eq_false hz)) ?_
        refine nx_of ?_
        dsimp only
        refine if_f (tabin_at (z := z) (b := false) rfl (by rw [keys_none z hk]; rfl)) ?_
        refine if_f (first_no (z := z) rfl (by omega) hc1 hc2) ?_
        obtain ⟨w1, w2⟩ := wk_side (cs.map PyData.str ++ [.str z]) hW3
        refine seq_drop ?_
        refine app_at (i := c) (xs := cs.map PyData.str) (x := .str z) (fun C h => h) w1 (fun C h => h) (by rw [List.length_map]; omega) ?_
        have e5 : cs.map PyData.str ++ [.str z] = (cs ++ [z]).map PyData.str := by simp
        rw [e5] at w2 ⊢
        exact fz_at rfl w2 h
  · rintro δ ⟨o3, m', rfl, rfl, hW1⟩
    exact fz_at rfl hW1 h
end K17

namespace K17
open PySem PySem.Spec PyProof.Rows L2 MM
local macro_rules | `(tactic| walk_at "w") => `(tactic| conv => whnf)
/-! ### sorted texts -/
def SK : List Str := ["(", ")", ",", "->", ".", "..", ":", ";", "=", "==", "Name", "_", "as", "case", "def", "else", "end", "face", "hiding", "if", "in", "kind", "let", "name", "of", "open", "then", "use", "|"]
theorem sk_keys : ∀ x ∈ KEYS, x ∈ SK := by decide +kernel
theorem keys_sk : ∀ x ∈ SK, x ∈ KEYS := by decide +kernel
theorem sk_nodup : SK.Nodup := by decide +kernel
theorem keys_nodup : KEYS.Nodup := by decide +kernel
def ixK (x : Str) : Nat := SK.idxOf x
theorem ix_le : ∀ x ∈ SK, ∀ y ∈ SK, ltCps y.cps.toList x.cps.toList = false → ixK x ≤ ixK y := by decide +kernel
theorem ix_inj : ∀ x ∈ SK, ∀ y ∈ SK, ixK x = ixK y → x = y := by decide +kernel
theorem sk_pw : SK.Pairwise fun a b => ixK a ≤ ixK b := by decide +kernel
theorem sorted_pw : ∀ (r : List Str) (p : Str), (∀ x ∈ p :: r, x ∈ SK) → risingS p r = true → (p :: r).Pairwise fun a b => ixK a ≤ ixK b
  | [], p, _, _ => List.pairwise_singleton _ _
  | x :: r, p, hm, h => by
    have h : (!ltCps x.cps.toList p.cps.toList && risingS x r) = true := h
    rw [Bool.and_eq_true] at h
    have h1 : ixK p ≤ ixK x := ix_le _ (hm p List.mem_cons_self) _ (hm x (List.mem_cons_of_mem _ List.mem_cons_self)) (by simpa using h.1)
    have ih := sorted_pw r x (fun y hy => hm y (List.mem_cons_of_mem _ hy)) h.2
    refine List.pairwise_cons.mpr ⟨fun y hy => ?_, ih⟩
    rcases List.mem_cons.mp hy with rfl | hy
    · exact h1
    · exact Nat.le_trans h1 ((List.pairwise_cons.mp ih).1 y hy)
theorem sorted_pw' {r : List Str} (hm : ∀ x ∈ r, x ∈ SK) (h : sortedS r = true) : r.Pairwise fun a b => ixK a ≤ ixK b := by
  cases r with
  | nil => exact .nil
  | cons p r => exact sorted_pw r p hm h
theorem pw_eq : ∀ {a b : List Str}, (∀ x ∈ a, x ∈ SK) → a.Perm b → a.Pairwise (fun a b => ixK a ≤ ixK b) → b.Pairwise (fun a b => ixK a ≤ ixK b) → a = b
  | [], b, _, p, _, _ => p.nil_eq
  | x :: a, [], _, p, _, _ => by have := p.length_eq; cases this
  | x :: a, y :: b, hm, p, h1, h2 => by
    have hy : y ∈ x :: a := p.mem_iff.mpr List.mem_cons_self
    have hx : x ∈ y :: b := p.mem_iff.mp List.mem_cons_self
    have l1 : ixK x ≤ ixK y := (List.mem_cons.mp hy).elim (fun e => by rw [e]; exact Nat.le_refl _) ((List.pairwise_cons.mp h1).1 y)
    have l2 : ixK y ≤ ixK x := (List.mem_cons.mp hx).elim (fun e => by rw [e]; exact Nat.le_refl _) ((List.pairwise_cons.mp h2).1 x)
    have e : x = y := ix_inj _ (hm x List.mem_cons_self) _ (hm y hy) (Nat.le_antisymm l1 l2)
    subst e
    rw [pw_eq (fun z hz => hm z (List.mem_cons_of_mem _ hz)) (p.cons_inv) (List.pairwise_cons.mp h1).2 (List.pairwise_cons.mp h2).2]
/-- the texts of a list in their order, each once -/
def srt (cs : List Str) : List Str := SK.filter fun x => decide (x ∈ cs)
theorem met_nodup : ∀ (xs l : List Str), l.Nodup → (xs.foldl (fun l k => if k ∈ l then l else k :: l) l).Nodup
  | [], l, h => h
  | x :: xs, l, h => by
    rw [List.foldl_cons]
    refine met_nodup xs _ ?_
    split
    · exact h
    · rename_i q; exact List.nodup_cons.mpr ⟨q, h⟩
theorem srt_nodup (cs : List Str) : (srt cs).Nodup := sk_nodup.sublist List.filter_sublist
theorem met_srt {cs : List Str} (h : ∀ x ∈ cs, x ∈ KEYS) : (TX.metX cs).Perm (srt cs) := by
  refine (List.perm_ext_iff_of_nodup (met_nodup cs [] List.nodup_nil) (srt_nodup cs)).mpr fun x => ?_
  refine (TX.met_mem x cs).trans ?_
  unfold srt
  rw [List.mem_filter]
  exact ⟨fun hx => ⟨sk_keys x (h x hx), decide_eq_true hx⟩, fun hx => of_decide_eq_true hx.2⟩
theorem srt_mem {cs : List Str} : ∀ x ∈ srt cs, x ∈ SK := fun x hx => (List.mem_filter.mp hx).1
theorem srt_len (cs : List Str) : (srt cs).length ≤ 29 := List.length_filter_le _ _
theorem met_lt {cs : List Str} (h : ∀ x ∈ cs, x ∈ KEYS) : (TX.metX cs).length < 64 := by
  rw [(met_srt h).length_eq]
  have := srt_len cs
  omega
theorem srt_eq {cs ns : List Str} (h : ∀ x ∈ cs, x ∈ KEYS) (pm : ns.Perm (TX.metX cs)) (so : sortedS ns = true) : ns = srt cs := by
  have p := pm.trans (met_srt h)
  have hm : ∀ x ∈ ns, x ∈ SK := fun x hx => srt_mem x (p.mem_iff.mp hx)
  exact pw_eq hm p (sorted_pw' hm so) (sk_pw.sublist List.filter_sublist)
theorem srt_cong {a b : List Str} (h : ∀ x, x ∈ a ↔ x ∈ b) : srt a = srt b := by
  unfold srt
  refine List.filter_congr fun x _ => ?_
  exact decide_eq_decide.mpr (h x)
theorem strs_D : ∀ cs : List Str, strsD (cs.map PyData.str) = some cs
  | [] => rfl
  | c :: cs => by
    show (match strsD (cs.map PyData.str) with | some zs => some (c :: zs) | none => none) = _
    rw [strs_D cs]
theorem sset_at {f : DTE} {δ : DSt} {cs : List Str} {C : Ar → DSt → Prop} (hf : ∀ C : Ar → DSt → Prop, C (.val (.list (cs.map PyData.str))) δ → f δ C) (hk : ∀ x ∈ cs, x ∈ KEYS) (h : C (.val (.list ((srt cs).map PyData.str))) δ) : dFr (dSortSetN f) δ C := by
  refine hf _ ?_
  show (match strsD (cs.map PyData.str) with
    | some ys => (TX.metX ys).length < 64 ∧ ∀ ns : List Str, ns.Perm (TX.metX ys) → sortedS ns = true → C (.val (.list (ns.map PyData.str))) δ
    | none => False)
  rw [strs_D]
  refine ⟨met_lt hk, fun ns pm so => ?_⟩
  rw [srt_eq hk pm so]
  exact h
/-! ### read_item -/
def wrongD (k : Int) (cs : List Str) : PyData := .tuple [.str "wrong", .int k, .tuple ((srt cs).map PyData.str)]
/-- reading on from a place, and what is answered -/
inductive RunF : List Tk → Int → List Str → List (List PyData) → Int → PyData → Prop
  | bad {p ps k n stk mk d stk' mk' d' cs} : TokOk p → MeetF (signOf p) n stk mk d [] false stk' mk' d' cs → (∀ x ∈ cs, x ∈ KEYS) → RunF (p :: ps) k stk mk d (wrongD k cs)
  | deep {p ps k n stk mk d stk' mk' d' cs} : TokOk p → MeetF (signOf p) n stk mk d [] true stk' mk' d' cs → 60 < d' → RunF (p :: ps) k stk mk d (.tuple [.str "deep", .int k])
  | step {p ps k n stk mk d stk' mk' d' cs mk2 d2 r} : TokOk p → MeetF (signOf p) n stk mk d [] true stk' mk' d' cs → d' ≤ 60 → TakeP p mk' d' mk2 d2 → wl mk' ≤ 4000000 → RunF ps (k + 1) stk' mk2 d2 r → RunF (p :: ps) k stk mk d r
  | endBad {k n stk mk d stk' mk' d' cs} : MeetF "" n stk mk d [] false stk' mk' d' cs → cs ≠ [] → (∀ x ∈ cs, x ∈ KEYS) → RunF [] k stk mk d (wrongD k cs)
  | endOk {k n stk mk d stk' t d'} : MeetF "" n stk mk d [] false stk' [[t]] d' [] → RunF [] k stk mk d t
theorem term_at {i : Nat} {p : Tk} {δ : DSt} (hi : δ.s[i]? = some (some (.val (tokD p)))) (hz : TokOk p) : ∀ C : List Ar → DSt → Prop, C [.val (.str (signOf p))] δ → dCons (dCall sp_terminal (dCons (dVar i) dNil)) dNil δ C := by
  intro C h
  unfold dCons dCall dVar
  dsimp only
  rw [hi]
  exact ⟨p, rfl, hz, h⟩
theorem ret_wrong {fk : DTE} {D : DEnds} {δ : DSt} {k : Int} {cs : List Str} (hk : ∀ C : Ar → DSt → Prop, C (.val (.int k)) δ → fk δ C) (h4 : δ.s[4]? = some (some (.val (.list (cs.map PyData.str))))) (hcs : ∀ x ∈ cs, x ∈ KEYS) (h : D.rt (.val (wrongD k cs)) δ) :
    dRet (dTup (dCons (dC (.str "wrong")) (dCons fk (dCons (dCB fTuple (dCons (dFr (dSortSetN (dVar 4))) dNil)) dNil)))) D δ := by
  refine hk _ ?_
  unfold dCons dCB
  unfold dNil
  dsimp only
  refine sset_at (cs := cs) (fun C h => ?_) hcs ?_
  · unfold dVar
    rw [h4]
    exact h
  · exact ⟨by show 3 ≤ sizeLine; rw [DD.sl_line]; omega, h⟩
def sp_read_item : DSp := fun as m C _ => ∃ (r : List Tk) (t : PyData), as = [.val (.tuple (r.map tokD))] ∧ m = [] ∧ r.length ≤ 4000000 ∧ RunF r 0 ["ITEM"] [[]] 0 t ∧ C (.val t) []
theorem deep_at {i : Nat} {s : List (Option Ar)} {m : List Mo} {due x js d tl} (hi : s[i]? = some (some (.sl 0))) (e : m = stoR due x js d tl) {b : Bool} (hd : decide (60 < d) = b) : ∀ C : Bool → DSt → Prop, C b ⟨s, m⟩ → dCmp cGt (dFld "ItemWalk" "depth" (dVar i)) (dC k_DEEPEST) ⟨s, m⟩ C := by
  intro C h
  unfold dCmp dFld dVar
  rw [show (⟨s, m⟩ : DSt).s[i]? = _ from hi]
  subst e
  refine ⟨rfl, ?_⟩
  show C (decide (d > 60)) _
  rw [show decide (d > 60) = b from hd]
  exact h
theorem l_read_item : ∀ as m C Ex, sp_read_item as m C Ex → b_read_item sp_ItemWalk__m___init__ sp_ItemWalk__m_meet sp_terminal sp_ItemWalk__m_take (endsD m.length C) (startD N_read_item as m) := by
  rintro as m C Ex ⟨r, t, rfl, rfl, hlen, hE, h⟩
  have hs := DD.sl_line
  unfold b_read_item
  refine seq_set ?_
  refine ⟨rfl, rfl, rfl, ?_⟩
  show dSeq _ _ _ ⟨[some (.val (.tuple (r.map tokD))), some (.sl 0), none, none, none], stoR ["ITEM"] (.fl []) [2] 0 []⟩
  have hW0 : Wk (stoR ["ITEM"] (.fl []) [2] 0 []) ["ITEM"] [[]] 0 [] := ⟨.fl [], [2], [], rfl, .cons rfl (.inl rfl) (by simp) .nil, fun p hp => nomatch hp⟩
  have wr : ∀ (k : Int) (cs : List Str) m', t = wrongD k cs → outM 0 C (.val (.tuple [.str "wrong", .int k, .tuple ((srt cs).map PyData.str)])) m' := fun k cs m' e => .inr ⟨fun o ho => (by cases ho), by rw [e] at h; exact h⟩
  refine seq_cut (fun δ => ∃ o2 o3 o4 m stk mk d, δ = ⟨[some (.val (.tuple (r.map tokD))), some (.sl 0), o2, o3, o4], m⟩ ∧ Wk m stk mk d [] ∧ RunF [] r.length stk mk d t) (fun N hN => ?_) ?_
  · show dForL _ _ none (enumD 0 (r.map tokD)) _ _
    refine forL_inv (P := fun its δ => ∃ zs k o2 o3 o4 m stk mk d, its = enumD k (zs.map tokD) ∧ k + zs.length = r.length ∧ δ = ⟨[some (.val (.tuple (r.map tokD))), some (.sl 0), o2, o3, o4], m⟩ ∧ Wk m stk mk d [] ∧ RunF zs (k : Nat) stk mk d t) ?_ ?_ _ _ ⟨r, 0, none, none, none, _, _, _, _, rfl, by omega, rfl, hW0, hE⟩
    · rintro it its δ ⟨zs, k, o2, o3, o4, m, stk, mk, d, e1, hk, rfl, hW, hE⟩ N' hN'
      cases zs with
      | nil => cases e1
      | cons z zs =>
        injection e1 with e1 e2
        subst e1 e2
        refine ⟨rfl, ?_⟩
        refine dgs2 ?_
        show dSeq _ _ _ ⟨[some (.val (.tuple (r.map tokD))), some (.sl 0), some (.val (.int k)), some (.val (tokD z)), o4], m⟩
        have hW1 := hW
        obtain ⟨x, js, tl, e, hI, hB⟩ := hW1
        refine seq_set ?_
        generalize ht : t = t0 at hE
        cases hE with
        | bad hz hM hcs =>
          rename_i n stk1 mk1 d1 cs
          refine meth_at2 (i := 1) rfl (.inr (.inr (.inl rfl))) e (term_at (p := z) rfl hz) ?_
          refine ⟨signOf z, n, stk, mk, d, false, stk1, mk1, d1, cs, rfl, hW, hM, fun m2 hW2 => ?_⟩
          show dSeq _ _ _ ⟨[some (.val (.tuple (r.map tokD))), some (.sl 0), some (.val (.int k)), some (.val (tokD z)), some (.val (.list (cs.map PyData.str)))], m2⟩
          refine seqif_t (δ' := ⟨[some (.val (.tuple (r.map tokD))), some (.sl 0), some (.val (.int k)), some (.val (tokD z)), some (.val (.list (cs.map PyData.str)))], m2⟩) (fun C h => h) ?_
          exact ret_wrong (k := k) (cs := cs) (fun C h => h) rfl hcs (wr _ _ _ ht)
        | deep hz hM hd =>
          rename_i n stk1 mk1 d1 cs
          refine meth_at2 (i := 1) rfl (.inr (.inr (.inl rfl))) e (term_at (p := z) rfl hz) ?_
          refine ⟨signOf z, n, stk, mk, d, true, stk1, mk1, d1, cs, rfl, hW, hM, fun m2 hW2 => ?_⟩
          show dSeq _ _ _ ⟨[some (.val (.tuple (r.map tokD))), some (.sl 0), some (.val (.int k)), some (.val (tokD z)), some (.val .none)], m2⟩
          refine seqif_f (δ' := ⟨[some (.val (.tuple (r.map tokD))), some (.sl 0), some (.val (.int k)), some (.val (tokD z)), some (.val .none)], m2⟩) (fun C h => h) ?_
          refine nx_of ?_
          dsimp only
          obtain ⟨x2, js2, tl2, e2, hI2, hB2⟩ := hW2
          refine seqif_t (deep_at (i := 1) rfl e2 (decide_eq_true hd)) ?_
          rw [ht] at h
          show 2 ≤ sizeLine ∧ outM 0 C (.val (.tuple [.str "deep", .int k])) m2
          exact ⟨by omega, .inr ⟨fun o ho => (by cases ho), h⟩⟩
        | step hz hM hd1 hT hw hE2 =>
          rename_i n stk1 mk1 d1 cs mk2 d2
          refine meth_at2 (i := 1) rfl (.inr (.inr (.inl rfl))) e (term_at (p := z) rfl hz) ?_
          refine ⟨signOf z, n, stk, mk, d, true, stk1, mk1, d1, cs, rfl, hW, hM, fun m2 hW2 => ?_⟩
          show dSeq _ _ _ ⟨[some (.val (.tuple (r.map tokD))), some (.sl 0), some (.val (.int k)), some (.val (tokD z)), some (.val .none)], m2⟩
          refine seqif_f (δ' := ⟨[some (.val (.tuple (r.map tokD))), some (.sl 0), some (.val (.int k)), some (.val (tokD z)), some (.val .none)], m2⟩) (fun C h => h) ?_
          refine nx_of ?_
          dsimp only
          have hW3 := hW2
          obtain ⟨x2, js2, tl2, e2, hI2, hB2⟩ := hW2
          refine seqif_f (deep_at (i := 1) rfl e2 (decide_eq_false (by omega))) ?_
          refine nx_of ?_
          dsimp only
          refine drop_at ?_
          refine meth_at2 (i := 1) rfl (.inr (.inr (.inr rfl))) e2 (var_at (a := .val (tokD z)) rfl) ?_
          refine ⟨z, stk1, mk1, d1, mk2, d2, rfl, hW3, hT, hw, fun m4 hW4 => hN' _ ⟨zs, k + 1, _, _, _, m4, stk1, mk2, d2, rfl, by rw [List.length_cons] at hk; omega, rfl, hW4, by rw [ht]; exact hE2⟩⟩
    · rintro δ ⟨zs, k, o2, o3, o4, m, stk, mk, d, e1, hk, rfl, hW, hE⟩
      cases zs with
      | nil =>
        have hk : k = r.length := hk
        subst hk
        exact hN _ ⟨_, _, _, _, _, _, _, rfl, hW, hE⟩
      | cons z zs => cases e1
  · rintro δ ⟨o2, o3, o4, m, stk, mk, d, rfl, hW, hE⟩
    have hW1 := hW
    obtain ⟨x, js, tl, e, hI, hB⟩ := hW1
    refine seq_set ?_
    refine meth_at2 (i := 1) rfl (.inr (.inr (.inl rfl))) e (as := [.val (.str "")]) (fun C h => h) ?_
    generalize ht : t = t0 at hE
    cases hE with
    | endBad hM hne hcs =>
      rename_i n stk1 mk1 d1 cs
      refine ⟨"", n, stk, mk, d, false, stk1, mk1, d1, cs, rfl, hW, hM, fun m2 hW2 => ?_⟩
      show dSeq _ _ _ ⟨[some (.val (.tuple (r.map tokD))), some (.sl 0), o2, o3, some (.val (.list (cs.map PyData.str)))], m2⟩
      have ht2 : (!(cs.map PyData.str).isEmpty) = true := by
        cases cs with
        | nil => exact absurd rfl hne
        | cons _ _ => rfl
      refine seqif_t (δ' := ⟨[some (.val (.tuple (r.map tokD))), some (.sl 0), o2, o3, some (.val (.list (cs.map PyData.str)))], m2⟩) (fun C h => ?_) ?_
      · show C (!(cs.map PyData.str).isEmpty) _
        rw [ht2]
        exact h
      · have ln : ((r.map tokD).length : Int) = (r.length : Int) := by rw [List.length_map]
        refine ret_wrong (k := r.length) (cs := cs) (fun C h => ?_) rfl hcs (wr _ _ _ ht)
        show C (.val (.int ((r.map tokD).length : Nat))) _
        rw [ln]
        exact h
    | endOk hM =>
      rename_i n stk1 d1
      refine ⟨"", n, stk, mk, d, false, stk1, _, d1, [], rfl, hW, hM, fun m2 hW2 => ?_⟩
      show dSeq _ _ _ ⟨[some (.val (.tuple (r.map tokD))), some (.sl 0), o2, o3, some (.val (.list []))], m2⟩
      refine seqif_f (δ' := ⟨[some (.val (.tuple (r.map tokD))), some (.sl 0), o2, o3, some (.val (.list []))], m2⟩) (fun C h => h) ?_
      refine nx_of ?_
      dsimp only
      obtain ⟨x2, js2, tl2, e2, hI2, hB2⟩ := hW2
      cases hI2 with
      | cons h1 h2 h3 h4 =>
        cases h4
        rename_i j
        refine ix_sl (j := j) (xs := [t0]) (v := t0) (fun C h => ?_) h1 rfl ?_
        · subst e2
          exact ⟨rfl, h⟩
        · exact .inr ⟨fun o ho => (by cases ho), by rw [← ht]; exact h⟩
end K17

namespace K17
open PySem PySem.Spec PyProof.Rows L2 MM
/-! ### the law's stack of a reader's stack -/
def h1 (z : Str) : List Str := if z ∈ ACTS then [] else (HM.lookup z).getD [z]
def hS (P : List Str) : List Str := P.flatMap h1
theorem hS_cons (z : Str) (P : List Str) : hS (z :: P) = h1 z ++ hS P := rfl
theorem hS_app (A B : List Str) : hS (A ++ B) = hS A ++ hS B := List.flatMap_append
def sA (s : Str) : List Str → Option (Option (List Str))
  | [] => none
  | z :: L => if isNL z = true then match hitR s 4 z with
      | some r => some (some (r ++ L))
      | none => if (epsL z && (wayL z s).isNone) = true then sA s L else some none
    else if z = s then some (some L) else some none
def sJ (s : Str) (L : List Str) : Option (Option (List Str)) → Option (List Str)
  | none => stepL s L
  | some none => none
  | some (some r) => some (r ++ L)
theorem step_app (s : Str) (L : List Str) : ∀ A : List Str, stepL s (A ++ L) = sJ s L (sA s A)
  | [] => rfl
  | z :: A => by
    rw [List.cons_append]
    unfold stepL sA
    by_cases n : isNL z = true
    · rw [if_pos n, if_pos n]
      cases hitR s 4 z with
      | some r => show some (r ++ (A ++ L)) = some (r ++ A ++ L); rw [List.append_assoc]
      | none =>
        dsimp only
        by_cases e : (epsL z && (wayL z s).isNone) = true
        · rw [if_pos e, if_pos e]; exact step_app s L A
        · rw [if_neg e, if_neg e]; rfl
    · rw [if_neg n, if_neg n]
      by_cases q : z = s
      · rw [if_pos q, if_pos q]; rfl
      · rw [if_neg q, if_neg q]; rfl
def nulL : List Str → Bool
  | [] => true
  | z :: L => isNL z && epsL z && nulL L
theorem first_nt {z : Str} {L : List Str} (n : isNL z = true) : firstL (z :: L) = firsts z ++ (if epsL z = true then firstL L else []) := by
  rw [firstL, if_pos n]
theorem first_t {z : Str} {L : List Str} (n : isNL z = false) : firstL (z :: L) = [z] := by
  rw [firstL, if_neg (by rw [n]; exact Bool.false_ne_true)]
theorem first_app (L : List Str) : ∀ A : List Str, firstL (A ++ L) = firstL A ++ (if nulL A = true then firstL L else [])
  | [] => rfl
  | z :: A => by
    rw [List.cons_append]
    cases n : isNL z with
    | true =>
      rw [first_nt n, first_nt n, nulL, n]
      cases e : epsL z with
      | true => rw [if_pos rfl, if_pos rfl, first_app L A, List.append_assoc]; rfl
      | false => simp
    | false =>
      rw [first_t n, first_t n, nulL, n]
      simp
/-! ### what the rules say, both ways -/
def SGS : List Str := KEYS ++ [("" : Str)]
def NTQ : List Str := NTP.filter fun z => decide (z ≠ "ITEM")
def sub (a b : List Str) : Bool := a.all fun x => decide (x ∈ b)
theorem sub_mem {a b : List Str} (h : sub a b = true) : ∀ x ∈ a, x ∈ b := fun x hx => of_decide_eq_true (List.all_eq_true.mp h x hx)
/-- the weights -/
def q_ (z : Str) : Nat := if z ∈ ACTS then 2 else if z = "MADE" then 5 else if z = "MEMBER" then 12 else if z ∈ NTP then 8 else 1
def QP : List Str → Nat
  | [] => 0
  | z :: P => q_ z + QP P
theorem QP_app : ∀ A B : List Str, QP (A ++ B) = QP A + QP B
  | [], B => by simp [QP]
  | z :: A, B => by rw [List.cons_append, QP, QP, QP_app A B, Nat.add_assoc]
theorem q_pos (z : Str) : 1 ≤ q_ z := by unfold q_; repeat (first | (split <;> try omega)); 
theorem QP_len : ∀ P : List Str, P.length ≤ QP P
  | [] => Nat.le_refl _
  | z :: P => by
    have := q_pos z
    have := QP_len P
    rw [List.length_cons, QP]; omega
def ALLS : List Str := NTQ ++ ACTS ++ KEYS
def runsB (s : Str) : Nat → List Str → Nat → Bool
  | 0, _, _ => false
  | f + 1, [], b => decide (100 ≤ b)
  | f + 1, z :: l, b => if z = s then true else if z ∈ ACTS then runsB s f l b else match pick_ z s with
    | some ws => decide (QP ws + 1 ≤ q_ z + b) && runsB s f (ws ++ l) (q_ z + b - QP ws - 1)
    | none => true
theorem runs_ok : ∀ z ∈ ALLS, ∀ s ∈ SGS, runsB s 30 [z] 100 = true := by decide +kernel
/-- what a rule is, for a symbol and a sign -/
def ruleOk (z s : Str) : Bool := match pick_ z s with
  | some ws => decide (sA s (h1 z) = sA s (hS ws)) && sub ws ALLS && sub (pas_ z s) KEYS && decide ((pas_ z s).length ≤ 9) &&
    ((match sA s (h1 z) with | some (some _) => true | _ => false) ||
      (sub (firstL (h1 z)) (pas_ z s ++ firstL (hS ws)) && sub (pas_ z s ++ firstL (hS ws)) (firstL (h1 z)) && decide (nulL (h1 z) = nulL (hS ws))))
  | none => decide (sA s (h1 z) = some none) && sub (firstL (h1 z)) (pas_ z s) && sub (pas_ z s) (firstL (h1 z)) && decide (nulL (h1 z) = false) && sub (pas_ z s) KEYS && decide ((pas_ z s).length ≤ 9)
theorem rule_ok : ∀ z ∈ NTQ, ∀ s ∈ SGS, ruleOk z s = true := by decide +kernel
theorem h1_act : ∀ z ∈ ACTS, h1 z = [] := fun z h => if_pos h
theorem h1_key : ∀ z ∈ KEYS, h1 z = [z] ∧ isNL z = false ∧ z ∉ ACTS ∧ z ∉ NTP := by decide +kernel
theorem h1_nt : ∀ z ∈ NTQ, h1 z ≠ [] ∧ z ∉ ACTS ∧ z ∉ KEYS ∧ z ∈ NTP ∧ z ≠ "ITEM" ∧ (t_RULES z).isSome = true ∧ z ∉ SGS := by decide +kernel
theorem acts_sgs : ∀ z ∈ ACTS, z ∉ SGS := by decide +kernel
theorem all_or {z : Str} (h : z ∈ ALLS) : z ∈ NTQ ∨ z ∈ ACTS ∨ z ∈ KEYS := by
  rcases List.mem_append.mp h with h | h
  · rcases List.mem_append.mp h with h | h
    · exact .inl h
    · exact .inr (.inl h)
  · exact .inr (.inr h)
theorem pick_rule {z s : Str} {ws : List Str} (h : pick_ z s = some ws) : ∃ f, (f, ws) ∈ rulesOf z := by
  unfold pick_ at h
  unfold rulesOf
  cases hr : t_RULES z with
  | none => rw [hr] at h; cases h
  | some d =>
    rw [hr] at h
    have h : goP s (rowsD d) = some ws := h
    show ∃ f, (f, ws) ∈ (rowsD d).map fun p => (Txt.words p.1, Txt.words p.2)
    generalize rowsD d = rs at h
    induction rs with
    | nil => cases h
    | cons p rs ih =>
      obtain ⟨a, b⟩ := p
      by_cases q : a = "" ∨ s ∈ Txt.words a
      · rw [show goP s ((a, b) :: rs) = some (Txt.words b) from if_pos q] at h
        cases h
        exact ⟨Txt.words a, by simp⟩
      · rw [show goP s ((a, b) :: rs) = goP s rs from if_neg q] at h
        obtain ⟨f, hf⟩ := ih h
        exact ⟨f, List.mem_cons_of_mem _ hf⟩
end K17

namespace K17
open PySem PySem.Spec PyProof.Rows L2 MM
/-! ### a reader at work within an item: its lists are long enough -/
def lens (mk : List (List PyData)) : List Nat := mk.map List.length
/-- the stack is P' and the item's end; the item's own list begins with t0 -/
def Ty (t0 : Str) (P : List Str) (mk : List (List PyData)) : Prop := ∃ P' ins rest k, P = P' ++ [(">" : Str)] ∧ mk = ins ++ [.str t0 :: rest, []] ∧ 2 ≤ k ∧ runA P' (lens ins, rest.length + 1) = some ([], k) ∧ ∀ z ∈ P', z ∈ ALLS
theorem Ty.cons {t0 z Q mk} (h : Ty t0 (z :: Q) mk) (hQ : Q ≠ []) : ∃ Q' ins rest k s, Q = Q' ++ [(">" : Str)] ∧ mk = ins ++ [.str t0 :: rest, []] ∧ 2 ≤ k ∧ effA (opOf z) (lens ins, rest.length + 1) = some s ∧ runA Q' s = some ([], k) ∧ z ∈ ALLS ∧ ∀ y ∈ Q', y ∈ ALLS := by
  obtain ⟨P', ins, rest, k, e, hm, hk, hr, ha⟩ := h
  cases P' with
  | nil =>
    injection e with e1 e2
    exact absurd e2 hQ
  | cons y P' =>
    injection e with e1 e2
    subst e1 e2
    unfold runA at hr
    split at hr
    · rename_i s hs
      exact ⟨P', ins, rest, k, s, rfl, hm, hk, hs, hr, ha _ List.mem_cons_self, fun y hy => ha y (List.mem_cons_of_mem _ hy)⟩
    · cases hr
theorem op_add : ∀ z ∈ ADDN, opOf z = .add := by
  intro z hz
  simp only [ADDN, ADDS, List.map_cons, List.map_nil, List.mem_cons, List.not_mem_nil, or_false] at hz
  rcases hz with rfl | rfl | rfl | rfl | rfl | rfl | rfl | rfl | rfl | rfl | rfl | rfl | rfl | rfl | rfl | rfl | rfl | rfl
  all_goals rfl
theorem op_ins : ∀ z ∈ INSN, opOf z = .ins := by
  intro z hz
  simp only [INSN, INSS, List.map_cons, List.map_nil, List.mem_cons, List.not_mem_nil, or_false] at hz
  rcases hz with rfl | rfl | rfl | rfl
  all_goals rfl
/-- an act can be done -/
theorem act_ex {t0 z Q mk} (hz : z ∈ ACTS) (hQ : Q ≠ []) (h : Ty t0 (z :: Q) mk) (d : Int) : ∃ mk1 d1, ActP z mk d mk1 d1 ∧ Ty t0 Q mk1 := by
  obtain ⟨Q', ins, rest, k, s, rfl, rfl, hk, he, hr, -, ha⟩ := h.cons hQ
  have hz : z ∈ (["<", ">", "!same", "!out"] : List Str) ++ ADDN ++ INSN := hz
  rcases List.mem_append.mp hz with hz | hz
  · rcases List.mem_append.mp hz with hz | hz
    · simp only [List.mem_cons, List.not_mem_nil, or_false] at hz
      rcases hz with rfl | rfl | rfl | rfl
      · -- opn
        refine ⟨[] :: (ins ++ [.str t0 :: rest, []]), d, .opn, Q', [] :: ins, rest, k, rfl, rfl, hk, ?_, ha⟩
        have e : s = (0 :: lens ins, rest.length + 1) := by
          cases ins with
          | nil => cases he; rfl
          | cons x ins => cases he; rfl
        rw [e] at hr
        exact hr
      · -- cls
        cases ins with
        | nil => cases he
        | cons x ins =>
          cases ins with
          | nil =>
            cases he
            refine ⟨[PyData.str t0 :: (rest ++ [PyData.tuple x]), []], d, (ActP.cls (xs := x) (ys := .str t0 :: rest) (mk := [[]]) : ActP (">" : Str) (x :: (.str t0 :: rest) :: [[]]) d ((.str t0 :: rest ++ [.tuple x]) :: [[]]) d), Q', [], rest ++ [PyData.tuple x], k, rfl, rfl, hk, ?_, ha⟩
            rw [List.length_append]
            exact hr
          | cons y ins =>
            cases he
            refine ⟨(y ++ [PyData.tuple x]) :: (ins ++ [PyData.str t0 :: rest, []]), d, (ActP.cls (xs := x) (ys := y) (mk := ins ++ [.str t0 :: rest, []]) : ActP (">" : Str) (x :: y :: (ins ++ [.str t0 :: rest, []])) d ((y ++ [.tuple x]) :: (ins ++ [.str t0 :: rest, []])) d), Q', (y ++ [PyData.tuple x]) :: ins, rest, k, rfl, rfl, hk, ?_, ha⟩
            show runA Q' ((y ++ [PyData.tuple x]).length :: lens ins, rest.length + 1) = _
            rw [List.length_append]
            exact hr
      · -- same
        cases ins with
        | nil =>
          rcases List.eq_nil_or_concat rest with e | ⟨r2, v, e⟩
          · subst e; cases he
          · subst e
            have he : effA .same (([] : List Nat), (r2.concat v).length + 1) = some s := he
            rw [List.concat_eq_append, List.length_append] at he
            cases he
            refine ⟨[.str "same", v] :: [.str t0 :: r2, []], d, ?_, Q', [[.str "same", v]], r2, k, rfl, rfl, hk, hr, ha⟩
            rw [List.concat_eq_append]
            exact ActP.same (xs := .str t0 :: r2) (mk := [[]])
        | cons x ins =>
          rcases List.eq_nil_or_concat x with e | ⟨r2, v, e⟩
          · subst e; cases he
          · subst e
            have he : effA .same ((r2.concat v).length :: lens ins, rest.length + 1) = some s := he
            rw [List.concat_eq_append, List.length_append] at he
            cases he
            refine ⟨[.str "same", v] :: r2 :: (ins ++ [.str t0 :: rest, []]), d, ?_, Q', [.str "same", v] :: r2 :: ins, rest, k, rfl, rfl, hk, hr, ha⟩
            rw [List.concat_eq_append]
            exact ActP.same
      · -- out
        refine ⟨ins ++ [.str t0 :: rest, []], d - 1, ?_, Q', ins, rest, k, rfl, rfl, hk, ?_, ha⟩
        · have e : d = d - 1 + 1 := by omega
          have := ActP.out (mk := ins ++ [.str t0 :: rest, []]) (d := d - 1)
          rw [← e] at this
          exact this
        · have e : s = (lens ins, rest.length + 1) := by
            cases ins with
            | nil => cases he; rfl
            | cons x ins => cases he; rfl
          rw [e] at hr
          exact hr
    · -- add
      rw [op_add z hz] at he
      obtain ⟨p, hp, rfl⟩ := List.mem_map.mp hz
      cases ins with
      | nil =>
        cases he
        refine ⟨[.str t0 :: (rest ++ [p.2]), []], d, .add (xs := .str t0 :: rest) hp, Q', [], rest ++ [p.2], k, rfl, rfl, hk, ?_, ha⟩
        rw [List.length_append]
        exact hr
      | cons x ins =>
        cases he
        refine ⟨(x ++ [p.2]) :: (ins ++ [.str t0 :: rest, []]), d, .add hp, Q', (x ++ [p.2]) :: ins, rest, k, rfl, rfl, hk, ?_, ha⟩
        show runA Q' ((x ++ [p.2]).length :: lens ins, rest.length + 1) = _
        rw [List.length_append]
        exact hr
  · -- ins
    rw [op_ins z hz] at he
    obtain ⟨p, hp, rfl⟩ := List.mem_map.mp hz
    cases ins with
    | nil => cases he
    | cons x ins =>
      cases he
      exact ⟨(.str p.2 :: x) :: (ins ++ [.str t0 :: rest, []]), d, .ins hp, Q', (.str p.2 :: x) :: ins, rest, k, rfl, rfl, hk, hr, ha⟩
/-- a rule keeps it -/
theorem exp_ty {t0 z s Q mk ws} (hz : z ∈ NTQ) (hs : s ∈ SGS) (hQ : Q ≠ []) (hp : pick_ z s = some ws) (h : Ty t0 (z :: Q) mk) : Ty t0 (ws ++ Q) mk := by
  obtain ⟨Q', ins, rest, k, st, rfl, rfl, hk, he, hr, -, ha⟩ := h.cons hQ
  obtain ⟨-, -, -, n4, n5, -⟩ := h1_nt z hz
  obtain ⟨t', r1, l1⟩ := rule_run n4 n5 (pick_rule hp) he
  obtain ⟨s', r2, l2⟩ := runA_mono l1 hr
  obtain ⟨p', k'⟩ := s'
  have hp' : p' = [] := by
    cases p' with
    | nil => rfl
    | cons x p' => exact l2.1.elim
  subst hp'
  have ro := rule_ok z hz s hs
  unfold ruleOk at ro
  rw [hp] at ro
  simp only [Bool.and_eq_true] at ro
  refine ⟨ws ++ Q', ins, rest, k', by rw [List.append_assoc], rfl, Nat.le_trans hk l2.2, ?_, fun y hy => (List.mem_append.mp hy).elim (sub_mem ro.1.1.1.2 y) (ha y)⟩
  rw [runA_app, r1]
  exact r2
/-- what a meeting comes to -/
def Post (s t0 : Str) (M : Nat) (P : List Str) (mk : List (List PyData)) (d : Int) (cs : List Str) : Prop := ∃ n b stk' mk' d' cs', MeetF s n P mk d cs b stk' mk' d' cs' ∧
  ((∃ L', stepL s (hS P) = some L' ∧ b = true ∧ hS stk' = L' ∧ Ty t0 (s :: stk') mk' ∧ wl mk' + QP (s :: stk') ≤ M) ∨
   (stepL s (hS P) = none ∧ b = false ∧ (∀ x, x ∈ cs' ↔ x ∈ cs ∨ x ∈ firstL (hS P)) ∧ (∀ x ∈ cs', x ∈ KEYS) ∧ (hS P = [] → ∃ rest, mk' = [[.tuple (.str t0 :: rest)]] ∧ 1 ≤ rest.length)))
theorem post_act {s t0 M z P mk d cs mk1 d1} (hz : z ∈ ACTS) (hs : s ∈ SGS) (hw : wl mk ≤ 4000000) (a : ActP z mk d mk1 d1) (h : Post s t0 M P mk1 d1 cs) : Post s t0 M (z :: P) mk d cs := by
  obtain ⟨n, b, stk', mk', d', cs', hM, h⟩ := h
  refine ⟨n + 1, b, stk', mk', d', cs', .act (fun e => acts_sgs z hz (e ▸ hs)) a hw hM, ?_⟩
  rw [hS_cons, h1_act z hz]
  exact h
theorem key_q : ∀ z ∈ KEYS, q_ z = 1 := by decide +kernel
theorem ex_run {s t0 : Str} (hs : s ∈ SGS) {M : Nat} (hM : M ≤ 400000) {Q : List Str} (hQ : Q ≠ []) (ih : ∀ mk d cs, Ty t0 Q mk → wl mk + QP Q + 100 ≤ M → cs.length + 10 * (QP Q + 100) ≤ 4000000 → (∀ x ∈ cs, x ∈ KEYS) → Post s t0 M Q mk d cs) :
    ∀ f l b, runsB s f l b = true → ∀ mk d cs, Ty t0 (l ++ Q) mk → wl mk + QP (l ++ Q) + b ≤ M → cs.length + 10 * (QP (l ++ Q) + b) ≤ 4000000 → (∀ x ∈ cs, x ∈ KEYS) → Post s t0 M (l ++ Q) mk d cs
  | 0, _, _, h => nomatch h
  | f + 1, [], b, h => fun mk d cs ht h1 h2 h3 => by
    have h : 100 ≤ b := of_decide_eq_true h
    have h1 : wl mk + QP Q + b ≤ M := h1
    have h2 : cs.length + 10 * (QP Q + b) ≤ 4000000 := h2
    exact ih mk d cs ht (by omega) (by omega) h3
  | f + 1, z :: l, b, h => fun mk d cs ht b1 b2 h3 => by
    have hne : l ++ Q ≠ [] := by simp [hQ]
    have ht : Ty t0 (z :: (l ++ Q)) mk := ht
    have b1 : wl mk + (q_ z + QP (l ++ Q)) + b ≤ M := b1
    have b2 : cs.length + 10 * ((q_ z + QP (l ++ Q)) + b) ≤ 4000000 := b2
    show Post s t0 M (z :: (l ++ Q)) mk d cs
    have lq := QP_len (l ++ Q)
    obtain ⟨_, _, _, _, _, _, _, _, _, _, zall, _⟩ := ht.cons hne
    unfold runsB at h
    rcases all_or zall with hz | hz | hz
    · -- a part
      obtain ⟨n1, n2, n3, n4, n5, n6, n7⟩ := h1_nt z hz
      have zs : z ≠ s := fun e => n7 (e ▸ hs)
      have ro := rule_ok z hz s hs
      unfold ruleOk at ro
      rw [if_neg zs, if_neg n2] at h
      cases hp : pick_ z s with
      | none =>
        rw [hp] at ro
        simp only [Bool.and_eq_true] at ro
        obtain ⟨⟨⟨⟨⟨r1, r2⟩, r3⟩, r4⟩, r5⟩, r6⟩ := ro
        have r1 := of_decide_eq_true r1
        have r4 := of_decide_eq_true r4
        refine ⟨0, false, l ++ Q, mk, d, cs ++ pas_ z s, .non zs (by omega) (by omega) n6 hp, .inr ⟨?_, rfl, fun x => ?_, fun x hx => (List.mem_append.mp hx).elim (h3 x) (sub_mem r5 x), fun e => ?_⟩⟩
        · rw [hS_cons, step_app, r1]; rfl
        · rw [hS_cons, first_app, r4, if_neg Bool.false_ne_true, List.append_nil, List.mem_append]
          exact ⟨fun h => h.imp id (sub_mem r3 x), fun h => h.imp id (sub_mem r2 x)⟩
        · rw [hS_cons] at e
          exact absurd (List.append_eq_nil_iff.mp e).1 n1
      | some ws =>
        rw [hp] at ro h
        simp only [Bool.and_eq_true] at ro h
        obtain ⟨⟨⟨⟨r1, r2⟩, r3⟩, r4⟩, r5⟩ := ro
        have r1 := of_decide_eq_true r1
        have r4 := of_decide_eq_true r4
        obtain ⟨g1, g2⟩ := h
        have g1 := of_decide_eq_true g1
        have qa : QP (ws ++ l ++ Q) = QP ws + QP (l ++ Q) := by rw [List.append_assoc, QP_app]
        have key := ex_run hs hM hQ ih f (ws ++ l) _ g2 mk d (cs ++ pas_ z s) (by rw [List.append_assoc]; exact exp_ty hz hs hne hp ht) (by rw [qa]; omega) (by rw [qa, List.length_append]; omega)
          (fun x hx => (List.mem_append.mp hx).elim (h3 x) (sub_mem r3 x))
        rw [List.append_assoc] at key
        obtain ⟨n, bb, stk', mk', d', cs', hMt, key⟩ := key
        refine ⟨n + 1, bb, stk', mk', d', cs', .exp zs (by omega) (by omega) hp hMt, ?_⟩
        have es : stepL s (hS (z :: (l ++ Q))) = stepL s (hS (ws ++ (l ++ Q))) := by
          rw [hS_cons, step_app, r1, hS_app ws, step_app]
        rw [es]
        rcases key with k1 | ⟨k1, k2, k3, k4, k5⟩
        · exact .inl k1
        · refine .inr ⟨k1, k2, fun x => ?_, k4, fun e => ?_⟩
          · rw [Bool.or_eq_true] at r5
            rcases r5 with r5 | r5
            · exfalso
              rw [← es, hS_cons, step_app] at k1
              split at r5
              · rename_i r hr
                rw [hr] at k1
                cases k1
              · cases r5
            · rw [Bool.and_eq_true, Bool.and_eq_true] at r5
              obtain ⟨⟨r6, r7⟩, r8⟩ := r5
              have r8 := of_decide_eq_true r8
              rw [k3 x, hS_cons, first_app, hS_app ws, first_app, r8, List.mem_append]
              have m6 := sub_mem r6 x
              have m7 := sub_mem r7 x
              simp only [List.mem_append] at m6 m7 ⊢
              constructor
              · rintro ((h | h) | h | h)
                · exact .inl h
                · exact .inr (.inl (m7 (.inl h)))
                · exact .inr (.inl (m7 (.inr h)))
                · exact .inr (.inr h)
              · rintro (h | h | h)
                · exact .inl (.inl h)
                · exact (m6 h).elim (fun h => .inl (.inr h)) fun h => .inr (.inl h)
                · exact .inr (.inr h)
          · rw [hS_cons] at e
            exact absurd (List.append_eq_nil_iff.mp e).1 n1
    · -- an act
      have zs : z ≠ s := fun e => acts_sgs z hz (e ▸ hs)
      rw [if_neg zs, if_pos hz] at h
      obtain ⟨mk1, d1, a, ht1⟩ := act_ex hz hne ht d
      have q2 : q_ z = 2 := if_pos hz
      have al := a.le
      exact post_act hz hs (by omega) a (ex_run hs hM hQ ih f l b h mk1 d1 cs ht1 (by omega) (by omega) h3)
    · -- a sign
      obtain ⟨k1, k2, k3, k4⟩ := h1_key z hz
      by_cases zs : z = s
      · subst zs
        refine ⟨0, true, l ++ Q, mk, d, cs, .hit, .inl ⟨hS (l ++ Q), ?_, rfl, rfl, ht, by rw [QP]; omega⟩⟩
        rw [hS_cons, k1]
        show stepL z (z :: hS (l ++ Q)) = _
        rw [stepL, if_neg (by rw [k2]; exact Bool.false_ne_true), if_pos rfl]
      · refine ⟨0, false, l ++ Q, mk, d, cs ++ [z], .ter zs (by omega) hz, .inr ⟨?_, rfl, fun x => ?_, fun x hx => (List.mem_append.mp hx).elim (h3 x) (fun e => by rw [List.mem_singleton.mp e]; exact hz), fun e => ?_⟩⟩
        · rw [hS_cons, k1]
          show stepL s (z :: hS (l ++ Q)) = _
          rw [stepL, if_neg (by rw [k2]; exact Bool.false_ne_true), if_neg zs]
        · rw [hS_cons, k1]
          show _ ↔ _ ∨ x ∈ firstL (z :: hS (l ++ Q))
          rw [first_t k2, List.mem_append]
        · rw [hS_cons, k1] at e
          cases e
/-- every meeting comes to an end -/
theorem meet_ex {s t0 : Str} (hs : s ∈ SGS) {M : Nat} (hM : M ≤ 400000) : ∀ P mk d cs, Ty t0 P mk → wl mk + QP P + 100 ≤ M → cs.length + 10 * (QP P + 100) ≤ 4000000 → (∀ x ∈ cs, x ∈ KEYS) → Post s t0 M P mk d cs
  | [], mk, d, cs, ht, _, _, _ => by
    obtain ⟨P', _, _, _, e, _⟩ := ht
    cases P' <;> cases e
  | z :: P, mk, d, cs, ht, b1, b2, h3 => by
    by_cases hP : P = []
    · subst hP
      obtain ⟨P', ins, rest, k, e, hm, hk, hr, ha⟩ := ht
      cases P' with
      | cons y P' => injection e with _ e; cases P' <;> cases e
      | nil =>
        injection e with e _
        subst e
        injection hr with hr
        have hi : ins = [] := by
          cases ins with
          | nil => rfl
          | cons x ins => cases hr
        subst hi
        injection hr with _ hr
        subst hm
        have a : ActP (">" : Str) ((PyData.str t0 :: rest) :: [] :: []) d [[PyData.tuple (PyData.str t0 :: rest)]] d := ActP.cls (xs := PyData.str t0 :: rest) (ys := []) (mk := [])
        have ga : (">" : Str) ∈ ACTS := by decide +kernel
        have hw : wl [PyData.str t0 :: rest, []] ≤ 4000000 := Nat.le_trans (Nat.le_trans (Nat.le_add_right _ _) (Nat.le_trans (Nat.le_add_right _ _) b1)) (Nat.le_trans hM (by decide))
        have hk2 : 1 ≤ rest.length := by clear b1 b2 hw a ga h3; omega
        show Post s t0 M [(">" : Str)] [PyData.str t0 :: rest, []] d cs
        refine post_act ga hs hw a ?_
        refine ⟨0, false, [], _, d, cs, .emp, .inr ⟨rfl, rfl, fun x => ?_, h3, fun _ => ⟨rest, rfl, hk2⟩⟩⟩
        show _ ↔ _ ∨ x ∈ ([] : List Str)
        simp
    · obtain ⟨_, _, _, _, _, _, _, _, _, _, zall, _⟩ := ht.cons hP
      exact ex_run hs hM hP (meet_ex hs hM P) 30 [z] 100 (runs_ok z zall s hs) mk d cs ht b1 b2 h3
end K17

namespace K17
open PySem PySem.Spec PyProof.Rows L2 MM
/-! ### the symbols of the law's stacks -/
def LSy (L : List Str) : Prop := ∀ z ∈ L, isNL z = true ∨ z ∈ KEYS
theorem hit_none {s : Str} (hs : s ∉ KEYS) (hn : s ≠ "-") {z : Str} (hz : isNL z = true) : wayL z s = none ∧ hitR s 4 z = none := by
  have h := step_other z (isNL_mem hz) s (fun h => hs (firsts_keys z (isNL_mem hz) s h)) hn
  refine ⟨h, ?_⟩
  rw [hitR, h]
theorem step_out {s : Str} (hs : s ∉ KEYS) (hn : s ≠ "-") : ∀ {L : List Str}, LSy L → stepL s L = none
  | [], _ => rfl
  | z :: L, h => by
    rw [stepL]
    by_cases n : isNL z = true
    · obtain ⟨w, r⟩ := hit_none hs hn n
      rw [if_pos n, r]
      dsimp only
      split
      · exact step_out hs hn fun y hy => h y (List.mem_cons_of_mem _ hy)
      · rfl
    · rw [if_neg n, if_neg]
      intro e
      exact hs (e ▸ (h z List.mem_cons_self).resolve_left n)
theorem h1_sy : ∀ z ∈ ALLS ++ [("ITEM" : Str)], ∀ y ∈ h1 z, isNL y = true ∨ y ∈ KEYS := by decide +kernel
theorem hS_sy {P : List Str} (h : ∀ z ∈ P, z ∈ ALLS) : LSy (hS P) := by
  intro y hy
  obtain ⟨z, hz, hy⟩ := List.mem_flatMap.mp hy
  exact h1_sy z (List.mem_append_left _ (h z hz)) y hy
theorem Ty.all {t0 P mk} (h : Ty t0 P mk) : ∀ z ∈ P, z ∈ ALLS := by
  obtain ⟨P', ins, rest, k, rfl, rfl, hk, hr, ha⟩ := h
  intro z hz
  rcases List.mem_append.mp hz with hz | hz
  · exact ha z hz
  · rw [List.mem_singleton.mp hz]; decide +kernel
theorem Ty.sy {t0 P mk} (h : Ty t0 P mk) : LSy (hS P) := hS_sy h.all
theorem firsts_ne : ∀ z ∈ NTL, firsts z ≠ [] := by decide +kernel
theorem first_ne {L : List Str} (h : L ≠ []) : firstL L ≠ [] := by
  cases L with
  | nil => exact absurd rfl h
  | cons z L =>
    cases n : isNL z with
    | true => rw [first_nt n]; intro e; exact firsts_ne z (isNL_mem n) (List.append_eq_nil_iff.mp e).1
    | false => rw [first_t n]; intro e; cases e
/-! ### the law's walk over a row of keys -/
def lawRun : List Str → Nat → List Str → Nat × List Str
  | [], k, L => (k, L)
  | s :: ss, k, L => match stepL s L with
    | none => (k, L)
    | some L' => lawRun ss (k + 1) L'
def Ans (t0 : Str) (N : Nat) (r : Nat × List Str) (t : PyData) : Prop := (r.1 = N ∧ r.2 = [] ∧ ∃ rest, t = .tuple (.str t0 :: rest) ∧ 1 ≤ rest.length) ∨ (¬ (r.1 = N ∧ r.2 = []) ∧ t = wrongD r.1 (firstL r.2))
def upN (p : Tk) : Nat := if (p.1 = "word" ∨ p.1 = "sign") ∧ p.2 ∈ UPS then 1 else 0
def ups : List Tk → Nat
  | [] => 0
  | p :: ps => upN p + ups ps
theorem ups_app : ∀ a b, ups (a ++ b) = ups a + ups b
  | [], b => by simp [ups]
  | p :: a, b => by rw [List.cons_append, ups, ups, ups_app a b, Nat.add_assoc]
theorem wd_keys : ∀ z ∈ WRDS, z ∈ KEYS := by decide +kernel
theorem sg_keys : ∀ z ∈ SGNS, z ∈ KEYS := by decide +kernel
theorem keys_sgs : ∀ z ∈ KEYS, z ∈ SGS := fun z h => List.mem_append_left _ h
/-- a token: wrong, a name, a word or sign -/
theorem tok_cases {p : Tk} (h : TokOk p) : (p.1 = "wrong" ∧ signOf p = "" ∧ keyOf p = "wrong") ∨ (signOf p ∈ KEYS ∧ keyOf p = signOf p ∧ ((p.1 = "name" ∨ p.1 = "Name") ∧ signOf p = p.1 ∨ (p.1 = "word" ∨ p.1 = "sign") ∧ signOf p = p.2)) := by
  obtain ⟨a, b⟩ := p
  rcases h with (h | h | h) | ⟨h, hb⟩ | ⟨h, hb⟩
  · have h : a = "name" := h
    subst h
    exact .inr ⟨by show ("name" : Str) ∈ KEYS; decide +kernel, rfl, .inl ⟨.inl rfl, rfl⟩⟩
  · have h : a = "Name" := h
    subst h
    exact .inr ⟨by show ("Name" : Str) ∈ KEYS; decide +kernel, rfl, .inl ⟨.inr rfl, rfl⟩⟩
  · have h : a = "wrong" := h
    subst h
    exact .inl ⟨rfl, rfl, rfl⟩
  · have h : a = "word" := h
    subst h
    exact .inr ⟨wd_keys b hb, rfl, .inr ⟨.inl rfl, rfl⟩⟩
  · have h : a = "sign" := h
    subst h
    exact .inr ⟨sg_keys b hb, rfl, .inr ⟨.inr rfl, rfl⟩⟩
theorem op_key : ∀ z ∈ KEYS, (z = "name" ∨ z = "Name") ∧ opOf z = .add ∨ (z ≠ "name" ∧ z ≠ "Name") ∧ opOf z = .nop := by
  intro z hz
  simp only [KEYS, List.mem_cons, List.not_mem_nil, or_false] at hz
  rcases hz with rfl | rfl | rfl | rfl | rfl | rfl | rfl | rfl | rfl | rfl | rfl | rfl | rfl | rfl | rfl | rfl | rfl | rfl | rfl | rfl | rfl | rfl | rfl | rfl | rfl | rfl | rfl | rfl | rfl
  all_goals first
    | exact .inl ⟨.inl rfl, rfl⟩
    | exact .inl ⟨.inr rfl, rfl⟩
    | exact .inr ⟨by decide +kernel, rfl⟩
/-- a token that fits is taken in -/
theorem take_ex {t0 : Str} {p : Tk} (hp : TokOk p) (hk : signOf p ∈ KEYS) {Q mk} (h : Ty t0 (signOf p :: Q) mk) (d : Int) : ∃ mk2 d2, TakeP p mk d mk2 d2 ∧ Ty t0 Q mk2 ∧ wl mk2 ≤ wl mk + 1 ∧ d2 ≤ d + upN p := by
  have hQ : Q ≠ [] := by
    rintro rfl
    obtain ⟨P', _, _, _, e, _⟩ := h
    cases P' with
    | nil =>
      injection e with e _
      rw [e] at hk
      exact absurd hk (by decide +kernel)
    | cons y P' => injection e with _ e; cases P' <;> cases e
  obtain ⟨Q', ins, rest, k, st, rfl, rfl, h2, he, hr, -, ha⟩ := h.cons hQ
  rcases tok_cases hp with ⟨-, e, -⟩ | ⟨-, -, ⟨h3, h4⟩ | ⟨h3, h4⟩⟩
  · rw [e] at hk; exact absurd hk (by decide +kernel)
  · obtain ⟨a, b⟩ := p
    have h3 : a = "name" ∨ a = "Name" := h3
    have ho : opOf (signOf (a, b)) = .add := by
      rw [h4]
      rcases h3 with e | e
      · rw [show ((a, b) : Tk).1 = "name" from e]; rfl
      · rw [show ((a, b) : Tk).1 = "Name" from e]; rfl
    rw [ho] at he
    cases ins with
    | nil =>
      cases he
      refine ⟨[PyData.str t0 :: (rest ++ [PyData.str b]), []], d, (TakeP.nm (top := PyData.str t0 :: rest) h3 : TakeP (a, b) ((PyData.str t0 :: rest) :: [[]]) d ((PyData.str t0 :: rest ++ [PyData.str b]) :: [[]]) d), ⟨Q', [], rest ++ [PyData.str b], k, rfl, rfl, h2, ?_, ha⟩, ?_, by omega⟩
      · rw [List.length_append]; exact hr
      · simp only [wl, List.length_cons, List.length_append, List.nil_append, List.length_nil]; omega
    | cons x ins =>
      cases he
      refine ⟨(x ++ [PyData.str b]) :: (ins ++ [PyData.str t0 :: rest, []]), d, .nm h3, ⟨Q', (x ++ [PyData.str b]) :: ins, rest, k, rfl, rfl, h2, ?_, ha⟩, ?_, by omega⟩
      · show runA Q' ((x ++ [PyData.str b]).length :: lens ins, rest.length + 1) = _
        rw [List.length_append]; exact hr
      · simp only [List.cons_append, wl, List.length_cons, List.length_append, List.length_nil]; omega
  · obtain ⟨a, b⟩ := p
    have h3 : a = "word" ∨ a = "sign" := h3
    have h4 : signOf (a, b) = b := h4
    have hne : b ≠ "name" ∧ b ≠ "Name" := by
      have hb : b ∈ WRDS ∨ b ∈ SGNS := by
        rcases hp with (e | e | e) | ⟨e, hb⟩ | ⟨e, hb⟩
        · have e : a = "name" := e; rcases h3 with q | q <;> exact absurd (e.symm.trans q) (by decide +kernel)
        · have e : a = "Name" := e; rcases h3 with q | q <;> exact absurd (e.symm.trans q) (by decide +kernel)
        · have e : a = "wrong" := e; rcases h3 with q | q <;> exact absurd (e.symm.trans q) (by decide +kernel)
        · exact .inl hb
        · exact .inr hb
      have f1 : ∀ z ∈ WRDS, z ≠ "name" ∧ z ≠ "Name" := by decide +kernel
      have f2 : ∀ z ∈ SGNS, z ≠ "name" ∧ z ≠ "Name" := by decide +kernel
      exact hb.elim (f1 b) (f2 b)
    have ho : opOf (signOf (a, b)) = .nop := by
      rcases op_key _ hk with ⟨q, _⟩ | ⟨_, q⟩
      · rw [h4] at q; exact (q.elim hne.1 hne.2).elim
      · exact q
    rw [ho] at he
    have est : st = (lens ins, rest.length + 1) := by
      cases ins with
      | nil => cases he; rfl
      | cons x ins => cases he; rfl
    rw [est] at hr
    have ty : Ty t0 (Q' ++ [(">" : Str)]) (ins ++ [.str t0 :: rest, []]) := ⟨Q', ins, rest, k, rfl, rfl, h2, hr, ha⟩
    by_cases u : b ∈ UPS
    · have e1 : upN (a, b) = 1 := if_pos ⟨h3, u⟩
      exact ⟨_, d + 1, .up h3 u, ty, Nat.le_succ _, by rw [e1]; omega⟩
    · by_cases v : b ∈ DNS
      · refine ⟨ins ++ [.str t0 :: rest, []], d - 1, ?_, ty, Nat.le_succ _, by omega⟩
        have e : d = d - 1 + 1 := by omega
        have := TakeP.dn (mk := ins ++ [.str t0 :: rest, []]) (d := d - 1) h3 v
        rw [← e] at this
        exact this
      · exact ⟨_, d, .wd h3 u v, ty, Nat.le_succ _, by omega⟩
theorem nil_sgs : ("" : Str) ∈ SGS := by decide +kernel
theorem nil_all : ("" : Str) ∉ ALLS := by decide +kernel
/-- reading on within an item -/
theorem read1 {t0 : Str} : ∀ (ps : List Tk) (k : Nat) P mk (d : Int), (∀ p ∈ ps, TokOk p) → Ty t0 P mk → wl mk + QP P + 101 * (ps.length + 1) ≤ 400000 → d + ups ps ≤ 60 → ∃ t, RunF ps k P mk d t ∧ Ans t0 (k + ps.length) (lawRun (ps.map keyOf) k (hS P)) t
  | [], k, P, mk, d, _, ht, hb, hd => by
    have hb : wl mk + QP P + 101 * (0 + 1) ≤ 400000 := hb
    obtain ⟨n, b, stk', mk', d', cs', hM, h⟩ := meet_ex nil_sgs (Nat.le_refl 400000) P mk d [] ht (by omega) (by show 0 + _ ≤ _; omega) (fun x hx => nomatch hx)
    rcases h with ⟨L', _, _, _, hT, _⟩ | ⟨h1, rfl, h2, h3, h4⟩
    · exact absurd (hT.all "" List.mem_cons_self) nil_all
    · show ∃ t, RunF [] k P mk d t ∧ Ans t0 (k + 0) (k, hS P) t
      by_cases e : hS P = []
      · obtain ⟨rest, rfl, hr⟩ := h4 e
        have hc : cs' = [] := by
          cases cs' with
          | nil => rfl
          | cons c cs =>
            have := (h2 c).mp List.mem_cons_self
            rw [e] at this
            exact (this.elim (nomatch ·) (nomatch ·))
        subst hc
        exact ⟨_, .endOk hM, .inl ⟨rfl, e, rest, rfl, hr⟩⟩
      · refine ⟨_, .endBad hM (fun q => ?_) h3, .inr ⟨fun q => e q.2, ?_⟩⟩
        · have hf := first_ne e
          cases hfl : firstL (hS P) with
          | nil => exact hf hfl
          | cons c l =>
            have := (h2 c).mpr (.inr (by rw [hfl]; exact List.mem_cons_self))
            rw [q] at this
            cases this
        · show wrongD k cs' = wrongD k (firstL (hS P))
          unfold wrongD
          rw [srt_cong fun x => (h2 x).trans ⟨fun q => q.elim (nomatch ·) id, .inr⟩]
  | p :: ps, k, P, mk, d, hp, ht, hb, hd => by
    have hb : wl mk + QP P + 101 * (ps.length + 1 + 1) ≤ 400000 := hb
    have hd : d + ((upN p + ups ps : Nat) : Int) ≤ 60 := hd
    have hp0 := hp p List.mem_cons_self
    have hs : signOf p ∈ SGS := by
      rcases tok_cases hp0 with ⟨-, e, -⟩ | ⟨e, -⟩
      · rw [e]; exact nil_sgs
      · exact keys_sgs _ e
    obtain ⟨n, b, stk', mk', d', cs', hM, h⟩ := meet_ex hs (show wl mk + QP P + 100 ≤ 400000 by omega) P mk d [] ht (Nat.le_refl _) (by show 0 + _ ≤ _; omega) (fun x hx => nomatch hx)
    rcases h with ⟨L', h1, rfl, h2, hT, h3⟩ | ⟨h1, rfl, h2, h3, h4⟩
    · have hk : signOf p ∈ KEYS ∧ keyOf p = signOf p := by
        rcases tok_cases hp0 with ⟨-, e, -⟩ | ⟨e, e2, -⟩
        · exact absurd (hT.all (signOf p) List.mem_cons_self) (by rw [e]; exact nil_all)
        · exact ⟨e, e2⟩
      have dep := hM.dep
      obtain ⟨mk2, d2, hTk, hT2, hw, hd2⟩ := take_ex hp0 hk.1 hT d'
      rw [QP, key_q _ hk.1] at h3
      obtain ⟨t, hR, hA⟩ := read1 ps (k + 1) stk' mk2 d2 (fun q hq => hp q (List.mem_cons_of_mem _ hq)) hT2 (by omega) (by omega)
      refine ⟨t, .step hp0 hM (by omega) hTk (by omega) hR, ?_⟩
      have e1 : lawRun ((p :: ps).map keyOf) k (hS P) = lawRun (ps.map keyOf) (k + 1) (hS stk') := by
        show (match stepL (keyOf p) (hS P) with | none => (k, hS P) | some L' => lawRun (ps.map keyOf) (k + 1) L') = _
        rw [hk.2, h1, h2]
      rw [e1, show k + (p :: ps).length = k + 1 + ps.length by rw [List.length_cons]; omega]
      exact hA
    · have e0 : stepL (keyOf p) (hS P) = none := by
        rcases tok_cases hp0 with ⟨-, -, e⟩ | ⟨-, e, -⟩
        · rw [e]; exact step_out (by decide +kernel) (by decide +kernel) ht.sy
        · rw [e]; exact h1
      have e1 : lawRun ((p :: ps).map keyOf) k (hS P) = (k, hS P) := by
        show (match stepL (keyOf p) (hS P) with | none => (k, hS P) | some L' => lawRun (ps.map keyOf) (k + 1) L') = _
        rw [e0]
      rw [e1]
      refine ⟨_, .bad hp0 hM h3, .inr ⟨fun q => ?_, ?_⟩⟩
      · have := q.1
        rw [List.length_cons] at this
        have : k = k + (ps.length + 1) := this
        omega
      · show wrongD k cs' = wrongD k (firstL (hS P))
        unfold wrongD
        rw [srt_cong fun x => (h2 x).trans ⟨fun q => q.elim (nomatch ·) id, .inr⟩]
end K17

namespace K17
open PySem PySem.Spec PyProof.Rows L2 MM
/-! ### a whole row -/
def FIVE : List Str := ["face", "use", "open", "kind", "def"]
/-- what is due behind the first token -/
def dueOf (s : Str) : List Str := match pick_ "ITEM" s with
  | some ws => ws.drop 3
  | none => []
theorem five_row : ∀ s ∈ FIVE, pick_ "ITEM" s = some (("<" : Str) :: (Str.ofString "'" ++ s) :: s :: dueOf s) ∧ stepL s ["<item>"] = some (hS (dueOf s)) ∧ QP (s :: dueOf s) ≤ 100 ∧ s ≠ "ITEM" ∧ s ≠ "<" ∧ s ≠ (Str.ofString "'" ++ s) ∧ s ∈ KEYS ∧ (pas_ "ITEM" s).length ≤ 9 := by decide +kernel
def dueInit (s : Str) : List Str := (dueOf s).dropLast
theorem five_ty : ∀ s ∈ FIVE, s :: dueOf s = (s :: dueInit s) ++ [(">" : Str)] ∧ (match runA (s :: dueInit s) ([], 1) with | some ([], k) => decide (2 ≤ k) | _ => false) = true ∧ (∀ z ∈ s :: dueInit s, z ∈ ALLS) := by decide +kernel
theorem item_none : ∀ s ∈ SGS, s ∈ FIVE ∨ (pick_ "ITEM" s = none ∧ stepL s ["<item>"] = none ∧ s ≠ "ITEM" ∧ sub (pas_ "ITEM" s) (firstL ["<item>"]) = true ∧ sub (firstL ["<item>"]) (pas_ "ITEM" s) = true ∧ sub (pas_ "ITEM" s) KEYS = true) := by decide +kernel
theorem item_sy : LSy [("<item>" : Str)] := by unfold LSy; decide +kernel
theorem item_some : (t_RULES "ITEM").isSome = true := rfl
theorem five_add : ∀ s ∈ FIVE, (Str.ofString "'" ++ s, PyData.str s) ∈ ADDS := by
  intro s hs
  simp only [FIVE, List.mem_cons, List.not_mem_nil, or_false] at hs
  rcases hs with rfl | rfl | rfl | rfl | rfl
  all_goals exact mem_look rfl
theorem read_all {p : Tk} {ps : List Tk} (hp : ∀ q ∈ p :: ps, TokOk q) (hl : ps.length ≤ 3900) (hu : ups (p :: ps) ≤ 60) : ∃ t, RunF (p :: ps) 0 ["ITEM"] [[]] 0 t ∧ Ans p.2 (ps.length + 1) (lawRun ((p :: ps).map keyOf) 0 ["<item>"]) t := by
  have hp0 := hp p List.mem_cons_self
  have hs : signOf p ∈ SGS := by
    rcases tok_cases hp0 with ⟨-, e, -⟩ | ⟨e, -⟩
    · rw [e]; exact nil_sgs
    · exact keys_sgs _ e
  have hu : upN p + ups ps ≤ 60 := hu
  rcases item_none _ hs with h5 | ⟨h1, h2, h3, h4, h5, h6⟩
  · obtain ⟨r1, r2, r3, r4, r5, r6, r7, r8⟩ := five_row _ h5
    obtain ⟨t1, t2, t3⟩ := five_ty _ h5
    have hk : keyOf p = signOf p ∧ signOf p = p.2 := by
      rcases tok_cases hp0 with ⟨-, e, -⟩ | ⟨-, e, ⟨f1, f2⟩ | ⟨f1, f2⟩⟩
      · rw [e] at r7; exact absurd r7 (by decide +kernel)
      · rw [f2] at h5
        rcases f1 with f | f
        · rw [f] at h5; exact absurd h5 (by decide +kernel)
        · rw [f] at h5; exact absurd h5 (by decide +kernel)
      · exact ⟨e, f2⟩
    have hM : MeetF (signOf p) 3 ["ITEM"] [[]] 0 [] true (dueOf (signOf p)) [[.str (signOf p)], []] 0 ([] ++ pas_ "ITEM" (signOf p)) := by
      refine .exp (Ne.symm r4) (Nat.zero_le _) (Nat.zero_le _) r1 ?_
      refine .act (Ne.symm r5) .opn (by show 1 ≤ 4000000; omega) ?_
      refine .act (Ne.symm r6) (.add (five_add _ h5)) (by show 2 ≤ 4000000; omega) ?_
      show MeetF (signOf p) 0 ((signOf p :: dueOf (signOf p)) ++ []) [[PyData.str (signOf p)], []] 0 _ true _ _ 0 _
      rw [List.append_nil]
      exact .hit
    have hT : Ty (signOf p) (signOf p :: dueOf (signOf p)) [[.str (signOf p)], []] := by
      split at t2
      · rename_i k hk
        exact ⟨_, [], [], k, t1, rfl, of_decide_eq_true t2, hk, t3⟩
      · cases t2
    obtain ⟨mk2, d2, hTk, hT2, hw, hd2⟩ := take_ex hp0 r7 hT 0
    have hw : wl mk2 ≤ 4 := hw
    rw [QP, key_q _ r7] at r3
    obtain ⟨t, hR, hA⟩ := read1 ps 1 (dueOf (signOf p)) mk2 d2 (fun q hq => hp q (List.mem_cons_of_mem _ hq)) hT2 (by omega) (by omega)
    refine ⟨t, .step hp0 hM (by decide) hTk (by show 3 ≤ 4000000; omega) hR, ?_⟩
    have e1 : lawRun ((p :: ps).map keyOf) 0 ["<item>"] = lawRun (ps.map keyOf) 1 (hS (dueOf (signOf p))) := by
      show (match stepL (keyOf p) [("<item>" : Str)] with | none => (0, [("<item>" : Str)]) | some L' => lawRun (ps.map keyOf) (0 + 1) L') = _
      rw [hk.1, r2]
    rw [e1, ← hk.2, Nat.add_comm]
    exact hA
  · have e0 : stepL (keyOf p) ["<item>"] = none := by
      rcases tok_cases hp0 with ⟨-, -, e⟩ | ⟨-, e, -⟩
      · rw [e]; exact step_out (by decide +kernel) (by decide +kernel) item_sy
      · rw [e]; exact h2
    have e1 : lawRun ((p :: ps).map keyOf) 0 ["<item>"] = (0, [("<item>" : Str)]) := by
      show (match stepL (keyOf p) [("<item>" : Str)] with | none => (0, [("<item>" : Str)]) | some L' => lawRun (ps.map keyOf) (0 + 1) L') = _
      rw [e0]
    rw [e1]
    refine ⟨_, .bad (n := 0) (stk' := []) (mk' := [[]]) (d' := 0) (cs := [] ++ pas_ "ITEM" (signOf p)) hp0 (.non (Ne.symm h3) (Nat.zero_le _) (Nat.zero_le _) item_some h1) (fun x hx => sub_mem h6 x hx), .inr ⟨fun q => ?_, ?_⟩⟩
    · have := q.1
      have : 0 = ps.length + 1 := this
      omega
    · show wrongD 0 (pas_ "ITEM" (signOf p)) = wrongD 0 (firstL ["<item>"])
      unfold wrongD
      rw [srt_cong fun x => ⟨sub_mem h4 x, sub_mem h5 x⟩]
end K17

namespace K17
open PySem PySem.Spec PyProof.Rows L2 MM
local macro_rules | `(tactic| walk_at "w") => `(tactic| conv => whnf)
/-! ### the law's rules, as they are built -/
def ROWS0 : List Str := ["<item> face face <shown> <shown+> ;", "<item> use use Name <as> ;", "<item> open open Name <way> ;", "<item> kind kind Name = <maker> <maker+> ;", "<item> def def name <givens> <of?> = <told> ;", "<shown> name name", "<shown> Name Name <all>", "<all> ( ( .. )", "<all> -", "<shown+> , , <shown> <shown+>", "<shown+> -", "<as> as as Name", "<as> -", "<way> hiding hiding ( <thing> <thing+> )", "<way> ( ( <thing> <thing+> )"]
def ROWS1 : List Str := ["<way> -", "<thing> name name", "<thing> Name Name", "<thing+> , , <thing> <thing+>", "<thing+> -", "<maker> Name Name <parts>", "<maker+> | | <maker> <maker+>", "<maker+> -", "<parts> ( ( <of> <of+> )", "<parts> -", "<of> Name Name <dot>", "<dot> . . Name", "<dot> -", "<of+> , , <of> <of+>", "<of+> -"]
def ROWS2 : List Str := ["<givens> ( ( <given> <given+> )", "<givens> -", "<given> name name <of?>", "<given+> , , <given> <given+>", "<given+> -", "<of?> : : <of>", "<of?> -", "<told> let let name = <told> in <told>", "<told> if if <told> then <told> else <told>", "<told> ( <side> <same>", "<told> case <side> <same>", "<told> name <side> <same>", "<told> Name <side> <same>", "<same> == == <side>", "<same> -"]
def ROWS3 : List Str := ["<side> ( ( <told> )", "<side> case case <told> of <arm> <arm+> end", "<side> name name <call>", "<side> Name Name <far> <call>", "<far> . . <last>", "<far> -", "<last> name name", "<last> Name Name", "<call> ( ( <told> <told+> )", "<call> -", "<told+> , , <told> <told+>", "<told+> -", "<arm> _ <form> -> <told>", "<arm> name <form> -> <told>", "<arm> Name <form> -> <told>"]
def ROWS4 : List Str := ["<arm+> | | <arm> <arm+>", "<arm+> -", "<form> _ _", "<form> name name", "<form> Name Name <dot> <forms>", "<forms> ( ( <form> <form+> )", "<forms> -", "<form+> , , <form> <form+>", "<form+> -"]
def ROWS : List Str := ROWS0 ++ ROWS1 ++ ROWS2 ++ ROWS3 ++ ROWS4
abbrev Rw := Str × Str × List Str
def partsOf (p : Rw) : List Str := p.1 :: p.2.1 :: p.2.2
theorem rows_split : ROWS.map (fun z => Txt.split z " ") = R17.map partsOf := by decide +kernel
theorem rows_len : ∀ z ∈ ROWS, z.length + 2 ≤ 100 := by decide +kernel
abbrev Tb := List (Key × Ar) × List Mo
def wayA (r : List Str) : Ar := .val (.list (r.map PyData.str))
def addR (T : Tb) (p : Rw) : Option Tb :=
  if T.1.length < 1000 then
    match getD T.1 (.inr p.1) with
    | some (.sl (j + 2)) => match (T.2 ++ [Mo.dk []])[j]? with
      | some (.dk ws) => if ws.length < 1000 then some (T.1, (T.2 ++ [Mo.dk []]).set j (.dk (putD ws (.inr p.2.1) (wayA p.2.2)))) else none
      | _ => none
    | some _ => none
    | none => some (putD T.1 (.inr p.1) (.sl (T.2.length + 2)), (T.2 ++ [Mo.dk []]).set T.2.length (.dk (putD [] (.inr p.2.1) (wayA p.2.2))))
  else none
def runR : List Rw → Tb → Option Tb
  | [], T => some T
  | p :: ps, T => match addR T p with
    | some T' => runR ps T'
    | none => none
def arIs (a : Ar) (r : List Str) : Bool := match a with
  | .val (.list xs) => match strsD xs with
    | some ys => decide (ys = r)
    | none => false
  | _ => false
theorem arIs_eq {a : Ar} {r : List Str} (h : arIs a r = true) : a = wayA r := by
  unfold arIs at h
  split at h
  · rename_i xs
    split at h
    · rename_i ys hy
      rw [strsD_eq hy, of_decide_eq_true h]; rfl
    · cases h
  · cases h
def wsIs : List (Key × Ar) → List (Str × List Str) → Bool
  | [], [] => true
  | (.inr s, a) :: ws, (s', r) :: rs => decide (s = s') && arIs a r && wsIs ws rs
  | _, _ => false
theorem wsIs_eq : ∀ {ws : List (Key × Ar)} {rs : List (Str × List Str)}, wsIs ws rs = true → ws = rs.map fun p => (.inr p.1, wayA p.2)
  | [], [], _ => rfl
  | [], _ :: _, h => nomatch h
  | (.inr _, _) :: _, [], h => nomatch h
  | (.inl _, _) :: _, [], h => nomatch h
  | (.inl _, _) :: _, _ :: _, h => nomatch h
  | (.inr s, a) :: ws, (s', r) :: rs, h => by
    have h : (decide (s = s') && arIs a r && wsIs ws rs) = true := h
    rw [Bool.and_eq_true, Bool.and_eq_true] at h
    rw [of_decide_eq_true h.1.1, arIs_eq h.1.2, wsIs_eq h.2]
    rfl
def kvIs : List (Key × Ar) → List Str → (Str → Nat) → Bool
  | [], [], _ => true
  | (.inr s, .sl j) :: ws, s' :: rs, f => decide (s = s') && decide (j = f s') && kvIs ws rs f
  | _, _, _ => false
theorem kvIs_eq {f : Str → Nat} : ∀ {ws : List (Key × Ar)} {rs : List Str}, kvIs ws rs f = true → ws = rs.map fun z => (.inr z, .sl (f z))
  | [], [], _ => rfl
  | [], _ :: _, h => nomatch h
  | (.inr _, .sl _) :: _, [], h => nomatch h
  | (.inr _, .val _) :: _, [], h => nomatch h
  | (.inr _, .fn _) :: _, [], h => nomatch h
  | (.inl _, _) :: _, [], h => nomatch h
  | (.inl _, _) :: _, _ :: _, h => nomatch h
  | (.inr s, .val _) :: ws, s' :: rs, h => nomatch h
  | (.inr s, .fn _) :: ws, s' :: rs, h => nomatch h
  | (.inr s, .sl j) :: ws, s' :: rs, h => by
    have h : (decide (s = s') && decide (j = f s') && kvIs ws rs f) = true := h
    rw [Bool.and_eq_true, Bool.and_eq_true] at h
    rw [of_decide_eq_true h.1.1, of_decide_eq_true h.1.2, kvIs_eq h.2]
    rfl
def wix (z : Str) : Nat := 2 + R17.findIdx fun p => decide (p.1 = z)
def rowsOf (z : Str) : List (Str × List Str) := (R17.filter fun p => decide (p.1 = z)).map fun p => p.2
def tabOk : Option Tb → Bool
  | some T => kvIs T.1 NTL wix && (NTL.all fun z => match T.2[wix z - 2]? with
    | some (.dk ws) => wsIs ws (rowsOf z)
    | _ => false) && T.2.all fun o => decide (refsO o = [])
  | none => false
theorem tab_ok : tabOk (runR R17 ([], [])) = true := by decide +kernel
end K17

namespace K17
open PySem PySem.Spec PyProof.Rows L2 MM
local macro_rules | `(tactic| walk_at "w") => `(tactic| conv => whnf)
/-- the store has the law's rules at 1 -/
structure RM (m : List Mo) : Prop where
  top : ∃ kvs, m[1]? = some (.dk kvs) ∧ ∀ z : Str, getD kvs (.inr z) = if isNL z = true then some (.sl (wix z)) else none
  sub : ∀ z, isNL z = true → ∃ ws, m[wix z]? = some (.dk ws) ∧ (∀ s : Str, getD ws (.inr s) = (wayL z s).map wayA) ∧ ws.map (fun kv => datK kv.1) = (rowsOf z).map fun p => PyData.str p.1
theorem getD_map {α : Type} (f : α → Str) (g : α → Ar) (y : Str) : ∀ l : List α, getD (l.map fun z => (.inr (f z), g z)) (.inr y) = (l.find? fun z => decide (f z = y)).map g
  | [] => rfl
  | z :: l => by
    have ih := getD_map f g y l
    unfold getD at ih ⊢
    rw [List.map_cons, List.find?_cons, List.find?_cons]
    by_cases q : f z = y
    · have : decide ((Sum.inr (f z) : Key) = .inr y) = true := decide_eq_true (by rw [q])
      simp [q]
    · have : ¬ (Sum.inr (f z) : Key) = .inr y := fun e => q (by injection e)
      simp only [this, q, decide_false]
      exact ih
theorem find_rows (z s : Str) : ∀ l : List Rw, (((l.filter fun p => decide (p.1 = z)).map fun p => p.2).find? fun p => decide (p.1 = s)).map (fun p => wayA p.2) = ((l.find? fun p => decide (p.1 = z) && decide (p.2.1 = s)).map fun p => p.2.2).map wayA
  | [] => rfl
  | p :: l => by
    have ih := find_rows z s l
    rw [List.find?_cons, List.filter_cons]
    by_cases q : p.1 = z
    · rw [if_pos (decide_eq_true q), List.map_cons, List.find?_cons]
      by_cases r : p.2.1 = s
      · simp [q, r]
      · simp only [q, r, decide_true, decide_false, Bool.true_and]
        exact ih
    · have q2 : decide (p.1 = z) = false := decide_eq_false q
      rw [if_neg (by rw [q2]; exact Bool.false_ne_true), q2, Bool.false_and]
      exact ih
theorem find_self (y : Str) : ∀ l : List Str, (l.find? fun z => decide (z = y)).map (fun z => Ar.sl (wix z)) = if y ∈ l then some (.sl (wix y)) else none
  | [] => rfl
  | z :: l => by
    rw [List.find?_cons]
    by_cases q : z = y
    · subst q; simp
    · have q2 : ¬ y = z := fun e => q e.symm
      simp only [q, decide_false, List.mem_cons, q2, false_or]
      exact find_self y l
theorem rm_of {T : Tb} (h : runR R17 ([], []) = some T) (x : Mo) : RM (x :: .dk T.1 :: T.2) := by
  have k := tab_ok
  rw [h] at k
  have k : (kvIs T.1 NTL wix && (NTL.all fun z => match T.2[wix z - 2]? with
    | some (.dk ws) => wsIs ws (rowsOf z)
    | _ => false) && T.2.all fun o => decide (refsO o = [])) = true := k
  rw [Bool.and_eq_true] at k
  have k := k.1
  rw [Bool.and_eq_true] at k
  refine ⟨⟨T.1, rfl, fun z => ?_⟩, fun z hz => ?_⟩
  · rw [kvIs_eq k.1, getD_map (fun z => z) (fun z => Ar.sl (wix z)), find_self]
    unfold isNL
    simp
  · have := List.all_eq_true.mp k.2 z (isNL_mem hz)
    split at this
    · rename_i ws hw
      have e := wsIs_eq this
      refine ⟨ws, ?_, fun s => ?_, ?_⟩
      · have e2 : wix z = (wix z - 2) + 2 := by unfold wix; omega
        rw [e2]
        exact hw
      · rw [e, getD_map (fun p : Str × List Str => p.1) (fun p => wayA p.2)]
        exact find_rows z s R17
      · rw [e, List.map_map]; rfl
    · cases this
/-- the store, closed, with the law's rules at 1 -/
structure RC (m : List Mo) : Prop where
  rm : RM m
  cl : closedL m.length m
theorem refs_map (f : Str → Nat) : ∀ (l : List Str) (i : Nat), i ∈ refsL (l.map fun z => Ar.sl (f z)) → ∃ z ∈ l, i = f z
  | [], i, h => nomatch h
  | z :: l, i, h => by
    have h : i ∈ [f z] ++ refsL (l.map fun z => Ar.sl (f z)) := h
    rcases List.mem_append.mp h with h | h
    · exact ⟨z, List.mem_cons_self, List.mem_singleton.mp h⟩
    · obtain ⟨y, hy, e⟩ := refs_map f l i h
      exact ⟨y, List.mem_cons_of_mem _ hy, e⟩
theorem nl_true : ∀ z ∈ NTL, isNL z = true := fun z hz => decide_eq_true hz
theorem rc_of {T : Tb} (h : runR R17 ([], []) = some T) (ds : List PyData) : RC (.fl ds :: .dk T.1 :: T.2) := by
  have r := rm_of h (.fl ds)
  refine ⟨r, fun o ho i hi => ?_⟩
  have k := tab_ok
  rw [h] at k
  have k : (kvIs T.1 NTL wix && (NTL.all fun z => match T.2[wix z - 2]? with
    | some (.dk ws) => wsIs ws (rowsOf z)
    | _ => false) && T.2.all fun o => decide (refsO o = [])) = true := k
  rw [Bool.and_eq_true, Bool.and_eq_true] at k
  rcases List.mem_cons.mp ho with rfl | ho
  · cases hi
  · rcases List.mem_cons.mp ho with rfl | ho
    · have e : refsO (.dk T.1) = refsL (NTL.map fun z => Ar.sl (wix z)) := by
        show refsL (T.1.map (·.2)) = _
        rw [kvIs_eq k.1.1, List.map_map]; rfl
      rw [e] at hi
      obtain ⟨z, hz, rfl⟩ := refs_map wix NTL i hi
      obtain ⟨ws, g, _⟩ := r.sub z (nl_true z hz)
      exact (List.getElem?_eq_some_iff.mp g).1
    · have := of_decide_eq_true (List.all_eq_true.mp k.2 o ho)
      rw [this] at hi
      cases hi
theorem RM.app {m : List Mo} (h : RM m) (l : List Mo) : RM (m ++ l) := by
  have ap : ∀ {i : Nat} {o : Mo}, m[i]? = some o → (m ++ l)[i]? = some o := fun e => by rw [List.getElem?_append_left (List.getElem?_eq_some_iff.mp e).1]; exact e
  obtain ⟨kvs, h1, h2⟩ := h.top
  exact ⟨⟨kvs, ap h1, h2⟩, fun z hz => by obtain ⟨ws, g1, g2⟩ := h.sub z hz; exact ⟨ws, ap g1, g2⟩⟩
theorem RM.head {x y : Mo} {T : List Mo} (h : RM (x :: T)) : RM (y :: T) := by
  obtain ⟨kvs, h1, h2⟩ := h.top
  refine ⟨⟨kvs, h1, h2⟩, fun z hz => ?_⟩
  obtain ⟨ws, g1, g2⟩ := h.sub z hz
  refine ⟨ws, ?_, g2⟩
  have e : wix z = (1 + R17.findIdx fun p => decide (p.1 = z)) + 1 := by unfold wix; omega
  rw [e] at g1 ⊢
  exact g1
theorem RC.head {xs ys : List PyData} {T : List Mo} (h : RC (.fl xs :: T)) : RC (.fl ys :: T) :=
  ⟨h.rm.head, fun o ho i hi => by
    rcases List.mem_cons.mp ho with rfl | ho
    · cases hi
    · exact h.cl o (List.mem_cons_of_mem _ ho) i hi⟩
def sp__law_rules : DSp := fun as m C _ => ∃ ds, as = [] ∧ m = [.fl ds] ∧ ∀ T, RC (.fl ds :: T) → C (.sl 1) (.fl ds :: T)
theorem seq_add {fa : DTA} {g : DTS} {D : DEnds} {xs ys : List PyData} {ss : List (Option Ar)} {m : List Mo} (h0 : xs.length + ys.length ≤ sizeLine)
    (hf : ∀ C : Ar → DSt → Prop, C (.val (.list ys)) ⟨some (.val (.list xs)) :: ss, m⟩ → dFr (dLstN fa) ⟨some (.val (.list xs)) :: ss, m⟩ C) (k : g D ⟨some (.val (.list (xs ++ ys))) :: ss, m⟩) :
    dSeq (dSet 0 (dBin aAddL (dVar 0) (dFr (dLstN fa)))) g D ⟨some (.val (.list xs)) :: ss, m⟩ := by
  change dFr (dLstN fa) ⟨some (.val (.list xs)) :: ss, m⟩ (fun b δ2 => match rv (Ar.val (.list xs)), rv b with
    | some d, some e => aAddL d e fun z => g D (setS δ2 0 (.val z))
    | _, _ => False)
  exact hf _ ⟨h0, k⟩
theorem for_list {i : Nat} {xs : List PyData} {g : DTG} {b : DTS} {D : DEnds} {δ : DSt} (hi : δ.s[i]? = some (some (.val (.list xs)))) (h : dForL g b none (xs.map Ar.val) D δ) : dFor (dIterE (dVar i)) g b D δ := by
  unfold dFor dIterE dVar
  rw [hi]
  exact h
theorem cut_two (a b : Str) (r : List Str) : MM.cutD ((a :: b :: r).map PyData.str) (some 2) none = r.map PyData.str := by
  unfold MM.cutD
  have e1 : HT.sIx ((a :: b :: r).map PyData.str).length 0 (some 2) = 2 := by
    simp [HT.sIx]
    try omega
  have e2 : HT.sIx ((a :: b :: r).map PyData.str).length ((a :: b :: r).map PyData.str).length none = ((a :: b :: r).map PyData.str).length := rfl
  rw [e1, e2]
  simp only [List.map_cons, List.drop_succ_cons, List.drop_zero, List.length_cons, Nat.add_sub_cancel]
  exact List.take_of_length_le (Nat.le_refl _)
theorem put_at {δ : DSt} {D : DEnds} {j : Nat} {ws : List (Key × Ar)} {a b : Str} {r : List Str} (h3 : δ.s[3]? = some (some (.val (.list ((a :: b :: r).map PyData.str))))) (h4 : δ.s[4]? = some (some (.sl j))) (hj : δ.m[j]? = some (.dk ws)) (hl : ws.length < sizeLine)
    (h : D.nx ⟨δ.s, δ.m.set j (.dk (putD ws (.inr b) (wayA r)))⟩) : dDPut (dVar 4) (dIx (dVar 3) (dC (.int 1))) (dSl (dVar 3) (doSome (dC (.int 2))) doNone) D δ := by
  unfold dDPut dSl dIx dVar
  rw [h3]
  walk_at "w"
  rw [h4]
  dsimp only
  rw [h3]
  walk_at "w"
  rw [show atI (List.map PyData.str (a :: b :: r)) 1 = some (.str b) from atI_nat (j := 1) rfl]
  dsimp only
  have e : atD δ (.sl j) (.val (.str b)) = some (j, ws, .inr b) := by
    unfold atD
    dsimp only
    rw [hj]
    rfl
  rw [e]
  refine ⟨hl, ?_⟩
  rw [cut_two]
  exact h
theorem l__law_rules : ∀ as m C Ex, sp__law_rules as m C Ex → b__law_rules (endsD m.length C) (startD N__law_rules as m) := by
  rintro as m C Ex ⟨ds, rfl, rfl, h⟩
  have hs := DD.sl_line
  unfold b__law_rules
  refine seq_set ?_
  refine ⟨by rw [hs]; decide +kernel, ?_⟩
  refine seq_add (ys := (["<item> kind kind Name = <maker> <maker+> ;", "<item> def def name <givens> <of?> = <told> ;"] : List Str).map PyData.str) (by rw [hs]; decide +kernel) (fun C h => ⟨by rw [DD.sl_line]; decide +kernel, h⟩) ?_
  refine seq_add (ys := (["<shown> name name", "<shown> Name Name <all>", "<all> ( ( .. )", "<all> -"] : List Str).map PyData.str) (by rw [hs]; decide +kernel) (fun C h => ⟨by rw [DD.sl_line]; decide +kernel, h⟩) ?_
  refine seq_add (ys := (["<shown+> , , <shown> <shown+>", "<shown+> -", "<as> as as Name", "<as> -"] : List Str).map PyData.str) (by rw [hs]; decide +kernel) (fun C h => ⟨by rw [DD.sl_line]; decide +kernel, h⟩) ?_
  refine seq_add (ys := (["<way> hiding hiding ( <thing> <thing+> )", "<way> ( ( <thing> <thing+> )", "<way> -"] : List Str).map PyData.str) (by rw [hs]; decide +kernel) (fun C h => ⟨by rw [DD.sl_line]; decide +kernel, h⟩) ?_
  refine seq_add (ys := (["<thing> name name", "<thing> Name Name", "<thing+> , , <thing> <thing+>", "<thing+> -"] : List Str).map PyData.str) (by rw [hs]; decide +kernel) (fun C h => ⟨by rw [DD.sl_line]; decide +kernel, h⟩) ?_
  refine seq_add (ys := (["<maker> Name Name <parts>", "<maker+> | | <maker> <maker+>", "<maker+> -"] : List Str).map PyData.str) (by rw [hs]; decide +kernel) (fun C h => ⟨by rw [DD.sl_line]; decide +kernel, h⟩) ?_
  refine seq_add (ys := (["<parts> ( ( <of> <of+> )", "<parts> -", "<of> Name Name <dot>", "<dot> . . Name", "<dot> -"] : List Str).map PyData.str) (by rw [hs]; decide +kernel) (fun C h => ⟨by rw [DD.sl_line]; decide +kernel, h⟩) ?_
  refine seq_add (ys := (["<of+> , , <of> <of+>", "<of+> -", "<givens> ( ( <given> <given+> )", "<givens> -"] : List Str).map PyData.str) (by rw [hs]; decide +kernel) (fun C h => ⟨by rw [DD.sl_line]; decide +kernel, h⟩) ?_
  refine seq_add (ys := (["<given> name name <of?>", "<given+> , , <given> <given+>", "<given+> -", "<of?> : : <of>", "<of?> -"] : List Str).map PyData.str) (by rw [hs]; decide +kernel) (fun C h => ⟨by rw [DD.sl_line]; decide +kernel, h⟩) ?_
  refine seq_add (ys := (["<told> let let name = <told> in <told>", "<told> if if <told> then <told> else <told>"] : List Str).map PyData.str) (by rw [hs]; decide +kernel) (fun C h => ⟨by rw [DD.sl_line]; decide +kernel, h⟩) ?_
  refine seq_add (ys := (["<told> ( <side> <same>", "<told> case <side> <same>", "<told> name <side> <same>", "<told> Name <side> <same>"] : List Str).map PyData.str) (by rw [hs]; decide +kernel) (fun C h => ⟨by rw [DD.sl_line]; decide +kernel, h⟩) ?_
  refine seq_add (ys := (["<same> == == <side>", "<same> -", "<side> ( ( <told> )", "<side> case case <told> of <arm> <arm+> end"] : List Str).map PyData.str) (by rw [hs]; decide +kernel) (fun C h => ⟨by rw [DD.sl_line]; decide +kernel, h⟩) ?_
  refine seq_add (ys := (["<side> name name <call>", "<side> Name Name <far> <call>", "<far> . . <last>", "<far> -"] : List Str).map PyData.str) (by rw [hs]; decide +kernel) (fun C h => ⟨by rw [DD.sl_line]; decide +kernel, h⟩) ?_
  refine seq_add (ys := (["<last> name name", "<last> Name Name", "<call> ( ( <told> <told+> )", "<call> -"] : List Str).map PyData.str) (by rw [hs]; decide +kernel) (fun C h => ⟨by rw [DD.sl_line]; decide +kernel, h⟩) ?_
  refine seq_add (ys := (["<told+> , , <told> <told+>", "<told+> -", "<arm> _ <form> -> <told>", "<arm> name <form> -> <told>"] : List Str).map PyData.str) (by rw [hs]; decide +kernel) (fun C h => ⟨by rw [DD.sl_line]; decide +kernel, h⟩) ?_
  refine seq_add (ys := (["<arm> Name <form> -> <told>", "<arm+> | | <arm> <arm+>", "<arm+> -", "<form> _ _", "<form> name name"] : List Str).map PyData.str) (by rw [hs]; decide +kernel) (fun C h => ⟨by rw [DD.sl_line]; decide +kernel, h⟩) ?_
  refine seq_add (ys := (["<form> Name Name <dot> <forms>", "<forms> ( ( <form> <form+> )", "<forms> -", "<form+> , , <form> <form+>", "<form+> -"] : List Str).map PyData.str) (by rw [hs]; decide +kernel) (fun C h => ⟨by rw [DD.sl_line]; decide +kernel, h⟩) ?_
  show dSeq (dSet 1 dDict) _ _ ⟨[some (.val (.list (ROWS.map PyData.str))), none, none, none, none], [.fl ds]⟩
  refine seq_set ?_
  show dSeq _ _ _ ⟨[some (.val (.list (ROWS.map PyData.str))), some (.sl 1), none, none, none], [.fl ds, .dk []]⟩
  obtain ⟨F, hF⟩ : ∃ F, runR R17 ([], []) = some F := by
    have k := tab_ok
    cases hr : runR R17 ([], []) with
    | none => rw [hr] at k; cases k
    | some F => exact ⟨F, rfl⟩
  refine seq_cut (fun δ => ∃ o2 o3 o4, δ = ⟨[some (.val (.list (ROWS.map PyData.str))), some (.sl 1), o2, o3, o4], .fl ds :: .dk F.1 :: F.2⟩) (fun N hN => ?_) ?_
  · refine for_list (xs := ROWS.map PyData.str) rfl ?_
    refine forL_inv (P := fun its δ => ∃ (zs : List Str) (ps : List Rw) (T : Tb) (o2 o3 o4 : Option Ar), its = (zs.map PyData.str).map Ar.val ∧ zs.map (fun z => Txt.split z " ") = ps.map partsOf ∧ (∀ z ∈ zs, z.length + 2 ≤ 100) ∧ runR ps T = some F ∧ δ = ⟨[some (.val (.list (ROWS.map PyData.str))), some (.sl 1), o2, o3, o4], .fl ds :: .dk T.1 :: T.2⟩) ?_ ?_ _ _ ⟨ROWS, R17, ([], []), none, none, none, rfl, rows_split, rows_len, hF, rfl⟩
    · rintro it its δ ⟨zs, ps, ⟨kvs, T⟩, o2, o3, o4, e1, e2, e3, e4, rfl⟩ N' hN'
      cases zs with
      | nil => cases e1
      | cons z zs =>
        cases ps with
        | nil => cases e2
        | cons p ps =>
          injection e1 with e1 e1'
          injection e2 with e2 e2'
          subst e1 e1'
          have e2 : Txt.split z " " = partsOf p := e2
          have zl := e3 z List.mem_cons_self
          refine seq_set ?_
          refine ⟨rfl, by omega, ?_⟩
          rw [e2]
          show dSeq _ _ _ ⟨[some (.val (.list (ROWS.map PyData.str))), some (.sl 1), some (.val (.str z)), some (.val (.list ((partsOf p).map PyData.str))), o4], .fl ds :: .dk kvs :: T⟩
          obtain ⟨a, b, r⟩ := p
          refine seq_set ?_
          walk_at "w"
          rw [show atI (List.map PyData.str (partsOf (a, b, r))) 0 = some (.str a) from atI_nat (j := 0) rfl]
          walk_at "w"
          unfold runR addR at e4
          by_cases c1 : kvs.length < 1000
          · refine ⟨by omega, ?_⟩
            rw [if_pos c1] at e4
            cases g : getD kvs (.inr a) with
            | none =>
              rw [g] at e4
              dsimp only
              have lm : (Mo.fl ds :: Mo.dk kvs :: T).length = T.length + 2 := rfl
              refine put_at (j := T.length + 2) (ws := []) (a := a) (b := b) (r := r) rfl rfl ?_ (by show 0 < sizeLine; omega) ?_
              · show (T ++ [Mo.dk []])[T.length]? = _
                rw [List.getElem?_append_right (Nat.le_refl _), Nat.sub_self]; rfl
              · exact hN' _ ⟨zs, ps, _, _, _, _, rfl, e2', fun z hz => e3 z (List.mem_cons_of_mem _ hz), e4, rfl⟩
            | some y =>
              rw [g] at e4
              dsimp only at e4 ⊢
              split at e4
              · rename_i T2 hT2
                split at hT2
                · rename_i j hy
                  injection hy with hy
                  subst hy
                  split at hT2
                  · rename_i ws hw
                    split at hT2
                    · rename_i hl
                      injection hT2 with hT2
                      subst hT2
                      refine put_at (j := j + 2) (ws := ws) (a := a) (b := b) (r := r) rfl rfl hw (by omega) ?_
                      exact hN' _ ⟨zs, ps, _, _, _, _, rfl, e2', fun z hz => e3 z (List.mem_cons_of_mem _ hz), e4, rfl⟩
                    · cases hT2
                  · cases hT2
                · cases hT2
                · rename_i hy; cases hy
              · cases e4
          · rw [if_neg c1] at e4; cases e4
    · rintro δ ⟨zs, ps, T, o2, o3, o4, e1, e2, e3, e4, rfl⟩
      cases zs with
      | nil =>
        cases ps with
        | nil => cases e4; exact hN _ ⟨_, _, _, rfl⟩
        | cons _ _ => cases e2
      | cons _ _ => cases e1
  · rintro δ ⟨o2, o3, o4, rfl⟩
    exact .inl (h _ (rc_of hF _))
end K17

namespace K17
open PySem PySem.Spec PyProof.Rows L2 MM
local macro_rules | `(tactic| walk_at "w") => `(tactic| conv => whnf)
/-! ### the law's keys -/
theorem keys_perm : KEYS.Perm SK := by decide +kernel
def sp__law_keys : DSp := fun as m C _ => as = [] ∧ C (.val (.list (SK.map PyData.str))) m
theorem l__law_keys : ∀ as m C Ex, sp__law_keys as m C Ex → b__law_keys (endsD m.length C) (startD N__law_keys as m) := by
  rintro as m C Ex ⟨rfl, h⟩
  have hs := DD.sl_line
  walk_at "w"
  refine ⟨by rw [hs]; decide +kernel, ?_⟩
  walk_at "w"
  refine ⟨rfl, by rw [hs]; decide +kernel, ?_⟩
  have e : Txt.split (Str.ofString "face use as open hiding kind def let in if then else case of end name Name" ++ Str.ofString " ( ) , ; . : = | _ .. == ->") (Str.ofString " ") = KEYS := by decide +kernel
  rw [e]
  show (match strsD (KEYS.map PyData.str) with
    | some ys => ys.length < 64 ∧ ∀ ns : List Str, ns.Perm ys → sortedS ns = true → outM m.length C (.val (.list (ns.map PyData.str))) m
    | none => False)
  rw [strs_D]
  refine ⟨by decide, fun ns pm so => .inl ?_⟩
  have p := pm.trans keys_perm
  have hm : ∀ x ∈ ns, x ∈ SK := fun x hx => p.mem_iff.mp hx
  rw [pw_eq hm p (sorted_pw' hm so) sk_pw]
  exact h
/-! ### reading out of a store -/
theorem din_at {neg : Bool} {fk : DTE} {j a : Nat} {z : Str} {kvs : List (Key × Ar)} {δ : DSt} (hk : ∀ C : Ar → DSt → Prop, C (.val (.str z)) δ → fk δ C) (hd : δ.s[j]? = some (some (.sl a))) (ha : δ.m[a]? = some (.dk kvs)) {b : Bool} (hb : (if neg then !(getD kvs (.inr z)).isSome else (getD kvs (.inr z)).isSome) = b) :
    ∀ C : Bool → DSt → Prop, C b δ → dDIn neg fk (dVar j) δ C := by
  intro C h
  refine hk _ ?_
  show dVar j δ _
  unfold dVar
  rw [hd]
  have e : atD δ (.sl a) (.val (.str z)) = some (a, kvs, .inr z) := by
    unfold atD
    dsimp only
    rw [ha]
    rfl
  dsimp only
  rw [e]
  dsimp only
  rw [hb]
  exact h
theorem dget_at {fk : DTE} {j a : Nat} {z : Str} {kvs : List (Key × Ar)} {x : Ar} {δ : DSt} (hk : ∀ C : Ar → DSt → Prop, C (.val (.str z)) δ → fk δ C) (hd : δ.s[j]? = some (some (.sl a))) (ha : δ.m[a]? = some (.dk kvs)) (hx : getD kvs (.inr z) = some x) :
    ∀ C : Ar → DSt → Prop, C x δ → dDGet (dVar j) fk δ C := by
  intro C h
  unfold dDGet dVar
  rw [hd]
  dsimp only
  refine hk _ ?_
  have e : atD δ (.sl a) (.val (.str z)) = some (a, kvs, .inr z) := by
    unfold atD
    dsimp only
    rw [ha]
    rfl
  rw [e]
  dsimp only
  rw [hx]
  exact h
theorem svar_at {i : Nat} {a : Ar} {δ : DSt} (hi : δ.s[i]? = some (some a)) : ∀ C : Ar → DSt → Prop, C a δ → dVar i δ C := by
  intro C h
  unfold dVar
  rw [hi]
  exact h
theorem frO_id {n : Nat} {D : PyData} {o : Mo} (h : ∀ i ∈ refsO o, i ≠ n) : frO n D o = o := by
  have fa : ∀ a : Ar, (∀ i ∈ refsA a, i ≠ n) → frA n D a = a := by
    intro a ha
    cases a with
    | val d => rfl
    | fn f => rfl
    | sl j => exact frA_ne (ha j (List.mem_singleton.mpr rfl))
  have fl : ∀ as : List Ar, (∀ i ∈ refsL as, i ≠ n) → as.map (frA n D) = as := by
    intro as
    induction as with
    | nil => exact fun _ => rfl
    | cons a as ih => exact fun h => by rw [List.map_cons, fa a fun i hi => h i (List.mem_append_left _ hi), ih fun i hi => h i (List.mem_append_right _ hi)]
  have fp : ∀ {κ : Type} (fs : List (κ × Ar)), (∀ i ∈ refsL (fs.map (·.2)), i ≠ n) → (fs.map fun p => (p.1, frA n D p.2)) = fs := by
    intro κ fs
    induction fs with
    | nil => exact fun _ => rfl
    | cons p fs ih =>
      intro h
      rw [List.map_cons, fa p.2 fun i hi => h i (List.mem_append_left _ hi), ih fun i hi => h i (List.mem_append_right _ hi)]
  cases o with
  | fl xs => rfl
  | no => rfl
  | ls as => show Mo.ls (as.map (frA n D)) = _; rw [fl as h]
  | tu as => show Mo.tu (as.map (frA n D)) = _; rw [fl as h]
  | ins c fs => show Mo.ins c (fs.map fun p => (p.1, frA n D p.2)) = _; rw [fp fs h]
  | dk kvs => show Mo.dk (kvs.map fun p => (p.1, frA n D p.2)) = _; rw [fp kvs h]
  | dt kvs => show Mo.dt (kvs.map fun p => (p.1, frA n D p.2)) = _; rw [fp kvs h]
/-- behind the store m: a list of one's own, and what came after -/
structure Own (m μ : List Mo) (xs : List PyData) : Prop where
  pre : ∀ i, i < m.length → μ[i]? = m[i]?
  own : μ[m.length]? = some (.fl xs)
theorem own_new (m : List Mo) (xs : List PyData) : Own m (m ++ [.fl xs]) xs :=
  ⟨fun i hi => List.getElem?_append_left hi, by rw [List.getElem?_append_right (Nat.le_refl _), Nat.sub_self]; rfl⟩
theorem Own.lt {m μ xs} (h : Own m μ xs) : m.length < μ.length := (List.getElem?_eq_some_iff.mp h.own).1
theorem Own.add {m μ xs} (h : Own m μ xs) (l : List Mo) : Own m (μ ++ l) xs :=
  ⟨fun i hi => by rw [List.getElem?_append_left (Nat.lt_trans hi h.lt)]; exact h.pre i hi, by rw [List.getElem?_append_left h.lt]; exact h.own⟩
theorem Own.put {m μ xs} (h : Own m μ xs) (ys : List PyData) : Own m (μ.set m.length (.fl ys)) ys :=
  ⟨fun i hi => by rw [List.getElem?_set_ne (by omega)]; exact h.pre i hi, by rw [List.getElem?_set_self h.lt]⟩
theorem Own.set {m μ xs} (h : Own m μ xs) {j : Nat} (hj : m.length < j) (o : Mo) : Own m (μ.set j o) xs :=
  ⟨fun i hi => by rw [List.getElem?_set_ne (by omega)]; exact h.pre i hi, by rw [List.getElem?_set_ne (by omega)]; exact h.own⟩
theorem Own.take {m μ xs} (h : Own m μ xs) : μ.take m.length = m := by
  refine List.ext_getElem? fun i => ?_
  by_cases hi : i < m.length
  · rw [List.getElem?_take_of_lt hi]; exact h.pre i hi
  · rw [List.getElem?_eq_none (by rw [List.length_take]; omega), List.getElem?_eq_none (by omega)]
theorem RM.own {m μ xs} (r : RM m) (h : Own m μ xs) : RM μ := by
  obtain ⟨kvs, h1, h2⟩ := r.top
  refine ⟨⟨kvs, by rw [h.pre 1 (List.getElem?_eq_some_iff.mp h1).1]; exact h1, h2⟩, fun z hz => ?_⟩
  obtain ⟨ws, g1, g2⟩ := r.sub z hz
  exact ⟨ws, by rw [h.pre _ (List.getElem?_eq_some_iff.mp g1).1]; exact g1, g2⟩
/-- an answer that is data -/
theorem out_val {m μ xs} (c : closedL m.length m) (h : Own m μ xs) {d : PyData} {C : Ar → List Mo → Prop} (k : C (.val d) m) : outM m.length C (.val d) μ := by
  refine .inr ⟨by rw [h.take]; exact c, ?_⟩
  show C (.val d) (μ.take m.length)
  rw [h.take]
  exact k
/-- an answer that is the list of one's own -/
theorem out_own {m μ xs} (c : closedL m.length m) (h : Own m μ xs) {C : Ar → List Mo → Prop} (k : C (.val (.list xs)) m) : outM m.length C (.val (.list xs)) ((μ.set m.length .no).map (frO m.length (.list xs))) := by
  have e : ((μ.set m.length .no).map (frO m.length (.list xs))).take m.length = m := by
    refine List.ext_getElem? fun i => ?_
    by_cases hi : i < m.length
    · rw [List.getElem?_take_of_lt hi, List.getElem?_map, List.getElem?_set_ne (by omega), h.pre i hi, List.getElem?_eq_getElem hi]
      show some (frO m.length (.list xs) m[i]) = some m[i]
      rw [frO_id fun j hj => Nat.ne_of_lt (c _ (List.getElem_mem hi) j hj)]
    · rw [List.getElem?_eq_none (by rw [List.length_take]; omega), List.getElem?_eq_none (by omega)]
  refine .inr ⟨by rw [e]; exact c, ?_⟩
  show C (.val (.list xs)) (List.take m.length _)
  rw [e]
  exact k
end K17

namespace K17
open PySem PySem.Spec PyProof.Rows L2 MM
local macro_rules | `(tactic| walk_at "w") => `(tactic| conv => whnf)
/-! ### one step of the law's stack -/
def loopL (s : Str) : Nat → List Str → Option (List Str)
  | 0, _ => none
  | _ + 1, [] => none
  | f + 1, z :: L => if isNL z = true then match wayL z s with
      | some r => loopL s f (r ++ L)
      | none => if epsL z = true then loopL s f L else none
    else if z = s then some L else none
def stepA : Option (List Str) → PyData
  | none => .none
  | some L => .list (L.reverse.map PyData.str)
def stkD (L : List Str) : PyData := .list (L.reverse.map PyData.str)
def sp__law_step : DSp := fun as m C _ => ∃ (L : List Str) (s : Str), as = [.sl 1, .val (stkD L), .val (.str s)] ∧ RC m ∧ L.length ≤ 100000 ∧ loopL s 900 L = stepL s L ∧ C (.val (stepA (stepL s L))) m
theorem rd_own {n : Nat} {xs : List PyData} {δ : DSt} (hn : δ.m[n]? = some (.fl xs)) : rd δ (.sl n) = some (.list xs) := by
  show (cont δ n).map PyData.list = _
  unfold cont
  rw [hn]
  rfl
theorem fLen_own {n : Nat} {xs : List PyData} {δ : DSt} {C : PyData → Prop} (hn : δ.m[n]? = some (.fl xs)) (h : C (.int xs.length)) : fLen δ [.sl n] C := by
  unfold fLen
  dsimp only
  rw [rd_own hn]
  exact h
theorem len0_at {i n : Nat} {xs : List PyData} {δ : DSt} (hi : δ.s[i]? = some (some (.sl n))) (hn : δ.m[n]? = some (.fl xs)) {b : Bool} (hb : decide (xs = []) = b) : ∀ C : Bool → DSt → Prop, C b δ → dCmp (cEq false) (dCB fLen (dCons (dVar i) dNil)) (dC (.int 0)) δ C := by
  intro C h
  unfold dCmp dCB dCons dVar dNil
  rw [hi]
  dsimp only
  refine fLen_own hn ?_
  have e : decide (((xs.length : Nat) : Int) = 0) = b := by
    rw [← hb]
    cases xs with
    | nil => rfl
    | cons x xs =>
      have : ¬ (((x :: xs).length : Nat) : Int) = 0 := by rw [List.length_cons]; omega
      rw [decide_eq_false this]
      exact (decide_eq_false (by simp)).symm
  show C (decide (((xs.length : Nat) : Int) = 0)) δ
  rw [e]
  exact h
theorem ext_own {fo f : DTE} {s : List (Option Ar)} {μ : List Mo} {i j : Nat} {xs ys : List PyData} {C : Ar → DSt → Prop} (ho : ∀ C : Ar → DSt → Prop, C (.sl i) ⟨s, μ⟩ → fo ⟨s, μ⟩ C) (hi : μ[i]? = some (.fl xs)) (hf : ∀ C : Ar → DSt → Prop, C (.sl j) ⟨s, μ⟩ → f ⟨s, μ⟩ C) (hj : μ[j]? = some (.fl ys)) (hl : xs.length + ys.length ≤ sizeLine)
    (h : C (.val .none) ⟨s, μ.set i (.fl (xs ++ ys))⟩) : dExt fo f ⟨s, μ⟩ C := by
  refine ho _ ?_
  show guardB (isLi ⟨s, μ⟩ i) _
  rw [isLi_fl hi]
  refine hf _ ?_
  have hr : rd ⟨s, μ⟩ (.sl j) = some (.list ys) := rd_own (δ := ⟨s, μ⟩) hj
  show (match rd ⟨s, μ⟩ (.sl j) with
    | some (.list xs) => match μ[i]? with
      | some o => guardB (isL o) (lenM o + xs.length ≤ sizeLine ∧ C (.val .none) (setM ⟨s, μ⟩ i (extM o xs)))
      | none => False
    | _ => False)
  rw [hr, hi]
  exact ⟨hl, h⟩
theorem rev_own {fo : DTE} {s : List (Option Ar)} {μ : List Mo} {i : Nat} {xs : List PyData} {C : Ar → DSt → Prop} (ho : ∀ C : Ar → DSt → Prop, C (.sl i) ⟨s, μ⟩ → fo ⟨s, μ⟩ C) (hi : μ[i]? = some (.fl xs)) (h : C (.val .none) ⟨s, μ.set i (.fl xs.reverse)⟩) : dRevS fo ⟨s, μ⟩ C := by
  refine ho _ ?_
  show (match μ[i]? with
    | some (.fl xs) => C (.val .none) (setM ⟨s, μ⟩ i (.fl xs.reverse))
    | _ => False)
  rw [hi]
  exact h
theorem fz_own {f : DTE} {δ : DSt} {n : Nat} {xs : List PyData} {C : Ar → DSt → Prop} (hf : ∀ C : Ar → DSt → Prop, C (.sl n) δ → f δ C) (hn : δ.m[n]? = some (.fl xs)) (h : C (.val (.list xs)) (frS δ n (.list xs))) : dFz f δ C := by
  refine hf _ ?_
  show (match cont δ n with
    | some xs => C (.val (.list xs)) (frS δ n (.list xs))
    | none => False)
  have e : cont δ n = some xs := by
    unfold cont
    rw [hn]
  rw [e]
  exact h
theorem ife_t {t : DTT} {f g : DTE} {δ : DSt} {C : Ar → DSt → Prop} (ht : ∀ C : Bool → DSt → Prop, C true δ → t δ C) (k : f δ C) : dIfE t f g δ C := ht _ ⟨fun _ => k, (nomatch ·)⟩
theorem ife_f {t : DTT} {f g : DTE} {δ : DSt} {C : Ar → DSt → Prop} (ht : ∀ C : Bool → DSt → Prop, C false δ → t δ C) (k : g δ C) : dIfE t f g δ C := ht _ ⟨(nomatch ·), fun _ => k⟩
theorem lst_at {f : DTE} {δ : DSt} {xs : List PyData} {C : Ar → DSt → Prop} (hf : ∀ C : Ar → DSt → Prop, C (.val (.list xs)) δ → f δ C) (h : C (.sl δ.m.length) ⟨δ.s, δ.m ++ [.fl xs]⟩) : dNw (dListN (dCons f dNil)) δ C := by
  refine hf _ ?_
  exact h
theorem way_len : ∀ p ∈ R17, p.2.2.length ≤ 7 := by decide +kernel
theorem wayL_len {z s : Str} {r : List Str} (h : wayL z s = some r) : r.length ≤ 7 := by
  unfold wayL at h
  cases q : R17.find? fun p => decide (p.1 = z) && decide (p.2.1 = s) with
  | none => rw [q] at h; cases h
  | some p => rw [q] at h; cases h; exact way_len p (List.mem_of_find?_eq_some q)
theorem rev_nil {L : List Str} : decide (L.reverse.map PyData.str = []) = decide (L = []) := by
  refine decide_eq_decide.mpr ⟨fun h => ?_, fun h => by rw [h]; rfl⟩
  have := List.map_eq_nil_iff.mp h
  exact List.reverse_eq_nil_iff.mp this
theorem l__law_step : ∀ as m C Ex, sp__law_step as m C Ex → b__law_step (endsD m.length C) (startD N__law_step as m) := by
  rintro as m C Ex ⟨L, s, rfl, hR, hL, hl, h⟩
  have hs := DD.sl_line
  unfold b__law_step
  refine seq_set ?_
  refine lst_at (xs := L.reverse.map PyData.str) (fun C h => h) ?_
  show dSeq _ _ _ ⟨[some (.sl 1), some (.sl m.length), some (.val (.str s)), none, none, none, none], m ++ [Mo.fl (L.reverse.map PyData.str)]⟩
  generalize hn : m.length = n
  have hO := own_new m (L.reverse.map PyData.str)
  generalize m ++ [Mo.fl (L.reverse.map PyData.str)] = μ at hO ⊢
  refine seq_cut (fun δ => stepL s L = none ∧ ∃ x3 x4 x5 x6 μ xs, δ = ⟨[some (.sl 1), some (.sl n), some (.val (.str s)), x3, x4, x5, x6], μ⟩ ∧ Own m μ xs) (fun N hN => ?_) ?_
  · refine ⟨by decide, by decide, ?_⟩
    refine forR_inv 0 900 (P := fun k δ => ∃ L' x3 x4 x5 x6 μ, δ = ⟨[some (.sl 1), some (.sl n), some (.val (.str s)), x3, x4, x5, x6], μ⟩ ∧ Own m μ (L'.reverse.map PyData.str) ∧ loopL s (900 - k) L' = stepL s L ∧ L'.length ≤ 100000 + 10 * k) ?_ ?_ ⟨L, none, none, none, none, μ, rfl, hO, hl, by omega⟩
    · rintro k δ hk ⟨L', x3, x4, x5, x6, μ, rfl, hO, hl, hL'⟩ N' hN'
      have ek : 900 - k = (899 - k) + 1 := by omega
      rw [ek] at hl
      show dSeq _ _ _ ⟨[some (.sl 1), some (.sl n), some (.val (.str s)), some (.val (.int (0 + (k : Nat)))), x4, x5, x6], μ⟩
      generalize some (Ar.val (.int (0 + (k : Nat)))) = y3
      have hOn := hO.own
      rw [hn] at hOn
      cases L' with
      | nil =>
        refine seqif_t (len0_at (n := n) rfl hOn (decide_eq_true rfl)) ?_
        have hl : none = stepL s L := hl
        show outM n C (.val .none) μ
        rw [← hn]
        refine out_val hR.cl hO ?_
        rw [← hl] at h
        exact h
      | cons z L' =>
        refine seqif_f (len0_at (n := n) rfl hOn (decide_eq_false (by simp))) ?_
        refine nx_of ?_
        dsimp only
        refine seq_set ?_
        have e1 : μ[n]? = some (.fl (L'.reverse.map PyData.str ++ [.str z])) := by
          rw [hOn]
          simp
        refine pop_at (i := n) (fun C h => h) e1 ?_
        have hO2 := hO.put (L'.reverse.map PyData.str)
        rw [hn] at hO2
        show dSeq _ _ _ ⟨[some (.sl 1), some (.sl n), some (.val (.str s)), y3, some (.val (.str z)), x5, x6], μ.set n (.fl (L'.reverse.map PyData.str))⟩
        generalize μ.set n (.fl (L'.reverse.map PyData.str)) = μ2 at hO2 ⊢
        have R2 := hR.rm.own hO2
        obtain ⟨kvs, t1, t2⟩ := R2.top
        have hOn2 := hO2.own
        rw [hn] at hOn2
        unfold loopL at hl
        by_cases nz : isNL z = true
        · rw [if_pos nz] at hl
          have t3 := t2 z
          rw [if_pos nz] at t3
          obtain ⟨ws, g1, g2, g3⟩ := R2.sub z nz
          refine seqif_f (din_at (z := z) (a := 0 + 1) (b := false) (fun C h => h) rfl t1 (by rw [t3]; rfl)) ?_
          refine nx_of ?_
          dsimp only
          refine seq_set ?_
          refine dget_at (z := z) (x := .sl (wix z)) (fun C h => h) rfl t1 t3 _ ?_
          show dIf _ _ _ _ ⟨[some (.sl 1), some (.sl n), some (.val (.str s)), y3, some (.val (.str z)), some (.sl (wix z)), x6], μ2⟩
          have g4 := g2 s
          cases hw : wayL z s with
          | some r =>
            rw [hw] at g4 hl
            have rl := wayL_len hw
            refine if_t (din_at (z := s) (b := true) (fun C h => h) rfl g1 (by rw [g4]; rfl)) ?_
            refine seq_set ?_
            refine lst_at (xs := r.map PyData.str) (dget_at (z := s) (x := wayA r) (fun C h => h) rfl g1 g4) ?_
            show dSeq _ _ _ ⟨[some (.sl 1), some (.sl n), some (.val (.str s)), y3, some (.val (.str z)), some (.sl (wix z)), some (.sl μ2.length)], μ2 ++ [Mo.fl (r.map PyData.str)]⟩
            have hlt := hO2.lt
            rw [hn] at hlt
            have hO3 := hO2.add [Mo.fl (r.map PyData.str)]
            have hj : (μ2 ++ [Mo.fl (r.map PyData.str)])[μ2.length]? = some (.fl (r.map PyData.str)) := by
              rw [List.getElem?_append_right (Nat.le_refl _), Nat.sub_self]; rfl
            have hjl : μ2.length < (μ2 ++ [Mo.fl (r.map PyData.str)]).length := by rw [List.length_append]; exact Nat.lt_succ_self _
            generalize μ2.length = j at hj hjl hlt ⊢
            generalize μ2 ++ [Mo.fl (r.map PyData.str)] = μ3 at hO3 hj hjl ⊢
            refine seq_drop ?_
            refine rev_own (i := j) (fun C h => h) hj ?_
            have hO4 := hO3.set (show m.length < j by omega) (.fl (r.map PyData.str).reverse)
            have hOn4 := hO4.own
            rw [hn] at hOn4
            refine drop_at ?_
            refine ext_own (i := n) (j := j) (fun C h => h) hOn4 (fun C h => h) (List.getElem?_set_self hjl) ?_ ?_
            · simp only [List.length_map, List.length_reverse, List.length_cons] at hL' ⊢; omega
            · have hO5 := hO4.put (L'.reverse.map PyData.str ++ (r.map PyData.str).reverse)
              rw [hn] at hO5
              refine hN' _ ⟨r ++ L', _, _, _, _, _, rfl, ?_, ?_, ?_⟩
              · have e : (r ++ L').reverse.map PyData.str = L'.reverse.map PyData.str ++ (r.map PyData.str).reverse := by simp
                rw [e]
                exact hO5
              · rw [show 900 - (k + 1) = 899 - k by omega]; exact hl
              · simp only [List.length_append, List.length_cons] at hL' ⊢; omega
          | none =>
            rw [hw] at g4 hl
            dsimp only at hl
            refine if_f (din_at (z := s) (b := false) (fun C h => h) rfl g1 (by rw [g4]; rfl)) ?_
            have g5 := g2 "-"
            by_cases ep : epsL z = true
            · rw [if_pos ep] at hl
              refine if_f (din_at (z := "-") (b := false) (fun C h => h) rfl g1 ?_) ?_
              · rw [g5]
                show (!((wayL z "-").map wayA).isSome) = false
                rw [Option.isSome_map, show (wayL z "-").isSome = true from ep]; rfl
              · exact hN' _ ⟨L', _, _, _, _, _, rfl, hO2, by rw [show 900 - (k + 1) = 899 - k by omega]; exact hl, by rw [List.length_cons] at hL'; omega⟩
            · rw [if_neg ep] at hl
              have ep2 : (wayL z "-").isSome = false := by
                have : ¬ (wayL z "-").isSome = true := ep
                simpa using this
              refine if_t (din_at (z := "-") (b := true) (fun C h => h) rfl g1 ?_) ?_
              · rw [g5]
                show (!((wayL z "-").map wayA).isSome) = true
                rw [Option.isSome_map, ep2]; rfl
              · show outM n C (.val .none) μ2
                rw [← hn]
                refine out_val hR.cl hO2 ?_
                rw [← hl] at h
                exact h
        · rw [if_neg nz] at hl
          have t3 := t2 z
          rw [if_neg nz] at t3
          refine seqif_t (din_at (z := z) (a := 0 + 1) (b := true) (fun C h => h) rfl t1 (by rw [t3]; rfl)) ?_
          by_cases q : z = s
          · rw [if_pos q] at hl
            refine fz_own (n := n) (fun C h => ?_) hOn2 ?_
            · exact ife_t (eq_at (z := z) (y := s) rfl rfl (decide_eq_true q)) h
            · rw [← hn]
              refine out_own hR.cl hO2 ?_
              rw [← hl] at h
              exact h
          · rw [if_neg q] at hl
            show dIfE _ _ _ _ _
            refine ife_f (eq_at (z := z) (y := s) rfl rfl (decide_eq_false q)) ?_
            show outM n C (.val .none) μ2
            rw [← hn]
            refine out_val hR.cl hO2 ?_
            rw [← hl] at h
            exact h
    · rintro δ ⟨L', x3, x4, x5, x6, μ, rfl, hO, hl, hL'⟩
      exact hN _ ⟨hl.symm, _, _, _, _, _, _, rfl, hO⟩
  · rintro δ ⟨hl, x3, x4, x5, x6, μ, xs, rfl, hO⟩
    show outM n C (.val .none) μ
    rw [← hn]
    refine out_val hR.cl hO ?_
    rw [hl] at h
    exact h
end K17

namespace K17
open PySem PySem.Spec PyProof.Rows L2 MM
/-! ### the law's stacks: what may stand behind what -/
def rk (z : Str) : Nat := if z ∈ (["<far>", "<last>"] : List Str) then 4 else if z ∈ (["<givens>", "<dot>", "<side>", "<call>"] : List Str) then 3 else if z ∈ (["<shown+>", "<thing+>", "<maker+>", "<of+>", "<given+>", "<told+>", "<arm+>", "<form+>"] : List Str) then 1 else 2
theorem rk_le (z : Str) : rk z ≤ 4 := by unfold rk; repeat (first | (split <;> try omega))
def adjB (a b : Str) : Bool := !(isNL a && isNL b && epsL b) || decide (rk b < rk a)
def Adj : List Str → Bool
  | a :: b :: L => adjB a b && Adj (b :: L)
  | _ => true
theorem Adj.tail {z : Str} {L : List Str} (h : Adj (z :: L) = true) : Adj L = true := by
  cases L with
  | nil => rfl
  | cons y L =>
    have h : (adjB z y && Adj (y :: L)) = true := h
    rw [Bool.and_eq_true] at h
    exact h.2
def eRun : List Str → Nat
  | [] => 0
  | z :: L => if (isNL z && epsL z) = true then eRun L + 1 else 0
theorem eRun_le : ∀ (L : List Str) (z : Str), Adj (z :: L) = true → eRun (z :: L) ≤ rk z + 1
  | [], z, _ => by unfold eRun; split <;> simp [eRun]
  | y :: L, z, h => by
    have ih := eRun_le L y (Adj.tail h)
    have h : (adjB z y && Adj (y :: L)) = true := h
    rw [Bool.and_eq_true] at h
    unfold eRun
    split
    · rename_i e
      rw [Bool.and_eq_true] at e
      by_cases e2 : (isNL y && epsL y) = true
      · have a := h.1
        unfold adjB at a
        rw [Bool.and_eq_true] at e2
        rw [e.1, e2.1, e2.2] at a
        have a : rk y < rk z := by simpa using a
        omega
      · have : eRun (y :: L) = 0 := by unfold eRun; rw [if_neg e2]
        omega
    · omega
theorem loop_hit {s : Str} : ∀ (g : Nat) {z : Str} {r L : List Str} {f : Nat}, isNL z = true → hitR s g z = some r → g + 1 ≤ f → loopL s f (z :: L) = some (r ++ L)
  | 0, _, _, _, _, _, h, _ => nomatch h
  | g + 1, z, r, L, f, hz, h, hf => by
    obtain ⟨f, rfl⟩ : ∃ k, f = k + 1 := ⟨f - 1, by omega⟩
    rw [hitR] at h
    rw [loopL, if_pos hz]
    cases hw : wayL z s with
    | none => rw [hw] at h; cases h
    | some row =>
      rw [hw] at h
      cases row with
      | nil => cases h
      | cons t r' =>
        dsimp only at h ⊢
        by_cases nt : isNL t = true
        · rw [if_pos nt] at h
          cases ht : hitR s g t with
          | none => rw [ht] at h; cases h
          | some r1 =>
            rw [ht] at h
            cases h
            have := loop_hit g (L := r' ++ L) nt ht (show g + 1 ≤ f by omega)
            rw [List.cons_append, this, List.append_assoc]
        · rw [if_neg nt] at h
          obtain ⟨f, rfl⟩ : ∃ k, f = k + 1 := ⟨f - 1, by omega⟩
          rw [List.cons_append, loopL, if_neg nt]
          by_cases q : t = s
          · rw [if_pos q] at h ⊢; cases h; rfl
          · rw [if_neg q] at h; cases h
theorem way_hit {s z : Str} (hs : s ≠ "-") (hz : isNL z = true) (h : hitR s 4 z = none) : wayL z s = none := by
  by_cases k : s ∈ KEYS
  · obtain ⟨h1, h2⟩ := keys_hit z (isNL_mem hz) s k
    rw [h] at h1
    rw [← h1] at h2
    cases hw : wayL z s with
    | none => rfl
    | some r => rw [hw] at h2; cases h2
  · exact (hit_none k hs hz).1
theorem loop_step {s : Str} (hs : s ≠ "-") : ∀ (L : List Str) (f : Nat), eRun L + 6 ≤ f → loopL s f L = stepL s L
  | [], f, hf => by
    obtain ⟨f, rfl⟩ : ∃ k, f = k + 1 := ⟨f - 1, by omega⟩
    rfl
  | z :: L, f, hf => by
    rw [stepL]
    by_cases nz : isNL z = true
    · rw [if_pos nz]
      cases hh : hitR s 4 z with
      | some r => exact loop_hit 4 nz hh (by omega)
      | none =>
        have hw := way_hit hs nz hh
        obtain ⟨f, rfl⟩ : ∃ k, f = k + 1 := ⟨f - 1, by omega⟩
        rw [loopL, if_pos nz, hw]
        dsimp only
        by_cases e : epsL z = true
        · rw [if_pos e, if_pos (by rw [e]; rfl)]
          refine loop_step hs L f ?_
          unfold eRun at hf
          rw [if_pos (by rw [nz, e]; rfl)] at hf
          omega
        · have e2 : epsL z = false := by simpa using e
          rw [if_neg e, if_neg (by rw [e2]; exact Bool.false_ne_true)]
    · obtain ⟨f, rfl⟩ : ∃ k, f = k + 1 := ⟨f - 1, by omega⟩
      rw [if_neg nz, loopL, if_neg nz]
theorem loop900 {s : Str} (hs : s ≠ "-") {L : List Str} (h : Adj L = true) : loopL s 900 L = stepL s L := by
  refine loop_step hs L 900 ?_
  cases L with
  | nil => show 0 + 6 ≤ 900; omega
  | cons z L =>
    have := eRun_le L z h
    have := rk_le z
    omega
/-! ### the class of stacks -/
def MIDN : List Str := NTL.filter fun z => decide (z ≠ "<item>")
def MIDK : List Str := KEYS.filter fun z => decide (z ≠ ";")
def MID : List Str := MIDN ++ MIDK
def noUp (L : List Str) : Bool := L.all fun z => decide (z ∉ UPS)
/-- within an item: its sign ; lies at the bottom -/
structure Sm (L : List Str) : Prop where
  bot : ∃ L', L = L' ++ [(";" : Str)] ∧ ∀ z ∈ L', z ∈ MID
  adj : Adj L = true
  ups : noUp L.tail = true
def St (L : List Str) : Prop := L = [] ∨ L = [("<item>" : Str)] ∨ Sm L
theorem midn_nl : ∀ z ∈ MIDN, isNL z = true ∧ z ≠ ";" := by decide +kernel
theorem midk : ∀ z ∈ MIDK, isNL z = false ∧ z ∈ KEYS ∧ z ≠ ";" := by decide +kernel
theorem mid_sy : ∀ z ∈ MID, isNL z = true ∨ z ∈ KEYS := by decide +kernel
theorem St.sy {L} (h : St L) : LSy L := by
  rcases h with rfl | rfl | h
  · exact fun z hz => nomatch hz
  · exact item_sy
  · obtain ⟨L', rfl, h1⟩ := h.bot
    intro z hz
    rcases List.mem_append.mp hz with hz | hz
    · exact mid_sy z (h1 z hz)
    · rw [List.mem_singleton.mp hz]; decide +kernel
theorem St.adj {L} (h : St L) : Adj L = true := by
  rcases h with rfl | rfl | h
  · rfl
  · rfl
  · exact h.adj
def lastOk (z : Str) : List Str → Bool
  | [] => true
  | [w] => !(isNL w) || decide (rk z ≤ rk w)
  | _ :: L => lastOk z L
def hitOk (z s : Str) : Bool := match hitR s 4 z with
  | some r => r.all (fun y => decide (y ∈ MID)) && Adj r && lastOk z r && noUp r.tail && decide (r.length ≤ 7)
  | none => true
theorem hit_ok : ∀ z ∈ MIDN, ∀ s ∈ KEYS, hitOk z s = true := by decide +kernel
theorem adj_app {z : Str} (hz : isNL z = true) {L : List Str} (hL : Adj (z :: L) = true) : ∀ r : List Str, Adj r = true → lastOk z r = true → Adj (r ++ L) = true
  | [], _, _ => Adj.tail hL
  | [w], _, h => by
    cases L with
    | nil => rfl
    | cons y L =>
      have hL2 : (adjB z y && Adj (y :: L)) = true := hL
      rw [Bool.and_eq_true] at hL2
      show (adjB w y && Adj (y :: L)) = true
      rw [Bool.and_eq_true]
      refine ⟨?_, hL2.2⟩
      have a := hL2.1
      have h : (!(isNL w) || decide (rk z ≤ rk w)) = true := h
      unfold adjB at a ⊢
      rw [hz] at a
      cases hw : isNL w with
      | false => rfl
      | true =>
        rw [hw] at h
        have h : rk z ≤ rk w := by simpa using h
        cases hy : isNL y with
        | false => rfl
        | true =>
          cases he : epsL y with
          | false => rfl
          | true =>
            rw [hy, he] at a
            have a : rk y < rk z := by simpa using a
            have : rk y < rk w := by omega
            simp [this]
  | w :: v :: r, ha, h => by
    have ha : (adjB w v && Adj (v :: r)) = true := ha
    rw [Bool.and_eq_true] at ha
    show (adjB w v && Adj (v :: r ++ L)) = true
    rw [Bool.and_eq_true]
    exact ⟨ha.1, adj_app hz hL (v :: r) ha.2 h⟩
theorem sm_tail {z : Str} {L : List Str} (h : Sm (z :: L)) (hz : z ≠ ";") : Sm L := by
  obtain ⟨L', e, h1⟩ := h.bot
  cases L' with
  | nil => injection e with e _; exact absurd e hz
  | cons y L' =>
    injection e with e1 e2
    refine ⟨⟨L', e2, fun x hx => h1 x (List.mem_cons_of_mem _ hx)⟩, Adj.tail h.adj, ?_⟩
    have u : noUp L = true := h.ups
    cases L with
    | nil => rfl
    | cons x L => exact List.all_eq_true.mpr fun y hy => List.all_eq_true.mp u y (List.mem_cons_of_mem _ hy)
theorem sm_head {z : Str} {L : List Str} (h : Sm (z :: L)) : z = ";" ∧ L = [] ∨ z ∈ MID ∧ Sm L := by
  have h0 := h
  obtain ⟨L', e, h1⟩ := h.bot
  cases L' with
  | nil => injection e with e1 e2; exact .inl ⟨e1, e2⟩
  | cons y L' =>
    injection e with e1 e2
    subst e1
    have hm := h1 z List.mem_cons_self
    refine .inr ⟨hm, sm_tail h0 ?_⟩
    rcases List.mem_append.mp hm with q | q
    · exact (midn_nl z q).2
    · exact (midk z q).2.2
theorem up_keys : ∀ z ∈ UPS, z ∈ KEYS := by decide +kernel
/-- a step within an item -/
theorem sm_step {s : Str} (hs : s ∈ KEYS) : ∀ {L L' : List Str}, Sm L → stepL s L = some L' → (s = ";" ∧ L' = []) ∨ (s ≠ ";" ∧ Sm L') 
  | [], _, h, _ => by obtain ⟨L', e, _⟩ := h.bot; cases L' <;> cases e
  | z :: L, L', h, e => by
    rw [stepL] at e
    rcases sm_head h with ⟨rfl, rfl⟩ | ⟨hm, hL⟩
    · rw [if_neg (by decide +kernel)] at e
      by_cases q : (";" : Str) = s
      · rw [if_pos q] at e; cases e; exact .inl ⟨q.symm, rfl⟩
      · rw [if_neg q] at e; cases e
    · have u : noUp L = true := h.ups
      rcases List.mem_append.mp hm with q | q
      · obtain ⟨n1, n2⟩ := midn_nl z q
        rw [if_pos n1] at e
        have ho := hit_ok z q s hs
        unfold hitOk at ho
        cases hh : hitR s 4 z with
        | none =>
          rw [hh] at e
          dsimp only at e
          split at e
          · exact sm_step hs hL e
          · cases e
        | some r =>
          rw [hh] at e ho
          cases e
          simp only [Bool.and_eq_true] at ho
          obtain ⟨⟨⟨⟨o1, o2⟩, o3⟩, o4⟩, o5⟩ := ho
          have fact : ∀ z ∈ MIDN, (hitR ";" 4 z) = none := by decide +kernel
          have sne : s ≠ ";" := fun e => by subst e; rw [fact z q] at hh; cases hh
          obtain ⟨B, eB, hB⟩ := hL.bot
          refine .inr ⟨sne, ⟨⟨r ++ B, by rw [eB, List.append_assoc], fun y hy => (List.mem_append.mp hy).elim (fun hy => of_decide_eq_true (List.all_eq_true.mp o1 y hy)) (hB y)⟩, adj_app n1 h.adj r o2 o3, ?_⟩⟩
          cases r with
          | nil => exact hL.ups
          | cons y r => exact List.all_eq_true.mpr fun x hx => (List.mem_append.mp hx).elim (List.all_eq_true.mp o4 x) (List.all_eq_true.mp u x)
      · obtain ⟨n1, n2, n3⟩ := midk z q
        rw [if_neg (by rw [n1]; exact Bool.false_ne_true)] at e
        by_cases w : z = s
        · rw [if_pos w] at e; cases e
          exact .inr ⟨w ▸ n3, hL⟩
        · rw [if_neg w] at e; cases e
theorem item_step : ∀ s ∈ KEYS, (match stepL s [("<item>" : Str)] with
    | some L => decide (L ≠ []) && (L.dropLast.all fun y => decide (y ∈ MID)) && decide (L = L.dropLast ++ [(";" : Str)]) && Adj L && noUp L && decide (s ∈ FIVE)
    | none => decide (s ∉ FIVE)) = true := by decide +kernel
theorem st_step {s : Str} (hs : s ∈ KEYS) {L L' : List Str} (h : St L) (e : stepL s L = some L') : (s = ";" ∧ L' = []) ∨ (s ≠ ";" ∧ Sm L') := by
  rcases h with rfl | rfl | h
  · cases e
  · have f := item_step s hs
    rw [e] at f
    simp only [Bool.and_eq_true] at f
    obtain ⟨⟨⟨⟨⟨f0, f1⟩, f2⟩, f3⟩, f4⟩, f5⟩ := f
    have f2 := of_decide_eq_true f2
    refine .inr ⟨fun q => ?_, ⟨⟨L'.dropLast, f2, fun z hz => of_decide_eq_true (List.all_eq_true.mp f1 z hz)⟩, f3, ?_⟩⟩
    · have := of_decide_eq_true f5
      rw [q] at this
      exact absurd this (by decide +kernel)
    · exact List.all_eq_true.mpr fun x hx => List.all_eq_true.mp f4 x (List.mem_of_mem_tail hx)
  · exact sm_step hs h e
theorem St.step {s : Str} (hs : s ∈ KEYS) {L L' : List Str} (h : St L) (e : stepL s L = some L') : St L' := by
  rcases st_step hs h e with ⟨_, rfl⟩ | ⟨_, h⟩
  · exact .inl rfl
  · exact .inr (.inr h)
theorem hit_len : ∀ z ∈ NTL, ∀ s ∈ KEYS, (match hitR s 4 z with | some r => decide (r.length ≤ 7) | none => true) = true := by decide +kernel
theorem step_len {s : Str} (hs : s ∈ KEYS) : ∀ {L L' : List Str}, stepL s L = some L' → L'.length ≤ L.length + 7
  | [], _, e => nomatch e
  | z :: L, L', e => by
    rw [stepL] at e
    rw [List.length_cons]
    by_cases n1 : isNL z = true
    · rw [if_pos n1] at e
      have ho := hit_len z (isNL_mem n1) s hs
      cases hh : hitR s 4 z with
      | none =>
        rw [hh] at e
        dsimp only at e
        split at e
        · have := step_len hs e; omega
        · cases e
      | some r =>
        rw [hh] at e ho
        cases e
        have := of_decide_eq_true ho
        rw [List.length_append]; omega
    · rw [if_neg n1] at e
      by_cases w : z = s
      · rw [if_pos w] at e; cases e; omega
      · rw [if_neg w] at e; cases e
end K17

namespace K17
open PySem PySem.Spec PyProof.Rows L2 MM
local macro_rules | `(tactic| walk_at "w") => `(tactic| conv => whnf)
/-! ### what could stand -/
def sp__law_could : DSp := fun as m C _ => ∃ L : List Str, as = [.sl 1, .val (stkD L)] ∧ RC m ∧ L.length ≤ 100000 ∧ St L ∧ C (.val (.tuple ((srt (firstL L)).map PyData.str))) m
theorem srt_step (L : List Str) : srt (firstL L) = SK.filter fun s => (stepL s L).isSome := by
  unfold srt
  refine List.filter_congr fun x hx => ?_
  rw [step_first (keys_sk x hx)]
theorem sk_dash : ∀ s ∈ SK, s ≠ "-" := by decide +kernel
theorem sA_none (r : Option (List Str)) : isNone (stepA r) = !r.isSome := by cases r <;> rfl
theorem lc_list {fi : DTI} {g : DTG} {tt : DTT} {te : DTE} {vs : List Nat} {xs : List PyData} {δ : DSt} {C : List PyData → DSt → Prop} (hi : ∀ C : List Ar → Option (Nat × Mo) → DSt → Prop, C (xs.map Ar.val) none δ → fi δ C) (h : dLcL g tt te vs none (xs.map Ar.val) [] δ C) : dLc fi g tt te vs δ C := hi _ h
theorem callG_at {d : DSp} {g : DTA} {as : List Ar} {δ : DSt} {C : Ar → DSt → Prop} (hg : ∀ C : List Ar → DSt → Prop, C as δ → g δ C) (h : d as δ.m (fun r m' => C r ⟨δ.s, m'⟩) (fun _ _ => False)) : dCallG d g δ C := hg _ h
theorem cons_at {f : DTE} {g : DTA} {a : Ar} {as : List Ar} {δ : DSt} (hf : ∀ C : Ar → DSt → Prop, C a δ → f δ C) (hg : ∀ C : List Ar → DSt → Prop, C as δ → g δ C) : ∀ C : List Ar → DSt → Prop, C (a :: as) δ → dCons f g δ C := fun C h => hf _ (hg _ h)
theorem nil_at {δ : DSt} : ∀ C : List Ar → DSt → Prop, C [] δ → dNil δ C := fun C h => h
theorem ix_at {i j : Nat} {xs : List PyData} {k : Int} {v : PyData} {δ : DSt} (hi : δ.s[i]? = some (some (.val (.list xs)))) (hj : δ.s[j]? = some (some (.val (.int k)))) (hv : atI xs k = some v) : ∀ C : Ar → DSt → Prop, C (.val v) δ → dIx (dVar i) (dVar j) δ C := by
  intro C h
  unfold dIx dVar
  rw [hi]
  dsimp only
  rw [hj]
  show (match atI xs k with | some d => C (.val d) δ | none => False)
  rw [hv]
  exact h
theorem keyc_at {f : DTE} {p : Tk} {δ : DSt} (hp : TokOk p) (hf : ∀ C : Ar → DSt → Prop, C (.val (tokD p)) δ → f δ C) : ∀ C : Ar → DSt → Prop, C (.val (.str (keyOf p))) δ → dCall sp__law_key (dCons f dNil) δ C := by
  intro C h
  refine hf _ ?_
  exact ⟨p, rfl, hp, h⟩
theorem l__law_could : ∀ as m C Ex, sp__law_could as m C Ex → b__law_could sp__law_keys sp__law_step (endsD m.length C) (startD N__law_could as m) := by
  rintro as m C Ex ⟨L, rfl, hR, hL, hS, h⟩
  have hs := DD.sl_line
  unfold b__law_could dRet dCB dCons dNil dFr
  dsimp only
  refine lc_list (xs := SK.map PyData.str) (fun C h => ⟨rfl, h⟩) ?_
  refine lcL_inv (P := fun its acc δ => ∃ ks : List Str, its = (ks.map PyData.str).map Ar.val ∧ (∀ x ∈ ks, x ∈ SK) ∧ acc.length + ks.length ≤ 29 ∧ acc ++ (ks.filter fun s => (stepL s L).isSome).map PyData.str = (SK.filter fun s => (stepL s L).isSome).map PyData.str ∧ δ = ⟨[some (.sl 1), some (.val (stkD L)), none], m⟩) ?_ ?_ _ _ _ ⟨SK, rfl, fun x hx => hx, by decide, rfl, rfl⟩
  · rintro d dd acc δ ⟨ks, e1, hk, hl, e2, rfl⟩ N hN
    cases ks with
    | nil => cases e1
    | cons z ks =>
      injection e1 with e1 e1'
      subst e1 e1'
      have hz := hk z List.mem_cons_self
      refine ⟨L, z, rfl, hR, hL, loop900 (sk_dash z hz) hS.adj, ?_⟩
      rw [List.length_cons] at hl
      rw [List.filter_cons] at e2
      show (((!isNone (stepA (stepL z L))) = true → acc.length < sizeLine ∧ N (acc ++ [.str z]) ⟨[some (.sl 1), some (.val (stkD L)), none], m⟩) ∧ ((!isNone (stepA (stepL z L))) = false → N acc ⟨[some (.sl 1), some (.val (stkD L)), none], m⟩))
      rw [sA_none, Bool.not_not]
      refine ⟨fun e => ⟨by omega, hN _ _ ⟨ks, rfl, fun x hx => hk x (List.mem_cons_of_mem _ hx), by rw [List.length_append]; show acc.length + 1 + ks.length ≤ 29; omega, ?_, rfl⟩⟩, fun e => hN _ _ ⟨ks, rfl, fun x hx => hk x (List.mem_cons_of_mem _ hx), by omega, ?_, rfl⟩⟩
      · rw [if_pos e] at e2
        rw [List.append_assoc]
        exact e2
      · rw [if_neg (by rw [e]; exact Bool.false_ne_true)] at e2
        exact e2
  · rintro acc δ ⟨ks, e1, hk, hl, e2, rfl⟩
    cases ks with
    | cons z ks => cases e1
    | nil =>
      have e2 : acc ++ [] = _ := e2
      rw [List.append_nil] at e2
      subst e2
      rw [srt_step] at h
      exact .inl h
/-! ### the first wrong one -/
def FW (row : List Tk) : Nat × List Str := lawRun (row.map keyOf) 0 [("<item>" : Str)]
def KeyOk (s : Str) : Prop := s ∈ KEYS ∨ s = "wrong"
theorem tok_key {p : Tk} (h : TokOk p) : KeyOk (keyOf p) := by
  rcases tok_cases h with ⟨_, _, e⟩ | ⟨e1, e2, _⟩
  · exact .inr e
  · exact .inl (e2 ▸ e1)
theorem key_step {s : Str} (hs : KeyOk s) {L L' : List Str} (h : St L) (e : stepL s L = some L') : s ∈ KEYS ∧ St L' ∧ L'.length ≤ L.length + 7 := by
  rcases hs with hs | rfl
  · exact ⟨hs, h.step hs e, step_len hs e⟩
  · rw [step_out (by decide +kernel) (by decide +kernel) h.sy] at e; cases e
theorem key_dash {s : Str} (h : KeyOk s) : s ≠ "-" := by
  rcases h with h | rfl
  · exact sk_dash s (sk_keys s h)
  · decide +kernel
theorem run_st : ∀ (ks : List Str) (k : Nat) (L : List Str), (∀ s ∈ ks, KeyOk s) → St L → St (lawRun ks k L).2 ∧ (lawRun ks k L).2.length ≤ L.length + 7 * ks.length ∧ (lawRun ks k L).1 ≤ k + ks.length
  | [], k, L, _, h => ⟨h, Nat.le_refl _, Nat.le_refl _⟩
  | s :: ks, k, L, hk, h => by
    rw [lawRun]
    cases e : stepL s L with
    | none => exact ⟨h, Nat.le_add_right _ _, Nat.le_add_right _ _⟩
    | some L' =>
      obtain ⟨_, h2, h3⟩ := key_step (hk s List.mem_cons_self) h e
      obtain ⟨g1, g2, g3⟩ := run_st ks (k + 1) L' (fun x hx => hk x (List.mem_cons_of_mem _ hx)) h2
      rw [List.length_cons]
      show St (lawRun ks (k + 1) L').2 ∧ (lawRun ks (k + 1) L').2.length ≤ L.length + 7 * (ks.length + 1) ∧ (lawRun ks (k + 1) L').1 ≤ k + (ks.length + 1)
      exact ⟨g1, by omega, by omega⟩
theorem st_item : St [("<item>" : Str)] := .inr (.inl rfl)
theorem fw_st {row : List Tk} (h : ∀ p ∈ row, TokOk p) : St (FW row).2 ∧ (FW row).2.length ≤ 1 + 7 * row.length ∧ (FW row).1 ≤ row.length := by
  have := run_st (row.map keyOf) 0 [("<item>" : Str)] (fun s hs => by obtain ⟨p, hp, rfl⟩ := List.mem_map.mp hs; exact tok_key (h p hp)) st_item
  rw [List.length_map, Nat.zero_add] at this
  exact this
def sp__law_first_wrong : DSp := fun as m C _ => ∃ row : List Tk, as = [.sl 1, .val (.list (row.map tokD))] ∧ RC m ∧ (∀ p ∈ row, TokOk p) ∧ row.length ≤ 10000 ∧ C (.val (.list [.int (FW row).1, stkD (FW row).2])) m
theorem l__law_first_wrong : ∀ as m C Ex, sp__law_first_wrong as m C Ex → b__law_first_wrong sp__law_step sp__law_key (endsD m.length C) (startD N__law_first_wrong as m) := by
  rintro as m C Ex ⟨row, rfl, hR, ht, hl, h⟩
  have hs := DD.sl_line
  unfold b__law_first_wrong
  refine seq_set ?_
  refine ⟨by rw [hs]; decide, ?_⟩
  show dSeq _ _ _ ⟨[some (.sl 1), some (.val (.list (row.map tokD))), some (.val (stkD [("<item>" : Str)])), none, none], m⟩
  refine seq_cut (fun δ => ∃ L x3 x4, δ = ⟨[some (.sl 1), some (.val (.list (row.map tokD))), some (.val (stkD L)), x3, x4], m⟩ ∧ FW row = (row.length, L)) (fun N hN => ?_) ?_
  · have ll : (row.map tokD).length = row.length := List.length_map ..
    refine ⟨by omega, by omega, ?_⟩
    show dForL _ _ none (rangeD 0 (((row.map tokD).length : Int).toNat)) _ _
    rw [Int.toNat_natCast, ll]
    refine forR_inv 0 row.length (P := fun k δ => ∃ L x3 x4, δ = ⟨[some (.sl 1), some (.val (.list (row.map tokD))), some (.val (stkD L)), x3, x4], m⟩ ∧ lawRun ((row.map keyOf).drop k) k L = FW row ∧ St L ∧ L.length ≤ 1 + 7 * k) ?_ ?_ ⟨_, none, none, rfl, rfl, st_item, Nat.le_refl _⟩
    · rintro k δ hk ⟨L, x3, x4, rfl, e, hS, hL⟩ N' hN'
      have ed : (row.map keyOf).drop k = keyOf row[k] :: (row.map keyOf).drop (k + 1) := by
        rw [List.drop_eq_getElem_cons (by rw [List.length_map]; exact hk), List.getElem_map]
      rw [ed, lawRun] at e
      have tk := ht _ (List.getElem_mem hk)
      have ix : atI (row.map tokD) (0 + (k : Nat) : Int) = some (tokD row[k]) := by
        rw [Int.zero_add]
        exact atI_nat (by rw [List.getElem?_map, List.getElem?_eq_getElem hk]; rfl)
      refine seq_set ?_
      refine callG_at (as := [.sl 1, .val (stkD L), .val (.str (keyOf row[k]))]) (cons_at (svar_at rfl) (cons_at (svar_at rfl) (cons_at (keyc_at tk (ix_at rfl rfl ix)) nil_at))) ?_
      refine ⟨L, keyOf row[k], rfl, hR, by omega, loop900 (key_dash (tok_key tk)) hS.adj, ?_⟩
      show dSeq _ _ _ ⟨[some (.sl 1), some (.val (.list (row.map tokD))), some (.val (stkD L)), some (.val (.int (0 + (k : Nat)))), some (.val (stepA (stepL (keyOf row[k]) L)))], m⟩
      cases es : stepL (keyOf row[k]) L with
      | none =>
        rw [es] at e
        refine seqif_t (δ' := ⟨[some (.sl 1), some (.val (.list (row.map tokD))), some (.val (stkD L)), some (.val (.int (0 + (k : Nat)))), some (.val .none)], m⟩) (fun C h => h) ?_
        refine ⟨by show 2 ≤ sizeLine; omega, .inl ?_⟩
        rw [← e] at h
        show C (.val (.list [.int (0 + (k : Nat)), stkD L])) m
        rw [Int.zero_add]
        exact h
      | some L' =>
        rw [es] at e
        obtain ⟨_, s2, s3⟩ := key_step (tok_key tk) hS es
        refine seqif_f (δ' := ⟨[some (.sl 1), some (.val (.list (row.map tokD))), some (.val (stkD L)), some (.val (.int (0 + (k : Nat)))), some (.val (stkD L'))], m⟩) (fun C h => h) ?_
        refine nx_of ?_
        dsimp only
        exact hN' _ ⟨L', _, _, rfl, e, s2, by omega⟩
    · rintro δ ⟨L, x3, x4, rfl, e, hS, hL⟩
      rw [List.drop_eq_nil_of_le (by rw [List.length_map]; exact Nat.le_refl _)] at e
      exact hN _ ⟨L, x3, x4, rfl, e.symm⟩
  · rintro δ ⟨L, x3, x4, rfl, e⟩
    rw [e] at h
    refine ⟨by show 2 ≤ sizeLine; omega, .inl ?_⟩
    have ll : ((row.map tokD).length : Int) = (row.length : Int) := by rw [List.length_map]
    show C (.val (.list [.int ((row.map tokD).length : Nat), stkD L])) m
    rw [ll]
    exact h
end K17

namespace K17
open PySem PySem.Spec PyProof.Rows L2 MM
local macro_rules | `(tactic| walk_at "w") => `(tactic| conv => whnf)
def sp__law_right : DSp := fun as m C _ => ∃ row : List Tk, as = [.sl 1, .val (.list (row.map tokD))] ∧ RC m ∧ (∀ p ∈ row, TokOk p) ∧ row ≠ [] ∧ row.length ≤ 3900 ∧ ups row ≤ 60 ∧ C (.val (.bool true)) m
theorem sk_ok : ∀ x ∈ SK, (PyData.str x).canLay0 = true := by decide +kernel
theorem sk_lay : ∀ {l : List Str}, (∀ x ∈ l, x ∈ SK) → (PyData.tuple (l.map PyData.str)).canLay0 = true ∧ PyData.depthAll (l.map PyData.str) = 0
  | [], _ => ⟨rfl, rfl⟩
  | x :: l, h => by
    obtain ⟨h1, h2⟩ := sk_lay (l := l) fun y hy => h y (List.mem_cons_of_mem _ hy)
    refine ⟨?_, ?_⟩
    · show ((PyData.str x).canLay0 && (PyData.tuple (l.map PyData.str)).canLay0) = true
      rw [sk_ok x (h x List.mem_cons_self), h1]; rfl
    · show max (PyData.depth (.str x)) (PyData.depthAll (l.map PyData.str)) = 0
      rw [h2]; rfl
theorem sk_shaped {l : List Str} (h : ∀ x ∈ l, x ∈ SK) : SeqAt.shaped (.tuple (l.map PyData.str)) = true := by
  obtain ⟨h1, h2⟩ := sk_lay h
  unfold SeqAt.shaped
  rw [h1, Bool.true_and]
  refine decide_eq_true ?_
  show PyData.depthAll (l.map PyData.str) + 1 ≤ 64
  rw [h2]
  decide
theorem sk_eqv {l : List Str} (h : ∀ x ∈ l, x ∈ SK) : PyData.eqv (.tuple (l.map PyData.str)) (.tuple (l.map PyData.str)) = true := SeqAt.eqv_refl _ (sk_lay h).1
theorem ret_val {δ : DSt} {C : Ar → DSt → Prop} {x : PyData} (h : C (.val x) δ) : retL [] δ C (.val x) [] := h
theorem l__law_right : ∀ as m C Ex, sp__law_right as m C Ex → b__law_right sp__law_first_wrong sp_read_item sp__law_could (endsD m.length C) (startD N__law_right as m) := by
  rintro as m C Ex ⟨row, rfl, hR, ht, hne, hl, hu, h⟩
  have hs := DD.sl_line
  cases row with
  | nil => exact absurd rfl hne
  | cons p ps =>
    have hl' : ps.length + 1 ≤ 3900 := hl
    obtain ⟨t, hRun, hA⟩ := read_all ht (by omega) hu
    obtain ⟨f1, f2, f3⟩ := fw_st ht
    have hA : Ans p.2 (ps.length + 1) (FW (p :: ps)) t := hA
    unfold b__law_right
    refine seq_set ?_
    refine callG_at (as := [.sl 1, .val (.list ((p :: ps).map tokD))]) (cons_at (svar_at rfl) (cons_at (svar_at rfl) nil_at)) ?_
    refine ⟨p :: ps, rfl, hR, ht, by omega, ?_⟩
    generalize hw : (FW (p :: ps)).1 = w at hA f3 ⊢
    generalize hL : (FW (p :: ps)).2 = L at hA f1 f2 ⊢
    refine seq_set ?_
    refine ⟨p :: ps, t, rfl, rfl, by omega, hRun, ?_⟩
    refine ret_val ?_
    show dSeq _ _ _ ⟨[some (.sl 1), some (.val (.list ((p :: ps).map tokD))), some (.val (.list [.int w, stkD L])), some (.val t)], m⟩
    have ll : ((p :: ps).map tokD).length = ps.length + 1 := by rw [List.length_map]; rfl
    rcases hA with ⟨a1, a2, rest, rfl, hr⟩ | ⟨a1, rfl⟩
    · rw [hw] at a1
      rw [hL] at a2
      subst a1 a2
      walk_at "w"
      refine ⟨fun e => (by cases e), fun _ => ?_⟩
      walk_at "w"
      refine ⟨fun e => absurd (of_decide_eq_true e) (by rw [List.length_cons]; omega), fun _ => ?_⟩
      walk_at "w"
      refine ⟨fun _ => ?_, fun e => absurd (by rw [ll]) (of_decide_eq_false e)⟩
      walk_at "w"
      refine ⟨fun _ => ?_, fun e => (by cases e)⟩
      walk_at "w"
      have a0 : atI (PyData.str p.2 :: rest) 0 = some (.str p.2) := atI_nat (j := 0) rfl
      have a3 : atI (List.map tokD (p :: ps)) 0 = some (tokD p) := atI_nat (j := 0) rfl
      rw [a0]
      walk_at "w"
      refine ⟨fun _ => ?_, fun e => (by cases e)⟩
      walk_at "w"
      rw [a0]
      walk_at "w"
      rw [a3]
      walk_at "w"
      refine .inl ?_
      show C (.val (.bool (decide (p.2 = p.2)))) m
      rw [decide_eq_true rfl]
      exact h
    · rw [hw, hL] at a1 ⊢
      unfold wrongD
      walk_at "w"
      refine ⟨fun e => (by cases e), fun _ => ?_⟩
      walk_at "w"
      refine ⟨fun e => (by cases e), fun _ => ?_⟩
      walk_at "w"
      have e2 : decide ((((L.reverse.map PyData.str).length : Nat) : Int) = 0) = decide (L = []) := by
        refine decide_eq_decide.mpr ⟨fun q => ?_, fun q => by rw [q]; rfl⟩
        rw [List.length_map, List.length_reverse] at q
        exact List.eq_nil_of_length_eq_zero (by omega)
      have fin : dB (dCmp (cEq false) (dIx (dVar 3) (dC (PyData.int 2))) (dCallG sp__law_could (dCons (dVar 0) (dCons (dIx (dVar 2) (dC (PyData.int 1))) dNil)))) ⟨[some (.sl 1), some (.val (.list ((p :: ps).map tokD))), some (.val (.list [.int w, stkD L])), some (.val (.tuple [.str "wrong", .int w, .tuple ((srt (firstL L)).map PyData.str)]))], m⟩ (fun a δ1 => (endsD m.length C).rt a δ1) := by
        refine ⟨L, rfl, hR, by rw [List.length_cons] at f2; omega, f1, ?_⟩
        refine ⟨sk_shaped srt_mem, sk_shaped srt_mem, .inl ?_⟩
        show C (.val (.bool (PyData.eqv (.tuple ((srt (firstL L)).map PyData.str)) (.tuple ((srt (firstL L)).map PyData.str))))) m
        rw [sk_eqv srt_mem]
        exact h
      by_cases e : w = ps.length + 1
      · refine ⟨fun _ => ?_, fun e' => absurd (show (w : Int) = ((List.map tokD (p :: ps)).length : Nat) by rw [ll, e]) (of_decide_eq_false e')⟩
        walk_at "w"
        refine ⟨fun e' => absurd (of_decide_eq_true (e2.symm.trans e')) (fun q => a1 ⟨e, q⟩), fun _ => ?_⟩
        walk_at "w"
        iterate 12 try first
          | (refine ⟨fun e => (by cases e), fun _ => ?_⟩; walk_at "w")
        refine ⟨fun _ => ?_, fun e => absurd (decide_eq_true rfl) (by rw [show decide ((w : Int) = (w : Int)) = false from e]; exact Bool.false_ne_true)⟩
        walk_at "w"
        refine ⟨fun _ => ?_, fun e => (by cases e)⟩
        exact fin
      · refine ⟨fun e' => absurd (of_decide_eq_true e') (fun q => e (by rw [ll] at q; omega)), fun _ => ?_⟩
        walk_at "w"
        iterate 12 try first
          | (refine ⟨fun e => (by cases e), fun _ => ?_⟩; walk_at "w")
        refine ⟨fun _ => ?_, fun e => absurd (decide_eq_true rfl) (by rw [show decide ((w : Int) = (w : Int)) = false from e]; exact Bool.false_ne_true)⟩
        walk_at "w"
        refine ⟨fun _ => ?_, fun e => (by cases e)⟩
        exact fin
end K17

namespace K17
open PySem PySem.Spec PyProof.Rows L2 MM
local macro_rules | `(tactic| walk_at "w") => `(tactic| conv => whnf)
/-! ### calls with the draws alone -/
theorem put0 (o o' : Mo) (μ : List Mo) (h : μ[0]? = some o) : putAll μ [0] [o'] = μ.set 0 o' := rfl
theorem loc0 {μ : List Mo} {ds : List PyData} (h : μ[0]? = some (.fl ds)) : locM μ [0] = some [.fl ds] := by
  show (match μ[0]?, locM μ [] with
    | some (.fl xs), some os => some (Mo.fl xs :: os)
    | _, _ => none) = _
  rw [h]
  rfl
theorem next_at {i : Nat} {fk : DTE} {δ : DSt} {ds : List PyData} {k : Int} {C : Ar → DSt → Prop} (hi : δ.s[i]? = some (some (.sl 0))) (h0 : δ.m[0]? = some (.fl ds)) (hd : DrawOk ds) (hk : ∀ C : Ar → DSt → Prop, C (.val (.int k)) δ → fk δ C) (k0 : 0 < k) (k1 : k < 1073741824)
    (h : ∀ (r : Int) ds', 0 ≤ r → r < k → DrawOk ds' → C (.val (.int r)) ⟨δ.s, δ.m.set 0 (.fl ds')⟩) : dCall sp__law_next (dCons (dVar i) (dCons fk dNil)) δ C := by
  refine cons_at (svar_at hi) (cons_at hk nil_at) _ ?_
  show callL sp__law_next [.sl 0, .val (.int k)] δ C
  unfold callL
  rw [show dedN (refsL [Ar.sl 0, Ar.val (.int k)]) = [0] from rfl, loc0 h0]
  exact ⟨ds, k, rfl, rfl, hd, k0, k1, fun r ds' r0 r1 hd' => h r ds' r0 r1 hd'⟩
theorem pick_at {i : Nat} {fd : DTE} {δ : DSt} {ds xs : List PyData} {C : Ar → DSt → Prop} (hi : δ.s[i]? = some (some (.sl 0))) (h0 : δ.m[0]? = some (.fl ds)) (hd : DrawOk ds) {d : PyData} (hdx : d = .list xs ∨ d = .tuple xs) (hx : ∀ C : Ar → DSt → Prop, C (.val d) δ → fd δ C) (x0 : 0 < xs.length) (x1 : xs.length < 1073741824)
    (h : ∀ x ∈ xs, ∀ ds', DrawOk ds' → C (.val x) ⟨δ.s, δ.m.set 0 (.fl ds')⟩) : dCall sp__law_pick (dCons (dVar i) (dCons fd dNil)) δ C := by
  refine cons_at (svar_at hi) (cons_at hx nil_at) _ ?_
  show callL sp__law_pick [.sl 0, .val d] δ C
  unfold callL
  rw [show dedN (refsL [Ar.sl 0, Ar.val d]) = [0] from rfl, loc0 h0]
  exact ⟨ds, d, rfl, rfl, hd, .inl ⟨xs, hdx, x0, x1, fun x hx ds' hd' => h x hx ds' hd'⟩⟩
/-! ### a token of a key -/
def sp__law_token : DSp := fun as m C _ => ∃ (ds : List PyData) (key : Str), as = [.sl 0, .val (.str key)] ∧ m = [.fl ds] ∧ DrawOk ds ∧ KeyOk key ∧ ∀ (p : Tk) ds', TokOk p → keyOf p = key → DrawOk ds' → C (.val (tokD p)) [.fl ds']
def isSm (z : Str) : Bool := match atI z.cps.toList 0 with
  | some c => decide (c ∈ ("abcdefghijklmnopqrstuvwxyz" : Str).cps.toList)
  | none => false
theorem key_txt : ∀ z ∈ KEYS, z ≠ "name" → z ≠ "Name" → (z.length ≤ 20 ∧ (atI z.cps.toList 0).isSome = true ∧ (isSm z = true ∧ z ∈ WRDS ∨ isSm z = false ∧ z ∈ SGNS)) := by decide +kernel
theorem ret2_at {s : Str} {fd : DTE} {D : DEnds} {δ : DSt} {ds : List PyData} {l : List Str} (hi : δ.s[0]? = some (some (.sl 0))) (h0 : δ.m[0]? = some (.fl ds)) (hd : DrawOk ds) (hx : ∀ C : Ar → DSt → Prop, C (.val (.list (l.map PyData.str))) δ → fd δ C) (x0 : 0 < l.length) (x1 : l.length < 1073741824)
    (h : ∀ z ∈ l, ∀ ds', DrawOk ds' → D.rt (.val (.tuple [.str s, .str z])) ⟨δ.s, δ.m.set 0 (.fl ds')⟩) : dRet (dTup (dCons (dC (.str s)) (dCons (dCall sp__law_pick (dCons (dVar 0) (dCons fd dNil))) dNil))) D δ := by
  refine pick_at (xs := l.map PyData.str) hi h0 hd (.inl rfl) hx (by rw [List.length_map]; exact x0) (by rw [List.length_map]; exact x1) fun x hx ds' hd' => ?_
  obtain ⟨z, hz, rfl⟩ := List.mem_map.mp hx
  exact ⟨by show 2 ≤ sizeLine; rw [DD.sl_line]; omega, h z hz ds' hd'⟩
theorem in0_at {i : Nat} {z s : Str} {c : Nat} {δ : DSt} (hi : δ.s[i]? = some (some (.val (.str z)))) (hl : z.length ≤ sizeLine) (hc : atI z.cps.toList 0 = some c) {b : Bool} (hb : decide (c ∈ s.cps.toList) = b) : ∀ C : Bool → DSt → Prop, C b δ → dCmp (cIn false) (dIx (dVar i) (dC (.int 0))) (dC (.str s)) δ C := by
  intro C h
  unfold dCmp dIx dVar
  rw [hi]
  refine ⟨hl, ?_⟩
  rw [hc]
  show C (decide (c ∈ s.cps.toList)) δ
  rw [hb]
  exact h
theorem eqc_at {i : Nat} {z y : Str} {δ : DSt} (hi : δ.s[i]? = some (some (.val (.str z)))) {b : Bool} (hb : decide (z = y) = b) : ∀ C : Bool → DSt → Prop, C b δ → dCmp (cEq false) (dVar i) (dC (.str y)) δ C := by
  intro C h
  unfold dCmp dVar
  rw [hi]
  show C (decide (z = y)) δ
  rw [hb]
  exact h
theorem l__law_token : ∀ as m C Ex, sp__law_token as m C Ex → b__law_token sp__law_pick (endsD m.length C) (startD N__law_token as m) := by
  rintro as m C Ex ⟨ds, key, rfl, rfl, hd, hk, h⟩
  have hs := DD.sl_line
  unfold b__law_token
  have fin : ∀ (p : Tk) (ds' : List PyData), TokOk p → keyOf p = key → DrawOk ds' → outM 1 C (.val (tokD p)) [.fl ds'] := fun p ds' h1 h2 h3 => .inl (h p ds' h1 h2 h3)
  by_cases e1 : key = "name"
  · refine seqif_t (eqc_at (z := key) rfl (decide_eq_true e1)) ?_
    refine ret2_at (ds := ds) (l := ["a", "b2", "x_Y", "faces", "lets", "name", "u9_"]) rfl rfl hd (fun C h => ⟨by rw [DD.sl_line]; decide, h⟩) (by decide) (by decide) fun z hz ds' hd' => ?_
    exact fin ("name", z) ds' (.inl (.inl rfl)) (by rw [e1]; rfl) hd'
  refine seqif_f (eqc_at (z := key) rfl (decide_eq_false e1)) ?_
  refine nx_of ?_
  dsimp only
  by_cases e2 : key = "Name"
  · refine seqif_t (eqc_at (z := key) rfl (decide_eq_true e2)) ?_
    refine ret2_at (ds := ds) (l := ["A", "B2", "Cc_", "Name", "Def", "K"]) rfl rfl hd (fun C h => ⟨by rw [DD.sl_line]; decide, h⟩) (by decide) (by decide) fun z hz ds' hd' => ?_
    exact fin ("Name", z) ds' (.inl (.inr (.inl rfl))) (by rw [e2]; rfl) hd'
  refine seqif_f (eqc_at (z := key) rfl (decide_eq_false e2)) ?_
  refine nx_of ?_
  dsimp only
  by_cases e3 : key = "wrong"
  · refine seqif_t (eqc_at (z := key) rfl (decide_eq_true e3)) ?_
    refine ret2_at (ds := ds) (l := ["9a", "@", "__", "-", "_x", "\"", "0"]) rfl rfl hd (fun C h => ⟨by rw [DD.sl_line]; decide, h⟩) (by decide) (by decide) fun z hz ds' hd' => ?_
    exact fin ("wrong", z) ds' (.inl (.inr (.inr rfl))) (by rw [e3]; rfl) hd'
  refine seqif_f (eqc_at (z := key) rfl (decide_eq_false e3)) ?_
  refine nx_of ?_
  dsimp only
  obtain ⟨k1, k2, k3⟩ := key_txt key (hk.resolve_right e3) e1 e2
  cases hc : atI key.cps.toList 0 with
  | none => rw [hc] at k2; cases k2
  | some c =>
    have is : isSm key = decide (c ∈ ("abcdefghijklmnopqrstuvwxyz" : Str).cps.toList) := by unfold isSm; rw [hc]
    rw [is] at k3
    rcases k3 with ⟨k3, k4⟩ | ⟨k3, k4⟩
    · refine ife_t (in0_at (z := key) rfl (by omega) hc k3) ?_
      exact ⟨by show 2 ≤ sizeLine; omega, fin ("word", key) ds (.inr (.inl ⟨rfl, k4⟩)) rfl hd⟩
    · refine ife_f (in0_at (z := key) rfl (by omega) hc k3) ?_
      exact ⟨by show 2 ≤ sizeLine; omega, fin ("sign", key) ds (.inr (.inr ⟨rfl, k4⟩)) rfl hd⟩
end K17

namespace K17
open PySem PySem.Spec PyProof.Rows L2 MM
local macro_rules | `(tactic| walk_at "w") => `(tactic| conv => whnf)
/-! ### rows that are grown -/
def cU : List Str → Nat
  | [] => 0
  | z :: l => (if z ∈ UPS then 1 else 0) + cU l
theorem cU_app : ∀ a b, cU (a ++ b) = cU a + cU b
  | [], b => by simp [cU]
  | z :: a, b => by rw [List.cons_append, cU, cU, cU_app a b, Nat.add_assoc]
def headT : List Str → Bool
  | [] => false
  | z :: _ => !isNL z
structure GI (c0 many : Nat) (keys L : List Str) : Prop where
  ks : ∀ x ∈ keys, x ∈ KEYS
  semi : ((";" : Str) ∉ keys ∧ ∃ L', L = L' ++ [(";" : Str)] ∧ ∀ z ∈ L', z ∈ MID) ∨ (L = [] ∧ (";" : Str) ∉ keys.dropLast)
  cnt : cU keys + cU L ≤ c0 + 2 * min keys.length many + (if keys.length < many ∧ headT L = true then 2 else 0)
theorem GI.head {c0 many keys z L} (h : GI c0 many keys (z :: L)) : (";" : Str) ∉ keys ∧ (z = ";" ∧ L = [] ∨ z ∈ MID ∧ z ≠ ";" ∧ ∃ L', L = L' ++ [(";" : Str)] ∧ ∀ z ∈ L', z ∈ MID) := by
  rcases h.semi with ⟨h1, L', e, h2⟩ | ⟨e, _⟩
  · refine ⟨h1, ?_⟩
    cases L' with
    | nil => injection e with e1 e2; exact .inl ⟨e1, e2⟩
    | cons y L' =>
      injection e with e1 e2
      subst e1
      have hm := h2 z List.mem_cons_self
      refine .inr ⟨hm, ?_, L', e2, fun x hx => h2 x (List.mem_cons_of_mem _ hx)⟩
      rcases List.mem_append.mp hm with q | q
      · exact (midn_nl z q).2
      · exact (midk z q).2.2
  · cases e
theorem GI.pop {c0 many keys z L} (h : GI c0 many keys (z :: L)) (hz : isNL z = false) : GI c0 many (keys ++ [z]) L := by
  obtain ⟨h1, h2⟩ := h.head
  have zk : z ∈ KEYS := by
    rcases h2 with ⟨rfl, _⟩ | ⟨hm, _⟩
    · decide +kernel
    · rcases List.mem_append.mp hm with q | q
      · rw [(midn_nl z q).1] at hz; cases hz
      · exact (midk z q).2.1
  refine ⟨fun x hx => (List.mem_append.mp hx).elim (h.ks x) (fun e => by rw [List.mem_singleton.mp e]; exact zk), ?_, ?_⟩
  · rcases h2 with ⟨rfl, rfl⟩ | ⟨_, zn, L', e, hL⟩
    · exact .inr ⟨rfl, by rw [List.dropLast_concat]; exact h1⟩
    · exact .inl ⟨fun q => (List.mem_append.mp q).elim h1 (fun e => zn (List.mem_singleton.mp e).symm), L', e, hL⟩
  · have c := h.cnt
    have e1 : cU (keys ++ [z]) + cU L = cU keys + cU (z :: L) := by
      rw [cU_app]; simp only [cU]; omega
    rw [e1, List.length_append]
    have hh : headT (z :: L) = true := by show (!isNL z) = true; rw [hz]; rfl
    rw [hh] at c
    by_cases q : keys.length < many
    · rw [if_pos ⟨q, rfl⟩, Nat.min_eq_left (by omega)] at c
      rw [Nat.min_eq_left (show keys.length + [z].length ≤ many from q)]
      show _ ≤ c0 + 2 * (keys.length + 1) + _
      omega
    · rw [if_neg (fun p => q p.1), Nat.min_eq_right (by omega)] at c
      rw [Nat.min_eq_right (show many ≤ keys.length + [z].length by omega)]
      omega
def rowFact (p : Rw) : Bool := (p.2.2.all fun y => decide (y ∈ MID)) && decide (cU p.2.2 ≤ 2) && (decide (cU p.2.2 = 0) || headT p.2.2)
theorem row_fact : ∀ p ∈ R17, p.1 ≠ "<item>" → rowFact p = true := by decide +kernel
def keysOf (z : Str) : List Str := (rowsOf z).map fun p => p.1
def shortOk (z y : Str) : Bool := if ("-" : Str) ∈ keysOf z then decide (y = "-") else if ("name" : Str) ∈ keysOf z then decide (y = "name") else true
theorem short_fact : ∀ p ∈ R17, p.1 ≠ "<item>" → shortOk p.1 p.2.1 = true → cU p.2.2 = 0 := by decide +kernel
theorem way_row {z y : Str} {r : List Str} (h : wayL z y = some r) : (z, y, r) ∈ R17 := by
  unfold wayL at h
  cases q : R17.find? fun p => decide (p.1 = z) && decide (p.2.1 = y) with
  | none => rw [q] at h; cases h
  | some p =>
    rw [q] at h
    cases h
    have h1 := List.find?_some q
    rw [Bool.and_eq_true] at h1
    have m := List.mem_of_find?_eq_some q
    rw [← of_decide_eq_true h1.1, ← of_decide_eq_true h1.2]
    exact m
theorem midn_item : ∀ z ∈ MIDN, z ≠ "<item>" := by decide +kernel
theorem GI.exp {c0 many keys z L y r} (h : GI c0 many keys (z :: L)) (hz : isNL z = true) (hw : wayL z y = some r) (hs : keys.length < many ∨ shortOk z y = true) : GI c0 many keys (r ++ L) := by
  obtain ⟨h1, h2⟩ := h.head
  rcases h2 with ⟨rfl, _⟩ | ⟨hm, zn, L', e, hL⟩
  · exact absurd hz (by decide +kernel)
  have zi : z ≠ "<item>" := by
    rcases List.mem_append.mp hm with q | q
    · exact midn_item z q
    · rw [(midk z q).1] at hz; cases hz
  have hr := way_row hw
  have f := row_fact _ hr zi
  unfold rowFact at f
  simp only [Bool.and_eq_true, Bool.or_eq_true] at f
  obtain ⟨⟨f1, f2⟩, f3⟩ := f
  have f2 := of_decide_eq_true f2
  have zu : z ∉ UPS := fun q => by have := (h1_key z (up_keys z q)).2.1; rw [hz] at this; cases this
  refine ⟨h.ks, .inl ⟨h1, r ++ L', by rw [e, List.append_assoc], fun x hx => (List.mem_append.mp hx).elim (fun hx => of_decide_eq_true (List.all_eq_true.mp f1 x hx)) (hL x)⟩, ?_⟩
  have c := h.cnt
  have hh : headT (z :: L) = false := by show (!isNL z) = false; rw [hz]; rfl
  rw [hh, if_neg (fun p => Bool.false_ne_true p.2)] at c
  have cz : cU (z :: L) = cU L := by rw [cU, if_neg zu, Nat.zero_add]
  rw [cz] at c
  rw [cU_app]
  by_cases q : keys.length < many
  · rcases f3 with f3 | f3
    · have f3 : cU r = 0 := of_decide_eq_true f3
      omega
    · have f2 : cU r ≤ 2 := f2
      have hr2 : headT (r ++ L) = true := by
        cases r with
        | nil => cases f3
        | cons x r => exact f3
      rw [if_pos ⟨q, hr2⟩]
      omega
  · have f3 : cU r = 0 := short_fact _ hr zi (hs.resolve_left q)
    omega
theorem cnt_le {c0 many keys L} (h : GI c0 many keys L) : cU keys ≤ c0 + 2 * many + 2 := by
  have c := h.cnt
  have : (if keys.length < many ∧ headT L = true then 2 else 0) ≤ 2 := by split <;> omega
  have : min keys.length many ≤ many := Nat.min_le_right _ _
  omega
/-- behind the store m: two lists of one's own -/
structure Own2 (m μ : List Mo) (xs ys : List PyData) : Prop where
  pre : ∀ i, i < m.length → μ[i]? = m[i]?
  s1 : μ[m.length]? = some (.fl xs)
  s2 : μ[m.length + 1]? = some (.fl ys)
theorem own2_new (m : List Mo) (xs ys : List PyData) : Own2 m (m ++ [.fl xs] ++ [.fl ys]) xs ys := by
  refine ⟨fun i hi => ?_, ?_, ?_⟩
  · rw [List.append_assoc, List.getElem?_append_left hi]
  · rw [List.append_assoc, List.getElem?_append_right (Nat.le_refl _), Nat.sub_self]; rfl
  · rw [List.append_assoc, List.getElem?_append_right (Nat.le_succ _), show m.length + 1 - m.length = 1 by omega]; rfl
theorem Own2.lt {m μ xs ys} (h : Own2 m μ xs ys) : m.length + 1 < μ.length := (List.getElem?_eq_some_iff.mp h.s2).1
theorem Own2.add {m μ xs ys} (h : Own2 m μ xs ys) (l : List Mo) : Own2 m (μ ++ l) xs ys := by
  have lt := h.lt
  exact ⟨fun i hi => by rw [List.getElem?_append_left (by omega)]; exact h.pre i hi, by rw [List.getElem?_append_left (by omega)]; exact h.s1, by rw [List.getElem?_append_left (by omega)]; exact h.s2⟩
theorem Own2.put1 {m μ xs ys} (h : Own2 m μ xs ys) (zs : List PyData) : Own2 m (μ.set m.length (.fl zs)) zs ys := by
  have lt := h.lt
  exact ⟨fun i hi => by rw [List.getElem?_set_ne (by omega)]; exact h.pre i hi, by rw [List.getElem?_set_self (by omega)], by rw [List.getElem?_set_ne (by omega)]; exact h.s2⟩
theorem Own2.put2 {m μ xs ys} (h : Own2 m μ xs ys) (zs : List PyData) : Own2 m (μ.set (m.length + 1) (.fl zs)) xs zs := by
  have lt := h.lt
  exact ⟨fun i hi => by rw [List.getElem?_set_ne (by omega)]; exact h.pre i hi, by rw [List.getElem?_set_ne (by omega)]; exact h.s1, by rw [List.getElem?_set_self lt]⟩
theorem Own2.set {m μ xs ys} (h : Own2 m μ xs ys) {j : Nat} (hj : m.length + 1 < j) (o : Mo) : Own2 m (μ.set j o) xs ys :=
  ⟨fun i hi => by rw [List.getElem?_set_ne (by omega)]; exact h.pre i hi, by rw [List.getElem?_set_ne (by omega)]; exact h.s1, by rw [List.getElem?_set_ne (by omega)]; exact h.s2⟩
theorem Own2.draw {o o' : Mo} {T μ xs ys} (h : Own2 (o :: T) μ xs ys) : Own2 (o' :: T) (μ.set 0 o') xs ys := by
  have lt := h.lt
  refine ⟨fun i hi => ?_, ?_, ?_⟩
  · cases i with
    | zero => rw [List.getElem?_set_self (by omega)]; rfl
    | succ i => rw [List.getElem?_set_ne (by omega)]; exact h.pre (i + 1) hi
  · rw [List.getElem?_set_ne (by simp)]; exact h.s1
  · rw [List.getElem?_set_ne (by simp)]; exact h.s2
theorem RM.own2 {m μ xs ys} (r : RM m) (h : Own2 m μ xs ys) : RM μ := by
  obtain ⟨kvs, h1, h2⟩ := r.top
  refine ⟨⟨kvs, by rw [h.pre 1 (List.getElem?_eq_some_iff.mp h1).1]; exact h1, h2⟩, fun z hz => ?_⟩
  obtain ⟨ws, g1, g2⟩ := r.sub z hz
  exact ⟨ws, by rw [h.pre _ (List.getElem?_eq_some_iff.mp g1).1]; exact g1, g2⟩
theorem out_frz {m μ : List Mo} {j : Nat} {xs : List PyData} (c : closedL m.length m) (pre : ∀ i, i < m.length → μ[i]? = m[i]?) (hj : m.length ≤ j) {C : Ar → List Mo → Prop} (k : C (.val (.list xs)) m) : outM m.length C (.val (.list xs)) ((μ.set j .no).map (frO j (.list xs))) := by
  have e : ((μ.set j .no).map (frO j (.list xs))).take m.length = m := by
    refine List.ext_getElem? fun i => ?_
    by_cases hi : i < m.length
    · rw [List.getElem?_take_of_lt hi, List.getElem?_map, List.getElem?_set_ne (by omega), pre i hi, List.getElem?_eq_getElem hi]
      show some (frO j (.list xs) m[i]) = some m[i]
      rw [frO_id fun q hq => by have := c _ (List.getElem_mem hi) q hq; omega]
    · rw [List.getElem?_eq_none (by rw [List.length_take]; omega), List.getElem?_eq_none (by omega)]
  refine .inr ⟨by rw [e]; exact c, ?_⟩
  show C (.val (.list xs)) (List.take m.length _)
  rw [e]
  exact k
/-! ### grown -/
theorem sort_at {fd : DTE} {a : Nat} {kvs : List (Key × Ar)} {l : List Str} {δ : DSt} {C : Ar → DSt → Prop} (hd : ∀ C : Ar → DSt → Prop, C (.sl a) δ → fd δ C) (ha : δ.m[a]? = some (.dk kvs)) (hk : kvs.map (fun kv => datK kv.1) = l.map PyData.str) (hl : l.length < 64)
    (h : ∀ ns : List Str, ns.Perm l → C (.val (.list (ns.map PyData.str))) δ) : dFr (dSortN (dFr (dKeysN fd))) δ C := by
  refine hd _ ?_
  show (match δ.m[a]? with
    | some (.dk kvs) => _
    | _ => False)
  rw [ha]
  show (match strsD (kvs.map fun kv => datK kv.1) with
    | some ys => ys.length < 64 ∧ ∀ ns : List Str, ns.Perm ys → sortedS ns = true → C (.val (.list (ns.map PyData.str))) δ
    | none => False)
  rw [hk, strs_D]
  exact ⟨hl, fun ns pm _ => h ns pm⟩
theorem inc_at {i : Nat} {z : Str} {ws : List Str} {δ : DSt} (hi : δ.s[i]? = some (some (.val (.list (ws.map PyData.str))))) {b : Bool} (hb : decide (z ∈ ws) = b) : ∀ C : Bool → DSt → Prop, C b δ → dCmp (cIn false) (dC (.str z)) (dVar i) δ C := by
  intro C h
  unfold dCmp dC dVar
  dsimp only
  rw [hi]
  refine ⟨rfl, words_flat ws, ?_⟩
  show C ((ws.map PyData.str).any fun e => PyData.eqv e (.str z)) δ
  rw [words_any, hb]
  exact h
theorem lt_at {i j n : Nat} {xs : List PyData} {k : Int} {δ : DSt} (hi : δ.s[i]? = some (some (.sl n))) (hn : δ.m[n]? = some (.fl xs)) (hj : δ.s[j]? = some (some (.val (.int k)))) {b : Bool} (hb : decide ((xs.length : Int) < k) = b) : ∀ C : Bool → DSt → Prop, C b δ → dCmp cLt (dCB fLen (dCons (dVar i) dNil)) (dVar j) δ C := by
  intro C h
  unfold dCmp dCB dCons dVar dNil
  rw [hi]
  dsimp only
  refine fLen_own hn ?_
  rw [hj]
  show C (decide ((xs.length : Int) < k)) δ
  rw [hb]
  exact h
end K17

namespace K17
open PySem PySem.Spec PyProof.Rows L2 MM
local macro_rules | `(tactic| walk_at "w") => `(tactic| conv => whnf)
theorem rows_few : ∀ z ∈ NTL, (keysOf z).length < 64 ∧ keysOf z ≠ [] := by decide +kernel
theorem keys_way {z y : Str} (h : y ∈ keysOf z) : ∃ r, wayL z y = some r := by
  unfold keysOf rowsOf at h
  rw [List.map_map] at h
  obtain ⟨p, hp, rfl⟩ := List.mem_map.mp h
  obtain ⟨h1, h2⟩ := List.mem_filter.mp hp
  unfold wayL
  cases q : R17.find? fun q => decide (q.1 = z) && decide (q.2.1 = p.2.1) with
  | some r =>
    refine ⟨r.2.2, ?_⟩
    show (R17.find? fun q => decide (q.1 = z) && decide (q.2.1 = p.2.1)).map _ = _
    rw [q]
    rfl
  | none =>
    have := List.find?_eq_none.mp q p h1
    exact absurd (by rw [Bool.and_eq_true]; exact ⟨h2, decide_eq_true rfl⟩) this
def sp__law_grown : DSp := fun as m C _ => ∃ (ds : List PyData) (T : List Mo) (L : List Str) (many c0 : Nat), as = [.sl 0, .sl 1, .val (stkD L), .val (.int many)] ∧ m = .fl ds :: T ∧ DrawOk ds ∧ RC m ∧ GI c0 many [] L ∧ L.length ≤ 100000 ∧
  ∀ (keys : List Str) ds', DrawOk ds' → (∀ x ∈ keys, x ∈ KEYS) → (";" : Str) ∉ keys.dropLast → cU keys ≤ c0 + 2 * many + 2 → keys.length ≤ 1500 → C (.val (.list (keys.map PyData.str))) (.fl ds' :: T)
theorem semi_drop {c0 many keys L} (h : GI c0 many keys L) : (";" : Str) ∉ keys.dropLast := by
  rcases h.semi with ⟨h, _⟩ | ⟨_, h⟩
  · exact fun q => h (List.dropLast_subset _ q)
  · exact h
theorem dget2_at {fd fk : DTE} {a : Nat} {z : Str} {kvs : List (Key × Ar)} {x : Ar} {δ : DSt} (hd : ∀ C : Ar → DSt → Prop, C (.sl a) δ → fd δ C) (hk : ∀ C : Ar → DSt → Prop, C (.val (.str z)) δ → fk δ C) (ha : δ.m[a]? = some (.dk kvs)) (hx : getD kvs (.inr z) = some x) :
    ∀ C : Ar → DSt → Prop, C x δ → dDGet fd fk δ C := by
  intro C h
  refine hd _ ?_
  refine hk _ ?_
  have e : atD δ (.sl a) (.val (.str z)) = some (a, kvs, .inr z) := by
    unfold atD
    dsimp only
    rw [ha]
    rfl
  rw [e]
  dsimp only
  rw [hx]
  exact h
theorem ixc_at {i : Nat} {xs : List PyData} {k : Int} {v : PyData} {δ : DSt} {C : Ar → DSt → Prop} (hi : δ.s[i]? = some (some (.val (.list xs)))) (hv : atI xs k = some v) (h : C (.val v) δ) : dIx (dVar i) (dC (.int k)) δ C := by
  unfold dIx
  refine svar_at hi _ ?_
  show (match atI xs k with | some d => C (.val d) δ | none => False)
  rw [hv]
  exact h
theorem ixn_at {i j : Nat} {xs ds : List PyData} {δ : DSt} {C : Ar → DSt → Prop} (hj : δ.s[j]? = some (some (.val (.list xs)))) (hi : δ.s[i]? = some (some (.sl 0))) (h0 : δ.m[0]? = some (.fl ds)) (hd : DrawOk ds) (x0 : 0 < xs.length) (x1 : xs.length < 1073741824)
    (h : ∀ x ∈ xs, ∀ ds', DrawOk ds' → C (.val x) ⟨δ.s, δ.m.set 0 (.fl ds')⟩) : dIx (dVar j) (dCall sp__law_next (dCons (dVar i) (dCons (dCB fLen (dCons (dVar j) dNil)) dNil))) δ C := by
  unfold dIx
  refine svar_at hj _ ?_
  refine next_at (k := xs.length) hi h0 hd (fun C h => ?_) (by omega) (by omega) fun r ds' r0 r1 hd' => ?_
  · exact cons_at (svar_at hj) nil_at _ h
  · obtain ⟨x, ex, _, mx⟩ := DD.atI_at r0 r1
    show (match atI xs r with
      | some d => C (.val d) ⟨δ.s, δ.m.set 0 (.fl ds')⟩
      | none => False)
    rw [ex]
    exact h x mx ds' hd'
theorem l__law_grown : ∀ as m C Ex, sp__law_grown as m C Ex → b__law_grown sp__law_next (endsD m.length C) (startD N__law_grown as m) := by
  rintro as m C Ex ⟨ds, T, L, many, c0, rfl, rfl, hd, hR, hG, hL, h⟩
  have hs := DD.sl_line
  unfold b__law_grown
  refine seq_set ?_
  refine lst_at (xs := L.reverse.map PyData.str) (fun C h => h) ?_
  show dSeq _ _ _ ⟨[some (.sl 0), some (.sl 1), some (.sl (Mo.fl ds :: T).length), some (.val (.int many)), none, none, none, none, none, none], (.fl ds :: T) ++ [Mo.fl (L.reverse.map PyData.str)]⟩
  refine seq_set ?_
  refine ⟨by show 0 ≤ sizeLine; omega, ?_⟩
  have e0 : ((.fl ds :: T) ++ [Mo.fl (L.reverse.map PyData.str)]).length = (Mo.fl ds :: T).length + 1 := by rw [List.length_append]; rfl
  show dSeq _ _ _ ⟨[some (.sl 0), some (.sl 1), some (.sl (Mo.fl ds :: T).length), some (.val (.int many)), some (.sl ((.fl ds :: T) ++ [Mo.fl (L.reverse.map PyData.str)]).length), none, none, none, none, none], (.fl ds :: T) ++ [Mo.fl (L.reverse.map PyData.str)] ++ [Mo.fl []]⟩
  rw [e0]
  have hO := own2_new (.fl ds :: T) (L.reverse.map PyData.str) []
  generalize (.fl ds :: T) ++ [Mo.fl (L.reverse.map PyData.str)] ++ [Mo.fl []] = μ at hO ⊢
  have en : ∀ ds' : List PyData, (Mo.fl ds' :: T).length = T.length + 1 := fun ds' => rfl
  rw [en]
  generalize hn : T.length + 1 = n
  have en : ∀ ds' : List PyData, (Mo.fl ds' :: T).length = n := fun ds' => hn
  refine seq_cut (fun δ => ∃ L keys x5 x6 x7 x8 x9 μ ds, δ = ⟨[some (.sl 0), some (.sl 1), some (.sl n), some (.val (.int many)), some (.sl (n + 1)), x5, x6, x7, x8, x9], μ⟩ ∧ DrawOk ds ∧ Own2 (.fl ds :: T) μ (L.reverse.map PyData.str) (keys.map PyData.str) ∧ GI c0 many keys L ∧ keys.length ≤ 1500) (fun N hN => ?_) ?_
  · refine ⟨by decide, by decide, ?_⟩
    refine forR_inv 0 1500 (P := fun k δ => ∃ L keys x5 x6 x7 x8 x9 μ ds, δ = ⟨[some (.sl 0), some (.sl 1), some (.sl n), some (.val (.int many)), some (.sl (n + 1)), x5, x6, x7, x8, x9], μ⟩ ∧ DrawOk ds ∧ Own2 (.fl ds :: T) μ (L.reverse.map PyData.str) (keys.map PyData.str) ∧ GI c0 many keys L ∧ L.length ≤ 100000 + 7 * k ∧ keys.length ≤ k) ?_ ?_ ⟨L, [], none, none, none, none, none, μ, ds, rfl, hd, hO, hG, by omega, Nat.le_refl _⟩
    · rintro k δ hk ⟨L, keys, x5, x6, x7, x8, x9, μ, ds, rfl, hd, hO, hG, hL, hkl⟩ N' hN'
      show dSeq _ _ _ ⟨[some (.sl 0), some (.sl 1), some (.sl n), some (.val (.int many)), some (.sl (n + 1)), some (.val (.int (0 + (k : Nat)))), x6, x7, x8, x9], μ⟩
      generalize some (Ar.val (.int (0 + (k : Nat)))) = y5
      have h1 := hO.s1
      have h2 := hO.s2
      rw [en] at h1 h2
      cases L with
      | nil =>
        refine seqif_t (len0_at (n := n) rfl h1 (decide_eq_true rfl)) ?_
        exact hN _ ⟨[], keys, _, _, _, _, _, _, ds, rfl, hd, hO, hG, by omega⟩
      | cons z L =>
        refine seqif_f (len0_at (n := n) rfl h1 (decide_eq_false (by simp))) ?_
        refine nx_of ?_
        dsimp only
        refine seq_set ?_
        have e1 : μ[n]? = some (.fl (L.reverse.map PyData.str ++ [.str z])) := by
          rw [h1]
          simp
        refine pop_at (i := n) (fun C h => h) e1 ?_
        have hO2 := hO.put1 (L.reverse.map PyData.str)
        rw [en] at hO2
        show dSeq _ _ _ ⟨[some (.sl 0), some (.sl 1), some (.sl n), some (.val (.int many)), some (.sl (n + 1)), y5, some (.val (.str z)), x7, x8, x9], μ.set n (.fl (L.reverse.map PyData.str))⟩
        generalize μ.set n (.fl (L.reverse.map PyData.str)) = μ2 at hO2 ⊢
        have rm : RM (.fl ds :: T) := hR.rm.head
        have R2 := rm.own2 hO2
        obtain ⟨kvs, t1, t2⟩ := R2.top
        have g2 := hO2.s2
        rw [en] at g2
        rw [List.length_cons] at hL
        by_cases nz : isNL z = true
        · have t3 := t2 z
          rw [if_pos nz] at t3
          obtain ⟨ws, w1, w2, w3⟩ := R2.sub z nz
          refine seqif_f (din_at (z := z) (a := 0 + 1) (b := false) (fun C h => h) rfl t1 (by rw [t3]; rfl)) ?_
          refine nx_of ?_
          dsimp only
          refine seq_set ?_
          have w3' : ws.map (fun kv => datK kv.1) = (keysOf z).map PyData.str := by rw [w3]; unfold keysOf; rw [List.map_map]; rfl
          refine sort_at (l := keysOf z) (dget_at (z := z) (x := .sl (wix z)) (fun C h => h) rfl t1 t3) w1 w3' (rows_few z (isNL_mem nz)).1 fun ns pm => ?_
          show dSeq _ _ _ ⟨[some (.sl 0), some (.sl 1), some (.sl n), some (.val (.int many)), some (.sl (n + 1)), y5, some (.val (.str z)), some (.val (.list (ns.map PyData.str))), x8, x9], μ2⟩
          have nm : ∀ y, y ∈ ns ↔ y ∈ keysOf z := fun y => pm.mem_iff
          have nl : ns.length < 64 := by rw [pm.length_eq]; exact (rows_few z (isNL_mem nz)).1
          have n0 : 0 < ns.length := by
            rw [pm.length_eq]
            exact List.length_pos_iff.mpr (rows_few z (isNL_mem nz)).2
          have rest : ∀ (y : Str) (ds' : List PyData) (μ3 : List Mo), y ∈ ns → (keys.length < many ∨ shortOk z y = true) → DrawOk ds' → Own2 (.fl ds' :: T) μ3 (L.reverse.map PyData.str) (keys.map PyData.str) →
              dSeq (dSet 9 (dNw (dListN (dCons (dDGet (dDGet (dVar 1) (dVar 6)) (dVar 8)) dNil)))) (dSeq (dDrop (dRevS (dVar 9))) (dDrop (dExt (dVar 2) (dVar 9)))) { nx := N', ct := N', bk := N, rt := (endsD n C).rt } ⟨[some (.sl 0), some (.sl 1), some (.sl n), some (.val (.int many)), some (.sl (n + 1)), y5, some (.val (.str z)), some (.val (.list (ns.map PyData.str))), some (.val (.str y)), x9], μ3⟩ := by
            intro y ds' μ3 hy hsh hd' hO3
            obtain ⟨r, hr⟩ := keys_way ((nm y).mp hy)
            have rl := wayL_len hr
            have rm3 : RM (.fl ds' :: T) := hR.rm.head
            have R3 := rm3.own2 hO3
            obtain ⟨kvs3, t31, t32⟩ := R3.top
            have t33 := t32 z
            rw [if_pos nz] at t33
            obtain ⟨ws3, w31, w32, w33⟩ := R3.sub z nz
            have w34 := w32 y
            rw [hr] at w34
            refine seq_set ?_
            refine lst_at (xs := r.map PyData.str) ?_ ?_
            · exact dget2_at (z := y) (x := wayA r) (dget_at (z := z) (x := .sl (wix z)) (fun C h => h) rfl t31 t33) (fun C h => h) w31 w34
            · show dSeq _ _ _ ⟨[some (.sl 0), some (.sl 1), some (.sl n), some (.val (.int many)), some (.sl (n + 1)), y5, some (.val (.str z)), some (.val (.list (ns.map PyData.str))), some (.val (.str y)), some (.sl μ3.length)], μ3 ++ [Mo.fl (r.map PyData.str)]⟩
              have hlt := hO3.lt
              rw [en] at hlt
              have hO4 := hO3.add [Mo.fl (r.map PyData.str)]
              have hj : (μ3 ++ [Mo.fl (r.map PyData.str)])[μ3.length]? = some (.fl (r.map PyData.str)) := by
                rw [List.getElem?_append_right (Nat.le_refl _), Nat.sub_self]; rfl
              have hjl : μ3.length < (μ3 ++ [Mo.fl (r.map PyData.str)]).length := by rw [List.length_append]; exact Nat.lt_succ_self _
              generalize μ3.length = j at hj hjl hlt ⊢
              generalize μ3 ++ [Mo.fl (r.map PyData.str)] = μ4 at hO4 hj hjl ⊢
              refine seq_drop ?_
              refine rev_own (i := j) (fun C h => h) hj ?_
              have hO5 := hO4.set (show (Mo.fl ds' :: T).length + 1 < j by rw [en]; exact hlt) (.fl (r.map PyData.str).reverse)
              have h15 := hO5.s1
              rw [en] at h15
              refine drop_at ?_
              refine ext_own (i := n) (j := j) (fun C h => h) h15 (fun C h => h) (List.getElem?_set_self hjl) ?_ ?_
              · simp only [List.length_map, List.length_reverse]; omega
              · have hO6 := hO5.put1 (L.reverse.map PyData.str ++ (r.map PyData.str).reverse)
                rw [en] at hO6
                refine hN' _ ⟨r ++ L, keys, _, _, _, _, _, _, ds', rfl, hd', ?_, hG.exp nz hr hsh, ?_, by omega⟩
                · have e : (r ++ L).reverse.map PyData.str = L.reverse.map PyData.str ++ (r.map PyData.str).reverse := by simp
                  rw [e]
                  exact hO6
                · simp only [List.length_append]; omega
          have h0 : μ2[0]? = some (.fl ds) := hO2.pre 0 (by rw [en]; omega)
          refine seq_set ?_
          by_cases q : keys.length < many
          · refine ife_t (lt_at (n := n + 1) rfl g2 rfl (decide_eq_true (by rw [List.length_map]; omega))) ?_
            refine ixn_at (xs := ns.map PyData.str) rfl rfl h0 hd (by rw [List.length_map]; omega) (by rw [List.length_map]; omega) fun x mx ds' hd' => ?_
            obtain ⟨y, hy, rfl⟩ := List.mem_map.mp mx
            exact rest y ds' _ hy (.inl q) hd' hO2.draw
          · refine ife_f (lt_at (n := n + 1) rfl g2 rfl (decide_eq_false (by rw [List.length_map]; omega))) ?_
            by_cases q1 : ("-" : Str) ∈ ns
            · refine ife_t (inc_at (ws := ns) rfl (decide_eq_true q1)) ?_
              exact rest "-" ds _ q1 (.inr (by unfold shortOk; rw [if_pos ((nm _).mp q1)]; exact decide_eq_true rfl)) hd hO2
            · refine ife_f (inc_at (ws := ns) rfl (decide_eq_false q1)) ?_
              have k1 : ("-" : Str) ∉ keysOf z := fun q => q1 ((nm _).mpr q)
              by_cases q2 : ("name" : Str) ∈ ns
              · refine ife_t (inc_at (ws := ns) rfl (decide_eq_true q2)) ?_
                exact rest "name" ds _ q2 (.inr (by unfold shortOk; rw [if_neg k1, if_pos ((nm _).mp q2)]; exact decide_eq_true rfl)) hd hO2
              · refine ife_f (inc_at (ws := ns) rfl (decide_eq_false q2)) ?_
                have k2 : ("name" : Str) ∉ keysOf z := fun q => q2 ((nm _).mpr q)
                cases ns with
                | nil => exact absurd n0 (by simp)
                | cons y ns =>
                  refine ixc_at (xs := (y :: ns).map PyData.str) (v := .str y) rfl (atI_nat (j := 0) rfl) ?_
                  exact rest y ds _ List.mem_cons_self (.inr (by unfold shortOk; rw [if_neg k1, if_neg k2])) hd hO2
        · have nz' : isNL z = false := by simpa using nz
          have t3 := t2 z
          rw [if_neg nz] at t3
          refine seqif_t (din_at (z := z) (a := 0 + 1) (b := true) (fun C h => h) rfl t1 (by rw [t3]; rfl)) ?_
          refine seq_drop ?_
          refine app_at (i := n + 1) (xs := keys.map PyData.str) (x := .str z) (fun C h => h) g2 (fun C h => h) (by rw [List.length_map]; omega) ?_
          have hO3 := hO2.put2 (keys.map PyData.str ++ [.str z])
          rw [en] at hO3
          have e3 : keys.map PyData.str ++ [.str z] = (keys ++ [z]).map PyData.str := by simp
          rw [e3] at hO3 ⊢
          exact hN' _ ⟨L, keys ++ [z], _, _, _, _, _, _, ds, rfl, hd, hO3, hG.pop nz', by omega, by rw [List.length_append]; show keys.length + 1 ≤ k + 1; omega⟩
    · rintro δ ⟨L, keys, x5, x6, x7, x8, x9, μ, ds, rfl, hd, hO, hG, hL, hkl⟩
      exact hN _ ⟨L, keys, _, _, _, _, _, _, ds, rfl, hd, hO, hG, hkl⟩
  · rintro δ ⟨L, keys, x5, x6, x7, x8, x9, μ, ds, rfl, hd, hO, hG, hkl⟩
    have h2 := hO.s2
    rw [en] at h2
    refine fz_own (n := n + 1) (fun C h => h) h2 ?_
    have rc : RC (.fl ds :: T) := hR.head
    show outM n C (.val (.list (keys.map PyData.str))) ((μ.set (n + 1) .no).map (frO (n + 1) (.list (keys.map PyData.str))))
    have o := out_frz (C := C) (j := n + 1) rc.cl hO.pre (by rw [en]; exact Nat.le_succ _) (h keys ds hd hG.ks (semi_drop hG) (cnt_le hG) hkl)
    rw [en] at o
    exact o
end K17

namespace K17
open PySem PySem.Spec PyProof.Rows L2 MM
local macro_rules | `(tactic| walk_at "w") => `(tactic| conv => whnf)
/-! ### parts of a row -/
theorem cut_to {xs : List PyData} {n : Nat} (h : n ≤ xs.length) : MM.cutD xs none (some (n : Int)) = xs.take n := by
  unfold MM.cutD
  rw [HT.sIx_none, HT.sIx_nat, Nat.min_eq_left h]
  simp
theorem cut_from {xs : List PyData} {n : Nat} (h : n ≤ xs.length) : MM.cutD xs (some (n : Int)) none = xs.drop n := by
  unfold MM.cutD
  rw [HT.sIx_none, HT.sIx_nat, Nat.min_eq_left h]
  exact List.take_of_length_le (by rw [List.length_drop]; exact Nat.le_refl _)
theorem cut_last (xs : List PyData) : MM.cutD xs none (some (-1)) = xs.dropLast := by
  unfold MM.cutD
  rw [HT.sIx_none, List.drop_zero, List.dropLast_eq_take, Nat.sub_zero]
  have e : HT.sIx xs.length xs.length (some (-1)) = (-1 + (xs.length : Int)).toNat := by
    show (if (-1 : Int) < 0 then (-1 + (xs.length : Int)).toNat else min (-1 : Int).toNat xs.length) = _
    exact if_pos (by decide)
  rw [e]
  congr 1
  omega
theorem tokc_at {i : Nat} {fk : DTE} {δ : DSt} {ds : List PyData} {key : Str} {C : Ar → DSt → Prop} (hi : δ.s[i]? = some (some (.sl 0))) (h0 : δ.m[0]? = some (.fl ds)) (hd : DrawOk ds) (hk : ∀ C : Ar → DSt → Prop, C (.val (.str key)) δ → fk δ C) (ok : KeyOk key)
    (h : ∀ (p : Tk) ds', TokOk p → keyOf p = key → DrawOk ds' → C (.val (tokD p)) ⟨δ.s, δ.m.set 0 (.fl ds')⟩) : dCall sp__law_token (dCons (dVar i) (dCons fk dNil)) δ C := by
  refine cons_at (svar_at hi) (cons_at hk nil_at) _ ?_
  show callL sp__law_token [.sl 0, .val (.str key)] δ C
  unfold callL
  rw [show dedN (refsL [Ar.sl 0, Ar.val (.str key)]) = [0] from rfl, loc0 h0]
  exact ⟨ds, key, rfl, rfl, hd, ok, fun p ds' h1 h2 h3 => h p ds' h1 h2 h3⟩
theorem add_at {fa fb : DTE} {δ : DSt} {xs ys : List PyData} (ha : ∀ C : Ar → DSt → Prop, C (.val (.list xs)) δ → fa δ C) (hb : ∀ C : Ar → DSt → Prop, C (.val (.list ys)) δ → fb δ C) (hl : xs.length + ys.length ≤ sizeLine) : ∀ C : Ar → DSt → Prop, C (.val (.list (xs ++ ys))) δ → dBin aAddL fa fb δ C := fun C h => ha _ (hb _ ⟨hl, h⟩)
theorem cmpS_at {fa fb : DTE} {δ : DSt} {z y : Str} {b : Bool} (ha : ∀ C : Ar → DSt → Prop, C (.val (.str z)) δ → fa δ C) (hb : ∀ C : Ar → DSt → Prop, C (.val (.str y)) δ → fb δ C) (e : decide (z = y) = b) : ∀ C : Bool → DSt → Prop, C b δ → dCmp (cEq false) fa fb δ C := fun C h => ha _ (hb _ (by subst e; exact h))
theorem lc_rng {fi : DTI} {g : DTG} {tt : DTT} {te : DTE} {vs : List Nat} {n : Nat} {δ : DSt} {C : List PyData → DSt → Prop} (hi : ∀ C : List Ar → Option (Nat × Mo) → DSt → Prop, C (rangeD 0 n) none δ → fi δ C) (h : dLcL g tt te vs none (rangeD 0 n) [] δ C) : dLc fi g tt te vs δ C := hi _ h
/-! ### a place -/
def sp__law_place : DSp := fun as m C _ => ∃ (ds : List PyData) (row : List Tk), as = [.sl 0, .val (.list (row.map tokD))] ∧ m = [.fl ds] ∧ DrawOk ds ∧ (∀ p ∈ row, TokOk p) ∧ (∀ p ∈ row, keyOf p ∈ KEYS) ∧ row ≠ [] ∧ row.length ≤ 10000 ∧
  ∀ (at_ : Nat) ds', at_ < row.length → DrawOk ds' → C (.val (.int at_)) [.fl ds']
theorem l__law_place : ∀ as m C Ex, sp__law_place as m C Ex → b__law_place sp__law_key sp__law_pick (endsD m.length C) (startD N__law_place as m) := by
  rintro as m C Ex ⟨ds, row, rfl, rfl, hd, ht, hk, hne, hl, h⟩
  have hs := DD.sl_line
  have hrl : 0 < row.length := List.length_pos_iff.mpr hne
  unfold b__law_place
  refine seq_set ?_
  unfold dFr
  dsimp only
  refine lc_list (xs := row.dropLast.map tokD) (fun C h => ?_) ?_
  · show C ((MM.cutD (row.map tokD) none (some (-1))).map Ar.val) none _
    rw [cut_last, ← List.map_dropLast]
    exact h
  refine lcL_inv (P := fun its acc δ => ∃ r1 r2 : List Tk, row.dropLast = r1 ++ r2 ∧ its = (r2.map tokD).map Ar.val ∧ acc = (r1.map keyOf).map PyData.str ∧ δ = ⟨[some (.sl 0), some (.val (.list (row.map tokD))), none, none, none, none, none], [.fl ds]⟩) ?_ ?_ _ _ _ ⟨[], row.dropLast, rfl, rfl, rfl, rfl⟩
  · rintro d dd acc δ ⟨r1, r2, e1, e2, rfl, rfl⟩ N hN
    cases r2 with
    | nil => cases e2
    | cons p r2 =>
      injection e2 with e2 e3
      subst e2 e3
      have hp : p ∈ row := List.dropLast_subset _ (by rw [e1]; simp)
      refine ⟨fun _ => ?_, (nomatch ·)⟩
      refine keyc_at (p := p) (ht p hp) (svar_at rfl) _ ?_
      have l1 := congrArg List.length e1
      rw [List.length_append, List.length_dropLast, List.length_cons] at l1
      refine ⟨by rw [List.length_map, List.length_map]; omega, hN _ _ ⟨r1 ++ [p], r2, by rw [e1]; simp, rfl, by simp, rfl⟩⟩
  rintro acc δ ⟨r1, r2, e1, e2, rfl, rfl⟩
  cases r2 with
  | cons p r2 => cases e2
  | nil =>
    rw [List.append_nil] at e1
    subst e1
    have kk : ∀ x ∈ row.dropLast.map keyOf, x ∈ KEYS := fun x hx => by
      obtain ⟨p, hp, rfl⟩ := List.mem_map.mp hx
      exact hk p (List.dropLast_subset _ hp)
    have kl : (row.dropLast.map keyOf).length + 1 = row.length := by rw [List.length_map, List.length_dropLast]; omega
    generalize row.dropLast.map keyOf = ks at kk kl
    show dSeq _ _ _ ⟨[some (.sl 0), some (.val (.list (row.map tokD))), some (.val (.list (ks.map PyData.str))), none, none, none, none], [.fl ds]⟩
    refine seq_set ?_
    have sl := srt_len ks
    refine pick_at (ds := ds) (xs := ((("" : Str) :: srt ks).map PyData.str)) rfl rfl hd (.inl rfl) (fun C h => ?_) (by simp) (by rw [List.length_map, List.length_cons]; omega) fun x hx ds1 hd1 => ?_
    · exact add_at (xs := [.str ""]) (ys := (srt ks).map PyData.str) (fun C h => ⟨by rw [DD.sl_line]; decide, h⟩) (fun C h => sset_at (svar_at rfl) kk h) (by rw [List.length_map]; show 1 + (srt ks).length ≤ sizeLine; omega) C h
    · obtain ⟨y, hy, rfl⟩ := List.mem_map.mp hx
      show dSeq _ _ _ ⟨[some (.sl 0), some (.val (.list (row.map tokD))), some (.val (.list (ks.map PyData.str))), none, some (.val (.str y)), none, none], [.fl ds1]⟩
      show dLc _ _ _ _ _ _ _
      have kl2 : (ks.map PyData.str).length = ks.length := List.length_map ..
      refine lc_rng (n := ks.length) (fun C h => ?_) ?_
      · refine ⟨by omega, by omega, ?_⟩
        show C (rangeD 0 (((ks.map PyData.str).length : Int).toNat)) none _
        rw [Int.toNat_natCast, kl2]
        exact h
      refine lcR_inv 0 ks.length (P := fun i acc δ => δ = ⟨[some (.sl 0), some (.val (.list (row.map tokD))), some (.val (.list (ks.map PyData.str))), none, some (.val (.str y)), none, none], [.fl ds1]⟩ ∧ acc.length ≤ i ∧ ∀ x ∈ acc, ∃ j : Nat, x = .int j ∧ j ≤ ks.length) ?_ ?_ ⟨rfl, Nat.le_refl _, fun x hx => nomatch hx⟩
      · rintro i acc δ hi ⟨rfl, hl2, ha⟩ N hN
        have ix : atI (ks.map PyData.str) (0 + (i : Nat) : Int) = some (.str ks[i]) := by
          rw [Int.zero_add]
          exact atI_nat (by rw [List.getElem?_map, List.getElem?_eq_getElem hi]; rfl)
        refine cmpS_at (z := ks[i]) (y := y) (δ := ⟨[some (.sl 0), some (.val (.list (row.map tokD))), some (.val (.list (ks.map PyData.str))), none, some (.val (.str y)), none, some (.val (.int (0 + (i : Nat))))], [.fl ds1]⟩) (ix_at (xs := ks.map PyData.str) rfl rfl ix) (svar_at rfl) rfl _ ?_
        show ((decide (ks[i] = y) = true → (acc.length < sizeLine ∧ N (acc ++ [.int (0 + (i : Nat) + 1)]) ⟨[some (.sl 0), some (.val (.list (row.map tokD))), some (.val (.list (ks.map PyData.str))), none, some (.val (.str y)), none, none], [.fl ds1]⟩)) ∧
          (decide (ks[i] = y) = false → N acc ⟨[some (.sl 0), some (.val (.list (row.map tokD))), some (.val (.list (ks.map PyData.str))), none, some (.val (.str y)), none, none], [.fl ds1]⟩))
        refine ⟨fun _ => ⟨by omega, hN _ _ ⟨rfl, by rw [List.length_append]; show acc.length + 1 ≤ i + 1; omega, fun x hx => (List.mem_append.mp hx).elim (ha x) fun e => ⟨i + 1, ?_, by omega⟩⟩⟩, fun _ => hN _ _ ⟨rfl, by omega, ha⟩⟩
        rw [List.mem_singleton.mp e, Int.zero_add]
        rfl
      · rintro acc δ ⟨rfl, hl2, ha⟩
        show dRet (dIfE (dCmp (cEq false) (dCB fLen (dCons (dVar 5) dNil)) (dC (PyData.int 0))) (dC (PyData.int 0)) (dCall sp__law_pick (dCons (dVar 0) (dCons (dVar 5) dNil)))) (endsD 1 C) ⟨[some (.sl 0), some (.val (.list (row.map tokD))), some (.val (.list (ks.map PyData.str))), none, some (.val (.str y)), some (.val (.list acc)), none], [.fl ds1]⟩
        cases acc with
        | nil =>
          refine ife_t (δ := ⟨[some (.sl 0), some (.val (.list (row.map tokD))), some (.val (.list (ks.map PyData.str))), none, some (.val (.str y)), some (.val (.list [])), none], [.fl ds1]⟩) (fun C h => h) ?_
          exact .inl (h 0 ds1 hrl hd1)
        | cons x acc =>
          refine ife_f (δ := ⟨[some (.sl 0), some (.val (.list (row.map tokD))), some (.val (.list (ks.map PyData.str))), none, some (.val (.str y)), some (.val (.list (x :: acc))), none], [.fl ds1]⟩) (fun C h => ?_) ?_
          · have : decide ((((x :: acc).length : Nat) : Int) = 0) = false := decide_eq_false (by rw [List.length_cons]; omega)
            show C (decide ((((x :: acc).length : Nat) : Int) = 0)) _
            rw [this]
            exact h
          · refine pick_at (ds := ds1) (xs := x :: acc) rfl rfl hd1 (.inl rfl) (svar_at rfl) (by simp) (by omega) fun z hz ds2 hd2 => ?_
            obtain ⟨j, rfl, hj⟩ := ha z hz
            exact .inl (h j ds2 (by omega) hd2)
end K17

namespace K17
open PySem PySem.Spec PyProof.Rows L2 MM
local macro_rules | `(tactic| walk_at "w") => `(tactic| conv => whnf)
/-! ### how many deepening tokens -/
theorem tok_ups {p : Tk} (h : TokOk p) : upN p = if keyOf p ∈ UPS then 1 else 0 := by
  obtain ⟨a, b⟩ := p
  rcases h with (e | e | e) | ⟨e, _⟩ | ⟨e, _⟩
  · have e : a = "name" := e
    subst e
    exact (if_neg (fun q => absurd q.1 (by show ¬ ((("name" : Str) = "word") ∨ (("name" : Str) = "sign")); decide +kernel))).trans (if_neg (by show ("name" : Str) ∉ UPS; decide +kernel)).symm
  · have e : a = "Name" := e
    subst e
    exact (if_neg (fun q => absurd q.1 (by show ¬ ((("Name" : Str) = "word") ∨ (("Name" : Str) = "sign")); decide +kernel))).trans (if_neg (by show ("Name" : Str) ∉ UPS; decide +kernel)).symm
  · have e : a = "wrong" := e
    subst e
    exact (if_neg (fun q => absurd q.1 (by show ¬ ((("wrong" : Str) = "word") ∨ (("wrong" : Str) = "sign")); decide +kernel))).trans (if_neg (by show ("wrong" : Str) ∉ UPS; decide +kernel)).symm
  · have e : a = "word" := e
    subst e
    show (if (("word" : Str) = "word" ∨ ("word" : Str) = "sign") ∧ b ∈ UPS then 1 else 0) = if b ∈ UPS then 1 else 0
    by_cases q : b ∈ UPS
    · rw [if_pos q, if_pos ⟨.inl rfl, q⟩]
    · rw [if_neg q, if_neg (fun p => q p.2)]
  · have e : a = "sign" := e
    subst e
    show (if (("sign" : Str) = "word" ∨ ("sign" : Str) = "sign") ∧ b ∈ UPS then 1 else 0) = if b ∈ UPS then 1 else 0
    by_cases q : b ∈ UPS
    · rw [if_pos q, if_pos ⟨.inr rfl, q⟩]
    · rw [if_neg q, if_neg (fun p => q p.2)]
theorem ups_keys : ∀ {row : List Tk}, (∀ p ∈ row, TokOk p) → ups row = cU (row.map keyOf)
  | [], _ => rfl
  | p :: ps, h => by
    rw [ups, List.map_cons, cU, tok_ups (h p List.mem_cons_self), ups_keys fun q hq => h q (List.mem_cons_of_mem _ hq)]
theorem upN_le (p : Tk) : upN p ≤ 1 := by unfold upN; split <;> omega
theorem ups_drop : ∀ (row : List Tk) (i : Nat), ups (row.drop i) ≤ ups row
  | [], i => by simp
  | p :: ps, 0 => Nat.le_refl _
  | p :: ps, i + 1 => by
    have := ups_drop ps i
    rw [List.drop_succ_cons, ups]
    omega
theorem ups_cut (row : List Tk) (i j : Nat) : ups (row.take i) + ups (row.drop (i + j)) ≤ ups row := by
  have e := congrArg ups (List.take_append_drop i row)
  rw [ups_app] at e
  have d := ups_drop (row.drop i) j
  rw [List.drop_drop] at d
  omega
/-! ### a row that is spoilt -/
def keyP (at_ : Nat) (z : Str) : Bool := decide (at_ = 0) || !decide (z ∈ FIVE)
def KEYW : List Str := SK ++ [("wrong" : Str), "wrong"]
theorem keyw_ok : ∀ z ∈ KEYW, KeyOk z := by
  intro z hz
  rcases List.mem_append.mp hz with h | h
  · exact .inl (keys_sk z h)
  · simp only [List.mem_cons, List.not_mem_nil, or_false, or_self] at h; exact .inr h
def sp__law_spoilt : DSp := fun as m C _ => ∃ (ds : List PyData) (row : List Tk) (at_ : Nat), as = [.sl 0, .val (.list (row.map tokD)), .val (.int at_)] ∧ m = [.fl ds] ∧ DrawOk ds ∧ at_ < row.length ∧ row.length ≤ 10000 ∧ (∀ p ∈ row, TokOk p) ∧
  ∀ (row' : List Tk) ds', DrawOk ds' → (∀ p ∈ row', TokOk p) → row' ≠ [] → row'.length ≤ row.length + 1 → ups row' ≤ ups row + 1 → C (.val (.list (row'.map tokD))) [.fl ds']
theorem nin_at {i j : Nat} {z : Str} {ws : List Str} {δ : DSt} (hi : δ.s[i]? = some (some (.val (.str z)))) (hj : δ.s[j]? = some (some (.val (.list (ws.map PyData.str))))) {b : Bool} (hb : (!decide (z ∈ ws)) = b) : ∀ C : Bool → DSt → Prop, C b δ → dCmp (cIn true) (dVar i) (dVar j) δ C := by
  intro C h
  unfold dCmp dVar
  rw [hi]
  dsimp only
  rw [hj]
  refine ⟨rfl, words_flat ws, ?_⟩
  show C (!(ws.map PyData.str).any fun e => PyData.eqv e (.str z)) δ
  rw [words_any, hb]
  exact h
theorem eqi_at {i : Nat} {k j : Int} {δ : DSt} (hi : δ.s[i]? = some (some (.val (.int k)))) {b : Bool} (hb : decide (k = j) = b) : ∀ C : Bool → DSt → Prop, C b δ → dCmp (cEq false) (dVar i) (dC (.int j)) δ C := by
  intro C h
  unfold dCmp dVar
  rw [hi]
  show C (decide (k = j)) δ
  rw [hb]
  exact h
theorem l__law_spoilt : ∀ as m C Ex, sp__law_spoilt as m C Ex → b__law_spoilt sp__law_pick sp__law_keys sp__law_token sp__law_next (endsD m.length C) (startD N__law_spoilt as m) := by
  rintro as m C Ex ⟨ds, row, at_, rfl, rfl, hd, hat, hl, ht, h⟩
  have hs := DD.sl_line
  have rl : (row.map tokD).length = row.length := List.length_map ..
  unfold b__law_spoilt
  refine seq_set ?_
  refine ⟨by rw [hs]; decide, ?_⟩
  show dSeq _ _ _ ⟨[some (.sl 0), some (.val (.list (row.map tokD))), some (.val (.int at_)), some (.val (.list (FIVE.map PyData.str))), none], [.fl ds]⟩
  refine seq_set ?_
  have wm : ("wrong" : Str) ∈ KEYW.filter (keyP at_) := List.mem_filter.mpr ⟨by decide +kernel, by unfold keyP; rw [show decide (("wrong" : Str) ∈ FIVE) = false by decide +kernel]; simp⟩
  have wl0 : 0 < (KEYW.filter (keyP at_)).length := List.length_pos_iff.mpr fun e => by rw [e] at wm; cases wm
  have wl1 : (KEYW.filter (keyP at_)).length ≤ 31 := List.length_filter_le _ _
  refine pick_at (ds := ds) (xs := (KEYW.filter (keyP at_)).map PyData.str) rfl rfl hd (.inl rfl) (fun C h => ?_) (by rw [List.length_map]; exact wl0) (by rw [List.length_map]; omega) fun x hx ds1 hd1 => ?_
  · unfold dFr
    refine lc_list (xs := KEYW.map PyData.str) (fun C h => ⟨rfl, ⟨by rw [DD.sl_line]; decide, ?_⟩⟩) ?_
    · exact ⟨by rw [DD.sl_line]; decide, h⟩
    refine lcL_inv (P := fun its acc δ => ∃ ks : List Str, its = (ks.map PyData.str).map Ar.val ∧ acc.length + ks.length ≤ 31 ∧ acc ++ (ks.filter (keyP at_)).map PyData.str = (KEYW.filter (keyP at_)).map PyData.str ∧ δ = ⟨[some (.sl 0), some (.val (.list (row.map tokD))), some (.val (.int at_)), some (.val (.list (FIVE.map PyData.str))), none], [.fl ds]⟩) ?_ ?_ _ _ _ ⟨KEYW, rfl, by decide, rfl, rfl⟩
    · rintro d dd acc δ ⟨ks, e1, hl, e2, rfl⟩ N hN
      cases ks with
      | nil => cases e1
      | cons z ks =>
        injection e1 with e1 e1'
        subst e1 e1'
        rw [List.length_cons] at hl
        rw [List.filter_cons] at e2
        have go : ∀ b : Bool, keyP at_ z = b → ((b = true → acc.length < sizeLine ∧ N (acc ++ [.str z]) ⟨[some (.sl 0), some (.val (.list (row.map tokD))), some (.val (.int at_)), some (.val (.list (FIVE.map PyData.str))), none], [.fl ds]⟩) ∧ (b = false → N acc ⟨[some (.sl 0), some (.val (.list (row.map tokD))), some (.val (.int at_)), some (.val (.list (FIVE.map PyData.str))), none], [.fl ds]⟩)) := by
          intro b hb
          refine ⟨fun e => ⟨by omega, hN _ _ ⟨ks, rfl, by rw [List.length_append]; show acc.length + 1 + ks.length ≤ 31; omega, ?_, rfl⟩⟩, fun e => hN _ _ ⟨ks, rfl, by omega, ?_, rfl⟩⟩
          · rw [if_pos (hb.trans e)] at e2
            rw [List.append_assoc]
            exact e2
          · rw [if_neg (by rw [hb, e]; exact Bool.false_ne_true)] at e2
            exact e2
        unfold dgName
        dsimp only
        by_cases a0 : at_ = 0
        · refine or_t (δ' := ⟨[some (.sl 0), some (.val (.list (row.map tokD))), some (.val (.int at_)), some (.val (.list (FIVE.map PyData.str))), some (.val (.str z))], [.fl ds]⟩) (eqi_at (i := 2) (k := at_) (j := 0) rfl (decide_eq_true (by omega))) _ ?_
          exact go true (by unfold keyP; rw [decide_eq_true a0]; rfl)
        · refine or_f (b := !decide (z ∈ FIVE)) (δ' := ⟨[some (.sl 0), some (.val (.list (row.map tokD))), some (.val (.int at_)), some (.val (.list (FIVE.map PyData.str))), some (.val (.str z))], [.fl ds]⟩) (δ2 := ⟨[some (.sl 0), some (.val (.list (row.map tokD))), some (.val (.int at_)), some (.val (.list (FIVE.map PyData.str))), some (.val (.str z))], [.fl ds]⟩) (eqi_at (i := 2) (k := at_) (j := 0) rfl (decide_eq_false (by omega))) (nin_at (i := 4) (j := 3) (z := z) (ws := FIVE) rfl rfl rfl) _ ?_
          exact go _ (by unfold keyP; rw [decide_eq_false a0]; rfl)
    · rintro acc δ ⟨ks, e1, hl, e2, rfl⟩
      cases ks with
      | cons z ks => cases e1
      | nil =>
        have e2 : acc ++ [] = _ := e2
        rw [List.append_nil] at e2
        subst e2
        exact h
  · obtain ⟨key, hkey, rfl⟩ := List.mem_map.mp hx
    have ko := keyw_ok key (List.mem_filter.mp hkey).1
    show dSeq _ _ _ ⟨[some (.sl 0), some (.val (.list (row.map tokD))), some (.val (.int at_)), some (.val (.list (FIVE.map PyData.str))), some (.val (.str key))], [.fl ds1]⟩
    have ct : MM.cutD (row.map tokD) none (some (at_ : Int)) = (row.take at_).map tokD := by rw [cut_to (by omega), List.map_take]
    have ctl : ((row.take at_).map tokD).length ≤ row.length := by rw [List.length_map, List.length_take]; omega
    by_cases e5 : key = ";"
    · refine seqif_t (eqc_at (z := key) rfl (decide_eq_true e5)) ?_
      show 2 ≤ sizeLine ∧ 1 ≤ sizeLine ∧ (MM.cutD (row.map tokD) none (some (at_ : Int))).length + 1 ≤ sizeLine ∧ outM 1 C (.val (.list (MM.cutD (row.map tokD) none (some (at_ : Int)) ++ [tokD ("sign", ";")]))) [.fl ds1]
      rw [ct]
      refine ⟨by omega, by omega, by omega, .inl ?_⟩
      have e : (row.take at_).map tokD ++ [tokD ("sign", ";")] = (row.take at_ ++ [(("sign" : Str), (";" : Str))]).map tokD := by simp
      rw [e]
      refine h _ ds1 hd1 (fun p hp => (List.mem_append.mp hp).elim (fun hp => ht p (List.mem_of_mem_take hp)) fun e => ?_) (by simp) ?_ ?_
      · rw [List.mem_singleton.mp e]; exact .inr (.inr ⟨rfl, by show (";" : Str) ∈ SGNS; decide +kernel⟩)
      · rw [List.length_append, List.length_take]; show min at_ row.length + 1 ≤ row.length + 1; omega
      · rw [ups_app]
        have := ups_cut row at_ 0
        have := upN_le ((("sign" : Str), (";" : Str)))
        show ups (row.take at_) + (upN _ + 0) ≤ ups row + 1
        omega
    · refine seqif_f (eqc_at (z := key) rfl (decide_eq_false e5)) ?_
      refine nx_of ?_
      dsimp only
      have fin : ∀ (p : Tk) (j : Nat) ds', TokOk p → j ≤ 1 → at_ + j ≤ row.length → DrawOk ds' → ((row.take at_).map tokD ++ [tokD p]).length + ((row.drop (at_ + j)).map tokD).length ≤ sizeLine ∧ outM 1 C (.val (.list ((row.take at_).map tokD ++ [tokD p] ++ (row.drop (at_ + j)).map tokD))) [.fl ds'] := by
        intro p j ds' hp hj hj2 hd'
        refine ⟨?_, .inl ?_⟩
        · simp only [List.length_append, List.length_map, List.length_take, List.length_drop, List.length_cons, List.length_nil]; omega
        have e : (row.take at_).map tokD ++ [tokD p] ++ (row.drop (at_ + j)).map tokD = (row.take at_ ++ p :: row.drop (at_ + j)).map tokD := by simp
        rw [e]
        refine h _ ds' hd' (fun q hq => ?_) (by simp) ?_ ?_
        · rcases List.mem_append.mp hq with hq | hq
          · exact ht q (List.mem_of_mem_take hq)
          · rcases List.mem_cons.mp hq with rfl | hq
            · exact hp
            · exact ht q (List.mem_of_mem_drop hq)
        · simp only [List.length_append, List.length_take, List.length_drop, List.length_cons]; omega
        · rw [ups_app, ups]
          have := ups_cut row at_ j
          have := upN_le p
          omega
      have step2 : ∀ (p : Tk) ds2, TokOk p → DrawOk ds2 → ∀ K : Ar → DSt → Prop, (∀ (j : Nat) ds', j ≤ 1 → at_ + j ≤ row.length → DrawOk ds' → K (.val (.list ((row.drop (at_ + j)).map tokD))) ⟨[some (.sl 0), some (.val (.list (row.map tokD))), some (.val (.int at_)), some (.val (.list (FIVE.map PyData.str))), some (.val (.str key))], [.fl ds']⟩) →
          dSl (dVar 1) (doSome (dBin aAddL (dVar 2) (dIfE (dCmp (cEq false) (dVar 2) (dC (.int 0))) (dC (.int 1)) (dCall sp__law_next (dCons (dVar 0) (dCons (dC (.int 2)) dNil)))))) doNone ⟨[some (.sl 0), some (.val (.list (row.map tokD))), some (.val (.int at_)), some (.val (.list (FIVE.map PyData.str))), some (.val (.str key))], [.fl ds2]⟩ K := by
        intro p ds2 hp hd2 K hK
        have fin2 : ∀ (j : Nat) ds', j ≤ 1 → at_ + j ≤ row.length → DrawOk ds' → K (.val (.list (MM.cutD (row.map tokD) (some ((at_ : Int) + (j : Int))) none))) ⟨[some (.sl 0), some (.val (.list (row.map tokD))), some (.val (.int at_)), some (.val (.list (FIVE.map PyData.str))), some (.val (.str key))], [.fl ds']⟩ := by
          intro j ds' h1 h2 h3
          have e : (at_ : Int) + (j : Int) = ((at_ + j : Nat) : Int) := by omega
          rw [e, cut_from (by omega), ← List.map_drop]
          exact hK j ds' h1 h2 h3
        by_cases a0 : at_ = 0
        · refine ife_t (δ := ⟨[some (.sl 0), some (.val (.list (row.map tokD))), some (.val (.int at_)), some (.val (.list (FIVE.map PyData.str))), some (.val (.str key))], [.fl ds2]⟩) (eqi_at (i := 2) (k := at_) (j := 0) rfl (decide_eq_true (by omega))) ?_
          exact fin2 1 ds2 (Nat.le_refl _) (by omega) hd2
        · refine ife_f (δ := ⟨[some (.sl 0), some (.val (.list (row.map tokD))), some (.val (.int at_)), some (.val (.list (FIVE.map PyData.str))), some (.val (.str key))], [.fl ds2]⟩) (eqi_at (i := 2) (k := at_) (j := 0) rfl (decide_eq_false (by omega))) ?_
          refine next_at (ds := ds2) (k := 2) rfl rfl hd2 (fun C h => h) (by decide) (by decide) fun r ds' r0 r1 hd' => ?_
          obtain ⟨j, rfl⟩ : ∃ k : Nat, r = (k : Int) := ⟨r.toNat, (Int.toNat_of_nonneg r0).symm⟩
          exact fin2 j ds' (by omega) (by omega) hd'
      have lst : dBin aAddL (dSl (dVar 1) doNone (doSome (dVar 2))) (dFr (dLstN (dCons (dCall sp__law_token (dCons (dVar 0) (dCons (dVar 4) dNil))) dNil))) ⟨[some (.sl 0), some (.val (.list (row.map tokD))), some (.val (.int at_)), some (.val (.list (FIVE.map PyData.str))), some (.val (.str key))], [.fl ds1]⟩ (fun a δ1 => dSl (dVar 1) (doSome (dBin aAddL (dVar 2) (dIfE (dCmp (cEq false) (dVar 2) (dC (.int 0))) (dC (.int 1)) (dCall sp__law_next (dCons (dVar 0) (dCons (dC (.int 2)) dNil)))))) doNone δ1 fun b δ2 => match rv a, rv b with
          | some d, some e => aAddL d e fun z => (endsD 1 C).rt (.val z) δ2
          | _, _ => False) := by
        refine tokc_at (i := 0) (δ := ⟨[some (.sl 0), some (.val (.list (row.map tokD))), some (.val (.int at_)), some (.val (.list (FIVE.map PyData.str))), some (.val (.str key))], [.fl ds1]⟩) (ds := ds1) (key := key) rfl rfl hd1 (svar_at (i := 4) rfl) ko fun p ds2 hp hk2 hd2 => ?_
        show 1 ≤ sizeLine ∧ (MM.cutD (row.map tokD) none (some (at_ : Int))).length + 1 ≤ sizeLine ∧ dSl _ _ _ ⟨[some (.sl 0), some (.val (.list (row.map tokD))), some (.val (.int at_)), some (.val (.list (FIVE.map PyData.str))), some (.val (.str key))], [.fl ds2]⟩ (fun b δ2 => match rv (Ar.val (.list (MM.cutD (row.map tokD) none (some (at_ : Int)) ++ [tokD p]))), rv b with
          | some d, some e => aAddL d e fun z => (endsD 1 C).rt (.val z) δ2
          | _, _ => False)
        rw [ct]
        refine ⟨by omega, by omega, ?_⟩
        refine step2 p ds2 hp hd2 _ fun j ds' h1 h2 h3 => ?_
        exact fin p j ds' hp h1 h2 h3
      exact lst
end K17

namespace K17
open PySem PySem.Spec PyProof.Rows L2 MM
local macro_rules | `(tactic| walk_at "w") => `(tactic| conv => whnf)
/-! ### a row that is ended -/
theorem run_sm : ∀ (ks : List Str) (k : Nat) (L : List Str), (∀ s ∈ ks, KeyOk s) → (";" : Str) ∉ ks → (L = [("<item>" : Str)] ∨ Sm L) → ((lawRun ks k L).2 = [("<item>" : Str)] ∨ Sm (lawRun ks k L).2)
  | [], k, L, _, _, h => h
  | s :: ks, k, L, hk, hn, h => by
    rw [lawRun]
    cases e : stepL s L with
    | none => exact h
    | some L' =>
      have hs : St L := .inr h
      obtain ⟨sk, _, _⟩ := key_step (hk s List.mem_cons_self) hs e
      have sm : Sm L' := by
        rcases st_step sk hs e with ⟨q, _⟩ | ⟨_, q⟩
        · exact absurd (q ▸ List.mem_cons_self) hn
        · exact q
      exact run_sm ks (k + 1) L' (fun x hx => hk x (List.mem_cons_of_mem _ hx)) (fun q => hn (List.mem_cons_of_mem _ q)) (.inr sm)
theorem sm_ne {L : List Str} (h : L = [("<item>" : Str)] ∨ Sm L) : L ≠ [] := by
  rcases h with rfl | h
  · simp
  · obtain ⟨L', e, _⟩ := h.bot
    rw [e]
    simp
theorem noUp_cU : ∀ {L : List Str}, noUp L = true → cU L = 0
  | [], _ => rfl
  | z :: L, h => by
    have h : (decide (z ∉ UPS) && noUp L) = true := h
    rw [Bool.and_eq_true] at h
    rw [cU, if_neg (of_decide_eq_true h.1), noUp_cU h.2]
theorem sm_cU {L : List Str} (h : Sm L) : cU L ≤ 1 := by
  have u := h.ups
  cases L with
  | nil => exact Nat.zero_le _
  | cons z L =>
    rw [cU, noUp_cU (show noUp L = true from u)]
    split <;> omega
theorem srt_ne {L : List Str} (h : LSy L) (hn : L ≠ []) : srt (firstL L) ≠ [] := by
  have f := first_ne hn
  cases e : firstL L with
  | nil => exact absurd e f
  | cons x l =>
    have hx : x ∈ firstL L := by rw [e]; exact List.mem_cons_self
    have : x ∈ srt (firstL L) := List.mem_filter.mpr ⟨sk_keys x (first_keys h x hx), decide_eq_true hx⟩
    rw [e] at this
    intro q
    rw [q] at this
    cases this
theorem srt_some {L : List Str} {s : Str} (h : s ∈ srt (firstL L)) : s ∈ KEYS ∧ ∃ L', stepL s L = some L' := by
  rw [srt_step] at h
  obtain ⟨h1, h2⟩ := List.mem_filter.mp h
  exact ⟨keys_sk s h1, Option.isSome_iff_exists.mp h2⟩
theorem step_at {fa : DTA} {δ : DSt} {L : List Str} {s : Str} (hg : ∀ C : List Ar → DSt → Prop, C [.sl 1, .val (stkD L), .val (.str s)] δ → fa δ C) (hR : RC δ.m) (hl : L.length ≤ 100000) (ha : Adj L = true) (hs : s ≠ "-") : ∀ C : Ar → DSt → Prop, C (.val (stepA (stepL s L))) δ → dCallG sp__law_step fa δ C :=
  fun C h => callG_at hg ⟨L, s, rfl, hR, hl, loop900 hs ha, h⟩
theorem ix1_at {fa : DTE} {δ : DSt} {a b : PyData} (hf : ∀ C : Ar → DSt → Prop, C (.val (.list [a, b])) δ → fa δ C) : ∀ C : Ar → DSt → Prop, C (.val b) δ → dIx fa (dC (.int 1)) δ C := fun C h => hf _ h
theorem ret_add {fa : DTE} {fl : DSt → (List PyData → DSt → Prop) → Prop} {D : DEnds} {δ : DSt} {xs : List PyData} (ha : ∀ C : Ar → DSt → Prop, C (.val (.list xs)) δ → fa δ C) (h : fl δ fun ys δ2 => xs.length + ys.length ≤ sizeLine ∧ D.rt (.val (.list (xs ++ ys))) δ2) : dRet (dBin aAddL fa (dFr fl)) D δ := ha _ h
def sp__law_ended : DSp := fun as m C _ => ∃ (ds : List PyData) (T : List Mo) (row : List Tk) (at_ : Nat), as = [.sl 0, .sl 1, .val (.list (row.map tokD)), .val (.int at_)] ∧ m = .fl ds :: T ∧ DrawOk ds ∧ RC m ∧ (∀ p ∈ row, TokOk p) ∧ at_ < row.length ∧ row.length ≤ 2000 ∧ (";" : Str) ∉ (row.take at_).map keyOf ∧
  ∀ (row' : List Tk) ds', DrawOk ds' → (∀ p ∈ row', TokOk p) → row' ≠ [] → row'.length ≤ row.length + 1501 → ups row' ≤ ups row + 4 → C (.val (.list (row'.map tokD))) (.fl ds' :: T)
/-- the tokens of a row of keys, drawn -/
theorem l__law_ended : ∀ as m C Ex, sp__law_ended as m C Ex → b__law_ended sp__law_first_wrong sp__law_pick sp__law_could sp__law_grown sp__law_step sp__law_token (endsD m.length C) (startD N__law_ended as m) := by
  rintro as m C Ex ⟨ds, T, row, at_, rfl, rfl, hd, hR, ht, hat, hl, hsc, h⟩
  have hs := DD.sl_line
  have rl : (row.map tokD).length = row.length := List.length_map ..
  have ct : MM.cutD (row.map tokD) none (some (at_ : Int)) = (row.take at_).map tokD := by rw [cut_to (by omega), List.map_take]
  have htt : ∀ p ∈ row.take at_, TokOk p := fun p hp => ht p (List.mem_of_mem_take hp)
  obtain ⟨f1, f2, -⟩ := fw_st htt
  have hsm : (FW (row.take at_)).2 = [("<item>" : Str)] ∨ Sm (FW (row.take at_)).2 := run_sm _ 0 _ (fun s hs => by obtain ⟨p, hp, rfl⟩ := List.mem_map.mp hs; exact tok_key (htt p hp)) hsc (.inl rfl)
  unfold b__law_ended
  refine seq_set ?_
  refine ix1_at (a := .int (FW (row.take at_)).1) (b := stkD (FW (row.take at_)).2) (fun C h => callG_at (as := [.sl 1, .val (.list ((row.take at_).map tokD))]) (cons_at (svar_at rfl) (cons_at (fun C h => ?_) nil_at)) ⟨row.take at_, rfl, hR, htt, by rw [List.length_take]; omega, h⟩) _ ?_
  · show C (.val (.list (MM.cutD (row.map tokD) none (some (at_ : Int))))) _
    rw [ct]
    exact h
  generalize (FW (row.take at_)).1 = w
  generalize (FW (row.take at_)).2 = L at f1 f2 hsm
  show dSeq _ _ _ ⟨[some (.sl 0), some (.sl 1), some (.val (.list (row.map tokD))), some (.val (.int at_)), some (.val (stkD L)), none, none, none], .fl ds :: T⟩
  have hLn := sm_ne hsm
  have hLl0 : L.length ≤ 20000 := by rw [List.length_take] at f2; omega
  have hLl : L.length ≤ 100000 := by omega
  refine seq_set ?_
  have sn := srt_ne f1.sy hLn
  have sl := srt_len (firstL L)
  refine pick_at (ds := ds) (xs := (srt (firstL L)).map PyData.str) rfl rfl hd (.inr rfl) (fun C h => callG_at (as := [.sl 1, .val (stkD L)]) (cons_at (svar_at rfl) (cons_at (svar_at rfl) nil_at)) ⟨L, rfl, hR, hLl, f1, h⟩) (by rw [List.length_map]; exact List.length_pos_iff.mpr sn) (by rw [List.length_map]; omega) fun x hx ds1 hd1 => ?_
  obtain ⟨key, hkey, rfl⟩ := List.mem_map.mp hx
  obtain ⟨kk, L', hst⟩ := srt_some hkey
  have hR1 : RC (.fl ds1 :: T) := hR.head
  show dSeq _ _ _ ⟨[some (.sl 0), some (.sl 1), some (.val (.list (row.map tokD))), some (.val (.int at_)), some (.val (stkD L)), some (.val (.str key)), none, none], .fl ds1 :: T⟩
  refine seq_set ?_
  have hL' := step_len kk hst
  have hGI : ∃ c0, c0 ≤ 1 ∧ GI c0 0 [] L' := by
    rcases st_step kk f1 hst with ⟨_, rfl⟩ | ⟨_, sm⟩
    · exact ⟨0, by omega, fun x hx => (nomatch hx), .inr ⟨rfl, by simp⟩, Nat.le_refl _⟩
    · obtain ⟨B, eB, hB⟩ := sm.bot
      refine ⟨cU L', sm_cU sm, fun x hx => (nomatch hx), .inl ⟨by simp, B, eB, hB⟩, ?_⟩
      show 0 + cU L' ≤ cU L' + 2 * min 0 0 + _
      omega
  obtain ⟨c0, hc0, hGI⟩ := hGI
  refine callG_at (as := [.sl 0, .sl 1, .val (stkD L'), .val (.int 0)]) (cons_at (svar_at rfl) (cons_at (svar_at rfl) (cons_at (fun C h => ?_) (cons_at (fun C h => h) nil_at)))) ?_
  · refine step_at (L := L) (s := key) (cons_at (svar_at rfl) (cons_at (svar_at rfl) (cons_at (svar_at rfl) nil_at))) hR1 hLl f1.adj (key_dash (.inl kk)) C ?_
    rw [hst]
    exact h
  refine ⟨ds1, T, L', 0, c0, rfl, rfl, hd1, hR1, hGI, by omega, fun keys ds2 hd2 k1 k2 k3 k4 => ?_⟩
  show dRet _ _ ⟨[some (.sl 0), some (.sl 1), some (.val (.list (row.map tokD))), some (.val (.int at_)), some (.val (stkD L)), some (.val (.str key)), some (.val (.list (keys.map PyData.str))), none], .fl ds2 :: T⟩
  refine ret_add (xs := (row.take at_).map tokD) (fun C h => ?_) ?_
  · show C (.val (.list (MM.cutD (row.map tokD) none (some (at_ : Int))))) _
    rw [ct]
    exact h
  refine lc_list (xs := (key :: keys).map PyData.str) (fun C h => ?_) ?_
  · exact ⟨by show 1 ≤ sizeLine; omega, ⟨by show 1 + (keys.map PyData.str).length ≤ sizeLine; rw [List.length_map]; omega, h⟩⟩
  refine lcL_inv (P := fun its acc δ => ∃ (r1 : List Tk) (k2 : List Str) (ds' : List PyData), r1.map keyOf ++ k2 = key :: keys ∧ (∀ p ∈ r1, TokOk p) ∧ its = (k2.map PyData.str).map Ar.val ∧ acc = r1.map tokD ∧ DrawOk ds' ∧ δ = ⟨[some (.sl 0), some (.sl 1), some (.val (.list (row.map tokD))), some (.val (.int at_)), some (.val (stkD L)), some (.val (.str key)), some (.val (.list (keys.map PyData.str))), none], .fl ds' :: T⟩) ?_ ?_ _ _ _ ⟨[], key :: keys, ds2, rfl, fun p hp => (nomatch hp), rfl, rfl, hd2, rfl⟩
  · rintro d dd acc δ ⟨r1, k2, ds', e1, e2, e3, rfl, hd', rfl⟩ N hN
    cases k2 with
    | nil => cases e3
    | cons z k2 =>
      injection e3 with e3 e4
      subst e3 e4
      have hz : z ∈ key :: keys := by rw [← e1]; simp
      have zk : z ∈ KEYS := (List.mem_cons.mp hz).elim (fun e => e ▸ kk) (k1 z)
      have l1 := congrArg List.length e1
      rw [List.length_append, List.length_cons, List.length_cons, List.length_map] at l1
      refine ⟨fun _ => ?_, (nomatch ·)⟩
      unfold dgName at *
      refine tokc_at (i := 0) (δ := ⟨[some (.sl 0), some (.sl 1), some (.val (.list (row.map tokD))), some (.val (.int at_)), some (.val (stkD L)), some (.val (.str key)), some (.val (.list (keys.map PyData.str))), some (.val (.str z))], .fl ds' :: T⟩) (ds := ds') (key := z) rfl rfl hd' (svar_at (i := 7) rfl) (.inl zk) fun p ds3 hp hk3 hd3 => ?_
      refine ⟨by rw [List.length_map]; omega, hN _ _ ⟨r1 ++ [p], k2, ds3, by rw [← e1]; simp [hk3], fun q hq => (List.mem_append.mp hq).elim (e2 q) (fun e => by rw [List.mem_singleton.mp e]; exact hp), rfl, by simp, hd3, rfl⟩⟩
  · rintro acc δ ⟨r1, k2, ds', e1, e2, e3, rfl, hd', rfl⟩
    cases k2 with
    | cons z k2 => cases e3
    | nil =>
      rw [List.append_nil] at e1
      have l1 := congrArg List.length e1
      rw [List.length_cons, List.length_map] at l1
      have tl : (row.take at_).length ≤ row.length := by rw [List.length_take]; omega
      rw [← List.map_append]
      refine ⟨by rw [List.length_map, List.length_map]; omega, .inl ?_⟩
      have hr1 : ups r1 ≤ 4 := by
        rw [ups_keys e2, e1, cU]
        have : (if key ∈ UPS then 1 else 0) ≤ 1 := by split <;> omega
        omega
      refine h _ ds' hd' (fun p hp => (List.mem_append.mp hp).elim (htt p) (e2 p)) (fun q => ?_) (by rw [List.length_append]; omega) ?_
      · have := congrArg List.length q
        rw [List.length_append, List.length_nil] at this
        omega
      · rw [ups_app]
        have := ups_cut row at_ 0
        omega
end K17

namespace K17
open PySem PySem.Spec PyProof.Rows L2 MM
local macro_rules | `(tactic| walk_at "w") => `(tactic| conv => whnf)
def sp_law : DSp := fun as m C _ => ∃ (ns : List Int), as = [.val (.list (ns.map PyData.int))] ∧ m = [] ∧ C (.val (.bool true)) m
theorem gti_at {i : Nat} {k j : Int} {δ : DSt} (hi : δ.s[i]? = some (some (.val (.int k)))) {b : Bool} (hb : decide (k > j) = b) : ∀ C : Bool → DSt → Prop, C b δ → dCmp cGt (dVar i) (dC (.int j)) δ C := by
  intro C h
  unfold dCmp dVar
  rw [hi]
  show C (decide (k > j)) δ
  rw [hb]
  exact h
theorem cons_k {f : DTE} {g : DTA} {δ : DSt} {C : List Ar → DSt → Prop} (h : f δ fun a δ1 => g δ1 fun as δ2 => C (a :: as) δ2) : dCons f g δ C := h
theorem callG_k {d : DSp} {g : DTA} {δ : DSt} {C : Ar → DSt → Prop} (h : g δ fun as δ1 => d as δ1.m (fun r m' => C r ⟨δ1.s, m'⟩) (fun x m' => EF x δ1.s m')) : dCallG d g δ C := h
theorem bin_k {r : DOp} {fa fb : DTE} {δ : DSt} {C : Ar → DSt → Prop} (h : fa δ fun a δ1 => fb δ1 fun b δ2 => match rv a, rv b with
    | some d, some e => r d e fun z => C (.val z) δ2
    | _, _ => False) : dBin r fa fb δ C := h
theorem cst_k {d : PyData} {δ : DSt} {C : Ar → DSt → Prop} (h : C (.val d) δ) : dC d δ C := h
/-- a row of tokens that the law may ask of -/
structure RowOk (n u : Nat) (row : List Tk) : Prop where
  tok : ∀ p ∈ row, TokOk p
  ne : row ≠ []
  len : row.length ≤ n
  up : ups row ≤ u
theorem right_sp {δ : DSt} {row : List Tk} {C : Ar → DSt → Prop} (hR : RC δ.m) (h : RowOk 3900 60 row) (k : C (.val (.bool true)) δ) : sp__law_right [.sl 1, .val (.list (row.map tokD))] δ.m (fun r m' => C r ⟨δ.s, m'⟩) (fun _ _ => False) :=
  ⟨row, rfl, hR, h.tok, h.ne, h.len, h.up, k⟩
theorem place_at {δ : DSt} {ds : List PyData} {row : List Tk} {C : Ar → DSt → Prop} (h1 : δ.s[1]? = some (some (.sl 0))) (h6 : δ.s[6]? = some (some (.val (.list (row.map tokD))))) (h0 : δ.m[0]? = some (.fl ds)) (hd : DrawOk ds) (ht : ∀ p ∈ row, TokOk p) (hk : ∀ p ∈ row, keyOf p ∈ KEYS) (hn : row ≠ []) (hl : row.length ≤ 10000)
    (h : ∀ (at_ : Nat) ds', at_ < row.length → DrawOk ds' → C (.val (.int at_)) ⟨δ.s, δ.m.set 0 (.fl ds')⟩) : dCall sp__law_place (dCons (dVar 1) (dCons (dVar 6) dNil)) δ C := by
  refine cons_at (svar_at h1) (cons_at (svar_at h6) nil_at) _ ?_
  show callL sp__law_place [.sl 0, .val (.list (row.map tokD))] δ C
  unfold callL
  rw [show dedN (refsL [Ar.sl 0, Ar.val (.list (row.map tokD))]) = [0] from rfl, loc0 h0]
  exact ⟨ds, row, rfl, rfl, hd, ht, hk, hn, hl, fun at_ ds' g1 g2 => h at_ ds' g1 g2⟩
theorem spoilt_at {δ : DSt} {ds : List PyData} {row : List Tk} {at_ : Nat} {C : Ar → DSt → Prop} (h1 : δ.s[1]? = some (some (.sl 0))) (h6 : δ.s[6]? = some (some (.val (.list (row.map tokD))))) (h9 : δ.s[9]? = some (some (.val (.int at_)))) (h0 : δ.m[0]? = some (.fl ds)) (hd : DrawOk ds) (hat : at_ < row.length) (hl : row.length ≤ 10000) (ht : ∀ p ∈ row, TokOk p)
    (h : ∀ (row' : List Tk) ds', DrawOk ds' → (∀ p ∈ row', TokOk p) → row' ≠ [] → row'.length ≤ row.length + 1 → ups row' ≤ ups row + 1 → C (.val (.list (row'.map tokD))) ⟨δ.s, δ.m.set 0 (.fl ds')⟩) : dCall sp__law_spoilt (dCons (dVar 1) (dCons (dVar 6) (dCons (dVar 9) dNil))) δ C := by
  refine cons_at (svar_at h1) (cons_at (svar_at h6) (cons_at (svar_at h9) nil_at)) _ ?_
  show callL sp__law_spoilt [.sl 0, .val (.list (row.map tokD)), .val (.int at_)] δ C
  unfold callL
  rw [show dedN (refsL [Ar.sl 0, Ar.val (.list (row.map tokD)), Ar.val (.int at_)]) = [0] from rfl, loc0 h0]
  exact ⟨ds, row, at_, rfl, rfl, hd, hat, hl, ht, fun row' ds' g1 g2 g3 g4 g5 => h row' ds' g1 g2 g3 g4 g5⟩
theorem grown_at {fs : DTE} {s : List (Option Ar)} {ds : List PyData} {T : List Mo} {L : List Str} {c0 : Nat} {C : Ar → DSt → Prop} (h1 : s[1]? = some (some (.sl 0))) (h2 : s[2]? = some (some (.sl 1))) (hs : ∀ C : Ar → DSt → Prop, C (.val (stkD L)) ⟨s, .fl ds :: T⟩ → fs ⟨s, .fl ds :: T⟩ C) (hd : DrawOk ds) (hR : RC (.fl ds :: T)) (hc : c0 ≤ 1) (hG : ∀ many, GI c0 many [] L) (hL : L.length ≤ 100000)
    (h : ∀ (keys : List Str) ds', DrawOk ds' → (∀ x ∈ keys, x ∈ KEYS) → (";" : Str) ∉ keys.dropLast → cU keys ≤ 31 → keys.length ≤ 1500 → C (.val (.list (keys.map PyData.str))) ⟨s, .fl ds' :: T⟩) :
    dCallG sp__law_grown (dCons (dVar 1) (dCons (dVar 2) (dCons fs (dCons (dBin aAddL (dC (.int 2)) (dCall sp__law_next (dCons (dVar 1) (dCons (dC (.int 13)) dNil)))) dNil)))) ⟨s, .fl ds :: T⟩ C := by
  refine callG_k (cons_k (svar_at h1 _ (cons_k (svar_at h2 _ (cons_k (hs _ (cons_k (bin_k (cst_k ?_)))))))))
  refine next_at (δ := ⟨s, .fl ds :: T⟩) (ds := ds) (k := 13) h1 rfl hd (fun C h => h) (by decide) (by decide) fun r ds' r0 r1 hd' => ?_
  obtain ⟨j, rfl⟩ : ∃ k : Nat, r = (k : Int) := ⟨r.toNat, (Int.toNat_of_nonneg r0).symm⟩
  have e : (2 : Int) + (j : Int) = ((2 + j : Nat) : Int) := by omega
  show sp__law_grown [.sl 0, .sl 1, .val (stkD L), .val (.int (2 + (j : Int)))] (.fl ds' :: T) (fun r m' => C r ⟨s, m'⟩) (fun x m' => EF x s m')
  rw [e]
  exact ⟨ds', T, L, 2 + j, c0, rfl, rfl, hd', hR.head, hG _, hL, fun keys ds2 g1 g2 g3 g4 g5 => h keys ds2 g1 g2 g3 (by omega) g5⟩
theorem five_keys : ∀ s ∈ FIVE, s ∈ KEYS ∧ s ≠ ";" ∧ s ∉ UPS ∧ s ≠ "-" := by decide +kernel
theorem five_step {s : Str} (h : s ∈ FIVE) : ∃ L, stepL s [("<item>" : Str)] = some L ∧ Sm L ∧ L.length ≤ 100 := by
  obtain ⟨_, r2, _⟩ := five_row s h
  obtain ⟨k1, k2, _⟩ := five_keys s h
  refine ⟨_, r2, ?_, ?_⟩
  · rcases st_step k1 st_item r2 with ⟨q, _⟩ | ⟨_, q⟩
    · exact absurd q k2
    · exact q
  · have := step_len k1 r2
    show _ ≤ 100
    have : ([("<item>" : Str)]).length = 1 := rfl
    omega
theorem take_drop {l : List Str} {n : Nat} (h : n < l.length) {x : Str} (hx : x ∈ l.take n) : x ∈ l.dropLast := by
  rw [List.dropLast_eq_take]
  have : l.take n = (l.take (l.length - 1)).take n := by rw [List.take_take, Nat.min_eq_left (by omega)]
  rw [this] at hx
  exact List.mem_of_mem_take hx
end K17

namespace K17
open PySem PySem.Spec PyProof.Rows L2 MM
local macro_rules | `(tactic| walk_at "w") => `(tactic| conv => whnf)
/-! ### the law -/
theorem not_tru_k {f : DTE} {δ : DSt} {C : Bool → DSt → Prop} (h : f δ fun a δ1 => match rd δ1 a with
    | some d => truD d fun b => C (!b) δ1
    | _ => False) : dNot (dTru f) δ C := h
theorem if_k {tt : DTT} {g h : DTS} {D : DEnds} {δ : DSt} (k : tt δ fun b δ1 => (b = true → g D δ1) ∧ (b = false → h D δ1)) : dIf tt g h D δ := k
theorem or_k {tt u : DTT} {δ : DSt} {C : Bool → DSt → Prop} (k : tt δ fun b δ1 => (b = true → C true δ1) ∧ (b = false → u δ1 C)) : dOr tt u δ C := k
theorem andv_k {f g : DTE} {D : DEnds} {δ : DSt} (k : f δ fun a δ1 => match a with
    | .val (.bool b) => (b = true → g δ1 fun a δ2 => D.rt a δ2) ∧ (b = false → D.rt (.val (.bool false)) δ1)
    | _ => False) : dRet (dAndV f g) D δ := k
theorem nright_k {i : Nat} {fr : DTE} {δ : DSt} {C : Bool → DSt → Prop} (h2 : δ.s[i]? = some (some (.sl 1))) (hr : fr δ fun a δ1 => sp__law_right [.sl 1, a] δ1.m (fun r m' => match rd ⟨δ1.s, m'⟩ r with
    | some d => truD d fun b => C (!b) ⟨δ1.s, m'⟩
    | _ => False) (fun x m' => EF x δ1.s m')) : dNot (dTru (dCallG sp__law_right (dCons (dVar i) (dCons fr dNil)))) δ C := not_tru_k (callG_k (cons_k (svar_at h2 _ hr)))
theorem right_k {i : Nat} {fr : DTE} {δ : DSt} {C : Ar → DSt → Prop} (h2 : δ.s[i]? = some (some (.sl 1))) (hr : fr δ fun a δ1 => sp__law_right [.sl 1, a] δ1.m (fun r m' => C r ⟨δ1.s, m'⟩) (fun x m' => EF x δ1.s m')) : dCallG sp__law_right (dCons (dVar i) (dCons fr dNil)) δ C := callG_k (cons_k (svar_at h2 _ hr))
theorem nright_fin {row : List Tk} {δ : DSt} {C : Bool → DSt → Prop} {X : Str → List Mo → Prop} (hR : RC δ.m) (h : RowOk 3900 60 row) (k : C false δ) : sp__law_right [.sl 1, .val (.list (row.map tokD))] δ.m (fun r m' => match rd ⟨δ.s, m'⟩ r with
    | some d => truD d fun b => C (!b) ⟨δ.s, m'⟩
    | _ => False) X := ⟨row, rfl, hR, h.tok, h.ne, h.len, h.up, k⟩
theorem right_fin {row : List Tk} {δ : DSt} {C : Ar → DSt → Prop} {X : Str → List Mo → Prop} (hR : RC δ.m) (h : RowOk 3900 60 row) (k : C (.val (.bool true)) δ) : sp__law_right [.sl 1, .val (.list (row.map tokD))] δ.m (fun r m' => C r ⟨δ.s, m'⟩) X := ⟨row, rfl, hR, h.tok, h.ne, h.len, h.up, k⟩
theorem ended_at {s : List (Option Ar)} {ds : List PyData} {T : List Mo} {row : List Tk} {at_ : Nat} {C : Ar → DSt → Prop} (h1 : s[1]? = some (some (.sl 0))) (h2 : s[2]? = some (some (.sl 1))) (h6 : s[6]? = some (some (.val (.list (row.map tokD))))) (h9 : s[9]? = some (some (.val (.int at_)))) (hd : DrawOk ds) (hR : RC (.fl ds :: T)) (ht : ∀ p ∈ row, TokOk p) (hat : at_ < row.length) (hl : row.length ≤ 2000) (hs : (";" : Str) ∉ (row.take at_).map keyOf)
    (h : ∀ (row' : List Tk) ds', DrawOk ds' → (∀ p ∈ row', TokOk p) → row' ≠ [] → row'.length ≤ row.length + 1501 → ups row' ≤ ups row + 4 → C (.val (.list (row'.map tokD))) ⟨s, .fl ds' :: T⟩) : dCallG sp__law_ended (dCons (dVar 1) (dCons (dVar 2) (dCons (dVar 6) (dCons (dVar 9) dNil)))) ⟨s, .fl ds :: T⟩ C :=
  callG_at (as := [.sl 0, .sl 1, .val (.list (row.map tokD)), .val (.int at_)]) (cons_at (svar_at h1) (cons_at (svar_at h2) (cons_at (svar_at h6) (cons_at (svar_at h9) nil_at)))) ⟨ds, T, row, at_, rfl, rfl, hd, hR, ht, hat, hl, hs, fun row' ds' g1 g2 g3 g4 g5 => h row' ds' g1 g2 g3 g4 g5⟩
theorem slto_at {i j : Nat} {xs ys : List PyData} {n : Nat} {δ : DSt} (hi : δ.s[i]? = some (some (.val (.list xs)))) (hj : δ.s[j]? = some (some (.val (.int n)))) (e : MM.cutD xs none (some (n : Int)) = ys) : ∀ C : Ar → DSt → Prop, C (.val (.list ys)) δ → dSl (dVar i) doNone (doSome (dVar j)) δ C := by
  intro C h
  unfold dSl
  refine svar_at hi _ ?_
  unfold doNone doSome
  refine svar_at hj _ ?_
  show C (.val (.list (MM.cutD xs none (some (n : Int))))) δ
  rw [e]
  exact h
/-- the law's own row, and what is known of its keys -/
structure Grown (row : List Tk) : Prop where
  ok : RowOk 1501 31 row
  key : ∀ p ∈ row, keyOf p ∈ KEYS
  semi : ∀ n, n < row.length → (";" : Str) ∉ (row.take n).map keyOf
theorem RowOk.more {n n' u u' row} (h : RowOk n u row) (hn : n ≤ n') (hu : u ≤ u') : RowOk n' u' row := ⟨h.tok, h.ne, Nat.le_trans h.len hn, Nat.le_trans h.up hu⟩
theorem Grown.cut {row} (h : Grown row) {n : Nat} (hn : 0 < n) (hl : n < row.length) : RowOk 3900 60 (row.take n) := by
  have l := h.ok.len
  have u := h.ok.up
  have c := ups_cut row n 0
  refine ⟨fun p hp => h.ok.tok p (List.mem_of_mem_take hp), fun q => ?_, by rw [List.length_take]; omega, by omega⟩
  have := congrArg List.length q
  rw [List.length_take, List.length_nil] at this
  omega
theorem grown_ok {first : Str} {keys : List Str} {row : List Tk} (hf : first ∈ FIVE) (hk : ∀ x ∈ keys, x ∈ KEYS) (hs : (";" : Str) ∉ keys.dropLast) (hu : cU keys ≤ 31) (hl : keys.length ≤ 1500) (e : row.map keyOf = first :: keys) (ht : ∀ p ∈ row, TokOk p) : Grown row := by
  obtain ⟨k1, k2, k3, _⟩ := five_keys first hf
  have len : row.length = keys.length + 1 := by have := congrArg List.length e; rw [List.length_map, List.length_cons] at this; exact this
  refine ⟨⟨ht, fun q => ?_, by omega, ?_⟩, fun p hp => ?_, fun n hn q => ?_⟩
  · rw [q] at len; cases len
  · rw [ups_keys ht, e, cU, if_neg k3]; omega
  · have : keyOf p ∈ first :: keys := by rw [← e]; exact List.mem_map_of_mem hp
    exact (List.mem_cons.mp this).elim (fun e => e ▸ k1) (hk _)
  · rw [List.map_take, e] at q
    have := take_drop (by rw [List.length_cons]; omega) q
    cases keys with
    | nil => cases this
    | cons x keys =>
      have this : (";" : Str) ∈ first :: (x :: keys).dropLast := this
      exact (List.mem_cons.mp this).elim (fun e => k2 e.symm) hs
theorem pick_five : ∀ x ∈ (["face", "use", "open", "kind", "kind", "def"] : List Str), x ∈ FIVE := by decide +kernel
abbrev LS (ns : List Int) (o3 o4 o5 o6 o7 o8 o9 : Option Ar) (ds : List PyData) (T : List Mo) : DSt := ⟨[some (.val (.list (ns.map PyData.int))), some (.sl 0), some (.sl 1), o3, o4, o5, o6, o7, o8, o9], .fl ds :: T⟩
theorem l_law : ∀ as m C Ex, sp_law as m C Ex → b_law sp__law_draw sp__law_rules sp__law_pick sp__law_grown sp__law_next sp__law_step sp__law_token sp__law_right sp__law_place sp__law_spoilt sp__law_ended (endsD m.length C) (startD N_law as m) := by
  rintro as m C Ex ⟨ns, rfl, rfl, h⟩
  have hs := DD.sl_line
  unfold b_law
  refine seq_cut (fun δ => ∃ ds, δ = ⟨[some (.val (.list (ns.map PyData.int))), some (.sl 0), none, none, none, none, none, none, none, none], [.fl ds]⟩ ∧ DrawOk ds) (fun N hN => ?_) ?_
  · walk_at "w"
    refine ⟨ns, rfl, rfl, fun ds hd => ?_⟩
    exact hN _ ⟨ds, rfl, hd⟩
  rintro δ ⟨ds, rfl, hd⟩
  refine seq_set ?_
  refine callG_at (as := []) nil_at ⟨ds, rfl, rfl, fun T hT => ?_⟩
  show dSeq _ _ _ (LS ns none none none none none none none ds T)
  refine seq_cut (fun δ => ∃ o3 o4 o5 o6 o7 o8 o9 ds, δ = LS ns o3 o4 o5 o6 o7 o8 o9 ds T ∧ DrawOk ds ∧ RC (.fl ds :: T)) (fun N hN => ?_) ?_
  · refine ⟨by decide, by decide, ?_⟩
    refine forR_inv 0 3 (P := fun _ δ => ∃ o3 o4 o5 o6 o7 o8 o9 ds, δ = LS ns o3 o4 o5 o6 o7 o8 o9 ds T ∧ DrawOk ds ∧ RC (.fl ds :: T)) ?_ (fun δ hP => hN _ hP) ⟨none, none, none, none, none, none, none, ds, rfl, hd, hT⟩
    rintro k δ hk ⟨o3, o4, o5, o6, o7, o8, o9, ds, rfl, hd, hR⟩ N2 hN2
    show dSeq _ _ _ (LS ns (some (.val (.int (0 + (k : Nat))))) o4 o5 o6 o7 o8 o9 ds T)
    -- the first key
    refine seq_cut (fun δ => ∃ first ds, first ∈ FIVE ∧ δ = LS ns (some (.val (.int (0 + (k : Nat))))) (some (.val (.str first))) o5 o6 o7 o8 o9 ds T ∧ DrawOk ds ∧ RC (.fl ds :: T)) (fun N3 hN3 => ?_) ?_
    · by_cases k0 : k = 0
      · refine ife_f (gti_at (i := 3) (k := 0 + (k : Nat)) (j := 0) rfl (decide_eq_false (by omega))) ?_
        refine pick_at (ds := ds) (xs := ((["face", "use", "open", "kind", "kind", "def"] : List Str).map PyData.str)) rfl rfl hd (.inl rfl) (fun C h => ⟨by rw [DD.sl_line]; decide, h⟩) (by decide) (by decide) fun x hx ds1 hd1 => ?_
        obtain ⟨first, hf, rfl⟩ := List.mem_map.mp hx
        exact hN3 _ ⟨first, ds1, pick_five first hf, rfl, hd1, hR.head⟩
      · refine ife_t (gti_at (i := 3) (k := 0 + (k : Nat)) (j := 0) rfl (decide_eq_true (by omega))) ?_
        exact hN3 _ ⟨"def", ds, by decide +kernel, rfl, hd, hR⟩
    rintro δ ⟨first, ds, hf, rfl, hd, hR⟩
    obtain ⟨L, hst, hsm, hLl⟩ := five_step hf
    obtain ⟨f1, f2, f3, f4⟩ := five_keys first hf
    -- the keys
    refine seq_set ?_
    have hGI : ∀ many, GI (cU L) many [] L := fun many => by
      obtain ⟨B, eB, hB⟩ := hsm.bot
      refine ⟨fun x hx => (nomatch hx), .inl ⟨by simp, B, eB, hB⟩, ?_⟩
      show 0 + cU L ≤ cU L + 2 * min 0 many + _
      omega
    refine grown_at (L := L) (c0 := cU L) (ds := ds) rfl rfl (fun C h => ?_) hd hR (sm_cU hsm) hGI (by omega) fun keys ds hd kk1 kk2 kk3 kk4 => ?_
    · refine step_at (L := [("<item>" : Str)]) (s := first) (cons_at (svar_at rfl) (cons_at (fun C h => ⟨by rw [DD.sl_line]; decide, h⟩) (cons_at (svar_at rfl) nil_at))) hR (by decide) rfl f4 C ?_
      rw [hst]
      exact h
    have hR : RC (.fl ds :: T) := hR.head
    show dSeq _ _ _ (LS ns (some (.val (.int (0 + (k : Nat))))) (some (.val (.str first))) (some (.val (.list (keys.map PyData.str)))) o6 o7 o8 o9 ds T)
    -- the tokens
    refine seq_cut (fun δ => ∃ (row : List Tk) (ds : List PyData), Grown row ∧ δ = LS ns (some (.val (.int (0 + (k : Nat))))) (some (.val (.str first))) (some (.val (.list (keys.map PyData.str)))) (some (.val (.list (row.map tokD)))) o7 o8 o9 ds T ∧ DrawOk ds ∧ RC (.fl ds :: T)) (fun N3 hN3 => ?_) ?_
    · refine lc_list (xs := (first :: keys).map PyData.str) (fun C h => ?_) ?_
      · exact ⟨by show 1 ≤ sizeLine; omega, ⟨by show 1 + (keys.map PyData.str).length ≤ sizeLine; rw [List.length_map]; omega, h⟩⟩
      refine lcL_inv (P := fun its acc δ => ∃ (r1 : List Tk) (k2 : List Str) (ds' : List PyData), r1.map keyOf ++ k2 = first :: keys ∧ (∀ p ∈ r1, TokOk p) ∧ its = (k2.map PyData.str).map Ar.val ∧ acc = r1.map tokD ∧ DrawOk ds' ∧ RC (.fl ds' :: T) ∧ δ = LS ns (some (.val (.int (0 + (k : Nat))))) (some (.val (.str first))) (some (.val (.list (keys.map PyData.str)))) o6 o7 o8 o9 ds' T) ?_ ?_ _ _ _ ⟨[], first :: keys, ds, rfl, fun p hp => (nomatch hp), rfl, rfl, hd, hR, rfl⟩
      · rintro d dd acc δ ⟨r1, k2, ds', e1, e2, e3, rfl, hd', hR', rfl⟩ N4 hN4
        cases k2 with
        | nil => cases e3
        | cons z k2 =>
          injection e3 with e3 e4
          subst e3 e4
          have hz : z ∈ first :: keys := by rw [← e1]; simp
          have zk : z ∈ KEYS := (List.mem_cons.mp hz).elim (fun e => e ▸ f1) (kk1 z)
          have l1 := congrArg List.length e1
          rw [List.length_append, List.length_cons, List.length_cons, List.length_map] at l1
          refine ⟨fun _ => ?_, (nomatch ·)⟩
          refine tokc_at (i := 1) (δ := LS ns (some (.val (.int (0 + (k : Nat))))) (some (.val (.str first))) (some (.val (.list (keys.map PyData.str)))) o6 (some (.val (.str z))) o8 o9 ds' T) (ds := ds') (key := z) rfl rfl hd' (svar_at (i := 7) rfl) (.inl zk) fun p ds3 hp hk3 hd3 => ?_
          refine ⟨by rw [List.length_map]; omega, hN4 _ _ ⟨r1 ++ [p], k2, ds3, by rw [← e1]; simp [hk3], fun q hq => (List.mem_append.mp hq).elim (e2 q) (fun e => by rw [List.mem_singleton.mp e]; exact hp), rfl, by simp, hd3, hR'.head, rfl⟩⟩
      · rintro acc δ ⟨r1, k2, ds', e1, e2, e3, rfl, hd', hR', rfl⟩
        cases k2 with
        | cons z k2 => cases e3
        | nil =>
          rw [List.append_nil] at e1
          exact hN3 _ ⟨r1, ds', grown_ok hf kk1 kk2 kk3 kk4 e1 e2, rfl, hd', hR'⟩
    rintro δ ⟨row, ds, hG, rfl, hd, hR⟩
    -- the row is read rightly
    refine seqif_f (fun C h => ?_) ?_ (δ' := LS ns (some (.val (.int (0 + (k : Nat))))) (some (.val (.str first))) (some (.val (.list (keys.map PyData.str)))) (some (.val (.list (row.map tokD)))) o7 o8 o9 ds T)
    · exact nright_k (i := 2) (δ := LS ns (some (.val (.int (0 + (k : Nat))))) (some (.val (.str first))) (some (.val (.list (keys.map PyData.str)))) (some (.val (.list (row.map tokD)))) o7 o8 o9 ds T) rfl (svar_at (i := 6) rfl _ (nright_fin (row := row) hR (hG.ok.more (by omega) (by omega)) h))
    refine nx_of ?_
    dsimp only
    refine ⟨by decide, by decide, ?_⟩
    refine forR_inv 0 2 (P := fun _ δ => ∃ o7 o8 o9 ds, δ = LS ns (some (.val (.int (0 + (k : Nat))))) (some (.val (.str first))) (some (.val (.list (keys.map PyData.str)))) (some (.val (.list (row.map tokD)))) o7 o8 o9 ds T ∧ DrawOk ds ∧ RC (.fl ds :: T)) ?_ (fun δ hP => ?_) ⟨o7, o8, o9, ds, rfl, hd, hR⟩
    · rintro j δ hj ⟨o7, o8, o9, ds, rfl, hd, hR⟩ N3 hN3
      show dSeq _ _ _ (LS ns (some (.val (.int (0 + (k : Nat))))) (some (.val (.str first))) (some (.val (.list (keys.map PyData.str)))) (some (.val (.list (row.map tokD)))) o7 (some (.val (.int (0 + (j : Nat))))) o9 ds T)
      generalize some (Ar.val (.int (0 + (j : Nat)))) = o8
      generalize some (Ar.val (.int (0 + (k : Nat)))) = o3 at hN3 ⊢
      generalize some (Ar.val (.str first)) = o4 at hN3 ⊢
      generalize some (Ar.val (.list (keys.map PyData.str))) = o5 at hN3 ⊢
      have rl := hG.ok.len
      have ru := hG.ok.up
      refine seq_set ?_
      refine place_at (ds := ds) (row := row) rfl rfl rfl hd hG.ok.tok hG.key hG.ok.ne (by omega) fun at_ ds hat hd => ?_
      have hR : RC (.fl ds :: T) := hR.head
      show dSeq _ _ _ (LS ns o3 o4 o5 (some (.val (.list (row.map tokD)))) o7 o8 (some (.val (.int at_))) ds T)
      have ct : MM.cutD (row.map tokD) none (some (at_ : Int)) = (row.take at_).map tokD := by rw [cut_to (by rw [List.length_map]; omega), List.map_take]
      refine seqif_f (fun C h => ?_) ?_ (δ' := LS ns o3 o4 o5 (some (.val (.list (row.map tokD)))) o7 o8 (some (.val (.int at_))) ds T)
      · by_cases a0 : at_ = 0
        · exact gti_at (i := 9) (k := at_) (j := 0) (b := false) rfl (decide_eq_false (by omega)) _ ⟨(nomatch ·), fun _ => h⟩
        · refine gti_at (i := 9) (k := at_) (j := 0) (b := true) rfl (decide_eq_true (by omega)) _ ⟨fun _ => ?_, (nomatch ·)⟩
          exact nright_k (i := 2) (δ := LS ns o3 o4 o5 (some (.val (.list (row.map tokD)))) o7 o8 (some (.val (.int at_))) ds T) rfl (slto_at (i := 6) (j := 9) rfl rfl ct _ (nright_fin (row := row.take at_) hR (hG.cut (by omega) hat) h))
      refine nx_of ?_
      dsimp only
      refine if_k (or_k (nright_k (i := 2) (δ := LS ns o3 o4 o5 (some (.val (.list (row.map tokD)))) o7 o8 (some (.val (.int at_))) ds T) rfl (spoilt_at (ds := ds) (row := row) (at_ := at_) rfl rfl rfl rfl hd hat (by omega) hG.ok.tok fun row' ds' hd' q1 q2 q3 q4 => ?_)))
      have hR' : RC (.fl ds' :: T) := hR.head
      refine ⟨row', rfl, hR', q1, q2, by omega, by omega, ?_⟩
      walk_at "w"
      refine ⟨fun e => (by cases e), fun _ => ?_⟩
      refine nright_k (i := 2) (δ := LS ns o3 o4 o5 (some (.val (.list (row.map tokD)))) o7 o8 (some (.val (.int at_))) ds' T) rfl (ended_at (ds := ds') (row := row) (at_ := at_) rfl rfl rfl rfl hd' hR' hG.ok.tok hat (by omega) (hG.semi at_ hat) fun row2 ds2 hd2 p1 p2 p3 p4 => ?_)
      have hR2 : RC (.fl ds2 :: T) := hR.head
      refine ⟨row2, rfl, hR2, p1, p2, by omega, by omega, ?_⟩
      walk_at "w"
      refine ⟨fun e => (by cases e), fun _ => ?_⟩
      exact hN3 _ ⟨o7, o8, _, ds2, rfl, hd2, hR2⟩
    · exact hN2 _ (by obtain ⟨o7, o8, o9, ds, e, r⟩ := hP; exact ⟨_, _, _, _, o7, o8, o9, ds, e, r⟩)
  · rintro δ ⟨o3, o4, o5, o6, o7, o8, o9, ds, rfl, hd, hR⟩
    have ok1 : RowOk 3900 60 [(("sign" : Str), (";" : Str))] := ⟨fun p hp => by rw [List.mem_singleton.mp hp]; exact .inr (.inr ⟨rfl, by decide +kernel⟩), by simp, by decide, by decide +kernel⟩
    have ok2 : RowOk 3900 60 [(("wrong" : Str), ("?" : Str))] := ⟨fun p hp => by rw [List.mem_singleton.mp hp]; exact .inl (.inr (.inr rfl)), by simp, by decide, by decide +kernel⟩
    refine andv_k (right_k (i := 2) (δ := LS ns o3 o4 o5 o6 o7 o8 o9 ds T) rfl ⟨by rw [hs]; decide, by rw [hs]; decide, ?_⟩)
    refine ⟨[(("sign" : Str), (";" : Str))], rfl, hR, ok1.tok, ok1.ne, ok1.len, ok1.up, ?_⟩
    refine ⟨fun _ => ?_, fun e => (by cases e)⟩
    refine right_k (i := 2) (δ := LS ns o3 o4 o5 o6 o7 o8 o9 ds T) rfl ⟨by rw [hs]; decide, by rw [hs]; decide, ?_⟩
    refine ⟨[(("wrong" : Str), ("?" : Str))], rfl, hR, ok2.tok, ok2.ne, ok2.len, ok2.up, ?_⟩
    exact .inr ⟨fun o ho => (by cases ho), h⟩
end K17

namespace K17
open PySem PySem.Spec PyProof.Rows L2 MM
/-! ### every def keeps its promise -/
section
variable {P : Program} {w : World} {K : PySem.W.Frag} {mg : Str → Option Value} {base : Heap}
theorem g__law_draw (T : Txt K w mg) : Ok P w K mg base "_law_draw" 1 ["script"] sp__law_draw := ok_mk (g := fun _ => b__law_draw) T.d__law_draw sc__law_draw (by intro as m C Ex h; first | done | (repeat first | (obtain ⟨e, _⟩ := h; subst e; rfl) | (obtain ⟨_, h⟩ := h))) (fun _ _ _ _ _ _ us hl => match us, hl with | [_], _ => rfl) (fun f cdv A outer s H E W V hr tk => d__law_draw T  f cdv A outer s H E W V hr tk) l__law_draw
theorem g__law_rules (T : Txt K w mg) : Ok P w K mg base "_law_rules" 1 [] sp__law_rules := ok_mk (g := fun _ => b__law_rules) T.d__law_rules sc__law_rules (by intro as m C Ex h; first | done | (repeat first | (obtain ⟨e, _⟩ := h; subst e; rfl) | (obtain ⟨_, h⟩ := h))) (fun _ _ _ _ _ _ us hl => match us, hl with | [], _ => rfl) (fun f cdv A outer s H E W V hr tk => d__law_rules T  f cdv A outer s H E W V hr tk) l__law_rules
theorem g__law_next (T : Txt K w mg) : Ok P w K mg base "_law_next" 1 ["draw", "many"] sp__law_next := ok_mk (g := fun _ => b__law_next) T.d__law_next sc__law_next (by intro as m C Ex h; first | done | (repeat first | (obtain ⟨e, _⟩ := h; subst e; rfl) | (obtain ⟨_, h⟩ := h))) (fun _ _ _ _ _ _ us hl => match us, hl with | [_, _], _ => rfl) (fun f cdv A outer s H E W V hr tk => d__law_next T  f cdv A outer s H E W V hr tk) l__law_next
theorem g__law_grown (T : Txt K w mg) : Ok P w K mg base "_law_grown" 2 ["draw", "rules", "stack", "many"] sp__law_grown := ok_mk (g := fun _ => b__law_grown sp__law_next) T.d__law_grown sc__law_grown (by intro as m C Ex h; first | done | (repeat first | (obtain ⟨e, _⟩ := h; subst e; rfl) | (obtain ⟨_, h⟩ := h))) (fun _ _ _ _ _ _ us hl => match us, hl with | [_, _, _, _], _ => rfl) (fun f cdv A outer s H E W V hr tk => d__law_grown T (G__law_next := (g__law_next T)) f cdv A outer s H E W V hr tk) l__law_grown
theorem g__law_step (T : Txt K w mg) : Ok P w K mg base "_law_step" 1 ["rules", "stack", "key"] sp__law_step := ok_mk (g := fun _ => b__law_step) T.d__law_step sc__law_step (by intro as m C Ex h; first | done | (repeat first | (obtain ⟨e, _⟩ := h; subst e; rfl) | (obtain ⟨_, h⟩ := h))) (fun _ _ _ _ _ _ us hl => match us, hl with | [_, _, _], _ => rfl) (fun f cdv A outer s H E W V hr tk => d__law_step T  f cdv A outer s H E W V hr tk) l__law_step
theorem g__law_key (T : Txt K w mg) : Ok P w K mg base "_law_key" 1 ["token"] sp__law_key := ok_mk (g := fun _ => b__law_key) T.d__law_key sc__law_key (by intro as m C Ex h; first | done | (repeat first | (obtain ⟨e, _⟩ := h; subst e; rfl) | (obtain ⟨_, h⟩ := h))) (fun _ _ _ _ _ _ us hl => match us, hl with | [_], _ => rfl) (fun f cdv A outer s H E W V hr tk => d__law_key T  f cdv A outer s H E W V hr tk) l__law_key
theorem g__law_first_wrong (T : Txt K w mg) : Ok P w K mg base "_law_first_wrong" 2 ["rules", "row"] sp__law_first_wrong := ok_mk (g := fun _ => b__law_first_wrong sp__law_step sp__law_key) T.d__law_first_wrong sc__law_first_wrong (by intro as m C Ex h; first | done | (repeat first | (obtain ⟨e, _⟩ := h; subst e; rfl) | (obtain ⟨_, h⟩ := h))) (fun _ _ _ _ _ _ us hl => match us, hl with | [_, _], _ => rfl) (fun f cdv A outer s H E W V hr tk => d__law_first_wrong T (G__law_step := (g__law_step T)) (G__law_key := (g__law_key T)) f cdv A outer s H E W V hr tk) l__law_first_wrong
theorem g_ItemWalk__m___init__ (T : Txt K w mg) : MakeOk P w K mg base "ItemWalk" 1 ["self"] sp_ItemWalk__m___init__ := make_mk (g := fun _ => b_ItemWalk__m___init__) T.d_ItemWalk__m___init__ sc_ItemWalk__m___init__ (by intro as m C Ex h; first | done | (repeat first | (obtain ⟨e, _⟩ := h; subst e; rfl) | (obtain ⟨_, h⟩ := h))) (fun _ _ _ _ _ _ us hl => match us, hl with | [_], _ => rfl) (fun f cdv A outer s H E W V hr tk => d_ItemWalk__m___init__ T  f cdv A outer s H E W V hr tk) l_ItemWalk__m___init__
theorem g_ItemWalk__m_expand (T : Txt K w mg) : MethOk P w K mg base "ItemWalk" "expand" 1 ["self", "symbol", "sign", "could"] sp_ItemWalk__m_expand := meth_mk (g := fun _ => b_ItemWalk__m_expand) T.d_ItemWalk__m_expand sc_ItemWalk__m_expand (by intro as m C Ex h; first | done | (repeat first | (obtain ⟨e, _⟩ := h; subst e; rfl) | (obtain ⟨_, h⟩ := h))) (fun _ _ _ _ _ _ us hl => match us, hl with | [_, _, _, _], _ => rfl) (fun f cdv A outer s H E W V hr tk => d_ItemWalk__m_expand T  f cdv A outer s H E W V hr tk) l_ItemWalk__m_expand
theorem g_ItemWalk__m_act (T : Txt K w mg) : MethOk P w K mg base "ItemWalk" "act" 1 ["self", "symbol"] sp_ItemWalk__m_act := meth_mk (g := fun _ => b_ItemWalk__m_act) T.d_ItemWalk__m_act sc_ItemWalk__m_act (by intro as m C Ex h; first | done | (repeat first | (obtain ⟨e, _⟩ := h; subst e; rfl) | (obtain ⟨_, h⟩ := h))) (fun _ _ _ _ _ _ us hl => match us, hl with | [_, _], _ => rfl) (fun f cdv A outer s H E W V hr tk => d_ItemWalk__m_act T  f cdv A outer s H E W V hr tk) l_ItemWalk__m_act
theorem g_ItemWalk__m_meet (T : Txt K w mg) : MethOk P w K mg base "ItemWalk" "meet" 2 ["self", "sign"] sp_ItemWalk__m_meet := meth_mk (g := fun _ => b_ItemWalk__m_meet sp_ItemWalk__m_expand sp_ItemWalk__m_act) T.d_ItemWalk__m_meet sc_ItemWalk__m_meet (by intro as m C Ex h; first | done | (repeat first | (obtain ⟨e, _⟩ := h; subst e; rfl) | (obtain ⟨_, h⟩ := h))) (fun _ _ _ _ _ _ us hl => match us, hl with | [_, _], _ => rfl) (fun f cdv A outer s H E W V hr tk => d_ItemWalk__m_meet T (G_ItemWalk__m_expand := (g_ItemWalk__m_expand T)) (G_ItemWalk__m_act := (g_ItemWalk__m_act T)) f cdv A outer s H E W V hr tk) l_ItemWalk__m_meet
theorem g_ItemWalk__m_take (T : Txt K w mg) : MethOk P w K mg base "ItemWalk" "take" 1 ["self", "token"] sp_ItemWalk__m_take := meth_mk (g := fun _ => b_ItemWalk__m_take) T.d_ItemWalk__m_take sc_ItemWalk__m_take (by intro as m C Ex h; first | done | (repeat first | (obtain ⟨e, _⟩ := h; subst e; rfl) | (obtain ⟨_, h⟩ := h))) (fun _ _ _ _ _ _ us hl => match us, hl with | [_, _], _ => rfl) (fun f cdv A outer s H E W V hr tk => d_ItemWalk__m_take T  f cdv A outer s H E W V hr tk) l_ItemWalk__m_take
theorem g_terminal (T : Txt K w mg) : Ok P w K mg base "terminal" 1 ["token"] sp_terminal := ok_mk (g := fun _ => b_terminal) T.d_terminal sc_terminal (by intro as m C Ex h; first | done | (repeat first | (obtain ⟨e, _⟩ := h; subst e; rfl) | (obtain ⟨_, h⟩ := h))) (fun _ _ _ _ _ _ us hl => match us, hl with | [_], _ => rfl) (fun f cdv A outer s H E W V hr tk => d_terminal T  f cdv A outer s H E W V hr tk) l_terminal
theorem g_read_item (T : Txt K w mg) : Ok P w K mg base "read_item" 3 ["stretch"] sp_read_item := ok_mk (g := fun _ => b_read_item sp_ItemWalk__m___init__ sp_ItemWalk__m_meet sp_terminal sp_ItemWalk__m_take) T.d_read_item sc_read_item (by intro as m C Ex h; first | done | (repeat first | (obtain ⟨e, _⟩ := h; subst e; rfl) | (obtain ⟨_, h⟩ := h))) (fun _ _ _ _ _ _ us hl => match us, hl with | [_], _ => rfl) (fun f cdv A outer s H E W V hr tk => d_read_item T (G_ItemWalk__m___init__ := (g_ItemWalk__m___init__ T)) (G_ItemWalk__m_meet := (g_ItemWalk__m_meet T)) (G_terminal := (g_terminal T)) (G_ItemWalk__m_take := (g_ItemWalk__m_take T)) f cdv A outer s H E W V hr tk) l_read_item
theorem g__law_keys (T : Txt K w mg) : Ok P w K mg base "_law_keys" 1 [] sp__law_keys := ok_mk (g := fun _ => b__law_keys) T.d__law_keys sc__law_keys (by intro as m C Ex h; first | done | (repeat first | (obtain ⟨e, _⟩ := h; subst e; rfl) | (obtain ⟨_, h⟩ := h))) (fun _ _ _ _ _ _ us hl => match us, hl with | [], _ => rfl) (fun f cdv A outer s H E W V hr tk => d__law_keys T  f cdv A outer s H E W V hr tk) l__law_keys
theorem g__law_could (T : Txt K w mg) : Ok P w K mg base "_law_could" 2 ["rules", "stack"] sp__law_could := ok_mk (g := fun _ => b__law_could sp__law_keys sp__law_step) T.d__law_could sc__law_could (by intro as m C Ex h; first | done | (repeat first | (obtain ⟨e, _⟩ := h; subst e; rfl) | (obtain ⟨_, h⟩ := h))) (fun _ _ _ _ _ _ us hl => match us, hl with | [_, _], _ => rfl) (fun f cdv A outer s H E W V hr tk => d__law_could T (G__law_keys := (g__law_keys T)) (G__law_step := (g__law_step T)) f cdv A outer s H E W V hr tk) l__law_could
theorem g__law_right (T : Txt K w mg) : Ok P w K mg base "_law_right" 4 ["rules", "row"] sp__law_right := ok_mk (g := fun _ => b__law_right sp__law_first_wrong sp_read_item sp__law_could) T.d__law_right sc__law_right (by intro as m C Ex h; first | done | (repeat first | (obtain ⟨e, _⟩ := h; subst e; rfl) | (obtain ⟨_, h⟩ := h))) (fun _ _ _ _ _ _ us hl => match us, hl with | [_, _], _ => rfl) (fun f cdv A outer s H E W V hr tk => d__law_right T (G__law_first_wrong := (g__law_first_wrong T)) (G_read_item := (g_read_item T)) (G__law_could := (g__law_could T)) f cdv A outer s H E W V hr tk) l__law_right
theorem g__law_pick (T : Txt K w mg) : Ok P w K mg base "_law_pick" 2 ["draw", "row"] sp__law_pick := ok_mk (g := fun _ => b__law_pick sp__law_next) T.d__law_pick sc__law_pick (by intro as m C Ex h; first | done | (repeat first | (obtain ⟨e, _⟩ := h; subst e; rfl) | (obtain ⟨_, h⟩ := h))) (fun _ _ _ _ _ _ us hl => match us, hl with | [_, _], _ => rfl) (fun f cdv A outer s H E W V hr tk => d__law_pick T (G__law_next := (g__law_next T)) f cdv A outer s H E W V hr tk) l__law_pick
theorem g__law_token (T : Txt K w mg) : Ok P w K mg base "_law_token" 3 ["draw", "key"] sp__law_token := ok_mk (g := fun _ => b__law_token sp__law_pick) T.d__law_token sc__law_token (by intro as m C Ex h; first | done | (repeat first | (obtain ⟨e, _⟩ := h; subst e; rfl) | (obtain ⟨_, h⟩ := h))) (fun _ _ _ _ _ _ us hl => match us, hl with | [_, _], _ => rfl) (fun f cdv A outer s H E W V hr tk => d__law_token T (G__law_pick := (g__law_pick T)) f cdv A outer s H E W V hr tk) l__law_token
theorem g__law_place (T : Txt K w mg) : Ok P w K mg base "_law_place" 3 ["draw", "row"] sp__law_place := ok_mk (g := fun _ => b__law_place sp__law_key sp__law_pick) T.d__law_place sc__law_place (by intro as m C Ex h; first | done | (repeat first | (obtain ⟨e, _⟩ := h; subst e; rfl) | (obtain ⟨_, h⟩ := h))) (fun _ _ _ _ _ _ us hl => match us, hl with | [_, _], _ => rfl) (fun f cdv A outer s H E W V hr tk => d__law_place T (G__law_key := (g__law_key T)) (G__law_pick := (g__law_pick T)) f cdv A outer s H E W V hr tk) l__law_place
theorem g__law_spoilt (T : Txt K w mg) : Ok P w K mg base "_law_spoilt" 4 ["draw", "row", "at"] sp__law_spoilt := ok_mk (g := fun _ => b__law_spoilt sp__law_pick sp__law_keys sp__law_token sp__law_next) T.d__law_spoilt sc__law_spoilt (by intro as m C Ex h; first | done | (repeat first | (obtain ⟨e, _⟩ := h; subst e; rfl) | (obtain ⟨_, h⟩ := h))) (fun _ _ _ _ _ _ us hl => match us, hl with | [_, _, _], _ => rfl) (fun f cdv A outer s H E W V hr tk => d__law_spoilt T (G__law_pick := (g__law_pick T)) (G__law_keys := (g__law_keys T)) (G__law_token := (g__law_token T)) (G__law_next := (g__law_next T)) f cdv A outer s H E W V hr tk) l__law_spoilt
theorem g__law_ended (T : Txt K w mg) : Ok P w K mg base "_law_ended" 4 ["draw", "rules", "row", "at"] sp__law_ended := ok_mk (g := fun _ => b__law_ended sp__law_first_wrong sp__law_pick sp__law_could sp__law_grown sp__law_step sp__law_token) T.d__law_ended sc__law_ended (by intro as m C Ex h; first | done | (repeat first | (obtain ⟨e, _⟩ := h; subst e; rfl) | (obtain ⟨_, h⟩ := h))) (fun _ _ _ _ _ _ us hl => match us, hl with | [_, _, _, _], _ => rfl) (fun f cdv A outer s H E W V hr tk => d__law_ended T (G__law_first_wrong := (g__law_first_wrong T)) (G__law_pick := (g__law_pick T)) (G__law_could := (g__law_could T)) (G__law_grown := (g__law_grown T)) (G__law_step := (g__law_step T)) (G__law_token := (g__law_token T)) f cdv A outer s H E W V hr tk) l__law_ended
theorem g_law (T : Txt K w mg) : Ok P w K mg base "law" 5 ["script"] sp_law := ok_mk (g := fun _ => b_law sp__law_draw sp__law_rules sp__law_pick sp__law_grown sp__law_next sp__law_step sp__law_token sp__law_right sp__law_place sp__law_spoilt sp__law_ended) T.d_law sc_law (by intro as m C Ex h; first | done | (repeat first | (obtain ⟨e, _⟩ := h; subst e; rfl) | (obtain ⟨_, h⟩ := h))) (fun _ _ _ _ _ _ us hl => match us, hl with | [_], _ => rfl) (fun f cdv A outer s H E W V hr tk => d_law T (G__law_draw := (g__law_draw T)) (G__law_rules := (g__law_rules T)) (G__law_pick := (g__law_pick T)) (G__law_grown := (g__law_grown T)) (G__law_next := (g__law_next T)) (G__law_step := (g__law_step T)) (G__law_token := (g__law_token T)) (G__law_right := (g__law_right T)) (G__law_place := (g__law_place T)) (G__law_spoilt := (g__law_spoilt T)) (G__law_ended := (g__law_ended T)) f cdv A outer s H E W V hr tk) l_law
end
theorem txt_mk {w : World} {K : PySem.W.Frag} {h : Heap} {mg : Str → Option Value} (X : K.In h) (G : h.Ns mainGlobals mg)
    (nl : noListB K = true)
    {C_ItemWalk : Addr} (a_ItemWalk : PySem.W.nsIn K mainGlobals "ItemWalk" = some (some (.ref C_ItemWalk)))
    (pg_ItemWalk : PySem.W.plainGet K C_ItemWalk Str.empty = true) (hd_ItemWalk : PySem.W.hasDictIn K C_ItemWalk = true) (po_ItemWalk : PySem.W.plainOver K C_ItemWalk = true) (sa_ItemWalk : PySem.W.findIn K (.ref C_ItemWalk) "__setattr__" = some (some (.builtin "object.__setattr__"))) (mk_ItemWalk : PySem.W.makesIn K C_ItemWalk = true) (kc_ItemWalk : PySem.W.keepIn K (.ref C_ItemWalk) = true)
    {f__law_draw : Addr} {od_law_draw an_law_draw : Option Addr} {sl_law_draw : Array (Option Value)} {oc_law_draw kV_law_draw dc_law_draw pm_law_draw cd_law_draw ct_law_draw : Value}
    (a__law_draw : PySem.W.nsIn K mainGlobals "_law_draw" = some (some (.ref f__law_draw)))
    (l__law_draw : K.lookup f__law_draw = some ⟨oc_law_draw, od_law_draw, .func (PySem.W.fnOf "_law_draw" "_law_draw" (defArgs s__law_draw) (defBody s__law_draw) (defScope s__law_draw) .none kV_law_draw dc_law_draw pm_law_draw an_law_draw cd_law_draw ct_law_draw), sl_law_draw⟩)
    (c__law_draw : PySem.W.codeIn K cd_law_draw "_law_draw" = true) (k__law_draw : PySem.W.keepIn K (.ref f__law_draw) = true)
    {f__law_rules : Addr} {od_law_rules an_law_rules : Option Addr} {sl_law_rules : Array (Option Value)} {oc_law_rules kV_law_rules dc_law_rules pm_law_rules cd_law_rules ct_law_rules : Value}
    (a__law_rules : PySem.W.nsIn K mainGlobals "_law_rules" = some (some (.ref f__law_rules)))
    (l__law_rules : K.lookup f__law_rules = some ⟨oc_law_rules, od_law_rules, .func (PySem.W.fnOf "_law_rules" "_law_rules" (defArgs s__law_rules) (defBody s__law_rules) (defScope s__law_rules) .none kV_law_rules dc_law_rules pm_law_rules an_law_rules cd_law_rules ct_law_rules), sl_law_rules⟩)
    (c__law_rules : PySem.W.codeIn K cd_law_rules "_law_rules" = true) (k__law_rules : PySem.W.keepIn K (.ref f__law_rules) = true)
    {f__law_next : Addr} {od_law_next an_law_next : Option Addr} {sl_law_next : Array (Option Value)} {oc_law_next kV_law_next dc_law_next pm_law_next cd_law_next ct_law_next : Value}
    (a__law_next : PySem.W.nsIn K mainGlobals "_law_next" = some (some (.ref f__law_next)))
    (l__law_next : K.lookup f__law_next = some ⟨oc_law_next, od_law_next, .func (PySem.W.fnOf "_law_next" "_law_next" (defArgs s__law_next) (defBody s__law_next) (defScope s__law_next) .none kV_law_next dc_law_next pm_law_next an_law_next cd_law_next ct_law_next), sl_law_next⟩)
    (c__law_next : PySem.W.codeIn K cd_law_next "_law_next" = true) (k__law_next : PySem.W.keepIn K (.ref f__law_next) = true)
    {f__law_grown : Addr} {od_law_grown an_law_grown : Option Addr} {sl_law_grown : Array (Option Value)} {oc_law_grown kV_law_grown dc_law_grown pm_law_grown cd_law_grown ct_law_grown : Value}
    (a__law_grown : PySem.W.nsIn K mainGlobals "_law_grown" = some (some (.ref f__law_grown)))
    (l__law_grown : K.lookup f__law_grown = some ⟨oc_law_grown, od_law_grown, .func (PySem.W.fnOf "_law_grown" "_law_grown" (defArgs s__law_grown) (defBody s__law_grown) (defScope s__law_grown) .none kV_law_grown dc_law_grown pm_law_grown an_law_grown cd_law_grown ct_law_grown), sl_law_grown⟩)
    (c__law_grown : PySem.W.codeIn K cd_law_grown "_law_grown" = true) (k__law_grown : PySem.W.keepIn K (.ref f__law_grown) = true)
    {f__law_step : Addr} {od_law_step an_law_step : Option Addr} {sl_law_step : Array (Option Value)} {oc_law_step kV_law_step dc_law_step pm_law_step cd_law_step ct_law_step : Value}
    (a__law_step : PySem.W.nsIn K mainGlobals "_law_step" = some (some (.ref f__law_step)))
    (l__law_step : K.lookup f__law_step = some ⟨oc_law_step, od_law_step, .func (PySem.W.fnOf "_law_step" "_law_step" (defArgs s__law_step) (defBody s__law_step) (defScope s__law_step) .none kV_law_step dc_law_step pm_law_step an_law_step cd_law_step ct_law_step), sl_law_step⟩)
    (c__law_step : PySem.W.codeIn K cd_law_step "_law_step" = true) (k__law_step : PySem.W.keepIn K (.ref f__law_step) = true)
    {f__law_key : Addr} {od_law_key an_law_key : Option Addr} {sl_law_key : Array (Option Value)} {oc_law_key kV_law_key dc_law_key pm_law_key cd_law_key ct_law_key : Value}
    (a__law_key : PySem.W.nsIn K mainGlobals "_law_key" = some (some (.ref f__law_key)))
    (l__law_key : K.lookup f__law_key = some ⟨oc_law_key, od_law_key, .func (PySem.W.fnOf "_law_key" "_law_key" (defArgs s__law_key) (defBody s__law_key) (defScope s__law_key) .none kV_law_key dc_law_key pm_law_key an_law_key cd_law_key ct_law_key), sl_law_key⟩)
    (c__law_key : PySem.W.codeIn K cd_law_key "_law_key" = true) (k__law_key : PySem.W.keepIn K (.ref f__law_key) = true)
    {f__law_first_wrong : Addr} {od_law_first_wrong an_law_first_wrong : Option Addr} {sl_law_first_wrong : Array (Option Value)} {oc_law_first_wrong kV_law_first_wrong dc_law_first_wrong pm_law_first_wrong cd_law_first_wrong ct_law_first_wrong : Value}
    (a__law_first_wrong : PySem.W.nsIn K mainGlobals "_law_first_wrong" = some (some (.ref f__law_first_wrong)))
    (l__law_first_wrong : K.lookup f__law_first_wrong = some ⟨oc_law_first_wrong, od_law_first_wrong, .func (PySem.W.fnOf "_law_first_wrong" "_law_first_wrong" (defArgs s__law_first_wrong) (defBody s__law_first_wrong) (defScope s__law_first_wrong) .none kV_law_first_wrong dc_law_first_wrong pm_law_first_wrong an_law_first_wrong cd_law_first_wrong ct_law_first_wrong), sl_law_first_wrong⟩)
    (c__law_first_wrong : PySem.W.codeIn K cd_law_first_wrong "_law_first_wrong" = true) (k__law_first_wrong : PySem.W.keepIn K (.ref f__law_first_wrong) = true)
    {f_ItemWalk__m___init__ : Addr} {odItemWalk__m___init__ anItemWalk__m___init__ : Option Addr} {slItemWalk__m___init__ : Array (Option Value)} {ocItemWalk__m___init__ kVItemWalk__m___init__ dcItemWalk__m___init__ pmItemWalk__m___init__ cdItemWalk__m___init__ ctItemWalk__m___init__ : Value}
    (a_ItemWalk__m___init__ : PySem.W.findIn K (.ref C_ItemWalk) "__init__" = some (some (.ref f_ItemWalk__m___init__))) (i_ItemWalk__m___init__ : PySem.W.isFn K (.ref f_ItemWalk__m___init__) = true)
    (l_ItemWalk__m___init__ : K.lookup f_ItemWalk__m___init__ = some ⟨ocItemWalk__m___init__, odItemWalk__m___init__, .func (PySem.W.fnOf "__init__" "ItemWalk.__init__" (defArgs s_ItemWalk__m___init__) (defBody s_ItemWalk__m___init__) (defScope s_ItemWalk__m___init__) .none kVItemWalk__m___init__ dcItemWalk__m___init__ pmItemWalk__m___init__ anItemWalk__m___init__ cdItemWalk__m___init__ ctItemWalk__m___init__), slItemWalk__m___init__⟩)
    (c_ItemWalk__m___init__ : PySem.W.codeIn K cdItemWalk__m___init__ "ItemWalk.__init__" = true) (k_ItemWalk__m___init__ : PySem.W.keepIn K (.ref f_ItemWalk__m___init__) = true)
    {f_ItemWalk__m_expand : Addr} {odItemWalk__m_expand anItemWalk__m_expand : Option Addr} {slItemWalk__m_expand : Array (Option Value)} {ocItemWalk__m_expand kVItemWalk__m_expand dcItemWalk__m_expand pmItemWalk__m_expand cdItemWalk__m_expand ctItemWalk__m_expand : Value}
    (a_ItemWalk__m_expand : PySem.W.findIn K (.ref C_ItemWalk) "expand" = some (some (.ref f_ItemWalk__m_expand))) (i_ItemWalk__m_expand : PySem.W.isFn K (.ref f_ItemWalk__m_expand) = true)
    (l_ItemWalk__m_expand : K.lookup f_ItemWalk__m_expand = some ⟨ocItemWalk__m_expand, odItemWalk__m_expand, .func (PySem.W.fnOf "expand" "ItemWalk.expand" (defArgs s_ItemWalk__m_expand) (defBody s_ItemWalk__m_expand) (defScope s_ItemWalk__m_expand) .none kVItemWalk__m_expand dcItemWalk__m_expand pmItemWalk__m_expand anItemWalk__m_expand cdItemWalk__m_expand ctItemWalk__m_expand), slItemWalk__m_expand⟩)
    (c_ItemWalk__m_expand : PySem.W.codeIn K cdItemWalk__m_expand "ItemWalk.expand" = true) (k_ItemWalk__m_expand : PySem.W.keepIn K (.ref f_ItemWalk__m_expand) = true)
    {f_ItemWalk__m_act : Addr} {odItemWalk__m_act anItemWalk__m_act : Option Addr} {slItemWalk__m_act : Array (Option Value)} {ocItemWalk__m_act kVItemWalk__m_act dcItemWalk__m_act pmItemWalk__m_act cdItemWalk__m_act ctItemWalk__m_act : Value}
    (a_ItemWalk__m_act : PySem.W.findIn K (.ref C_ItemWalk) "act" = some (some (.ref f_ItemWalk__m_act))) (i_ItemWalk__m_act : PySem.W.isFn K (.ref f_ItemWalk__m_act) = true)
    (l_ItemWalk__m_act : K.lookup f_ItemWalk__m_act = some ⟨ocItemWalk__m_act, odItemWalk__m_act, .func (PySem.W.fnOf "act" "ItemWalk.act" (defArgs s_ItemWalk__m_act) (defBody s_ItemWalk__m_act) (defScope s_ItemWalk__m_act) .none kVItemWalk__m_act dcItemWalk__m_act pmItemWalk__m_act anItemWalk__m_act cdItemWalk__m_act ctItemWalk__m_act), slItemWalk__m_act⟩)
    (c_ItemWalk__m_act : PySem.W.codeIn K cdItemWalk__m_act "ItemWalk.act" = true) (k_ItemWalk__m_act : PySem.W.keepIn K (.ref f_ItemWalk__m_act) = true)
    {f_ItemWalk__m_meet : Addr} {odItemWalk__m_meet anItemWalk__m_meet : Option Addr} {slItemWalk__m_meet : Array (Option Value)} {ocItemWalk__m_meet kVItemWalk__m_meet dcItemWalk__m_meet pmItemWalk__m_meet cdItemWalk__m_meet ctItemWalk__m_meet : Value}
    (a_ItemWalk__m_meet : PySem.W.findIn K (.ref C_ItemWalk) "meet" = some (some (.ref f_ItemWalk__m_meet))) (i_ItemWalk__m_meet : PySem.W.isFn K (.ref f_ItemWalk__m_meet) = true)
    (l_ItemWalk__m_meet : K.lookup f_ItemWalk__m_meet = some ⟨ocItemWalk__m_meet, odItemWalk__m_meet, .func (PySem.W.fnOf "meet" "ItemWalk.meet" (defArgs s_ItemWalk__m_meet) (defBody s_ItemWalk__m_meet) (defScope s_ItemWalk__m_meet) .none kVItemWalk__m_meet dcItemWalk__m_meet pmItemWalk__m_meet anItemWalk__m_meet cdItemWalk__m_meet ctItemWalk__m_meet), slItemWalk__m_meet⟩)
    (c_ItemWalk__m_meet : PySem.W.codeIn K cdItemWalk__m_meet "ItemWalk.meet" = true) (k_ItemWalk__m_meet : PySem.W.keepIn K (.ref f_ItemWalk__m_meet) = true)
    {f_ItemWalk__m_take : Addr} {odItemWalk__m_take anItemWalk__m_take : Option Addr} {slItemWalk__m_take : Array (Option Value)} {ocItemWalk__m_take kVItemWalk__m_take dcItemWalk__m_take pmItemWalk__m_take cdItemWalk__m_take ctItemWalk__m_take : Value}
    (a_ItemWalk__m_take : PySem.W.findIn K (.ref C_ItemWalk) "take" = some (some (.ref f_ItemWalk__m_take))) (i_ItemWalk__m_take : PySem.W.isFn K (.ref f_ItemWalk__m_take) = true)
    (l_ItemWalk__m_take : K.lookup f_ItemWalk__m_take = some ⟨ocItemWalk__m_take, odItemWalk__m_take, .func (PySem.W.fnOf "take" "ItemWalk.take" (defArgs s_ItemWalk__m_take) (defBody s_ItemWalk__m_take) (defScope s_ItemWalk__m_take) .none kVItemWalk__m_take dcItemWalk__m_take pmItemWalk__m_take anItemWalk__m_take cdItemWalk__m_take ctItemWalk__m_take), slItemWalk__m_take⟩)
    (c_ItemWalk__m_take : PySem.W.codeIn K cdItemWalk__m_take "ItemWalk.take" = true) (k_ItemWalk__m_take : PySem.W.keepIn K (.ref f_ItemWalk__m_take) = true)
    {f_terminal : Addr} {odterminal anterminal : Option Addr} {slterminal : Array (Option Value)} {octerminal kVterminal dcterminal pmterminal cdterminal ctterminal : Value}
    (a_terminal : PySem.W.nsIn K mainGlobals "terminal" = some (some (.ref f_terminal)))
    (l_terminal : K.lookup f_terminal = some ⟨octerminal, odterminal, .func (PySem.W.fnOf "terminal" "terminal" (defArgs s_terminal) (defBody s_terminal) (defScope s_terminal) .none kVterminal dcterminal pmterminal anterminal cdterminal ctterminal), slterminal⟩)
    (c_terminal : PySem.W.codeIn K cdterminal "terminal" = true) (k_terminal : PySem.W.keepIn K (.ref f_terminal) = true)
    {f_read_item : Addr} {odread_item anread_item : Option Addr} {slread_item : Array (Option Value)} {ocread_item kVread_item dcread_item pmread_item cdread_item ctread_item : Value}
    (a_read_item : PySem.W.nsIn K mainGlobals "read_item" = some (some (.ref f_read_item)))
    (l_read_item : K.lookup f_read_item = some ⟨ocread_item, odread_item, .func (PySem.W.fnOf "read_item" "read_item" (defArgs s_read_item) (defBody s_read_item) (defScope s_read_item) .none kVread_item dcread_item pmread_item anread_item cdread_item ctread_item), slread_item⟩)
    (c_read_item : PySem.W.codeIn K cdread_item "read_item" = true) (k_read_item : PySem.W.keepIn K (.ref f_read_item) = true)
    {f__law_keys : Addr} {od_law_keys an_law_keys : Option Addr} {sl_law_keys : Array (Option Value)} {oc_law_keys kV_law_keys dc_law_keys pm_law_keys cd_law_keys ct_law_keys : Value}
    (a__law_keys : PySem.W.nsIn K mainGlobals "_law_keys" = some (some (.ref f__law_keys)))
    (l__law_keys : K.lookup f__law_keys = some ⟨oc_law_keys, od_law_keys, .func (PySem.W.fnOf "_law_keys" "_law_keys" (defArgs s__law_keys) (defBody s__law_keys) (defScope s__law_keys) .none kV_law_keys dc_law_keys pm_law_keys an_law_keys cd_law_keys ct_law_keys), sl_law_keys⟩)
    (c__law_keys : PySem.W.codeIn K cd_law_keys "_law_keys" = true) (k__law_keys : PySem.W.keepIn K (.ref f__law_keys) = true)
    {f__law_could : Addr} {od_law_could an_law_could : Option Addr} {sl_law_could : Array (Option Value)} {oc_law_could kV_law_could dc_law_could pm_law_could cd_law_could ct_law_could : Value}
    (a__law_could : PySem.W.nsIn K mainGlobals "_law_could" = some (some (.ref f__law_could)))
    (l__law_could : K.lookup f__law_could = some ⟨oc_law_could, od_law_could, .func (PySem.W.fnOf "_law_could" "_law_could" (defArgs s__law_could) (defBody s__law_could) (defScope s__law_could) .none kV_law_could dc_law_could pm_law_could an_law_could cd_law_could ct_law_could), sl_law_could⟩)
    (c__law_could : PySem.W.codeIn K cd_law_could "_law_could" = true) (k__law_could : PySem.W.keepIn K (.ref f__law_could) = true)
    {f__law_right : Addr} {od_law_right an_law_right : Option Addr} {sl_law_right : Array (Option Value)} {oc_law_right kV_law_right dc_law_right pm_law_right cd_law_right ct_law_right : Value}
    (a__law_right : PySem.W.nsIn K mainGlobals "_law_right" = some (some (.ref f__law_right)))
    (l__law_right : K.lookup f__law_right = some ⟨oc_law_right, od_law_right, .func (PySem.W.fnOf "_law_right" "_law_right" (defArgs s__law_right) (defBody s__law_right) (defScope s__law_right) .none kV_law_right dc_law_right pm_law_right an_law_right cd_law_right ct_law_right), sl_law_right⟩)
    (c__law_right : PySem.W.codeIn K cd_law_right "_law_right" = true) (k__law_right : PySem.W.keepIn K (.ref f__law_right) = true)
    {f__law_pick : Addr} {od_law_pick an_law_pick : Option Addr} {sl_law_pick : Array (Option Value)} {oc_law_pick kV_law_pick dc_law_pick pm_law_pick cd_law_pick ct_law_pick : Value}
    (a__law_pick : PySem.W.nsIn K mainGlobals "_law_pick" = some (some (.ref f__law_pick)))
    (l__law_pick : K.lookup f__law_pick = some ⟨oc_law_pick, od_law_pick, .func (PySem.W.fnOf "_law_pick" "_law_pick" (defArgs s__law_pick) (defBody s__law_pick) (defScope s__law_pick) .none kV_law_pick dc_law_pick pm_law_pick an_law_pick cd_law_pick ct_law_pick), sl_law_pick⟩)
    (c__law_pick : PySem.W.codeIn K cd_law_pick "_law_pick" = true) (k__law_pick : PySem.W.keepIn K (.ref f__law_pick) = true)
    {f__law_token : Addr} {od_law_token an_law_token : Option Addr} {sl_law_token : Array (Option Value)} {oc_law_token kV_law_token dc_law_token pm_law_token cd_law_token ct_law_token : Value}
    (a__law_token : PySem.W.nsIn K mainGlobals "_law_token" = some (some (.ref f__law_token)))
    (l__law_token : K.lookup f__law_token = some ⟨oc_law_token, od_law_token, .func (PySem.W.fnOf "_law_token" "_law_token" (defArgs s__law_token) (defBody s__law_token) (defScope s__law_token) .none kV_law_token dc_law_token pm_law_token an_law_token cd_law_token ct_law_token), sl_law_token⟩)
    (c__law_token : PySem.W.codeIn K cd_law_token "_law_token" = true) (k__law_token : PySem.W.keepIn K (.ref f__law_token) = true)
    {f__law_place : Addr} {od_law_place an_law_place : Option Addr} {sl_law_place : Array (Option Value)} {oc_law_place kV_law_place dc_law_place pm_law_place cd_law_place ct_law_place : Value}
    (a__law_place : PySem.W.nsIn K mainGlobals "_law_place" = some (some (.ref f__law_place)))
    (l__law_place : K.lookup f__law_place = some ⟨oc_law_place, od_law_place, .func (PySem.W.fnOf "_law_place" "_law_place" (defArgs s__law_place) (defBody s__law_place) (defScope s__law_place) .none kV_law_place dc_law_place pm_law_place an_law_place cd_law_place ct_law_place), sl_law_place⟩)
    (c__law_place : PySem.W.codeIn K cd_law_place "_law_place" = true) (k__law_place : PySem.W.keepIn K (.ref f__law_place) = true)
    {f__law_spoilt : Addr} {od_law_spoilt an_law_spoilt : Option Addr} {sl_law_spoilt : Array (Option Value)} {oc_law_spoilt kV_law_spoilt dc_law_spoilt pm_law_spoilt cd_law_spoilt ct_law_spoilt : Value}
    (a__law_spoilt : PySem.W.nsIn K mainGlobals "_law_spoilt" = some (some (.ref f__law_spoilt)))
    (l__law_spoilt : K.lookup f__law_spoilt = some ⟨oc_law_spoilt, od_law_spoilt, .func (PySem.W.fnOf "_law_spoilt" "_law_spoilt" (defArgs s__law_spoilt) (defBody s__law_spoilt) (defScope s__law_spoilt) .none kV_law_spoilt dc_law_spoilt pm_law_spoilt an_law_spoilt cd_law_spoilt ct_law_spoilt), sl_law_spoilt⟩)
    (c__law_spoilt : PySem.W.codeIn K cd_law_spoilt "_law_spoilt" = true) (k__law_spoilt : PySem.W.keepIn K (.ref f__law_spoilt) = true)
    {f__law_ended : Addr} {od_law_ended an_law_ended : Option Addr} {sl_law_ended : Array (Option Value)} {oc_law_ended kV_law_ended dc_law_ended pm_law_ended cd_law_ended ct_law_ended : Value}
    (a__law_ended : PySem.W.nsIn K mainGlobals "_law_ended" = some (some (.ref f__law_ended)))
    (l__law_ended : K.lookup f__law_ended = some ⟨oc_law_ended, od_law_ended, .func (PySem.W.fnOf "_law_ended" "_law_ended" (defArgs s__law_ended) (defBody s__law_ended) (defScope s__law_ended) .none kV_law_ended dc_law_ended pm_law_ended an_law_ended cd_law_ended ct_law_ended), sl_law_ended⟩)
    (c__law_ended : PySem.W.codeIn K cd_law_ended "_law_ended" = true) (k__law_ended : PySem.W.keepIn K (.ref f__law_ended) = true)
    {f_law : Addr} {odlaw anlaw : Option Addr} {sllaw : Array (Option Value)} {oclaw kVlaw dclaw pmlaw cdlaw ctlaw : Value}
    (a_law : PySem.W.nsIn K mainGlobals "law" = some (some (.ref f_law)))
    (l_law : K.lookup f_law = some ⟨oclaw, odlaw, .func (PySem.W.fnOf "law" "law" (defArgs s_law) (defBody s_law) (defScope s_law) .none kVlaw dclaw pmlaw anlaw cdlaw ctlaw), sllaw⟩)
    (c_law : PySem.W.codeIn K cdlaw "law" = true) (k_law : PySem.W.keepIn K (.ref f_law) = true)
    (n_ItemWalk_due : PySem.W.findIn K (.ref C_ItemWalk) "due" = some none)
    (n_ItemWalk_made : PySem.W.findIn K (.ref C_ItemWalk) "made" = some none)
    (n_ItemWalk_depth : PySem.W.findIn K (.ref C_ItemWalk) "depth" = some none)
    {D_RULES : Addr} {es_RULES : Array DictEntry} {ep_RULES : Nat} (a_RULES : PySem.W.nsIn K mainGlobals "RULES" = some (some (.ref D_RULES)))
    (l_tab_RULES : K.lookup D_RULES = some ⟨.type "dict", none, .dict es_RULES ep_RULES, #[]⟩) (lo_RULES : (D_RULES == sysModules) = false)
    (hk_RULES : es_RULES.toList.map He.keyOf = He.keysIn w.params (l_RULES.map Prod.fst)) (hv_RULES : es_RULES.toList.map (fun e => DD.datIn K 6 e.val) = l_RULES.map (fun p => some p.2))
    {D_PIECES : Addr} {es_PIECES : Array DictEntry} {ep_PIECES : Nat} (a_PIECES : PySem.W.nsIn K mainGlobals "PIECES" = some (some (.ref D_PIECES)))
    (l_tab_PIECES : K.lookup D_PIECES = some ⟨.type "dict", none, .dict es_PIECES ep_PIECES, #[]⟩) (lo_PIECES : (D_PIECES == sysModules) = false)
    (hk_PIECES : es_PIECES.toList.map He.keyOf = He.keysIn w.params (l_PIECES.map Prod.fst)) (hv_PIECES : es_PIECES.toList.map (fun e => DD.datIn K 6 e.val) = l_PIECES.map (fun p => some p.2))
    {v_DEEPENING : Value} (a_DEEPENING : PySem.W.nsIn K mainGlobals "DEEPENING" = some (some v_DEEPENING)) (q_DEEPENING : DD.datIn K 6 v_DEEPENING = some k_DEEPENING)
    {v_DEEPEST : Value} (a_DEEPEST : PySem.W.nsIn K mainGlobals "DEEPEST" = some (some v_DEEPEST)) (q_DEEPEST : DD.datIn K 6 v_DEEPEST = some k_DEEPEST)
    (z_list : PySem.W.nsIn K mainGlobals "list" = some none)
    (z_len : PySem.W.nsIn K mainGlobals "len" = some none)
    (z_int : PySem.W.nsIn K mainGlobals "int" = some none)
    (z_range : PySem.W.nsIn K mainGlobals "range" = some none)
    (z_sorted : PySem.W.nsIn K mainGlobals "sorted" = some none)
    (z_tuple : PySem.W.nsIn K mainGlobals "tuple" = some none)
    (z_enumerate : PySem.W.nsIn K mainGlobals "enumerate" = some none)
    (z_set : PySem.W.nsIn K mainGlobals "set" = some none)
    (z_isinstance : PySem.W.nsIn K mainGlobals "isinstance" = some none)
    (z_str : PySem.W.nsIn K mainGlobals "str" = some none)
    (z_bool : PySem.W.nsIn K mainGlobals "bool" = some none)
    : Txt K w mg where
  nl := nl
  d__law_draw := DD.def_mk X G a__law_draw l__law_draw c__law_draw k__law_draw
  d__law_rules := DD.def_mk X G a__law_rules l__law_rules c__law_rules k__law_rules
  d__law_next := DD.def_mk X G a__law_next l__law_next c__law_next k__law_next
  d__law_grown := DD.def_mk X G a__law_grown l__law_grown c__law_grown k__law_grown
  d__law_step := DD.def_mk X G a__law_step l__law_step c__law_step k__law_step
  d__law_key := DD.def_mk X G a__law_key l__law_key c__law_key k__law_key
  d__law_first_wrong := DD.def_mk X G a__law_first_wrong l__law_first_wrong c__law_first_wrong k__law_first_wrong
  d_ItemWalk__m___init__ := initAt_mk X G a_ItemWalk mk_ItemWalk a_ItemWalk__m___init__ i_ItemWalk__m___init__ kc_ItemWalk l_ItemWalk__m___init__ c_ItemWalk__m___init__ k_ItemWalk__m___init__
  d_ItemWalk__m_expand := methAt_mk X G a_ItemWalk ⟨pg_ItemWalk, hd_ItemWalk, po_ItemWalk, sa_ItemWalk⟩ a_ItemWalk__m_expand i_ItemWalk__m_expand l_ItemWalk__m_expand c_ItemWalk__m_expand k_ItemWalk__m_expand
  d_ItemWalk__m_act := methAt_mk X G a_ItemWalk ⟨pg_ItemWalk, hd_ItemWalk, po_ItemWalk, sa_ItemWalk⟩ a_ItemWalk__m_act i_ItemWalk__m_act l_ItemWalk__m_act c_ItemWalk__m_act k_ItemWalk__m_act
  d_ItemWalk__m_meet := methAt_mk X G a_ItemWalk ⟨pg_ItemWalk, hd_ItemWalk, po_ItemWalk, sa_ItemWalk⟩ a_ItemWalk__m_meet i_ItemWalk__m_meet l_ItemWalk__m_meet c_ItemWalk__m_meet k_ItemWalk__m_meet
  d_ItemWalk__m_take := methAt_mk X G a_ItemWalk ⟨pg_ItemWalk, hd_ItemWalk, po_ItemWalk, sa_ItemWalk⟩ a_ItemWalk__m_take i_ItemWalk__m_take l_ItemWalk__m_take c_ItemWalk__m_take k_ItemWalk__m_take
  d_terminal := DD.def_mk X G a_terminal l_terminal c_terminal k_terminal
  d_read_item := DD.def_mk X G a_read_item l_read_item c_read_item k_read_item
  d__law_keys := DD.def_mk X G a__law_keys l__law_keys c__law_keys k__law_keys
  d__law_could := DD.def_mk X G a__law_could l__law_could c__law_could k__law_could
  d__law_right := DD.def_mk X G a__law_right l__law_right c__law_right k__law_right
  d__law_pick := DD.def_mk X G a__law_pick l__law_pick c__law_pick k__law_pick
  d__law_token := DD.def_mk X G a__law_token l__law_token c__law_token k__law_token
  d__law_place := DD.def_mk X G a__law_place l__law_place c__law_place k__law_place
  d__law_spoilt := DD.def_mk X G a__law_spoilt l__law_spoilt c__law_spoilt k__law_spoilt
  d__law_ended := DD.def_mk X G a__law_ended l__law_ended c__law_ended k__law_ended
  d_law := DD.def_mk X G a_law l_law c_law k_law
  f_ItemWalk_due := fld_mk X G a_ItemWalk ⟨pg_ItemWalk, hd_ItemWalk, po_ItemWalk, sa_ItemWalk⟩ n_ItemWalk_due
  f_ItemWalk_made := fld_mk X G a_ItemWalk ⟨pg_ItemWalk, hd_ItemWalk, po_ItemWalk, sa_ItemWalk⟩ n_ItemWalk_made
  f_ItemWalk_depth := fld_mk X G a_ItemWalk ⟨pg_ItemWalk, hd_ItemWalk, po_ItemWalk, sa_ItemWalk⟩ n_ItemWalk_depth
  t_RULES := tab_mk X G a_RULES l_tab_RULES lo_RULES hk_RULES hv_RULES
  t_PIECES := tab_mk X G a_PIECES l_tab_PIECES lo_PIECES hk_PIECES hv_PIECES
  k_DEEPENING := con_mk (PySem.W.mg_of X G a_DEEPENING) q_DEEPENING
  k_DEEPEST := con_mk (PySem.W.mg_of X G a_DEEPEST) q_DEEPEST
  n_list := PySem.W.mg_none_of X G z_list
  n_len := PySem.W.mg_none_of X G z_len
  n_int := PySem.W.mg_none_of X G z_int
  n_range := PySem.W.mg_none_of X G z_range
  n_sorted := PySem.W.mg_none_of X G z_sorted
  n_tuple := PySem.W.mg_none_of X G z_tuple
  n_enumerate := PySem.W.mg_none_of X G z_enumerate
  n_set := PySem.W.mg_none_of X G z_set
  n_isinstance := PySem.W.mg_none_of X G z_isinstance
  n_str := PySem.W.mg_none_of X G z_str
  n_bool := PySem.W.mg_none_of X G z_bool
theorem law_ok {l : PySem.W.OpenLaw} {w : World} {K : PySem.W.Frag} {h : Heap} {mg : Str → Option Value} {fa : Addr} (T : Txt K w mg) (hfa : mg "law" = some (.ref fa)) :
    ∃ fd : FuncData, (∀ (s : Shared) (u : Value), BindsTo s fd ⟨[u], []⟩ [("script", u)]) ∧ ∀ base : Heap, K.In base → base.Ns mainGlobals mg → FnOk l.prog w K mg base (L2.CX l.prog w) 5 fa fd ["script"] (lift K mg sp_law) := by
  obtain ⟨f, fd, hm, F⟩ := T.d_law
  cases hm.symm.trans hfa
  refine ⟨fd, fun s u => ?_, fun base _ _ => ?_⟩
  · obtain ⟨oc, od, kV, dc, pm, an, cd, ct, osl, rfl, lk, hcd⟩ := F.ex
    exact .of_eq rfl
  · exact fn_mm (g := fun _ => b_law sp__law_draw sp__law_rules sp__law_pick sp__law_grown sp__law_next sp__law_step sp__law_token sp__law_right sp__law_place sp__law_spoilt sp__law_ended) F sc_law (by intro as m C Ex h; first | done | (repeat first | (obtain ⟨e, _⟩ := h; subst e; rfl) | (obtain ⟨_, h⟩ := h))) (fun cdv A outer s H E W V hr tk => d_law T (G__law_draw := (g__law_draw T)) (G__law_rules := (g__law_rules T)) (G__law_pick := (g__law_pick T)) (G__law_grown := (g__law_grown T)) (G__law_next := (g__law_next T)) (G__law_step := (g__law_step T)) (G__law_token := (g__law_token T)) (G__law_right := (g__law_right T)) (G__law_place := (g__law_place T)) (G__law_spoilt := (g__law_spoilt T)) (G__law_ended := (g__law_ended T)) _ cdv A outer s H E W V hr tk) l_law
end K17
open PySem PySem.W PyProof.Rows
set_option maxHeartbeats 0 in
theorem PySem.Challenge.cw_asiffresh_k17_first_wrong_token_holds : PySem.Challenge.rw_asiffresh_k17_first_wrong_token.Holds := by
  w_on; o_law; k_head; (case hw => w_witness2)
  k_fill
  refine MM.walk_X (l := PySem.Challenge.rw_asiffresh_k17_first_wrong_token) (n := 63) (k := 5) (x := "script") (sp := K17.sp_law) rfl (by decide) rfl ⟨rfl, by decide, by decide⟩ (fun w h Y => PySem.W.kIn_of Y) ?F (fun ns _ => ⟨ns, rfl, rfl, rfl⟩)
  case F =>
    intro w mg fa h KX G XPh hmg
    refine K17.law_ok (h := h) ?T hmg
    case T =>
      refine' K17.txt_mk KX G ?nl ?a_ItemWalk ?pg_ItemWalk ?hd_ItemWalk ?po_ItemWalk ?sa_ItemWalk ?mk_ItemWalk ?kc_ItemWalk ?a__law_draw ?l__law_draw ?c__law_draw ?k__law_draw ?a__law_rules ?l__law_rules ?c__law_rules ?k__law_rules ?a__law_next ?l__law_next ?c__law_next ?k__law_next ?a__law_grown ?l__law_grown ?c__law_grown ?k__law_grown ?a__law_step ?l__law_step ?c__law_step ?k__law_step ?a__law_key ?l__law_key ?c__law_key ?k__law_key ?a__law_first_wrong ?l__law_first_wrong ?c__law_first_wrong ?k__law_first_wrong ?a_ItemWalk__m___init__ ?i_ItemWalk__m___init__ ?l_ItemWalk__m___init__ ?c_ItemWalk__m___init__ ?k_ItemWalk__m___init__ ?a_ItemWalk__m_expand ?i_ItemWalk__m_expand ?l_ItemWalk__m_expand ?c_ItemWalk__m_expand ?k_ItemWalk__m_expand ?a_ItemWalk__m_act ?i_ItemWalk__m_act ?l_ItemWalk__m_act ?c_ItemWalk__m_act ?k_ItemWalk__m_act ?a_ItemWalk__m_meet ?i_ItemWalk__m_meet ?l_ItemWalk__m_meet ?c_ItemWalk__m_meet ?k_ItemWalk__m_meet ?a_ItemWalk__m_take ?i_ItemWalk__m_take ?l_ItemWalk__m_take ?c_ItemWalk__m_take ?k_ItemWalk__m_take ?a_terminal ?l_terminal ?c_terminal ?k_terminal ?a_read_item ?l_read_item ?c_read_item ?k_read_item ?a__law_keys ?l__law_keys ?c__law_keys ?k__law_keys ?a__law_could ?l__law_could ?c__law_could ?k__law_could ?a__law_right ?l__law_right ?c__law_right ?k__law_right ?a__law_pick ?l__law_pick ?c__law_pick ?k__law_pick ?a__law_token ?l__law_token ?c__law_token ?k__law_token ?a__law_place ?l__law_place ?c__law_place ?k__law_place ?a__law_spoilt ?l__law_spoilt ?c__law_spoilt ?k__law_spoilt ?a__law_ended ?l__law_ended ?c__law_ended ?k__law_ended ?a_law ?l_law ?c_law ?k_law ?n_ItemWalk_due ?n_ItemWalk_made ?n_ItemWalk_depth ?a_RULES ?l_tab_RULES ?lo_RULES ?hk_RULES ?hv_RULES ?a_PIECES ?l_tab_PIECES ?lo_PIECES ?hk_PIECES ?hv_PIECES ?a_DEEPENING ?q_DEEPENING ?a_DEEPEST ?q_DEEPEST ?z_list ?z_len ?z_int ?z_range ?z_sorted ?z_tuple ?z_enumerate ?z_set ?z_isinstance ?z_str ?z_bool
      (case a_ItemWalk => k_is)
      (case pg_ItemWalk => k_is)
      (case hd_ItemWalk => k_is)
      (case po_ItemWalk => k_is)
      (case sa_ItemWalk => k_is)
      (case mk_ItemWalk => k_is)
      (case kc_ItemWalk => k_is)
      (case a__law_draw => k_is)
      (case l__law_draw => k_is)
      (case c__law_draw => k_is)
      (case k__law_draw => k_is)
      (case a__law_rules => k_is)
      (case l__law_rules => k_is)
      (case c__law_rules => k_is)
      (case k__law_rules => k_is)
      (case a__law_next => k_is)
      (case l__law_next => k_is)
      (case c__law_next => k_is)
      (case k__law_next => k_is)
      (case a__law_grown => k_is)
      (case l__law_grown => k_is)
      (case c__law_grown => k_is)
      (case k__law_grown => k_is)
      (case a__law_step => k_is)
      (case l__law_step => k_is)
      (case c__law_step => k_is)
      (case k__law_step => k_is)
      (case a__law_key => k_is)
      (case l__law_key => k_is)
      (case c__law_key => k_is)
      (case k__law_key => k_is)
      (case a__law_first_wrong => k_is)
      (case l__law_first_wrong => k_is)
      (case c__law_first_wrong => k_is)
      (case k__law_first_wrong => k_is)
      (case a_ItemWalk__m___init__ => k_is)
      (case i_ItemWalk__m___init__ => k_is)
      (case l_ItemWalk__m___init__ => k_is)
      (case c_ItemWalk__m___init__ => k_is)
      (case k_ItemWalk__m___init__ => k_is)
      (case a_ItemWalk__m_expand => k_is)
      (case i_ItemWalk__m_expand => k_is)
      (case l_ItemWalk__m_expand => k_is)
      (case c_ItemWalk__m_expand => k_is)
      (case k_ItemWalk__m_expand => k_is)
      (case a_ItemWalk__m_act => k_is)
      (case i_ItemWalk__m_act => k_is)
      (case l_ItemWalk__m_act => k_is)
      (case c_ItemWalk__m_act => k_is)
      (case k_ItemWalk__m_act => k_is)
      (case a_ItemWalk__m_meet => k_is)
      (case i_ItemWalk__m_meet => k_is)
      (case l_ItemWalk__m_meet => k_is)
      (case c_ItemWalk__m_meet => k_is)
      (case k_ItemWalk__m_meet => k_is)
      (case a_ItemWalk__m_take => k_is)
      (case i_ItemWalk__m_take => k_is)
      (case l_ItemWalk__m_take => k_is)
      (case c_ItemWalk__m_take => k_is)
      (case k_ItemWalk__m_take => k_is)
      (case a_terminal => k_is)
      (case l_terminal => k_is)
      (case c_terminal => k_is)
      (case k_terminal => k_is)
      (case a_read_item => k_is)
      (case l_read_item => k_is)
      (case c_read_item => k_is)
      (case k_read_item => k_is)
      (case a__law_keys => k_is)
      (case l__law_keys => k_is)
      (case c__law_keys => k_is)
      (case k__law_keys => k_is)
      (case a__law_could => k_is)
      (case l__law_could => k_is)
      (case c__law_could => k_is)
      (case k__law_could => k_is)
      (case a__law_right => k_is)
      (case l__law_right => k_is)
      (case c__law_right => k_is)
      (case k__law_right => k_is)
      (case a__law_pick => k_is)
      (case l__law_pick => k_is)
      (case c__law_pick => k_is)
      (case k__law_pick => k_is)
      (case a__law_token => k_is)
      (case l__law_token => k_is)
      (case c__law_token => k_is)
      (case k__law_token => k_is)
      (case a__law_place => k_is)
      (case l__law_place => k_is)
      (case c__law_place => k_is)
      (case k__law_place => k_is)
      (case a__law_spoilt => k_is)
      (case l__law_spoilt => k_is)
      (case c__law_spoilt => k_is)
      (case k__law_spoilt => k_is)
      (case a__law_ended => k_is)
      (case l__law_ended => k_is)
      (case c__law_ended => k_is)
      (case k__law_ended => k_is)
      (case a_law => k_is)
      (case l_law => k_is)
      (case c_law => k_is)
      (case k_law => k_is)
      (case n_ItemWalk_due => k_is)
      (case n_ItemWalk_made => k_is)
      (case n_ItemWalk_depth => k_is)
      (case a_RULES => k_is)
      (case l_tab_RULES => k_is)
      (case a_PIECES => k_is)
      (case l_tab_PIECES => k_is)
      (case a_DEEPENING => k_is)
      (case a_DEEPEST => k_is)
      (case z_list => k_is)
      (case z_len => k_is)
      (case z_int => k_is)
      (case z_range => k_is)
      (case z_sorted => k_is)
      (case z_tuple => k_is)
      (case z_enumerate => k_is)
      (case z_set => k_is)
      (case z_isinstance => k_is)
      (case z_str => k_is)
      (case z_bool => k_is)
      (case lo_RULES => exact rfl)
      (case hk_RULES => exact rfl)
      (case hv_RULES => exact rfl)
      (case lo_PIECES => exact rfl)
      (case hk_PIECES => exact rfl)
      (case hv_PIECES => exact rfl)
      (case q_DEEPENING => exact rfl)
      (case q_DEEPEST => exact rfl)
      (case nl => exact rfl)
