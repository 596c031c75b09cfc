import PyProof.Rows.All
import Wide.All
import OpenK.AllK
import Wide.FinOn
import HandS.ForMost
import HandS.ForExc
import HandS.Evl
import HandS.Defaults
import HandS.HotCalls
import HandS.Style
import KE.DataMinMax
import PyProof.Rows.RowBridgeK
import HandS.IsInst
import HandS.Gcd
import HandS.FStr
import PyProof.StrOps2
import HandS.Iter
import HandS.Zip
import KE.KExcIs
import HandS.ExcInitHot
import HandS.ClsMeth
import HandS.Property
import HandS.ExcIs
import HandS.OwnEq
import KE.KTryMore
import HandS.ExcInit
import HandS.ExcField
import HandS.WordsExc
import HandS.HeadHook1
import HandS.HeadHook2
import HandS.MakeKw
import PySem.Challenge.RW_sharedsites_k60_whole_standing_rows
import HandS.Head0
import HandS.Head1
import HandS.Head2
import HandS.Head3
import HandS.HeadEnd
import HandS.SetKeys
import HandS.Small
import HandS.SortInts
import KE.KMathG
import KE.SortData
import HandS.SortKw
import KE.DatumMoreOrd
import HandS.TupAny
import HandS.SlotsOwn
import HandS.TupLe
import HandS.Conv
set_option Elab.async false
set_option linter.all false
set_option maxRecDepth 100000
/-! GBase: the data layer over HandS. Values as pure data D; a frozen part F of the heap, hidden; mutable things by a map Ms; judgements on data. -/
namespace G
open PySem PySem.Spec PyProof.Rows L2

/-! ### data -/
inductive D where
  | non | bl (b : Bool) | int (i : Int) | str (x : Str) | ref (a : Addr) | ty (n : String)
  | tup (xs : List D)
  | lst (xs : List D)
  /-- a list that is only read -/
  | rol (xs : List D)
  /-- an instance of the class at C that no longer changes: the names of its fields, their data -/
  | ins (C : Addr) (ns : List Str) (ds : List D)
  | dic (ks : List Key) (ds : List D)
  /-- a caught exception of the own class at C: the names of its fields, their data -/
  | exn (C : Addr) (ns : List Str) (ds : List D)

/-- this very object stands at a -/
def xob (a : Addr) (o : Obj) : HO := .ext fun h => h.get? a = some o
structure XobC (C d : Addr) (o : Obj) : Prop where
  cls : o.cls = .ref C
  dict : o.dict = some d
  data : ∃ fv, o.data = .fields fv

mutual
def Rep (K : PySem.W.Frag) (F : Hp) : D → V → Prop
  | .non, v => v = .non
  | .bl b, v => v = .bl b
  | .int i, v => v = .int i
  | .str x, v => v = .str x
  | .ref a, v => v = .ref a
  | .ty n, v => v = .ty n
  | .tup ds, v => ∃ a vs, v = .ref a ∧ SqT K F a vs ∧ Reps K F ds vs
  | .lst ds, v => ∃ a vs, v = .ref a ∧ F a = some (.lst vs) ∧ Reps K F ds vs
  | .rol ds, v => ∃ a vs, v = .ref a ∧ SqL K F a vs ∧ Reps K F ds vs
  | .ins C ns ds, v => ∃ a dx vs, v = .ref a ∧ F a = some (.ins C dx (ns.zip vs)) ∧ ns.length = ds.length ∧ Reps K F ds vs
  | .dic ks ds, v => ∃ a vs, v = .ref a ∧ F a = some (.dK (ks.zip vs)) ∧ ks.length = ds.length ∧ Reps K F ds vs
  | .exn C ns ds, v => ∃ a o d vs, v = .ref a ∧ F a = some (xob a o) ∧ XobC C d o ∧ F d = some (.xd (ns.zip vs)) ∧ ns.length = ds.length ∧ Reps K F ds vs
def Reps (K : PySem.W.Frag) (F : Hp) : List D → List V → Prop
  | [], vs => vs = []
  | d :: ds, vs => ∃ v r, vs = v :: r ∧ Rep K F d v ∧ Reps K F ds r
end

theorem same_t {K : PySem.W.Frag} {F F' : Hp} (e : Same F F') {a : Addr} {xs : List V} (h : SqT K F a xs) : SqT K F' a xs := by
  rcases h with (h | ⟨o, h⟩) | h
  · exact .inl (.inl (e _ _ h))
  · exact .inl (.inr ⟨o, e _ _ h⟩)
  · exact .inr h
mutual
theorem Rep.mono {K : PySem.W.Frag} {F F' : Hp} (e : Same F F') : ∀ {d : D} {v : V}, Rep K F d v → Rep K F' d v
  | .non, _, h => h
  | .bl _, _, h => h
  | .int _, _, h => h
  | .str _, _, h => h
  | .ref _, _, h => h
  | .ty _, _, h => h
  | .tup _, _, ⟨a, vs, h1, h2, h3⟩ => ⟨a, vs, h1, same_t e h2, Reps.mono e h3⟩
  | .lst _, _, ⟨a, vs, h1, h2, h3⟩ => ⟨a, vs, h1, e _ _ h2, Reps.mono e h3⟩
  | .rol _, _, ⟨a, vs, h1, h2, h3⟩ => ⟨a, vs, h1, e.seq h2, Reps.mono e h3⟩
  | .ins _ _ _, _, ⟨a, dx, vs, h1, h2, h3, h4⟩ => ⟨a, dx, vs, h1, e _ _ h2, h3, Reps.mono e h4⟩
  | .dic _ _, _, ⟨a, vs, h1, h2, h3, h4⟩ => ⟨a, vs, h1, e _ _ h2, h3, Reps.mono e h4⟩
  | .exn _ _ _, _, ⟨a, o, d, vs, h1, h2, h3, h4, h5, h6⟩ => ⟨a, o, d, vs, h1, e _ _ h2, h3, e _ _ h4, h5, Reps.mono e h6⟩
theorem Reps.mono {K : PySem.W.Frag} {F F' : Hp} (e : Same F F') : ∀ {ds : List D} {vs : List V}, Reps K F ds vs → Reps K F' ds vs
  | [], _, h => h
  | _ :: _, _, ⟨v, r, h1, h2, h3⟩ => ⟨v, r, h1, Rep.mono e h2, Reps.mono e h3⟩
end
theorem Reps.length {K : PySem.W.Frag} {F : Hp} : ∀ {ds : List D} {vs : List V}, Reps K F ds vs → vs.length = ds.length
  | [], _, h => by
    have h : _ = [] := h
    rw [h]; rfl
  | _ :: _, _, ⟨v, r, h1, _, h3⟩ => by rw [h1, List.length_cons, List.length_cons, Reps.length h3]
theorem Reps.get {K : PySem.W.Frag} {F : Hp} : ∀ {ds : List D} {vs : List V} {i : Nat} {d : D}, Reps K F ds vs → ds[i]? = some d → ∃ v, vs[i]? = some v ∧ Rep K F d v
  | [], _, _, _, _, e => by simp at e
  | _ :: _, _, 0, d, ⟨v, r, h1, h2, _⟩, e => by
    have e : some _ = some d := e
    cases e
    exact ⟨v, by rw [h1]; rfl, h2⟩
  | _ :: ds, _, i + 1, d, ⟨v, r, h1, _, h3⟩, e => by
    obtain ⟨u, hu, ru⟩ := Reps.get h3 (show ds[i]? = some d from e)
    exact ⟨u, by rw [h1]; exact hu, ru⟩
theorem Reps.set {K : PySem.W.Frag} {F : Hp} {d : D} {v : V} (h : Rep K F d v) : ∀ {ds : List D} {vs : List V} (i : Nat), Reps K F ds vs → Reps K F (ds.set i d) (vs.set i v)
  | [], _, _, h1 => by
    have h1 : _ = [] := h1
    subst h1
    exact rfl
  | _ :: _, _, 0, ⟨u, r, h1, _, h3⟩ => ⟨v, r, by rw [h1]; rfl, h, h3⟩
  | _ :: _, _, i + 1, ⟨u, r, h1, h2, h3⟩ => ⟨u, r.set i v, by rw [h1]; rfl, h2, Reps.set h i h3⟩
theorem Reps.append {K : PySem.W.Frag} {F : Hp} : ∀ {ds es : List D} {vs us : List V}, Reps K F ds vs → Reps K F es us → Reps K F (ds ++ es) (vs ++ us)
  | [], _, _, _, h, h' => by
    have h : _ = [] := h
    subst h
    exact h'
  | _ :: _, _, _, _, ⟨v, r, h1, h2, h3⟩, h' => ⟨v, r ++ _, by rw [h1]; rfl, h2, Reps.append h3 h'⟩
theorem Reps.one {K : PySem.W.Frag} {F : Hp} {d : D} {v : V} (h : Rep K F d v) : Reps K F [d] [v] := ⟨v, [], rfl, h, rfl⟩
theorem Reps.cons {K : PySem.W.Frag} {F : Hp} {d : D} {v : V} {ds : List D} {vs : List V} (h : Rep K F d v) (h' : Reps K F ds vs) : Reps K F (d :: ds) (v :: vs) := ⟨v, vs, rfl, h, h'⟩
theorem Reps.drop {K : PySem.W.Frag} {F : Hp} : ∀ {ds : List D} {vs : List V} (n : Nat), Reps K F ds vs → Reps K F (ds.drop n) (vs.drop n)
  | [], _, n, h => by
    have h : _ = [] := h
    subst h
    rw [List.drop_nil, List.drop_nil]
    exact rfl
  | _ :: _, _, 0, h => h
  | _ :: _, _, n + 1, ⟨v, r, h1, h2, h3⟩ => by rw [h1]; exact Reps.drop n h3
theorem Reps.take {K : PySem.W.Frag} {F : Hp} : ∀ {ds : List D} {vs : List V} (n : Nat), Reps K F ds vs → Reps K F (ds.take n) (vs.take n)
  | [], _, n, h => by
    have h : _ = [] := h
    subst h
    rw [List.take_nil, List.take_nil]
    exact rfl
  | _ :: _, _, 0, _ => rfl
  | _ :: _, _, n + 1, ⟨v, r, h1, h2, h3⟩ => ⟨v, r.take n, by rw [h1]; rfl, h2, Reps.take n h3⟩
theorem Reps.nil_inv {K : PySem.W.Frag} {F : Hp} {vs : List V} (h : Reps K F [] vs) : vs = [] := h
/-- ints, texts, bools: the data tell the values -/
theorem Reps.ints {K : PySem.W.Frag} {F : Hp} : ∀ {ns : List Int} {vs : List V}, Reps K F (ns.map D.int) vs → vs = ns.map V.int
  | [], _, h => h
  | _ :: _, _, ⟨v, r, h1, h2, h3⟩ => by
    have h2 : v = _ := h2
    rw [h1, h2, Reps.ints h3]; rfl
theorem Reps.of_ints {K : PySem.W.Frag} {F : Hp} : ∀ (ns : List Int), Reps K F (ns.map D.int) (ns.map V.int)
  | [] => rfl
  | n :: ns => ⟨.int n, ns.map V.int, rfl, rfl, Reps.of_ints ns⟩

/-! ### mutable things -/
inductive MO where
  | lst (ds : List D)
  | ins (C : Addr) (ns : List Str) (ds : List D)
  | dK (ks : List Key) (ds : List D)
abbrev Ms := Addr → Option MO
def um (M : Ms) (p : Addr) (o : MO) : Ms := fun q => if q = p then some o else M q
theorem um_same {M : Ms} {p : Addr} {o : MO} : um M p o p = some o := by unfold um; rw [if_pos rfl]
theorem um_ne {M : Ms} {p q : Addr} {o : MO} (h : q ≠ p) : um M p o q = M q := by unfold um; rw [if_neg h]
theorem um_um {M : Ms} {p : Addr} {o u : MO} : um (um M p o) p u = um M p u := by
  funext b; unfold um; split <;> rfl
def MR (K : PySem.W.Frag) (F H : Hp) (p : Addr) : MO → Prop
  | .lst ds => ∃ vs, H p = some (.lst vs) ∧ Reps K F ds vs
  | .ins C ns ds => ∃ dx vs, H p = some (.ins C dx (ns.zip vs)) ∧ ns.length = ds.length ∧ Reps K F ds vs
  | .dK ks ds => ∃ vs, H p = some (.dK (ks.zip vs)) ∧ ks.length = ds.length ∧ Reps K F ds vs
structure Ok (K : PySem.W.Frag) (F H : Hp) (M : Ms) : Prop where
  ex : Same F H
  mu : ∀ p o, M p = some o → F p = none ∧ MR K F H p o
theorem MR.some {K : PySem.W.Frag} {F H : Hp} {p : Addr} {o : MO} (h : MR K F H p o) : ∃ u, H p = some u := by
  cases o with
  | lst ds => obtain ⟨vs, h, _⟩ := h; exact ⟨_, h⟩
  | ins C ns ds => obtain ⟨dx, vs, h, _⟩ := h; exact ⟨_, h⟩
  | dK ks ds => obtain ⟨vs, h, _⟩ := h; exact ⟨_, h⟩
theorem MR.mono {K : PySem.W.Frag} {F F' H H' : Hp} {p : Addr} {o : MO} (e : Same F F') (hp : H' p = H p) (h : MR K F H p o) : MR K F' H' p o := by
  cases o with
  | lst ds => obtain ⟨vs, h1, h2⟩ := h; exact ⟨vs, hp.trans h1, h2.mono e⟩
  | ins C ns ds => obtain ⟨dx, vs, h1, h2, h3⟩ := h; exact ⟨dx, vs, hp.trans h1, h2, h3.mono e⟩
  | dK ks ds => obtain ⟨vs, h1, h2, h3⟩ := h; exact ⟨vs, hp.trans h1, h2, h3.mono e⟩
section
variable {K : PySem.W.Frag} {F H : Hp} {M : Ms} {p : Addr}
theorem Ok.fresh (ok : Ok K F H M) (h : H p = none) : M p = none := by
  cases e : M p with
  | none => rfl
  | some o =>
    obtain ⟨u, hu⟩ := (ok.mu p o e).2.some
    rw [h] at hu; cases hu
theorem Ok.freshF (ok : Ok K F H M) (h : H p = none) : F p = none := ok.ex.free h
theorem same_upd {H : Hp} {p : Addr} {o : HO} (h : H p = none) : Same H (upd H p o) := fun b u e => by
  rw [upd_ne (ne_of_none e h)]; exact e
theorem same_upd2 {F H : Hp} {p : Addr} {o : HO} (e : Same F H) (h : F p = none) : Same F (upd H p o) := fun b u q => by
  rw [upd_ne (ne_of_none q h)]; exact e b u q
theorem same_updU {F H : Hp} {p : Addr} {o : HO} (e : Same F H) : Same (upd F p o) (upd H p o) := fun b u q => by
  by_cases hb : b = p
  · subst hb; rw [upd_same] at q ⊢; exact q
  · rw [upd_ne hb] at q ⊢; exact e b u q
/-- a new thing, frozen at once -/
theorem Ok.new {o : HO} (ok : Ok K F H M) (h : H p = none) : Ok K (upd F p o) (upd H p o) M := by
  refine ⟨same_updU ok.ex, fun q u e => ?_⟩
  obtain ⟨h1, h2⟩ := ok.mu q u e
  have hq : q ≠ p := fun z => by
    obtain ⟨w, hw⟩ := h2.some
    rw [z, h] at hw; cases hw
  exact ⟨by rw [upd_ne hq]; exact h1, h2.mono (same_upd (ok.freshF h)) (upd_ne hq)⟩
/-- a new thing that may change -/
theorem Ok.newM {o : HO} {u : MO} (ok : Ok K F H M) (h : H p = none) (hu : MR K F (upd H p o) p u) : Ok K F (upd H p o) (um M p u) := by
  refine ⟨same_upd2 ok.ex (ok.freshF h), fun q v e => ?_⟩
  by_cases hq : q = p
  · subst hq
    rw [um_same] at e; cases e
    exact ⟨ok.freshF h, hu⟩
  · rw [um_ne hq] at e
    obtain ⟨h1, h2⟩ := ok.mu q v e
    exact ⟨h1, h2.mono (Same.refl F) (upd_ne hq)⟩
/-- a change -/
theorem Ok.write {o : HO} {u u0 : MO} (ok : Ok K F H M) (h : M p = some u0) (hu : MR K F (upd H p o) p u) : Ok K F (upd H p o) (um M p u) := by
  have hF := (ok.mu p u0 h).1
  refine ⟨same_upd2 ok.ex hF, fun q v e => ?_⟩
  by_cases hq : q = p
  · subst hq
    rw [um_same] at e; cases e
    exact ⟨hF, hu⟩
  · rw [um_ne hq] at e
    obtain ⟨h1, h2⟩ := ok.mu q v e
    exact ⟨h1, h2.mono (Same.refl F) (upd_ne hq)⟩
/-- fewer mutable things -/
def Sub (M M' : Ms) : Prop := ∀ p o, M p = some o → M' p = some o
theorem Sub.refl (M : Ms) : Sub M M := fun _ _ h => h
theorem Sub.trans {M M1 M2 : Ms} (a : Sub M M1) (b : Sub M1 M2) : Sub M M2 := fun p o h => b p o (a p o h)
theorem Sub.new {o : MO} (h : M p = none) : Sub M (um M p o) := fun q u e => by
  have : q ≠ p := fun z => by rw [z, h] at e; cases e
  rw [um_ne this]; exact e
theorem Ok.sub {M' : Ms} (ok : Ok K F H M') (h : Sub M M') : Ok K F H M := ⟨ok.ex, fun q u e => ok.mu q u (h q u e)⟩
def dm (M : Ms) (p : Addr) : Ms := fun q => if q = p then none else M q
theorem dm_sub : Sub (dm M p) M := fun q u e => by
  unfold dm at e
  split at e
  · cases e
  · exact e
theorem dm_um {o : MO} (h : M p = none) : dm (um M p o) p = M := by
  funext q; unfold dm um
  by_cases hq : q = p
  · rw [if_pos hq, hq, h]
  · rw [if_neg hq, if_neg hq]
/-- a mutable thing is frozen: a list -/
theorem Ok.freezeL {ds : List D} (ok : Ok K F H M) (h : M p = some (.lst ds)) : ∃ F', Same F F' ∧ Ok K F' H (dm M p) ∧ Rep K F' (.lst ds) (.ref p) := by
  obtain ⟨hF, vs, hp, r⟩ := ok.mu p _ h
  have e : Same F (upd F p (.lst vs)) := same_upd hF
  refine ⟨upd F p (.lst vs), e, ⟨fun b u q => ?_, fun q u e1 => ?_⟩, p, vs, rfl, upd_same, r.mono e⟩
  · by_cases hb : b = p
    · subst hb; rw [upd_same] at q; cases q; exact hp
    · rw [upd_ne hb] at q; exact ok.ex b u q
  · have hq : q ≠ p := fun z => by
      unfold dm at e1
      rw [if_pos z] at e1; cases e1
    obtain ⟨h1, h2⟩ := ok.mu q u (dm_sub q u e1)
    exact ⟨by rw [upd_ne hq]; exact h1, h2.mono e rfl⟩
theorem Ok.freezeI {C : Addr} {ns : List Str} {ds : List D} (ok : Ok K F H M) (h : M p = some (.ins C ns ds)) : ∃ F', Same F F' ∧ Ok K F' H (dm M p) ∧ Rep K F' (.ins C ns ds) (.ref p) := by
  obtain ⟨hF, dx, vs, hp, hl, r⟩ := ok.mu p _ h
  have e : Same F (upd F p (.ins C dx (ns.zip vs))) := same_upd hF
  refine ⟨upd F p (.ins C dx (ns.zip vs)), e, ⟨fun b u q => ?_, fun q u e1 => ?_⟩, p, dx, vs, rfl, upd_same, hl, r.mono e⟩
  · by_cases hb : b = p
    · subst hb; rw [upd_same] at q; cases q; exact hp
    · rw [upd_ne hb] at q; exact ok.ex b u q
  · have hq : q ≠ p := fun z => by
      unfold dm at e1
      rw [if_pos z] at e1; cases e1
    obtain ⟨h1, h2⟩ := ok.mu q u (dm_sub q u e1)
    exact ⟨by rw [upd_ne hq]; exact h1, h2.mono e rfl⟩
end

/-! ### slots -/
abbrev Gm := List (Option D)
def Sl (K : PySem.W.Frag) (F : Hp) (σ : L2.St) (Γ : Gm) : Prop := σ.length = Γ.length ∧ ∀ (i : Nat) (d : D), Γ[i]? = some (some d) → ∃ v, σ[i]? = some (some v) ∧ Rep K F d v
theorem Sl.mono {K : PySem.W.Frag} {F F' : Hp} {σ : L2.St} {Γ : Gm} (e : Same F F') (h : Sl K F σ Γ) : Sl K F' σ Γ :=
  ⟨h.1, fun i d q => let ⟨v, a, b⟩ := h.2 i d q; ⟨v, a, b.mono e⟩⟩
theorem Sl.set {K : PySem.W.Frag} {F : Hp} {σ : L2.St} {Γ : Gm} {d : D} {v : V} (h : Sl K F σ Γ) (r : Rep K F d v) (i : Nat) : Sl K F (σ.set i (some v)) (Γ.set i (some d)) := by
  refine ⟨by rw [List.length_set, List.length_set]; exact h.1, fun j x q => ?_⟩
  by_cases hj : i = j
  · subst hj
    have hi : i < Γ.length := by
      have := (List.getElem?_eq_some_iff.mp q).1
      rwa [List.length_set] at this
    rw [List.getElem?_set_self hi] at q
    cases q
    exact ⟨v, List.getElem?_set_self (by rw [h.1]; exact hi), r⟩
  · rw [List.getElem?_set_ne hj] at q
    rw [List.getElem?_set_ne hj]
    exact h.2 j x q
theorem Sl.forget {K : PySem.W.Frag} {F : Hp} {σ : L2.St} {Γ : Gm} (h : Sl K F σ Γ) (i : Nat) : Sl K F (σ.set i none) (Γ.set i none) := by
  refine ⟨by rw [List.length_set, List.length_set]; exact h.1, fun j x q => ?_⟩
  by_cases hj : i = j
  · subst hj
    have hi : i < Γ.length := by
      have := (List.getElem?_eq_some_iff.mp q).1
      rwa [List.length_set] at this
    rw [List.getElem?_set_self hi] at q
    cases q
  · rw [List.getElem?_set_ne hj] at q
    rw [List.getElem?_set_ne hj]
    exact h.2 j x q
def wipeG (Γ : Gm) : List Nat → Gm
  | [] => Γ
  | v :: vs => (wipeG Γ vs).set v none
theorem Sl.wipe {K : PySem.W.Frag} {F : Hp} {σ : L2.St} {Γ : Gm} (h : Sl K F σ Γ) : ∀ vs : List Nat, Sl K F (L2.wipe σ vs) (wipeG Γ vs)
  | [] => h
  | v :: vs => (Sl.wipe h vs).forget v

/-! ### ends on data -/
/-- what is wanted of an exception: its class, its fields, the mutable things -/
abbrev PX := Addr → List Str → List D → Ms → Prop
abbrev PD := D → Ms → Prop
def KE (K : PySem.W.Frag) (F : Hp) (Φ : PD) (Q : VK) : Prop := ∀ F' H' M' d v, Same F F' → Ok K F' H' M' → Rep K F' d v → Φ d M' → Q v H'
def KB (K : PySem.W.Frag) (F : Hp) (Φ : Bool → Ms → Prop) (Q : Bool → Hp → Prop) : Prop := ∀ F' H' M' b, Same F F' → Ok K F' H' M' → Φ b M' → Q b H'
def KA (K : PySem.W.Frag) (F : Hp) (Φ : List D → Ms → Prop) (Q : List V → Hp → Prop) : Prop := ∀ F' H' M' ds vs, Same F F' → Ok K F' H' M' → Reps K F' ds vs → Φ ds M' → Q vs H'
def KX (K : PySem.W.Frag) (F : Hp) (Ψ : PX) (E : XK) : Prop := ∀ F' H' M' C d ns ds vs, Same F F' → Ok K F' H' M' → F' d = some (.xd (ns.zip vs)) → ns.length = ds.length → Reps K F' ds vs → Ψ C ns ds M' → E (.ref C) (some d) H'
section
variable {K : PySem.W.Frag} {F F' : Hp}
theorem KE.mono {Φ : PD} {Q : VK} (e : Same F F') (h : KE K F Φ Q) : KE K F' Φ Q := fun F2 H2 M2 d v e2 => h F2 H2 M2 d v (e.trans e2)
theorem KB.mono {Φ : Bool → Ms → Prop} {Q : Bool → Hp → Prop} (e : Same F F') (h : KB K F Φ Q) : KB K F' Φ Q := fun F2 H2 M2 b e2 => h F2 H2 M2 b (e.trans e2)
theorem KA.mono {Φ : List D → Ms → Prop} {Q : List V → Hp → Prop} (e : Same F F') (h : KA K F Φ Q) : KA K F' Φ Q := fun F2 H2 M2 ds vs e2 => h F2 H2 M2 ds vs (e.trans e2)
theorem KX.mono {Ψ : PX} {E : XK} (e : Same F F') (h : KX K F Ψ E) : KX K F' Ψ E := fun F2 H2 M2 C d ns ds vs e2 => h F2 H2 M2 C d ns ds vs (e.trans e2)
theorem KX.none {E : XK} : KX K F (fun _ _ _ _ => False) E := fun _ _ _ _ _ _ _ _ _ _ _ _ _ z => z.elim
end

/-- a family of contexts (a def's body: one; a comprehension's block: one for each state at its start), the written part, the wish about exceptions -/
structure Fm (ι : Type) where
  X : ι → Cx
  K : PySem.W.Frag
  w : WX
  /-- an exception is being handled -/
  hot : Bool

section
variable {ι : Type}
def GE (T : Fm ι) (t : TE) (Γ : Gm) (M : Ms) (Φ : PD) (Ψ : PX) : Prop := ∀ F H σ Q, Ok T.K F H M → Sl T.K F σ Γ → KE T.K F Φ Q → KX T.K F Ψ (fun c d H => T.w c d σ H) → t σ H Q
def GT (T : Fm ι) (t : TT) (Γ : Gm) (M : Ms) (Φ : Bool → Ms → Prop) (Ψ : PX) : Prop := ∀ F H σ Q, Ok T.K F H M → Sl T.K F σ Γ → KB T.K F Φ Q → KX T.K F Ψ (fun c d H => T.w c d σ H) → t σ H Q
def GA (T : Fm ι) (t : TA) (Γ : Gm) (M : Ms) (Φ : List D → Ms → Prop) (Ψ : PX) : Prop := ∀ F H σ Q, Ok T.K F H M → Sl T.K F σ Γ → KA T.K F Φ Q → KX T.K F Ψ (fun c d H => T.w c d σ H) → t σ H Q
/-- an operation on values -/
def GR (T : Fm ι) (r : R2) (x y : D) (M : Ms) (Φ : PD) : Prop := ∀ F H vx vy Q, Ok T.K F H M → Rep T.K F x vx → Rep T.K F y vy → KE T.K F Φ Q → r vx vy H Q
def GU (T : Fm ι) (r : V → Hp → VK → Prop) (x : D) (M : Ms) (Φ : PD) : Prop := ∀ F H vx Q, Ok T.K F H M → Rep T.K F x vx → KE T.K F Φ Q → r vx H Q
def GC (T : Fm ι) (r : List V → Hp → VK → Prop) (xs : List D) (M : Ms) (Φ : PD) : Prop := ∀ F H vs Q, Ok T.K F H M → Reps T.K F xs vs → KE T.K F Φ Q → r vs H Q

/-! ### the readings that the text itself has -/
def teOf (T : Fm ι) (e : Expr) : TE := fun σ H Q => ∀ i pins s, Inv (T.X i) pins σ H s → wpAny (model (T.X i).prog (T.X i).w) (T.X i).A (eval e (T.X i).env) (EP (T.X i) pins σ Q) (T.X i).xe s
def ttOf (T : Fm ι) (e : Expr) : TT := fun σ H Q => ∀ i pins s, Inv (T.X i) pins σ H s → wpAny (model (T.X i).prog (T.X i).w) (T.X i).A (isTrue e (T.X i).env (eval e (T.X i).env)) (TP (T.X i) pins σ Q) (T.X i).xe s
def twOf (T : Fm ι) (e : Expr) : TT := fun σ H Q => ∀ i (whole : Sem Value) pins s, Inv (T.X i) pins σ H s → wpAny (model (T.X i).prog (T.X i).w) (T.X i).A (isTrue e (T.X i).env whole) (TP (T.X i) pins σ Q) (T.X i).xe s
def taOf (T : Fm ι) (es : List Expr) : TA := fun σ H Q => ∀ i (pos : Pos) pins s, Inv (T.X i) pins σ H s → wpAny (model (T.X i).prog (T.X i).w) (T.X i).A (spliced (backTo pos (starEach es (T.X i).env))) (AP (T.X i) pins σ Q) (T.X i).xe s
def tsOf (T : Fm ι) (st : Stmt) : TS := fun D σ H => ∀ i pins s, Inv (T.X i) pins σ H s → wpAny (model (T.X i).prog (T.X i).w) (T.X i).A (exec st (T.X i).env) (SP (T.X i) pins D) (T.X i).xe s
def tssOf (T : Fm ι) (st : List Stmt) : TS := fun D σ H => ∀ i pins s, Inv (T.X i) pins σ H s → wpAny (model (T.X i).prog (T.X i).w) (T.X i).A (execs st (T.X i).env) (SP (T.X i) pins D) (T.X i).xe s
variable {T : Fm ι} {e : Expr} {es : List Expr} {st : Stmt} {sts : List Stmt} {Γ : Gm} {M : Ms} {Φ : PD} {Ψ : PX}
theorem pe_te (i : ι) : PE (T.X i) e (teOf T e) := ⟨fun pins s _ _ _ I h => h i pins s I⟩
theorem pt_tt (i : ι) : PT (T.X i) e (ttOf T e) := ⟨fun pins s _ _ _ I h => h i pins s I⟩
theorem pw_tw (i : ι) : PW (T.X i) e (twOf T e) := ⟨fun wh pins s _ _ _ I h => h i wh pins s I⟩
theorem pa_ta (i : ι) : PA (T.X i) es (taOf T es) := ⟨fun pos pins s _ _ _ I h => h i pos pins s I⟩
theorem ps_ts (i : ι) : PS (T.X i) st (tsOf T st) := ⟨fun pins s _ _ _ I h => h i pins s I⟩
theorem pss_tss (i : ι) : PSs (T.X i) sts (tssOf T sts) := ⟨fun pins s _ _ _ I h => h i pins s I⟩

/-! ### the judgements -/
/-- the expression e, at the slots Γ and the mutable things M, hands on a datum and mutable things of which Φ holds (or raises so that Ψ holds) -/
def EX (T : Fm ι) (e : Expr) (Γ : Gm) (M : Ms) (Φ : PD) (Ψ : PX) : Prop := GE T (teOf T e) Γ M Φ Ψ
def TX (T : Fm ι) (e : Expr) (Γ : Gm) (M : Ms) (Φ : Bool → Ms → Prop) (Ψ : PX) : Prop := GT T (ttOf T e) Γ M Φ Ψ
def WWX (T : Fm ι) (e : Expr) (Γ : Gm) (M : Ms) (Φ : Bool → Ms → Prop) (Ψ : PX) : Prop := GT T (twOf T e) Γ M Φ Ψ
def AX (T : Fm ι) (es : List Expr) (Γ : Gm) (M : Ms) (Φ : List D → Ms → Prop) (Ψ : PX) : Prop := GA T (taOf T es) Γ M Φ Ψ
theorem EX.mk {t : TE} (h : ∀ i, PE (T.X i) e t) (g : GE T t Γ M Φ Ψ) : EX T e Γ M Φ Ψ := fun F H σ Q ok sl k x i pins s I => (h i).run pins s σ H Q I (g F H σ Q ok sl k x)
theorem TX.mk {t : TT} {Φ : Bool → Ms → Prop} (h : ∀ i, PT (T.X i) e t) (g : GT T t Γ M Φ Ψ) : TX T e Γ M Φ Ψ := fun F H σ Q ok sl k x i pins s I => (h i).run pins s σ H Q I (g F H σ Q ok sl k x)
theorem WWX.mk {t : TT} {Φ : Bool → Ms → Prop} (h : ∀ i, PW (T.X i) e t) (g : GT T t Γ M Φ Ψ) : WWX T e Γ M Φ Ψ := fun F H σ Q ok sl k x i wh pins s I => (h i).run wh pins s σ H Q I (g F H σ Q ok sl k x)
theorem AX.mk {t : TA} {Φ : List D → Ms → Prop} (h : ∀ i, PA (T.X i) es t) (g : GA T t Γ M Φ Ψ) : AX T es Γ M Φ Ψ := fun F H σ Q ok sl k x i pos pins s I => (h i).run pos pins s σ H Q I (g F H σ Q ok sl k x)
theorem WWX.tx {Φ : Bool → Ms → Prop} (h : WWX T e Γ M Φ Ψ) : TX T e Γ M Φ Ψ := TX.mk (fun i => (pw_tw i).pt) h
/-- weaker ends -/
theorem EX.imp {Φ' : PD} {Ψ' : PX} (h : EX T e Γ M Φ Ψ) (h1 : ∀ d M, Φ d M → Φ' d M) (h2 : ∀ C ns ds M, Ψ C ns ds M → Ψ' C ns ds M) : EX T e Γ M Φ' Ψ' :=
  fun F H σ Q ok sl k x => h F H σ Q ok sl (fun F' H' M' d v a b c q => k F' H' M' d v a b c (h1 _ _ q)) fun F' H' M' C d ns ds vs a b c f g q => x F' H' M' C d ns ds vs a b c f g (h2 _ _ _ _ q)

/-! ### generic readings -/
theorem ge_c {d : D} {v : V} (hv : ∀ K F, Rep K F d v) (h : Φ d M) : GE T (tC v) Γ M Φ Ψ := fun F H σ Q ok sl k x => k F H M d v (Same.refl F) ok (hv _ _) h
theorem ge_var {j : Nat} {d : D} (hj : Γ[j]? = some (some d)) (h : Φ d M) : GE T (tVar j) Γ M Φ Ψ := fun F H σ Q ok sl k x => by
  obtain ⟨v, hv, r⟩ := sl.2 j d hj
  exact ⟨v, hv, k F H M d v (Same.refl F) ok r h⟩
theorem ge_op {r : R2} {ta tb : TE} (h : GE T ta Γ M (fun x M1 => GE T tb Γ M1 (fun y M2 => GR T r x y M2 Φ) Ψ) Ψ) : GE T (tOp r ta tb) Γ M Φ Ψ := fun F H σ Q ok sl k x =>
  h F H σ _ ok sl (fun F1 H1 M1 d1 v1 e1 ok1 r1 hb => hb F1 H1 σ _ ok1 (sl.mono e1) (fun F2 H2 M2 d2 v2 e2 ok2 r2 hr => hr F2 H2 v1 v2 Q ok2 (r1.mono e2) r2 (k.mono (e1.trans e2))) (x.mono e1)) x
theorem ge_un {r : V → Hp → VK → Prop} {ta : TE} (h : GE T ta Γ M (fun x M1 => GU T r x M1 Φ) Ψ) : GE T (tUn r ta) Γ M Φ Ψ := fun F H σ Q ok sl k x =>
  h F H σ _ ok sl (fun F1 H1 M1 d1 v1 e1 ok1 r1 hr => hr F1 H1 v1 Q ok1 r1 (k.mono e1)) x
theorem ga_nil {Φ : List D → Ms → Prop} (h : Φ [] M) : GA T tNil Γ M Φ Ψ := fun F H σ Q ok sl k x => k F H M [] [] (Same.refl F) ok rfl h
theorem ga_cons {te : TE} {ta : TA} {Φ : List D → Ms → Prop} (h : GE T te Γ M (fun x M1 => GA T ta Γ M1 (fun xs M2 => Φ (x :: xs) M2) Ψ) Ψ) : GA T (tCons te ta) Γ M Φ Ψ := fun F H σ Q ok sl k x =>
  h F H σ _ ok sl (fun F1 H1 M1 d1 v1 e1 ok1 r1 hb => hb F1 H1 σ _ ok1 (sl.mono e1) (fun F2 H2 M2 ds vs e2 ok2 rs hr => k F2 H2 M2 (d1 :: ds) (v1 :: vs) (e1.trans e2) ok2 (.cons (r1.mono e2) rs) hr) (x.mono e1)) x
theorem ge_tup {ta : TA} (h : GA T ta Γ M (fun xs M1 => xs.length ≤ sizeLine ∧ Φ (.tup xs) M1) Ψ) : GE T (tTup ta) Γ M Φ Ψ := fun F H σ Q ok sl k x =>
  h F H σ _ ok sl (fun F1 H1 M1 ds vs e1 ok1 rs ⟨hl, q⟩ => ⟨by rw [rs.length]; exact hl, fun p hp => by
    have e2 : Same F1 (upd F1 p (.tup vs)) := same_upd (ok1.freshF hp)
    exact k _ _ M1 (.tup ds) (.ref p) (e1.trans e2) (ok1.new hp) ⟨p, vs, rfl, .inl (.inl upd_same), rs.mono e2⟩ q⟩) x
theorem ge_lst {ta : TA} (h : GA T ta Γ M (fun xs M1 => xs.length ≤ sizeLine ∧ Φ (.lst xs) M1) Ψ) : GE T (tLst ta) Γ M Φ Ψ := fun F H σ Q ok sl k x =>
  h F H σ _ ok sl (fun F1 H1 M1 ds vs e1 ok1 rs ⟨hl, q⟩ => ⟨by rw [rs.length]; exact hl, fun p hp => by
    have e2 : Same F1 (upd F1 p (.lst vs)) := same_upd (ok1.freshF hp)
    exact k _ _ M1 (.lst ds) (.ref p) (e1.trans e2) (ok1.new hp) ⟨p, vs, rfl, upd_same, rs.mono e2⟩ q⟩) x
/-- a list that will change -/
theorem ge_lstM {ta : TA} (h : GA T ta Γ M (fun xs M1 => xs.length ≤ sizeLine ∧ ∀ p, M1 p = none → Φ (.ref p) (um M1 p (.lst xs))) Ψ) : GE T (tLst ta) Γ M Φ Ψ := fun F H σ Q ok sl k x =>
  h F H σ _ ok sl (fun F1 H1 M1 ds vs e1 ok1 rs ⟨hl, q⟩ => ⟨by rw [rs.length]; exact hl, fun p hp => by
    exact k F1 _ _ (.ref p) (.ref p) e1 (ok1.newM (u := .lst ds) hp ⟨vs, upd_same, rs⟩) rfl (q p (ok1.fresh hp))⟩) x
theorem gt_test {te : TE} {Φ : Bool → Ms → Prop} (h : GE T te Γ M (fun d M1 => ∃ b, d = .bl b ∧ Φ b M1) Ψ) : GT T (tTest te) Γ M Φ Ψ := fun F H σ Q ok sl k x =>
  h F H σ _ ok sl (fun F1 H1 M1 d v e1 ok1 r ⟨b, hd, q⟩ => by
    subst hd
    exact ⟨b, r, k F1 H1 M1 b e1 ok1 q⟩) x
theorem gt_B {te : TE} {Φ : Bool → Ms → Prop} (h : GE T te Γ M (fun d M1 => ∃ b, d = .bl b ∧ Φ b M1) Ψ) : GT T (tB te) Γ M Φ Ψ := gt_test h
theorem gt_and {t u : TT} {Φ : Bool → Ms → Prop} (h : GT T t Γ M (fun b M1 => if b = true then GT T u Γ M1 Φ Ψ else Φ false M1) Ψ) : GT T (tAnd t u) Γ M Φ Ψ := fun F H σ Q ok sl k x =>
  h F H σ _ ok sl (fun F1 H1 M1 b e1 ok1 q => by
    cases b with
    | true => exact q F1 H1 σ Q ok1 (sl.mono e1) (k.mono e1) (x.mono e1)
    | false => exact k F1 H1 M1 false e1 ok1 q) x
theorem gt_or {t u : TT} {Φ : Bool → Ms → Prop} (h : GT T t Γ M (fun b M1 => if b = true then Φ true M1 else GT T u Γ M1 Φ Ψ) Ψ) : GT T (tOr t u) Γ M Φ Ψ := fun F H σ Q ok sl k x =>
  h F H σ _ ok sl (fun F1 H1 M1 b e1 ok1 q => by
    cases b with
    | false => exact q F1 H1 σ Q ok1 (sl.mono e1) (k.mono e1) (x.mono e1)
    | true => exact k F1 H1 M1 true e1 ok1 q) x
theorem gt_not {t : TT} {Φ : Bool → Ms → Prop} (h : GT T t Γ M (fun b M1 => Φ (!b) M1) Ψ) : GT T (tNot t) Γ M Φ Ψ := fun F H σ Q ok sl k x =>
  h F H σ _ ok sl (fun F1 H1 M1 b e1 ok1 q => k F1 H1 M1 (!b) e1 ok1 q) x
theorem ge_andV {ta tb : TE} (h : GE T ta Γ M (fun d M1 => ∃ b, d = .bl b ∧ if b = true then GE T tb Γ M1 Φ Ψ else Φ (.bl false) M1) Ψ) : GE T (tAndV ta tb) Γ M Φ Ψ := fun F H σ Q ok sl k x =>
  h F H σ _ ok sl (fun F1 H1 M1 d v e1 ok1 r ⟨b, hd, q⟩ => by
    subst hd
    refine ⟨b, r, ?_⟩
    cases b with
    | true => exact q F1 H1 σ Q ok1 (sl.mono e1) (k.mono e1) (x.mono e1)
    | false => exact k F1 H1 M1 (.bl false) (.bl false) e1 ok1 rfl q) x
theorem ge_orV {ta tb : TE} (h : GE T ta Γ M (fun d M1 => ∃ b, d = .bl b ∧ if b = true then Φ (.bl true) M1 else GE T tb Γ M1 Φ Ψ) Ψ) : GE T (tOrV ta tb) Γ M Φ Ψ := fun F H σ Q ok sl k x =>
  h F H σ _ ok sl (fun F1 H1 M1 d v e1 ok1 r ⟨b, hd, q⟩ => by
    subst hd
    refine ⟨b, r, ?_⟩
    cases b with
    | false => exact q F1 H1 σ Q ok1 (sl.mono e1) (k.mono e1) (x.mono e1)
    | true => exact k F1 H1 M1 (.bl true) (.bl true) e1 ok1 rfl q) x
theorem ge_notV {ta : TE} (h : GE T ta Γ M (fun d M1 => ∃ b, d = .bl b ∧ Φ (.bl (!b)) M1) Ψ) : GE T (tNotV ta) Γ M Φ Ψ := fun F H σ Q ok sl k x =>
  h F H σ _ ok sl (fun F1 H1 M1 d v e1 ok1 r ⟨b, hd, q⟩ => by
    subst hd
    exact ⟨b, r, k F1 H1 M1 (.bl (!b)) (.bl (!b)) e1 ok1 rfl q⟩) x
theorem ge_if {t : TT} {ta tb : TE} (h : GT T t Γ M (fun b M1 => if b = true then GE T ta Γ M1 Φ Ψ else GE T tb Γ M1 Φ Ψ) Ψ) : GE T (tIf t ta tb) Γ M Φ Ψ := fun F H σ Q ok sl k x =>
  h F H σ _ ok sl (fun F1 H1 M1 b e1 ok1 q => by
    cases b with
    | true => exact q F1 H1 σ Q ok1 (sl.mono e1) (k.mono e1) (x.mono e1)
    | false => exact q F1 H1 σ Q ok1 (sl.mono e1) (k.mono e1) (x.mono e1)) x
theorem ge_CB {r : List V → Hp → VK → Prop} {ta : TA} (h : GA T ta Γ M (fun xs M1 => GC T r xs M1 Φ) Ψ) : GE T (tCB r ta) Γ M Φ Ψ := fun F H σ Q ok sl k x =>
  h F H σ _ ok sl (fun F1 H1 M1 ds vs e1 ok1 rs hr => hr F1 H1 vs Q ok1 rs (k.mono e1)) x
end
end G
set_option Elab.async false
set_option linter.all false
set_option maxRecDepth 100000
/-! GRules: the rules of expressions on data. -/
namespace G
open PySem PySem.Spec PyProof.Rows L2

/-! ### room; what a def promises -/
/-- room for k calls more; nothing is handled unless hot -/
structure RoomM (hot : Bool) (k : Nat) (A : Around) : Prop where
  rm : L2H.RoomH k A
  hd : hot = false → A.handled = none
theorem RoomM.mono {hot : Bool} {j k : Nat} {A : Around} (r : RoomM hot k A) (h : j ≤ k) : RoomM hot j A := ⟨r.rm.mono h, r.hd⟩
theorem RoomM.cold {hot : Bool} {k : Nat} {A : Around} (r : RoomM hot k A) (h : hot = false) : Room k A := ⟨r.hd h, r.rm.dp, r.rm.un⟩
theorem RoomM.of {hot : Bool} {k : Nat} {A : Around} (r : Room k A) : RoomM hot k A := ⟨⟨r.dp, r.un⟩, fun _ => r.hd⟩
/-- a def's promise, also (hot) while an exception is handled -/
structure FnM (hot : Bool) (P : Program) (w : World) (K : PySem.W.Frag) (mg : Str → Option Value) (base : Heap) (k : Nat) (f : Addr) (fd : FuncData) (ps : List Str) (sp : Sp) : Prop where
  len : ∀ vs H Q E, sp vs H Q E → vs.length = ps.length
  run : ∀ (A : Around) (fr : List Env) (s : Shared) (H : Hp) (ar : Args) (us : List Value) (vs : List V) (Q : VK) (E : XK), RoomM hot k A → Env0 P w K mg base A fr s H → BindsTo s fd ar (ps.zip us) → Vals vs us → sp vs H Q E →
    codeAny (model P w) A (.call (.ref f) ar) (CR (L2.CX P w) fr P w H s Q E) s
theorem FnM.ok {P : Program} {w : World} {K : PySem.W.Frag} {mg : Str → Option Value} {base : Heap} {k : Nat} {f : Addr} {fd : FuncData} {ps : List Str} {sp : Sp} (F : FnM false P w K mg base k f fd ps sp) : FnOk P w K mg base (L2.CX P w) k f fd ps sp :=
  ⟨F.len, fun A fr s H ar us vs Q E hr => F.run A fr s H ar us vs Q E (.of hr)⟩
theorem FnM.of {P : Program} {w : World} {K : PySem.W.Frag} {mg : Str → Option Value} {base : Heap} {k : Nat} {f : Addr} {fd : FuncData} {ps : List Str} {sp : Sp} (F : FnOk P w K mg base (L2.CX P w) k f fd ps sp) : FnM false P w K mg base k f fd ps sp :=
  ⟨F.len, fun A fr s H ar us vs Q E hr => F.run A fr s H ar us vs Q E (hr.cold rfl)⟩
section
variable {X : Cx} {hot : Bool} {k : Nat} {f : Addr} {fd : FuncData} {ps : List Str} {sp : Sp} {E : L2.St → XK} {x : Str} {q pos : Pos} {e : Expr} {es : List Expr} {t : TA}
/-- the callee runs -/
theorem run_fnM {pins : List (Addr × Obj)} {σ : L2.St} {H : Hp} {s : Shared} {Q : VK} {us : List Value} {vs : List V} (F : FnM hot X.prog X.w X.K X.mg X.base k f fd ps sp) (hr : RoomM hot k X.A) (hb : Binds X.K fd ps []) (hx : PassesAt (L2.CX X.prog X.w) X σ (E σ))
    (I : Inv X pins σ H s) (r : Vals vs us) (h : sp vs H Q (E σ)) : wpAny (model X.prog X.w) X.A (call (.ref f) us) (EP X pins σ Q) X.xe s := by
  have el : us.length = ps.length := r.length.symm.trans (F.len _ _ _ _ h)
  have bt : BindsTo s fd ⟨us, []⟩ (ps.zip us) := by
    have bt := hb s us I.kIn (by rw [List.append_nil, el])
    rwa [List.append_nil] at bt
  have go := F.run X.A X.stack s H ⟨us, []⟩ us vs Q (E σ) hr I.env0 bt r h
  refine wpAny_call (codeAny_mono go fun res sE z => ?_)
  match res, z with
  | .error err, z => exact hx pins H s err sE I z
  | .ok (.ret u), z => exact I.after z
theorem pe_callM (F : FnM hot X.prog X.w X.K X.mg X.base k f fd ps sp) (hr : RoomM hot k X.A) (hg : Gl X x) (hm : X.mg x = some (.ref f)) (hk : PySem.W.keepIn X.K (.ref f) = true) (hb : Binds X.K fd ps []) (hx : ∀ σ, PassesAt (L2.CX X.prog X.w) X σ (E σ))
    (ha : PA X (e :: es) t) (hdb : (x == ("__debug__" : Str)) = false) (he : starEach (e :: es) X.env = (false, eval e X.env) :: starEach es X.env) (hpl : (backTo pos (starEach es X.env)).any (·.1) = false) :
    PE X (.Call (.Name x q) (e :: es) [] pos) (tCallS sp E t) := ⟨fun pins s σ H Q I h =>
  wpAny_Call_Name_kw (ld_glob I hg hm (PySem.W.callWith_K (h₀ := X.base) I.ok.mod.kin hk (thn (ha.run pos pins s σ H _ I h) fun _ s1 z => by
    obtain ⟨vs, H1, I1, r, y⟩ := z
    exact ⟨I1.kIn, run_fnM F hr hb (hx σ) I1 r y⟩) he hpl) hdb)⟩
end

/-! ### what is known of a family -/
structure Fc {ι : Type} (T : Fm ι) (k : Nat) (P : Program) (w : World) (K : PySem.W.Frag) (mg : Str → Option Value) (base : Heap) (N : List Str) (sc : Scope) : Prop where
  hT : T.K = K
  hP : ∀ i, (T.X i).prog = P
  hw : ∀ i, (T.X i).w = w
  hK : ∀ i, (T.X i).K = T.K
  hmg : ∀ i, (T.X i).mg = mg
  hb : ∀ i, (T.X i).base = base
  hN : ∀ i, (T.X i).N = N
  nd : N.Nodup
  hs : ∀ i, (T.X i).env.scope = sc
  calm : T.hot = false → ∀ i, (T.X i).calm = true
  hr : ∀ i, RoomM T.hot k (T.X i).A
  tk : ∀ i, Takes (T.X i) T.w

/-- .. and of a def's body -/
structure Fd {ι : Type} (T : Fm ι) (k : Nat) (P : Program) (w : World) (K : PySem.W.Frag) (mg : Str → Option Value) (base : Heap) (N : List Str) (sc : Scope) : Prop where
  fc : Fc T k P w K mg base N sc
  fn : ∀ i x, Loc sc x → (T.X i).fn x = true ∨ sc.names.lookup x = some .local
  own : ∀ i, PassesOwn (model (T.X i).prog (T.X i).w) (T.X i).A (T.X i).env (T.X i).xe
  stk : ∀ i, (T.X i).stack = (T.X i).env :: (T.X i).outer
  frm : ∀ i, (T.X i).env.frame = some (T.X i).env.locals

section
variable {ι : Type} {T : Fm ι} {k : Nat} {P : Program} {w : World} {K : PySem.W.Frag} {mg : Str → Option Value} {base : Heap} {N : List Str} {sc : Scope} {Γ : Gm} {M : Ms} {Φ : PD} {Ψ : PX}
variable {e a b c : Expr} {es : List Expr} {pos : Pos}

/-! ### names, constants -/
theorem ex_int {n : Int} {j} (h : Φ (.int n) M) : EX T (.Constant (.int n) j pos) Γ M Φ Ψ := EX.mk (fun i => pe_int) (ge_c (d := .int n) (fun _ _ => rfl) h)
theorem ex_str {x : Str} {j} (h : Φ (.str x) M) : EX T (.Constant (.str x) j pos) Γ M Φ Ψ := EX.mk (fun i => pe_str) (ge_c (d := .str x) (fun _ _ => rfl) h)
theorem ex_bl {x : Bool} {j} (h : Φ (.bl x) M) : EX T (.Constant (.bool x) j pos) Γ M Φ Ψ := EX.mk (fun i => pe_bl) (ge_c (d := .bl x) (fun _ _ => rfl) h)
theorem ex_non {j} (h : Φ .non M) : EX T (.Constant .none j pos) Γ M Φ Ψ := EX.mk (fun i => pe_non) (ge_c (d := .non) (fun _ _ => rfl) h)
theorem ex_var (hF : Fc T k P w K mg base N sc) (i : Nat) {x : Str} {d : D} (hj : Γ[i]? = some (some d)) (h : Φ d M) (hN : N[i]? = some x := by rfl) (hv : Vis sc x := by first | exact Or.inl rfl | exact Or.inr (Or.inl rfl) | exact Or.inr (Or.inr rfl))
    (hd : (x == ("__debug__" : Str)) = false := by decide) (hcd : (x == ("__classdict__" : Str)) = false := by decide) : EX T (.Name x pos) Γ M Φ Ψ :=
  EX.mk (fun j => pe_var (i := i) (by rw [hF.hN]; exact hN) (by rw [hF.hs]; exact hv) hd hcd) (ge_var hj h)
/-- a module's name that holds a datum -/
def Gv (K : PySem.W.Frag) (mg : Str → Option Value) (x : Str) (d : D) : Prop := ∃ v u, mg x = some u ∧ RelV v u ∧ ∀ F, Rep K F d v
theorem ex_glob (hF : Fc T k P w K mg base N sc) {x : Str} {d : D} (g : Gv K mg x d) (h : Φ d M) (hg : sc.names.lookup x = some .globalImplicit := by rfl) (hd : (x == ("__debug__" : Str)) = false := by decide) : EX T (.Name x pos) Γ M Φ Ψ := by
  obtain ⟨v, u, h1, h2, h3⟩ := g
  rw [← hF.hT] at h3
  refine EX.mk (t := tC v) (fun j => pe_glob (by show (T.X j).env.scope.names.lookup x = _; rw [hF.hs]; exact hg) (by rw [hF.hmg]; exact h1) h2 hd) ?_
  exact fun F H σ Q ok sl q x => q F H M d v (Same.refl F) ok (h3 F) h

/-! ### operators -/
theorem opr_or {X : Cx} {f : Value → Value → Sem Value} {r r' : R2} (h : OpR X f r) (h' : OpR X f r') : OpR X f (fun x y H Q => r x y H Q ∨ r' x y H Q) :=
  fun pins s σ H x y v u Q I rx ry q => q.elim (h pins s σ H x y v u Q I rx ry) (h' pins s σ H x y v u Q I rx ry)
theorem ex_opG {op : Operator} {r : R2} {R : Ms → PD → D → D → Prop} (ho : ∀ i, OpR (T.X i) (binaryOp op) r) (hR : ∀ x y M Φ, R M Φ x y → GR T r x y M Φ)
    (h : EX T a Γ M (fun x M1 => EX T b Γ M1 (fun y M2 => R M2 Φ x y) Ψ) Ψ) : EX T (.BinOp a op b pos) Γ M Φ Ψ :=
  EX.mk (fun i => pe_op (ho i) (pe_te i) (pe_te i)) (ge_op (EX.imp h (fun _ _ q => EX.imp q (fun _ _ z => hR _ _ _ _ z) fun _ _ _ _ z => z) fun _ _ _ _ z => z))
def addP (M : Ms) (Φ : PD) : D → D → Prop
  | .int i, .int j => Φ (.int (i + j)) M
  | .str x, .str y => x.length + y.length ≤ sizeLine ∧ Φ (.str (x ++ y)) M
  | .lst x, .lst y => x.length + y.length ≤ sizeLine ∧ Φ (.lst (x ++ y)) M
  | _, _ => False
theorem ex_add (h : EX T a Γ M (fun x M1 => EX T b Γ M1 (fun y M2 => addP M2 Φ x y) Ψ) Ψ) : EX T (.BinOp a .Add b pos) Γ M Φ Ψ := by
  refine ex_opG (R := addP) (fun i => opr_or op_add (opr_or op_add_str op_cat)) (fun x y M Φ q => ?_) h
  intro F H vx vy Q ok rx ry hk
  cases x <;> cases y <;> first | exact False.elim q | skip
  · cases rx; cases ry
    exact .inl ⟨_, _, rfl, rfl, hk F H M (.int _) _ (Same.refl F) ok rfl q⟩
  · cases rx; cases ry
    exact .inr (.inl ⟨_, _, rfl, rfl, q.1, hk F H M (.str _) _ (Same.refl F) ok rfl q.2⟩)
  · obtain ⟨p, vs, rfl, hp, rp⟩ := rx
    obtain ⟨p', vs', rfl, hp', rp'⟩ := ry
    refine .inr (.inr ⟨p, p', vs, vs', rfl, rfl, ok.ex _ _ hp, ok.ex _ _ hp', by rw [rp.length, rp'.length]; exact q.1, fun t ht => ?_⟩)
    have e2 : Same F (upd F t (.lst (vs ++ vs'))) := same_upd (ok.freshF ht)
    exact hk _ _ M (.lst _) _ e2 (ok.new ht) ⟨t, _, rfl, upd_same, (rp.append rp').mono e2⟩ q.2
def subP (M : Ms) (Φ : PD) : D → D → Prop
  | .int i, .int j => Φ (.int (i - j)) M
  | _, _ => False
theorem ex_sub (h : EX T a Γ M (fun x M1 => EX T b Γ M1 (fun y M2 => subP M2 Φ x y) Ψ) Ψ) : EX T (.BinOp a .Sub b pos) Γ M Φ Ψ := by
  refine ex_opG (R := subP) (fun i => op_sub) (fun x y M Φ q => ?_) h
  intro F H vx vy Q ok rx ry hk
  cases x <;> cases y <;> first | exact False.elim q | skip
  cases rx; cases ry
  exact ⟨_, _, rfl, rfl, hk F H M (.int _) _ (Same.refl F) ok rfl q⟩
def mulP (M : Ms) (Φ : PD) : D → D → Prop
  | .int i, .int j => CMul i j ∧ Φ (.int (i * j)) M
  | _, _ => False
theorem ex_mul (h : EX T a Γ M (fun x M1 => EX T b Γ M1 (fun y M2 => mulP M2 Φ x y) Ψ) Ψ) : EX T (.BinOp a .Mult b pos) Γ M Φ Ψ := by
  refine ex_opG (R := mulP) (fun i => op_mul) (fun x y M Φ q => ?_) h
  intro F H vx vy Q ok rx ry hk
  cases x <;> cases y <;> first | exact False.elim q | skip
  cases rx; cases ry
  exact ⟨_, _, rfl, rfl, q.1, hk F H M (.int _) _ (Same.refl F) ok rfl q.2⟩
/-- // by a positive divisor below 2^30 -/
def fdivP (M : Ms) (Φ : PD) : D → D → Prop
  | .int i, .int j => CDiv i j ∧ Φ (.int (i / j)) M
  | _, _ => False
theorem ex_fdiv (h : EX T a Γ M (fun x M1 => EX T b Γ M1 (fun y M2 => fdivP M2 Φ x y) Ψ) Ψ) : EX T (.BinOp a .FloorDiv b pos) Γ M Φ Ψ := by
  refine ex_opG (R := fdivP) (fun i => op_fdiv) (fun x y M Φ q => ?_) h
  intro F H vx vy Q ok rx ry hk
  cases x <;> cases y <;> first | exact False.elim q | skip
  cases rx; cases ry
  exact ⟨_, _, rfl, rfl, q.1, hk F H M (.int _) _ (Same.refl F) ok rfl q.2⟩
/-- % by a positive number -/
def modP (M : Ms) (Φ : PD) : D → D → Prop
  | .int i, .int j => 0 < j ∧ Φ (.int (i % j)) M
  | _, _ => False
theorem ex_mod (h : EX T a Γ M (fun x M1 => EX T b Γ M1 (fun y M2 => modP M2 Φ x y) Ψ) Ψ) : EX T (.BinOp a .Mod b pos) Γ M Φ Ψ := by
  refine ex_opG (R := modP) (fun i => op_mod) (fun x y M Φ q => ?_) h
  intro F H vx vy Q ok rx ry hk
  cases x <;> cases y <;> first | exact False.elim q | skip
  cases rx; cases ry
  exact ⟨_, _, rfl, rfl, q.1, hk F H M (.int _) _ (Same.refl F) ok rfl q.2⟩
def powP (M : Ms) (Φ : PD) : D → D → Prop
  | .int i, .int j => CPow i j ∧ Φ (.int (i ^ j.toNat)) M
  | _, _ => False
theorem ex_pow (h : EX T a Γ M (fun x M1 => EX T b Γ M1 (fun y M2 => powP M2 Φ x y) Ψ) Ψ) : EX T (.BinOp a .Pow b pos) Γ M Φ Ψ := by
  refine ex_opG (R := powP) (fun i => op_pow) (fun x y M Φ q => ?_) h
  intro F H vx vy Q ok rx ry hk
  cases x <;> cases y <;> first | exact False.elim q | skip
  cases rx; cases ry
  exact ⟨_, _, rfl, rfl, q.1, hk F H M (.int _) _ (Same.refl F) ok rfl q.2⟩
def negP (M : Ms) (Φ : PD) : D → Prop
  | .int i => Φ (.int (-i)) M
  | _ => False
theorem ex_neg (h : EX T a Γ M (fun x M1 => negP M1 Φ x) Ψ) : EX T (.UnaryOp .USub a pos) Γ M Φ Ψ := by
  refine EX.mk (fun i => pe_un un_neg (pe_te i)) (ge_un (EX.imp h (fun x M q => ?_) fun _ _ _ _ z => z))
  intro F H vx Q ok rx hk
  cases x <;> first | exact False.elim q | skip
  cases rx
  exact ⟨_, rfl, hk F H M (.int _) _ (Same.refl F) ok rfl q⟩

/-! ### comparisons -/
/-! plain data -/
mutual
def toP : D → Option PyData
  | .non => some .none
  | .bl b => some (.bool b)
  | .int i => some (.int i)
  | .str x => some (.str x)
  | .tup ds => (toPs ds).map PyData.tuple
  | .lst ds => (toPs ds).map PyData.list
  | .rol ds => (toPs ds).map PyData.list
  | _ => none
def toPs : List D → Option (List PyData)
  | [] => some []
  | d :: ds => (toP d).bind fun p => (toPs ds).map fun ps => p :: ps
end
mutual
theorem toP_dp {K : PySem.W.Frag} {F H : Hp} (e : Same F H) : ∀ {d : D} {v : V} {p : PyData}, Rep K F d v → toP d = some p → Dp K H v p
  | .non, _, _, h, q => by cases h; cases q; exact .non
  | .bl _, _, _, h, q => by cases h; cases q; exact .bl _
  | .int _, _, _, h, q => by cases h; cases q; exact .int _
  | .str _, _, _, h, q => by cases h; cases q; exact .str _
  | .tup ds, _, p, ⟨a, vs, h1, h2, h3⟩, q => by
    obtain ⟨ps, hp, rfl⟩ := Option.map_eq_some_iff.mp (show (toPs ds).map PyData.tuple = some p from q)
    subst h1
    exact .tup (same_t e h2) (toPs_dp e h3 hp)
  | .lst ds, _, p, ⟨a, vs, h1, h2, h3⟩, q => by
    obtain ⟨ps, hp, rfl⟩ := Option.map_eq_some_iff.mp (show (toPs ds).map PyData.list = some p from q)
    subst h1
    exact .lst (.inl (.inl (e _ _ h2))) (toPs_dp e h3 hp)
  | .rol ds, _, p, ⟨a, vs, h1, h2, h3⟩, q => by
    obtain ⟨ps, hp, rfl⟩ := Option.map_eq_some_iff.mp (show (toPs ds).map PyData.list = some p from q)
    subst h1
    exact .lst (e.seq h2) (toPs_dp e h3 hp)
  | .ref _, _, _, _, q => by cases q
  | .ty _, _, _, _, q => by cases q
  | .ins _ _ _, _, _, _, q => by cases q
  | .dic _ _, _, _, _, q => by cases q
  | .exn _ _ _, _, _, _, q => by cases q
theorem toPs_dp {K : PySem.W.Frag} {F H : Hp} (e : Same F H) : ∀ {ds : List D} {vs : List V} {ps : List PyData}, Reps K F ds vs → toPs ds = some ps → DpAll K H vs ps
  | [], _, _, h, q => by
    have h : _ = [] := h
    cases q; subst h; exact .nil
  | d :: ds, _, ps, ⟨v, r, h1, h2, h3⟩, q => by
    subst h1
    obtain ⟨p, hp, q⟩ := Option.bind_eq_some_iff.mp (show (toP d).bind (fun p => (toPs ds).map fun ps => p :: ps) = some ps from q)
    obtain ⟨ps', hps, rfl⟩ := Option.map_eq_some_iff.mp q
    exact .cons (toP_dp e h2 hp) (toPs_dp e h3 hps)
end
/-- == of two data -/
def eqD : D → D → Option Bool := fun x y => (toP x).bind fun p => (toP y).bind fun q => if SeqAt.shaped p && SeqAt.shaped q then some (PyData.eqv p q) else none
def eqP (M : Ms) (Φ : PD) : D → D → Prop
  | .int i, .int j => Φ (.bl (decide (i = j))) M
  | .str x, .str y => Φ (.bl (decide (x = y))) M
  | .bl x, .bl y => Φ (.bl (decide (x = y))) M
  | x, y => ∃ c, eqD x y = some c ∧ Φ (.bl c) M
def neP (M : Ms) (Φ : PD) (x y : D) : Prop := eqP M (fun d M => ∃ c, d = .bl c ∧ Φ (.bl (!c)) M) x y
def ltP (f : Int → Int → Bool) (M : Ms) (Φ : PD) : D → D → Prop
  | .int i, .int j => Φ (.bl (f i j)) M
  | _, _ => False
theorem nomarkG {op : CmpOp} (b : Expr) (h : op ≠ .In) (h2 : op ≠ .NotIn) : behindInMarks op b = false := nomark b h h2
theorem ex_cmpG {op : CmpOp} {r : R2} {R : Ms → PD → D → D → Prop} (ho : ∀ i, OpR (T.X i) (compareOp op) r) (hm : behindInMarks op b = false) (hR : ∀ x y M Φ, R M Φ x y → GR T r x y M Φ)
    (h : EX T a Γ M (fun x M1 => EX T b Γ M1 (fun y M2 => R M2 Φ x y) Ψ) Ψ) : EX T (.Compare a [op] [b] pos) Γ M Φ Ψ :=
  EX.mk (fun i => pe_cmpR (ho i) (pe_te i) (pe_te i) hm) (ge_op (EX.imp h (fun _ _ q => EX.imp q (fun _ _ z => hR _ _ _ _ z) fun _ _ _ _ z => z) fun _ _ _ _ z => z))
theorem tx_cmpG {op : CmpOp} {r : R2} {R : Ms → PD → D → D → Prop} {Φ : Bool → Ms → Prop} (ho : ∀ i, OpR (T.X i) (compareOp op) r) (hm : behindInMarks op b = false) (hR : ∀ x y M Φ, R M Φ x y → GR T r x y M Φ)
    (h : EX T a Γ M (fun x M1 => EX T b Γ M1 (fun y M2 => R M2 (fun d M => ∃ c, d = .bl c ∧ Φ c M) x y) Ψ) Ψ) : TX T (.Compare a [op] [b] pos) Γ M Φ Ψ :=
  TX.mk (fun i => pt_cmpR (ho i) (pe_te i) (pe_te i) hm) (gt_test (ge_op (EX.imp h (fun _ _ q => EX.imp q (fun _ _ z => hR _ _ _ _ z) fun _ _ _ _ z => z) fun _ _ _ _ z => z)))
def rEq2 (K : PySem.W.Frag) : R2 := fun x y H Q => rEq x y H Q ∨ rEqD K x y H Q
def rNe2 (K : PySem.W.Frag) : R2 := fun x y H Q => rNe x y H Q ∨ rNeD K x y H Q
theorem gr_eqD {x y : D} {c : Bool} {F H : Hp} {vx vy : V} {Q : VK} (ok : Ok T.K F H M) (rx : Rep T.K F x vx) (ry : Rep T.K F y vy) (h : eqD x y = some c) (q : Q (.bl c) H) : rEqD T.K vx vy H Q := by
  unfold eqD at h
  obtain ⟨p, hp, h⟩ := Option.bind_eq_some_iff.mp h
  obtain ⟨p', hp', h⟩ := Option.bind_eq_some_iff.mp h
  split at h
  · rename_i hsh
    cases h
    obtain ⟨s1, s2⟩ := Bool.and_eq_true_iff.mp hsh
    exact ⟨p, p', toP_dp ok.ex rx hp, toP_dp ok.ex ry hp', s1, s2, q⟩
  · cases h
theorem gr_eqD' {x y : D} {c : Bool} {F H : Hp} {vx vy : V} {Q : VK} (ok : Ok T.K F H M) (rx : Rep T.K F x vx) (ry : Rep T.K F y vy) (h : eqD x y = some c) (q : Q (.bl (!c)) H) : rNeD T.K vx vy H Q := by
  unfold eqD at h
  obtain ⟨p, hp, h⟩ := Option.bind_eq_some_iff.mp h
  obtain ⟨p', hp', h⟩ := Option.bind_eq_some_iff.mp h
  split at h
  · rename_i hsh
    cases h
    obtain ⟨s1, s2⟩ := Bool.and_eq_true_iff.mp hsh
    exact ⟨p, p', toP_dp ok.ex rx hp, toP_dp ok.ex ry hp', s1, s2, q⟩
  · cases h
theorem gr_eq {x y : D} (q : eqP M Φ x y) : GR T (rEq2 T.K) x y M Φ := by
  intro F H vx vy Q ok rx ry hk
  unfold eqP at q
  split at q
  · cases rx; cases ry
    refine .inl ⟨rfl, hk F H M (.bl _) _ (Same.refl F) ok rfl ?_⟩
    rw [dec_int]; rw [show decide (_ = _) = (_ == _) from (Bool.beq_eq_decide_eq ..).symm] at q; exact q
  · cases rx; cases ry
    refine .inl ⟨rfl, hk F H M (.bl _) _ (Same.refl F) ok rfl ?_⟩
    rw [dec_str]; rw [show decide (_ = _) = (_ == _) from (Bool.beq_eq_decide_eq ..).symm] at q; exact q
  · cases rx; cases ry
    refine .inl ⟨rfl, hk F H M (.bl _) _ (Same.refl F) ok rfl ?_⟩
    rw [dec_bl]; rw [show decide (_ = _) = (_ == _) from (Bool.beq_eq_decide_eq ..).symm] at q; exact q
  · obtain ⟨c, hc, q⟩ := q
    exact .inr (gr_eqD ok rx ry hc (hk F H M (.bl _) _ (Same.refl F) ok rfl q))
theorem gr_ne {x y : D} (q : neP M Φ x y) : GR T (rNe2 T.K) x y M Φ := by
  intro F H vx vy Q ok rx ry hk
  unfold neP eqP at q
  split at q
  · cases rx; cases ry
    obtain ⟨c, hc, q⟩ := q
    refine .inl ⟨rfl, hk F H M (.bl _) _ (Same.refl F) ok rfl ?_⟩
    rw [dec_int]; cases hc; rw [show decide (_ = _) = (_ == _) from (Bool.beq_eq_decide_eq ..).symm] at q; exact q
  · cases rx; cases ry
    obtain ⟨c, hc, q⟩ := q
    refine .inl ⟨rfl, hk F H M (.bl _) _ (Same.refl F) ok rfl ?_⟩
    rw [dec_str]; cases hc; rw [show decide (_ = _) = (_ == _) from (Bool.beq_eq_decide_eq ..).symm] at q; exact q
  · cases rx; cases ry
    obtain ⟨c, hc, q⟩ := q
    refine .inl ⟨rfl, hk F H M (.bl _) _ (Same.refl F) ok rfl ?_⟩
    rw [dec_bl]; cases hc; rw [show decide (_ = _) = (_ == _) from (Bool.beq_eq_decide_eq ..).symm] at q; exact q
  · obtain ⟨c, hc, c', hc', q⟩ := q
    cases hc'
    exact .inr (gr_eqD' ok rx ry hc (hk F H M (.bl _) _ (Same.refl F) ok rfl q))
theorem Fc.units (hF : Fc T k P w K mg base N sc) (i : ι) : (T.X i).A.units + 64 < cLine := by have := (hF.hr i).rm.un; omega
theorem op_eq2 (hF : Fc T k P w K mg base N sc) (i : ι) : OpR (T.X i) (compareOp .Eq) (rEq2 T.K) := opr_or op_eq (by rw [← hF.hK i]; exact op_eqD (hF.units i))
theorem op_ne2 (hF : Fc T k P w K mg base N sc) (i : ι) : OpR (T.X i) (compareOp .NotEq) (rNe2 T.K) := opr_or op_ne (by rw [← hF.hK i]; exact op_neD (hF.units i))
theorem ex_eq (hF : Fc T k P w K mg base N sc) (h : EX T a Γ M (fun x M1 => EX T b Γ M1 (fun y M2 => eqP M2 Φ x y) Ψ) Ψ) : EX T (.Compare a [.Eq] [b] pos) Γ M Φ Ψ := ex_cmpG (R := eqP) (op_eq2 hF) (nomark _) (fun _ _ _ _ q => gr_eq q) h
theorem ex_ne (hF : Fc T k P w K mg base N sc) (h : EX T a Γ M (fun x M1 => EX T b Γ M1 (fun y M2 => neP M2 Φ x y) Ψ) Ψ) : EX T (.Compare a [.NotEq] [b] pos) Γ M Φ Ψ := ex_cmpG (R := neP) (op_ne2 hF) (nomark _) (fun _ _ _ _ q => gr_ne q) h
theorem tx_eq (hF : Fc T k P w K mg base N sc) {Φ : Bool → Ms → Prop} (h : EX T a Γ M (fun x M1 => EX T b Γ M1 (fun y M2 => eqP M2 (fun d M => ∃ c, d = .bl c ∧ Φ c M) x y) Ψ) Ψ) : TX T (.Compare a [.Eq] [b] pos) Γ M Φ Ψ := tx_cmpG (R := eqP) (op_eq2 hF) (nomark _) (fun _ _ _ _ q => gr_eq q) h
theorem tx_ne (hF : Fc T k P w K mg base N sc) {Φ : Bool → Ms → Prop} (h : EX T a Γ M (fun x M1 => EX T b Γ M1 (fun y M2 => neP M2 (fun d M => ∃ c, d = .bl c ∧ Φ c M) x y) Ψ) Ψ) : TX T (.Compare a [.NotEq] [b] pos) Γ M Φ Ψ := tx_cmpG (R := neP) (op_ne2 hF) (nomark _) (fun _ _ _ _ q => gr_ne q) h
theorem gr_lt {f : Int → Int → Bool} {x y : D} (q : ltP f M Φ x y) : GR T (rI0 fun i j => .bl (f i j)) x y M Φ := by
  intro F H vx vy Q ok rx ry hk
  cases x <;> cases y <;> first | exact False.elim q | skip
  cases rx; cases ry
  exact ⟨_, _, rfl, rfl, hk F H M (.bl _) _ (Same.refl F) ok rfl q⟩
theorem ex_lt (h : EX T a Γ M (fun x M1 => EX T b Γ M1 (fun y M2 => ltP (fun i j => decide (i < j)) M2 Φ x y) Ψ) Ψ) : EX T (.Compare a [.Lt] [b] pos) Γ M Φ Ψ := ex_cmpG (R := ltP fun i j => decide (i < j)) (fun i => op_lt) (nomark _) (fun _ _ _ _ q => gr_lt q) h
theorem ex_le (h : EX T a Γ M (fun x M1 => EX T b Γ M1 (fun y M2 => ltP (fun i j => decide (i ≤ j)) M2 Φ x y) Ψ) Ψ) : EX T (.Compare a [.LtE] [b] pos) Γ M Φ Ψ := ex_cmpG (R := ltP fun i j => decide (i ≤ j)) (fun i => op_le) (nomark _) (fun _ _ _ _ q => gr_lt q) h
theorem ex_gt (h : EX T a Γ M (fun x M1 => EX T b Γ M1 (fun y M2 => ltP (fun i j => decide (j < i)) M2 Φ x y) Ψ) Ψ) : EX T (.Compare a [.Gt] [b] pos) Γ M Φ Ψ := ex_cmpG (R := ltP fun i j => decide (j < i)) (fun i => op_gt) (nomark _) (fun _ _ _ _ q => gr_lt q) h
theorem ex_ge (h : EX T a Γ M (fun x M1 => EX T b Γ M1 (fun y M2 => ltP (fun i j => decide (j ≤ i)) M2 Φ x y) Ψ) Ψ) : EX T (.Compare a [.GtE] [b] pos) Γ M Φ Ψ := ex_cmpG (R := ltP fun i j => decide (j ≤ i)) (fun i => op_ge) (nomark _) (fun _ _ _ _ q => gr_lt q) h
section
variable {Φ : Bool → Ms → Prop}
theorem tx_lt (h : EX T a Γ M (fun x M1 => EX T b Γ M1 (fun y M2 => ltP (fun i j => decide (i < j)) M2 (fun d M => ∃ c, d = .bl c ∧ Φ c M) x y) Ψ) Ψ) : TX T (.Compare a [.Lt] [b] pos) Γ M Φ Ψ := tx_cmpG (R := ltP fun i j => decide (i < j)) (fun i => op_lt) (nomark _) (fun _ _ _ _ q => gr_lt q) h
theorem tx_le (h : EX T a Γ M (fun x M1 => EX T b Γ M1 (fun y M2 => ltP (fun i j => decide (i ≤ j)) M2 (fun d M => ∃ c, d = .bl c ∧ Φ c M) x y) Ψ) Ψ) : TX T (.Compare a [.LtE] [b] pos) Γ M Φ Ψ := tx_cmpG (R := ltP fun i j => decide (i ≤ j)) (fun i => op_le) (nomark _) (fun _ _ _ _ q => gr_lt q) h
theorem tx_gt (h : EX T a Γ M (fun x M1 => EX T b Γ M1 (fun y M2 => ltP (fun i j => decide (j < i)) M2 (fun d M => ∃ c, d = .bl c ∧ Φ c M) x y) Ψ) Ψ) : TX T (.Compare a [.Gt] [b] pos) Γ M Φ Ψ := tx_cmpG (R := ltP fun i j => decide (j < i)) (fun i => op_gt) (nomark _) (fun _ _ _ _ q => gr_lt q) h
theorem tx_ge (h : EX T a Γ M (fun x M1 => EX T b Γ M1 (fun y M2 => ltP (fun i j => decide (j ≤ i)) M2 (fun d M => ∃ c, d = .bl c ∧ Φ c M) x y) Ψ) Ψ) : TX T (.Compare a [.GtE] [b] pos) Γ M Φ Ψ := tx_cmpG (R := ltP fun i j => decide (j ≤ i)) (fun i => op_ge) (nomark _) (fun _ _ _ _ q => gr_lt q) h
end
/-- is None, is not None -/
def isNoneD : D → Bool
  | .non => true
  | _ => false
theorem rep_non {K : PySem.W.Frag} {F : Hp} {d : D} {v : V} (r : Rep K F d v) : decide (v = .non) = isNoneD d := by
  cases d with
  | non => cases r; rfl
  | tup ds => obtain ⟨a, vs, rfl, _⟩ := r; rfl
  | lst ds => obtain ⟨a, vs, rfl, _⟩ := r; rfl
  | rol ds => obtain ⟨a, vs, rfl, _⟩ := r; rfl
  | ins C ns ds => obtain ⟨a, dx, vs, rfl, _⟩ := r; rfl
  | dic ks ds => obtain ⟨a, vs, rfl, _⟩ := r; rfl
  | exn C ns ds => obtain ⟨a, o, d, vs, rfl, _⟩ := r; rfl
  | _ => cases r; rfl
theorem ge_isN {ta : TE} (h : GE T ta Γ M (fun d M1 => Φ (.bl (isNoneD d)) M1) Ψ) : GE T (tIsN ta) Γ M Φ Ψ := fun F H σ Q ok sl q x =>
  h F H σ _ ok sl (fun F1 H1 M1 d v e1 ok1 r z => by
    show Q (.bl (decide (v = .non))) H1
    rw [rep_non r]
    exact q F1 H1 M1 (.bl _) _ e1 ok1 rfl z) x
theorem ge_notN {ta : TE} (h : GE T ta Γ M (fun d M1 => Φ (.bl (!isNoneD d)) M1) Ψ) : GE T (tNotN ta) Γ M Φ Ψ := fun F H σ Q ok sl q x =>
  h F H σ _ ok sl (fun F1 H1 M1 d v e1 ok1 r z => by
    show Q (.bl (!decide (v = .non))) H1
    rw [rep_non r]
    exact q F1 H1 M1 (.bl _) _ e1 ok1 rfl z) x
theorem ex_isN {j p2} (h : EX T a Γ M (fun d M1 => Φ (.bl (isNoneD d)) M1) Ψ) : EX T (.Compare a [.Is] [.Constant .none j p2] pos) Γ M Φ Ψ := EX.mk (fun i => pe_cmp (pc_isN (pe_te i)) rfl) (ge_isN h)
theorem ex_notN {j p2} (h : EX T a Γ M (fun d M1 => Φ (.bl (!isNoneD d)) M1) Ψ) : EX T (.Compare a [.IsNot] [.Constant .none j p2] pos) Γ M Φ Ψ := EX.mk (fun i => pe_cmp (pc_notN (pe_te i)) rfl) (ge_notN h)
theorem tx_isN {j p2} {Φ : Bool → Ms → Prop} (h : EX T a Γ M (fun d M1 => Φ (isNoneD d) M1) Ψ) : TX T (.Compare a [.Is] [.Constant .none j p2] pos) Γ M Φ Ψ := TX.mk (fun i => pt_cmp (pc_isN (pe_te i)) rfl) (gt_B (ge_isN (EX.imp h (fun d M q => ⟨_, rfl, q⟩) fun _ _ _ _ z => z)))
theorem tx_notN {j p2} {Φ : Bool → Ms → Prop} (h : EX T a Γ M (fun d M1 => Φ (!isNoneD d) M1) Ψ) : TX T (.Compare a [.IsNot] [.Constant .none j p2] pos) Γ M Φ Ψ := TX.mk (fun i => pt_cmp (pc_notN (pe_te i)) rfl) (gt_B (ge_notN (EX.imp h (fun d M q => ⟨_, rfl, q⟩) fun _ _ _ _ z => z)))

/-! ### tests -/
/-- an expression that gives True or False -/
theorem tx_val {Φ : Bool → Ms → Prop} (he : ∀ env whole, isTrue e env whole = (do let v ← whole; standAt e.pos; holding [v] (truthy v))) (h : EX T e Γ M (fun d M1 => ∃ c, d = .bl c ∧ Φ c M1) Ψ) : TX T e Γ M Φ Ψ :=
  TX.mk (fun i => pt_val (pe_te i) (he _)) (gt_B h)
/-- any value's truth -/
def truP (M : Ms) (Φ : Bool → Ms → Prop) : D → Prop
  | .non => Φ false M
  | .bl b => Φ b M
  | .int i => Φ (i != 0) M
  | .str y => y.length ≤ sizeLine ∧ Φ ((y.length : Int) != 0) M
  | .tup ds => Φ (!ds.isEmpty) M
  | .lst ds => Φ (!ds.isEmpty) M
  | .rol ds => Φ (!ds.isEmpty) M
  | .dic ks ds => Φ (!ks.isEmpty) M
  | .ref p => (∃ ds, M p = some (.lst ds) ∧ Φ (!ds.isEmpty) M) ∨ (∃ ks ds, M p = some (.dK ks ds) ∧ Φ (!ks.isEmpty) M)
  | _ => False
theorem reps_empty {K : PySem.W.Frag} {F : Hp} {ds : List D} {vs : List V} (r : Reps K F ds vs) : vs.isEmpty = ds.isEmpty := by
  have e := r.length
  cases ds <;> cases vs <;> simp_all
theorem zip_empty {α β : Type} {ks : List α} {vs : List β} (h : ks.length = vs.length) : (ks.zip vs).isEmpty = ks.isEmpty := by
  cases ks <;> cases vs <;> simp_all
theorem truV_of {F H : Hp} {d : D} {v : V} {Φ : Bool → Ms → Prop} (ok : Ok T.K F H M) (r : Rep T.K F d v) (q : truP M Φ d) : ∃ c, TruV T.K v H c ∧ Φ c M := by
  cases d with
  | non => cases r; exact ⟨_, rfl, q⟩
  | bl b => cases r; exact ⟨_, rfl, q⟩
  | int i => cases r; exact ⟨_, rfl, q⟩
  | str y => cases r; exact ⟨_, ⟨q.1, rfl⟩, q.2⟩
  | tup ds => obtain ⟨a, vs, rfl, h, r⟩ := r; exact ⟨_, .inr (.inl ⟨vs, same_t ok.ex h, rfl⟩), by rw [reps_empty r]; exact q⟩
  | lst ds => obtain ⟨a, vs, rfl, h, r⟩ := r; exact ⟨_, .inl ⟨vs, .inl (.inl (ok.ex _ _ h)), rfl⟩, by rw [reps_empty r]; exact q⟩
  | rol ds => obtain ⟨a, vs, rfl, h, r⟩ := r; exact ⟨_, .inl ⟨vs, ok.ex.seq h, rfl⟩, by rw [reps_empty r]; exact q⟩
  | dic ks ds => obtain ⟨a, vs, rfl, h, hl, r⟩ := r; exact ⟨_, .inr (.inr ⟨_, ok.ex _ _ h, rfl⟩), by rw [zip_empty (hl.trans r.length.symm)]; exact q⟩
  | ref p =>
    cases r
    rcases q with ⟨ds, h, q⟩ | ⟨ks, ds, h, q⟩
    · obtain ⟨_, vs, hp, r⟩ := ok.mu p _ h
      exact ⟨_, .inl ⟨vs, .inl (.inl hp), rfl⟩, by rw [reps_empty r]; exact q⟩
    · obtain ⟨_, vs, hp, hl, r⟩ := ok.mu p _ h
      exact ⟨_, .inr (.inr ⟨_, hp, rfl⟩), by rw [zip_empty (hl.trans r.length.symm)]; exact q⟩
  | ty n => exact False.elim q
  | ins C ns ds => exact False.elim q
  | exn C ns ds => exact False.elim q
theorem tx_tru (hF : Fc T k P w K mg base N sc) {Φ : Bool → Ms → Prop} (he : ∀ env whole, isTrue e env whole = (do let v ← whole; standAt e.pos; holding [v] (truthy v))) (h : EX T e Γ M (fun d M1 => truP M1 Φ d) Ψ) : TX T e Γ M Φ Ψ := by
  refine TX.mk (t := fun σ H Q => teOf T e σ H fun x H' => ∃ k, TruV T.K x H' k ∧ Q k H') (fun i => by rw [← hF.hK i]; exact pt_truth (pe_te i) (he _)) ?_
  intro F H σ Q ok sl q x
  exact h F H σ _ ok sl (fun F1 H1 M1 d v e1 ok1 r z => by
    obtain ⟨c, h1, h2⟩ := truV_of ok1 r z
    exact ⟨c, h1, q F1 H1 M1 c e1 ok1 h2⟩) x
theorem tx_not {Φ : Bool → Ms → Prop} (h : TX T a Γ M (fun c M1 => Φ (!c) M1) Ψ) : TX T (.UnaryOp .Not a pos) Γ M Φ Ψ := TX.mk (fun i => pt_not (pt_tt i)) (gt_not h)
theorem wx_and1 {Φ : Bool → Ms → Prop} (h : TX T a Γ M Φ Ψ) : WWX T (.BoolOp .And [a] pos) Γ M Φ Ψ := WWX.mk (fun i => pw_and1 (pt_tt i)) h
theorem wx_or1 {Φ : Bool → Ms → Prop} (h : TX T a Γ M Φ Ψ) : WWX T (.BoolOp .Or [a] pos) Γ M Φ Ψ := WWX.mk (fun i => pw_or1 (pt_tt i)) h
theorem TX.imp {Φ Φ' : Bool → Ms → Prop} (h : TX T e Γ M Φ Ψ) (h1 : ∀ c M, Φ c M → Φ' c M) : TX T e Γ M Φ' Ψ :=
  fun F H σ Q ok sl q x => h F H σ Q ok sl (fun F' H' M' c a b z => q F' H' M' c a b (h1 _ _ z)) x
theorem wx_and {rest : List Expr} {Φ : Bool → Ms → Prop} (h : TX T a Γ M (fun c M1 => (c = true → WWX T (.BoolOp .And (b :: rest) pos) Γ M1 Φ Ψ) ∧ (c = false → Φ false M1)) Ψ) : WWX T (.BoolOp .And (a :: b :: rest) pos) Γ M Φ Ψ :=
  WWX.mk (fun i => pw_and (pt_tt i) (pw_tw i)) (gt_and (TX.imp h fun c M1 q => by
    cases c with
    | true => exact q.1 rfl
    | false => exact q.2 rfl))
theorem wx_or {rest : List Expr} {Φ : Bool → Ms → Prop} (h : TX T a Γ M (fun c M1 => (c = true → Φ true M1) ∧ (c = false → WWX T (.BoolOp .Or (b :: rest) pos) Γ M1 Φ Ψ)) Ψ) : WWX T (.BoolOp .Or (a :: b :: rest) pos) Γ M Φ Ψ :=
  WWX.mk (fun i => pw_or (pt_tt i) (pw_tw i)) (gt_or (TX.imp h fun c M1 q => by
    cases c with
    | true => exact q.1 rfl
    | false => exact q.2 rfl))
/-- and, or, not as values (of bools) -/
theorem ex_one {op} (h : EX T a Γ M Φ Ψ) : EX T (.BoolOp op [a] pos) Γ M Φ Ψ := EX.mk (fun i => pe_one (pe_te i)) h
theorem ex_and {rest : List Expr} (h : EX T a Γ M (fun d M1 => ∃ c, d = .bl c ∧ (c = true → EX T (.BoolOp .And (b :: rest) pos) Γ M1 Φ Ψ) ∧ (c = false → Φ (.bl false) M1)) Ψ) : EX T (.BoolOp .And (a :: b :: rest) pos) Γ M Φ Ψ :=
  EX.mk (fun i => pe_and (pe_te i) (pe_te i)) (ge_andV (EX.imp h (fun d M1 ⟨c, hc, q⟩ => ⟨c, hc, by
    cases c with
    | true => exact q.1 rfl
    | false => exact q.2 rfl⟩) fun _ _ _ _ z => z))
theorem ex_or {rest : List Expr} (h : EX T a Γ M (fun d M1 => ∃ c, d = .bl c ∧ (c = true → Φ (.bl true) M1) ∧ (c = false → EX T (.BoolOp .Or (b :: rest) pos) Γ M1 Φ Ψ)) Ψ) : EX T (.BoolOp .Or (a :: b :: rest) pos) Γ M Φ Ψ :=
  EX.mk (fun i => pe_or (pe_te i) (pe_te i)) (ge_orV (EX.imp h (fun d M1 ⟨c, hc, q⟩ => ⟨c, hc, by
    cases c with
    | true => exact q.1 rfl
    | false => exact q.2 rfl⟩) fun _ _ _ _ z => z))
theorem ex_not (h : EX T a Γ M (fun d M1 => ∃ c, d = .bl c ∧ Φ (.bl (!c)) M1) Ψ) : EX T (.UnaryOp .Not a pos) Γ M Φ Ψ := EX.mk (fun i => pe_not (pe_te i)) (ge_notV h)
theorem ex_if (h : TX T c Γ M (fun t M1 => (t = true → EX T a Γ M1 Φ Ψ) ∧ (t = false → EX T b Γ M1 Φ Ψ)) Ψ) : EX T (.IfExp c a b pos) Γ M Φ Ψ :=
  EX.mk (fun i => pe_ifExp (pt_tt i) (pe_te i) (pe_te i)) (ge_if (TX.imp h fun t M1 q => by
    cases t with
    | true => exact q.1 rfl
    | false => exact q.2 rfl))

/-! ### displays, argument lists -/
theorem ax_nil {Φ : List D → Ms → Prop} (h : Φ [] M) : AX T [] Γ M Φ Ψ := AX.mk (fun i => pa_nil) (ga_nil h)
theorem AX.imp {Φ Φ' : List D → Ms → Prop} (h : AX T es Γ M Φ Ψ) (h1 : ∀ ds M, Φ ds M → Φ' ds M) : AX T es Γ M Φ' Ψ :=
  fun F H σ Q ok sl q x => h F H σ Q ok sl (fun F' H' M' c vs a b r z => q F' H' M' c vs a b r (h1 _ _ z)) x
theorem ax_cons {Φ : List D → Ms → Prop} (h : EX T e Γ M (fun x M1 => AX T es Γ M1 (fun xs M2 => Φ (x :: xs) M2) Ψ) Ψ) (hs : ∀ env, starEach (e :: es) env = (false, eval e env) :: starEach es env := by intro _; rfl) : AX T (e :: es) Γ M Φ Ψ :=
  AX.mk (fun i => pa_cons (pe_te i) (pa_ta i) (hs _)) (ga_cons h)
theorem ex_tup {x1} (h : AX T es Γ M (fun xs M1 => xs.length ≤ sizeLine ∧ Φ (.tup xs) M1) Ψ) : EX T (.Tuple es x1 pos) Γ M Φ Ψ := EX.mk (fun i => pe_tup (pa_ta i)) (ge_tup h)
theorem ex_lst (h : AX T es Γ M (fun xs M1 => xs.length ≤ sizeLine ∧ Φ (.lst xs) M1) Ψ) : EX T (.List es pos) Γ M Φ Ψ := EX.mk (fun i => pe_lst (pa_ta i)) (ge_lst h)
theorem ex_lstM (h : AX T es Γ M (fun xs M1 => xs.length ≤ sizeLine ∧ ∀ p, M1 p = none → Φ (.ref p) (um M1 p (.lst xs))) Ψ) : EX T (.List es pos) Γ M Φ Ψ := EX.mk (fun i => pe_lst (pa_ta i)) (ge_lstM h)
theorem sz {α : Type} {xs : List α} (n : Nat) (h : xs.length = n := by rfl) (h2 : n ≤ 16777216 := by decide) : xs.length ≤ sizeLine := by rw [sizeLine_eq, h]; exact h2
theorem size_small {n : Nat} (h : n ≤ 16777216 := by decide) : n ≤ sizeLine := by rw [sizeLine_eq]; exact h

/-! ### subscripts -/
def ixP (M : Ms) (Φ : PD) : D → D → Prop
  | .tup ds, .int i => ∃ d, atI ds i = some d ∧ Φ d M
  | .lst ds, .int i => ∃ d, atI ds i = some d ∧ Φ d M
  | .rol ds, .int i => ∃ d, atI ds i = some d ∧ Φ d M
  | .ref p, .int i => ∃ ds d, M p = some (.lst ds) ∧ atI ds i = some d ∧ Φ d M
  | .str z, .int i => z.length ≤ sizeLine ∧ ∃ c, atI z.cps.toList i = some c ∧ Φ (.str ⟨#[c]⟩) M
  | _, _ => False
theorem reps_at {K : PySem.W.Frag} {F : Hp} {ds : List D} {vs : List V} {i : Int} {d : D} (r : Reps K F ds vs) (h : atI ds i = some d) : ∃ v, atI vs i = some v ∧ Rep K F d v := by
  unfold atI at h ⊢
  rw [r.length]
  obtain ⟨j, hj, h⟩ := Option.bind_eq_some_iff.mp h
  obtain ⟨v, hv, rv⟩ := r.get h
  exact ⟨v, by rw [hj]; exact hv, rv⟩
theorem gr_ix {x y : D} (q : ixP M Φ x y) : GR T (rIx T.K) x y M Φ := by
  intro F H vx vy Q ok rx ry hk
  unfold ixP at q
  split at q
  · obtain ⟨p, vs, rfl, hp, rp⟩ := rx
    cases ry
    obtain ⟨d, hd, q⟩ := q
    obtain ⟨v, hv, rv⟩ := reps_at rp hd
    exact .inr (.inl ⟨p, vs, _, v, rfl, rfl, same_t ok.ex hp, hv, hk F H M d v (Same.refl F) ok rv q⟩)
  · obtain ⟨p, vs, rfl, hp, rp⟩ := rx
    cases ry
    obtain ⟨d, hd, q⟩ := q
    obtain ⟨v, hv, rv⟩ := reps_at rp hd
    exact .inl ⟨p, vs, _, v, rfl, rfl, .inl (.inl (ok.ex _ _ hp)), hv, hk F H M d v (Same.refl F) ok rv q⟩
  · obtain ⟨p, vs, rfl, hp, rp⟩ := rx
    cases ry
    obtain ⟨d, hd, q⟩ := q
    obtain ⟨v, hv, rv⟩ := reps_at rp hd
    exact .inl ⟨p, vs, _, v, rfl, rfl, ok.ex.seq hp, hv, hk F H M d v (Same.refl F) ok rv q⟩
  · cases rx; cases ry
    obtain ⟨ds, d, hm, hd, q⟩ := q
    obtain ⟨_, vs, hp, rp⟩ := ok.mu _ _ hm
    obtain ⟨v, hv, rv⟩ := reps_at rp hd
    exact .inl ⟨_, vs, _, v, rfl, rfl, .inl (.inl hp), hv, hk F H M d v (Same.refl F) ok rv q⟩
  · cases rx; cases ry
    obtain ⟨hz, c, hc, q⟩ := q
    exact .inr (.inr ⟨_, _, c, rfl, rfl, hz, hc, hk F H M (.str _) _ (Same.refl F) ok rfl q⟩)
  · exact False.elim q
theorem ex_ix (hF : Fc T k P w K mg base N sc) (h : EX T a Γ M (fun x M1 => EX T b Γ M1 (fun y M2 => ixP M2 Φ x y) Ψ) Ψ) (hs : PlainIx b := by exact fun _ _ => rfl) : EX T (.Subscript a b pos) Γ M Φ Ψ :=
  EX.mk (fun i => pe_ix (by rw [← hF.hK i]; exact ix_seq) (pe_te i) (pe_te i) hs) (ge_op (EX.imp h (fun _ _ q => EX.imp q (fun _ _ z => gr_ix z) fun _ _ _ _ z => z) fun _ _ _ _ z => z))
end

/-! ### calls of the program's own defs -/
abbrev DS := List D → Ms → PD → PX → Prop
def lift (K : PySem.W.Frag) (ds : DS) : Sp := fun vs H Q E => ∃ F M args Φ Ψ, Ok K F H M ∧ Reps K F args vs ∧ ds args M Φ Ψ ∧ KE K F Φ Q ∧ KX K F Ψ E
/-- the module's name x is a def of these parameters that does as ds says -/
def Cal (hot : Bool) (P : Program) (w : World) (K : PySem.W.Frag) (mg : Str → Option Value) (base : Heap) (x : Str) (k : Nat) (ps : List Str) (ds : DS) : Prop :=
  ∃ f fd, FnM hot P w K mg base k f fd ps (lift K ds) ∧ mg x = some (.ref f) ∧ PySem.W.keepIn K (.ref f) = true ∧ Binds K fd ps []
theorem Cal.at {hot hot' : Bool} {P : Program} {w : World} {K : PySem.W.Frag} {mg : Str → Option Value} {base : Heap} {x : Str} {k : Nat} {ps : List Str} {ds : DS} (c : Cal hot P w K mg base x k ps ds) (h : hot' = hot) : Cal hot' P w K mg base x k ps ds := by
  rw [h]; exact c
section
variable {ι : Type} {T : Fm ι} {k : Nat} {P : Program} {w : World} {K : PySem.W.Frag} {mg : Str → Option Value} {base : Heap} {N : List Str} {sc : Scope} {Γ : Gm} {M : Ms} {Φ : PD} {Ψ : PX}
variable {e a b c : Expr} {es : List Expr} {pos : Pos}
theorem Fc.fno (hF : Fc T k P w K mg base N sc) (i : ι) {hot : Bool} {j : Nat} {f : Addr} {fd : FuncData} {ps : List Str} {sp : Sp} (F : FnM hot P w T.K mg base j f fd ps sp) : FnM hot (T.X i).prog (T.X i).w (T.X i).K (T.X i).mg (T.X i).base j f fd ps sp := by
  rw [hF.hP i, hF.hw i, hF.hK i, hF.hmg i, hF.hb i]; exact F
theorem ge_callS {ds : DS} {t : TA} (h : GA T t Γ M (fun xs M1 => ds xs M1 Φ Ψ) Ψ) : GE T (tCallS (lift T.K ds) (WE T.w) t) Γ M Φ Ψ := fun F H σ Q ok sl q x =>
  h F H σ _ ok sl (fun F1 H1 M1 xs vs e1 ok1 rs z => ⟨F1, M1, xs, Φ, Ψ, ok1, rs, z, q.mono e1, x.mono e1⟩) x
theorem Fc.pass (hF : Fc T k P w K mg base N sc) (i : ι) (σ : L2.St) : PassesAt (L2.CX (T.X i).prog (T.X i).w) (T.X i) σ (WE T.w σ) := passAt (hF.tk i) σ
theorem ex_call (hF : Fc T k P w K mg base N sc) {x : Str} {j : Nat} {ps : List Str} {ds : DS} {p : Pos} (c : Cal T.hot P w K mg base x j ps ds) (hk : j ≤ k) (h : AX T (e :: es) Γ M (fun xs M1 => ds xs M1 Φ Ψ) Ψ)
    (hg : sc.names.lookup x = some .globalImplicit := by rfl) (hdb : (x == ("__debug__" : Str)) = false := by decide) (he : ∀ env, starEach (e :: es) env = (false, eval e env) :: starEach es env := by intro _; rfl) (hpl : ∀ env, (backTo pos (starEach es env)).any (·.1) = false := by intro _; rfl) :
    EX T (.Call (.Name x p) (e :: es) [] pos) Γ M Φ Ψ := by
  rw [← hF.hT] at c
  obtain ⟨f, fd, F, hm, kp, hb⟩ := c
  refine EX.mk (t := tCallS (lift T.K ds) (WE T.w) (taOf T (e :: es))) (fun i => ?_) (ge_callS h)
  exact pe_callM (hF.fno i F) ((hF.hr i).mono hk) (by show (T.X i).env.scope.names.lookup x = _; rw [hF.hs]; exact hg) (by rw [hF.hmg]; exact hm) (by rw [hF.hK]; exact kp) (by rw [hF.hK]; exact hb) (hF.pass i) (pa_ta i) hdb (he _) (hpl _)

/-! ### calls of built-ins -/
theorem ex_bltG (hF : Fc T k P w K mg base N sc) {x : Str} {id : String} {p : Pos} {r : List V → Hp → VK → Prop} {R : Ms → PD → List D → Prop} (hc : ∀ i, CallR (T.X i) (.builtin id) r) (hm : mg x = none) (hv : bootBuiltins x = some (.builtin id)) (hR : ∀ xs M Φ, R M Φ xs → GC T r xs M Φ)
    (h : AX T (e :: es) Γ M (fun xs M1 => R M1 Φ xs) Ψ) (hg : sc.names.lookup x = some .globalImplicit := by rfl) (hn : x ≠ "__name__" := by decide) (hdb : (x == ("__debug__" : Str)) = false := by decide)
    (he : ∀ env, starEach (e :: es) env = (false, eval e env) :: starEach es env := by intro _; rfl) (hpl : ∀ env, (backTo pos (starEach es env)).any (·.1) = false := by intro _; rfl) : EX T (.Call (.Name x p) (e :: es) [] pos) Γ M Φ Ψ :=
  EX.mk (fun i => pe_callB (hc i) (by show (T.X i).env.scope.names.lookup x = _; rw [hF.hs]; exact hg) (by rw [hF.hmg]; exact hm) hv (pa_ta i) hn hdb (he _) (hpl _)) (ge_CB (AX.imp h fun xs M1 q => hR _ _ _ q))
theorem ex_tyG (hF : Fc T k P w K mg base N sc) {x : Str} {id : String} {p : Pos} {r : List V → Hp → VK → Prop} {R : Ms → PD → List D → Prop} (hc : ∀ i, CallR (T.X i) (.type id) r) (hm : mg x = none) (hv : bootBuiltins x = some (.type id)) (hR : ∀ xs M Φ, R M Φ xs → GC T r xs M Φ)
    (h : AX T (e :: es) Γ M (fun xs M1 => R M1 Φ xs) Ψ) (hg : sc.names.lookup x = some .globalImplicit := by rfl) (hn : x ≠ "__name__" := by decide) (hdb : (x == ("__debug__" : Str)) = false := by decide)
    (he : ∀ env, starEach (e :: es) env = (false, eval e env) :: starEach es env := by intro _; rfl) (hpl : ∀ env, (backTo pos (starEach es env)).any (·.1) = false := by intro _; rfl) : EX T (.Call (.Name x p) (e :: es) [] pos) Γ M Φ Ψ :=
  EX.mk (fun i => pe_callTy (hc i) (by show (T.X i).env.scope.names.lookup x = _; rw [hF.hs]; exact hg) (by rw [hF.hmg]; exact hm) hv (pa_ta i) hn hdb (he _) (hpl _)) (ge_CB (AX.imp h fun xs M1 q => hR _ _ _ q))
end
end G
set_option Elab.async false
set_option linter.all false
set_option maxRecDepth 100000
/-! GStm: statements, loops, comprehensions, defs on data. -/
namespace G
open PySem PySem.Spec PyProof.Rows L2

abbrev Da := D
structure GEnds where
  nx : Gm → Ms → Prop
  rt : PD
  bk : Gm → Ms → Prop := fun _ _ => False
  ct : Gm → Ms → Prop := fun _ _ => False
  ex : Gm → PX := fun _ _ _ _ _ => False
section
variable {ι : Type}
def KS (K : PySem.W.Frag) (F : Hp) (N : Gm → Ms → Prop) (R : L2.St → Hp → Prop) : Prop := ∀ F' Γ' M' σ' H', Same F F' → Ok K F' H' M' → Sl K F' σ' Γ' → N Γ' M' → R σ' H'
structure KD (T : Fm ι) (F : Hp) (D : GEnds) (E : Ends) : Prop where
  nx : KS T.K F D.nx E.nx
  rt : KE T.K F D.rt E.rt
  bk : KS T.K F D.bk E.bk
  ct : KS T.K F D.ct E.ct
  ex : ∀ F' Γ' M' σ' H' C d ns ds vs, Same F F' → Ok T.K F' H' M' → Sl T.K F' σ' Γ' → F' d = some (.xd (ns.zip vs)) → ns.length = ds.length → Reps T.K F' ds vs → D.ex Γ' C ns ds M' → T.w (.ref C) (some d) σ' H'
theorem KS.mono {K : PySem.W.Frag} {F F' : Hp} {N : Gm → Ms → Prop} {R : L2.St → Hp → Prop} (e : Same F F') (h : KS K F N R) : KS K F' N R := fun F2 Γ M σ H e2 => h F2 Γ M σ H (e.trans e2)
theorem KD.mono {T : Fm ι} {F F' : Hp} {D : GEnds} {E : Ends} (e : Same F F') (h : KD T F D E) : KD T F' D E :=
  ⟨h.nx.mono e, h.rt.mono e, h.bk.mono e, h.ct.mono e, fun F2 Γ M σ H C d ns ds vs e2 => h.ex F2 Γ M σ H C d ns ds vs (e.trans e2)⟩
theorem KD.kx {T : Fm ι} {F : Hp} {D : GEnds} {E : Ends} {σ : L2.St} {Γ : Gm} (h : KD T F D E) (sl : Sl T.K F σ Γ) : KX T.K F (D.ex Γ) (fun c d H => T.w c d σ H) :=
  fun F' H' M' C d ns ds vs e ok hd hl r q => h.ex F' Γ M' σ H' C d ns ds vs e ok (sl.mono e) hd hl r q
def GS (T : Fm ι) (t : TS) (Γ : Gm) (M : Ms) (D : GEnds) : Prop := ∀ F H σ E, Ok T.K F H M → Sl T.K F σ Γ → KD T F D E → t E σ H
def SX (T : Fm ι) (st : Stmt) (Γ : Gm) (M : Ms) (D : GEnds) : Prop := GS T (tsOf T st) Γ M D
def SSX (T : Fm ι) (st : List Stmt) (Γ : Gm) (M : Ms) (D : GEnds) : Prop := GS T (tssOf T st) Γ M D
variable {T : Fm ι} {k : Nat} {P : Program} {w : World} {K : PySem.W.Frag} {mg : Str → Option Value} {base : Heap} {N : List Str} {sc : Scope} {Γ : Gm} {M : Ms} {D : GEnds}
variable {st : Stmt} {sts : List Stmt} {e a b c : Expr} {pos : Pos}
theorem SX.mk {t : TS} (h : ∀ i, PS (T.X i) st t) (g : GS T t Γ M D) : SX T st Γ M D := fun F H σ E ok sl q i pins s I => (h i).run pins s σ H E I (g F H σ E ok sl q)
theorem SSX.mk {t : TS} (h : ∀ i, PSs (T.X i) sts t) (g : GS T t Γ M D) : SSX T sts Γ M D := fun F H σ E ok sl q i pins s I => (h i).run pins s σ H E I (g F H σ E ok sl q)
theorem gs_next (h : D.nx Γ M) : GS T tNext Γ M D := fun F H σ E ok sl q => q.nx F Γ M σ H (Same.refl F) ok sl h
theorem gs_seq {t u : TS} (h : GS T t Γ M { D with nx := fun Γ' M' => GS T u Γ' M' D }) : GS T (tSeq t u) Γ M D := fun F H σ E ok sl q =>
  h F H σ { E with nx := u E } ok sl ⟨fun F' Γ' M' σ' H' e ok' sl' z => z F' H' σ' E ok' sl' (q.mono e), q.rt, q.bk, q.ct, q.ex⟩
theorem ssx_nil (h : D.nx Γ M) : SSX T [] Γ M D := SSX.mk (fun i => pss_nil) (gs_next h)
theorem ssx_cons (h : SX T st Γ M { D with nx := fun Γ' M' => SSX T sts Γ' M' D }) : SSX T (st :: sts) Γ M D := SSX.mk (fun i => pss_cons (ps_ts i) (pss_tss i)) (gs_seq h)
theorem ssx_one (h : SX T st Γ M D) : SSX T [st] Γ M D := SSX.mk (fun i => pss_one (ps_ts i)) h
theorem sx_pass (h : D.nx Γ M) : SX T (.Pass pos) Γ M D := SX.mk (fun i => ps_pass) (gs_next h)
theorem sx_break (h : D.bk Γ M) : SX T (.Break pos) Γ M D := SX.mk (fun i => ps_break) (fun F H σ E ok sl q => q.bk F Γ M σ H (Same.refl F) ok sl h)
theorem sx_continue (h : D.ct Γ M) : SX T (.Continue pos) Γ M D := SX.mk (fun i => ps_continue) (fun F H σ E ok sl q => q.ct F Γ M σ H (Same.refl F) ok sl h)
theorem sx_ret (h : EX T e Γ M D.rt (D.ex Γ)) : SX T (.Return (some e) pos) Γ M D := SX.mk (fun i => ps_ret (pe_te i)) (fun F H σ E ok sl q => h F H σ _ ok sl q.rt (q.kx sl))
theorem sx_retN (h : D.rt .non M) : SX T (.Return none pos) Γ M D := SX.mk (fun i => ps_retN) (fun F H σ E ok sl q => q.rt F H M .non .non (Same.refl F) ok rfl h)
theorem sx_expr (h : EX T e Γ M (fun _ M1 => D.nx Γ M1) (D.ex Γ)) (hs : ∀ env, swapsWith e none pos.line env = pure false := by intro _; rfl) : SX T (.Expr e pos) Γ M D :=
  SX.mk (fun i => ps_expr (pe_te i) (hs _)) (fun F H σ E ok sl q => h F H σ _ ok sl (fun F1 H1 M1 d v e1 ok1 r z => q.nx F1 Γ M1 σ H1 e1 ok1 (sl.mono e1) z) (q.kx sl))
theorem sx_if {t u : List Stmt} (h : TX T c Γ M (fun z M1 => (z = true → SSX T t Γ M1 D) ∧ (z = false → SSX T u Γ M1 D)) (D.ex Γ)) : SX T (.If c t u pos) Γ M D :=
  SX.mk (fun i => ps_if (pt_tt i) (pss_tss i) (pss_tss i)) (fun F H σ E ok sl q => h F H σ _ ok sl (fun F1 H1 M1 z e1 ok1 ⟨h1, h2⟩ => by
    cases z with
    | true => exact h1 rfl F1 H1 σ E ok1 (sl.mono e1) (q.mono e1)
    | false => exact h2 rfl F1 H1 σ E ok1 (sl.mono e1) (q.mono e1)) (q.kx sl))

/-! ### targets -/
inductive Tg where
  | nm (i : Nat)
  | tp (is : List Nat)
def gNames : List Nat → TGs
  | [] => gNil
  | i :: is => gCons (gName i) (gNames is)
def tgR (K : PySem.W.Frag) : Tg → TG
  | .nm i => gName i
  | .tp is => gTup K is.length (gNames is)
def setG : Gm → List Nat → List Da → Gm
  | Γ, i :: is, d :: ds => setG (Γ.set i (some d)) is ds
  | Γ, _, _ => Γ
def tgD : Tg → Da → Gm → Option Gm
  | .nm i, d, Γ => some (Γ.set i (some d))
  | .tp is, .tup ds, Γ => if ds.length = is.length then some (setG Γ is ds) else none
  | _, _, _ => none
def Tg.ix : Tg → List Nat
  | .nm i => [i]
  | .tp is => is
theorem wipe_get {σ : L2.St} {j : Nat} : ∀ {vs : List Nat}, (L2.wipe σ vs)[j]? = if j ∈ vs ∧ j < σ.length then some none else σ[j]?
  | [] => by rw [if_neg (by simp)]; rfl
  | v :: vs => by
    show ((L2.wipe σ vs).set v none)[j]? = _
    by_cases hj : v = j
    · subst hj
      by_cases hl : v < σ.length
      · rw [List.getElem?_set_self (by rw [wipe_length]; exact hl), if_pos ⟨List.mem_cons_self, hl⟩]
      · rw [if_neg fun z => hl z.2, List.getElem?_eq_none (by rw [List.length_set, wipe_length]; omega), List.getElem?_eq_none (by omega)]
    · rw [List.getElem?_set_ne hj, wipe_get (vs := vs)]
      by_cases hm : j ∈ vs
      · by_cases hl : j < σ.length
        · rw [if_pos ⟨hm, hl⟩, if_pos ⟨List.mem_cons_of_mem _ hm, hl⟩]
        · rw [if_neg fun z => hl z.2, if_neg fun z => hl z.2]
      · rw [if_neg fun z => hm z.1, if_neg fun z => hm ((List.mem_cons.mp z.1).resolve_left fun e => hj e.symm)]
theorem wipe_set {σ : L2.St} {i : Nat} {x : Option V} {vs : List Nat} (h : i ∈ vs) : L2.wipe (σ.set i x) vs = L2.wipe σ vs := by
  apply List.ext_getElem?
  intro j
  rw [wipe_get, wipe_get, List.length_set]
  by_cases hj : j ∈ vs ∧ j < σ.length
  · rw [if_pos hj, if_pos hj]
  · rw [if_neg hj, if_neg hj]
    by_cases e : i = j
    · subst e
      rw [List.getElem?_eq_none (by rw [List.length_set]; exact Nat.le_of_not_lt fun z => hj ⟨h, z⟩), List.getElem?_eq_none (Nat.le_of_not_lt fun z => hj ⟨h, z⟩)]
    · rw [List.getElem?_set_ne e]
theorem names_run {K : PySem.W.Frag} {F H : Hp} : ∀ {is : List Nat} {ds : List Da} {vs : List V} {σ : L2.St} {Γ : Gm} {Q : L2.St → Hp → Prop}, is.length = ds.length → Reps K F ds vs → Sl K F σ Γ →
    (∀ σ', Sl K F σ' (setG Γ is ds) → (∀ us : List Nat, (∀ i ∈ is, i ∈ us) → L2.wipe σ' us = L2.wipe σ us) → Q σ' H) → gNames is vs σ H Q
  | [], [], vs, σ, Γ, Q, _, r, sl, q => ⟨r, q σ sl fun _ _ => rfl⟩
  | i :: is, d :: ds, _, σ, Γ, Q, hl, ⟨v, vr, h1, h2, h3⟩, sl, q =>
    ⟨v, vr, h1, names_run (is := is) (ds := ds) (by simpa using hl) h3 (sl.set h2 i) fun σ' sl' hw => q σ' sl' fun us hu => by
      rw [hw us fun j hj => hu j (List.mem_cons_of_mem _ hj), wipe_set (hu i List.mem_cons_self)]⟩
  | [], _ :: _, _, _, _, _, hl, _, _, _ => by cases hl
  | _ :: _, [], _, _, _, _, hl, _, _, _ => by cases hl
theorem tg_run {F H : Hp} {tg : Tg} {d : Da} {v : V} {σ : L2.St} {Γ Γ' : Gm} {Q : L2.St → Hp → Prop} (h : tgD tg d Γ = some Γ') (r : Rep K F d v) (ex : Same F H) (sl : Sl K F σ Γ)
    (q : ∀ σ', Sl K F σ' Γ' → (∀ us : List Nat, (∀ i ∈ tg.ix, i ∈ us) → L2.wipe σ' us = L2.wipe σ us) → Q σ' H) : tgR K tg v σ H Q := by
  cases tg with
  | nm i =>
    cases h
    exact q _ (sl.set r i) fun us hu => wipe_set (hu i List.mem_cons_self)
  | tp is =>
    cases d with
    | tup ds =>
      have h : (if ds.length = is.length then some (setG Γ is ds) else none) = some Γ' := h
      by_cases hl : ds.length = is.length
      · rw [if_pos hl] at h
        cases h
        obtain ⟨a, vs, h1, h2, h3⟩ := r
        exact ⟨a, vs, h1, same_t ex h2, h3.length.trans hl, names_run hl.symm h3 sl q⟩
      · rw [if_neg hl] at h; cases h
    | _ => cases h
/-- the text's target e is tg -/
def TgOk (T : Fm ι) (e : Expr) (tg : Tg) : Prop := ∀ i, PG (T.X i) e (tgR T.K tg)
def TnOk (T : Fm ι) (es : List Expr) (is : List Nat) : Prop := ∀ i, PGs (T.X i) es (gNames is)
theorem Fd.pgn (hF : Fd T k P w K mg base N sc) (i : ι) {j : Nat} {x : Str} (hN : N[j]? = some x) (hx : Loc sc x) : PG (T.X i) (.Name x pos) (gName j) :=
  pg_name (by rw [hF.fc.hN]; exact hF.fc.nd) (by rw [hF.fc.hN]; exact hN) (by rw [hF.fc.hs]; exact hx) (by have := hF.fn i x hx; rw [hF.fc.hs]; exact this)
theorem tg_nm (hF : Fd T k P w K mg base N sc) (j : Nat) {x : Str} (hN : N[j]? = some x := by rfl) (hx : Loc sc x := by first | exact Or.inl rfl | exact Or.inr rfl) : TgOk T (.Name x pos) (.nm j) := fun i => hF.pgn i hN hx
theorem tn_nil : TnOk T [] [] := fun i => pgs_nil
theorem tn_cons (hF : Fd T k P w K mg base N sc) (j : Nat) {x : Str} {es : List Expr} {is : List Nat} (h : TnOk T es is) (hN : N[j]? = some x := by rfl) (hx : Loc sc x := by first | exact Or.inl rfl | exact Or.inr rfl) : TnOk T (.Name x pos :: es) (j :: is) := fun i =>
  pgs_cons (hF.pgn i hN hx) (h i) (by rfl)
theorem tg_tp (hF : Fd T k P w K mg base N sc) {es : List Expr} {is : List Nat} {x1} (h : TnOk T es is) (hn : ∀ env, (assignEach es env).length = is.length := by intro _; rfl) (hst : ∀ env, (assignEach es env).findIdx? (·.1) = none := by intro _; rfl) (hh : T.hot = false := by assumption) : TgOk T (.Tuple es x1 pos) (.tp is) := fun i => by
  have q := pg_tup (X := T.X i) (pos := pos) (k := x1) (hF.fc.calm hh i) (h i) (hn _) (hst _)
  rw [hF.fc.hK i] at q
  exact q

/-! ### assignments -/
theorem sx_asg (hF : Fd T k P w K mg base N sc) {tg : Expr} {g : Tg} (hg : TgOk T tg g) (h : EX T e Γ M (fun d M1 => ∃ Γ', tgD g d Γ = some Γ' ∧ D.nx Γ' M1) (D.ex Γ)) (hs : ∀ env, swapsWithSole [tg] e pos.line env = pure false := by intro _; rfl) (hw : ∀ env : Env, env.scope = sc → swappedStores [tg] e env = pure none := by first | (intro _ _; rfl) | (intro env he; obtain ⟨⟩ := env; cases he; rfl))
    (h1 : ∀ env, (assignEach [tg] env).map (·.2) = [assign tg env] := by intro _; rfl) : SX T (.Assign [tg] e pos) Γ M D :=
  SX.mk (fun i => ps_asg (pe_te i) (hg i) (hs _) (hw _ (hF.fc.hs i)) (h1 _)) (fun F H σ E ok sl q => h F H σ _ ok sl (fun F1 H1 M1 d v e1 ok1 r ⟨Γ', h2, z⟩ => tg_run h2 r ok1.ex (sl.mono e1) fun σ' sl' _ => q.nx F1 Γ' M1 σ' H1 e1 ok1 sl' z) (q.kx sl))
theorem sx_set (hF : Fd T k P w K mg base N sc) (j : Nat) {x : Str} {p : Pos} (h : EX T e Γ M (fun d M1 => D.nx (Γ.set j (some d)) M1) (D.ex Γ)) (hN : N[j]? = some x := by rfl) (hx : Loc sc x := by first | exact Or.inl rfl | exact Or.inr rfl)
    (hs : ∀ env, swapsWith e (some (.Name x p)) pos.line env = pure false := by intro _; rfl) : SX T (.Assign [.Name x p] e pos) Γ M D :=
  SX.mk (fun i => ps_set (i := j) (by rw [hF.fc.hN]; exact hF.fc.nd) (by rw [hF.fc.hN]; exact hN) (by rw [hF.fc.hs]; exact hx) (pe_te i) (hs _) (by have := hF.fn i x hx; rw [hF.fc.hs]; exact this))
    (fun F H σ E ok sl q => h F H σ _ ok sl (fun F1 H1 M1 d v e1 ok1 r z => q.nx F1 _ M1 _ H1 e1 ok1 ((sl.mono e1).set r j) z) (q.kx sl))
/-- a, b = x, y with plain local names -/
theorem sx_par (hF : Fd T k P w K mg base N sc) (i j : Nat) {x y : Str} {px py pt : Pos} {kt k2 : Nat} {pt2 : Pos} (h : AX T [a, b] Γ M (fun ds M1 => ∃ d u, ds = [d, u] ∧ D.nx ((Γ.set i (some d)).set j (some u)) M1) (D.ex Γ))
    (hw : ∀ env : Env, env.scope = sc → swappedStores [.Tuple [.Name x px, .Name y py] kt pt] (.Tuple [a, b] k2 pt2) env = pure (some [x, y]) := by intro env he; obtain ⟨⟩ := env; cases he; rfl)
    (hi : N[i]? = some x := by rfl) (hj : N[j]? = some y := by rfl) (hij : i ≠ j := by decide) (hx : sc.names.lookup x = some .local := by rfl) (hy : sc.names.lookup y = some .local := by rfl)
    (hs : ∀ env, swapsWithSole [.Tuple [.Name x px, .Name y py] kt pt] (.Tuple [a, b] k2 pt2) pos.line env = pure false := by intro _; rfl) (hh : T.hot = false := by assumption) :
    SX T (.Assign [.Tuple [.Name x px, .Name y py] kt pt] (.Tuple [a, b] k2 pt2) pos) Γ M D :=
  SX.mk (fun z => ps_par (i := i) (j := j) (hF.fc.calm hh z) (by rw [hF.fc.hN]; exact hF.fc.nd) (by rw [hF.fc.hN]; exact hi) (by rw [hF.fc.hN]; exact hj) hij (by rw [hF.fc.hs]; exact hx) (by rw [hF.fc.hs]; exact hy) (pa_ta z) (hw _ (hF.fc.hs z)) (hs _))
    (fun F H σ E ok sl q => h F H σ _ ok sl (fun F1 H1 M1 ds vs e1 ok1 r ⟨d, u, hd, z⟩ => by
      subst hd
      obtain ⟨v, vr, h1, h2, v2, vr2, h3, h4, h5⟩ := r
      have h5 : vr2 = [] := h5
      subst h5 h3
      exact ⟨v, v2, h1, q.nx F1 _ M1 _ H1 e1 ok1 (((sl.mono e1).set h2 i).set h4 j) z⟩) (q.kx sl))
/-- a, b, c = x, y, z with plain local names -/
theorem sx_par3 {c : Expr} (hF : Fd T k P w K mg base N sc) (i j l : Nat) {x y z : Str} {px py pz pt : Pos} {kt k2 : Nat} {pt2 : Pos} (h : AX T [a, b, c] Γ M (fun ds M1 => ∃ d u v, ds = [d, u, v] ∧ D.nx (((Γ.set i (some d)).set j (some u)).set l (some v)) M1) (D.ex Γ))
    (hw : ∀ env : Env, env.scope = sc → swappedStores [.Tuple [.Name x px, .Name y py, .Name z pz] kt pt] (.Tuple [a, b, c] k2 pt2) env = pure (some [x, y, z]) := by intro env he; obtain ⟨⟩ := env; cases he; rfl)
    (hi : N[i]? = some x := by rfl) (hj : N[j]? = some y := by rfl) (hl : N[l]? = some z := by rfl) (hij : i ≠ j := by decide) (hil : i ≠ l := by decide) (hjl : j ≠ l := by decide) (hx : sc.names.lookup x = some .local := by rfl) (hy : sc.names.lookup y = some .local := by rfl) (hz : sc.names.lookup z = some .local := by rfl)
    (hs : ∀ env, swapsWithSole [.Tuple [.Name x px, .Name y py, .Name z pz] kt pt] (.Tuple [a, b, c] k2 pt2) pos.line env = pure false := by intro _; rfl) (hh : T.hot = false := by assumption) :
    SX T (.Assign [.Tuple [.Name x px, .Name y py, .Name z pz] kt pt] (.Tuple [a, b, c] k2 pt2) pos) Γ M D :=
  SX.mk (fun q => ps_par3 (i := i) (j := j) (l := l) (hF.fc.calm hh q) (by rw [hF.fc.hN]; exact hF.fc.nd) (by rw [hF.fc.hN]; exact hi) (by rw [hF.fc.hN]; exact hj) (by rw [hF.fc.hN]; exact hl) hij hil hjl (by rw [hF.fc.hs]; exact hx) (by rw [hF.fc.hs]; exact hy) (by rw [hF.fc.hs]; exact hz) (pa_ta q) (hw _ (hF.fc.hs q)) (hs _))
    (fun F H σ E ok sl q => h F H σ _ ok sl (fun F1 H1 M1 ds vs e1 ok1 r ⟨d, u, v, hd, z⟩ => by
      subst hd
      obtain ⟨v1, vr, h1, h2, v2, vr2, h3, h4, v3, vr3, h5, h6, h7⟩ := r
      have h7 : vr3 = [] := h7
      subst h7 h5 h3
      exact ⟨v1, v2, v3, h1, q.nx F1 _ M1 _ H1 e1 ok1 ((((sl.mono e1).set h2 i).set h4 j).set h6 l) z⟩) (q.kx sl))
/-- o[i] = e, o a list or a dict that may change -/
def setP (M : Ms) (Θ : Ms → Prop) : Da → Da → Da → Prop
  | .ref p, .int i, v => ∃ ds j, M p = some (.lst ds) ∧ ixN ds.length i = some j ∧ Θ (um M p (.lst (ds.set j v)))
  | _, _, _ => False
theorem sx_sub {o i : Expr} {pos' : Pos} (h : EX T e Γ M (fun v M1 => EX T o Γ M1 (fun x M2 => EX T i Γ M2 (fun y M3 => setP M3 (fun M4 => D.nx Γ M4) x y v) (D.ex Γ)) (D.ex Γ)) (D.ex Γ))
    (hs' : ∀ env, swapsWithSole [.Subscript o i pos'] e pos.line env = pure false := by intro _; rfl) (hw : ∀ env, swappedStores [.Subscript o i pos'] e env = pure none := by intro _; rfl)
    (ha : ∀ env v, assign (.Subscript o i pos') env v = (do
      let ov ← holding [v] (eval o env)
      let iv ← holding [v, ov] (eval i env)
      standAt pos'
      holding [v, ov, iv] (setItem ov iv v)
      release [v, ov, iv] []) := by intro _ _; rfl)
    (h1 : ∀ env, (assignEach [.Subscript o i pos'] env).map (·.2) = [assign (.Subscript o i pos') env] := by intro _; rfl) : SX T (.Assign [.Subscript o i pos'] e pos) Γ M D := by
  refine SX.mk (fun z => ps_asg (pe_te z) (pg_sub (pe_te z) (pe_te z) set_list (ha _)) (hs' _) (hw _) (h1 _)) ?_
  intro F H σ E ok sl q
  refine h F H σ _ ok sl (fun F1 H1 M1 v vv e1 ok1 r1 z1 => ?_) (q.kx sl)
  refine z1 F1 H1 σ _ ok1 (sl.mono e1) (fun F2 H2 M2 x vx e2 ok2 r2 z2 => ?_) ((q.mono e1).kx (sl.mono e1))
  refine z2 F2 H2 σ _ ok2 (sl.mono (e1.trans e2)) (fun F3 H3 M3 y vy e3 ok3 r3 z3 => ?_) ((q.mono (e1.trans e2)).kx (sl.mono (e1.trans e2)))
  cases x <;> cases y <;> first | exact False.elim z3 | skip
  obtain ⟨ds, j, hm, hj, z⟩ := z3
  cases r2; cases r3
  obtain ⟨hF', vs, hp, rs⟩ := ok3.mu _ _ hm
  refine ⟨_, vs, _, j, rfl, rfl, hp, by rw [rs.length]; exact hj, ?_⟩
  refine q.nx F3 Γ _ σ _ (e1.trans (e2.trans e3)) (ok3.write (u := .lst (ds.set j v)) hm ⟨_, upd_same, Reps.set ((r1.mono e2).mono e3) j rs⟩) (sl.mono (e1.trans (e2.trans e3))) z

/-! ### what is walked -/
/-- the iterator J yields the data ds (as long as PM holds of the mutable things) -/
structure ItD (K : PySem.W.Frag) (PM : Ms → Prop) (J : It) (F : Hp) (ds : List Da) : Prop where
  go : ∀ i F' H M, Same F F' → Ok K F' H M → PM M → i < ds.length → J.go i H
  stop : ∀ i F' H M, Same F F' → Ok K F' H M → PM M → ds.length ≤ i → J.stop i H
  yld : ∀ i F' H M x H', Same F F' → Ok K F' H M → PM M → J.yld i H x H' → ∃ F2, Same F' F2 ∧ Ok K F2 H' M ∧ ∀ d, ds[i]? = some d → Rep K F2 d x
abbrev Thi := List Da → (Ms → Prop) → Ms → Prop
def GI (T : Fm ι) (wi : TI) (Γ : Gm) (M : Ms) (Θ : Thi) (Ψ : PX) : Prop := ∀ F H σ R, Ok T.K F H M → Sl T.K F σ Γ →
  (∀ F' H' M' J ds PM, Same F F' → Ok T.K F' H' M' → ItD T.K PM J F' ds → Θ ds PM M' → R J H') → KX T.K F Ψ (fun c d H => T.w c d σ H) → wi σ H R
def tiOf (T : Fm ι) (tg iter : Expr) : TI := fun σ H R => ∀ i pins s, Inv (T.X i) pins σ H s → wpAny (model (T.X i).prog (T.X i).w) (T.X i).A (eval iter (T.X i).env) (fun v s1 => wpAny (model (T.X i).prog (T.X i).w) (T.X i).A (pyIter v) (PIE (T.X i) pins σ tg R) (T.X i).xe s1) (T.X i).xe s
variable {tg iter : Expr} {Θ : Thi} {Ψ : PX}
theorem pi_ti (i : ι) : PI (T.X i) tg iter (tiOf T tg iter) := ⟨fun pins s _ _ _ I h => h i pins s I⟩
def IX (T : Fm ι) (tg iter : Expr) (Γ : Gm) (M : Ms) (Θ : Thi) (Ψ : PX) : Prop := GI T (tiOf T tg iter) Γ M Θ Ψ
theorem IX.mk {wi : TI} (h : ∀ i, PI (T.X i) tg iter wi) (g : GI T wi Γ M Θ Ψ) : IX T tg iter Γ M Θ Ψ := fun F H σ R ok sl q x i pins s I => (h i).run pins s σ H R I (g F H σ R ok sl q x)
/-- a list or a tuple -/
def iAny (K : PySem.W.Frag) (tl : TE) : TI := fun σ H R => tl σ H fun x H1 => ∃ a, x = .ref a ∧ (((∃ xs, SqL K H1 a xs) ∧ R (Itl K a) H1) ∨ ((∃ xs, SqT K H1 a xs) ∧ R (Itt K a) H1))
theorem pi_any {X : Cx} {l : Expr} {tl : TE} (hl : PE X l tl) : PI X tg l (iAny X.K tl) := by
  refine ⟨fun pins s σ H R I h => ?_⟩
  refine thn (hl.run pins s σ H _ I h) fun v s1 ⟨x, H1, I1, r1, q1⟩ => ?_
  obtain ⟨a, e, q⟩ := q1
  subst e
  cases r1
  rcases q with ⟨⟨xs, hq⟩, q⟩ | ⟨⟨xs, hq⟩, q⟩
  · obtain ⟨its, rv, p, hz⟩ := I1.list hq
    refine wpAny_pyIter_list p.isList ?_
    refine ⟨s1.heap.objs.size, [s1.heap.objs.size], _, _, H1, rfl, I1.kept (t' := s1.toks) fun b o e => Heap.get?_push_of_some _ e, turn_list a _, ⟨_, Heap.get?_push_size _ rfl, rfl, rfl⟩, fun b hb => ?_, q⟩
    have e : b = s1.heap.objs.size := by simpa using hb
    subst e
    exact I1.fpOk (Nat.le_refl _) (I1.hok.fresh (Nat.le_refl _))
  · obtain ⟨its, rv, p, hz⟩ := I1.tuple hq
    refine wpAny_pyIter_tuple (show s1.heap.IsTuple a its.toArray from p) ?_
    refine ⟨s1.heap.objs.size, [s1.heap.objs.size], _, _, H1, rfl, I1.kept (t' := s1.toks) fun b o e => Heap.get?_push_of_some _ e, turn_tuple a _, ⟨_, Heap.get?_push_size _ rfl, rfl, rfl⟩, fun b hb => ?_, q⟩
    have e : b = s1.heap.objs.size := by simpa using hb
    subst e
    exact I1.fpOk (Nat.le_refl _) (I1.hok.fresh (Nat.le_refl _))
def seqD : Da → Option (List Da)
  | .lst ds => some ds
  | .rol ds => some ds
  | .tup ds => some ds
  | _ => none
theorem reps_ix {F : Hp} {ds : List Da} {vs : List V} {i : Nat} {x : V} (r : Reps K F ds vs) (h : vs[i]? = some x) : ∀ d, ds[i]? = some d → Rep K F d x := fun d hd => by
  obtain ⟨v, hv, rv⟩ := r.get hd
  rw [h] at hv; cases hv; exact rv
theorem itd_l {F : Hp} {a : Addr} {ds : List Da} {vs : List V} (h : ∀ F' H M, Same F F' → Ok K F' H M → SqL K H a vs) (r : Reps K F ds vs) : ItD K (fun _ => True) (Itl K a) F ds where
  go := fun i F' H M e ok _ hi => ⟨vs, vs[i]'(by rw [r.length]; exact hi), h F' H M e ok, by simp [r.length, hi]⟩
  stop := fun i F' H M e ok _ hi => ⟨vs, h F' H M e ok, by rw [r.length]; exact hi⟩
  yld := fun i F' H M x H' e ok _ y => by
    obtain ⟨e1, y⟩ := y
    subst e1
    exact ⟨F', Same.refl _, ok, reps_ix (r.mono e) (y vs (h F' _ M e ok))⟩
theorem itd_t {F : Hp} {a : Addr} {ds : List Da} {vs : List V} (h : ∀ F' H M, Same F F' → Ok K F' H M → SqT K H a vs) (r : Reps K F ds vs) : ItD K (fun _ => True) (Itt K a) F ds where
  go := fun i F' H M e ok _ hi => ⟨vs, vs[i]'(by rw [r.length]; exact hi), h F' H M e ok, by simp [r.length, hi]⟩
  stop := fun i F' H M e ok _ hi => ⟨vs, h F' H M e ok, by rw [r.length]; exact hi⟩
  yld := fun i F' H M x H' e ok _ y => by
    obtain ⟨e1, y⟩ := y
    subst e1
    exact ⟨F', Same.refl _, ok, reps_ix (r.mono e) (y vs (h F' _ M e ok))⟩
theorem ix_seqD (hF : Fc T k P w K mg base N sc) (h : EX T iter Γ M (fun d M1 => ∃ ds, seqD d = some ds ∧ Θ ds (fun _ => True) M1) Ψ) : IX T tg iter Γ M Θ Ψ := by
  refine IX.mk (wi := iAny T.K (teOf T iter)) (fun i => by rw [← hF.hK i]; exact pi_any (pe_te i)) ?_
  intro F H σ R ok sl q x
  refine h F H σ _ ok sl (fun F1 H1 M1 d v e1 ok1 r z => ?_) x
  obtain ⟨ds, hd, z⟩ := z
  cases d <;> first | exact nomatch (show (none : Option (List Da)) = some ds from hd) | skip
  · cases hd
    obtain ⟨a, vs, rfl, h1, r⟩ := r
    exact ⟨a, rfl, .inr ⟨⟨vs, same_t ok1.ex h1⟩, q F1 H1 M1 _ _ _ e1 ok1 (itd_t (fun F' H M e ok => same_t ok.ex (same_t e h1)) r) z⟩⟩
  · cases hd
    obtain ⟨a, vs, rfl, h1, r⟩ := r
    exact ⟨a, rfl, .inl ⟨⟨vs, .inl (.inl (ok1.ex _ _ h1))⟩, q F1 H1 M1 _ _ _ e1 ok1 (itd_l (fun F' H M e ok => .inl (.inl (ok.ex _ _ (e _ _ h1)))) r) z⟩⟩
  · cases hd
    obtain ⟨a, vs, rfl, h1, r⟩ := r
    exact ⟨a, rfl, .inl ⟨⟨vs, ok1.ex.seq h1⟩, q F1 H1 M1 _ _ _ e1 ok1 (itd_l (fun F' H M e ok => ok.ex.seq (e.seq h1)) r) z⟩⟩
/-- a list that may change, but not while it is walked -/
theorem ix_mut (hF : Fc T k P w K mg base N sc) (h : EX T iter Γ M (fun d M1 => ∃ p ds, d = .ref p ∧ M1 p = some (.lst ds) ∧ Θ ds (fun M => M p = some (.lst ds)) M1) Ψ) : IX T tg iter Γ M Θ Ψ := by
  refine IX.mk (wi := iAny T.K (teOf T iter)) (fun i => by rw [← hF.hK i]; exact pi_any (pe_te i)) ?_
  intro F H σ R ok sl q x
  refine h F H σ _ ok sl (fun F1 H1 M1 d v e1 ok1 r z => ?_) x
  obtain ⟨p, ds, hd, hm, z⟩ := z
  subst hd
  cases r
  obtain ⟨_, vs0, hp0, r0⟩ := ok1.mu _ _ hm
  refine ⟨p, rfl, .inl ⟨⟨vs0, .inl (.inl hp0)⟩, q F1 H1 M1 _ _ _ e1 ok1 ⟨fun i F' H M e ok pm hi => ?_, fun i F' H M e ok pm hi => ?_, fun i F' H M x H' e ok pm y => ?_⟩ z⟩⟩
  · obtain ⟨_, vs, hp, r⟩ := ok.mu _ _ pm
    exact ⟨vs, vs[i]'(by rw [r.length]; exact hi), .inl (.inl hp), by simp [r.length, hi]⟩
  · obtain ⟨_, vs, hp, r⟩ := ok.mu _ _ pm
    exact ⟨vs, .inl (.inl hp), by rw [r.length]; exact hi⟩
  · obtain ⟨_, vs, hp, r⟩ := ok.mu _ _ pm
    obtain ⟨e1, y⟩ := y
    subst e1
    exact ⟨F', Same.refl _, ok, reps_ix r (y vs (.inl (.inl hp)))⟩
/-- the ints lo, lo + 1, .. (n of them) -/
def rngD (lo : Int) (n : Nat) : List Da := (List.range n).map fun (i : Nat) => .int (lo + (i : Int))
theorem rngD_len {lo : Int} {n : Nat} : (rngD lo n).length = n := by unfold rngD; simp
theorem rngD_get {lo : Int} {n i : Nat} {d : Da} (h : (rngD lo n)[i]? = some d) : i < n ∧ d = .int (lo + (i : Int)) := by
  have hi : i < n := by
    have := (List.getElem?_eq_some_iff.mp h).1
    rwa [rngD_len] at this
  refine ⟨hi, ?_⟩
  unfold rngD at h
  rw [List.getElem?_map, List.getElem?_range hi] at h
  exact (Option.some.inj h).symm
theorem itd_r {F : Hp} {lo : Int} {n : Nat} : ItD K (fun _ => True) (Itr lo n) F (rngD lo n) where
  go := fun i F' H M e ok _ hi => by rw [rngD_len] at hi; exact hi
  stop := fun i F' H M e ok _ hi => by rw [rngD_len] at hi; exact hi
  yld := fun i F' H M x H' e ok _ y => by
    obtain ⟨e1, y⟩ := y
    subst e1
    exact ⟨F', Same.refl _, ok, fun d hd => by rw [(rngD_get hd).2]; exact y⟩
theorem ix_rng1 (hF : Fc T k P w K mg base N sc) {p : Pos} (hm : mg "range" = none) (h : AX T [a] Γ M (fun xs M1 => ∃ j : Int, xs = [.int j] ∧ -(2 ^ 62) ≤ j ∧ j < 2 ^ 62 ∧ Θ (rngD 0 j.toNat) (fun _ => True) M1) Ψ) (hg : sc.names.lookup ("range" : Str) = some .globalImplicit := by rfl)
    (hs : ∀ env, starEach [a] env = [(false, eval a env)] := by intro _; rfl) : IX T tg (.Call (.Name "range" p) [a] [] pos) Γ M Θ Ψ := by
  refine IX.mk (fun i => pi_range1 (by show (T.X i).env.scope.names.lookup _ = _; rw [hF.hs]; exact hg) (by rw [hF.hmg]; exact hm) (pa_ta i) (hs _)) ?_
  intro F H σ R ok sl q x
  refine h F H σ _ ok sl (fun F1 H1 M1 ds vs e1 ok1 r z => ?_) x
  obtain ⟨j, hd, h1, h2, z⟩ := z
  subst hd
  obtain ⟨v, vr, e, h3, h4⟩ := r
  have h4 : vr = [] := h4
  subst h4 h3
  exact ⟨j, e, h1, h2, q F1 H1 M1 _ _ _ e1 ok1 itd_r z⟩
theorem ix_rng2 (hF : Fc T k P w K mg base N sc) {p : Pos} (hm : mg "range" = none) (h : AX T [a, b] Γ M (fun xs M1 => ∃ i j : Int, xs = [.int i, .int j] ∧ (-(2 ^ 62) ≤ i ∧ i < 2 ^ 62 ∧ -(2 ^ 62) ≤ j ∧ j < 2 ^ 62) ∧ Θ (rngD i (j - i).toNat) (fun _ => True) M1) Ψ) (hg : sc.names.lookup ("range" : Str) = some .globalImplicit := by rfl)
    (hs : ∀ env, starEach [a, b] env = [(false, eval a env), (false, eval b env)] := by intro _; rfl) (hs2 : ∀ env, starEach [b] env = [(false, eval b env)] := by intro _; rfl) : IX T tg (.Call (.Name "range" p) [a, b] [] pos) Γ M Θ Ψ := by
  refine IX.mk (fun i => pi_range2 (by show (T.X i).env.scope.names.lookup _ = _; rw [hF.hs]; exact hg) (by rw [hF.hmg]; exact hm) (pa_ta i) (hs _) (hs2 _)) ?_
  intro F H σ R ok sl q x
  refine h F H σ _ ok sl (fun F1 H1 M1 ds vs e1 ok1 r z => ?_) x
  obtain ⟨i, j, hd, h1, z⟩ := z
  subst hd
  obtain ⟨v, vr, e, h3, v', vr', e', h4, h5⟩ := r
  have h5 : vr' = [] := h5
  subst h5 h4 h3 e'
  exact ⟨i, j, e, h1, q F1 H1 M1 _ _ _ e1 ok1 itd_r z⟩

/-! ### for, while -/
theorem sx_for (hF : Fd T k P w K mg base N sc) {body : List Stmt} {g : Tg} (hg : TgOk T tg g)
    (h : IX T tg iter Γ M (fun ds PM M1 => ∃ I : Nat → Gm → Ms → Prop, I 0 Γ M1 ∧ (∀ n Γ M, I n Γ M → PM M) ∧
      (∀ n d Γ M, ds[n]? = some d → I n Γ M → ∃ Γ', tgD g d Γ = some Γ' ∧ SSX T body Γ' M { D with nx := I (n + 1), ct := I (n + 1), bk := D.nx }) ∧ ∀ Γ M, I ds.length Γ M → D.nx Γ M) (D.ex Γ))
    (hs : ∀ env x, foldedSetIterable iter env x = pure x := by intro _ _; rfl) (hh : T.hot = false := by assumption) : SX T (.For tg iter body [] pos) Γ M D := by
  refine SX.mk (fun i => ps_for (hF.own i) (hF.fc.calm hh i) (pi_ti i) (hg i) (pss_tss i) (hs _)) ?_
  intro F H σ E ok sl q
  refine h F H σ _ ok sl (fun F1 H1 M1 J ds PM e1 ok1 it z => ?_) (q.kx sl)
  obtain ⟨I, i0, pm, step, fin⟩ := z
  refine ⟨fun i m σ H => m = ds.length - i ∧ i ≤ ds.length ∧ ∃ F' Γ' M', Same F1 F' ∧ Ok T.K F' H M' ∧ Sl T.K F' σ Γ' ∧ I i Γ' M', ⟨_, rfl, Nat.zero_le _, F1, Γ, M1, Same.refl _, ok1, sl.mono e1, i0⟩, ?_⟩
  rintro i m σ' H' ⟨rfl, hi, F', Γ', M', e2, ok2, sl2, hI⟩
  by_cases hlt : i < ds.length
  · refine .inr ⟨it.go i F' H' M' e2 ok2 (pm _ _ _ hI) hlt, fun σ3 H3 => i + 1 ≤ ds.length ∧ ∃ F' Γ' M', Same F1 F' ∧ Ok T.K F' H3 M' ∧ Sl T.K F' σ3 Γ' ∧ I (i + 1) Γ' M', fun σ3 H3 n3 => ⟨ds.length - (i + 1), by omega, rfl, n3⟩, fun x H3 y => ?_⟩
    obtain ⟨F2, e3, ok3, r⟩ := it.yld i F' H' M' x H3 e2 ok2 (pm _ _ _ hI) y
    have hd : ds[i]? = some ds[i] := by simp [hlt]
    obtain ⟨Γ2, hg2, hb⟩ := step i _ Γ' M' hd hI
    refine tg_run hg2 (r _ hd) ok3.ex (sl2.mono e3) fun σ4 sl4 _ => ?_
    have qm : KD T F2 D E := q.mono (e1.trans (e2.trans e3))
    refine hb F2 H3 σ4 _ ok3 sl4 ⟨?_, qm.rt, qm.nx, ?_, qm.ex⟩
    · intro F5 Γ5 M5 σ5 H5 e5 ok5 sl5 z5
      exact ⟨hlt, F5, Γ5, M5, e2.trans (e3.trans e5), ok5, sl5, z5⟩
    · intro F5 Γ5 M5 σ5 H5 e5 ok5 sl5 z5
      exact ⟨hlt, F5, Γ5, M5, e2.trans (e3.trans e5), ok5, sl5, z5⟩
  · have e : i = ds.length := by omega
    subst e
    exact .inl ⟨it.stop _ F' H' M' e2 ok2 (pm _ _ _ hI) (Nat.le_refl _), q.nx F' Γ' M' σ' H' (e1.trans e2) ok2 sl2 (fin _ _ hI)⟩
theorem sx_while (hF : Fd T k P w K mg base N sc) {body : List Stmt} (W : Nat → Gm → Ms → Prop) (m0 : Nat) (w0 : W m0 Γ M)
    (h : ∀ m Γ M, W m Γ M → TX T c Γ M (fun z M1 => (z = true → SSX T body Γ M1 { D with nx := fun Γ' M' => ∃ m', m' < m ∧ W m' Γ' M', ct := fun Γ' M' => ∃ m', m' < m ∧ W m' Γ' M', bk := D.nx }) ∧ (z = false → D.nx Γ M1)) (D.ex Γ)) :
    SX T (.While c body [] pos) Γ M D := by
  refine SX.mk (fun i => ps_while (hF.own i) (pt_tt i) (pss_tss i)) ?_
  intro F H σ E ok sl q
  refine ⟨fun m σ H => ∃ F' Γ' M', Same F F' ∧ Ok T.K F' H M' ∧ Sl T.K F' σ Γ' ∧ W m Γ' M', ⟨m0, F, Γ, M, Same.refl _, ok, sl, w0⟩, ?_⟩
  rintro m σ1 H1 ⟨F1, Γ1, M1, e1, ok1, sl1, hw⟩
  refine h m Γ1 M1 hw F1 H1 σ1 _ ok1 sl1 (fun F2 H2 M2 z e2 ok2 zz => ?_) ((q.mono e1).kx sl1)
  have qm : KD T F2 D E := q.mono (e1.trans e2)
  cases z with
  | true =>
    rw [if_pos rfl]
    refine ⟨fun σ' H' => ∃ m', m' < m ∧ ∃ F' Γ' M', Same F F' ∧ Ok T.K F' H' M' ∧ Sl T.K F' σ' Γ' ∧ W m' Γ' M', fun σ' H' ⟨m', h1, h2⟩ => ⟨m', h1, h2⟩, ?_⟩
    refine zz.1 rfl F2 H2 σ1 _ ok2 (sl1.mono e2) ⟨?_, qm.rt, qm.nx, ?_, qm.ex⟩
    · rintro F5 Γ5 M5 σ5 H5 e5 ok5 sl5 ⟨m', h1, h2⟩
      exact ⟨m', h1, F5, Γ5, M5, e1.trans (e2.trans e5), ok5, sl5, h2⟩
    · rintro F5 Γ5 M5 σ5 H5 e5 ok5 sl5 ⟨m', h1, h2⟩
      exact ⟨m', h1, F5, Γ5, M5, e1.trans (e2.trans e5), ok5, sl5, h2⟩
  | false =>
    rw [if_neg Bool.false_ne_true]
    exact qm.nx F2 Γ1 M2 σ1 H2 (Same.refl _) ok2 (sl1.mono e2) (zz.2 rfl)

/-! ### comprehensions -/
abbrev Bk (ι : Type) := ι × Shared × Hp × Addr × List (Str × Addr) × List Addr
def Fm.blk (T : Fm ι) (scope : Scope) : Fm (Bk ι) := ⟨fun p => (T.X p.1).blk p.2.1 p.2.2.1 scope (compEnvC scope p.2.2.2.2.1 p.2.2.2.1 (T.X p.1).env) p.2.2.2.2.2, T.K, fun _ _ _ _ => False, T.hot⟩
theorem Fc.blk (hF : Fc T k P w K mg base N sc) (scope : Scope) : Fc (T.blk scope) k P w K mg base N (relS scope sc) where
  hT := hF.hT
  hP := fun p => hF.hP p.1
  hw := fun p => hF.hw p.1
  hK := fun p => hF.hK p.1
  hmg := fun p => hF.hmg p.1
  hb := fun p => hF.hb p.1
  hN := fun p => hF.hN p.1
  nd := hF.nd
  hs := fun p => by
    show relS scope (T.X p.1).env.scope = _
    rw [hF.hs]
  calm := fun hh p => hF.calm hh p.1
  hr := fun p => hF.hr p.1
  tk := fun p => takes0
/-- a block's own target -/
theorem relS_local {scope sc : Scope} {x : Str} (h : scope.names.lookup x = some .local) : (relS scope sc).names.lookup x = some .local := by
  have : ∀ l : List (Str × NameKind), l.lookup x = some .local → (l.map fun (n, k) => if (k == .free && sc.kind == .function && sc.names.lookup n == some .cell) then (n, NameKind.cell) else (n, k)).lookup x = some .local := by
    intro l
    induction l with
    | nil => intro h; cases h
    | cons p r ih =>
      obtain ⟨n, kd⟩ := p
      intro h
      rw [List.lookup_cons] at h
      show List.lookup x ((if (kd == .free && sc.kind == .function && sc.names.lookup n == some .cell) then (n, NameKind.cell) else (n, kd)) :: _) = _
      cases hx : x == n with
      | true =>
        rw [hx] at h
        have h : some kd = some .local := h
        cases h
        rw [if_neg (by rw [show (NameKind.local == NameKind.free) = false from rfl]; simp), List.lookup_cons, hx]
      | false =>
        rw [hx] at h
        by_cases hb : (kd == .free && sc.kind == .function && sc.names.lookup n == some .cell) = true
        · rw [if_pos hb, List.lookup_cons, hx]; exact ih h
        · rw [if_neg hb, List.lookup_cons, hx]; exact ih h
  exact this _ h
theorem relS_cell {scope sc : Scope} {x : Str} (h : scope.names.lookup x = some .cell) : (relS scope sc).names.lookup x = some .cell := by
  have : ∀ l : List (Str × NameKind), l.lookup x = some .cell → (l.map fun (n, k) => if (k == .free && sc.kind == .function && sc.names.lookup n == some .cell) then (n, NameKind.cell) else (n, k)).lookup x = some .cell := by
    intro l
    induction l with
    | nil => intro h; cases h
    | cons p r ih =>
      obtain ⟨n, kd⟩ := p
      intro h
      rw [List.lookup_cons] at h
      show List.lookup x ((if (kd == .free && sc.kind == .function && sc.names.lookup n == some .cell) then (n, NameKind.cell) else (n, kd)) :: _) = _
      cases hx : x == n with
      | true =>
        rw [hx] at h
        have h : some kd = some .cell := h
        cases h
        rw [if_neg (by rw [show (NameKind.cell == NameKind.free) = false from rfl]; simp), List.lookup_cons, hx]
      | false =>
        rw [hx] at h
        by_cases hb : (kd == .free && sc.kind == .function && sc.names.lookup n == some .cell) = true
        · rw [if_pos hb, List.lookup_cons, hx]; exact ih h
        · rw [if_neg hb, List.lookup_cons, hx]; exact ih h
  exact this _ h
theorem Fc.pgb (hF : Fc T k P w K mg base N sc) {scope : Scope} (p : Bk ι) {j : Nat} {x : Str} (hN : N[j]? = some x) (hx : Loc scope x) : PG ((T.blk scope).X p) (.Name x pos) (gName j) := by
  refine pg_name (by rw [(hF.blk scope).hN]; exact hF.nd) (by rw [(hF.blk scope).hN]; exact hN) ?_ ?_
  · rw [(hF.blk scope).hs]
    exact hx.imp relS_local relS_cell
  · rcases hx with h | h
    · refine .inr ?_
      rw [(hF.blk scope).hs]
      exact relS_local h
    · refine .inl ?_
      show (scope.names.lookup x == some .cell) = true
      rw [h]; rfl
theorem tb_nm (hF : Fc T k P w K mg base N sc) {scope : Scope} (j : Nat) {x : Str} (hN : N[j]? = some x := by rfl) (hx : Loc scope x := by first | exact Or.inl rfl | exact Or.inr rfl) : TgOk (T.blk scope) (.Name x pos) (.nm j) := fun p => hF.pgb p hN hx
theorem tnb_nil {scope : Scope} : TnOk (T.blk scope) [] [] := fun i => pgs_nil
theorem tnb_cons (hF : Fc T k P w K mg base N sc) {scope : Scope} (j : Nat) {x : Str} {es : List Expr} {is : List Nat} (h : TnOk (T.blk scope) es is) (hN : N[j]? = some x := by rfl) (hx : Loc scope x := by first | exact Or.inl rfl | exact Or.inr rfl) : TnOk (T.blk scope) (.Name x pos :: es) (j :: is) := fun p =>
  pgs_cons (hF.pgb p hN hx) (h p) (by rfl)
theorem tb_tp (hF : Fc T k P w K mg base N sc) {scope : Scope} {es : List Expr} {is : List Nat} {x1} (h : TnOk (T.blk scope) es is) (hn : ∀ env, (assignEach es env).length = is.length := by intro _; rfl) (hst : ∀ env, (assignEach es env).findIdx? (·.1) = none := by intro _; rfl) (hh : T.hot = false := by assumption) : TgOk (T.blk scope) (.Tuple es x1 pos) (.tp is) := fun i => by
  have q := pg_tup (X := (T.blk scope).X i) (pos := pos) (k := x1) ((hF.blk scope).calm hh i) (h i) (hn _) (hst _)
  rw [(hF.blk scope).hK i] at q
  exact q
/-- one test, or none -/
inductive IfOk (T : Fm ι) : List Expr → (Gm → Ms → (Bool → Ms → Prop) → Prop) → Prop where
  | none : IfOk T [] (fun _ M Φ => Φ true M)
  | one (c : Expr) : IfOk T [c] (fun Γ M Φ => TX T c Γ M Φ fun _ _ _ _ => False)
/-- what a comprehension asks: I by the turn, what is made so far, the mutable things -/
def lcAsk (T : Fm ι) (scope : Scope) (own : List Nat) (g : Tg) (q : Gm → Ms → (Bool → Ms → Prop) → Prop) (elt : Expr) (Γ : Gm) (Φ : PD) : Thi := fun ds PM M1 =>
  ∃ I : Nat → List Da → Ms → Prop, I 0 [] M1 ∧ (∀ n acc M p o, I n acc M → M p = none → PM (um M p o)) ∧
    (∀ n d acc M p, ds[n]? = some d → I n acc M → M p = none → ∃ Γ', tgD g d (wipeG Γ own) = some Γ' ∧ q Γ' (um M p (.lst acc)) fun c M2 =>
      (c = true → EX (T.blk scope) elt Γ' M2 (fun y M3 => acc.length < sizeLine ∧ ∃ M4, M3 = um M4 p (.lst acc) ∧ M4 p = none ∧ I (n + 1) (acc ++ [y]) M4) fun _ _ _ _ => False) ∧
      (c = false → ∃ M4, M2 = um M4 p (.lst acc) ∧ M4 p = none ∧ I (n + 1) acc M4)) ∧
    ∀ acc M, I ds.length acc M → Φ (.lst acc) M
theorem ge_lc {elt : Expr} {scope : Scope} {own : List Nat} {g : Tg} {q : Gm → Ms → (Bool → Ms → Prop) → Prop} {tt : TT} {wi : TI} {Φ : PD} (hq : ∀ Γ M Φ, q Γ M Φ → GT (T.blk scope) tt Γ M Φ fun _ _ _ _ => False) (hown : ∀ i ∈ g.ix, i ∈ own)
    (h : GI T wi Γ M (lcAsk T scope own g q elt Γ Φ) Ψ) : GE T (tLc wi (tgR T.K g) tt (teOf (T.blk scope) elt) own) Γ M Φ Ψ := by
  intro F H σ Q ok sl hk x
  refine h F H σ _ ok sl (fun F1 H1 M1 J ds PM e1 ok1 it z p hp => ?_) x
  obtain ⟨I, i0, pm, step, fin⟩ := z
  have okp : Ok T.K F1 (upd H1 p (.lst [])) (um M1 p (.lst [])) := ok1.newM (u := .lst []) hp ⟨[], upd_same, rfl⟩
  refine ⟨fun i m H => m = ds.length - i ∧ i ≤ ds.length ∧ ∃ F' M' acc, Same F1 F' ∧ Ok T.K F' H (um M' p (.lst acc)) ∧ M' p = none ∧ I i acc M', ⟨_, rfl, Nat.zero_le _, F1, M1, [], Same.refl _, okp, ok1.fresh hp, i0⟩, ?_⟩
  rintro i m H' ⟨rfl, hi, F', M', acc, e2, ok2, hn, hI⟩
  have slw : Sl T.K F' (L2.wipe σ own) (wipeG Γ own) := (sl.mono (e1.trans e2)).wipe own
  by_cases hlt : i < ds.length
  · refine .inr ⟨it.go i F' H' _ e2 ok2 (pm _ _ _ _ _ hI hn) hlt, fun H3 => i + 1 ≤ ds.length ∧ ∃ F' M' acc, Same F1 F' ∧ Ok T.K F' H3 (um M' p (.lst acc)) ∧ M' p = none ∧ I (i + 1) acc M', fun H3 n3 => ⟨ds.length - (i + 1), by omega, rfl, n3⟩, fun y H3 hy => ?_⟩
    obtain ⟨F2, e3, ok3, r⟩ := it.yld i F' H' _ y H3 e2 ok2 (pm _ _ _ _ _ hI hn) hy
    have hd : ds[i]? = some ds[i] := by simp [hlt]
    obtain ⟨Γ2, hg2, hb⟩ := step i _ acc M' p hd hI hn
    refine tg_run hg2 (r _ hd) ok3.ex (slw.mono e3) fun σ4 sl4 hw => ⟨?_, ?_⟩
    · rw [hw own hown]
      apply List.ext_getElem?
      intro j
      rw [wipe_get, wipe_get, wipe_length]
      by_cases hj : j ∈ own ∧ j < σ.length
      · rw [if_pos hj, if_pos hj]
      · rw [if_neg hj]
    · refine hq _ _ _ hb F2 H3 σ4 _ ok3 sl4 (fun F5 H5 M5 c e5 ok5 zz => ?_) KX.none
      cases c with
      | true =>
        rw [if_pos rfl]
        refine zz.1 rfl F5 H5 σ4 _ ok5 (sl4.mono e5) (fun F6 H6 M6 y v e6 ok6 ry hh => ?_) KX.none
        obtain ⟨hl, M7, e7, n7, I7⟩ := hh
        subst e7
        obtain ⟨hF6, vs, hp6, rs⟩ := ok6.mu p _ um_same
        refine ⟨vs, hp6, by rw [rs.length]; exact hl, hlt, F6, M7, acc ++ [y], e2.trans (e3.trans (e5.trans e6)), ?_, n7, I7⟩
        have q8 := ok6.write (u := .lst (acc ++ [y])) um_same ⟨_, upd_same, rs.append (Reps.one ry)⟩
        rw [um_um] at q8
        exact q8
      | false =>
        rw [if_neg Bool.false_ne_true]
        obtain ⟨M7, e7, n7, I7⟩ := zz.2 rfl
        subst e7
        exact ⟨hlt, F5, M7, acc, e2.trans (e3.trans e5), ok5, n7, I7⟩
  · have e : i = ds.length := by omega
    subst e
    refine .inl ⟨it.stop _ F' H' _ e2 ok2 (pm _ _ _ _ _ hI hn) (Nat.le_refl _), ?_⟩
    obtain ⟨F3, e3, ok3, r3⟩ := ok2.freezeL um_same
    rw [dm_um hn] at ok3
    exact hk F3 H' M' _ _ (e1.trans (e2.trans e3)) ok3 r3 (fin _ _ hI)
theorem ifs_run {ifs : List Expr} {q : Gm → Ms → (Bool → Ms → Prop) → Prop} (h : IfOk T ifs q) : ∃ tt : TT, (∀ i, PTs (T.X i) ifs tt) ∧ ∀ Γ M Φ, q Γ M Φ → GT T tt Γ M Φ fun _ _ _ _ => False := by
  cases h with
  | none => exact ⟨tYes, fun i => pts_nil, fun Γ M Φ z F H σ Q ok sl k x => k F H M true (Same.refl _) ok z⟩
  | one c => exact ⟨ttOf T c, fun i => pts_one (pt_tt i), fun Γ M Φ z => z⟩
/-- [elt for tg in iter if ..], own: the slots of the block's own names -/
theorem ex_lc (hF : Fc T k P w K mg base N sc) {elt : Expr} {ifs : List Expr} {scope : Scope} (own : List (Str × Nat)) {g : Tg} {q : Gm → Ms → (Bool → Ms → Prop) → Prop} {Φ : PD} (hg : TgOk (T.blk scope) tg g) (hq : IfOk (T.blk scope) ifs q)
    (h : IX T tg iter Γ M (lcAsk T scope (own.map (·.2)) g q elt Γ Φ) Ψ) (ok : blkC N sc scope own = true) (hown : ∀ i ∈ g.ix, i ∈ own.map (·.2)) (hs : ∀ env x, foldedSetIterable iter env x = pure x := by intro _ _; rfl) (hh : T.hot = false := by assumption) :
    EX T (.ListComp elt [⟨tg, iter, ifs, 0⟩] scope pos) Γ M Φ Ψ := by
  obtain ⟨tt, h1, h2⟩ := ifs_run hq
  refine EX.mk (fun i => pe_lc (own := own) (hF.calm hh i) (by rw [hF.hN]; exact hF.nd) (pi_ti i) (by rw [hF.hN, hF.hs]; exact blkOk_by ok) (fun s H C cl fp => hg (i, s, H, C, cl, fp)) (fun s H C cl fp => h1 (i, s, H, C, cl, fp)) (fun s H C cl fp => pe_te (T := T.blk scope) (i, s, H, C, cl, fp)) (hs _)) ?_
  exact ge_lc h2 hown h
/-- y = [elt for tg in iter if ..] on one line, y a local -/
theorem sx_setLc (hF : Fd T k P w K mg base N sc) (j : Nat) {y : Str} {py spos : Pos} {elt : Expr} {ifs : List Expr} {scope : Scope} (own : List (Str × Nat)) {g : Tg} {q : Gm → Ms → (Bool → Ms → Prop) → Prop} (hg : TgOk (T.blk scope) tg g) (hq : IfOk (T.blk scope) ifs q)
    (h : IX T tg iter Γ M (lcAsk T scope (own.map (·.2)) g q elt Γ (fun d M1 => D.nx (Γ.set j (some d)) M1)) (D.ex Γ)) (ok : blkC N sc scope own = true) (hown : ∀ i ∈ g.ix, i ∈ own.map (·.2))
    (hsw : ∀ env : Env, env.scope = sc → swapsWith (.ListComp elt [⟨tg, iter, ifs, 0⟩] scope pos) (some (.Name y py)) spos.line env = pure true)
    (hN : N[j]? = some y := by rfl) (hy : sc.names.lookup y = some .local := by rfl) (hs : ∀ env x, foldedSetIterable iter env x = pure x := by intro _ _; rfl) (hh : T.hot = false := by assumption) :
    SX T (.Assign [.Name y py] (.ListComp elt [⟨tg, iter, ifs, 0⟩] scope pos) spos) Γ M D := by
  obtain ⟨tt, h1, h2⟩ := ifs_run hq
  refine SX.mk (fun i => ps_setLc (own := own) (hF.fc.calm hh i) (by rw [hF.fc.hN]; exact hF.fc.nd) (by rw [hF.fc.hN]; exact hN) (by rw [hF.fc.hs]; exact hy) (hsw _ (hF.fc.hs i)) (pi_ti i) (by rw [hF.fc.hN, hF.fc.hs]; exact blkOk_by ok) (fun s H C cl fp => hg (i, s, H, C, cl, fp)) (fun s H C cl fp => h1 (i, s, H, C, cl, fp)) (fun s H C cl fp => pe_te (T := T.blk scope) (i, s, H, C, cl, fp)) (hs _)) ?_
  intro F H σ E ok sl qd
  exact ge_lc h2 hown h F H σ _ ok sl (fun F1 H1 M1 d v e1 ok1 r z => qd.nx F1 _ M1 _ H1 e1 ok1 ((sl.mono e1).set r j) z) (qd.kx sl)
/-- a comprehension whose elements lean on the items alone, over a list of one type's data -/
theorem lc_mapT {α : Type} {elt : Expr} {scope : Scope} {own : List Nat} {g : Tg} {Φ : PD} {xs : List α} (enc f : α → Da) (hl : xs.length ≤ 100000)
    (h : ∀ x ∈ xs, ∃ Γ', tgD g (enc x) (wipeG Γ own) = some Γ' ∧ ∀ M', Sub M M' → EX (T.blk scope) elt Γ' M' (fun y M2 => y = f x ∧ M2 = M') fun _ _ _ _ => False) (q : Φ (.lst (xs.map f)) M) :
    lcAsk T scope own g (fun _ M Φ => Φ true M) elt Γ Φ (xs.map enc) (fun _ => True) M := by
  refine ⟨fun n acc M2 => acc = (xs.take n).map f ∧ M2 = M, ⟨by simp, rfl⟩, fun _ _ _ _ _ _ _ => trivial, fun n d acc M2 p hd hI hp => ?_, fun acc M2 hI => ?_⟩
  · obtain ⟨rfl, rfl⟩ := hI
    rw [List.getElem?_map] at hd
    obtain ⟨x, hx, rfl⟩ := Option.map_eq_some_iff.mp hd
    obtain ⟨Γ', h1, h2⟩ := h x (List.mem_of_getElem? hx)
    refine ⟨Γ', h1, fun _ => EX.imp (h2 _ (Sub.new hp)) (fun y M3 e => ?_) fun _ _ _ _ z => z, fun z => nomatch z⟩
    obtain ⟨rfl, rfl⟩ := e
    refine ⟨?_, M2, rfl, hp, ?_, rfl⟩
    · rw [List.length_map, List.length_take]
      exact Nat.lt_of_le_of_lt (Nat.min_le_right _ _) (Nat.lt_of_le_of_lt hl (by rw [sizeLine_eq]; decide))
    · rw [List.take_add_one, hx]; simp
  · obtain ⟨rfl, rfl⟩ := hI
    rw [List.length_map, List.take_length]; exact q
theorem lc_filterT {α : Type} {elt c : Expr} {scope : Scope} {own : List Nat} {g : Tg} {Φ : PD} {xs : List α} (enc f : α → Da) (t : α → Bool) (hl : xs.length ≤ 100000)
    (h : ∀ x ∈ xs, ∃ Γ', tgD g (enc x) (wipeG Γ own) = some Γ' ∧ ∀ M', Sub M M' → TX (T.blk scope) c Γ' M' (fun b M2 => b = t x ∧ M2 = M' ∧ (b = true → EX (T.blk scope) elt Γ' M' (fun y M2 => y = f x ∧ M2 = M') fun _ _ _ _ => False)) fun _ _ _ _ => False) (q : Φ (.lst ((xs.filter t).map f)) M) :
    lcAsk T scope own g (fun Γ M Φ => TX (T.blk scope) c Γ M Φ fun _ _ _ _ => False) elt Γ Φ (xs.map enc) (fun _ => True) M := by
  refine ⟨fun n acc M2 => acc = ((xs.take n).filter t).map f ∧ M2 = M, ⟨by simp, rfl⟩, fun _ _ _ _ _ _ _ => trivial, fun n d acc M2 p hd hI hp => ?_, fun acc M2 hI => ?_⟩
  · obtain ⟨rfl, rfl⟩ := hI
    rw [List.getElem?_map] at hd
    obtain ⟨x, hx, rfl⟩ := Option.map_eq_some_iff.mp hd
    obtain ⟨Γ', h1, h2⟩ := h x (List.mem_of_getElem? hx)
    have ht : xs.take (n + 1) = xs.take n ++ [x] := by rw [List.take_add_one, hx]; rfl
    have hlen : (((xs.take n).filter t).map f).length < sizeLine := by
      rw [List.length_map]
      refine Nat.lt_of_le_of_lt (List.length_filter_le _ _) ?_
      rw [List.length_take]
      exact Nat.lt_of_le_of_lt (Nat.min_le_right _ _) (Nat.lt_of_le_of_lt hl (by rw [sizeLine_eq]; decide))
    refine ⟨Γ', h1, TX.imp (h2 _ (Sub.new hp)) fun b M3 e => ?_⟩
    obtain ⟨rfl, rfl, he⟩ := e
    refine ⟨fun hb => EX.imp (he hb) (fun y M4 e => ?_) fun _ _ _ _ z => z, fun hb => ⟨M2, rfl, hp, ?_, rfl⟩⟩
    · obtain ⟨rfl, rfl⟩ := e
      refine ⟨hlen, M2, rfl, hp, ?_, rfl⟩
      rw [ht, List.filter_append, List.map_append]
      simp [hb]
    · rw [ht, List.filter_append, List.map_append]
      simp [hb]
  · obtain ⟨rfl, rfl⟩ := hI
    rw [List.length_map, List.take_length]; exact q
end

/-! ### a def -/
def startG (N : List Str) (args : List Da) : Gm := args.map some ++ List.replicate (N.length - args.length) none
theorem sl_start {K : PySem.W.Frag} {F : Hp} {N : List Str} {args : List Da} {vs : List V} (r : Reps K F args vs) : Sl K F (L2.start N vs) (startG N args) := by
  refine ⟨by unfold L2.start startG; simp [r.length], fun i d h => ?_⟩
  unfold startG at h
  have hi : i < args.length := by
    by_cases hi : i < args.length
    · exact hi
    · rw [List.getElem?_append_right (by simpa using hi), List.getElem?_replicate] at h
      split at h <;> cases h
  rw [List.getElem?_append_left (by simpa using hi), List.getElem?_map] at h
  cases e : args[i]? with
  | none => rw [e] at h; cases h
  | some a =>
    rw [e] at h
    cases h
    obtain ⟨v, hv, rv⟩ := r.get e
    refine ⟨v, ?_, rv⟩
    unfold L2.start
    rw [List.getElem?_append_left (by rw [List.length_map, r.length]; exact hi), List.getElem?_map, hv]
    rfl
-- a def while an exception is handled
theorem fn_hot {P : Program} {w : World} {K : PySem.W.Frag} {mg : Str → Option Value} {base : Heap} {k : Nat} {f : Addr} {x qual : Str} {params : Arguments} {body : List Stmt} {scope : Scope} {dvs : List V} {kws : List (Str × V)} {fd : FuncData} {N ps : List Str} {sp : Sp}
    (F : FunD K x qual params body scope dvs kws f fd) (S : FnScope N ps scope) (len : ∀ vs H Q E, sp vs H Q E → vs.length = ps.length)
    (hbody : ∀ (cdv : Value) (A : Around) (fr : List Env) (s : Shared) (H : Hp) (vs : List V) (Q : VK) (E : XK) (p : Addr × Obj), L2H.RoomH k (A.deeper (envOfC qual scope s.heap.objs.size f cdv)) → sp vs H Q E →
      ∃ t, PSs (L2H.cxH (L2.CX P w) P w K mg base N qual scope f cdv A fr s H E p) body t ∧ t { nx := fun _ H' => Q .non H', rt := Q } (L2.start N vs) H) : FnM true P w K mg base (k + 1) f fd ps sp := by
  obtain ⟨oc, od, dV, kV, doc, pm, an, cdv, ct, osl, rfl, lk, hcd, _, _⟩ := F.ex
  refine ⟨len, fun A fr s H ar us vs Q E hr e0 bt r hsp => ?_⟩
  have nvs := len _ _ _ _ hsp
  have hf := e0.mod.kin f _ lk
  have kin : K.In s.heap := e0.mod.kin.keeps fun b o z => (e0.bs b o z).1
  have nl : s.heap.NoLimit := e0.mod.nolimit.keeps fun b o z => (e0.bs b o z).1
  have nfr : f ∉ frs fr := fun z => by
    have := (e0.funs.mem z).1
    rw [hf] at this; cases this
  have pin : L2H.PinOk fr H s (f, _) := ⟨(e0.bs f _ hf).1, (e0.bs f _ hf).2, nfr, fun v z => nomatch z⟩
  have kinds : ∀ y ∈ ps.zip us, scope.names.lookup y.1 = some .local ∨ (scope.names.lookup y.1 = some .cell ∧ ((cellsFrom (s.heap.objs.size + 1) scope.names []).lookup y.1).isSome = true) := by
    rintro ⟨n, v⟩ hy
    exact (S.par n (List.of_mem_zip hy).1).imp id fun q => ⟨q, PySem.W.cellsFrom_some _ _ _ (.inl q)⟩
  refine codeAny_call_function hr.rm.depth (kin _ _ lk) rfl S.co S.gen rfl (PySem.W.codeRec_of kin hcd) (bt _ _ _ _ ?_)
  refine wpAny_newFunctionEnv_cells S.kind kinds fun env he s1 z => ?_
  subst he
  refine ⟨nl.keeps z.toInCall.keep, codeAny_func ?_⟩
  obtain ⟨t, ht, go⟩ := hbody cdv A fr s H vs Q E (f, _) (hr.rm.deeper _) hsp
  have I := L2H.inv_startH (CX := L2.CX P w) (w := w) (P := P) (mg := mg) (cd := cdv) (f := f) (qual := qual) (E := E) S pin e0 nvs r z
  have all := ht.run [] s1 (L2.start N vs) H _ I go
  refine wpAny_mono all (fun fl s2 q => ?_) fun _ _ q => q
  cases fl with
  | brk => exact q.choose_spec.choose_spec.2.elim
  | cont => exact q.choose_spec.choose_spec.2.elim
  | next =>
    obtain ⟨σ2, H', J, q⟩ := q
    exact (⟨.non, H', J.os, J.bare, J.base, J.hok, rfl, q⟩ : CE fr P w H s Q .none s2)
  | ret u =>
    obtain ⟨v, σ2, H', J, rv, q⟩ := q
    exact (⟨v, H', J.os, J.bare, J.base, J.hok, rv, q⟩ : CE fr P w H s Q u s2)
/-- THE RULE: a def by its body -/
theorem okG {hot : Bool} {P : Program} {w : World} {K : PySem.W.Frag} {mg : Str → Option Value} {base : Heap} {x qual : Str} {params : Arguments} {body : List Stmt} {scope : Scope} {dvs : List V} {kws : List (Str × V)} {f : Addr} {fd : FuncData} {N ps : List Str} {k : Nat} {ds : DS}
    (F : FunD K x qual params body scope dvs kws f fd) (S : FnScope N ps scope) (len : ∀ args M Φ Ψ, ds args M Φ Ψ → args.length = ps.length)
    (hbody : ∀ (T : Fm Unit), T.hot = hot → Fd T k P w K mg base N scope → ∀ args M Φ Ψ, ds args M Φ Ψ → SSX T body (startG N args) M ⟨fun _ M' => Φ .non M', Φ, fun _ _ => False, fun _ _ => False, fun _ => Ψ⟩) : FnM hot P w K mg base (k + 1) f fd ps (lift K ds) := by
  have hlen : ∀ vs H Q E, lift K ds vs H Q E → vs.length = ps.length := fun vs H Q E h => by
    obtain ⟨F0, M, args, Φ, Ψ, ok, r, hd, _⟩ := h
    rw [r.length]; exact len _ _ _ _ hd
  have ends : ∀ (T : Fm Unit) (E : XK), T.K = K → T.w = (fun cls d _ H => E cls d H) → ∀ (F0 : Hp) (Φ : PD) (Ψ : PX) (Q : VK), KE K F0 Φ Q → KX K F0 Ψ E → KD T F0 ⟨fun _ M' => Φ .non M', Φ, fun _ _ => False, fun _ _ => False, fun _ => Ψ⟩ { nx := fun _ H' => Q .non H', rt := Q } := by
    rintro ⟨X, K', w', ht⟩ E rfl rfl F0 Φ Ψ Q hk hx
    refine ⟨?_, hk, ?_, ?_, ?_⟩
    · exact fun F' Γ' M' σ' H' e ok' sl' z => hk F' H' M' .non .non e ok' rfl z
    · exact fun _ _ _ _ _ _ _ _ z => z.elim
    · exact fun _ _ _ _ _ _ _ _ z => z.elim
    · exact fun F' Γ' M' σ' H' C d ns ds vs e ok' _ hd hl r z => hx F' H' M' C d ns ds vs e ok' hd hl r z
  cases hot with
  | false =>
    refine .of (F.ok S hlen fun cdv A outer s H vs Q E hr h => ?_)
    obtain ⟨F0, M, args, Φ, Ψ, ok, r, hd, hk, hx⟩ := h
    let T : Fm Unit := ⟨fun _ : Unit => cxOf (L2.CX P w) P w K mg base N qual scope f cdv A outer s H E, K, fun cls d _ H => E cls d H, false⟩
    refine ⟨tssOf T body, pss_tss (T := T) (), ?_⟩
    refine hbody T rfl ?_ args M Φ Ψ hd F0 H _ _ ok (sl_start r) (ends T E rfl rfl F0 Φ Ψ Q hk hx)
    exact ⟨⟨rfl, fun _ => rfl, fun _ => rfl, fun _ => rfl, fun _ => rfl, fun _ => rfl, fun _ => rfl, S.nd, fun _ => rfl, fun _ _ => rfl, fun _ => .of hr, fun _ => takes_of rfl rfl rfl rfl⟩, fun _ _ _ => .inl rfl, fun _ => passes_of rfl, fun _ => rfl, fun _ => rfl⟩
  | true =>
    refine fn_hot F S hlen fun cdv A outer s H vs Q E p hr h => ?_
    obtain ⟨F0, M, args, Φ, Ψ, ok, r, hd, hk, hx⟩ := h
    let T : Fm Unit := ⟨fun _ : Unit => L2H.cxH (L2.CX P w) P w K mg base N qual scope f cdv A outer s H E p, K, fun cls d _ H => E cls d H, true⟩
    refine ⟨tssOf T body, pss_tss (T := T) (), ?_⟩
    refine hbody T rfl ?_ args M Φ Ψ hd F0 H _ _ ok (sl_start r) (ends T E rfl rfl F0 Φ Ψ Q hk hx)
    exact ⟨⟨rfl, fun _ => rfl, fun _ => rfl, fun _ => rfl, fun _ => rfl, fun _ => rfl, fun _ => rfl, S.nd, fun _ => rfl, (fun z => nomatch z), fun _ => ⟨hr, (fun z => nomatch z)⟩, fun _ => takes_of rfl rfl rfl rfl⟩, fun _ _ _ => .inl rfl, fun _ => passes_of rfl, fun _ => rfl, fun _ => rfl⟩
end G
set_option Elab.async false
set_option linter.all false
set_option maxRecDepth 100000
/-! GBlt: built-in functions on data. -/
namespace G
open PySem PySem.Spec PyProof.Rows L2
section
variable {ι : Type} {T : Fm ι} {k : Nat} {P : Program} {w : World} {K : PySem.W.Frag} {mg : Str → Option Value} {base : Heap} {N : List Str} {sc : Scope} {Γ : Gm} {M : Ms} {Φ : PD} {Ψ : PX}
variable {e a b c : Expr} {es : List Expr} {pos p : Pos}
theorem reps1 {K : PySem.W.Frag} {F : Hp} {d : D} {vs : List V} (h : Reps K F [d] vs) : ∃ v, vs = [v] ∧ Rep K F d v := by
  obtain ⟨v, r, h1, h2, h3⟩ := h
  have h3 : r = [] := h3
  subst h3
  exact ⟨v, h1, h2⟩
theorem reps2 {K : PySem.W.Frag} {F : Hp} {d d' : D} {vs : List V} (h : Reps K F [d, d'] vs) : ∃ v v', vs = [v, v'] ∧ Rep K F d v ∧ Rep K F d' v' := by
  obtain ⟨v, r, h1, h2, h3⟩ := h
  obtain ⟨v', h4, h5⟩ := reps1 h3
  subst h4
  exact ⟨v, v', h1, h2, h5⟩
/-! ### len -/
def lenP (M : Ms) (Φ : PD) : List D → Prop
  | [.str y] => y.length ≤ sizeLine ∧ Φ (.int y.length) M
  | [.tup ds] => Φ (.int ds.length) M
  | [.lst ds] => Φ (.int ds.length) M
  | [.rol ds] => Φ (.int ds.length) M
  | [.ref p] => ∃ ds, M p = some (.lst ds) ∧ Φ (.int ds.length) M
  | _ => False
theorem gc_len {xs : List D} (q : lenP M Φ xs) : GC T (fun xs H Q => ∃ x n, xs = [x] ∧ LenV T.K x H n ∧ Q (.int n) H) xs M Φ := by
  intro F H vs Q ok rs hk
  unfold lenP at q
  split at q
  · obtain ⟨v, rfl, r⟩ := reps1 rs
    cases r
    exact ⟨_, _, rfl, ⟨q.1, rfl⟩, hk F H M (.int _) _ (Same.refl _) ok rfl q.2⟩
  · obtain ⟨v, rfl, r⟩ := reps1 rs
    obtain ⟨a, us, rfl, h1, h2⟩ := r
    exact ⟨_, _, rfl, .inr ⟨us, same_t ok.ex h1, rfl⟩, by rw [h2.length]; exact hk F H M (.int _) _ (Same.refl _) ok rfl q⟩
  · obtain ⟨v, rfl, r⟩ := reps1 rs
    obtain ⟨a, us, rfl, h1, h2⟩ := r
    exact ⟨_, _, rfl, .inl ⟨us, .inl (.inl (ok.ex _ _ h1)), rfl⟩, by rw [h2.length]; exact hk F H M (.int _) _ (Same.refl _) ok rfl q⟩
  · obtain ⟨v, rfl, r⟩ := reps1 rs
    obtain ⟨a, us, rfl, h1, h2⟩ := r
    exact ⟨_, _, rfl, .inl ⟨us, ok.ex.seq h1, rfl⟩, by rw [h2.length]; exact hk F H M (.int _) _ (Same.refl _) ok rfl q⟩
  · obtain ⟨v, rfl, r⟩ := reps1 rs
    cases r
    obtain ⟨ds, hm, q⟩ := q
    obtain ⟨_, us, h1, h2⟩ := ok.mu _ _ hm
    exact ⟨_, _, rfl, .inl ⟨us, .inl (.inl h1), rfl⟩, by rw [h2.length]; exact hk F H M (.int _) _ (Same.refl _) ok rfl q⟩
  · exact False.elim q
theorem ex_len (hF : Fc T k P w K mg base N sc) (hm : mg "len" = none) (h : AX T [e] Γ M (fun xs M1 => lenP M1 Φ xs) Ψ) (hg : sc.names.lookup ("len" : Str) = some .globalImplicit := by rfl) (he : ∀ env, starEach [e] env = (false, eval e env) :: starEach [] env := by intro _; rfl) : EX T (.Call (.Name "len" p) [e] [] pos) Γ M Φ Ψ :=
  ex_bltG hF (R := lenP) (fun i => by rw [← hF.hK i]; exact call_len) hm boot_len (fun _ _ _ q => gc_len q) h hg (he := he)
/-! ### abs, int, bool, str, list -/
def absP (M : Ms) (Φ : PD) : List D → Prop
  | [.int i] => Φ (.int (if i < 0 then -i else i)) M
  | _ => False
theorem ex_abs (hF : Fc T k P w K mg base N sc) (hm : mg "abs" = none) (h : AX T [e] Γ M (fun xs M1 => absP M1 Φ xs) Ψ) (hg : sc.names.lookup ("abs" : Str) = some .globalImplicit := by rfl) (he : ∀ env, starEach [e] env = (false, eval e env) :: starEach [] env := by intro _; rfl) : EX T (.Call (.Name "abs" p) [e] [] pos) Γ M Φ Ψ := by
  refine ex_bltG hF (R := absP) (fun i => call_abs) hm (by decide +kernel) (fun xs M Φ q => ?_) h hg (he := he)
  intro F H vs Q ok rs hk
  unfold absP at q
  split at q
  · obtain ⟨v, rfl, r⟩ := reps1 rs
    cases r
    exact ⟨_, rfl, hk F H M (.int _) _ (Same.refl _) ok rfl q⟩
  · exact False.elim q
def intP (M : Ms) (Φ : PD) : List D → Prop
  | [.int i] => Φ (.int i) M
  | [.bl b] => Φ (.int (if b then 1 else 0)) M
  | _ => False
theorem ex_int1 (hF : Fc T k P w K mg base N sc) (hm : mg "int" = none) (h : AX T [e] Γ M (fun xs M1 => intP M1 Φ xs) Ψ) (hg : sc.names.lookup ("int" : Str) = some .globalImplicit := by rfl) (he : ∀ env, starEach [e] env = (false, eval e env) :: starEach [] env := by intro _; rfl) : EX T (.Call (.Name "int" p) [e] [] pos) Γ M Φ Ψ := by
  refine ex_tyG hF (R := intP) (fun i => call_int1) hm boot_int (fun xs M Φ q => ?_) h hg (he := he)
  intro F H vs Q ok rs hk
  unfold intP at q
  split at q
  · obtain ⟨v, rfl, r⟩ := reps1 rs
    cases r
    exact .inl ⟨_, rfl, hk F H M (.int _) _ (Same.refl _) ok rfl q⟩
  · obtain ⟨v, rfl, r⟩ := reps1 rs
    cases r
    exact .inr ⟨_, rfl, hk F H M (.int _) _ (Same.refl _) ok rfl q⟩
  · exact False.elim q
/-- int of a text that is a number -/
theorem ex_intS (hF : Fc T k P w K mg base N sc) (hm : mg "int" = none) (h : EX T e Γ M (fun d M1 => ∃ a n, d = .str a ∧ PySem.intText? a = some n ∧ a.length ≤ 640 ∧ Φ (.int n) M1) Ψ) (hg : sc.names.lookup ("int" : Str) = some .globalImplicit := by rfl) (he : ∀ env, starEach [e] env = (false, eval e env) :: starEach [] env := by intro _; rfl) : EX T (.Call (.Name "int" p) [e] [] pos) Γ M Φ Ψ := by
  refine ex_tyG hF (R := fun M Φ xs => ∃ a n, xs = [.str a] ∧ PySem.intText? a = some n ∧ a.length ≤ 640 ∧ Φ (.int n) M) (fun i => call_int_str) hm boot_int (fun xs M Φ q => ?_) (ax_cons (EX.imp h (fun d M1 ⟨a, n, hd, h1, h2, q⟩ => ax_nil ⟨a, n, by rw [hd], h1, h2, q⟩) fun _ _ _ _ z => z) he) hg (he := he)
  intro F H vs Q ok rs hk
  obtain ⟨a, n, rfl, h1, h2, q⟩ := q
  obtain ⟨v, rfl, r⟩ := reps1 rs
  cases r
  exact ⟨a, n, rfl, h1, h2, hk F H M (.int _) _ (Same.refl _) ok rfl q⟩
def strP (M : Ms) (Φ : PD) : List D → Prop
  | [.int i] => i.natAbs.log2 < 1920 ∧ Φ (.str (toString i)) M
  | _ => False
theorem ex_str1 (hF : Fc T k P w K mg base N sc) (hm : mg "str" = none) (h : AX T [e] Γ M (fun xs M1 => strP M1 Φ xs) Ψ) (hg : sc.names.lookup ("str" : Str) = some .globalImplicit := by rfl) (he : ∀ env, starEach [e] env = (false, eval e env) :: starEach [] env := by intro _; rfl) : EX T (.Call (.Name "str" p) [e] [] pos) Γ M Φ Ψ := by
  refine ex_tyG hF (R := strP) (fun i => call_str_int) hm (by decide +kernel) (fun xs M Φ q => ?_) h hg (he := he)
  intro F H vs Q ok rs hk
  unfold strP at q
  split at q
  · obtain ⟨v, rfl, r⟩ := reps1 rs
    cases r
    exact ⟨_, rfl, q.1, hk F H M (.str _) _ (Same.refl _) ok rfl q.2⟩
  · exact False.elim q
def seqM (M : Ms) : D → Option (List D)
  | .lst ds => some ds
  | .rol ds => some ds
  | .tup ds => some ds
  | .ref p => match M p with
    | some (.lst ds) => some ds
    | _ => none
  | _ => none
theorem seqM_read {K : PySem.W.Frag} {F H : Hp} {d : D} {ds : List D} {v : V} (ok : Ok K F H M) (r : Rep K F d v) (h : seqM M d = some ds) : ∃ a vs, v = .ref a ∧ (SqL K H a vs ∨ SqT K H a vs) ∧ Reps K F ds vs := by
  cases d with
  | lst xs => cases h; obtain ⟨a, us, rfl, h1, h2⟩ := r; exact ⟨a, us, rfl, .inl (.inl (.inl (ok.ex _ _ h1))), h2⟩
  | rol xs => cases h; obtain ⟨a, us, rfl, h1, h2⟩ := r; exact ⟨a, us, rfl, .inl (ok.ex.seq h1), h2⟩
  | tup xs => cases h; obtain ⟨a, us, rfl, h1, h2⟩ := r; exact ⟨a, us, rfl, .inr (same_t ok.ex h1), h2⟩
  | ref p =>
    cases r
    have h : (match M p with | some (.lst ds) => some ds | _ => none) = some ds := h
    cases e : M p with
    | none => rw [e] at h; cases h
    | some o =>
      rw [e] at h
      cases o with
      | lst xs =>
        cases h
        obtain ⟨_, us, h1, h2⟩ := ok.mu _ _ e
        exact ⟨p, us, rfl, .inl (.inl (.inl h1)), h2⟩
      | _ => cases h
  | _ => cases h
/-- list(x): a new list -/
def listP (M : Ms) (Φ : PD) (xs : List D) : Prop := ∃ d ds, xs = [d] ∧ seqM M d = some ds ∧ Φ (.lst ds) M
theorem ex_list1 (hF : Fc T k P w K mg base N sc) (hm : mg "list" = none) (h : AX T [e] Γ M (fun xs M1 => listP M1 Φ xs) Ψ) (hg : sc.names.lookup ("list" : Str) = some .globalImplicit := by rfl) (he : ∀ env, starEach [e] env = (false, eval e env) :: starEach [] env := by intro _; rfl) : EX T (.Call (.Name "list" p) [e] [] pos) Γ M Φ Ψ := by
  refine ex_tyG hF (R := listP) (r := fun xs H Q => ∃ p ys, xs = [.ref p] ∧ (SqL T.K H p ys ∨ SqT T.K H p ys) ∧ ∀ l, H l = none → Q (.ref l) (upd H l (.lst ys))) (fun i => by rw [← hF.hK i]; exact call_list_of) hm (by decide +kernel) (fun xs M Φ q => ?_) h hg (he := he)
  intro F H vs Q ok rs hk
  obtain ⟨d, ds, rfl, hs, q⟩ := q
  obtain ⟨v, rfl, r⟩ := reps1 rs
  obtain ⟨a, us, rfl, h1, h2⟩ := seqM_read ok r hs
  refine ⟨a, us, rfl, h1, fun l hl => ?_⟩
  have e2 : Same F (upd F l (.lst us)) := same_upd (ok.freshF hl)
  exact hk _ _ M (.lst ds) _ e2 (ok.new hl) ⟨l, us, rfl, upd_same, h2.mono e2⟩ q
/-! ### math.gcd -/
def gcdP (M : Ms) (Φ : PD) : List D → Prop
  | [.int i, .int j] => Φ (.int ((Nat.gcd i.natAbs j.natAbs : Nat) : Int)) M
  | _ => False
theorem ex_gcd (hF : Fc T k P w K mg base N sc) (hm : mg "gcd" = some (.builtin "math.gcd")) (h : AX T [a, b] Γ M (fun xs M1 => gcdP M1 Φ xs) Ψ) (hg : sc.names.lookup ("gcd" : Str) = some .globalImplicit := by rfl)
    (he : ∀ env, starEach [a, b] env = (false, eval a env) :: starEach [b] env := by intro _; rfl) (hpl : ∀ env, (backTo pos (starEach [b] env)).any (·.1) = false := by intro _; rfl) : EX T (.Call (.Name "gcd" p) [a, b] [] pos) Γ M Φ Ψ := by
  refine EX.mk (fun i => pe_callBfun cr_gcd (by show (T.X i).env.scope.names.lookup _ = _; rw [hF.hs]; exact hg) (by rw [hF.hmg]; exact hm) (pa_ta i) (by decide) (he _) (hpl _)) (ge_CB (AX.imp h fun xs M1 q => ?_))
  intro F H vs Q ok rs hk
  unfold gcdP at q
  split at q
  · obtain ⟨v, v', rfl, r, r'⟩ := reps2 rs
    cases r; cases r'
    exact ⟨_, _, rfl, hk F H M1 (.int _) _ (Same.refl _) ok rfl q⟩
  · exact False.elim q
/-! ### max of a list of data -/
theorem toPs_mem : ∀ {ds : List D} {ps : List PyData} {i : Nat} {d : D}, toPs ds = some ps → ds[i]? = some d → ∃ q, ps[i]? = some q ∧ toP d = some q
  | [], _, _, _, _, h => by simp at h
  | d :: ds, ps, i, x, hp, h => by
    obtain ⟨p, hp1, q⟩ := Option.bind_eq_some_iff.mp (show (toP d).bind (fun p => (toPs ds).map fun ps => p :: ps) = some ps from hp)
    obtain ⟨ps', hps, rfl⟩ := Option.map_eq_some_iff.mp q
    cases i with
    | zero =>
      have h : some d = some x := h
      cases h
      exact ⟨p, rfl, hp1⟩
    | succ i =>
      obtain ⟨q, h1, h2⟩ := toPs_mem hps (show ds[i]? = some x from h)
      exact ⟨q, h1, h2⟩
/-- max of a list of alike data: one of them, the greatest -/
def maxP (M : Ms) (Φ : PD) (xs : List D) : Prop := ∃ ds p ps, (xs = [.lst ds] ∨ xs = [.rol ds]) ∧ toPs ds = some (p :: ps) ∧ PySem.W.AlikeAll (p :: ps) ∧ PyData.depthAll (p :: ps) ≤ 8 ∧ ∀ d ∈ ds, toP d = some (PySem.W.maxD p ps) → Φ d M
/-- the same, told of the data -/
def rMaxG (K : PySem.W.Frag) (ds : List D) (p : PyData) (ps : List PyData) (F : Hp) : List V → Hp → VK → Prop := fun vs H Q => ∃ (a : Addr) (us : List V), vs = [.ref a] ∧ SqL K H a us ∧ Same F H ∧ Reps K F ds us ∧ ∀ d ∈ ds, toP d = some (PySem.W.maxD p ps) → ∀ v, Rep K F d v → Q v H
theorem ex_max (hF : Fc T k P w K mg base N sc) (hm : mg "max" = none) (h : AX T [e] Γ M (fun xs M1 => maxP M1 Φ xs) Ψ) (hg : sc.names.lookup ("max" : Str) = some .globalImplicit := by rfl)
    (he : ∀ env, starEach [e] env = (false, eval e env) :: starEach [] env := by intro _; rfl) (hh : T.hot = false := by assumption) : EX T (.Call (.Name "max" p) [e] [] pos) Γ M Φ Ψ := by
  -- the reading: for every list of values that the data tell, the greatest one's value
  refine EX.mk (t := fun σ H Q => taOf T [e] σ H fun vs H1 => ∃ F ds p ps, toPs ds = some (p :: ps) ∧ PySem.W.AlikeAll (p :: ps) ∧ PyData.depthAll (p :: ps) ≤ 8 ∧ rMaxG T.K ds p ps F vs H1 Q) (fun i => ⟨fun pins s σ H Q I hq => ?_⟩) ?_
  · have cr : CallR (T.X i) (.builtin "max") (fun vs H1 Q => ∃ F ds p ps, toPs ds = some (p :: ps) ∧ PySem.W.AlikeAll (p :: ps) ∧ PyData.depthAll (p :: ps) ≤ 8 ∧ rMaxG T.K ds p ps F vs H1 Q) := by
      intro pins s σ H vs us Q I r hq
      obtain ⟨F, ds, p, ps, h1, h2, h3, a, ws, rfl, h4, hs, h5, q⟩ := hq
      obtain ⟨its, rv, hl, _⟩ := I.list (by rw [hF.hK i]; exact h4)
      rw [Vals.ref1 r]
      have hd := toPs_dp hs h5 h1
      rw [← hF.hK i] at hd
      obtain ⟨as, hr⟩ := Dp.readsAll I (p :: ps) ws its hd rv
      refine PySem.W.max_list_data (I.ok.hd (hF.calm hh i)) hl.isList (by simpa using hr) h2 (by have := hF.units i; omega) fun j v h' tk bs hv hrd hk => ?_
      have hv' : its[j]? = some v := by simpa using hv
      have hlen := rv.length
      have hj : j < ws.length := by
        have := (List.getElem?_eq_some_iff.mp hv').1
        omega
      obtain ⟨u', hu', ru⟩ := rv.get (x := ws[j]) (i := j) (by simp [hj])
      rw [hv'] at hu'
      cases hu'
      have hjd : j < ds.length := by rw [← h5.length]; exact hj
      obtain ⟨v0, hv0, rv0⟩ := h5.get (i := j) (d := ds[j]) (by simp [hjd])
      have ev : ws[j] = v0 := by
        have : ws[j]? = some ws[j] := by simp [hj]
        rw [this] at hv0
        exact Option.some.inj hv0
      obtain ⟨q0, hq0, hq1⟩ := toPs_mem h1 (show ds[j]? = some ds[j] by simp [hjd])
      have hdp := toP_dp hs rv0 hq1
      rw [← hF.hK i, ← ev] at hdp
      obtain ⟨as0, hr0⟩ := Dp.reads I q0 _ v hdp ru
      have e1 := (PyProof.Rows.reads_det (fun b o z _ => hk b o z) hr0 hrd).1
      rw [← e1] at hq1
      exact ⟨_, H, I.kept hk, ru, q _ (List.getElem_mem hjd) hq1 _ (by rw [ev]; exact rv0)⟩
    exact (pe_callB (t := taOf T [e]) cr (by show (T.X i).env.scope.names.lookup _ = _; rw [hF.hs]; exact hg) (by rw [hF.hmg]; exact hm) (by decide +kernel) (pa_ta i) (by decide) (by decide) (he _) (by rfl)).run pins s σ H Q I hq
  · intro F H σ Q ok sl hk x
    refine h F H σ _ ok sl (fun F1 H1 M1 xs vs e1 ok1 rs q => ?_) x
    obtain ⟨ds, p, ps, hx, h1, h2, h3, q⟩ := q
    rcases hx with rfl | rfl
    · obtain ⟨v, rfl, r⟩ := reps1 rs
      obtain ⟨a, us, rfl, g1, g2⟩ := r
      exact ⟨F1, ds, p, ps, h1, h2, h3, a, us, rfl, .inl (.inl (ok1.ex _ _ g1)), ok1.ex, g2, fun d hd hp v rv => hk F1 H1 M1 d v e1 ok1 rv (q d hd hp)⟩
    · obtain ⟨v, rfl, r⟩ := reps1 rs
      obtain ⟨a, us, rfl, g1, g2⟩ := r
      exact ⟨F1, ds, p, ps, h1, h2, h3, a, us, rfl, ok1.ex.seq g1, ok1.ex, g2, fun d hd hp v rv => hk F1 H1 M1 d v e1 ok1 rv (q d hd hp)⟩
end
end G
set_option Elab.async false
set_option linter.all false
set_option maxRecDepth 100000
/-! GBlt2: isinstance, all, slices, in, chains, f-strings, texts, zip on data. -/
namespace G
open PySem PySem.Spec PyProof.Rows L2
/-! ### types -/
inductive Bt where
  | non | bl | int | str | lst | tup | dic
  deriving DecidableEq
def Bt.name : Bt → String
  | .non => "NoneType" | .bl => "bool" | .int => "int" | .str => "str" | .lst => "list" | .tup => "tuple" | .dic => "dict"
def Bt.py : Bt → Str
  | .non => "NoneType" | .bl => "bool" | .int => "int" | .str => "str" | .lst => "list" | .tup => "tuple" | .dic => "dict"
def isB : Bt → Bt → Bool
  | .non, .non => true | .bl, .bl => true | .int, .int => true | .str, .str => true | .lst, .lst => true | .tup, .tup => true | .dic, .dic => true | .bl, .int => true
  | _, _ => false
theorem kit_isB {K : PySem.W.Frag} (a b : Bt) : PySem.W.kitOne K (.type a.name) (.type b.name) = some (isB a b) := by
  refine kit_ty ?_
  cases a <;> cases b <;> decide +kernel
def tyD : D → Option Bt
  | .non => some .non | .bl _ => some .bl | .int _ => some .int | .str _ => some .str | .lst _ => some .lst | .rol _ => some .lst | .tup _ => some .tup | .dic _ _ => some .dic
  | _ => none
theorem tyX_of {K : PySem.W.Frag} {F H : Hp} {M : Ms} {d : D} {v : V} {t : Bt} (ok : Ok K F H M) (r : Rep K F d v) (h : tyD d = some t) : TyX K H v (.type t.name) := by
  cases d with
  | non => cases h; cases r; exact .base .non
  | bl b => cases h; cases r; exact .base (.bl b)
  | int i => cases h; cases r; exact .base (.int i)
  | str x => cases h; cases r; exact .base (.str x)
  | lst ds => cases h; obtain ⟨a, vs, rfl, h1, _⟩ := r; exact .base (.lst (ok.ex _ _ h1))
  | rol ds =>
    cases h
    obtain ⟨a, vs, rfl, h1, _⟩ := r
    rcases h1 with (h1 | ⟨o, h1⟩) | ⟨o, its, n, h1, h2, _⟩
    · exact .base (.lst (ok.ex _ _ h1))
    · exact .base (.frz (ok.ex _ _ h1))
    · exact .kList h1 h2
  | tup ds =>
    cases h
    obtain ⟨a, vs, rfl, h1, _⟩ := r
    rcases h1 with (h1 | ⟨o, h1⟩) | ⟨o, its, n, h1, h2, _⟩
    · exact .base (.tup (ok.ex _ _ h1))
    · exact .fTuple (ok.ex _ _ h1)
    · exact .kTuple h1 h2
  | dic ks ds => cases h; obtain ⟨a, vs, rfl, h1, _⟩ := r; exact .base (.dK (ok.ex _ _ h1))
  | _ => cases h
section
variable {ι : Type} {T : Fm ι} {k : Nat} {P : Program} {w : World} {K : PySem.W.Frag} {mg : Str → Option Value} {base : Heap} {N : List Str} {sc : Scope} {Γ : Gm} {M : Ms} {Φ : PD} {Ψ : PX}
variable {e a b c : Expr} {es : List Expr} {pos p p1 p2 p3 p4 : Pos}
theorem pe_bt (hF : Fc T k P w K mg base N sc) (i : ι) (t : Bt) (hm : mg t.py = none) (hv : bootBuiltins t.py = some (.type t.name)) (hg : sc.names.lookup t.py = some .globalImplicit) : PE (T.X i) (.Name t.py p) (tC (.ty t.name)) :=
  pe_bltn (by show (T.X i).env.scope.names.lookup _ = _; rw [hF.hs]; exact hg) (by rw [hF.hmg]; exact hm) hv rfl (by cases t <;> decide) (by cases t <;> decide)
/-- isinstance(e, T), T a built-in class -/
theorem ex_isi (hF : Fc T k P w K mg base N sc) (t : Bt) (hm : mg "isinstance" = none) (hmt : mg t.py = none) (h : EX T e Γ M (fun d M1 => ∃ u, tyD d = some u ∧ Φ (.bl (isB u t)) M1) Ψ) (hg : sc.names.lookup ("isinstance" : Str) = some .globalImplicit := by rfl) (hgt : sc.names.lookup t.py = some .globalImplicit := by rfl)
    (hv : bootBuiltins t.py = some (.type t.name) := by decide +kernel) (he : ∀ env es, starEach (e :: es) env = (false, eval e env) :: starEach es env := by intro _ _; rfl) : EX T (.Call (.Name "isinstance" p) [e, .Name t.py p1] [] pos) Γ M Φ Ψ := by
  refine EX.mk (t := tCB (rIsi T.K) (tCons (teOf T e) (tCons (tC (.ty t.name)) tNil))) (fun i => ?_) ?_
  · exact pe_callB (by rw [← hF.hK i]; exact call_isi) (by show (T.X i).env.scope.names.lookup _ = _; rw [hF.hs]; exact hg) (by rw [hF.hmg]; exact hm) (by decide +kernel) (pa_cons (pe_te i) (pa_cons (pe_bt hF i t hmt hv hgt) pa_nil) (he _ _)) (by decide) (by decide) (he _ _) (by rfl)
  · intro F H σ Q ok sl hk x
    refine h F H σ _ ok sl (fun F1 H1 M1 d v e1 ok1 r ⟨u, hu, q⟩ => ?_) x
    exact ⟨v, .ty t.name, .type u.name, .type t.name, isB u t, rfl, .ty _, tyX_of ok1 r hu, kit_isB u t, hk F1 H1 M1 (.bl _) _ e1 ok1 rfl q⟩
theorem kitAny2 {K : PySem.W.Frag} (a b c : Bt) : PySem.W.kitAny K (.type a.name) [.type b.name, .type c.name] = some (isB a b || isB a c) := by
  refine kitAny_cons (kit_isB a b) (fun h => ?_) (fun h => by rw [h]; rfl)
  rw [h]
  exact kitAny_cons (kit_isB a c) (fun h => by rw [h]; rfl) (fun h => by rw [h]; rfl)
theorem kitAny3 {K : PySem.W.Frag} (a b c d : Bt) : PySem.W.kitAny K (.type a.name) [.type b.name, .type c.name, .type d.name] = some (isB a b || (isB a c || isB a d)) := by
  refine kitAny_cons (kit_isB a b) (fun h => ?_) (fun h => by rw [h]; rfl)
  rw [h]
  exact kitAny2 a c d
theorem ex_isi2 (hF : Fc T k P w K mg base N sc) (t u : Bt) {kt : Nat} (hm : mg "isinstance" = none) (hmt : mg t.py = none) (hmu : mg u.py = none) (h : EX T e Γ M (fun d M1 => ∃ s, tyD d = some s ∧ Φ (.bl (isB s t || isB s u)) M1) Ψ) (hg : sc.names.lookup ("isinstance" : Str) = some .globalImplicit := by rfl) (hgt : sc.names.lookup t.py = some .globalImplicit := by rfl) (hgu : sc.names.lookup u.py = some .globalImplicit := by rfl)
    (hv : bootBuiltins t.py = some (.type t.name) := by decide +kernel) (hv2 : bootBuiltins u.py = some (.type u.name) := by decide +kernel) (he : ∀ env es, starEach (e :: es) env = (false, eval e env) :: starEach es env := by intro _ _; rfl) : EX T (.Call (.Name "isinstance" p) [e, .Tuple [.Name t.py p1, .Name u.py p2] kt p3] [] pos) Γ M Φ Ψ := by
  refine EX.mk (t := tCB (rIsiT T.K) (tCons (teOf T e) (tCons (tTup (tCons (tC (.ty t.name)) (tCons (tC (.ty u.name)) tNil))) tNil))) (fun i => ?_) ?_
  · exact pe_callB (by rw [← hF.hK i]; exact call_isiT) (by show (T.X i).env.scope.names.lookup _ = _; rw [hF.hs]; exact hg) (by rw [hF.hmg]; exact hm) (by decide +kernel) (pa_cons (pe_te i) (pa_cons (pe_tup (pa_cons (pe_bt hF i t hmt hv hgt) (pa_cons (pe_bt hF i u hmu hv2 hgu) pa_nil))) pa_nil) (he _ _)) (by decide) (by decide) (he _ _) (by rfl)
  · intro F H σ Q ok sl hk x
    refine h F H σ _ ok sl (fun F1 H1 M1 d v e1 ok1 r ⟨s, hs, q⟩ => ?_) x
    refine ⟨(size_small (n := 2)), fun tp htp => ?_⟩
    have e2 : Same F1 (upd F1 tp (.tup [.ty t.name, .ty u.name])) := same_upd (ok1.freshF htp)
    have ok2 := ok1.new (o := .tup [.ty t.name, .ty u.name]) htp
    exact ⟨v, tp, _, .type s.name, _, _, rfl, upd_same, .cons (.ty _) (.cons (.ty _) .nil), tyX_of ok2 (r.mono e2) hs, kitAny2 s t u, hk _ _ M1 (.bl _) _ (e1.trans e2) ok2 rfl q⟩
/-- .. of a list that may change -/
theorem ex_isi2M (hF : Fc T k P w K mg base N sc) (t u : Bt) {kt : Nat} (hm : mg "isinstance" = none) (hmt : mg t.py = none) (hmu : mg u.py = none) (h : EX T e Γ M (fun d M1 => ∃ q ds, d = .ref q ∧ M1 q = some (.lst ds) ∧ Φ (.bl (isB .lst t || isB .lst u)) M1) Ψ) (hg : sc.names.lookup ("isinstance" : Str) = some .globalImplicit := by rfl) (hgt : sc.names.lookup t.py = some .globalImplicit := by rfl) (hgu : sc.names.lookup u.py = some .globalImplicit := by rfl)
    (hv : bootBuiltins t.py = some (.type t.name) := by decide +kernel) (hv2 : bootBuiltins u.py = some (.type u.name) := by decide +kernel) (he : ∀ env es, starEach (e :: es) env = (false, eval e env) :: starEach es env := by intro _ _; rfl) : EX T (.Call (.Name "isinstance" p) [e, .Tuple [.Name t.py p1, .Name u.py p2] kt p3] [] pos) Γ M Φ Ψ := by
  refine EX.mk (t := tCB (rIsiT T.K) (tCons (teOf T e) (tCons (tTup (tCons (tC (.ty t.name)) (tCons (tC (.ty u.name)) tNil))) tNil))) (fun i => ?_) ?_
  · exact pe_callB (by rw [← hF.hK i]; exact call_isiT) (by show (T.X i).env.scope.names.lookup _ = _; rw [hF.hs]; exact hg) (by rw [hF.hmg]; exact hm) (by decide +kernel) (pa_cons (pe_te i) (pa_cons (pe_tup (pa_cons (pe_bt hF i t hmt hv hgt) (pa_cons (pe_bt hF i u hmu hv2 hgu) pa_nil))) pa_nil) (he _ _)) (by decide) (by decide) (he _ _) (by rfl)
  · intro F H σ Q ok sl hk x
    refine h F H σ _ ok sl (fun F1 H1 M1 d v e1 ok1 r z => ?_) x
    obtain ⟨q, ds, rfl, hq, z⟩ := z
    cases r
    refine ⟨(size_small (n := 2)), fun tp htp => ?_⟩
    have e2 : Same F1 (upd F1 tp (.tup [.ty t.name, .ty u.name])) := same_upd (ok1.freshF htp)
    have ok2 := ok1.new (o := .tup [.ty t.name, .ty u.name]) htp
    obtain ⟨_, vs, hp, _⟩ := ok2.mu _ _ hq
    exact ⟨.ref q, tp, _, .type (Bt.name .lst), _, _, rfl, upd_same, .cons (.ty _) (.cons (.ty _) .nil), .base (.lst hp), kitAny2 .lst t u, hk _ _ M1 (.bl _) _ (e1.trans e2) ok2 rfl z⟩
theorem ex_isi3 (hF : Fc T k P w K mg base N sc) (t u z : Bt) {kt : Nat} (hm : mg "isinstance" = none) (hmt : mg t.py = none) (hmu : mg u.py = none) (hmz : mg z.py = none) (h : EX T e Γ M (fun d M1 => ∃ s, tyD d = some s ∧ Φ (.bl (isB s t || (isB s u || isB s z))) M1) Ψ) (hg : sc.names.lookup ("isinstance" : Str) = some .globalImplicit := by rfl) (hgt : sc.names.lookup t.py = some .globalImplicit := by rfl) (hgu : sc.names.lookup u.py = some .globalImplicit := by rfl) (hgz : sc.names.lookup z.py = some .globalImplicit := by rfl)
    (hv : bootBuiltins t.py = some (.type t.name) := by decide +kernel) (hv2 : bootBuiltins u.py = some (.type u.name) := by decide +kernel) (hv3 : bootBuiltins z.py = some (.type z.name) := by decide +kernel) (he : ∀ env es, starEach (e :: es) env = (false, eval e env) :: starEach es env := by intro _ _; rfl) : EX T (.Call (.Name "isinstance" p) [e, .Tuple [.Name t.py p1, .Name u.py p2, .Name z.py p4] kt p3] [] pos) Γ M Φ Ψ := by
  refine EX.mk (t := tCB (rIsiT T.K) (tCons (teOf T e) (tCons (tTup (tCons (tC (.ty t.name)) (tCons (tC (.ty u.name)) (tCons (tC (.ty z.name)) tNil)))) tNil))) (fun i => ?_) ?_
  · exact pe_callB (by rw [← hF.hK i]; exact call_isiT) (by show (T.X i).env.scope.names.lookup _ = _; rw [hF.hs]; exact hg) (by rw [hF.hmg]; exact hm) (by decide +kernel) (pa_cons (pe_te i) (pa_cons (pe_tup (pa_cons (pe_bt hF i t hmt hv hgt) (pa_cons (pe_bt hF i u hmu hv2 hgu) (pa_cons (pe_bt hF i z hmz hv3 hgz) pa_nil)))) pa_nil) (he _ _)) (by decide) (by decide) (he _ _) (by rfl)
  · intro F H σ Q ok sl hk x
    refine h F H σ _ ok sl (fun F1 H1 M1 d v e1 ok1 r ⟨s, hs, q⟩ => ?_) x
    refine ⟨(size_small (n := 3)), fun tp htp => ?_⟩
    have e2 : Same F1 (upd F1 tp (.tup [.ty t.name, .ty u.name, .ty z.name])) := same_upd (ok1.freshF htp)
    have ok2 := ok1.new (o := .tup [.ty t.name, .ty u.name, .ty z.name]) htp
    exact ⟨v, tp, _, .type s.name, _, _, rfl, upd_same, .cons (.ty _) (.cons (.ty _) (.cons (.ty _) .nil)), tyX_of ok2 (r.mono e2) hs, kitAny3 s t u z, hk _ _ M1 (.bl _) _ (e1.trans e2) ok2 rfl q⟩
/-! ### all, any of a list of truths -/
theorem reps_bls {K : PySem.W.Frag} {F : Hp} : ∀ {bs : List Bool} {vs : List V}, Reps K F (bs.map D.bl) vs → vs = bs.map V.bl
  | [], _, h => h
  | _ :: _, _, ⟨v, r, h1, h2, h3⟩ => by
    have h2 : v = _ := h2
    rw [h1, h2, reps_bls h3]; rfl
theorem ex_all (hF : Fc T k P w K mg base N sc) (hm : mg "all" = none) (h : EX T e Γ M (fun d M1 => ∃ bs : List Bool, d = .lst (bs.map D.bl) ∧ Φ (.bl (bs.all id)) M1) Ψ) (hg : sc.names.lookup ("all" : Str) = some .globalImplicit := by rfl)
    (he : ∀ env, starEach [e] env = (false, eval e env) :: starEach [] env := by intro _; rfl) (hh : T.hot = false := by assumption) : EX T (.Call (.Name "all" p) [e] [] pos) Γ M Φ Ψ := by
  refine ex_bltG hF (R := fun M Φ xs => ∃ bs : List Bool, xs = [.lst (bs.map D.bl)] ∧ Φ (.bl (bs.all id)) M) (r := rAll T.K) (fun i => by rw [← hF.hK i]; exact cr_all (hF.calm hh i)) hm (by decide +kernel) (fun xs M Φ q => ?_) (ax_cons (EX.imp h (fun d M1 ⟨bs, hd, q⟩ => ax_nil ⟨bs, by rw [hd], q⟩) fun _ _ _ _ z => z) he) hg (he := he)
  intro F H vs Q ok rs hk
  obtain ⟨bs, rfl, q⟩ := q
  obtain ⟨v, rfl, r⟩ := reps1 rs
  obtain ⟨a, us, rfl, h1, h2⟩ := r
  refine ⟨a, bs, rfl, ?_, hk F H M (.bl _) _ (Same.refl _) ok rfl q⟩
  rw [← reps_bls h2]
  exact .inl (.inl (ok.ex _ _ h1))
/-! ### slices -/
def cutL {α : Type} (xs : List α) (lo hi : Option Int) : List α := (xs.drop (HT.sIx xs.length 0 lo)).take (HT.sIx xs.length xs.length hi - HT.sIx xs.length 0 lo)
def slP (M : Ms) (Φ : PD) (lo hi : Option Int) : D → Prop
  | .lst ds => Φ (.lst (cutL ds lo hi)) M
  | .rol ds => Φ (.lst (cutL ds lo hi)) M
  | .ref p => ∃ ds, M p = some (.lst ds) ∧ Φ (.lst (cutL ds lo hi)) M
  | .str z => z.length ≤ sizeLine ∧ Φ (.str (cutS z lo hi)) M
  | _ => False
def toOf (T : Fm ι) (e : Option Expr) : TO := fun σ H Q => ∀ i pins s, Inv (T.X i) pins σ H s →
    wpAny (model (T.X i).prog (T.X i).w) (T.X i).A (evalPart e (T.X i).env) (fun u s' => ∃ o H', Inv (T.X i) pins σ H' s' ∧ IsPart u o ∧ Q o H') (T.X i).xe s
theorem po_to {e : Option Expr} (i : ι) : PO (T.X i) e (toOf T e) := ⟨fun pins s _ _ _ I h => h i pins s I⟩
/-- a slice's part -/
def OX (T : Fm ι) (e : Option Expr) (Γ : Gm) (M : Ms) (Φ : Option Int → Ms → Prop) (Ψ : PX) : Prop := ∀ F H σ Q, Ok T.K F H M → Sl T.K F σ Γ → (∀ F' H' M' o, Same F F' → Ok T.K F' H' M' → Φ o M' → Q o H') → KX T.K F Ψ (fun c d H => T.w c d σ H) → toOf T e σ H Q
theorem ox_none {Φ : Option Int → Ms → Prop} (h : Φ none M) : OX T none Γ M Φ Ψ := fun F H σ Q ok sl hk x i pins s I => (po_none).run pins s σ H Q I (hk F H M none (Same.refl _) ok h)
theorem ox_some {Φ : Option Int → Ms → Prop} (h : EX T e Γ M (fun d M1 => ∃ j, d = .int j ∧ Φ (some j) M1) Ψ) : OX T (some e) Γ M Φ Ψ := fun F H σ Q ok sl hk x i pins s I =>
  (po_some (pe_te i)).run pins s σ H Q I (h F H σ _ ok sl (fun F1 H1 M1 d v e1 ok1 r ⟨j, hd, q⟩ => by
    subst hd
    exact ⟨j, r, hk F1 H1 M1 (some j) e1 ok1 q⟩) x)
theorem ex_slice (hF : Fc T k P w K mg base N sc) {lo hi : Option Expr} (h : EX T e Γ M (fun d M1 => OX T lo Γ M1 (fun l M2 => OX T hi Γ M2 (fun u M3 => slP M3 Φ l u d) Ψ) Ψ) Ψ) : EX T (.Subscript e (.Slice lo hi none p2) pos) Γ M Φ Ψ := by
  refine EX.mk (t := tSl (fun x lo hi H Q => rSlL T.K x lo hi H Q ∨ rSlS x lo hi H Q) (teOf T e) (toOf T lo) (toOf T hi)) (fun i => pe_slice (SlR.or (by rw [← hF.hK i]; exact sl_list) sl_str) (pe_te i) (po_to i) (po_to i)) ?_
  intro F H σ Q ok sl hk x
  refine h F H σ _ ok sl (fun F1 H1 M1 d v e1 ok1 r q => ?_) x
  refine q F1 H1 σ _ ok1 (sl.mono e1) (fun F2 H2 M2 l e2 ok2 q => ?_) (x.mono e1)
  refine q F2 H2 σ _ ok2 (sl.mono (e1.trans e2)) (fun F3 H3 M3 u e3 ok3 q => ?_) (x.mono (e1.trans e2))
  have r := r.mono (e2.trans e3)
  have hk := hk.mono (e1.trans (e2.trans e3))
  have fin : ∀ (a : Addr) (vs : List V) (ds : List D), SqL T.K H3 a vs → Reps T.K F3 ds vs → Φ (.lst (cutL ds l u)) M3 → rSlL T.K (.ref a) l u H3 Q := fun a vs ds hs rs z => by
    refine ⟨a, vs, rfl, hs, fun t ht => ?_⟩
    have e4 : Same F3 (upd F3 t (.lst (cutV vs l u))) := same_upd (ok3.freshF ht)
    refine hk _ _ M3 (.lst (cutL ds l u)) _ e4 (ok3.new ht) ⟨t, _, rfl, upd_same, Reps.mono e4 ?_⟩ z
    unfold cutV cutL
    rw [rs.length]
    exact (rs.drop _).take _
  cases d with
  | lst ds => obtain ⟨a, vs, rfl, h1, h2⟩ := r; exact .inl (fin a vs ds (.inl (.inl (ok3.ex _ _ h1))) h2 q)
  | rol ds => obtain ⟨a, vs, rfl, h1, h2⟩ := r; exact .inl (fin a vs ds (ok3.ex.seq h1) h2 q)
  | ref p => cases r; obtain ⟨ds, hm, q⟩ := q; obtain ⟨_, vs, h1, h2⟩ := ok3.mu _ _ hm; exact .inl (fin _ vs ds (.inl (.inl h1)) h2 q)
  | str z => cases r; exact .inr ⟨z, rfl, q.1, hk F3 H3 M3 (.str _) _ (Same.refl _) ok3 rfl q.2⟩
  | _ => exact False.elim q
/-! ### in -/
def flatD : D → Option V
  | .non => some .non | .bl b => some (.bl b) | .int i => some (.int i) | .str x => some (.str x)
  | _ => none
def flatDs : List D → Option (List V)
  | [] => some []
  | d :: ds => (flatD d).bind fun v => (flatDs ds).map fun vs => v :: vs
theorem flatD_rep {K : PySem.W.Frag} {F : Hp} {d : D} {v u : V} (r : Rep K F d v) (h : flatD d = some u) : v = u ∧ flatV u = true := by
  cases d <;> first | (cases h; cases r; exact ⟨rfl, rfl⟩) | cases h
theorem flatDs_rep {K : PySem.W.Frag} {F : Hp} : ∀ {ds : List D} {vs us : List V}, Reps K F ds vs → flatDs ds = some us → vs = us ∧ us.all flatV = true
  | [], _, _, r, h => by cases h; exact ⟨r, rfl⟩
  | d :: ds, _, _, ⟨v, r, h1, h2, h3⟩, h => by
    obtain ⟨u, hu, h⟩ := Option.bind_eq_some_iff.mp (show (flatD d).bind (fun v => (flatDs ds).map fun vs => v :: vs) = some _ from h)
    obtain ⟨us, hus, rfl⟩ := Option.map_eq_some_iff.mp h
    obtain ⟨e1, f1⟩ := flatD_rep h2 hu
    obtain ⟨e2, f2⟩ := flatDs_rep h3 hus
    exact ⟨by rw [h1, e1, e2], by rw [List.all_cons, f1, f2]; rfl⟩
/-- x in y: y a list or a tuple of flat data, or a text (x one sign) -/
def inP (neg : Bool) (M : Ms) (Φ : PD) (x y : D) : Prop :=
  (∃ ds u us, seqM M y = some ds ∧ flatD x = some u ∧ flatDs ds = some us ∧ Φ (.bl (if neg then !inV u us else inV u us)) M) ∨
  (∃ c z, x = .str ⟨#[c]⟩ ∧ y = .str z ∧ Φ (.bl (if neg then !decide (c ∈ z.cps.toList) else decide (c ∈ z.cps.toList))) M)
def rIn2 (K : PySem.W.Frag) (neg : Bool) : R2 := fun x y H Q => rIn K neg x y H Q ∨ ∃ (c : Nat) (z : Str), x = .str ⟨#[c]⟩ ∧ y = .str z ∧ Q (.bl (if neg then !decide (c ∈ z.cps.toList) else decide (c ∈ z.cps.toList))) H
theorem gr_in {neg : Bool} {x y : D} (q : inP neg M Φ x y) : GR T (rIn2 T.K neg) x y M Φ := by
  intro F H vx vy Q ok rx ry hk
  rcases q with ⟨ds, u, us, h1, h2, h3, q⟩ | ⟨c, z, rfl, rfl, q⟩
  · obtain ⟨a, vs, rfl, h4, h5⟩ := seqM_read ok ry h1
    obtain ⟨rfl, f1⟩ := flatD_rep rx h2
    obtain ⟨rfl, f2⟩ := flatDs_rep h5 h3
    exact .inl ⟨a, vs, rfl, h4, f1, f2, hk F H M (.bl _) _ (Same.refl _) ok rfl q⟩
  · cases rx; cases ry
    exact .inr ⟨c, z, rfl, rfl, hk F H M (.bl _) _ (Same.refl _) ok rfl q⟩
theorem op_in2 {X : Cx} : OpR X (compareOp .In) (rIn2 X.K false) := opr_or op_in_seq op_in_sign
theorem op_notIn2 {X : Cx} : OpR X (compareOp .NotIn) (rIn2 X.K true) := opr_or op_notIn_seq op_notIn_sign
theorem ex_in (hF : Fc T k P w K mg base N sc) (h : EX T a Γ M (fun x M1 => EX T b Γ M1 (fun y M2 => inP false M2 Φ x y) Ψ) Ψ) (hm : behindInMarks .In b = false := by rfl) : EX T (.Compare a [.In] [b] pos) Γ M Φ Ψ := ex_cmpG (R := inP false) (fun i => by rw [← hF.hK i]; exact op_in2) hm (fun _ _ _ _ q => gr_in q) h
theorem ex_notIn (hF : Fc T k P w K mg base N sc) (h : EX T a Γ M (fun x M1 => EX T b Γ M1 (fun y M2 => inP true M2 Φ x y) Ψ) Ψ) (hm : behindInMarks .NotIn b = false := by rfl) : EX T (.Compare a [.NotIn] [b] pos) Γ M Φ Ψ := ex_cmpG (R := inP true) (fun i => by rw [← hF.hK i]; exact op_notIn2) hm (fun _ _ _ _ q => gr_in q) h
theorem tx_in (hF : Fc T k P w K mg base N sc) {Φ : Bool → Ms → Prop} (h : EX T a Γ M (fun x M1 => EX T b Γ M1 (fun y M2 => inP false M2 (fun d M => ∃ c, d = .bl c ∧ Φ c M) x y) Ψ) Ψ) (hm : behindInMarks .In b = false := by rfl) : TX T (.Compare a [.In] [b] pos) Γ M Φ Ψ := tx_cmpG (R := inP false) (fun i => by rw [← hF.hK i]; exact op_in2) hm (fun _ _ _ _ q => gr_in q) h
theorem tx_notIn (hF : Fc T k P w K mg base N sc) {Φ : Bool → Ms → Prop} (h : EX T a Γ M (fun x M1 => EX T b Γ M1 (fun y M2 => inP true M2 (fun d M => ∃ c, d = .bl c ∧ Φ c M) x y) Ψ) Ψ) (hm : behindInMarks .NotIn b = false := by rfl) : TX T (.Compare a [.NotIn] [b] pos) Γ M Φ Ψ := tx_cmpG (R := inP true) (fun i => by rw [← hF.hK i]; exact op_notIn2) hm (fun _ _ _ _ q => gr_in q) h
/-! ### a <= b <= c of ints -/
theorem ge_chain {f g : Int → Int → Bool} {ta tb tc : TE} (h : GE T ta Γ M (fun x M1 => GE T tb Γ M1 (fun y M2 => ∃ i j, x = .int i ∧ y = .int j ∧ (f i j = false → Φ (.bl false) M2) ∧ (f i j = true → GE T tc Γ M2 (fun z M3 => ∃ l, z = .int l ∧ Φ (.bl (g j l)) M3) Ψ)) Ψ) Ψ) :
    GE T (tChain (rI0 fun i j => .bl (f i j)) (rI0 fun i j => .bl (g i j)) ta tb tc) Γ M Φ Ψ := by
  intro F H σ Q ok sl hk x
  refine h F H σ _ ok sl (fun F1 H1 M1 d v e1 ok1 r q => ?_) x
  refine q F1 H1 σ _ ok1 (sl.mono e1) (fun F2 H2 M2 d2 v2 e2 ok2 r2 q => ?_) (x.mono e1)
  obtain ⟨i, j, rfl, rfl, q1, q2⟩ := q
  cases r; cases r2
  refine ⟨i, j, rfl, rfl, f i j, rfl, ?_⟩
  cases hf : f i j with
  | true =>
    rw [if_pos rfl]
    refine q2 hf F2 H2 σ _ ok2 (sl.mono (e1.trans e2)) (fun F3 H3 M3 d3 v3 e3 ok3 r3 ⟨l, hl, q⟩ => ?_) (x.mono (e1.trans e2))
    subst hl
    cases r3
    exact ⟨j, l, rfl, rfl, hk F3 H3 M3 (.bl _) _ (e1.trans (e2.trans e3)) ok3 rfl q⟩
  | false =>
    rw [if_neg Bool.false_ne_true]
    exact hk F2 H2 M2 (.bl _) _ (e1.trans e2) ok2 rfl (q1 hf)
theorem ex_chLe (h : EX T a Γ M (fun x M1 => EX T b Γ M1 (fun y M2 => ∃ i j, x = .int i ∧ y = .int j ∧ (decide (i ≤ j) = false → Φ (.bl false) M2) ∧ (decide (i ≤ j) = true → EX T c Γ M2 (fun z M3 => ∃ l, z = .int l ∧ Φ (.bl (decide (j ≤ l))) M3) Ψ)) Ψ) Ψ)
    (hm : lastMarks [.LtE, .LtE] [b, c] = false := by rfl) : EX T (.Compare a [.LtE, .LtE] [b, c] pos) Γ M Φ Ψ := EX.mk (fun i => pe_chain op_le op_le (pe_te i) (pe_te i) (pe_te i) hm) (ge_chain (f := fun i j => decide (i ≤ j)) (g := fun i j => decide (i ≤ j)) h)
theorem tx_chLe {Φ : Bool → Ms → Prop} (h : EX T a Γ M (fun x M1 => EX T b Γ M1 (fun y M2 => ∃ i j, x = .int i ∧ y = .int j ∧ (decide (i ≤ j) = false → Φ false M2) ∧ (decide (i ≤ j) = true → EX T c Γ M2 (fun z M3 => ∃ l, z = .int l ∧ Φ (decide (j ≤ l)) M3) Ψ)) Ψ) Ψ)
    (hm : lastMarks [.LtE, .LtE] [b, c] = false := by rfl) : TX T (.Compare a [.LtE, .LtE] [b, c] pos) Γ M Φ Ψ := by
  refine TX.mk (fun i => pt_chain op_le op_le (pe_te i) (pe_te i) (pe_te i) hm) (gt_test (ge_chain (f := fun i j => decide (i ≤ j)) (g := fun i j => decide (i ≤ j)) ?_))
  refine EX.imp h (fun x M1 q => EX.imp q (fun y M2 ⟨i, j, h1, h2, h3, h4⟩ => ⟨i, j, h1, h2, fun z => ⟨_, rfl, h3 z⟩, fun z => EX.imp (h4 z) (fun d M3 ⟨l, hl, q⟩ => ⟨l, hl, _, rfl, q⟩) fun _ _ _ _ z => z⟩) fun _ _ _ _ z => z) fun _ _ _ _ z => z
/-! ### texts -/
theorem reps_strs {K : PySem.W.Frag} {F : Hp} : ∀ {xs : List Str} {vs : List V}, Reps K F (xs.map D.str) vs → vs = xs.map V.str
  | [], _, h => h
  | _ :: _, _, ⟨v, r, h1, h2, h3⟩ => by
    have h2 : v = _ := h2
    rw [h1, h2, reps_strs h3]; rfl
theorem reps_of_strs {K : PySem.W.Frag} {F : Hp} : ∀ (xs : List Str), Reps K F (xs.map D.str) (xs.map V.str)
  | [] => rfl
  | x :: xs => ⟨.str x, xs.map V.str, rfl, rfl, reps_of_strs xs⟩
theorem ge_m1 {r : V → List V → Hp → VK → Prop} {to te : TE} (h : GE T to Γ M (fun x M1 => ∃ s, x = .str s ∧ GE T te Γ M1 (fun y M2 => ∀ F H v Q, Ok T.K F H M2 → Rep T.K F y v → KE T.K F Φ Q → r (.str s) [v] H Q) Ψ) Ψ) : GE T (tM1 r to te) Γ M Φ Ψ := by
  intro F H σ Q ok sl hk x
  refine h F H σ _ ok sl (fun F1 H1 M1 d v e1 ok1 r ⟨s, hs, q⟩ => ?_) x
  subst hs
  cases r
  refine ⟨⟨s, rfl⟩, ?_⟩
  exact q F1 H1 σ _ ok1 (sl.mono e1) (fun F2 H2 M2 d2 v2 e2 ok2 r2 q => q F2 H2 v2 Q ok2 r2 (hk.mono (e1.trans e2))) (x.mono e1)
theorem ex_split {apos : Pos} (h : EX T a Γ M (fun x M1 => ∃ s, x = .str s ∧ EX T b Γ M1 (fun y M2 => ∃ t, y = .str t ∧ (t.length == 0) = false ∧ s.length + 2 ≤ sizeLine ∧ Φ (.lst ((Txt.split s t).map D.str)) M2) Ψ) Ψ)
    (hs : ∀ env, starEach [b] env = [(false, eval b env)] := by intro _; rfl) (hbase : ∀ env, attributeBase a "split" env (eval a env) = eval a env := by intro _; rfl) (hline : (apos.endLine == pos.line) = true := by rfl) : EX T (.Call (.Attribute a "split" apos) [b] [] pos) Γ M Φ Ψ := by
  refine EX.mk (fun i => pe_split (pe_te i) (pe_te i) (hs _) (hbase _) hline) (ge_m1 (EX.imp h (fun x M1 ⟨s, hx, q⟩ => ⟨s, hx, EX.imp q (fun y M2 ⟨t, hy, h1, h2, q⟩ => ?_) fun _ _ _ _ z => z⟩) fun _ _ _ _ z => z))
  intro F H v Q ok r hk
  subst hy
  cases r
  refine ⟨s, t, rfl, rfl, h1, h2, fun p hp => ?_⟩
  have e2 : Same F (upd F p (.lst ((Txt.split s t).map V.str))) := same_upd (ok.freshF hp)
  exact hk _ _ M2 (.lst _) _ e2 (ok.new hp) ⟨p, _, rfl, upd_same, reps_of_strs _⟩ q
theorem ex_starts {apos : Pos} (h : EX T a Γ M (fun x M1 => ∃ s, x = .str s ∧ EX T b Γ M1 (fun y M2 => ∃ t, y = .str t ∧ Φ (.bl (Txt.startswith s t)) M2) Ψ) Ψ)
    (hs : ∀ env, starEach [b] env = [(false, eval b env)] := by intro _; rfl) (hbase : ∀ env, attributeBase a "startswith" env (eval a env) = eval a env := by intro _; rfl) (hline : (apos.endLine == pos.line) = true := by rfl) : EX T (.Call (.Attribute a "startswith" apos) [b] [] pos) Γ M Φ Ψ := by
  refine EX.mk (fun i => pe_m1 F.slot_str_startswith F.type_str_startswith mt_startswith (pe_te i) (pe_te i) (hs _) (hbase _) hline) (ge_m1 (EX.imp h (fun x M1 ⟨s, hx, q⟩ => ⟨s, hx, EX.imp q (fun y M2 ⟨t, hy, q⟩ => ?_) fun _ _ _ _ z => z⟩) fun _ _ _ _ z => z))
  intro F H v Q ok r hk
  subst hy
  cases r
  exact ⟨s, t, rfl, rfl, hk F H M2 (.bl _) _ (Same.refl _) ok rfl q⟩
theorem ex_join (hF : Fc T k P w K mg base N sc) {apos : Pos} (h : EX T a Γ M (fun x M1 => ∃ s, x = .str s ∧ EX T b Γ M1 (fun y M2 => ∃ ys : List Str, y = .lst (ys.map D.str) ∧ (ys.map (·.length)).sum + ys.length * s.length ≤ 16777216 ∧ Φ (.str (Txt.join s ys)) M2) Ψ) Ψ)
    (hs : ∀ env, starEach [b] env = [(false, eval b env)] := by intro _; rfl) (hbase : ∀ env, attributeBase a "join" env (eval a env) = eval a env := by intro _; rfl) (hline : (apos.endLine == pos.line) = true := by rfl) : EX T (.Call (.Attribute a "join" apos) [b] [] pos) Γ M Φ Ψ := by
  refine EX.mk (t := tM1 (fun x xs H Q => ∃ a p, ∃ ys : List Str, x = .str a ∧ xs = [.ref p] ∧ (SqL T.K H p (ys.map V.str) ∨ SqT T.K H p (ys.map V.str)) ∧ (ys.map (·.length)).sum + ys.length * a.length ≤ 16777216 ∧ Q (.str (Txt.join a ys)) H) (teOf T a) (teOf T b)) (fun i => by rw [← hF.hK i]; exact pe_join (pe_te i) (pe_te i) (hs _) (hbase _) hline) (ge_m1 (EX.imp h (fun x M1 ⟨s, hx, q⟩ => ⟨s, hx, EX.imp q (fun y M2 ⟨ys, hy, h1, q⟩ => ?_) fun _ _ _ _ z => z⟩) fun _ _ _ _ z => z))
  intro F H v Q ok r hk
  subst hy
  obtain ⟨p, vs, rfl, h2, h3⟩ := r
  refine ⟨s, p, ys, rfl, rfl, .inl (.inl (.inl ?_)), h1, hk F H M2 (.str _) _ (Same.refl _) ok rfl q⟩
  rw [← reps_strs h3]
  exact ok.ex _ _ h2
/-- a part of an f-string: a text or an int -/
def fmtP (M : Ms) (Φ : PD) : D → Prop
  | .str y => y.length ≤ sizeLine ∧ Φ (.str y) M
  | .int i => i.natAbs.log2 < 1920 ∧ Φ (.str (toString i)) M
  | _ => False
theorem ex_fmt (h : EX T e Γ M (fun d M1 => fmtP M1 Φ d) Ψ) : EX T (.FormattedValue e (-1) none pos) Γ M Φ Ψ := by
  refine EX.mk (fun i => pe_fmt (pe_te i)) ?_
  intro F H σ Q ok sl hk x
  refine h F H σ _ ok sl (fun F1 H1 M1 d v e1 ok1 r q => ?_) x
  cases d with
  | str y => cases r; exact .inl ⟨y, rfl, q.1, hk F1 H1 M1 (.str _) _ e1 ok1 rfl q.2⟩
  | int y => cases r; exact .inr ⟨y, rfl, q.1, hk F1 H1 M1 (.str _) _ e1 ok1 rfl q.2⟩
  | _ => exact False.elim q
/-- the parts of an f-string, joined to acc -/
def JX (T : Fm ι) : List Expr → Str → Gm → Ms → PD → PX → Prop
  | [], acc, Γ, M, Φ, Ψ => Φ (.str acc) M
  | e :: es, acc, Γ, M, Φ, Ψ => EX T e Γ M (fun d M1 => ∃ y, d = .str y ∧ (acc ++ y).length ≤ sizeLine ∧ JX T es (acc ++ y) Γ M1 Φ Ψ) Ψ
theorem pj_te (i : ι) : ∀ es : List Expr, PJ (T.X i) es (es.map (teOf T))
  | [] => .nil
  | e :: es => .cons (pe_te i) (pj_te i es)
theorem gj_run : ∀ {es : List Expr} {acc : Str} {Γ : Gm} {M : Ms}, JX T es acc Γ M Φ Ψ → ∀ F H σ Q, Ok T.K F H M → Sl T.K F σ Γ → KE T.K F Φ Q → KX T.K F Ψ (fun c d H => T.w c d σ H) → tJs (es.map (teOf T)) acc σ H fun out H1 => Q (.str out) H1
  | [], acc, Γ, M, h, F, H, σ, Q, ok, sl, hk, x => hk F H M (.str acc) _ (Same.refl _) ok rfl h
  | e :: es, acc, Γ, M, h, F, H, σ, Q, ok, sl, hk, x => by
    refine h F H σ _ ok sl (fun F1 H1 M1 d v e1 ok1 r ⟨y, hd, hl, q⟩ => ?_) x
    subst hd
    exact ⟨y, r, hl, gj_run q F1 H1 σ Q ok1 (sl.mono e1) (hk.mono e1) (x.mono e1)⟩
theorem ex_joined {v1 v2 : Expr} {rest : List Expr} (h : JX T (v1 :: v2 :: rest) Str.empty Γ M Φ Ψ) : EX T (.JoinedStr (v1 :: v2 :: rest) pos) Γ M Φ Ψ :=
  EX.mk (fun i => pe_joined (pj_te i _)) (fun F H σ Q ok sl hk x => gj_run h F H σ Q ok sl hk x)
/-! ### a text walked, sign by sign -/
def signsD (z : Str) : List Da := z.cps.toList.map fun c => .str ⟨#[c]⟩
end
end G
set_option Elab.async false
set_option linter.all false
set_option maxRecDepth 100000
/-! GBlt3: an empty dict, a text times a number, walks over a text and over zip. -/
namespace G
open PySem PySem.Spec PyProof.Rows L2
section
variable {ι : Type} {T : Fm ι} {k : Nat} {P : Program} {w : World} {K : PySem.W.Frag} {mg : Str → Option Value} {base : Heap} {N : List Str} {sc : Scope} {Γ : Gm} {M : Ms} {Φ : PD} {Ψ : PX}
variable {e a b c tg iter : Expr} {es elts : List Expr} {pos p p1 p2 p3 p4 tpos : Pos} {kk : Nat} {Θ : Thi}
/-- {} -/
theorem ex_dict0 (h : Φ (.dic [] []) M) : EX T (.Dict [] [] pos) Γ M Φ Ψ := by
  refine EX.mk (fun i => pe_dnewK) ?_
  intro F H σ Q ok sl q x p hp
  have e2 : Same F (upd F p (.dK [])) := same_upd (ok.freshF hp)
  exact q _ _ M (.dic [] []) _ e2 (ok.new hp) ⟨p, [], rfl, upd_same, rfl, rfl⟩ h
/-- a text, n times -/
def repS (z : Str) (n : Nat) : Str := ⟨(List.replicate n z.cps).foldl (· ++ ·) #[]⟩
theorem repS_tl (z : Str) (n : Nat) : (repS z n).cps.toList = (List.replicate n z.cps.toList).flatten := by
  have : ∀ (k : Nat) (acc : Array Nat), ((List.replicate k z.cps).foldl (· ++ ·) acc).toList = acc.toList ++ (List.replicate k z.cps.toList).flatten := by
    intro k
    induction k with
    | zero => intro acc; simp
    | succ k ih => intro acc; rw [List.replicate_succ, List.foldl_cons, ih, List.replicate_succ]; simp
  unfold repS
  rw [this]; simp
theorem repS_len (z : Str) (n : Nat) : (repS z n).length = n * z.length := by
  have h := congrArg List.length (repS_tl z n)
  simpa [Str.length] using h
theorem op_rep {X : Cx} : OpR X (binaryOp .Mult) (fun x y H Q => ∃ (z : Str) (n : Int), x = .str z ∧ y = .int n ∧ 2 ≤ n ∧ n ≤ 1000 ∧ 1 ≤ z.length ∧ z.length ≤ 1000 ∧ Q (.str (repS z n.toNat)) H) := by
  rintro pins s σ H x y v u Q I rx ry ⟨z, n, rfl, rfl, h1, h2, h3, h4, q⟩
  obtain ⟨t, rfl⟩ := rx
  obtain ⟨t', rfl⟩ := ry
  have hz : (n == 1 || z.length == 0) = false := by
    rw [beq_eq_false_iff_ne.mpr (show n ≠ 1 by omega), beq_eq_false_iff_ne.mpr (show z.length ≠ 0 by omega)]; rfl
  have hlen : z.length * n.toNat ≤ 1000000 := by
    have : n.toNat ≤ 1000 := by omega
    exact Nat.le_trans (Nat.mul_le_mul h4 this) (by decide)
  refine P.mul_str ?_ (fun _ _ => ?_) (fun _ _ => ?_) ?_
  · rw [decide_eq_false (by omega), decide_eq_false (by omega)]; rfl
  · have h5 : (2 ^ 63 - 1 : Int) / n ≥ (2 ^ 63 - 1) / 1000 := by
      have : (2 ^ 63 - 1 : Int) / 1000 * n ≤ 2 ^ 63 - 1 := by
        have : (2 ^ 63 - 1 : Int) / 1000 * n ≤ (2 ^ 63 - 1) / 1000 * 1000 := Int.mul_le_mul_of_nonneg_left h2 (by decide)
        have e : (2 ^ 63 - 1 : Int) / 1000 * 1000 ≤ 2 ^ 63 - 1 := by decide
        omega
      exact (Int.le_ediv_iff_mul_le (by omega)).mpr this
    have h6 : (2 ^ 63 - 1 : Int) / 1000 ≥ 1000 := by decide
    omega
  · unfold Builtin.Str.tooLong
    rw [decide_eq_false]
    rw [sizeLine_eq]; omega
  · rw [if_neg (by omega), if_neg (by rw [hz]; decide)]
    refine ⟨?_, ⟨.str (repS z n.toNat), H, I.tok _, ⟨_, rfl⟩, q⟩⟩
    have := repS_len z n.toNat
    rw [sizeLine_eq]
    show (repS z n.toNat).length ≤ _
    rw [this, Nat.mul_comm]; omega
def mulSP (M : Ms) (Φ : PD) : D → D → Prop
  | .str z, .int n => 2 ≤ n ∧ n ≤ 1000 ∧ 1 ≤ z.length ∧ z.length ≤ 1000 ∧ Φ (.str (repS z n.toNat)) M
  | _, _ => False
theorem ex_mulS (h : EX T a Γ M (fun x M1 => EX T b Γ M1 (fun y M2 => mulSP M2 Φ x y) Ψ) Ψ) : EX T (.BinOp a .Mult b pos) Γ M Φ Ψ := by
  refine ex_opG (R := mulSP) (fun i => op_rep) (fun x y M Φ q => ?_) h
  intro F H vx vy Q ok rx ry hk
  cases x <;> cases y <;> first | exact False.elim q | skip
  cases rx; cases ry
  exact ⟨_, _, rfl, rfl, q.1, q.2.1, q.2.2.1, q.2.2.2.1, hk F H M (.str _) _ (Same.refl F) ok rfl q.2.2.2.2⟩

/-! ### a text walked -/
theorem itd_s {F : Hp} {x : Str} : ItD K (fun _ => True) (Its x) F (signsD x) where
  go := fun i F' H M e ok _ hi => by
    have hi : i < (signsD x).length := hi
    rw [show (signsD x).length = x.cps.size by simp [signsD]] at hi
    exact hi
  stop := fun i F' H M e ok _ hi => by
    rw [show (signsD x).length = x.cps.size by simp [signsD]] at hi
    exact hi
  yld := fun i F' H M v H' e ok _ y => by
    obtain ⟨rfl, c, h1, rfl⟩ := y
    refine ⟨F', Same.refl _, ok, fun d hd => ?_⟩
    unfold signsD at hd
    rw [List.getElem?_map, Array.getElem?_toList, h1] at hd
    cases hd
    exact rfl
theorem ix_str (h : EX T iter Γ M (fun d M1 => ∃ x, d = .str x ∧ Θ (signsD x) (fun _ => True) M1) Ψ) : IX T tg iter Γ M Θ Ψ := by
  refine IX.mk (wi := iStr (teOf T iter)) (fun i => pi_str (pe_te i)) ?_
  intro F H σ R ok sl q x
  refine h F H σ _ ok sl (fun F1 H1 M1 d v e1 ok1 r z => ?_) x
  obtain ⟨y, rfl, z⟩ := z
  cases r
  exact ⟨y, rfl, q F1 H1 M1 _ _ _ e1 ok1 itd_s z⟩

/-! ### zip of two lists or two tuples -/
def zipDs (xs ys : List D) : List D := List.zipWith (fun a b => .tup [a, b]) xs ys
theorem zipDs_get {xs ys : List D} {i : Nat} {d : D} (h : (zipDs xs ys)[i]? = some d) : ∃ a b, xs[i]? = some a ∧ ys[i]? = some b ∧ d = .tup [a, b] := by
  unfold zipDs at h
  rw [List.getElem?_zipWith] at h
  cases h1 : xs[i]? with
  | none => rw [h1] at h; cases h
  | some a =>
    cases h2 : ys[i]? with
    | none => rw [h1, h2] at h; cases h
    | some b =>
      rw [h1, h2] at h
      cases h
      exact ⟨a, b, rfl, rfl, rfl⟩
theorem zip_yld {F F' H H' : Hp} {M : Ms} {xs ys : List D} {us vs : List V} {i : Nat} {v : V} {W1 W2 : List V → Prop} (e : Same F F') (ok : Ok K F' H M) (r1 : Reps K F xs us) (r2 : Reps K F ys vs) (h1 : W1 us) (h2 : W2 vs)
    (y : ∃ T x y, v = .ref T ∧ H T = none ∧ H' = upd H T (.tup [x, y]) ∧ (∀ xs, W1 xs → xs[i]? = some x) ∧ ∀ ys, W2 ys → ys[i]? = some y) : ∃ F2, Same F' F2 ∧ Ok K F2 H' M ∧ ∀ d, (zipDs xs ys)[i]? = some d → Rep K F2 d v := by
  obtain ⟨t, x, z, rfl, hT, rfl, g1, g2⟩ := y
  have e2 : Same F' (upd F' t (.tup [x, z])) := same_upd (ok.freshF hT)
  refine ⟨_, e2, ok.new hT, fun d hd => ?_⟩
  obtain ⟨a, b, h3, h4, rfl⟩ := zipDs_get hd
  exact ⟨t, [x, z], rfl, .inl (.inl upd_same), .cons ((reps_ix r1 (g1 _ h1) a h3).mono (e.trans e2)) (Reps.one ((reps_ix r2 (g2 _ h2) b h4).mono (e.trans e2)))⟩
theorem zipDs_len (xs ys : List D) : (zipDs xs ys).length = min xs.length ys.length := by simp [zipDs]
theorem itd_zl {F : Hp} {a b : Addr} {xs ys : List D} {us vs : List V} (h1 : ∀ F' H M, Same F F' → Ok K F' H M → SqL K H a us) (h2 : ∀ F' H M, Same F F' → Ok K F' H M → SqL K H b vs) (r1 : Reps K F xs us) (r2 : Reps K F ys vs) : ItD K (fun _ => True) (Itz K a b) F (zipDs xs ys) where
  go := fun i F' H M e ok _ hi => by
    rw [zipDs_len] at hi
    exact ⟨us, vs, us[i]'(by rw [r1.length]; omega), vs[i]'(by rw [r2.length]; omega), h1 F' H M e ok, h2 F' H M e ok, List.getElem?_eq_getElem _, List.getElem?_eq_getElem _⟩
  stop := fun i F' H M e ok _ hi => by
    rw [zipDs_len] at hi
    exact ⟨us, vs, h1 F' H M e ok, h2 F' H M e ok, by rw [r1.length, r2.length]; omega⟩
  yld := fun i F' H M v H' e ok _ y => zip_yld (W1 := fun q => SqL K H a q) (W2 := fun q => SqL K H b q) e ok r1 r2 (h1 F' H M e ok) (h2 F' H M e ok) y
theorem itd_zt {F : Hp} {a b : Addr} {xs ys : List D} {us vs : List V} (h1 : ∀ F' H M, Same F F' → Ok K F' H M → SqT K H a us) (h2 : ∀ F' H M, Same F F' → Ok K F' H M → SqT K H b vs) (r1 : Reps K F xs us) (r2 : Reps K F ys vs) : ItD K (fun _ => True) (RZ.ItzT K a b) F (zipDs xs ys) where
  go := fun i F' H M e ok _ hi => by
    rw [zipDs_len] at hi
    exact ⟨us, vs, us[i]'(by rw [r1.length]; omega), vs[i]'(by rw [r2.length]; omega), h1 F' H M e ok, h2 F' H M e ok, List.getElem?_eq_getElem _, List.getElem?_eq_getElem _⟩
  stop := fun i F' H M e ok _ hi => by
    rw [zipDs_len] at hi
    exact ⟨us, vs, h1 F' H M e ok, h2 F' H M e ok, by rw [r1.length, r2.length]; omega⟩
  yld := fun i F' H M v H' e ok _ y => zip_yld (W1 := fun q => SqT K H a q) (W2 := fun q => SqT K H b q) e ok r1 r2 (h1 F' H M e ok) (h2 F' H M e ok) y
/-- a list's items -/
def lstD : D → Option (List D)
  | .lst ds => some ds
  | .rol ds => some ds
  | _ => none
theorem lstD_of {F : Hp} {d : D} {ds : List D} {v : V} (h : lstD d = some ds) (r : Rep K F d v) : ∃ a vs, v = .ref a ∧ (∀ F' H M, Same F F' → Ok K F' H M → SqL K H a vs) ∧ Reps K F ds vs := by
  cases d <;> first | exact nomatch (show (none : Option (List D)) = some ds from h) | skip
  · cases h
    obtain ⟨a, vs, rfl, h1, r⟩ := r
    exact ⟨a, vs, rfl, fun F' H M e ok => .inl (.inl (ok.ex _ _ (e _ _ h1))), r⟩
  · cases h
    obtain ⟨a, vs, rfl, h1, r⟩ := r
    exact ⟨a, vs, rfl, fun F' H M e ok => ok.ex.seq (e.seq h1), r⟩
def zipP (Θ : Thi) (M : Ms) (x y : D) : Prop := (∃ xs ys, lstD x = some xs ∧ lstD y = some ys ∧ Θ (zipDs xs ys) (fun _ => True) M) ∨ ∃ xs ys, x = .tup xs ∧ y = .tup ys ∧ Θ (zipDs xs ys) (fun _ => True) M
theorem ix_zip (hF : Fc T k P w K mg base N sc) (hm : mg "zip" = none) (h : AX T [a, b] Γ M (fun ds M1 => ∃ x y, ds = [x, y] ∧ zipP Θ M1 x y) Ψ) (hg : sc.names.lookup ("zip" : Str) = some .globalImplicit := by rfl)
    (hs : ∀ env, starEach [a, b] env = (false, eval a env) :: starEach [b] env := by intro _; rfl) (hpl : ∀ env, (backTo pos (starEach [b] env)).any (·.1) = false := by intro _; rfl) : IX T (.Tuple elts kk tpos) (.Call (.Name "zip" p) [a, b] [] pos) Γ M Θ Ψ := by
  refine IX.mk (wi := RZ.iZipA T.K (taOf T [a, b])) (fun i => by rw [← hF.hK i]; exact RZ.pi_zipA (by show (T.X i).env.scope.names.lookup _ = _; rw [hF.hs]; exact hg) (by rw [hF.hmg]; exact hm) (pa_ta i) (hs _) (hpl _)) ?_
  intro F H σ R ok sl q x
  refine h F H σ _ ok sl (fun F1 H1 M1 ds vs e1 ok1 r z => ?_) x
  obtain ⟨x, y, rfl, z⟩ := z
  obtain ⟨vx, vr, rfl, rx, vy, vr2, rfl, ry, hv⟩ := r
  have hv : vr2 = [] := hv
  subst hv
  rcases z with ⟨xs, ys, hx, hy, z⟩ | ⟨xs, ys, rfl, rfl, z⟩
  · obtain ⟨p1, us, rfl, g1, r1⟩ := lstD_of hx rx
    obtain ⟨p2, ws, rfl, g2, r2⟩ := lstD_of hy ry
    exact ⟨p1, p2, us, ws, rfl, .inl ⟨g1 F1 H1 M1 (Same.refl _) ok1, g2 F1 H1 M1 (Same.refl _) ok1, q F1 H1 M1 _ _ _ e1 ok1 (itd_zl g1 g2 r1 r2) z⟩⟩
  · obtain ⟨p1, us, rfl, g1, r1⟩ := rx
    obtain ⟨p2, ws, rfl, g2, r2⟩ := ry
    have g1' : ∀ F' H M, Same F1 F' → Ok T.K F' H M → SqT T.K H p1 us := fun F' H M e ok => same_t ok.ex (same_t e g1)
    have g2' : ∀ F' H M, Same F1 F' → Ok T.K F' H M → SqT T.K H p2 ws := fun F' H M e ok => same_t ok.ex (same_t e g2)
    exact ⟨p1, p2, us, ws, rfl, .inr ⟨g1' F1 H1 M1 (Same.refl _) ok1, g2' F1 H1 M1 (Same.refl _) ok1, q F1 H1 M1 _ _ _ e1 ok1 (itd_zt g1' g2' r1 r2) z⟩⟩
end
end G
set_option Elab.async false
set_option linter.all false
set_option maxRecDepth 100000
/-! GObj: instances of the program's own classes on data: fields, makes, methods, properties, staticmethods, own ==, isinstance. -/
namespace G
open PySem PySem.Spec PyProof.Rows L2

/-! ### fields -/
def lkD (ns : List Str) (ds : List D) (f : Str) : Option D := (ns.zip ds).lookup f
theorem reps_lk {K : PySem.W.Frag} {F : Hp} {f : Str} {d : D} : ∀ {ns : List Str} {ds : List D} {vs : List V}, Reps K F ds vs → lkD ns ds f = some d → ∃ v, (ns.zip vs).lookup f = some v ∧ Rep K F d v
  | [], _, _, _, h => by cases h
  | _ :: _, [], _, _, h => by cases h
  | n :: ns, x :: ds, _, ⟨v, r, h1, h2, h3⟩, h => by
    subst h1
    have h : List.lookup f ((n, x) :: ns.zip ds) = some d := h
    rw [List.lookup_cons] at h
    show ∃ v', List.lookup f ((n, v) :: ns.zip r) = some v' ∧ _
    rw [List.lookup_cons]
    cases hx : f == n with
    | true => rw [hx] at h; cases h; exact ⟨v, rfl, h2⟩
    | false => rw [hx] at h; exact reps_lk h3 h
theorem lk_none {f : Str} : ∀ {ns : List Str} {vs : List V}, f ∉ ns → (ns.zip vs).lookup f = none
  | [], _, _ => rfl
  | _ :: _, [], _ => rfl
  | n :: ns, v :: vs, h => by
    show List.lookup f ((n, v) :: ns.zip vs) = none
    have hne : (f == n) = false := beq_eq_false_iff_ne.mpr fun e => h (by rw [e]; exact List.mem_cons_self)
    rw [List.lookup_cons, hne]
    exact lk_none fun z => h (List.mem_cons_of_mem _ z)
/-- a field is set: the names, the data -/
def putD (f : Str) (d : D) : List Str → List D → List Str × List D
  | n :: ns, x :: ds => if n = f then (n :: ns, d :: ds) else (n :: (putD f d ns ds).1, x :: (putD f d ns ds).2)
  | _, _ => ([f], [d])
theorem putF_rep {K : PySem.W.Frag} {F : Hp} {f : Str} {d : D} {v : V} (hd : Rep K F d v) : ∀ {ns : List Str} {ds : List D} {vs : List V}, ns.length = ds.length → Reps K F ds vs →
    ∃ us, putF f v (ns.zip vs) = (putD f d ns ds).1.zip us ∧ (putD f d ns ds).1.length = (putD f d ns ds).2.length ∧ Reps K F (putD f d ns ds).2 us
  | [], [], _, _, r => by
    have r : _ = [] := r
    subst r
    exact ⟨[v], rfl, rfl, Reps.one hd⟩
  | n :: ns, x :: ds, _, hl, ⟨u, r, h1, h2, h3⟩ => by
    subst h1
    by_cases e : n = f
    · refine ⟨v :: r, ?_, ?_, ?_⟩
      · show putF f v ((n, u) :: ns.zip r) = _
        unfold putF putD
        rw [if_pos e, if_pos e]; rfl
      · unfold putD; rw [if_pos e]; exact hl
      · unfold putD; rw [if_pos e]; exact .cons hd h3
    · obtain ⟨us, q1, q2, q3⟩ := putF_rep hd (ns := ns) (ds := ds) (by simpa using hl) h3
      refine ⟨u :: us, ?_, ?_, ?_⟩
      · show putF f v ((n, u) :: ns.zip r) = _
        unfold putF putD
        rw [if_neg e, if_neg e, q1]; rfl
      · unfold putD; rw [if_neg e]; simp [q2]
      · unfold putD; rw [if_neg e]; exact .cons h2 q3
  | [], _ :: _, _, hl, _ => by cases hl
  | _ :: _, [], _, hl, _ => by cases hl

/-- the class at C, and names of fields that no class of it has -/
structure OCls (K : PySem.W.Frag) (C : Addr) (fs : List Str) : Prop where
  cls : Cls K C
  na : ∀ f ∈ fs, NoAttr K C f

/-- an instance's data, frozen or not -/
def insP (C : Addr) (M : Ms) (R : List Str → List D → Prop) : D → Prop
  | .ins C' ns ds => C' = C ∧ R ns ds
  | .ref p => ∃ ns ds, M p = some (.ins C ns ds) ∧ R ns ds
  | _ => False
theorem insP_of {K : PySem.W.Frag} {F H : Hp} {M : Ms} {C : Addr} {R : List Str → List D → Prop} {x : D} {v : V} (ok : Ok K F H M) (r : Rep K F x v) (h : insP C M R x) :
    ∃ a dx ns ds vs, v = .ref a ∧ H a = some (.ins C dx (ns.zip vs)) ∧ ns.length = ds.length ∧ Reps K F ds vs ∧ R ns ds := by
  cases x <;> first | exact False.elim h | skip
  · obtain ⟨ns, ds, hm, q⟩ := h
    cases r
    obtain ⟨_, dx, vs, hp, hl, rs⟩ := ok.mu _ _ hm
    exact ⟨_, dx, ns, ds, vs, rfl, hp, hl, rs, q⟩
  · obtain ⟨rfl, q⟩ := h
    obtain ⟨a, dx, vs, rfl, hp, hl, rs⟩ := r
    exact ⟨a, dx, _, _, vs, rfl, ok.ex _ _ hp, hl, rs, q⟩

section
variable {ι : Type} {T : Fm ι} {k : Nat} {P : Program} {w : World} {K : PySem.W.Frag} {mg : Str → Option Value} {base : Heap} {N : List Str} {sc : Scope} {Γ : Gm} {M : Ms} {Φ : PD} {Ψ : PX}
variable {e a b c o : Expr} {es : List Expr} {pos p p1 p2 p3 p4 apos : Pos} {f m : Str} {C : Addr} {fs : List Str}

/-- e.f, a field -/
theorem ex_fld (hF : Fc T k P w K mg base N sc) (oc : OCls K C fs) (h : EX T e Γ M (fun x M1 => insP C M1 (fun ns ds => ∃ d, lkD ns ds f = some d ∧ Φ d M1) x) Ψ) (hf : f ∈ fs := by decide)
    (hb : ∀ env, attributeBase e f env (eval e env) = eval e env := by intro _; rfl) : EX T (.Attribute e f pos) Γ M Φ Ψ := by
  rw [← hF.hT] at oc
  refine EX.mk (t := tFld T.K (teOf T e) f) (fun i => by rw [← hF.hK i]; exact pe_fld (pe_te i) (hb _)) ?_
  intro F H σ Q ok sl q x
  refine h F H σ _ ok sl (fun F1 H1 M1 d v e1 ok1 r z => ?_) x
  obtain ⟨a, dx, ns, ds, vs, rfl, ha, hl, rs, d, hd, z⟩ := insP_of ok1 r z
  obtain ⟨v, hv, rv⟩ := reps_lk rs hd
  exact ⟨a, C, dx, _, v, rfl, ha, oc.cls, oc.na f hf, hv, q F1 H1 M1 d v e1 ok1 rv z⟩
/-- o.f = e, o an instance that may change -/
theorem sx_fld {D : GEnds} {pos' : Pos} (hF : Fc T k P w K mg base N sc) (oc : OCls K C fs)
    (h : EX T e Γ M (fun y M1 => EX T o Γ M1 (fun x M2 => ∃ p ns ds, x = .ref p ∧ M2 p = some (.ins C ns ds) ∧ ns.length < 900 ∧ D.nx Γ (um M2 p (.ins C (putD f y ns ds).1 (putD f y ns ds).2))) (D.ex Γ)) (D.ex Γ)) (hf : f ∈ fs := by decide)
    (hs : ∀ env, swapsWith e (some (.Attribute o f pos')) pos.line env = pure false := by intro _; rfl) : SX T (.Assign [.Attribute o f pos'] e pos) Γ M D := by
  rw [← hF.hT] at oc
  refine SX.mk (t := sFld T.K (teOf T o) (teOf T e) f) (fun i => by rw [← hF.hK i]; exact ps_fld (pe_te i) (pe_te i) (hs _)) ?_
  intro F H σ E ok sl q
  refine h F H σ _ ok sl (fun F1 H1 M1 y vy e1 ok1 r1 z1 => ?_) (q.kx sl)
  refine z1 F1 H1 σ _ ok1 (sl.mono e1) (fun F2 H2 M2 x vx e2 ok2 r2 z2 => ?_) ((q.mono e1).kx (sl.mono e1))
  obtain ⟨p, ns, ds, rfl, hm, hl, z⟩ := z2
  cases r2
  obtain ⟨_, dx, vs, hp, hl2, rs⟩ := ok2.mu _ _ hm
  obtain ⟨us, q1, q2, q3⟩ := putF_rep (f := f) (r1.mono e2) hl2 rs
  refine ⟨p, C, dx, _, rfl, hp, oc.cls, oc.na f hf, ?_, ?_⟩
  · have := List.length_zip (l₁ := ns) (l₂ := vs); omega
  · rw [q1]
    exact q.nx F2 Γ _ σ _ (e1.trans e2) (ok2.write (u := .ins C _ _) hm ⟨dx, us, upd_same, q2, q3⟩) (sl.mono (e1.trans e2)) z

/-! ### keywords' values -/
def tkOf (T : Fm ι) (kws : List Keyword) : TA := fun σ H Q => ∀ i (pos : Pos) pins s, Inv (T.X i) pins σ H s → wpAny (model (T.X i).prog (T.X i).w) (T.X i).A (evalAll ((backToKw pos (keywordEach kws (T.X i).env)).map (·.2))) (AP (T.X i) pins σ Q) (T.X i).xe s
theorem pk_tk {kws : List Keyword} (i : ι) : PK (T.X i) kws (tkOf T kws) := ⟨fun pos pins s _ _ _ I h => h i pos pins s I⟩
def KAX (T : Fm ι) (kws : List Keyword) (Γ : Gm) (M : Ms) (Φ : List D → Ms → Prop) (Ψ : PX) : Prop := GA T (tkOf T kws) Γ M Φ Ψ
theorem kax_nil {Φ : List D → Ms → Prop} (h : Φ [] M) : KAX T [] Γ M Φ Ψ := fun F H σ Q ok sl q x i pos pins s I => pk_nil.run pos pins s σ H Q I (ga_nil h F H σ Q ok sl q x)
theorem kax_cons {nm : Option Str} {kws : List Keyword} {Φ : List D → Ms → Prop} (h : EX T e Γ M (fun x M1 => KAX T kws Γ M1 (fun xs M2 => Φ (x :: xs) M2) Ψ) Ψ) : KAX T (⟨nm, e, p⟩ :: kws) Γ M Φ Ψ := fun F H σ Q ok sl q x i pos pins s I =>
  (pk_cons (pe_te (T := T) i) (pk_tk i)).run pos pins s σ H Q I (ga_cons h F H σ Q ok sl q x)

/-! ### a new instance -/
theorem Ok.side {K : PySem.W.Frag} {F H : Hp} {M : Ms} {p : Addr} {u : HO} (ok : Ok K F H M) (h : H p = none) : Ok K F (upd H p u) M := by
  refine ⟨same_upd2 ok.ex (ok.freshF h), fun q v e => ?_⟩
  obtain ⟨h1, h2⟩ := ok.mu q v e
  have hq : q ≠ p := fun z => by
    obtain ⟨w, hw⟩ := h2.some
    rw [z, h] at hw; cases hw
  exact ⟨h1, h2.mono (Same.refl F) (upd_ne hq)⟩
end
section
variable {X : Cx} {hot : Bool} {k n : Nat} {f C : Addr} {fd : FuncData} {ps ks : List Str} {sp : Sp} {E : L2.St → XK} {x m : Str} {q pos apos : Pos} {e o : Expr} {es : List Expr} {kws : List Keyword} {ta : TE} {t tk : TA}
theorem RoomM.make {A : Around} (r : RoomM hot (k + 1) A) (C : Addr) (us : List Value) (kw : List (Str × Value)) : RoomM hot k (A.under (.builtin "type.__call__" ⟨.ref C :: us, kw⟩)) := by
  refine ⟨⟨?_, ?_⟩, r.hd⟩
  · have := r.rm.dp; rw [make_depth]; omega
  · have := r.rm.un; rw [make_units]; omega
theorem RoomM.in1 {A : Around} (r : RoomM hot (k + 1) A) : RoomM hot k A.in1 := by
  refine ⟨⟨?_, ?_⟩, r.hd⟩
  · have := r.rm.dp; show A.depth + 3 * k + 5 < _; omega
  · have := r.rm.un; show A.units + 1 + 16 * k + 200 < _; omega
/-- C(..): the class at C called, the arguments bound to zs -/
theorem run_mkM {pins : List (Addr × Obj)} {σ : L2.St} {H : Hp} {s : Shared} {Q : VK} {us : List Value} {kw : List (Str × Value)} {vs : List V} {zs : List Value} (mk : Mk X.K C f) (F : FnM hot X.prog X.w X.K X.mg X.base k f fd ps sp) (hr : RoomM hot (k + 1) X.A)
    (hx : PassesAt (L2.CX X.prog X.w) X σ (E σ)) (bt : ∀ (s : Shared) (a : Value), X.K.In s.heap → BindsTo s fd ⟨a :: us, kw⟩ (ps.zip (a :: zs))) (I : Inv X pins σ H s) (r : Vals vs zs)
    (h : ∀ x dx, H x = none → H dx = none → dx ≠ x → sp (.ref x :: vs) (upd (upd H dx (.own x)) x (.ins C dx [])) (fun v H2 => v = .non ∧ Q (.ref x) H2) (E σ)) :
    wpAny (model X.prog X.w) X.A (call (.ref C) us kw) (EP X pins σ Q) X.xe s := by
  have two := I.made (C := C)
  have go := h (s.heap.objs.size + 1) s.heap.objs.size (I.hok.fresh (Nat.le_succ _)) (I.hok.fresh (Nat.le_refl _)) (Nat.ne_of_lt (Nat.lt_succ_self _))
  have run := F.run _ X.stack _ _ ⟨.ref (s.heap.objs.size + 1) :: us, kw⟩ _ _ _ _ (hr.make C us kw) (two.env0.make C us kw) (bt _ _ two.kIn) (Paired.cons (F := RelV) (a := V.ref (s.heap.objs.size + 1)) rfl r) go
  refine wpAny_call (make_map (f := f) I.kIn mk.makes mk.init (beq_iff_eq.mp mk.fn) (codeAny_mono run fun res sE z => ?_))
  match res, z with
  | .error err, z => exact hx pins _ _ err sE two z
  | .ok (.ret u), z =>
    obtain ⟨v, H3, I3, rv, ev, y⟩ := two.after z
    subst ev
    exact ⟨rv, .ref (s.heap.objs.size + 1), H3, I3, rfl, y⟩
def tMkM (C : Addr) (sp : Sp) (E : L2.St → XK) (t : TA) : TE := fun σ H Q => t σ H fun vs H1 => ∀ x dx, H1 x = none → H1 dx = none → dx ≠ x → sp (.ref x :: vs) (upd (upd H1 dx (.own x)) x (.ins C dx [])) (fun v H2 => v = .non ∧ Q (.ref x) H2) (E σ)
theorem pe_mkM (mk : Mk X.K C f) (F : FnM hot X.prog X.w X.K X.mg X.base k f fd ps sp) (hr : RoomM hot (k + 1) X.A) (hg : Gl X x) (hm : X.mg x = some (.ref C)) (hb : Binds X.K fd ps []) (hx : ∀ σ, PassesAt (L2.CX X.prog X.w) X σ (E σ))
    (ha : PA X (e :: es) t) (hdb : (x == ("__debug__" : Str)) = false) (he : starEach (e :: es) X.env = (false, eval e X.env) :: starEach es X.env) (hpl : (backTo pos (starEach es X.env)).any (·.1) = false) :
    PE X (.Call (.Name x q) (e :: es) [] pos) (tMkM C sp E t) := ⟨fun pins s σ H Q I h =>
  wpAny_Call_Name_kw (ld_glob I hg hm (PySem.W.callWith_K (h₀ := X.base) I.ok.mod.kin mk.kp (thn (ha.run pos pins s σ H _ I h) fun us s1 z => by
    obtain ⟨vs, H1, I1, r, y⟩ := z
    refine ⟨I1.kIn, run_mkM mk F hr (hx σ) (fun s2 a k2 => ?_) I1 r y⟩
    have hl : ((a :: us) ++ []).length = ps.length := by
      have q0 := F.len _ _ _ _ (y (s1.heap.objs.size + 1) s1.heap.objs.size (I1.hok.fresh (Nat.le_succ _)) (I1.hok.fresh (Nat.le_refl _)) (Nat.ne_of_lt (Nat.lt_succ_self _)))
      rw [List.append_nil, List.length_cons, ← r.length]
      exact q0
    have bt := hb s2 (a :: us) k2 hl
    rwa [List.append_nil] at bt) he hpl) hdb)⟩
/-- keywords alone: C(k = v, ..), in the parameters' order -/
theorem pe_mkKM (mk : Mk X.K C f) (F : FnM hot X.prog X.w X.K X.mg X.base k f fd ps sp) (hr : RoomM hot (k + 1) X.A) (hg : Gl X x) (hm : X.mg x = some (.ref C)) (hb : KBn X.K fd ps 1 ks (fun us ws => us ++ ws) (fun vs zs => vs ++ zs)) (hx : ∀ σ, PassesAt (L2.CX X.prog X.w) X σ (E σ))
    (hkw : PK X kws tk) (hall : (backToKw pos (keywordEach kws X.env)).all (·.1.isSome) = true) (hks : (backToKw pos (keywordEach kws X.env)).filterMap (·.1) = ks)
    (hdb : (x == ("__debug__" : Str)) = false) (hpl : (backToKw pos (keywordEach kws X.env)).any (·.1.isNone) = false) (hlen : ps.length = ks.length + 1) :
    PE X (.Call (.Name x q) [] kws pos) (tMkM C sp E tk) := ⟨fun pins s σ H Q I h => by
  have hpl2 : ((backTo pos (starEach [] X.env)).any (·.1) || (backToKw pos (keywordEach kws X.env)).any (·.1.isNone)) = false := hpl
  refine wpAny_Call_Name_kw (ld_glob I hg hm (PySem.W.callWith_KW0 (h₀ := X.base) I.ok.mod.kin mk.kp hall (thn (hkw.run pos pins s σ H _ I h) fun ws s1 z => ?_) hpl2) hdb)
  obtain ⟨zs, H1, I1, r, y⟩ := z
  refine ⟨I1.kIn, ?_⟩
  rw [hks]
  refine run_mkM (us := []) mk F hr (hx σ) (fun s2 a k2 => hb.to s2 [a] ws k2 rfl ?_) I1 r y
  have q0 := F.len _ _ _ _ (y (s1.heap.objs.size + 1) s1.heap.objs.size (I1.hok.fresh (Nat.le_succ _)) (I1.hok.fresh (Nat.le_refl _)) (Nat.ne_of_lt (Nat.lt_succ_self _)))
  rw [List.length_cons] at q0
  have := r.length
  omega⟩

/-! ### methods -/
theorem pe_methM0 {pl : Sem Bool} (he : PE X o ta) (c : Cls X.K C) (hm : Meth X.K C m f) (F : FnM hot X.prog X.w X.K X.mg X.base k f fd ps sp) (hr : RoomM hot k X.A) (hb : Binds X.K fd ps []) (hx : ∀ σ, PassesAt (L2.CX X.prog X.w) X σ (E σ))
    (ht : eval (.Call (.Attribute o m apos) [] [] pos) X.env = (do
      let ov ← eval o X.env
      standAt apos.atName
      let (g, fst) ← holding [ov] (getMethod ov m pl)
      callWith pos g fst (backTo pos (starEach [] X.env)) (backToKw pos (keywordEach [] X.env)))) :
    PE X (.Call (.Attribute o m apos) [] [] pos) (L2H.tMethH C m sp E ta tNil) := ⟨fun pins s σ H Q I h =>
  PySem.W.methodCall_KW (pl := pl) (thn (he.run pins s σ H _ I h) fun u s1 z => by
    obtain ⟨x, H1, I1, rx, a, dx, fs, rfl, ea, l, y⟩ := z
    obtain rfl : u = Value.ref a := rx
    exact getmeth_ok I1 ea c hm l (PySem.W.callWith_K0 (first := [.ref a]) I1.kIn hm.kp (run_fnM (us := [.ref a]) (vs := [.ref a]) F hr hb (hx σ) I1 (.cons rfl .nil) y))) ht⟩
theorem pe_methM {pl : Sem Bool} (he : PE X o ta) (c : Cls X.K C) (hm : Meth X.K C m f) (F : FnM hot X.prog X.w X.K X.mg X.base k f fd ps sp) (hr : RoomM hot k X.A) (hb : Binds X.K fd ps []) (hx : ∀ σ, PassesAt (L2.CX X.prog X.w) X σ (E σ)) (ha : PA X (e :: es) t)
    (hst : starEach (e :: es) X.env = (false, eval e X.env) :: starEach es X.env) (hpl : (backTo pos (starEach es X.env)).any (·.1) = false)
    (ht : eval (.Call (.Attribute o m apos) (e :: es) [] pos) X.env = (do
      let ov ← eval o X.env
      standAt apos.atName
      let (g, fst) ← holding [ov] (getMethod ov m pl)
      callWith pos g fst (backTo pos (starEach (e :: es) X.env)) (backToKw pos (keywordEach [] X.env)))) :
    PE X (.Call (.Attribute o m apos) (e :: es) [] pos) (L2H.tMethH C m sp E ta t) := ⟨fun pins s σ H Q I h =>
  PySem.W.methodCall_KW (pl := pl) (thn (he.run pins s σ H _ I h) fun u s1 z => by
    obtain ⟨x, H1, I1, rx, a, dx, fs, rfl, ea, l, y⟩ := z
    obtain rfl : u = Value.ref a := rx
    refine getmeth_ok I1 ea c hm l (PySem.W.callWith_K (first := [.ref a]) (h₀ := X.base) I.ok.mod.kin hm.kp (thn (ha.run pos pins s1 σ H1 _ I1 y) fun us s2 z => ?_) hst hpl)
    obtain ⟨vs, H2, I2, r, y⟩ := z
    exact ⟨I2.kIn, run_fnM (us := .ref a :: us) (vs := .ref a :: vs) F hr hb (hx σ) I2 (.cons rfl r) y⟩) ht⟩
/-- a property -/
theorem pe_propM {g p : Addr} (he : PE X o ta) (c : Cls X.K C) (hp : PropOf X.K C m p g) (F : FnM hot X.prog X.w X.K X.mg X.base k g fd ps sp) (hr : RoomM hot (k + 1) X.A) (hb : Binds X.K fd ps [])
    (hab : attributeBase o m X.env (eval o X.env) = eval o X.env) : PE X (.Attribute o m pos) (tProp C sp [] (fun _ _ _ => False) ta) := ⟨fun pins s σ H Q I h =>
  attr_of hab (thn (he.run pins s σ H _ I h) fun u s1 z => by
    obtain ⟨x, H1, I1, rx, a, dx, fs, rfl, ea, y⟩ := z
    obtain rfl : u = Value.ref a := rx
    obtain ⟨mA, O, _⟩ := ins_get I1.hok ea
    obtain ⟨od, J, _⟩ := O.look
    obtain ⟨rest, hrec⟩ := hp.rec_
    have hc : (PySem.W.clsIn X.K C).isSome = true := by
      obtain ⟨cd, q, _⟩ := PySem.W.any_some c.hd
      rw [q]; rfl
    have I2 := I1.tok (s1.toks + 1)
    have pg := PySem.W.plainGet_of (c.get m)
    have bt : BindsTo { s1 with toks := s1.toks + 1 } fd ⟨[.ref a], []⟩ (ps.zip [Value.ref a]) := by
      have := hb { s1 with toks := s1.toks + 1 } [.ref a] I2.kIn (F.len _ _ _ _ y)
      rwa [List.append_nil] at this
    have run := F.run X.A.in1 X.stack { s1 with toks := s1.toks + 1 } H1 ⟨[.ref a], []⟩ [.ref a] [.ref a] Q _ hr.in1 I2.env0.in1 bt (.cons rfl .nil) y
    refine PySem.W.get_bind I1.kIn J pg.1 (PySem.W.findObj_data hc hp.at_ hp.get hp.tak) pg.2 (wpAny_call (PySem.W.prop_get (s := { s1 with toks := s1.toks + 1 }) I1.kIn hrec (codeAny_mono run fun res sE z => ?_)))
    match res, z with
    | .error err, z =>
      obtain ⟨_, _, _, _, _, _, _, _, _, _, _, _, z⟩ := z
      exact z.elim
    | .ok (.ret u), z =>
      obtain ⟨v, H3, I3, rv, q3⟩ := I2.after z
      exact PySem.W.handed_on (handed_of rv) ⟨v, H3, I3, rv, q3⟩)⟩
/-- C.m(e, ..), m a staticmethod of the class at C -/
structure StatM (K : PySem.W.Frag) (C : Addr) (m : Str) (g : Addr) : Prop where
  rd : ClX.CRead K C (.type "type")
  at_ : ∃ p rest, PySem.W.findCls K (.ref C) (.type "type") m = some (.get (.builtin "staticmethod.__get__") (.ref p) .none (.ref C)) ∧ PySem.W.recIn K p "staticmethod" = some (.ref g :: rest)
  kp : PySem.W.keepIn K (.ref g) = true
theorem pe_statM {pl : Sem Bool} {g : Addr} (hg : Gl X x) (hc : X.mg x = some (.ref C)) (hm : StatM X.K C m g) (F : FnM hot X.prog X.w X.K X.mg X.base k g fd ps sp) (hr : RoomM hot k X.A) (hb : Binds X.K fd ps []) (hx : ∀ σ, PassesAt (L2.CX X.prog X.w) X σ (E σ)) (ha : PA X (e :: es) t)
    (hdb : (x == ("__debug__" : Str)) = false) (hst : starEach (e :: es) X.env = (false, eval e X.env) :: starEach es X.env) (hpl : (backTo pos (starEach es X.env)).any (·.1) = false)
    (ht : eval (.Call (.Attribute (.Name x q) m apos) (e :: es) [] pos) X.env = (do
      let ov ← eval (.Name x q) X.env
      standAt apos.atName
      let (g, fst) ← holding [ov] (getMethod ov m pl)
      callWith pos g fst (backTo pos (starEach (e :: es) X.env)) (backToKw pos (keywordEach [] X.env)))) :
    PE X (.Call (.Attribute (.Name x q) m apos) (e :: es) [] pos) (tCallS sp E t) := ⟨fun pins s σ H Q I h => by
  obtain ⟨p, rest, h1, h2⟩ := hm.at_
  refine PySem.W.methodCall_KW (pl := pl) (ld_glob I hg hc ?_ hdb) ht
  refine PySem.W.method_cls I.kIn hm.rd.ga (PySem.W.cls_bind I.kIn hm.rd.rd h1 (wpAny_call (PySem.W.sm_get (s := { s with toks := s.toks + 1 }) I.kIn h2 (PySem.W.handed_on rfl ?_))))
  have I1 := I.tok (s.toks + 1)
  refine PySem.W.callWith_K (h₀ := X.base) I.ok.mod.kin hm.kp (thn (ha.run pos pins _ σ H _ I1 h) fun us s2 z => ?_) hst hpl
  obtain ⟨vs, H2, I2, r, y⟩ := z
  exact ⟨I2.kIn, run_fnM F hr hb (hx σ) I2 r y⟩⟩
end

/-! ### what an own == and isinstance ask of values -/
/-- a value's type: also a caught exception's -/
inductive Ty2 (K : PySem.W.Frag) (H : Hp) : V → Value → Prop where
  | x {v : V} {t : Value} (h : TyX K H v t) : Ty2 K H v t
  | e {a C d : Addr} {o : Obj} {fs : List (Str × V)} (h1 : H a = some (xob a o)) (h2 : XobC C d o) (h3 : H d = some (.xd fs)) (h4 : ExcC K C) : Ty2 K H (.ref a) (.ref C)
theorem xob_at {P : Program} {w : World} {H : Hp} {h : Heap} {a b : Addr} {o : Obj} (hok : HOk P w H h) (e : H a = some (xob b o)) : h.get? b = some o := by
  have z : ObjOk P w H h a (.ext fun h => h.get? b = some o) := hok a _ e
  exact z.1
/-- a caught exception as the library's rules want it -/
theorem xob_inst {X : Cx} {pins : List (Addr × Obj)} {σ : L2.St} {H : Hp} {s : Shared} {a C d : Addr} {o : Obj} {fs : List (Str × V)} (I : Inv X pins σ H s) (h1 : H a = some (xob a o)) (h2 : XobC C d o) (h3 : H d = some (.xd fs)) :
    ∃ (od : Obj) (mA : Str → Option Value), PySem.W.InstAt s.heap a o C (some od) ∧ (∀ n, PySem.W.lookIn n od = some (mA n)) ∧ ∀ f, RelO (fs.lookup f) (mA f) := by
  have ha := xob_at I.hok h1
  have hx : ObjOk X.prog X.w H s.heap d (.xd fs) := I.hok d _ h3
  obtain ⟨mA, hns, hr⟩ := hx
  obtain ⟨od, ho, hl⟩ := lookIn_ns hns
  obtain ⟨fv, hd⟩ := h2.data
  exact ⟨od, mA, ⟨ha, h2.cls, by unfold PySem.W.notCls; rw [hd] <;> rfl, by rw [h2.dict]; exact ho⟩, hl, hr⟩
theorem kit_of2 {X : Cx} {pins : List (Addr × Obj)} {σ : L2.St} {H : Hp} {s : Shared} {v : V} {u t : Value} (I : Inv X pins σ H s) (rx : RelV v u) (ty : Ty2 X.K H v t) : ∃ Q : Heap → Prop, PySem.W.KitX X.K u t Q ∧ Q s.heap ∧ u ≠ .builtin "__main__.__loader__#opaque" := by
  cases ty with
  | x h => exact kit_of I rx h
  | @e a C d o fs h1 h2 h3 h4 =>
    cases rx
    obtain ⟨od, mA, J, _⟩ := xob_inst I h1 h2 h3
    have hcl : (PySem.W.clsIn X.K C).isSome = true := by
      obtain ⟨cd, q, _⟩ := PySem.W.any_some h4.hd
      rw [q]; rfl
    exact ⟨_, PySem.W.kitx_exc (od := some od) hcl h4.hg h4.hk h4.hs h4.ha h4.hn h4.ht h4.hm, J, fun z => nomatch z⟩
def rIs2 (K : PySem.W.Frag) : List V → Hp → VK → Prop := fun xs H Q => ∃ (x c : V) (t u : Value) (b : Bool), xs = [x, c] ∧ ClsV c u ∧ Ty2 K H x t ∧ PySem.W.kitOne K t u = some b ∧ Q (.bl b) H
theorem call_is2 {X : Cx} : CallR X (.builtin "isinstance") (rIs2 X.K) := by
  rintro pins s σ H xs us Q I r ⟨x, c, t, u, b, rfl, k, ty, e, q⟩
  cases r with
  | cons r1 r =>
    cases r with
    | cons r2 r =>
      cases r
      have ec := k.eq r2
      subst ec
      obtain ⟨_, Z, p, hx⟩ := kit_of2 I r1 ty
      exact PySem.W.kia_one Z I.kIn p e hx fun tk => ⟨.bl b, H, I.tok tk, rfl, q⟩
/-- x == y by the class's own def -/
def rOwn (K : PySem.W.Frag) (C : Addr) (sp : Sp) : R2 := fun x y H Q => ∃ a dx fs tb, x = .ref a ∧ H a = some (.ins C dx fs) ∧ Ty2 K H y tb ∧ PySem.W.notFirst K C tb = true ∧ sp [x, y] H (fun v H' => (∃ b, v = .bl b) ∧ Q v H') (fun _ _ _ => False)
theorem op_own {X : Cx} {hot : Bool} {k : Nat} {f C : Addr} {fd : FuncData} {ps : List Str} {sp : Sp} (F : FnM hot X.prog X.w X.K X.mg X.base k f fd ps sp) (hr : RoomM hot k X.A)
    (hs : PySem.W.findIn X.K (.ref C) "__eq__" = some (some (.ref f))) (hf : PySem.W.isFn X.K (.ref f) = true) (hb : Binds X.K fd ps []) : OpR X (compareOp .Eq) (rOwn X.K C sp) := by
  rintro pins s σ H x y v u Q I rx ry ⟨a, dx, fs, tb, rfl, ha, ty, hn, hsp⟩
  cases rx
  obtain ⟨mA, O, _⟩ := ins_get I.hok ha
  obtain ⟨od, J, _⟩ := O.look
  obtain ⟨_, Z, p, _⟩ := kit_of2 I ry ty
  obtain ⟨m, fr⟩ := I.fr
  have hu : X.A.units < cLine := by have := hr.rm.un; omega
  refine PySem.W.cmp_K (op := .Eq) (tb := tb) hu fr I.ok.mod.kin J (Z.ty _ _ I.kIn p) hn hs hf ?_
  have bt : BindsTo s fd ⟨[.ref a, u], []⟩ (ps.zip [Value.ref a, u]) := by
    have := hb s [.ref a, u] I.kIn (F.len _ _ _ _ hsp)
    rwa [List.append_nil] at this
  refine wpAny_call (codeAny_mono (F.run X.A X.stack s H ⟨[.ref a, u], []⟩ [.ref a, u] [.ref a, y] _ _ hr I.env0 bt (.cons rfl (.cons ry .nil)) hsp) fun res sE z => ?_)
  match res, z with
  | .error err, z =>
    obtain ⟨_, _, _, _, _, _, _, _, _, _, _, _, z⟩ := z
    exact z.elim
  | .ok (.ret u), z =>
    obtain ⟨v, H3, I3, rv, ⟨b, hb⟩, q3⟩ := I.after z
    subst hb
    cases rv
    exact ⟨.bl b, H3, I3, rfl, q3⟩

/-! ### types of data -/
inductive Wd where
  | b (t : Bt)
  | o (C : Addr)
  | x (C : Addr)
def Wd.v : Wd → Value
  | .b t => .type t.name
  | .o C => .ref C
  | .x C => .ref C
def wdD (M : Ms) : D → Option Wd
  | .non => some (.b .non) | .bl _ => some (.b .bl) | .int _ => some (.b .int) | .str _ => some (.b .str) | .lst _ => some (.b .lst) | .rol _ => some (.b .lst) | .tup _ => some (.b .tup) | .dic _ _ => some (.b .dic)
  | .ins C _ _ => some (.o C)
  | .exn C _ _ => some (.x C)
  | .ref p => match M p with
    | some (.lst _) => some (.b .lst)
    | some (.ins C _ _) => some (.o C)
    | some (.dK _ _) => some (.b .dic)
    | none => none
  | .ty _ => none
/-- an own class whose instances isinstance may be asked of -/
structure OwnF (K : PySem.W.Frag) (C : Addr) : Prop where
  cls : Cls K C
  ha : PySem.W.findIn K (.ref C) "__class__" = some (some (.builtin "object.__class__"))
  hn : PySem.W.specialIn K (.builtin "object.__class__") "__get__" = some (some (.builtin "getset_descriptor.__get__"))
  ht : PySem.W.takesIn K (.builtin "object.__class__") = some true
  hm : PySem.W.mroIn K C (.type "object") = some true
def WdOk (K : PySem.W.Frag) : Wd → Prop
  | .b _ => True
  | .o C => OwnF K C
  | .x C => ExcC K C
theorem ty2_of {K : PySem.W.Frag} {F H : Hp} {M : Ms} {d : D} {v : V} {wd : Wd} (ok : Ok K F H M) (r : Rep K F d v) (h : wdD M d = some wd) (hw : WdOk K wd) : Ty2 K H v wd.v := by
  cases d with
  | non => cases h; exact .x (tyX_of (t := .non) ok r rfl)
  | bl b => cases h; exact .x (tyX_of (t := .bl) ok r rfl)
  | int i => cases h; exact .x (tyX_of (t := .int) ok r rfl)
  | str x => cases h; exact .x (tyX_of (t := .str) ok r rfl)
  | lst ds => cases h; exact .x (tyX_of (t := .lst) ok r rfl)
  | rol ds => cases h; exact .x (tyX_of (t := .lst) ok r rfl)
  | tup ds => cases h; exact .x (tyX_of (t := .tup) ok r rfl)
  | dic ks ds => cases h; exact .x (tyX_of (t := .dic) ok r rfl)
  | ins C ns ds =>
    cases h
    obtain ⟨a, dx, vs, rfl, h1, _⟩ := r
    exact .x (.base (.ins (ok.ex _ _ h1) hw.cls hw.ha hw.hn hw.ht hw.hm))
  | exn C ns ds =>
    cases h
    obtain ⟨a, o, d, vs, rfl, h1, h2, h3, _⟩ := r
    exact .e (ok.ex _ _ h1) h2 (ok.ex _ _ h3) hw
  | ref p =>
    cases r
    have h : (match M p with
    | some (.lst _) => some (Wd.b .lst)
    | some (.ins C _ _) => some (Wd.o C)
    | some (.dK _ _) => some (Wd.b .dic)
    | none => none) = some wd := h
    cases hm : M p with
    | none => rw [hm] at h; cases h
    | some o =>
      rw [hm] at h
      have hmu := (ok.mu p o hm).2
      cases o with
      | lst ds =>
        cases h
        obtain ⟨vs, hp, _⟩ := hmu
        exact .x (.base (.lst hp))
      | ins C ns ds =>
        cases h
        obtain ⟨dx, vs, hp, _⟩ := hmu
        exact .x (.base (.ins hp hw.cls hw.ha hw.hn hw.ht hw.hm))
      | dK ks ds =>
        cases h
        obtain ⟨vs, hp, _⟩ := hmu
        exact .x (.base (.dK hp))
  | ty n => cases h

/-! ### the rules on data -/
/-- the module's name x is the class at C; its __init__ does as ds says -/
def MkC (hot : Bool) (P : Program) (w : World) (K : PySem.W.Frag) (mg : Str → Option Value) (base : Heap) (x : Str) (C : Addr) (j : Nat) (ps : List Str) (ds : DS) : Prop :=
  ∃ f fd, FnM hot P w K mg base j f fd ps (lift K ds) ∧ Mk K C f ∧ mg x = some (.ref C) ∧ Binds K fd ps [] ∧ KBn K fd ps 1 ps.tail (fun us ws => us ++ ws) (fun vs zs => vs ++ zs)
def MetC (hot : Bool) (P : Program) (w : World) (K : PySem.W.Frag) (mg : Str → Option Value) (base : Heap) (C : Addr) (m : Str) (j : Nat) (ps : List Str) (ds : DS) : Prop :=
  ∃ f fd, FnM hot P w K mg base j f fd ps (lift K ds) ∧ Meth K C m f ∧ Binds K fd ps [] ∧ Cls K C
def ProC (hot : Bool) (P : Program) (w : World) (K : PySem.W.Frag) (mg : Str → Option Value) (base : Heap) (C : Addr) (m : Str) (j : Nat) (ps : List Str) (ds : DS) : Prop :=
  ∃ p f fd, FnM hot P w K mg base j f fd ps (lift K ds) ∧ PropOf K C m p f ∧ Binds K fd ps [] ∧ Cls K C
def StaC (hot : Bool) (P : Program) (w : World) (K : PySem.W.Frag) (mg : Str → Option Value) (base : Heap) (x : Str) (C : Addr) (m : Str) (j : Nat) (ps : List Str) (ds : DS) : Prop :=
  ∃ f fd, FnM hot P w K mg base j f fd ps (lift K ds) ∧ StatM K C m f ∧ mg x = some (.ref C) ∧ Binds K fd ps []
def EqC (hot : Bool) (P : Program) (w : World) (K : PySem.W.Frag) (mg : Str → Option Value) (base : Heap) (C : Addr) (j : Nat) (ps : List Str) (ds : DS) : Prop :=
  ∃ f fd, FnM hot P w K mg base j f fd ps (lift K ds) ∧ PySem.W.findIn K (.ref C) "__eq__" = some (some (.ref f)) ∧ PySem.W.isFn K (.ref f) = true ∧ Binds K fd ps []
section
variable {hot hot' : Bool} {P : Program} {w : World} {K : PySem.W.Frag} {mg : Str → Option Value} {base : Heap} {x m : Str} {C : Addr} {j : Nat} {ps : List Str} {ds : DS}
theorem MkC.at (c : MkC hot P w K mg base x C j ps ds) (h : hot' = hot) : MkC hot' P w K mg base x C j ps ds := by rw [h]; exact c
theorem StaC.at (c : StaC hot P w K mg base x C m j ps ds) (h : hot' = hot) : StaC hot' P w K mg base x C m j ps ds := by rw [h]; exact c
theorem MetC.at (c : MetC hot P w K mg base C m j ps ds) (h : hot' = hot) : MetC hot' P w K mg base C m j ps ds := by rw [h]; exact c
theorem ProC.at (c : ProC hot P w K mg base C m j ps ds) (h : hot' = hot) : ProC hot' P w K mg base C m j ps ds := by rw [h]; exact c
theorem EqC.at (c : EqC hot P w K mg base C j ps ds) (h : hot' = hot) : EqC hot' P w K mg base C j ps ds := by rw [h]; exact c
end
/-- behind __init__: the instance as it is, or frozen -/
def mkP (C p : Addr) (Φ : PD) (M : Ms) : Prop := Φ (.ref p) M ∨ ∃ ns ds, M p = some (.ins C ns ds) ∧ Φ (.ins C ns ds) (dm M p)
section
variable {ι : Type} {T : Fm ι} {k : Nat} {P : Program} {w : World} {K : PySem.W.Frag} {mg : Str → Option Value} {base : Heap} {N : List Str} {sc : Scope} {Γ : Gm} {M : Ms} {Φ : PD} {Ψ : PX}
variable {e a b c o : Expr} {es : List Expr} {kws : List Keyword} {pos p p1 p2 p3 p4 apos : Pos} {f m x : Str} {C : Addr} {fs ps : List Str} {j : Nat} {ds : DS}
def mkAsk (C : Addr) (ds : DS) (Φ : PD) (Ψ : PX) : List D → Ms → Prop := fun xs M1 => ∀ p, M1 p = none → ds (.ref p :: xs) (um M1 p (.ins C [] [])) (fun d M2 => d = .non ∧ mkP C p Φ M2) (fun C ns ds M2 => Ψ C ns ds (dm M2 p))
theorem ge_mk {t : TA} (h : GA T t Γ M (mkAsk C ds Φ Ψ) Ψ) : GE T (tMkM C (lift T.K ds) (WE T.w) t) Γ M Φ Ψ := by
  intro F H σ Q ok sl q x
  refine h F H σ _ ok sl (fun F1 H1 M1 xs vs e1 ok1 rs z p dx hp hd hne => ?_) x
  have ok2 : Ok T.K F1 (upd (upd H1 dx (.own p)) p (.ins C dx [])) (um M1 p (.ins C [] [])) := (ok1.side (u := .own p) hd).newM (p := p) (by rw [upd_ne (Ne.symm hne)]; exact hp) ⟨dx, [], upd_same, rfl, rfl⟩
  refine ⟨F1, _, .ref p :: xs, _, _, ok2, .cons rfl rs, z p (ok1.fresh hp), ?_, ?_⟩
  · rintro F2 H2 M2 d v e2 ok3 r ⟨rfl, y⟩
    refine ⟨r, ?_⟩
    rcases y with y | ⟨ns, dd, hm, y⟩
    · exact q F2 H2 M2 (.ref p) (.ref p) (e1.trans e2) ok3 rfl y
    · obtain ⟨F3, e3, ok4, r4⟩ := ok3.freezeI hm
      exact q F3 H2 _ _ _ (e1.trans (e2.trans e3)) ok4 r4 y
  · exact fun F2 H2 M2 C d ns dd us e2 ok3 hx hl r y => x F2 H2 _ C d ns dd us (e1.trans e2) (ok3.sub dm_sub) hx hl r y
/-- C(e, ..) -/
theorem ex_make (hF : Fc T k P w K mg base N sc) (cc : MkC T.hot P w K mg base x C j ps ds) (hk : j < k) (h : AX T (e :: es) Γ M (mkAsk C ds Φ Ψ) Ψ)
    (hg : sc.names.lookup x = some .globalImplicit := by rfl) (hdb : (x == ("__debug__" : Str)) = false := by decide) (he : ∀ env, starEach (e :: es) env = (false, eval e env) :: starEach es env := by intro _; rfl) (hpl : ∀ env, (backTo pos (starEach es env)).any (·.1) = false := by intro _; rfl) :
    EX T (.Call (.Name x p) (e :: es) [] pos) Γ M Φ Ψ := by
  rw [← hF.hT] at cc
  obtain ⟨f, fd, F, mk, hm, hb, _⟩ := cc
  refine EX.mk (t := tMkM C (lift T.K ds) (WE T.w) (taOf T (e :: es))) (fun i => ?_) (ge_mk h)
  exact pe_mkM (by rw [hF.hK]; exact mk) (hF.fno i F) ((hF.hr i).mono hk) (by show (T.X i).env.scope.names.lookup x = _; rw [hF.hs]; exact hg) (by rw [hF.hmg]; exact hm) (by rw [hF.hK]; exact hb) (hF.pass i) (pa_ta i) hdb (he _) (hpl _)
/-- C(k = e, ..), all parameters in their order -/
theorem ex_makeK (hF : Fc T k P w K mg base N sc) (cc : MkC T.hot P w K mg base x C j ps ds) (hk : j < k) (h : KAX T kws Γ M (mkAsk C ds Φ Ψ) Ψ) (hps : ps.length = ps.tail.length + 1 := by rfl)
    (hall : ∀ env, (backToKw pos (keywordEach kws env)).all (·.1.isSome) = true := by intro _; rfl) (hks : ∀ env, (backToKw pos (keywordEach kws env)).filterMap (·.1) = ps.tail := by intro _; rfl)
    (hg : sc.names.lookup x = some .globalImplicit := by rfl) (hdb : (x == ("__debug__" : Str)) = false := by decide) (hpl : ∀ env, (backToKw pos (keywordEach kws env)).any (·.1.isNone) = false := by intro _; rfl) :
    EX T (.Call (.Name x p) [] kws pos) Γ M Φ Ψ := by
  rw [← hF.hT] at cc
  obtain ⟨f, fd, F, mk, hm, _, hb⟩ := cc
  refine EX.mk (t := tMkM C (lift T.K ds) (WE T.w) (tkOf T kws)) (fun i => ?_) (ge_mk h)
  exact pe_mkKM (by rw [hF.hK]; exact mk) (hF.fno i F) ((hF.hr i).mono hk) (by show (T.X i).env.scope.names.lookup x = _; rw [hF.hs]; exact hg) (by rw [hF.hmg]; exact hm) (by rw [hF.hK]; exact hb) (hF.pass i) (pk_tk i) (hall _) (hks _) hdb (hpl _) hps
theorem ex_meth0 (hF : Fc T k P w K mg base N sc) (cc : MetC T.hot P w K mg base C m j ps ds) (hk : j ≤ k) (h : EX T o Γ M (fun x M1 => insP C M1 (fun ns _ => m ∉ ns ∧ ds [x] M1 Φ Ψ) x) Ψ) {pl : Env → Sem Bool}
    (ht : ∀ env, eval (.Call (.Attribute o m apos) [] [] pos) env = (do
      let ov ← eval o env
      standAt apos.atName
      let (g, fst) ← holding [ov] (getMethod ov m (pl env))
      callWith pos g fst (backTo pos (starEach [] env)) (backToKw pos (keywordEach [] env))) := by intro _; rfl) : EX T (.Call (.Attribute o m apos) [] [] pos) Γ M Φ Ψ := by
  rw [← hF.hT] at cc
  obtain ⟨f, fd, F, hm, hb, hc⟩ := cc
  refine EX.mk (t := L2H.tMethH C m (lift T.K ds) (WE T.w) (teOf T o) tNil) (fun i => ?_) ?_
  · exact pe_methM0 (pl := pl _) (pe_te i) (by rw [hF.hK]; exact hc) (by rw [hF.hK]; exact hm) (hF.fno i F) ((hF.hr i).mono hk) (by rw [hF.hK]; exact hb) (hF.pass i) (ht _)
  · intro F0 H σ Q ok sl q x
    refine h F0 H σ _ ok sl (fun F1 H1 M1 d v e1 ok1 r z => ?_) x
    obtain ⟨a, dx, ns, dd, vs, rfl, ha, hl, rs, hn, z⟩ := insP_of ok1 r z
    exact ⟨a, dx, _, rfl, ha, lk_none hn, F1, M1, [d], Φ, Ψ, ok1, Reps.one r, z, q.mono e1, x.mono e1⟩
theorem ex_meth (hF : Fc T k P w K mg base N sc) (cc : MetC T.hot P w K mg base C m j ps ds) (hk : j ≤ k) (h : EX T o Γ M (fun x M1 => insP C M1 (fun ns _ => m ∉ ns ∧ AX T (e :: es) Γ M1 (fun xs M2 => ds (x :: xs) M2 Φ Ψ) Ψ) x) Ψ) {pl : Env → Sem Bool}
    (he : ∀ env, starEach (e :: es) env = (false, eval e env) :: starEach es env := by intro _; rfl) (hpl : ∀ env, (backTo pos (starEach es env)).any (·.1) = false := by intro _; rfl)
    (ht : ∀ env, eval (.Call (.Attribute o m apos) (e :: es) [] pos) env = (do
      let ov ← eval o env
      standAt apos.atName
      let (g, fst) ← holding [ov] (getMethod ov m (pl env))
      callWith pos g fst (backTo pos (starEach (e :: es) env)) (backToKw pos (keywordEach [] env))) := by intro _; rfl) : EX T (.Call (.Attribute o m apos) (e :: es) [] pos) Γ M Φ Ψ := by
  rw [← hF.hT] at cc
  obtain ⟨f, fd, F, hm, hb, hc⟩ := cc
  refine EX.mk (t := L2H.tMethH C m (lift T.K ds) (WE T.w) (teOf T o) (taOf T (e :: es))) (fun i => ?_) ?_
  · exact pe_methM (pl := pl _) (pe_te i) (by rw [hF.hK]; exact hc) (by rw [hF.hK]; exact hm) (hF.fno i F) ((hF.hr i).mono hk) (by rw [hF.hK]; exact hb) (hF.pass i) (pa_ta i) (he _) (hpl _) (ht _)
  · intro F0 H σ Q ok sl q x
    refine h F0 H σ _ ok sl (fun F1 H1 M1 d v e1 ok1 r z => ?_) x
    obtain ⟨a, dx, ns, dd, vs, rfl, ha, hl, rs, hn, z⟩ := insP_of ok1 r z
    refine ⟨a, dx, _, rfl, ha, lk_none hn, ?_⟩
    refine z F1 H1 σ _ ok1 (sl.mono e1) (fun F2 H2 M2 xs us e2 ok2 rs2 y => ?_) (x.mono e1)
    exact ⟨F2, M2, d :: xs, Φ, Ψ, ok2, .cons (r.mono e2) rs2, y, q.mono (e1.trans e2), x.mono (e1.trans e2)⟩
/-- o.f, a property -/
theorem ex_prop (hF : Fc T k P w K mg base N sc) (cc : ProC T.hot P w K mg base C m j ps ds) (hk : j < k) (h : EX T o Γ M (fun x M1 => insP C M1 (fun _ _ => ds [x] M1 Φ (fun _ _ _ _ => False)) x) Ψ)
    (hb : ∀ env, attributeBase o m env (eval o env) = eval o env := by intro _; rfl) : EX T (.Attribute o m pos) Γ M Φ Ψ := by
  rw [← hF.hT] at cc
  obtain ⟨p, f, fd, F, hm, hb', hc⟩ := cc
  refine EX.mk (t := tProp C (lift T.K ds) [] (fun _ _ _ => False) (teOf T o)) (fun i => ?_) ?_
  · exact pe_propM (pe_te i) (by rw [hF.hK]; exact hc) (by rw [hF.hK]; exact hm) (hF.fno i F) ((hF.hr i).mono hk) (by rw [hF.hK]; exact hb') (hb _)
  · intro F0 H σ Q ok sl q x
    refine h F0 H σ _ ok sl (fun F1 H1 M1 d v e1 ok1 r z => ?_) x
    obtain ⟨a, dx, ns, dd, vs, rfl, ha, hl, rs, z⟩ := insP_of ok1 r z
    exact ⟨a, dx, _, rfl, ha, F1, M1, [d], Φ, _, ok1, Reps.one r, z, q.mono e1, KX.none⟩
/-- C.m(e, ..), a staticmethod -/
theorem ex_stat (hF : Fc T k P w K mg base N sc) (cc : StaC T.hot P w K mg base x C m j ps ds) (hk : j ≤ k) (h : AX T (e :: es) Γ M (fun xs M1 => ds xs M1 Φ Ψ) Ψ) {pl : Env → Sem Bool}
    (hg : sc.names.lookup x = some .globalImplicit := by rfl) (hdb : (x == ("__debug__" : Str)) = false := by decide) (he : ∀ env, starEach (e :: es) env = (false, eval e env) :: starEach es env := by intro _; rfl) (hpl : ∀ env, (backTo pos (starEach es env)).any (·.1) = false := by intro _; rfl)
    (ht : ∀ env, eval (.Call (.Attribute (.Name x p) m apos) (e :: es) [] pos) env = (do
      let ov ← eval (.Name x p) env
      standAt apos.atName
      let (g, fst) ← holding [ov] (getMethod ov m (pl env))
      callWith pos g fst (backTo pos (starEach (e :: es) env)) (backToKw pos (keywordEach [] env))) := by intro _; rfl) : EX T (.Call (.Attribute (.Name x p) m apos) (e :: es) [] pos) Γ M Φ Ψ := by
  rw [← hF.hT] at cc
  obtain ⟨f, fd, F, hm, hc, hb⟩ := cc
  refine EX.mk (t := tCallS (lift T.K ds) (WE T.w) (taOf T (e :: es))) (fun i => ?_) (ge_callS h)
  exact pe_statM (pl := pl _) (by show (T.X i).env.scope.names.lookup x = _; rw [hF.hs]; exact hg) (by rw [hF.hmg]; exact hc) (by rw [hF.hK]; exact hm) (hF.fno i F) ((hF.hr i).mono hk) (by rw [hF.hK]; exact hb) (hF.pass i) (pa_ta i) hdb (he _) (hpl _) (ht _)
/-- x == y by the class's own def -/
def ownP (K : PySem.W.Frag) (C : Addr) (ds : DS) (M : Ms) (Φ : PD) (x y : D) : Prop := insP C M (fun _ _ => ∃ wd, wdD M y = some wd ∧ WdOk K wd ∧ PySem.W.notFirst K C wd.v = true ∧ ds [x, y] M (fun d M' => (∃ b, d = .bl b) ∧ Φ d M') (fun _ _ _ _ => False)) x
theorem gr_own {x y : D} (q : ownP T.K C ds M Φ x y) : GR T (rOwn T.K C (lift T.K ds)) x y M Φ := by
  intro F H vx vy Q ok rx ry hk
  obtain ⟨a, dx, ns, dd, vs, rfl, ha, hl, rs, wd, h1, h2, h3, z⟩ := insP_of ok rx q
  refine ⟨a, dx, _, wd.v, rfl, ha, ty2_of ok ry h1 h2, h3, F, M, [x, y], _, _, ok, .cons rx (Reps.one ry), z, ?_, KX.none⟩
  rintro F' H' M' d v e ok' r ⟨⟨b, rfl⟩, y⟩
  exact ⟨⟨b, r⟩, hk F' H' M' _ v e ok' r y⟩
theorem op_eqO (hF : Fc T k P w K mg base N sc) (cc : EqC T.hot P w K mg base C j ps ds) (hk : j ≤ k) (i : ι) : OpR (T.X i) (compareOp .Eq) (rOwn T.K C (lift T.K ds)) := by
  rw [← hF.hT] at cc
  obtain ⟨f, fd, F, h1, h2, hb⟩ := cc
  have q := op_own (C := C) (hF.fno i F) ((hF.hr i).mono hk) (by rw [hF.hK]; exact h1) (by rw [hF.hK]; exact h2) (by rw [hF.hK]; exact hb)
  rwa [hF.hK] at q
theorem ex_eqO (hF : Fc T k P w K mg base N sc) (cc : EqC T.hot P w K mg base C j ps ds) (hk : j ≤ k) (h : EX T a Γ M (fun x M1 => EX T b Γ M1 (fun y M2 => ownP K C ds M2 Φ x y) Ψ) Ψ) : EX T (.Compare a [.Eq] [b] pos) Γ M Φ Ψ :=
  ex_cmpG (R := ownP K C ds) (op_eqO hF cc hk) (nomark _) (fun _ _ _ _ q => gr_own (by rw [hF.hT]; exact q)) h
theorem tx_eqO (hF : Fc T k P w K mg base N sc) (cc : EqC T.hot P w K mg base C j ps ds) (hk : j ≤ k) {Φ : Bool → Ms → Prop} (h : EX T a Γ M (fun x M1 => EX T b Γ M1 (fun y M2 => ownP K C ds M2 (fun d M => ∃ c, d = .bl c ∧ Φ c M) x y) Ψ) Ψ) : TX T (.Compare a [.Eq] [b] pos) Γ M Φ Ψ :=
  tx_cmpG (R := ownP K C ds) (op_eqO hF cc hk) (nomark _) (fun _ _ _ _ q => gr_own (by rw [hF.hT]; exact q)) h
/-- isinstance(e, c), c an own class -/
def isP (K : PySem.W.Frag) (cv : Value) (M : Ms) (Φ : PD) (d : D) : Prop := ∃ wd b, wdD M d = some wd ∧ WdOk K wd ∧ PySem.W.kitOne K wd.v cv = some b ∧ Φ (.bl b) M
theorem ex_isC (hF : Fc T k P w K mg base N sc) (hm : mg "isinstance" = none) (hc : mg x = some (.ref C)) (h : EX T e Γ M (fun d M1 => isP K (.ref C) M1 Φ d) Ψ) (hg : sc.names.lookup ("isinstance" : Str) = some .globalImplicit := by rfl) (hgc : sc.names.lookup x = some .globalImplicit := by rfl)
    (hdb : (x == ("__debug__" : Str)) = false := by decide) (he : ∀ env es, starEach (e :: es) env = (false, eval e env) :: starEach es env := by intro _ _; rfl) : EX T (.Call (.Name "isinstance" p) [e, .Name x p1] [] pos) Γ M Φ Ψ := by
  refine EX.mk (t := tCB (rIs2 T.K) (tCons (teOf T e) (tCons (tC (.ref C)) tNil))) (fun i => ?_) ?_
  · exact pe_callB (by rw [← hF.hK i]; exact call_is2) (by show (T.X i).env.scope.names.lookup _ = _; rw [hF.hs]; exact hg) (by rw [hF.hmg]; exact hm) (by decide +kernel)
      (pa_cons (pe_te i) (pa_cons (pe_glob (by show (T.X i).env.scope.names.lookup x = _; rw [hF.hs]; exact hgc) (by rw [hF.hmg]; exact hc) rfl hdb) pa_nil (by rfl)) (he _ _)) (by decide) (by decide) (he _ _) (by rfl)
  · intro F H σ Q ok sl hk x
    refine h F H σ _ ok sl (fun F1 H1 M1 d v e1 ok1 r z => ?_) x
    obtain ⟨wd, b, h1, h2, h3, q⟩ := z
    rw [← hF.hT] at h2 h3
    exact ⟨v, .ref C, wd.v, .ref C, b, rfl, .own C, ty2_of ok1 r h1 h2, h3, hk F1 H1 M1 (.bl _) _ e1 ok1 rfl q⟩
/-- .. c a built-in one -/
theorem ex_isT (hF : Fc T k P w K mg base N sc) (n : String) (hm : mg "isinstance" = none) (hc : mg x = none) (hv : bootBuiltins x = some (.type n)) (h : EX T e Γ M (fun d M1 => isP K (.type n) M1 Φ d) Ψ) (hg : sc.names.lookup ("isinstance" : Str) = some .globalImplicit := by rfl) (hgc : sc.names.lookup x = some .globalImplicit := by rfl)
    (hn : x ≠ "__name__" := by decide) (hdb : (x == ("__debug__" : Str)) = false := by decide) (he : ∀ env es, starEach (e :: es) env = (false, eval e env) :: starEach es env := by intro _ _; rfl) : EX T (.Call (.Name "isinstance" p) [e, .Name x p1] [] pos) Γ M Φ Ψ := by
  refine EX.mk (t := tCB (rIs2 T.K) (tCons (teOf T e) (tCons (tC (.ty n)) tNil))) (fun i => ?_) ?_
  · exact pe_callB (by rw [← hF.hK i]; exact call_is2) (by show (T.X i).env.scope.names.lookup _ = _; rw [hF.hs]; exact hg) (by rw [hF.hmg]; exact hm) (by decide +kernel)
      (pa_cons (pe_te i) (pa_cons (pe_bltn (by show (T.X i).env.scope.names.lookup x = _; rw [hF.hs]; exact hgc) (by rw [hF.hmg]; exact hc) hv rfl hn hdb) pa_nil (by rfl)) (he _ _)) (by decide) (by decide) (he _ _) (by rfl)
  · intro F H σ Q ok sl hk x
    refine h F H σ _ ok sl (fun F1 H1 M1 d v e1 ok1 r z => ?_) x
    obtain ⟨wd, b, h1, h2, h3, q⟩ := z
    rw [← hF.hT] at h2 h3
    exact ⟨v, .ty n, wd.v, .type n, b, rfl, .ty n, ty2_of ok1 r h1 h2, h3, hk F1 H1 M1 (.bl _) _ e1 ok1 rfl q⟩
end
end G
set_option Elab.async false
set_option linter.all false
set_option maxRecDepth 100000
/-! GExc: exceptions of the program's own classes on data: their fields, raise, try. -/
namespace G
open PySem PySem.Spec PyProof.Rows L2

/-! ### a caught exception's field -/
def tXg (K : PySem.W.Frag) (f : Str) (te : TE) : TE := fun σ H Q => te σ H fun x H1 => ∃ (a C d : Addr) (o : Obj) (fs : List (Str × V)) (v : V), x = .ref a ∧ H1 a = some (xob a o) ∧ XobC C d o ∧ H1 d = some (.xd fs) ∧ XfC K C ∧ PySem.W.findIn K (.ref C) f = some none ∧ fs.lookup f = some v ∧ Q v H1
theorem pe_xg {X : Cx} {e : Expr} {te : TE} {pos : Pos} {n : Str} (he : PE X e te) (hb : attributeBase e n X.env (eval e X.env) = eval e X.env) : PE X (.Attribute e n pos) (tXg X.K n te) := ⟨fun pins s σ H Q I h =>
  attr_of hb (thn (he.run pins s σ H _ I h) fun u s1 z => by
    obtain ⟨x, H1, I1, rx, a, C, d, o, fs, v, rfl, h1, h2, h3, T, hno, l, q⟩ := z
    obtain rfl : u = Value.ref a := rx
    obtain ⟨od, mA, J, hl, hr⟩ := xob_inst I1 h1 h2 h3
    obtain ⟨u, hu, ru⟩ := RelO.some_of (v := v) (o := mA n) (by rw [← l]; exact hr n)
    exact HandSPX.exc_get I1.kIn J T.ga T.gg T.exC (PySem.W.findObj_own T.hdC hno rfl (by rw [hl, hu])) (handed_of ru) ⟨v, H1, I1.tok _, ru, q⟩)⟩
/-- the class at C, and fields of its instances -/
structure XCls (K : PySem.W.Frag) (C : Addr) (fs : List Str) : Prop where
  xf : XfC K C
  na : ∀ f ∈ fs, PySem.W.findIn K (.ref C) f = some none
section
variable {ι : Type} {T : Fm ι} {k : Nat} {P : Program} {w : World} {K : PySem.W.Frag} {mg : Str → Option Value} {base : Heap} {N : List Str} {sc : Scope} {Γ : Gm} {M : Ms} {Φ : PD} {Ψ : PX}
variable {e : Expr} {es : List Expr} {pos p : Pos} {f x : Str} {C : Addr} {fs : List Str}
theorem ex_xfld (hF : Fc T k P w K mg base N sc) (h : EX T e Γ M (fun x M1 => ∃ C ns ds d fs, x = .exn C ns ds ∧ XCls K C fs ∧ f ∈ fs ∧ lkD ns ds f = some d ∧ Φ d M1) Ψ)
    (hb : ∀ env, attributeBase e f env (eval e env) = eval e env := by intro _; rfl) : EX T (.Attribute e f pos) Γ M Φ Ψ := by
  refine EX.mk (t := tXg T.K f (teOf T e)) (fun i => by rw [← hF.hK i]; exact pe_xg (pe_te i) (hb _)) ?_
  intro F H σ Q ok sl q x
  refine h F H σ _ ok sl (fun F1 H1 M1 d v e1 ok1 r z => ?_) x
  obtain ⟨C, ns, ds, y, fs, rfl, hc, hf, hl, z⟩ := z
  obtain ⟨a, o, dx, vs, rfl, h1, h2, h3, h4, rs⟩ := r
  obtain ⟨v, hv, rv⟩ := reps_lk rs hl
  rw [← hF.hT] at hc
  exact ⟨a, C, dx, o, _, v, rfl, ok1.ex _ _ h1, h2, ok1.ex _ _ h3, hc.xf, hc.na f hf, hv, q F1 H1 M1 y v e1 ok1 rv z⟩
end

/-! ### an __init__ that sets fields alone -/
/-- where a field's value comes from -/
inductive Src where
  | arg (i : Nat)
  | txt (x : Str)
def Src.v (us : List V) : Src → V
  | .arg i => us.getD i .non
  | .txt x => .str x
def Src.d (ds : List D) : Src → D
  | .arg i => ds.getD i .non
  | .txt x => .str x
def mkFs (its : List (Str × Src)) (us : List V) : List (Str × V) := its.map fun p => (p.1, p.2.v us)
def initSp (K : PySem.W.Frag) (C : Addr) (n : Nat) (its : List (Str × Src)) : Sp := fun vs H Q _ => ∃ a us, vs = .ref a :: us ∧ us.length = n ∧ H a = some (exo a C none) ∧
  ∀ dx H', H dx = none → dx ≠ a → H' a = some (exo a C (some dx)) → H' dx = some (exd dx (mkFs its us).reverse) → (∀ b, b ≠ a → b ≠ dx → H' b = H b) → Q .non H'
def initT (K : PySem.W.Frag) : List (Str × TE) → TS
  | [] => tNext
  | p :: r => tSeq (tOst K p.1 (tVar 0) p.2) (initT K r)
theorem init_run {K : PySem.W.Frag} {σ : L2.St} {a C dx : Addr} {D : Ends} (h0 : σ[0]? = some (some (.ref a))) (oc : OexC K C) (ne : dx ≠ a) : ∀ (r : List (Str × TE × V)) (fs : List (Str × V)) (H : Hp),
    (∀ p ∈ r, PySem.W.findIn K (.ref C) p.1 = some none ∧ ∀ H Q, Q p.2.2 H → p.2.1 σ H Q) → H a = some (exo a C (some dx)) → H dx = some (exd dx fs) → fs.length + r.length ≤ 900 →
    (∀ H', H' a = some (exo a C (some dx)) → H' dx = some (exd dx ((r.map fun p => (p.1, p.2.2)).reverse ++ fs)) → (∀ b, b ≠ a → b ≠ dx → H' b = H b) → D.nx σ H') → initT K (r.map fun p => (p.1, p.2.1)) D σ H
  | [], fs, H, _, h1, h2, _, q => q H h1 (by simpa using h2) fun _ _ _ => rfl
  | p :: r, fs, H, hr, h1, h2, hl, q => by
    obtain ⟨hn, hv⟩ := hr p List.mem_cons_self
    refine hv H _ ⟨.ref a, h0, a, C, rfl, oc, hn, .inr ⟨dx, fs, h1, h2, ?_, ?_⟩⟩
    · simp at hl; omega
    · refine init_run h0 oc ne r ((p.1, p.2.2) :: fs) (upd H dx (exd dx ((p.1, p.2.2) :: fs))) (fun z hz => hr z (List.mem_cons_of_mem _ hz)) (by rw [upd_ne (Ne.symm ne)]; exact h1) upd_same (by simp at hl ⊢; omega) fun H' q1 q2 q3 => ?_
      refine q H' q1 ?_ fun b hb1 hb2 => (q3 b hb1 hb2).trans (upd_ne hb2)
      rw [q2]; simp
/-- the statements self.f = .. -/
inductive InitB (N : List Str) (sc : Scope) : List Stmt → List (Str × Src) → Prop where
  | nil : InitB N sc [] []
  | arg {f x : Str} {i : Nat} {p p' p2 pos : Pos} {r : List Stmt} {its : List (Str × Src)} (hN : N[i + 1]? = some x) (hv : Vis sc x) (hd : (x == ("__debug__" : Str)) = false) (hcd : (x == ("__classdict__" : Str)) = false) (h : InitB N sc r its) :
      InitB N sc (.Assign [.Attribute (.Name "self" p) f p'] (.Name x p2) pos :: r) ((f, .arg i) :: its)
  | txt {f x : Str} {j} {p p' p2 pos : Pos} {r : List Stmt} {its : List (Str × Src)} (h : InitB N sc r its) :
      InitB N sc (.Assign [.Attribute (.Name "self" p) f p'] (.Constant (.str x) j p2) pos :: r) ((f, .txt x) :: its)
def srcT : Src → TE
  | .arg i => tVar (i + 1)
  | .txt x => tC (.str x)
theorem init_pss {X : Cx} {N : List Str} {sc : Scope} (hN : X.N = N) (hs : X.env.scope = sc) (h0 : N[0]? = some ("self" : Str)) (hv0 : Vis sc "self") : ∀ {body : List Stmt} {its : List (Str × Src)}, InitB N sc body its → PSs X body (initT X.K (its.map fun p => (p.1, srcT p.2)))
  | _, _, .nil => pss_nil
  | _, _, .arg h1 h2 h3 h4 h => pss_cons (ps_ost (pe_var (i := 0) (by rw [hN]; exact h0) (by rw [hs]; exact hv0)) (pe_var (by rw [hN]; exact h1) (by rw [hs]; exact h2) h3 h4)) (init_pss hN hs h0 hv0 h)
  | _, _, .txt h => pss_cons (ps_ost (pe_var (i := 0) (by rw [hN]; exact h0) (by rw [hs]; exact hv0)) pe_str) (init_pss hN hs h0 hv0 h)
theorem ok_init {P : Program} {w : World} {K : PySem.W.Frag} {mg : Str → Option Value} {base : Heap} {x qual : Str} {params : Arguments} {body : List Stmt} {scope : Scope} {dvs : List V} {kws : List (Str × V)} {f : Addr} {fd : FuncData} {N ps : List Str} {k n : Nat} {C : Addr} {its : List (Str × Src)} {CX : CXT}
    (F : FunD K x qual params body scope dvs kws f fd) (S : FnScope N ps scope) (oc : OexC K C) (hB : InitB N scope body its) (hn : ps.length = n + 1) (h0 : N[0]? = some ("self" : Str)) (hv0 : Vis scope "self") (hna : ∀ p ∈ its, PySem.W.findIn K (.ref C) p.1 = some none) (hne : its ≠ []) (hl : its.length ≤ 800)
    (hi : ∀ p ∈ its, ∀ i, p.2 = .arg i → i < n) : FnOk P w K mg base CX (k + 1) f fd ps (initSp K C n its) := by
  refine F.ok S (fun vs H Q E h => ?_) (fun cdv A outer s H vs Q E hr h => ?_)
  · obtain ⟨a, us, rfl, hu, _⟩ := h
    simp [hu, hn]
  · obtain ⟨a, us, rfl, hu, ha, q⟩ := h
    refine ⟨_, init_pss (X := cxOf CX P w K mg base N qual scope f cdv A outer s H E) rfl rfl h0 hv0 hB, ?_⟩
    have lN : n + 1 ≤ N.length := by
      have := congrArg List.length S.pre
      rw [List.length_take] at this; omega
    have st : ∀ i u, (V.ref a :: us)[i]? = some u → (L2.start N (V.ref a :: us))[i]? = some (some u) := fun i u hh => by
      unfold L2.start
      have hi : i < (V.ref a :: us).length := (List.getElem?_eq_some_iff.mp hh).1
      rw [List.getElem?_append_left (by simpa using hi), List.getElem?_map, hh]; rfl
    have hsrc : ∀ p ∈ its, ∀ (H : Hp) (Q : VK), Q (p.2.v us) H → srcT p.2 (L2.start N (V.ref a :: us)) H Q := by
      intro p hp H Q hQ
      cases e : p.2 with
      | txt x => rw [e] at hQ; exact hQ
      | arg i =>
        rw [e] at hQ
        have hiu : i < us.length := by rw [hu]; exact hi p hp i e
        refine ⟨us[i], st (i + 1) _ (by simp [hiu]), ?_⟩
        simpa [Src.v, hiu] using hQ
    cases its with
    | nil => exact absurd rfl hne
    | cons p r =>
      refine hsrc p List.mem_cons_self H _ ⟨.ref a, st 0 _ rfl, a, C, rfl, oc, hna p List.mem_cons_self, .inl ⟨ha, fun dx hd ne => ?_⟩⟩
      have e1 : (r.map fun p => (p.1, srcT p.2)) = (r.map fun p => (p.1, srcT p.2, p.2.v us)).map fun p => (p.1, p.2.1) := by rw [List.map_map]; rfl
      have e2 : ((r.map fun p => (p.1, srcT p.2, p.2.v us)).map fun p => (p.1, p.2.2)) = mkFs r us := by rw [List.map_map]; rfl
      show initT K (r.map fun p => (p.1, srcT p.2)) _ _ _
      rw [e1]
      refine init_run (st 0 _ rfl) oc ne (r.map fun p => (p.1, srcT p.2, p.2.v us)) [(p.1, p.2.v us)] (upd (upd H dx (exd dx [(p.1, p.2.v us)])) a (exo a C (some dx))) (fun z hz => ?_) upd_same (by rw [upd_ne ne, upd_same]) (by simp at hl ⊢; omega) fun H' q1 q2 q3 => ?_
      · obtain ⟨y, hy, rfl⟩ := List.mem_map.mp hz
        exact ⟨hna y (List.mem_cons_of_mem _ hy), hsrc y (List.mem_cons_of_mem _ hy)⟩
      · refine q dx H' hd ne q1 ?_ fun b h1 h2 => ?_
        · rw [q2, e2]
          simp [mkFs]
        · rw [q3 b h1 h2, upd_ne h1, upd_ne h2]

/-! ### raise -/
/-- the module's name x is the own exception class at C; its __init__ sets its fields -/
def XcC (P : Program) (w : World) (K : PySem.W.Frag) (mg : Str → Option Value) (base : Heap) (x : Str) (C : Addr) (j n : Nat) (its : List (Str × Src)) : Prop :=
  ∃ f fd ps, FnOk P w K mg base (L2.CX P w) j f fd ps (initSp K C n its) ∧ OexC K C ∧ PySem.W.findIn K (.ref C) "__init__" = some (some (.ref f)) ∧ PySem.W.typeIn K (.ref f) = some (.type "function") ∧ mg x = some (.ref C) ∧ Binds K fd ps []
def xNs (its : List (Str × Src)) : List Str := (its.map (·.1)).reverse
def xDs (its : List (Str × Src)) (ds : List D) : List D := (its.map fun p => p.2.d ds).reverse
theorem src_rep {K : PySem.W.Frag} {F : Hp} {ds : List D} {us : List V} (r : Reps K F ds us) : ∀ p : Src, (∀ i, p = .arg i → i < ds.length) → Rep K F (p.d ds) (p.v us)
  | .txt x, _ => rfl
  | .arg i, h => by
    have hi := h i rfl
    obtain ⟨v, hv, rv⟩ := r.get (List.getElem?_eq_getElem hi)
    have e1 : (Src.arg i).d ds = ds[i] := by simp [Src.d, hi]
    have e2 : (Src.arg i).v us = v := by
      show us.getD i .non = v
      rw [List.getD_eq_getElem?_getD, hv]; rfl
    rw [e1, e2]; exact rv
theorem xds_rep {K : PySem.W.Frag} {F : Hp} {ds : List D} {us : List V} (r : Reps K F ds us) : ∀ its : List (Str × Src), (∀ p ∈ its, ∀ i, p.2 = .arg i → i < ds.length) → Reps K F (xDs its ds) (its.map fun p => p.2.v us).reverse
  | [], _ => rfl
  | p :: its, h => by
    have a := xds_rep r its fun q hq => h q (List.mem_cons_of_mem _ hq)
    have b := src_rep r p.2 (h p List.mem_cons_self)
    have c := a.append (Reps.one b)
    simpa [xDs] using c
theorem zip_maps {α β γ : Type} (f : α → β) (g : α → γ) : ∀ l : List α, (l.map f).zip (l.map g) = l.map fun x => (f x, g x)
  | [] => rfl
  | x :: l => by
    show (f x, g x) :: (l.map f).zip (l.map g) = _
    rw [zip_maps f g l]; rfl
theorem mkFs_zip (its : List (Str × Src)) (us : List V) : (mkFs its us).reverse = (xNs its).zip (its.map fun p => p.2.v us).reverse := by
  unfold mkFs xNs
  rw [← List.map_reverse, ← List.map_reverse, ← List.map_reverse, zip_maps]
section
variable {ι : Type} {T : Fm ι} {k : Nat} {P : Program} {w : World} {K : PySem.W.Frag} {mg : Str → Option Value} {base : Heap} {N : List Str} {sc : Scope} {Γ : Gm} {M : Ms} {D : GEnds}
variable {e : Expr} {es : List Expr} {pos p : Pos} {x : Str} {C : Addr} {j n : Nat} {its : List (Str × Src)}
theorem sx_raise (hF : Fc T k P w K mg base N sc) (cc : XcC P w K mg base x C j n its) (hk : j < k) (hi : ∀ p ∈ its, ∀ i, p.2 = .arg i → i < n) (h : AX T (e :: es) Γ M (fun xs M1 => xs.length = n ∧ D.ex Γ C (xNs its) (xDs its xs) M1) (D.ex Γ)) (hn : n ≤ 900 := by decide)
    (hg : sc.names.lookup x = some .globalImplicit := by rfl) (hdb : (x == ("__debug__" : Str)) = false := by decide) (he : ∀ env, starEach (e :: es) env = (false, eval e env) :: starEach es env := by intro _; rfl) (hpl : ∀ env, (backTo pos (starEach es env)).any (·.1) = false := by intro _; rfl)
    (hh : T.hot = false := by assumption) {rp : Pos} : SX T (.Raise (some (.Call (.Name x p) (e :: es) [] pos)) none rp) Γ M D := by
  rw [← hF.hT] at cc
  obtain ⟨f, fd, ps, F, oc, hini, ht, hm, hb⟩ := cc
  refine SX.mk (t := fun _ σ H => tMkO C (initSp T.K C n its) [] (taOf T (e :: es)) σ H fun cls d H' => T.w cls d σ H') (fun i => ?_) ?_
  · refine ps_raise (hF.calm hh i) (hF.tk i) ?_
    have F' : FnOk (T.X i).prog (T.X i).w (T.X i).K (T.X i).mg (T.X i).base (L2.CX (T.X i).prog (T.X i).w) j f fd ps (initSp T.K C n its) := by rw [hF.hP i, hF.hw i, hF.hK i, hF.hmg i, hF.hb i]; exact F
    refine pmk_oex (k := j) (by rw [hF.hK]; exact oc) (by rw [hF.hK]; exact hini) (by rw [hF.hK]; exact ht) F' (((hF.hr i).mono hk).cold hh) (by rw [hF.hK]; exact hb) .nil (fun pins σ H s er s' I z => ?_) (by show (T.X i).env.scope.names.lookup x = _; rw [hF.hs]; exact hg) (by rw [hF.hmg]; exact hm) (pa_ta i) hdb (he _) (hpl _)
    obtain ⟨_, _, _, _, _, _, _, _, _, _, _, _, z⟩ := z
    exact z.elim
  · intro F0 H σ E ok sl q
    refine h F0 H σ _ ok sl (fun F1 H1 M1 xs vs e1 ok1 rs z => ?_) (q.kx sl)
    obtain ⟨hxs, z⟩ := z
    have hvs : vs.length = n := rs.length.trans hxs
    refine ⟨by omega, fun a ha => ⟨a, vs, by rw [List.append_nil], hvs, upd_same, fun dx H' hd ne q1 q2 q3 => ⟨rfl, dx, _, q1, q2, ?_, ?_⟩⟩⟩
    · rw [upd_ne ne] at hd; exact hd
    · have hd1 : H1 dx = none := by rw [upd_ne ne] at hd; exact hd
      have eH : upd (del H' a) dx (.xd (mkFs its vs).reverse) = upd H1 dx (.xd ((xNs its).zip (its.map fun p => p.2.v vs).reverse)) := by
        rw [mkFs_zip]
        funext b
        by_cases h1 : b = dx
        · rw [h1, upd_same, upd_same]
        · rw [upd_ne h1, upd_ne h1]
          by_cases h2 : b = a
          · rw [h2, del_same, ha]
          · rw [del_ne h2, q3 b h2 h1, upd_ne h2]
      rw [eH]
      have e2 : Same F1 (upd F1 dx (.xd ((xNs its).zip (its.map fun p => p.2.v vs).reverse))) := same_upd (ok1.freshF hd1)
      have hx := xds_rep rs its (by rw [hxs]; exact hi)
      refine (q.kx sl) _ _ M1 C dx (xNs its) (xDs its xs) _ (e1.trans e2) (ok1.new hd1) upd_same (by simp [xNs, xDs]) (hx.mono e2) z
end
end G
set_option Elab.async false
set_option linter.all false
set_option maxRecDepth 100000
/-! GTry: try with except clauses (one class, a tuple of classes; with a name or without) on data. -/
namespace G
open PySem PySem.Spec PyProof.Rows L2

/-! ### the caught exception's object comes into the abstract heap -/
section
variable {X : Cx} {pins : List (Addr × Obj)} {σ : L2.St} {H : Hp} {s sI : Shared}
theorem Inv.heat (I : Inv X pins σ H s) (I0 : Inv X pins σ H sI) {a : Addr} {o : Obj} {fv : Array Value} (hs : sI.heap.get? a = none) (ha : s.heap.get? a = some o) (hd : o.data = .fields fv) (na : H a = none) (nL : a ≠ X.env.locals) :
    Inv (X.suite a (X.pn ++ pins)) [] σ (upd H a (xob a o)) s := by
  have up : ∀ {b : Addr} {u : HO}, H b = some u → upd H a (xob a o) b = some u := fun {b u} e => by rw [upd_ne (ne_of_none e na)]; exact e
  have nil : ∀ {b : Addr}, b ≠ a → H b = none → upd H a (xob a o) b = none := fun {b} h e => by rw [upd_ne h]; exact e
  refine ⟨I.ok.suite _ _, I.os, I.bare, ⟨I.base.keep, I.base.slot, fun b u e n hx => nil (fun z => ?_) (I.base.free b u e n hx), I.base.there, fun b xs e => up (I.base.tups b xs e), fun b u v e => up (I.base.frzs b u v e), fun b ps e => ?_⟩, I.loc, I.cell, nil (Ne.symm nL) I.free, fun x c e => nil (fun z => ?_) (I.freeC x c e), fun p hp => ?_, fun b u e => ?_, I.len⟩
  · obtain ⟨u', e'⟩ := I0.base.there b u e hx
    rw [z, hs] at e'; cases e'
  · obtain ⟨more, e'⟩ := I.base.tbls b ps e
    exact ⟨more, up e'⟩
  · obtain ⟨v, u, e', d⟩ := I.cell x c e
    rw [z, ha] at e'; cases e'
    rw [hd] at d; cases d
  · have hp : p ∈ X.pn ++ pins := by simpa using hp
    obtain ⟨h1, h2, h3⟩ := I.pin p hp
    refine ⟨h1, nil (fun z => ?_) h2, h3⟩
    have h4 := (I0.pin p hp).1
    rw [z, hs] at h4; cases h4
  · by_cases hb : b = a
    · subst hb
      rw [upd_same] at e
      cases e
      exact ⟨ha, ⟨_, ha⟩, fun h1 h2 z k => k _ z⟩
    · rw [upd_ne hb] at e
      exact (I.hok b u e).stay (fun _ _ _ z => z) (fun _ z => up z) fun _ _ z => up z
theorem Inv.cool {a : Addr} {pn' : List (Addr × Obj)} (I : Inv (X.suite a (X.pn ++ pins)) pn' σ H s) (ok : X.Ok) : Inv X pins σ H s :=
  ⟨ok, I.os, I.bare, I.base, I.loc, I.cell, I.free, I.freeC, fun p hp => I.pin p (List.mem_append_left _ hp), I.hok, I.len⟩
end
theorem flying_keep {base h h' : Heap} {l : List Env} {e : Addr} {Z : Obj → Prop} (k : ∀ b o, h.get? b = some o → h'.get? b = some o) (x : HandSPX.FlyingZ base l e Z h) : HandSPX.FlyingZ base l e Z h' := by
  obtain ⟨h1, h2, h3, oe, vs, Tb, oT, ts, g1, z, d1, v1, n1, n2, g2, d2, v2⟩ := x
  exact ⟨fun b o q => k b o (h1 b o q), h2, h3.of_keeps fun b o q _ => ⟨o, k b o q, rfl⟩, oe, vs, Tb, oT, ts, k _ _ g1, z, d1, v1, n1, n2, k _ _ g2, d2, v2⟩

/-! ### the clauses' tests -/
section
variable {ι : Type}
/-- the test te of an except clause names the classes cs -/
def TestX (X : Cx) (te : Expr) (cs : List Value) : Prop := ∀ (a : Addr) (pn : List (Addr × Obj)) (o : Obj) (σ : L2.St) (H : Hp) (s : Shared) (b : Bool) (Q : Bool → Shared → Prop) (E E2 : Value → Shared → Prop), Inv (X.suite a pn) [] σ H s → s.heap.get? a = some o →
  PySem.W.exmAny X.K o.cls cs = some b → (∀ h' t', (∀ b o, s.heap.get? b = some o → h'.get? b = some o) → Q b { s with heap := h', toks := t' }) →
  wpAny (model X.prog X.w) (X.A.mark (some (.ref a))) (eval te X.env) (fun c s1 => wpAny (model X.prog X.w) (X.A.mark (some (.ref a))) (excMatches (.ref a) c) Q E2 s1) E s
def TestG (T : Fm ι) (te : Expr) (cs : List Value) : Prop := ∀ i, TestX (T.X i) te cs
variable {T : Fm ι} {k : Nat} {P : Program} {w : World} {K : PySem.W.Frag} {mg : Str → Option Value} {base : Heap} {N : List Str} {sc : Scope} {Γ : Gm} {M : Ms} {D : GEnds}
/-- a name that holds the class c -/
def NmC (mg : Str → Option Value) (x : Str) (c : Value) : Prop := mg x = some c ∨ (mg x = none ∧ bootBuiltins x = some c ∧ x ≠ "__name__")
theorem Fc.names (hF : Fc T k P w K mg base N sc) (i : ι) {x : Str} {c : Value} (h : NmC mg x c) (hg : sc.names.lookup x = some .globalImplicit) (hd : (x == ("__debug__" : Str)) = false) (a : Addr) (pn : List (Addr × Obj)) : Names ((T.X i).suite a pn) x c :=
  ⟨by show (T.X i).env.scope.names.lookup x = _; rw [hF.hs]; exact hg, hd, by show (T.X i).mg x = some c ∨ _; rw [hF.hmg]; exact h⟩
theorem names_ld {X : Cx} {x : Str} {c : Value} {pos : Pos} {pins : List (Addr × Obj)} {σ : L2.St} {H : Hp} {s : Shared} {Q : Value → Shared → Prop} {E : Value → Shared → Prop} (h : Names X x c) (I : Inv X pins σ H s) (q : Q c s) : wpAny (model X.prog X.w) X.A (eval (.Name x pos) X.env) Q E s := by
  obtain ⟨hg, hd, hm | ⟨hm, hv, hn⟩⟩ := h
  · exact ld_glob I hg hm q hd
  · exact ld_blt I hg hm hv q hn hd
theorem exm_any1 {K : PySem.W.Frag} {cls c : Value} {b : Bool} (h : PySem.W.exmAny K cls [c] = some b) : PySem.W.exmOne K cls c = some b := by
  obtain ⟨b1, d1, h1, h2, h3⟩ := PySem.W.exmAny_cons h
  have h2 : some false = some d1 := h2
  cases h2
  rw [h1, h3, Bool.or_false]
theorem test_nm (hF : Fc T k P w K mg base N sc) {x : Str} {c : Value} {pos : Pos} (h : NmC mg x c) (hg : sc.names.lookup x = some .globalImplicit := by rfl) (hd : (x == ("__debug__" : Str)) = false := by decide) : TestG T (.Name x pos) [c] := by
  intro i a pn o σ H s b Q E E2 I ha hx q
  refine names_ld (hF.names i h hg hd a pn) I ?_
  have LT : PySem.W.Looks (model (T.X i).prog (T.X i).w) s.heap (typeOf (.ref a)) o.cls := fun A Q E s' kk z => wpAny_typeOf_ref (kk _ _ ha) z
  exact (PySem.W.exm_one I.kIn LT (exm_any1 hx)).here (q s.heap s.toks fun _ _ z => z)
theorem test_t2 (hF : Fc T k P w K mg base N sc) {x y : Str} {c d : Value} {kk : Nat} {p1 p2 pos : Pos} (h1 : NmC mg x c) (h2 : NmC mg y d) (g1 : sc.names.lookup x = some .globalImplicit := by rfl) (g2 : sc.names.lookup y = some .globalImplicit := by rfl)
    (d1 : (x == ("__debug__" : Str)) = false := by decide) (d2 : (y == ("__debug__" : Str)) = false := by decide) : TestG T (.Tuple [.Name x p1, .Name y p2] kk pos) [c, d] := by
  intro i a pn o σ H s b Q E E2 I ha hx q
  have kp : ∀ b o, s.heap.get? b = some o → (s.heap.push { cls := .type "tuple", data := .seq [c, d].toArray }).get? b = some o := fun _ _ z => Heap.get?_push_of_some _ z
  have LT : PySem.W.Looks (model (T.X i).prog (T.X i).w) s.heap (typeOf (.ref a)) o.cls := fun A Q E s' kk z => wpAny_typeOf_ref (kk _ _ ha) z
  refine wpAny_Tuple (wpAny_items_cons (names_ld (hF.names i h1 g1 d1 a pn) I (wpAny_items_cons (names_ld (hF.names i h2 g2 d2 a pn) I (wpAny_items_nil ⟨by size_fits, ?_⟩)))))
  exact (PySem.W.exm_tup2 (I.kIn.keeps kp) (LT.keeps kp) (Heap.get?_push_size s.heap rfl) hx).here (q _ s.toks kp)
theorem test_t3 (hF : Fc T k P w K mg base N sc) {x y z : Str} {c d e : Value} {kk : Nat} {p1 p2 p3 pos : Pos} (h1 : NmC mg x c) (h2 : NmC mg y d) (h3 : NmC mg z e) (g1 : sc.names.lookup x = some .globalImplicit := by rfl) (g2 : sc.names.lookup y = some .globalImplicit := by rfl) (g3 : sc.names.lookup z = some .globalImplicit := by rfl)
    (d1 : (x == ("__debug__" : Str)) = false := by decide) (d2 : (y == ("__debug__" : Str)) = false := by decide) (d3 : (z == ("__debug__" : Str)) = false := by decide) : TestG T (.Tuple [.Name x p1, .Name y p2, .Name z p3] kk pos) [c, d, e] := by
  intro i a pn o σ H s b Q E E2 I ha hx q
  have kp : ∀ b o, s.heap.get? b = some o → (s.heap.push { cls := .type "tuple", data := .seq [c, d, e].toArray }).get? b = some o := fun _ _ z => Heap.get?_push_of_some _ z
  have LT : PySem.W.Looks (model (T.X i).prog (T.X i).w) s.heap (typeOf (.ref a)) o.cls := fun A Q E s' kk z => wpAny_typeOf_ref (kk _ _ ha) z
  refine wpAny_Tuple (wpAny_items_cons (names_ld (hF.names i h1 g1 d1 a pn) I (wpAny_items_cons (names_ld (hF.names i h2 g2 d2 a pn) I (wpAny_items_cons (names_ld (hF.names i h3 g3 d3 a pn) I (wpAny_items_nil ⟨by size_fits, ?_⟩)))))))
  exact (PySem.W.exm_tup3 (I.kIn.keeps kp) (LT.keeps kp) (Heap.get?_push_size s.heap rfl) hx).here (q _ s.toks kp)

/-! ### try -/
/-- a clause: the classes, the name's slot, the suite -/
structure Hd where
  cs : List Value
  nm : Option Nat
  su : List Stmt
inductive HdsG (T : Fm ι) (N : List Str) (sc : Scope) : List ExceptHandler → List Hd → Prop where
  | nil : HdsG T N sc [] []
  | plain {te : Expr} {cs : List Value} {b0 : Stmt} {su : List Stmt} {pos : Pos} {hds : List ExceptHandler} {l : List Hd} (h : TestG T te cs) (r : HdsG T N sc hds l) : HdsG T N sc (.ExceptHandler (some te) none (b0 :: su) pos :: hds) (⟨cs, none, b0 :: su⟩ :: l)
  | as {te : Expr} {cs : List Value} {n : Str} {i : Nat} {b0 : Stmt} {su : List Stmt} {pos : Pos} {hds : List ExceptHandler} {l : List Hd} (h : TestG T te cs) (hN : N[i]? = some n) (hl : sc.names.lookup n = some .local) (r : HdsG T N sc hds l) :
      HdsG T N sc (.ExceptHandler (some te) (some n) (b0 :: su) pos :: hds) (⟨cs, some i, b0 :: su⟩ :: l)
def GEnds.off (D : GEnds) (i : Nat) : GEnds := ⟨fun Γ M => D.nx (Γ.set i none) M, D.rt, fun Γ M => D.bk (Γ.set i none) M, fun Γ M => D.ct (Γ.set i none) M, fun _ _ _ _ _ => False⟩
def GEnds.nox (D : GEnds) : GEnds := { D with ex := fun _ _ _ _ _ => False }
/-- the suite of a clause runs: in any family of hot contexts -/
def suiteG (k : Nat) (P : Program) (w : World) (K : PySem.W.Frag) (mg : Str → Option Value) (base : Heap) (N : List Str) (sc : Scope) (su : List Stmt) (Γ : Gm) (M : Ms) (D : GEnds) : Prop :=
  ∀ (κ : Type) (T : Fm κ), T.hot = true → Fd T k P w K mg base N sc → SSX T su Γ M D
/-- an exception of the class at C meets the clauses -/
def catchG (k : Nat) (P : Program) (w : World) (K : PySem.W.Frag) (mg : Str → Option Value) (base : Heap) (N : List Str) (sc : Scope) (D : GEnds) : List Hd → Gm → PX
  | [], Γ, C, ns, ds, M => D.ex Γ C ns ds M
  | h :: l, Γ, C, ns, ds, M => ∃ b, PySem.W.exmAny K (.ref C) h.cs = some b ∧ (b = true → match h.nm with
      | none => suiteG k P w K mg base N sc h.su Γ M D.nox
      | some i => suiteG k P w K mg base N sc h.su (Γ.set i (some (.exn C ns ds))) M (D.off i)) ∧ (b = false → catchG k P w K mg base N sc D l Γ C ns ds M)
theorem suite_fd (hD : Fd T k P w K mg base N sc) (i : ι) (a : Addr) : Fd (ι := List (Addr × Obj)) ⟨fun pn => (T.X i).suite a pn, T.K, fun _ _ _ _ => False, true⟩ k P w K mg base N sc where
  fc := {
    hT := hD.fc.hT
    hP := fun _ => hD.fc.hP i
    hw := fun _ => hD.fc.hw i
    hK := fun _ => hD.fc.hK i
    hmg := fun _ => hD.fc.hmg i
    hb := fun _ => hD.fc.hb i
    hN := fun _ => hD.fc.hN i
    nd := hD.fc.nd
    hs := fun _ => hD.fc.hs i
    calm := fun z => nomatch z
    hr := fun _ => ⟨⟨(hD.fc.hr i).rm.dp, (hD.fc.hr i).rm.un⟩, fun z => nomatch z⟩
    tk := fun _ => takes_none5 }
  fn := fun _ => hD.fn i
  own := fun _ => .never
  stk := fun _ => hD.stk i
  frm := fun _ => hD.frm i
/-- what is wished of an exception of the body -/
def wTry (T : Fm ι) (F : Hp) (R : Gm → PX) : WX := fun cls d σ H => ∃ F' Γ M C dd ns ds vs, Same F F' ∧ Ok T.K F' H M ∧ Sl T.K F' σ Γ ∧ cls = .ref C ∧ d = some dd ∧ F' dd = some (.xd (ns.zip vs)) ∧ ns.length = ds.length ∧ Reps T.K F' ds vs ∧ R Γ C ns ds M
theorem sx_try (hD : Fd T k P w K mg base N sc) {body : List Stmt} {h0 : ExceptHandler} {hds : List ExceptHandler} {l : List Hd} {pos : Pos} (hg : HdsG T N sc (h0 :: hds) l)
    (h : ∀ (κ : Type) (T' : Fm κ), T'.hot = T.hot → Fd T' k P w K mg base N sc → SSX T' body Γ M { D with ex := catchG k P w K mg base N sc D l }) : SX T (.Try body (h0 :: hds) [] [] pos) Γ M D := by
  intro F H σ E ok sl q i pins s I
  generalize hX : T.X i = X at I ⊢
  have okX := I.ok
  have stk : X.stack = X.env :: X.outer := by rw [← hX]; exact hD.stk i
  have frm : X.env.frame = some X.env.locals := by rw [← hX]; exact hD.frm i
  have fra : X.A.frames = some (X.env :: X.outer) := okX.frames.trans (congrArg some stk)
  have tkX : Takes X T.w := by rw [← hX]; exact hD.fc.tk i
  have eK : X.K = T.K := by rw [← hX]; exact hD.fc.hK i
  have eN : X.N = N := by rw [← hX]; exact hD.fc.hN i
  have eS : X.env.scope = sc := by rw [← hX]; exact hD.fc.hs i
  let W := wTry T F (catchG k P w K mg base N sc D l)
  let J : Type := { j : List (Addr × Obj) × (Value → Shared → Prop) // Takes (X.tr j.1 j.2) W ∧ PassesOwn (model X.prog X.w) X.A X.env j.2 }
  let T1 : Fm J := ⟨fun j => X.tr j.1.1 j.1.2, T.K, W, T.hot⟩
  have hD1 : Fd T1 k P w K mg base N sc := by
    subst hX
    exact {
      fc := {
        hT := hD.fc.hT, hP := fun _ => hD.fc.hP i, hw := fun _ => hD.fc.hw i, hK := fun _ => hD.fc.hK i, hmg := fun _ => hD.fc.hmg i, hb := fun _ => hD.fc.hb i, hN := fun _ => hD.fc.hN i
        nd := hD.fc.nd, hs := fun _ => hD.fc.hs i, calm := fun z _ => hD.fc.calm z i, hr := fun _ => hD.fc.hr i, tk := fun j => j.2.1 }
      fn := fun _ => hD.fn i, own := fun j => j.2.2, stk := fun _ => hD.stk i, frm := fun _ => hD.frm i }
  have go := h J T1 rfl hD1 F H σ E ok sl ⟨q.nx, q.rt, q.bk, q.ct, fun F' Γ' M' σ' H' C d ns ds vs e ok' sl' hd hl r z => ⟨F', Γ', M', C, d, ns, ds, vs, e, ok', sl', rfl, rfl, hd, hl, r, z⟩⟩
  refine wpAny_Try_except ?_
  let cat : Value → Shared → Prop := fun e s1 => wpAny (model X.prog X.w) X.A (noteFrame e X.env) (fun _ s2 => wpAny (model X.prog X.w) X.A (setFlight e none) (fun _ s3 => wpAny (model X.prog X.w) X.A (handleBy e X.env (h0 :: hds)) (SP X pins E) X.xe s3) X.xe s2) X.xe s1
  have tkJ : Takes (X.tr (X.pn ++ pins) cat) W := by
    rintro u sT ⟨a, B, sI, pins', σ1, H1, cls, d, rfl, J', nb, up, sky, na, os, ag, F1, Γ1, M1, C, dd, ns, ds, vs, e1, ok1, sl1, rfl, rfl, hdd, hln, rs, hc⟩
    have J1 : Inv X pins σ1 H1 sI := J'.ofTry okX
    have skX : Sky B (X.env :: X.outer) a (Zc (.ref C) (some dd)) X.env.locals sT.heap := by rw [← stk]; exact sky
    show wpAny (model X.prog X.w) X.A (noteFrame (.ref a) X.env) _ _ _
    refine Sky.land Zc.steady fra frm skX fun h3 fl3 up3 => ?_
    have noF : a ∉ frs (X.env :: X.outer) := fun z => by
      obtain ⟨oe, fv, g1, _, g2⟩ := fl3.there
      obtain ⟨_, o', g3, g4⟩ := fl3.2.2.1.mem z
      rw [g1] at g3; cases g3
      exact g4 _ g2
    have noL : a ≠ X.env.locals := fun z => noF (List.mem_filterMap.mpr ⟨X.env, List.mem_cons_self, by rw [frm, z]⟩)
    have sIa : sI.heap.get? a = none := by
      cases e : sI.heap.get? a with
      | none => rfl
      | some o =>
        have z := nb a o e (by rw [show (X.tr (X.pn ++ pins) cat).stack = X.env :: X.outer from stk]; exact noF)
        rw [fl3.2.1] at z; cases z
    have hot : ∀ (h4 : Heap) (t4 : Nat), HandSPX.FlyingZ B (X.env :: X.outer) a (Zc (.ref C) (some dd)) h4 → sI.heap.UpToSlots h4 → ∃ o, h4.get? a = some o ∧ XobC C dd o ∧ Inv (X.suite a (X.pn ++ pins)) [] σ1 (upd H1 a (xob a o)) { sT with heap := h4, toks := t4 } := by
      intro h4 t4 fl4 up4
      obtain ⟨o, fv, g1, ⟨z1, z2⟩, g2⟩ := fl4.there
      have J4 : Inv X pins σ1 H1 { sT with heap := h4, toks := t4 } := J1.landed (s' := { sT with heap := h4, toks := t4 }) nb fl4.1 up4 os ag
      exact ⟨o, g1, ⟨z1, z2, fv, g2⟩, Inv.heat J4 J1 sIa g1 g2 na noL⟩
    -- the data behind
    have data : ∀ o : Obj, XobC C dd o → ∃ F2, Same F1 F2 ∧ Ok T.K F2 (upd H1 a (xob a o)) M1 ∧ Rep T.K F2 (.exn C ns ds) (.ref a) := by
      intro o ho
      have e2 : Same F1 (upd F1 a (xob a o)) := same_upd (ok1.freshF na)
      exact ⟨_, e2, ok1.new na, a, o, dd, vs, rfl, upd_same, ho, e2 _ _ hdd, hln, rs.mono e2⟩
    have noex : ∀ {F2 : Hp} {D2 : GEnds} {E2 : Ends}, (∀ Γ C ns ds M, ¬ D2.ex Γ C ns ds M) → KS T.K F2 D2.nx E2.nx → KE T.K F2 D2.rt E2.rt → KS T.K F2 D2.bk E2.bk → KS T.K F2 D2.ct E2.ct →
        KD (ι := List (Addr × Obj)) ⟨fun pn => (T.X i).suite a pn, T.K, fun _ _ _ _ => False, true⟩ F2 D2 E2 := fun hx k1 k2 k3 k4 => ⟨k1, k2, k3, k4, fun _ _ _ _ _ _ _ _ _ _ _ _ _ _ _ _ z => (hx _ _ _ _ _ z).elim⟩
    have loop : ∀ {hs : List ExceptHandler} {L : List Hd}, HdsG T N sc hs L → ∀ (h4 : Heap) (t4 : Nat), HandSPX.FlyingZ B (X.env :: X.outer) a (Zc (.ref C) (some dd)) h4 → sI.heap.UpToSlots h4 → catchG k P w K mg base N sc D L Γ1 C ns ds M1 →
        wpAny (model X.prog X.w) X.A (handleBy (.ref a) X.env hs) (SP X pins E) X.xe { sT with heap := h4, toks := t4 } := by
      intro hs L hk
      induction hk with
      | nil =>
        intro h4 t4 fl4 up4 hc
        refine wpAny_handleBy_nil ?_
        obtain ⟨_, _, _, oe, fv, Tb, _, _, g1, _, g2, g3, _⟩ := id fl4
        unfold PySem.passOn
        refine wpAny_bind (wpAny_field g1 g2 g3 ?_)
        rw [if_neg (fun z => by cases eq_of_beq z)]
        have thr : wpAny (model X.prog X.w) X.A (setFlight (.ref a) X.env.frame) (fun _ s4 => wpAny (model X.prog X.w) X.A (throw (.ref a) : Sem Flow) (SP X pins E) X.xe s4) X.xe { sT with heap := h4, toks := t4 } := by
          rw [frm]
          refine HandSPX.setFlight_upZ fl4 fun h5 hh5 up5 => wpAny_throw (tkX _ _ ?_)
          exact ⟨a, B, sI, pins, σ1, H1, .ref C, some dd, rfl, J1, nb, up4.trans up5, .inr (.inr (by rw [stk]; exact hh5)), na, os, ag, q.ex F1 Γ1 M1 σ1 H1 C dd ns ds vs e1 ok1 sl1 hdd hln rs hc⟩
        first
          | exact wpAny_bind (wpAny_pure (wpAny_bind thr))
          | exact wpAny_bind thr
      | @plain te cs b0 su pos hds l2 ht r ih =>
        intro h4 t4 fl4 up4 hc
        obtain ⟨b, hb, hyes, hno⟩ := hc
        obtain ⟨o, g1, ho, S4⟩ := hot h4 t4 fl4 up4
        have tx := ht i
        rw [hX] at tx
        refine wpAny_handleBy_cons (codeAny_handlers_test (tx a (X.pn ++ pins) o σ1 _ _ b _ _ _ S4 g1 (by rw [ho.cls, eK, hD.fc.hT]; exact hb) fun h5 t5 k5 => ?_)) (by intro z; cases z)
        have fl5 := flying_keep k5 fl4
        have up5 := up4.trans (Heap.UpToSlots.of_keeps k5)
        cases b with
        | false => exact ih h5 t5 fl5 up5 (hno rfl)
        | true =>
          refine codeAny_handlers_suite (HandSPX.lands_againZ fl5 fun h6 fl6 up6 => ?_)
          obtain ⟨o6, g6, ho6, S6⟩ := hot h6 t5 fl6 (up5.trans up6)
          obtain ⟨F2, e2, ok2, re⟩ := data o6 ho6
          have qm := q.mono (e1.trans e2)
          have run := hyes rfl (List (Addr × Obj)) _ rfl (suite_fd hD i a) F2 _ σ1 E ok2 (sl1.mono e2) (noex (fun _ _ _ _ _ z => z) qm.nx qm.rt qm.bk qm.ct) (X.pn ++ pins) [] { sT with heap := h6, toks := t5 }
          dsimp only at run
          rw [hX] at run
          refine wpAny_mono (run S6) (fun f s6 hsp => ?_) fun _ _ z => False.elim z
          cases f with
          | next => obtain ⟨σ6, H6, I6, q6⟩ := hsp; exact ⟨_, _, G.Inv.cool I6 okX, q6⟩
          | brk => obtain ⟨σ6, H6, I6, q6⟩ := hsp; exact ⟨_, _, G.Inv.cool I6 okX, q6⟩
          | cont => obtain ⟨σ6, H6, I6, q6⟩ := hsp; exact ⟨_, _, G.Inv.cool I6 okX, q6⟩
          | ret u => obtain ⟨v6, σ6, H6, I6, r6, q6⟩ := hsp; exact ⟨_, _, _, G.Inv.cool I6 okX, r6, q6⟩
      | @as te cs n j b0 su pos hds l2 ht hN hl r ih =>
        intro h4 t4 fl4 up4 hc
        obtain ⟨b, hb, hyes, hno⟩ := hc
        obtain ⟨o, g1, ho, S4⟩ := hot h4 t4 fl4 up4
        have tx := ht i
        rw [hX] at tx
        refine wpAny_handleBy_cons (codeAny_handlers_test (tx a (X.pn ++ pins) o σ1 _ _ b _ _ _ S4 g1 (by rw [ho.cls, eK, hD.fc.hT]; exact hb) fun h5 t5 k5 => ?_)) (by intro z; cases z)
        have fl5 := flying_keep k5 fl4
        have up5 := up4.trans (Heap.UpToSlots.of_keeps k5)
        have lcl : X.env.scope.names.lookup n = some .local := by rw [eS]; exact hl
        have ndX : X.N.Nodup := by rw [eN]; exact hD.fc.nd
        have atX : X.N[j]? = some n := by rw [eN]; exact hN
        cases b with
        | false => exact ih h5 t5 fl5 up5 (hno rfl)
        | true =>
          refine codeAny_handlers_suite_as (HandSPX.lands_againZ fl5 fun h6 fl6 up6 => ?_)
          obtain ⟨o6, g6, ho6, S6⟩ := hot h6 t5 fl6 (up5.trans up6)
          obtain ⟨F2, e2, ok2, re⟩ := data o6 ho6
          have qm := q.mono (e1.trans e2)
          refine store_ok (X := X.suite a (X.pn ++ pins)) (v := .ref a) S6 ndX atX (.inl lcl) rfl (fun s7 S7 => ?_) (.inr lcl)
          have off : ∀ {R : Gm → Ms → Prop} {Z : L2.St → Hp → Prop}, KS T.K F2 R Z → KS T.K F2 (fun Γ M => R (Γ.set j none) M) (fun σ' H' => Z (σ'.set j none) H') := fun k F' Γ' M' σ' H' e ok' sl' z => k F' _ M' _ H' e ok' (sl'.forget j) z
          have run := hyes rfl (List (Addr × Obj)) _ rfl (suite_fd hD i a) F2 _ (σ1.set j (some (.ref a))) { nx := fun σ' H' => E.nx (σ'.set j none) H', rt := E.rt, bk := fun σ' H' => E.bk (σ'.set j none) H', ct := fun σ' H' => E.ct (σ'.set j none) H' } ok2 ((sl1.mono e2).set re j) (noex (fun _ _ _ _ _ z => z) (off qm.nx) qm.rt (off qm.bk) (off qm.ct)) (X.pn ++ pins) [] s7
          dsimp only at run
          rw [hX] at run
          refine wpAny_mono (run S7) (fun f s8 hsp => ?_) fun _ _ z => False.elim z
          have fin : ∀ {σ8 : L2.St} {H8 : Hp} {R : Shared → Prop}, Inv (X.suite a (X.pn ++ pins)) [] σ8 H8 s8 → (∀ s9, Inv X pins (σ8.set j none) H8 s9 → R s9) → wpAny (model X.prog X.w) X.A (do bindName X.env n .none; unbindBehindTheSuite X.env n pos) (fun _ s9 => R s9) X.xe s8 := fun S8 hR => gone_ok (G.Inv.cool S8 okX) ndX atX lcl hR
          cases f with
          | next => obtain ⟨σ8, H8, I8, q8⟩ := hsp; exact fin I8 fun s9 I9 => ⟨_, _, I9, q8⟩
          | brk => obtain ⟨σ8, H8, I8, q8⟩ := hsp; exact fin I8 fun s9 I9 => ⟨_, _, I9, q8⟩
          | cont => obtain ⟨σ8, H8, I8, q8⟩ := hsp; exact fin I8 fun s9 I9 => ⟨_, _, I9, q8⟩
          | ret u => obtain ⟨v8, σ8, H8, I8, r8, q8⟩ := hsp; exact fin I8 fun s9 I9 => ⟨_, _, _, I9, r8, q8⟩
    exact loop hg h3 sT.toks fl3 (up.trans up3) hc
  have run := go ⟨(X.pn ++ pins, cat), tkJ, PassesOwn.looking⟩ [] s (I.toTry cat)
  refine wpAny_mono run (fun f s1 z => ?_) fun _ _ z => z
  cases f with
  | next => obtain ⟨σ2, H2, I2, z⟩ := z; exact wpAny_execs_nil ⟨σ2, H2, I2.ofTry okX, z⟩
  | brk => obtain ⟨σ2, H2, I2, z⟩ := z; exact ⟨σ2, H2, I2.ofTry okX, z⟩
  | cont => obtain ⟨σ2, H2, I2, z⟩ := z; exact ⟨σ2, H2, I2.ofTry okX, z⟩
  | ret u => obtain ⟨v, σ2, H2, I2, r, z⟩ := z; exact ⟨v, σ2, H2, I2.ofTry okX, r, z⟩
end
end G
set_option Elab.async false
set_option linter.all false
set_option maxRecDepth 100000
set_option maxHeartbeats 1000000
set_option pp.maxSteps 1200
/-! GHead: the head's Hook: defs by paths, any Booleans of the fragment. -/
namespace G
open PySem PySem.Spec PyProof.Rows L2 He
structure DefA where
  at_ : PySem.W.Frag → Addr
  name : Str
  qual : Str
  params : Arguments
  body : List Stmt
  scope : Scope
def fnA (K : PySem.W.Frag) (a : Addr) : FnW := match K.lookup a with
  | some ⟨_, _, .func fd, _⟩ => some (fd.name, fd.qualname, fd.params, fd.body, fd.scope, fd.globals, fd.closure, fd.builtins)
  | _ => none
def DefA.val (d : DefA) : FnW := some (d.name, d.qual, d.params, .stmts d.body, d.scope, mainGlobals, [], builtinsNs)
def DefA.ok (K : PySem.W.Frag) (d : DefA) : Bool := PySem.W.keepIn K (.ref (d.at_ K)) && (match K.lookup (d.at_ K) with
  | some ⟨_, _, .func fd, _⟩ => PySem.W.codeIn K fd.code d.qual && (dflB K fd.defaults [] && kwdB K fd.kwdefaults [])
  | _ => false)
theorem DefA.funD {K : PySem.W.Frag} {d : DefA} (e : fnA K (d.at_ K) = d.val) (c : d.ok K = true) : ∃ fd, FunD K d.name d.qual d.params d.body d.scope [] [] (d.at_ K) fd := by
  obtain ⟨kp, c2⟩ := ba c
  unfold fnA at e
  cases q : K.lookup (d.at_ K) with
  | none =>
    rw [q] at c2
    cases c2
  | some o =>
    obtain ⟨oc, od, dt, osl⟩ := o
    rw [q] at c2 e
    cases dt with
    | func fd =>
      obtain ⟨n1, n2, n3, n4, n5, n6, n7, n8, n9, n10, n11, n12, n13, n14, n15⟩ := fd
      have e2 : (some (n1, n2, n3, n4, n5, n6, n7, n15) : FnW) = some (d.name, d.qual, d.params, .stmts d.body, d.scope, mainGlobals, [], builtinsNs) := e
      simp only [Option.some.injEq, Prod.mk.injEq] at e2
      obtain ⟨h1, h2, h3, h4, h5, h6, h7, h8⟩ := e2
      subst h1 h2 h3 h4 h5 h6 h7 h8
      have c3 : (PySem.W.codeIn K n13 d.qual && (dflB K n8 [] && kwdB K n9 [])) = true := c2
      obtain ⟨k1, k2⟩ := ba c3
      obtain ⟨k3, k4⟩ := ba k2
      exact ⟨_, ⟨oc, od, n8, n9, n10, n11, n12, n13, n14, osl, rfl, q, k1, dflB_ok k3, kwdB_ok k4⟩, kp⟩
    | _ => cases c2
abbrev FaB : Type := PySem.W.Frag → Bool
def obsA (fa : List FaB) (fn : List DefA) (K : PySem.W.Frag) : AlD := ((fa.all fun f => f K) && fn.all fun d => d.ok K, fn.map fun d => fnA K (d.at_ K))
def valA (fn : List DefA) : AlD := (true, fn.map DefA.val)
def SaysA (fa : List FaB) (fn : List DefA) (K : PySem.W.Frag) : Prop := obsA fa fn K = valA fn
def obsAG (n : Nat) (fa : List FaB) (fn : List DefA) (g : Addr → Option Obj) : AlD := obsA fa fn (frG g (cStatics :: asD g n))
def hookA (n : Nat) (fa : List FaB) (fn : List DefA) : PySem.W.Hook where
  α := AlD
  obs := fun s => obsAG n fa fn s.heap.get?
  val := fun _ => valA fn
  says := fun _ h => ∃ K : PySem.W.Frag, K.In h ∧ SaysA fa fn K
  of := fun _ _ e => ⟨_, frG_in, e⟩
  keeps := fun _ _ _ ⟨K, hK, c⟩ k => ⟨K, PySem.W.Frag.In.keeps hK k, c⟩
theorem obsAG_eq {n : Nat} {fa : List FaB} {fn : List DefA} {g : Addr → Option Obj} {s : Shared} (h : ∀ a, g a = s.heap.get? a) : obsAG n fa fn g = (hookA n fa fn).obs s := by
  have e : g = s.heap.get? := funext h
  rw [e] <;> rfl
section
variable {fa : List FaB} {fn : List DefA} {K : PySem.W.Frag}
theorem SaysA.all (c : SaysA fa fn K) : ∀ f ∈ fa, f K = true := by
  have c1 := (ba (show ((fa.all fun f => f K) && fn.all fun d => d.ok K) = true from congrArg (fun z : AlD => z.1) c)).1
  exact List.all_eq_true.mp c1
theorem SaysA.fact (c : SaysA fa fn K) (i : Nat) {f : FaB} (h : fa[i]? = some f := by rfl) : f K = true := c.all f (List.mem_of_getElem? h)
theorem SaysA.def_ (c : SaysA fa fn K) (i : Nat) {d : DefA} (h : fn[i]? = some d := by rfl) : ∃ fd, FunD K d.name d.qual d.params d.body d.scope [] [] (d.at_ K) fd := by
  have c2 := (ba (show ((fa.all fun f => f K) && fn.all fun d => d.ok K) = true from congrArg (fun z : AlD => z.1) c)).2
  have e : fn.map (fun d => fnA K (d.at_ K)) = fn.map DefA.val := congrArg (fun z : AlD => z.2) c
  have e2 : (fn.map fun d => fnA K (d.at_ K))[i]? = (fn.map DefA.val)[i]? := by rw [e]
  rw [List.getElem?_map, List.getElem?_map, h] at e2
  exact DefA.funD (Option.some.inj e2) (List.all_eq_true.mp c2 d (List.mem_of_getElem? h))
end
/-! ### a datum in the text -/
mutual
def datB (K : PySem.W.Frag) : D → Value → Bool
  | .bl b, .bool c => b == c
  | .int i, .int j _ => decide (i = j)
  | .str x, .str y _ => decide (x = y)
  | .tup ds, .ref a => (match K.lookup a with
    | some ⟨.type c, _, .seq its _, _⟩ => decide (c = "tuple") && (decide (its.size ≤ sizeLine) && datsB K ds its.toList)
    | _ => false)
  | _, _ => false
def datsB (K : PySem.W.Frag) : List D → List Value → Bool
  | [], [] => true
  | d :: ds, u :: us => datB K d u && datsB K ds us
  | _, _ => false
end
mutual
theorem datB_ok {K : PySem.W.Frag} : ∀ (d : D) (u : Value), datB K d u = true → ∃ v, RelV v u ∧ ∀ F, Rep K F d v
  | .bl b, u, h => by
    cases u with
    | bool c =>
      have h1 : (b == c) = true := h
      exact ⟨.bl b, by rw [eq_of_beq h1]; rfl, fun _ => rfl⟩
    | _ => cases h
  | .int i, u, h => by
    cases u with
    | int j t =>
      have e : i = j := of_decide_eq_true h
      exact ⟨.int i, ⟨t, by rw [e]⟩, fun _ => rfl⟩
    | _ => cases h
  | .str x, u, h => by
    cases u with
    | str y t =>
      have e : x = y := of_decide_eq_true h
      exact ⟨.str x, ⟨t, by rw [e]⟩, fun _ => rfl⟩
    | _ => cases h
  | .tup ds, u, h => by
    cases u with
    | ref a =>
      have h1 : (match K.lookup a with
        | some ⟨.type c, _, .seq its _, _⟩ => decide (c = "tuple") && (decide (its.size ≤ sizeLine) && datsB K ds its.toList)
        | _ => false) = true := h
      cases q : K.lookup a with
      | none =>
        rw [q] at h1
        cases h1
      | some o =>
        obtain ⟨oc, od, dt, osl⟩ := o
        rw [q] at h1
        cases oc with
        | type c =>
          cases dt with
          | seq its n =>
            obtain ⟨h2, h3⟩ := ba (show (decide (c = "tuple") && (decide (its.size ≤ sizeLine) && datsB K ds its.toList)) = true from h1)
            obtain ⟨h4, h5⟩ := ba h3
            obtain ⟨vs, h6, h7⟩ := datsB_ok ds its.toList h5
            exact ⟨.ref a, rfl, fun F => ⟨a, vs, rfl, .inr ⟨_, its, n, q, congrArg Value.type (of_decide_eq_true h2), rfl, of_decide_eq_true h4, h6⟩, h7 F⟩⟩
          | _ => cases h1
        | _ => cases dt <;> cases h1
    | _ => cases h
  | .non, u, h => by cases u <;> cases h
  | .ref _, u, h => by cases u <;> cases h
  | .ty _, u, h => by cases u <;> cases h
  | .lst _, u, h => by cases u <;> cases h
  | .rol _, u, h => by cases u <;> cases h
  | .ins _ _ _, u, h => by cases u <;> cases h
  | .dic _ _, u, h => by cases u <;> cases h
  | .exn _ _ _, u, h => by cases u <;> cases h
theorem datsB_ok {K : PySem.W.Frag} : ∀ (ds : List D) (us : List Value), datsB K ds us = true → ∃ vs, Vals vs us ∧ ∀ F, Reps K F ds vs
  | [], us, h => by
    cases us with
    | nil => exact ⟨[], .nil, fun _ => rfl⟩
    | cons _ _ => cases h
  | d :: ds, us, h => by
    cases us with
    | nil => cases h
    | cons u us =>
      obtain ⟨h1, h2⟩ := ba (show (datB K d u && datsB K ds us) = true from h)
      obtain ⟨v, r, e⟩ := datB_ok d u h1
      obtain ⟨vs, rs, es⟩ := datsB_ok ds us h2
      exact ⟨v :: vs, .cons r rs, fun F => ⟨v, vs, rfl, e F, es F⟩⟩
end
/-! ### facts by Booleans -/
def gvB (x : Str) (d : D) : FaB := fun K => match PySem.W.nsIn K mainGlobals x with
  | some (some u) => datB K d u
  | _ => false
def biB (x : Str) (id : String) : FaB := fun K => eqO (PySem.W.nsIn K mainGlobals x) (some (some (.builtin id)))
def faB (f : Fa) : FaB := fun K => f.ok K
section
variable {K : PySem.W.Frag} {h : Heap} {mg : Str → Option Value}
theorem gv_ok (X : K.In h) (G : h.Ns mainGlobals mg) {x : Str} {d : D} (c : gvB x d K = true) : Gv K mg x d := by
  unfold gvB at c
  cases e : PySem.W.nsIn K mainGlobals x with
  | none =>
    rw [e] at c
    cases c
  | some o =>
    rw [e] at c
    cases o with
    | none => cases c
    | some u =>
      obtain ⟨v, r, q⟩ := datB_ok d u c
      exact ⟨v, u, PySem.W.mg_of X G e, r, q⟩
theorem bi_ok (X : K.In h) (G : h.Ns mainGlobals mg) {x : Str} {id : String} (c : biB x id K = true) : mg x = some (.builtin id) := PySem.W.mg_of X G (eqO_ok c)
end
/-- an own exception class over ValueError -/
def oexB (K : PySem.W.Frag) (C : Addr) : Bool := (match K.lookup C with
  | some ⟨.type t, _, .cls cd, sl⟩ => (match cd.mro, sl.toList with
    | .ref C' :: bm, [_, _, _, _, some (.builtin n), _] => decide (t = "type") && (decide (C' = C) && (decide (n = "ValueError.__new__") && (!cd.hasDel && (cd.hasDict && PySem.HandSPX.refsVE bm))))
    | _, _ => false)
  | _ => false) && (eqO (PySem.W.findIn K (.ref C) "__setattr__") (some (some (.builtin "object.__setattr__"))) && (decide (PySem.W.subIn K (.ref C) (.type "BaseException") = some true) && (decide (PySem.W.typeIn K (.ref C) = some (.type "type")) && PySem.W.keepIn K (.ref C))))
theorem oex_ok {K : PySem.W.Frag} {C : Addr} (c : oexB K C = true) : OexC K C := by
  obtain ⟨c0, c⟩ := ba c
  obtain ⟨c1, c⟩ := ba c
  obtain ⟨c2, c⟩ := ba c
  obtain ⟨c3, c4⟩ := ba c
  refine ⟨?_, eqO_ok c1, of_decide_eq_true c2, of_decide_eq_true c3, c4⟩
  split at c0
  · rename_i t dd cd sl ho
    split at c0
    · rename_i C' bm k0 k1 k2 k3 n k5 hm hs
      obtain ⟨e1, c0⟩ := ba c0
      obtain ⟨e2, c0⟩ := ba c0
      obtain ⟨e3, c0⟩ := ba c0
      obtain ⟨e4, c0⟩ := ba c0
      obtain ⟨e5, e6⟩ := ba c0
      have e1 := of_decide_eq_true e1
      have e2 := of_decide_eq_true e2
      have e3 := of_decide_eq_true e3
      obtain ⟨nm, bs, mro, ns, qn, hd, sn, sub, ab, col, del⟩ := cd
      dsimp only at hm e4 e5
      have e4 : del = false := by cases del <;> first | rfl | cases e4
      subst hm e1 e2 e3 e4 e5
      have hsl : sl = #[k0, k1, k2, k3, some (.builtin "ValueError.__new__"), k5] := by
        obtain ⟨l⟩ := sl
        simp only at hs
        rw [hs]
      subst hsl
      exact ⟨nm, qn, ns, bs, bm, sn, sub, ab, col, dd, k0, k1, k2, k3, k5, ho, e6⟩
    · cases c0
  · cases c0
/-- what a caught error's class must say -/
def excB (K : PySem.W.Frag) (C : Addr) : Bool := xfB K C && (eqO (PySem.W.findIn K (.ref C) "__class__") (some (some (.builtin "object.__class__"))) && (eqO (PySem.W.specialIn K (.builtin "object.__class__") "__get__") (some (some (.builtin "getset_descriptor.__get__"))) && (decide (PySem.W.takesIn K (.builtin "object.__class__") = some true) && decide (PySem.W.mroIn K C (.type "object") = some true))))
theorem exc_ok {K : PySem.W.Frag} {C : Addr} (c : excB K C = true) : ExcC K C := by
  obtain ⟨c0, c⟩ := ba c
  obtain ⟨c1, c⟩ := ba c
  obtain ⟨c2, c⟩ := ba c
  obtain ⟨c3, c4⟩ := ba c
  have x := xfB_ok c0
  exact ⟨x.ga, x.gg, x.exC, x.hdC, eqO_ok c1, eqO_ok c2, of_decide_eq_true c3, of_decide_eq_true c4⟩
def ownB (K : PySem.W.Frag) (C : Addr) : Bool := eqO (PySem.W.findIn K (.ref C) "__class__") (some (some (.builtin "object.__class__"))) && (eqO (PySem.W.specialIn K (.builtin "object.__class__") "__get__") (some (some (.builtin "getset_descriptor.__get__"))) && (decide (PySem.W.takesIn K (.builtin "object.__class__") = some true) && decide (PySem.W.mroIn K C (.type "object") = some true)))
theorem own_ok {K : PySem.W.Frag} {C : Addr} (k : Cls K C) (c : ownB K C = true) : OwnF K C := by
  obtain ⟨c1, c⟩ := ba c
  obtain ⟨c2, c⟩ := ba c
  obtain ⟨c3, c4⟩ := ba c
  exact ⟨k, eqO_ok c1, eqO_ok c2, of_decide_eq_true c3, of_decide_eq_true c4⟩
/-- a staticmethod's def, a property's -/
def recA (K : PySem.W.Frag) (p : Addr) (k : String) : Addr := match PySem.W.recIn K p k with
  | some (.ref g :: _) => g
  | _ => 0
def stR (K : PySem.W.Frag) (C : Addr) (m : Str) : Addr := match PySem.W.findCls K (.ref C) (.type "type") m with
  | some (.get _ (.ref p) _ _) => p
  | _ => 0
def stA (K : PySem.W.Frag) (C : Addr) (m : Str) : Addr := recA K (stR K C m) "staticmethod"
def prA (K : PySem.W.Frag) (C : Addr) (m : Str) : Addr := recA K (ma K C m) "property"
def recB (K : PySem.W.Frag) (p : Addr) (k : String) : Bool := match PySem.W.recIn K p k with
  | some (.ref _ :: _) => true
  | _ => false
theorem rec_ok {K : PySem.W.Frag} {p : Addr} {k : String} (c : recB K p k = true) : ∃ rest, PySem.W.recIn K p k = some (.ref (recA K p k) :: rest) := by
  unfold recB at c
  unfold recA
  split at c
  · rename_i g r e
    rw [e]
    exact ⟨r, rfl⟩
  · cases c
def staB (K : PySem.W.Frag) (C : Addr) (m : Str) : Bool := PySem.W.readsIn K C (.type "type") && (eqO (PySem.W.specialIn K (.ref C) "__getattribute__") (some (some (.builtin "type.__getattribute__"))) && ((match PySem.W.findCls K (.ref C) (.type "type") m with
  | some (.get (.builtin g) (.ref p) .none (.ref C')) => decide (g = "staticmethod.__get__") && (decide (p = stR K C m) && decide (C' = C))
  | _ => false) && (recB K (stR K C m) "staticmethod" && PySem.W.keepIn K (.ref (stA K C m)))))
theorem sta_ok {K : PySem.W.Frag} {C : Addr} {m : Str} (c : staB K C m = true) : StatM K C m (stA K C m) := by
  obtain ⟨c1, c⟩ := ba c
  obtain ⟨c2, c⟩ := ba c
  obtain ⟨c3, c⟩ := ba c
  obtain ⟨c4, c5⟩ := ba c
  obtain ⟨rest, e⟩ := rec_ok c4
  refine ⟨⟨c1, eqO_ok c2⟩, ⟨stR K C m, rest, ?_, e⟩, c5⟩
  split at c3
  · rename_i g p C' q
    obtain ⟨a1, c3⟩ := ba c3
    obtain ⟨a2, a3⟩ := ba c3
    rw [q, of_decide_eq_true a1, ← of_decide_eq_true a2, of_decide_eq_true a3]
  · cases c3
def proB (K : PySem.W.Frag) (C : Addr) (m : Str) : Bool := eqO (PySem.W.findIn K (.ref C) m) (some (some (.ref (ma K C m)))) && (eqO (PySem.W.specialIn K (.ref (ma K C m)) "__get__") (some (some (.builtin "property.__get__"))) && (decide (PySem.W.takesIn K (.ref (ma K C m)) = some true) && recB K (ma K C m) "property"))
theorem pro_ok {K : PySem.W.Frag} {C : Addr} {m : Str} (c : proB K C m = true) : PropOf K C m (ma K C m) (prA K C m) := by
  obtain ⟨c1, c⟩ := ba c
  obtain ⟨c2, c⟩ := ba c
  obtain ⟨c3, c4⟩ := ba c
  exact ⟨eqO_ok c1, eqO_ok c2, of_decide_eq_true c3, rec_ok c4⟩
/-! ### more room -/
section
variable {hot : Bool} {P : Program} {w : World} {K : PySem.W.Frag} {mg : Str → Option Value} {base : Heap} {x m : Str} {C : Addr} {j j' : Nat} {ps : List Str} {ds : DS}
theorem FnM.mono {f : Addr} {fd : FuncData} {sp : Sp} (F : FnM hot P w K mg base j f fd ps sp) (h : j ≤ j') : FnM hot P w K mg base j' f fd ps sp := ⟨F.len, fun A fr s H ar us vs Q E hr => F.run A fr s H ar us vs Q E (hr.mono h)⟩
theorem Cal.mono (c : Cal hot P w K mg base x j ps ds) (h : j ≤ j') : Cal hot P w K mg base x j' ps ds := by
  obtain ⟨f, fd, F, r⟩ := c
  exact ⟨f, fd, F.mono h, r⟩
theorem MkC.mono (c : MkC hot P w K mg base x C j ps ds) (h : j ≤ j') : MkC hot P w K mg base x C j' ps ds := by
  obtain ⟨f, fd, F, r⟩ := c
  exact ⟨f, fd, F.mono h, r⟩
theorem EqC.mono (c : EqC hot P w K mg base C j ps ds) (h : j ≤ j') : EqC hot P w K mg base C j' ps ds := by
  obtain ⟨f, fd, F, r⟩ := c
  exact ⟨f, fd, F.mono h, r⟩
end
end G
set_option Elab.async false
set_option linter.all false
set_option maxRecDepth 100000
set_option maxHeartbeats 1000000
/-! GHeadB: the head's Hook over the named globals alone, layer by layer. -/
namespace G
open PySem PySem.Spec PyProof.Rows L2 He
def pickG (g : Addr → Option Obj) (names : List Str) : List Addr := match g mainGlobals with
  | some ⟨_, _, .dict es _, _⟩ => es.toList.flatMap fun e => if names.any (fun x => e.key.isStr x) then refV e.val else []
  | _ => []
def refsB (g : Addr → Option Obj) (as : List Addr) : List Addr := as.flatMap fun a => match g a with
  | some o => refsD o
  | none => []
def layB (g : Addr → Option Obj) : Nat → List Addr → List Addr
  | 0, as => as
  | n + 1, as => as ++ layB g n (refsB g as)
def asB (g : Addr → Option Obj) (n : Nat) (names : List Str) : List Addr := cStatics :: mainGlobals :: layB g n (pickG g names)
def obsBG (n : Nat) (names : List Str) (fa : List FaB) (fn : List DefA) (g : Addr → Option Obj) : AlD := obsA fa fn (frG g (asB g n names))
def hookB (n : Nat) (names : List Str) (fa : List FaB) (fn : List DefA) : PySem.W.Hook where
  α := AlD
  obs := fun s => obsBG n names fa fn s.heap.get?
  val := fun _ => valA fn
  says := fun _ h => ∃ K : PySem.W.Frag, K.In h ∧ SaysA fa fn K
  of := fun _ _ e => ⟨_, frG_in, e⟩
  keeps := fun _ _ _ ⟨K, hK, c⟩ k => ⟨K, PySem.W.Frag.In.keeps hK k, c⟩
theorem obsBG_eq {n : Nat} {names : List Str} {fa : List FaB} {fn : List DefA} {g : Addr → Option Obj} {s : Shared} (h : ∀ a, g a = s.heap.get? a) : obsBG n names fa fn g = (hookB n names fa fn).obs s := by
  have e : g = s.heap.get? := funext h
  rw [e] <;> rfl
end G
set_option Elab.async false
set_option linter.all false
set_option maxRecDepth 100000
/-! the header of law_k60_whole_standing_rows: where its defs stand, their names (printed by mkh.py). -/
namespace K7
open PySem PySem.Spec PyProof.Rows L2 G
def top (i : Nat) : Stmt := PySem.Challenge.pw_sharedsites_k60_whole_standing_rows.main.body.getD i (.Pass ⟨0, 0, 0, 0⟩)
abbrev s__wall : Stmt := top 1
abbrev n__wall : List Str := ["k"]
abbrev s_BadRow___init__ : Stmt := inClass (top 4) 0
abbrev n_BadRow___init__ : List Str := ["self", "value"]
abbrev s_BadTurn___init__ : Stmt := inClass (top 5) 0
abbrev n_BadTurn___init__ : List Str := ["self", "value"]
abbrev s_is_number : Stmt := top 7
abbrev n_is_number : List Str := ["value"]
abbrev s_are_numbers : Stmt := top 8
abbrev n_are_numbers : List Str := ["values", "many", "value"]
abbrev s_divisor_of : Stmt := top 9
abbrev n_divisor_of : List Str := ["numbers", "found", "number"]
abbrev s_multiple_of : Stmt := top 10
abbrev n_multiple_of : List Str := ["numbers", "found", "number"]
abbrev s_integer_of : Stmt := top 13
abbrev n_integer_of : List Str := ["word", "digits"]
abbrev s_integers_of : Stmt := top 14
abbrev n_integers_of : List Str := ["text", "many", "words", "numbers", "word"]
abbrev s_fraction_of : Stmt := top 15
abbrev n_fraction_of : List Str := ["word", "numbers", "top", "bottom", "part"]
abbrev s_vector_of : Stmt := top 16
abbrev n_vector_of : List Str := ["text", "parts", "bottom", "x", "y", "z", "word", "top", "low"]
abbrev s_full_lines : Stmt := top 17
abbrev n_full_lines : List Str := ["text", "pieces"]
abbrev s_fraction : Stmt := top 19
abbrev n_fraction : List Str := ["top", "bottom", "common"]
abbrev s_fraction_text : Stmt := top 20
abbrev n_fraction_text : List Str := ["value", "top", "bottom"]
abbrev s_is_vector : Stmt := top 21
abbrev n_is_vector : List Str := ["value"]
abbrev s_lowest : Stmt := top 22
abbrev n_lowest : List Str := ["vector", "x", "y", "z", "n", "common"]
abbrev s_vector_text : Stmt := top 23
abbrev n_vector_text : List Str := ["vector", "x", "y", "z", "n", "top"]
abbrev s_is_four : Stmt := top 25
abbrev n_is_four : List Str := ["value"]
abbrev s_four_product : Stmt := top 26
abbrev n_four_product : List Str := ["one", "two", "a", "b", "c", "d", "e", "f", "g", "h"]
abbrev s_four_back : Stmt := top 27
abbrev n_four_back : List Str := ["four", "a", "b", "c", "d"]
abbrev s_four_size : Stmt := top 28
abbrev n_four_size : List Str := ["four", "a", "b", "c", "d"]
abbrev s_four_minus : Stmt := top 29
abbrev n_four_minus : List Str := ["four", "a", "b", "c", "d"]
abbrev s_four_parts : Stmt := top 30
abbrev n_four_parts : List Str := ["four", "common", "a", "b", "c", "d"]
abbrev s_primitive : Stmt := top 31
abbrev n_primitive : List Str := ["four"]
abbrev s_least_four : Stmt := top 32
abbrev n_least_four : List Str := ["four", "found"]
abbrev s_four_lines : Stmt := top 33
abbrev n_four_lines : List Str := ["four", "a", "b", "c", "d"]
abbrev s_lines_four : Stmt := top 34
abbrev n_lines_four : List Str := ["lines", "bottom", "one", "two", "three", "first", "sums", "b", "c", "d", "line"]
abbrev s_Row___init__ : Stmt := inClass (top 36) 0
abbrev n_Row___init__ : List Str := ["self", "numbers"]
abbrev s_Row_size : Stmt := inClass (top 36) 1
abbrev n_Row_size : List Str := ["self"]
abbrev s_Row_back : Stmt := inClass (top 36) 2
abbrev n_Row_back : List Str := ["self"]
abbrev s_Row_least : Stmt := inClass (top 36) 3
abbrev n_Row_least : List Str := ["self"]
abbrev s_Row___mul__ : Stmt := inClass (top 36) 4
abbrev n_Row___mul__ : List Str := ["self", "other"]
abbrev s_Row___eq__ : Stmt := inClass (top 36) 5
abbrev n_Row___eq__ : List Str := ["self", "other"]
abbrev s_Row_text : Stmt := inClass (top 36) 6
abbrev n_Row_text : List Str := ["self", "a", "b", "c", "d"]
abbrev s_Row_read : Stmt := inClass (top 36) 7
abbrev n_Row_read : List Str := ["text", "numbers"]
abbrev s_Row___str__ : Stmt := inClass (top 36) 8
abbrev n_Row___str__ : List Str := ["self", "a", "b", "c", "d"]
abbrev s_Row___repr__ : Stmt := inClass (top 36) 9
abbrev n_Row___repr__ : List Str := ["self", "a", "b", "c", "d"]
abbrev s_name_of : Stmt := top 38
abbrev n_name_of : List Str := ["four"]
abbrev s_odd_four : Stmt := top 39
abbrev n_odd_four : List Str := ["four", "found"]
abbrev s__halved : Stmt := top 40
abbrev n__halved : List Str := ["four", "a", "b", "c", "d", "back"]
abbrev s_greatest : Stmt := top 41
abbrev n_greatest : List Str := ["four", "a", "b", "c", "d", "rows", "row"]
abbrev s_dot : Stmt := top 43
abbrev n_dot : List Str := ["one", "two"]
abbrev s_cross : Stmt := top 44
abbrev n_cross : List Str := ["one", "two", "a", "b", "c", "d", "e", "f"]
abbrev s_volume : Stmt := top 45
abbrev n_volume : List Str := ["triples", "one", "two", "three"]
abbrev s_columns : Stmt := top 46
abbrev n_columns : List Str := ["triples", "one", "two", "three", "at"]
abbrev s_scaled : Stmt := top 47
abbrev n_scaled : List Str := ["vectors", "bottom", "triples", "vector", "x", "y", "z", "n"]
abbrev s_unscaled : Stmt := top 48
abbrev n_unscaled : List Str := ["triple", "bottom", "x", "y", "z"]
abbrev s_applied : Stmt := top 49
abbrev n_applied : List Str := ["lines", "triple"]
abbrev s_chained : Stmt := top 50
abbrev n_chained : List Str := ["lines", "others", "sides", "line"]
abbrev s_Turn___init__ : Stmt := inClass (top 52) 0
abbrev n_Turn___init__ : List Str := ["self", "lines", "line"]
abbrev s_Turn_row : Stmt := inClass (top 52) 1
abbrev n_Turn_row : List Str := ["self", "triples", "bottom"]
abbrev s_Turn_share : Stmt := inClass (top 52) 2
abbrev n_Turn_share : List Str := ["self", "row"]
abbrev s_Turn_axis : Stmt := inClass (top 52) 3
abbrev n_Turn_axis : List Str := ["self"]
abbrev s_Turn_back : Stmt := inClass (top 52) 4
abbrev n_Turn_back : List Str := ["self", "triples", "bottom", "line"]
abbrev s_Turn_at : Stmt := inClass (top 52) 5
abbrev n_Turn_at : List Str := ["self", "vector"]
abbrev s_Turn___mul__ : Stmt := inClass (top 52) 6
abbrev n_Turn___mul__ : List Str := ["self", "other", "triples", "bottom", "others", "low", "line"]
abbrev s_Turn___eq__ : Stmt := inClass (top 52) 7
abbrev n_Turn___eq__ : List Str := ["self", "other"]
abbrev s_Turn_text : Stmt := inClass (top 52) 8
abbrev n_Turn_text : List Str := ["self", "line"]
abbrev s_Turn_read : Stmt := inClass (top 52) 9
abbrev n_Turn_read : List Str := ["text", "lines", "vectors", "line"]
abbrev s__are_lines : Stmt := top 53
abbrev n__are_lines : List Str := ["lines", "triples", "bottom", "at", "other", "line"]
abbrev s_rotated : Stmt := top 54
abbrev n_rotated : List Str := ["lines", "vector", "triples", "bottom"]
abbrev s_turn_of : Stmt := top 55
abbrev n_turn_of : List Str := ["row", "size", "line"]
abbrev s_Grain___init__ : Stmt := inClass (top 58) 0
abbrev n_Grain___init__ : List Str := ["self", "row", "four"]
abbrev s_Grain_size : Stmt := inClass (top 58) 1
abbrev n_Grain_size : List Str := ["self"]
abbrev s_Grain_turn : Stmt := inClass (top 58) 2
abbrev n_Grain_turn : List Str := ["self"]
abbrev s_Grain_sites : Stmt := inClass (top 58) 3
abbrev n_Grain_sites : List Str := ["self", "kind"]
abbrev s_Grain_rank : Stmt := inClass (top 58) 4
abbrev n_Grain_rank : List Str := ["self"]
abbrev s_Grain___eq__ : Stmt := inClass (top 58) 5
abbrev n_Grain___eq__ : List Str := ["self", "other"]
abbrev s_Grain_text : Stmt := inClass (top 58) 6
abbrev n_Grain_text : List Str := ["self", "a", "b", "c", "d"]
abbrev s_Grain_read : Stmt := inClass (top 58) 7
abbrev n_Grain_read : List Str := ["text"]
abbrev s_Grain___str__ : Stmt := inClass (top 58) 8
abbrev n_Grain___str__ : List Str := ["self", "a", "b", "c", "d"]
abbrev s_Grain___repr__ : Stmt := inClass (top 58) 9
abbrev n_Grain___repr__ : List Str := ["self", "a", "b", "c", "d"]
abbrev s_apart : Stmt := top 59
abbrev n_apart : List Str := ["g", "h"]
abbrev s_tidied : Stmt := top 61
abbrev n_tidied : List Str := ["first", "others", "number"]
abbrev s_weighed_row : Stmt := top 62
abbrev n_weighed_row : List Str := ["numbers", "a", "b", "c", "d"]
abbrev s_standing_numbers : Stmt := top 63
abbrev n_standing_numbers : List Str := ["numbers"]
abbrev s_standing_row : Stmt := top 65
abbrev n_standing_row : List Str := ["g", "h"]
abbrev s__law_bag : Stmt := top 67
abbrev n__law_bag : List Str := ["script", "mix", "cell"]
abbrev s__law_draw : Stmt := top 68
abbrev n__law_draw : List Str := ["bag", "limit", "cell", "digit", "mix"]
abbrev s__law_of : Stmt := top 69
abbrev n__law_of : List Str := ["bag", "things"]
abbrev s__law_like : Stmt := top 70
abbrev n__law_like : List Str := ["told", "due", "a", "b"]
abbrev s__law_gcd : Stmt := top 71
abbrev n__law_gcd : List Str := ["one", "two"]
abbrev s__law_common : Stmt := top 72
abbrev n__law_common : List Str := ["amounts", "part", "one"]
abbrev s__law_size : Stmt := top 73
abbrev n__law_size : List Str := ["quad", "one"]
abbrev s__law_times : Stmt := top 74
abbrev n__law_times : List Str := ["one", "two", "a", "b", "c", "d", "e", "f", "u", "v"]
abbrev s__law_back : Stmt := top 75
abbrev n__law_back : List Str := ["quad"]
abbrev s__law_greatest : Stmt := top 76
abbrev n__law_greatest : List Str := ["quad", "a", "b", "c", "d", "eight", "one", "line"]
abbrev s__law_name : Stmt := top 77
abbrev n__law_name : List Str := ["quad", "part", "least", "cube", "turn", "one"]
abbrev s__law_names : Stmt := top 78
abbrev n__law_names : List Str := ["size", "roots", "told", "top", "k", "a", "b", "c", "d", "quad"]
abbrev s__law_quad : Stmt := top 79
abbrev n__law_quad : List Str := ["bag", "top", "quad", "k"]
abbrev s__law_stepped : Stmt := top 80
abbrev n__law_stepped : List Str := ["bag", "odds", "most", "quad", "lap"]
abbrev s__law_cubes : Stmt := top 81
abbrev n__law_cubes : List Str := ["told", "k", "quad"]
abbrev s__law_standing : Stmt := top 82
abbrev n__law_standing : List Str := ["one", "two", "middle", "cubes", "best", "found", "first", "left", "last", "turn", "top", "bottom", "told", "part", "least"]
abbrev s__law_pair : Stmt := top 83
abbrev n__law_pair : List Str := ["bag", "way", "top", "odds", "one"]
abbrev s__law_row_is : Stmt := top 84
abbrev n__law_row_is : List Str := ["told", "due"]
abbrev s_law : Stmt := top 85
abbrev n_law : List Str := ["script", "bag", "one", "two", "mover", "due", "third", "here", "there", "cube"]
end K7
set_option Elab.async false
set_option linter.all false
set_option maxRecDepth 100000
set_option maxHeartbeats 1000000
set_option pp.maxSteps 1200
/-! K7R0: the module's facts (printed by mk7w.py). -/
namespace K7
open PySem PySem.Spec PyProof.Rows L2 G He
def dG (x : Str) (st : Stmt) : DefA := ⟨fun K => ga K x, x, x, defArgs st, defBody st, defScope st⟩
def dM (at_ : PySem.W.Frag → Addr) (x q : Str) (st : Stmt) : DefA := ⟨at_, x, q, defArgs st, defBody st, defScope st⟩
def fa0 : List FaB := [faB (.free "len"),
  faB (.free "abs"),
  faB (.free "int"),
  faB (.free "bool"),
  faB (.free "str"),
  faB (.free "list"),
  faB (.free "tuple"),
  faB (.free "dict"),
  faB (.free "isinstance"),
  faB (.free "all"),
  faB (.free "zip"),
  faB (.free "max"),
  faB (.free "min"),
  faB (.free "sum"),
  faB (.free "sorted"),
  faB (.free "range"),
  faB (.free "enumerate"),
  faB (.glo "_law_bag"),
  faB (.glo "_law_draw"),
  faB (.glo "_law_of"),
  faB (.glo "_law_gcd"),
  faB (.glo "_law_common"),
  faB (.glo "_law_greatest"),
  faB (.glo "_law_names"),
  faB (.glo "_law_times"),
  faB (.glo "_law_size"),
  faB (.glo "_law_quad"),
  faB (.glo "_law_name"),
  faB (.glo "_law_stepped"),
  faB (.glo "_law_pair")]
def fa1 : List FaB := [faB (.glo "is_number"),
  faB (.glo "are_numbers"),
  faB (.glo "is_four"),
  faB (.glo "four_parts"),
  faB (.glo "divisor_of"),
  faB (.glo "primitive"),
  faB (.glo "four_size"),
  faB (.glo "four_product"),
  faB (.glo "_halved"),
  faB (.glo "odd_four"),
  faB (.glo "four_minus"),
  faB (.glo "greatest"),
  faB (.glo "name_of"),
  faB (.glo "_law_back"),
  faB (.glo "_law_cubes"),
  faB (.glo "_law_standing"),
  faB (.glo "_law_row_is"),
  faB (.glo "tidied"),
  faB (.glo "weighed_row"),
  faB (.glo "standing_numbers"),
  faB (.glo "four_back"),
  faB (.glo "apart"),
  faB (.glo "standing_row"),
  faB (.glo "law"),
  faB (.glo "_law_like"),
  faB (.glo "Row"),
  faB (.glo "Grain"),
  biB "gcd" "math.gcd",
  faB (.cls "Row"),
  fun K => (["numbers"] : List Str).all fun f => eqO (PySem.W.findIn K (.ref (ga K "Row")) f) (some none)]
def fa2 : List FaB := [faB (.mkr "Row"),
  faB (.cls "Grain"),
  fun K => (["name"] : List Str).all fun f => eqO (PySem.W.findIn K (.ref (ga K "Grain")) f) (some none),
  faB (.mkr "Grain"),
  fun K => ownB K (ga K "Row"),
  fun K => decide (PySem.W.kitOne K (.type "list") (.ref (ga K "Row")) = some false),
  fun K => decide (PySem.W.kitOne K (.ref (ga K "Row")) (.ref (ga K "Row")) = some true),
  fun K => decide (PySem.W.kitOne K (.type "tuple") (.ref (ga K "Row")) = some false)]
def fa : List FaB := fa0 ++ fa1 ++ fa2
def fn0 : List DefA := [dG "_law_bag" s__law_bag,
  dG "_law_draw" s__law_draw,
  dG "_law_of" s__law_of,
  dG "_law_gcd" s__law_gcd,
  dG "_law_common" s__law_common,
  dG "_law_greatest" s__law_greatest,
  dG "_law_names" s__law_names,
  dG "_law_times" s__law_times,
  dG "_law_size" s__law_size,
  dG "_law_quad" s__law_quad,
  dG "_law_name" s__law_name,
  dG "_law_stepped" s__law_stepped,
  dG "_law_pair" s__law_pair,
  dG "is_number" s_is_number,
  dG "are_numbers" s_are_numbers,
  dG "is_four" s_is_four,
  dG "four_parts" s_four_parts,
  dG "divisor_of" s_divisor_of,
  dG "primitive" s_primitive,
  dG "four_size" s_four_size,
  dG "four_product" s_four_product,
  dG "_halved" s__halved,
  dG "odd_four" s_odd_four,
  dG "four_minus" s_four_minus,
  dG "greatest" s_greatest,
  dG "name_of" s_name_of,
  dG "_law_back" s__law_back,
  dG "_law_cubes" s__law_cubes,
  dG "_law_standing" s__law_standing,
  dG "_law_row_is" s__law_row_is]
def fn1 : List DefA := [dG "tidied" s_tidied,
  dG "weighed_row" s_weighed_row,
  dG "standing_numbers" s_standing_numbers,
  dG "four_back" s_four_back,
  dG "apart" s_apart,
  dG "standing_row" s_standing_row,
  dG "law" s_law,
  dG "_law_like" s__law_like,
  dM (fun K => ma K (ga K "Row") "__init__") "__init__" "Row.__init__" s_Row___init__,
  dM (fun K => ma K (ga K "Grain") "__init__") "__init__" "Grain.__init__" s_Grain___init__]
def fn : List DefA := fn0 ++ fn1
end K7
set_option Elab.async false
set_option linter.all false
set_option maxRecDepth 100000
set_option maxHeartbeats 0
set_option pp.maxSteps 1200
/-! K7U: the module's run (printed by mk7z.py). -/
namespace K7
open PySem PySem.Spec PyProof.Rows L2 G He
abbrev RW : PySem.W.OpenRow := PySem.W.OpenLaw.row PySem.Challenge.rw_sharedsites_k60_whole_standing_rows
def loose0 : List Str := ["__name__", "_wall", "SitesError", "BadRow", "BadTurn", "is_number", "are_numbers", "divisor_of", "multiple_of", "DIGITS", "integer_of", "integers_of", "fraction_of", "vector_of", "full_lines", "fraction", "fraction_text", "is_vector", "lowest", "vector_text", "is_four", "four_product", "four_back", "four_size", "four_minus"]
def loose1 : List Str := ["four_parts", "primitive", "least_four", "four_lines", "lines_four", "Row", "name_of", "odd_four", "_halved", "greatest", "dot", "cross", "volume", "columns", "scaled", "unscaled", "applied", "chained", "Turn", "_are_lines", "rotated", "turn_of", "PLAIN", "Grain", "apart"]
def loose2 : List Str := ["tidied", "weighed_row", "standing_numbers", "standing_row", "_law_bag", "_law_draw", "_law_of", "_law_like", "_law_gcd", "_law_common", "_law_size", "_law_times", "_law_back", "_law_greatest", "_law_name", "_law_names", "_law_quad", "_law_stepped", "_law_cubes", "_law_standing", "_law_pair", "_law_row_is"]
def loose : List Str := loose0 ++ loose1 ++ loose2
def nms0 : List Str := ["_law_bag", "_law_draw", "_law_of", "_law_gcd", "_law_common", "_law_greatest", "_law_names", "_law_times", "_law_size", "_law_quad", "_law_name", "_law_stepped", "_law_pair", "is_number", "are_numbers", "is_four", "four_parts", "divisor_of", "primitive", "four_size", "four_product", "_halved", "odd_four", "four_minus", "greatest", "name_of", "_law_back", "_law_cubes", "_law_standing", "_law_row_is"]
def nms1 : List Str := ["tidied", "weighed_row", "standing_numbers", "four_back", "apart", "standing_row", "law", "_law_like", "Row", "Grain"]
def nms : List Str := nms0 ++ nms1
abbrev hk : PySem.W.Hook := hookB 4 nms fa fn
def ob (s : PySem.W.SharedT) : He.AlD := obsBG 4 nms fa fn (HandSHeadRun.getT s)
theorem ob_eq (s : PySem.W.SharedT) : ob s = hk.obs s.abs := obsBG_eq (HandSHeadRun.getT_eq s)
abbrev qv := PySem.W.view RW.prog [0, 85]
theorem run (w : World) : HandSHeadRun.RunEqI RW qv hk ob 20000 loose w := by
  show _ = _
  kernel_rfl
end K7
set_option Elab.async false
set_option linter.all false
set_option maxRecDepth 100000
set_option maxHeartbeats 0
set_option pp.maxSteps 1200
/-! K7ZE: the end but for the law's own walk (printed by mk7z.py): it stands early in the joined text, where there is room. -/
namespace G
open PySem PySem.Spec PyProof.Rows L2
/-- a law's end: the promise over the world's own contexts -/
theorem walk_W {l : PySem.W.OpenLaw} {n k : Nat} {q : Program} {loose : List Str} {XP : (Str → Option Value) → Heap → Prop} {YP : World → Heap → Prop} {d : DefRec} {x : Str}
    (hn : l.most = some n) (hn2 : n ≤ sizeLine) (hdf : d.params.defaults = []) (hr : Room k callerA)
    (F : ∀ (w : World) (mg : Str → Option Value) (fa : Addr) (h : Heap), YP w h → h.Ns mainGlobals mg → mg d.name = some (.ref fa) →
      ∃ (K : PySem.W.Frag) (fd : FuncData) (sp : Sp), K.In h ∧ (∀ (s : Shared) (u : Value), BindsTo s fd ⟨[u], []⟩ [(x, u)]) ∧
        (∀ (H : Hp) (a : Addr) (ns : List Int), ns.length ≤ n → Only H → SqL K H a (ns.map V.int) → sp [.ref a] H (fun v _ => v = .bl true) fun _ _ _ => False) ∧
        ∀ base : Heap, K.In base → base.Ns mainGlobals mg → FnOk l.prog w K mg base (L2.CX l.prog w) k fa fd [x] sp) :
    PySem.W.WalkO q loose XP YP l.row.toRowW d [] (fun f vs => PySem.call f vs) := by
  refine Att.attach_call hn hdf fun w s₀ s₁ mg mb fa o pm cd doc a vs ns G Y ho hd hcd hmg hobj hints hlen hg => ?_
  obtain ⟨K, fd, sp, KX, hb, hsp, hF⟩ := F w mg fa _ Y G.T.g hmg
  refine law_call KX G.T.g G.T.b G.T.builtins G.T.nolimit hg hobj hints (Nat.le_trans hlen hn2) hr hF hb (fun H hO hS => hsp H a ns hlen hO hS) fun H e s' z => ?_
  obtain ⟨_, _, _, _, _, _, _, _, _, _, _, _, z⟩ := z
  exact z
end G
namespace K7
open PySem PySem.Spec PyProof.Rows L2 G He
/-- what the law's walk has to give -/
def FinH : Prop := ∀ (w : World) (mg : Str → Option Value) (fa_ : Addr) (h : Heap), (∃ K : PySem.W.Frag, K.In h ∧ SaysA fa fn K) → h.Ns mainGlobals mg → mg ("law" : Str) = some (.ref fa_) →
  ∃ (K : PySem.W.Frag) (fd : FuncData) (sp : Sp), K.In h ∧ (∀ (s : Shared) (u : Value), BindsTo s fd ⟨[u], []⟩ [("script", u)]) ∧
    (∀ (H : Hp) (a : Addr) (ns : List Int), ns.length ≤ 63 → Only H → SqL K H a (ns.map V.int) → sp [.ref a] H (fun v _ => v = .bl true) fun _ _ _ => False) ∧
    ∀ base : Heap, K.In base → base.Ns mainGlobals mg → FnOk (PySem.Challenge.rw_sharedsites_k60_whole_standing_rows).prog w K mg base (L2.CX (PySem.Challenge.rw_sharedsites_k60_whole_standing_rows).prog w) 9 fa_ fd ["script"] sp
end K7
section
open PySem PySem.W PySem.Calls PyProof.Rows
theorem K7.fin (FH : K7.FinH) : PySem.Challenge.rw_sharedsites_k60_whole_standing_rows.Holds := by
  w_on; o_law
  refine HandSHeadRun.head_imp (r := K7.RW) (q := K7.qv) (H := K7.hk) (ob := K7.ob) (M := 20000) (loose := K7.loose) (d := HandSHeadRun.topDef K7.RW.prog 85) (kwd := []) K7.ob_eq K7.run
    (by kernel_rfl) (by kernel_rfl) (by kernel_rfl) (by rfl) (by first | assumption | decide +kernel) (by decide +kernel) ⟨rfl, rfl, rfl, rfl, rfl, by decide +kernel⟩ ?hw ?hc
  case hw => w_witness2
  case hc =>
    refine G.walk_W (l := PySem.Challenge.rw_sharedsites_k60_whole_standing_rows) (n := 63) (k := 9) (x := "script") rfl (by decide) (by kernel_rfl) ⟨rfl, by decide, by decide⟩ ?F
    intro w mg fa h Y hG hmg0
    have hmg : mg ("law" : PySem.Str) = some (.ref fa) := by
      have e : (HandSHeadRun.topDef K7.RW.prog 85).name = ("law" : PySem.Str) := by kernel_rfl
      rw [← e]
      exact hmg0
    exact FH w mg fa h Y hG hmg
end
set_option Elab.async false
set_option linter.all false
set_option maxRecDepth 100000
set_option maxHeartbeats 1000000
/-! GDict: dicts with int and text keys, append, pop, sum, sorted, enumerate, isqrt, lcm, tuple, index. -/
namespace G
open PySem PySem.Spec PyProof.Rows L2
section
variable {ι : Type} {T : Fm ι} {k : Nat} {P : Program} {w : World} {K : PySem.W.Frag} {mg : Str → Option Value} {base : Heap} {N : List Str} {sc : Scope} {Γ : Gm} {M : Ms} {Φ : PD} {Ψ : PX}
variable {e a b c o tg iter : Expr} {es : List Expr} {pos p : Pos}
/-! ### freeze -/
theorem ex_frz (h : EX T e Γ M (fun d M1 => ∃ q ds, d = .ref q ∧ M1 q = some (.lst ds) ∧ Φ (.lst ds) (dm M1 q)) Ψ) : EX T e Γ M Φ Ψ := fun F H σ Q ok sl hk x =>
  h F H σ Q ok sl (fun F1 H1 M1 d v e1 ok1 r ⟨q, ds, hd, hm, z⟩ => by
    subst hd
    cases r
    obtain ⟨F2, e2, ok2, r2⟩ := ok1.freezeL hm
    exact hk F2 H1 _ _ _ (e1.trans e2) ok2 r2 z) x
/-! ### dicts -/
abbrev KvD := List (Key × D)
def kget (kvs : KvD) (k : Key) : Option D := (kvs.find? fun kv => decide (kv.1 = k)).map (·.2)
def kput (kvs : KvD) (k : Key) (d : D) : KvD := if (kvs.any fun kv => decide (kv.1 = k)) = true then kvs.map (fun kv => if kv.1 = k then (kv.1, d) else kv) else kvs ++ [(k, d)]
def kdrop (kvs : KvD) (k : Key) : KvD := kvs.filter fun kv => decide (kv.1 ≠ k)
def dMO (kvs : KvD) : MO := .dK (kvs.map (·.1)) (kvs.map (·.2))
def dDi (kvs : KvD) : D := .dic (kvs.map (·.1)) (kvs.map (·.2))
theorem kget_nil {k : Key} : kget [] k = none := rfl
theorem kget_cons {x : Key × D} {r : KvD} {k : Key} : kget (x :: r) k = if x.1 = k then some x.2 else kget r k := by
  unfold kget
  rw [List.find?_cons]
  by_cases h : x.1 = k
  · rw [if_pos h, decide_eq_true h]; rfl
  · rw [if_neg h, decide_eq_false h]
theorem kget_put {kvs : KvD} {k j : Key} {d : D} : kget (kput kvs k d) j = if j = k then some d else kget kvs j := by
  unfold kput
  split
  · rename_i h
    induction kvs with
    | nil => cases h
    | cons x r ih =>
      rw [List.map_cons, kget_cons, kget_cons]
      by_cases hx : x.1 = k
      · rw [if_pos hx]
        by_cases hj : j = k
        · rw [if_pos hj, if_pos (hx.trans hj.symm)]
        · rw [if_neg hj, if_neg (fun z => hj (z.symm.trans hx)), if_neg (fun z => hj (z.symm.trans hx))]
          clear ih h
          induction r with
          | nil => rfl
          | cons y r ih =>
            rw [List.map_cons, kget_cons, kget_cons]
            by_cases hy : y.1 = k
            · rw [if_pos hy, if_neg (fun z => hj (z.symm.trans hy)), if_neg (fun z => hj (z.symm.trans hy))]; exact ih
            · rw [if_neg hy]
              split
              · rfl
              · exact ih
      · rw [if_neg hx]
        have h2 : (r.any fun kv => decide (kv.1 = k)) = true := by
          rw [List.any_cons, decide_eq_false hx, Bool.false_or] at h
          exact h
        by_cases hxj : x.1 = j
        · rw [if_pos hxj, if_pos hxj, if_neg (fun z => hx (hxj.trans z))]
        · rw [if_neg hxj, if_neg hxj]; exact ih h2
  · rename_i h
    induction kvs with
    | nil =>
      rw [List.nil_append, kget_cons, kget_nil]
      by_cases hj : j = k
      · rw [if_pos hj, if_pos hj.symm]
      · rw [if_neg hj, if_neg fun z => hj z.symm]
    | cons x r ih =>
      have hx : ¬ x.1 = k := fun z => h (by rw [List.any_cons, decide_eq_true z, Bool.true_or])
      have h2 : ¬ (r.any fun kv => decide (kv.1 = k)) = true := fun z => h (by rw [List.any_cons, z, Bool.or_true])
      rw [List.cons_append, kget_cons, kget_cons]
      by_cases hxj : x.1 = j
      · rw [if_pos hxj, if_pos hxj, if_neg (fun z => hx (hxj.trans z))]
      · rw [if_neg hxj, if_neg hxj]; exact ih h2
theorem kput_len {kvs : KvD} {k : Key} {d : D} : (kput kvs k d).length ≤ kvs.length + 1 := by
  unfold kput
  split
  · rw [List.length_map]; omega
  · rw [List.length_append]; simp
/-- the keys and the values that data tell -/
inductive KRep (K : PySem.W.Frag) (F : Hp) : KvD → List (Key × V) → Prop where
  | nil : KRep K F [] []
  | cons {k : Key} {d : D} {v : V} {r : KvD} {s : List (Key × V)} : Rep K F d v → KRep K F r s → KRep K F ((k, d) :: r) ((k, v) :: s)
theorem krep_of {F : Hp} : ∀ {kvs : KvD} {vs : List V}, Reps K F (kvs.map (·.2)) vs → KRep K F kvs ((kvs.map (·.1)).zip vs)
  | [], _, h => .nil
  | (k, d) :: r, _, ⟨v, s, h1, h2, h3⟩ => by
    rw [h1]
    exact .cons h2 (krep_of h3)
theorem krep_back {F : Hp} {kvs : KvD} {us : List (Key × V)} (h : KRep K F kvs us) : ∃ vs, us = (kvs.map (·.1)).zip vs ∧ (kvs.map (·.1)).length = (kvs.map (·.2)).length ∧ Reps K F (kvs.map (·.2)) vs := by
  refine (?_ : ∃ vs, us = (kvs.map (·.1)).zip vs ∧ Reps K F (kvs.map (·.2)) vs).elim fun vs z => ⟨vs, z.1, by simp, z.2⟩
  induction h with
  | nil => exact ⟨[], rfl, rfl⟩
  | cons h1 _ ih =>
    obtain ⟨vs, e, r⟩ := ih
    exact ⟨_ :: vs, by rw [e]; rfl, ⟨_, vs, rfl, h1, r⟩⟩
theorem krep_get {F : Hp} {kvs : KvD} {us : List (Key × V)} {x : Key} (h : KRep K F kvs us) : (∃ d v, kget kvs x = some d ∧ valV us x = some v ∧ Rep K F d v) ∨ (kget kvs x = none ∧ valV us x = none) := by
  induction h with
  | nil => exact .inr ⟨rfl, rfl⟩
  | @cons k d v r s h1 _ ih =>
    rw [kget_cons]
    by_cases hx : k = x
    · rw [if_pos hx]
      exact .inl ⟨d, v, rfl, valV_pos (p := (k, v)) hx, h1⟩
    · rw [if_neg hx, valV_neg (p := (k, v)) hx]
      exact ih
theorem krep_any {F : Hp} {kvs : KvD} {us : List (Key × V)} {x : Key} (h : KRep K F kvs us) : (kvs.any fun kv => decide (kv.1 = x)) = us.any fun kv => decide (kv.1 = x) := by
  induction h with
  | nil => rfl
  | cons _ _ ih => rw [List.any_cons, List.any_cons, ih]
theorem krep_map {F : Hp} {kvs : KvD} {us : List (Key × V)} {x : Key} {d : D} {v : V} (h : KRep K F kvs us) (r : Rep K F d v) : KRep K F (kvs.map fun kv => if kv.1 = x then (kv.1, d) else kv) (us.map fun kv => if kv.1 = x then (kv.1, v) else kv) := by
  induction h with
  | nil => exact .nil
  | @cons k d0 v0 r0 s0 h1 _ ih =>
    rw [List.map_cons, List.map_cons]
    by_cases hx : k = x
    · rw [if_pos hx, if_pos hx]; exact .cons r ih
    · rw [if_neg hx, if_neg hx]; exact .cons h1 ih
theorem krep_snoc {F : Hp} {kvs : KvD} {us : List (Key × V)} {x : Key} {d : D} {v : V} (h : KRep K F kvs us) (r : Rep K F d v) : KRep K F (kvs ++ [(x, d)]) (us ++ [(x, v)]) := by
  induction h with
  | nil => exact .cons r .nil
  | cons h1 _ ih => exact .cons h1 ih
theorem krep_put {F : Hp} {kvs : KvD} {us : List (Key × V)} {x : Key} {d : D} {v : V} (h : KRep K F kvs us) (r : Rep K F d v) : KRep K F (kput kvs x d) (putK us x v) := by
  unfold kput putK
  rw [krep_any h]
  split
  · exact krep_map h r
  · exact krep_snoc h r
theorem krep_len {F : Hp} {kvs : KvD} {us : List (Key × V)} (h : KRep K F kvs us) : us.length = kvs.length := by
  induction h with
  | nil => rfl
  | cons _ _ ih => rw [List.length_cons, List.length_cons, ih]
theorem krep_mono {F F' : Hp} {kvs : KvD} {us : List (Key × V)} (e : Same F F') (h : KRep K F kvs us) : KRep K F' kvs us := by
  induction h with
  | nil => exact .nil
  | cons h1 _ ih => exact .cons (h1.mono e) ih
theorem rep_dDi {F : Hp} {kvs : KvD} {v : V} : Rep K F (dDi kvs) v ↔ ∃ q us, v = .ref q ∧ F q = some (.dK us) ∧ KRep K F kvs us := by
  constructor
  · rintro ⟨q, vs, h1, h2, h3, h4⟩
    exact ⟨q, _, h1, h2, krep_of h4⟩
  · rintro ⟨q, us, h1, h2, h3⟩
    obtain ⟨vs, e, hl, r⟩ := krep_back h3
    exact ⟨q, vs, h1, by rw [h2, e], hl, r⟩
theorem mr_dMO {F H : Hp} {q : Addr} {kvs : KvD} : MR K F H q (dMO kvs) ↔ ∃ us, H q = some (.dK us) ∧ KRep K F kvs us := by
  constructor
  · rintro ⟨vs, h2, h3, h4⟩
    exact ⟨_, h2, krep_of h4⟩
  · rintro ⟨us, h2, h3⟩
    obtain ⟨vs, e, hl, r⟩ := krep_back h3
    exact ⟨vs, by rw [h2, e], hl, r⟩
/-- a dict's pairs -/
def dicP (M : Ms) (d : D) (kvs : KvD) : Prop := d = dDi kvs ∨ ∃ q, d = .ref q ∧ M q = some (dMO kvs)
theorem dic_read {F H : Hp} {d : D} {kvs : KvD} {v : V} (ok : Ok K F H M) (r : Rep K F d v) (h : dicP M d kvs) : ∃ q us, v = .ref q ∧ H q = some (.dK us) ∧ KRep K F kvs us := by
  rcases h with rfl | ⟨q, rfl, h⟩
  · obtain ⟨q, us, h1, h2, h3⟩ := rep_dDi.mp r
    exact ⟨q, us, h1, ok.ex _ _ h2, h3⟩
  · cases r
    obtain ⟨us, h2, h3⟩ := mr_dMO.mp (ok.mu _ _ h).2
    exact ⟨q, us, rfl, h2, h3⟩
def keyD : Key → D
  | .inl i => .int i
  | .inr x => .str x
theorem keyD_rep {F : Hp} {x : Key} {v : V} (r : Rep K F (keyD x) v) : v = kV x := by
  cases x <;> exact r
theorem Fc.u1 (hF : Fc T k P w K mg base N sc) (i : ι) : (T.X i).A.units + 1 < cLine := by have := hF.units i; omega
/-- {} that will change -/
theorem ex_dict0M (h : ∀ q, M q = none → Φ (.ref q) (um M q (dMO []))) : EX T (.Dict [] [] pos) Γ M Φ Ψ := by
  refine EX.mk (fun i => pe_dnewK) fun F H σ Q ok sl hk x q hq => ?_
  exact hk F _ _ (.ref q) _ (Same.refl _) (ok.newM (u := dMO []) hq (mr_dMO.mpr ⟨[], upd_same, .nil⟩)) rfl (h q (ok.fresh hq))
/-- d[k] -/
def dgetP (M : Ms) (Φ : PD) (x y : D) : Prop := ∃ kvs j d, dicP M x kvs ∧ y = keyD j ∧ kget kvs j = some d ∧ Φ d M
theorem ex_dget (hF : Fc T k P w K mg base N sc) (h : EX T a Γ M (fun x M1 => EX T b Γ M1 (fun y M2 => dgetP M2 Φ x y) Ψ) Ψ) (hs : NoSl b := by exact fun _ _ => rfl) : EX T (.Subscript a b pos) Γ M Φ Ψ := by
  refine EX.mk (fun i => pe_dget (hF.u1 i) (pe_te i) (pe_te i) hs) fun F H σ Q ok sl hk x => ?_
  refine h F H σ _ ok sl (fun F1 H1 M1 d v e1 ok1 r1 q1 => ?_) x
  refine q1 F1 H1 σ _ ok1 (sl.mono e1) (fun F2 H2 M2 d2 v2 e2 ok2 r2 q2 => ?_) (x.mono e1)
  obtain ⟨kvs, j, dd, hd, rfl, hg, q⟩ := q2
  obtain ⟨q0, us, rfl, hq, kr⟩ := dic_read ok2 (r1.mono e2) hd
  rcases krep_get (x := j) kr with ⟨d', u, g1, g2, rr⟩ | ⟨g1, _⟩
  · rw [hg] at g1
    cases g1
    exact ⟨q0, u, rfl, .inl ⟨us, j, .of hq, keyD_rep r2, g2.symm⟩, hk F2 H2 M2 dd u (e1.trans e2) ok2 rr q⟩
  · rw [hg] at g1; cases g1
/-- d.get(k, x) -/
def dget2P (M : Ms) (Φ : PD) (x y z : D) : Prop := ∃ kvs j, dicP M x kvs ∧ y = keyD j ∧ Φ ((kget kvs j).getD z) M
theorem ex_dget2 (hF : Fc T k P w K mg base N sc) {apos : Pos} (h : EX T o Γ M (fun x M1 => (∃ kvs, dicP M1 x kvs) ∧ EX T a Γ M1 (fun y M2 => EX T b Γ M2 (fun z M3 => dget2P M3 Φ x y z) Ψ) Ψ) Ψ)
    (m : ∀ i, M2 (T.X i) o "get" apos a b pos := by exact fun _ => ⟨rfl, rfl, rfl, rfl⟩) : EX T (.Call (.Attribute o "get" apos) [a, b] [] pos) Γ M Φ Ψ := by
  refine EX.mk (fun i => pe_dget2 (hF.u1 i) (pe_te i) (pe_te i) (pe_te i) (m i)) fun F H σ Q ok sl hk x => ?_
  refine h F H σ _ ok sl (fun F1 H1 M1 d v e1 ok1 r1 q1 => ?_) x
  obtain ⟨⟨kv0, hd0⟩, q1⟩ := q1
  obtain ⟨q0, us0, rfl, hq0, _⟩ := dic_read ok1 r1 hd0
  refine ⟨q0, rfl, .inl ⟨us0, .of hq0⟩, ?_⟩
  refine q1 F1 H1 σ _ ok1 (sl.mono e1) (fun F2 H2 M2 d2 v2 e2 ok2 r2 q2 => ?_) (x.mono e1)
  refine q2 F2 H2 σ _ ok2 (sl.mono (e1.trans e2)) (fun F3 H3 M3 d3 v3 e3 ok3 r3 q3 => ?_) (x.mono (e1.trans e2))
  obtain ⟨kvs, j, hd, rfl, q⟩ := q3
  obtain ⟨q5, us, e5, hq, kr⟩ := dic_read ok3 (r1.mono (e2.trans e3)) hd
  cases e5
  refine ⟨valV us j, .inl ⟨us, j, .of hq, keyD_rep r2, rfl⟩, hk F3 H3 M3 _ _ (e1.trans (e2.trans e3)) ok3 ?_ q⟩
  rcases krep_get (x := j) kr with ⟨d', u, g1, g2, rr⟩ | ⟨g1, g2⟩
  · rw [g1, g2]; exact rr
  · rw [g1, g2]; exact r3
/-- d.get(k) -/
theorem ex_dget1 (hF : Fc T k P w K mg base N sc) {apos : Pos} (h : EX T o Γ M (fun x M1 => (∃ kvs, dicP M1 x kvs) ∧ EX T a Γ M1 (fun y M2 => dget2P M2 Φ x y .non) Ψ) Ψ)
    (m : ∀ i, M1 (T.X i) o "get" apos a pos := by exact fun _ => ⟨rfl, rfl, rfl, rfl⟩) : EX T (.Call (.Attribute o "get" apos) [a] [] pos) Γ M Φ Ψ := by
  refine EX.mk (fun i => pe_dget1 (hF.u1 i) (pe_te i) (pe_te i) (m i)) fun F H σ Q ok sl hk x => ?_
  refine h F H σ _ ok sl (fun F1 H1 M1 d v e1 ok1 r1 q1 => ?_) x
  obtain ⟨⟨kv0, hd0⟩, q1⟩ := q1
  obtain ⟨q0, us0, rfl, hq0, _⟩ := dic_read ok1 r1 hd0
  refine ⟨q0, rfl, .inl ⟨us0, .of hq0⟩, ?_⟩
  refine q1 F1 H1 σ _ ok1 (sl.mono e1) (fun F2 H2 M2 d2 v2 e2 ok2 r2 q2 => ?_) (x.mono e1)
  obtain ⟨kvs, j, hd, rfl, q⟩ := q2
  obtain ⟨q5, us, e5, hq, kr⟩ := dic_read ok2 (r1.mono e2) hd
  cases e5
  refine ⟨valV us j, .inl ⟨us, j, .of hq, keyD_rep r2, rfl⟩, hk F2 H2 M2 _ _ (e1.trans e2) ok2 ?_ q⟩
  rcases krep_get (x := j) kr with ⟨d', u, g1, g2, rr⟩ | ⟨g1, g2⟩
  · rw [g1, g2]; exact rr
  · rw [g1, g2]; rfl
/-- d.setdefault(k, x), d a dict that may change -/
def dsetdP (M : Ms) (Φ : PD) (x y z : D) : Prop := ∃ q kvs j, x = .ref q ∧ M q = some (dMO kvs) ∧ y = keyD j ∧ kvs.length < sizeLine ∧ (∀ d, kget kvs j = some d → Φ d M) ∧ (kget kvs j = none → Φ z (um M q (dMO (kput kvs j z))))
theorem ex_dsetd (hF : Fc T k P w K mg base N sc) {apos : Pos} (h : EX T o Γ M (fun x M1 => (∃ kvs, dicP M1 x kvs) ∧ EX T a Γ M1 (fun y M2 => EX T b Γ M2 (fun z M3 => dsetdP M3 Φ x y z) Ψ) Ψ) Ψ)
    (m : ∀ i, M2 (T.X i) o "setdefault" apos a b pos := by exact fun _ => ⟨rfl, rfl, rfl, rfl⟩) : EX T (.Call (.Attribute o "setdefault" apos) [a, b] [] pos) Γ M Φ Ψ := by
  refine EX.mk (fun i => pe_dsetd (pe_te i) (pe_te i) (pe_te i) (m i)) fun F H σ Q ok sl hk x => ?_
  refine h F H σ _ ok sl (fun F1 H1 M1 d v e1 ok1 r1 q1 => ?_) x
  obtain ⟨⟨kv0, hd0⟩, q1⟩ := q1
  obtain ⟨q0, us0, rfl, hq0, _⟩ := dic_read ok1 r1 hd0
  refine ⟨q0, rfl, .inl ⟨us0, .of hq0⟩, ?_⟩
  refine q1 F1 H1 σ _ ok1 (sl.mono e1) (fun F2 H2 M2 d2 v2 e2 ok2 r2 q2 => ?_) (x.mono e1)
  refine q2 F2 H2 σ _ ok2 (sl.mono (e1.trans e2)) (fun F3 H3 M3 d3 v3 e3 ok3 r3 q3 => ?_) (x.mono (e1.trans e2))
  obtain ⟨q6, kvs, j, rfl, hm, rfl, hl, qa, qb⟩ := q3
  cases r1
  obtain ⟨us, hq, kr⟩ := mr_dMO.mp (ok3.mu _ _ hm).2
  refine ⟨us, j, hq, keyD_rep r2, by rw [krep_len kr]; exact hl, fun v hv => ?_, fun hv => ?_⟩
  · rcases krep_get (x := j) kr with ⟨d', u, g1, g2, rr⟩ | ⟨g1, g2⟩
    · rw [hv] at g2; cases g2
      exact hk F3 H3 M3 _ _ (e1.trans (e2.trans e3)) ok3 rr (qa _ g1)
    · rw [hv] at g2; cases g2
  · rcases krep_get (x := j) kr with ⟨d', u, g1, g2, rr⟩ | ⟨g1, g2⟩
    · rw [hv] at g2; cases g2
    · refine hk F3 _ _ _ _ (e1.trans (e2.trans e3)) (ok3.write (u := dMO (kput kvs j d3)) hm (mr_dMO.mpr ⟨_, upd_same, krep_put kr r3⟩)) r3 (qb g1)
/-- k in d -/
def dinP (neg : Bool) (M : Ms) (Φ : PD) (x y : D) : Prop := ∃ kvs j, dicP M y kvs ∧ x = keyD j ∧ Φ (.bl (if neg then !(kget kvs j).isSome else (kget kvs j).isSome)) M
theorem ge_din {ta tb : TE} (h : GE T ta Γ M (fun x M1 => GE T tb Γ M1 (fun y M2 => dinP false M2 Φ x y) Ψ) Ψ) : GE T (tDIn ta tb) Γ M Φ Ψ := by
  intro F H σ Q ok sl hk x
  refine h F H σ _ ok sl (fun F1 H1 M1 d v e1 ok1 r1 q1 => ?_) x
  refine q1 F1 H1 σ _ ok1 (sl.mono e1) (fun F2 H2 M2 d2 v2 e2 ok2 r2 q2 => ?_) (x.mono e1)
  obtain ⟨kvs, j, hd, rfl, q⟩ := q2
  obtain ⟨q0, us, rfl, hq, kr⟩ := dic_read ok2 r2 hd
  refine ⟨q0, valV us j, rfl, .inl ⟨us, j, .of hq, keyD_rep r1, rfl⟩, hk F2 H2 M2 (.bl _) _ (e1.trans e2) ok2 ?_ q⟩
  rcases krep_get (x := j) kr with ⟨d', u, g1, g2, rr⟩ | ⟨g1, g2⟩
  · rw [g1, g2]; rfl
  · rw [g1, g2]; rfl
theorem ge_dnin {ta tb : TE} (h : GE T ta Γ M (fun x M1 => GE T tb Γ M1 (fun y M2 => dinP true M2 Φ x y) Ψ) Ψ) : GE T (tDNotIn ta tb) Γ M Φ Ψ := by
  intro F H σ Q ok sl hk x
  refine h F H σ _ ok sl (fun F1 H1 M1 d v e1 ok1 r1 q1 => ?_) x
  refine q1 F1 H1 σ _ ok1 (sl.mono e1) (fun F2 H2 M2 d2 v2 e2 ok2 r2 q2 => ?_) (x.mono e1)
  obtain ⟨kvs, j, hd, rfl, q⟩ := q2
  obtain ⟨q0, us, rfl, hq, kr⟩ := dic_read ok2 r2 hd
  refine ⟨q0, valV us j, rfl, .inl ⟨us, j, .of hq, keyD_rep r1, rfl⟩, hk F2 H2 M2 (.bl _) _ (e1.trans e2) ok2 ?_ q⟩
  rcases krep_get (x := j) kr with ⟨d', u, g1, g2, rr⟩ | ⟨g1, g2⟩
  · rw [g1, g2]; rfl
  · rw [g1, g2]; rfl
theorem ex_din (hF : Fc T k P w K mg base N sc) (h : EX T a Γ M (fun x M1 => EX T b Γ M1 (fun y M2 => dinP false M2 Φ x y) Ψ) Ψ) (hm : behindInMarks .In b = false := by rfl) : EX T (.Compare a [.In] [b] pos) Γ M Φ Ψ :=
  EX.mk (fun i => pe_cmp (pc_din (hF.u1 i) (pe_te i) (pe_te i)) hm) (ge_din h)
theorem tx_din (hF : Fc T k P w K mg base N sc) {Φ : Bool → Ms → Prop} (h : EX T a Γ M (fun x M1 => EX T b Γ M1 (fun y M2 => dinP false M2 (fun d M => ∃ c, d = .bl c ∧ Φ c M) x y) Ψ) Ψ) (hm : behindInMarks .In b = false := by rfl) : TX T (.Compare a [.In] [b] pos) Γ M Φ Ψ :=
  TX.mk (fun i => pt_cmp (pc_din (hF.u1 i) (pe_te i) (pe_te i)) hm) (gt_B (ge_din h))
theorem ex_dnin (hF : Fc T k P w K mg base N sc) (h : EX T a Γ M (fun x M1 => EX T b Γ M1 (fun y M2 => dinP true M2 Φ x y) Ψ) Ψ) (hm : behindInMarks .NotIn b = false := by rfl) : EX T (.Compare a [.NotIn] [b] pos) Γ M Φ Ψ :=
  EX.mk (fun i => pe_cmp (pc_dnotin (hF.u1 i) (pe_te i) (pe_te i)) hm) (ge_dnin h)
theorem tx_dnin (hF : Fc T k P w K mg base N sc) {Φ : Bool → Ms → Prop} (h : EX T a Γ M (fun x M1 => EX T b Γ M1 (fun y M2 => dinP true M2 (fun d M => ∃ c, d = .bl c ∧ Φ c M) x y) Ψ) Ψ) (hm : behindInMarks .NotIn b = false := by rfl) : TX T (.Compare a [.NotIn] [b] pos) Γ M Φ Ψ :=
  TX.mk (fun i => pt_cmp (pc_dnotin (hF.u1 i) (pe_te i) (pe_te i)) hm) (gt_B (ge_dnin h))
/-- d[k] = e, d a dict that may change -/
def setDP (M : Ms) (Θ : Ms → Prop) (x y v : D) : Prop := ∃ q kvs j, x = .ref q ∧ M q = some (dMO kvs) ∧ y = keyD j ∧ kvs.length < sizeLine ∧ Θ (um M q (dMO (kput kvs j v)))
theorem sx_subD {D : GEnds} {i : Expr} {pos' : Pos} (hF : Fc T k P w K mg base N sc) (h : EX T e Γ M (fun v M1 => EX T o Γ M1 (fun x M2 => EX T i Γ M2 (fun y M3 => setDP M3 (fun M4 => D.nx Γ M4) x y v) (D.ex Γ)) (D.ex Γ)) (D.ex Γ))
    (hs' : ∀ env, swapsWithSole [.Subscript o i pos'] e pos.line env = pure false := by intro _; rfl) (hw : ∀ env, swappedStores [.Subscript o i pos'] e env = pure none := by intro _; rfl)
    (ha : ∀ env v, assign (.Subscript o i pos') env v = (do
      let ov ← holding [v] (eval o env)
      let iv ← holding [v, ov] (eval i env)
      standAt pos'
      holding [v, ov, iv] (setItem ov iv v)
      release [v, ov, iv] []) := by intro _ _; rfl)
    (h1 : ∀ env, (assignEach [.Subscript o i pos'] env).map (·.2) = [assign (.Subscript o i pos') env] := by intro _; rfl) : SX T (.Assign [.Subscript o i pos'] e pos) Γ M D := by
  refine SX.mk (fun z => ps_asg (pe_te z) (pg_sub (pe_te z) (pe_te z) (set_dict (hF.u1 z)) (ha _)) (hs' _) (hw _) (h1 _)) ?_
  intro F H σ E ok sl q
  refine h F H σ _ ok sl (fun F1 H1 M1 v vv e1 ok1 r1 z1 => ?_) (q.kx sl)
  refine z1 F1 H1 σ _ ok1 (sl.mono e1) (fun F2 H2 M2 x vx e2 ok2 r2 z2 => ?_) ((q.mono e1).kx (sl.mono e1))
  refine z2 F2 H2 σ _ ok2 (sl.mono (e1.trans e2)) (fun F3 H3 M3 y vy e3 ok3 r3 z3 => ?_) ((q.mono (e1.trans e2)).kx (sl.mono (e1.trans e2)))
  obtain ⟨q0, kvs, j, rfl, hm, rfl, hl, z⟩ := z3
  cases r2
  obtain ⟨us, hq, kr⟩ := mr_dMO.mp (ok3.mu _ _ hm).2
  refine ⟨q0, _, rfl, .inl ⟨us, j, hq, keyD_rep r3, by rw [krep_len kr]; exact hl, rfl⟩, ?_⟩
  exact q.nx F3 Γ _ σ _ (e1.trans (e2.trans e3)) (ok3.write (u := dMO (kput kvs j v)) hm (mr_dMO.mpr ⟨_, upd_same, krep_put kr ((r1.mono e2).mono e3)⟩)) (sl.mono (e1.trans (e2.trans e3))) z
/-! ### methods of lists -/
theorem ge_bm {tn : String} {r : V → List V → Hp → VK → Prop} {to : TE} {ta : TA} (h : GE T to Γ M (fun x M1 => (∀ F H v, Ok T.K F H M1 → Rep T.K F x v → tyV T.K tn v H) ∧ GA T ta Γ M1 (fun xs M2 => ∀ F H v vs Q, Ok T.K F H M2 → Rep T.K F x v → Reps T.K F xs vs → KE T.K F Φ Q → r v vs H Q) Ψ) Ψ) : GE T (tBM T.K tn r to ta) Γ M Φ Ψ := by
  intro F H σ Q ok sl hk x
  refine h F H σ _ ok sl (fun F1 H1 M1 d v e1 ok1 r1 q1 => ?_) x
  refine ⟨q1.1 F1 H1 v ok1 r1, q1.2 F1 H1 σ _ ok1 (sl.mono e1) (fun F2 H2 M2 ds vs e2 ok2 rs q2 => ?_) (x.mono e1)⟩
  exact q2 F2 H2 v vs Q ok2 (r1.mono e2) rs (hk.mono (e1.trans e2))
def appP (M : Ms) (Φ : PD) (x : D) (ys : List D) : Prop := ∃ q ds y, x = .ref q ∧ ys = [y] ∧ M q = some (.lst ds) ∧ ds.length < sizeLine ∧ Φ .non (um M q (.lst (ds ++ [y])))
def isL (M : Ms) (x : D) : Prop := ∃ q ds, x = .ref q ∧ M q = some (.lst ds)
theorem isL_ty {x : D} (h : isL M x) : ∀ F H v, Ok K F H M → Rep K F x v → tyV K "list" v H := by
  intro F H v ok r
  obtain ⟨q, ds, rfl, hm⟩ := h
  cases r
  obtain ⟨_, us, h1, _⟩ := ok.mu _ _ hm
  exact .inl ⟨rfl, us, .inl (.inl h1)⟩
theorem mtr_append {X : Cx} : MtR X "list.append" rAppend := fun pins s σ H x vs v us Q I rx rv h => mt_append pins s σ H x vs v us Q I rx rv h
/-- o.append(e) -/
theorem ex_append (hF : Fc T k P w K mg base N sc) {apos : Pos} (h : EX T o Γ M (fun x M1 => isL M1 x ∧ AX T [e] Γ M1 (fun ys M2 => appP M2 Φ x ys) Ψ) Ψ)
    (hbase : ∀ env, attributeBase o "append" env (eval o env) = eval o env := by intro _; rfl)
    (hfew : ∀ env, ((backTo pos (starEach [e] env)).all (fun x => !x.1) && (backToKw pos (keywordEach [] env)).all (fun x => x.1.isSome)
      && decide (([e] : List Expr).length + ([] : List Keyword).length + (if ([] : List Keyword).isEmpty then 0 else 1) < 30)) = true := by intro _; rfl)
    (hline : (apos.endLine == pos.line) = true := by rfl) (hs : ∀ env, starEach [e] env = (false, eval e env) :: starEach [] env := by intro _; rfl) (hplain : ∀ env, (backTo pos (starEach [] env)).any (·.1) = false := by intro _; rfl) :
    EX T (.Call (.Attribute o "append" apos) [e] [] pos) Γ M Φ Ψ := by
  refine EX.mk (t := tBM T.K "list" rAppend (teOf T o) (taOf T [e])) (fun i => by rw [← hF.hK i]; exact pe_bm PySem.F.plainAttrs_list PySem.F.slot_list_append PySem.F.type_list_append mtr_append (pe_te i) (pa_ta i) (hbase _) (hfew _) hline (hs _) (hplain _)) (ge_bm ?_)
  refine EX.imp h (fun x M1 ⟨h1, h2⟩ => ⟨isL_ty h1, AX.imp h2 fun ys M2 q F H v vs Q ok r rs hk => ?_⟩) fun _ _ _ _ z => z
  obtain ⟨q0, ds, y, rfl, rfl, hm, hl, q⟩ := q
  cases r
  obtain ⟨_, us, h1, h2⟩ := ok.mu _ _ hm
  obtain ⟨v, rfl, ry⟩ := reps1 rs
  refine ⟨q0, us, v, rfl, rfl, h1, by rw [h2.length]; exact hl, ?_⟩
  exact hk F _ _ .non .non (Same.refl _) (ok.write (u := .lst (ds ++ [y])) hm ⟨_, upd_same, h2.append (.one ry)⟩) rfl q
/-! ### sum, tuple, isqrt, lcm -/
/-- a list's items (frozen or not) -/
def lsM (M : Ms) : D → Option (List D)
  | .lst ds => some ds
  | .rol ds => some ds
  | .ref p => match M p with
    | some (.lst ds) => some ds
    | _ => none
  | _ => none
theorem lsM_read {F H : Hp} {d : D} {ds : List D} {v : V} (ok : Ok K F H M) (r : Rep K F d v) (h : lsM M d = some ds) : ∃ a vs, v = .ref a ∧ SqL K H a vs ∧ Reps K F ds vs := by
  cases d with
  | lst xs => cases h; obtain ⟨a, us, rfl, h1, h2⟩ := r; exact ⟨a, us, rfl, .inl (.inl (ok.ex _ _ h1)), h2⟩
  | rol xs => cases h; obtain ⟨a, us, rfl, h1, h2⟩ := r; exact ⟨a, us, rfl, ok.ex.seq h1, h2⟩
  | ref p =>
    cases r
    have h : (match M p with | some (.lst ds) => some ds | _ => none) = some ds := h
    cases e : M p with
    | none => rw [e] at h; cases h
    | some o =>
      rw [e] at h
      cases o with
      | lst xs =>
        cases h
        obtain ⟨_, us, h1, h2⟩ := ok.mu _ _ e
        exact ⟨p, us, rfl, .inl (.inl h1), h2⟩
      | _ => cases h
  | _ => cases h
def sumP (M : Ms) (Φ : PD) (xs : List D) : Prop := ∃ (d : D) (ns : List Int), xs = [d] ∧ lsM M d = some (ns.map D.int) ∧ Φ (.int ns.sum) M
theorem ex_sum (hF : Fc T k P w K mg base N sc) (hm : mg "sum" = none) (h : AX T [e] Γ M (fun xs M1 => sumP M1 Φ xs) Ψ) (hg : sc.names.lookup ("sum" : Str) = some .globalImplicit := by rfl) (he : ∀ env, starEach [e] env = (false, eval e env) :: starEach [] env := by intro _; rfl) (hh : T.hot = false := by assumption) : EX T (.Call (.Name "sum" p) [e] [] pos) Γ M Φ Ψ := by
  refine ex_bltG hF (R := sumP) (r := rSum T.K) (fun i => by rw [← hF.hK i]; exact cr_sum (hF.calm hh i)) hm (by decide +kernel) (fun xs M Φ q => ?_) h hg (he := he)
  intro F H vs Q ok rs hk
  obtain ⟨d, ns, rfl, hd, q⟩ := q
  obtain ⟨v, rfl, r⟩ := reps1 rs
  obtain ⟨a, us, rfl, hq, ru⟩ := lsM_read ok r hd
  have e1 := Reps.ints ru
  subst e1
  exact ⟨a, ns, rfl, hq, hk F H M (.int _) _ (Same.refl _) ok rfl q⟩
/-- tuple(x): of a list, a new one -/
def tupP (M : Ms) (Φ : PD) (xs : List D) : Prop := ∃ d ds, xs = [d] ∧ (d = .tup ds ∨ lsM M d = some ds) ∧ Φ (.tup ds) M
theorem ex_tuple1 (hF : Fc T k P w K mg base N sc) (hm : mg "tuple" = none) (h : AX T [e] Γ M (fun xs M1 => tupP M1 Φ xs) Ψ) (hg : sc.names.lookup ("tuple" : Str) = some .globalImplicit := by rfl) (he : ∀ env, starEach [e] env = (false, eval e env) :: starEach [] env := by intro _; rfl) : EX T (.Call (.Name "tuple" p) [e] [] pos) Γ M Φ Ψ := by
  refine ex_tyG hF (R := tupP) (r := fun xs H Q => ∃ p ys, xs = [.ref p] ∧ ((SqL T.K H p ys ∧ ∀ l, H l = none → Q (.ref l) (upd H l (.tup ys))) ∨ (SqT T.K H p ys ∧ Q (.ref p) H))) (fun i => by rw [← hF.hK i]; exact call_tuple_of) hm (by decide +kernel) (fun xs M Φ q => ?_) h hg (he := he)
  intro F H vs Q ok rs hk
  obtain ⟨d, ds, rfl, hd, q⟩ := q
  obtain ⟨v, rfl, r⟩ := reps1 rs
  rcases hd with rfl | hd
  · obtain ⟨a, us, rfl, h1, h2⟩ := r
    exact ⟨a, us, rfl, .inr ⟨same_t ok.ex h1, hk F H M (.tup ds) _ (Same.refl _) ok ⟨a, us, rfl, h1, h2⟩ q⟩⟩
  · obtain ⟨a, us, rfl, hq, ru⟩ := lsM_read ok r hd
    refine ⟨a, us, rfl, .inl ⟨hq, fun l hl => ?_⟩⟩
    have e2 : Same F (upd F l (.tup us)) := same_upd (ok.freshF hl)
    exact hk _ _ M (.tup ds) _ e2 (ok.new hl) ⟨l, us, rfl, .inl (.inl upd_same), ru.mono e2⟩ q
def isqrtP (M : Ms) (Φ : PD) : List D → Prop
  | [.int i] => 0 ≤ i ∧ i < 2 ^ 64 ∧ Φ (.int ((Float64.isqrt i.toNat : Nat) : Int)) M
  | _ => False
theorem cr_isqrt {X : Cx} : CallR X (.builtin "math.isqrt") (fun vs H Q => ∃ a : Int, vs = [.int a] ∧ 0 ≤ a ∧ a < 2 ^ 64 ∧ Q (.int ((Float64.isqrt a.toNat : Nat) : Int)) H) := by
  intro pins s σ H vs us Q I r h
  obtain ⟨a, rfl, h0, h1, q⟩ := h
  obtain ⟨u, rfl, rx⟩ := vals1 r
  obtain ⟨t, rfl⟩ := rx
  exact PySem.W.mg_isqrt h0 h1 ⟨.int _, H, I.tok _, ⟨_, rfl⟩, q⟩
theorem ex_isqrt (hF : Fc T k P w K mg base N sc) (hm : mg "isqrt" = some (.builtin "math.isqrt")) (h : AX T [e] Γ M (fun xs M1 => isqrtP M1 Φ xs) Ψ) (hg : sc.names.lookup ("isqrt" : Str) = some .globalImplicit := by rfl)
    (he : ∀ env, starEach [e] env = (false, eval e env) :: starEach [] env := by intro _; rfl) (hpl : ∀ env, (backTo pos (starEach [] env)).any (·.1) = false := by intro _; rfl) : EX T (.Call (.Name "isqrt" p) [e] [] pos) Γ M Φ Ψ := by
  refine EX.mk (fun i => pe_callBfun cr_isqrt (by show (T.X i).env.scope.names.lookup _ = _; rw [hF.hs]; exact hg) (by rw [hF.hmg]; exact hm) (pa_ta i) (by decide) (he _) (hpl _)) (ge_CB (AX.imp h fun xs M1 q => ?_))
  intro F H vs Q ok rs hk
  unfold isqrtP at q
  split at q
  · obtain ⟨v, rfl, r⟩ := reps1 rs
    cases r
    exact ⟨_, rfl, q.1, q.2.1, hk F H M1 (.int _) _ (Same.refl _) ok rfl q.2.2⟩
  · exact False.elim q
def lcmP (M : Ms) (Φ : PD) : List D → Prop
  | [.int i, .int j] => i.natAbs < 2 ^ 64 ∧ j.natAbs < 2 ^ 64 ∧ (Nat.lcm i.natAbs j.natAbs).log2 < bitsLine ∧ Φ (.int ((Nat.lcm i.natAbs j.natAbs : Nat) : Int)) M
  | _ => False
theorem cr_lcm {X : Cx} : CallR X (.builtin "math.lcm") (fun vs H Q => ∃ a b : Int, vs = [.int a, .int b] ∧ a.natAbs < 2 ^ 64 ∧ b.natAbs < 2 ^ 64 ∧ (Nat.lcm a.natAbs b.natAbs).log2 < bitsLine ∧ Q (.int ((Nat.lcm a.natAbs b.natAbs : Nat) : Int)) H) := by
  intro pins s σ H vs us Q I r h
  obtain ⟨a, b, rfl, h0, h1, h2, q⟩ := h
  obtain ⟨t, u, rfl⟩ := Vals.int2 r
  have e : Nat.lcm (Nat.lcm 1 a.natAbs) b.natAbs = Nat.lcm a.natAbs b.natAbs := by rw [Nat.lcm_one_left]
  exact PySem.W.mg_lcm_v h0 h1 (c := ((Nat.lcm a.natAbs b.natAbs : Nat) : Int)) (by rw [e]) (by rw [Int.natAbs_natCast]; exact h2) ⟨.int _, H, I.tok _, ⟨_, rfl⟩, q⟩
theorem ex_lcm (hF : Fc T k P w K mg base N sc) (hm : mg "lcm" = some (.builtin "math.lcm")) (h : AX T [a, b] Γ M (fun xs M1 => lcmP M1 Φ xs) Ψ) (hg : sc.names.lookup ("lcm" : Str) = some .globalImplicit := by rfl)
    (he : ∀ env, starEach [a, b] env = (false, eval a env) :: starEach [b] env := by intro _; rfl) (hpl : ∀ env, (backTo pos (starEach [b] env)).any (·.1) = false := by intro _; rfl) : EX T (.Call (.Name "lcm" p) [a, b] [] pos) Γ M Φ Ψ := by
  refine EX.mk (fun i => pe_callBfun cr_lcm (by show (T.X i).env.scope.names.lookup _ = _; rw [hF.hs]; exact hg) (by rw [hF.hmg]; exact hm) (pa_ta i) (by decide) (he _) (hpl _)) (ge_CB (AX.imp h fun xs M1 q => ?_))
  intro F H vs Q ok rs hk
  unfold lcmP at q
  split at q
  · obtain ⟨v, v', rfl, r, r'⟩ := reps2 rs
    cases r; cases r'
    exact ⟨_, _, rfl, q.1, q.2.1, q.2.2.1, hk F H M1 (.int _) _ (Same.refl _) ok rfl q.2.2.2⟩
  · exact False.elim q
/-! ### sorted -/
/-- sorted(ints) -/
def sortIP (M : Ms) (Φ : PD) (xs : List D) : Prop := ∃ (d : D) (ns : List Int), xs = [d] ∧ lsM M d = some (ns.map D.int) ∧ ∀ ns' : List Int, ns'.Perm ns → ns'.Pairwise (· ≤ ·) → Φ (.lst (ns'.map D.int)) M
theorem ex_sortedI (hF : Fc T k P w K mg base N sc) (hm : mg "sorted" = none) (h : AX T [e] Γ M (fun xs M1 => sortIP M1 Φ xs) Ψ) (hg : sc.names.lookup ("sorted" : Str) = some .globalImplicit := by rfl) (he : ∀ env, starEach [e] env = (false, eval e env) :: starEach [] env := by intro _; rfl) : EX T (.Call (.Name "sorted" p) [e] [] pos) Γ M Φ Ψ := by
  refine ex_bltG hF (R := sortIP) (r := rSortedI T.K) (fun i => by rw [← hF.hK i]; exact cr_sortedI) hm (by decide +kernel) (fun xs M Φ q => ?_) h hg (he := he)
  intro F H vs Q ok rs hk
  obtain ⟨d, ns, rfl, hd, q⟩ := q
  obtain ⟨v, rfl, r⟩ := reps1 rs
  obtain ⟨a, us, rfl, hq, ru⟩ := lsM_read ok r hd
  have e1 := Reps.ints ru
  subst e1
  refine ⟨a, ns, rfl, hq, fun ns' l h1 h2 hl => ?_⟩
  have e2 : Same F (upd F l (.lst (ns'.map V.int))) := same_upd (ok.freshF hl)
  exact hk _ _ M (.lst _) _ e2 (ok.new hl) ⟨l, _, rfl, upd_same, Reps.of_ints ns'⟩ (q ns' h1 h2)
/-! ### enumerate -/
def enumDs (i : Nat) : List D → List D
  | [] => []
  | d :: ds => .tup [.int i, d] :: enumDs (i + 1) ds
theorem enumDs_len : ∀ (i : Nat) (ds : List D), (enumDs i ds).length = ds.length
  | _, [] => rfl
  | i, d :: ds => by
    show (enumDs (i + 1) ds).length + 1 = ds.length + 1
    rw [enumDs_len]
theorem enumDs_get : ∀ {i j : Nat} {ds : List D} {x : D}, (enumDs i ds)[j]? = some x → ∃ d, ds[j]? = some d ∧ x = .tup [.int ((i + j : Nat) : Int), d]
  | i, j, [], x, h => by
    have h : ([] : List D)[j]? = some x := h
    simp at h
  | i, 0, d :: ds, x, h => by
    have h : some (D.tup [.int i, d]) = some x := h
    cases h
    exact ⟨d, rfl, rfl⟩
  | i, j + 1, d :: ds, x, h => by
    obtain ⟨y, h1, h2⟩ := enumDs_get (i := i + 1) (j := j) (show (enumDs (i + 1) ds)[j]? = some x from h)
    exact ⟨y, h1, by rw [h2, Nat.add_right_comm i 1 j]; rfl⟩
theorem enumDs_map {α : Type} (enc : α → D) : ∀ (i : Nat) (xs : List α), enumDs i (xs.map enc) = (xs.zipIdx i).map fun p => .tup [.int (p.2 : Nat), enc p.1]
  | _, [] => rfl
  | i, x :: xs => by
    show _ :: enumDs (i + 1) (xs.map enc) = _
    rw [enumDs_map enc (i + 1) xs]
    rfl
theorem ix_enum {elts : List Expr} {kk : Nat} {tpos : Pos} {Θ : Thi} (hF : Fc T k P w K mg base N sc) (hm : mg "enumerate" = none) (h : AX T [e] Γ M (fun ds M1 => ∃ d xs, ds = [d] ∧ lsM M1 d = some xs ∧ Θ (enumDs 0 xs) (fun M2 => lsM M2 d = some xs) M1) Ψ) (hg : sc.names.lookup ("enumerate" : Str) = some .globalImplicit := by rfl)
    (hs : ∀ env, starEach [e] env = [(false, eval e env)] := by intro _; rfl) : IX T (.Tuple elts kk tpos) (.Call (.Name "enumerate" p) [e] [] pos) Γ M Θ Ψ := by
  refine IX.mk (wi := iEnum T.K (taOf T [e])) (fun i => by rw [← hF.hK i]; exact pi_enum (by show (T.X i).env.scope.names.lookup _ = _; rw [hF.hs]; exact hg) (by rw [hF.hmg]; exact hm) (pa_ta i) (hs _)) ?_
  intro F H σ R ok sl q x
  refine h F H σ _ ok sl (fun F1 H1 M1 ds vs e1 ok1 rs z => ?_) x
  obtain ⟨d, xs, rfl, hd, z⟩ := z
  obtain ⟨v, rfl, r⟩ := reps1 rs
  obtain ⟨a, us, rfl, hq, ru⟩ := lsM_read ok1 r hd
  refine ⟨a, us, rfl, hq, q F1 H1 M1 _ _ _ e1 ok1 ⟨fun i F' H' M' e ok pm hi => ?_, fun i F' H' M' e ok pm hi => ?_, fun i F' H' M' y H2 e ok pm hy => ?_⟩ z⟩
  · rw [enumDs_len] at hi
    obtain ⟨a', us', e3, hq', ru'⟩ := lsM_read ok (r.mono e) pm
    cases e3
    exact ⟨us', us'[i]'(by rw [ru'.length]; exact hi), hq', by simp [ru'.length, hi]⟩
  · rw [enumDs_len] at hi
    obtain ⟨a', us', e3, hq', ru'⟩ := lsM_read ok (r.mono e) pm
    cases e3
    exact ⟨us', hq', by rw [ru'.length]; exact hi⟩
  · obtain ⟨a', us', e3, hq', ru'⟩ := lsM_read ok (r.mono e) pm
    cases e3
    obtain ⟨t, u, rfl, ht, rfl, hu⟩ := hy
    have e4 : Same F' (upd F' t (.tup [.int (i : Nat), u])) := same_upd (ok.freshF ht)
    refine ⟨_, e4, ok.new ht, fun d' hd' => ?_⟩
    obtain ⟨x0, h1, rfl⟩ := enumDs_get hd'
    obtain ⟨v0, hv0, rv0⟩ := ru'.get h1
    have := hu us' hq'
    rw [hv0] at this
    cases this
    exact ⟨t, _, rfl, .inl (.inl upd_same), .cons (by rw [Nat.zero_add]; rfl) (.one (rv0.mono e4))⟩
end
end G
set_option Elab.async false
set_option linter.all false
set_option maxRecDepth 100000
set_option maxHeartbeats 1000000
/-! GSort: sorted of data, also reversed. -/
namespace G
open PySem PySem.Spec PyProof.Rows L2
section
variable {ι : Type} {T : Fm ι} {k : Nat} {P : Program} {w : World} {K : PySem.W.Frag} {mg : Str → Option Value} {base : Heap} {N : List Str} {sc : Scope} {Γ : Gm} {M : Ms} {Φ : PD} {Ψ : PX}
variable {e a b c o tg iter : Expr} {es : List Expr} {pos p : Pos}
theorem reps_map_mem {β : Type} {F : Hp} {enc : β → D} : ∀ {bs : List β} {us : List V} {vs : List Value}, Reps K F (bs.map enc) us → Vals us vs → PySem.W.EachIs (fun v b => ∃ x, RelV x v ∧ Rep K F (enc b) x) vs bs
  | [], _, _, r, rv => by
    have r : _ = [] := r
    subst r
    cases rv
    exact .nil
  | b :: bs, _, _, ⟨v, us, h1, h2, h3⟩, rv => by
    subst h1
    cases rv with
    | cons q rr => exact .cons ⟨v, q, h2⟩ (reps_map_mem h3 rr)
theorem each_reps {β : Type} {F : Hp} {enc : β → D} : ∀ {bs : List β} {vs : List Value}, PySem.W.EachIs (fun v b => ∃ x, RelV x v ∧ Rep K F (enc b) x) vs bs → ∃ us, Vals us vs ∧ Reps K F (bs.map enc) us
  | _, _, .nil => ⟨[], .nil, rfl⟩
  | _, _, .cons ⟨x, h1, h2⟩ t => by
    obtain ⟨us, h3, h4⟩ := each_reps t
    exact ⟨x :: us, .cons h1 h3, x, us, rfl, h2, h4⟩
theorem each_reads {β : Type} {X : Cx} {pins : List (Addr × Obj)} {σ : L2.St} {H F : Hp} {s : Shared} {enc : β → D} {pe : β → PyData} (I : Inv X pins σ H s) (e : Same F H) (hp : ∀ b, toP (enc b) = some (pe b)) : ∀ {bs : List β} {us : List V} {vs : List Value}, Reps X.K F (bs.map enc) us → Vals us vs → PySem.W.EachIs (fun v b => ∃ as, Reads s.heap v (pe b) as) vs bs
  | [], _, _, r, rv => by
    have r : _ = [] := r
    subst r
    cases rv
    exact .nil
  | b :: bs, _, _, ⟨v, us, h1, h2, h3⟩, rv => by
    subst h1
    cases rv with
    | cons q rr => exact .cons (Dp.reads I (pe b) _ _ (toP_dp e h2 (hp b)) q) (each_reads I e hp h3 rr)
def srtG (K : PySem.W.Frag) (rev : Bool) : List V → Hp → VK → Prop := fun vs H Q => ∃ (F : Hp) (β : Type) (bs : List β) (enc : β → D) (pe : β → PyData) (a : Addr) (us : List V), vs = [.ref a] ∧ SqL K H a us ∧ Same F H ∧ Reps K F (bs.map enc) us ∧ (∀ b, toP (enc b) = some (pe b)) ∧
  PySem.W.AllAlike (bs.map pe) ∧ PySem.W.Sortable (bs.map pe) ∧ (∀ b, (pe b).depth ≤ 8) ∧ ∀ us' l, Reps K F ((bs.mergeSort (PySem.W.dataLe rev pe)).map enc) us' → H l = none → Q (.ref l) (upd H l (.lst us'))
theorem srt_run {X : Cx} {rev : Bool} {pins : List (Addr × Obj)} {s : Shared} {σ : L2.St} {H : Hp} {vs : List V} {us : List Value} {Q : VK} (hu : X.A.units + 64 < cLine) (I : Inv X pins σ H s) (r : Vals vs us) (h : srtG X.K rev vs H Q) :
    (rev = false → wpAny (model X.prog X.w) X.A (call (.builtin "sorted") us) (EP X pins σ Q) X.xe s) ∧ wpAny (model X.prog X.w) X.A (call (.builtin "sorted") us [(Str.ofString "reverse", .bool rev)]) (EP X pins σ Q) X.xe s := by
  obtain ⟨F, β, bs, enc, pe, a, us', rfl, hq, hs, hr, hp, h1, h2, h3, q⟩ := h
  obtain rfl := Vals.ref1 r
  obtain ⟨its, rv, hl, hz⟩ := I.list hq
  have e := reps_map_mem hr rv
  have er := each_reads I hs hp hr rv
  have hlen : us'.length = bs.length := by rw [hr.length, List.length_map]
  have fin : ∀ out : List Value, out.length = bs.length → PySem.W.EachIs (fun v b => ∃ x, RelV x v ∧ Rep X.K F (enc b) x) out (bs.mergeSort (PySem.W.dataLe rev pe)) → EP X pins σ Q (.ref (s.heap.objs.size + 1)) { s with heap := PyProof.Rows.sortedAll s.heap its (List.toArray out) } := by
    intro out ho eo
    obtain ⟨us2, k1, k2⟩ := each_reps eo
    obtain ⟨ep, he'⟩ := PyProof.Rows.sortedAll_at s.heap its (List.toArray out)
    have hl2 : us2.length ≤ sizeLine := by
      rw [k2.length, List.length_map, List.length_mergeSort, ← hlen]; exact hz
    exact ⟨.ref _, upd H (s.heap.objs.size + 1) (.lst us2), I.laid (t' := s.toks) (fun _ _ => PyProof.Rows.sortedAll_old) (Nat.le_succ _) ⟨hl2, out, ep, k1, he'⟩, rfl, q _ _ k2 (I.hok.fresh (Nat.le_succ _))⟩
  refine ⟨fun hr => ?_, ?_⟩
  · subst hr
    exact PySem.W.sorted_data (vs := its) (bs := bs) (enc := pe) hl.isList e er h1 h2 (by rw [← hlen]; exact hz) (fun b _ => by have := h3 b; omega) fin
  · exact PySem.W.sorted_rev_data (vs := its) (bs := bs) (enc := pe) hl.isList e er h1 h2 (by rw [← hlen]; exact hz) (fun b _ => by have := h3 b; omega) fin
/-- sorted of a list of alike data -/
def sortDP (rev : Bool) (M : Ms) (Φ : PD) (xs : List D) : Prop := ∃ (β : Type) (d : D) (bs : List β) (enc : β → D) (pe : β → PyData), xs = [d] ∧ lsM M d = some (bs.map enc) ∧ (∀ b, toP (enc b) = some (pe b)) ∧
  PySem.W.AllAlike (bs.map pe) ∧ PySem.W.Sortable (bs.map pe) ∧ (∀ b, (pe b).depth ≤ 8) ∧ Φ (.lst ((bs.mergeSort (PySem.W.dataLe rev pe)).map enc)) M
theorem srt_of {rev : Bool} {xs : List D} (q : sortDP rev M Φ xs) : GC T (srtG T.K rev) xs M Φ := by
  intro F H vs Q ok rs hk
  obtain ⟨β, d, bs, enc, pe, rfl, hd, hp, h1, h2, h3, q⟩ := q
  obtain ⟨v, rfl, r⟩ := reps1 rs
  obtain ⟨a, us, rfl, hq, ru⟩ := lsM_read ok r hd
  refine ⟨F, β, bs, enc, pe, a, us, rfl, hq, ok.ex, ru, hp, h1, h2, h3, fun us' l k1 hl => ?_⟩
  have e2 : Same F (upd F l (.lst us')) := same_upd (ok.freshF hl)
  exact hk _ _ M (.lst _) _ e2 (ok.new hl) ⟨l, _, rfl, upd_same, k1.mono e2⟩ q
theorem ex_sortD (hF : Fc T k P w K mg base N sc) (hm : mg "sorted" = none) (h : AX T [e] Γ M (fun xs M1 => sortDP false M1 Φ xs) Ψ) (hg : sc.names.lookup ("sorted" : Str) = some .globalImplicit := by rfl) (he : ∀ env, starEach [e] env = (false, eval e env) :: starEach [] env := by intro _; rfl) : EX T (.Call (.Name "sorted" p) [e] [] pos) Γ M Φ Ψ :=
  ex_bltG hF (R := sortDP false) (r := srtG T.K false) (fun i => by
    rw [← hF.hK i]
    exact fun pins s σ H vs us Q I r q => (srt_run (hF.units i) I r q).1 rfl) hm (by decide +kernel) (fun xs M Φ q => srt_of q) h hg (he := he)
theorem ex_sortR (hF : Fc T k P w K mg base N sc) (hm : mg "sorted" = none) {rev : Bool} {j : Nat} {p3 p4 : Pos} (h : AX T [e] Γ M (fun xs M1 => sortDP rev M1 Φ xs) Ψ) (hg : sc.names.lookup ("sorted" : Str) = some .globalImplicit := by rfl)
    (he : ∀ env, backTo pos (starEach [e] env) = (false, eval e env) :: backTo pos (starEach [] env) := by intro _; rfl) (hpl : ∀ env, (backTo pos (starEach [e] env)).any (·.1) = false := by intro _; rfl) :
    EX T (.Call (.Name "sorted" p) [e] [⟨some "reverse", .Constant (.bool rev) j p3, p4⟩] pos) Γ M Φ Ψ := by
  refine EX.mk (t := tCKw (fun vs zs H Q => zs = [.bl rev] ∧ srtG T.K rev vs H Q) (taOf T [e]) (tkOf T [⟨some "reverse", .Constant (.bool rev) j p3, p4⟩])) (fun i => ?_) ?_
  · refine pe_callBK (id := "sorted") (ks := [Str.ofString "reverse"]) (fun pins s σ H vs zs us ws Q I r rz q => ?_) (by show (T.X i).env.scope.names.lookup _ = _; rw [hF.hs]; exact hg) (by rw [hF.hmg]; exact hm) (by decide +kernel) (pa_ta i) (pk_tk i) (by decide) (by decide) (he _) (hpl _) (by rfl) (by rfl) (by rfl)
    obtain ⟨rfl, q⟩ := q
    obtain ⟨w1, rfl, e1⟩ := vals1 rz
    obtain rfl : w1 = Value.bool rev := e1
    rw [← hF.hK i] at q
    exact (srt_run (hF.units i) I r q).2
  · intro F H σ Q ok sl hk x
    refine h F H σ _ ok sl (fun F1 H1 M1 ds vs e1 ok1 rs q => ?_) x
    have g : KAX T [⟨some "reverse", .Constant (.bool rev) j p3, p4⟩] Γ M1 (fun zs M2 => zs = [.bl rev] ∧ M2 = M1) Ψ := kax_cons (ex_bl (kax_nil ⟨rfl, rfl⟩))
    refine g F1 H1 σ _ ok1 (sl.mono e1) (fun F2 H2 M2 zs ws e2 ok2 rz ⟨hz, hM⟩ => ?_) (x.mono e1)
    subst hz hM
    obtain ⟨u, rfl, ru⟩ := reps1 rz
    cases ru
    exact ⟨rfl, srt_of q F2 H2 vs Q ok2 (rs.mono e2) (hk.mono (e1.trans e2))⟩
/-! ### quads -/
abbrev Q4 := PySem.W.T4 Int Int Int Int
abbrev qD (q : Q4) : D := .tup [.int q.a, .int q.b, .int q.c, .int q.d]
theorem toP_q (q : Q4) : toP (qD q) = some (PySem.W.Datum.toD q) := rfl
theorem toPs_q : ∀ xs : List Q4, toPs (xs.map qD) = some (xs.map PySem.W.Datum.toD)
  | [] => rfl
  | x :: xs => by
    show (toP (qD x)).bind (fun p => (toPs (xs.map qD)).map fun ps => p :: ps) = _
    rw [toPs_q xs]
    rfl
theorem toD_q {x y : Q4} (h : PySem.W.Datum.toD x = PySem.W.Datum.toD y) : x = y := by
  have h : PyData.tuple [.int x.a, .int x.b, .int x.c, .int x.d] = PyData.tuple [.int y.a, .int y.b, .int y.c, .int y.d] := h
  injection h with h
  injection h with h1 h
  injection h with h2 h
  injection h with h3 h
  injection h with h4 _
  injection h1 with h1
  injection h2 with h2
  injection h3 with h3
  injection h4 with h4
  exact PySem.W.T4.same h1 h2 h3 h4
theorem depth_q (x : Q4) : PyData.depth (PySem.W.Datum.toD x) = 1 := by
  show PyData.depth (PyData.tuple [.int x.a, .int x.b, .int x.c, .int x.d]) = 1
  simp [PyData.depth, PyData.depthAll]
theorem depth_qs : ∀ xs : List Q4, PyData.depthAll (xs.map PySem.W.Datum.toD) ≤ 1
  | [] => Nat.zero_le _
  | x :: xs => by
    show max (PyData.depth (PySem.W.Datum.toD x)) (PyData.depthAll (xs.map PySem.W.Datum.toD)) ≤ 1
    have := depth_qs xs
    rw [depth_q]; omega
theorem maxP_q {M : Ms} {Φ : PD} {x : Q4} {xs : List Q4} (h : Φ (qD (PySem.W.maxOf x xs)) M) : maxP M Φ [.lst ((x :: xs).map qD)] := by
  refine ⟨_, _, _, .inl rfl, toPs_q (x :: xs), ⟨?_, ?_⟩, Nat.le_trans (depth_qs (x :: xs)) (by decide), fun d hd ht => ?_⟩
  · intro a ha b hb
    obtain ⟨a', _, rfl⟩ := List.mem_map.mp (show a ∈ (x :: xs).map PySem.W.Datum.toD from ha)
    obtain ⟨b', _, rfl⟩ := List.mem_map.mp (show b ∈ (x :: xs).map PySem.W.Datum.toD from hb)
    exact PySem.W.DatumOrd.alike a' b'
  · intro a ha
    obtain ⟨a', _, rfl⟩ := List.mem_map.mp (show a ∈ (x :: xs).map PySem.W.Datum.toD from ha)
    exact PySem.W.DatumOrd.notNone a'
  · obtain ⟨y, _, rfl⟩ := List.mem_map.mp hd
    rw [toP_q] at ht
    have e := Option.some.inj ht
    have e2 := PySem.W.maxD_map x xs
    have e3 : y = PySem.W.maxOf x xs := toD_q (e.trans e2)
    rw [e3]; exact h
/-- the order of sorted(.., reverse=rev) on quads -/
def leQ (rev : Bool) (x y : Q4) : Bool := PySem.W.dataLe rev (fun q : Q4 => PySem.W.Datum.toD q) x y
theorem sortDP_q {rev : Bool} {M : Ms} {Φ : PD} {d : D} {qs : List Q4} (hd : lsM M d = some (qs.map qD)) (h : Φ (.lst ((qs.mergeSort (leQ rev)).map qD)) M) : sortDP rev M Φ [d] :=
  ⟨Q4, d, qs, qD, fun q => PySem.W.Datum.toD q, rfl, hd, toP_q, .of fun a b => PySem.W.DatumOrd.alike a b, .tuples fun b => ⟨_, _, rfl⟩, fun b => by rw [depth_q]; decide, h⟩
end
end G
set_option Elab.async false
set_option linter.all false
set_option maxRecDepth 100000
set_option maxHeartbeats 1000000
/-! GAuto: the rules in a form that a tactic can search. -/
namespace G
open PySem PySem.Spec PyProof.Rows L2
/-! ### slots -/
inductive AtN : List Str → Nat → Str → Prop where
  | z {x : Str} {N : List Str} : AtN (x :: N) 0 x
  | s {x y : Str} {N : List Str} {i : Nat} : AtN N i x → AtN (y :: N) (i + 1) x
theorem AtN.get : ∀ {N : List Str} {i : Nat} {x : Str}, AtN N i x → N[i]? = some x
  | _, _, _, .z => rfl
  | _, _, _, .s h => h.get
inductive AtG : Gm → Nat → D → Prop where
  | z {d : D} {Γ : Gm} : AtG (some d :: Γ) 0 d
  | s {d : D} {g : Option D} {Γ : Gm} {i : Nat} : AtG Γ i d → AtG (g :: Γ) (i + 1) d
theorem AtG.get : ∀ {Γ : Gm} {i : Nat} {d : D}, AtG Γ i d → Γ[i]? = some (some d)
  | _, _, _, .z => rfl
  | _, _, _, .s h => h.get
inductive SetS : Gm → Nat → Option D → Gm → Prop where
  | z {g d : Option D} {Γ : Gm} : SetS (g :: Γ) 0 d (d :: Γ)
  | s {g d : Option D} {Γ Γ' : Gm} {i : Nat} : SetS Γ i d Γ' → SetS (g :: Γ) (i + 1) d (g :: Γ')
theorem SetS.eq : ∀ {Γ : Gm} {i : Nat} {d : Option D} {Γ' : Gm}, SetS Γ i d Γ' → Γ.set i d = Γ'
  | _, _, _, _, .z => rfl
  | _, _, _, _, .s h => by rw [List.set_cons_succ, h.eq]
inductive SetSs : Gm → List Nat → List D → Gm → Prop where
  | nil {Γ : Gm} : SetSs Γ [] [] Γ
  | cons {Γ Γ1 Γ2 : Gm} {i : Nat} {is : List Nat} {d : D} {ds : List D} : SetS Γ i (some d) Γ1 → SetSs Γ1 is ds Γ2 → SetSs Γ (i :: is) (d :: ds) Γ2
theorem SetSs.eq {Γ Γ' : Gm} {is : List Nat} {ds : List D} (h : SetSs Γ is ds Γ') : setG Γ is ds = Γ' ∧ ds.length = is.length := by
  induction h with
  | nil => exact ⟨rfl, rfl⟩
  | cons h1 _ ih => exact ⟨by show setG (List.set _ _ _) _ _ = _; rw [h1.eq]; exact ih.1, by rw [List.length_cons, List.length_cons, ih.2]⟩
inductive WipeS : Gm → List Nat → Gm → Prop where
  | nil {Γ : Gm} : WipeS Γ [] Γ
  | cons {Γ Γ1 Γ2 : Gm} {v : Nat} {vs : List Nat} : WipeS Γ vs Γ1 → SetS Γ1 v none Γ2 → WipeS Γ (v :: vs) Γ2
theorem WipeS.eq {Γ Γ' : Gm} {vs : List Nat} (h : WipeS Γ vs Γ') : wipeG Γ vs = Γ' := by
  induction h with
  | nil => rfl
  | cons _ h2 ih => show (wipeG _ _).set _ none = _; rw [ih, h2.eq]
inductive StartS : List Str → List D → Gm → Prop where
  | nil : StartS [] [] []
  | arg {n : Str} {N : List Str} {d : D} {ds : List D} {Γ : Gm} : StartS N ds Γ → StartS (n :: N) (d :: ds) (some d :: Γ)
  | var {n : Str} {N : List Str} {Γ : Gm} : StartS N [] Γ → StartS (n :: N) [] (none :: Γ)
theorem StartS.eq {N : List Str} {args : List D} {Γ : Gm} (h : StartS N args Γ) : startG N args = Γ := by
  induction h with
  | nil => rfl
  | @arg n N d ds Γ _ ih =>
    unfold startG at ih ⊢
    rw [List.map_cons, List.length_cons, List.length_cons, Nat.add_sub_add_right, List.cons_append, ih]
  | @var n N Γ _ ih =>
    unfold startG at ih ⊢
    rw [List.map_nil, List.nil_append, List.length_nil, Nat.sub_zero] at ih ⊢
    rw [List.length_cons, List.replicate_succ, ih]
abbrev Bod {ι : Type} (T : Fm ι) (st : Stmt) (N : List Str) (args : List D) (M : Ms) (Φ : PD) (Ψ : PX) : Prop :=
  SSX T (defBody st) (startG N args) M ⟨fun _ M' => Φ .non M', Φ, fun _ _ => False, fun _ _ => False, fun _ => Ψ⟩
section
variable {ι : Type} {T : Fm ι} {k : Nat} {P : Program} {w : World} {K : PySem.W.Frag} {mg : Str → Option Value} {base : Heap} {N : List Str} {sc : Scope} {Γ Γ' : Gm} {M : Ms} {Φ : PD} {Ψ : PX} {D : GEnds}
variable {e a b c o tg iter : Expr} {es : List Expr} {pos p : Pos}
theorem bod_start {st : Stmt} {args : List Da} (hs : StartS N args Γ) (h : SSX T (defBody st) Γ M ⟨fun _ M' => Φ .non M', Φ, fun _ _ => False, fun _ _ => False, fun _ => Ψ⟩) : Bod T st N args M Φ Ψ := by
  unfold Bod; rw [hs.eq]; exact h
theorem ax_var (hF : Fc T k P w K mg base N sc) {x : Str} {i : Nat} {d : Da} (hn : AtN N i x) (hg : AtG Γ i d) (h : Φ d M) (hv : Vis sc x := by first | exact Or.inl rfl | exact Or.inr (Or.inl rfl) | exact Or.inr (Or.inr rfl))
    (hd : (x == ("__debug__" : Str)) = false := by decide) (hcd : (x == ("__classdict__" : Str)) = false := by decide) : EX T (.Name x pos) Γ M Φ Ψ := ex_var hF i hg.get h hn.get hv hd hcd
theorem sx_setA (hF : Fd T k P w K mg base N sc) {x : Str} {j : Nat} {p : Pos} (hn : AtN N j x) (h : EX T e Γ M (fun d M1 => ∃ Γ', SetS Γ j (some d) Γ' ∧ D.nx Γ' M1) (D.ex Γ)) (hx : Loc sc x := by first | exact Or.inl rfl | exact Or.inr rfl)
    (hs : ∀ env, swapsWith e (some (.Name x p)) pos.line env = pure false := by intro _; rfl) : SX T (.Assign [.Name x p] e pos) Γ M D :=
  sx_set hF j (EX.imp h (fun d M1 ⟨Γ', h1, h2⟩ => by rw [h1.eq]; exact h2) fun _ _ _ _ z => z) hn.get hx hs
theorem tn_consA (hF : Fd T k P w K mg base N sc) {x : Str} {j : Nat} {es : List Expr} {is : List Nat} (hn : AtN N j x) (h : TnOk T es is) (hx : Loc sc x := by first | exact Or.inl rfl | exact Or.inr rfl) : TnOk T (.Name x pos :: es) (j :: is) := tn_cons hF j h hn.get hx
theorem tnb_consA (hF : Fc T k P w K mg base N sc) {scope : Scope} {x : Str} {j : Nat} {es : List Expr} {is : List Nat} (hn : AtN N j x) (h : TnOk (T.blk scope) es is) (hx : Loc scope x := by first | exact Or.inl rfl | exact Or.inr rfl) : TnOk (T.blk scope) (.Name x pos :: es) (j :: is) := tnb_cons hF j h hn.get hx
theorem tg_nmA (hF : Fd T k P w K mg base N sc) {x : Str} {j : Nat} (hn : AtN N j x) (hx : Loc sc x := by first | exact Or.inl rfl | exact Or.inr rfl) : TgOk T (.Name x pos) (.nm j) := tg_nm hF j hn.get hx
theorem tb_nmA (hF : Fc T k P w K mg base N sc) {scope : Scope} {x : Str} {j : Nat} (hn : AtN N j x) (hx : Loc scope x := by first | exact Or.inl rfl | exact Or.inr rfl) : TgOk (T.blk scope) (.Name x pos) (.nm j) := tb_nm hF j hn.get hx
theorem tg_tpA (hF : Fd T k P w K mg base N sc) {es : List Expr} {is : List Nat} {x1} (h : TnOk T es is) (hl : es.length = is.length) (hn : ∀ env, (assignEach es env).length = es.length := by intro _; rfl) (hst : ∀ env, (assignEach es env).findIdx? (·.1) = none := by intro _; rfl) (hh : T.hot = false := by assumption) : TgOk T (.Tuple es x1 pos) (.tp is) := tg_tp hF h (fun env => (hn env).trans hl) hst hh
theorem tb_tpA (hF : Fc T k P w K mg base N sc) {scope : Scope} {es : List Expr} {is : List Nat} {x1} (h : TnOk (T.blk scope) es is) (hl : es.length = is.length) (hn : ∀ env, (assignEach es env).length = es.length := by intro _; rfl) (hst : ∀ env, (assignEach es env).findIdx? (·.1) = none := by intro _; rfl) (hh : T.hot = false := by assumption) : TgOk (T.blk scope) (.Tuple es x1 pos) (.tp is) := tb_tp hF h (fun env => (hn env).trans hl) hst hh
theorem tgd_nm {j : Nat} {d : Da} {R : Gm → Prop} (h1 : SetS Γ j (some d) Γ') (h : R Γ') : ∃ Γ', tgD (.nm j) d Γ = some Γ' ∧ R Γ' := ⟨Γ', by show some (Γ.set j (some d)) = _; rw [h1.eq], h⟩
theorem tgd_tp {is : List Nat} {ds : List Da} {R : Gm → Prop} (h1 : SetSs Γ is ds Γ') (h : R Γ') : ∃ Γ', tgD (.tp is) (.tup ds) Γ = some Γ' ∧ R Γ' := ⟨Γ', by show (if ds.length = is.length then some (setG Γ is ds) else none) = _; rw [if_pos h1.eq.2, h1.eq.1], h⟩
theorem sx_par2 (hF : Fd T k P w K mg base N sc) {i j : Nat} {x y : Str} {px py pt : Pos} {kt k2 : Nat} {pt2 : Pos} (hi : AtN N i x) (hj : AtN N j y) (hij : i ≠ j) (h : AX T [a, b] Γ M (fun ds M1 => ∃ d u, ds = [d, u] ∧ ∃ Γ', SetSs Γ [i, j] [d, u] Γ' ∧ D.nx Γ' M1) (D.ex Γ))
    (hw : ∀ env : Env, env.scope = sc → swappedStores [.Tuple [.Name x px, .Name y py] kt pt] (.Tuple [a, b] k2 pt2) env = pure (some [x, y]) := by intro env he; obtain ⟨⟩ := env; cases he; rfl)
    (hx : sc.names.lookup x = some .local := by rfl) (hy : sc.names.lookup y = some .local := by rfl)
    (hs : ∀ env, swapsWithSole [.Tuple [.Name x px, .Name y py] kt pt] (.Tuple [a, b] k2 pt2) pos.line env = pure false := by intro _; rfl) (hh : T.hot = false := by assumption) :
    SX T (.Assign [.Tuple [.Name x px, .Name y py] kt pt] (.Tuple [a, b] k2 pt2) pos) Γ M D :=
  sx_par hF i j (AX.imp h fun ds M1 ⟨d, u, e1, Γ', e2, q⟩ => ⟨d, u, e1, by rw [← e2.eq.1] at q; exact q⟩) hw hi.get hj.get hij hx hy hs hh
theorem sx_par3A {c : Expr} (hF : Fd T k P w K mg base N sc) {i j l : Nat} {x y z : Str} {px py pz pt : Pos} {kt k2 : Nat} {pt2 : Pos} (hi : AtN N i x) (hj : AtN N j y) (hl : AtN N l z) (hij : i ≠ j) (hil : i ≠ l) (hjl : j ≠ l)
    (h : AX T [a, b, c] Γ M (fun ds M1 => ∃ d u v, ds = [d, u, v] ∧ ∃ Γ', SetSs Γ [i, j, l] [d, u, v] Γ' ∧ D.nx Γ' M1) (D.ex Γ))
    (hw : ∀ env : Env, env.scope = sc → swappedStores [.Tuple [.Name x px, .Name y py, .Name z pz] kt pt] (.Tuple [a, b, c] k2 pt2) env = pure (some [x, y, z]) := by intro env he; obtain ⟨⟩ := env; cases he; rfl)
    (hx : sc.names.lookup x = some .local := by rfl) (hy : sc.names.lookup y = some .local := by rfl) (hz : sc.names.lookup z = some .local := by rfl)
    (hs : ∀ env, swapsWithSole [.Tuple [.Name x px, .Name y py, .Name z pz] kt pt] (.Tuple [a, b, c] k2 pt2) pos.line env = pure false := by intro _; rfl) (hh : T.hot = false := by assumption) :
    SX T (.Assign [.Tuple [.Name x px, .Name y py, .Name z pz] kt pt] (.Tuple [a, b, c] k2 pt2) pos) Γ M D :=
  sx_par3 hF i j l (AX.imp h fun ds M1 ⟨d, u, v, e1, Γ', e2, q⟩ => ⟨d, u, v, e1, by rw [← e2.eq.1] at q; exact q⟩) hw hi.get hj.get hl.get hij hil hjl hx hy hz hs hh
theorem ds2 {d u : Da} {R : Gm → Prop} {is : List Nat} (h1 : SetSs Γ is [d, u] Γ') (h : R Γ') : ∃ d' u', [d, u] = [d', u'] ∧ ∃ Γ', SetSs Γ is [d', u'] Γ' ∧ R Γ' := ⟨d, u, rfl, Γ', h1, h⟩
theorem ds3 {d u v : Da} {R : Gm → Prop} {is : List Nat} (h1 : SetSs Γ is [d, u, v] Γ') (h : R Γ') : ∃ d' u' v', [d, u, v] = [d', u', v'] ∧ ∃ Γ', SetSs Γ is [d', u', v'] Γ' ∧ R Γ' := ⟨d, u, v, rfl, Γ', h1, h⟩
theorem ds1 {j : Nat} {d : Da} {R : Gm → Prop} (h1 : SetS Γ j (some d) Γ') (h : R Γ') : ∃ Γ', SetS Γ j (some d) Γ' ∧ R Γ' := ⟨Γ', h1, h⟩
/-- x op= e of ints -/
def augP (M : Ms) (Φ : PD) (f : Int → Int → Int) : Da → Da → Prop
  | .int i, .int j => Φ (.int (f i j)) M
  | _, _ => False
theorem sx_augI (hF : Fd T k P w K mg base N sc) {op : Operator} {f : Int → Int → Int} (ho : ∀ i, PIp (T.X i) op (ipI f)) {x : Str} {j : Nat} {p : Pos} {d0 : Da} (hn : AtN N j x) (h0 : AtG Γ j d0) (h : EX T e Γ M (fun d M1 => augP M1 (fun d M2 => ∃ Γ', SetS Γ j (some d) Γ' ∧ D.nx Γ' M2) f d0 d) (D.ex Γ))
    (hx : Loc sc x := by first | exact Or.inl rfl | exact Or.inr rfl) : SX T (.AugAssign (.Name x p) op e pos) Γ M D := by
  refine SX.mk (fun i => ps_aug (i := j) (by rw [hF.fc.hN]; exact hF.fc.nd) (by rw [hF.fc.hN]; exact hn.get) (by rw [hF.fc.hs]; exact hx) (pe_te i) (ho i) (by have := hF.fn i x hx; rw [hF.fc.hs]; exact this)) ?_
  intro F H σ E ok sl q
  obtain ⟨v0, hv0, r0⟩ := sl.2 j d0 h0.get
  refine ⟨v0, hv0, h F H σ _ ok sl (fun F1 H1 M1 d v e1 ok1 r z => ?_) (q.kx sl)⟩
  have z : augP M1 (fun d M2 => ∃ Γ', SetS Γ j (some d) Γ' ∧ D.nx Γ' M2) f d0 d := z
  unfold augP at z
  split at z
  · cases r0; cases r
    obtain ⟨Γ', h1, z⟩ := z
    refine ⟨_, _, rfl, rfl, ?_⟩
    rw [← h1.eq] at z
    exact q.nx F1 _ M1 _ H1 e1 ok1 ((sl.mono e1).set (d := .int _) (v := .int _) rfl j) z
  · exact False.elim z
theorem sx_augadd (hF : Fd T k P w K mg base N sc) {x : Str} {j : Nat} {p : Pos} {d0 : Da} (hn : AtN N j x) (h0 : AtG Γ j d0) (h : EX T e Γ M (fun d M1 => augP M1 (fun d M2 => ∃ Γ', SetS Γ j (some d) Γ' ∧ D.nx Γ' M2) (fun i j => i + j) d0 d) (D.ex Γ))
    (hx : Loc sc x := by first | exact Or.inl rfl | exact Or.inr rfl) : SX T (.AugAssign (.Name x p) .Add e pos) Γ M D := sx_augI hF (fun i => ip_add) hn h0 h hx
/-! ### operations on ints -/
theorem augP_ii {f : Int → Int → Int} {i j : Int} (h : Φ (.int (f i j)) M) : augP M Φ f (.int i) (.int j) := h
theorem addP_ii {i j : Int} (h : Φ (.int (i + j)) M) : addP M Φ (.int i) (.int j) := h
theorem addP_ll {x y : List Da} (hs : x.length + y.length ≤ sizeLine) (h : Φ (.lst (x ++ y)) M) : addP M Φ (.lst x) (.lst y) := ⟨hs, h⟩
theorem subP_ii {i j : Int} (h : Φ (.int (i - j)) M) : subP M Φ (.int i) (.int j) := h
theorem mulP_ii {i j : Int} (hc : CMul i j) (h : Φ (.int (i * j)) M) : mulP M Φ (.int i) (.int j) := ⟨hc, h⟩
theorem fdivP_ii {i j : Int} (hc : CDiv i j) (h : Φ (.int (i / j)) M) : fdivP M Φ (.int i) (.int j) := ⟨hc, h⟩
theorem modP_ii {i j : Int} (hc : 0 < j) (h : Φ (.int (i % j)) M) : modP M Φ (.int i) (.int j) := ⟨hc, h⟩
theorem powP_ii {i j : Int} (hc : CPow i j) (h : Φ (.int (i ^ j.toNat)) M) : powP M Φ (.int i) (.int j) := ⟨hc, h⟩
theorem negP_i {i : Int} (h : Φ (.int (-i)) M) : negP M Φ (.int i) := h
theorem eqP_ii {i j : Int} (h : Φ (.bl (decide (i = j))) M) : eqP M Φ (.int i) (.int j) := h
theorem eqP_ss {i j : Str} (h : Φ (.bl (decide (i = j))) M) : eqP M Φ (.str i) (.str j) := h
theorem eqP_bb {i j : Bool} (h : Φ (.bl (decide (i = j))) M) : eqP M Φ (.bl i) (.bl j) := h
theorem neP_ii {i j : Int} (h : Φ (.bl (!decide (i = j))) M) : neP M Φ (.int i) (.int j) := ⟨_, rfl, h⟩
theorem neP_ss {i j : Str} (h : Φ (.bl (!decide (i = j))) M) : neP M Φ (.str i) (.str j) := ⟨_, rfl, h⟩
theorem neP_bb {i j : Bool} (h : Φ (.bl (!decide (i = j))) M) : neP M Φ (.bl i) (.bl j) := ⟨_, rfl, h⟩
theorem ltP_ii {f : Int → Int → Bool} {i j : Int} (h : Φ (.bl (f i j)) M) : ltP f M Φ (.int i) (.int j) := h
theorem intP_i {i : Int} (h : Φ (.int i) M) : intP M Φ [.int i] := h
theorem intP_b {i : Bool} (h : Φ (.int (if i then 1 else 0)) M) : intP M Φ [.bl i] := h
theorem absP_i {i : Int} (h : Φ (.int (i.natAbs : Int)) M) : absP M Φ [.int i] := by
  show Φ (.int (if i < 0 then -i else i)) M
  have e1 : (if i < 0 then -i else i) = (i.natAbs : Int) := by split <;> omega
  rw [e1]; exact h
theorem lenP_t {ds : List Da} (h : Φ (.int ds.length) M) : lenP M Φ [.tup ds] := h
theorem lenP_l {ds : List Da} (h : Φ (.int ds.length) M) : lenP M Φ [.lst ds] := h
theorem lenP_rl {ds : List Da} (h : Φ (.int ds.length) M) : lenP M Φ [.rol ds] := h
theorem lenP_r {q : Addr} {ds : List Da} (hm : M q = some (.lst ds)) (h : Φ (.int ds.length) M) : lenP M Φ [.ref q] := ⟨ds, hm, h⟩
theorem ixP_t {ds : List Da} {i : Int} {d : Da} (hd : atI ds i = some d) (h : Φ d M) : ixP M Φ (.tup ds) (.int i) := ⟨d, hd, h⟩
theorem ixP_l {ds : List Da} {i : Int} {d : Da} (hd : atI ds i = some d) (h : Φ d M) : ixP M Φ (.lst ds) (.int i) := ⟨d, hd, h⟩
theorem ixP_rl {ds : List Da} {i : Int} {d : Da} (hd : atI ds i = some d) (h : Φ d M) : ixP M Φ (.rol ds) (.int i) := ⟨d, hd, h⟩
theorem ixP_r {q : Addr} {ds : List Da} {i : Int} {d : Da} (hm : M q = some (.lst ds)) (hd : atI ds i = some d) (h : Φ d M) : ixP M Φ (.ref q) (.int i) := ⟨ds, d, hm, hd, h⟩
/-! ### branches -/
section
variable {A B : Prop}
theorem br_T {c : Bool} (hc : c = true) (h1 : A) : ∃ c', G.D.bl c = .bl c' ∧ (c' = true → A) ∧ (c' = false → B) := ⟨c, rfl, fun _ => h1, fun z => by rw [hc] at z; cases z⟩
theorem br_F {c : Bool} (hc : c = false) (h1 : B) : ∃ c', G.D.bl c = .bl c' ∧ (c' = true → A) ∧ (c' = false → B) := ⟨c, rfl, fun z => (by rw [hc] at z; cases z), fun _ => h1⟩
theorem br_d {p : Prop} [Decidable p] (h1 : p → A) (h2 : ¬ p → B) : ∃ c', G.D.bl (decide p) = .bl c' ∧ (c' = true → A) ∧ (c' = false → B) := ⟨_, rfl, fun z => h1 (of_decide_eq_true z), fun z => h2 (of_decide_eq_false z)⟩
theorem br_nd {p : Prop} [Decidable p] (h1 : ¬ p → A) (h2 : p → B) : ∃ c', G.D.bl (!decide p) = .bl c' ∧ (c' = true → A) ∧ (c' = false → B) := ⟨_, rfl, fun z => h1 (by simpa using z), fun z => h2 (by simpa using z)⟩
theorem br_b {c : Bool} (h1 : c = true → A) (h2 : c = false → B) : ∃ c', G.D.bl c = .bl c' ∧ (c' = true → A) ∧ (c' = false → B) := ⟨_, rfl, h1, h2⟩
/- behind not -/
theorem bn_T {c : Bool} (hc : c = true) (h1 : B) : ∃ c', G.D.bl c = .bl c' ∧ ((!c') = true → A) ∧ ((!c') = false → B) := ⟨c, rfl, fun z => (by rw [hc] at z; cases z), fun _ => h1⟩
theorem bn_F {c : Bool} (hc : c = false) (h1 : A) : ∃ c', G.D.bl c = .bl c' ∧ ((!c') = true → A) ∧ ((!c') = false → B) := ⟨c, rfl, fun _ => h1, fun z => by rw [hc] at z; cases z⟩
theorem bn_d {p : Prop} [Decidable p] (h1 : ¬ p → A) (h2 : p → B) : ∃ c', G.D.bl (decide p) = .bl c' ∧ ((!c') = true → A) ∧ ((!c') = false → B) := ⟨_, rfl, fun z => h1 (by simpa using z), fun z => h2 (by simpa using z)⟩
theorem bn_nd {p : Prop} [Decidable p] (h1 : p → A) (h2 : ¬ p → B) : ∃ c', G.D.bl (!decide p) = .bl c' ∧ ((!c') = true → A) ∧ ((!c') = false → B) := ⟨_, rfl, fun z => h1 (by simpa using z), fun z => h2 (by simpa using z)⟩
theorem bn_b {c : Bool} (h1 : c = false → A) (h2 : c = true → B) : ∃ c', G.D.bl c = .bl c' ∧ ((!c') = true → A) ∧ ((!c') = false → B) := ⟨_, rfl, fun z => h1 (by simpa using z), fun z => h2 (by simpa using z)⟩
/- without a datum -/
theorem bw_T (h1 : A) : (true = true → A) ∧ (true = false → B) := ⟨fun _ => h1, fun z => nomatch z⟩
theorem bw_F (h1 : B) : (false = true → A) ∧ (false = false → B) := ⟨fun z => (nomatch z), fun _ => h1⟩
/- a truth -/
theorem tr_i {i : Int} (h1 : i ≠ 0 → A) (h2 : i = 0 → B) : truP M (fun c _ => (c = true → A) ∧ (c = false → B)) (.int i) := by
  show ((i != 0) = true → A) ∧ ((i != 0) = false → B)
  exact ⟨fun z => h1 (by simpa using z), fun z => h2 (by simpa using z)⟩
theorem tr_b {i : Bool} (h1 : i = true → A) (h2 : i = false → B) : truP M (fun c _ => (c = true → A) ∧ (c = false → B)) (.bl i) := ⟨h1, h2⟩
end
/-! ### loops, comprehensions -/
/-- a map over a list of one type's data -/
theorem lc_mapA {α : Type} {elt : Expr} {scope : Scope} {own : List Nat} {g : Tg} {xs : List α} {Γw : Gm} (enc f : α → Da) (hl : xs.length ≤ 100000) (hw : WipeS Γ own Γw)
    (h : ∀ x ∈ xs, ∀ M', Sub M M' → ∃ Γ', tgD g (enc x) Γw = some Γ' ∧ EX (T.blk scope) elt Γ' M' (fun y M2 => y = f x ∧ M2 = M') fun _ _ _ _ => False) (q : Φ (.lst (xs.map f)) M) :
    lcAsk T scope own g (fun _ M Φ => Φ true M) elt Γ Φ (xs.map enc) (fun _ => True) M := by
  refine ⟨fun n acc M2 => acc = (xs.take n).map f ∧ M2 = M, ⟨by simp, rfl⟩, fun _ _ _ _ _ _ _ => trivial, fun n d acc M2 p hd hI hp => ?_, fun acc M2 hI => ?_⟩
  · obtain ⟨rfl, rfl⟩ := hI
    rw [List.getElem?_map] at hd
    obtain ⟨x, hx, rfl⟩ := Option.map_eq_some_iff.mp hd
    obtain ⟨Γ', h1, h2⟩ := h x (List.mem_of_getElem? hx) _ (Sub.new (o := .lst ((xs.take n).map f)) hp)
    refine ⟨Γ', by rw [hw.eq]; exact h1, fun _ => EX.imp h2 (fun y M3 e => ?_) fun _ _ _ _ z => z, fun z => nomatch z⟩
    obtain ⟨rfl, rfl⟩ := e
    refine ⟨?_, M2, rfl, hp, ?_, rfl⟩
    · rw [List.length_map, List.length_take]
      exact Nat.lt_of_le_of_lt (Nat.min_le_right _ _) (Nat.lt_of_le_of_lt hl (by rw [sizeLine_eq]; decide))
    · rw [List.take_add_one, hx]; simp
  · obtain ⟨rfl, rfl⟩ := hI
    rw [List.length_map, List.take_length]; exact q
/-- .. with a test -/
theorem lc_filterA {α : Type} {elt c : Expr} {scope : Scope} {own : List Nat} {g : Tg} {xs : List α} {Γw : Gm} (enc f : α → Da) (t : α → Bool) (hl : xs.length ≤ 100000) (hw : WipeS Γ own Γw)
    (h : ∀ x ∈ xs, ∀ M', Sub M M' → ∃ Γ', tgD g (enc x) Γw = some Γ' ∧ TX (T.blk scope) c Γ' M' (fun b M2 => M2 = M' ∧ b = t x) (fun _ _ _ _ => False) ∧ (t x = true → EX (T.blk scope) elt Γ' M' (fun y M2 => y = f x ∧ M2 = M') fun _ _ _ _ => False))
    (q : Φ (.lst ((xs.filter t).map f)) M) :
    lcAsk T scope own g (fun Γ M Φ => TX (T.blk scope) c Γ M Φ fun _ _ _ _ => False) elt Γ Φ (xs.map enc) (fun _ => True) M := by
  refine lc_filterT enc f t hl (fun x hx => ?_) q
  rw [hw.eq]
  obtain ⟨Γ', h1, _, _⟩ := h x hx M (Sub.refl M)
  refine ⟨Γ', h1, fun M' hs => ?_⟩
  obtain ⟨Γ2, h2, h3, h4⟩ := h x hx M' hs
  rw [h1] at h2
  cases h2
  exact TX.imp h3 fun b M2 ⟨e1, e2⟩ => ⟨e2, e1, fun hb => h4 (by rw [← e2]; exact hb)⟩
/-- a test as a bool -/
theorem tx_is {t : Bool} {M' : Ms} {Φ : Bool → Ms → Prop} (h : TX T c Γ M (fun b M2 => M2 = M' ∧ b = t) Ψ) (q : Φ t M') : TX T c Γ M Φ Ψ := TX.imp h fun b M2 ⟨e1, e2⟩ => by rw [e1, e2]; exact q
/-- for over a list of one type's data: J by the items done -/
theorem sx_forA {α : Type} (hF : Fd T k P w K mg base N sc) {body : List Stmt} {g : Tg} (xs : List α) (enc : α → Da) (J : List α → Gm → Ms → Prop) (PM : Ms → Prop) (hg : TgOk T tg g)
    (h : IX T tg iter Γ M (fun ds PM' M1 => ds = xs.map enc ∧ (∀ M, PM M → PM' M) ∧ J [] Γ M1) (D.ex Γ))
    (hp : ∀ ys Γ M, J ys Γ M → PM M)
    (hb : ∀ ys x zs Γ M, xs = ys ++ x :: zs → J ys Γ M → ∃ Γ', tgD g (enc x) Γ = some Γ' ∧ SSX T body Γ' M { D with nx := J (ys ++ [x]), ct := J (ys ++ [x]), bk := D.nx })
    (hq : ∀ Γ M, J xs Γ M → D.nx Γ M)
    (hs : ∀ env x, foldedSetIterable iter env x = pure x := by intro _ _; rfl) (hh : T.hot = false := by assumption) : SX T (.For tg iter body [] pos) Γ M D := by
  refine sx_for hF hg ?_ hs hh
  intro F H σ R ok sl q x
  refine h F H σ R ok sl (fun F1 H1 M1 J1 ds PM1 e1 ok1 it z => ?_) x
  obtain ⟨rfl, hPM, j0⟩ := z
  refine q F1 H1 M1 J1 _ PM1 e1 ok1 it ⟨fun n => J (xs.take n), by show J (xs.take 0) Γ M1; rw [List.take_zero]; exact j0, fun n Γ M hj => hPM _ (hp _ _ _ hj), fun n d Γ M hd hj => ?_, fun Γ M hj => ?_⟩
  · rw [List.getElem?_map] at hd
    obtain ⟨x, hx, rfl⟩ := Option.map_eq_some_iff.mp hd
    have e2 : xs.take (n + 1) = xs.take n ++ [x] := by rw [List.take_add_one, hx]; rfl
    have e3 : xs = xs.take n ++ x :: xs.drop (n + 1) := by
      have hlt := (List.getElem?_eq_some_iff.mp hx).1
      have hxe := (List.getElem?_eq_some_iff.mp hx).2
      rw [← hxe, ← List.drop_eq_getElem_cons hlt, List.take_append_drop]
    show ∃ Γ', tgD g (enc x) Γ = some Γ' ∧ SSX T body Γ' M { D with nx := J (xs.take (n + 1)), ct := J (xs.take (n + 1)), bk := D.nx }
    rw [e2]
    exact hb _ x _ Γ M e3 hj
  · have hj : J (xs.take (xs.map enc).length) Γ M := hj
    rw [List.length_map, List.take_length] at hj
    exact hq Γ M hj
theorem rngD_map (lo : Int) (n : Nat) : rngD lo n = (List.range n).map fun (i : Nat) => .int (lo + (i : Int)) := rfl
theorem um_atA {M : Ms} {q r : Addr} {o u : MO} (h : M r = none) (hq : M q = some u) : um M r o q = some u := by
  rw [um_ne (fun z => by rw [z, h] at hq; cases hq)]; exact hq
end
end G
set_option Elab.async false
set_option linter.all false
set_option maxRecDepth 100000
set_option maxHeartbeats 1000000
/-! GCall: calls, cold; the built-ins' names; small steps for the tactic. -/
namespace G
open PySem PySem.Spec PyProof.Rows L2
/-- the built-in names are free -/
structure Bi (mg : Str → Option Value) : Prop where
  len : mg "len" = none
  abs : mg "abs" = none
  int : mg "int" = none
  bool : mg "bool" = none
  str : mg "str" = none
  list : mg "list" = none
  tuple : mg "tuple" = none
  dict : mg "dict" = none
  isinstance : mg "isinstance" = none
  all : mg "all" = none
  zip : mg "zip" = none
  max : mg "max" = none
  min : mg "min" = none
  sum : mg "sum" = none
  sorted : mg "sorted" = none
  range : mg "range" = none
  enumerate : mg "enumerate" = none
section
variable {ι : Type} {T : Fm ι} {k : Nat} {P : Program} {w : World} {K : PySem.W.Frag} {mg : Str → Option Value} {base : Heap} {N : List Str} {sc : Scope} {Γ Γ' : Gm} {M : Ms} {Φ : PD} {Ψ : PX} {D : GEnds}
variable {e a b c o tg iter : Expr} {es : List Expr} {pos p : Pos} {x : Str} {j : Nat} {ps : List Str} {ds : DS}
theorem ex_callF (hF : Fc T k P w K mg base N sc) (c : Cal false P w K mg base x j ps ds) (hk : j ≤ k) (h : AX T (e :: es) Γ M (fun xs M1 => ds xs M1 Φ Ψ) Ψ)
    (hg : sc.names.lookup x = some .globalImplicit := by rfl) (hdb : (x == ("__debug__" : Str)) = false := by decide) (he : ∀ env, starEach (e :: es) env = (false, eval e env) :: starEach es env := by intro _; rfl) (hpl : ∀ env, (backTo pos (starEach es env)).any (·.1) = false := by intro _; rfl)
    (hh : T.hot = false := by assumption) : EX T (.Call (.Name x p) (e :: es) [] pos) Γ M Φ Ψ := ex_call hF (c.at hh) hk h hg hdb he hpl
/-- a call's test -/
theorem tx_bl {Φ : Bool → Ms → Prop} (h : EX T e Γ M (fun d M1 => ∃ c, d = .bl c ∧ Φ c M1) Ψ) (he : ∀ env whole, isTrue e env whole = (do let v ← whole; standAt e.pos; holding [v] (truthy v)) := by intro _ _; rfl) : TX T e Γ M Φ Ψ := tx_val he h
theorem sz2 {α : Type} {xs : List α} (h : xs.length ≤ 16777216) : xs.length ≤ sizeLine := by rw [sizeLine_eq]; exact h
theorem ax_tup {A : Prop} {xs : List Da} (h : xs.length ≤ 16777216) (q : A) : xs.length ≤ sizeLine ∧ A := ⟨sz2 h, q⟩
theorem cm_l {x y : Int} (h1 : -18446744073709551616 < x) (h2 : x < 18446744073709551616) : CMul x y := .inl ⟨by omega, by omega⟩
theorem cm_r {x y : Int} (h1 : -18446744073709551616 < y) (h2 : y < 18446744073709551616) : CMul x y := .inr ⟨by omega, by omega⟩
theorem cd_i {x y : Int} (h1 : 0 < y) (h2 : y < 1073741824) : CDiv x y := ⟨h1, h2⟩
/-! ### a[b], a[b] = e: lists, tuples, texts, dicts -/
theorem ix_dictG {X : Cx} (hu : X.A.units + 1 < cLine) : IxR X (fun x y H Q => ∃ a v, x = .ref a ∧ DGet H a y (some v) ∧ Q v H) := by
  intro value slice pins s σ H x y v u Q I rx ry h hs
  obtain ⟨a, w1, rfl, g, q⟩ := h
  obtain rfl : v = Value.ref a := rx
  have hT := dict_typeIs I g
  unfold subscriptTail
  refine wpAny_bind ?_
  rw [getitemInPython_of_ne hT.not_modules]
  refine wpAny_bind (wpAny_specialOf hT PySem.F.slot_dict_getitem.lookup ?_)
  have fin : wpAny (model X.prog X.w) X.A (subscripted slice false (.ref a) u) (fun r s₃ => wpAny (model X.prog X.w) X.A (letTemporaryGo value (.ref a) r >>= fun _ => pure r) (EP X pins σ Q) X.xe s₃) X.xe s := by
    rw [hs]
    refine wpAny_operating ?_
    refine d_getItem hu I g ry fun w' s3 I3 rw' => ?_
    exact wpAny_bind (wpAny_letTemporaryGo (wpAny_pure ⟨w1, H, I3, rw', q⟩))
  first
    | exact wpAny_pure (wpAny_bind fin)
    | exact wpAny_bind (wpAny_pure (wpAny_bind fin))
    | exact wpAny_bind fin
def ixX (M : Ms) (Φ : PD) (x y : Da) : Prop := ixP M Φ x y ∨ dgetP M Φ x y
theorem ex_ixX (hF : Fc T k P w K mg base N sc) (h : EX T a Γ M (fun x M1 => EX T b Γ M1 (fun y M2 => ixX M2 Φ x y) Ψ) Ψ) (hs : PlainIx b := by exact fun _ _ => rfl) : EX T (.Subscript a b pos) Γ M Φ Ψ := by
  refine EX.mk (fun i => pe_ix (IxR.or (r := rIx T.K) (by rw [← hF.hK i]; exact ix_seq) (ix_dictG (hF.u1 i))) (pe_te i) (pe_te i) hs) (ge_op (EX.imp h (fun x M1 q => EX.imp q (fun y M2 z => ?_) fun _ _ _ _ z => z) fun _ _ _ _ z => z))
  intro F H vx vy Q ok rx ry hk
  rcases z with z | z
  · exact .inl (gr_ix z F H vx vy Q ok rx ry hk)
  · obtain ⟨kvs, j, dd, hd, rfl, hg, q⟩ := z
    obtain ⟨q0, us, rfl, hq, kr⟩ := dic_read ok rx hd
    rcases krep_get (x := j) kr with ⟨d', u, g1, g2, rr⟩ | ⟨g1, _⟩
    · rw [hg] at g1
      cases g1
      exact .inr ⟨q0, u, rfl, .inl ⟨us, j, .of hq, keyD_rep ry, g2.symm⟩, hk F H _ dd u (Same.refl _) ok rr q⟩
    · rw [hg] at g1; cases g1
theorem ixX_t {ds : List Da} {i : Int} {d : Da} (hd : atI ds i = some d) (h : Φ d M) : ixX M Φ (.tup ds) (.int i) := .inl ⟨d, hd, h⟩
theorem ixX_l {ds : List Da} {i : Int} {d : Da} (hd : atI ds i = some d) (h : Φ d M) : ixX M Φ (.lst ds) (.int i) := .inl ⟨d, hd, h⟩
theorem ixX_rl {ds : List Da} {i : Int} {d : Da} (hd : atI ds i = some d) (h : Φ d M) : ixX M Φ (.rol ds) (.int i) := .inl ⟨d, hd, h⟩
theorem ixX_r {q : Addr} {ds : List Da} {i : Int} {d : Da} (hm : M q = some (.lst ds)) (hd : atI ds i = some d) (h : Φ d M) : ixX M Φ (.ref q) (.int i) := .inl ⟨ds, d, hm, hd, h⟩
theorem ixX_dr {q : Addr} {kvs : KvD} {i : Int} {d : Da} (hm : M q = some (dMO kvs)) (hd : kget kvs (.inl i) = some d) (h : Φ d M) : ixX M Φ (.ref q) (.int i) := .inr ⟨kvs, .inl i, d, .inr ⟨q, rfl, hm⟩, rfl, hd, h⟩
theorem pset_or {X : Cx} {t t' : TSet} (h : PSet X t) (h' : PSet X t') : PSet X (fun o i v H Q => t o i v H Q ∨ t' o i v H Q) := fun pins s σ H o i v ov iv u Q I ro ri rv q =>
  q.elim (h pins s σ H o i v ov iv u Q I ro ri rv) (h' pins s σ H o i v ov iv u Q I ro ri rv)
def setX (M : Ms) (Θ : Ms → Prop) (x y v : Da) : Prop := setP M Θ x y v ∨ setDP M Θ x y v
theorem sx_subX {i : Expr} {pos' : Pos} (hF : Fc T k P w K mg base N sc) (h : EX T e Γ M (fun v M1 => EX T o Γ M1 (fun x M2 => EX T i Γ M2 (fun y M3 => setX M3 (fun M4 => D.nx Γ M4) x y v) (D.ex Γ)) (D.ex Γ)) (D.ex Γ))
    (hs' : ∀ env, swapsWithSole [.Subscript o i pos'] e pos.line env = pure false := by intro _; rfl) (hw : ∀ env, swappedStores [.Subscript o i pos'] e env = pure none := by intro _; rfl)
    (ha : ∀ env v, assign (.Subscript o i pos') env v = (do
      let ov ← holding [v] (eval o env)
      let iv ← holding [v, ov] (eval i env)
      standAt pos'
      holding [v, ov, iv] (setItem ov iv v)
      release [v, ov, iv] []) := by intro _ _; rfl)
    (h1 : ∀ env, (assignEach [.Subscript o i pos'] env).map (·.2) = [assign (.Subscript o i pos') env] := by intro _; rfl) : SX T (.Assign [.Subscript o i pos'] e pos) Γ M D := by
  refine SX.mk (fun z => ps_asg (pe_te z) (pg_sub (pe_te z) (pe_te z) (pset_or set_list (set_dict (hF.u1 z))) (ha _)) (hs' _) (hw _) (h1 _)) ?_
  intro F H σ E ok sl q
  refine h F H σ _ ok sl (fun F1 H1 M1 v vv e1 ok1 r1 z1 => ?_) (q.kx sl)
  refine z1 F1 H1 σ _ ok1 (sl.mono e1) (fun F2 H2 M2 x vx e2 ok2 r2 z2 => ?_) ((q.mono e1).kx (sl.mono e1))
  refine z2 F2 H2 σ _ ok2 (sl.mono (e1.trans e2)) (fun F3 H3 M3 y vy e3 ok3 r3 z3 => ?_) ((q.mono (e1.trans e2)).kx (sl.mono (e1.trans e2)))
  rcases z3 with z3 | z3
  · left
    cases x <;> cases y <;> first | exact False.elim z3 | skip
    obtain ⟨ds, j, hm, hj, z⟩ := z3
    cases r2; cases r3
    obtain ⟨hF', vs, hp, rs⟩ := ok3.mu _ _ hm
    refine ⟨_, vs, _, j, rfl, rfl, hp, by rw [rs.length]; exact hj, ?_⟩
    exact q.nx F3 Γ _ σ _ (e1.trans (e2.trans e3)) (ok3.write (u := .lst (ds.set j v)) hm ⟨_, upd_same, Reps.set ((r1.mono e2).mono e3) j rs⟩) (sl.mono (e1.trans (e2.trans e3))) z
  · right
    obtain ⟨q0, kvs, j, rfl, hm, rfl, hl, z⟩ := z3
    cases r2
    obtain ⟨us, hq, kr⟩ := mr_dMO.mp (ok3.mu _ _ hm).2
    refine ⟨q0, _, rfl, .inl ⟨us, j, hq, keyD_rep r3, by rw [krep_len kr]; exact hl, rfl⟩, ?_⟩
    exact q.nx F3 Γ _ σ _ (e1.trans (e2.trans e3)) (ok3.write (u := dMO (kput kvs j v)) hm (mr_dMO.mpr ⟨_, upd_same, krep_put kr ((r1.mono e2).mono e3)⟩)) (sl.mono (e1.trans (e2.trans e3))) z
theorem setX_r {q : Addr} {dd : List Da} {i : Int} {j : Nat} {v : Da} {Θ : Ms → Prop} (hm : M q = some (.lst dd)) (hj : ixN dd.length i = some j) (h : Θ (um M q (.lst (dd.set j v)))) : setX M Θ (.ref q) (.int i) v := .inl ⟨dd, j, hm, hj, h⟩
theorem setX_di {q : Addr} {kvs : KvD} {i : Int} {v : Da} {Θ : Ms → Prop} (hm : M q = some (dMO kvs)) (hl : kvs.length < sizeLine) (h : Θ (um M q (dMO (kput kvs (.inl i) v)))) : setX M Θ (.ref q) (.int i) v := .inr ⟨q, kvs, .inl i, rfl, hm, rfl, hl, h⟩
theorem appP_r {q : Addr} {dd : List Da} {y : Da} (hm : M q = some (.lst dd)) (hl : dd.length < sizeLine) (h : Φ .non (um M q (.lst (dd ++ [y])))) : appP M Φ (.ref q) [y] := ⟨q, dd, y, rfl, rfl, hm, hl, h⟩
theorem isL_r {A : Prop} {q : Addr} {dd : List Da} (hm : M q = some (.lst dd)) (h : A) : isL M (.ref q) ∧ A := ⟨⟨q, dd, rfl, hm⟩, h⟩
theorem listP_l {dd : List Da} (h : Φ (.lst dd) M) : listP M Φ [.lst dd] := ⟨_, _, rfl, rfl, h⟩
theorem listP_t {dd : List Da} (h : Φ (.lst dd) M) : listP M Φ [.tup dd] := ⟨_, _, rfl, rfl, h⟩
theorem tupP_t {dd : List Da} (h : Φ (.tup dd) M) : tupP M Φ [.tup dd] := ⟨_, _, rfl, .inl rfl, h⟩
theorem tupP_l {dd : List Da} (h : Φ (.tup dd) M) : tupP M Φ [.lst dd] := ⟨_, _, rfl, .inr rfl, h⟩
/-- % by any number but 0 -/
def modNP (M : Ms) (Φ : PD) : Da → Da → Prop
  | .int i, .int j => j ≠ 0 ∧ Φ (.int (i.fmod j)) M
  | _, _ => False
theorem ex_modN (h : EX T a Γ M (fun x M1 => EX T b Γ M1 (fun y M2 => modNP M2 Φ x y) Ψ) Ψ) : EX T (.BinOp a .Mod b pos) Γ M Φ Ψ := by
  refine ex_opG (R := modNP) (fun i => op_modN) (fun x y M Φ q => ?_) h
  intro F H vx vy Q ok rx ry hk
  cases x <;> cases y <;> first | exact False.elim q | skip
  cases rx; cases ry
  exact ⟨_, _, rfl, rfl, q.1, hk F H M (.int _) _ (Same.refl F) ok rfl q.2⟩
theorem modNP_ii {i j : Int} (hc : j ≠ 0) (h : Φ (.int (i.fmod j)) M) : modNP M Φ (.int i) (.int j) := ⟨hc, h⟩
def modX (M : Ms) (Φ : PD) (x y : Da) : Prop := modP M Φ x y ∨ modNP M Φ x y
theorem ex_modX (h : EX T a Γ M (fun x M1 => EX T b Γ M1 (fun y M2 => modX M2 Φ x y) Ψ) Ψ) : EX T (.BinOp a .Mod b pos) Γ M Φ Ψ := by
  refine ex_opG (R := modX) (fun i => opr_or op_mod op_modN) (fun x y M Φ q => ?_) h
  intro F H vx vy Q ok rx ry hk
  rcases q with q | q
  · cases x <;> cases y <;> first | exact False.elim q | skip
    cases rx; cases ry
    exact .inl ⟨_, _, rfl, rfl, q.1, hk F H M (.int _) _ (Same.refl F) ok rfl q.2⟩
  · cases x <;> cases y <;> first | exact False.elim q | skip
    cases rx; cases ry
    exact .inr ⟨_, _, rfl, rfl, q.1, hk F H M (.int _) _ (Same.refl F) ok rfl q.2⟩
theorem modX_p {i j : Int} (hc : 0 < j) (h : Φ (.int (i % j)) M) : modX M Φ (.int i) (.int j) := .inl ⟨hc, h⟩
theorem modX_n {i j : Int} (hc : j ≠ 0) (h : Φ (.int (i.fmod j)) M) : modX M Φ (.int i) (.int j) := .inr ⟨hc, h⟩
/-- a while loop by what is left to do: W m at each turn -/
theorem sx_whileA (hF : Fd T k P w K mg base N sc) {c : Expr} {body : List Stmt} (W : Nat → Gm → Ms → Prop) (m0 : Nat) (w0 : W m0 Γ M)
    (h : ∀ m Γ M, W m Γ M → TX T c Γ M (fun z M1 => (z = true → SSX T body Γ M1 { D with nx := fun Γ' M' => ∃ m', m' < m ∧ W m' Γ' M', ct := fun Γ' M' => ∃ m', m' < m ∧ W m' Γ' M', bk := D.nx }) ∧ (z = false → D.nx Γ M1)) (D.ex Γ)) :
    SX T (.While c body [] pos) Γ M D := sx_while hF W m0 w0 h
theorem sumP_l {ns : List Int} (h : Φ (.int ns.sum) M) : sumP M Φ [.lst (ns.map G.D.int)] := ⟨_, ns, rfl, rfl, h⟩
/-- bool(b) -/
def boolP (M : Ms) (Φ : PD) : List Da → Prop
  | [.bl b] => Φ (.bl b) M
  | [.int i] => Φ (.bl (i != 0)) M
  | _ => False
theorem ex_bool1 (hF : Fc T k P w K mg base N sc) (hm : mg "bool" = none) (h : AX T [e] Γ M (fun xs M1 => boolP M1 Φ xs) Ψ) (hg : sc.names.lookup ("bool" : Str) = some .globalImplicit := by rfl) (he : ∀ env, starEach [e] env = (false, eval e env) :: starEach [] env := by intro _; rfl) : EX T (.Call (.Name "bool" p) [e] [] pos) Γ M Φ Ψ := by
  refine ex_tyG hF (R := boolP) (fun i => call_bool1) hm (by decide +kernel) (fun xs M Φ q => ?_) h hg (he := he)
  intro F H vs Q ok rs hk
  unfold boolP at q
  split at q
  · obtain ⟨v, rfl, r⟩ := reps1 rs
    cases r
    exact .inr ⟨_, rfl, hk F H M (.bl _) _ (Same.refl _) ok rfl q⟩
  · obtain ⟨v, rfl, r⟩ := reps1 rs
    cases r
    exact .inl ⟨_, rfl, hk F H M (.bl _) _ (Same.refl _) ok rfl q⟩
  · exact False.elim q
theorem boolP_b {b : Bool} (h : Φ (.bl b) M) : boolP M Φ [.bl b] := h
theorem tru_i {Φ : Bool → Ms → Prop} {i : Int} (h : Φ (i != 0) M) : truP M Φ (.int i) := h
theorem tru_b {Φ : Bool → Ms → Prop} {i : Bool} (h : Φ i M) : truP M Φ (.bl i) := h
theorem bx_T {A B : Prop} {c : Bool} (hc : c = true) (h : A) : (c = true → A) ∧ (c = false → B) := ⟨fun _ => h, fun z => by rw [hc] at z; cases z⟩
theorem bx_F {A B : Prop} {c : Bool} (hc : c = false) (h : B) : (c = true → A) ∧ (c = false → B) := ⟨fun z => (by rw [hc] at z; cases z), fun _ => h⟩
theorem bx_d {A B : Prop} {p : Prop} [Decidable p] (h1 : p → A) (h2 : ¬ p → B) : (decide p = true → A) ∧ (decide p = false → B) := ⟨fun z => h1 (of_decide_eq_true z), fun z => h2 (of_decide_eq_false z)⟩
theorem bx_i {A B : Prop} {i : Int} (h1 : i ≠ 0 → A) (h2 : i = 0 → B) : ((i != 0) = true → A) ∧ ((i != 0) = false → B) := ⟨fun z => h1 (by simpa using z), fun z => h2 (by simpa using z)⟩
theorem ty_is {d : Da} {u : Bt} {F : Bt → Prop} (h : tyD d = some u) (q : F u) : ∃ u, tyD d = some u ∧ F u := ⟨u, h, q⟩
theorem size_le {n : Nat} (h : n ≤ 16777216) : n ≤ sizeLine := by rw [sizeLine_eq]; exact h
/-- what holds between two statements -/
theorem ssx_cut {st : Stmt} {sts : List Stmt} (J : Gm → Ms → Prop) (h : SX T st Γ M { D with nx := J }) (h2 : ∀ Γ' M', J Γ' M' → SSX T sts Γ' M' D) : SSX T (st :: sts) Γ M D :=
  ssx_cons (fun F H σ E ok sl q => h F H σ E ok sl ⟨fun F' Γ' M' σ' H' e ok' sl' z => q.nx F' Γ' M' σ' H' e ok' sl' (h2 Γ' M' z), q.rt, q.bk, q.ct, q.ex⟩)
/-! ### what is no longer wanted; looks at mutable things -/
theorem ex_drop (h : EX T e Γ M (fun d M1 => ∃ M2, Sub M2 M1 ∧ Φ d M2) Ψ) : EX T e Γ M Φ Ψ := fun F H σ Q ok sl hk x =>
  h F H σ Q ok sl (fun F1 H1 M1 d v e1 ok1 r ⟨M2, hs, z⟩ => hk F1 H1 M2 d v e1 (ok1.sub hs) r z) x
theorem lsM_ref {q : Addr} {dd : List Da} (h : M q = some (.lst dd)) : lsM M (.ref q) = some dd := by
  show (match M q with | some (.lst ds) => some ds | _ => none) = some dd
  rw [h]
theorem um_swap {p q : Addr} {a b : MO} (h : p ≠ q) : um (um M p a) q b = um (um M q b) p a := by
  funext r
  unfold um
  by_cases h1 : r = q
  · rw [if_pos h1, if_neg (fun z => h (z.symm.trans h1)), if_pos h1]
  · rw [if_neg h1]
    by_cases h2 : r = p
    · rw [if_pos h2, if_pos h2]
    · rw [if_neg h2, if_neg h2, if_neg h1]
theorem um_none {p q : Addr} {a : MO} (h : um M p a q = none) : q ≠ p ∧ M q = none := by
  unfold um at h
  by_cases h1 : q = p
  · rw [if_pos h1] at h; cases h
  · rw [if_neg h1] at h; exact ⟨h1, h⟩
theorem um_get {p q : Addr} {a o : MO} (h : q ≠ p) (hm : M q = some o) : um M p a q = some o := by rw [um_ne h]; exact hm
theorem sub_um {p : Addr} {a : MO} (h : M p = none) : Sub M (um M p a) := Sub.new h
theorem sub_um2 {M1 : Ms} {p : Addr} {a : MO} (h : M p = none) (hs : Sub M M1) : Sub M (um M1 p a) := fun q o hq => by
  rw [um_ne (fun z => by rw [z, h] at hq; cases hq)]; exact hs q o hq
/-! ### == of rows -/
theorem eqD_q (x y : Q4) : eqD (qD x) (qD y) = some (decide (x = y)) := by
  show (if SeqAt.shaped (PySem.W.Datum.toD x) && SeqAt.shaped (PySem.W.Datum.toD y) then some (PyData.eqv (PySem.W.Datum.toD x) (PySem.W.Datum.toD y)) else none) = _
  rw [PySem.W.Datum.eqv]
  rfl
theorem eqP_q {x y : Q4} (h : Φ (.bl (decide (x = y))) M) : eqP M Φ (qD x) (qD y) := ⟨_, eqD_q x y, h⟩
/-- the ints lo, lo + 1, .. -/
def irg (lo : Int) (n : Nat) : List Int := (List.range n).map fun (i : Nat) => lo + (i : Int)
theorem rngD_irg (lo : Int) (n : Nat) : rngD lo n = (irg lo n).map G.D.int := by unfold rngD irg; rw [List.map_map]; rfl
theorem irg_mem {lo : Int} {n : Nat} {x : Int} (h : x ∈ irg lo n) : lo ≤ x ∧ x < lo + n := by
  obtain ⟨i, hi, rfl⟩ := List.mem_map.mp h
  have := List.mem_range.mp hi
  omega
theorem irg_len (lo : Int) (n : Nat) : (irg lo n).length = n := by unfold irg; simp
end
end G
set_option Elab.async false
set_option linter.all false
set_option maxRecDepth 100000
set_option maxHeartbeats 1000000
/-! GCmp2: comprehensions with two fors, max of two rows. -/
namespace G
open PySem PySem.Spec PyProof.Rows L2
section
variable {ι : Type} {T : Fm ι} {k : Nat} {P : Program} {w : World} {K : PySem.W.Frag} {mg : Str → Option Value} {base : Heap} {N : List Str} {sc : Scope} {Γ Γ' : Gm} {M : Ms} {Φ : PD} {Ψ : PX}
variable {e a b c o tg iter tg1 iter1 elt : Expr} {es : List Expr} {pos p : Pos}
theorem wipe_idem {σ σ2 : L2.St} {own : List Nat} (h : L2.wipe σ2 own = L2.wipe (L2.wipe σ own) own) : L2.wipe σ2 own = L2.wipe σ own := by
  rw [h]
  apply List.ext_getElem?
  intro j
  rw [wipe_get, wipe_get, wipe_length]
  by_cases hj : j ∈ own ∧ j < σ.length
  · rw [if_pos hj, if_pos hj]
  · rw [if_neg hj]
theorem ite_yes {A B : Prop} (h : A) : if true = true then A else B := by rw [if_pos rfl]; exact h
/-- what the inner for asks, at x -/
def lc2In {α β : Type} (T : Fm ι) (scope : Scope) (own1 : List Nat) (g1 : Tg) (tg1 iter1 elt : Expr) (ys : α → List β) (enc1 : β → D) (f : α → β → D) (x : α) (Γ1 : Gm) (M : Ms) : Prop :=
  ∀ M', Sub M M' → IX (T.blk scope) tg1 iter1 Γ1 M' (fun ds PM M1 => ds = (ys x).map enc1 ∧ (∀ M, PM M) ∧ M1 = M' ∧
    ∀ y ∈ ys x, ∃ Γ2, tgD g1 (enc1 y) (wipeG Γ1 own1) = some Γ2 ∧ ∀ M2, Sub M M2 → EX (T.blk scope) elt Γ2 M2 (fun d M3 => d = f x y ∧ M3 = M2) fun _ _ _ _ => False) fun _ _ _ _ => False
theorem ge_lc2 {α β : Type} {scope : Scope} {own own1 : List Nat} {g g1 : Tg} {wi : TI} (xs : List α) (enc : α → D) (ys : α → List β) (enc1 : β → D) (f : α → β → D) (hown : ∀ i ∈ g.ix, i ∈ own) (hown1 : ∀ i ∈ g1.ix, i ∈ own1)
    (h : GI T wi Γ M (fun ds PM M1 => ds = xs.map enc ∧ (∀ M, PM M) ∧ M1 = M) Ψ)
    (h1 : ∀ x ∈ xs, ∃ Γ1, tgD g (enc x) (wipeG Γ own) = some Γ1 ∧ lc2In T scope own1 g1 tg1 iter1 elt ys enc1 f x Γ1 M)
    (hl : (xs.flatMap fun x => (ys x).map (f x)).length ≤ 100000) (q : Φ (.lst (xs.flatMap fun x => (ys x).map (f x))) M) :
    GE T (tLc2 wi (tgR T.K g) tYes (tiOf (T.blk scope) tg1 iter1) (tgR T.K g1) tYes (teOf (T.blk scope) elt) own own1) Γ M Φ Ψ := by
  intro F H σ Q ok sl hk xx
  refine h F H σ _ ok sl (fun F1 H1 M1 J ds PM e1 ok1 it z => ?_) xx
  obtain ⟨rfl, hPM, rfl⟩ := z
  intro p hp
  have hnp : M1 p = none := ok1.fresh hp
  have okp : Ok T.K F1 (upd H1 p (.lst [])) (um M1 p (.lst [])) := ok1.newM (u := .lst []) hp ⟨[], upd_same, rfl⟩
  refine ⟨fun i m H => m = xs.length - i ∧ i ≤ xs.length ∧ ∃ F', Same F1 F' ∧ Ok T.K F' H (um M1 p (.lst ((xs.take i).flatMap fun x => (ys x).map (f x)))), ⟨_, rfl, Nat.zero_le _, F1, Same.refl _, by rw [List.take_zero]; exact okp⟩, ?_⟩
  rintro i m H' ⟨rfl, hi, F', e2, ok2⟩
  have slw : Sl T.K F' (L2.wipe σ own) (wipeG Γ own) := (sl.mono (e1.trans e2)).wipe own
  by_cases hlt : i < xs.length
  · refine .inr ⟨it.go i F' H' _ e2 ok2 (hPM _) (by rw [List.length_map]; exact hlt), fun H3 => i + 1 ≤ xs.length ∧ ∃ F', Same F1 F' ∧ Ok T.K F' H3 (um M1 p (.lst ((xs.take (i + 1)).flatMap fun x => (ys x).map (f x)))), fun H3 n3 => ⟨xs.length - (i + 1), by omega, rfl, n3⟩, fun y H3 hy => ?_⟩
    obtain ⟨F2, e3, ok3, r⟩ := it.yld i F' H' _ y H3 e2 ok2 (hPM _) hy
    have hd : (xs.map enc)[i]? = some (enc xs[i]) := by simp [hlt]
    have hx : xs[i] ∈ xs := List.getElem_mem hlt
    have ht : xs.take (i + 1) = xs.take i ++ [xs[i]] := by rw [List.take_add_one]; simp [hlt]
    obtain ⟨Γ1, hg1, hb⟩ := h1 _ hx
    refine tg_run hg1 (r _ hd) ok3.ex (slw.mono e3) fun σ4 sl4 hw => ⟨wipe_idem (hw own hown), ?_⟩
    simp only [tYes, if_true]
    refine hb _ (Sub.new hnp) F2 H3 σ4 _ ok3 sl4 (fun F5 H5 M5 J1 ds1 PM1 e5 ok5 it1 z1 => ?_) KX.none
    obtain ⟨rfl, hPM1, rfl, hel⟩ := z1
    have hlen : ∀ j, j ≤ (ys xs[i]).length → ((xs.take i).flatMap (fun x => (ys x).map (f x)) ++ ((ys xs[i]).take j).map (f xs[i])).length ≤ 100000 := by
      intro j hj
      have h2 : (((xs.take (i + 1)).flatMap fun x => (ys x).map (f x))).length ≤ 100000 := by
        have h3 : xs = xs.take (i + 1) ++ xs.drop (i + 1) := (List.take_append_drop _ _).symm
        rw [h3, List.flatMap_append, List.length_append] at hl
        omega
      rw [ht, List.flatMap_append, List.flatMap_cons, List.flatMap_nil, List.append_nil, List.length_append, List.length_map] at h2
      rw [List.length_append, List.length_map, List.length_take]
      omega
    refine ⟨fun j k H => k = (ys xs[i]).length - j ∧ j ≤ (ys xs[i]).length ∧ ∃ F', Same F5 F' ∧ Ok T.K F' H (um M1 p (.lst ((xs.take i).flatMap (fun x => (ys x).map (f x)) ++ ((ys xs[i]).take j).map (f xs[i])))), ⟨_, rfl, Nat.zero_le _, F5, Same.refl _, by rw [List.take_zero, List.map_nil, List.append_nil]; exact ok5⟩, ?_⟩
    rintro j kk H6 ⟨rfl, hj, F6, e6, ok6⟩
    by_cases hlt1 : j < (ys xs[i]).length
    · refine .inr ⟨it1.go j F6 H6 _ e6 ok6 (hPM1 _) (by rw [List.length_map]; exact hlt1), fun H7 => j + 1 ≤ (ys xs[i]).length ∧ ∃ F', Same F5 F' ∧ Ok T.K F' H7 (um M1 p (.lst ((xs.take i).flatMap (fun x => (ys x).map (f x)) ++ ((ys xs[i]).take (j + 1)).map (f xs[i])))), fun H7 n7 => ⟨(ys xs[i]).length - (j + 1), by omega, rfl, n7⟩, fun y2 H7 hy7 => ?_⟩
      obtain ⟨F7, e7, ok7, r7⟩ := it1.yld j F6 H6 _ y2 H7 e6 ok6 (hPM1 _) hy7
      have hd1 : ((ys xs[i]).map enc1)[j]? = some (enc1 (ys xs[i])[j]) := by simp [hlt1]
      obtain ⟨Γ2, hg2, hel2⟩ := hel _ (List.getElem_mem hlt1)
      refine tg_run hg2 (r7 _ hd1) ok7.ex ((sl4.mono (e5.trans (e6.trans e7))).wipe own1) fun σ8 sl8 hw8 => ⟨wipe_idem (hw8 own1 hown1), ?_⟩
      simp only [tYes, if_true]
      refine hel2 _ (Sub.new hnp) F7 H7 σ8 _ ok7 sl8 (fun F9 H9 M9 d v e9 ok9 ry z9 => ?_) KX.none
      obtain ⟨rfl, rfl⟩ := z9
      obtain ⟨_, vs, hp9, rs⟩ := ok9.mu p _ um_same
      refine ⟨vs, hp9, ?_, hlt1, F9, e6.trans (e7.trans e9), ?_⟩
      · rw [rs.length, sizeLine_eq]
        have := hlen j hj
        omega
      · have q8 := ok9.write (u := .lst ((xs.take i).flatMap (fun x => (ys x).map (f x)) ++ ((ys xs[i]).take j).map (f xs[i]) ++ [f xs[i] (ys xs[i])[j]])) um_same ⟨_, upd_same, rs.append (Reps.one ry)⟩
        rw [um_um] at q8
        have e10 : ((ys xs[i]).take (j + 1)).map (f xs[i]) = ((ys xs[i]).take j).map (f xs[i]) ++ [f xs[i] (ys xs[i])[j]] := by
          rw [List.take_add_one, List.map_append, List.getElem?_eq_getElem hlt1]; rfl
        rw [e10, ← List.append_assoc]
        exact q8
    · have ej : j = (ys xs[i]).length := by omega
      subst ej
      refine .inl ⟨it1.stop _ F6 H6 _ e6 ok6 (hPM1 _) (by rw [List.length_map]; exact Nat.le_refl _), hlt, F6, e2.trans (e3.trans (e5.trans e6)), ?_⟩
      rw [ht, List.flatMap_append, List.flatMap_cons, List.flatMap_nil, List.append_nil]
      rw [List.take_length] at ok6
      exact ok6
  · have e : i = xs.length := by omega
    subst e
    refine .inl ⟨it.stop _ F' H' _ e2 ok2 (hPM _) (by rw [List.length_map]; exact Nat.le_refl _), ?_⟩
    obtain ⟨F3, e3, ok3, r3⟩ := ok2.freezeL um_same
    rw [dm_um hnp] at ok3
    rw [List.take_length] at r3
    exact hk F3 H' M1 _ _ (e1.trans (e2.trans e3)) ok3 r3 q
/-- [elt for tg in iter for tg1 in iter1] -/
theorem ex_lc2 {α β : Type} (hF : Fc T k P w K mg base N sc) {scope : Scope} (own : List (Str × Nat)) (own1 : List Nat) {g g1 : Tg} (hg : TgOk (T.blk scope) tg g) (hg1 : TgOk (T.blk scope) tg1 g1) (xs : List α) (enc : α → D) (ys : α → List β) (enc1 : β → D) (f : α → β → D)
    (h : IX T tg iter Γ M (fun ds PM M1 => ds = xs.map enc ∧ (∀ M, PM M) ∧ M1 = M) Ψ)
    (h1 : ∀ x ∈ xs, ∃ Γ1, tgD g (enc x) (wipeG Γ (own.map (·.2))) = some Γ1 ∧ lc2In T scope own1 g1 tg1 iter1 elt ys enc1 f x Γ1 M)
    (hl : (xs.flatMap fun x => (ys x).map (f x)).length ≤ 100000) (q : Φ (.lst (xs.flatMap fun x => (ys x).map (f x))) M)
    (ok : blkC N sc scope own = true) (hown : ∀ i ∈ g.ix, i ∈ own.map (·.2)) (hown1 : ∀ i ∈ g1.ix, i ∈ own1) (hv : ∀ i ∈ own1, i ∈ own.map (·.2)) (hs : ∀ env x, foldedSetIterable iter env x = pure x := by intro _ _; rfl) (hs1 : ∀ env x, foldedSetIterable iter1 env x = pure x := by intro _ _; rfl) (hh : T.hot = false := by assumption) :
    EX T (.ListComp elt [⟨tg, iter, [], 0⟩, ⟨tg1, iter1, [], 0⟩] scope pos) Γ M Φ Ψ := by
  refine EX.mk (fun i => pe_lc2 (own := own) (hF.calm hh i) (by rw [hF.hN]; exact hF.nd) (pi_ti i) (by rw [hF.hN, hF.hs]; exact blkOk_by ok) hv (fun s H C cl fp => hg (i, s, H, C, cl, fp)) (fun s H C cl fp => pts_nil) (fun s H C cl fp => pi_ti (T := T.blk scope) (i, s, H, C, cl, fp)) (fun s H C cl fp => hg1 (i, s, H, C, cl, fp)) (fun s H C cl fp => pts_nil) (fun s H C cl fp => pe_te (T := T.blk scope) (i, s, H, C, cl, fp)) (hs _) (hs1)) ?_
  exact ge_lc2 xs enc ys enc1 f hown hown1 h h1 hl q
/-- y = [elt for tg in iter for tg1 in iter1] on one line -/
theorem sx_setLc2 {α β : Type} {D : GEnds} {Γ' : Gm} (hF : Fd T k P w K mg base N sc) (j : Nat) {y : Str} {py spos : Pos} {scope : Scope} (own : List (Str × Nat)) (own1 : List Nat) {g g1 : Tg} (hg : TgOk (T.blk scope) tg g) (hg1 : TgOk (T.blk scope) tg1 g1) (xs : List α) (enc : α → Da) (ys : α → List β) (enc1 : β → Da) (f : α → β → Da)
    (h : IX T tg iter Γ M (fun ds PM M1 => ds = xs.map enc ∧ (∀ M, PM M) ∧ M1 = M) (D.ex Γ))
    (h1 : ∀ x ∈ xs, ∃ Γ1, tgD g (enc x) (wipeG Γ (own.map (·.2))) = some Γ1 ∧ lc2In T scope own1 g1 tg1 iter1 elt ys enc1 f x Γ1 M)
    (hl : (xs.flatMap fun x => (ys x).map (f x)).length ≤ 100000) (hset : SetS Γ j (some (.lst (xs.flatMap fun x => (ys x).map (f x)))) Γ') (q : D.nx Γ' M)
    (ok : blkC N sc scope own = true) (hown : ∀ i ∈ g.ix, i ∈ own.map (·.2)) (hown1 : ∀ i ∈ g1.ix, i ∈ own1) (hv : ∀ i ∈ own1, i ∈ own.map (·.2))
    (hsw : ∀ env : Env, env.scope = sc → swapsWith (.ListComp elt [⟨tg, iter, [], 0⟩, ⟨tg1, iter1, [], 0⟩] scope pos) (some (.Name y py)) spos.line env = pure true)
    (hN : N[j]? = some y := by rfl) (hy : sc.names.lookup y = some .local := by rfl) (hs : ∀ env x, foldedSetIterable iter env x = pure x := by intro _ _; rfl) (hs1 : ∀ env x, foldedSetIterable iter1 env x = pure x := by intro _ _; rfl) (hh : T.hot = false := by assumption) :
    SX T (.Assign [.Name y py] (.ListComp elt [⟨tg, iter, [], 0⟩, ⟨tg1, iter1, [], 0⟩] scope pos) spos) Γ M D := by
  refine SX.mk (fun i => ps_setLc2 (own := own) (hF.fc.calm hh i) (by rw [hF.fc.hN]; exact hF.fc.nd) (by rw [hF.fc.hN]; exact hN) (by rw [hF.fc.hs]; exact hy) (hsw _ (hF.fc.hs i)) (pi_ti i) (by rw [hF.fc.hN, hF.fc.hs]; exact blkOk_by ok) hv (fun s H C cl fp => hg (i, s, H, C, cl, fp)) (fun s H C cl fp => pts_nil) (fun s H C cl fp => pi_ti (T := T.blk scope) (i, s, H, C, cl, fp)) (fun s H C cl fp => hg1 (i, s, H, C, cl, fp)) (fun s H C cl fp => pts_nil) (fun s H C cl fp => pe_te (T := T.blk scope) (i, s, H, C, cl, fp)) (hs _) (hs1)) ?_
  intro F H σ E ok2 sl qd
  exact ge_lc2 (Φ := fun d M1 => D.nx (Γ.set j (some d)) M1) xs enc ys enc1 f hown hown1 h h1 hl (by rw [hset.eq]; exact q) F H σ _ ok2 sl (fun F1 H1 M1 d v e1 ok1 r z => qd.nx F1 _ M1 _ H1 e1 ok1 ((sl.mono e1).set r j) z) (qd.kx sl)
end
/-! ### max of two rows -/
section
open PySem.W
variable {prog : Program} {w : World} {A : Around} {E : Value → Shared → Prop} {s : Shared}
theorem call_max_twoH {a b : Value} {Q : Value → Shared → Prop}
    (h : wpAny (model prog w) A.in1 (pyIter (.ref s.heap.objs.size)) (fun it s₂ => ∃ I fp wr G n P St H bt, it = .ref I ∧ WalksS prog w A.in1 I fp wr G n P St ∧ St 0 s₂ ∧ (∀ b ∈ fp, b < s₂.heap.objs.size) ∧ 0 < n ∧
      (∀ b o, H.get? b = some o → b ∉ wr) ∧ (∀ b o, H.get? b = some o → s₂.heap.get? b = some o) ∧ CmpIn prog w A.in1 .Gt H P bt ∧ ∀ v s', P (argBest bt (n - 1)) v → Moved wr G s₂ s' → Q v s') E
      { s with heap := s.heap.push { cls := .type "tuple", data := .seq #[a, b] } }) :
    wpAny (model prog w) A (call (.builtin "max") [a, b]) Q E s := by
  have hname : (toString "max" ++ toString ".loop" : String) = "max.loop" := by decide
  refine call_function_tree F.kind_max F.plain_max F.entry_max (F.args_max2 _ _) ?_
  show wpAny _ A.in1 (Builtin.Builtins.bindParams "max" ["key", "default"] 0 ⟨[], []⟩ >>= _) _ _ s
  refine wpAny_bind (wpAny_of_eq (show Builtin.Builtins.bindParams "max" ["key", "default"] 0 ⟨[], []⟩ = pure [none, none] from rfl) ?_)
  show wpAny _ A.in1 (newTuple [a, b] >>= _) _ _ s
  refine wpAny_bind (wpAny_newObj_type ?_)
  refine wpAny_bind (wpAny_mono h (fun it s₂ h₂ => ?_) fun _ _ e => e)
  obtain ⟨I, fp, wr, G, n, P, St, H, bt, rfl, W, hst, hfp, hn, hw, hkeep, hcmp, hQ⟩ := h₂
  refine wpAny_bind (wpAny_newObj_type ?_)
  have hSf : s₂.heap.objs.size ∉ fp := fun hm => Nat.lt_irrefl _ (hfp _ hm)
  rw [hname]
  refine wpAny_pure ⟨plainId_quiet F.plain_max_loop _, codeAny_max_loop_firstH W H hw bt hcmp s₂.heap.objs.size hSf (fresh_in hkeep) _ hn (fun b o e => Heap.get?_push_of_some _ (hkeep b o e)) (W.frame 0 s₂ _ s₂.toks hst (Nat.le_refl _) fun b _ o e => Heap.get?_push_of_some _ e) (Heap.get?_push_size _ rfl) fun v s' hP hm => ?_⟩
  exact hQ v s' hP (Moved.drop_new (tk := s₂.toks) hm (Nat.le_refl _))
theorem max_two_data {a b : Value} {x y : PyData} {as : List Addr} {Q : Value → Shared → Prop} (hh : A.handled = none) (hr : ReadsAll s.heap [a, b] [x, y] as) (ha : AlikeAll [x, y]) (hu : A.units + 1 + PyData.depthAll [x, y] < cLine)
    (h : ∀ (i : Nat) v h' tk bs, [a, b][i]? = some v → Reads h' v (maxD x [y]) bs → (∀ c o, s.heap.get? c = some o → h'.get? c = some o) → Q v { s with heap := h', toks := tk }) :
    wpAny (model prog w) A (call (.builtin "max") [a, b]) Q E s := by
  refine call_max_twoH ?_
  have hT : (s.heap.push { cls := .type "tuple", data := .seq #[a, b] }).IsTuple s.heap.objs.size #[a, b] := ⟨_, Heap.get?_push_size _ rfl, rfl, 0, rfl⟩
  have hr2 : ReadsAll (s.heap.push { cls := .type "tuple", data := .seq #[a, b] }) #[a, b].toList [x, y] as := ReadsAll.keeps (fun b o e => Heap.get?_push_of_some _ e) hr
  refine iter_tupleW (A := A.in1) (s := { s with heap := s.heap.push { cls := .type "tuple", data := .seq #[a, b] } }) hh hT fun s₂ e W st hfp hw hk => ?_
  refine ⟨_, _, _, _, _, _, _, (s.heap.push { cls := .type "tuple", data := .seq #[a, b] }), _, rfl, W, st, hfp, Nat.succ_pos _, hw, hk, cmpIn_gt (A := A.in1) (s := { s with heap := s.heap.push { cls := .type "tuple", data := .seq #[a, b] } }) hr2 ha (by show A.units + 1 + _ < _; exact hu), fun v s' hP m => ?_⟩
  obtain ⟨h', tk, rfl, hk'⟩ := moved_old e rfl m
  obtain ⟨bs, r, _, _, _⟩ := readsAll_atA hr2 _ v hP
  have e2 := (argBest_fold (fun a b => dataLt b a) PyData.none x [y] 1 (Nat.le_refl _)).2
  rw [show List.take 1 [y] = [y] from rfl] at e2
  have r' : Reads (s.heap.push { cls := .type "tuple", data := .seq #[a, b] }) v (maxD x [y]) bs := by unfold maxD; rw [← e2]; exact r
  refine h _ v h' tk bs (by simpa using hP) (reads_keeps hk' r') fun c o ec => hk' c o (Heap.get?_push_of_some _ ec)
end
section
variable {ι : Type} {T : Fm ι} {k : Nat} {P : Program} {w : World} {K : PySem.W.Frag} {mg : Str → Option Value} {base : Heap} {N : List Str} {sc : Scope} {Γ Γ' : Gm} {M : Ms} {Φ : PD} {Ψ : PX}
variable {a b : Expr} {pos p : Pos}
/-- max(x, y) of two rows -/
def max2P (M : Ms) (Φ : PD) (xs : List D) : Prop := ∃ x y : Q4, xs = [qD x, qD y] ∧ Φ (qD (PySem.W.maxOf x [y])) M
theorem ex_max2 (hF : Fc T k P w K mg base N sc) (hm : mg "max" = none) (h : AX T [a, b] Γ M (fun xs M1 => max2P M1 Φ xs) Ψ) (hg : sc.names.lookup ("max" : Str) = some .globalImplicit := by rfl)
    (he : ∀ env, starEach [a, b] env = (false, eval a env) :: starEach [b] env := by intro _; rfl) (hpl : ∀ env, (backTo pos (starEach [b] env)).any (·.1) = false := by intro _; rfl) (hh : T.hot = false := by assumption) : EX T (.Call (.Name "max" p) [a, b] [] pos) Γ M Φ Ψ := by
  refine EX.mk (t := fun σ H Q => taOf T [a, b] σ H fun vs H1 => ∃ (F : Hp) (x y : Q4), Same F H1 ∧ Reps T.K F [qD x, qD y] vs ∧ ∀ v, Rep T.K F (qD (PySem.W.maxOf x [y])) v → Q v H1) (fun i => ⟨fun pins s σ H Q I hq => ?_⟩) ?_
  · have cr : CallR (T.X i) (.builtin "max") (fun vs H1 Q => ∃ (F : Hp) (x y : Q4), Same F H1 ∧ Reps T.K F [qD x, qD y] vs ∧ ∀ v, Rep T.K F (qD (PySem.W.maxOf x [y])) v → Q v H1) := by
      intro pins s σ H vs us Q I r hq
      obtain ⟨F, x, y, hs, hr, q⟩ := hq
      have h1 := toPs_q [x, y]
      have hd := toPs_dp hs hr h1
      rw [← hF.hK i] at hd
      obtain ⟨as, hra⟩ := Dp.readsAll I _ vs us hd r
      obtain ⟨vx, vy, rfl, rx, ry⟩ := reps2 hr
      obtain ⟨ux, uy, rfl, qx, qy⟩ := vals2 r
      refine max_two_data (I.ok.hd (hF.calm hh i)) hra ⟨fun a ha b hb => ?_, fun a ha => ?_⟩ (by have := hF.units i; have h9 : PyData.depthAll [PySem.W.Datum.toD x, PySem.W.Datum.toD y] ≤ 1 := depth_qs [x, y]; show (T.X i).A.units + 1 + PyData.depthAll [PySem.W.Datum.toD x, PySem.W.Datum.toD y] < cLine; omega) fun j v h' tk bs hv hrd hk => ?_
      · obtain ⟨a', _, rfl⟩ := List.mem_map.mp (show a ∈ [x, y].map PySem.W.Datum.toD from ha)
        obtain ⟨b', _, rfl⟩ := List.mem_map.mp (show b ∈ [x, y].map PySem.W.Datum.toD from hb)
        exact PySem.W.DatumOrd.alike a' b'
      · obtain ⟨a', _, rfl⟩ := List.mem_map.mp (show a ∈ [x, y].map PySem.W.Datum.toD from ha)
        exact PySem.W.DatumOrd.notNone a'
      · have e2 : PySem.W.maxD (PySem.W.Datum.toD x) [PySem.W.Datum.toD y] = PySem.W.Datum.toD (PySem.W.maxOf x [y]) := PySem.W.maxD_map x [y]
        rw [e2] at hrd
        have fin : ∀ (z : Q4) (vz : V) (uz : Value), Rep T.K F (qD z) vz → RelV vz uz → v = uz → EP (T.X i) pins σ Q v { s with heap := h', toks := tk } := by
          intro z vz uz rz qz ev
          subst ev
          have hdp := toP_dp hs rz (toP_q z)
          rw [← hF.hK i] at hdp
          obtain ⟨as0, hr0⟩ := Dp.reads I _ _ v hdp qz
          have e1 := (PyProof.Rows.reads_det (fun b o z _ => hk b o z) hr0 hrd).1
          have ez : z = PySem.W.maxOf x [y] := toD_q e1.symm
          exact ⟨_, H, I.kept hk, qz, q _ (by rw [← ez]; exact rz)⟩
        cases j with
        | zero =>
          have hv : some ux = some v := hv
          exact fin x vx ux rx qx (Option.some.inj hv).symm
        | succ j =>
          cases j with
          | zero =>
            have hv : some uy = some v := hv
            exact fin y vy uy ry qy (Option.some.inj hv).symm
          | succ j => simp at hv
    exact (pe_callB (t := taOf T [a, b]) cr (by show (T.X i).env.scope.names.lookup _ = _; rw [hF.hs]; exact hg) (by rw [hF.hmg]; exact hm) (by decide +kernel) (pa_ta i) (by decide) (by decide) (he _) (hpl _)).run pins s σ H Q I hq
  · intro F H σ Q ok sl hk x
    refine h F H σ _ ok sl (fun F1 H1 M1 xs vs e1 ok1 rs q => ?_) x
    obtain ⟨x, y, rfl, q⟩ := q
    exact ⟨F1, x, y, ok1.ex, rs, fun v rv => hk F1 H1 M1 _ v e1 ok1 rv q⟩
variable {c : Expr}
theorem tx_chLt {Φ : Bool → Ms → Prop} (h : EX T a Γ M (fun x M1 => EX T b Γ M1 (fun y M2 => ∃ i j, x = .int i ∧ y = .int j ∧ (decide (i < j) = false → Φ false M2) ∧ (decide (i < j) = true → EX T c Γ M2 (fun z M3 => ∃ l, z = .int l ∧ Φ (decide (j ≤ l)) M3) Ψ)) Ψ) Ψ)
    (hm : lastMarks [.Lt, .LtE] [b, c] = false := by rfl) : TX T (.Compare a [.Lt, .LtE] [b, c] pos) Γ M Φ Ψ := by
  refine TX.mk (fun i => pt_chain op_lt op_le (pe_te i) (pe_te i) (pe_te i) hm) (gt_test (ge_chain (f := fun i j => decide (i < j)) (g := fun i j => decide (i ≤ j)) ?_))
  refine EX.imp h (fun x M1 q => EX.imp q (fun y M2 ⟨i, j, h1, h2, h3, h4⟩ => ⟨i, j, h1, h2, fun z => ⟨_, rfl, h3 z⟩, fun z => EX.imp (h4 z) (fun d M3 ⟨l, hl, q⟩ => ⟨l, hl, _, rfl, q⟩) fun _ _ _ _ z => z⟩) fun _ _ _ _ z => z) fun _ _ _ _ z => z
theorem len_lt {α β : Type} {f : α → β} {xs : List α} (h : xs.length ≤ 16000000) : (xs.map f).length < sizeLine := by rw [List.length_map, sizeLine_eq]; omega
theorem flat_le {α β : Type} (f : α → List β) {xs : List α} {ys : List α} {n : Nat} (h : (xs.flatMap f).length ≤ n) (hp : ys <+: xs) : (ys.flatMap f).length ≤ n := by
  obtain ⟨zs, rfl⟩ := hp
  rw [List.flatMap_append, List.length_append] at h
  omega
end
end G
set_option Elab.async false
set_option linter.all false
set_option maxRecDepth 100000
set_option maxHeartbeats 1000000
/-! GKw: a def called with its two parameters by keyword, the second one first. -/
namespace G
open PySem PySem.Spec PyProof.Rows L2
def swp {α : Type} : List α → List α
  | [a, b] => [b, a]
  | _ => []
theorem swp_len {α : Type} {l : List α} (h : (swp l).length = 2) : l.length = 2 := by
  match l, h with
  | [_, _], _ => rfl
theorem swp_vals {vs : List V} {us : List Value} (r : Vals vs us) : Vals (swp vs) (swp us) := by
  cases r with
  | nil => exact .nil
  | cons r1 r =>
    cases r with
    | nil => exact .nil
    | cons r2 r =>
      cases r with
      | nil => exact .cons r2 (.cons r1 .nil)
      | cons _ _ => exact .nil
theorem swp_reps {K : PySem.W.Frag} {F : Hp} {ds : List D} {vs : List V} (r : Reps K F ds vs) (h : ds.length = 2) : Reps K F (swp ds) (swp vs) := by
  match ds, h with
  | [a, b], _ =>
    obtain ⟨v, v', rfl, r1, r2⟩ := reps2 r
    exact .cons r2 (.one r1)
def CalK (P : Program) (w : World) (K : PySem.W.Frag) (mg : Str → Option Value) (base : Heap) (x : Str) (k : Nat) (p1 p2 : Str) (ds : DS) : Prop :=
  ∃ f fd, FnM false P w K mg base k f fd [p1, p2] (lift K ds) ∧ mg x = some (.ref f) ∧ PySem.W.keepIn K (.ref f) = true ∧ KBn K fd [p1, p2] 0 [p2, p1] (fun _ ws => swp ws) (fun _ zs => swp zs)
section
variable {X : Cx} {hot : Bool} {k : Nat} {f : Addr} {fd : FuncData} {p1 p2 : Str} {sp : Sp} {E : L2.St → XK} {x : Str} {q pos : Pos} {kws : List Keyword} {tk : TA}
def tCallSw (sp : Sp) (E : L2.St → XK) (tk : TA) : TE := fun σ H Q => tk σ H fun zs H1 => sp (swp zs) H1 Q (E σ)
theorem pe_callSw (F : FnM hot X.prog X.w X.K X.mg X.base k f fd [p1, p2] sp) (hr : RoomM hot k X.A) (hg : Gl X x) (hm : X.mg x = some (.ref f)) (hk : PySem.W.keepIn X.K (.ref f) = true) (hb : KBn X.K fd [p1, p2] 0 [p2, p1] (fun _ ws => swp ws) (fun _ zs => swp zs)) (hx : ∀ σ, PassesAt (L2.CX X.prog X.w) X σ (E σ))
    (hkw : PK X kws tk) (hall : (backToKw pos (keywordEach kws X.env)).all (·.1.isSome) = true) (hks : (backToKw pos (keywordEach kws X.env)).filterMap (·.1) = [p2, p1])
    (hdb : (x == ("__debug__" : Str)) = false) (hpl : (backToKw pos (keywordEach kws X.env)).any (·.1.isNone) = false) :
    PE X (.Call (.Name x q) [] kws pos) (tCallSw sp E tk) := ⟨fun pins s σ H Q I h => by
  have hpl2 : ((backTo pos (starEach [] X.env)).any (·.1) || (backToKw pos (keywordEach kws X.env)).any (·.1.isNone)) = false := hpl
  refine wpAny_Call_Name_kw (ld_glob I hg hm (PySem.W.callWith_KW0 (h₀ := X.base) I.ok.mod.kin hk hall (thn (hkw.run pos pins s σ H _ I h) fun ws s1 z => ?_) hpl2) hdb)
  obtain ⟨zs, H1, I1, r, y⟩ := z
  refine ⟨I1.kIn, ?_⟩
  rw [hks]
  have el : (swp zs).length = 2 := F.len _ _ _ _ y
  have el2 := swp_len el
  have el3 : ws.length = 2 := by rw [← r.length]; exact el2
  have bt : BindsTo s1 fd ⟨[], [p2, p1].zip ws⟩ ([p1, p2].zip (swp ws)) := hb.to s1 [] ws I1.kIn rfl el3
  have go := F.run X.A X.stack s1 H1 ⟨[], [p2, p1].zip ws⟩ (swp ws) (swp zs) Q (E σ) hr I1.env0 bt (swp_vals r) y
  refine wpAny_call (codeAny_mono go fun res sE z => ?_)
  match res, z with
  | .error err, z => exact hx σ pins H1 s1 err sE I1 z
  | .ok (.ret u), z => exact I1.after z⟩
end
section
variable {ι : Type} {T : Fm ι} {k : Nat} {P : Program} {w : World} {K : PySem.W.Frag} {mg : Str → Option Value} {base : Heap} {N : List Str} {sc : Scope} {Γ : Gm} {M : Ms} {Φ : PD} {Ψ : PX}
variable {kws : List Keyword} {pos p : Pos} {x p1 p2 : Str} {j : Nat} {ds : DS}
/-- f(p2 = .., p1 = ..) -/
theorem ex_callSw (hF : Fc T k P w K mg base N sc) (c : CalK P w K mg base x j p1 p2 ds) (hk : j ≤ k) (h : KAX T kws Γ M (fun zs M1 => zs.length = 2 ∧ ds (swp zs) M1 Φ Ψ) Ψ)
    (hall : ∀ env, (backToKw pos (keywordEach kws env)).all (·.1.isSome) = true := by intro _; rfl) (hks : ∀ env, (backToKw pos (keywordEach kws env)).filterMap (·.1) = [p2, p1] := by intro _; rfl)
    (hg : sc.names.lookup x = some .globalImplicit := by rfl) (hdb : (x == ("__debug__" : Str)) = false := by decide) (hpl : ∀ env, (backToKw pos (keywordEach kws env)).any (·.1.isNone) = false := by intro _; rfl) (hh : T.hot = false := by assumption) :
    EX T (.Call (.Name x p) [] kws pos) Γ M Φ Ψ := by
  obtain ⟨f, fd, F, hm, kp, hb⟩ := c
  have F' : FnM T.hot P w K mg base j f fd [p1, p2] (lift K ds) := by rw [hh]; exact F
  rw [← hF.hT] at F' kp hb
  refine EX.mk (t := tCallSw (lift T.K ds) (WE T.w) (tkOf T kws)) (fun i => ?_) ?_
  · exact pe_callSw (hF.fno i F') ((hF.hr i).mono hk) (by show (T.X i).env.scope.names.lookup x = _; rw [hF.hs]; exact hg) (by rw [hF.hmg]; exact hm) (by rw [hF.hK]; exact kp) (by rw [hF.hK]; exact hb) (hF.pass i) (pk_tk i) (hall _) (hks _) hdb (hpl _)
  · intro F0 H σ Q ok sl q xx
    exact h F0 H σ _ ok sl (fun F1 H1 M1 xs vs e1 ok1 rs z => ⟨F1, M1, swp xs, Φ, Ψ, ok1, swp_reps rs z.1, z.2, q.mono e1, xx.mono e1⟩) xx
theorem lcAsk_pm {scope : Scope} {own : List Nat} {g : Tg} {q : Gm → Ms → (Bool → Ms → Prop) → Prop} {elt : Expr} {dd : List D} {PM : Ms → Prop} (hp : ∀ M, PM M) (h : lcAsk T scope own g q elt Γ Φ dd (fun _ => True) M) : lcAsk T scope own g q elt Γ Φ dd PM M := by
  obtain ⟨I, a, _, c, d⟩ := h
  exact ⟨I, a, fun _ _ _ _ _ _ _ => hp _, c, d⟩
end
end G
set_option Elab.async false
set_option linter.all false
set_option maxRecDepth 100000
set_option maxHeartbeats 1000000
/-! GTup: tuples cut and joined. -/
namespace G
open PySem PySem.Spec PyProof.Rows L2
section
variable {ι : Type} {T : Fm ι} {k : Nat} {P : Program} {w : World} {K : PySem.W.Frag} {mg : Str → Option Value} {base : Heap} {N : List Str} {sc : Scope} {Γ : Gm} {M : Ms} {Φ : PD} {Ψ : PX}
variable {e a b c : Expr} {es : List Expr} {pos p p1 p2 p3 p4 : Pos}
theorem cut_all {α : Type} {xs : List α} {lo hi : Option Int} (h : HT.sIx xs.length 0 lo = 0 ∧ HT.sIx xs.length xs.length hi = xs.length) : cutL xs lo hi = xs := by
  unfold cutL
  rw [h.1, h.2, Nat.sub_zero, List.drop_zero, List.take_length]
theorem ex_sliceT (hF : Fc T k P w K mg base N sc) {lo hi : Option Expr} (h : EX T e Γ M (fun d M1 => OX T lo Γ M1 (fun l M2 => OX T hi Γ M2 (fun u M3 => ∃ ds, d = .tup ds ∧ Φ (.tup (cutL ds l u)) M3) Ψ) Ψ) Ψ) : EX T (.Subscript e (.Slice lo hi none p2) pos) Γ M Φ Ψ := by
  refine EX.mk (t := tSl (rSlA T.K) (teOf T e) (toOf T lo) (toOf T hi)) (fun i => pe_slice (by rw [← hF.hK i]; exact sl_tupA) (pe_te i) (po_to i) (po_to i)) ?_
  intro F H σ Q ok sl hk x
  refine h F H σ _ ok sl (fun F1 H1 M1 d v e1 ok1 r z => ?_) x
  refine z F1 H1 σ _ ok1 (sl.mono e1) (fun F2 H2 M2 l e2 ok2 z => ?_) (x.mono e1)
  refine z F2 H2 σ _ ok2 (sl.mono (e1.trans e2)) (fun F3 H3 M3 u e3 ok3 z => ?_) (x.mono (e1.trans e2))
  obtain ⟨ds, rfl, q⟩ := z
  have r := r.mono (e2.trans e3)
  have hk := hk.mono (e1.trans (e2.trans e3))
  obtain ⟨a, vs, rfl, hs, rs⟩ := r
  refine ⟨a, vs, rfl, same_t ok3.ex hs, fun hw => ?_, fun hw t ht => ?_⟩
  · rw [rs.length] at hw
    rw [cut_all hw] at q
    exact hk F3 H3 M3 (.tup ds) _ (Same.refl _) ok3 ⟨a, vs, rfl, hs, rs⟩ q
  · have e4 : Same F3 (upd F3 t (.tup (cutV vs l u))) := same_upd (ok3.freshF ht)
    refine hk _ _ M3 (.tup (cutL ds l u)) _ e4 (ok3.new ht) ⟨t, _, rfl, .inl (.inl upd_same), Reps.mono e4 ?_⟩ q
    unfold cutV cutL
    rw [rs.length]
    exact (rs.drop _).take _
def addTP (M : Ms) (Φ : PD) (x y : D) : Prop := ∃ xs ys, x = .tup xs ∧ y = .tup ys ∧ xs.length + ys.length ≤ sizeLine ∧ Φ (.tup (xs ++ ys)) M
theorem ex_addT (hF : Fc T k P w K mg base N sc) (h : EX T a Γ M (fun x M1 => EX T b Γ M1 (fun y M2 => addTP M2 Φ x y) Ψ) Ψ) : EX T (.BinOp a .Add b pos) Γ M Φ Ψ := by
  refine ex_opG (r := rCatA T.K) (R := addTP) (fun i => by rw [← hF.hK i]; exact op_catA) (fun x y M Φ q => ?_) h
  intro F H vx vy Q ok rx ry hk
  obtain ⟨xs, ys, rfl, rfl, hl, q⟩ := q
  obtain ⟨a, vs, rfl, ha, ra⟩ := rx
  obtain ⟨b, us, rfl, hb, rb⟩ := ry
  refine ⟨a, b, vs, us, rfl, rfl, same_t ok.ex ha, same_t ok.ex hb, by rw [ra.length, rb.length]; exact hl, fun h0 => ?_, fun _ h0 => ?_, fun _ _ t ht => ?_⟩
  · have e : xs = [] := by
      cases xs with
      | nil => rfl
      | cons x xs => have := ra.length; rw [h0] at this; simp at this
    subst e
    exact hk F H M (.tup ys) _ (Same.refl _) ok ⟨b, us, rfl, hb, rb⟩ q
  · have e : ys = [] := by
      cases ys with
      | nil => rfl
      | cons x xs => have := rb.length; rw [h0] at this; simp at this
    subst e
    rw [List.append_nil] at q
    exact hk F H M (.tup xs) _ (Same.refl _) ok ⟨a, vs, rfl, ha, ra⟩ q
  · have e4 : Same F (upd F t (.tup (vs ++ us))) := same_upd (ok.freshF ht)
    exact hk _ _ M (.tup (xs ++ ys)) _ e4 (ok.new ht) ⟨t, _, rfl, .inl (.inl upd_same), Reps.mono e4 (ra.append rb)⟩ q
/-- x in ints -/
theorem inV_ints (x : Int) : ∀ xs : List Int, inV (.int x) (xs.map V.int) = decide (x ∈ xs)
  | [] => rfl
  | y :: ys => by
    show (eqV (.int y) (.int x) || inV (.int x) (ys.map V.int)) = _
    rw [inV_ints x ys]
    have e : eqV (.int y) (.int x) = decide (x = y) := by
      show (y == x) = _
      by_cases h : x = y
      · subst h; simp
      · have h' : ¬ y = x := fun e => h e.symm
        simp [h, h']
    rw [e]
    by_cases h : x = y
    · subst h; simp
    · simp [h]
theorem flat_ints : ∀ xs : List Int, flatDs (xs.map G.D.int) = some (xs.map V.int)
  | [] => rfl
  | x :: xs => by
    show (flatD (.int x)).bind (fun v => (flatDs (xs.map G.D.int)).map fun vs => v :: vs) = _
    rw [flat_ints xs]; rfl
theorem inP_ints {x : Int} {xs : List Int} (h : Φ (.bl (decide (x ∈ xs))) M) : inP false M Φ (.int x) (.lst (xs.map G.D.int)) := by
  refine .inl ⟨_, _, _, rfl, rfl, flat_ints xs, ?_⟩
  show Φ (.bl (inV (.int x) (xs.map V.int))) M
  rw [inV_ints]
  exact h
/-- y = a comprehension, y in a cell: no swap -/
theorem sx_setC {D : GEnds} (hF : Fd T k P w K mg base N sc) (j : Nat) {x : Str} {p : Pos} (h : EX T e Γ M (fun d M1 => ∃ Γ', SetS Γ j (some d) Γ' ∧ D.nx Γ' M1) (D.ex Γ))
    (hs : ∀ env : Env, env.scope = sc → swapsWith e (some (.Name x p)) pos.line env = pure false) (hN : N[j]? = some x := by rfl) (hx : Loc sc x := by first | exact Or.inl rfl | exact Or.inr rfl) : SX T (.Assign [.Name x p] e pos) Γ M D :=
  SX.mk (fun i => ps_set (i := j) (by rw [hF.fc.hN]; exact hF.fc.nd) (by rw [hF.fc.hN]; exact hN) (by rw [hF.fc.hs]; exact hx) (pe_te i) (hs _ (hF.fc.hs i)) (by have := hF.fn i x hx; rw [hF.fc.hs]; exact this))
    (fun F H σ E ok sl q => h F H σ _ ok sl (fun F1 H1 M1 d v e1 ok1 r ⟨Γ', g, z⟩ => q.nx F1 _ M1 _ H1 e1 ok1 ((sl.mono e1).set r j) (by rw [g.eq]; exact z)) (q.kx sl))
end
end G
set_option Elab.async false
set_option linter.all false
set_option maxRecDepth 100000
set_option maxHeartbeats 1000000
/-! GMul: x * y by the class's own __mul__. -/
namespace G
open PySem PySem.Spec PyProof.Rows L2
def rMulO (C : Addr) (sp : Sp) : R2 := fun x y H Q => ∃ a dx fs b dy gs, x = .ref a ∧ H a = some (.ins C dx fs) ∧ y = .ref b ∧ H b = some (.ins C dy gs) ∧ sp [x, y] H Q (fun _ _ _ => False)
theorem op_mulO {X : Cx} {hot : Bool} {k : Nat} {f C : Addr} {fd : FuncData} {ps : List Str} {sp : Sp} (F : FnM hot X.prog X.w X.K X.mg X.base k f fd ps sp) (hr : RoomM hot k X.A)
    (hs : PySem.W.findIn X.K (.ref C) "__mul__" = some (some (.ref f))) (hf : PySem.W.isFn X.K (.ref f) = true) (hc : PySem.W.selfFirst X.K C = true) (hb : Binds X.K fd ps []) : OpR X (binaryOp .Mult) (rMulO C sp) := by
  rintro pins s σ H x y v u Q I rx ry ⟨a, dx, fs, b, dy, gs, rfl, ha, rfl, hy, hsp⟩
  cases rx
  cases ry
  obtain ⟨mA, O, _⟩ := ins_get I.hok ha
  obtain ⟨od, J, _⟩ := O.look
  obtain ⟨mB, O2, _⟩ := ins_get I.hok hy
  obtain ⟨od2, J2, _⟩ := O2.look
  obtain ⟨m, fr⟩ := I.fr
  refine PySem.W.binop_K (op := .Mult) fr I.ok.mod.kin J J2.type hc hs hf ?_
  have bt : BindsTo s fd ⟨[.ref a, .ref b], []⟩ (ps.zip [Value.ref a, .ref b]) := by
    have := hb s [.ref a, .ref b] I.kIn (F.len _ _ _ _ hsp)
    rwa [List.append_nil] at this
  refine wpAny_call (codeAny_mono (F.run X.A X.stack s H ⟨[.ref a, .ref b], []⟩ [.ref a, .ref b] [.ref a, .ref b] _ _ hr I.env0 bt (.cons rfl (.cons rfl .nil)) hsp) fun res sE z => ?_)
  match res, z with
  | .error err, z =>
    obtain ⟨_, _, _, _, _, _, _, _, _, _, _, _, z⟩ := z
    exact z.elim
  | .ok (.ret u), z =>
    obtain ⟨v, H3, I3, rv, q3⟩ := I.after z
    exact SlX.cmpback rv ⟨v, H3, I3, rv, q3⟩
def MulC (hot : Bool) (P : Program) (w : World) (K : PySem.W.Frag) (mg : Str → Option Value) (base : Heap) (C : Addr) (j : Nat) (ps : List Str) (ds : DS) : Prop :=
  ∃ f fd, FnM hot P w K mg base j f fd ps (lift K ds) ∧ PySem.W.findIn K (.ref C) "__mul__" = some (some (.ref f)) ∧ PySem.W.isFn K (.ref f) = true ∧ PySem.W.selfFirst K C = true ∧ Binds K fd ps []
section
variable {ι : Type} {T : Fm ι} {k : Nat} {P : Program} {w : World} {K : PySem.W.Frag} {mg : Str → Option Value} {base : Heap} {N : List Str} {sc : Scope} {Γ : Gm} {M : Ms} {Φ : PD} {Ψ : PX}
variable {e a b c : Expr} {es : List Expr} {pos p p1 p2 p3 p4 : Pos} {C : Addr} {ps : List Str} {j : Nat} {ds : DS}
def mulOP (C : Addr) (ds : DS) (M : Ms) (Φ : PD) (x y : D) : Prop := insP C M (fun _ _ => insP C M (fun _ _ => ds [x, y] M Φ (fun _ _ _ _ => False)) y) x
theorem gr_mulO {x y : D} (q : mulOP C ds M Φ x y) : GR T (rMulO C (lift T.K ds)) x y M Φ := by
  intro F H vx vy Q ok rx ry hk
  obtain ⟨a, dx, ns, dd, vs, rfl, ha, hl, rs, q⟩ := insP_of ok rx q
  obtain ⟨b, dy, ns2, dd2, vs2, rfl, hb, hl2, rs2, z⟩ := insP_of ok ry q
  exact ⟨a, dx, _, b, dy, _, rfl, ha, rfl, hb, F, M, [x, y], _, _, ok, .cons rx (Reps.one ry), z, hk, KX.none⟩
theorem ex_mulO (hF : Fc T k P w K mg base N sc) (cc : MulC false P w K mg base C j ps ds) (hk : j ≤ k) (h : EX T a Γ M (fun x M1 => EX T b Γ M1 (fun y M2 => mulOP C ds M2 Φ x y) Ψ) Ψ) (hh : T.hot = false := by assumption) : EX T (.BinOp a .Mult b pos) Γ M Φ Ψ := by
  refine ex_opG (r := rMulO C (lift T.K ds)) (R := fun M Φ x y => mulOP C ds M Φ x y) (fun i => ?_) (fun x y M Φ q => gr_mulO q) h
  rw [← hF.hT] at cc
  obtain ⟨f, fd, F, h1, h2, h3, hb⟩ := cc
  have F' : FnM T.hot P w T.K mg base j f fd ps (lift T.K ds) := by rw [hh]; exact F
  have q := op_mulO (C := C) (hF.fno i F') ((hF.hr i).mono hk) (by rw [hF.hK]; exact h1) (by rw [hF.hK]; exact h2) (by rw [hF.hK]; exact h3) (by rw [hF.hK]; exact hb)
  exact q
/-! ### t > u of tuples of whole numbers -/
def gtI (ns ms : List Int) : Bool := Ob.lexAt (fun j => decide (ns.getD j 0 = ms.getD j 0)) (fun j => decide (ms.getD j 0 < ns.getD j 0)) (decide (ns.length > ms.length)) 0 (min ns.length ms.length)
def rGtT (K : PySem.W.Frag) : R2 := fun x y H Q => ∃ (a b : Addr) (ns ms : List Int), x = .ref a ∧ y = .ref b ∧ SqT K H a (ns.map V.int) ∧ SqT K H b (ms.map V.int) ∧ Q (.bl (gtI ns ms)) H
theorem op_gtT {X : Cx} (hu : X.A.units < cLine) : OpR X (compareOp .Gt) (rGtT X.K) := by
  intro pins s σ H x y v u Q I rx ry h
  obtain ⟨a, b, ns, ms, rfl, rfl, ha, hb, q⟩ := h
  cases rx
  cases ry
  obtain ⟨its, r1, p1, _⟩ := I.tuple ha
  obtain ⟨its2, r2, p2, _⟩ := I.tuple hb
  have i1 : IntsAre its ns := Vals.ints r1
  have i2 : IntsAre its2 ms := Vals.ints r2
  have e1 : its.toArray.size = ns.length := by rw [List.size_toArray]; exact i1.length
  have e2 : its2.toArray.size = ms.length := by rw [List.size_toArray]; exact i2.length
  have at1 : ∀ j (h1 : j < its.toArray.size), ∃ t, its.toArray[j] = .int (ns.getD j 0) t := fun j h1 => PyProof.Rows.IntsAre.int_at i1 _ _ (by simp at h1; simp [h1])
  have at2 : ∀ j (h1 : j < its2.toArray.size), ∃ t, its2.toArray[j] = .int (ms.getD j 0) t := fun j h1 => PyProof.Rows.IntsAre.int_at i2 _ _ (by simp at h1; simp [h1])
  have R := Ob.RcOp.tuples_gt (A := X.A) (s := s) (e := fun j => decide (ns.getD j 0 = ms.getD j 0)) (r := fun j => decide (ms.getD j 0 < ns.getD j 0)) p1 p2 hu (fun j h1 h2 => by
    obtain ⟨t, et⟩ := at1 j h1
    obtain ⟨t', et'⟩ := at2 j h2
    rw [et, et']
    have z : (ns.getD j 0 == ms.getD j 0) = decide (ns.getD j 0 = ms.getD j 0) := by
      by_cases q : ns.getD j 0 = ms.getD j 0
      · rw [decide_eq_true q]; exact beq_iff_eq.mpr q
      · rw [decide_eq_false q]; exact beq_eq_false_iff_ne.mpr q
    rw [← z]
    exact SeqAt.EqAt.int_int _ _ _ _) (fun j h1 h2 _ => by
    obtain ⟨t, et⟩ := at1 j h1
    obtain ⟨t', et'⟩ := at2 j h2
    rw [et, et']
    exact Ob.RcOp.gt_int _ _ _ _)
  rw [e1, e2] at R
  have z : wpAny (model X.prog X.w) X.A (compareOp .Gt (.ref a) (.ref b)) (EP X pins σ Q) X.xe s := R X.prog X.w X.xe (EP X pins σ Q) ⟨.bl _, H, I, rfl, q⟩
  exact z
def gtTP (M : Ms) (Φ : PD) (x y : D) : Prop := ∃ ns ms : List Int, x = .tup (ns.map D.int) ∧ y = .tup (ms.map D.int) ∧ Φ (.bl (gtI ns ms)) M
theorem ints_rep {K : PySem.W.Frag} {F : Hp} : ∀ {ns : List Int} {vs : List V}, Reps K F (ns.map D.int) vs → vs = ns.map V.int
  | [], vs, h => by cases vs with
    | nil => rfl
    | cons _ _ => cases h
  | n :: ns, vs, h => by
    obtain ⟨v, us, rfl, hv, hu⟩ := h
    rw [ints_rep hu]
    cases hv
    rfl
theorem gr_gtT {x y : D} (q : gtTP M Φ x y) : GR T (rGtT T.K) x y M Φ := by
  intro F H vx vy Q ok rx ry hk
  obtain ⟨ns, ms, rfl, rfl, z⟩ := q
  obtain ⟨a, vs, rfl, h1, r1⟩ := rx
  obtain ⟨b, us, rfl, h2, r2⟩ := ry
  rw [ints_rep r1] at h1
  rw [ints_rep r2] at h2
  exact ⟨a, b, ns, ms, rfl, rfl, same_t ok.ex h1, same_t ok.ex h2, hk F H M (.bl _) _ (Same.refl _) ok rfl z⟩
theorem ex_gtT (hF : Fc T k P w K mg base N sc) (h : EX T a Γ M (fun x M1 => EX T b Γ M1 (fun y M2 => gtTP M2 Φ x y) Ψ) Ψ) : EX T (.Compare a [.Gt] [b] pos) Γ M Φ Ψ :=
  ex_cmpG (R := gtTP) (fun i => by rw [← hF.hK i]; exact op_gtT (by have := (hF.hr i).rm.un; omega)) (nomark _) (fun _ _ _ _ q => gr_gtT q) h
theorem tx_gtT (hF : Fc T k P w K mg base N sc) {Φ : Bool → Ms → Prop} (h : EX T a Γ M (fun x M1 => EX T b Γ M1 (fun y M2 => gtTP M2 (fun d M => ∃ c, d = .bl c ∧ Φ c M) x y) Ψ) Ψ) : TX T (.Compare a [.Gt] [b] pos) Γ M Φ Ψ :=
  tx_cmpG (R := gtTP) (fun i => by rw [← hF.hK i]; exact op_gtT (by have := (hF.hr i).rm.un; omega)) (nomark _) (fun _ _ _ _ q => gr_gtT q) h
/-! ### xs.index(k) of whole numbers -/
def indP (M : Ms) (Φ : PD) (x : D) (ys : List D) : Prop := ∃ (xs : List Int) (k : Int) (j : Nat), x = .lst (xs.map D.int) ∧ ys = [.int k] ∧ xs[j]? = some k ∧ (∀ m z, m < j → xs[m]? = some z → z ≠ k) ∧ Φ (.int (j : Nat)) M
theorem mtr_index {X : Cx} : MtR X "list.index" (rIndex X.K) := fun pins s σ H x vs v us Q I rx rv h => mt_index pins s σ H x vs v us Q I rx rv h
theorem ex_index {o : Expr} (hF : Fc T k P w K mg base N sc) {apos : Pos} (h : EX T o Γ M (fun x M1 => (∃ ds, x = .lst ds) ∧ AX T [e] Γ M1 (fun ys M2 => indP M2 Φ x ys) Ψ) Ψ)
    (hbase : ∀ env, attributeBase o "index" env (eval o env) = eval o env := by intro _; rfl)
    (hfew : ∀ env, ((backTo pos (starEach [e] env)).all (fun x => !x.1) && (backToKw pos (keywordEach [] env)).all (fun x => x.1.isSome)
      && decide (([e] : List Expr).length + ([] : List Keyword).length + (if ([] : List Keyword).isEmpty then 0 else 1) < 30)) = true := by intro _; rfl)
    (hline : (apos.endLine == pos.line) = true := by rfl) (hs : ∀ env, starEach [e] env = (false, eval e env) :: starEach [] env := by intro _; rfl) (hplain : ∀ env, (backTo pos (starEach [] env)).any (·.1) = false := by intro _; rfl) :
    EX T (.Call (.Attribute o "index" apos) [e] [] pos) Γ M Φ Ψ := by
  refine EX.mk (t := tBM T.K "list" (rIndex T.K) (teOf T o) (taOf T [e])) (fun i => by rw [← hF.hK i]; exact pe_bm PySem.F.plainAttrs_list PySem.F.slot_list_index PySem.F.type_list_index mtr_index (pe_te i) (pa_ta i) (hbase _) (hfew _) hline (hs _) (hplain _)) (ge_bm ?_)
  refine EX.imp h (fun x M1 ⟨h1, h2⟩ => ⟨fun F H v ok r => ?_, AX.imp h2 fun ys M2 q F H v vs Q ok r rs hk => ?_⟩) fun _ _ _ _ z => z
  · obtain ⟨ds, rfl⟩ := h1
    obtain ⟨a, vs, rfl, h2, r2⟩ := r
    exact .inl ⟨rfl, vs, .inl (.inl (ok.ex _ _ h2))⟩
  · obtain ⟨xs, k, j, rfl, rfl, hj, hm, q⟩ := q
    obtain ⟨a, us, rfl, h2, r2⟩ := r
    rw [ints_rep r2] at h2
    obtain ⟨v, rfl, ry⟩ := reps1 rs
    cases ry
    refine ⟨a, xs.map V.int, .int k, j, .int k, rfl, rfl, .inl (.inl (ok.ex _ _ h2)), rfl, ?_, by rw [List.getElem?_map, hj]; rfl, ?_, fun m z' hmj hz => ?_, hk F H _ (.int (j : Nat)) _ (Same.refl _) ok rfl q⟩
    · rw [List.all_map]; exact List.all_eq_true.mpr fun _ _ => rfl
    · show (k == k) = true
      exact beq_self_eq_true k
    · rw [List.getElem?_map] at hz
      obtain ⟨z, hz2, rfl⟩ := Option.map_eq_some_iff.mp hz
      show (z == k) = false
      exact beq_eq_false_iff_ne.mpr (hm m z hmj hz2)
/-! ### list(range(n)) -/
theorem rgV_reps {K : PySem.W.Frag} {F : Hp} (n : Int) : Reps K F ((irg 0 n.toNat).map D.int) (rgV 0 n) := by
  have e : rgV 0 n = (irg 0 n.toNat).map V.int := by
    unfold rgV irg
    rw [List.map_map, Int.sub_zero]
    rfl
  rw [e]
  generalize irg 0 n.toNat = xs
  induction xs with
  | nil => rfl
  | cons x xs ih => exact ⟨.int x, xs.map V.int, rfl, rfl, ih⟩
theorem ex_listRg {p2 pos2 : Pos} (hF : Fc T k P w K mg base N sc) (hml : mg "list" = none) (hmr : mg "range" = none) (h : EX T a Γ M (fun d M1 => ∃ n : Int, d = .int n ∧ (0 ≤ n ∧ n ≤ 1000000) ∧ Φ (.lst ((irg 0 n.toNat).map D.int)) M1) Ψ)
    (hgl : sc.names.lookup ("list" : Str) = some .globalImplicit := by rfl) (hgr : sc.names.lookup ("range" : Str) = some .globalImplicit := by rfl)
    (n1 : ∀ env, starEach [.Call (.Name "range" p2) [a] [] pos2] env = (false, eval (.Call (.Name "range" p2) [a] [] pos2) env) :: starEach [] env := by intro _; rfl) (n2 : ∀ env, starEach [a] env = (false, eval a env) :: starEach [] env := by intro _; rfl) (hh : T.hot = false := by assumption) :
    EX T (.Call (.Name "list" p) [.Call (.Name "range" p2) [a] [] pos2] [] pos) Γ M Φ Ψ := by
  refine EX.mk (t := tLstRg (tRg1 (teOf T a))) (fun i => pe_listRg (hF.calm hh i) (by show (T.X i).env.scope.names.lookup _ = _; rw [hF.hs]; exact hgl) (by rw [hF.hmg]; exact hml) (prg_1 (by show (T.X i).env.scope.names.lookup _ = _; rw [hF.hs]; exact hgr) (by rw [hF.hmg]; exact hmr) (pe_te i) (n2 _)) (n1 _)) ?_
  intro F H σ Q ok sl hk x
  refine h F H σ _ ok sl (fun F1 H1 M1 d v e1 ok1 r z => ?_) x
  obtain ⟨n, rfl, hn, z⟩ := z
  cases r
  refine ⟨n, rfl, RgOk.of_le (by omega) (by omega) (by omega) (by omega), fun q hq => ?_⟩
  have e2 : Same F1 (upd F1 q (.lst (rgV 0 n))) := same_upd (ok1.freshF hq)
  exact hk _ _ M1 (.lst ((irg 0 n.toNat).map D.int)) (.ref q) (e1.trans e2) (ok1.new hq) ⟨q, _, rfl, upd_same, rgV_reps n⟩ z
end
end G
set_option Elab.async false
set_option linter.all false
set_option maxRecDepth 100000
set_option maxHeartbeats 1000000
/-! GPeek: reading mutable things as if frozen; nested freezing; comprehensions that stay mutable. -/
namespace G
open PySem PySem.Spec PyProof.Rows L2
/-- the things of S frozen as they are -/
def fz (F H : Hp) (S : Addr → Bool) : Hp := fun a => if S a = true then H a else F a
section
variable {ι : Type} {T : Fm ι} {k : Nat} {P : Program} {w : World} {K : PySem.W.Frag} {mg : Str → Option Value} {base : Heap} {N : List Str} {sc : Scope} {Γ Γ' : Gm} {M M2 : Ms} {Φ : PD} {Ψ : PX} {F F2 H H2 : Hp} {S : Addr → Bool}
variable {e a b c tg iter : Expr} {es : List Expr} {pos p p1 p2 p3 p4 : Pos}
def InM (M : Ms) (S : Addr → Bool) : Prop := ∀ a, S a = true → ∃ o, M a = some o
theorem fz_same (ok : Ok K F H M) (hS : InM M S) : Same F (fz F H S) := fun a u h => by
  unfold fz
  split
  · rename_i z
    obtain ⟨o, ho⟩ := hS a z
    rw [(ok.mu a o ho).1] at h
    cases h
  · exact h
def dms (M : Ms) (S : Addr → Bool) : Ms := fun q => if S q = true then none else M q
theorem fz_ok (ok : Ok K F H M) (hS : InM M S) : Ok K (fz F H S) H (dms M S) := by
  refine ⟨fun a u h => ?_, fun q o h => ?_⟩
  · unfold fz at h
    split at h
    · exact h
    · exact ok.ex a u h
  · unfold dms at h
    split at h
    · cases h
    · rename_i z
      refine ⟨?_, MR.mono (fz_same ok hS) rfl (ok.mu q o h).2⟩
      unfold fz
      rw [if_neg z]
      exact (ok.mu q o h).1
/-- all of M -/
def allM (M : Ms) : Addr → Bool := fun a => (M a).isSome
theorem allM_in : InM M (allM M) := fun a h => Option.isSome_iff_exists.mp h
theorem fz_back (ok : Ok K F H M) (ok2 : Ok K F2 H2 M2) (e : Same (fz F H (allM M)) F2) : Ok K F H2 M := by
  refine ⟨fun a u h => ok2.ex a u (e a u (fz_same ok allM_in a u h)), fun q o h => ⟨(ok.mu q o h).1, MR.mono (Same.refl _) ?_ (ok.mu q o h).2⟩⟩
  obtain ⟨u, hu⟩ := (ok.mu q o h).2.some
  have : fz F H (allM M) q = some u := by
    unfold fz
    rw [if_pos (by unfold allM; rw [h]; rfl)]
    exact hu
  rw [hu]
  exact ok2.ex q u (e q u this)
def PkD (K : PySem.W.Frag) (M : Ms) (S : Addr → Bool) (d d' : D) : Prop := ∀ F H v, Ok K F H M → Rep K F d v → Rep K (fz F H S) d' v
def PkL (K : PySem.W.Frag) (M : Ms) (S : Addr → Bool) (ds ds' : List D) : Prop := ∀ F H vs, Ok K F H M → Reps K F ds vs → Reps K (fz F H S) ds' vs
theorem pkl_same (hS : InM M S) {ds : List D} : PkL K M S ds ds := fun F H vs ok r => r.mono (fz_same ok hS)
theorem pkl_nil : PkL K M S [] [] := fun F H vs ok r => r
theorem pkl_cons {d d' : D} {ds ds' : List D} (h1 : PkD K M S d d') (h2 : PkL K M S ds ds') : PkL K M S (d :: ds) (d' :: ds') := fun F H vs ok r => by
  obtain ⟨v, us, rfl, hv, hu⟩ := r
  exact ⟨v, us, rfl, h1 F H v ok hv, h2 F H us ok hu⟩
theorem pkd_lst {q : Addr} {ds ds' : List D} (hS : S q = true) (hq : M q = some (.lst ds)) (h : PkL K M S ds ds') : PkD K M S (.ref q) (.lst ds') := fun F H v ok r => by
  cases r
  obtain ⟨hF, vs, hp, rs⟩ := ok.mu q _ hq
  refine ⟨q, vs, rfl, ?_, h F H vs ok rs⟩
  unfold fz
  rw [if_pos hS]
  exact hp
/-- slots read as frozen -/
def Pk (K : PySem.W.Frag) (M : Ms) (S : Addr → Bool) (Γ Γ' : Gm) : Prop := ∀ F H σ, Ok K F H M → Sl K F σ Γ → Sl K (fz F H S) σ Γ'
theorem Pk.refl (hS : InM M S) : Pk K M S Γ Γ := fun F H σ ok sl => sl.mono (fz_same ok hS)
theorem Pk.set {i : Nat} {d d' : D} (hi : Γ[i]? = some (some d)) (hS : InM M S) (hd : PkD K M S d d') : Pk K M S Γ (Γ.set i (some d')) := fun F H σ ok sl => by
  refine ⟨by rw [List.length_set]; exact sl.1, fun j x q => ?_⟩
  by_cases hj : i = j
  · subst hj
    obtain ⟨v, hv, r⟩ := sl.2 i d hi
    rw [List.getElem?_set_self (List.getElem?_eq_some_iff.mp hi).1] at q
    cases q
    exact ⟨v, hv, hd F H v ok r⟩
  · rw [List.getElem?_set_ne hj] at q
    obtain ⟨v, hv, r⟩ := sl.2 j x q
    exact ⟨v, hv, r.mono (fz_same ok hS)⟩
/-- a test that reads mutable things and changes none -/
theorem tx_peek {Φ : Bool → Ms → Prop} (Γ' : Gm) (pk : Pk T.K M (allM M) Γ Γ') (h : TX T e Γ' (dms M (allM M)) (fun b _ => Φ b M) (fun _ _ _ _ => False)) : TX T e Γ M Φ Ψ := fun F H σ Q ok sl k x =>
  h _ H σ Q (fz_ok ok allM_in) (pk F H σ ok sl) (fun F2 H2 M2 b e2 ok2 q => k F H2 M b (Same.refl F) (fz_back ok ok2 e2) q) KX.none
def Sc (d : D) : Prop := ∀ K F F' v, Rep K F d v → Rep K F' d v
theorem sc_int {i : Int} : Sc (.int i) := fun _ _ _ _ r => r
theorem sc_bl {i : Bool} : Sc (.bl i) := fun _ _ _ _ r => r
theorem ex_peek (Γ' : Gm) (pk : Pk T.K M (allM M) Γ Γ') (h : EX T e Γ' (dms M (allM M)) (fun d _ => Sc d ∧ Φ d M) (fun _ _ _ _ => False)) : EX T e Γ M Φ Ψ := fun F H σ Q ok sl k x =>
  h _ H σ Q (fz_ok ok allM_in) (pk F H σ ok sl) (fun F2 H2 M2 d v e2 ok2 r q => k F H2 M d v (Same.refl F) (fz_back ok ok2 e2) (q.1 _ _ _ _ r) q.2) KX.none
/-- a result is frozen, with all it holds -/
theorem ex_frzN (h : EX T e Γ M (fun d M1 => ∃ (S : Addr → Bool) (d' : D), InM M1 S ∧ PkD T.K M1 S d d' ∧ Φ d' (dms M1 S)) Ψ) : EX T e Γ M Φ Ψ := fun F H σ Q ok sl hk x =>
  h F H σ Q ok sl (fun F1 H1 M1 d v e1 ok1 r ⟨S, d', hS, hd, z⟩ => hk _ H1 _ d' v (e1.trans (fz_same ok1 hS)) (fz_ok ok1 hS) (hd F1 H1 v ok1 r) z) x
/-! ### comprehensions that stay mutable -/
def mutP (Φ : PD) : PD := fun d M => ∃ acc, d = .lst acc ∧ ∀ p, M p = none → Φ (.ref p) (um M p (.lst acc))
theorem ge_lcM {elt : Expr} {scope : Scope} {own : List Nat} {g : Tg} {q : Gm → Ms → (Bool → Ms → Prop) → Prop} {tt : TT} {wi : TI} {Φ : PD} (hq : ∀ Γ M Φ, q Γ M Φ → GT (T.blk scope) tt Γ M Φ fun _ _ _ _ => False) (hown : ∀ i ∈ g.ix, i ∈ own)
    (h : GI T wi Γ M (lcAsk T scope own g q elt Γ (mutP Φ)) Ψ) : GE T (tLc wi (tgR T.K g) tt (teOf (T.blk scope) elt) own) Γ M Φ Ψ := by
  intro F H σ Q ok sl hk x
  refine h F H σ _ ok sl (fun F1 H1 M1 J ds PM e1 ok1 it z p hp => ?_) x
  obtain ⟨I, i0, pm, step, fin⟩ := z
  have okp : Ok T.K F1 (upd H1 p (.lst [])) (um M1 p (.lst [])) := ok1.newM (u := .lst []) hp ⟨[], upd_same, rfl⟩
  refine ⟨fun i m H => m = ds.length - i ∧ i ≤ ds.length ∧ ∃ F' M' acc, Same F1 F' ∧ Ok T.K F' H (um M' p (.lst acc)) ∧ M' p = none ∧ I i acc M', ⟨_, rfl, Nat.zero_le _, F1, M1, [], Same.refl _, okp, ok1.fresh hp, i0⟩, ?_⟩
  rintro i m H' ⟨rfl, hi, F', M', acc, e2, ok2, hn, hI⟩
  have slw : Sl T.K F' (L2.wipe σ own) (wipeG Γ own) := (sl.mono (e1.trans e2)).wipe own
  by_cases hlt : i < ds.length
  · refine .inr ⟨it.go i F' H' _ e2 ok2 (pm _ _ _ _ _ hI hn) hlt, fun H3 => i + 1 ≤ ds.length ∧ ∃ F' M' acc, Same F1 F' ∧ Ok T.K F' H3 (um M' p (.lst acc)) ∧ M' p = none ∧ I (i + 1) acc M', fun H3 n3 => ⟨ds.length - (i + 1), by omega, rfl, n3⟩, fun y H3 hy => ?_⟩
    obtain ⟨F2, e3, ok3, r⟩ := it.yld i F' H' _ y H3 e2 ok2 (pm _ _ _ _ _ hI hn) hy
    have hd : ds[i]? = some ds[i] := by simp [hlt]
    obtain ⟨Γ2, hg2, hb⟩ := step i _ acc M' p hd hI hn
    refine tg_run hg2 (r _ hd) ok3.ex (slw.mono e3) fun σ4 sl4 hw => ⟨?_, ?_⟩
    · rw [hw own hown]
      apply List.ext_getElem?
      intro j
      rw [wipe_get, wipe_get, wipe_length]
      by_cases hj : j ∈ own ∧ j < σ.length
      · rw [if_pos hj, if_pos hj]
      · rw [if_neg hj]
    · refine hq _ _ _ hb F2 H3 σ4 _ ok3 sl4 (fun F5 H5 M5 c e5 ok5 zz => ?_) KX.none
      cases c with
      | true =>
        rw [if_pos rfl]
        refine zz.1 rfl F5 H5 σ4 _ ok5 (sl4.mono e5) (fun F6 H6 M6 y v e6 ok6 ry hh => ?_) KX.none
        obtain ⟨hl, M7, e7, n7, I7⟩ := hh
        subst e7
        obtain ⟨hF6, vs, hp6, rs⟩ := ok6.mu p _ um_same
        refine ⟨vs, hp6, by rw [rs.length]; exact hl, hlt, F6, M7, acc ++ [y], e2.trans (e3.trans (e5.trans e6)), ?_, n7, I7⟩
        have q8 := ok6.write (u := .lst (acc ++ [y])) um_same ⟨_, upd_same, rs.append (Reps.one ry)⟩
        rw [um_um] at q8
        exact q8
      | false =>
        rw [if_neg Bool.false_ne_true]
        obtain ⟨M7, e7, n7, I7⟩ := zz.2 rfl
        subst e7
        exact ⟨hlt, F5, M7, acc, e2.trans (e3.trans e5), ok5, n7, I7⟩
  · have e : i = ds.length := by omega
    subst e
    refine .inl ⟨it.stop _ F' H' _ e2 ok2 (pm _ _ _ _ _ hI hn) (Nat.le_refl _), ?_⟩
    obtain ⟨acc2, e3, z⟩ := fin _ _ hI
    cases e3
    exact hk F' H' (um M' p (.lst acc)) (.ref p) (.ref p) (e1.trans e2) ok2 rfl (z p hn)
theorem sx_setLcM {D : GEnds} (hF : Fd T k P w K mg base N sc) (j : Nat) {y : Str} {py spos : Pos} {elt : Expr} {ifs : List Expr} {scope : Scope} (own : List (Str × Nat)) {g : Tg} {q : Gm → Ms → (Bool → Ms → Prop) → Prop} (hg : TgOk (T.blk scope) tg g) (hq : IfOk (T.blk scope) ifs q)
    (h : IX T tg iter Γ M (lcAsk T scope (own.map (·.2)) g q elt Γ (mutP fun d M1 => D.nx (Γ.set j (some d)) M1)) (D.ex Γ)) (ok : blkC N sc scope own = true) (hown : ∀ i ∈ g.ix, i ∈ own.map (·.2))
    (hsw : ∀ env : Env, env.scope = sc → swapsWith (.ListComp elt [⟨tg, iter, ifs, 0⟩] scope pos) (some (.Name y py)) spos.line env = pure true)
    (hN : N[j]? = some y := by rfl) (hy : sc.names.lookup y = some .local := by rfl) (hs : ∀ env x, foldedSetIterable iter env x = pure x := by intro _ _; rfl) (hh : T.hot = false := by assumption) :
    SX T (.Assign [.Name y py] (.ListComp elt [⟨tg, iter, ifs, 0⟩] scope pos) spos) Γ M D := by
  obtain ⟨tt, h1, h2⟩ := ifs_run hq
  refine SX.mk (fun i => ps_setLc (own := own) (hF.fc.calm hh i) (by rw [hF.fc.hN]; exact hF.fc.nd) (by rw [hF.fc.hN]; exact hN) (by rw [hF.fc.hs]; exact hy) (hsw _ (hF.fc.hs i)) (pi_ti i) (by rw [hF.fc.hN, hF.fc.hs]; exact blkOk_by ok) (fun s H C cl fp => hg (i, s, H, C, cl, fp)) (fun s H C cl fp => h1 (i, s, H, C, cl, fp)) (fun s H C cl fp => pe_te (T := T.blk scope) (i, s, H, C, cl, fp)) (hs _)) ?_
  intro F H σ E ok sl qd
  exact ge_lcM h2 hown h F H σ _ ok sl (fun F1 H1 M1 d v e1 ok1 r z => qd.nx F1 _ M1 _ H1 e1 ok1 ((sl.mono e1).set r j) z) (qd.kx sl)
theorem ex_lcM (hF : Fc T k P w K mg base N sc) {elt : Expr} {ifs : List Expr} {scope : Scope} (own : List (Str × Nat)) {g : Tg} {q : Gm → Ms → (Bool → Ms → Prop) → Prop} {Φ : PD} (hg : TgOk (T.blk scope) tg g) (hq : IfOk (T.blk scope) ifs q)
    (h : IX T tg iter Γ M (lcAsk T scope (own.map (·.2)) g q elt Γ (mutP Φ)) Ψ) (ok : blkC N sc scope own = true) (hown : ∀ i ∈ g.ix, i ∈ own.map (·.2)) (hs : ∀ env x, foldedSetIterable iter env x = pure x := by intro _ _; rfl) (hh : T.hot = false := by assumption) :
    EX T (.ListComp elt [⟨tg, iter, ifs, 0⟩] scope pos) Γ M Φ Ψ := by
  obtain ⟨tt, h1, h2⟩ := ifs_run hq
  refine EX.mk (fun i => pe_lc (own := own) (hF.calm hh i) (by rw [hF.hN]; exact hF.nd) (pi_ti i) (by rw [hF.hN, hF.hs]; exact blkOk_by ok) (fun s H C cl fp => hg (i, s, H, C, cl, fp)) (fun s H C cl fp => h1 (i, s, H, C, cl, fp)) (fun s H C cl fp => pe_te (T := T.blk scope) (i, s, H, C, cl, fp)) (hs _)) ?_
  exact ge_lcM h2 hown h
end
end G
set_option Elab.async false
set_option linter.all false
set_option maxRecDepth 100000
set_option maxHeartbeats 1000000
/-! GPeek2: lists of lists of small numbers that stay mutable. -/
namespace G
open PySem PySem.Spec PyProof.Rows L2
abbrev nD (k : Nat) : D := .int (k : Int)
def lnD (r : List Nat) : D := .lst (r.map nD)
theorem nD_int (xs : List Nat) : xs.map nD = (xs.map fun (k : Nat) => (k : Int)).map D.int := by rw [List.map_map]; rfl
theorem toPs_ints : ∀ xs : List Int, toPs (xs.map D.int) = some (xs.map PyData.int)
  | [] => rfl
  | x :: xs => by
    show (some (PyData.int x)).bind (fun p => (toPs (xs.map D.int)).map fun ps => p :: ps) = _
    rw [toPs_ints xs]; rfl
theorem eqD_ints (xs ys : List Int) : eqD (.lst (xs.map D.int)) (.lst (ys.map D.int)) = some (decide (xs = ys)) := by
  have h1 : toP (.lst (xs.map D.int)) = some (.list (xs.map PyData.int)) := by
    show (toPs (xs.map D.int)).map PyData.list = _
    rw [toPs_ints]; rfl
  have h2 : toP (.lst (ys.map D.int)) = some (.list (ys.map PyData.int)) := by
    show (toPs (ys.map D.int)).map PyData.list = _
    rw [toPs_ints]; rfl
  unfold eqD
  rw [h1, h2]
  show (if SeqAt.shaped (.list (xs.map PyData.int)) && SeqAt.shaped (.list (ys.map PyData.int)) then some (PyData.eqv (.list (xs.map PyData.int)) (.list (ys.map PyData.int))) else none) = _
  rw [PySem.W.ke_shaped_ints, PySem.W.ke_shaped_ints]
  have h3 : PyData.eqv (.list (xs.map PyData.int)) (.list (ys.map PyData.int)) = decide (xs = ys) := @PySem.W.Datum.eqv (List Int) _ _ xs ys
  rw [h3]; rfl
theorem nat_inj : ∀ {xs ys : List Nat}, xs.map (fun (k : Nat) => (k : Int)) = ys.map (fun (k : Nat) => (k : Int)) ↔ xs = ys
  | [], [] => by simp
  | [], _ :: _ => by simp
  | _ :: _, [] => by simp
  | x :: xs, y :: ys => by
    rw [List.map_cons, List.map_cons, List.cons.injEq, List.cons.injEq, nat_inj (xs := xs)]
    exact and_congr (by show ((x : Int) = (y : Int)) ↔ _; omega) Iff.rfl
theorem eqD_nats (xs ys : List Nat) : eqD (lnD xs) (lnD ys) = some (decide (xs = ys)) := by
  unfold lnD
  rw [nD_int, nD_int, eqD_ints]
  exact congrArg some (decide_eq_decide.mpr nat_inj)
theorem flat_nats : ∀ xs : List Nat, flatDs (xs.map nD) = some (xs.map fun (k : Nat) => V.int (k : Int))
  | [] => rfl
  | x :: xs => by
    show (some (V.int (x : Int))).bind (fun v => (flatDs (xs.map nD)).map fun vs => v :: vs) = _
    rw [flat_nats xs]; rfl
theorem inV_nats (k : Nat) : ∀ xs : List Nat, inV (.int (k : Int)) (xs.map fun (k : Nat) => V.int (k : Int)) = xs.any (Nat.beq k)
  | [] => rfl
  | x :: xs => by
    show (eqV (.int (x : Int)) (.int (k : Int)) || inV (.int (k : Int)) (xs.map fun (k : Nat) => V.int (k : Int))) = (Nat.beq k x || xs.any (Nat.beq k))
    rw [inV_nats k xs]
    congr 1
    show ((x : Int) == (k : Int)) = Nat.beq k x
    rw [Bool.eq_iff_iff, beq_iff_eq, Nat.beq_eq]
    omega
theorem notInN {M : Ms} {Φ : PD} {k : Nat} {y : D} {xs : List Nat} (h : seqM M y = some (xs.map nD)) (q : Φ (.bl (!xs.any (Nat.beq k))) M) : inP true M Φ (nD k) y :=
  .inl ⟨_, _, _, h, rfl, flat_nats xs, by rw [inV_nats]; exact q⟩
theorem inN {M : Ms} {Φ : PD} {k : Nat} {y : D} {xs : List Nat} (h : seqM M y = some (xs.map nD)) (q : Φ (.bl (xs.any (Nat.beq k))) M) : inP false M Φ (nD k) y :=
  .inl ⟨_, _, _, h, rfl, flat_nats xs, by rw [inV_nats]; exact q⟩
section
variable {ι : Type} {T : Fm ι} {k : Nat} {P : Program} {w : World} {K : PySem.W.Frag} {mg : Str → Option Value} {base : Heap} {N : List Str} {sc : Scope} {Γ Γ' : Gm} {M M' M2 : Ms} {Φ : PD} {Ψ : PX}
variable {e : Expr} {q : Addr} {ps : List Addr} {R : List (List Nat)} {S : Addr → Bool}
theorem ex_forget (h : EX T e Γ M (fun d M1 => ∃ M2, Sub M2 M1 ∧ Φ d M2) Ψ) : EX T e Γ M Φ Ψ := fun F H σ Q ok sl hk x =>
  h F H σ Q ok sl (fun F1 H1 M1 d v e1 ok1 r ⟨M2, s, z⟩ => hk F1 H1 M2 d v e1 (ok1.sub s) r z) x
/-- the lists at ps hold the rounds R -/
def Als (M : Ms) : List Addr → List (List Nat) → Prop
  | [], [] => True
  | p :: ps, r :: rs => M p = some (.lst (r.map nD)) ∧ Als M ps rs
  | _, _ => False
theorem Als.len : ∀ {ps : List Addr} {R : List (List Nat)}, Als M ps R → ps.length = R.length
  | [], [], _ => rfl
  | _ :: ps, _ :: R, h => by rw [List.length_cons, List.length_cons, Als.len h.2]
theorem Als.mono {M' : Ms} : ∀ {ps : List Addr} {R : List (List Nat)}, (∀ p ∈ ps, M' p = M p) → Als M ps R → Als M' ps R
  | [], [], _, _ => trivial
  | p :: ps, r :: R, h, a => ⟨by rw [h p (List.mem_cons_self ..)]; exact a.1, Als.mono (fun x hx => h x (List.mem_cons_of_mem _ hx)) a.2⟩
  | [], _ :: _, _, a => a.elim
  | _ :: _, [], _, a => a.elim
theorem Als.snoc {p : Addr} {r : List Nat} : ∀ {ps : List Addr} {R : List (List Nat)}, Als M ps R → M p = some (.lst (r.map nD)) → Als M (ps ++ [p]) (R ++ [r])
  | [], [], _, h => ⟨h, trivial⟩
  | _ :: ps, _ :: R, a, h => ⟨a.1, Als.snoc a.2 h⟩
  | [], _ :: _, a, _ => a.elim
  | _ :: _, [], a, _ => a.elim
theorem Als.mem : ∀ {ps : List Addr} {R : List (List Nat)}, Als M ps R → ∀ p ∈ ps, ∃ o, M p = some o
  | [], [], _, p, h => nomatch h
  | _ :: ps, _ :: R, a, p, h => by
    cases h with
    | head => exact ⟨_, a.1⟩
    | tail _ h => exact Als.mem a.2 p h
structure Nst (M M' : Ms) (q : Addr) (ps : List Addr) (R : List (List Nat)) : Prop where
  fq : M q = none
  fp : ∀ p ∈ ps, M p = none
  top : M' q = some (.lst (ps.map D.ref))
  al : Als M' ps R
  fr : ∀ a, a ≠ q → a ∉ ps → M' a = M a
def sN (q : Addr) (ps : List Addr) : Addr → Bool := fun a => decide (a = q ∨ a ∈ ps)
theorem Nst.inM (h : Nst M M' q ps R) : InM M' (sN q ps) := fun a ha => by
  rcases of_decide_eq_true ha with rfl | ha
  · exact ⟨_, h.top⟩
  · exact h.al.mem a ha
theorem Nst.dms (h : Nst M M' q ps R) : dms M' (sN q ps) = M := by
  funext a
  unfold G.dms
  split
  · rename_i z
    rcases of_decide_eq_true z with rfl | z
    · exact h.fq.symm
    · exact (h.fp a z).symm
  · rename_i z
    have z : ¬ (a = q ∨ a ∈ ps) := fun y => z (decide_eq_true y)
    exact h.fr a (fun y => z (.inl y)) fun y => z (.inr y)
theorem als_pk (hI : InM M S) : ∀ {ps : List Addr} {R : List (List Nat)}, (∀ p ∈ ps, S p = true) → Als M ps R → PkL K M S (ps.map D.ref) (R.map lnD)
  | [], [], _, _ => pkl_nil
  | p :: ps, r :: R, h, a => pkl_cons (pkd_lst (h p (List.mem_cons_self ..)) a.1 (pkl_same hI)) (als_pk hI (fun x hx => h x (List.mem_cons_of_mem _ hx)) a.2)
  | [], _ :: _, _, a => a.elim
  | _ :: _, [], _, a => a.elim
theorem Nst.pkd (h : Nst M M' q ps R) (hI : InM M' S) (hq : S q = true) (hp : ∀ p ∈ ps, S p = true) : PkD K M' S (.ref q) (.lst (R.map lnD)) := pkd_lst hq h.top (als_pk hI hp h.al)
theorem ex_frzR (h : EX T e Γ M (fun d M1 => ∃ M0 q ps R, d = .ref q ∧ Nst M0 M1 q ps R ∧ Φ (.lst (R.map lnD)) M0) Ψ) : EX T e Γ M Φ Ψ := by
  refine ex_frzN (EX.imp h (fun d M1 z => ?_) fun _ _ _ _ z => z)
  obtain ⟨M0, q, ps, R, rfl, n, z⟩ := z
  exact ⟨sN q ps, _, n.inM, n.pkd n.inM (decide_eq_true (.inl rfl)) (fun p hp => decide_eq_true (.inr hp)), by rw [n.dms]; exact z⟩
theorem Nst.pk (h : Nst M M' q ps R) {i : Nat} (hi : Γ[i]? = some (some (.ref q))) : Pk K M' (allM M') Γ (Γ.set i (some (.lst (R.map lnD)))) := by
  refine Pk.set hi allM_in (h.pkd allM_in (by unfold allM; rw [h.top]; rfl) fun p hp => ?_)
  obtain ⟨o, ho⟩ := h.al.mem p hp
  unfold allM
  rw [ho]; rfl
theorem pk_nats {xs : List Nat} (h : M q = some (.lst (xs.map nD))) {i : Nat} (hi : Γ[i]? = some (some (.ref q))) : Pk K M (allM M) Γ (Γ.set i (some (lnD xs))) :=
  Pk.set hi allM_in (pkd_lst (by unfold allM; rw [h]; rfl) h (pkl_same allM_in))
end
end G
set_option Elab.async false
set_option linter.all false
set_option maxRecDepth 100000
set_option maxHeartbeats 1000000
/-! GIs: isinstance(e, (A, B)) of own classes; specs whose results are frozen. -/
namespace G
open PySem PySem.Spec PyProof.Rows L2
def rIs2T (K : PySem.W.Frag) : List V → Hp → VK → Prop := fun xs H Q => ∃ (x : V) (tp : Addr) (cs : List V) (t : Value) (us : List Value) (b : Bool), xs = [x, .ref tp] ∧ H tp = some (.tup cs) ∧ Paired ClsV cs us ∧ Ty2 K H x t ∧ PySem.W.kitAny K t us = some b ∧ Q (.bl b) H
theorem call_is2T {X : Cx} : CallR X (.builtin "isinstance") (rIs2T X.K) := by
  intro pins s σ H xs us Q I r h
  obtain ⟨x, tp, cs, t, ws, b, rfl, hT, k, ty, e, q⟩ := h
  obtain ⟨u1, u2, rfl, r1, r2⟩ := vals2 r
  cases (show u2 = Value.ref tp from r2)
  obtain ⟨P, Z, p, hx⟩ := kit_of2 I r1 ty
  obtain ⟨_, its, rv, o, h1, h2, n, h3⟩ := (show ObjOk X.prog X.w H s.heap tp (.tup cs) from I.hok tp _ hT)
  have e3 := ClsV.all k rv
  subst e3
  obtain ⟨oc, od, dt, sl⟩ := o
  simp only at h2 h3
  subst h2 h3
  exact PySem.W.kia_tup Z I.kIn p h1 e hx fun tk => ⟨.bl b, H, I.tok tk, rfl, q⟩
section
variable {ι : Type} {T : Fm ι} {k : Nat} {P : Program} {w : World} {K : PySem.W.Frag} {mg : Str → Option Value} {base : Heap} {N : List Str} {sc : Scope} {Γ : Gm} {M : Ms} {Φ : PD} {Ψ : PX} {e : Expr} {pos p p1 p2 p3 : Pos} {x y : Str} {C C2 : Addr}
def isP2 (K : PySem.W.Frag) (cvs : List Value) (M : Ms) (Φ : PD) (d : D) : Prop := ∃ wd b, wdD M d = some wd ∧ WdOk K wd ∧ PySem.W.kitAny K wd.v cvs = some b ∧ Φ (.bl b) M
theorem ex_isC2 {kt : Nat} (hF : Fc T k P w K mg base N sc) (hm : mg "isinstance" = none) (hc : mg x = some (.ref C)) (hc2 : mg y = some (.ref C2)) (h : EX T e Γ M (fun d M1 => isP2 K [.ref C, .ref C2] M1 Φ d) Ψ) (hg : sc.names.lookup ("isinstance" : Str) = some .globalImplicit := by rfl) (hgc : sc.names.lookup x = some .globalImplicit := by rfl)
    (hgc2 : sc.names.lookup y = some .globalImplicit := by rfl) (hdb : (x == ("__debug__" : Str)) = false := by decide) (hdb2 : (y == ("__debug__" : Str)) = false := by decide) (he : ∀ env es, starEach (e :: es) env = (false, eval e env) :: starEach es env := by intro _ _; rfl) :
    EX T (.Call (.Name "isinstance" p) [e, .Tuple [.Name x p1, .Name y p2] kt p3] [] pos) Γ M Φ Ψ := by
  refine EX.mk (t := tCB (rIs2T T.K) (tCons (teOf T e) (tCons (tTup (tCons (tC (.ref C)) (tCons (tC (.ref C2)) tNil))) tNil))) (fun i => ?_) ?_
  · exact pe_callB (by rw [← hF.hK i]; exact call_is2T) (by show (T.X i).env.scope.names.lookup _ = _; rw [hF.hs]; exact hg) (by rw [hF.hmg]; exact hm) (by decide +kernel)
      (pa_cons (pe_te i) (pa_cons (pe_tup (pa_cons (pe_glob (by show (T.X i).env.scope.names.lookup x = _; rw [hF.hs]; exact hgc) (by rw [hF.hmg]; exact hc) rfl hdb) (pa_cons (pe_glob (by show (T.X i).env.scope.names.lookup y = _; rw [hF.hs]; exact hgc2) (by rw [hF.hmg]; exact hc2) rfl hdb2) pa_nil (by rfl)) (by rfl))) pa_nil) (he _ _)) (by decide) (by decide) (he _ _) (by rfl)
  · intro F H σ Q ok sl hk x
    refine h F H σ _ ok sl (fun F1 H1 M1 d v e1 ok1 r z => ?_) x
    obtain ⟨wd, b, h1, h2, h3, q⟩ := z
    rw [← hF.hT] at h2 h3
    refine ⟨(size_small (n := 2)), fun tp htp => ?_⟩
    have e2 : Same F1 (upd F1 tp (.tup [.ref C, .ref C2])) := same_upd (ok1.freshF htp)
    have ok2 := ok1.new (o := .tup [.ref C, .ref C2]) htp
    exact ⟨v, tp, _, wd.v, _, b, rfl, upd_same, .cons (.own C) (.cons (.own C2) .nil), ty2_of ok2 (r.mono e2) h1 h2, h3, hk _ _ M1 (.bl _) _ (e1.trans e2) ok2 rfl q⟩
end
/-! ### f(p = ..) -/
def CalK1 (P : Program) (w : World) (K : PySem.W.Frag) (mg : Str → Option Value) (base : Heap) (x : Str) (k : Nat) (p1 : Str) (ds : DS) : Prop :=
  ∃ f fd, FnM false P w K mg base k f fd [p1] (lift K ds) ∧ mg x = some (.ref f) ∧ PySem.W.keepIn K (.ref f) = true ∧ KBn K fd [p1] 0 [p1] (fun _ ws => ws) (fun _ zs => zs)
section
variable {X : Cx} {hot : Bool} {k : Nat} {f : Addr} {fd : FuncData} {p1 : Str} {sp : Sp} {E : L2.St → XK} {x : Str} {q pos : Pos} {kws : List Keyword} {tk : TA}
def tCallK1 (sp : Sp) (E : L2.St → XK) (tk : TA) : TE := fun σ H Q => tk σ H fun zs H1 => sp zs H1 Q (E σ)
theorem pe_callK1 (F : FnM hot X.prog X.w X.K X.mg X.base k f fd [p1] sp) (hr : RoomM hot k X.A) (hg : Gl X x) (hm : X.mg x = some (.ref f)) (hk : PySem.W.keepIn X.K (.ref f) = true) (hb : KBn X.K fd [p1] 0 [p1] (fun _ ws => ws) (fun _ zs => zs)) (hx : ∀ σ, PassesAt (L2.CX X.prog X.w) X σ (E σ))
    (hkw : PK X kws tk) (hall : (backToKw pos (keywordEach kws X.env)).all (·.1.isSome) = true) (hks : (backToKw pos (keywordEach kws X.env)).filterMap (·.1) = [p1])
    (hdb : (x == ("__debug__" : Str)) = false) (hpl : (backToKw pos (keywordEach kws X.env)).any (·.1.isNone) = false) :
    PE X (.Call (.Name x q) [] kws pos) (tCallK1 sp E tk) := ⟨fun pins s σ H Q I h => by
  have hpl2 : ((backTo pos (starEach [] X.env)).any (·.1) || (backToKw pos (keywordEach kws X.env)).any (·.1.isNone)) = false := hpl
  refine wpAny_Call_Name_kw (ld_glob I hg hm (PySem.W.callWith_KW0 (h₀ := X.base) I.ok.mod.kin hk hall (thn (hkw.run pos pins s σ H _ I h) fun ws s1 z => ?_) hpl2) hdb)
  obtain ⟨zs, H1, I1, r, y⟩ := z
  refine ⟨I1.kIn, ?_⟩
  rw [hks]
  have el : zs.length = 1 := F.len _ _ _ _ y
  have el3 : ws.length = 1 := by rw [← r.length]; exact el
  have bt : BindsTo s1 fd ⟨[], [p1].zip ws⟩ ([p1].zip ws) := hb.to s1 [] ws I1.kIn rfl el3
  have go := F.run X.A X.stack s1 H1 ⟨[], [p1].zip ws⟩ ws zs Q (E σ) hr I1.env0 bt r y
  refine wpAny_call (codeAny_mono go fun res sE z => ?_)
  match res, z with
  | .error err, z => exact hx σ pins H1 s1 err sE I1 z
  | .ok (.ret u), z => exact I1.after z⟩
end
section
variable {ι : Type} {T : Fm ι} {k : Nat} {P : Program} {w : World} {K : PySem.W.Frag} {mg : Str → Option Value} {base : Heap} {N : List Str} {sc : Scope} {Γ : Gm} {M : Ms} {Φ : PD} {Ψ : PX}
variable {kws : List Keyword} {pos p : Pos} {x p1 : Str} {j : Nat} {ds : DS} {S : Addr → Bool} {q : Addr}
theorem ex_callK1 (hF : Fc T k P w K mg base N sc) (c : CalK1 P w K mg base x j p1 ds) (hk : j ≤ k) (h : KAX T kws Γ M (fun zs M1 => zs.length = 1 ∧ ds zs M1 Φ Ψ) Ψ)
    (hall : ∀ env, (backToKw pos (keywordEach kws env)).all (·.1.isSome) = true := by intro _; rfl) (hks : ∀ env, (backToKw pos (keywordEach kws env)).filterMap (·.1) = [p1] := by intro _; rfl)
    (hg : sc.names.lookup x = some .globalImplicit := by rfl) (hdb : (x == ("__debug__" : Str)) = false := by decide) (hpl : ∀ env, (backToKw pos (keywordEach kws env)).any (·.1.isNone) = false := by intro _; rfl) (hh : T.hot = false := by assumption) :
    EX T (.Call (.Name x p) [] kws pos) Γ M Φ Ψ := by
  obtain ⟨f, fd, F, hm, kp, hb⟩ := c
  have F' : FnM T.hot P w K mg base j f fd [p1] (lift K ds) := by rw [hh]; exact F
  rw [← hF.hT] at F' kp hb
  refine EX.mk (t := tCallK1 (lift T.K ds) (WE T.w) (tkOf T kws)) (fun i => ?_) ?_
  · exact pe_callK1 (hF.fno i F') ((hF.hr i).mono hk) (by show (T.X i).env.scope.names.lookup x = _; rw [hF.hs]; exact hg) (by rw [hF.hmg]; exact hm) (by rw [hF.hK]; exact kp) (by rw [hF.hK]; exact hb) (hF.pass i) (pk_tk i) (hall _) (hks _) hdb (hpl _)
  · intro F0 H σ Q ok sl q xx
    exact h F0 H σ _ ok sl (fun F1 H1 M1 xs vs e1 ok1 rs z => ⟨F1, M1, xs, Φ, Ψ, ok1, rs, z.2, q.mono e1, xx.mono e1⟩) xx
theorem pk_lst {ds : List D} (h : M q = some (.lst ds)) {i : Nat} (hi : Γ[i]? = some (some (.ref q))) : Pk K M (allM M) Γ (Γ.set i (some (.lst ds))) :=
  Pk.set hi allM_in (pkd_lst (by unfold allM; rw [h]; rfl) h (pkl_same allM_in))
end
end G
set_option Elab.async false
set_option linter.all false
set_option maxRecDepth 100000
set_option maxHeartbeats 1000000
/-! GOrd: t < u of int tuples; a >= b >= c; min of a tuple. -/
namespace G
open PySem PySem.Spec PyProof.Rows L2
section
variable {ι : Type} {T : Fm ι} {k : Nat} {P : Program} {w : World} {K : PySem.W.Frag} {mg : Str → Option Value} {base : Heap} {N : List Str} {sc : Scope} {Γ : Gm} {M : Ms} {Φ : PD} {Ψ : PX}
variable {e a b c : Expr} {es : List Expr} {pos p p1 p2 p3 p4 : Pos}
/-! ### t < u of tuples of whole numbers -/
def ltI (ns ms : List Int) : Bool := Ob.lexAt (fun j => decide (ns.getD j 0 = ms.getD j 0)) (fun j => decide (ns.getD j 0 < ms.getD j 0)) (decide (ns.length < ms.length)) 0 (min ns.length ms.length)
def rLtT (K : PySem.W.Frag) : R2 := fun x y H Q => ∃ (a b : Addr) (ns ms : List Int), x = .ref a ∧ y = .ref b ∧ SqT K H a (ns.map V.int) ∧ SqT K H b (ms.map V.int) ∧ Q (.bl (ltI ns ms)) H
theorem op_ltT {X : Cx} (hu : X.A.units < cLine) : OpR X (compareOp .Lt) (rLtT X.K) := by
  intro pins s σ H x y v u Q I rx ry h
  obtain ⟨a, b, ns, ms, rfl, rfl, ha, hb, q⟩ := h
  cases rx
  cases ry
  obtain ⟨its, r1, p1, _⟩ := I.tuple ha
  obtain ⟨its2, r2, p2, _⟩ := I.tuple hb
  have i1 : IntsAre its ns := Vals.ints r1
  have i2 : IntsAre its2 ms := Vals.ints r2
  have e1 : its.toArray.size = ns.length := by rw [List.size_toArray]; exact i1.length
  have e2 : its2.toArray.size = ms.length := by rw [List.size_toArray]; exact i2.length
  have at1 : ∀ j (h1 : j < its.toArray.size), ∃ t, its.toArray[j] = .int (ns.getD j 0) t := fun j h1 => PyProof.Rows.IntsAre.int_at i1 _ _ (by simp at h1; simp [h1])
  have at2 : ∀ j (h1 : j < its2.toArray.size), ∃ t, its2.toArray[j] = .int (ms.getD j 0) t := fun j h1 => PyProof.Rows.IntsAre.int_at i2 _ _ (by simp at h1; simp [h1])
  have R := Ob.RcOp.tuples_lt (A := X.A) (s := s) (e := fun j => decide (ns.getD j 0 = ms.getD j 0)) (r := fun j => decide (ns.getD j 0 < ms.getD j 0)) p1 p2 hu (fun j h1 h2 => by
    obtain ⟨t, et⟩ := at1 j h1
    obtain ⟨t', et'⟩ := at2 j h2
    rw [et, et']
    have z : (ns.getD j 0 == ms.getD j 0) = decide (ns.getD j 0 = ms.getD j 0) := by
      by_cases q : ns.getD j 0 = ms.getD j 0
      · rw [decide_eq_true q]; exact beq_iff_eq.mpr q
      · rw [decide_eq_false q]; exact beq_eq_false_iff_ne.mpr q
    rw [← z]
    exact SeqAt.EqAt.int_int _ _ _ _) (fun j h1 h2 _ => by
    obtain ⟨t, et⟩ := at1 j h1
    obtain ⟨t', et'⟩ := at2 j h2
    rw [et, et']
    exact Ob.RcOp.lt_int _ _ _ _)
  rw [e1, e2] at R
  have z : wpAny (model X.prog X.w) X.A (compareOp .Lt (.ref a) (.ref b)) (EP X pins σ Q) X.xe s := R X.prog X.w X.xe (EP X pins σ Q) ⟨.bl _, H, I, rfl, q⟩
  exact z
def ltTP (M : Ms) (Φ : PD) (x y : D) : Prop := ∃ ns ms : List Int, x = .tup (ns.map D.int) ∧ y = .tup (ms.map D.int) ∧ Φ (.bl (ltI ns ms)) M
theorem gr_ltT {x y : D} (q : ltTP M Φ x y) : GR T (rLtT T.K) x y M Φ := by
  intro F H vx vy Q ok rx ry hk
  obtain ⟨ns, ms, rfl, rfl, z⟩ := q
  obtain ⟨a, vs, rfl, h1, r1⟩ := rx
  obtain ⟨b, us, rfl, h2, r2⟩ := ry
  rw [ints_rep r1] at h1
  rw [ints_rep r2] at h2
  exact ⟨a, b, ns, ms, rfl, rfl, same_t ok.ex h1, same_t ok.ex h2, hk F H M (.bl _) _ (Same.refl _) ok rfl z⟩
theorem ex_ltT (hF : Fc T k P w K mg base N sc) (h : EX T a Γ M (fun x M1 => EX T b Γ M1 (fun y M2 => ltTP M2 Φ x y) Ψ) Ψ) : EX T (.Compare a [.Lt] [b] pos) Γ M Φ Ψ :=
  ex_cmpG (R := ltTP) (fun i => by rw [← hF.hK i]; exact op_ltT (by have := (hF.hr i).rm.un; omega)) (nomark _) (fun _ _ _ _ q => gr_ltT q) h
theorem tx_ltT (hF : Fc T k P w K mg base N sc) {Φ : Bool → Ms → Prop} (h : EX T a Γ M (fun x M1 => EX T b Γ M1 (fun y M2 => ltTP M2 (fun d M => ∃ c, d = .bl c ∧ Φ c M) x y) Ψ) Ψ) : TX T (.Compare a [.Lt] [b] pos) Γ M Φ Ψ :=
  tx_cmpG (R := ltTP) (fun i => by rw [← hF.hK i]; exact op_ltT (by have := (hF.hr i).rm.un; omega)) (nomark _) (fun _ _ _ _ q => gr_ltT q) h
/-! ### a >= b >= c -/
theorem tx_chGe {Φ : Bool → Ms → Prop} (h : EX T a Γ M (fun x M1 => EX T b Γ M1 (fun y M2 => ∃ i j, x = .int i ∧ y = .int j ∧ (decide (j ≤ i) = false → Φ false M2) ∧ (decide (j ≤ i) = true → EX T c Γ M2 (fun z M3 => ∃ l, z = .int l ∧ Φ (decide (l ≤ j)) M3) Ψ)) Ψ) Ψ)
    (hm : lastMarks [.GtE, .GtE] [b, c] = false := by rfl) : TX T (.Compare a [.GtE, .GtE] [b, c] pos) Γ M Φ Ψ := by
  refine TX.mk (fun i => pt_chain op_ge op_ge (pe_te i) (pe_te i) (pe_te i) hm) (gt_test (ge_chain (f := fun i j => decide (j ≤ i)) (g := fun i j => decide (j ≤ i)) ?_))
  refine EX.imp h (fun x M1 q => EX.imp q (fun y M2 ⟨i, j, h1, h2, h3, h4⟩ => ⟨i, j, h1, h2, fun z => ⟨_, rfl, h3 z⟩, fun z => EX.imp (h4 z) (fun d M3 ⟨l, hl, q⟩ => ⟨l, hl, _, rfl, q⟩) fun _ _ _ _ z => z⟩) fun _ _ _ _ z => z) fun _ _ _ _ z => z
/-! ### min of a tuple of data -/
def minTP (M : Ms) (Φ : PD) (xs : List D) : Prop := ∃ ds p ps, xs = [.tup ds] ∧ toPs ds = some (p :: ps) ∧ PySem.W.AlikeAll (p :: ps) ∧ PyData.depthAll (p :: ps) ≤ 8 ∧ ∀ d ∈ ds, toP d = some (PySem.W.minD p ps) → Φ d M
def rMinG (K : PySem.W.Frag) (ds : List D) (p : PyData) (ps : List PyData) (F : Hp) : List V → Hp → VK → Prop := fun vs H Q => ∃ (a : Addr) (us : List V), vs = [.ref a] ∧ SqT K H a us ∧ Same F H ∧ Reps K F ds us ∧ ∀ d ∈ ds, toP d = some (PySem.W.minD p ps) → ∀ v, Rep K F d v → Q v H
theorem ex_minT (hF : Fc T k P w K mg base N sc) (hm : mg "min" = none) (h : AX T [e] Γ M (fun xs M1 => minTP M1 Φ xs) Ψ) (hg : sc.names.lookup ("min" : Str) = some .globalImplicit := by rfl)
    (he : ∀ env, starEach [e] env = (false, eval e env) :: starEach [] env := by intro _; rfl) (hh : T.hot = false := by assumption) : EX T (.Call (.Name "min" p) [e] [] pos) Γ M Φ Ψ := by
  -- the reading: for every list of values that the data tell, the greatest one's value
  refine EX.mk (t := fun σ H Q => taOf T [e] σ H fun vs H1 => ∃ F ds p ps, toPs ds = some (p :: ps) ∧ PySem.W.AlikeAll (p :: ps) ∧ PyData.depthAll (p :: ps) ≤ 8 ∧ rMinG T.K ds p ps F vs H1 Q) (fun i => ⟨fun pins s σ H Q I hq => ?_⟩) ?_
  · have cr : CallR (T.X i) (.builtin "min") (fun vs H1 Q => ∃ F ds p ps, toPs ds = some (p :: ps) ∧ PySem.W.AlikeAll (p :: ps) ∧ PyData.depthAll (p :: ps) ≤ 8 ∧ rMinG T.K ds p ps F vs H1 Q) := by
      intro pins s σ H vs us Q I r hq
      obtain ⟨F, ds, p, ps, h1, h2, h3, a, ws, rfl, h4, hs, h5, q⟩ := hq
      obtain ⟨its, rv, hl, _⟩ := I.tuple (by rw [hF.hK i]; exact h4)
      rw [Vals.ref1 r]
      have hd := toPs_dp hs h5 h1
      rw [← hF.hK i] at hd
      obtain ⟨as, hr⟩ := Dp.readsAll I (p :: ps) ws its hd rv
      refine PySem.W.min_tuple_data (I.ok.hd (hF.calm hh i)) hl (by simpa using hr) h2 (by have := hF.units i; omega) fun j v h' tk bs hv hrd hk => ?_
      have hv' : its[j]? = some v := by simpa using hv
      have hlen := rv.length
      have hj : j < ws.length := by
        have := (List.getElem?_eq_some_iff.mp hv').1
        omega
      obtain ⟨u', hu', ru⟩ := rv.get (x := ws[j]) (i := j) (by simp [hj])
      rw [hv'] at hu'
      cases hu'
      have hjd : j < ds.length := by rw [← h5.length]; exact hj
      obtain ⟨v0, hv0, rv0⟩ := h5.get (i := j) (d := ds[j]) (by simp [hjd])
      have ev : ws[j] = v0 := by
        have : ws[j]? = some ws[j] := by simp [hj]
        rw [this] at hv0
        exact Option.some.inj hv0
      obtain ⟨q0, hq0, hq1⟩ := toPs_mem h1 (show ds[j]? = some ds[j] by simp [hjd])
      have hdp := toP_dp hs rv0 hq1
      rw [← hF.hK i, ← ev] at hdp
      obtain ⟨as0, hr0⟩ := Dp.reads I q0 _ v hdp ru
      have e1 := (PyProof.Rows.reads_det (fun b o z _ => hk b o z) hr0 hrd).1
      rw [← e1] at hq1
      exact ⟨_, H, I.kept hk, ru, q _ (List.getElem_mem hjd) hq1 _ (by rw [ev]; exact rv0)⟩
    exact (pe_callB (t := taOf T [e]) cr (by show (T.X i).env.scope.names.lookup _ = _; rw [hF.hs]; exact hg) (by rw [hF.hmg]; exact hm) (by decide +kernel) (pa_ta i) (by decide) (by decide) (he _) (by rfl)).run pins s σ H Q I hq
  · intro F H σ Q ok sl hk x
    refine h F H σ _ ok sl (fun F1 H1 M1 xs vs e1 ok1 rs q => ?_) x
    obtain ⟨ds, p, ps, rfl, h1, h2, h3, q⟩ := q
    obtain ⟨v, rfl, r⟩ := reps1 rs
    obtain ⟨a, us, rfl, g1, g2⟩ := r
    exact ⟨F1, ds, p, ps, h1, h2, h3, a, us, rfl, same_t ok1.ex g1, ok1.ex, g2, fun d hd hp v rv => hk F1 H1 M1 d v e1 ok1 rv (q d hd hp)⟩
theorem minTP_i {x : Int} {xs : List Int} (h : Φ (.int (PySem.W.minOf x xs)) M) : minTP M Φ [.tup ((x :: xs).map D.int)] := by
  refine ⟨_, _, _, rfl, toPs_ints (x :: xs), ⟨?_, ?_⟩, ?_, fun d hd ht => ?_⟩
  · intro a ha b hb
    obtain ⟨a', _, rfl⟩ := List.mem_map.mp (show a ∈ (x :: xs).map PyData.int from ha)
    obtain ⟨b', _, rfl⟩ := List.mem_map.mp (show b ∈ (x :: xs).map PyData.int from hb)
    exact PySem.W.DatumOrd.alike a' b'
  · intro a ha
    obtain ⟨a', _, rfl⟩ := List.mem_map.mp (show a ∈ (x :: xs).map PyData.int from ha)
    exact PySem.W.DatumOrd.notNone a'
  · exact Nat.le_trans (PySem.W.depthAll_map (x :: xs)) (by decide)
  · obtain ⟨y, _, rfl⟩ := List.mem_map.mp hd
    have ht2 : some (PyData.int y) = some _ := ht
    have e := Option.some.inj ht2
    have e2 := PySem.W.minD_map x xs
    have e3 : PyData.int y = PyData.int (PySem.W.minOf x xs) := e.trans e2
    injection e3 with e3
    rw [e3]; exact h
end
/-! ### f() -/
def CalK0 (P : Program) (w : World) (K : PySem.W.Frag) (mg : Str → Option Value) (base : Heap) (x : Str) (k : Nat) (ds : DS) : Prop :=
  ∃ f fd, FnM false P w K mg base k f fd [] (lift K ds) ∧ mg x = some (.ref f) ∧ PySem.W.keepIn K (.ref f) = true ∧ KBn K fd [] 0 [] (fun _ ws => ws) (fun _ zs => zs)
section
variable {X : Cx} {hot : Bool} {k : Nat} {f : Addr} {fd : FuncData} {sp : Sp} {E : L2.St → XK} {x : Str} {q pos : Pos} {kws : List Keyword} {tk : TA}
def tCallK0 (sp : Sp) (E : L2.St → XK) (tk : TA) : TE := fun σ H Q => tk σ H fun zs H1 => sp zs H1 Q (E σ)
theorem pe_callK0 (F : FnM hot X.prog X.w X.K X.mg X.base k f fd [] sp) (hr : RoomM hot k X.A) (hg : Gl X x) (hm : X.mg x = some (.ref f)) (hk : PySem.W.keepIn X.K (.ref f) = true) (hb : KBn X.K fd [] 0 [] (fun _ ws => ws) (fun _ zs => zs)) (hx : ∀ σ, PassesAt (L2.CX X.prog X.w) X σ (E σ))
    (hkw : PK X kws tk) (hall : (backToKw pos (keywordEach kws X.env)).all (·.1.isSome) = true) (hks : (backToKw pos (keywordEach kws X.env)).filterMap (·.1) = [])
    (hdb : (x == ("__debug__" : Str)) = false) (hpl : (backToKw pos (keywordEach kws X.env)).any (·.1.isNone) = false) :
    PE X (.Call (.Name x q) [] kws pos) (tCallK0 sp E tk) := ⟨fun pins s σ H Q I h => by
  have hpl2 : ((backTo pos (starEach [] X.env)).any (·.1) || (backToKw pos (keywordEach kws X.env)).any (·.1.isNone)) = false := hpl
  refine wpAny_Call_Name_kw (ld_glob I hg hm (PySem.W.callWith_KW0 (h₀ := X.base) I.ok.mod.kin hk hall (thn (hkw.run pos pins s σ H _ I h) fun ws s1 z => ?_) hpl2) hdb)
  obtain ⟨zs, H1, I1, r, y⟩ := z
  refine ⟨I1.kIn, ?_⟩
  rw [hks]
  have el : zs.length = 0 := F.len _ _ _ _ y
  have el3 : ws.length = 0 := by rw [← r.length]; exact el
  have bt : BindsTo s1 fd ⟨[], ([] : List Str).zip ws⟩ (([] : List Str).zip ws) := hb.to s1 [] ws I1.kIn rfl el3
  have go := F.run X.A X.stack s1 H1 ⟨[], ([] : List Str).zip ws⟩ ws zs Q (E σ) hr I1.env0 bt r y
  refine wpAny_call (codeAny_mono go fun res sE z => ?_)
  match res, z with
  | .error err, z => exact hx σ pins H1 s1 err sE I1 z
  | .ok (.ret u), z => exact I1.after z⟩
end
section
variable {ι : Type} {T : Fm ι} {k : Nat} {P : Program} {w : World} {K : PySem.W.Frag} {mg : Str → Option Value} {base : Heap} {N : List Str} {sc : Scope} {Γ : Gm} {M : Ms} {Φ : PD} {Ψ : PX}
variable {kws : List Keyword} {pos p : Pos} {x : Str} {j : Nat} {ds : DS} {S : Addr → Bool} {q : Addr}
theorem ex_callK0 (hF : Fc T k P w K mg base N sc) (c : CalK0 P w K mg base x j ds) (hk : j ≤ k) (h : KAX T kws Γ M (fun zs M1 => zs.length = 0 ∧ ds zs M1 Φ Ψ) Ψ)
    (hall : ∀ env, (backToKw pos (keywordEach kws env)).all (·.1.isSome) = true := by intro _; rfl) (hks : ∀ env, (backToKw pos (keywordEach kws env)).filterMap (·.1) = [] := by intro _; rfl)
    (hg : sc.names.lookup x = some .globalImplicit := by rfl) (hdb : (x == ("__debug__" : Str)) = false := by decide) (hpl : ∀ env, (backToKw pos (keywordEach kws env)).any (·.1.isNone) = false := by intro _; rfl) (hh : T.hot = false := by assumption) :
    EX T (.Call (.Name x p) [] kws pos) Γ M Φ Ψ := by
  obtain ⟨f, fd, F, hm, kp, hb⟩ := c
  have F' : FnM T.hot P w K mg base j f fd [] (lift K ds) := by rw [hh]; exact F
  rw [← hF.hT] at F' kp hb
  refine EX.mk (t := tCallK0 (lift T.K ds) (WE T.w) (tkOf T kws)) (fun i => ?_) ?_
  · exact pe_callK0 (hF.fno i F') ((hF.hr i).mono hk) (by show (T.X i).env.scope.names.lookup x = _; rw [hF.hs]; exact hg) (by rw [hF.hmg]; exact hm) (by rw [hF.hK]; exact kp) (by rw [hF.hK]; exact hb) (hF.pass i) (pk_tk i) (hall _) (hks _) hdb (hpl _)
  · intro F0 H σ Q ok sl q xx
    exact h F0 H σ _ ok sl (fun F1 H1 M1 xs vs e1 ok1 rs z => ⟨F1, M1, xs, Φ, Ψ, ok1, rs, z.2, q.mono e1, xx.mono e1⟩) xx
end
end G
set_option Elab.async false
set_option linter.all false
set_option maxRecDepth 100000
set_option maxHeartbeats 1000000
/-! GRep: a list times a number. -/
namespace G
open PySem PySem.Spec PyProof.Rows L2
section
variable {ι : Type} {T : Fm ι} {k : Nat} {P : Program} {w : World} {K : PySem.W.Frag} {mg : Str → Option Value} {base : Heap} {N : List Str} {sc : Scope} {Γ : Gm} {M : Ms} {Φ : PD} {Ψ : PX} {a b : Expr} {pos : Pos}
theorem reps_app {K : PySem.W.Frag} {F : Hp} {ds : List D} {vs : List V} (r : Reps K F ds vs) : ∀ n : Nat, Reps K F (List.replicate n ds).flatten (List.replicate n vs).flatten
  | 0 => rfl
  | n + 1 => by
    rw [List.replicate_succ, List.replicate_succ, List.flatten_cons, List.flatten_cons]
    exact r.append (reps_app r n)
def repP (M : Ms) (Φ : PD) (x y : D) : Prop := ∃ (xs : List D) (k : Int), x = .lst xs ∧ y = .int k ∧ (0 ≤ k ∧ k ≤ 1000 ∧ xs.length * k.toNat ≤ sizeLine) ∧ Φ (.lst (List.replicate k.toNat xs).flatten) M
theorem ex_rep (h : EX T a Γ M (fun x M1 => EX T b Γ M1 (fun y M2 => repP M2 Φ x y) Ψ) Ψ) : EX T (.BinOp a .Mult b pos) Γ M Φ Ψ := by
  refine ex_opG (R := repP) (fun i => L2.op_rep) (fun x y M Φ q => ?_) h
  intro F H vx vy Q ok rx ry hk
  obtain ⟨xs, k, rfl, rfl, hk2, q⟩ := q
  obtain ⟨l, us, rfl, hl, rs⟩ := rx
  cases ry
  refine ⟨l, k, us, rfl, rfl, ok.ex _ _ hl, by omega, by omega, by rw [rs.length]; exact hk2.2.2, fun p hp => ?_⟩
  exact hk _ _ M (.lst (List.replicate k.toNat xs).flatten) (.ref p) (same_upd (ok.freshF hp)) (ok.new hp) ⟨p, _, rfl, upd_same, (reps_app rs k.toNat).mono (same_upd (ok.freshF hp))⟩ q
end
end G
set_option Elab.async false
set_option linter.all false
set_option maxRecDepth 100000
/-! GFor: for over things that are known only behind the iterable's own reading. -/
namespace G
open PySem PySem.Spec PyProof.Rows L2
section
variable {ι : Type} {T : Fm ι} {k : Nat} {P : Program} {w : World} {K : PySem.W.Frag} {mg : Str → Option Value} {base : Heap} {N : List Str} {sc : Scope} {Γ : Gm} {M : Ms} {Φ : PD} {Ψ : PX} {D : GEnds} {tg iter : Expr} {pos : Pos}
/-- what a loop over the data xs asks -/
def forE {α : Type} (T : Fm ι) (body : List Stmt) (g : Tg) (D : GEnds) (xs : List α) (enc : α → G.D) (PM : Ms → Prop) (Γ : Gm) (M : Ms) : Prop :=
  ∃ J : List α → Gm → Ms → Prop, (∀ ys Γ M, J ys Γ M → PM M) ∧ J [] Γ M ∧ (∀ ys x zs Γ M, xs = ys ++ x :: zs → J ys Γ M → ∃ Γ', tgD g (enc x) Γ = some Γ' ∧ SSX T body Γ' M { D with nx := J (ys ++ [x]), ct := J (ys ++ [x]), bk := D.nx }) ∧ ∀ Γ M, J xs Γ M → D.nx Γ M
theorem sx_forE (hF : Fd T k P w K mg base N sc) {body : List Stmt} {g : Tg} (hg : TgOk T tg g)
    (h : IX T tg iter Γ M (fun ds PM M1 => ∃ (α : Type) (enc : α → G.D) (xs : List α), ds = xs.map enc ∧ forE T body g D xs enc PM Γ M1) (D.ex Γ))
    (hs : ∀ env x, foldedSetIterable iter env x = pure x := by intro _ _; rfl) (hh : T.hot = false := by assumption) : SX T (.For tg iter body [] pos) Γ M D := by
  refine sx_for hF hg ?_ hs hh
  intro F H σ R ok sl q x
  refine h F H σ R ok sl (fun F1 H1 M1 J1 ds PM1 e1 ok1 it z => ?_) x
  obtain ⟨α, enc, xs, rfl, J, hPM, j0, hb, hq⟩ := z
  refine q F1 H1 M1 J1 _ PM1 e1 ok1 it ⟨fun n => J (xs.take n), by show J (xs.take 0) Γ M1; rw [List.take_zero]; exact j0, fun n Γ M hj => hPM _ _ _ hj, fun n d Γ M hd hj => ?_, fun Γ M hj => ?_⟩
  · rw [List.getElem?_map] at hd
    obtain ⟨x, hx, rfl⟩ := Option.map_eq_some_iff.mp hd
    have e2 : xs.take (n + 1) = xs.take n ++ [x] := by rw [List.take_add_one, hx]; rfl
    have e3 : xs = xs.take n ++ x :: xs.drop (n + 1) := by
      have hlt := (List.getElem?_eq_some_iff.mp hx).1
      have hxe := (List.getElem?_eq_some_iff.mp hx).2
      rw [← hxe, ← List.drop_eq_getElem_cons hlt, List.take_append_drop]
    show ∃ Γ', tgD g (enc x) Γ = some Γ' ∧ SSX T body Γ' M { D with nx := J (xs.take (n + 1)), ct := J (xs.take (n + 1)), bk := D.nx }
    rw [e2]
    exact hb _ x _ Γ M e3 hj
  · have hj : J (xs.take (xs.map enc).length) Γ M := hj
    rw [List.length_map, List.take_length] at hj
    exact hq Γ M hj
end
end G
section
set_option pp.deepTerms false
set_option pp.deepTerms.threshold 5
set_option pp.maxSteps 3000
set_option hygiene false
local macro_rules | `(tactic| get_elem_tactic_extensible) => `(tactic| (repeat' (first | with_reducible exact AtN.z | with_reducible exact AtG.z | with_reducible exact SetS.z | with_reducible exact SetSs.nil | exact WipeS.nil | with_reducible apply AtN.s | with_reducible apply AtG.s | with_reducible apply SetS.s | with_reducible apply SetSs.cons | apply WipeS.cons | exact StartS.nil | apply StartS.arg | apply StartS.var)))
local macro_rules | `(tactic| decreasing_trivial_pre_omega) => `(tactic| first
  | ((with_reducible show SSX _ _ _ _ _); first | ((with_reducible show SSX _ (_ :: _) _ _ _); refine ssx_cons ?_) | ((with_reducible show SSX _ [] _ _ _); refine ssx_nil ?_))
  | ((with_reducible show SX _ _ _ _ _); first
    | ((with_reducible show SX _ (.Return (some _) _) _ _ _); refine sx_ret ?_)
    | ((with_reducible show SX _ (.Return none _) _ _ _); refine sx_retN ?_)
    | ((with_reducible show SX _ (.If _ _ _ _) _ _ _); refine sx_if ?_)
    | ((with_reducible show SX _ (.Assign [.Name _ _] (.ListComp _ _ _ _) _) _ _ _); fail)
    | ((with_reducible show SX _ (.Assign [.Name _ _] _ _) _ _ _); refine sx_setA hD (by get_elem_tactic_extensible) ?_)
    | ((with_reducible show SX _ (.Assign [.Tuple [.Name _ _, .Name _ _] _ _] (.Tuple [_, _] _ _) _) _ _ _); refine sx_par2 hD (by get_elem_tactic_extensible) (by get_elem_tactic_extensible) (by decide) ?_)
    | ((with_reducible show SX _ (.Assign [.Tuple [.Name _ _, .Name _ _, .Name _ _] _ _] (.Tuple [_, _, _] _ _) _) _ _ _); refine sx_par3A hD (by get_elem_tactic_extensible) (by get_elem_tactic_extensible) (by get_elem_tactic_extensible) (by decide) (by decide) (by decide) ?_)
    | ((with_reducible show SX _ (.Assign [.Tuple _ _ _] _ _) _ _ _); refine sx_asg hD (tg_tpA hD (by repeat' (first | exact tn_nil | apply tn_consA hD (by get_elem_tactic_extensible))) (by rfl)) ?_)
    | ((with_reducible show SX _ (.Assign [.Subscript _ _ _] _ _) _ _ _); refine sx_subX hF ?_)
    | ((with_reducible show SX _ (.AugAssign (.Name _ _) .Add _ _) _ _ _); refine sx_augadd hD (by get_elem_tactic_extensible) (by get_elem_tactic_extensible) ?_)
    | ((with_reducible show SX _ (.Expr _ _) _ _ _); refine sx_expr ?_)
    | ((with_reducible show SX _ (.Break _) _ _ _); refine sx_break ?_)
    | ((with_reducible show SX _ (.Continue _) _ _ _); refine sx_continue ?_)
    | ((with_reducible show SX _ (.Pass _) _ _ _); refine sx_pass ?_))
  | ((with_reducible show EX _ _ _ _ _ _); first
    | ((with_reducible show EX _ (.Name _ _) _ _ _ _); refine ax_var (by first | exact hF | exact hF.blk _ | exact (hF.blk _).blk _) (by get_elem_tactic_extensible) (by get_elem_tactic_extensible) ?_)
    | ((with_reducible show EX _ (.Constant (.int _) _ _) _ _ _ _); refine ex_int ?_)
    | ((with_reducible show EX _ (.Constant (.str _) _ _) _ _ _ _); refine ex_str ?_)
    | ((with_reducible show EX _ (.Constant (.bool _) _ _) _ _ _ _); refine ex_bl ?_)
    | ((with_reducible show EX _ (.Constant .none _ _) _ _ _ _); refine ex_non ?_)
    | ((with_reducible show EX _ (.BinOp _ .Add _ _) _ _ _ _); refine ex_add ?_)
    | ((with_reducible show EX _ (.BinOp _ .Sub _ _) _ _ _ _); refine ex_sub ?_)
    | ((with_reducible show EX _ (.BinOp _ .Mult _ _) _ _ _ _); refine ex_mul ?_)
    | ((with_reducible show EX _ (.BinOp _ .Mod _ _) _ _ _ _); refine ex_modX ?_)
    | ((with_reducible show EX _ (.BinOp _ .FloorDiv _ _) _ _ _ _); refine ex_fdiv ?_)
    | ((with_reducible show EX _ (.BinOp _ .Pow _ _) _ _ _ _); refine ex_pow ?_)
    | ((with_reducible show EX _ (.UnaryOp .USub _ _) _ _ _ _); refine ex_neg ?_)
    | ((with_reducible show EX _ (.UnaryOp .Not _ _) _ _ _ _); refine ex_not ?_)
    | ((with_reducible show EX _ (.Tuple _ _ _) _ _ _ _); refine ex_tup ?_)
    | ((with_reducible show EX _ (.List (_ :: _) _) _ _ _ _); refine ex_lst ?_)
    | ((with_reducible show EX _ (.IfExp _ _ _ _) _ _ _ _); refine ex_if ?_)
    | ((with_reducible show EX _ (.Compare _ [.Eq] [_] _) _ _ _ _); refine ex_eq (by first | exact hF | exact hF.blk _ | exact (hF.blk _).blk _) ?_)
    | ((with_reducible show EX _ (.Compare _ [.NotEq] [_] _) _ _ _ _); refine ex_ne (by first | exact hF | exact hF.blk _ | exact (hF.blk _).blk _) ?_)
    | ((with_reducible show EX _ (.Compare _ [.Lt] [_] _) _ _ _ _); refine ex_lt ?_)
    | ((with_reducible show EX _ (.Compare _ [.LtE] [_] _) _ _ _ _); refine ex_le ?_)
    | ((with_reducible show EX _ (.Compare _ [.Gt] [_] _) _ _ _ _); refine ex_gt ?_)
    | ((with_reducible show EX _ (.Compare _ [.GtE] [_] _) _ _ _ _); refine ex_ge ?_)
    | ((with_reducible show EX _ (.Compare _ [.Is] [.Constant .none _ _] _) _ _ _ _); refine ex_isN ?_)
    | ((with_reducible show EX _ (.Compare _ [.IsNot] [.Constant .none _ _] _) _ _ _ _); refine ex_notN ?_)
    | ((with_reducible show EX _ (.BoolOp _ [_] _) _ _ _ _); refine ex_one ?_)
    | ((with_reducible show EX _ (.BoolOp .And _ _) _ _ _ _); refine ex_and ?_)
    | ((with_reducible show EX _ (.BoolOp .Or _ _) _ _ _ _); refine ex_or ?_)
    | ((with_reducible show EX _ (.Subscript _ (.Slice _ _ _ _) _) _ _ _ _); fail)
    | ((with_reducible show EX _ (.Subscript _ _ _) _ _ _ _); refine ex_ixX (by first | exact hF | exact hF.blk _ | exact (hF.blk _).blk _) ?_)
    | ((with_reducible show EX _ (.Call (.Name "len" _) [_] [] _) _ _ _ _); refine ex_len (by first | exact hF | exact hF.blk _ | exact (hF.blk _).blk _) gB.len ?_)
    | ((with_reducible show EX _ (.Call (.Name "int" _) [_] [] _) _ _ _ _); refine ex_int1 (by first | exact hF | exact hF.blk _ | exact (hF.blk _).blk _) gB.int ?_)
    | ((with_reducible show EX _ (.Call (.Name "abs" _) [_] [] _) _ _ _ _); refine ex_abs (by first | exact hF | exact hF.blk _ | exact (hF.blk _).blk _) gB.abs ?_)
    | ((with_reducible show EX _ (.Call (.Name "list" _) [_] [] _) _ _ _ _); refine ex_list1 (by first | exact hF | exact hF.blk _ | exact (hF.blk _).blk _) gB.list ?_)
    | ((with_reducible show EX _ (.Call (.Name "tuple" _) [_] [] _) _ _ _ _); refine ex_tuple1 (by first | exact hF | exact hF.blk _ | exact (hF.blk _).blk _) gB.tuple ?_)
    | ((with_reducible show EX _ (.Call (.Name "sum" _) [_] [] _) _ _ _ _); refine ex_sum (by first | exact hF | exact hF.blk _ | exact (hF.blk _).blk _) gB.sum ?_)
    | ((with_reducible show EX _ (.Call (.Name "max" _) [_] [] _) _ _ _ _); refine ex_max (by first | exact hF | exact hF.blk _ | exact (hF.blk _).blk _) gB.max ?_)
    | ((with_reducible show EX _ (.Call (.Name "all" _) [_] [] _) _ _ _ _); refine ex_all (by first | exact hF | exact hF.blk _ | exact (hF.blk _).blk _) gB.all ?_)
    | ((with_reducible show EX _ (.Call (.Name "bool" _) [_] [] _) _ _ _ _); refine ex_bool1 (by first | exact hF | exact hF.blk _ | exact (hF.blk _).blk _) gB.bool ?_)
    | ((with_reducible show EX _ (.Call (.Name "max" _) [_, _] [] _) _ _ _ _); refine ex_max2 (by first | exact hF | exact hF.blk _ | exact (hF.blk _).blk _) gB.max ?_)
    | ((with_reducible show EX _ (.Call (.Name "gcd" _) [_, _] [] _) _ _ _ _); refine ex_gcd (by first | exact hF | exact hF.blk _ | exact (hF.blk _).blk _) gGcd ?_)
    | ((with_reducible show EX _ (.Call (.Name "isqrt" _) [_] [] _) _ _ _ _); refine ex_isqrt (by first | exact hF | exact hF.blk _ | exact (hF.blk _).blk _) gIsqrt ?_)
    | ((with_reducible show EX _ (.Call (.Name "sorted" _) [_] [_] _) _ _ _ _); refine ex_sortR (by first | exact hF | exact hF.blk _ | exact (hF.blk _).blk _) gB.sorted ?_)
    | ((with_reducible show EX _ (.Call (.Name "isinstance" _) [_, .Name "list" _] [] _) _ _ _ _); refine ex_isi (by first | exact hF | exact hF.blk _ | exact (hF.blk _).blk _) .lst gB.isinstance gB.list ?_)
    | ((with_reducible show EX _ (.Call (.Name "isinstance" _) [_, .Name "tuple" _] [] _) _ _ _ _); refine ex_isi (by first | exact hF | exact hF.blk _ | exact (hF.blk _).blk _) .tup gB.isinstance gB.tuple ?_)
    | ((with_reducible show EX _ (.Call (.Name "isinstance" _) [_, .Name "int" _] [] _) _ _ _ _); refine ex_isi (by first | exact hF | exact hF.blk _ | exact (hF.blk _).blk _) .int gB.isinstance gB.int ?_)
    | ((with_reducible show EX _ (.Call (.Name "isinstance" _) [_, .Name "bool" _] [] _) _ _ _ _); refine ex_isi (by first | exact hF | exact hF.blk _ | exact (hF.blk _).blk _) .bl gB.isinstance gB.bool ?_)
    | ((with_reducible show EX _ (.Call (.Name "isinstance" _) [_, .Name "str" _] [] _) _ _ _ _); refine ex_isi (by first | exact hF | exact hF.blk _ | exact (hF.blk _).blk _) .str gB.isinstance gB.str ?_)
    | ((with_reducible show EX _ (.Call (.Name "isinstance" _) [_, .Name "dict" _] [] _) _ _ _ _); refine ex_isi (by first | exact hF | exact hF.blk _ | exact (hF.blk _).blk _) .dic gB.isinstance gB.dict ?_)
    | ((with_reducible show EX _ (.Call (.Name "isinstance" _) [_, .Tuple [.Name "list" _, .Name "tuple" _] _ _] [] _) _ _ _ _); refine ex_isi2 (by first | exact hF | exact hF.blk _ | exact (hF.blk _).blk _) .lst .tup gB.isinstance gB.list gB.tuple ?_)
    | ((with_reducible show EX _ (.Call (.Name "isinstance" _) [_, .Tuple [.Name "list" _, .Name "tuple" _, .Name "dict" _] _ _] [] _) _ _ _ _); refine ex_isi3 (by first | exact hF | exact hF.blk _ | exact (hF.blk _).blk _) .lst .tup .dic gB.isinstance gB.list gB.tuple gB.dict ?_)
    | ((with_reducible show EX _ (.Call (.Attribute _ "append" _) [_] [] _) _ _ _ _); refine ex_append (by first | exact hF | exact hF.blk _ | exact (hF.blk _).blk _) ?_)
    | ((with_reducible show EX _ (.Call (.Name _ _) (_ :: _) [] _) _ _ _ _); refine ex_callF (by first | exact hF | exact hF.blk _ | exact (hF.blk _).blk _) (by with_reducible assumption) (by omega) ?_))
  | ((with_reducible show AX _ _ _ _ _ _); first | ((with_reducible show AX _ (_ :: _) _ _ _ _); refine ax_cons ?_) | ((with_reducible show AX _ [] _ _ _ _); refine ax_nil ?_))
  | ((with_reducible show TX _ _ _ _ _ _); first
    | ((with_reducible show TX _ (.Compare _ [.Eq] [_] _) _ _ _ _); refine tx_eq (by first | exact hF | exact hF.blk _ | exact (hF.blk _).blk _) ?_)
    | ((with_reducible show TX _ (.Compare _ [.NotEq] [_] _) _ _ _ _); refine tx_ne (by first | exact hF | exact hF.blk _ | exact (hF.blk _).blk _) ?_)
    | ((with_reducible show TX _ (.Compare _ [.Lt] [_] _) _ _ _ _); refine tx_lt ?_)
    | ((with_reducible show TX _ (.Compare _ [.LtE] [_] _) _ _ _ _); refine tx_le ?_)
    | ((with_reducible show TX _ (.Compare _ [.Gt] [_] _) _ _ _ _); refine tx_gt ?_)
    | ((with_reducible show TX _ (.Compare _ [.GtE] [_] _) _ _ _ _); refine tx_ge ?_)
    | ((with_reducible show TX _ (.Compare _ [.Is] [.Constant .none _ _] _) _ _ _ _); refine tx_isN ?_)
    | ((with_reducible show TX _ (.Compare _ [.IsNot] [.Constant .none _ _] _) _ _ _ _); refine tx_notN ?_)
    | ((with_reducible show TX _ (.UnaryOp .Not _ _) _ _ _ _); refine tx_not ?_)
    | ((with_reducible show TX _ (.BoolOp .And _ _) _ _ _ _); refine WWX.tx (wx_and ?_))
    | ((with_reducible show TX _ (.BoolOp .Or _ _) _ _ _ _); refine WWX.tx (wx_or ?_))
    | ((with_reducible show TX _ (.Compare _ _ _ _) _ _ _ _); fail)
    | ((with_reducible show TX _ (.Call (.Name "isinstance" _) _ _ _) _ _ _ _); refine tx_bl ?_)
    | ((with_reducible show TX _ (_) _ _ _ _); refine tx_tru (by first | exact hF | exact hF.blk _ | exact (hF.blk _).blk _) (fun _ _ => rfl) ?_))
  | ((with_reducible show WWX _ _ _ _ _ _); first | ((with_reducible show WWX _ (.BoolOp .And [_] _) _ _ _ _); refine wx_and1 ?_) | ((with_reducible show WWX _ (.BoolOp .Or [_] _) _ _ _ _); refine wx_or1 ?_) | ((with_reducible show WWX _ (.BoolOp .And _ _) _ _ _ _); refine wx_and ?_) | ((with_reducible show WWX _ (.BoolOp .Or _ _) _ _ _ _); refine wx_or ?_))
  | with_reducible refine addP_ii ?_
  | with_reducible refine subP_ii ?_
  | with_reducible refine mulP_ii (by first | assumption | exact cm_l (by omega) (by omega) | exact cm_r (by omega) (by omega)) ?_
  | with_reducible refine modX_p (by first | assumption | decide | omega) ?_
  | with_reducible refine fdivP_ii (by first | assumption | exact cd_i (by omega) (by omega)) ?_
  | with_reducible refine powP_ii (by unfold CPow; decide) ?_
  | with_reducible refine negP_i ?_
  | with_reducible refine eqP_ii ?_
  | with_reducible refine eqP_ss ?_
  | with_reducible refine eqP_bb ?_
  | with_reducible refine neP_ii ?_
  | with_reducible refine neP_ss ?_
  | with_reducible refine neP_bb ?_
  | with_reducible refine ltP_ii ?_
  | with_reducible refine intP_i ?_
  | with_reducible refine intP_b ?_
  | with_reducible refine absP_i ?_
  | with_reducible refine boolP_b ?_
  | with_reducible refine lenP_t ?_
  | with_reducible refine lenP_l ?_
  | with_reducible refine lenP_rl ?_
  | with_reducible refine augP_ii ?_
  | with_reducible refine listP_l ?_
  | with_reducible refine listP_t ?_
  | with_reducible refine tupP_l ?_
  | with_reducible refine tupP_t ?_
  | with_reducible refine tru_i ?_
  | with_reducible refine tru_b ?_
  | ((with_reducible show lenP _ _ [.ref _]); refine lenP_r (by first | exact um_same | assumption) ?_)
  | ((with_reducible show ixX _ _ (.tup _) (.int _)); refine ixX_t (by rfl) ?_)
  | ((with_reducible show ixX _ _ (.lst _) (.int _)); refine ixX_l (by rfl) ?_)
  | ((with_reducible show ixX _ _ (.ref _) (.int _)); refine ixX_r (by first | exact um_same | assumption) (by rfl) ?_)
  | ((with_reducible show setX _ _ (.ref _) (.int _) _); refine setX_r (by first | exact um_same | assumption) (by rfl) ?_)
  | ((with_reducible show appP _ _ (.ref _) _); refine appP_r (by first | exact um_same | assumption) ?_ ?_)
  | ((with_reducible show isL _ (.ref _) ∧ _); refine isL_r (by first | exact um_same | assumption) ?_)
  | ((with_reducible apply ds1); get_elem_tactic_extensible)
  | ((with_reducible apply ds2); get_elem_tactic_extensible)
  | ((with_reducible apply ds3); get_elem_tactic_extensible)
  | ((with_reducible apply tgd_nm); get_elem_tactic_extensible)
  | ((with_reducible apply tgd_tp); get_elem_tactic_extensible)
  | ((with_reducible apply ty_is); first | exact rfl | assumption)
  | ((with_reducible show (isNoneD _ = true → _) ∧ _); first | refine bx_T (by rfl) ?_ | refine bx_F (by rfl) ?_)
  | ((with_reducible show ((!isNoneD _) = true → _) ∧ _); first | refine bx_T (by rfl) ?_ | refine bx_F (by rfl) ?_)
  | with_reducible refine br_T (by decide) ?_
  | with_reducible refine br_F (by decide) ?_
  | with_reducible refine bn_T (by decide) ?_
  | with_reducible refine bn_F (by decide) ?_
  | with_reducible refine bw_T ?_
  | with_reducible refine bw_F ?_
  | with_reducible refine bx_T (by decide) ?_
  | with_reducible refine bx_F (by decide) ?_
  | ((with_reducible show _ ≤ sizeLine ∧ _); refine ax_tup (by exact Nat.le_of_ble_eq_true (by rfl)) ?_)
  | fail)
set_option Elab.async false
set_option linter.all false
set_option maxRecDepth 100000
set_option maxHeartbeats 4000000
/-! K7A: the law's arithmetic. -/
namespace K7
open PySem PySem.Spec PyProof.Rows L2 G
section
variable {T : Fm Unit} (hh : T.hot = false) {k : Nat} {P : Program} {w : World} {K : PySem.W.Frag} {mg : Str → Option Value} {base : Heap} {args : List D} {M : Ms} {Φ : PD} {Ψ : PX}
def mulQ (p q : Q4) : Q4 := ⟨p.a * q.a - p.b * q.b - p.c * q.c - p.d * q.d, p.a * q.b + p.b * q.a + p.c * q.d - p.d * q.c, p.a * q.c - p.b * q.d + p.c * q.a + p.d * q.b, p.a * q.d + p.b * q.c - p.c * q.b + p.d * q.a⟩
def bakQ (p : Q4) : Q4 := ⟨p.a, -p.b, -p.c, -p.d⟩
def nrmQ (p : Q4) : Int := p.a * p.a + p.b * p.b + p.c * p.c + p.d * p.d
def gcdN (a b : Int) : Int := (Nat.gcd a.natAbs b.natAbs : Nat)
def conQ (p : Q4) : Int := gcdN (gcdN (gcdN (gcdN 0 p.a) p.b) p.c) p.d
def negQ (p : Q4) : Q4 := ⟨-p.a, -p.b, -p.c, -p.d⟩
def fourQ (p : Q4) : List Q4 := [p, ⟨-p.b, p.a, p.d, -p.c⟩, ⟨-p.c, -p.d, p.a, p.b⟩, ⟨-p.d, p.c, -p.b, p.a⟩]
def maxQ : List Q4 → Q4
  | [] => ⟨0, 0, 0, 0⟩
  | x :: xs => PySem.W.maxOf x xs
/-- the law's own greatest of the eight -/
def grtL (p : Q4) : Q4 := maxQ (fourQ p ++ (fourQ p).map negQ)
/-- small numbers -/
structure SmQ (p : Q4) : Prop where
  a1 : -18446744073709551616 < p.a
  a2 : p.a < 18446744073709551616
  b1 : -18446744073709551616 < p.b
  b2 : p.b < 18446744073709551616
  c1 : -18446744073709551616 < p.c
  c2 : p.c < 18446744073709551616
  d1 : -18446744073709551616 < p.d
  d2 : p.d < 18446744073709551616
def ds__law_times : DS := fun args M Φ _ => ∃ p q : Q4, args = [qD p, qD q] ∧ SmQ p ∧ Φ (qD (mulQ p q)) M
include hh in
theorem b__law_times (hD : Fd T k P w K mg base n__law_times (defScope s__law_times)) (h : ds__law_times args M Φ Ψ) : Bod T s__law_times n__law_times args M Φ Ψ := by
  obtain ⟨p, q, rfl, ⟨h1, h2, h3, h4, h5, h6, h7, h8⟩, hq⟩ := h
  have hF := hD.fc
  refine bod_start (by get_elem_tactic_extensible) ?_; refine ssx_cons ?_
  repeat' decreasing_trivial_pre_omega
  exact hq
def ds__law_back : DS := fun args M Φ _ => ∃ p : Q4, args = [qD p] ∧ Φ (qD (bakQ p)) M
include hh in
theorem b__law_back (hD : Fd T k P w K mg base n__law_back (defScope s__law_back)) (h : ds__law_back args M Φ Ψ) : Bod T s__law_back n__law_back args M Φ Ψ := by
  obtain ⟨p, rfl, hq⟩ := h
  have hF := hD.fc
  refine bod_start (by get_elem_tactic_extensible) ?_; refine ssx_cons ?_
  repeat' decreasing_trivial_pre_omega
  have e : (⟨p.a, 0 - p.b, 0 - p.c, 0 - p.d⟩ : Q4) = bakQ p := by unfold bakQ; simp
  rw [← e] at hq
  exact hq
def ds__law_gcd : DS := fun args M Φ _ => ∃ a b : Int, args = [.int a, .int b] ∧ Φ (.int (gcdN a b)) M
theorem gcdN_step (a b : Int) (hb : b ≠ 0) : gcdN b (a.fmod b) = gcdN a b := by
  unfold gcdN
  have e : a.fmod b = a - b * a.fdiv b := by have := Int.fmod_add_fdiv_mul a b; have h2 := Int.mul_comm b (a.fdiv b); omega
  have h1 : Int.gcd b (a - b * a.fdiv b) = Int.gcd b a := by
    rw [Int.sub_eq_add_neg, ← Int.mul_neg, Int.gcd_add_mul_left_right]
  show ((Int.gcd b (a.fmod b) : Nat) : Int) = (Int.gcd a b : Nat)
  rw [e, h1, Int.gcd_comm]
theorem fmod_lt (a b : Int) (hb : b ≠ 0) : (a.fmod b).natAbs < b.natAbs := by
  rcases Int.lt_or_lt_of_ne hb with h | h
  · have h0 : a.fmod b = -((-a).fmod (-b)) := by rw [Int.neg_fmod_neg, Int.neg_neg]
    have h1 := Int.fmod_nonneg_of_pos (-a) (show (0 : Int) < -b by omega)
    have h2 := Int.fmod_lt_of_pos (-a) (show (0 : Int) < -b by omega)
    omega
  · have h1 := Int.fmod_nonneg_of_pos a h
    have h2 := Int.fmod_lt_of_pos a h
    omega
include hh in
theorem b__law_gcd (gB : Bi mg) (hD : Fd T k P w K mg base n__law_gcd (defScope s__law_gcd)) (h : ds__law_gcd args M Φ Ψ) : Bod T s__law_gcd n__law_gcd args M Φ Ψ := by
  obtain ⟨a, b, rfl, hq⟩ := h
  have hF := hD.fc
  refine bod_start (by get_elem_tactic_extensible) ?_; refine ssx_cons ?_
  refine sx_whileA hD (fun m Γ M' => ∃ x y : Int, gcdN x y = gcdN a b ∧ m = y.natAbs ∧ Γ = [some (.int x), some (.int y)] ∧ M' = M) b.natAbs ⟨a, b, rfl, rfl, rfl, rfl⟩ ?_
  rintro m Γ M' ⟨x, y, hxy, rfl, rfl, rfl⟩
  repeat' decreasing_trivial_pre_omega
  · refine br_nd (fun hc => ?_) (fun hc => ?_)
    · repeat' decreasing_trivial_pre_omega
      refine modX_n hc ?_
      repeat' decreasing_trivial_pre_omega
      exact ⟨_, fmod_lt x y hc, y, x.fmod y, by rw [gcdN_step x y hc, hxy], rfl, rfl, rfl⟩
    · repeat' decreasing_trivial_pre_omega
      have e : gcdN x y = (x.natAbs : Int) := by rw [hc]; unfold gcdN; simp
      rw [← hxy, e] at hq
      exact hq
def ds__law_common : DS := fun args M Φ _ => ∃ p : Q4, args = [qD p] ∧ Φ (.int (conQ p)) M
include hh in
theorem b__law_common (c1 : Cal false P w K mg base "_law_gcd" k ["one", "two"] ds__law_gcd) (hD : Fd T k P w K mg base n__law_common (defScope s__law_common)) (h : ds__law_common args M Φ Ψ) : Bod T s__law_common n__law_common args M Φ Ψ := by
  obtain ⟨p, rfl, hq⟩ := h
  have hF := hD.fc
  refine bod_start (by get_elem_tactic_extensible) ?_; refine ssx_cons ?_
  repeat' decreasing_trivial_pre_omega
  refine sx_forA hD [p.a, p.b, p.c, p.d] D.int (fun ys Γ M' => M' = M ∧ ∃ o, Γ = [some (qD p), some (.int (ys.foldl gcdN 0)), o]) (fun _ => True) (tg_nmA hD (by get_elem_tactic_extensible)) (ix_seqD hF ?_) (fun _ _ _ _ => trivial) ?_ ?_
  · repeat' decreasing_trivial_pre_omega
    exact ⟨_, rfl, rfl, fun _ _ => trivial, rfl, _, rfl⟩
  · rintro ys x zs Γ M' _ ⟨rfl, o, rfl⟩
    repeat' decreasing_trivial_pre_omega
    refine ⟨_, _, rfl, ?_⟩
    repeat' decreasing_trivial_pre_omega
    exact ⟨rfl, _, by rw [List.foldl_append]; rfl⟩
  · rintro Γ M' ⟨rfl, o, rfl⟩
    repeat' decreasing_trivial_pre_omega
    exact hq
def ds__law_size : DS := fun args M Φ _ => ∃ p : Q4, args = [qD p] ∧ SmQ p ∧ Φ (.int (nrmQ p)) M
include hh in
theorem b__law_size (gB : Bi mg) (hD : Fd T k P w K mg base n__law_size (defScope s__law_size)) (h : ds__law_size args M Φ Ψ) : Bod T s__law_size n__law_size args M Φ Ψ := by
  obtain ⟨p, rfl, ⟨h1, h2, h3, h4, h5, h6, h7, h8⟩, hq⟩ := h
  have hF := hD.fc
  refine bod_start (by get_elem_tactic_extensible) ?_; refine ssx_cons ?_
  repeat' decreasing_trivial_pre_omega
  refine ex_lc hF [("one", 1)] (tb_nmA hF (by get_elem_tactic_extensible)) .none (ix_seqD hF ?_) (by decide +kernel) (by decide)
  repeat' decreasing_trivial_pre_omega
  refine ⟨_, rfl, lc_mapA (xs := [p.a, p.b, p.c, p.d]) D.int (fun x => .int (x * x)) (by simp) (by get_elem_tactic_extensible) (fun x hx M' _ => ?_) ?_⟩
  · repeat' decreasing_trivial_pre_omega
    · refine mulP_ii ?_ ?_
      · simp only [List.mem_cons, List.not_mem_nil, or_false] at hx
        exact cm_l (by rcases hx with rfl | rfl | rfl | rfl <;> assumption) (by rcases hx with rfl | rfl | rfl | rfl <;> assumption)
      · exact ⟨rfl, rfl⟩
  · repeat' decreasing_trivial_pre_omega
    refine sumP_l (ns := [p.a * p.a, p.b * p.b, p.c * p.c, p.d * p.d]) ?_
    have e : [p.a * p.a, p.b * p.b, p.c * p.c, p.d * p.d].sum = nrmQ p := by unfold nrmQ; simp only [List.sum_cons, List.sum_nil]; omega
    rw [e]
    exact hq
end
end K7
end
section
set_option pp.deepTerms false
set_option pp.deepTerms.threshold 5
set_option pp.maxSteps 3000
set_option hygiene false
local macro_rules | `(tactic| get_elem_tactic_extensible) => `(tactic| (repeat' (first | with_reducible exact AtN.z | with_reducible exact AtG.z | with_reducible exact SetS.z | with_reducible exact SetSs.nil | exact WipeS.nil | with_reducible apply AtN.s | with_reducible apply AtG.s | with_reducible apply SetS.s | with_reducible apply SetSs.cons | apply WipeS.cons | exact StartS.nil | apply StartS.arg | apply StartS.var)))
local macro_rules | `(tactic| decreasing_trivial_pre_omega) => `(tactic| first
  | ((with_reducible show SSX _ _ _ _ _); first | ((with_reducible show SSX _ (_ :: _) _ _ _); refine ssx_cons ?_) | ((with_reducible show SSX _ [] _ _ _); refine ssx_nil ?_))
  | ((with_reducible show SX _ _ _ _ _); first
    | ((with_reducible show SX _ (.Return (some _) _) _ _ _); refine sx_ret ?_)
    | ((with_reducible show SX _ (.Return none _) _ _ _); refine sx_retN ?_)
    | ((with_reducible show SX _ (.If _ _ _ _) _ _ _); refine sx_if ?_)
    | ((with_reducible show SX _ (.Assign [.Name _ _] (.ListComp _ _ _ _) _) _ _ _); fail)
    | ((with_reducible show SX _ (.Assign [.Name _ _] _ _) _ _ _); refine sx_setA hD (by get_elem_tactic_extensible) ?_)
    | ((with_reducible show SX _ (.Assign [.Tuple [.Name _ _, .Name _ _] _ _] (.Tuple [_, _] _ _) _) _ _ _); refine sx_par2 hD (by get_elem_tactic_extensible) (by get_elem_tactic_extensible) (by decide) ?_)
    | ((with_reducible show SX _ (.Assign [.Tuple [.Name _ _, .Name _ _, .Name _ _] _ _] (.Tuple [_, _, _] _ _) _) _ _ _); refine sx_par3A hD (by get_elem_tactic_extensible) (by get_elem_tactic_extensible) (by get_elem_tactic_extensible) (by decide) (by decide) (by decide) ?_)
    | ((with_reducible show SX _ (.Assign [.Tuple _ _ _] _ _) _ _ _); refine sx_asg hD (tg_tpA hD (by repeat' (first | exact tn_nil | apply tn_consA hD (by get_elem_tactic_extensible))) (by rfl)) ?_)
    | ((with_reducible show SX _ (.Assign [.Subscript _ _ _] _ _) _ _ _); refine sx_subX hF ?_)
    | ((with_reducible show SX _ (.AugAssign (.Name _ _) .Add _ _) _ _ _); refine sx_augadd hD (by get_elem_tactic_extensible) (by get_elem_tactic_extensible) ?_)
    | ((with_reducible show SX _ (.Expr _ _) _ _ _); refine sx_expr ?_)
    | ((with_reducible show SX _ (.Break _) _ _ _); refine sx_break ?_)
    | ((with_reducible show SX _ (.Continue _) _ _ _); refine sx_continue ?_)
    | ((with_reducible show SX _ (.Pass _) _ _ _); refine sx_pass ?_))
  | ((with_reducible show EX _ _ _ _ _ _); first
    | ((with_reducible show EX _ (.Name _ _) _ _ _ _); refine ax_var (by first | exact hF | exact hF.blk _ | exact (hF.blk _).blk _) (by get_elem_tactic_extensible) (by get_elem_tactic_extensible) ?_)
    | ((with_reducible show EX _ (.Constant (.int _) _ _) _ _ _ _); refine ex_int ?_)
    | ((with_reducible show EX _ (.Constant (.str _) _ _) _ _ _ _); refine ex_str ?_)
    | ((with_reducible show EX _ (.Constant (.bool _) _ _) _ _ _ _); refine ex_bl ?_)
    | ((with_reducible show EX _ (.Constant .none _ _) _ _ _ _); refine ex_non ?_)
    | ((with_reducible show EX _ (.BinOp _ .Add _ _) _ _ _ _); refine ex_add ?_)
    | ((with_reducible show EX _ (.BinOp _ .Sub _ _) _ _ _ _); refine ex_sub ?_)
    | ((with_reducible show EX _ (.BinOp _ .Mult _ _) _ _ _ _); refine ex_mul ?_)
    | ((with_reducible show EX _ (.BinOp _ .Mod _ _) _ _ _ _); refine ex_modX ?_)
    | ((with_reducible show EX _ (.BinOp _ .FloorDiv _ _) _ _ _ _); refine ex_fdiv ?_)
    | ((with_reducible show EX _ (.BinOp _ .Pow _ _) _ _ _ _); refine ex_pow ?_)
    | ((with_reducible show EX _ (.UnaryOp .USub _ _) _ _ _ _); refine ex_neg ?_)
    | ((with_reducible show EX _ (.UnaryOp .Not _ _) _ _ _ _); refine ex_not ?_)
    | ((with_reducible show EX _ (.Tuple _ _ _) _ _ _ _); refine ex_tup ?_)
    | ((with_reducible show EX _ (.List (_ :: _) _) _ _ _ _); refine ex_lst ?_)
    | ((with_reducible show EX _ (.IfExp _ _ _ _) _ _ _ _); refine ex_if ?_)
    | ((with_reducible show EX _ (.Compare _ [.Eq] [_] _) _ _ _ _); refine ex_eq (by first | exact hF | exact hF.blk _ | exact (hF.blk _).blk _) ?_)
    | ((with_reducible show EX _ (.Compare _ [.NotEq] [_] _) _ _ _ _); refine ex_ne (by first | exact hF | exact hF.blk _ | exact (hF.blk _).blk _) ?_)
    | ((with_reducible show EX _ (.Compare _ [.Lt] [_] _) _ _ _ _); refine ex_lt ?_)
    | ((with_reducible show EX _ (.Compare _ [.LtE] [_] _) _ _ _ _); refine ex_le ?_)
    | ((with_reducible show EX _ (.Compare _ [.Gt] [_] _) _ _ _ _); refine ex_gt ?_)
    | ((with_reducible show EX _ (.Compare _ [.GtE] [_] _) _ _ _ _); refine ex_ge ?_)
    | ((with_reducible show EX _ (.Compare _ [.Is] [.Constant .none _ _] _) _ _ _ _); refine ex_isN ?_)
    | ((with_reducible show EX _ (.Compare _ [.IsNot] [.Constant .none _ _] _) _ _ _ _); refine ex_notN ?_)
    | ((with_reducible show EX _ (.BoolOp _ [_] _) _ _ _ _); refine ex_one ?_)
    | ((with_reducible show EX _ (.BoolOp .And _ _) _ _ _ _); refine ex_and ?_)
    | ((with_reducible show EX _ (.BoolOp .Or _ _) _ _ _ _); refine ex_or ?_)
    | ((with_reducible show EX _ (.Subscript _ (.Slice _ _ _ _) _) _ _ _ _); fail)
    | ((with_reducible show EX _ (.Subscript _ _ _) _ _ _ _); refine ex_ixX (by first | exact hF | exact hF.blk _ | exact (hF.blk _).blk _) ?_)
    | ((with_reducible show EX _ (.Call (.Name "len" _) [_] [] _) _ _ _ _); refine ex_len (by first | exact hF | exact hF.blk _ | exact (hF.blk _).blk _) gB.len ?_)
    | ((with_reducible show EX _ (.Call (.Name "int" _) [_] [] _) _ _ _ _); refine ex_int1 (by first | exact hF | exact hF.blk _ | exact (hF.blk _).blk _) gB.int ?_)
    | ((with_reducible show EX _ (.Call (.Name "abs" _) [_] [] _) _ _ _ _); refine ex_abs (by first | exact hF | exact hF.blk _ | exact (hF.blk _).blk _) gB.abs ?_)
    | ((with_reducible show EX _ (.Call (.Name "list" _) [_] [] _) _ _ _ _); refine ex_list1 (by first | exact hF | exact hF.blk _ | exact (hF.blk _).blk _) gB.list ?_)
    | ((with_reducible show EX _ (.Call (.Name "tuple" _) [_] [] _) _ _ _ _); refine ex_tuple1 (by first | exact hF | exact hF.blk _ | exact (hF.blk _).blk _) gB.tuple ?_)
    | ((with_reducible show EX _ (.Call (.Name "sum" _) [_] [] _) _ _ _ _); refine ex_sum (by first | exact hF | exact hF.blk _ | exact (hF.blk _).blk _) gB.sum ?_)
    | ((with_reducible show EX _ (.Call (.Name "max" _) [_] [] _) _ _ _ _); refine ex_max (by first | exact hF | exact hF.blk _ | exact (hF.blk _).blk _) gB.max ?_)
    | ((with_reducible show EX _ (.Call (.Name "all" _) [_] [] _) _ _ _ _); refine ex_all (by first | exact hF | exact hF.blk _ | exact (hF.blk _).blk _) gB.all ?_)
    | ((with_reducible show EX _ (.Call (.Name "bool" _) [_] [] _) _ _ _ _); refine ex_bool1 (by first | exact hF | exact hF.blk _ | exact (hF.blk _).blk _) gB.bool ?_)
    | ((with_reducible show EX _ (.Call (.Name "max" _) [_, _] [] _) _ _ _ _); refine ex_max2 (by first | exact hF | exact hF.blk _ | exact (hF.blk _).blk _) gB.max ?_)
    | ((with_reducible show EX _ (.Call (.Name "gcd" _) [_, _] [] _) _ _ _ _); refine ex_gcd (by first | exact hF | exact hF.blk _ | exact (hF.blk _).blk _) gGcd ?_)
    | ((with_reducible show EX _ (.Call (.Name "isqrt" _) [_] [] _) _ _ _ _); refine ex_isqrt (by first | exact hF | exact hF.blk _ | exact (hF.blk _).blk _) gIsqrt ?_)
    | ((with_reducible show EX _ (.Call (.Name "sorted" _) [_] [_] _) _ _ _ _); refine ex_sortR (by first | exact hF | exact hF.blk _ | exact (hF.blk _).blk _) gB.sorted ?_)
    | ((with_reducible show EX _ (.Call (.Name "isinstance" _) [_, .Name "list" _] [] _) _ _ _ _); refine ex_isi (by first | exact hF | exact hF.blk _ | exact (hF.blk _).blk _) .lst gB.isinstance gB.list ?_)
    | ((with_reducible show EX _ (.Call (.Name "isinstance" _) [_, .Name "tuple" _] [] _) _ _ _ _); refine ex_isi (by first | exact hF | exact hF.blk _ | exact (hF.blk _).blk _) .tup gB.isinstance gB.tuple ?_)
    | ((with_reducible show EX _ (.Call (.Name "isinstance" _) [_, .Name "int" _] [] _) _ _ _ _); refine ex_isi (by first | exact hF | exact hF.blk _ | exact (hF.blk _).blk _) .int gB.isinstance gB.int ?_)
    | ((with_reducible show EX _ (.Call (.Name "isinstance" _) [_, .Name "bool" _] [] _) _ _ _ _); refine ex_isi (by first | exact hF | exact hF.blk _ | exact (hF.blk _).blk _) .bl gB.isinstance gB.bool ?_)
    | ((with_reducible show EX _ (.Call (.Name "isinstance" _) [_, .Name "str" _] [] _) _ _ _ _); refine ex_isi (by first | exact hF | exact hF.blk _ | exact (hF.blk _).blk _) .str gB.isinstance gB.str ?_)
    | ((with_reducible show EX _ (.Call (.Name "isinstance" _) [_, .Name "dict" _] [] _) _ _ _ _); refine ex_isi (by first | exact hF | exact hF.blk _ | exact (hF.blk _).blk _) .dic gB.isinstance gB.dict ?_)
    | ((with_reducible show EX _ (.Call (.Name "isinstance" _) [_, .Tuple [.Name "list" _, .Name "tuple" _] _ _] [] _) _ _ _ _); refine ex_isi2 (by first | exact hF | exact hF.blk _ | exact (hF.blk _).blk _) .lst .tup gB.isinstance gB.list gB.tuple ?_)
    | ((with_reducible show EX _ (.Call (.Name "isinstance" _) [_, .Tuple [.Name "list" _, .Name "tuple" _, .Name "dict" _] _ _] [] _) _ _ _ _); refine ex_isi3 (by first | exact hF | exact hF.blk _ | exact (hF.blk _).blk _) .lst .tup .dic gB.isinstance gB.list gB.tuple gB.dict ?_)
    | ((with_reducible show EX _ (.Call (.Attribute _ "append" _) [_] [] _) _ _ _ _); refine ex_append (by first | exact hF | exact hF.blk _ | exact (hF.blk _).blk _) ?_)
    | ((with_reducible show EX _ (.Call (.Name _ _) (_ :: _) [] _) _ _ _ _); refine ex_callF (by first | exact hF | exact hF.blk _ | exact (hF.blk _).blk _) (by with_reducible assumption) (by omega) ?_))
  | ((with_reducible show AX _ _ _ _ _ _); first | ((with_reducible show AX _ (_ :: _) _ _ _ _); refine ax_cons ?_) | ((with_reducible show AX _ [] _ _ _ _); refine ax_nil ?_))
  | ((with_reducible show TX _ _ _ _ _ _); first
    | ((with_reducible show TX _ (.Compare _ [.Eq] [_] _) _ _ _ _); refine tx_eq (by first | exact hF | exact hF.blk _ | exact (hF.blk _).blk _) ?_)
    | ((with_reducible show TX _ (.Compare _ [.NotEq] [_] _) _ _ _ _); refine tx_ne (by first | exact hF | exact hF.blk _ | exact (hF.blk _).blk _) ?_)
    | ((with_reducible show TX _ (.Compare _ [.Lt] [_] _) _ _ _ _); refine tx_lt ?_)
    | ((with_reducible show TX _ (.Compare _ [.LtE] [_] _) _ _ _ _); refine tx_le ?_)
    | ((with_reducible show TX _ (.Compare _ [.Gt] [_] _) _ _ _ _); refine tx_gt ?_)
    | ((with_reducible show TX _ (.Compare _ [.GtE] [_] _) _ _ _ _); refine tx_ge ?_)
    | ((with_reducible show TX _ (.Compare _ [.Is] [.Constant .none _ _] _) _ _ _ _); refine tx_isN ?_)
    | ((with_reducible show TX _ (.Compare _ [.IsNot] [.Constant .none _ _] _) _ _ _ _); refine tx_notN ?_)
    | ((with_reducible show TX _ (.UnaryOp .Not _ _) _ _ _ _); refine tx_not ?_)
    | ((with_reducible show TX _ (.BoolOp .And _ _) _ _ _ _); refine WWX.tx (wx_and ?_))
    | ((with_reducible show TX _ (.BoolOp .Or _ _) _ _ _ _); refine WWX.tx (wx_or ?_))
    | ((with_reducible show TX _ (.Compare _ _ _ _) _ _ _ _); fail)
    | ((with_reducible show TX _ (.Call (.Name "isinstance" _) _ _ _) _ _ _ _); refine tx_bl ?_)
    | ((with_reducible show TX _ (_) _ _ _ _); refine tx_tru (by first | exact hF | exact hF.blk _ | exact (hF.blk _).blk _) (fun _ _ => rfl) ?_))
  | ((with_reducible show WWX _ _ _ _ _ _); first | ((with_reducible show WWX _ (.BoolOp .And [_] _) _ _ _ _); refine wx_and1 ?_) | ((with_reducible show WWX _ (.BoolOp .Or [_] _) _ _ _ _); refine wx_or1 ?_) | ((with_reducible show WWX _ (.BoolOp .And _ _) _ _ _ _); refine wx_and ?_) | ((with_reducible show WWX _ (.BoolOp .Or _ _) _ _ _ _); refine wx_or ?_))
  | with_reducible refine addP_ii ?_
  | with_reducible refine subP_ii ?_
  | with_reducible refine mulP_ii (by first | assumption | exact cm_l (by omega) (by omega) | exact cm_r (by omega) (by omega)) ?_
  | with_reducible refine modX_p (by first | assumption | decide | omega) ?_
  | with_reducible refine fdivP_ii (by first | assumption | exact cd_i (by omega) (by omega)) ?_
  | with_reducible refine powP_ii (by unfold CPow; decide) ?_
  | with_reducible refine negP_i ?_
  | with_reducible refine eqP_ii ?_
  | with_reducible refine eqP_ss ?_
  | with_reducible refine eqP_bb ?_
  | with_reducible refine neP_ii ?_
  | with_reducible refine neP_ss ?_
  | with_reducible refine neP_bb ?_
  | with_reducible refine ltP_ii ?_
  | with_reducible refine intP_i ?_
  | with_reducible refine intP_b ?_
  | with_reducible refine absP_i ?_
  | with_reducible refine boolP_b ?_
  | with_reducible refine lenP_t ?_
  | with_reducible refine lenP_l ?_
  | with_reducible refine lenP_rl ?_
  | with_reducible refine augP_ii ?_
  | with_reducible refine listP_l ?_
  | with_reducible refine listP_t ?_
  | with_reducible refine tupP_l ?_
  | with_reducible refine tupP_t ?_
  | with_reducible refine tru_i ?_
  | with_reducible refine tru_b ?_
  | ((with_reducible show lenP _ _ [.ref _]); refine lenP_r (by first | exact um_same | assumption) ?_)
  | ((with_reducible show ixX _ _ (.tup _) (.int _)); refine ixX_t (by rfl) ?_)
  | ((with_reducible show ixX _ _ (.lst _) (.int _)); refine ixX_l (by rfl) ?_)
  | ((with_reducible show ixX _ _ (.ref _) (.int _)); refine ixX_r (by first | exact um_same | assumption) (by rfl) ?_)
  | ((with_reducible show setX _ _ (.ref _) (.int _) _); refine setX_r (by first | exact um_same | assumption) (by rfl) ?_)
  | ((with_reducible show appP _ _ (.ref _) _); refine appP_r (by first | exact um_same | assumption) ?_ ?_)
  | ((with_reducible show isL _ (.ref _) ∧ _); refine isL_r (by first | exact um_same | assumption) ?_)
  | ((with_reducible apply ds1); get_elem_tactic_extensible)
  | ((with_reducible apply ds2); get_elem_tactic_extensible)
  | ((with_reducible apply ds3); get_elem_tactic_extensible)
  | ((with_reducible apply tgd_nm); get_elem_tactic_extensible)
  | ((with_reducible apply tgd_tp); get_elem_tactic_extensible)
  | ((with_reducible apply ty_is); first | exact rfl | assumption)
  | ((with_reducible show (isNoneD _ = true → _) ∧ _); first | refine bx_T (by rfl) ?_ | refine bx_F (by rfl) ?_)
  | ((with_reducible show ((!isNoneD _) = true → _) ∧ _); first | refine bx_T (by rfl) ?_ | refine bx_F (by rfl) ?_)
  | with_reducible refine br_T (by decide) ?_
  | with_reducible refine br_F (by decide) ?_
  | with_reducible refine bn_T (by decide) ?_
  | with_reducible refine bn_F (by decide) ?_
  | with_reducible refine bw_T ?_
  | with_reducible refine bw_F ?_
  | with_reducible refine bx_T (by decide) ?_
  | with_reducible refine bx_F (by decide) ?_
  | ((with_reducible show _ ≤ sizeLine ∧ _); refine ax_tup (by exact Nat.le_of_ble_eq_true (by rfl)) ?_)
  | fail)
set_option Elab.async false
set_option linter.all false
set_option maxRecDepth 100000
set_option maxHeartbeats 4000000
/-! K7B: the law's greatest row, its Sigma. -/
namespace K7
open PySem PySem.Spec PyProof.Rows L2 G
section
variable {T : Fm Unit} (hh : T.hot = false) {k : Nat} {P : Program} {w : World} {K : PySem.W.Frag} {mg : Str → Option Value} {base : Heap} {args : List D} {M : Ms} {Φ : PD} {Ψ : PX}
def ds__law_greatest : DS := fun args M Φ _ => ∃ p : Q4, args = [qD p] ∧ Φ (qD (grtL p)) M
theorem eightL (p : Q4) : [qD p, .tup [.int (0 - p.b), .int p.a, .int p.d, .int (0 - p.c)], .tup [.int (0 - p.c), .int (0 - p.d), .int p.a, .int p.b], .tup [.int (0 - p.d), .int p.c, .int (0 - p.b), .int p.a]] = (fourQ p).map qD := by
  unfold fourQ qD; simp
theorem negL (q : Q4) : [q.a, q.b, q.c, q.d].map (fun x => D.int (0 - x)) = [.int (negQ q).a, .int (negQ q).b, .int (negQ q).c, .int (negQ q).d] := by
  unfold negQ; simp
include hh in
theorem b__law_greatest (gB : Bi mg) (hD : Fd T k P w K mg base n__law_greatest (defScope s__law_greatest)) (h : ds__law_greatest args M Φ Ψ) : Bod T s__law_greatest n__law_greatest args M Φ Ψ := by
  obtain ⟨p, rfl, hq⟩ := h
  have hF := hD.fc
  refine bod_start (by get_elem_tactic_extensible) ?_; refine ssx_cons ?_
  repeat' decreasing_trivial_pre_omega
  (with_reducible show EX _ (.ListComp _ _ _ _) _ _ _ _); refine ex_lc (by first | exact hF | exact hF.blk _ | exact (hF.blk _).blk _) [("line", 7)] (by first | exact tb_nmA hF (by get_elem_tactic_extensible) | exact tb_nmA (hF.blk _) (by get_elem_tactic_extensible) | exact tb_tpA hF (by repeat' (first | exact tnb_nil | apply tnb_consA hF (by get_elem_tactic_extensible))) (by rfl) | exact tb_tpA (hF.blk _) (by repeat' (first | exact tnb_nil | apply tnb_consA (hF.blk _) (by get_elem_tactic_extensible))) (by rfl)) .none (ix_seqD (by first | exact hF | exact hF.blk _ | exact (hF.blk _).blk _) ?_) (by decide +kernel) (by decide)
  repeat' decreasing_trivial_pre_omega
  refine ⟨_, rfl, ?_⟩
  rw [eightL]
  refine lc_mapA (xs := fourQ p) qD (fun q => qD (negQ q)) (by simp [fourQ]) (by get_elem_tactic_extensible) (fun q hq' M' _ => ?_) ?_
  · repeat' decreasing_trivial_pre_omega
    (with_reducible show EX _ (.ListComp _ _ _ _) _ _ _ _); refine ex_lc (by first | exact hF | exact hF.blk _ | exact (hF.blk _).blk _) [("one", 6)] (by first | exact tb_nmA hF (by get_elem_tactic_extensible) | exact tb_nmA (hF.blk _) (by get_elem_tactic_extensible) | exact tb_tpA hF (by repeat' (first | exact tnb_nil | apply tnb_consA hF (by get_elem_tactic_extensible))) (by rfl) | exact tb_tpA (hF.blk _) (by repeat' (first | exact tnb_nil | apply tnb_consA (hF.blk _) (by get_elem_tactic_extensible))) (by rfl)) .none (ix_seqD (by first | exact hF | exact hF.blk _ | exact (hF.blk _).blk _) ?_) (by decide +kernel) (by decide)
    repeat' decreasing_trivial_pre_omega
    refine ⟨_, rfl, lc_mapA (xs := [q.a, q.b, q.c, q.d]) D.int (fun x => .int (0 - x)) (by simp) (by get_elem_tactic_extensible) (fun x hx M2 _ => ?_) ?_⟩
    · repeat' decreasing_trivial_pre_omega
      exact ⟨rfl, rfl⟩
    · rw [negL]
      repeat' decreasing_trivial_pre_omega
      exact ⟨rfl, rfl⟩
  · refine addP_ll (by rw [sizeLine_eq]; simp [fourQ]) ?_
    repeat' decreasing_trivial_pre_omega
    have e : (fourQ p).map qD ++ (fourQ p).map (fun q => qD (negQ q)) = (p :: ((fourQ p).tail ++ (fourQ p).map negQ)).map qD := by
      unfold fourQ; simp
    rw [e]
    exact maxP_q hq
/-- the odd part -/
def oddAux : Nat → Nat → Nat
  | 0, n => n
  | f + 1, n => if n % 2 = 0 then oddAux f (n / 2) else n
def oddP (n : Nat) : Nat := oddAux n n
theorem oddAux_enough : ∀ (f g n : Nat), 0 < n → n ≤ f → n ≤ g → oddAux f n = oddAux g n
  | 0, _, n, h, hf, _ => by omega
  | _ + 1, 0, n, h, _, hg => by omega
  | f + 1, g + 1, n, h, hf, hg => by
    show (if n % 2 = 0 then oddAux f (n / 2) else n) = (if n % 2 = 0 then oddAux g (n / 2) else n)
    split
    · exact oddAux_enough f g (n / 2) (by omega) (by omega) (by omega)
    · rfl
theorem oddP_even {n : Nat} (h : 0 < n) (h2 : n % 2 = 0) : oddP n = oddP (n / 2) := by
  unfold oddP
  cases n with
  | zero => omega
  | succ n =>
    show (if (n + 1) % 2 = 0 then oddAux n ((n + 1) / 2) else n + 1) = _
    rw [if_pos h2]
    exact oddAux_enough _ _ _ (by omega) (by omega) (by omega)
theorem oddP_odd {n : Nat} (h2 : n % 2 ≠ 0) : oddP n = n := by
  unfold oddP
  cases n with
  | zero => rfl
  | succ n =>
    show (if (n + 1) % 2 = 0 then oddAux n ((n + 1) / 2) else n + 1) = _
    rw [if_neg h2]
def farQ (p q : Q4) : Int := (oddP (nrmQ (mulQ (bakQ p) q) / (conQ (mulQ (bakQ p) q) * conQ (mulQ (bakQ p) q))).toNat : Nat)
/-- what a Sigma needs -/
structure FarOk (p q : Q4) : Prop where
  sp : SmQ (bakQ p)
  st : SmQ (mulQ (bakQ p) q)
  c0 : 0 < conQ (mulQ (bakQ p) q)
  c1 : conQ (mulQ (bakQ p) q) < 32768
  n0 : 0 < nrmQ (mulQ (bakQ p) q) / (conQ (mulQ (bakQ p) q) * conQ (mulQ (bakQ p) q))
def ds__law_far : DS := fun args M Φ _ => ∃ p q : Q4, args = [qD p, qD q] ∧ FarOk p q ∧ Φ (.int (farQ p q)) M
end
end K7
end
section
set_option pp.deepTerms false
set_option pp.deepTerms.threshold 5
set_option pp.maxSteps 3000
set_option hygiene false
local macro_rules | `(tactic| get_elem_tactic_extensible) => `(tactic| (repeat' (first | with_reducible exact AtN.z | with_reducible exact AtG.z | with_reducible exact SetS.z | with_reducible exact SetSs.nil | exact WipeS.nil | with_reducible apply AtN.s | with_reducible apply AtG.s | with_reducible apply SetS.s | with_reducible apply SetSs.cons | apply WipeS.cons | exact StartS.nil | apply StartS.arg | apply StartS.var)))
local macro_rules | `(tactic| decreasing_trivial_pre_omega) => `(tactic| first
  | ((with_reducible show SSX _ _ _ _ _); first | ((with_reducible show SSX _ (_ :: _) _ _ _); refine ssx_cons ?_) | ((with_reducible show SSX _ [] _ _ _); refine ssx_nil ?_))
  | ((with_reducible show SX _ _ _ _ _); first
    | ((with_reducible show SX _ (.Return (some _) _) _ _ _); refine sx_ret ?_)
    | ((with_reducible show SX _ (.Return none _) _ _ _); refine sx_retN ?_)
    | ((with_reducible show SX _ (.If _ _ _ _) _ _ _); refine sx_if ?_)
    | ((with_reducible show SX _ (.Assign [.Name _ _] (.ListComp _ _ _ _) _) _ _ _); fail)
    | ((with_reducible show SX _ (.Assign [.Name _ _] _ _) _ _ _); refine sx_setA hD (by get_elem_tactic_extensible) ?_)
    | ((with_reducible show SX _ (.Assign [.Tuple [.Name _ _, .Name _ _] _ _] (.Tuple [_, _] _ _) _) _ _ _); refine sx_par2 hD (by get_elem_tactic_extensible) (by get_elem_tactic_extensible) (by decide) ?_)
    | ((with_reducible show SX _ (.Assign [.Tuple [.Name _ _, .Name _ _, .Name _ _] _ _] (.Tuple [_, _, _] _ _) _) _ _ _); refine sx_par3A hD (by get_elem_tactic_extensible) (by get_elem_tactic_extensible) (by get_elem_tactic_extensible) (by decide) (by decide) (by decide) ?_)
    | ((with_reducible show SX _ (.Assign [.Tuple _ _ _] _ _) _ _ _); refine sx_asg hD (tg_tpA hD (by repeat' (first | exact tn_nil | apply tn_consA hD (by get_elem_tactic_extensible))) (by rfl)) ?_)
    | ((with_reducible show SX _ (.Assign [.Subscript _ _ _] _ _) _ _ _); refine sx_subX hF ?_)
    | ((with_reducible show SX _ (.AugAssign (.Name _ _) .Add _ _) _ _ _); refine sx_augadd hD (by get_elem_tactic_extensible) (by get_elem_tactic_extensible) ?_)
    | ((with_reducible show SX _ (.Expr _ _) _ _ _); refine sx_expr ?_)
    | ((with_reducible show SX _ (.Break _) _ _ _); refine sx_break ?_)
    | ((with_reducible show SX _ (.Continue _) _ _ _); refine sx_continue ?_)
    | ((with_reducible show SX _ (.Pass _) _ _ _); refine sx_pass ?_))
  | ((with_reducible show EX _ _ _ _ _ _); first
    | ((with_reducible show EX _ (.Name _ _) _ _ _ _); refine ax_var (by first | exact hF | exact hF.blk _ | exact (hF.blk _).blk _) (by get_elem_tactic_extensible) (by get_elem_tactic_extensible) ?_)
    | ((with_reducible show EX _ (.Constant (.int _) _ _) _ _ _ _); refine ex_int ?_)
    | ((with_reducible show EX _ (.Constant (.str _) _ _) _ _ _ _); refine ex_str ?_)
    | ((with_reducible show EX _ (.Constant (.bool _) _ _) _ _ _ _); refine ex_bl ?_)
    | ((with_reducible show EX _ (.Constant .none _ _) _ _ _ _); refine ex_non ?_)
    | ((with_reducible show EX _ (.BinOp _ .Add _ _) _ _ _ _); refine ex_add ?_)
    | ((with_reducible show EX _ (.BinOp _ .Sub _ _) _ _ _ _); refine ex_sub ?_)
    | ((with_reducible show EX _ (.BinOp _ .Mult _ _) _ _ _ _); refine ex_mul ?_)
    | ((with_reducible show EX _ (.BinOp _ .Mod _ _) _ _ _ _); refine ex_modX ?_)
    | ((with_reducible show EX _ (.BinOp _ .FloorDiv _ _) _ _ _ _); refine ex_fdiv ?_)
    | ((with_reducible show EX _ (.BinOp _ .Pow _ _) _ _ _ _); refine ex_pow ?_)
    | ((with_reducible show EX _ (.UnaryOp .USub _ _) _ _ _ _); refine ex_neg ?_)
    | ((with_reducible show EX _ (.UnaryOp .Not _ _) _ _ _ _); refine ex_not ?_)
    | ((with_reducible show EX _ (.Tuple _ _ _) _ _ _ _); refine ex_tup ?_)
    | ((with_reducible show EX _ (.List (_ :: _) _) _ _ _ _); refine ex_lst ?_)
    | ((with_reducible show EX _ (.IfExp _ _ _ _) _ _ _ _); refine ex_if ?_)
    | ((with_reducible show EX _ (.Compare _ [.Eq] [_] _) _ _ _ _); refine ex_eq (by first | exact hF | exact hF.blk _ | exact (hF.blk _).blk _) ?_)
    | ((with_reducible show EX _ (.Compare _ [.NotEq] [_] _) _ _ _ _); refine ex_ne (by first | exact hF | exact hF.blk _ | exact (hF.blk _).blk _) ?_)
    | ((with_reducible show EX _ (.Compare _ [.Lt] [_] _) _ _ _ _); refine ex_lt ?_)
    | ((with_reducible show EX _ (.Compare _ [.LtE] [_] _) _ _ _ _); refine ex_le ?_)
    | ((with_reducible show EX _ (.Compare _ [.Gt] [_] _) _ _ _ _); refine ex_gt ?_)
    | ((with_reducible show EX _ (.Compare _ [.GtE] [_] _) _ _ _ _); refine ex_ge ?_)
    | ((with_reducible show EX _ (.Compare _ [.Is] [.Constant .none _ _] _) _ _ _ _); refine ex_isN ?_)
    | ((with_reducible show EX _ (.Compare _ [.IsNot] [.Constant .none _ _] _) _ _ _ _); refine ex_notN ?_)
    | ((with_reducible show EX _ (.BoolOp _ [_] _) _ _ _ _); refine ex_one ?_)
    | ((with_reducible show EX _ (.BoolOp .And _ _) _ _ _ _); refine ex_and ?_)
    | ((with_reducible show EX _ (.BoolOp .Or _ _) _ _ _ _); refine ex_or ?_)
    | ((with_reducible show EX _ (.Subscript _ (.Slice _ _ _ _) _) _ _ _ _); fail)
    | ((with_reducible show EX _ (.Subscript _ _ _) _ _ _ _); refine ex_ixX (by first | exact hF | exact hF.blk _ | exact (hF.blk _).blk _) ?_)
    | ((with_reducible show EX _ (.Call (.Name "len" _) [_] [] _) _ _ _ _); refine ex_len (by first | exact hF | exact hF.blk _ | exact (hF.blk _).blk _) gB.len ?_)
    | ((with_reducible show EX _ (.Call (.Name "int" _) [_] [] _) _ _ _ _); refine ex_int1 (by first | exact hF | exact hF.blk _ | exact (hF.blk _).blk _) gB.int ?_)
    | ((with_reducible show EX _ (.Call (.Name "abs" _) [_] [] _) _ _ _ _); refine ex_abs (by first | exact hF | exact hF.blk _ | exact (hF.blk _).blk _) gB.abs ?_)
    | ((with_reducible show EX _ (.Call (.Name "list" _) [_] [] _) _ _ _ _); refine ex_list1 (by first | exact hF | exact hF.blk _ | exact (hF.blk _).blk _) gB.list ?_)
    | ((with_reducible show EX _ (.Call (.Name "tuple" _) [_] [] _) _ _ _ _); refine ex_tuple1 (by first | exact hF | exact hF.blk _ | exact (hF.blk _).blk _) gB.tuple ?_)
    | ((with_reducible show EX _ (.Call (.Name "sum" _) [_] [] _) _ _ _ _); refine ex_sum (by first | exact hF | exact hF.blk _ | exact (hF.blk _).blk _) gB.sum ?_)
    | ((with_reducible show EX _ (.Call (.Name "max" _) [_] [] _) _ _ _ _); refine ex_max (by first | exact hF | exact hF.blk _ | exact (hF.blk _).blk _) gB.max ?_)
    | ((with_reducible show EX _ (.Call (.Name "all" _) [_] [] _) _ _ _ _); refine ex_all (by first | exact hF | exact hF.blk _ | exact (hF.blk _).blk _) gB.all ?_)
    | ((with_reducible show EX _ (.Call (.Name "bool" _) [_] [] _) _ _ _ _); refine ex_bool1 (by first | exact hF | exact hF.blk _ | exact (hF.blk _).blk _) gB.bool ?_)
    | ((with_reducible show EX _ (.Call (.Name "max" _) [_, _] [] _) _ _ _ _); refine ex_max2 (by first | exact hF | exact hF.blk _ | exact (hF.blk _).blk _) gB.max ?_)
    | ((with_reducible show EX _ (.Call (.Name "gcd" _) [_, _] [] _) _ _ _ _); refine ex_gcd (by first | exact hF | exact hF.blk _ | exact (hF.blk _).blk _) gGcd ?_)
    | ((with_reducible show EX _ (.Call (.Name "isqrt" _) [_] [] _) _ _ _ _); refine ex_isqrt (by first | exact hF | exact hF.blk _ | exact (hF.blk _).blk _) gIsqrt ?_)
    | ((with_reducible show EX _ (.Call (.Name "sorted" _) [_] [_] _) _ _ _ _); refine ex_sortR (by first | exact hF | exact hF.blk _ | exact (hF.blk _).blk _) gB.sorted ?_)
    | ((with_reducible show EX _ (.Call (.Name "isinstance" _) [_, .Name "list" _] [] _) _ _ _ _); refine ex_isi (by first | exact hF | exact hF.blk _ | exact (hF.blk _).blk _) .lst gB.isinstance gB.list ?_)
    | ((with_reducible show EX _ (.Call (.Name "isinstance" _) [_, .Name "tuple" _] [] _) _ _ _ _); refine ex_isi (by first | exact hF | exact hF.blk _ | exact (hF.blk _).blk _) .tup gB.isinstance gB.tuple ?_)
    | ((with_reducible show EX _ (.Call (.Name "isinstance" _) [_, .Name "int" _] [] _) _ _ _ _); refine ex_isi (by first | exact hF | exact hF.blk _ | exact (hF.blk _).blk _) .int gB.isinstance gB.int ?_)
    | ((with_reducible show EX _ (.Call (.Name "isinstance" _) [_, .Name "bool" _] [] _) _ _ _ _); refine ex_isi (by first | exact hF | exact hF.blk _ | exact (hF.blk _).blk _) .bl gB.isinstance gB.bool ?_)
    | ((with_reducible show EX _ (.Call (.Name "isinstance" _) [_, .Name "str" _] [] _) _ _ _ _); refine ex_isi (by first | exact hF | exact hF.blk _ | exact (hF.blk _).blk _) .str gB.isinstance gB.str ?_)
    | ((with_reducible show EX _ (.Call (.Name "isinstance" _) [_, .Name "dict" _] [] _) _ _ _ _); refine ex_isi (by first | exact hF | exact hF.blk _ | exact (hF.blk _).blk _) .dic gB.isinstance gB.dict ?_)
    | ((with_reducible show EX _ (.Call (.Name "isinstance" _) [_, .Tuple [.Name "list" _, .Name "tuple" _] _ _] [] _) _ _ _ _); refine ex_isi2 (by first | exact hF | exact hF.blk _ | exact (hF.blk _).blk _) .lst .tup gB.isinstance gB.list gB.tuple ?_)
    | ((with_reducible show EX _ (.Call (.Name "isinstance" _) [_, .Tuple [.Name "list" _, .Name "tuple" _, .Name "dict" _] _ _] [] _) _ _ _ _); refine ex_isi3 (by first | exact hF | exact hF.blk _ | exact (hF.blk _).blk _) .lst .tup .dic gB.isinstance gB.list gB.tuple gB.dict ?_)
    | ((with_reducible show EX _ (.Call (.Attribute _ "append" _) [_] [] _) _ _ _ _); refine ex_append (by first | exact hF | exact hF.blk _ | exact (hF.blk _).blk _) ?_)
    | ((with_reducible show EX _ (.Call (.Name _ _) (_ :: _) [] _) _ _ _ _); refine ex_callF (by first | exact hF | exact hF.blk _ | exact (hF.blk _).blk _) (by with_reducible assumption) (by omega) ?_))
  | ((with_reducible show AX _ _ _ _ _ _); first | ((with_reducible show AX _ (_ :: _) _ _ _ _); refine ax_cons ?_) | ((with_reducible show AX _ [] _ _ _ _); refine ax_nil ?_))
  | ((with_reducible show TX _ _ _ _ _ _); first
    | ((with_reducible show TX _ (.Compare _ [.Eq] [_] _) _ _ _ _); refine tx_eq (by first | exact hF | exact hF.blk _ | exact (hF.blk _).blk _) ?_)
    | ((with_reducible show TX _ (.Compare _ [.NotEq] [_] _) _ _ _ _); refine tx_ne (by first | exact hF | exact hF.blk _ | exact (hF.blk _).blk _) ?_)
    | ((with_reducible show TX _ (.Compare _ [.Lt] [_] _) _ _ _ _); refine tx_lt ?_)
    | ((with_reducible show TX _ (.Compare _ [.LtE] [_] _) _ _ _ _); refine tx_le ?_)
    | ((with_reducible show TX _ (.Compare _ [.Gt] [_] _) _ _ _ _); refine tx_gt ?_)
    | ((with_reducible show TX _ (.Compare _ [.GtE] [_] _) _ _ _ _); refine tx_ge ?_)
    | ((with_reducible show TX _ (.Compare _ [.Is] [.Constant .none _ _] _) _ _ _ _); refine tx_isN ?_)
    | ((with_reducible show TX _ (.Compare _ [.IsNot] [.Constant .none _ _] _) _ _ _ _); refine tx_notN ?_)
    | ((with_reducible show TX _ (.UnaryOp .Not _ _) _ _ _ _); refine tx_not ?_)
    | ((with_reducible show TX _ (.BoolOp .And _ _) _ _ _ _); refine WWX.tx (wx_and ?_))
    | ((with_reducible show TX _ (.BoolOp .Or _ _) _ _ _ _); refine WWX.tx (wx_or ?_))
    | ((with_reducible show TX _ (.Compare _ _ _ _) _ _ _ _); fail)
    | ((with_reducible show TX _ (.Call (.Name "isinstance" _) _ _ _) _ _ _ _); refine tx_bl ?_)
    | ((with_reducible show TX _ (_) _ _ _ _); refine tx_tru (by first | exact hF | exact hF.blk _ | exact (hF.blk _).blk _) (fun _ _ => rfl) ?_))
  | ((with_reducible show WWX _ _ _ _ _ _); first | ((with_reducible show WWX _ (.BoolOp .And [_] _) _ _ _ _); refine wx_and1 ?_) | ((with_reducible show WWX _ (.BoolOp .Or [_] _) _ _ _ _); refine wx_or1 ?_) | ((with_reducible show WWX _ (.BoolOp .And _ _) _ _ _ _); refine wx_and ?_) | ((with_reducible show WWX _ (.BoolOp .Or _ _) _ _ _ _); refine wx_or ?_))
  | with_reducible refine addP_ii ?_
  | with_reducible refine subP_ii ?_
  | with_reducible refine mulP_ii (by first | assumption | exact cm_l (by omega) (by omega) | exact cm_r (by omega) (by omega)) ?_
  | with_reducible refine modX_p (by first | assumption | decide | omega) ?_
  | with_reducible refine fdivP_ii (by first | assumption | exact cd_i (by omega) (by omega)) ?_
  | with_reducible refine powP_ii (by unfold CPow; decide) ?_
  | with_reducible refine negP_i ?_
  | with_reducible refine eqP_ii ?_
  | with_reducible refine eqP_ss ?_
  | with_reducible refine eqP_bb ?_
  | with_reducible refine neP_ii ?_
  | with_reducible refine neP_ss ?_
  | with_reducible refine neP_bb ?_
  | with_reducible refine ltP_ii ?_
  | with_reducible refine intP_i ?_
  | with_reducible refine intP_b ?_
  | with_reducible refine absP_i ?_
  | with_reducible refine boolP_b ?_
  | with_reducible refine lenP_t ?_
  | with_reducible refine lenP_l ?_
  | with_reducible refine lenP_rl ?_
  | with_reducible refine augP_ii ?_
  | with_reducible refine listP_l ?_
  | with_reducible refine listP_t ?_
  | with_reducible refine tupP_l ?_
  | with_reducible refine tupP_t ?_
  | with_reducible refine tru_i ?_
  | with_reducible refine tru_b ?_
  | ((with_reducible show lenP _ _ [.ref _]); refine lenP_r (by first | exact um_same | assumption) ?_)
  | ((with_reducible show ixX _ _ (.tup _) (.int _)); refine ixX_t (by rfl) ?_)
  | ((with_reducible show ixX _ _ (.lst _) (.int _)); refine ixX_l (by rfl) ?_)
  | ((with_reducible show ixX _ _ (.ref _) (.int _)); refine ixX_r (by first | exact um_same | assumption) (by rfl) ?_)
  | ((with_reducible show setX _ _ (.ref _) (.int _) _); refine setX_r (by first | exact um_same | assumption) (by rfl) ?_)
  | ((with_reducible show appP _ _ (.ref _) _); refine appP_r (by first | exact um_same | assumption) ?_ ?_)
  | ((with_reducible show isL _ (.ref _) ∧ _); refine isL_r (by first | exact um_same | assumption) ?_)
  | ((with_reducible apply ds1); get_elem_tactic_extensible)
  | ((with_reducible apply ds2); get_elem_tactic_extensible)
  | ((with_reducible apply ds3); get_elem_tactic_extensible)
  | ((with_reducible apply tgd_nm); get_elem_tactic_extensible)
  | ((with_reducible apply tgd_tp); get_elem_tactic_extensible)
  | ((with_reducible apply ty_is); first | exact rfl | assumption)
  | ((with_reducible show (isNoneD _ = true → _) ∧ _); first | refine bx_T (by rfl) ?_ | refine bx_F (by rfl) ?_)
  | ((with_reducible show ((!isNoneD _) = true → _) ∧ _); first | refine bx_T (by rfl) ?_ | refine bx_F (by rfl) ?_)
  | with_reducible refine br_T (by decide) ?_
  | with_reducible refine br_F (by decide) ?_
  | with_reducible refine bn_T (by decide) ?_
  | with_reducible refine bn_F (by decide) ?_
  | with_reducible refine bw_T ?_
  | with_reducible refine bw_F ?_
  | with_reducible refine bx_T (by decide) ?_
  | with_reducible refine bx_F (by decide) ?_
  | ((with_reducible show _ ≤ sizeLine ∧ _); refine ax_tup (by exact Nat.le_of_ble_eq_true (by rfl)) ?_)
  | fail)
set_option Elab.async false
set_option linter.all false
set_option maxRecDepth 100000
set_option maxHeartbeats 4000000
/-! K7C: the law's bag, draws, likeness. -/
namespace K7
open PySem PySem.Spec PyProof.Rows L2 G
section
variable {T : Fm Unit} (hh : T.hot = false) {k : Nat} {P : Program} {w : World} {K : PySem.W.Frag} {mg : Str → Option Value} {base : Heap} {args : List D} {M : Ms} {Φ : PD} {Ψ : PX}
def bagD (cs : List Int) (i : Nat) (v m c : Int) : List D := [.lst (cs.map D.int), .int i, .int v, .int m, .int c]
/-- at b stands a bag -/
def Bag (M : Ms) (b : Addr) : Prop := ∃ (cs : List Int) (i : Nat) (v m c : Int), M b = some (.lst (bagD cs i v m c)) ∧ 0 ≤ m ∧ m < 2147483648
def ds__law_bag : DS := fun args M Φ _ => ∃ ns : List Int, args = [.rol (ns.map D.int)] ∧ ∀ p o, M p = none → Bag (um M p o) p → Φ (.ref p) (um M p o)
def ds__law_draw : DS := fun args M Φ _ => ∃ b n, args = [.ref b, .int n] ∧ 0 < n ∧ n < 1073741824 ∧ Bag M b ∧ ∀ d o, 0 ≤ d → d < n → Bag (um M b o) b → Φ (.int d) (um M b o)
def ds__law_of : DS := fun args M Φ _ => ∃ b xs, args = [.ref b, .lst xs] ∧ xs ≠ [] ∧ xs.length < 1073741824 ∧ Bag M b ∧ ∀ d o, d ∈ xs → Bag (um M b o) b → Φ d (um M b o)
theorem cut_map {α β : Type} (f : α → β) (xs : List α) (lo hi : Option Int) : cutL (xs.map f) lo hi = (cutL xs lo hi).map f := by
  unfold cutL
  rw [List.map_take, List.map_drop, List.length_map]
include hh in
theorem b__law_bag (gB : Bi mg) (hD : Fd T k P w K mg base n__law_bag (defScope s__law_bag)) (h : ds__law_bag args M Φ Ψ) : Bod T s__law_bag n__law_bag args M Φ Ψ := by
  obtain ⟨ns, rfl, q⟩ := h
  have hF := hD.fc
  refine bod_start (by get_elem_tactic_extensible) ?_; refine ssx_cons ?_
  repeat' decreasing_trivial_pre_omega
  refine sx_forA hD (cutL ns none (some 63)) D.int (fun _ Γ M' => M' = M ∧ ∃ (m : Int) (o : Option D), 0 ≤ m ∧ m < 2147483648 ∧ Γ = [some (.rol (ns.map D.int)), some (.int m), o]) (fun _ => True) (tg_nmA hD (by get_elem_tactic_extensible)) (ix_seqD hF (ex_slice hF ?_)) (fun _ _ _ _ => trivial) ?_ ?_
  · repeat' decreasing_trivial_pre_omega
    refine ox_none (ox_some (ex_int ⟨_, rfl, _, rfl, cut_map _ _ _ _, fun _ _ => trivial, rfl, _, _, by decide, by decide, rfl⟩))
  · rintro ys x zs Γ M' _ ⟨rfl, m, o, h1, h2, rfl⟩
    repeat' decreasing_trivial_pre_omega
    exact ⟨rfl, _, _, Int.emod_nonneg _ (by decide), by have := Int.emod_lt_of_pos (m * 69997 + x % 2147483629 + 641) (show (0 : Int) < 2147483579 by decide); omega, rfl⟩
  · rintro Γ M' ⟨rfl, m, o, h1, h2, rfl⟩
    refine ssx_cons (sx_ret (ex_lstM ?_))
    repeat' decreasing_trivial_pre_omega
    refine ex_lc hF [("cell", 2)] (tb_nmA hF (by get_elem_tactic_extensible)) .none (ix_seqD hF (ex_slice hF ?_)) (by decide +kernel) (by decide)
    repeat' decreasing_trivial_pre_omega
    refine ox_none (ox_some (ex_int ⟨_, rfl, _, rfl, ?_⟩))
    rw [cut_map]
    refine lc_mapA D.int (fun x => .int x) ?_ (by get_elem_tactic_extensible) (fun x hx M' _ => ?_) ?_
    · have : (cutL ns none (some 63)).length ≤ 63 := by
        unfold cutL
        rw [List.length_take]
        have h63 : HT.sIx ns.length ns.length (some 63) ≤ 63 := by
          unfold HT.sIx
          simp
          try omega
        omega
      omega
    · repeat' decreasing_trivial_pre_omega
      exact ⟨rfl, rfl⟩
    · repeat' decreasing_trivial_pre_omega
      refine (fun p hp => q p _ hp ⟨cutL ns none (some 63), 0, 0, m, 0, um_same, h1, h2⟩)
include hh in
theorem b__law_draw (gB : Bi mg) (hD : Fd T k P w K mg base n__law_draw (defScope s__law_draw)) (h : ds__law_draw args M Φ Ψ) : Bod T s__law_draw n__law_draw args M Φ Ψ := by
  obtain ⟨b, n, rfl, hn, hn2, ⟨cs, i, v, m, c, hb, hm1, hm2⟩, q⟩ := h
  have hF := hD.fc
  refine bod_start (by get_elem_tactic_extensible) ?_; refine ssx_cons ?_
  repeat' ((fail_if_success (with_reducible show SSX _ _ _ _ _)); decreasing_trivial_pre_omega)
  refine ssx_cut (fun Γ' M' => ∃ (i : Nat) (v m c : Int) (o : Option D), 0 ≤ m ∧ m < 2147483648 ∧ Γ' = [some (.ref b), some (.int n), o, none, none] ∧ M' = um M b (.lst (bagD cs i v m c))) ?_ ?_
  · repeat' decreasing_trivial_pre_omega
    refine br_d (fun hc => ?_) (fun hc => ?_)
    · repeat' decreasing_trivial_pre_omega
      refine br_d (fun hc2 => ?_) (fun hc2 => ?_)
      · have hi : i < cs.length := by
          rw [List.length_map] at hc2; omega
        have hcx : atI (cs.map D.int) (i : Int) = some (.int cs[i]) := by
          unfold atI ixN
          rw [if_pos (by omega), if_pos (by rw [List.length_map]; omega)]
          simp [hi]
        repeat' decreasing_trivial_pre_omega
        refine ixX_l hcx ?_
        repeat' decreasing_trivial_pre_omega
        refine br_d (fun hc3 => ?_) (fun hc3 => ?_)
        · repeat' decreasing_trivial_pre_omega
          rw [um_um, um_um]
          exact ⟨i + 1, _, m, c + 1, _, hm1, hm2, rfl, rfl⟩
        · repeat' decreasing_trivial_pre_omega
          rw [um_um, um_um]
          exact ⟨i + 1, v, _, c + 1, _, Int.emod_nonneg _ (by decide), Int.lt_trans (Int.emod_lt_of_pos _ (by decide)) (by decide), rfl, rfl⟩
      · repeat' decreasing_trivial_pre_omega
        exact ⟨i, v, m, c + 1, none, hm1, hm2, rfl, rfl⟩
    · repeat' decreasing_trivial_pre_omega
      exact ⟨i, v, m, c + 1, none, hm1, hm2, rfl, rfl⟩
  · rintro Γ' M' ⟨i, v, m, c, o, hm1, hm2, rfl, rfl⟩
    repeat' decreasing_trivial_pre_omega
    refine br_d (fun hc => ?_) (fun hc => ?_)
    · repeat' decreasing_trivial_pre_omega
      rw [um_um]
      exact q _ _ (Int.emod_nonneg _ (by omega)) (Int.emod_lt_of_pos _ hn) ⟨cs, i, v / n, m, c, um_same, hm1, hm2⟩
    · repeat' decreasing_trivial_pre_omega
      rw [um_um]
      exact q _ _ (Int.emod_nonneg _ (by omega)) (Int.emod_lt_of_pos _ hn) ⟨cs, i, v, _, c, um_same, Int.emod_nonneg _ (by decide), Int.lt_trans (Int.emod_lt_of_pos _ (by decide)) (by decide)⟩
include hh in
theorem b__law_of (gB : Bi mg) (c1 : Cal false P w K mg base "_law_draw" k ["bag", "limit"] ds__law_draw) (hD : Fd T k P w K mg base n__law_of (defScope s__law_of)) (h : ds__law_of args M Φ Ψ) : Bod T s__law_of n__law_of args M Φ Ψ := by
  obtain ⟨b, xs, rfl, hx, hl, hb, q⟩ := h
  have hF := hD.fc
  have h0 : 0 < xs.length := List.length_pos_iff.mpr hx
  refine bod_start (by get_elem_tactic_extensible) ?_; refine ssx_cons ?_
  repeat' decreasing_trivial_pre_omega
  refine ⟨b, _, rfl, by omega, by omega, hb, fun d o h1 h2 hb2 => ?_⟩
  have hi : d.toNat < xs.length := by omega
  refine ixX_l (d := xs[d.toNat]) ?_ (q _ o (List.getElem_mem _) hb2)
  unfold atI ixN
  rw [if_pos h1, if_pos h2]
  simp [hi]
end
end K7
end
section
set_option pp.deepTerms false
set_option pp.deepTerms.threshold 5
set_option pp.maxSteps 3000
set_option hygiene false
local macro_rules | `(tactic| get_elem_tactic_extensible) => `(tactic| (repeat' (first | with_reducible exact AtN.z | with_reducible exact AtG.z | with_reducible exact SetS.z | with_reducible exact SetSs.nil | exact WipeS.nil | with_reducible apply AtN.s | with_reducible apply AtG.s | with_reducible apply SetS.s | with_reducible apply SetSs.cons | apply WipeS.cons | exact StartS.nil | apply StartS.arg | apply StartS.var)))
local macro_rules | `(tactic| decreasing_trivial_pre_omega) => `(tactic| first
  | ((with_reducible show SSX _ _ _ _ _); first | ((with_reducible show SSX _ (_ :: _) _ _ _); refine ssx_cons ?_) | ((with_reducible show SSX _ [] _ _ _); refine ssx_nil ?_))
  | ((with_reducible show SX _ _ _ _ _); first
    | ((with_reducible show SX _ (.Return (some _) _) _ _ _); refine sx_ret ?_)
    | ((with_reducible show SX _ (.Return none _) _ _ _); refine sx_retN ?_)
    | ((with_reducible show SX _ (.If _ _ _ _) _ _ _); refine sx_if ?_)
    | ((with_reducible show SX _ (.Assign [.Name _ _] (.ListComp _ _ _ _) _) _ _ _); fail)
    | ((with_reducible show SX _ (.Assign [.Name _ _] _ _) _ _ _); refine sx_setA hD (by get_elem_tactic_extensible) ?_)
    | ((with_reducible show SX _ (.Assign [.Tuple [.Name _ _, .Name _ _] _ _] (.Tuple [_, _] _ _) _) _ _ _); refine sx_par2 hD (by get_elem_tactic_extensible) (by get_elem_tactic_extensible) (by decide) ?_)
    | ((with_reducible show SX _ (.Assign [.Tuple [.Name _ _, .Name _ _, .Name _ _] _ _] (.Tuple [_, _, _] _ _) _) _ _ _); refine sx_par3A hD (by get_elem_tactic_extensible) (by get_elem_tactic_extensible) (by get_elem_tactic_extensible) (by decide) (by decide) (by decide) ?_)
    | ((with_reducible show SX _ (.Assign [.Tuple _ _ _] _ _) _ _ _); refine sx_asg hD (tg_tpA hD (by repeat' (first | exact tn_nil | apply tn_consA hD (by get_elem_tactic_extensible))) (by rfl)) ?_)
    | ((with_reducible show SX _ (.Assign [.Subscript _ _ _] _ _) _ _ _); refine sx_subX hF ?_)
    | ((with_reducible show SX _ (.AugAssign (.Name _ _) .Add _ _) _ _ _); refine sx_augadd hD (by get_elem_tactic_extensible) (by get_elem_tactic_extensible) ?_)
    | ((with_reducible show SX _ (.Expr _ _) _ _ _); refine sx_expr ?_)
    | ((with_reducible show SX _ (.Break _) _ _ _); refine sx_break ?_)
    | ((with_reducible show SX _ (.Continue _) _ _ _); refine sx_continue ?_)
    | ((with_reducible show SX _ (.Pass _) _ _ _); refine sx_pass ?_))
  | ((with_reducible show EX _ _ _ _ _ _); first
    | ((with_reducible show EX _ (.Name _ _) _ _ _ _); refine ax_var (by first | exact hF | exact hF.blk _ | exact (hF.blk _).blk _) (by get_elem_tactic_extensible) (by get_elem_tactic_extensible) ?_)
    | ((with_reducible show EX _ (.Constant (.int _) _ _) _ _ _ _); refine ex_int ?_)
    | ((with_reducible show EX _ (.Constant (.str _) _ _) _ _ _ _); refine ex_str ?_)
    | ((with_reducible show EX _ (.Constant (.bool _) _ _) _ _ _ _); refine ex_bl ?_)
    | ((with_reducible show EX _ (.Constant .none _ _) _ _ _ _); refine ex_non ?_)
    | ((with_reducible show EX _ (.BinOp _ .Add _ _) _ _ _ _); refine ex_add ?_)
    | ((with_reducible show EX _ (.BinOp _ .Sub _ _) _ _ _ _); refine ex_sub ?_)
    | ((with_reducible show EX _ (.BinOp _ .Mult _ _) _ _ _ _); refine ex_mul ?_)
    | ((with_reducible show EX _ (.BinOp _ .Mod _ _) _ _ _ _); refine ex_modX ?_)
    | ((with_reducible show EX _ (.BinOp _ .FloorDiv _ _) _ _ _ _); refine ex_fdiv ?_)
    | ((with_reducible show EX _ (.BinOp _ .Pow _ _) _ _ _ _); refine ex_pow ?_)
    | ((with_reducible show EX _ (.UnaryOp .USub _ _) _ _ _ _); refine ex_neg ?_)
    | ((with_reducible show EX _ (.UnaryOp .Not _ _) _ _ _ _); refine ex_not ?_)
    | ((with_reducible show EX _ (.Tuple _ _ _) _ _ _ _); refine ex_tup ?_)
    | ((with_reducible show EX _ (.List (_ :: _) _) _ _ _ _); refine ex_lst ?_)
    | ((with_reducible show EX _ (.IfExp _ _ _ _) _ _ _ _); refine ex_if ?_)
    | ((with_reducible show EX _ (.Compare _ [.Eq] [_] _) _ _ _ _); refine ex_eq (by first | exact hF | exact hF.blk _ | exact (hF.blk _).blk _) ?_)
    | ((with_reducible show EX _ (.Compare _ [.NotEq] [_] _) _ _ _ _); refine ex_ne (by first | exact hF | exact hF.blk _ | exact (hF.blk _).blk _) ?_)
    | ((with_reducible show EX _ (.Compare _ [.Lt] [_] _) _ _ _ _); refine ex_lt ?_)
    | ((with_reducible show EX _ (.Compare _ [.LtE] [_] _) _ _ _ _); refine ex_le ?_)
    | ((with_reducible show EX _ (.Compare _ [.Gt] [_] _) _ _ _ _); refine ex_gt ?_)
    | ((with_reducible show EX _ (.Compare _ [.GtE] [_] _) _ _ _ _); refine ex_ge ?_)
    | ((with_reducible show EX _ (.Compare _ [.Is] [.Constant .none _ _] _) _ _ _ _); refine ex_isN ?_)
    | ((with_reducible show EX _ (.Compare _ [.IsNot] [.Constant .none _ _] _) _ _ _ _); refine ex_notN ?_)
    | ((with_reducible show EX _ (.BoolOp _ [_] _) _ _ _ _); refine ex_one ?_)
    | ((with_reducible show EX _ (.BoolOp .And _ _) _ _ _ _); refine ex_and ?_)
    | ((with_reducible show EX _ (.BoolOp .Or _ _) _ _ _ _); refine ex_or ?_)
    | ((with_reducible show EX _ (.Subscript _ (.Slice _ _ _ _) _) _ _ _ _); fail)
    | ((with_reducible show EX _ (.Subscript _ _ _) _ _ _ _); refine ex_ixX (by first | exact hF | exact hF.blk _ | exact (hF.blk _).blk _) ?_)
    | ((with_reducible show EX _ (.Call (.Name "len" _) [_] [] _) _ _ _ _); refine ex_len (by first | exact hF | exact hF.blk _ | exact (hF.blk _).blk _) gB.len ?_)
    | ((with_reducible show EX _ (.Call (.Name "int" _) [_] [] _) _ _ _ _); refine ex_int1 (by first | exact hF | exact hF.blk _ | exact (hF.blk _).blk _) gB.int ?_)
    | ((with_reducible show EX _ (.Call (.Name "abs" _) [_] [] _) _ _ _ _); refine ex_abs (by first | exact hF | exact hF.blk _ | exact (hF.blk _).blk _) gB.abs ?_)
    | ((with_reducible show EX _ (.Call (.Name "list" _) [_] [] _) _ _ _ _); refine ex_list1 (by first | exact hF | exact hF.blk _ | exact (hF.blk _).blk _) gB.list ?_)
    | ((with_reducible show EX _ (.Call (.Name "tuple" _) [_] [] _) _ _ _ _); refine ex_tuple1 (by first | exact hF | exact hF.blk _ | exact (hF.blk _).blk _) gB.tuple ?_)
    | ((with_reducible show EX _ (.Call (.Name "sum" _) [_] [] _) _ _ _ _); refine ex_sum (by first | exact hF | exact hF.blk _ | exact (hF.blk _).blk _) gB.sum ?_)
    | ((with_reducible show EX _ (.Call (.Name "max" _) [_] [] _) _ _ _ _); refine ex_max (by first | exact hF | exact hF.blk _ | exact (hF.blk _).blk _) gB.max ?_)
    | ((with_reducible show EX _ (.Call (.Name "all" _) [_] [] _) _ _ _ _); refine ex_all (by first | exact hF | exact hF.blk _ | exact (hF.blk _).blk _) gB.all ?_)
    | ((with_reducible show EX _ (.Call (.Name "bool" _) [_] [] _) _ _ _ _); refine ex_bool1 (by first | exact hF | exact hF.blk _ | exact (hF.blk _).blk _) gB.bool ?_)
    | ((with_reducible show EX _ (.Call (.Name "max" _) [_, _] [] _) _ _ _ _); refine ex_max2 (by first | exact hF | exact hF.blk _ | exact (hF.blk _).blk _) gB.max ?_)
    | ((with_reducible show EX _ (.Call (.Name "gcd" _) [_, _] [] _) _ _ _ _); refine ex_gcd (by first | exact hF | exact hF.blk _ | exact (hF.blk _).blk _) gGcd ?_)
    | ((with_reducible show EX _ (.Call (.Name "isqrt" _) [_] [] _) _ _ _ _); refine ex_isqrt (by first | exact hF | exact hF.blk _ | exact (hF.blk _).blk _) gIsqrt ?_)
    | ((with_reducible show EX _ (.Call (.Name "sorted" _) [_] [_] _) _ _ _ _); refine ex_sortR (by first | exact hF | exact hF.blk _ | exact (hF.blk _).blk _) gB.sorted ?_)
    | ((with_reducible show EX _ (.Call (.Name "isinstance" _) [_, .Name "list" _] [] _) _ _ _ _); refine ex_isi (by first | exact hF | exact hF.blk _ | exact (hF.blk _).blk _) .lst gB.isinstance gB.list ?_)
    | ((with_reducible show EX _ (.Call (.Name "isinstance" _) [_, .Name "tuple" _] [] _) _ _ _ _); refine ex_isi (by first | exact hF | exact hF.blk _ | exact (hF.blk _).blk _) .tup gB.isinstance gB.tuple ?_)
    | ((with_reducible show EX _ (.Call (.Name "isinstance" _) [_, .Name "int" _] [] _) _ _ _ _); refine ex_isi (by first | exact hF | exact hF.blk _ | exact (hF.blk _).blk _) .int gB.isinstance gB.int ?_)
    | ((with_reducible show EX _ (.Call (.Name "isinstance" _) [_, .Name "bool" _] [] _) _ _ _ _); refine ex_isi (by first | exact hF | exact hF.blk _ | exact (hF.blk _).blk _) .bl gB.isinstance gB.bool ?_)
    | ((with_reducible show EX _ (.Call (.Name "isinstance" _) [_, .Name "str" _] [] _) _ _ _ _); refine ex_isi (by first | exact hF | exact hF.blk _ | exact (hF.blk _).blk _) .str gB.isinstance gB.str ?_)
    | ((with_reducible show EX _ (.Call (.Name "isinstance" _) [_, .Name "dict" _] [] _) _ _ _ _); refine ex_isi (by first | exact hF | exact hF.blk _ | exact (hF.blk _).blk _) .dic gB.isinstance gB.dict ?_)
    | ((with_reducible show EX _ (.Call (.Name "isinstance" _) [_, .Tuple [.Name "list" _, .Name "tuple" _] _ _] [] _) _ _ _ _); refine ex_isi2 (by first | exact hF | exact hF.blk _ | exact (hF.blk _).blk _) .lst .tup gB.isinstance gB.list gB.tuple ?_)
    | ((with_reducible show EX _ (.Call (.Name "isinstance" _) [_, .Tuple [.Name "list" _, .Name "tuple" _, .Name "dict" _] _ _] [] _) _ _ _ _); refine ex_isi3 (by first | exact hF | exact hF.blk _ | exact (hF.blk _).blk _) .lst .tup .dic gB.isinstance gB.list gB.tuple gB.dict ?_)
    | ((with_reducible show EX _ (.Call (.Attribute _ "append" _) [_] [] _) _ _ _ _); refine ex_append (by first | exact hF | exact hF.blk _ | exact (hF.blk _).blk _) ?_)
    | ((with_reducible show EX _ (.Call (.Name _ _) (_ :: _) [] _) _ _ _ _); refine ex_callF (by first | exact hF | exact hF.blk _ | exact (hF.blk _).blk _) (by with_reducible assumption) (by omega) ?_))
  | ((with_reducible show AX _ _ _ _ _ _); first | ((with_reducible show AX _ (_ :: _) _ _ _ _); refine ax_cons ?_) | ((with_reducible show AX _ [] _ _ _ _); refine ax_nil ?_))
  | ((with_reducible show TX _ _ _ _ _ _); first
    | ((with_reducible show TX _ (.Compare _ [.Eq] [_] _) _ _ _ _); refine tx_eq (by first | exact hF | exact hF.blk _ | exact (hF.blk _).blk _) ?_)
    | ((with_reducible show TX _ (.Compare _ [.NotEq] [_] _) _ _ _ _); refine tx_ne (by first | exact hF | exact hF.blk _ | exact (hF.blk _).blk _) ?_)
    | ((with_reducible show TX _ (.Compare _ [.Lt] [_] _) _ _ _ _); refine tx_lt ?_)
    | ((with_reducible show TX _ (.Compare _ [.LtE] [_] _) _ _ _ _); refine tx_le ?_)
    | ((with_reducible show TX _ (.Compare _ [.Gt] [_] _) _ _ _ _); refine tx_gt ?_)
    | ((with_reducible show TX _ (.Compare _ [.GtE] [_] _) _ _ _ _); refine tx_ge ?_)
    | ((with_reducible show TX _ (.Compare _ [.Is] [.Constant .none _ _] _) _ _ _ _); refine tx_isN ?_)
    | ((with_reducible show TX _ (.Compare _ [.IsNot] [.Constant .none _ _] _) _ _ _ _); refine tx_notN ?_)
    | ((with_reducible show TX _ (.UnaryOp .Not _ _) _ _ _ _); refine tx_not ?_)
    | ((with_reducible show TX _ (.BoolOp .And _ _) _ _ _ _); refine WWX.tx (wx_and ?_))
    | ((with_reducible show TX _ (.BoolOp .Or _ _) _ _ _ _); refine WWX.tx (wx_or ?_))
    | ((with_reducible show TX _ (.Compare _ _ _ _) _ _ _ _); fail)
    | ((with_reducible show TX _ (.Call (.Name "isinstance" _) _ _ _) _ _ _ _); refine tx_bl ?_)
    | ((with_reducible show TX _ (_) _ _ _ _); refine tx_tru (by first | exact hF | exact hF.blk _ | exact (hF.blk _).blk _) (fun _ _ => rfl) ?_))
  | ((with_reducible show WWX _ _ _ _ _ _); first | ((with_reducible show WWX _ (.BoolOp .And [_] _) _ _ _ _); refine wx_and1 ?_) | ((with_reducible show WWX _ (.BoolOp .Or [_] _) _ _ _ _); refine wx_or1 ?_) | ((with_reducible show WWX _ (.BoolOp .And _ _) _ _ _ _); refine wx_and ?_) | ((with_reducible show WWX _ (.BoolOp .Or _ _) _ _ _ _); refine wx_or ?_))
  | with_reducible refine addP_ii ?_
  | with_reducible refine subP_ii ?_
  | with_reducible refine mulP_ii (by first | assumption | exact cm_l (by omega) (by omega) | exact cm_r (by omega) (by omega)) ?_
  | with_reducible refine modX_p (by first | assumption | decide | omega) ?_
  | with_reducible refine fdivP_ii (by first | assumption | exact cd_i (by omega) (by omega)) ?_
  | with_reducible refine powP_ii (by unfold CPow; decide) ?_
  | with_reducible refine negP_i ?_
  | with_reducible refine eqP_ii ?_
  | with_reducible refine eqP_ss ?_
  | with_reducible refine eqP_bb ?_
  | with_reducible refine neP_ii ?_
  | with_reducible refine neP_ss ?_
  | with_reducible refine neP_bb ?_
  | with_reducible refine ltP_ii ?_
  | with_reducible refine intP_i ?_
  | with_reducible refine intP_b ?_
  | with_reducible refine absP_i ?_
  | with_reducible refine boolP_b ?_
  | with_reducible refine lenP_t ?_
  | with_reducible refine lenP_l ?_
  | with_reducible refine lenP_rl ?_
  | with_reducible refine augP_ii ?_
  | with_reducible refine listP_l ?_
  | with_reducible refine listP_t ?_
  | with_reducible refine tupP_l ?_
  | with_reducible refine tupP_t ?_
  | with_reducible refine tru_i ?_
  | with_reducible refine tru_b ?_
  | ((with_reducible show lenP _ _ [.ref _]); refine lenP_r (by first | exact um_same | assumption) ?_)
  | ((with_reducible show ixX _ _ (.tup _) (.int _)); refine ixX_t (by rfl) ?_)
  | ((with_reducible show ixX _ _ (.lst _) (.int _)); refine ixX_l (by rfl) ?_)
  | ((with_reducible show ixX _ _ (.ref _) (.int _)); refine ixX_r (by first | exact um_same | assumption) (by rfl) ?_)
  | ((with_reducible show setX _ _ (.ref _) (.int _) _); refine setX_r (by first | exact um_same | assumption) (by rfl) ?_)
  | ((with_reducible show appP _ _ (.ref _) _); refine appP_r (by first | exact um_same | assumption) ?_ ?_)
  | ((with_reducible show isL _ (.ref _) ∧ _); refine isL_r (by first | exact um_same | assumption) ?_)
  | ((with_reducible apply ds1); get_elem_tactic_extensible)
  | ((with_reducible apply ds2); get_elem_tactic_extensible)
  | ((with_reducible apply ds3); get_elem_tactic_extensible)
  | ((with_reducible apply tgd_nm); get_elem_tactic_extensible)
  | ((with_reducible apply tgd_tp); get_elem_tactic_extensible)
  | ((with_reducible apply ty_is); first | exact rfl | assumption)
  | ((with_reducible show (isNoneD _ = true → _) ∧ _); first | refine bx_T (by rfl) ?_ | refine bx_F (by rfl) ?_)
  | ((with_reducible show ((!isNoneD _) = true → _) ∧ _); first | refine bx_T (by rfl) ?_ | refine bx_F (by rfl) ?_)
  | with_reducible refine br_T (by decide) ?_
  | with_reducible refine br_F (by decide) ?_
  | with_reducible refine bn_T (by decide) ?_
  | with_reducible refine bn_F (by decide) ?_
  | with_reducible refine bw_T ?_
  | with_reducible refine bw_F ?_
  | with_reducible refine bx_T (by decide) ?_
  | with_reducible refine bx_F (by decide) ?_
  | ((with_reducible show _ ≤ sizeLine ∧ _); refine ax_tup (by exact Nat.le_of_ble_eq_true (by rfl)) ?_)
  | fail)
set_option Elab.async false
set_option linter.all false
set_option maxRecDepth 100000
set_option maxHeartbeats 4000000
/-! K7D: the law's likeness of data. -/
namespace K7
open PySem PySem.Spec PyProof.Rows L2 G
/-- plain data, lists and tuples at most n deep -/
def sameOk : Nat → D → Bool
  | _, .non => true
  | _, .bl _ => true
  | _, .int _ => true
  | _, .str _ => true
  | n + 1, .lst ds => decide (ds.length ≤ 1000) && ds.all (sameOk n)
  | n + 1, .tup ds => decide (ds.length ≤ 1000) && ds.all (sameOk n)
  | _, _ => false
def ds__law_like (n : Nat) : DS := fun args M Φ _ => ∃ x, args = [x, x] ∧ sameOk n x = true ∧ Φ (.bl true) M
theorem zip_self (xs : List D) : zipDs xs xs = xs.map fun d => .tup [d, d] := by
  unfold zipDs
  induction xs with
  | nil => rfl
  | cons x xs ih => simp
section
variable {T : Fm Unit} (hh : T.hot = false) {k : Nat} {P : Program} {w : World} {K : PySem.W.Frag} {mg : Str → Option Value} {base : Heap} {args : List D} {M : Ms} {Φ : PD} {Ψ : PX}
theorem all_trues {α : Type} (xs : List α) : (xs.map fun _ => true).all id = true := by
  rw [List.all_map]; exact List.all_eq_true.mpr fun _ _ => rfl
include hh in
theorem b__law_like {n : Nat} (gB : Bi mg) (c1 : ∀ m, n = m + 1 → Cal false P w K mg base "_law_like" k ["told", "due"] (ds__law_like m)) (hD : Fd T k P w K mg base n__law_like (defScope s__law_like)) (h : ds__law_like n args M Φ Ψ) : Bod T s__law_like n__law_like args M Φ Ψ := by
  obtain ⟨x, rfl, hx, q⟩ := h
  have hF := hD.fc
  have seq : ∀ (xs : List D), (x = .lst xs ∨ x = .tup xs) → Bod T s__law_like n__law_like [x, x] M Φ Ψ := by
    intro xs ht
    obtain ⟨m, rfl, hl, hall⟩ : ∃ m, n = m + 1 ∧ xs.length ≤ 1000 ∧ ∀ d ∈ xs, sameOk m d = true := by
      cases n with
      | zero => rcases ht with rfl | rfl <;> cases hx
      | succ m =>
        have hx : (decide (xs.length ≤ 1000) && xs.all (sameOk m)) = true := by rcases ht with rfl | rfl <;> exact hx
        obtain ⟨h1, h2⟩ := Bool.and_eq_true_iff.mp hx
        exact ⟨m, rfl, of_decide_eq_true h1, fun d hd => List.all_eq_true.mp h2 d hd⟩
    have c2 := c1 m rfl
    have lz : ∀ {scope : Scope} {own : List Nat} {g : Tg} {elt : Expr} {Γ Γw : Gm} {Φ : PD}, WipeS Γ own Γw → (∀ d ∈ xs, ∀ M', Sub M M' → ∃ Γ', tgD g (.tup [d, d]) Γw = some Γ' ∧ EX (T.blk scope) elt Γ' M' (fun y M2 => y = .bl true ∧ M2 = M') fun _ _ _ _ => False) → Φ (.lst ((xs.map fun _ => true).map D.bl)) M →
        lcAsk T scope own g (fun _ M Φ => Φ true M) elt Γ Φ (zipDs xs xs) (fun _ => True) M := fun hw hb q => by
      rw [zip_self]
      refine lc_mapA (fun d => .tup [d, d]) (fun _ => .bl true) (by omega) hw hb ?_
      rw [List.map_map] at q
      exact q
    rcases ht with rfl | rfl
    all_goals
      refine bod_start (by get_elem_tactic_extensible) ?_; refine ssx_cons ?_
      repeat' decreasing_trivial_pre_omega
      refine br_T (by simp) ?_
      repeat' decreasing_trivial_pre_omega
      (with_reducible show EX _ (.ListComp _ _ _ _) _ _ _ _)
      refine ex_lc hF [("a", 2), ("b", 3)] (tb_tpA hF (by repeat' (first | exact tnb_nil | apply tnb_consA hF (by get_elem_tactic_extensible))) (by rfl)) .none (ix_zip hF gB.zip ?_) (by decide +kernel) (by decide)
      repeat' decreasing_trivial_pre_omega
    · refine ⟨_, _, rfl, .inl ⟨xs, xs, rfl, rfl, lz (by get_elem_tactic_extensible) (fun d hd M' _ => ?_) ?_⟩⟩
      · repeat' decreasing_trivial_pre_omega
        exact ⟨d, rfl, hall d hd, rfl, rfl⟩
      · repeat' decreasing_trivial_pre_omega
        exact ⟨_, rfl, by rw [all_trues]; exact q⟩
    · refine ⟨_, _, rfl, .inr ⟨xs, xs, rfl, rfl, lz (by get_elem_tactic_extensible) (fun d hd M' _ => ?_) ?_⟩⟩
      · repeat' decreasing_trivial_pre_omega
        exact ⟨d, rfl, hall d hd, rfl, rfl⟩
      · repeat' decreasing_trivial_pre_omega
        exact ⟨_, rfl, by rw [all_trues]; exact q⟩
  cases x with
  | lst xs => exact seq xs (.inl rfl)
  | tup xs => exact seq xs (.inr rfl)
  | non =>
    refine bod_start (by get_elem_tactic_extensible) ?_; refine ssx_cons ?_
    repeat' decreasing_trivial_pre_omega
    exact q
  | bl b =>
    refine bod_start (by get_elem_tactic_extensible) ?_; refine ssx_cons ?_
    repeat' decreasing_trivial_pre_omega
    rw [decide_eq_true rfl]
    exact q
  | int i =>
    refine bod_start (by get_elem_tactic_extensible) ?_; refine ssx_cons ?_
    repeat' decreasing_trivial_pre_omega
    rw [decide_eq_true rfl]
    exact q
  | str z =>
    refine bod_start (by get_elem_tactic_extensible) ?_; refine ssx_cons ?_
    repeat' decreasing_trivial_pre_omega
    rw [decide_eq_true rfl]
    exact q
  | ref p => cases n <;> cases hx
  | ty p => cases n <;> cases hx
  | rol p => cases n <;> cases hx
  | ins a b c => cases n <;> cases hx
  | dic a b => cases n <;> cases hx
  | exn a b c => cases n <;> cases hx
end
end K7
end
section
set_option pp.deepTerms false
set_option pp.deepTerms.threshold 5
set_option pp.maxSteps 3000
set_option hygiene false
local macro_rules | `(tactic| get_elem_tactic_extensible) => `(tactic| (repeat' (first | with_reducible exact AtN.z | with_reducible exact AtG.z | with_reducible exact SetS.z | with_reducible exact SetSs.nil | exact WipeS.nil | with_reducible apply AtN.s | with_reducible apply AtG.s | with_reducible apply SetS.s | with_reducible apply SetSs.cons | apply WipeS.cons | exact StartS.nil | apply StartS.arg | apply StartS.var)))
local macro_rules | `(tactic| decreasing_trivial_pre_omega) => `(tactic| first
  | ((with_reducible show SSX _ _ _ _ _); first | ((with_reducible show SSX _ (_ :: _) _ _ _); refine ssx_cons ?_) | ((with_reducible show SSX _ [] _ _ _); refine ssx_nil ?_))
  | ((with_reducible show SX _ _ _ _ _); first
    | ((with_reducible show SX _ (.Return (some _) _) _ _ _); refine sx_ret ?_)
    | ((with_reducible show SX _ (.Return none _) _ _ _); refine sx_retN ?_)
    | ((with_reducible show SX _ (.If _ _ _ _) _ _ _); refine sx_if ?_)
    | ((with_reducible show SX _ (.Assign [.Name _ _] (.ListComp _ _ _ _) _) _ _ _); fail)
    | ((with_reducible show SX _ (.Assign [.Name _ _] _ _) _ _ _); refine sx_setA hD (by get_elem_tactic_extensible) ?_)
    | ((with_reducible show SX _ (.Assign [.Tuple [.Name _ _, .Name _ _] _ _] (.Tuple [_, _] _ _) _) _ _ _); refine sx_par2 hD (by get_elem_tactic_extensible) (by get_elem_tactic_extensible) (by decide) ?_)
    | ((with_reducible show SX _ (.Assign [.Tuple [.Name _ _, .Name _ _, .Name _ _] _ _] (.Tuple [_, _, _] _ _) _) _ _ _); refine sx_par3A hD (by get_elem_tactic_extensible) (by get_elem_tactic_extensible) (by get_elem_tactic_extensible) (by decide) (by decide) (by decide) ?_)
    | ((with_reducible show SX _ (.Assign [.Tuple _ _ _] _ _) _ _ _); refine sx_asg hD (tg_tpA hD (by repeat' (first | exact tn_nil | apply tn_consA hD (by get_elem_tactic_extensible))) (by rfl)) ?_)
    | ((with_reducible show SX _ (.Assign [.Subscript _ _ _] _ _) _ _ _); refine sx_subX hF ?_)
    | ((with_reducible show SX _ (.AugAssign (.Name _ _) .Add _ _) _ _ _); refine sx_augadd hD (by get_elem_tactic_extensible) (by get_elem_tactic_extensible) ?_)
    | ((with_reducible show SX _ (.Expr _ _) _ _ _); refine sx_expr ?_)
    | ((with_reducible show SX _ (.Break _) _ _ _); refine sx_break ?_)
    | ((with_reducible show SX _ (.Continue _) _ _ _); refine sx_continue ?_)
    | ((with_reducible show SX _ (.Pass _) _ _ _); refine sx_pass ?_))
  | ((with_reducible show EX _ _ _ _ _ _); first
    | ((with_reducible show EX _ (.Name _ _) _ _ _ _); refine ax_var (by first | exact hF | exact hF.blk _ | exact (hF.blk _).blk _) (by get_elem_tactic_extensible) (by get_elem_tactic_extensible) ?_)
    | ((with_reducible show EX _ (.Constant (.int _) _ _) _ _ _ _); refine ex_int ?_)
    | ((with_reducible show EX _ (.Constant (.str _) _ _) _ _ _ _); refine ex_str ?_)
    | ((with_reducible show EX _ (.Constant (.bool _) _ _) _ _ _ _); refine ex_bl ?_)
    | ((with_reducible show EX _ (.Constant .none _ _) _ _ _ _); refine ex_non ?_)
    | ((with_reducible show EX _ (.BinOp _ .Add _ _) _ _ _ _); refine ex_add ?_)
    | ((with_reducible show EX _ (.BinOp _ .Sub _ _) _ _ _ _); refine ex_sub ?_)
    | ((with_reducible show EX _ (.BinOp _ .Mult _ _) _ _ _ _); refine ex_mul ?_)
    | ((with_reducible show EX _ (.BinOp _ .Mod _ _) _ _ _ _); refine ex_modX ?_)
    | ((with_reducible show EX _ (.BinOp _ .FloorDiv _ _) _ _ _ _); refine ex_fdiv ?_)
    | ((with_reducible show EX _ (.BinOp _ .Pow _ _) _ _ _ _); refine ex_pow ?_)
    | ((with_reducible show EX _ (.UnaryOp .USub _ _) _ _ _ _); refine ex_neg ?_)
    | ((with_reducible show EX _ (.UnaryOp .Not _ _) _ _ _ _); refine ex_not ?_)
    | ((with_reducible show EX _ (.Tuple _ _ _) _ _ _ _); refine ex_tup ?_)
    | ((with_reducible show EX _ (.List (_ :: _) _) _ _ _ _); refine ex_lst ?_)
    | ((with_reducible show EX _ (.IfExp _ _ _ _) _ _ _ _); refine ex_if ?_)
    | ((with_reducible show EX _ (.Compare _ [.Eq] [_] _) _ _ _ _); refine ex_eq (by first | exact hF | exact hF.blk _ | exact (hF.blk _).blk _) ?_)
    | ((with_reducible show EX _ (.Compare _ [.NotEq] [_] _) _ _ _ _); refine ex_ne (by first | exact hF | exact hF.blk _ | exact (hF.blk _).blk _) ?_)
    | ((with_reducible show EX _ (.Compare _ [.Lt] [_] _) _ _ _ _); refine ex_lt ?_)
    | ((with_reducible show EX _ (.Compare _ [.LtE] [_] _) _ _ _ _); refine ex_le ?_)
    | ((with_reducible show EX _ (.Compare _ [.Gt] [_] _) _ _ _ _); refine ex_gt ?_)
    | ((with_reducible show EX _ (.Compare _ [.GtE] [_] _) _ _ _ _); refine ex_ge ?_)
    | ((with_reducible show EX _ (.Compare _ [.Is] [.Constant .none _ _] _) _ _ _ _); refine ex_isN ?_)
    | ((with_reducible show EX _ (.Compare _ [.IsNot] [.Constant .none _ _] _) _ _ _ _); refine ex_notN ?_)
    | ((with_reducible show EX _ (.BoolOp _ [_] _) _ _ _ _); refine ex_one ?_)
    | ((with_reducible show EX _ (.BoolOp .And _ _) _ _ _ _); refine ex_and ?_)
    | ((with_reducible show EX _ (.BoolOp .Or _ _) _ _ _ _); refine ex_or ?_)
    | ((with_reducible show EX _ (.Subscript _ (.Slice _ _ _ _) _) _ _ _ _); fail)
    | ((with_reducible show EX _ (.Subscript _ _ _) _ _ _ _); refine ex_ixX (by first | exact hF | exact hF.blk _ | exact (hF.blk _).blk _) ?_)
    | ((with_reducible show EX _ (.Call (.Name "len" _) [_] [] _) _ _ _ _); refine ex_len (by first | exact hF | exact hF.blk _ | exact (hF.blk _).blk _) gB.len ?_)
    | ((with_reducible show EX _ (.Call (.Name "int" _) [_] [] _) _ _ _ _); refine ex_int1 (by first | exact hF | exact hF.blk _ | exact (hF.blk _).blk _) gB.int ?_)
    | ((with_reducible show EX _ (.Call (.Name "abs" _) [_] [] _) _ _ _ _); refine ex_abs (by first | exact hF | exact hF.blk _ | exact (hF.blk _).blk _) gB.abs ?_)
    | ((with_reducible show EX _ (.Call (.Name "list" _) [_] [] _) _ _ _ _); refine ex_list1 (by first | exact hF | exact hF.blk _ | exact (hF.blk _).blk _) gB.list ?_)
    | ((with_reducible show EX _ (.Call (.Name "tuple" _) [_] [] _) _ _ _ _); refine ex_tuple1 (by first | exact hF | exact hF.blk _ | exact (hF.blk _).blk _) gB.tuple ?_)
    | ((with_reducible show EX _ (.Call (.Name "sum" _) [_] [] _) _ _ _ _); refine ex_sum (by first | exact hF | exact hF.blk _ | exact (hF.blk _).blk _) gB.sum ?_)
    | ((with_reducible show EX _ (.Call (.Name "max" _) [_] [] _) _ _ _ _); refine ex_max (by first | exact hF | exact hF.blk _ | exact (hF.blk _).blk _) gB.max ?_)
    | ((with_reducible show EX _ (.Call (.Name "all" _) [_] [] _) _ _ _ _); refine ex_all (by first | exact hF | exact hF.blk _ | exact (hF.blk _).blk _) gB.all ?_)
    | ((with_reducible show EX _ (.Call (.Name "bool" _) [_] [] _) _ _ _ _); refine ex_bool1 (by first | exact hF | exact hF.blk _ | exact (hF.blk _).blk _) gB.bool ?_)
    | ((with_reducible show EX _ (.Call (.Name "max" _) [_, _] [] _) _ _ _ _); refine ex_max2 (by first | exact hF | exact hF.blk _ | exact (hF.blk _).blk _) gB.max ?_)
    | ((with_reducible show EX _ (.Call (.Name "gcd" _) [_, _] [] _) _ _ _ _); refine ex_gcd (by first | exact hF | exact hF.blk _ | exact (hF.blk _).blk _) gGcd ?_)
    | ((with_reducible show EX _ (.Call (.Name "isqrt" _) [_] [] _) _ _ _ _); refine ex_isqrt (by first | exact hF | exact hF.blk _ | exact (hF.blk _).blk _) gIsqrt ?_)
    | ((with_reducible show EX _ (.Call (.Name "sorted" _) [_] [_] _) _ _ _ _); refine ex_sortR (by first | exact hF | exact hF.blk _ | exact (hF.blk _).blk _) gB.sorted ?_)
    | ((with_reducible show EX _ (.Call (.Name "isinstance" _) [_, .Name "list" _] [] _) _ _ _ _); refine ex_isi (by first | exact hF | exact hF.blk _ | exact (hF.blk _).blk _) .lst gB.isinstance gB.list ?_)
    | ((with_reducible show EX _ (.Call (.Name "isinstance" _) [_, .Name "tuple" _] [] _) _ _ _ _); refine ex_isi (by first | exact hF | exact hF.blk _ | exact (hF.blk _).blk _) .tup gB.isinstance gB.tuple ?_)
    | ((with_reducible show EX _ (.Call (.Name "isinstance" _) [_, .Name "int" _] [] _) _ _ _ _); refine ex_isi (by first | exact hF | exact hF.blk _ | exact (hF.blk _).blk _) .int gB.isinstance gB.int ?_)
    | ((with_reducible show EX _ (.Call (.Name "isinstance" _) [_, .Name "bool" _] [] _) _ _ _ _); refine ex_isi (by first | exact hF | exact hF.blk _ | exact (hF.blk _).blk _) .bl gB.isinstance gB.bool ?_)
    | ((with_reducible show EX _ (.Call (.Name "isinstance" _) [_, .Name "str" _] [] _) _ _ _ _); refine ex_isi (by first | exact hF | exact hF.blk _ | exact (hF.blk _).blk _) .str gB.isinstance gB.str ?_)
    | ((with_reducible show EX _ (.Call (.Name "isinstance" _) [_, .Name "dict" _] [] _) _ _ _ _); refine ex_isi (by first | exact hF | exact hF.blk _ | exact (hF.blk _).blk _) .dic gB.isinstance gB.dict ?_)
    | ((with_reducible show EX _ (.Call (.Name "isinstance" _) [_, .Tuple [.Name "list" _, .Name "tuple" _] _ _] [] _) _ _ _ _); refine ex_isi2 (by first | exact hF | exact hF.blk _ | exact (hF.blk _).blk _) .lst .tup gB.isinstance gB.list gB.tuple ?_)
    | ((with_reducible show EX _ (.Call (.Name "isinstance" _) [_, .Tuple [.Name "list" _, .Name "tuple" _, .Name "dict" _] _ _] [] _) _ _ _ _); refine ex_isi3 (by first | exact hF | exact hF.blk _ | exact (hF.blk _).blk _) .lst .tup .dic gB.isinstance gB.list gB.tuple gB.dict ?_)
    | ((with_reducible show EX _ (.Call (.Attribute _ "append" _) [_] [] _) _ _ _ _); refine ex_append (by first | exact hF | exact hF.blk _ | exact (hF.blk _).blk _) ?_)
    | ((with_reducible show EX _ (.Call (.Name _ _) (_ :: _) [] _) _ _ _ _); refine ex_callF (by first | exact hF | exact hF.blk _ | exact (hF.blk _).blk _) (by with_reducible assumption) (by omega) ?_))
  | ((with_reducible show AX _ _ _ _ _ _); first | ((with_reducible show AX _ (_ :: _) _ _ _ _); refine ax_cons ?_) | ((with_reducible show AX _ [] _ _ _ _); refine ax_nil ?_))
  | ((with_reducible show TX _ _ _ _ _ _); first
    | ((with_reducible show TX _ (.Compare _ [.Eq] [_] _) _ _ _ _); refine tx_eq (by first | exact hF | exact hF.blk _ | exact (hF.blk _).blk _) ?_)
    | ((with_reducible show TX _ (.Compare _ [.NotEq] [_] _) _ _ _ _); refine tx_ne (by first | exact hF | exact hF.blk _ | exact (hF.blk _).blk _) ?_)
    | ((with_reducible show TX _ (.Compare _ [.Lt] [_] _) _ _ _ _); refine tx_lt ?_)
    | ((with_reducible show TX _ (.Compare _ [.LtE] [_] _) _ _ _ _); refine tx_le ?_)
    | ((with_reducible show TX _ (.Compare _ [.Gt] [_] _) _ _ _ _); refine tx_gt ?_)
    | ((with_reducible show TX _ (.Compare _ [.GtE] [_] _) _ _ _ _); refine tx_ge ?_)
    | ((with_reducible show TX _ (.Compare _ [.Is] [.Constant .none _ _] _) _ _ _ _); refine tx_isN ?_)
    | ((with_reducible show TX _ (.Compare _ [.IsNot] [.Constant .none _ _] _) _ _ _ _); refine tx_notN ?_)
    | ((with_reducible show TX _ (.UnaryOp .Not _ _) _ _ _ _); refine tx_not ?_)
    | ((with_reducible show TX _ (.BoolOp .And _ _) _ _ _ _); refine WWX.tx (wx_and ?_))
    | ((with_reducible show TX _ (.BoolOp .Or _ _) _ _ _ _); refine WWX.tx (wx_or ?_))
    | ((with_reducible show TX _ (.Compare _ _ _ _) _ _ _ _); fail)
    | ((with_reducible show TX _ (.Call (.Name "isinstance" _) _ _ _) _ _ _ _); refine tx_bl ?_)
    | ((with_reducible show TX _ (_) _ _ _ _); refine tx_tru (by first | exact hF | exact hF.blk _ | exact (hF.blk _).blk _) (fun _ _ => rfl) ?_))
  | ((with_reducible show WWX _ _ _ _ _ _); first | ((with_reducible show WWX _ (.BoolOp .And [_] _) _ _ _ _); refine wx_and1 ?_) | ((with_reducible show WWX _ (.BoolOp .Or [_] _) _ _ _ _); refine wx_or1 ?_) | ((with_reducible show WWX _ (.BoolOp .And _ _) _ _ _ _); refine wx_and ?_) | ((with_reducible show WWX _ (.BoolOp .Or _ _) _ _ _ _); refine wx_or ?_))
  | with_reducible refine addP_ii ?_
  | with_reducible refine subP_ii ?_
  | with_reducible refine mulP_ii (by first | assumption | exact cm_l (by omega) (by omega) | exact cm_r (by omega) (by omega)) ?_
  | with_reducible refine modX_p (by first | assumption | decide | omega) ?_
  | with_reducible refine fdivP_ii (by first | assumption | exact cd_i (by omega) (by omega)) ?_
  | with_reducible refine powP_ii (by unfold CPow; decide) ?_
  | with_reducible refine negP_i ?_
  | with_reducible refine eqP_ii ?_
  | with_reducible refine eqP_ss ?_
  | with_reducible refine eqP_bb ?_
  | with_reducible refine neP_ii ?_
  | with_reducible refine neP_ss ?_
  | with_reducible refine neP_bb ?_
  | with_reducible refine ltP_ii ?_
  | with_reducible refine intP_i ?_
  | with_reducible refine intP_b ?_
  | with_reducible refine absP_i ?_
  | with_reducible refine boolP_b ?_
  | with_reducible refine lenP_t ?_
  | with_reducible refine lenP_l ?_
  | with_reducible refine lenP_rl ?_
  | with_reducible refine augP_ii ?_
  | with_reducible refine listP_l ?_
  | with_reducible refine listP_t ?_
  | with_reducible refine tupP_l ?_
  | with_reducible refine tupP_t ?_
  | with_reducible refine tru_i ?_
  | with_reducible refine tru_b ?_
  | ((with_reducible show lenP _ _ [.ref _]); refine lenP_r (by first | exact um_same | assumption) ?_)
  | ((with_reducible show ixX _ _ (.tup _) (.int _)); refine ixX_t (by rfl) ?_)
  | ((with_reducible show ixX _ _ (.lst _) (.int _)); refine ixX_l (by rfl) ?_)
  | ((with_reducible show ixX _ _ (.ref _) (.int _)); refine ixX_r (by first | exact um_same | assumption) (by rfl) ?_)
  | ((with_reducible show setX _ _ (.ref _) (.int _) _); refine setX_r (by first | exact um_same | assumption) (by rfl) ?_)
  | ((with_reducible show appP _ _ (.ref _) _); refine appP_r (by first | exact um_same | assumption) ?_ ?_)
  | ((with_reducible show isL _ (.ref _) ∧ _); refine isL_r (by first | exact um_same | assumption) ?_)
  | ((with_reducible apply ds1); get_elem_tactic_extensible)
  | ((with_reducible apply ds2); get_elem_tactic_extensible)
  | ((with_reducible apply ds3); get_elem_tactic_extensible)
  | ((with_reducible apply tgd_nm); get_elem_tactic_extensible)
  | ((with_reducible apply tgd_tp); get_elem_tactic_extensible)
  | ((with_reducible apply ty_is); first | exact rfl | assumption)
  | ((with_reducible show (isNoneD _ = true → _) ∧ _); first | refine bx_T (by rfl) ?_ | refine bx_F (by rfl) ?_)
  | ((with_reducible show ((!isNoneD _) = true → _) ∧ _); first | refine bx_T (by rfl) ?_ | refine bx_F (by rfl) ?_)
  | with_reducible refine br_T (by decide) ?_
  | with_reducible refine br_F (by decide) ?_
  | with_reducible refine bn_T (by decide) ?_
  | with_reducible refine bn_F (by decide) ?_
  | with_reducible refine bw_T ?_
  | with_reducible refine bw_F ?_
  | with_reducible refine bx_T (by decide) ?_
  | with_reducible refine bx_F (by decide) ?_
  | ((with_reducible show _ ≤ sizeLine ∧ _); refine ax_tup (by exact Nat.le_of_ble_eq_true (by rfl)) ?_)
  | fail)
set_option Elab.async false
set_option linter.all false
set_option maxRecDepth 100000
set_option maxHeartbeats 4000000
/-! K7E: the law's names. -/
namespace K7
open PySem PySem.Spec PyProof.Rows L2 G
def rootJ (n : Int) : Nat → Int → Option Nat
  | 0, _ => none
  | j + 1, x => if (j : Int) * j ≤ n ∧ (j : Int) * j = x then some j else rootJ n j x
def topJ (n : Int) : Nat → Nat
  | 0 => 0
  | j + 1 => if (j : Int) * j ≤ n then j else topJ n j
def dOf (n a b c : Int) : Int := match rootJ n (n.toNat + 1) (n - a * a - b * b - c * c) with
  | some k => k
  | none => a + 1
def candL (a b c d : Int) : List Q4 := if 0 < d then [⟨a, b, c, d⟩, ⟨a, b, c, -d⟩] else [⟨a, b, c, d⟩]
def okQ (d a : Int) (q : Q4) : Bool := decide (d ≤ a) && (decide (conQ q = 1) && decide (grtL q = q))
def cand (n a b c : Int) : List Q4 := (candL a b c (dOf n a b c)).filter (okQ (dOf n a b c) a)
def rawC (n a b : Int) : List Q4 := (irg (-a) (2 * a + 1).toNat).flatMap (cand n a b)
def rawB (n a : Int) : List Q4 := (irg (-a) (2 * a + 1).toNat).flatMap (rawC n a)
def rawA (n : Int) : List Q4 := (irg 1 (topJ n (n.toNat + 1))).flatMap (rawB n)
/-- the law's own names -/
def namesL (n : Int) : List Q4 := (rawA n).mergeSort (leQ true)
def ds__law_names : DS := fun args M Φ _ => ∃ n : Int, args = [.int n] ∧ 0 ≤ n ∧ n ≤ 1000 ∧ (rawA n).length ≤ 10000 ∧ Φ (.lst ((namesL n).map qD)) M
theorem topJ_le (n : Int) : ∀ j, topJ n j ≤ j
  | 0 => Nat.le_refl _
  | j + 1 => by
    show (if (j : Int) * j ≤ n then j else topJ n j) ≤ j + 1
    have := topJ_le n j
    split <;> omega
theorem flat_mem_len {α β : Type} (f : α → List β) {xs : List α} {x : α} (h : x ∈ xs) : (f x).length ≤ (xs.flatMap f).length := by
  obtain ⟨ys, zs, rfl⟩ := List.append_of_mem h
  rw [List.flatMap_append, List.flatMap_cons, List.length_append, List.length_append]
  omega
theorem cut_cand (a b c d : Int) : cutL [qD ⟨a, b, c, d⟩, .tup [.int a, .int b, .int c, .int (0 - d)]] none (some (1 + if decide (0 < d) then 1 else 0)) = (candL a b c d).map qD := by
  unfold candL
  by_cases h : 0 < d
  · rw [if_pos (decide_eq_true h), if_pos h]
    show [_, _] = [_, _]
    rw [Int.zero_sub]
  · rw [if_neg (by simpa using h), if_neg h]
    rfl
section
variable {T : Fm Unit} (hh : T.hot = false) {k : Nat} {P : Program} {w : World} {K : PySem.W.Frag} {mg : Str → Option Value} {base : Heap} {args : List D} {M : Ms} {Φ : PD} {Ψ : PX}
include hh in
theorem b__law_names (gB : Bi mg) (c1 : Cal false P w K mg base "_law_common" k ["amounts"] ds__law_common) (c2 : Cal false P w K mg base "_law_greatest" k ["quad"] ds__law_greatest) (hD : Fd T k P w K mg base n__law_names (defScope s__law_names)) (h : ds__law_names args M Φ Ψ) : Bod T s__law_names n__law_names args M Φ Ψ := by
  obtain ⟨n, rfl, hn0, hn1, hlen, hq⟩ := h
  have hF := hD.fc
  refine bod_start (by get_elem_tactic_extensible) ?_; refine ssx_cons ?_
  repeat' decreasing_trivial_pre_omega
  refine ex_dict0M (fun r hr => ?_)
  repeat' decreasing_trivial_pre_omega
  refine ex_lstM ?_
  repeat' decreasing_trivial_pre_omega
  refine fun p hp => ?_
  obtain ⟨hpr, hp⟩ := um_none hp
  have hrp : r ≠ p := fun z => hpr z.symm
  repeat' ((fail_if_success (with_reducible show SSX _ _ _ _ _)); decreasing_trivial_pre_omega)
  -- the roots
  refine ssx_cut (fun Γ' M' => ∃ (kvs : KvD) (o : Option D), (∀ x, kget kvs (.inl x) = (rootJ n (n.toNat + 1) x).map fun j => .int (j : Int)) ∧ Γ' = [some (.int n), some (.ref r), some (.ref p), some (.int (topJ n (n.toNat + 1))), o, none, none, none, none, none] ∧ M' = um (um M r (dMO kvs)) p (.lst [])) ?_ ?_
  · refine sx_forA hD (irg 0 (n.toNat + 1)) D.int (fun ys Γ M' => ∃ (kvs : KvD) (o : Option D), kvs.length ≤ ys.length ∧ (∀ x, kget kvs (.inl x) = (rootJ n ys.length x).map fun j => .int (j : Int)) ∧ Γ = [some (.int n), some (.ref r), some (.ref p), some (.int (topJ n ys.length)), o, none, none, none, none, none] ∧ M' = um (um M r (dMO kvs)) p (.lst [])) (fun _ => True) (tg_nmA hD (by get_elem_tactic_extensible)) (ix_rng1 hF gB.range ?_) (fun _ _ _ _ => trivial) ?_ ?_
    · repeat' decreasing_trivial_pre_omega
      refine ⟨_, rfl, by omega, by omega, ?_⟩
      rw [rngD_irg]
      exact ⟨by rw [show (n + 1).toNat = n.toNat + 1 by omega], fun _ _ => trivial, [], none, Nat.le_refl _, fun x => rfl, rfl, rfl⟩
    · rintro ys x zs Γ M' he ⟨kvs, o, hk, hg, rfl, rfl⟩
      have hx : x = (ys.length : Int) := by
        have h1 : (irg 0 (n.toNat + 1))[ys.length]? = some x := by rw [he]; simp
        unfold irg at h1
        rw [List.getElem?_map] at h1
        obtain ⟨i, h2, h3⟩ := Option.map_eq_some_iff.mp h1
        have h4 := List.getElem?_eq_some_iff.mp h2
        obtain ⟨h5, h6⟩ := h4
        rw [List.getElem_range] at h6
        omega
      have hyl : ys.length < n.toNat + 1 := by
        have := congrArg List.length he
        rw [irg_len, List.length_append, List.length_cons] at this
        omega
      have hs1 : -18446744073709551616 < x := by omega
      have hs2 : x < 18446744073709551616 := by omega
      repeat' decreasing_trivial_pre_omega
      refine br_d (fun hc => ?_) (fun hc => ?_)
      · repeat' decreasing_trivial_pre_omega
        refine setX_di (kvs := kvs) (um_get hrp um_same) (size_le (by omega)) ?_
        repeat' decreasing_trivial_pre_omega
        rw [um_swap (fun z => hrp z.symm), um_um]
        refine ⟨kput kvs (.inl (x * x)) (.int x), some (.int x), ?_, fun y => ?_, ?_, rfl⟩
        · have := @kput_len kvs (.inl (x * x)) (.int x)
          rw [List.length_append]; simp only [List.length_cons, List.length_nil]; omega
        · rw [kget_put, List.length_append, List.length_cons, List.length_nil]
          show _ = (if ((ys.length : Nat) : Int) * (ys.length : Nat) ≤ n ∧ ((ys.length : Nat) : Int) * (ys.length : Nat) = y then some ys.length else rootJ n ys.length y).map _
          rw [← hx]
          by_cases hy : x * x = y
          · rw [if_pos (by rw [hy]), if_pos ⟨hc, hy⟩, hx]; rfl
          · rw [if_neg (fun z => hy (Sum.inl.inj z).symm), if_neg (fun z => hy z.2)]; exact hg y
        · rw [List.length_append, List.length_cons, List.length_nil]
          show _ = ([some (.int n), some (.ref r), some (.ref p), some (.int ((if ((ys.length : Nat) : Int) * (ys.length : Nat) ≤ n then ys.length else topJ n ys.length : Nat) : Int)), some (.int x), none, none, none, none, none] : Gm)
          rw [← hx, if_pos hc, hx]
      · repeat' decreasing_trivial_pre_omega
        refine ⟨kvs, some (.int x), ?_, fun y => ?_, ?_, rfl⟩
        · rw [List.length_append]; simp only [List.length_cons, List.length_nil]; omega
        · rw [List.length_append, List.length_cons, List.length_nil]
          show _ = (if ((ys.length : Nat) : Int) * (ys.length : Nat) ≤ n ∧ ((ys.length : Nat) : Int) * (ys.length : Nat) = y then some ys.length else rootJ n ys.length y).map _
          rw [← hx, if_neg (fun z => hc z.1)]; exact hg y
        · rw [List.length_append, List.length_cons, List.length_nil]
          show _ = ([some (.int n), some (.ref r), some (.ref p), some (.int ((if ((ys.length : Nat) : Int) * (ys.length : Nat) ≤ n then ys.length else topJ n ys.length : Nat) : Int)), some (.int x), none, none, none, none, none] : Gm)
          rw [← hx, if_neg hc]
    · rintro Γ M' ⟨kvs, o, hk, hg, rfl, rfl⟩
      rw [irg_len] at hg ⊢
      exact ⟨kvs, o, hg, rfl, rfl⟩
  rintro Γ' M' ⟨kvs, o, hg, rfl, rfl⟩
  have htop := topJ_le n (n.toNat + 1)
  refine ssx_cut (fun Γ' M' => ∃ (o1 o2 o3 o4 o5 : Option D), Γ' = [some (.int n), some (.ref r), some (.ref p), some (.int (topJ n (n.toNat + 1))), o, o1, o2, o3, o4, o5] ∧ M' = um (um M r (dMO kvs)) p (.lst ((rawA n).map qD))) ?_ ?_
  · refine sx_forA hD (irg 1 (topJ n (n.toNat + 1))) D.int (fun ys Γ M' => ∃ (o1 o2 o3 o4 o5 : Option D), Γ = [some (.int n), some (.ref r), some (.ref p), some (.int (topJ n (n.toNat + 1))), o, o1, o2, o3, o4, o5] ∧ M' = um (um M r (dMO kvs)) p (.lst ((ys.flatMap (rawB n)).map qD))) (fun _ => True) (tg_nmA hD (by get_elem_tactic_extensible)) (ix_rng2 hF gB.range ?_) (fun _ _ _ _ => trivial) ?_ ?_
    · repeat' decreasing_trivial_pre_omega
      refine ⟨_, _, rfl, ⟨by omega, by omega, by omega, by omega⟩, ?_⟩
      rw [rngD_irg]
      exact ⟨by rw [show ((topJ n (n.toNat + 1) : Int) + 1 - 1).toNat = topJ n (n.toNat + 1) by omega], fun _ _ => trivial, none, none, none, none, none, rfl, rfl⟩
    · rintro ys a zs Γ M' he ⟨o1, o2, o3, o4, o5, rfl, rfl⟩
      have ha := irg_mem (show a ∈ irg 1 (topJ n (n.toNat + 1)) by rw [he]; simp)
      have hA : (((ys ++ [a]).flatMap (rawB n))).length ≤ 10000 := flat_le (rawB n) hlen (by rw [he]; exact ⟨zs, by simp⟩)
      rw [List.flatMap_append, List.flatMap_cons, List.flatMap_nil, List.append_nil, List.length_append] at hA
      repeat' decreasing_trivial_pre_omega
      refine sx_forA hD (irg (-a) (2 * a + 1).toNat) D.int (fun ys2 Γ M' => ∃ (o2 o3 o4 o5 : Option D), Γ = [some (.int n), some (.ref r), some (.ref p), some (.int (topJ n (n.toNat + 1))), o, some (.int a), o2, o3, o4, o5] ∧ M' = um (um M r (dMO kvs)) p (.lst ((ys.flatMap (rawB n) ++ ys2.flatMap (rawC n a)).map qD))) (fun _ => True) (tg_nmA hD (by get_elem_tactic_extensible)) (ix_rng2 hF gB.range ?_) (fun _ _ _ _ => trivial) ?_ ?_
      · repeat' decreasing_trivial_pre_omega
        refine ⟨_, _, rfl, ⟨by omega, by omega, by omega, by omega⟩, ?_⟩
        rw [rngD_irg]
        exact ⟨by rw [show (0 : Int) - a = -a by omega, show (a + 1 - -a).toNat = (2 * a + 1).toNat by omega], fun _ _ => trivial, _, _, _, _, rfl, by simp⟩
      · rintro ys2 b zs2 Γ M' he2 ⟨o2, o3, o4, o5, rfl, rfl⟩
        have hb := irg_mem (show b ∈ irg (-a) (2 * a + 1).toNat by rw [he2]; simp)
        have hB : (((ys2 ++ [b]).flatMap (rawC n a))).length ≤ (rawB n a).length := flat_le (rawC n a) (Nat.le_refl _) (by rw [he2]; exact ⟨zs2, by simp⟩)
        rw [List.flatMap_append, List.flatMap_cons, List.flatMap_nil, List.append_nil, List.length_append] at hB
        repeat' decreasing_trivial_pre_omega
        refine sx_forA hD (irg (-a) (2 * a + 1).toNat) D.int (fun ys3 Γ M' => ∃ (o3 o4 o5 : Option D), Γ = [some (.int n), some (.ref r), some (.ref p), some (.int (topJ n (n.toNat + 1))), o, some (.int a), some (.int b), o3, o4, o5] ∧ M' = um (um M r (dMO kvs)) p (.lst ((ys.flatMap (rawB n) ++ (ys2.flatMap (rawC n a) ++ ys3.flatMap (cand n a b))).map qD))) (fun _ => True) (tg_nmA hD (by get_elem_tactic_extensible)) (ix_rng2 hF gB.range ?_) (fun _ _ _ _ => trivial) ?_ ?_
        · repeat' decreasing_trivial_pre_omega
          refine ⟨_, _, rfl, ⟨by omega, by omega, by omega, by omega⟩, ?_⟩
          rw [rngD_irg]
          exact ⟨by rw [show (0 : Int) - a = -a by omega, show (a + 1 - -a).toNat = (2 * a + 1).toNat by omega], fun _ _ => trivial, _, _, _, rfl, by simp⟩
        · rintro ys3 c zs3 Γ M' he3 ⟨o3, o4, o5, rfl, rfl⟩
          have hc := irg_mem (show c ∈ irg (-a) (2 * a + 1).toNat by rw [he3]; simp)
          have hC : (((ys3 ++ [c]).flatMap (cand n a b))).length ≤ (rawC n a b).length := flat_le (cand n a b) (Nat.le_refl _) (by rw [he3]; exact ⟨zs3, by simp⟩)
          rw [List.flatMap_append, List.flatMap_cons, List.flatMap_nil, List.append_nil, List.length_append] at hC
          repeat' decreasing_trivial_pre_omega
          refine ex_dget2 hF ?_
          repeat' decreasing_trivial_pre_omega
          refine ⟨⟨kvs, .inr ⟨r, rfl, um_get hrp um_same⟩⟩, ?_⟩
          repeat' decreasing_trivial_pre_omega
          refine ⟨kvs, .inl (n - a * a - b * b - c * c), .inr ⟨r, rfl, um_get hrp um_same⟩, rfl, ?_⟩
          have hd : (kget kvs (.inl (n - a * a - b * b - c * c))).getD (.int (a + 1)) = .int (dOf n a b c) := by
            rw [hg]; unfold dOf
            cases rootJ n (n.toNat + 1) (n - a * a - b * b - c * c) <;> rfl
          rw [hd]
          repeat' decreasing_trivial_pre_omega
          generalize hdd : dOf n a b c = d
          refine sx_forA hD (candL a b c d) qD (fun ys4 Γ M' => ∃ (o5 : Option D), Γ = [some (.int n), some (.ref r), some (.ref p), some (.int (topJ n (n.toNat + 1))), o, some (.int a), some (.int b), some (.int c), some (.int d), o5] ∧ M' = um (um M r (dMO kvs)) p (.lst ((ys.flatMap (rawB n) ++ (ys2.flatMap (rawC n a) ++ (ys3.flatMap (cand n a b) ++ ys4.filter (okQ d a)))).map qD))) (fun _ => True) (tg_nmA hD (by get_elem_tactic_extensible)) (ix_seqD hF (ex_slice hF ?_)) (fun _ _ _ _ => trivial) ?_ ?_
          · repeat' decreasing_trivial_pre_omega
            refine ox_none (ox_some ?_)
            repeat' decreasing_trivial_pre_omega
            exact ⟨_, rfl, _, rfl, cut_cand a b c d, fun _ _ => trivial, _, rfl, by simp⟩
          · rintro ys4 q zs4 Γ M' he4 ⟨o5, rfl, rfl⟩
            have hQ : ys4.length ≤ 2 := by
              have h1 := congrArg List.length he4
              rw [List.length_append, List.length_cons] at h1
              have h2 : (candL a b c d).length ≤ 2 := by unfold candL; split <;> simp
              omega
            have hQ2 : (ys4.filter (okQ d a)).length ≤ 2 := Nat.le_trans (List.length_filter_le _ _) hQ
            have keep : ∀ f : Bool, okQ d a q = f → ∀ M'', M'' = um (um M r (dMO kvs)) p (.lst ((ys.flatMap (rawB n) ++ (ys2.flatMap (rawC n a) ++ (ys3.flatMap (cand n a b) ++ (ys4.filter (okQ d a) ++ if f then [q] else [])))).map qD)) → M'' = um (um M r (dMO kvs)) p (.lst ((ys.flatMap (rawB n) ++ (ys2.flatMap (rawC n a) ++ (ys3.flatMap (cand n a b) ++ (ys4 ++ [q]).filter (okQ d a)))).map qD)) := by
              intro f hf M'' e
              rw [e, List.filter_append, List.filter_cons, hf]
              cases f <;> rfl
            repeat' decreasing_trivial_pre_omega
            refine br_d (fun h1 => ?_) (fun h1 => ?_)
            · repeat' decreasing_trivial_pre_omega
              refine ⟨q, rfl, ?_⟩
              repeat' decreasing_trivial_pre_omega
              refine br_d (fun h2 => ?_) (fun h2 => ?_)
              · repeat' decreasing_trivial_pre_omega
                refine ⟨q, rfl, ?_⟩
                repeat' decreasing_trivial_pre_omega
                refine eqP_q ?_
                refine br_d (fun h3 => ?_) (fun h3 => ?_)
                · repeat' decreasing_trivial_pre_omega
                  · rw [List.length_map, List.length_append, List.length_append, List.length_append]
                    have : (ys3.flatMap (cand n a b)).length ≤ 10000 := by omega
                    exact Nat.lt_of_lt_of_le (show _ < 16777216 by omega) (size_le (Nat.le_refl _))
                  · repeat' decreasing_trivial_pre_omega
                    rw [um_um]
                    refine ⟨_, rfl, keep true (by unfold okQ; rw [decide_eq_true h1, decide_eq_true h2, decide_eq_true h3]; rfl) _ ?_⟩
                    simp [List.map_append]
                · repeat' decreasing_trivial_pre_omega
                  exact ⟨_, rfl, keep false (by unfold okQ; rw [decide_eq_false h3, Bool.and_false, Bool.and_false]) _ (by simp)⟩
              · repeat' decreasing_trivial_pre_omega
                exact ⟨_, rfl, keep false (by unfold okQ; rw [decide_eq_false h2, Bool.false_and, Bool.and_false]) _ (by simp)⟩
            · repeat' decreasing_trivial_pre_omega
              exact ⟨_, rfl, keep false (by unfold okQ; rw [decide_eq_false h1, Bool.false_and]) _ (by simp)⟩
          · rintro Γ M' ⟨o5, rfl, rfl⟩
            repeat' decreasing_trivial_pre_omega
            refine ⟨_, _, _, rfl, ?_⟩
            rw [List.flatMap_append, List.flatMap_cons, List.flatMap_nil, List.append_nil]
            have e : cand n a b c = (candL a b c d).filter (okQ d a) := by unfold cand; rw [hdd]
            rw [e]
        · rintro Γ M' ⟨o3, o4, o5, rfl, rfl⟩
          repeat' decreasing_trivial_pre_omega
          exact ⟨_, _, _, _, rfl, by rw [List.flatMap_append, List.flatMap_cons, List.flatMap_nil, List.append_nil]; rfl⟩
      · rintro Γ M' ⟨o2, o3, o4, o5, rfl, rfl⟩
        repeat' decreasing_trivial_pre_omega
        exact ⟨_, _, _, _, _, rfl, by rw [List.flatMap_append, List.flatMap_cons, List.flatMap_nil, List.append_nil]; rfl⟩
    · rintro Γ M' ⟨o1, o2, o3, o4, o5, rfl, rfl⟩
      exact ⟨_, _, _, _, _, rfl, rfl⟩
  rintro Γ' M' ⟨o1, o2, o3, o4, o5, rfl, rfl⟩
  refine ssx_cons (sx_ret (ex_drop ?_))
  repeat' decreasing_trivial_pre_omega
  refine sortDP_q (qs := rawA n) (lsM_ref um_same) ⟨M, ?_, hq⟩
  exact sub_um2 hp (sub_um hr)
end
end K7
end
section
set_option pp.deepTerms false
set_option pp.deepTerms.threshold 5
set_option pp.maxSteps 3000
set_option hygiene false
local macro_rules | `(tactic| get_elem_tactic_extensible) => `(tactic| (repeat' (first | with_reducible exact AtN.z | with_reducible exact AtG.z | with_reducible exact SetS.z | with_reducible exact SetSs.nil | exact WipeS.nil | with_reducible apply AtN.s | with_reducible apply AtG.s | with_reducible apply SetS.s | with_reducible apply SetSs.cons | apply WipeS.cons | exact StartS.nil | apply StartS.arg | apply StartS.var)))
local macro_rules | `(tactic| decreasing_trivial_pre_omega) => `(tactic| first
  | ((with_reducible show SSX _ _ _ _ _); first | ((with_reducible show SSX _ (_ :: _) _ _ _); refine ssx_cons ?_) | ((with_reducible show SSX _ [] _ _ _); refine ssx_nil ?_))
  | ((with_reducible show SX _ _ _ _ _); first
    | ((with_reducible show SX _ (.Return (some _) _) _ _ _); refine sx_ret ?_)
    | ((with_reducible show SX _ (.Return none _) _ _ _); refine sx_retN ?_)
    | ((with_reducible show SX _ (.If _ _ _ _) _ _ _); refine sx_if ?_)
    | ((with_reducible show SX _ (.Assign [.Name _ _] (.ListComp _ _ _ _) _) _ _ _); fail)
    | ((with_reducible show SX _ (.Assign [.Name _ _] _ _) _ _ _); refine sx_setA hD (by get_elem_tactic_extensible) ?_)
    | ((with_reducible show SX _ (.Assign [.Tuple [.Name _ _, .Name _ _] _ _] (.Tuple [_, _] _ _) _) _ _ _); refine sx_par2 hD (by get_elem_tactic_extensible) (by get_elem_tactic_extensible) (by decide) ?_)
    | ((with_reducible show SX _ (.Assign [.Tuple [.Name _ _, .Name _ _, .Name _ _] _ _] (.Tuple [_, _, _] _ _) _) _ _ _); refine sx_par3A hD (by get_elem_tactic_extensible) (by get_elem_tactic_extensible) (by get_elem_tactic_extensible) (by decide) (by decide) (by decide) ?_)
    | ((with_reducible show SX _ (.Assign [.Tuple _ _ _] _ _) _ _ _); refine sx_asg hD (tg_tpA hD (by repeat' (first | exact tn_nil | apply tn_consA hD (by get_elem_tactic_extensible))) (by rfl)) ?_)
    | ((with_reducible show SX _ (.Assign [.Subscript _ _ _] _ _) _ _ _); refine sx_subX hF ?_)
    | ((with_reducible show SX _ (.AugAssign (.Name _ _) .Add _ _) _ _ _); refine sx_augadd hD (by get_elem_tactic_extensible) (by get_elem_tactic_extensible) ?_)
    | ((with_reducible show SX _ (.Expr _ _) _ _ _); refine sx_expr ?_)
    | ((with_reducible show SX _ (.Break _) _ _ _); refine sx_break ?_)
    | ((with_reducible show SX _ (.Continue _) _ _ _); refine sx_continue ?_)
    | ((with_reducible show SX _ (.Pass _) _ _ _); refine sx_pass ?_))
  | ((with_reducible show EX _ _ _ _ _ _); first
    | ((with_reducible show EX _ (.Name _ _) _ _ _ _); refine ax_var (by first | exact hF | exact hF.blk _ | exact (hF.blk _).blk _) (by get_elem_tactic_extensible) (by get_elem_tactic_extensible) ?_)
    | ((with_reducible show EX _ (.Constant (.int _) _ _) _ _ _ _); refine ex_int ?_)
    | ((with_reducible show EX _ (.Constant (.str _) _ _) _ _ _ _); refine ex_str ?_)
    | ((with_reducible show EX _ (.Constant (.bool _) _ _) _ _ _ _); refine ex_bl ?_)
    | ((with_reducible show EX _ (.Constant .none _ _) _ _ _ _); refine ex_non ?_)
    | ((with_reducible show EX _ (.BinOp _ .Add _ _) _ _ _ _); refine ex_add ?_)
    | ((with_reducible show EX _ (.BinOp _ .Sub _ _) _ _ _ _); refine ex_sub ?_)
    | ((with_reducible show EX _ (.BinOp _ .Mult _ _) _ _ _ _); refine ex_mul ?_)
    | ((with_reducible show EX _ (.BinOp _ .Mod _ _) _ _ _ _); refine ex_modX ?_)
    | ((with_reducible show EX _ (.BinOp _ .FloorDiv _ _) _ _ _ _); refine ex_fdiv ?_)
    | ((with_reducible show EX _ (.BinOp _ .Pow _ _) _ _ _ _); refine ex_pow ?_)
    | ((with_reducible show EX _ (.UnaryOp .USub _ _) _ _ _ _); refine ex_neg ?_)
    | ((with_reducible show EX _ (.UnaryOp .Not _ _) _ _ _ _); refine ex_not ?_)
    | ((with_reducible show EX _ (.Tuple _ _ _) _ _ _ _); refine ex_tup ?_)
    | ((with_reducible show EX _ (.List (_ :: _) _) _ _ _ _); refine ex_lst ?_)
    | ((with_reducible show EX _ (.IfExp _ _ _ _) _ _ _ _); refine ex_if ?_)
    | ((with_reducible show EX _ (.Compare _ [.Eq] [_] _) _ _ _ _); refine ex_eq (by first | exact hF | exact hF.blk _ | exact (hF.blk _).blk _) ?_)
    | ((with_reducible show EX _ (.Compare _ [.NotEq] [_] _) _ _ _ _); refine ex_ne (by first | exact hF | exact hF.blk _ | exact (hF.blk _).blk _) ?_)
    | ((with_reducible show EX _ (.Compare _ [.Lt] [_] _) _ _ _ _); refine ex_lt ?_)
    | ((with_reducible show EX _ (.Compare _ [.LtE] [_] _) _ _ _ _); refine ex_le ?_)
    | ((with_reducible show EX _ (.Compare _ [.Gt] [_] _) _ _ _ _); refine ex_gt ?_)
    | ((with_reducible show EX _ (.Compare _ [.GtE] [_] _) _ _ _ _); refine ex_ge ?_)
    | ((with_reducible show EX _ (.Compare _ [.Is] [.Constant .none _ _] _) _ _ _ _); refine ex_isN ?_)
    | ((with_reducible show EX _ (.Compare _ [.IsNot] [.Constant .none _ _] _) _ _ _ _); refine ex_notN ?_)
    | ((with_reducible show EX _ (.BoolOp _ [_] _) _ _ _ _); refine ex_one ?_)
    | ((with_reducible show EX _ (.BoolOp .And _ _) _ _ _ _); refine ex_and ?_)
    | ((with_reducible show EX _ (.BoolOp .Or _ _) _ _ _ _); refine ex_or ?_)
    | ((with_reducible show EX _ (.Subscript _ (.Slice _ _ _ _) _) _ _ _ _); fail)
    | ((with_reducible show EX _ (.Subscript _ _ _) _ _ _ _); refine ex_ixX (by first | exact hF | exact hF.blk _ | exact (hF.blk _).blk _) ?_)
    | ((with_reducible show EX _ (.Call (.Name "len" _) [_] [] _) _ _ _ _); refine ex_len (by first | exact hF | exact hF.blk _ | exact (hF.blk _).blk _) gB.len ?_)
    | ((with_reducible show EX _ (.Call (.Name "int" _) [_] [] _) _ _ _ _); refine ex_int1 (by first | exact hF | exact hF.blk _ | exact (hF.blk _).blk _) gB.int ?_)
    | ((with_reducible show EX _ (.Call (.Name "abs" _) [_] [] _) _ _ _ _); refine ex_abs (by first | exact hF | exact hF.blk _ | exact (hF.blk _).blk _) gB.abs ?_)
    | ((with_reducible show EX _ (.Call (.Name "list" _) [_] [] _) _ _ _ _); refine ex_list1 (by first | exact hF | exact hF.blk _ | exact (hF.blk _).blk _) gB.list ?_)
    | ((with_reducible show EX _ (.Call (.Name "tuple" _) [_] [] _) _ _ _ _); refine ex_tuple1 (by first | exact hF | exact hF.blk _ | exact (hF.blk _).blk _) gB.tuple ?_)
    | ((with_reducible show EX _ (.Call (.Name "sum" _) [_] [] _) _ _ _ _); refine ex_sum (by first | exact hF | exact hF.blk _ | exact (hF.blk _).blk _) gB.sum ?_)
    | ((with_reducible show EX _ (.Call (.Name "max" _) [_] [] _) _ _ _ _); refine ex_max (by first | exact hF | exact hF.blk _ | exact (hF.blk _).blk _) gB.max ?_)
    | ((with_reducible show EX _ (.Call (.Name "all" _) [_] [] _) _ _ _ _); refine ex_all (by first | exact hF | exact hF.blk _ | exact (hF.blk _).blk _) gB.all ?_)
    | ((with_reducible show EX _ (.Call (.Name "bool" _) [_] [] _) _ _ _ _); refine ex_bool1 (by first | exact hF | exact hF.blk _ | exact (hF.blk _).blk _) gB.bool ?_)
    | ((with_reducible show EX _ (.Call (.Name "max" _) [_, _] [] _) _ _ _ _); refine ex_max2 (by first | exact hF | exact hF.blk _ | exact (hF.blk _).blk _) gB.max ?_)
    | ((with_reducible show EX _ (.Call (.Name "gcd" _) [_, _] [] _) _ _ _ _); refine ex_gcd (by first | exact hF | exact hF.blk _ | exact (hF.blk _).blk _) gGcd ?_)
    | ((with_reducible show EX _ (.Call (.Name "isqrt" _) [_] [] _) _ _ _ _); refine ex_isqrt (by first | exact hF | exact hF.blk _ | exact (hF.blk _).blk _) gIsqrt ?_)
    | ((with_reducible show EX _ (.Call (.Name "sorted" _) [_] [_] _) _ _ _ _); refine ex_sortR (by first | exact hF | exact hF.blk _ | exact (hF.blk _).blk _) gB.sorted ?_)
    | ((with_reducible show EX _ (.Call (.Name "isinstance" _) [_, .Name "list" _] [] _) _ _ _ _); refine ex_isi (by first | exact hF | exact hF.blk _ | exact (hF.blk _).blk _) .lst gB.isinstance gB.list ?_)
    | ((with_reducible show EX _ (.Call (.Name "isinstance" _) [_, .Name "tuple" _] [] _) _ _ _ _); refine ex_isi (by first | exact hF | exact hF.blk _ | exact (hF.blk _).blk _) .tup gB.isinstance gB.tuple ?_)
    | ((with_reducible show EX _ (.Call (.Name "isinstance" _) [_, .Name "int" _] [] _) _ _ _ _); refine ex_isi (by first | exact hF | exact hF.blk _ | exact (hF.blk _).blk _) .int gB.isinstance gB.int ?_)
    | ((with_reducible show EX _ (.Call (.Name "isinstance" _) [_, .Name "bool" _] [] _) _ _ _ _); refine ex_isi (by first | exact hF | exact hF.blk _ | exact (hF.blk _).blk _) .bl gB.isinstance gB.bool ?_)
    | ((with_reducible show EX _ (.Call (.Name "isinstance" _) [_, .Name "str" _] [] _) _ _ _ _); refine ex_isi (by first | exact hF | exact hF.blk _ | exact (hF.blk _).blk _) .str gB.isinstance gB.str ?_)
    | ((with_reducible show EX _ (.Call (.Name "isinstance" _) [_, .Name "dict" _] [] _) _ _ _ _); refine ex_isi (by first | exact hF | exact hF.blk _ | exact (hF.blk _).blk _) .dic gB.isinstance gB.dict ?_)
    | ((with_reducible show EX _ (.Call (.Name "isinstance" _) [_, .Tuple [.Name "list" _, .Name "tuple" _] _ _] [] _) _ _ _ _); refine ex_isi2 (by first | exact hF | exact hF.blk _ | exact (hF.blk _).blk _) .lst .tup gB.isinstance gB.list gB.tuple ?_)
    | ((with_reducible show EX _ (.Call (.Name "isinstance" _) [_, .Tuple [.Name "list" _, .Name "tuple" _, .Name "dict" _] _ _] [] _) _ _ _ _); refine ex_isi3 (by first | exact hF | exact hF.blk _ | exact (hF.blk _).blk _) .lst .tup .dic gB.isinstance gB.list gB.tuple gB.dict ?_)
    | ((with_reducible show EX _ (.Call (.Attribute _ "append" _) [_] [] _) _ _ _ _); refine ex_append (by first | exact hF | exact hF.blk _ | exact (hF.blk _).blk _) ?_)
    | ((with_reducible show EX _ (.Call (.Name _ _) (_ :: _) [] _) _ _ _ _); refine ex_callF (by first | exact hF | exact hF.blk _ | exact (hF.blk _).blk _) (by with_reducible assumption) (by omega) ?_))
  | ((with_reducible show AX _ _ _ _ _ _); first | ((with_reducible show AX _ (_ :: _) _ _ _ _); refine ax_cons ?_) | ((with_reducible show AX _ [] _ _ _ _); refine ax_nil ?_))
  | ((with_reducible show TX _ _ _ _ _ _); first
    | ((with_reducible show TX _ (.Compare _ [.Eq] [_] _) _ _ _ _); refine tx_eq (by first | exact hF | exact hF.blk _ | exact (hF.blk _).blk _) ?_)
    | ((with_reducible show TX _ (.Compare _ [.NotEq] [_] _) _ _ _ _); refine tx_ne (by first | exact hF | exact hF.blk _ | exact (hF.blk _).blk _) ?_)
    | ((with_reducible show TX _ (.Compare _ [.Lt] [_] _) _ _ _ _); refine tx_lt ?_)
    | ((with_reducible show TX _ (.Compare _ [.LtE] [_] _) _ _ _ _); refine tx_le ?_)
    | ((with_reducible show TX _ (.Compare _ [.Gt] [_] _) _ _ _ _); refine tx_gt ?_)
    | ((with_reducible show TX _ (.Compare _ [.GtE] [_] _) _ _ _ _); refine tx_ge ?_)
    | ((with_reducible show TX _ (.Compare _ [.Is] [.Constant .none _ _] _) _ _ _ _); refine tx_isN ?_)
    | ((with_reducible show TX _ (.Compare _ [.IsNot] [.Constant .none _ _] _) _ _ _ _); refine tx_notN ?_)
    | ((with_reducible show TX _ (.UnaryOp .Not _ _) _ _ _ _); refine tx_not ?_)
    | ((with_reducible show TX _ (.BoolOp .And _ _) _ _ _ _); refine WWX.tx (wx_and ?_))
    | ((with_reducible show TX _ (.BoolOp .Or _ _) _ _ _ _); refine WWX.tx (wx_or ?_))
    | ((with_reducible show TX _ (.Compare _ _ _ _) _ _ _ _); fail)
    | ((with_reducible show TX _ (.Call (.Name "isinstance" _) _ _ _) _ _ _ _); refine tx_bl ?_)
    | ((with_reducible show TX _ (_) _ _ _ _); refine tx_tru (by first | exact hF | exact hF.blk _ | exact (hF.blk _).blk _) (fun _ _ => rfl) ?_))
  | ((with_reducible show WWX _ _ _ _ _ _); first | ((with_reducible show WWX _ (.BoolOp .And [_] _) _ _ _ _); refine wx_and1 ?_) | ((with_reducible show WWX _ (.BoolOp .Or [_] _) _ _ _ _); refine wx_or1 ?_) | ((with_reducible show WWX _ (.BoolOp .And _ _) _ _ _ _); refine wx_and ?_) | ((with_reducible show WWX _ (.BoolOp .Or _ _) _ _ _ _); refine wx_or ?_))
  | with_reducible refine addP_ii ?_
  | with_reducible refine subP_ii ?_
  | with_reducible refine mulP_ii (by first | assumption | exact cm_l (by omega) (by omega) | exact cm_r (by omega) (by omega)) ?_
  | with_reducible refine modX_p (by first | assumption | decide | omega) ?_
  | with_reducible refine fdivP_ii (by first | assumption | exact cd_i (by omega) (by omega)) ?_
  | with_reducible refine powP_ii (by unfold CPow; decide) ?_
  | with_reducible refine negP_i ?_
  | with_reducible refine eqP_ii ?_
  | with_reducible refine eqP_ss ?_
  | with_reducible refine eqP_bb ?_
  | with_reducible refine neP_ii ?_
  | with_reducible refine neP_ss ?_
  | with_reducible refine neP_bb ?_
  | with_reducible refine ltP_ii ?_
  | with_reducible refine intP_i ?_
  | with_reducible refine intP_b ?_
  | with_reducible refine absP_i ?_
  | with_reducible refine boolP_b ?_
  | with_reducible refine lenP_t ?_
  | with_reducible refine lenP_l ?_
  | with_reducible refine lenP_rl ?_
  | with_reducible refine augP_ii ?_
  | with_reducible refine listP_l ?_
  | with_reducible refine listP_t ?_
  | with_reducible refine tupP_l ?_
  | with_reducible refine tupP_t ?_
  | with_reducible refine tru_i ?_
  | with_reducible refine tru_b ?_
  | ((with_reducible show lenP _ _ [.ref _]); refine lenP_r (by first | exact um_same | assumption) ?_)
  | ((with_reducible show ixX _ _ (.tup _) (.int _)); refine ixX_t (by rfl) ?_)
  | ((with_reducible show ixX _ _ (.lst _) (.int _)); refine ixX_l (by rfl) ?_)
  | ((with_reducible show ixX _ _ (.ref _) (.int _)); refine ixX_r (by first | exact um_same | assumption) (by rfl) ?_)
  | ((with_reducible show setX _ _ (.ref _) (.int _) _); refine setX_r (by first | exact um_same | assumption) (by rfl) ?_)
  | ((with_reducible show appP _ _ (.ref _) _); refine appP_r (by first | exact um_same | assumption) ?_ ?_)
  | ((with_reducible show isL _ (.ref _) ∧ _); refine isL_r (by first | exact um_same | assumption) ?_)
  | ((with_reducible apply ds1); get_elem_tactic_extensible)
  | ((with_reducible apply ds2); get_elem_tactic_extensible)
  | ((with_reducible apply ds3); get_elem_tactic_extensible)
  | ((with_reducible apply tgd_nm); get_elem_tactic_extensible)
  | ((with_reducible apply tgd_tp); get_elem_tactic_extensible)
  | ((with_reducible apply ty_is); first | exact rfl | assumption)
  | ((with_reducible show (isNoneD _ = true → _) ∧ _); first | refine bx_T (by rfl) ?_ | refine bx_F (by rfl) ?_)
  | ((with_reducible show ((!isNoneD _) = true → _) ∧ _); first | refine bx_T (by rfl) ?_ | refine bx_F (by rfl) ?_)
  | with_reducible refine br_T (by decide) ?_
  | with_reducible refine br_F (by decide) ?_
  | with_reducible refine bn_T (by decide) ?_
  | with_reducible refine bn_F (by decide) ?_
  | with_reducible refine bw_T ?_
  | with_reducible refine bw_F ?_
  | with_reducible refine bx_T (by decide) ?_
  | with_reducible refine bx_F (by decide) ?_
  | ((with_reducible show _ ≤ sizeLine ∧ _); refine ax_tup (by exact Nat.le_of_ble_eq_true (by rfl)) ?_)
  | fail)
set_option Elab.async false
set_option linter.all false
set_option maxRecDepth 100000
set_option maxHeartbeats 4000000
/-! K7G: the package's rows of four numbers. -/
namespace K7
open PySem PySem.Spec PyProof.Rows L2 G
section
variable {T : Fm Unit} (hh : T.hot = false) {k : Nat} {P : Program} {w : World} {K : PySem.W.Frag} {mg : Str → Option Value} {base : Heap} {args : List D} {M : Ms} {Φ : PD} {Ψ : PX}
def ds_is_number : DS := fun args M Φ _ => ∃ d u, args = [d] ∧ tyD d = some u ∧ Φ (.bl (isB u .int && !isB u .bl)) M
include hh in
theorem b_is_number (gB : Bi mg) (hD : Fd T k P w K mg base n_is_number (defScope s_is_number)) (h : ds_is_number args M Φ Ψ) : Bod T s_is_number n_is_number args M Φ Ψ := by
  obtain ⟨d, u, rfl, hu, hq⟩ := h
  have hF := hD.fc
  refine bod_start (by get_elem_tactic_extensible) ?_; refine ssx_cons ?_
  repeat' decreasing_trivial_pre_omega
  refine br_b (fun hc => ?_) (fun hc => ?_)
  · repeat' decreasing_trivial_pre_omega
    rw [hc, Bool.true_and] at hq
    exact ⟨_, rfl, hq⟩
  · rw [hc, Bool.false_and] at hq
    exact hq
def seq2 (d : D) (xs : List D) : Prop := d = .tup xs ∨ d = .lst xs
def ds_are_numbers : DS := fun args M Φ _ => ∃ (d : D) (ns : List Int) (m : Int), args = [d, .int m] ∧ seq2 d (ns.map D.int) ∧ ns.length ≤ 1000 ∧ Φ (.bl (decide ((ns.length : Int) = m))) M
include hh in
theorem b_are_numbers (gB : Bi mg) (c1 : Cal false P w K mg base "is_number" k ["value"] ds_is_number) (hD : Fd T k P w K mg base n_are_numbers (defScope s_are_numbers)) (h : ds_are_numbers args M Φ Ψ) : Bod T s_are_numbers n_are_numbers args M Φ Ψ := by
  obtain ⟨d, ns, m, rfl, hd, hl, hq⟩ := h
  have hF := hD.fc
  have fin : ∀ {Γ : Gm} {scope : Scope} {p2 : Pos} {elt : Expr} {own : List Nat} {g : Tg} {Φ : PD}, True := fun {_ _ _ _ _ _ _} => trivial
  rcases hd with rfl | rfl
  all_goals
    refine bod_start (by get_elem_tactic_extensible) ?_; refine ssx_cons ?_
    repeat' decreasing_trivial_pre_omega
    rw [List.length_map]
    refine br_d (fun hc => ?_) (fun hc => ?_)
  · repeat' decreasing_trivial_pre_omega
    (with_reducible show EX _ (.ListComp _ _ _ _) _ _ _ _); refine ex_lc (by first | exact hF | exact hF.blk _ | exact (hF.blk _).blk _) [("value", 2)] (by first | exact tb_nmA hF (by get_elem_tactic_extensible) | exact tb_nmA (hF.blk _) (by get_elem_tactic_extensible) | exact tb_tpA hF (by repeat' (first | exact tnb_nil | apply tnb_consA hF (by get_elem_tactic_extensible))) (by rfl) | exact tb_tpA (hF.blk _) (by repeat' (first | exact tnb_nil | apply tnb_consA (hF.blk _) (by get_elem_tactic_extensible))) (by rfl)) .none (ix_seqD (by first | exact hF | exact hF.blk _ | exact (hF.blk _).blk _) ?_) (by decide +kernel) (by decide)
    repeat' decreasing_trivial_pre_omega
    refine ⟨_, rfl, lc_mapA D.int (fun _ => .bl true) (by omega) (by get_elem_tactic_extensible) (fun x hx M' _ => ?_) ?_⟩
    · repeat' decreasing_trivial_pre_omega
      exact ⟨_, _, rfl, rfl, rfl, rfl⟩
    · repeat' decreasing_trivial_pre_omega
      refine ⟨ns.map fun _ => true, by rw [List.map_map]; rfl, ?_⟩
      rw [decide_eq_true hc] at hq
      have e : (ns.map fun _ => true).all id = true := by rw [List.all_map]; exact List.all_eq_true.mpr fun _ _ => rfl
      rw [e]; exact hq
  · rw [decide_eq_false hc] at hq; exact hq
  · repeat' decreasing_trivial_pre_omega
    (with_reducible show EX _ (.ListComp _ _ _ _) _ _ _ _); refine ex_lc (by first | exact hF | exact hF.blk _ | exact (hF.blk _).blk _) [("value", 2)] (by first | exact tb_nmA hF (by get_elem_tactic_extensible) | exact tb_nmA (hF.blk _) (by get_elem_tactic_extensible) | exact tb_tpA hF (by repeat' (first | exact tnb_nil | apply tnb_consA hF (by get_elem_tactic_extensible))) (by rfl) | exact tb_tpA (hF.blk _) (by repeat' (first | exact tnb_nil | apply tnb_consA (hF.blk _) (by get_elem_tactic_extensible))) (by rfl)) .none (ix_seqD (by first | exact hF | exact hF.blk _ | exact (hF.blk _).blk _) ?_) (by decide +kernel) (by decide)
    repeat' decreasing_trivial_pre_omega
    refine ⟨_, rfl, lc_mapA D.int (fun _ => .bl true) (by omega) (by get_elem_tactic_extensible) (fun x hx M' _ => ?_) ?_⟩
    · repeat' decreasing_trivial_pre_omega
      exact ⟨_, _, rfl, rfl, rfl, rfl⟩
    · repeat' decreasing_trivial_pre_omega
      refine ⟨ns.map fun _ => true, by rw [List.map_map]; rfl, ?_⟩
      rw [decide_eq_true hc] at hq
      have e : (ns.map fun _ => true).all id = true := by rw [List.all_map]; exact List.all_eq_true.mpr fun _ _ => rfl
      rw [e]; exact hq
  · rw [decide_eq_false hc] at hq; exact hq
def ds_is_odd : DS := fun args M Φ _ => ∃ n : Int, args = [.int n] ∧ Φ (.bl (decide (0 < n) && decide (n % 2 = 1))) M
def ds_divisor_of : DS := fun args M Φ _ => ∃ p : Q4, args = [qD p] ∧ Φ (.int (conQ p)) M
include hh in
theorem b_divisor_of (gGcd : mg "gcd" = some (.builtin "math.gcd")) (hD : Fd T k P w K mg base n_divisor_of (defScope s_divisor_of)) (h : ds_divisor_of args M Φ Ψ) : Bod T s_divisor_of n_divisor_of args M Φ Ψ := by
  obtain ⟨p, rfl, hq⟩ := h
  have hF := hD.fc
  refine bod_start (by get_elem_tactic_extensible) ?_; refine ssx_cons ?_
  repeat' decreasing_trivial_pre_omega
  refine sx_forA hD [p.a, p.b, p.c, p.d] D.int (fun ys Γ M' => M' = M ∧ ∃ o, Γ = [some (qD p), some (.int (ys.foldl gcdN 0)), o]) (fun _ => True) (tg_nmA hD (by get_elem_tactic_extensible)) (ix_seqD hF ?_) (fun _ _ _ _ => trivial) ?_ ?_
  · repeat' decreasing_trivial_pre_omega
    exact ⟨_, rfl, rfl, fun _ _ => trivial, rfl, _, rfl⟩
  · rintro ys x zs Γ M' _ ⟨rfl, o, rfl⟩
    repeat' decreasing_trivial_pre_omega
    refine (?_ : gcdP _ _ [.int _, .int _])
    refine ds1 (by get_elem_tactic_extensible) ?_
    repeat' decreasing_trivial_pre_omega
    exact ⟨rfl, _, by rw [List.foldl_append]; rfl⟩
  · rintro Γ M' ⟨rfl, o, rfl⟩
    repeat' decreasing_trivial_pre_omega
    exact hq
def ds_four_product : DS := ds__law_times
include hh in
theorem b_four_product (hD : Fd T k P w K mg base n_four_product (defScope s_four_product)) (h : ds_four_product args M Φ Ψ) : Bod T s_four_product n_four_product args M Φ Ψ := by
  obtain ⟨p, q, rfl, ⟨h1, h2, h3, h4, h5, h6, h7, h8⟩, hq⟩ := h
  have hF := hD.fc
  refine bod_start (by get_elem_tactic_extensible) ?_; refine ssx_cons ?_
  repeat' decreasing_trivial_pre_omega
  exact hq
def ds_four_back : DS := ds__law_back
include hh in
theorem b_four_back (hD : Fd T k P w K mg base n_four_back (defScope s_four_back)) (h : ds_four_back args M Φ Ψ) : Bod T s_four_back n_four_back args M Φ Ψ := by
  obtain ⟨p, rfl, hq⟩ := h
  have hF := hD.fc
  refine bod_start (by get_elem_tactic_extensible) ?_; refine ssx_cons ?_
  repeat' decreasing_trivial_pre_omega
  exact hq
def ds_four_minus : DS := fun args M Φ _ => ∃ p : Q4, args = [qD p] ∧ Φ (qD (negQ p)) M
include hh in
theorem b_four_minus (hD : Fd T k P w K mg base n_four_minus (defScope s_four_minus)) (h : ds_four_minus args M Φ Ψ) : Bod T s_four_minus n_four_minus args M Φ Ψ := by
  obtain ⟨p, rfl, hq⟩ := h
  have hF := hD.fc
  refine bod_start (by get_elem_tactic_extensible) ?_; refine ssx_cons ?_
  repeat' decreasing_trivial_pre_omega
  exact hq
def ds_four_size : DS := ds__law_size
include hh in
theorem b_four_size (hD : Fd T k P w K mg base n_four_size (defScope s_four_size)) (h : ds_four_size args M Φ Ψ) : Bod T s_four_size n_four_size args M Φ Ψ := by
  obtain ⟨p, rfl, ⟨h1, h2, h3, h4, h5, h6, h7, h8⟩, hq⟩ := h
  have hF := hD.fc
  refine bod_start (by get_elem_tactic_extensible) ?_; refine ssx_cons ?_
  repeat' decreasing_trivial_pre_omega
  exact hq
def parQ (p : Q4) (c : Int) : Q4 := ⟨p.a / c, p.b / c, p.c / c, p.d / c⟩
def ds_four_parts : DS := fun args M Φ _ => ∃ (p : Q4) (c : Int), args = [qD p, .int c] ∧ 0 < c ∧ c < 1073741824 ∧ Φ (qD (parQ p c)) M
include hh in
theorem b_four_parts (hD : Fd T k P w K mg base n_four_parts (defScope s_four_parts)) (h : ds_four_parts args M Φ Ψ) : Bod T s_four_parts n_four_parts args M Φ Ψ := by
  obtain ⟨p, c, rfl, h1, h2, hq⟩ := h
  have hF := hD.fc
  refine bod_start (by get_elem_tactic_extensible) ?_; refine ssx_cons ?_
  repeat' decreasing_trivial_pre_omega
  exact hq
def primQ (p : Q4) : Q4 := parQ p (conQ p)
def ds_primitive : DS := fun args M Φ _ => ∃ (p : Q4), args = [qD p] ∧ 0 < conQ p ∧ conQ p < 1073741824 ∧ Φ (qD (primQ p)) M
include hh in
theorem b_primitive (c1 : Cal false P w K mg base "four_parts" k ["four", "common"] ds_four_parts) (c2 : Cal false P w K mg base "divisor_of" k ["numbers"] ds_divisor_of) (hD : Fd T k P w K mg base n_primitive (defScope s_primitive)) (h : ds_primitive args M Φ Ψ) : Bod T s_primitive n_primitive args M Φ Ψ := by
  obtain ⟨p, rfl, h1, h2, hq⟩ := h
  have hF := hD.fc
  refine bod_start (by get_elem_tactic_extensible) ?_; refine ssx_cons ?_
  repeat' decreasing_trivial_pre_omega
  refine ⟨p, rfl, ?_⟩
  repeat' decreasing_trivial_pre_omega
  exact ⟨p, _, rfl, h1, h2, hq⟩
def grtP (p : Q4) : Q4 := maxQ ((fourQ p).map fun r => PySem.W.maxOf r [negQ r])
def ds_greatest : DS := fun args M Φ _ => ∃ p : Q4, args = [qD p] ∧ Φ (qD (grtP p)) M
include hh in
theorem b_greatest (gB : Bi mg) (c1 : Cal false P w K mg base "four_minus" k ["four"] ds_four_minus) (hD : Fd T k P w K mg base n_greatest (defScope s_greatest)) (h : ds_greatest args M Φ Ψ) : Bod T s_greatest n_greatest args M Φ Ψ := by
  obtain ⟨p, rfl, hq⟩ := h
  have hF := hD.fc
  refine bod_start (by get_elem_tactic_extensible) ?_; refine ssx_cons ?_
  repeat' decreasing_trivial_pre_omega
  (with_reducible show EX _ (.ListComp _ _ _ _) _ _ _ _); refine ex_lc (by first | exact hF | exact hF.blk _ | exact (hF.blk _).blk _) [("row", 6)] (by first | exact tb_nmA hF (by get_elem_tactic_extensible) | exact tb_nmA (hF.blk _) (by get_elem_tactic_extensible) | exact tb_tpA hF (by repeat' (first | exact tnb_nil | apply tnb_consA hF (by get_elem_tactic_extensible))) (by rfl) | exact tb_tpA (hF.blk _) (by repeat' (first | exact tnb_nil | apply tnb_consA (hF.blk _) (by get_elem_tactic_extensible))) (by rfl)) .none (ix_seqD (by first | exact hF | exact hF.blk _ | exact (hF.blk _).blk _) ?_) (by decide +kernel) (by decide)
  repeat' decreasing_trivial_pre_omega
  refine ⟨(fourQ p).map qD, rfl, lc_mapA qD (fun r => qD (PySem.W.maxOf r [negQ r])) (by simp [fourQ]) (by get_elem_tactic_extensible) (fun r hr M' _ => ?_) ?_⟩
  · repeat' decreasing_trivial_pre_omega
    refine ⟨r, rfl, ?_⟩
    repeat' decreasing_trivial_pre_omega
    exact ⟨r, negQ r, rfl, rfl, rfl⟩
  · repeat' decreasing_trivial_pre_omega
    exact maxP_q (x := PySem.W.maxOf p [negQ p]) (xs := (fourQ p).tail.map fun r => PySem.W.maxOf r [negQ r]) hq
def ds_odd_four : DS := fun args M Φ _ => ∃ (p : Q4), args = [qD p] ∧ 0 < conQ p ∧ conQ p < 1073741824 ∧ SmQ (primQ p) ∧ nrmQ (primQ p) % 2 ≠ 0 ∧ Φ (qD (primQ p)) M
include hh in
theorem b_odd_four (c1 : Cal false P w K mg base "primitive" k ["four"] ds_primitive) (c2 : Cal false P w K mg base "four_size" k ["four"] ds_four_size) (hD : Fd T k P w K mg base n_odd_four (defScope s_odd_four)) (h : ds_odd_four args M Φ Ψ) : Bod T s_odd_four n_odd_four args M Φ Ψ := by
  obtain ⟨p, rfl, h1, h2, h3, h4, hq⟩ := h
  have hF := hD.fc
  refine bod_start (by get_elem_tactic_extensible) ?_; refine ssx_cons ?_
  repeat' decreasing_trivial_pre_omega
  refine ⟨p, rfl, h1, h2, ?_⟩
  repeat' decreasing_trivial_pre_omega
  refine sx_whileA hD (fun m Γ M' => m = 0 ∧ Γ = [some (qD p), some (qD (primQ p))] ∧ M' = M) 0 ⟨rfl, rfl, rfl⟩ ?_
  rintro m Γ M' ⟨rfl, rfl, rfl⟩
  repeat' decreasing_trivial_pre_omega
  refine ⟨primQ p, rfl, h3, ?_⟩
  repeat' decreasing_trivial_pre_omega
  refine br_d (fun hc => absurd hc h4) (fun hc => ?_)
  repeat' decreasing_trivial_pre_omega
  exact hq
def ds_name_of : DS := fun args M Φ _ => ∃ (p : Q4), args = [qD p] ∧ 0 < conQ p ∧ conQ p < 1073741824 ∧ SmQ (primQ p) ∧ nrmQ (primQ p) % 2 ≠ 0 ∧ Φ (qD (grtP (primQ p))) M
include hh in
theorem b_name_of (c1 : Cal false P w K mg base "odd_four" k ["four"] ds_odd_four) (c2 : Cal false P w K mg base "greatest" k ["four"] ds_greatest) (hD : Fd T k P w K mg base n_name_of (defScope s_name_of)) (h : ds_name_of args M Φ Ψ) : Bod T s_name_of n_name_of args M Φ Ψ := by
  obtain ⟨p, rfl, h1, h2, h3, h4, hq⟩ := h
  have hF := hD.fc
  refine bod_start (by get_elem_tactic_extensible) ?_; refine ssx_cons ?_
  repeat' decreasing_trivial_pre_omega
  refine ⟨p, rfl, h1, h2, h3, h4, ?_⟩
  repeat' decreasing_trivial_pre_omega
  exact ⟨_, rfl, hq⟩
theorem eqD_four (q : Q4) : eqD (.lst [.int q.a, .int q.b, .int q.c, .int q.d]) (.lst [.int 0, .int 0, .int 0, .int 0]) = some (decide (q = ⟨0, 0, 0, 0⟩)) := by
  show (if SeqAt.shaped (.list [.int q.a, .int q.b, .int q.c, .int q.d]) && SeqAt.shaped (.list [.int 0, .int 0, .int 0, .int 0]) then some (PyData.eqv (.list [.int q.a, .int q.b, .int q.c, .int q.d]) (.list [.int 0, .int 0, .int 0, .int 0])) else none) = _
  have h1 := @PySem.W.Datum.eqv Q4 _ _ q ⟨0, 0, 0, 0⟩
  have h2 : PyData.eqv (.tuple [.int q.a, .int q.b, .int q.c, .int q.d]) (.tuple [.int 0, .int 0, .int 0, .int 0]) = decide (q = ⟨0, 0, 0, 0⟩) := h1
  have h3 : PyData.eqv (.list [.int q.a, .int q.b, .int q.c, .int q.d]) (.list [.int 0, .int 0, .int 0, .int 0]) = PyData.eqv (.tuple [.int q.a, .int q.b, .int q.c, .int q.d]) (.tuple [.int 0, .int 0, .int 0, .int 0]) := by
    simp only [PyData.eqv]
  rw [h3, h2]
  rfl
def ds_is_four : DS := fun args M Φ _ => ∃ (d : D) (q : Q4), args = [d] ∧ seq2 d [.int q.a, .int q.b, .int q.c, .int q.d] ∧ Φ (.bl (!decide (q = ⟨0, 0, 0, 0⟩))) M
include hh in
theorem b_is_four (gB : Bi mg) (c1 : Cal false P w K mg base "are_numbers" k ["values", "many"] ds_are_numbers) (hD : Fd T k P w K mg base n_is_four (defScope s_is_four)) (h : ds_is_four args M Φ Ψ) : Bod T s_is_four n_is_four args M Φ Ψ := by
  obtain ⟨d, q, rfl, hd, hq⟩ := h
  have hF := hD.fc
  rcases hd with rfl | rfl
  all_goals
    refine bod_start (by get_elem_tactic_extensible) ?_; refine ssx_cons ?_
    repeat' decreasing_trivial_pre_omega
  · refine ⟨_, [q.a, q.b, q.c, q.d], 4, rfl, .inl rfl, by simp, ?_⟩
    refine br_T (by simp) ?_
    repeat' decreasing_trivial_pre_omega
    exact ⟨_, eqD_four q, _, rfl, hq⟩
  · refine ⟨_, [q.a, q.b, q.c, q.d], 4, rfl, .inr rfl, by simp, ?_⟩
    refine br_T (by simp) ?_
    repeat' decreasing_trivial_pre_omega
    exact ⟨_, eqD_four q, _, rfl, hq⟩
end
end K7
end
section
set_option pp.deepTerms false
set_option pp.deepTerms.threshold 5
set_option pp.maxSteps 3000
set_option hygiene false
local macro_rules | `(tactic| get_elem_tactic_extensible) => `(tactic| (repeat' (first | with_reducible exact AtN.z | with_reducible exact AtG.z | with_reducible exact SetS.z | with_reducible exact SetSs.nil | exact WipeS.nil | with_reducible apply AtN.s | with_reducible apply AtG.s | with_reducible apply SetS.s | with_reducible apply SetSs.cons | apply WipeS.cons | exact StartS.nil | apply StartS.arg | apply StartS.var)))
local macro_rules | `(tactic| decreasing_trivial_pre_omega) => `(tactic| first
  | ((with_reducible show SSX _ _ _ _ _); first | ((with_reducible show SSX _ (_ :: _) _ _ _); refine ssx_cons ?_) | ((with_reducible show SSX _ [] _ _ _); refine ssx_nil ?_))
  | ((with_reducible show SX _ _ _ _ _); first
    | ((with_reducible show SX _ (.Return (some _) _) _ _ _); refine sx_ret ?_)
    | ((with_reducible show SX _ (.Return none _) _ _ _); refine sx_retN ?_)
    | ((with_reducible show SX _ (.If _ _ _ _) _ _ _); refine sx_if ?_)
    | ((with_reducible show SX _ (.Assign [.Name _ _] (.ListComp _ _ _ _) _) _ _ _); fail)
    | ((with_reducible show SX _ (.Assign [.Name _ _] _ _) _ _ _); refine sx_setA hD (by get_elem_tactic_extensible) ?_)
    | ((with_reducible show SX _ (.Assign [.Tuple [.Name _ _, .Name _ _] _ _] (.Tuple [_, _] _ _) _) _ _ _); refine sx_par2 hD (by get_elem_tactic_extensible) (by get_elem_tactic_extensible) (by decide) ?_)
    | ((with_reducible show SX _ (.Assign [.Tuple [.Name _ _, .Name _ _, .Name _ _] _ _] (.Tuple [_, _, _] _ _) _) _ _ _); refine sx_par3A hD (by get_elem_tactic_extensible) (by get_elem_tactic_extensible) (by get_elem_tactic_extensible) (by decide) (by decide) (by decide) ?_)
    | ((with_reducible show SX _ (.Assign [.Tuple _ _ _] _ _) _ _ _); refine sx_asg hD (tg_tpA hD (by repeat' (first | exact tn_nil | apply tn_consA hD (by get_elem_tactic_extensible))) (by rfl)) ?_)
    | ((with_reducible show SX _ (.Assign [.Subscript _ _ _] _ _) _ _ _); refine sx_subX hF ?_)
    | ((with_reducible show SX _ (.AugAssign (.Name _ _) .Add _ _) _ _ _); refine sx_augadd hD (by get_elem_tactic_extensible) (by get_elem_tactic_extensible) ?_)
    | ((with_reducible show SX _ (.Expr _ _) _ _ _); refine sx_expr ?_)
    | ((with_reducible show SX _ (.Break _) _ _ _); refine sx_break ?_)
    | ((with_reducible show SX _ (.Continue _) _ _ _); refine sx_continue ?_)
    | ((with_reducible show SX _ (.Pass _) _ _ _); refine sx_pass ?_))
  | ((with_reducible show EX _ _ _ _ _ _); first
    | ((with_reducible show EX _ (.Name _ _) _ _ _ _); refine ax_var (by first | exact hF | exact hF.blk _ | exact (hF.blk _).blk _) (by get_elem_tactic_extensible) (by get_elem_tactic_extensible) ?_)
    | ((with_reducible show EX _ (.Constant (.int _) _ _) _ _ _ _); refine ex_int ?_)
    | ((with_reducible show EX _ (.Constant (.str _) _ _) _ _ _ _); refine ex_str ?_)
    | ((with_reducible show EX _ (.Constant (.bool _) _ _) _ _ _ _); refine ex_bl ?_)
    | ((with_reducible show EX _ (.Constant .none _ _) _ _ _ _); refine ex_non ?_)
    | ((with_reducible show EX _ (.BinOp _ .Add _ _) _ _ _ _); refine ex_add ?_)
    | ((with_reducible show EX _ (.BinOp _ .Sub _ _) _ _ _ _); refine ex_sub ?_)
    | ((with_reducible show EX _ (.BinOp _ .Mult _ _) _ _ _ _); refine ex_mul ?_)
    | ((with_reducible show EX _ (.BinOp _ .Mod _ _) _ _ _ _); refine ex_modX ?_)
    | ((with_reducible show EX _ (.BinOp _ .FloorDiv _ _) _ _ _ _); refine ex_fdiv ?_)
    | ((with_reducible show EX _ (.BinOp _ .Pow _ _) _ _ _ _); refine ex_pow ?_)
    | ((with_reducible show EX _ (.UnaryOp .USub _ _) _ _ _ _); refine ex_neg ?_)
    | ((with_reducible show EX _ (.UnaryOp .Not _ _) _ _ _ _); refine ex_not ?_)
    | ((with_reducible show EX _ (.Tuple _ _ _) _ _ _ _); refine ex_tup ?_)
    | ((with_reducible show EX _ (.List (_ :: _) _) _ _ _ _); refine ex_lst ?_)
    | ((with_reducible show EX _ (.IfExp _ _ _ _) _ _ _ _); refine ex_if ?_)
    | ((with_reducible show EX _ (.Compare _ [.Eq] [_] _) _ _ _ _); refine ex_eq (by first | exact hF | exact hF.blk _ | exact (hF.blk _).blk _) ?_)
    | ((with_reducible show EX _ (.Compare _ [.NotEq] [_] _) _ _ _ _); refine ex_ne (by first | exact hF | exact hF.blk _ | exact (hF.blk _).blk _) ?_)
    | ((with_reducible show EX _ (.Compare _ [.Lt] [_] _) _ _ _ _); refine ex_lt ?_)
    | ((with_reducible show EX _ (.Compare _ [.LtE] [_] _) _ _ _ _); refine ex_le ?_)
    | ((with_reducible show EX _ (.Compare _ [.Gt] [_] _) _ _ _ _); refine ex_gt ?_)
    | ((with_reducible show EX _ (.Compare _ [.GtE] [_] _) _ _ _ _); refine ex_ge ?_)
    | ((with_reducible show EX _ (.Compare _ [.Is] [.Constant .none _ _] _) _ _ _ _); refine ex_isN ?_)
    | ((with_reducible show EX _ (.Compare _ [.IsNot] [.Constant .none _ _] _) _ _ _ _); refine ex_notN ?_)
    | ((with_reducible show EX _ (.BoolOp _ [_] _) _ _ _ _); refine ex_one ?_)
    | ((with_reducible show EX _ (.BoolOp .And _ _) _ _ _ _); refine ex_and ?_)
    | ((with_reducible show EX _ (.BoolOp .Or _ _) _ _ _ _); refine ex_or ?_)
    | ((with_reducible show EX _ (.Subscript _ (.Slice _ _ _ _) _) _ _ _ _); fail)
    | ((with_reducible show EX _ (.Subscript _ _ _) _ _ _ _); refine ex_ixX (by first | exact hF | exact hF.blk _ | exact (hF.blk _).blk _) ?_)
    | ((with_reducible show EX _ (.Call (.Name "len" _) [_] [] _) _ _ _ _); refine ex_len (by first | exact hF | exact hF.blk _ | exact (hF.blk _).blk _) gB.len ?_)
    | ((with_reducible show EX _ (.Call (.Name "int" _) [_] [] _) _ _ _ _); refine ex_int1 (by first | exact hF | exact hF.blk _ | exact (hF.blk _).blk _) gB.int ?_)
    | ((with_reducible show EX _ (.Call (.Name "abs" _) [_] [] _) _ _ _ _); refine ex_abs (by first | exact hF | exact hF.blk _ | exact (hF.blk _).blk _) gB.abs ?_)
    | ((with_reducible show EX _ (.Call (.Name "list" _) [_] [] _) _ _ _ _); refine ex_list1 (by first | exact hF | exact hF.blk _ | exact (hF.blk _).blk _) gB.list ?_)
    | ((with_reducible show EX _ (.Call (.Name "tuple" _) [_] [] _) _ _ _ _); refine ex_tuple1 (by first | exact hF | exact hF.blk _ | exact (hF.blk _).blk _) gB.tuple ?_)
    | ((with_reducible show EX _ (.Call (.Name "sum" _) [_] [] _) _ _ _ _); refine ex_sum (by first | exact hF | exact hF.blk _ | exact (hF.blk _).blk _) gB.sum ?_)
    | ((with_reducible show EX _ (.Call (.Name "max" _) [_] [] _) _ _ _ _); refine ex_max (by first | exact hF | exact hF.blk _ | exact (hF.blk _).blk _) gB.max ?_)
    | ((with_reducible show EX _ (.Call (.Name "all" _) [_] [] _) _ _ _ _); refine ex_all (by first | exact hF | exact hF.blk _ | exact (hF.blk _).blk _) gB.all ?_)
    | ((with_reducible show EX _ (.Call (.Name "bool" _) [_] [] _) _ _ _ _); refine ex_bool1 (by first | exact hF | exact hF.blk _ | exact (hF.blk _).blk _) gB.bool ?_)
    | ((with_reducible show EX _ (.Call (.Name "max" _) [_, _] [] _) _ _ _ _); refine ex_max2 (by first | exact hF | exact hF.blk _ | exact (hF.blk _).blk _) gB.max ?_)
    | ((with_reducible show EX _ (.Call (.Name "gcd" _) [_, _] [] _) _ _ _ _); refine ex_gcd (by first | exact hF | exact hF.blk _ | exact (hF.blk _).blk _) gGcd ?_)
    | ((with_reducible show EX _ (.Call (.Name "isqrt" _) [_] [] _) _ _ _ _); refine ex_isqrt (by first | exact hF | exact hF.blk _ | exact (hF.blk _).blk _) gIsqrt ?_)
    | ((with_reducible show EX _ (.Call (.Name "sorted" _) [_] [_] _) _ _ _ _); refine ex_sortR (by first | exact hF | exact hF.blk _ | exact (hF.blk _).blk _) gB.sorted ?_)
    | ((with_reducible show EX _ (.Call (.Name "isinstance" _) [_, .Name "list" _] [] _) _ _ _ _); refine ex_isi (by first | exact hF | exact hF.blk _ | exact (hF.blk _).blk _) .lst gB.isinstance gB.list ?_)
    | ((with_reducible show EX _ (.Call (.Name "isinstance" _) [_, .Name "tuple" _] [] _) _ _ _ _); refine ex_isi (by first | exact hF | exact hF.blk _ | exact (hF.blk _).blk _) .tup gB.isinstance gB.tuple ?_)
    | ((with_reducible show EX _ (.Call (.Name "isinstance" _) [_, .Name "int" _] [] _) _ _ _ _); refine ex_isi (by first | exact hF | exact hF.blk _ | exact (hF.blk _).blk _) .int gB.isinstance gB.int ?_)
    | ((with_reducible show EX _ (.Call (.Name "isinstance" _) [_, .Name "bool" _] [] _) _ _ _ _); refine ex_isi (by first | exact hF | exact hF.blk _ | exact (hF.blk _).blk _) .bl gB.isinstance gB.bool ?_)
    | ((with_reducible show EX _ (.Call (.Name "isinstance" _) [_, .Name "str" _] [] _) _ _ _ _); refine ex_isi (by first | exact hF | exact hF.blk _ | exact (hF.blk _).blk _) .str gB.isinstance gB.str ?_)
    | ((with_reducible show EX _ (.Call (.Name "isinstance" _) [_, .Name "dict" _] [] _) _ _ _ _); refine ex_isi (by first | exact hF | exact hF.blk _ | exact (hF.blk _).blk _) .dic gB.isinstance gB.dict ?_)
    | ((with_reducible show EX _ (.Call (.Name "isinstance" _) [_, .Tuple [.Name "list" _, .Name "tuple" _] _ _] [] _) _ _ _ _); refine ex_isi2 (by first | exact hF | exact hF.blk _ | exact (hF.blk _).blk _) .lst .tup gB.isinstance gB.list gB.tuple ?_)
    | ((with_reducible show EX _ (.Call (.Name "isinstance" _) [_, .Tuple [.Name "list" _, .Name "tuple" _, .Name "dict" _] _ _] [] _) _ _ _ _); refine ex_isi3 (by first | exact hF | exact hF.blk _ | exact (hF.blk _).blk _) .lst .tup .dic gB.isinstance gB.list gB.tuple gB.dict ?_)
    | ((with_reducible show EX _ (.Call (.Attribute _ "append" _) [_] [] _) _ _ _ _); refine ex_append (by first | exact hF | exact hF.blk _ | exact (hF.blk _).blk _) ?_)
    | ((with_reducible show EX _ (.Call (.Name _ _) (_ :: _) [] _) _ _ _ _); refine ex_callF (by first | exact hF | exact hF.blk _ | exact (hF.blk _).blk _) (by with_reducible assumption) (by omega) ?_))
  | ((with_reducible show AX _ _ _ _ _ _); first | ((with_reducible show AX _ (_ :: _) _ _ _ _); refine ax_cons ?_) | ((with_reducible show AX _ [] _ _ _ _); refine ax_nil ?_))
  | ((with_reducible show TX _ _ _ _ _ _); first
    | ((with_reducible show TX _ (.Compare _ [.Eq] [_] _) _ _ _ _); refine tx_eq (by first | exact hF | exact hF.blk _ | exact (hF.blk _).blk _) ?_)
    | ((with_reducible show TX _ (.Compare _ [.NotEq] [_] _) _ _ _ _); refine tx_ne (by first | exact hF | exact hF.blk _ | exact (hF.blk _).blk _) ?_)
    | ((with_reducible show TX _ (.Compare _ [.Lt] [_] _) _ _ _ _); refine tx_lt ?_)
    | ((with_reducible show TX _ (.Compare _ [.LtE] [_] _) _ _ _ _); refine tx_le ?_)
    | ((with_reducible show TX _ (.Compare _ [.Gt] [_] _) _ _ _ _); refine tx_gt ?_)
    | ((with_reducible show TX _ (.Compare _ [.GtE] [_] _) _ _ _ _); refine tx_ge ?_)
    | ((with_reducible show TX _ (.Compare _ [.Is] [.Constant .none _ _] _) _ _ _ _); refine tx_isN ?_)
    | ((with_reducible show TX _ (.Compare _ [.IsNot] [.Constant .none _ _] _) _ _ _ _); refine tx_notN ?_)
    | ((with_reducible show TX _ (.UnaryOp .Not _ _) _ _ _ _); refine tx_not ?_)
    | ((with_reducible show TX _ (.BoolOp .And _ _) _ _ _ _); refine WWX.tx (wx_and ?_))
    | ((with_reducible show TX _ (.BoolOp .Or _ _) _ _ _ _); refine WWX.tx (wx_or ?_))
    | ((with_reducible show TX _ (.Compare _ _ _ _) _ _ _ _); fail)
    | ((with_reducible show TX _ (.Call (.Name "isinstance" _) _ _ _) _ _ _ _); refine tx_bl ?_)
    | ((with_reducible show TX _ (_) _ _ _ _); refine tx_tru (by first | exact hF | exact hF.blk _ | exact (hF.blk _).blk _) (fun _ _ => rfl) ?_))
  | ((with_reducible show WWX _ _ _ _ _ _); first | ((with_reducible show WWX _ (.BoolOp .And [_] _) _ _ _ _); refine wx_and1 ?_) | ((with_reducible show WWX _ (.BoolOp .Or [_] _) _ _ _ _); refine wx_or1 ?_) | ((with_reducible show WWX _ (.BoolOp .And _ _) _ _ _ _); refine wx_and ?_) | ((with_reducible show WWX _ (.BoolOp .Or _ _) _ _ _ _); refine wx_or ?_))
  | with_reducible refine addP_ii ?_
  | with_reducible refine subP_ii ?_
  | with_reducible refine mulP_ii (by first | assumption | exact cm_l (by omega) (by omega) | exact cm_r (by omega) (by omega)) ?_
  | with_reducible refine modX_p (by first | assumption | decide | omega) ?_
  | with_reducible refine fdivP_ii (by first | assumption | exact cd_i (by omega) (by omega)) ?_
  | with_reducible refine powP_ii (by unfold CPow; decide) ?_
  | with_reducible refine negP_i ?_
  | with_reducible refine eqP_ii ?_
  | with_reducible refine eqP_ss ?_
  | with_reducible refine eqP_bb ?_
  | with_reducible refine neP_ii ?_
  | with_reducible refine neP_ss ?_
  | with_reducible refine neP_bb ?_
  | with_reducible refine ltP_ii ?_
  | with_reducible refine intP_i ?_
  | with_reducible refine intP_b ?_
  | with_reducible refine absP_i ?_
  | with_reducible refine boolP_b ?_
  | with_reducible refine lenP_t ?_
  | with_reducible refine lenP_l ?_
  | with_reducible refine lenP_rl ?_
  | with_reducible refine augP_ii ?_
  | with_reducible refine listP_l ?_
  | with_reducible refine listP_t ?_
  | with_reducible refine tupP_l ?_
  | with_reducible refine tupP_t ?_
  | with_reducible refine tru_i ?_
  | with_reducible refine tru_b ?_
  | ((with_reducible show lenP _ _ [.ref _]); refine lenP_r (by first | exact um_same | assumption) ?_)
  | ((with_reducible show ixX _ _ (.tup _) (.int _)); refine ixX_t (by rfl) ?_)
  | ((with_reducible show ixX _ _ (.lst _) (.int _)); refine ixX_l (by rfl) ?_)
  | ((with_reducible show ixX _ _ (.ref _) (.int _)); refine ixX_r (by first | exact um_same | assumption) (by rfl) ?_)
  | ((with_reducible show setX _ _ (.ref _) (.int _) _); refine setX_r (by first | exact um_same | assumption) (by rfl) ?_)
  | ((with_reducible show appP _ _ (.ref _) _); refine appP_r (by first | exact um_same | assumption) ?_ ?_)
  | ((with_reducible show isL _ (.ref _) ∧ _); refine isL_r (by first | exact um_same | assumption) ?_)
  | ((with_reducible apply ds1); get_elem_tactic_extensible)
  | ((with_reducible apply ds2); get_elem_tactic_extensible)
  | ((with_reducible apply ds3); get_elem_tactic_extensible)
  | ((with_reducible apply tgd_nm); get_elem_tactic_extensible)
  | ((with_reducible apply tgd_tp); get_elem_tactic_extensible)
  | ((with_reducible apply ty_is); first | exact rfl | assumption)
  | ((with_reducible show (isNoneD _ = true → _) ∧ _); first | refine bx_T (by rfl) ?_ | refine bx_F (by rfl) ?_)
  | ((with_reducible show ((!isNoneD _) = true → _) ∧ _); first | refine bx_T (by rfl) ?_ | refine bx_F (by rfl) ?_)
  | with_reducible refine br_T (by decide) ?_
  | with_reducible refine br_F (by decide) ?_
  | with_reducible refine bn_T (by decide) ?_
  | with_reducible refine bn_F (by decide) ?_
  | with_reducible refine bw_T ?_
  | with_reducible refine bw_F ?_
  | with_reducible refine bx_T (by decide) ?_
  | with_reducible refine bx_F (by decide) ?_
  | ((with_reducible show _ ≤ sizeLine ∧ _); refine ax_tup (by exact Nat.le_of_ble_eq_true (by rfl)) ?_)
  | fail)
set_option Elab.async false
set_option linter.all false
set_option maxRecDepth 100000
set_option maxHeartbeats 4000000
/-! K7L: the package's Row and Grain. -/
namespace K7
open PySem PySem.Spec PyProof.Rows L2 G
section
variable {T : Fm Unit} (hh : T.hot = false) {k : Nat} {P : Program} {w : World} {K : PySem.W.Frag} {mg : Str → Option Value} {base : Heap} {args : List D} {M : Ms} {Φ : PD} {Ψ : PX} {CR CG : Addr}
def rowD (CR : Addr) (q : Q4) : D := .ins CR ["numbers"] [qD q]
def grnD (CG : Addr) (q : Q4) : D := .ins CG ["name"] [qD q]
def ds_Row_init (CR : Addr) : DS := fun args M Φ _ => ∃ (s : Addr) (d : D) (q : Q4), args = [.ref s, d] ∧ seq2 d [.int q.a, .int q.b, .int q.c, .int q.d] ∧ q ≠ ⟨0, 0, 0, 0⟩ ∧ M s = some (.ins CR [] []) ∧ Φ .non (um M s (.ins CR ["numbers"] [qD q]))
include hh in
theorem b_Row___init__ (gB : Bi mg) (oR : OCls K CR ["numbers"]) (c1 : Cal false P w K mg base "is_four" k ["value"] ds_is_four) (hD : Fd T k P w K mg base n_Row___init__ (defScope s_Row___init__)) (h : ds_Row_init CR args M Φ Ψ) : Bod T s_Row___init__ n_Row___init__ args M Φ Ψ := by
  obtain ⟨s, d, q, rfl, hd, hq0, hs, hq⟩ := h
  have hF := hD.fc
  rcases hd with rfl | rfl
  · refine bod_start (by get_elem_tactic_extensible) ?_; refine ssx_cons ?_
    repeat' decreasing_trivial_pre_omega
    refine ⟨_, q, rfl, .inl rfl, ?_⟩
    rw [decide_eq_false hq0]
    repeat' decreasing_trivial_pre_omega
    refine sx_fld hF oR ?_
    repeat' decreasing_trivial_pre_omega
    refine ⟨s, _, _, rfl, hs, by decide, ?_⟩
    repeat' decreasing_trivial_pre_omega
    exact hq
  · refine bod_start (by get_elem_tactic_extensible) ?_; refine ssx_cons ?_
    repeat' decreasing_trivial_pre_omega
    refine ⟨_, q, rfl, .inr rfl, ?_⟩
    rw [decide_eq_false hq0]
    repeat' decreasing_trivial_pre_omega
    refine sx_fld hF oR ?_
    repeat' decreasing_trivial_pre_omega
    refine ⟨s, _, _, rfl, hs, by decide, ?_⟩
    repeat' decreasing_trivial_pre_omega
    exact hq
/-- a Row is made -/
theorem mk_row {xs : List D} {d : D} {q : Q4} (h1 : xs = [d]) (hd : seq2 d [.int q.a, .int q.b, .int q.c, .int q.d]) (hq : q ≠ ⟨0, 0, 0, 0⟩) (h : Φ (rowD CR q) M) : mkAsk CR (ds_Row_init CR) Φ Ψ xs M := by
  intro p hp
  refine ⟨p, d, q, by rw [h1], hd, hq, um_same, rfl, .inr ⟨["numbers"], [qD q], um_same, ?_⟩⟩
  rw [um_um, dm_um hp]
  exact h
def ds_Row_size (CR : Addr) : DS := fun args M Φ _ => ∃ q : Q4, args = [rowD CR q] ∧ SmQ q ∧ Φ (.int (nrmQ q)) M
include hh in
theorem b_Row_size (oR : OCls K CR ["numbers"]) (c1 : Cal false P w K mg base "four_size" k ["four"] ds_four_size) (hD : Fd T k P w K mg base n_Row_size (defScope s_Row_size)) (h : ds_Row_size CR args M Φ Ψ) : Bod T s_Row_size n_Row_size args M Φ Ψ := by
  obtain ⟨q, rfl, hs, hq⟩ := h
  have hF := hD.fc
  refine bod_start (by get_elem_tactic_extensible) ?_; refine ssx_cons ?_
  repeat' decreasing_trivial_pre_omega
  refine ex_fld hF oR ?_
  repeat' decreasing_trivial_pre_omega
  refine ⟨rfl, _, rfl, ?_⟩
  repeat' decreasing_trivial_pre_omega
  exact ⟨q, rfl, hs, hq⟩
def ds_Row_back (CR : Addr) : DS := fun args M Φ _ => ∃ q : Q4, args = [rowD CR q] ∧ q ≠ ⟨0, 0, 0, 0⟩ ∧ Φ (rowD CR (bakQ q)) M
theorem bak_ne {q : Q4} (h : q ≠ ⟨0, 0, 0, 0⟩) : bakQ q ≠ ⟨0, 0, 0, 0⟩ := fun z => h (by
  unfold bakQ at z
  injection z with h1 h2 h3 h4
  exact PySem.W.T4.same h1 (by have h2 : -q.b = 0 := h2; show q.b = 0; omega) (by have h3 : -q.c = 0 := h3; show q.c = 0; omega) (by have h4 : -q.d = 0 := h4; show q.d = 0; omega))
include hh in
theorem b_Row_back {j : Nat} (hj : j < k) (oR : OCls K CR ["numbers"]) (c1 : Cal false P w K mg base "four_back" k ["four"] ds_four_back) (cMk : MkC false P w K mg base "Row" CR j ["self", "numbers"] (ds_Row_init CR)) (hD : Fd T k P w K mg base n_Row_back (defScope s_Row_back)) (h : ds_Row_back CR args M Φ Ψ) : Bod T s_Row_back n_Row_back args M Φ Ψ := by
  obtain ⟨q, rfl, hs, hq⟩ := h
  have hF := hD.fc
  refine bod_start (by get_elem_tactic_extensible) ?_; refine ssx_cons ?_
  decreasing_trivial_pre_omega
  refine ex_make hF (cMk.at hh) hj ?_
  repeat' decreasing_trivial_pre_omega
  refine ex_fld hF oR ?_
  repeat' decreasing_trivial_pre_omega
  refine ⟨rfl, _, rfl, ?_⟩
  repeat' decreasing_trivial_pre_omega
  refine ⟨q, rfl, ?_⟩
  repeat' decreasing_trivial_pre_omega
  exact mk_row rfl (.inl rfl) (bak_ne hs) hq
end
end K7
end
set_option Elab.async false
set_option linter.all false
set_option maxRecDepth 100000
set_option maxHeartbeats 4000000
/-! K12M: norms, contents (as in K7Y). -/
namespace K7
open PySem PySem.Spec PyProof.Rows L2 G
/-! ### norms, contents -/
theorem nrm_mul (p q : Q4) : nrmQ (mulQ p q) = nrmQ p * nrmQ q := by unfold nrmQ mulQ; grind
theorem nrm_bak (p : Q4) : nrmQ (bakQ p) = nrmQ p := by unfold nrmQ bakQ; grind
theorem dvd_gcdN {n a b : Int} : n ∣ gcdN a b ↔ n ∣ a ∧ n ∣ b := by
  unfold gcdN
  show n ∣ ((Int.gcd a b : Nat) : Int) ↔ _
  exact ⟨fun h => ⟨Int.dvd_trans h (Int.gcd_dvd_left a b), Int.dvd_trans h (Int.gcd_dvd_right a b)⟩, fun h => Int.dvd_coe_gcd h.1 h.2⟩
theorem dvd_con {n : Int} {p : Q4} : n ∣ conQ p ↔ n ∣ p.a ∧ n ∣ p.b ∧ n ∣ p.c ∧ n ∣ p.d := by
  unfold conQ
  rw [dvd_gcdN, dvd_gcdN, dvd_gcdN, dvd_gcdN]
  exact ⟨fun h => ⟨h.1.1.1.2, h.1.1.2, h.1.2, h.2⟩, fun h => ⟨⟨⟨⟨Int.dvd_zero _, h.1⟩, h.2.1⟩, h.2.2.1⟩, h.2.2.2⟩⟩
theorem con_nonneg (p : Q4) : 0 ≤ conQ p := by unfold conQ gcdN; omega
theorem sq_nonneg (x : Int) : 0 ≤ x * x := by
  rcases Int.le_total 0 x with h | h
  · exact Int.mul_nonneg h h
  · have := Int.mul_nonneg (show 0 ≤ -x by omega) (show 0 ≤ -x by omega)
    rwa [Int.neg_mul_neg] at this
theorem le_sq (x : Int) : x ≤ x * x ∧ -x ≤ x * x := by
  rcases Int.le_total 0 x with h | h
  · rcases Int.lt_or_le x 1 with h1 | h1
    · have : x = 0 := by omega
      subst this; decide
    · have := Int.mul_le_mul h1 (Int.le_refl x) h (by omega)
      omega
  · rcases Int.lt_or_le (-x) 1 with h1 | h1
    · have : x = 0 := by omega
      subst this; decide
    · have := Int.mul_le_mul h1 (Int.le_refl (-x)) (by omega) (by omega)
      rw [Int.one_mul, Int.neg_mul_neg] at this
      omega
theorem nrm_pos {p : Q4} (h : p ≠ ⟨0, 0, 0, 0⟩) : 0 < nrmQ p := by
  unfold nrmQ
  have h1 := sq_nonneg p.a; have h2 := sq_nonneg p.b; have h3 := sq_nonneg p.c; have h4 := sq_nonneg p.d
  have k1 := le_sq p.a; have k2 := le_sq p.b; have k3 := le_sq p.c; have k4 := le_sq p.d
  rcases Int.lt_or_le 0 (p.a * p.a + p.b * p.b + p.c * p.c + p.d * p.d) with g | g
  · exact g
  · exfalso
    apply h
    exact PySem.W.T4.same (by show p.a = 0; omega) (by show p.b = 0; omega) (by show p.c = 0; omega) (by show p.d = 0; omega)
theorem con_pos {p : Q4} (h : 0 < nrmQ p) : 0 < conQ p := by
  rcases Int.lt_or_le 0 (conQ p) with g | g
  · exact g
  · have g0 : conQ p = 0 := by have := con_nonneg p; omega
    have := (dvd_con (n := 0) (p := p)).mp (by rw [g0]; exact Int.dvd_refl 0)
    obtain ⟨h1, h2, h3, h4⟩ := this
    rw [Int.zero_dvd] at h1 h2 h3 h4
    unfold nrmQ at h
    rw [h1, h2, h3, h4] at h
    omega
/-- a row over its content -/
theorem con_split (p : Q4) (h : 0 < conQ p) : ∃ r : Q4, p = ⟨conQ p * r.a, conQ p * r.b, conQ p * r.c, conQ p * r.d⟩ ∧ nrmQ p = conQ p * conQ p * nrmQ r ∧ nrmQ p / (conQ p * conQ p) = nrmQ r := by
  obtain ⟨⟨a, ha⟩, ⟨b, hb⟩, ⟨c, hc⟩, ⟨d, hd⟩⟩ := (dvd_con (n := conQ p) (p := p)).mp (Int.dvd_refl _)
  have e : nrmQ p = conQ p * conQ p * nrmQ ⟨a, b, c, d⟩ := by
    unfold nrmQ
    show p.a * p.a + p.b * p.b + p.c * p.c + p.d * p.d = _ * (a * a + b * b + c * c + d * d)
    generalize conQ p = g at *
    rw [ha, hb, hc, hd]
    grind
  refine ⟨⟨a, b, c, d⟩, PySem.W.T4.same ha hb hc hd, e, ?_⟩
  rw [e]
  exact Int.mul_ediv_cancel_left _ (Int.ne_of_gt (Int.mul_pos h h))
theorem sm_x {x : Q4} (h : nrmQ x ≤ 1000000) : SmQ x := by
  have s1 := sq_nonneg x.a; have s2 := sq_nonneg x.b; have s3 := sq_nonneg x.c; have s4 := sq_nonneg x.d
  have k1 := le_sq x.a; have k2 := le_sq x.b; have k3 := le_sq x.c; have k4 := le_sq x.d
  have h : x.a * x.a + x.b * x.b + x.c * x.c + x.d * x.d ≤ 1000000 := h
  exact ⟨by omega, by omega, by omega, by omega, by omega, by omega, by omega, by omega⟩
theorem sm_nrm {x : Q4} (h : nrmQ x ≤ 1000000000000) : SmQ x := by
  have s1 := sq_nonneg x.a; have s2 := sq_nonneg x.b; have s3 := sq_nonneg x.c; have s4 := sq_nonneg x.d
  have k1 := le_sq x.a; have k2 := le_sq x.b; have k3 := le_sq x.c; have k4 := le_sq x.d
  have h : x.a * x.a + x.b * x.b + x.c * x.c + x.d * x.d ≤ 1000000000000 := h
  exact ⟨by omega, by omega, by omega, by omega, by omega, by omega, by omega, by omega⟩
theorem prim_mul {x : Q4} (h : 0 < nrmQ x) : x = ⟨conQ x * (primQ x).a, conQ x * (primQ x).b, conQ x * (primQ x).c, conQ x * (primQ x).d⟩ ∧ nrmQ x = conQ x * conQ x * nrmQ (primQ x) := by
  have hc := con_pos h
  obtain ⟨r, e, e2, _⟩ := con_split x hc
  have hp : primQ x = r := by
    unfold primQ parQ
    generalize conQ x = c at *
    subst e
    dsimp only
    rw [Int.mul_ediv_cancel_left _ (by omega), Int.mul_ediv_cancel_left _ (by omega), Int.mul_ediv_cancel_left _ (by omega), Int.mul_ediv_cancel_left _ (by omega)]
  rw [hp]
  exact ⟨e, e2⟩
end K7
section
set_option pp.deepTerms false
set_option pp.deepTerms.threshold 5
set_option pp.maxSteps 3000
set_option hygiene false
local macro_rules | `(tactic| get_elem_tactic_extensible) => `(tactic| (repeat' (first | with_reducible exact AtN.z | with_reducible exact AtG.z | with_reducible exact SetS.z | with_reducible exact SetSs.nil | exact WipeS.nil | with_reducible apply AtN.s | with_reducible apply AtG.s | with_reducible apply SetS.s | with_reducible apply SetSs.cons | apply WipeS.cons | exact StartS.nil | apply StartS.arg | apply StartS.var)))
local macro_rules | `(tactic| decreasing_trivial_pre_omega) => `(tactic| first
  | ((with_reducible show SSX _ _ _ _ _); first | ((with_reducible show SSX _ (_ :: _) _ _ _); refine ssx_cons ?_) | ((with_reducible show SSX _ [] _ _ _); refine ssx_nil ?_))
  | ((with_reducible show SX _ _ _ _ _); first
    | ((with_reducible show SX _ (.Return (some _) _) _ _ _); refine sx_ret ?_)
    | ((with_reducible show SX _ (.Return none _) _ _ _); refine sx_retN ?_)
    | ((with_reducible show SX _ (.If _ _ _ _) _ _ _); refine sx_if ?_)
    | ((with_reducible show SX _ (.Assign [.Name _ _] (.ListComp _ _ _ _) _) _ _ _); fail)
    | ((with_reducible show SX _ (.Assign [.Name _ _] _ _) _ _ _); refine sx_setA hD (by get_elem_tactic_extensible) ?_)
    | ((with_reducible show SX _ (.Assign [.Tuple [.Name _ _, .Name _ _] _ _] (.Tuple [_, _] _ _) _) _ _ _); refine sx_par2 hD (by get_elem_tactic_extensible) (by get_elem_tactic_extensible) (by decide) ?_)
    | ((with_reducible show SX _ (.Assign [.Tuple [.Name _ _, .Name _ _, .Name _ _] _ _] (.Tuple [_, _, _] _ _) _) _ _ _); refine sx_par3A hD (by get_elem_tactic_extensible) (by get_elem_tactic_extensible) (by get_elem_tactic_extensible) (by decide) (by decide) (by decide) ?_)
    | ((with_reducible show SX _ (.Assign [.Tuple _ _ _] _ _) _ _ _); refine sx_asg hD (tg_tpA hD (by repeat' (first | exact tn_nil | apply tn_consA hD (by get_elem_tactic_extensible))) (by rfl)) ?_)
    | ((with_reducible show SX _ (.Assign [.Subscript _ _ _] _ _) _ _ _); refine sx_subX hF ?_)
    | ((with_reducible show SX _ (.AugAssign (.Name _ _) .Add _ _) _ _ _); refine sx_augadd hD (by get_elem_tactic_extensible) (by get_elem_tactic_extensible) ?_)
    | ((with_reducible show SX _ (.Expr _ _) _ _ _); refine sx_expr ?_)
    | ((with_reducible show SX _ (.Break _) _ _ _); refine sx_break ?_)
    | ((with_reducible show SX _ (.Continue _) _ _ _); refine sx_continue ?_)
    | ((with_reducible show SX _ (.Pass _) _ _ _); refine sx_pass ?_))
  | ((with_reducible show EX _ _ _ _ _ _); first
    | ((with_reducible show EX _ (.Name _ _) _ _ _ _); refine ax_var (by first | exact hF | exact hF.blk _ | exact (hF.blk _).blk _) (by get_elem_tactic_extensible) (by get_elem_tactic_extensible) ?_)
    | ((with_reducible show EX _ (.Constant (.int _) _ _) _ _ _ _); refine ex_int ?_)
    | ((with_reducible show EX _ (.Constant (.str _) _ _) _ _ _ _); refine ex_str ?_)
    | ((with_reducible show EX _ (.Constant (.bool _) _ _) _ _ _ _); refine ex_bl ?_)
    | ((with_reducible show EX _ (.Constant .none _ _) _ _ _ _); refine ex_non ?_)
    | ((with_reducible show EX _ (.BinOp _ .Add _ _) _ _ _ _); refine ex_add ?_)
    | ((with_reducible show EX _ (.BinOp _ .Sub _ _) _ _ _ _); refine ex_sub ?_)
    | ((with_reducible show EX _ (.BinOp _ .Mult _ _) _ _ _ _); refine ex_mul ?_)
    | ((with_reducible show EX _ (.BinOp _ .Mod _ _) _ _ _ _); refine ex_modX ?_)
    | ((with_reducible show EX _ (.BinOp _ .FloorDiv _ _) _ _ _ _); refine ex_fdiv ?_)
    | ((with_reducible show EX _ (.BinOp _ .Pow _ _) _ _ _ _); refine ex_pow ?_)
    | ((with_reducible show EX _ (.UnaryOp .USub _ _) _ _ _ _); refine ex_neg ?_)
    | ((with_reducible show EX _ (.UnaryOp .Not _ _) _ _ _ _); refine ex_not ?_)
    | ((with_reducible show EX _ (.Tuple _ _ _) _ _ _ _); refine ex_tup ?_)
    | ((with_reducible show EX _ (.List (_ :: _) _) _ _ _ _); refine ex_lst ?_)
    | ((with_reducible show EX _ (.IfExp _ _ _ _) _ _ _ _); refine ex_if ?_)
    | ((with_reducible show EX _ (.Compare _ [.Eq] [_] _) _ _ _ _); refine ex_eq (by first | exact hF | exact hF.blk _ | exact (hF.blk _).blk _) ?_)
    | ((with_reducible show EX _ (.Compare _ [.NotEq] [_] _) _ _ _ _); refine ex_ne (by first | exact hF | exact hF.blk _ | exact (hF.blk _).blk _) ?_)
    | ((with_reducible show EX _ (.Compare _ [.Lt] [_] _) _ _ _ _); refine ex_lt ?_)
    | ((with_reducible show EX _ (.Compare _ [.LtE] [_] _) _ _ _ _); refine ex_le ?_)
    | ((with_reducible show EX _ (.Compare _ [.Gt] [_] _) _ _ _ _); refine ex_gt ?_)
    | ((with_reducible show EX _ (.Compare _ [.GtE] [_] _) _ _ _ _); refine ex_ge ?_)
    | ((with_reducible show EX _ (.Compare _ [.Is] [.Constant .none _ _] _) _ _ _ _); refine ex_isN ?_)
    | ((with_reducible show EX _ (.Compare _ [.IsNot] [.Constant .none _ _] _) _ _ _ _); refine ex_notN ?_)
    | ((with_reducible show EX _ (.BoolOp _ [_] _) _ _ _ _); refine ex_one ?_)
    | ((with_reducible show EX _ (.BoolOp .And _ _) _ _ _ _); refine ex_and ?_)
    | ((with_reducible show EX _ (.BoolOp .Or _ _) _ _ _ _); refine ex_or ?_)
    | ((with_reducible show EX _ (.Subscript _ (.Slice _ _ _ _) _) _ _ _ _); fail)
    | ((with_reducible show EX _ (.Subscript _ _ _) _ _ _ _); refine ex_ixX (by first | exact hF | exact hF.blk _ | exact (hF.blk _).blk _) ?_)
    | ((with_reducible show EX _ (.Call (.Name "len" _) [_] [] _) _ _ _ _); refine ex_len (by first | exact hF | exact hF.blk _ | exact (hF.blk _).blk _) gB.len ?_)
    | ((with_reducible show EX _ (.Call (.Name "int" _) [_] [] _) _ _ _ _); refine ex_int1 (by first | exact hF | exact hF.blk _ | exact (hF.blk _).blk _) gB.int ?_)
    | ((with_reducible show EX _ (.Call (.Name "abs" _) [_] [] _) _ _ _ _); refine ex_abs (by first | exact hF | exact hF.blk _ | exact (hF.blk _).blk _) gB.abs ?_)
    | ((with_reducible show EX _ (.Call (.Name "list" _) [_] [] _) _ _ _ _); refine ex_list1 (by first | exact hF | exact hF.blk _ | exact (hF.blk _).blk _) gB.list ?_)
    | ((with_reducible show EX _ (.Call (.Name "tuple" _) [_] [] _) _ _ _ _); refine ex_tuple1 (by first | exact hF | exact hF.blk _ | exact (hF.blk _).blk _) gB.tuple ?_)
    | ((with_reducible show EX _ (.Call (.Name "sum" _) [_] [] _) _ _ _ _); refine ex_sum (by first | exact hF | exact hF.blk _ | exact (hF.blk _).blk _) gB.sum ?_)
    | ((with_reducible show EX _ (.Call (.Name "max" _) [_] [] _) _ _ _ _); refine ex_max (by first | exact hF | exact hF.blk _ | exact (hF.blk _).blk _) gB.max ?_)
    | ((with_reducible show EX _ (.Call (.Name "all" _) [_] [] _) _ _ _ _); refine ex_all (by first | exact hF | exact hF.blk _ | exact (hF.blk _).blk _) gB.all ?_)
    | ((with_reducible show EX _ (.Call (.Name "bool" _) [_] [] _) _ _ _ _); refine ex_bool1 (by first | exact hF | exact hF.blk _ | exact (hF.blk _).blk _) gB.bool ?_)
    | ((with_reducible show EX _ (.Call (.Name "max" _) [_, _] [] _) _ _ _ _); refine ex_max2 (by first | exact hF | exact hF.blk _ | exact (hF.blk _).blk _) gB.max ?_)
    | ((with_reducible show EX _ (.Call (.Name "gcd" _) [_, _] [] _) _ _ _ _); refine ex_gcd (by first | exact hF | exact hF.blk _ | exact (hF.blk _).blk _) gGcd ?_)
    | ((with_reducible show EX _ (.Call (.Name "isqrt" _) [_] [] _) _ _ _ _); refine ex_isqrt (by first | exact hF | exact hF.blk _ | exact (hF.blk _).blk _) gIsqrt ?_)
    | ((with_reducible show EX _ (.Call (.Name "sorted" _) [_] [_] _) _ _ _ _); refine ex_sortR (by first | exact hF | exact hF.blk _ | exact (hF.blk _).blk _) gB.sorted ?_)
    | ((with_reducible show EX _ (.Call (.Name "isinstance" _) [_, .Name "list" _] [] _) _ _ _ _); refine ex_isi (by first | exact hF | exact hF.blk _ | exact (hF.blk _).blk _) .lst gB.isinstance gB.list ?_)
    | ((with_reducible show EX _ (.Call (.Name "isinstance" _) [_, .Name "tuple" _] [] _) _ _ _ _); refine ex_isi (by first | exact hF | exact hF.blk _ | exact (hF.blk _).blk _) .tup gB.isinstance gB.tuple ?_)
    | ((with_reducible show EX _ (.Call (.Name "isinstance" _) [_, .Name "int" _] [] _) _ _ _ _); refine ex_isi (by first | exact hF | exact hF.blk _ | exact (hF.blk _).blk _) .int gB.isinstance gB.int ?_)
    | ((with_reducible show EX _ (.Call (.Name "isinstance" _) [_, .Name "bool" _] [] _) _ _ _ _); refine ex_isi (by first | exact hF | exact hF.blk _ | exact (hF.blk _).blk _) .bl gB.isinstance gB.bool ?_)
    | ((with_reducible show EX _ (.Call (.Name "isinstance" _) [_, .Name "str" _] [] _) _ _ _ _); refine ex_isi (by first | exact hF | exact hF.blk _ | exact (hF.blk _).blk _) .str gB.isinstance gB.str ?_)
    | ((with_reducible show EX _ (.Call (.Name "isinstance" _) [_, .Name "dict" _] [] _) _ _ _ _); refine ex_isi (by first | exact hF | exact hF.blk _ | exact (hF.blk _).blk _) .dic gB.isinstance gB.dict ?_)
    | ((with_reducible show EX _ (.Call (.Name "isinstance" _) [_, .Tuple [.Name "list" _, .Name "tuple" _] _ _] [] _) _ _ _ _); refine ex_isi2 (by first | exact hF | exact hF.blk _ | exact (hF.blk _).blk _) .lst .tup gB.isinstance gB.list gB.tuple ?_)
    | ((with_reducible show EX _ (.Call (.Name "isinstance" _) [_, .Tuple [.Name "list" _, .Name "tuple" _, .Name "dict" _] _ _] [] _) _ _ _ _); refine ex_isi3 (by first | exact hF | exact hF.blk _ | exact (hF.blk _).blk _) .lst .tup .dic gB.isinstance gB.list gB.tuple gB.dict ?_)
    | ((with_reducible show EX _ (.Call (.Attribute _ "append" _) [_] [] _) _ _ _ _); refine ex_append (by first | exact hF | exact hF.blk _ | exact (hF.blk _).blk _) ?_)
    | ((with_reducible show EX _ (.Call (.Name _ _) (_ :: _) [] _) _ _ _ _); refine ex_callF (by first | exact hF | exact hF.blk _ | exact (hF.blk _).blk _) (by with_reducible assumption) (by omega) ?_))
  | ((with_reducible show AX _ _ _ _ _ _); first | ((with_reducible show AX _ (_ :: _) _ _ _ _); refine ax_cons ?_) | ((with_reducible show AX _ [] _ _ _ _); refine ax_nil ?_))
  | ((with_reducible show TX _ _ _ _ _ _); first
    | ((with_reducible show TX _ (.Compare _ [.Eq] [_] _) _ _ _ _); refine tx_eq (by first | exact hF | exact hF.blk _ | exact (hF.blk _).blk _) ?_)
    | ((with_reducible show TX _ (.Compare _ [.NotEq] [_] _) _ _ _ _); refine tx_ne (by first | exact hF | exact hF.blk _ | exact (hF.blk _).blk _) ?_)
    | ((with_reducible show TX _ (.Compare _ [.Lt] [_] _) _ _ _ _); refine tx_lt ?_)
    | ((with_reducible show TX _ (.Compare _ [.LtE] [_] _) _ _ _ _); refine tx_le ?_)
    | ((with_reducible show TX _ (.Compare _ [.Gt] [_] _) _ _ _ _); refine tx_gt ?_)
    | ((with_reducible show TX _ (.Compare _ [.GtE] [_] _) _ _ _ _); refine tx_ge ?_)
    | ((with_reducible show TX _ (.Compare _ [.Is] [.Constant .none _ _] _) _ _ _ _); refine tx_isN ?_)
    | ((with_reducible show TX _ (.Compare _ [.IsNot] [.Constant .none _ _] _) _ _ _ _); refine tx_notN ?_)
    | ((with_reducible show TX _ (.UnaryOp .Not _ _) _ _ _ _); refine tx_not ?_)
    | ((with_reducible show TX _ (.BoolOp .And _ _) _ _ _ _); refine WWX.tx (wx_and ?_))
    | ((with_reducible show TX _ (.BoolOp .Or _ _) _ _ _ _); refine WWX.tx (wx_or ?_))
    | ((with_reducible show TX _ (.Compare _ _ _ _) _ _ _ _); fail)
    | ((with_reducible show TX _ (.Call (.Name "isinstance" _) _ _ _) _ _ _ _); refine tx_bl ?_)
    | ((with_reducible show TX _ (_) _ _ _ _); refine tx_tru (by first | exact hF | exact hF.blk _ | exact (hF.blk _).blk _) (fun _ _ => rfl) ?_))
  | ((with_reducible show WWX _ _ _ _ _ _); first | ((with_reducible show WWX _ (.BoolOp .And [_] _) _ _ _ _); refine wx_and1 ?_) | ((with_reducible show WWX _ (.BoolOp .Or [_] _) _ _ _ _); refine wx_or1 ?_) | ((with_reducible show WWX _ (.BoolOp .And _ _) _ _ _ _); refine wx_and ?_) | ((with_reducible show WWX _ (.BoolOp .Or _ _) _ _ _ _); refine wx_or ?_))
  | with_reducible refine addP_ii ?_
  | with_reducible refine subP_ii ?_
  | with_reducible refine mulP_ii (by first | assumption | exact cm_l (by omega) (by omega) | exact cm_r (by omega) (by omega)) ?_
  | with_reducible refine modX_p (by first | assumption | decide | omega) ?_
  | with_reducible refine fdivP_ii (by first | assumption | exact cd_i (by omega) (by omega)) ?_
  | with_reducible refine powP_ii (by unfold CPow; decide) ?_
  | with_reducible refine negP_i ?_
  | with_reducible refine eqP_ii ?_
  | with_reducible refine eqP_ss ?_
  | with_reducible refine eqP_bb ?_
  | with_reducible refine neP_ii ?_
  | with_reducible refine neP_ss ?_
  | with_reducible refine neP_bb ?_
  | with_reducible refine ltP_ii ?_
  | with_reducible refine intP_i ?_
  | with_reducible refine intP_b ?_
  | with_reducible refine absP_i ?_
  | with_reducible refine boolP_b ?_
  | with_reducible refine lenP_t ?_
  | with_reducible refine lenP_l ?_
  | with_reducible refine lenP_rl ?_
  | with_reducible refine augP_ii ?_
  | with_reducible refine listP_l ?_
  | with_reducible refine listP_t ?_
  | with_reducible refine tupP_l ?_
  | with_reducible refine tupP_t ?_
  | with_reducible refine tru_i ?_
  | with_reducible refine tru_b ?_
  | ((with_reducible show lenP _ _ [.ref _]); refine lenP_r (by first | exact um_same | assumption) ?_)
  | ((with_reducible show ixX _ _ (.tup _) (.int _)); refine ixX_t (by rfl) ?_)
  | ((with_reducible show ixX _ _ (.lst _) (.int _)); refine ixX_l (by rfl) ?_)
  | ((with_reducible show ixX _ _ (.ref _) (.int _)); refine ixX_r (by first | exact um_same | assumption) (by rfl) ?_)
  | ((with_reducible show setX _ _ (.ref _) (.int _) _); refine setX_r (by first | exact um_same | assumption) (by rfl) ?_)
  | ((with_reducible show appP _ _ (.ref _) _); refine appP_r (by first | exact um_same | assumption) ?_ ?_)
  | ((with_reducible show isL _ (.ref _) ∧ _); refine isL_r (by first | exact um_same | assumption) ?_)
  | ((with_reducible apply ds1); get_elem_tactic_extensible)
  | ((with_reducible apply ds2); get_elem_tactic_extensible)
  | ((with_reducible apply ds3); get_elem_tactic_extensible)
  | ((with_reducible apply tgd_nm); get_elem_tactic_extensible)
  | ((with_reducible apply tgd_tp); get_elem_tactic_extensible)
  | ((with_reducible apply ty_is); first | exact rfl | assumption)
  | ((with_reducible show (isNoneD _ = true → _) ∧ _); first | refine bx_T (by rfl) ?_ | refine bx_F (by rfl) ?_)
  | ((with_reducible show ((!isNoneD _) = true → _) ∧ _); first | refine bx_T (by rfl) ?_ | refine bx_F (by rfl) ?_)
  | with_reducible refine br_T (by decide) ?_
  | with_reducible refine br_F (by decide) ?_
  | with_reducible refine bn_T (by decide) ?_
  | with_reducible refine bn_F (by decide) ?_
  | with_reducible refine bw_T ?_
  | with_reducible refine bw_F ?_
  | with_reducible refine bx_T (by decide) ?_
  | with_reducible refine bx_F (by decide) ?_
  | ((with_reducible show _ ≤ sizeLine ∧ _); refine ax_tup (by exact Nat.le_of_ble_eq_true (by rfl)) ?_)
  | fail)
set_option Elab.async false
set_option linter.all false
set_option maxRecDepth 100000
set_option maxHeartbeats 4000000
/-! K12N: the package's names of any rows: _halved, odd_four, name_of, Grain of any row. -/
namespace K7
open PySem PySem.Spec PyProof.Rows L2 G
def hbk (p : Q4) : Q4 := if (p.a + p.b) % 2 = 0 then ⟨1, -1, 0, 0⟩ else if (p.a + p.c) % 2 = 0 then ⟨1, 0, -1, 0⟩ else ⟨1, 0, 0, -1⟩
def halfQ (p : Q4) : Q4 := parQ (mulQ p (hbk p)) 2
theorem sq_par (x : Int) : (x * x) % 2 = x % 2 := by
  rw [Int.mul_emod]
  have h0 : x % 2 = 0 ∨ x % 2 = 1 := by omega
  rcases h0 with h | h <;> rw [h] <;> rfl
theorem nrm_par {p : Q4} : nrmQ p % 2 = (p.a + p.b + p.c + p.d) % 2 := by
  have h1 := sq_par p.a; have h2 := sq_par p.b; have h3 := sq_par p.c; have h4 := sq_par p.d
  unfold nrmQ
  omega
theorem half_ok {p : Q4} (h : nrmQ p % 2 = 0) : mulQ p (hbk p) = ⟨2 * (halfQ p).a, 2 * (halfQ p).b, 2 * (halfQ p).c, 2 * (halfQ p).d⟩ := by
  rw [nrm_par] at h
  unfold halfQ parQ hbk
  by_cases h1 : (p.a + p.b) % 2 = 0
  · rw [if_pos h1]
    unfold mulQ
    exact PySem.W.T4.same (by dsimp only; omega) (by dsimp only; omega) (by dsimp only; omega) (by dsimp only; omega)
  · rw [if_neg h1]
    by_cases h2 : (p.a + p.c) % 2 = 0
    · rw [if_pos h2]
      unfold mulQ
      exact PySem.W.T4.same (by dsimp only; omega) (by dsimp only; omega) (by dsimp only; omega) (by dsimp only; omega)
    · rw [if_neg h2]
      unfold mulQ
      exact PySem.W.T4.same (by dsimp only; omega) (by dsimp only; omega) (by dsimp only; omega) (by dsimp only; omega)
theorem hbk_nrm (p : Q4) : nrmQ (hbk p) = 2 := by
  unfold hbk
  split
  · rfl
  · split <;> rfl
theorem half_nrm {p : Q4} (h : nrmQ p % 2 = 0) : 2 * nrmQ (halfQ p) = nrmQ p := by
  have e := nrm_mul p (hbk p)
  rw [hbk_nrm, half_ok h] at e
  have e2 : nrmQ ⟨2 * (halfQ p).a, 2 * (halfQ p).b, 2 * (halfQ p).c, 2 * (halfQ p).d⟩ = 4 * nrmQ (halfQ p) := by unfold nrmQ; grind
  omega
def oddF : Nat → Q4 → Q4
  | 0, p => p
  | k + 1, p => if nrmQ p % 2 = 0 then oddF k (halfQ p) else p
theorem odd_more : ∀ (f g : Nat) (p : Q4), 0 < nrmQ p → (nrmQ p).toNat ≤ f → (nrmQ p).toNat ≤ g → oddF f p = oddF g p
  | 0, g, p, h, hf, hg => by omega
  | f + 1, 0, p, h, hf, hg => by omega
  | f + 1, g + 1, p, h, hf, hg => by
    unfold oddF
    by_cases he : nrmQ p % 2 = 0
    · rw [if_pos he, if_pos he]
      have e := half_nrm he
      exact odd_more f g (halfQ p) (by omega) (by omega) (by omega)
    · rw [if_neg he, if_neg he]
def oddQ (p : Q4) : Q4 := oddF (nrmQ p).toNat p
theorem odd_half {p : Q4} (h : 0 < nrmQ p) (he : nrmQ p % 2 = 0) : oddQ p = oddQ (halfQ p) := by
  have e := half_nrm he
  unfold oddQ
  obtain ⟨m, hm⟩ : ∃ m, (nrmQ p).toNat = m + 1 := ⟨(nrmQ p).toNat - 1, by omega⟩
  rw [hm]
  show (if nrmQ p % 2 = 0 then oddF m (halfQ p) else p) = _
  rw [if_pos he]
  exact odd_more _ _ _ (by omega) (by omega) (Nat.le_refl _)
theorem odd_odd {p : Q4} (he : ¬ nrmQ p % 2 = 0) : oddQ p = p := by
  unfold oddQ
  cases (nrmQ p).toNat with
  | zero => rfl
  | succ m =>
    show (if nrmQ p % 2 = 0 then oddF m (halfQ p) else p) = _
    rw [if_neg he]
/-- the name of the grain of a row -/
def namQ (p : Q4) : Q4 := grtP (oddQ (primQ p))
theorem con_lt {p : Q4} (h0 : p ≠ ⟨0, 0, 0, 0⟩) (h : nrmQ p ≤ 1000000000000) : 0 < conQ p ∧ conQ p < 1073741824 ∧ 0 < nrmQ (primQ p) ∧ nrmQ (primQ p) ≤ nrmQ p := by
  have hp := nrm_pos h0
  have hc := con_pos hp
  obtain ⟨_, e⟩ := prim_mul hp
  have h1 : 0 < nrmQ (primQ p) := by
    rcases Int.lt_or_le 0 (nrmQ (primQ p)) with z | z
    · exact z
    · have := Int.mul_nonneg (sq_nonneg (conQ p)) (show 0 ≤ -nrmQ (primQ p) by omega)
      rw [Int.mul_neg] at this
      omega
  have h2 : 1 ≤ conQ p * conQ p := by
    have := Int.mul_le_mul (show 1 ≤ conQ p by omega) (show 1 ≤ conQ p by omega) (by omega) (by omega)
    omega
  have h3 := Int.mul_le_mul_of_nonneg_right h2 (Int.le_of_lt h1)
  rw [Int.one_mul, ← e] at h3
  have h4 := Int.mul_le_mul_of_nonneg_left (show 1 ≤ nrmQ (primQ p) by omega) (sq_nonneg (conQ p))
  rw [Int.mul_one, ← e] at h4
  refine ⟨hc, ?_, h1, h3⟩
  rcases Int.lt_or_le (conQ p) 1073741824 with z | z
  · exact z
  · have := Int.mul_le_mul z z (by omega) (by omega)
    omega
section
variable {CR CG : Addr} {T : Fm Unit} (hh : T.hot = false) {k : Nat} {P : Program} {w : World} {K : PySem.W.Frag} {mg : Str → Option Value} {base : Heap} {args : List D} {M : Ms} {Φ : PD} {Ψ : PX}
def ds__halved : DS := fun args M Φ _ => ∃ p : Q4, args = [qD p] ∧ SmQ p ∧ Φ (qD (halfQ p)) M
include hh in
theorem b__halved (c1 : Cal false P w K mg base "four_parts" k ["four", "common"] ds_four_parts) (c2 : Cal false P w K mg base "four_product" k ["one", "two"] ds_four_product) (hD : Fd T k P w K mg base n__halved (defScope s__halved)) (h : ds__halved args M Φ Ψ) : Bod T s__halved n__halved args M Φ Ψ := by
  obtain ⟨p, rfl, hs, hq⟩ := h
  have hF := hD.fc
  unfold halfQ hbk at hq
  refine bod_start (by get_elem_tactic_extensible) ?_; refine ssx_cons ?_
  repeat' decreasing_trivial_pre_omega
  refine br_d (fun hc => ?_) (fun hc => ?_)
  · rw [if_pos hc] at hq
    repeat' decreasing_trivial_pre_omega
    refine ⟨p, ⟨1, -1, 0, 0⟩, rfl, hs, ?_⟩
    repeat' decreasing_trivial_pre_omega
    exact ⟨_, 2, rfl, by decide, by decide, hq⟩
  · rw [if_neg hc] at hq
    repeat' decreasing_trivial_pre_omega
    refine br_d (fun hc => ?_) (fun hc => ?_)
    · rw [if_pos hc] at hq
      repeat' decreasing_trivial_pre_omega
      refine ⟨p, ⟨1, 0, -1, 0⟩, rfl, hs, ?_⟩
      repeat' decreasing_trivial_pre_omega
      exact ⟨_, 2, rfl, by decide, by decide, hq⟩
    · rw [if_neg hc] at hq
      repeat' decreasing_trivial_pre_omega
      refine ⟨p, ⟨1, 0, 0, -1⟩, rfl, hs, ?_⟩
      repeat' decreasing_trivial_pre_omega
      exact ⟨_, 2, rfl, by decide, by decide, hq⟩
def ds_odd_fourG : DS := fun args M Φ _ => ∃ p : Q4, args = [qD p] ∧ p ≠ ⟨0, 0, 0, 0⟩ ∧ nrmQ p ≤ 1000000000000 ∧ Φ (qD (oddQ (primQ p))) M
include hh in
theorem b_odd_fourG (c1 : Cal false P w K mg base "primitive" k ["four"] ds_primitive) (c2 : Cal false P w K mg base "four_size" k ["four"] ds_four_size) (c3 : Cal false P w K mg base "_halved" k ["four"] ds__halved) (hD : Fd T k P w K mg base n_odd_four (defScope s_odd_four)) (h : ds_odd_fourG args M Φ Ψ) : Bod T s_odd_four n_odd_four args M Φ Ψ := by
  obtain ⟨p, rfl, h0, h1, hq⟩ := h
  have hF := hD.fc
  obtain ⟨d1, d2, d3, d4⟩ := con_lt h0 h1
  refine bod_start (by get_elem_tactic_extensible) ?_; refine ssx_cons ?_
  repeat' decreasing_trivial_pre_omega
  refine ⟨p, rfl, d1, d2, ?_⟩
  repeat' decreasing_trivial_pre_omega
  refine sx_whileA hD (fun m Γ M' => ∃ r : Q4, m = (nrmQ r).toNat ∧ 0 < nrmQ r ∧ nrmQ r ≤ 1000000000000 ∧ oddQ r = oddQ (primQ p) ∧ Γ = [some (qD p), some (qD r)] ∧ M' = M) _ ⟨primQ p, rfl, d3, by omega, rfl, rfl, rfl⟩ ?_
  rintro m Γ M' ⟨r, rfl, r0, r1, r2, rfl, rfl⟩
  repeat' decreasing_trivial_pre_omega
  refine ⟨r, rfl, sm_nrm r1, ?_⟩
  repeat' decreasing_trivial_pre_omega
  refine br_d (fun hc => ?_) (fun hc => ?_)
  · have e := half_nrm hc
    repeat' decreasing_trivial_pre_omega
    refine ⟨r, rfl, sm_nrm r1, ?_⟩
    repeat' decreasing_trivial_pre_omega
    exact ⟨_, by omega, halfQ r, rfl, by omega, by omega, by rw [← odd_half r0 hc]; exact r2, rfl, rfl⟩
  · rw [odd_odd hc] at r2
    rw [← r2] at hq
    repeat' decreasing_trivial_pre_omega
    exact hq
def ds_name_ofG : DS := fun args M Φ _ => ∃ p : Q4, args = [qD p] ∧ p ≠ ⟨0, 0, 0, 0⟩ ∧ nrmQ p ≤ 1000000000000 ∧ Φ (qD (namQ p)) M
include hh in
theorem b_name_ofG (c1 : Cal false P w K mg base "odd_four" k ["four"] ds_odd_fourG) (c2 : Cal false P w K mg base "greatest" k ["four"] ds_greatest) (hD : Fd T k P w K mg base n_name_of (defScope s_name_of)) (h : ds_name_ofG args M Φ Ψ) : Bod T s_name_of n_name_of args M Φ Ψ := by
  obtain ⟨p, rfl, h1, h2, hq⟩ := h
  have hF := hD.fc
  refine bod_start (by get_elem_tactic_extensible) ?_; refine ssx_cons ?_
  repeat' decreasing_trivial_pre_omega
  refine ⟨p, rfl, h1, h2, ?_⟩
  repeat' decreasing_trivial_pre_omega
  exact ⟨_, rfl, hq⟩
/-- the forms in which a row is given -/
def RowF (CR : Addr) (d : D) (q : Q4) : Prop := seq2 d [.int q.a, .int q.b, .int q.c, .int q.d] ∨ d = rowD CR q
def ds_Grain_initG (CR CG : Addr) : DS := fun args M Φ _ => ∃ (s : Addr) (d : D) (q : Q4), args = [.ref s, d] ∧ RowF CR d q ∧ q ≠ ⟨0, 0, 0, 0⟩ ∧ nrmQ q ≤ 1000000000000 ∧ M s = some (.ins CG [] []) ∧ Φ .non (um M s (.ins CG ["name"] [qD (namQ q)]))
include hh in
theorem b_Grain___init__G (gB : Bi mg) (gR : mg "Row" = some (.ref CR)) (kt : PySem.W.kitOne K (.type "tuple") (.ref CR) = some false) (kl : PySem.W.kitOne K (.type "list") (.ref CR) = some false) (kr : PySem.W.kitOne K (.ref CR) (.ref CR) = some true) (oF : OwnF K CR) (oR : OCls K CR ["numbers"]) (oG : OCls K CG ["name"])
    (c1 : Cal false P w K mg base "is_four" k ["value"] ds_is_four) (c2 : Cal false P w K mg base "name_of" k ["four"] ds_name_ofG) (hD : Fd T k P w K mg base n_Grain___init__ (defScope s_Grain___init__)) (h : ds_Grain_initG CR CG args M Φ Ψ) : Bod T s_Grain___init__ n_Grain___init__ args M Φ Ψ := by
  obtain ⟨s, d, q, rfl, hd, hq0, h1, hs, hq⟩ := h
  have hF := hD.fc
  rcases hd with (rfl | rfl) | rfl
  · refine bod_start (by get_elem_tactic_extensible) ?_; refine ssx_cons ?_
    refine sx_if (tx_bl (ex_isC hF gB.isinstance gR ?_))
    repeat' decreasing_trivial_pre_omega
    refine ⟨.b .tup, false, rfl, trivial, kt, ?_⟩
    repeat' decreasing_trivial_pre_omega
    refine ⟨_, q, rfl, .inl rfl, ?_⟩
    rw [decide_eq_false hq0]
    repeat' decreasing_trivial_pre_omega
    refine sx_fld hF oG ?_
    repeat' decreasing_trivial_pre_omega
    refine ⟨q, rfl, hq0, h1, ?_⟩
    repeat' decreasing_trivial_pre_omega
    refine ⟨s, _, _, rfl, hs, by decide, ?_⟩
    repeat' decreasing_trivial_pre_omega
    exact hq
  · refine bod_start (by get_elem_tactic_extensible) ?_; refine ssx_cons ?_
    refine sx_if (tx_bl (ex_isC hF gB.isinstance gR ?_))
    repeat' decreasing_trivial_pre_omega
    refine ⟨.b .lst, false, rfl, trivial, kl, ?_⟩
    repeat' decreasing_trivial_pre_omega
    refine ⟨_, q, rfl, .inr rfl, ?_⟩
    rw [decide_eq_false hq0]
    repeat' decreasing_trivial_pre_omega
    refine sx_fld hF oG ?_
    repeat' decreasing_trivial_pre_omega
    refine ⟨q, rfl, hq0, h1, ?_⟩
    repeat' decreasing_trivial_pre_omega
    refine ⟨s, _, _, rfl, hs, by decide, ?_⟩
    repeat' decreasing_trivial_pre_omega
    exact hq
  · refine bod_start (by get_elem_tactic_extensible) ?_; refine ssx_cons ?_
    refine sx_if (tx_bl (ex_isC hF gB.isinstance gR ?_))
    repeat' decreasing_trivial_pre_omega
    refine ⟨.o CR, true, rfl, oF, kr, ?_⟩
    repeat' decreasing_trivial_pre_omega
    refine ex_fld hF oR ?_
    repeat' decreasing_trivial_pre_omega
    refine ⟨rfl, _, rfl, ?_⟩
    repeat' decreasing_trivial_pre_omega
    refine sx_fld hF oG ?_
    repeat' decreasing_trivial_pre_omega
    refine ⟨q, rfl, hq0, h1, ?_⟩
    repeat' decreasing_trivial_pre_omega
    refine ⟨s, _, _, rfl, hs, by decide, ?_⟩
    repeat' decreasing_trivial_pre_omega
    exact hq
theorem mk_grainG {d : D} {q : Q4} (hd : RowF CR d q) (hq : q ≠ ⟨0, 0, 0, 0⟩) (h1 : nrmQ q ≤ 1000000000000) (h : Φ (grnD CG (namQ q)) M) : mkAsk CG (ds_Grain_initG CR CG) Φ Ψ [d] M := by
  intro p hp
  refine ⟨p, d, q, rfl, hd, hq, h1, um_same, rfl, .inr ⟨["name"], [qD (namQ q)], um_same, ?_⟩⟩
  rw [um_um, dm_um hp]
  exact h
end
end K7
end
section
set_option pp.deepTerms false
set_option pp.deepTerms.threshold 5
set_option pp.maxSteps 3000
set_option hygiene false
local macro_rules | `(tactic| get_elem_tactic_extensible) => `(tactic| (repeat' (first | with_reducible exact AtN.z | with_reducible exact AtG.z | with_reducible exact SetS.z | with_reducible exact SetSs.nil | exact WipeS.nil | with_reducible apply AtN.s | with_reducible apply AtG.s | with_reducible apply SetS.s | with_reducible apply SetSs.cons | apply WipeS.cons | exact StartS.nil | apply StartS.arg | apply StartS.var)))
local macro_rules | `(tactic| decreasing_trivial_pre_omega) => `(tactic| first
  | ((with_reducible show SSX _ _ _ _ _); first | ((with_reducible show SSX _ (_ :: _) _ _ _); refine ssx_cons ?_) | ((with_reducible show SSX _ [] _ _ _); refine ssx_nil ?_))
  | ((with_reducible show SX _ _ _ _ _); first
    | ((with_reducible show SX _ (.Return (some _) _) _ _ _); refine sx_ret ?_)
    | ((with_reducible show SX _ (.Return none _) _ _ _); refine sx_retN ?_)
    | ((with_reducible show SX _ (.If _ _ _ _) _ _ _); refine sx_if ?_)
    | ((with_reducible show SX _ (.Assign [.Name _ _] (.ListComp _ _ _ _) _) _ _ _); fail)
    | ((with_reducible show SX _ (.Assign [.Name _ _] _ _) _ _ _); refine sx_setA hD (by get_elem_tactic_extensible) ?_)
    | ((with_reducible show SX _ (.Assign [.Tuple [.Name _ _, .Name _ _] _ _] (.Tuple [_, _] _ _) _) _ _ _); refine sx_par2 hD (by get_elem_tactic_extensible) (by get_elem_tactic_extensible) (by decide) ?_)
    | ((with_reducible show SX _ (.Assign [.Tuple [.Name _ _, .Name _ _, .Name _ _] _ _] (.Tuple [_, _, _] _ _) _) _ _ _); refine sx_par3A hD (by get_elem_tactic_extensible) (by get_elem_tactic_extensible) (by get_elem_tactic_extensible) (by decide) (by decide) (by decide) ?_)
    | ((with_reducible show SX _ (.Assign [.Tuple _ _ _] _ _) _ _ _); refine sx_asg hD (tg_tpA hD (by repeat' (first | exact tn_nil | apply tn_consA hD (by get_elem_tactic_extensible))) (by rfl)) ?_)
    | ((with_reducible show SX _ (.Assign [.Subscript _ _ _] _ _) _ _ _); refine sx_subX hF ?_)
    | ((with_reducible show SX _ (.AugAssign (.Name _ _) .Add _ _) _ _ _); refine sx_augadd hD (by get_elem_tactic_extensible) (by get_elem_tactic_extensible) ?_)
    | ((with_reducible show SX _ (.Expr _ _) _ _ _); refine sx_expr ?_)
    | ((with_reducible show SX _ (.Break _) _ _ _); refine sx_break ?_)
    | ((with_reducible show SX _ (.Continue _) _ _ _); refine sx_continue ?_)
    | ((with_reducible show SX _ (.Pass _) _ _ _); refine sx_pass ?_))
  | ((with_reducible show EX _ _ _ _ _ _); first
    | ((with_reducible show EX _ (.Name _ _) _ _ _ _); refine ax_var (by first | exact hF | exact hF.blk _ | exact (hF.blk _).blk _) (by get_elem_tactic_extensible) (by get_elem_tactic_extensible) ?_)
    | ((with_reducible show EX _ (.Constant (.int _) _ _) _ _ _ _); refine ex_int ?_)
    | ((with_reducible show EX _ (.Constant (.str _) _ _) _ _ _ _); refine ex_str ?_)
    | ((with_reducible show EX _ (.Constant (.bool _) _ _) _ _ _ _); refine ex_bl ?_)
    | ((with_reducible show EX _ (.Constant .none _ _) _ _ _ _); refine ex_non ?_)
    | ((with_reducible show EX _ (.BinOp _ .Add _ _) _ _ _ _); refine ex_add ?_)
    | ((with_reducible show EX _ (.BinOp _ .Sub _ _) _ _ _ _); refine ex_sub ?_)
    | ((with_reducible show EX _ (.BinOp _ .Mult _ _) _ _ _ _); refine ex_mul ?_)
    | ((with_reducible show EX _ (.BinOp _ .Mod _ _) _ _ _ _); refine ex_modX ?_)
    | ((with_reducible show EX _ (.BinOp _ .FloorDiv _ _) _ _ _ _); refine ex_fdiv ?_)
    | ((with_reducible show EX _ (.BinOp _ .Pow _ _) _ _ _ _); refine ex_pow ?_)
    | ((with_reducible show EX _ (.UnaryOp .USub _ _) _ _ _ _); refine ex_neg ?_)
    | ((with_reducible show EX _ (.UnaryOp .Not _ _) _ _ _ _); refine ex_not ?_)
    | ((with_reducible show EX _ (.Tuple _ _ _) _ _ _ _); refine ex_tup ?_)
    | ((with_reducible show EX _ (.List (_ :: _) _) _ _ _ _); refine ex_lst ?_)
    | ((with_reducible show EX _ (.IfExp _ _ _ _) _ _ _ _); refine ex_if ?_)
    | ((with_reducible show EX _ (.Compare _ [.Eq] [_] _) _ _ _ _); refine ex_eq (by first | exact hF | exact hF.blk _ | exact (hF.blk _).blk _) ?_)
    | ((with_reducible show EX _ (.Compare _ [.NotEq] [_] _) _ _ _ _); refine ex_ne (by first | exact hF | exact hF.blk _ | exact (hF.blk _).blk _) ?_)
    | ((with_reducible show EX _ (.Compare _ [.Lt] [_] _) _ _ _ _); refine ex_lt ?_)
    | ((with_reducible show EX _ (.Compare _ [.LtE] [_] _) _ _ _ _); refine ex_le ?_)
    | ((with_reducible show EX _ (.Compare _ [.Gt] [_] _) _ _ _ _); refine ex_gt ?_)
    | ((with_reducible show EX _ (.Compare _ [.GtE] [_] _) _ _ _ _); refine ex_ge ?_)
    | ((with_reducible show EX _ (.Compare _ [.Is] [.Constant .none _ _] _) _ _ _ _); refine ex_isN ?_)
    | ((with_reducible show EX _ (.Compare _ [.IsNot] [.Constant .none _ _] _) _ _ _ _); refine ex_notN ?_)
    | ((with_reducible show EX _ (.BoolOp _ [_] _) _ _ _ _); refine ex_one ?_)
    | ((with_reducible show EX _ (.BoolOp .And _ _) _ _ _ _); refine ex_and ?_)
    | ((with_reducible show EX _ (.BoolOp .Or _ _) _ _ _ _); refine ex_or ?_)
    | ((with_reducible show EX _ (.Subscript _ (.Slice _ _ _ _) _) _ _ _ _); fail)
    | ((with_reducible show EX _ (.Subscript _ _ _) _ _ _ _); refine ex_ixX (by first | exact hF | exact hF.blk _ | exact (hF.blk _).blk _) ?_)
    | ((with_reducible show EX _ (.Call (.Name "len" _) [_] [] _) _ _ _ _); refine ex_len (by first | exact hF | exact hF.blk _ | exact (hF.blk _).blk _) gB.len ?_)
    | ((with_reducible show EX _ (.Call (.Name "int" _) [_] [] _) _ _ _ _); refine ex_int1 (by first | exact hF | exact hF.blk _ | exact (hF.blk _).blk _) gB.int ?_)
    | ((with_reducible show EX _ (.Call (.Name "abs" _) [_] [] _) _ _ _ _); refine ex_abs (by first | exact hF | exact hF.blk _ | exact (hF.blk _).blk _) gB.abs ?_)
    | ((with_reducible show EX _ (.Call (.Name "list" _) [_] [] _) _ _ _ _); refine ex_list1 (by first | exact hF | exact hF.blk _ | exact (hF.blk _).blk _) gB.list ?_)
    | ((with_reducible show EX _ (.Call (.Name "tuple" _) [_] [] _) _ _ _ _); refine ex_tuple1 (by first | exact hF | exact hF.blk _ | exact (hF.blk _).blk _) gB.tuple ?_)
    | ((with_reducible show EX _ (.Call (.Name "sum" _) [_] [] _) _ _ _ _); refine ex_sum (by first | exact hF | exact hF.blk _ | exact (hF.blk _).blk _) gB.sum ?_)
    | ((with_reducible show EX _ (.Call (.Name "max" _) [_] [] _) _ _ _ _); refine ex_max (by first | exact hF | exact hF.blk _ | exact (hF.blk _).blk _) gB.max ?_)
    | ((with_reducible show EX _ (.Call (.Name "all" _) [_] [] _) _ _ _ _); refine ex_all (by first | exact hF | exact hF.blk _ | exact (hF.blk _).blk _) gB.all ?_)
    | ((with_reducible show EX _ (.Call (.Name "bool" _) [_] [] _) _ _ _ _); refine ex_bool1 (by first | exact hF | exact hF.blk _ | exact (hF.blk _).blk _) gB.bool ?_)
    | ((with_reducible show EX _ (.Call (.Name "max" _) [_, _] [] _) _ _ _ _); refine ex_max2 (by first | exact hF | exact hF.blk _ | exact (hF.blk _).blk _) gB.max ?_)
    | ((with_reducible show EX _ (.Call (.Name "gcd" _) [_, _] [] _) _ _ _ _); refine ex_gcd (by first | exact hF | exact hF.blk _ | exact (hF.blk _).blk _) gGcd ?_)
    | ((with_reducible show EX _ (.Call (.Name "isqrt" _) [_] [] _) _ _ _ _); refine ex_isqrt (by first | exact hF | exact hF.blk _ | exact (hF.blk _).blk _) gIsqrt ?_)
    | ((with_reducible show EX _ (.Call (.Name "sorted" _) [_] [_] _) _ _ _ _); refine ex_sortR (by first | exact hF | exact hF.blk _ | exact (hF.blk _).blk _) gB.sorted ?_)
    | ((with_reducible show EX _ (.Call (.Name "isinstance" _) [_, .Name "list" _] [] _) _ _ _ _); refine ex_isi (by first | exact hF | exact hF.blk _ | exact (hF.blk _).blk _) .lst gB.isinstance gB.list ?_)
    | ((with_reducible show EX _ (.Call (.Name "isinstance" _) [_, .Name "tuple" _] [] _) _ _ _ _); refine ex_isi (by first | exact hF | exact hF.blk _ | exact (hF.blk _).blk _) .tup gB.isinstance gB.tuple ?_)
    | ((with_reducible show EX _ (.Call (.Name "isinstance" _) [_, .Name "int" _] [] _) _ _ _ _); refine ex_isi (by first | exact hF | exact hF.blk _ | exact (hF.blk _).blk _) .int gB.isinstance gB.int ?_)
    | ((with_reducible show EX _ (.Call (.Name "isinstance" _) [_, .Name "bool" _] [] _) _ _ _ _); refine ex_isi (by first | exact hF | exact hF.blk _ | exact (hF.blk _).blk _) .bl gB.isinstance gB.bool ?_)
    | ((with_reducible show EX _ (.Call (.Name "isinstance" _) [_, .Name "str" _] [] _) _ _ _ _); refine ex_isi (by first | exact hF | exact hF.blk _ | exact (hF.blk _).blk _) .str gB.isinstance gB.str ?_)
    | ((with_reducible show EX _ (.Call (.Name "isinstance" _) [_, .Name "dict" _] [] _) _ _ _ _); refine ex_isi (by first | exact hF | exact hF.blk _ | exact (hF.blk _).blk _) .dic gB.isinstance gB.dict ?_)
    | ((with_reducible show EX _ (.Call (.Name "isinstance" _) [_, .Tuple [.Name "list" _, .Name "tuple" _] _ _] [] _) _ _ _ _); refine ex_isi2 (by first | exact hF | exact hF.blk _ | exact (hF.blk _).blk _) .lst .tup gB.isinstance gB.list gB.tuple ?_)
    | ((with_reducible show EX _ (.Call (.Name "isinstance" _) [_, .Tuple [.Name "list" _, .Name "tuple" _, .Name "dict" _] _ _] [] _) _ _ _ _); refine ex_isi3 (by first | exact hF | exact hF.blk _ | exact (hF.blk _).blk _) .lst .tup .dic gB.isinstance gB.list gB.tuple gB.dict ?_)
    | ((with_reducible show EX _ (.Call (.Attribute _ "append" _) [_] [] _) _ _ _ _); refine ex_append (by first | exact hF | exact hF.blk _ | exact (hF.blk _).blk _) ?_)
    | ((with_reducible show EX _ (.Call (.Name _ _) (_ :: _) [] _) _ _ _ _); refine ex_callF (by first | exact hF | exact hF.blk _ | exact (hF.blk _).blk _) (by with_reducible assumption) (by omega) ?_))
  | ((with_reducible show AX _ _ _ _ _ _); first | ((with_reducible show AX _ (_ :: _) _ _ _ _); refine ax_cons ?_) | ((with_reducible show AX _ [] _ _ _ _); refine ax_nil ?_))
  | ((with_reducible show TX _ _ _ _ _ _); first
    | ((with_reducible show TX _ (.Compare _ [.Eq] [_] _) _ _ _ _); refine tx_eq (by first | exact hF | exact hF.blk _ | exact (hF.blk _).blk _) ?_)
    | ((with_reducible show TX _ (.Compare _ [.NotEq] [_] _) _ _ _ _); refine tx_ne (by first | exact hF | exact hF.blk _ | exact (hF.blk _).blk _) ?_)
    | ((with_reducible show TX _ (.Compare _ [.Lt] [_] _) _ _ _ _); refine tx_lt ?_)
    | ((with_reducible show TX _ (.Compare _ [.LtE] [_] _) _ _ _ _); refine tx_le ?_)
    | ((with_reducible show TX _ (.Compare _ [.Gt] [_] _) _ _ _ _); refine tx_gt ?_)
    | ((with_reducible show TX _ (.Compare _ [.GtE] [_] _) _ _ _ _); refine tx_ge ?_)
    | ((with_reducible show TX _ (.Compare _ [.Is] [.Constant .none _ _] _) _ _ _ _); refine tx_isN ?_)
    | ((with_reducible show TX _ (.Compare _ [.IsNot] [.Constant .none _ _] _) _ _ _ _); refine tx_notN ?_)
    | ((with_reducible show TX _ (.UnaryOp .Not _ _) _ _ _ _); refine tx_not ?_)
    | ((with_reducible show TX _ (.BoolOp .And _ _) _ _ _ _); refine WWX.tx (wx_and ?_))
    | ((with_reducible show TX _ (.BoolOp .Or _ _) _ _ _ _); refine WWX.tx (wx_or ?_))
    | ((with_reducible show TX _ (.Compare _ _ _ _) _ _ _ _); fail)
    | ((with_reducible show TX _ (.Call (.Name "isinstance" _) _ _ _) _ _ _ _); refine tx_bl ?_)
    | ((with_reducible show TX _ (_) _ _ _ _); refine tx_tru (by first | exact hF | exact hF.blk _ | exact (hF.blk _).blk _) (fun _ _ => rfl) ?_))
  | ((with_reducible show WWX _ _ _ _ _ _); first | ((with_reducible show WWX _ (.BoolOp .And [_] _) _ _ _ _); refine wx_and1 ?_) | ((with_reducible show WWX _ (.BoolOp .Or [_] _) _ _ _ _); refine wx_or1 ?_) | ((with_reducible show WWX _ (.BoolOp .And _ _) _ _ _ _); refine wx_and ?_) | ((with_reducible show WWX _ (.BoolOp .Or _ _) _ _ _ _); refine wx_or ?_))
  | with_reducible refine addP_ii ?_
  | with_reducible refine subP_ii ?_
  | with_reducible refine mulP_ii (by first | assumption | exact cm_l (by omega) (by omega) | exact cm_r (by omega) (by omega)) ?_
  | with_reducible refine modX_p (by first | assumption | decide | omega) ?_
  | with_reducible refine fdivP_ii (by first | assumption | exact cd_i (by omega) (by omega)) ?_
  | with_reducible refine powP_ii (by unfold CPow; decide) ?_
  | with_reducible refine negP_i ?_
  | with_reducible refine eqP_ii ?_
  | with_reducible refine eqP_ss ?_
  | with_reducible refine eqP_bb ?_
  | with_reducible refine neP_ii ?_
  | with_reducible refine neP_ss ?_
  | with_reducible refine neP_bb ?_
  | with_reducible refine ltP_ii ?_
  | with_reducible refine intP_i ?_
  | with_reducible refine intP_b ?_
  | with_reducible refine absP_i ?_
  | with_reducible refine boolP_b ?_
  | with_reducible refine lenP_t ?_
  | with_reducible refine lenP_l ?_
  | with_reducible refine lenP_rl ?_
  | with_reducible refine augP_ii ?_
  | with_reducible refine listP_l ?_
  | with_reducible refine listP_t ?_
  | with_reducible refine tupP_l ?_
  | with_reducible refine tupP_t ?_
  | with_reducible refine tru_i ?_
  | with_reducible refine tru_b ?_
  | ((with_reducible show lenP _ _ [.ref _]); refine lenP_r (by first | exact um_same | assumption) ?_)
  | ((with_reducible show ixX _ _ (.tup _) (.int _)); refine ixX_t (by rfl) ?_)
  | ((with_reducible show ixX _ _ (.lst _) (.int _)); refine ixX_l (by rfl) ?_)
  | ((with_reducible show ixX _ _ (.ref _) (.int _)); refine ixX_r (by first | exact um_same | assumption) (by rfl) ?_)
  | ((with_reducible show setX _ _ (.ref _) (.int _) _); refine setX_r (by first | exact um_same | assumption) (by rfl) ?_)
  | ((with_reducible show appP _ _ (.ref _) _); refine appP_r (by first | exact um_same | assumption) ?_ ?_)
  | ((with_reducible show isL _ (.ref _) ∧ _); refine isL_r (by first | exact um_same | assumption) ?_)
  | ((with_reducible apply ds1); get_elem_tactic_extensible)
  | ((with_reducible apply ds2); get_elem_tactic_extensible)
  | ((with_reducible apply ds3); get_elem_tactic_extensible)
  | ((with_reducible apply tgd_nm); get_elem_tactic_extensible)
  | ((with_reducible apply tgd_tp); get_elem_tactic_extensible)
  | ((with_reducible apply ty_is); first | exact rfl | assumption)
  | ((with_reducible show (isNoneD _ = true → _) ∧ _); first | refine bx_T (by rfl) ?_ | refine bx_F (by rfl) ?_)
  | ((with_reducible show ((!isNoneD _) = true → _) ∧ _); first | refine bx_T (by rfl) ?_ | refine bx_F (by rfl) ?_)
  | with_reducible refine br_T (by decide) ?_
  | with_reducible refine br_F (by decide) ?_
  | with_reducible refine bn_T (by decide) ?_
  | with_reducible refine bn_F (by decide) ?_
  | with_reducible refine bw_T ?_
  | with_reducible refine bw_F ?_
  | with_reducible refine bx_T (by decide) ?_
  | with_reducible refine bx_F (by decide) ?_
  | ((with_reducible show _ ≤ sizeLine ∧ _); refine ax_tup (by exact Nat.le_of_ble_eq_true (by rfl)) ?_)
  | fail)
set_option Elab.async false
set_option linter.all false
set_option maxRecDepth 100000
set_option maxHeartbeats 4000000
/-! K12S: standing rows: apart, tidied, weighed_row, standing_numbers, standing_row. -/
namespace K7
open PySem PySem.Spec PyProof.Rows L2 G
def leI (rev : Bool) : Int → Int → Bool := PySem.W.dataLe rev (fun i => PyData.int i)
theorem sortDP_i {rev : Bool} {M : Ms} {Φ : PD} {d : D} {xs : List Int} (hd : lsM M d = some (xs.map D.int)) (h : Φ (.lst ((xs.mergeSort (leI rev)).map D.int)) M) : sortDP rev M Φ [d] :=
  ⟨Int, d, xs, D.int, fun i => PyData.int i, rfl, hd, fun _ => rfl, .of fun a b => PySem.W.DatumOrd.alike a b, .inr fun d hd => by
    obtain ⟨x, _, rfl⟩ := List.mem_map.mp hd
    exact ⟨fun z => (nomatch z), fun _ z => (nomatch z)⟩, fun _ => Nat.zero_le _, h⟩
theorem leI_iff (x y : Int) : leI true x y = true ↔ y ≤ x := by
  have e : leI true x y = !PySem.W.DatumOrd.lt x y := by
    show (!PySem.W.dataLt (PySem.W.Datum.toD x) (PySem.W.Datum.toD y)) = _
    rw [PySem.W.DatumOrd.lt_eq]
  rw [e]
  show (!decide (x < y)) = true ↔ _
  rw [Bool.not_eq_true', decide_eq_false_iff_not]
  omega
/-- without signs, in descending order -/
def sA (xs : List Int) : List Int := (xs.map fun x => ((x.natAbs : Nat) : Int)).mergeSort (leI true)
theorem sA_len (xs : List Int) : (sA xs).length = xs.length := by unfold sA; rw [List.length_mergeSort, List.length_map]
theorem sA_mem {xs : List Int} {y : Int} (h : y ∈ sA xs) : ∃ x ∈ xs, y = ((x.natAbs : Nat) : Int) := by
  unfold sA at h
  rw [List.mem_mergeSort] at h
  obtain ⟨x, hx, rfl⟩ := List.mem_map.mp h
  exact ⟨x, hx, rfl⟩
theorem sA_srt (xs : List Int) : (sA xs).Pairwise fun x y => y ≤ x := by
  unfold sA
  have := List.pairwise_mergeSort (le := leI true) (fun a b c h1 h2 => by rw [leI_iff] at *; omega) (fun a b => by rw [Bool.or_eq_true, leI_iff, leI_iff]; omega) (xs.map fun x => ((x.natAbs : Nat) : Int))
  exact this.imp fun {a b} h => (leI_iff a b).mp h
theorem sA_3 (x y z : Int) : ∃ a b c, sA [x, y, z] = [a, b, c] := by
  match h : sA [x, y, z], sA_len [x, y, z] with
  | [a, b, c], _ => exact ⟨a, b, c, rfl⟩
theorem sA_4 (x y z u : Int) : ∃ a b c d, sA [x, y, z, u] = [a, b, c, d] := by
  match h : sA [x, y, z, u], sA_len [x, y, z, u] with
  | [a, b, c, d], _ => exact ⟨a, b, c, d, rfl⟩
/-- the first number, and the others tidied -/
def tid (f x y z : Int) : Q4 := match sA [x, y, z] with
  | [a, b, c] => ⟨f, a, b, c⟩
  | _ => ⟨f, 0, 0, 0⟩
def srtQ (p : Q4) : Q4 := match sA [p.a, p.b, p.c, p.d] with
  | [a, b, c, d] => ⟨a, b, c, d⟩
  | _ => ⟨0, 0, 0, 0⟩
/-- the three shapes of a descending row -/
def shp1 (s : Q4) : Int × Q4 := (4 * s.a * s.a, s)
def shp2 (s : Q4) : Int × Q4 := (2 * (s.a + s.b) * (s.a + s.b), tid (s.a + s.b) (s.a - s.b) (s.c + s.d) (s.c - s.d))
def shp3 (s : Q4) : Int × Q4 := ((s.a + s.b + s.c + s.d) * (s.a + s.b + s.c + s.d), tid (s.a + s.b + s.c + s.d) (s.a + s.b - s.c - s.d) (s.a - s.b + s.c - s.d) (s.a - s.b - s.c + s.d))
def wgt (p : Q4) : Int × Q4 := PySem.W.maxOf (shp1 (srtQ p)) [shp2 (srtQ p), shp3 (srtQ p)]
def wD (x : Int × Q4) : D := .tup [.int x.1, qD x.2]
theorem toPs_w : ∀ xs : List (Int × Q4), toPs (xs.map wD) = some (xs.map PySem.W.Datum.toD)
  | [] => rfl
  | x :: xs => by
    show ((toP (wD x)).bind fun p => (toPs (xs.map wD)).map fun ps => p :: ps) = _
    rw [toPs_w xs]; rfl
theorem depth_ws : ∀ xs : List (Int × Q4), PyData.depthAll (xs.map PySem.W.Datum.toD) ≤ 8 := fun xs => Nat.le_trans (PySem.W.depthAll_map xs) (by decide)
theorem toD_w {x y : Int × Q4} (h : (PySem.W.Datum.toD x : PyData) = PySem.W.Datum.toD y) : x = y := by
  have h : PyData.tuple [.int x.1, PySem.W.Datum.toD x.2] = PyData.tuple [.int y.1, PySem.W.Datum.toD y.2] := h
  injection h with h
  injection h with h1 h
  injection h with h2 _
  injection h1 with h1
  exact Prod.ext h1 (toD_q h2)
theorem maxP_w {M : Ms} {Φ : PD} {x : Int × Q4} {xs : List (Int × Q4)} (h : Φ (wD (PySem.W.maxOf x xs)) M) : maxP M Φ [.lst ((x :: xs).map wD)] := by
  refine ⟨_, _, _, .inl rfl, toPs_w (x :: xs), ⟨?_, ?_⟩, depth_ws (x :: xs), fun d hd ht => ?_⟩
  · intro a ha b hb
    obtain ⟨a', _, rfl⟩ := List.mem_map.mp (show a ∈ (x :: xs).map PySem.W.Datum.toD from ha)
    obtain ⟨b', _, rfl⟩ := List.mem_map.mp (show b ∈ (x :: xs).map PySem.W.Datum.toD from hb)
    exact PySem.W.DatumOrd.alike a' b'
  · intro a ha
    obtain ⟨a', _, rfl⟩ := List.mem_map.mp (show a ∈ (x :: xs).map PySem.W.Datum.toD from ha)
    exact PySem.W.DatumOrd.notNone a'
  · obtain ⟨y, _, rfl⟩ := List.mem_map.mp hd
    have ht2 : some (PySem.W.Datum.toD y : PyData) = some _ := ht
    have e := Option.some.inj ht2
    have e2 := PySem.W.maxD_map x xs
    have e3 : y = PySem.W.maxOf x xs := toD_w (e.trans e2)
    rw [e3]; exact h
section
variable {CR CG : Addr} {T : Fm Unit} (hh : T.hot = false) {k : Nat} {P : Program} {w : World} {K : PySem.W.Frag} {mg : Str → Option Value} {base : Heap} {args : List D} {M : Ms} {Φ : PD} {Ψ : PX}
def ds_tidied : DS := fun args M Φ _ => ∃ (f : Int) (xs : List Int) (d : D), args = [.int f, d] ∧ seq2 d (xs.map D.int) ∧ xs.length ≤ 100 ∧ Φ (.tup ((f :: sA xs).map D.int)) M
include hh in
theorem b_tidied (gB : Bi mg) (hD : Fd T k P w K mg base n_tidied (defScope s_tidied)) (h : ds_tidied args M Φ Ψ) : Bod T s_tidied n_tidied args M Φ Ψ := by
  obtain ⟨f, xs, d, rfl, hd, hl, hq⟩ := h
  have hF := hD.fc
  refine bod_start (by get_elem_tactic_extensible) ?_; refine ssx_cons ?_
  decreasing_trivial_pre_omega
  refine ex_addT hF ?_
  repeat' decreasing_trivial_pre_omega
  (with_reducible show EX _ (.ListComp _ _ _ _) _ _ _ _); refine ex_lc (by first | exact hF | exact hF.blk _ | exact (hF.blk _).blk _) [("number", 2)] (by first | exact tb_nmA hF (by get_elem_tactic_extensible) | exact tb_nmA (hF.blk _) (by get_elem_tactic_extensible) | exact tb_tpA hF (by repeat' (first | exact tnb_nil | apply tnb_consA hF (by get_elem_tactic_extensible))) (by rfl) | exact tb_tpA (hF.blk _) (by repeat' (first | exact tnb_nil | apply tnb_consA (hF.blk _) (by get_elem_tactic_extensible))) (by rfl)) .none (ix_seqD (by first | exact hF | exact hF.blk _ | exact (hF.blk _).blk _) ?_) (by decide +kernel) (by decide)
  repeat' decreasing_trivial_pre_omega
  have hds : seqD d = some (xs.map D.int) := by rcases hd with rfl | rfl <;> rfl
  refine ⟨_, hds, lc_mapA (xs := xs) D.int (fun x => .int ((x.natAbs : Nat) : Int)) (by omega) (by get_elem_tactic_extensible) (fun v hv M' _ => ?_) ?_⟩
  · repeat' decreasing_trivial_pre_omega
    exact ⟨rfl, rfl⟩
  repeat' decreasing_trivial_pre_omega
  refine sortDP_i (xs := xs.map fun x => ((x.natAbs : Nat) : Int)) (by rw [List.map_map]; rfl) ?_
  repeat' decreasing_trivial_pre_omega
  refine ⟨_, _, rfl, rfl, ?_, hq⟩
  rw [List.length_map]
  have := sA_len xs
  unfold sA at this
  exact size_le (by simp only [List.length_cons, List.length_nil]; omega)
theorem cut1 {α : Type} (x : α) (xs : List α) : cutL (x :: xs) (some 1) none = xs := by
  unfold cutL HT.sIx
  simp
def ds_weighed_row : DS := fun args M Φ _ => ∃ p : Q4, args = [qD p] ∧ nrmQ p ≤ 1000000000000 ∧ Φ (wD (wgt p)) M
include hh in
theorem b_weighed_row (gB : Bi mg) (c1 : Cal false P w K mg base "tidied" k ["first", "others"] ds_tidied) (hD : Fd T k P w K mg base n_weighed_row (defScope s_weighed_row)) (h : ds_weighed_row args M Φ Ψ) : Bod T s_weighed_row n_weighed_row args M Φ Ψ := by
  obtain ⟨p, rfl, hp, hq⟩ := h
  have hF := hD.fc
  obtain ⟨a, b, c, d, hs⟩ := sA_4 p.a p.b p.c p.d
  have hb : ∀ y ∈ [a, b, c, d], 0 ≤ y ∧ y ≤ 1000000 := fun y hy => by
    rw [← hs] at hy
    obtain ⟨x, hx, rfl⟩ := sA_mem hy
    have s1 := sq_nonneg p.a; have s2 := sq_nonneg p.b; have s3 := sq_nonneg p.c; have s4 := sq_nonneg p.d
    have hp : p.a * p.a + p.b * p.b + p.c * p.c + p.d * p.d ≤ 1000000000000 := hp
    have key : ∀ x : Int, x * x ≤ 1000000000000 → ((x.natAbs : Nat) : Int) ≤ 1000000 := fun x h => by
      rcases Int.lt_or_le 1000000 ((x.natAbs : Nat) : Int) with z | z
      · have := Int.mul_le_mul (show 1000001 ≤ ((x.natAbs : Nat) : Int) by omega) (show 1000001 ≤ ((x.natAbs : Nat) : Int) by omega) (by omega) (by omega)
        rcases Int.le_total 0 x with hx | hx
        · rw [show ((x.natAbs : Nat) : Int) = x by omega] at this
          omega
        · rw [show ((x.natAbs : Nat) : Int) = -x by omega, Int.neg_mul_neg] at this
          omega
      · exact z
    refine ⟨by omega, ?_⟩
    simp only [List.mem_cons, List.not_mem_nil, or_false] at hx
    rcases hx with rfl | rfl | rfl | rfl <;> exact key _ (by omega)
  have ha := hb a (by simp); have hb' := hb b (by simp); have hc := hb c (by simp); have hd := hb d (by simp)
  have hw : srtQ p = ⟨a, b, c, d⟩ := by unfold srtQ; rw [hs]
  unfold wgt at hq
  rw [hw] at hq
  refine bod_start (by get_elem_tactic_extensible) ?_; refine ssx_cons ?_
  repeat' decreasing_trivial_pre_omega
  refine ex_sliceT hF ?_
  repeat' decreasing_trivial_pre_omega
  refine ⟨0, [p.a, p.b, p.c, p.d], qD p, rfl, .inl rfl, by simp, ?_⟩
  refine ox_some (ex_int ⟨_, rfl, ox_none ⟨_, rfl, ?_⟩⟩)
  rw [List.map_cons, cut1, hs]
  simp only [List.map_cons, List.map_nil]
  repeat' decreasing_trivial_pre_omega
  refine ⟨_, [a - b, c + d, c - d], _, rfl, .inl rfl, by simp, ?_⟩
  repeat' decreasing_trivial_pre_omega
  obtain ⟨x1, x2, x3, e1⟩ := sA_3 (a - b) (c + d) (c - d)
  refine ⟨_, [a + b - c - d, a - b + c - d, a - b - c + d], _, rfl, .inl rfl, by simp, ?_⟩
  obtain ⟨y1, y2, y3, e2⟩ := sA_3 (a + b - c - d) (a - b + c - d) (a - b - c + d)
  rw [e1, e2]
  simp only [List.map_cons, List.map_nil]
  repeat' decreasing_trivial_pre_omega
  refine maxP_w (x := (4 * a * a, ⟨a, b, c, d⟩)) (xs := [(2 * (a + b) * (a + b), ⟨a + b, x1, x2, x3⟩), ((a + b + c + d) * (a + b + c + d), ⟨a + b + c + d, y1, y2, y3⟩)]) ?_
  unfold shp1 shp2 shp3 tid at hq
  dsimp only at hq
  rw [e1, e2] at hq
  exact hq
def ds_standing_numbers : DS := fun args M Φ _ => ∃ p : Q4, args = [qD p] ∧ nrmQ p ≤ 1000000000000 ∧ Φ (qD (wgt p).2) M
include hh in
theorem b_standing_numbers (c1 : Cal false P w K mg base "weighed_row" k ["numbers"] ds_weighed_row) (hD : Fd T k P w K mg base n_standing_numbers (defScope s_standing_numbers)) (h : ds_standing_numbers args M Φ Ψ) : Bod T s_standing_numbers n_standing_numbers args M Φ Ψ := by
  obtain ⟨p, rfl, hp, hq⟩ := h
  have hF := hD.fc
  refine bod_start (by get_elem_tactic_extensible) ?_; refine ssx_cons ?_
  repeat' decreasing_trivial_pre_omega
  refine ⟨p, rfl, hp, ?_⟩
  repeat' decreasing_trivial_pre_omega
  exact ixX_t (by rfl) hq
def ds_apart (CG : Addr) : DS := fun args M Φ _ => ∃ g h : Q4, args = [grnD CG g, grnD CG h] ∧ g ≠ ⟨0, 0, 0, 0⟩ ∧ h ≠ ⟨0, 0, 0, 0⟩ ∧ nrmQ g ≤ 1000000 ∧ nrmQ h ≤ 1000000 ∧ Φ (grnD CG (namQ (mulQ (bakQ g) h))) M
include hh in
theorem b_apart {j : Nat} (hj : j < k) (oG : OCls K CG ["name"]) (c1 : Cal false P w K mg base "four_product" k ["one", "two"] ds_four_product) (c2 : Cal false P w K mg base "four_back" k ["four"] ds_four_back) (cMk : MkC false P w K mg base "Grain" CG j ["self", "row"] (ds_Grain_initG CR CG)) (hD : Fd T k P w K mg base n_apart (defScope s_apart)) (h : ds_apart CG args M Φ Ψ) : Bod T s_apart n_apart args M Φ Ψ := by
  obtain ⟨g, h, rfl, g0, h0, g1, h1, hq⟩ := h
  have hF := hD.fc
  have pg := nrm_pos g0
  have ph := nrm_pos h0
  have e : nrmQ (mulQ (bakQ g) h) = nrmQ g * nrmQ h := by rw [nrm_mul, nrm_bak]
  have e0 : 0 < nrmQ g * nrmQ h := Int.mul_pos pg ph
  have e1 : nrmQ g * nrmQ h ≤ 1000000 * 1000000 := Int.mul_le_mul g1 h1 (Int.le_of_lt ph) (by omega)
  refine bod_start (by get_elem_tactic_extensible) ?_; refine ssx_cons ?_
  decreasing_trivial_pre_omega
  refine ex_make hF (cMk.at hh) hj ?_
  repeat' decreasing_trivial_pre_omega
  refine ex_fld hF oG ?_
  repeat' decreasing_trivial_pre_omega
  refine ⟨rfl, _, rfl, ?_⟩
  repeat' decreasing_trivial_pre_omega
  refine ⟨g, rfl, ?_⟩
  repeat' decreasing_trivial_pre_omega
  refine ex_fld hF oG ?_
  repeat' decreasing_trivial_pre_omega
  refine ⟨rfl, _, rfl, ?_⟩
  repeat' decreasing_trivial_pre_omega
  refine ⟨bakQ g, h, rfl, sm_x (by rw [nrm_bak]; exact g1), ?_⟩
  repeat' decreasing_trivial_pre_omega
  exact mk_grainG (.inl (.inl rfl)) (fun z => by rw [z] at e; rw [← e] at e0; exact absurd e0 (by decide)) (by omega) hq
end
end K7
end
section
set_option pp.deepTerms false
set_option pp.deepTerms.threshold 5
set_option pp.maxSteps 3000
set_option hygiene false
local macro_rules | `(tactic| get_elem_tactic_extensible) => `(tactic| (repeat' (first | with_reducible exact AtN.z | with_reducible exact AtG.z | with_reducible exact SetS.z | with_reducible exact SetSs.nil | exact WipeS.nil | with_reducible apply AtN.s | with_reducible apply AtG.s | with_reducible apply SetS.s | with_reducible apply SetSs.cons | apply WipeS.cons | exact StartS.nil | apply StartS.arg | apply StartS.var)))
local macro_rules | `(tactic| decreasing_trivial_pre_omega) => `(tactic| first
  | ((with_reducible show SSX _ _ _ _ _); first | ((with_reducible show SSX _ (_ :: _) _ _ _); refine ssx_cons ?_) | ((with_reducible show SSX _ [] _ _ _); refine ssx_nil ?_))
  | ((with_reducible show SX _ _ _ _ _); first
    | ((with_reducible show SX _ (.Return (some _) _) _ _ _); refine sx_ret ?_)
    | ((with_reducible show SX _ (.Return none _) _ _ _); refine sx_retN ?_)
    | ((with_reducible show SX _ (.If _ _ _ _) _ _ _); refine sx_if ?_)
    | ((with_reducible show SX _ (.Assign [.Name _ _] (.ListComp _ _ _ _) _) _ _ _); fail)
    | ((with_reducible show SX _ (.Assign [.Name _ _] _ _) _ _ _); refine sx_setA hD (by get_elem_tactic_extensible) ?_)
    | ((with_reducible show SX _ (.Assign [.Tuple [.Name _ _, .Name _ _] _ _] (.Tuple [_, _] _ _) _) _ _ _); refine sx_par2 hD (by get_elem_tactic_extensible) (by get_elem_tactic_extensible) (by decide) ?_)
    | ((with_reducible show SX _ (.Assign [.Tuple [.Name _ _, .Name _ _, .Name _ _] _ _] (.Tuple [_, _, _] _ _) _) _ _ _); refine sx_par3A hD (by get_elem_tactic_extensible) (by get_elem_tactic_extensible) (by get_elem_tactic_extensible) (by decide) (by decide) (by decide) ?_)
    | ((with_reducible show SX _ (.Assign [.Tuple _ _ _] _ _) _ _ _); refine sx_asg hD (tg_tpA hD (by repeat' (first | exact tn_nil | apply tn_consA hD (by get_elem_tactic_extensible))) (by rfl)) ?_)
    | ((with_reducible show SX _ (.Assign [.Subscript _ _ _] _ _) _ _ _); refine sx_subX hF ?_)
    | ((with_reducible show SX _ (.AugAssign (.Name _ _) .Add _ _) _ _ _); refine sx_augadd hD (by get_elem_tactic_extensible) (by get_elem_tactic_extensible) ?_)
    | ((with_reducible show SX _ (.Expr _ _) _ _ _); refine sx_expr ?_)
    | ((with_reducible show SX _ (.Break _) _ _ _); refine sx_break ?_)
    | ((with_reducible show SX _ (.Continue _) _ _ _); refine sx_continue ?_)
    | ((with_reducible show SX _ (.Pass _) _ _ _); refine sx_pass ?_))
  | ((with_reducible show EX _ _ _ _ _ _); first
    | ((with_reducible show EX _ (.Name _ _) _ _ _ _); refine ax_var (by first | exact hF | exact hF.blk _ | exact (hF.blk _).blk _) (by get_elem_tactic_extensible) (by get_elem_tactic_extensible) ?_)
    | ((with_reducible show EX _ (.Constant (.int _) _ _) _ _ _ _); refine ex_int ?_)
    | ((with_reducible show EX _ (.Constant (.str _) _ _) _ _ _ _); refine ex_str ?_)
    | ((with_reducible show EX _ (.Constant (.bool _) _ _) _ _ _ _); refine ex_bl ?_)
    | ((with_reducible show EX _ (.Constant .none _ _) _ _ _ _); refine ex_non ?_)
    | ((with_reducible show EX _ (.BinOp _ .Add _ _) _ _ _ _); refine ex_add ?_)
    | ((with_reducible show EX _ (.BinOp _ .Sub _ _) _ _ _ _); refine ex_sub ?_)
    | ((with_reducible show EX _ (.BinOp _ .Mult _ _) _ _ _ _); refine ex_mul ?_)
    | ((with_reducible show EX _ (.BinOp _ .Mod _ _) _ _ _ _); refine ex_modX ?_)
    | ((with_reducible show EX _ (.BinOp _ .FloorDiv _ _) _ _ _ _); refine ex_fdiv ?_)
    | ((with_reducible show EX _ (.BinOp _ .Pow _ _) _ _ _ _); refine ex_pow ?_)
    | ((with_reducible show EX _ (.UnaryOp .USub _ _) _ _ _ _); refine ex_neg ?_)
    | ((with_reducible show EX _ (.UnaryOp .Not _ _) _ _ _ _); refine ex_not ?_)
    | ((with_reducible show EX _ (.Tuple _ _ _) _ _ _ _); refine ex_tup ?_)
    | ((with_reducible show EX _ (.List (_ :: _) _) _ _ _ _); refine ex_lst ?_)
    | ((with_reducible show EX _ (.IfExp _ _ _ _) _ _ _ _); refine ex_if ?_)
    | ((with_reducible show EX _ (.Compare _ [.Eq] [_] _) _ _ _ _); refine ex_eq (by first | exact hF | exact hF.blk _ | exact (hF.blk _).blk _) ?_)
    | ((with_reducible show EX _ (.Compare _ [.NotEq] [_] _) _ _ _ _); refine ex_ne (by first | exact hF | exact hF.blk _ | exact (hF.blk _).blk _) ?_)
    | ((with_reducible show EX _ (.Compare _ [.Lt] [_] _) _ _ _ _); refine ex_lt ?_)
    | ((with_reducible show EX _ (.Compare _ [.LtE] [_] _) _ _ _ _); refine ex_le ?_)
    | ((with_reducible show EX _ (.Compare _ [.Gt] [_] _) _ _ _ _); refine ex_gt ?_)
    | ((with_reducible show EX _ (.Compare _ [.GtE] [_] _) _ _ _ _); refine ex_ge ?_)
    | ((with_reducible show EX _ (.Compare _ [.Is] [.Constant .none _ _] _) _ _ _ _); refine ex_isN ?_)
    | ((with_reducible show EX _ (.Compare _ [.IsNot] [.Constant .none _ _] _) _ _ _ _); refine ex_notN ?_)
    | ((with_reducible show EX _ (.BoolOp _ [_] _) _ _ _ _); refine ex_one ?_)
    | ((with_reducible show EX _ (.BoolOp .And _ _) _ _ _ _); refine ex_and ?_)
    | ((with_reducible show EX _ (.BoolOp .Or _ _) _ _ _ _); refine ex_or ?_)
    | ((with_reducible show EX _ (.Subscript _ (.Slice _ _ _ _) _) _ _ _ _); fail)
    | ((with_reducible show EX _ (.Subscript _ _ _) _ _ _ _); refine ex_ixX (by first | exact hF | exact hF.blk _ | exact (hF.blk _).blk _) ?_)
    | ((with_reducible show EX _ (.Call (.Name "len" _) [_] [] _) _ _ _ _); refine ex_len (by first | exact hF | exact hF.blk _ | exact (hF.blk _).blk _) gB.len ?_)
    | ((with_reducible show EX _ (.Call (.Name "int" _) [_] [] _) _ _ _ _); refine ex_int1 (by first | exact hF | exact hF.blk _ | exact (hF.blk _).blk _) gB.int ?_)
    | ((with_reducible show EX _ (.Call (.Name "abs" _) [_] [] _) _ _ _ _); refine ex_abs (by first | exact hF | exact hF.blk _ | exact (hF.blk _).blk _) gB.abs ?_)
    | ((with_reducible show EX _ (.Call (.Name "list" _) [_] [] _) _ _ _ _); refine ex_list1 (by first | exact hF | exact hF.blk _ | exact (hF.blk _).blk _) gB.list ?_)
    | ((with_reducible show EX _ (.Call (.Name "tuple" _) [_] [] _) _ _ _ _); refine ex_tuple1 (by first | exact hF | exact hF.blk _ | exact (hF.blk _).blk _) gB.tuple ?_)
    | ((with_reducible show EX _ (.Call (.Name "sum" _) [_] [] _) _ _ _ _); refine ex_sum (by first | exact hF | exact hF.blk _ | exact (hF.blk _).blk _) gB.sum ?_)
    | ((with_reducible show EX _ (.Call (.Name "max" _) [_] [] _) _ _ _ _); refine ex_max (by first | exact hF | exact hF.blk _ | exact (hF.blk _).blk _) gB.max ?_)
    | ((with_reducible show EX _ (.Call (.Name "all" _) [_] [] _) _ _ _ _); refine ex_all (by first | exact hF | exact hF.blk _ | exact (hF.blk _).blk _) gB.all ?_)
    | ((with_reducible show EX _ (.Call (.Name "bool" _) [_] [] _) _ _ _ _); refine ex_bool1 (by first | exact hF | exact hF.blk _ | exact (hF.blk _).blk _) gB.bool ?_)
    | ((with_reducible show EX _ (.Call (.Name "max" _) [_, _] [] _) _ _ _ _); refine ex_max2 (by first | exact hF | exact hF.blk _ | exact (hF.blk _).blk _) gB.max ?_)
    | ((with_reducible show EX _ (.Call (.Name "gcd" _) [_, _] [] _) _ _ _ _); refine ex_gcd (by first | exact hF | exact hF.blk _ | exact (hF.blk _).blk _) gGcd ?_)
    | ((with_reducible show EX _ (.Call (.Name "isqrt" _) [_] [] _) _ _ _ _); refine ex_isqrt (by first | exact hF | exact hF.blk _ | exact (hF.blk _).blk _) gIsqrt ?_)
    | ((with_reducible show EX _ (.Call (.Name "sorted" _) [_] [_] _) _ _ _ _); refine ex_sortR (by first | exact hF | exact hF.blk _ | exact (hF.blk _).blk _) gB.sorted ?_)
    | ((with_reducible show EX _ (.Call (.Name "isinstance" _) [_, .Name "list" _] [] _) _ _ _ _); refine ex_isi (by first | exact hF | exact hF.blk _ | exact (hF.blk _).blk _) .lst gB.isinstance gB.list ?_)
    | ((with_reducible show EX _ (.Call (.Name "isinstance" _) [_, .Name "tuple" _] [] _) _ _ _ _); refine ex_isi (by first | exact hF | exact hF.blk _ | exact (hF.blk _).blk _) .tup gB.isinstance gB.tuple ?_)
    | ((with_reducible show EX _ (.Call (.Name "isinstance" _) [_, .Name "int" _] [] _) _ _ _ _); refine ex_isi (by first | exact hF | exact hF.blk _ | exact (hF.blk _).blk _) .int gB.isinstance gB.int ?_)
    | ((with_reducible show EX _ (.Call (.Name "isinstance" _) [_, .Name "bool" _] [] _) _ _ _ _); refine ex_isi (by first | exact hF | exact hF.blk _ | exact (hF.blk _).blk _) .bl gB.isinstance gB.bool ?_)
    | ((with_reducible show EX _ (.Call (.Name "isinstance" _) [_, .Name "str" _] [] _) _ _ _ _); refine ex_isi (by first | exact hF | exact hF.blk _ | exact (hF.blk _).blk _) .str gB.isinstance gB.str ?_)
    | ((with_reducible show EX _ (.Call (.Name "isinstance" _) [_, .Name "dict" _] [] _) _ _ _ _); refine ex_isi (by first | exact hF | exact hF.blk _ | exact (hF.blk _).blk _) .dic gB.isinstance gB.dict ?_)
    | ((with_reducible show EX _ (.Call (.Name "isinstance" _) [_, .Tuple [.Name "list" _, .Name "tuple" _] _ _] [] _) _ _ _ _); refine ex_isi2 (by first | exact hF | exact hF.blk _ | exact (hF.blk _).blk _) .lst .tup gB.isinstance gB.list gB.tuple ?_)
    | ((with_reducible show EX _ (.Call (.Name "isinstance" _) [_, .Tuple [.Name "list" _, .Name "tuple" _, .Name "dict" _] _ _] [] _) _ _ _ _); refine ex_isi3 (by first | exact hF | exact hF.blk _ | exact (hF.blk _).blk _) .lst .tup .dic gB.isinstance gB.list gB.tuple gB.dict ?_)
    | ((with_reducible show EX _ (.Call (.Attribute _ "append" _) [_] [] _) _ _ _ _); refine ex_append (by first | exact hF | exact hF.blk _ | exact (hF.blk _).blk _) ?_)
    | ((with_reducible show EX _ (.Call (.Name _ _) (_ :: _) [] _) _ _ _ _); refine ex_callF (by first | exact hF | exact hF.blk _ | exact (hF.blk _).blk _) (by with_reducible assumption) (by omega) ?_))
  | ((with_reducible show AX _ _ _ _ _ _); first | ((with_reducible show AX _ (_ :: _) _ _ _ _); refine ax_cons ?_) | ((with_reducible show AX _ [] _ _ _ _); refine ax_nil ?_))
  | ((with_reducible show TX _ _ _ _ _ _); first
    | ((with_reducible show TX _ (.Compare _ [.Eq] [_] _) _ _ _ _); refine tx_eq (by first | exact hF | exact hF.blk _ | exact (hF.blk _).blk _) ?_)
    | ((with_reducible show TX _ (.Compare _ [.NotEq] [_] _) _ _ _ _); refine tx_ne (by first | exact hF | exact hF.blk _ | exact (hF.blk _).blk _) ?_)
    | ((with_reducible show TX _ (.Compare _ [.Lt] [_] _) _ _ _ _); refine tx_lt ?_)
    | ((with_reducible show TX _ (.Compare _ [.LtE] [_] _) _ _ _ _); refine tx_le ?_)
    | ((with_reducible show TX _ (.Compare _ [.Gt] [_] _) _ _ _ _); refine tx_gt ?_)
    | ((with_reducible show TX _ (.Compare _ [.GtE] [_] _) _ _ _ _); refine tx_ge ?_)
    | ((with_reducible show TX _ (.Compare _ [.Is] [.Constant .none _ _] _) _ _ _ _); refine tx_isN ?_)
    | ((with_reducible show TX _ (.Compare _ [.IsNot] [.Constant .none _ _] _) _ _ _ _); refine tx_notN ?_)
    | ((with_reducible show TX _ (.UnaryOp .Not _ _) _ _ _ _); refine tx_not ?_)
    | ((with_reducible show TX _ (.BoolOp .And _ _) _ _ _ _); refine WWX.tx (wx_and ?_))
    | ((with_reducible show TX _ (.BoolOp .Or _ _) _ _ _ _); refine WWX.tx (wx_or ?_))
    | ((with_reducible show TX _ (.Compare _ _ _ _) _ _ _ _); fail)
    | ((with_reducible show TX _ (.Call (.Name "isinstance" _) _ _ _) _ _ _ _); refine tx_bl ?_)
    | ((with_reducible show TX _ (_) _ _ _ _); refine tx_tru (by first | exact hF | exact hF.blk _ | exact (hF.blk _).blk _) (fun _ _ => rfl) ?_))
  | ((with_reducible show WWX _ _ _ _ _ _); first | ((with_reducible show WWX _ (.BoolOp .And [_] _) _ _ _ _); refine wx_and1 ?_) | ((with_reducible show WWX _ (.BoolOp .Or [_] _) _ _ _ _); refine wx_or1 ?_) | ((with_reducible show WWX _ (.BoolOp .And _ _) _ _ _ _); refine wx_and ?_) | ((with_reducible show WWX _ (.BoolOp .Or _ _) _ _ _ _); refine wx_or ?_))
  | with_reducible refine addP_ii ?_
  | with_reducible refine subP_ii ?_
  | with_reducible refine mulP_ii (by first | assumption | exact cm_l (by omega) (by omega) | exact cm_r (by omega) (by omega)) ?_
  | with_reducible refine modX_p (by first | assumption | decide | omega) ?_
  | with_reducible refine fdivP_ii (by first | assumption | exact cd_i (by omega) (by omega)) ?_
  | with_reducible refine powP_ii (by unfold CPow; decide) ?_
  | with_reducible refine negP_i ?_
  | with_reducible refine eqP_ii ?_
  | with_reducible refine eqP_ss ?_
  | with_reducible refine eqP_bb ?_
  | with_reducible refine neP_ii ?_
  | with_reducible refine neP_ss ?_
  | with_reducible refine neP_bb ?_
  | with_reducible refine ltP_ii ?_
  | with_reducible refine intP_i ?_
  | with_reducible refine intP_b ?_
  | with_reducible refine absP_i ?_
  | with_reducible refine boolP_b ?_
  | with_reducible refine lenP_t ?_
  | with_reducible refine lenP_l ?_
  | with_reducible refine lenP_rl ?_
  | with_reducible refine augP_ii ?_
  | with_reducible refine listP_l ?_
  | with_reducible refine listP_t ?_
  | with_reducible refine tupP_l ?_
  | with_reducible refine tupP_t ?_
  | with_reducible refine tru_i ?_
  | with_reducible refine tru_b ?_
  | ((with_reducible show lenP _ _ [.ref _]); refine lenP_r (by first | exact um_same | assumption) ?_)
  | ((with_reducible show ixX _ _ (.tup _) (.int _)); refine ixX_t (by rfl) ?_)
  | ((with_reducible show ixX _ _ (.lst _) (.int _)); refine ixX_l (by rfl) ?_)
  | ((with_reducible show ixX _ _ (.ref _) (.int _)); refine ixX_r (by first | exact um_same | assumption) (by rfl) ?_)
  | ((with_reducible show setX _ _ (.ref _) (.int _) _); refine setX_r (by first | exact um_same | assumption) (by rfl) ?_)
  | ((with_reducible show appP _ _ (.ref _) _); refine appP_r (by first | exact um_same | assumption) ?_ ?_)
  | ((with_reducible show isL _ (.ref _) ∧ _); refine isL_r (by first | exact um_same | assumption) ?_)
  | ((with_reducible apply ds1); get_elem_tactic_extensible)
  | ((with_reducible apply ds2); get_elem_tactic_extensible)
  | ((with_reducible apply ds3); get_elem_tactic_extensible)
  | ((with_reducible apply tgd_nm); get_elem_tactic_extensible)
  | ((with_reducible apply tgd_tp); get_elem_tactic_extensible)
  | ((with_reducible apply ty_is); first | exact rfl | assumption)
  | ((with_reducible show (isNoneD _ = true → _) ∧ _); first | refine bx_T (by rfl) ?_ | refine bx_F (by rfl) ?_)
  | ((with_reducible show ((!isNoneD _) = true → _) ∧ _); first | refine bx_T (by rfl) ?_ | refine bx_F (by rfl) ?_)
  | with_reducible refine br_T (by decide) ?_
  | with_reducible refine br_F (by decide) ?_
  | with_reducible refine bn_T (by decide) ?_
  | with_reducible refine bn_F (by decide) ?_
  | with_reducible refine bw_T ?_
  | with_reducible refine bw_F ?_
  | with_reducible refine bx_T (by decide) ?_
  | with_reducible refine bx_F (by decide) ?_
  | ((with_reducible show _ ≤ sizeLine ∧ _); refine ax_tup (by exact Nat.le_of_ble_eq_true (by rfl)) ?_)
  | fail)
set_option Elab.async false
set_option linter.all false
set_option maxRecDepth 100000
set_option maxHeartbeats 4000000
/-! K9A: drawn rows: _law_quad, _law_carrier. -/
namespace G
open PySem PySem.Spec PyProof.Rows L2
section
variable {ι : Type} {T : Fm ι} {k : Nat} {P : Program} {w : World} {K : PySem.W.Frag} {mg : Str → Option Value} {base : Heap} {N : List Str} {sc : Scope} {Γ : Gm} {M : Ms} {Φ : PD} {Ψ : PX}
/-- a comprehension whose elements change objects, its own list apart -/
theorem lc_effA {α : Type} {elt : Expr} {scope : Scope} {own : List Nat} {g : Tg} {xs : List α} {Γw : Gm} (enc : α → G.D) (R : α → G.D → Prop) (J : Ms → Prop) (hl : xs.length ≤ 100000) (hw : WipeS Γ own Γw) (j0 : J M)
    (h : ∀ x ∈ xs, ∀ acc M2 p, J M2 → M2 p = none → ∃ Γ', tgD g (enc x) Γw = some Γ' ∧ EX (T.blk scope) elt Γ' (um M2 p (.lst acc)) (fun y M3 => R x y ∧ ∃ M4, M3 = um M4 p (.lst acc) ∧ M4 p = none ∧ J M4) fun _ _ _ _ => False)
    (q : ∀ (ds : List G.D) M', ds.length = xs.length → (∀ (i : Nat) x d, xs[i]? = some x → ds[i]? = some d → R x d) → J M' → Φ (.lst ds) M') :
    lcAsk T scope own g (fun _ M Φ => Φ true M) elt Γ Φ (xs.map enc) (fun _ => True) M := by
  refine ⟨fun n acc M2 => (n ≤ xs.length ∧ acc.length = n) ∧ (∀ (i : Nat) x d, xs[i]? = some x → acc[i]? = some d → R x d) ∧ J M2, ⟨⟨Nat.zero_le _, rfl⟩, fun i x d _ hd => by simp at hd, j0⟩, fun _ _ _ _ _ _ _ => trivial, fun n d acc M2 p hd hI hp => ?_, fun acc M2 hI => ?_⟩
  · obtain ⟨⟨hn, hlen⟩, hR, hJ⟩ := hI
    rw [List.getElem?_map] at hd
    obtain ⟨x, hx, rfl⟩ := Option.map_eq_some_iff.mp hd
    have hnl : n < xs.length := (List.getElem?_eq_some_iff.mp hx).1
    obtain ⟨Γ', h1, h2⟩ := h x (List.mem_of_getElem? hx) acc M2 p hJ hp
    refine ⟨Γ', by rw [hw.eq]; exact h1, fun _ => EX.imp h2 (fun y M3 e => ?_) fun _ _ _ _ z => z, fun z => nomatch z⟩
    obtain ⟨hy, M4, e3, e4, e5⟩ := e
    refine ⟨?_, M4, e3, e4, ⟨hnl, by rw [List.length_append, hlen]; rfl⟩, fun i x' d' hx' hd' => ?_, e5⟩
    · rw [hlen]
      exact Nat.lt_of_lt_of_le (Nat.lt_of_lt_of_le hnl hl) (by rw [sizeLine_eq]; decide)
    · rcases Nat.lt_or_ge i n with hi | hi
      · rw [List.getElem?_append_left (by omega)] at hd'
        exact hR i x' d' hx' hd'
      · have : i = n := by
          have := (List.getElem?_eq_some_iff.mp hd').1
          rw [List.length_append, hlen] at this
          simp at this
          omega
        subst this
        rw [hx] at hx'
        rw [List.getElem?_append_right (by omega), hlen, Nat.sub_self] at hd'
        cases hx'
        simp at hd'
        subst hd'
        exact hy
  · obtain ⟨⟨hn, hlen⟩, hR, hJ⟩ := hI
    rw [List.length_map] at hlen
    exact q acc M2 hlen hR hJ
end
end G
namespace K7
open PySem PySem.Spec PyProof.Rows L2 G
theorem bag_eq {M M' : Ms} {b : Addr} (hb : Bag M b) (e : M' b = M b) : Bag M' b := by
  obtain ⟨cs, i, v, m, c, h, h2⟩ := hb
  exact ⟨cs, i, v, m, c, by rw [e]; exact h, h2⟩
theorem bag_ne' {M : Ms} {b p : Addr} (hb : Bag M b) (hp : M p = none) : b ≠ p := fun z => by
  obtain ⟨_, _, _, _, _, h, _⟩ := hb
  rw [z, hp] at h; cases h
theorem bag_um' {M : Ms} {b p : Addr} {o : MO} (hb : Bag M b) (hp : b ≠ p) : Bag (um M p o) b := bag_eq hb (um_ne hp)
/-- a draw beside a growing list -/
theorem bag_step {M : Ms} {b p : Addr} {o a : MO} (hp : M p = none) (hbp : b ≠ p) (hb : Bag (um (um M p a) b o) b) : ∃ M4, um (um M p a) b o = um M4 p a ∧ M4 p = none ∧ Bag M4 b :=
  ⟨um M b o, um_swap (Ne.symm hbp), by rw [um_ne (Ne.symm hbp)]; exact hp, bag_eq hb (by rw [um_same, um_same])⟩
theorem four_of {ds : List D} {P : Int → Prop} (hl : ds.length = 4) (h : ∀ i d, i < 4 → ds[i]? = some d → ∃ v, d = .int v ∧ P v) : ∃ x : Q4, ds = [.int x.a, .int x.b, .int x.c, .int x.d] ∧ P x.a ∧ P x.b ∧ P x.c ∧ P x.d := by
  match ds, hl with
  | [d0, d1, d2, d3], _ =>
    obtain ⟨a, rfl, ha⟩ := h 0 d0 (by omega) rfl
    obtain ⟨b, rfl, hb⟩ := h 1 d1 (by omega) rfl
    obtain ⟨c, rfl, hc⟩ := h 2 d2 (by omega) rfl
    obtain ⟨d, rfl, hd⟩ := h 3 d3 (by omega) rfl
    exact ⟨⟨a, b, c, d⟩, rfl, ha, hb, hc, hd⟩
theorem sq_le {z t : Int} (h0 : -t ≤ z) (h1 : z ≤ t) : 0 ≤ z * z ∧ z * z ≤ t * t := by
  constructor
  · exact sq_nonneg z
  · have := Int.mul_nonneg (show 0 ≤ t - z by omega) (show 0 ≤ t + z by omega)
    rw [show (t - z) * (t + z) = t * t - z * z by grind] at this
    omega
theorem sq_pos1 {t : Int} (h : 1 ≤ t) : 1 ≤ t * t := by
  have := Int.mul_le_mul h h (by omega) (by omega)
  omega
section
variable {T : Fm Unit} (hh : T.hot = false) {k : Nat} {P : Program} {w : World} {K : PySem.W.Frag} {mg : Str → Option Value} {base : Heap} {args : List D} {M : Ms} {Φ : PD} {Ψ : PX}
def ds__law_quad : DS := fun args M Φ _ => ∃ (b : Addr) (t : Int), args = [.ref b, .int t] ∧ 1 ≤ t ∧ t ≤ 15 ∧ Bag M b ∧ ∀ x M', 0 < nrmQ x → nrmQ x ≤ 4 * (t * t) → Bag M' b → Φ (qD x) M'
include hh in
theorem b__law_quad (gB : Bi mg) (c1 : Cal false P w K mg base "_law_draw" k ["bag", "limit"] ds__law_draw) (c2 : Cal false P w K mg base "_law_size" k ["quad"] ds__law_size) (hD : Fd T k P w K mg base n__law_quad (defScope s__law_quad)) (h : ds__law_quad args M Φ Ψ) : Bod T s__law_quad n__law_quad args M Φ Ψ := by
  obtain ⟨b, t, rfl, ht1, ht2, hb, hq⟩ := h
  have hF := hD.fc
  refine bod_start (by get_elem_tactic_extensible) ?_; refine ssx_cons ?_
  repeat' decreasing_trivial_pre_omega
  (with_reducible show EX _ (.ListComp _ _ _ _) _ _ _ _); refine ex_lc (by first | exact hF | exact hF.blk _ | exact (hF.blk _).blk _) [("k", 3)] (by first | exact tb_nmA hF (by get_elem_tactic_extensible) | exact tb_nmA (hF.blk _) (by get_elem_tactic_extensible) | exact tb_tpA hF (by repeat' (first | exact tnb_nil | apply tnb_consA hF (by get_elem_tactic_extensible))) (by rfl) | exact tb_tpA (hF.blk _) (by repeat' (first | exact tnb_nil | apply tnb_consA (hF.blk _) (by get_elem_tactic_extensible))) (by rfl)) .none ?_ (by decide +kernel) (by decide)
  refine ix_rng1 hF gB.range ?_
  repeat' decreasing_trivial_pre_omega
  refine ⟨_, rfl, by omega, by omega, ?_⟩
  rw [rngD_irg, show (4 : Int).toNat = 4 from rfl]
  refine lc_effA D.int (fun _ d => ∃ v, d = .int v ∧ -t ≤ v ∧ v ≤ t) (fun M => Bag M b) (by rw [irg_len]; decide) (by get_elem_tactic_extensible) hb (fun x hx acc M2 p hb hp => ?_) (fun ds M' hl hR hb => ?_)
  · have hbp := bag_ne' hb hp
    repeat' decreasing_trivial_pre_omega
    refine ⟨b, _, rfl, by omega, by omega, bag_um' hb hbp, fun d o h0 h1 hb2 => ?_⟩
    repeat' decreasing_trivial_pre_omega
    exact ⟨⟨_, rfl, by omega, by omega⟩, bag_step hp hbp hb2⟩
  · rw [irg_len] at hl
    obtain ⟨x, rfl, ha, hb', hc, hd⟩ := four_of (P := fun v => -t ≤ v ∧ v ≤ t) hl (fun i d hi hd => hR i _ d (by unfold irg; rw [List.getElem?_map, List.getElem?_range hi]; rfl) hd)
    have s1 := sq_le ha.1 ha.2
    have s2 := sq_le hb'.1 hb'.2
    have s3 := sq_le hc.1 hc.2
    have s4 := sq_le hd.1 hd.2
    have hx : nrmQ x ≤ 4 * (t * t) := by
      show x.a * x.a + x.b * x.b + x.c * x.c + x.d * x.d ≤ 4 * (t * t)
      omega
    repeat' decreasing_trivial_pre_omega
    have s5 := sq_le (z := t) (t := 15) (by omega) ht2
    refine ⟨x, rfl, sm_x (by omega), ?_⟩
    repeat' decreasing_trivial_pre_omega
    refine br_d (fun hc => ?_) (fun hc => ?_)
    · repeat' decreasing_trivial_pre_omega
      exact hq x _ hc hx hb
    · repeat' decreasing_trivial_pre_omega
      exact hq ⟨1, 0, 0, 0⟩ _ (by decide) (by show (1 : Int) ≤ _; have := sq_pos1 ht1; omega) hb
end
end K7
end
section
set_option pp.deepTerms false
set_option pp.deepTerms.threshold 5
set_option pp.maxSteps 3000
set_option hygiene false
local macro_rules | `(tactic| get_elem_tactic_extensible) => `(tactic| (repeat' (first | with_reducible exact AtN.z | with_reducible exact AtG.z | with_reducible exact SetS.z | with_reducible exact SetSs.nil | exact WipeS.nil | with_reducible apply AtN.s | with_reducible apply AtG.s | with_reducible apply SetS.s | with_reducible apply SetSs.cons | apply WipeS.cons | exact StartS.nil | apply StartS.arg | apply StartS.var)))
local macro_rules | `(tactic| decreasing_trivial_pre_omega) => `(tactic| first
  | ((with_reducible show SSX _ _ _ _ _); first | ((with_reducible show SSX _ (_ :: _) _ _ _); refine ssx_cons ?_) | ((with_reducible show SSX _ [] _ _ _); refine ssx_nil ?_))
  | ((with_reducible show SX _ _ _ _ _); first
    | ((with_reducible show SX _ (.Return (some _) _) _ _ _); refine sx_ret ?_)
    | ((with_reducible show SX _ (.Return none _) _ _ _); refine sx_retN ?_)
    | ((with_reducible show SX _ (.If _ _ _ _) _ _ _); refine sx_if ?_)
    | ((with_reducible show SX _ (.Assign [.Name _ _] (.ListComp _ _ _ _) _) _ _ _); fail)
    | ((with_reducible show SX _ (.Assign [.Name _ _] _ _) _ _ _); refine sx_setA hD (by get_elem_tactic_extensible) ?_)
    | ((with_reducible show SX _ (.Assign [.Tuple [.Name _ _, .Name _ _] _ _] (.Tuple [_, _] _ _) _) _ _ _); refine sx_par2 hD (by get_elem_tactic_extensible) (by get_elem_tactic_extensible) (by decide) ?_)
    | ((with_reducible show SX _ (.Assign [.Tuple [.Name _ _, .Name _ _, .Name _ _] _ _] (.Tuple [_, _, _] _ _) _) _ _ _); refine sx_par3A hD (by get_elem_tactic_extensible) (by get_elem_tactic_extensible) (by get_elem_tactic_extensible) (by decide) (by decide) (by decide) ?_)
    | ((with_reducible show SX _ (.Assign [.Tuple _ _ _] _ _) _ _ _); refine sx_asg hD (tg_tpA hD (by repeat' (first | exact tn_nil | apply tn_consA hD (by get_elem_tactic_extensible))) (by rfl)) ?_)
    | ((with_reducible show SX _ (.Assign [.Subscript _ _ _] _ _) _ _ _); refine sx_subX hF ?_)
    | ((with_reducible show SX _ (.AugAssign (.Name _ _) .Add _ _) _ _ _); refine sx_augadd hD (by get_elem_tactic_extensible) (by get_elem_tactic_extensible) ?_)
    | ((with_reducible show SX _ (.Expr _ _) _ _ _); refine sx_expr ?_)
    | ((with_reducible show SX _ (.Break _) _ _ _); refine sx_break ?_)
    | ((with_reducible show SX _ (.Continue _) _ _ _); refine sx_continue ?_)
    | ((with_reducible show SX _ (.Pass _) _ _ _); refine sx_pass ?_))
  | ((with_reducible show EX _ _ _ _ _ _); first
    | ((with_reducible show EX _ (.Name _ _) _ _ _ _); refine ax_var (by first | exact hF | exact hF.blk _ | exact (hF.blk _).blk _) (by get_elem_tactic_extensible) (by get_elem_tactic_extensible) ?_)
    | ((with_reducible show EX _ (.Constant (.int _) _ _) _ _ _ _); refine ex_int ?_)
    | ((with_reducible show EX _ (.Constant (.str _) _ _) _ _ _ _); refine ex_str ?_)
    | ((with_reducible show EX _ (.Constant (.bool _) _ _) _ _ _ _); refine ex_bl ?_)
    | ((with_reducible show EX _ (.Constant .none _ _) _ _ _ _); refine ex_non ?_)
    | ((with_reducible show EX _ (.BinOp _ .Add _ _) _ _ _ _); refine ex_add ?_)
    | ((with_reducible show EX _ (.BinOp _ .Sub _ _) _ _ _ _); refine ex_sub ?_)
    | ((with_reducible show EX _ (.BinOp _ .Mult _ _) _ _ _ _); refine ex_mul ?_)
    | ((with_reducible show EX _ (.BinOp _ .Mod _ _) _ _ _ _); refine ex_modX ?_)
    | ((with_reducible show EX _ (.BinOp _ .FloorDiv _ _) _ _ _ _); refine ex_fdiv ?_)
    | ((with_reducible show EX _ (.BinOp _ .Pow _ _) _ _ _ _); refine ex_pow ?_)
    | ((with_reducible show EX _ (.UnaryOp .USub _ _) _ _ _ _); refine ex_neg ?_)
    | ((with_reducible show EX _ (.UnaryOp .Not _ _) _ _ _ _); refine ex_not ?_)
    | ((with_reducible show EX _ (.Tuple _ _ _) _ _ _ _); refine ex_tup ?_)
    | ((with_reducible show EX _ (.List (_ :: _) _) _ _ _ _); refine ex_lst ?_)
    | ((with_reducible show EX _ (.IfExp _ _ _ _) _ _ _ _); refine ex_if ?_)
    | ((with_reducible show EX _ (.Compare _ [.Eq] [_] _) _ _ _ _); refine ex_eq (by first | exact hF | exact hF.blk _ | exact (hF.blk _).blk _) ?_)
    | ((with_reducible show EX _ (.Compare _ [.NotEq] [_] _) _ _ _ _); refine ex_ne (by first | exact hF | exact hF.blk _ | exact (hF.blk _).blk _) ?_)
    | ((with_reducible show EX _ (.Compare _ [.Lt] [_] _) _ _ _ _); refine ex_lt ?_)
    | ((with_reducible show EX _ (.Compare _ [.LtE] [_] _) _ _ _ _); refine ex_le ?_)
    | ((with_reducible show EX _ (.Compare _ [.Gt] [_] _) _ _ _ _); refine ex_gt ?_)
    | ((with_reducible show EX _ (.Compare _ [.GtE] [_] _) _ _ _ _); refine ex_ge ?_)
    | ((with_reducible show EX _ (.Compare _ [.Is] [.Constant .none _ _] _) _ _ _ _); refine ex_isN ?_)
    | ((with_reducible show EX _ (.Compare _ [.IsNot] [.Constant .none _ _] _) _ _ _ _); refine ex_notN ?_)
    | ((with_reducible show EX _ (.BoolOp _ [_] _) _ _ _ _); refine ex_one ?_)
    | ((with_reducible show EX _ (.BoolOp .And _ _) _ _ _ _); refine ex_and ?_)
    | ((with_reducible show EX _ (.BoolOp .Or _ _) _ _ _ _); refine ex_or ?_)
    | ((with_reducible show EX _ (.Subscript _ (.Slice _ _ _ _) _) _ _ _ _); fail)
    | ((with_reducible show EX _ (.Subscript _ _ _) _ _ _ _); refine ex_ixX (by first | exact hF | exact hF.blk _ | exact (hF.blk _).blk _) ?_)
    | ((with_reducible show EX _ (.Call (.Name "len" _) [_] [] _) _ _ _ _); refine ex_len (by first | exact hF | exact hF.blk _ | exact (hF.blk _).blk _) gB.len ?_)
    | ((with_reducible show EX _ (.Call (.Name "int" _) [_] [] _) _ _ _ _); refine ex_int1 (by first | exact hF | exact hF.blk _ | exact (hF.blk _).blk _) gB.int ?_)
    | ((with_reducible show EX _ (.Call (.Name "abs" _) [_] [] _) _ _ _ _); refine ex_abs (by first | exact hF | exact hF.blk _ | exact (hF.blk _).blk _) gB.abs ?_)
    | ((with_reducible show EX _ (.Call (.Name "list" _) [_] [] _) _ _ _ _); refine ex_list1 (by first | exact hF | exact hF.blk _ | exact (hF.blk _).blk _) gB.list ?_)
    | ((with_reducible show EX _ (.Call (.Name "tuple" _) [_] [] _) _ _ _ _); refine ex_tuple1 (by first | exact hF | exact hF.blk _ | exact (hF.blk _).blk _) gB.tuple ?_)
    | ((with_reducible show EX _ (.Call (.Name "sum" _) [_] [] _) _ _ _ _); refine ex_sum (by first | exact hF | exact hF.blk _ | exact (hF.blk _).blk _) gB.sum ?_)
    | ((with_reducible show EX _ (.Call (.Name "max" _) [_] [] _) _ _ _ _); refine ex_max (by first | exact hF | exact hF.blk _ | exact (hF.blk _).blk _) gB.max ?_)
    | ((with_reducible show EX _ (.Call (.Name "all" _) [_] [] _) _ _ _ _); refine ex_all (by first | exact hF | exact hF.blk _ | exact (hF.blk _).blk _) gB.all ?_)
    | ((with_reducible show EX _ (.Call (.Name "bool" _) [_] [] _) _ _ _ _); refine ex_bool1 (by first | exact hF | exact hF.blk _ | exact (hF.blk _).blk _) gB.bool ?_)
    | ((with_reducible show EX _ (.Call (.Name "max" _) [_, _] [] _) _ _ _ _); refine ex_max2 (by first | exact hF | exact hF.blk _ | exact (hF.blk _).blk _) gB.max ?_)
    | ((with_reducible show EX _ (.Call (.Name "gcd" _) [_, _] [] _) _ _ _ _); refine ex_gcd (by first | exact hF | exact hF.blk _ | exact (hF.blk _).blk _) gGcd ?_)
    | ((with_reducible show EX _ (.Call (.Name "isqrt" _) [_] [] _) _ _ _ _); refine ex_isqrt (by first | exact hF | exact hF.blk _ | exact (hF.blk _).blk _) gIsqrt ?_)
    | ((with_reducible show EX _ (.Call (.Name "sorted" _) [_] [_] _) _ _ _ _); refine ex_sortR (by first | exact hF | exact hF.blk _ | exact (hF.blk _).blk _) gB.sorted ?_)
    | ((with_reducible show EX _ (.Call (.Name "isinstance" _) [_, .Name "list" _] [] _) _ _ _ _); refine ex_isi (by first | exact hF | exact hF.blk _ | exact (hF.blk _).blk _) .lst gB.isinstance gB.list ?_)
    | ((with_reducible show EX _ (.Call (.Name "isinstance" _) [_, .Name "tuple" _] [] _) _ _ _ _); refine ex_isi (by first | exact hF | exact hF.blk _ | exact (hF.blk _).blk _) .tup gB.isinstance gB.tuple ?_)
    | ((with_reducible show EX _ (.Call (.Name "isinstance" _) [_, .Name "int" _] [] _) _ _ _ _); refine ex_isi (by first | exact hF | exact hF.blk _ | exact (hF.blk _).blk _) .int gB.isinstance gB.int ?_)
    | ((with_reducible show EX _ (.Call (.Name "isinstance" _) [_, .Name "bool" _] [] _) _ _ _ _); refine ex_isi (by first | exact hF | exact hF.blk _ | exact (hF.blk _).blk _) .bl gB.isinstance gB.bool ?_)
    | ((with_reducible show EX _ (.Call (.Name "isinstance" _) [_, .Name "str" _] [] _) _ _ _ _); refine ex_isi (by first | exact hF | exact hF.blk _ | exact (hF.blk _).blk _) .str gB.isinstance gB.str ?_)
    | ((with_reducible show EX _ (.Call (.Name "isinstance" _) [_, .Name "dict" _] [] _) _ _ _ _); refine ex_isi (by first | exact hF | exact hF.blk _ | exact (hF.blk _).blk _) .dic gB.isinstance gB.dict ?_)
    | ((with_reducible show EX _ (.Call (.Name "isinstance" _) [_, .Tuple [.Name "list" _, .Name "tuple" _] _ _] [] _) _ _ _ _); refine ex_isi2 (by first | exact hF | exact hF.blk _ | exact (hF.blk _).blk _) .lst .tup gB.isinstance gB.list gB.tuple ?_)
    | ((with_reducible show EX _ (.Call (.Name "isinstance" _) [_, .Tuple [.Name "list" _, .Name "tuple" _, .Name "dict" _] _ _] [] _) _ _ _ _); refine ex_isi3 (by first | exact hF | exact hF.blk _ | exact (hF.blk _).blk _) .lst .tup .dic gB.isinstance gB.list gB.tuple gB.dict ?_)
    | ((with_reducible show EX _ (.Call (.Attribute _ "append" _) [_] [] _) _ _ _ _); refine ex_append (by first | exact hF | exact hF.blk _ | exact (hF.blk _).blk _) ?_)
    | ((with_reducible show EX _ (.Call (.Name _ _) (_ :: _) [] _) _ _ _ _); refine ex_callF (by first | exact hF | exact hF.blk _ | exact (hF.blk _).blk _) (by with_reducible assumption) (by omega) ?_))
  | ((with_reducible show AX _ _ _ _ _ _); first | ((with_reducible show AX _ (_ :: _) _ _ _ _); refine ax_cons ?_) | ((with_reducible show AX _ [] _ _ _ _); refine ax_nil ?_))
  | ((with_reducible show TX _ _ _ _ _ _); first
    | ((with_reducible show TX _ (.Compare _ [.Eq] [_] _) _ _ _ _); refine tx_eq (by first | exact hF | exact hF.blk _ | exact (hF.blk _).blk _) ?_)
    | ((with_reducible show TX _ (.Compare _ [.NotEq] [_] _) _ _ _ _); refine tx_ne (by first | exact hF | exact hF.blk _ | exact (hF.blk _).blk _) ?_)
    | ((with_reducible show TX _ (.Compare _ [.Lt] [_] _) _ _ _ _); refine tx_lt ?_)
    | ((with_reducible show TX _ (.Compare _ [.LtE] [_] _) _ _ _ _); refine tx_le ?_)
    | ((with_reducible show TX _ (.Compare _ [.Gt] [_] _) _ _ _ _); refine tx_gt ?_)
    | ((with_reducible show TX _ (.Compare _ [.GtE] [_] _) _ _ _ _); refine tx_ge ?_)
    | ((with_reducible show TX _ (.Compare _ [.Is] [.Constant .none _ _] _) _ _ _ _); refine tx_isN ?_)
    | ((with_reducible show TX _ (.Compare _ [.IsNot] [.Constant .none _ _] _) _ _ _ _); refine tx_notN ?_)
    | ((with_reducible show TX _ (.UnaryOp .Not _ _) _ _ _ _); refine tx_not ?_)
    | ((with_reducible show TX _ (.BoolOp .And _ _) _ _ _ _); refine WWX.tx (wx_and ?_))
    | ((with_reducible show TX _ (.BoolOp .Or _ _) _ _ _ _); refine WWX.tx (wx_or ?_))
    | ((with_reducible show TX _ (.Compare _ _ _ _) _ _ _ _); fail)
    | ((with_reducible show TX _ (.Call (.Name "isinstance" _) _ _ _) _ _ _ _); refine tx_bl ?_)
    | ((with_reducible show TX _ (_) _ _ _ _); refine tx_tru (by first | exact hF | exact hF.blk _ | exact (hF.blk _).blk _) (fun _ _ => rfl) ?_))
  | ((with_reducible show WWX _ _ _ _ _ _); first | ((with_reducible show WWX _ (.BoolOp .And [_] _) _ _ _ _); refine wx_and1 ?_) | ((with_reducible show WWX _ (.BoolOp .Or [_] _) _ _ _ _); refine wx_or1 ?_) | ((with_reducible show WWX _ (.BoolOp .And _ _) _ _ _ _); refine wx_and ?_) | ((with_reducible show WWX _ (.BoolOp .Or _ _) _ _ _ _); refine wx_or ?_))
  | with_reducible refine addP_ii ?_
  | with_reducible refine subP_ii ?_
  | with_reducible refine mulP_ii (by first | assumption | exact cm_l (by omega) (by omega) | exact cm_r (by omega) (by omega)) ?_
  | with_reducible refine modX_p (by first | assumption | decide | omega) ?_
  | with_reducible refine fdivP_ii (by first | assumption | exact cd_i (by omega) (by omega)) ?_
  | with_reducible refine powP_ii (by unfold CPow; decide) ?_
  | with_reducible refine negP_i ?_
  | with_reducible refine eqP_ii ?_
  | with_reducible refine eqP_ss ?_
  | with_reducible refine eqP_bb ?_
  | with_reducible refine neP_ii ?_
  | with_reducible refine neP_ss ?_
  | with_reducible refine neP_bb ?_
  | with_reducible refine ltP_ii ?_
  | with_reducible refine intP_i ?_
  | with_reducible refine intP_b ?_
  | with_reducible refine absP_i ?_
  | with_reducible refine boolP_b ?_
  | with_reducible refine lenP_t ?_
  | with_reducible refine lenP_l ?_
  | with_reducible refine lenP_rl ?_
  | with_reducible refine augP_ii ?_
  | with_reducible refine listP_l ?_
  | with_reducible refine listP_t ?_
  | with_reducible refine tupP_l ?_
  | with_reducible refine tupP_t ?_
  | with_reducible refine tru_i ?_
  | with_reducible refine tru_b ?_
  | ((with_reducible show lenP _ _ [.ref _]); refine lenP_r (by first | exact um_same | assumption) ?_)
  | ((with_reducible show ixX _ _ (.tup _) (.int _)); refine ixX_t (by rfl) ?_)
  | ((with_reducible show ixX _ _ (.lst _) (.int _)); refine ixX_l (by rfl) ?_)
  | ((with_reducible show ixX _ _ (.ref _) (.int _)); refine ixX_r (by first | exact um_same | assumption) (by rfl) ?_)
  | ((with_reducible show setX _ _ (.ref _) (.int _) _); refine setX_r (by first | exact um_same | assumption) (by rfl) ?_)
  | ((with_reducible show appP _ _ (.ref _) _); refine appP_r (by first | exact um_same | assumption) ?_ ?_)
  | ((with_reducible show isL _ (.ref _) ∧ _); refine isL_r (by first | exact um_same | assumption) ?_)
  | ((with_reducible apply ds1); get_elem_tactic_extensible)
  | ((with_reducible apply ds2); get_elem_tactic_extensible)
  | ((with_reducible apply ds3); get_elem_tactic_extensible)
  | ((with_reducible apply tgd_nm); get_elem_tactic_extensible)
  | ((with_reducible apply tgd_tp); get_elem_tactic_extensible)
  | ((with_reducible apply ty_is); first | exact rfl | assumption)
  | ((with_reducible show (isNoneD _ = true → _) ∧ _); first | refine bx_T (by rfl) ?_ | refine bx_F (by rfl) ?_)
  | ((with_reducible show ((!isNoneD _) = true → _) ∧ _); first | refine bx_T (by rfl) ?_ | refine bx_F (by rfl) ?_)
  | with_reducible refine br_T (by decide) ?_
  | with_reducible refine br_F (by decide) ?_
  | with_reducible refine bn_T (by decide) ?_
  | with_reducible refine bn_F (by decide) ?_
  | with_reducible refine bw_T ?_
  | with_reducible refine bw_F ?_
  | with_reducible refine bx_T (by decide) ?_
  | with_reducible refine bx_F (by decide) ?_
  | ((with_reducible show _ ≤ sizeLine ∧ _); refine ax_tup (by exact Nat.le_of_ble_eq_true (by rfl)) ?_)
  | fail)
set_option Elab.async false
set_option linter.all false
set_option maxRecDepth 100000
set_option maxHeartbeats 4000000
/-! K12R: the law's own: _law_cubes, _law_name, _law_stepped, _law_row_is. -/
namespace K7
open PySem PySem.Spec PyProof.Rows L2 G
/-- the rows of the cube rotations -/
def kQ (k : Int) : Q4 := ⟨k / 27 - 1, k / 9 % 3 - 1, k / 3 % 3 - 1, k % 3 - 1⟩
def cubeB (q : Q4) : Bool := (nrmQ q == 1 || (nrmQ q == 2 || nrmQ q == 4)) && gtI [q.a, q.b, q.c, q.d] [0, 0, 0, 0]
def cubeF (ks : List Int) : List Q4 := (ks.map kQ).filter cubeB
def cubeL : List Q4 := cubeF (irg 0 81)
section
variable {CR CG : Addr} {T : Fm Unit} (hh : T.hot = false) {k : Nat} {P : Program} {w : World} {K : PySem.W.Frag} {mg : Str → Option Value} {base : Heap} {args : List D} {M : Ms} {Φ : PD} {Ψ : PX}
def ds__law_cubes : DS := fun args M Φ _ => args = [] ∧ Φ (.lst (cubeL.map qD)) M
include hh in
theorem b__law_cubes (gB : Bi mg) (c1 : Cal false P w K mg base "_law_size" k ["quad"] ds__law_size) (hD : Fd T k P w K mg base n__law_cubes (defScope s__law_cubes)) (h : ds__law_cubes args M Φ Ψ) : Bod T s__law_cubes n__law_cubes args M Φ Ψ := by
  obtain ⟨rfl, hq⟩ := h
  have hF := hD.fc
  refine bod_start (by get_elem_tactic_extensible) ?_; refine ssx_cons ?_
  decreasing_trivial_pre_omega
  refine ex_lstM ?_
  repeat' decreasing_trivial_pre_omega
  refine fun p hp => ?_
  repeat' ((fail_if_success (with_reducible show SSX _ _ _ _ _)); decreasing_trivial_pre_omega)
  refine ssx_cons ?_
  refine sx_forA hD (irg 0 81) D.int (fun ys Γ M' => ∃ (o1 o2 : Option D), Γ = [some (.ref p), o1, o2] ∧ M' = um M p (.lst ((cubeF ys).map qD))) (fun _ => True) (tg_nmA hD (by get_elem_tactic_extensible)) (ix_rng1 hF gB.range ?_) (fun _ _ _ _ => trivial) ?_ ?_
  · repeat' decreasing_trivial_pre_omega
    refine ⟨_, rfl, by omega, by omega, ?_⟩
    rw [rngD_irg]
    exact ⟨rfl, fun _ _ => trivial, none, none, rfl, rfl⟩
  · rintro ys c zs Γ M' he ⟨o1, o2, rfl, rfl⟩
    have hc := irg_mem (show c ∈ irg 0 81 by rw [he]; simp)
    have hyl : ys.length ≤ 81 := by
      have := congrArg List.length he
      rw [irg_len, List.length_append] at this
      omega
    have hcl : (cubeF ys).length ≤ 81 := Nat.le_trans (List.length_filter_le _ _) (by rw [List.length_map]; exact hyl)
    have e1 : cubeF (ys ++ [c]) = cubeF ys ++ (if cubeB (kQ c) = true then [kQ c] else []) := by
      unfold cubeF
      rw [List.map_append, List.filter_append]
      congr 1
      show List.filter cubeB [kQ c] = _
      by_cases h : cubeB (kQ c) = true
      · rw [if_pos h, List.filter_cons_of_pos h, List.filter_nil]
      · rw [if_neg h, List.filter_cons_of_neg h, List.filter_nil]
    have hn : nrmQ (kQ c) ≤ 4 := by
      have key : ((irg 0 81).all fun k => decide (nrmQ (kQ k) ≤ 4)) = true := by decide +kernel
      exact of_decide_eq_true (List.all_eq_true.mp key c (by rw [he]; simp))
    repeat' decreasing_trivial_pre_omega
    refine tx_in hF ?_
    repeat' decreasing_trivial_pre_omega
    refine ⟨kQ c, rfl, sm_x (by omega), ?_⟩
    repeat' decreasing_trivial_pre_omega
    refine .inl ⟨[.int 1, .int 2, .int 4], .int (nrmQ (kQ c)), [.int 1, .int 2, .int 4], rfl, rfl, rfl, _, rfl, ?_⟩
    have e2 : inV (V.int (nrmQ (kQ c))) [V.int 1, V.int 2, V.int 4] = (nrmQ (kQ c) == 1 || (nrmQ (kQ c) == 2 || nrmQ (kQ c) == 4)) := by
      show ((1 : Int) == nrmQ (kQ c) || ((2 : Int) == nrmQ (kQ c) || ((4 : Int) == nrmQ (kQ c) || false))) = _
      rw [Bool.or_false, Bool.eq_iff_iff]
      simp only [Bool.or_eq_true, beq_iff_eq]
      omega
    rw [if_neg Bool.false_ne_true, e2]
    refine ⟨fun h1 => ?_, fun h1 => ?_⟩
    · refine wx_and1 ?_
      refine tx_gtT hF ?_
      repeat' decreasing_trivial_pre_omega
      refine ⟨[(kQ c).a, (kQ c).b, (kQ c).c, (kQ c).d], [0, 0, 0, 0], rfl, rfl, _, rfl, fun h2 => ?_, fun h2 => ?_⟩
      · have h3 : cubeB (kQ c) = true := by unfold cubeB; rw [h1, h2]; rfl
        rw [if_pos h3] at e1
        repeat' decreasing_trivial_pre_omega
        · rw [List.length_map]; exact Nat.lt_of_lt_of_le (show _ < 16777216 by omega) (size_le (Nat.le_refl _))
        repeat' decreasing_trivial_pre_omega
        refine ⟨_, _, rfl, ?_⟩
        rw [um_um, e1, List.map_append]; rfl
      · have h3 : ¬ cubeB (kQ c) = true := by unfold cubeB; rw [h1, h2]; exact Bool.false_ne_true
        rw [if_neg h3, List.append_nil] at e1
        repeat' decreasing_trivial_pre_omega
        exact ⟨_, _, rfl, by rw [e1]⟩
    · have h3 : ¬ cubeB (kQ c) = true := by unfold cubeB; rw [h1, Bool.false_and]; exact Bool.false_ne_true
      rw [if_neg h3, List.append_nil] at e1
      repeat' decreasing_trivial_pre_omega
      exact ⟨_, _, rfl, by rw [e1]⟩
  · rintro Γ M' ⟨o1, o2, rfl, rfl⟩
    refine ssx_cons (sx_ret (ex_frz ?_))
    repeat' decreasing_trivial_pre_omega
    refine ⟨p, _, rfl, um_same, ?_⟩
    rw [dm_um hp]
    exact hq
def ds__law_row_is (CR : Addr) : DS := fun args M Φ _ => ∃ q : Q4, args = [rowD CR q, qD q] ∧ Φ (.bl true) M
include hh in
theorem b__law_row_is (gB : Bi mg) (gR : mg "Row" = some (.ref CR)) (kr : PySem.W.kitOne K (.ref CR) (.ref CR) = some true) (oF : OwnF K CR) (oR : OCls K CR ["numbers"]) (c1 : Cal false P w K mg base "_law_like" k ["told", "due"] (ds__law_like 2)) (hD : Fd T k P w K mg base n__law_row_is (defScope s__law_row_is)) (h : ds__law_row_is CR args M Φ Ψ) : Bod T s__law_row_is n__law_row_is args M Φ Ψ := by
  obtain ⟨q, rfl, hq⟩ := h
  have hF := hD.fc
  refine bod_start (by get_elem_tactic_extensible) ?_; refine ssx_cons ?_
  repeat' decreasing_trivial_pre_omega
  refine ex_isC hF gB.isinstance gR ?_
  repeat' decreasing_trivial_pre_omega
  refine ⟨.o CR, true, rfl, oF, kr, ?_⟩
  repeat' decreasing_trivial_pre_omega
  refine ex_fld hF oR ?_
  repeat' decreasing_trivial_pre_omega
  refine ⟨rfl, _, rfl, ?_⟩
  repeat' decreasing_trivial_pre_omega
  exact ⟨_, rfl, rfl, hq⟩
end
end K7
end
section
set_option pp.deepTerms false
set_option pp.deepTerms.threshold 5
set_option pp.maxSteps 3000
set_option hygiene false
local macro_rules | `(tactic| get_elem_tactic_extensible) => `(tactic| (repeat' (first | with_reducible exact AtN.z | with_reducible exact AtG.z | with_reducible exact SetS.z | with_reducible exact SetSs.nil | exact WipeS.nil | with_reducible apply AtN.s | with_reducible apply AtG.s | with_reducible apply SetS.s | with_reducible apply SetSs.cons | apply WipeS.cons | exact StartS.nil | apply StartS.arg | apply StartS.var)))
local macro_rules | `(tactic| decreasing_trivial_pre_omega) => `(tactic| first
  | ((with_reducible show SSX _ _ _ _ _); first | ((with_reducible show SSX _ (_ :: _) _ _ _); refine ssx_cons ?_) | ((with_reducible show SSX _ [] _ _ _); refine ssx_nil ?_))
  | ((with_reducible show SX _ _ _ _ _); first
    | ((with_reducible show SX _ (.Return (some _) _) _ _ _); refine sx_ret ?_)
    | ((with_reducible show SX _ (.Return none _) _ _ _); refine sx_retN ?_)
    | ((with_reducible show SX _ (.If _ _ _ _) _ _ _); refine sx_if ?_)
    | ((with_reducible show SX _ (.Assign [.Name _ _] (.ListComp _ _ _ _) _) _ _ _); fail)
    | ((with_reducible show SX _ (.Assign [.Name _ _] _ _) _ _ _); refine sx_setA hD (by get_elem_tactic_extensible) ?_)
    | ((with_reducible show SX _ (.Assign [.Tuple [.Name _ _, .Name _ _] _ _] (.Tuple [_, _] _ _) _) _ _ _); refine sx_par2 hD (by get_elem_tactic_extensible) (by get_elem_tactic_extensible) (by decide) ?_)
    | ((with_reducible show SX _ (.Assign [.Tuple [.Name _ _, .Name _ _, .Name _ _] _ _] (.Tuple [_, _, _] _ _) _) _ _ _); refine sx_par3A hD (by get_elem_tactic_extensible) (by get_elem_tactic_extensible) (by get_elem_tactic_extensible) (by decide) (by decide) (by decide) ?_)
    | ((with_reducible show SX _ (.Assign [.Tuple _ _ _] _ _) _ _ _); refine sx_asg hD (tg_tpA hD (by repeat' (first | exact tn_nil | apply tn_consA hD (by get_elem_tactic_extensible))) (by rfl)) ?_)
    | ((with_reducible show SX _ (.Assign [.Subscript _ _ _] _ _) _ _ _); refine sx_subX hF ?_)
    | ((with_reducible show SX _ (.AugAssign (.Name _ _) .Add _ _) _ _ _); refine sx_augadd hD (by get_elem_tactic_extensible) (by get_elem_tactic_extensible) ?_)
    | ((with_reducible show SX _ (.Expr _ _) _ _ _); refine sx_expr ?_)
    | ((with_reducible show SX _ (.Break _) _ _ _); refine sx_break ?_)
    | ((with_reducible show SX _ (.Continue _) _ _ _); refine sx_continue ?_)
    | ((with_reducible show SX _ (.Pass _) _ _ _); refine sx_pass ?_))
  | ((with_reducible show EX _ _ _ _ _ _); first
    | ((with_reducible show EX _ (.Name _ _) _ _ _ _); refine ax_var (by first | exact hF | exact hF.blk _ | exact (hF.blk _).blk _) (by get_elem_tactic_extensible) (by get_elem_tactic_extensible) ?_)
    | ((with_reducible show EX _ (.Constant (.int _) _ _) _ _ _ _); refine ex_int ?_)
    | ((with_reducible show EX _ (.Constant (.str _) _ _) _ _ _ _); refine ex_str ?_)
    | ((with_reducible show EX _ (.Constant (.bool _) _ _) _ _ _ _); refine ex_bl ?_)
    | ((with_reducible show EX _ (.Constant .none _ _) _ _ _ _); refine ex_non ?_)
    | ((with_reducible show EX _ (.BinOp _ .Add _ _) _ _ _ _); refine ex_add ?_)
    | ((with_reducible show EX _ (.BinOp _ .Sub _ _) _ _ _ _); refine ex_sub ?_)
    | ((with_reducible show EX _ (.BinOp _ .Mult _ _) _ _ _ _); refine ex_mul ?_)
    | ((with_reducible show EX _ (.BinOp _ .Mod _ _) _ _ _ _); refine ex_modX ?_)
    | ((with_reducible show EX _ (.BinOp _ .FloorDiv _ _) _ _ _ _); refine ex_fdiv ?_)
    | ((with_reducible show EX _ (.BinOp _ .Pow _ _) _ _ _ _); refine ex_pow ?_)
    | ((with_reducible show EX _ (.UnaryOp .USub _ _) _ _ _ _); refine ex_neg ?_)
    | ((with_reducible show EX _ (.UnaryOp .Not _ _) _ _ _ _); refine ex_not ?_)
    | ((with_reducible show EX _ (.Tuple _ _ _) _ _ _ _); refine ex_tup ?_)
    | ((with_reducible show EX _ (.List (_ :: _) _) _ _ _ _); refine ex_lst ?_)
    | ((with_reducible show EX _ (.IfExp _ _ _ _) _ _ _ _); refine ex_if ?_)
    | ((with_reducible show EX _ (.Compare _ [.Eq] [_] _) _ _ _ _); refine ex_eq (by first | exact hF | exact hF.blk _ | exact (hF.blk _).blk _) ?_)
    | ((with_reducible show EX _ (.Compare _ [.NotEq] [_] _) _ _ _ _); refine ex_ne (by first | exact hF | exact hF.blk _ | exact (hF.blk _).blk _) ?_)
    | ((with_reducible show EX _ (.Compare _ [.Lt] [_] _) _ _ _ _); refine ex_lt ?_)
    | ((with_reducible show EX _ (.Compare _ [.LtE] [_] _) _ _ _ _); refine ex_le ?_)
    | ((with_reducible show EX _ (.Compare _ [.Gt] [_] _) _ _ _ _); refine ex_gt ?_)
    | ((with_reducible show EX _ (.Compare _ [.GtE] [_] _) _ _ _ _); refine ex_ge ?_)
    | ((with_reducible show EX _ (.Compare _ [.Is] [.Constant .none _ _] _) _ _ _ _); refine ex_isN ?_)
    | ((with_reducible show EX _ (.Compare _ [.IsNot] [.Constant .none _ _] _) _ _ _ _); refine ex_notN ?_)
    | ((with_reducible show EX _ (.BoolOp _ [_] _) _ _ _ _); refine ex_one ?_)
    | ((with_reducible show EX _ (.BoolOp .And _ _) _ _ _ _); refine ex_and ?_)
    | ((with_reducible show EX _ (.BoolOp .Or _ _) _ _ _ _); refine ex_or ?_)
    | ((with_reducible show EX _ (.Subscript _ (.Slice _ _ _ _) _) _ _ _ _); fail)
    | ((with_reducible show EX _ (.Subscript _ _ _) _ _ _ _); refine ex_ixX (by first | exact hF | exact hF.blk _ | exact (hF.blk _).blk _) ?_)
    | ((with_reducible show EX _ (.Call (.Name "len" _) [_] [] _) _ _ _ _); refine ex_len (by first | exact hF | exact hF.blk _ | exact (hF.blk _).blk _) gB.len ?_)
    | ((with_reducible show EX _ (.Call (.Name "int" _) [_] [] _) _ _ _ _); refine ex_int1 (by first | exact hF | exact hF.blk _ | exact (hF.blk _).blk _) gB.int ?_)
    | ((with_reducible show EX _ (.Call (.Name "abs" _) [_] [] _) _ _ _ _); refine ex_abs (by first | exact hF | exact hF.blk _ | exact (hF.blk _).blk _) gB.abs ?_)
    | ((with_reducible show EX _ (.Call (.Name "list" _) [_] [] _) _ _ _ _); refine ex_list1 (by first | exact hF | exact hF.blk _ | exact (hF.blk _).blk _) gB.list ?_)
    | ((with_reducible show EX _ (.Call (.Name "tuple" _) [_] [] _) _ _ _ _); refine ex_tuple1 (by first | exact hF | exact hF.blk _ | exact (hF.blk _).blk _) gB.tuple ?_)
    | ((with_reducible show EX _ (.Call (.Name "sum" _) [_] [] _) _ _ _ _); refine ex_sum (by first | exact hF | exact hF.blk _ | exact (hF.blk _).blk _) gB.sum ?_)
    | ((with_reducible show EX _ (.Call (.Name "max" _) [_] [] _) _ _ _ _); refine ex_max (by first | exact hF | exact hF.blk _ | exact (hF.blk _).blk _) gB.max ?_)
    | ((with_reducible show EX _ (.Call (.Name "all" _) [_] [] _) _ _ _ _); refine ex_all (by first | exact hF | exact hF.blk _ | exact (hF.blk _).blk _) gB.all ?_)
    | ((with_reducible show EX _ (.Call (.Name "bool" _) [_] [] _) _ _ _ _); refine ex_bool1 (by first | exact hF | exact hF.blk _ | exact (hF.blk _).blk _) gB.bool ?_)
    | ((with_reducible show EX _ (.Call (.Name "max" _) [_, _] [] _) _ _ _ _); refine ex_max2 (by first | exact hF | exact hF.blk _ | exact (hF.blk _).blk _) gB.max ?_)
    | ((with_reducible show EX _ (.Call (.Name "gcd" _) [_, _] [] _) _ _ _ _); refine ex_gcd (by first | exact hF | exact hF.blk _ | exact (hF.blk _).blk _) gGcd ?_)
    | ((with_reducible show EX _ (.Call (.Name "isqrt" _) [_] [] _) _ _ _ _); refine ex_isqrt (by first | exact hF | exact hF.blk _ | exact (hF.blk _).blk _) gIsqrt ?_)
    | ((with_reducible show EX _ (.Call (.Name "sorted" _) [_] [_] _) _ _ _ _); refine ex_sortR (by first | exact hF | exact hF.blk _ | exact (hF.blk _).blk _) gB.sorted ?_)
    | ((with_reducible show EX _ (.Call (.Name "isinstance" _) [_, .Name "list" _] [] _) _ _ _ _); refine ex_isi (by first | exact hF | exact hF.blk _ | exact (hF.blk _).blk _) .lst gB.isinstance gB.list ?_)
    | ((with_reducible show EX _ (.Call (.Name "isinstance" _) [_, .Name "tuple" _] [] _) _ _ _ _); refine ex_isi (by first | exact hF | exact hF.blk _ | exact (hF.blk _).blk _) .tup gB.isinstance gB.tuple ?_)
    | ((with_reducible show EX _ (.Call (.Name "isinstance" _) [_, .Name "int" _] [] _) _ _ _ _); refine ex_isi (by first | exact hF | exact hF.blk _ | exact (hF.blk _).blk _) .int gB.isinstance gB.int ?_)
    | ((with_reducible show EX _ (.Call (.Name "isinstance" _) [_, .Name "bool" _] [] _) _ _ _ _); refine ex_isi (by first | exact hF | exact hF.blk _ | exact (hF.blk _).blk _) .bl gB.isinstance gB.bool ?_)
    | ((with_reducible show EX _ (.Call (.Name "isinstance" _) [_, .Name "str" _] [] _) _ _ _ _); refine ex_isi (by first | exact hF | exact hF.blk _ | exact (hF.blk _).blk _) .str gB.isinstance gB.str ?_)
    | ((with_reducible show EX _ (.Call (.Name "isinstance" _) [_, .Name "dict" _] [] _) _ _ _ _); refine ex_isi (by first | exact hF | exact hF.blk _ | exact (hF.blk _).blk _) .dic gB.isinstance gB.dict ?_)
    | ((with_reducible show EX _ (.Call (.Name "isinstance" _) [_, .Tuple [.Name "list" _, .Name "tuple" _] _ _] [] _) _ _ _ _); refine ex_isi2 (by first | exact hF | exact hF.blk _ | exact (hF.blk _).blk _) .lst .tup gB.isinstance gB.list gB.tuple ?_)
    | ((with_reducible show EX _ (.Call (.Name "isinstance" _) [_, .Tuple [.Name "list" _, .Name "tuple" _, .Name "dict" _] _ _] [] _) _ _ _ _); refine ex_isi3 (by first | exact hF | exact hF.blk _ | exact (hF.blk _).blk _) .lst .tup .dic gB.isinstance gB.list gB.tuple gB.dict ?_)
    | ((with_reducible show EX _ (.Call (.Attribute _ "append" _) [_] [] _) _ _ _ _); refine ex_append (by first | exact hF | exact hF.blk _ | exact (hF.blk _).blk _) ?_)
    | ((with_reducible show EX _ (.Call (.Name _ _) (_ :: _) [] _) _ _ _ _); refine ex_callF (by first | exact hF | exact hF.blk _ | exact (hF.blk _).blk _) (by with_reducible assumption) (by omega) ?_))
  | ((with_reducible show AX _ _ _ _ _ _); first | ((with_reducible show AX _ (_ :: _) _ _ _ _); refine ax_cons ?_) | ((with_reducible show AX _ [] _ _ _ _); refine ax_nil ?_))
  | ((with_reducible show TX _ _ _ _ _ _); first
    | ((with_reducible show TX _ (.Compare _ [.Eq] [_] _) _ _ _ _); refine tx_eq (by first | exact hF | exact hF.blk _ | exact (hF.blk _).blk _) ?_)
    | ((with_reducible show TX _ (.Compare _ [.NotEq] [_] _) _ _ _ _); refine tx_ne (by first | exact hF | exact hF.blk _ | exact (hF.blk _).blk _) ?_)
    | ((with_reducible show TX _ (.Compare _ [.Lt] [_] _) _ _ _ _); refine tx_lt ?_)
    | ((with_reducible show TX _ (.Compare _ [.LtE] [_] _) _ _ _ _); refine tx_le ?_)
    | ((with_reducible show TX _ (.Compare _ [.Gt] [_] _) _ _ _ _); refine tx_gt ?_)
    | ((with_reducible show TX _ (.Compare _ [.GtE] [_] _) _ _ _ _); refine tx_ge ?_)
    | ((with_reducible show TX _ (.Compare _ [.Is] [.Constant .none _ _] _) _ _ _ _); refine tx_isN ?_)
    | ((with_reducible show TX _ (.Compare _ [.IsNot] [.Constant .none _ _] _) _ _ _ _); refine tx_notN ?_)
    | ((with_reducible show TX _ (.UnaryOp .Not _ _) _ _ _ _); refine tx_not ?_)
    | ((with_reducible show TX _ (.BoolOp .And _ _) _ _ _ _); refine WWX.tx (wx_and ?_))
    | ((with_reducible show TX _ (.BoolOp .Or _ _) _ _ _ _); refine WWX.tx (wx_or ?_))
    | ((with_reducible show TX _ (.Compare _ _ _ _) _ _ _ _); fail)
    | ((with_reducible show TX _ (.Call (.Name "isinstance" _) _ _ _) _ _ _ _); refine tx_bl ?_)
    | ((with_reducible show TX _ (_) _ _ _ _); refine tx_tru (by first | exact hF | exact hF.blk _ | exact (hF.blk _).blk _) (fun _ _ => rfl) ?_))
  | ((with_reducible show WWX _ _ _ _ _ _); first | ((with_reducible show WWX _ (.BoolOp .And [_] _) _ _ _ _); refine wx_and1 ?_) | ((with_reducible show WWX _ (.BoolOp .Or [_] _) _ _ _ _); refine wx_or1 ?_) | ((with_reducible show WWX _ (.BoolOp .And _ _) _ _ _ _); refine wx_and ?_) | ((with_reducible show WWX _ (.BoolOp .Or _ _) _ _ _ _); refine wx_or ?_))
  | with_reducible refine addP_ii ?_
  | with_reducible refine subP_ii ?_
  | with_reducible refine mulP_ii (by first | assumption | exact cm_l (by omega) (by omega) | exact cm_r (by omega) (by omega)) ?_
  | with_reducible refine modX_p (by first | assumption | decide | omega) ?_
  | with_reducible refine fdivP_ii (by first | assumption | exact cd_i (by omega) (by omega)) ?_
  | with_reducible refine powP_ii (by unfold CPow; decide) ?_
  | with_reducible refine negP_i ?_
  | with_reducible refine eqP_ii ?_
  | with_reducible refine eqP_ss ?_
  | with_reducible refine eqP_bb ?_
  | with_reducible refine neP_ii ?_
  | with_reducible refine neP_ss ?_
  | with_reducible refine neP_bb ?_
  | with_reducible refine ltP_ii ?_
  | with_reducible refine intP_i ?_
  | with_reducible refine intP_b ?_
  | with_reducible refine absP_i ?_
  | with_reducible refine boolP_b ?_
  | with_reducible refine lenP_t ?_
  | with_reducible refine lenP_l ?_
  | with_reducible refine lenP_rl ?_
  | with_reducible refine augP_ii ?_
  | with_reducible refine listP_l ?_
  | with_reducible refine listP_t ?_
  | with_reducible refine tupP_l ?_
  | with_reducible refine tupP_t ?_
  | with_reducible refine tru_i ?_
  | with_reducible refine tru_b ?_
  | ((with_reducible show lenP _ _ [.ref _]); refine lenP_r (by first | exact um_same | assumption) ?_)
  | ((with_reducible show ixX _ _ (.tup _) (.int _)); refine ixX_t (by rfl) ?_)
  | ((with_reducible show ixX _ _ (.lst _) (.int _)); refine ixX_l (by rfl) ?_)
  | ((with_reducible show ixX _ _ (.ref _) (.int _)); refine ixX_r (by first | exact um_same | assumption) (by rfl) ?_)
  | ((with_reducible show setX _ _ (.ref _) (.int _) _); refine setX_r (by first | exact um_same | assumption) (by rfl) ?_)
  | ((with_reducible show appP _ _ (.ref _) _); refine appP_r (by first | exact um_same | assumption) ?_ ?_)
  | ((with_reducible show isL _ (.ref _) ∧ _); refine isL_r (by first | exact um_same | assumption) ?_)
  | ((with_reducible apply ds1); get_elem_tactic_extensible)
  | ((with_reducible apply ds2); get_elem_tactic_extensible)
  | ((with_reducible apply ds3); get_elem_tactic_extensible)
  | ((with_reducible apply tgd_nm); get_elem_tactic_extensible)
  | ((with_reducible apply tgd_tp); get_elem_tactic_extensible)
  | ((with_reducible apply ty_is); first | exact rfl | assumption)
  | ((with_reducible show (isNoneD _ = true → _) ∧ _); first | refine bx_T (by rfl) ?_ | refine bx_F (by rfl) ?_)
  | ((with_reducible show ((!isNoneD _) = true → _) ∧ _); first | refine bx_T (by rfl) ?_ | refine bx_F (by rfl) ?_)
  | with_reducible refine br_T (by decide) ?_
  | with_reducible refine br_F (by decide) ?_
  | with_reducible refine bn_T (by decide) ?_
  | with_reducible refine bn_F (by decide) ?_
  | with_reducible refine bw_T ?_
  | with_reducible refine bw_F ?_
  | with_reducible refine bx_T (by decide) ?_
  | with_reducible refine bx_F (by decide) ?_
  | ((with_reducible show _ ≤ sizeLine ∧ _); refine ax_tup (by exact Nat.le_of_ble_eq_true (by rfl)) ?_)
  | fail)
set_option Elab.async false
set_option linter.all false
set_option maxRecDepth 100000
set_option maxHeartbeats 4000000
/-! K12T: the law's standing row. -/
namespace K7
open PySem PySem.Spec PyProof.Rows L2 G
abbrev Sst : Type := (Int × Int) × List Q4
def stdS (st : Sst) (t : Q4) : Sst :=
  (fun st1 : Sst => if t.a * t.a * st1.1.2 = st1.1.1 * nrmQ t then (st1.1, st1.2 ++ [t, bakQ t]) else st1) (if st.1.1 * nrmQ t < t.a * t.a * st.1.2 then ((t.a * t.a, nrmQ t), []) else st)
def rowS (M f : Q4) : List Q4 := cubeL.map fun l => mulQ (mulQ f M) l
def stdF (M : Q4) (fs : List Q4) : Sst := (fs.flatMap (rowS M)).foldl stdS ((-1, 1), [])
def tdy (t : Q4) : Q4 := (fun l : Q4 => if ltI [l.a, l.b, l.c, l.d] [0, 0, 0, 0] = true then negQ l else l) (parQ t (conQ t))
def tdyB (l : Q4) : Bool := decide (0 ≤ PySem.W.minOf l.a [l.b, l.c, l.d]) && (decide (l.c ≤ l.b) && decide (l.d ≤ l.c))
def toldF (fs : List Q4) : List Q4 := (fs.map tdy).filter tdyB
def toldL (M : Q4) : List Q4 := toldF (stdF M cubeL).2
/-- what the loops keep -/
structure SOk (st : Sst) (m : Nat) : Prop where
  a0 : -1 ≤ st.1.1
  a1 : st.1.1 ≤ 200000000000
  b0 : 1 ≤ st.1.2
  b1 : st.1.2 ≤ 200000000000
  len : st.2.length ≤ 2 * m
  mem : ∀ t ∈ st.2, 0 < nrmQ t ∧ nrmQ t ≤ 200000000000
theorem sok_step {st : Sst} {m : Nat} {t : Q4} (h : SOk st m) (h0 : 0 < nrmQ t) (h1 : nrmQ t ≤ 200000000000) : SOk (stdS st t) (m + 1) := by
  have ht : t.a * t.a ≤ nrmQ t := by
    unfold nrmQ
    have s2 := sq_nonneg t.b; have s3 := sq_nonneg t.c; have s4 := sq_nonneg t.d
    omega
  have ht0 := sq_nonneg t.a
  have h2 : SOk (if st.1.1 * nrmQ t < t.a * t.a * st.1.2 then ((t.a * t.a, nrmQ t), []) else st) m := by
    split
    · exact ⟨by show -1 ≤ t.a * t.a; omega, by show t.a * t.a ≤ _; omega, by show 1 ≤ nrmQ t; omega, h1, Nat.zero_le _, fun _ z => (nomatch z)⟩
    · exact h
  unfold stdS
  generalize (if st.1.1 * nrmQ t < t.a * t.a * st.1.2 then ((t.a * t.a, nrmQ t), ([] : List Q4)) else st) = s1 at *
  dsimp only
  split
  · refine ⟨h2.a0, h2.a1, h2.b0, h2.b1, ?_, fun y hy => ?_⟩
    · show (s1.2 ++ [t, bakQ t]).length ≤ _
      rw [List.length_append]
      have := h2.len
      simp only [List.length_cons, List.length_nil]
      omega
    · rcases List.mem_append.mp hy with hy | hy
      · exact h2.mem y hy
      · simp only [List.mem_cons, List.not_mem_nil, or_false] at hy
        rcases hy with rfl | rfl
        · exact ⟨h0, h1⟩
        · rw [nrm_bak]; exact ⟨h0, h1⟩
  · exact ⟨h2.a0, h2.a1, h2.b0, h2.b1, by have := h2.len; omega, h2.mem⟩
theorem sok_fold : ∀ {ts : List Q4} {st : Sst} {m : Nat}, SOk st m → (∀ t ∈ ts, 0 < nrmQ t ∧ nrmQ t ≤ 200000000000) → SOk (ts.foldl stdS st) (m + ts.length)
  | [], st, m, h, _ => h
  | t :: ts, st, m, h, ht => by
    rw [List.foldl_cons, List.length_cons, show m + (ts.length + 1) = m + 1 + ts.length by omega]
    exact sok_fold (sok_step h (ht t (List.mem_cons_self ..)).1 (ht t (List.mem_cons_self ..)).2) fun y hy => ht y (List.mem_cons_of_mem _ hy)
theorem f_cub : (cubeL.all fun q => decide (1 ≤ nrmQ q ∧ nrmQ q ≤ 4)) = true ∧ cubeL.length = 24 := by decide +kernel
theorem row_ok {M f l : Q4} (hM0 : 0 < nrmQ M) (hM1 : nrmQ M ≤ 10000000000) (hf : f ∈ cubeL) (hl : l ∈ cubeL) : 0 < nrmQ (mulQ (mulQ f M) l) ∧ nrmQ (mulQ (mulQ f M) l) ≤ 200000000000 ∧ nrmQ (mulQ f M) ≤ 40000000000 := by
  have h1 := of_decide_eq_true (List.all_eq_true.mp f_cub.1 f hf)
  have h2 := of_decide_eq_true (List.all_eq_true.mp f_cub.1 l hl)
  rw [nrm_mul, nrm_mul]
  generalize nrmQ f = a at *
  generalize nrmQ l = b at *
  generalize nrmQ M = c at *
  have p1 : 0 < a * c := Int.mul_pos (by omega) hM0
  have p2 : a * c ≤ 4 * 10000000000 := Int.mul_le_mul h1.2 hM1 (by omega) (by omega)
  have p3 : 0 < a * c * b := Int.mul_pos p1 (by omega)
  have p4 : a * c * b ≤ 4 * 10000000000 * 4 := Int.mul_le_mul p2 h2.2 (by omega) (by omega)
  omega
section
variable {T : Fm Unit} (hh : T.hot = false) {k : Nat} {P : Program} {w : World} {K : PySem.W.Frag} {mg : Str → Option Value} {base : Heap} {args : List D} {M : Ms} {Φ : PD} {Ψ : PX}
def ds__law_standing : DS := fun args M Φ _ => ∃ (x y : Q4), args = [qD x, qD y] ∧ nrmQ x ≤ 100000000 ∧ 0 < nrmQ x * nrmQ y ∧ nrmQ x * nrmQ y ≤ 10000000000 ∧ ∃ z zs, toldL (mulQ (bakQ x) y) = z :: zs ∧ Φ (qD (PySem.W.maxOf z zs)) M
include hh in
theorem b__law_standing (gB : Bi mg) (c1 : Cal false P w K mg base "_law_size" k ["quad"] ds__law_size) (c2 : Cal false P w K mg base "_law_times" k ["one", "two"] ds__law_times) (c3 : Cal false P w K mg base "_law_back" k ["quad"] ds__law_back) (c4 : CalK0 P w K mg base "_law_cubes" k ds__law_cubes) (c5 : Cal false P w K mg base "_law_common" k ["amounts"] ds__law_common)
    (hD : Fd T k P w K mg base n__law_standing (defScope s__law_standing)) (h : ds__law_standing args M Φ Ψ) : Bod T s__law_standing n__law_standing args M Φ Ψ := by
  obtain ⟨x, y, rfl, hx, h0, h1, z, zs, hz, hq⟩ := h
  have hF := hD.fc
  have eM : nrmQ (mulQ (bakQ x) y) = nrmQ x * nrmQ y := by rw [nrm_mul, nrm_bak]
  refine bod_start (by get_elem_tactic_extensible) ?_; refine ssx_cons ?_
  repeat' decreasing_trivial_pre_omega
  refine ⟨x, rfl, ?_⟩
  repeat' decreasing_trivial_pre_omega
  refine ⟨bakQ x, y, rfl, sm_nrm (by rw [nrm_bak]; omega), ?_⟩
  generalize mulQ (bakQ x) y = N at *
  repeat' decreasing_trivial_pre_omega
  refine ex_callK0 hF c4 (Nat.le_refl _) ?_
  refine kax_nil ⟨rfl, rfl, ?_⟩
  repeat' decreasing_trivial_pre_omega
  refine ex_lst ?_
  repeat' decreasing_trivial_pre_omega
  have hN0 : 0 < nrmQ N := by omega
  have hN1 : nrmQ N ≤ 10000000000 := by omega
  have s0 : SOk ((-1, 1), []) 0 := ⟨by decide, by decide, by decide, by decide, Nat.le_refl _, fun _ z => (nomatch z)⟩
  have hrow : ∀ fs : List Q4, (∀ f ∈ fs, f ∈ cubeL) → (∀ t ∈ fs.flatMap (rowS N), 0 < nrmQ t ∧ nrmQ t ≤ 200000000000) ∧ (fs.flatMap (rowS N)).length = 24 * fs.length := fun fs hfs => by
    constructor
    · intro t ht
      obtain ⟨f, hf, ht⟩ := List.mem_flatMap.mp ht
      obtain ⟨l, hl, rfl⟩ := List.mem_map.mp ht
      have := row_ok hN0 hN1 (hfs f hf) hl
      exact ⟨this.1, this.2.1⟩
    · clear hfs
      induction fs with
      | nil => rfl
      | cons f fs ih =>
        rw [List.flatMap_cons, List.length_append, ih, List.length_cons]
        show (cubeL.map fun l => mulQ (mulQ f N) l).length + _ = _
        rw [List.length_map, f_cub.2]
        omega
  have hst : ∀ fs : List Q4, (∀ f ∈ fs, f ∈ cubeL) → SOk (stdF N fs) (24 * fs.length) := fun fs hfs => by
    have h1 := hrow fs hfs
    have := sok_fold s0 h1.1
    rw [Nat.zero_add, h1.2] at this
    exact this
  have big : ∀ {t : Nat}, t ≤ 200000 → t ≤ sizeLine := fun h => size_le (by omega)
  refine sx_forA hD cubeL qD (fun ys Γ M' => M' = M ∧ ∃ (o6 o7 o8 o9 o10 o11 : Option D), Γ = [some (qD x), some (qD y), some (qD N), some (.lst (cubeL.map qD)), some (.tup [.int (stdF N ys).1.1, .int (stdF N ys).1.2]), some (.lst ((stdF N ys).2.map qD)), o6, o7, o8, o9, o10, o11, none, none, none]) (fun _ => True) (tg_nmA hD (by get_elem_tactic_extensible)) (ix_seqD hF ?_) (fun _ _ _ _ => trivial) ?_ ?_
  · repeat' decreasing_trivial_pre_omega
    exact ⟨_, rfl, rfl, fun _ _ => trivial, rfl, none, none, none, none, none, none, rfl⟩
  · rintro ys f vs Γ M' he ⟨rfl, o6, o7, o8, o9, o10, o11, rfl⟩
    have hys : ∀ g ∈ ys, g ∈ cubeL := fun g hg => by rw [he]; exact List.mem_append_left _ hg
    have hf : f ∈ cubeL := by rw [he]; simp
    have hfn := of_decide_eq_true (List.all_eq_true.mp f_cub.1 f hf)
    have hyl : ys.length ≤ 24 := by
      have := congrArg List.length he
      rw [f_cub.2, List.length_append] at this
      omega
    have hS := hst ys hys
    repeat' decreasing_trivial_pre_omega
    refine ⟨f, N, rfl, sm_x (by omega), ?_⟩
    repeat' ((fail_if_success (with_reducible show SSX _ _ _ _ _)); decreasing_trivial_pre_omega)
    refine ssx_cons ?_
    refine sx_forA hD cubeL qD (fun us Γ M2 => M2 = M' ∧ ∃ (o8 o9 o10 o11 : Option D), Γ = [some (qD x), some (qD y), some (qD N), some (.lst (cubeL.map qD)), some (.tup [.int ((us.map fun l => mulQ (mulQ f N) l).foldl stdS (stdF N ys)).1.1, .int ((us.map fun l => mulQ (mulQ f N) l).foldl stdS (stdF N ys)).1.2]), some (.lst (((us.map fun l => mulQ (mulQ f N) l).foldl stdS (stdF N ys)).2.map qD)), some (qD f), some (qD (mulQ f N)), o8, o9, o10, o11, none, none, none]) (fun _ => True) (tg_nmA hD (by get_elem_tactic_extensible)) (ix_seqD hF ?_) (fun _ _ _ _ => trivial) ?_ ?_
    · repeat' decreasing_trivial_pre_omega
      exact ⟨_, rfl, rfl, fun _ _ => trivial, rfl, _, _, _, _, rfl⟩
    · rintro us l ws Γ M2 he2 ⟨rfl, p8, p9, p10, p11, rfl⟩
      have hus : ∀ g ∈ us, g ∈ cubeL := fun g hg => by rw [he2]; exact List.mem_append_left _ hg
      have hl : l ∈ cubeL := by rw [he2]; simp
      have hul : us.length ≤ 24 := by
        have := congrArg List.length he2
        rw [f_cub.2, List.length_append] at this
        omega
      have hr := row_ok hN0 hN1 hf hl
      have hS2 := sok_fold (ts := us.map fun l => mulQ (mulQ f N) l) hS fun t ht => by
        obtain ⟨g, hg, rfl⟩ := List.mem_map.mp ht
        have := row_ok hN0 hN1 hf (hus g hg)
        exact ⟨this.1, this.2.1⟩
      rw [List.length_map] at hS2
      have e1 : ((us ++ [l]).map fun l => mulQ (mulQ f N) l).foldl stdS (stdF N ys) = stdS ((us.map fun l => mulQ (mulQ f N) l).foldl stdS (stdF N ys)) (mulQ (mulQ f N) l) := by rw [List.map_append, List.foldl_append]; rfl
      rw [e1]
      generalize (us.map fun l => mulQ (mulQ f N) l).foldl stdS (stdF N ys) = st at *
      repeat' decreasing_trivial_pre_omega
      refine ⟨mulQ f N, l, rfl, sm_nrm (by omega), ?_⟩
      generalize mulQ (mulQ f N) l = t at *
      have ht2 : t.a * t.a ≤ nrmQ t := by
        unfold nrmQ
        have s2 := sq_nonneg t.b; have s3 := sq_nonneg t.c; have s4 := sq_nonneg t.d
        omega
      have ht0 := sq_nonneg t.a
      have ht3 := le_sq t.a
      have b0 := hS2.a0; have b1 := hS2.a1; have b2 := hS2.b0; have b3 := hS2.b1; have b4 := hS2.len
      repeat' decreasing_trivial_pre_omega
      refine ⟨t, rfl, sm_nrm (by omega), ?_⟩
      repeat' decreasing_trivial_pre_omega
      refine br_d (fun hc => ?_) (fun hc => ?_)
      · have e3 : stdS st t = ((t.a * t.a, nrmQ t), [t, bakQ t]) := by
          unfold stdS
          rw [if_pos hc]
          dsimp only
          rw [if_pos rfl]; rfl
        repeat' decreasing_trivial_pre_omega
        refine ex_lst ?_
        repeat' decreasing_trivial_pre_omega
        refine br_d (fun _ => ?_) (fun hc2 => absurd rfl hc2)
        repeat' decreasing_trivial_pre_omega
        refine ⟨t, rfl, ?_⟩
        repeat' decreasing_trivial_pre_omega
        refine addP_ll (by simp only [List.length_cons, List.length_nil]; exact big (by omega)) ?_
        repeat' decreasing_trivial_pre_omega
        exact ⟨rfl, _, _, _, _, by rw [e3]; rfl⟩
      · repeat' decreasing_trivial_pre_omega
        refine br_d (fun hc2 => ?_) (fun hc2 => ?_)
        · have e3 : stdS st t = (st.1, st.2 ++ [t, bakQ t]) := by
            unfold stdS
            rw [if_neg hc]
            dsimp only
            rw [if_pos hc2]
          repeat' decreasing_trivial_pre_omega
          refine ⟨t, rfl, ?_⟩
          repeat' decreasing_trivial_pre_omega
          refine addP_ll (by simp only [List.length_cons, List.length_nil, List.length_map]; exact big (by omega)) ?_
          repeat' decreasing_trivial_pre_omega
          exact ⟨rfl, _, _, _, _, by rw [e3, List.map_append]; rfl⟩
        · have e3 : stdS st t = st := by
            unfold stdS
            rw [if_neg hc]
            dsimp only
            rw [if_neg hc2]
          repeat' decreasing_trivial_pre_omega
          exact ⟨rfl, _, _, _, _, by rw [e3]⟩
    · rintro Γ M2 ⟨rfl, p8, p9, p10, p11, rfl⟩
      have e2 : stdF N (ys ++ [f]) = (cubeL.map fun l => mulQ (mulQ f N) l).foldl stdS (stdF N ys) := by
        unfold stdF
        rw [List.flatMap_append, List.foldl_append, List.flatMap_cons, List.flatMap_nil, List.append_nil]; rfl
      rw [← e2]
      exact ssx_nil ⟨rfl, _, _, _, _, _, _, rfl⟩
  · rintro Γ M' ⟨rfl, o6, o7, o8, o9, o10, o11, rfl⟩
    have hS := hst cubeL fun _ h => h
    rw [f_cub.2] at hS
    unfold toldL at hz
    generalize stdF N cubeL = st at *
    refine ssx_cons ?_
    decreasing_trivial_pre_omega
    refine ex_lstM ?_
    repeat' decreasing_trivial_pre_omega
    refine fun p hp => ?_
    repeat' ((fail_if_success (with_reducible show SSX _ _ _ _ _)); decreasing_trivial_pre_omega)
    refine ssx_cons ?_
    refine sx_forA hD st.2 qD (fun ys Γ M2 => M2 = um M' p (.lst ((toldF ys).map qD)) ∧ ∃ (o6 o7 o8 o9 o10 o11 o13 o14 : Option D), Γ = [some (qD x), some (qD y), some (qD N), some (.lst (cubeL.map qD)), some (.tup [.int st.1.1, .int st.1.2]), some (.lst (st.2.map qD)), o6, o7, o8, o9, o10, o11, some (.ref p), o13, o14]) (fun _ => True) (tg_nmA hD (by get_elem_tactic_extensible)) (ix_seqD hF ?_) (fun _ _ _ _ => trivial) ?_ ?_
    · repeat' decreasing_trivial_pre_omega
      exact ⟨_, rfl, rfl, fun _ _ => trivial, rfl, _, _, _, _, _, _, none, none, rfl⟩
    · rintro ys t ws Γ M2 he ⟨rfl, p6, p7, p8, p9, p10, p11, p13, p14, rfl⟩
      have htm := hS.mem t (by rw [he]; simp)
      have ht0 : t ≠ ⟨0, 0, 0, 0⟩ := fun z => by rw [z] at htm; exact absurd htm.1 (by decide)
      have hcl := con_lt ht0 (by omega)
      have hyl : ys.length ≤ 1200 := by
        have h1 := congrArg List.length he
        have h2 := hS.len
        rw [List.length_append] at h1
        omega
      have htl : (toldF ys).length ≤ 1200 := Nat.le_trans (List.length_filter_le _ _) (by rw [List.length_map]; exact hyl)
      have e1 : toldF (ys ++ [t]) = toldF ys ++ (if tdyB (tdy t) = true then [tdy t] else []) := by
        unfold toldF
        rw [List.map_append, List.filter_append]
        congr 1
        show List.filter tdyB [tdy t] = _
        by_cases h : tdyB (tdy t) = true
        · rw [if_pos h, List.filter_cons_of_pos h, List.filter_nil]
        · rw [if_neg h, List.filter_cons_of_neg h, List.filter_nil]
      repeat' decreasing_trivial_pre_omega
      refine ⟨t, rfl, ?_⟩
      repeat' decreasing_trivial_pre_omega
      (with_reducible show EX _ (.ListComp _ _ _ _) _ _ _ _); refine ex_lc (by first | exact hF | exact hF.blk _ | exact (hF.blk _).blk _) [("one", 0)] (by first | exact tb_nmA hF (by get_elem_tactic_extensible) | exact tb_nmA (hF.blk _) (by get_elem_tactic_extensible) | exact tb_tpA hF (by repeat' (first | exact tnb_nil | apply tnb_consA hF (by get_elem_tactic_extensible))) (by rfl) | exact tb_tpA (hF.blk _) (by repeat' (first | exact tnb_nil | apply tnb_consA (hF.blk _) (by get_elem_tactic_extensible))) (by rfl)) .none (ix_seqD (by first | exact hF | exact hF.blk _ | exact (hF.blk _).blk _) ?_) (by decide +kernel) (by decide)
      repeat' decreasing_trivial_pre_omega
      refine ⟨_, rfl, lc_mapA (xs := [t.a, t.b, t.c, t.d]) D.int (fun v => .int (v / conQ t)) (by simp) (by get_elem_tactic_extensible) (fun v hv M3 _ => ?_) ?_⟩
      · repeat' decreasing_trivial_pre_omega
        exact ⟨rfl, rfl⟩
      repeat' ((fail_if_success (with_reducible show SSX _ _ _ _ _)); decreasing_trivial_pre_omega)
      refine ssx_cut (fun Γ' M3 => Γ' = [some (qD x), some (qD y), some (qD N), some (.lst (cubeL.map qD)), some (.tup [.int st.1.1, .int st.1.2]), some (.lst (st.2.map qD)), p6, p7, p8, some (qD t), p10, p11, some (.ref p), some (.int (conQ t)), some (qD (tdy t))] ∧ M3 = um M' p (.lst ((toldF ys).map qD))) ?_ ?_
      · decreasing_trivial_pre_omega
        refine tx_ltT hF ?_
        repeat' decreasing_trivial_pre_omega
        refine ⟨[(parQ t (conQ t)).a, (parQ t (conQ t)).b, (parQ t (conQ t)).c, (parQ t (conQ t)).d], [0, 0, 0, 0], rfl, rfl, _, rfl, fun hc => ?_, fun hc => ?_⟩
        · have e2 : qD (tdy t) = .tup [.int (0 - t.a / conQ t), .int (0 - t.b / conQ t), .int (0 - t.c / conQ t), .int (0 - t.d / conQ t)] := by
            unfold tdy
            dsimp only
            rw [if_pos hc, Int.zero_sub, Int.zero_sub, Int.zero_sub, Int.zero_sub]; rfl
          repeat' decreasing_trivial_pre_omega
          (with_reducible show EX _ (.ListComp _ _ _ _) _ _ _ _); refine ex_lc (by first | exact hF | exact hF.blk _ | exact (hF.blk _).blk _) [("one", 0)] (by first | exact tb_nmA hF (by get_elem_tactic_extensible) | exact tb_nmA (hF.blk _) (by get_elem_tactic_extensible) | exact tb_tpA hF (by repeat' (first | exact tnb_nil | apply tnb_consA hF (by get_elem_tactic_extensible))) (by rfl) | exact tb_tpA (hF.blk _) (by repeat' (first | exact tnb_nil | apply tnb_consA (hF.blk _) (by get_elem_tactic_extensible))) (by rfl)) .none (ix_seqD (by first | exact hF | exact hF.blk _ | exact (hF.blk _).blk _) ?_) (by decide +kernel) (by decide)
          repeat' decreasing_trivial_pre_omega
          refine ⟨_, rfl, lc_mapA (xs := [t.a, t.b, t.c, t.d]) (fun v => .int (v / conQ t)) (fun v => .int (0 - v / conQ t)) (by simp) (by get_elem_tactic_extensible) (fun v hv M3 _ => ?_) ?_⟩
          · repeat' decreasing_trivial_pre_omega
            exact ⟨rfl, rfl⟩
          repeat' decreasing_trivial_pre_omega
          rw [e2]
          exact ⟨rfl, rfl⟩
        · have e2 : tdy t = parQ t (conQ t) := by
            unfold tdy
            dsimp only
            rw [hc]; rfl
          repeat' decreasing_trivial_pre_omega
          rw [e2]
          exact ⟨rfl, rfl⟩
      rintro Γ' M3 ⟨rfl, rfl⟩
      generalize tdy t = l at *
      repeat' decreasing_trivial_pre_omega
      refine ex_minT hF gB.min ?_
      repeat' decreasing_trivial_pre_omega
      refine minTP_i (x := l.a) (xs := [l.b, l.c, l.d]) ?_
      repeat' decreasing_trivial_pre_omega
      refine br_d (fun h1 => ?_) (fun h1 => ?_)
      · refine wx_and1 (tx_chGe ?_)
        repeat' decreasing_trivial_pre_omega
        refine ⟨_, _, rfl, rfl, fun h2 => ?_, fun h2 => ?_⟩
        · have h3 : ¬ tdyB l = true := by
            unfold tdyB
            rw [show decide (l.c ≤ l.b) = false from h2, Bool.false_and, Bool.and_false]; exact Bool.false_ne_true
          rw [if_neg h3, List.append_nil] at e1
          repeat' decreasing_trivial_pre_omega
          exact ⟨by rw [e1], _, _, _, _, _, _, _, _, rfl⟩
        · repeat' decreasing_trivial_pre_omega
          refine ⟨_, rfl, fun h4 => ?_, fun h4 => ?_⟩
          · have h3 : tdyB l = true := by
              unfold tdyB
              rw [decide_eq_true h1, show decide (l.c ≤ l.b) = true from h2, show decide (l.d ≤ l.c) = true from h4]; rfl
            rw [if_pos h3] at e1
            repeat' decreasing_trivial_pre_omega
            · rw [List.length_map]; exact Nat.lt_of_lt_of_le (show _ < 16777216 by omega) (size_le (Nat.le_refl _))
            repeat' decreasing_trivial_pre_omega
            refine ⟨?_, _, _, _, _, _, _, _, _, rfl⟩
            rw [um_um, e1, List.map_append]; rfl
          · have h3 : ¬ tdyB l = true := by
              unfold tdyB
              rw [show decide (l.d ≤ l.c) = false from h4, Bool.and_false, Bool.and_false]; exact Bool.false_ne_true
            rw [if_neg h3, List.append_nil] at e1
            repeat' decreasing_trivial_pre_omega
            exact ⟨by rw [e1], _, _, _, _, _, _, _, _, rfl⟩
      · have h3 : ¬ tdyB l = true := by
          unfold tdyB
          rw [decide_eq_false h1, Bool.false_and]; exact Bool.false_ne_true
        rw [if_neg h3, List.append_nil] at e1
        repeat' decreasing_trivial_pre_omega
        exact ⟨by rw [e1], _, _, _, _, _, _, _, _, rfl⟩
    · rintro Γ M2 ⟨rfl, p6, p7, p8, p9, p10, p11, p13, p14, rfl⟩
      refine ssx_cons (sx_ret ?_)
      refine ex_max hF gB.max ?_
      refine ax_cons (ex_frz ?_)
      repeat' decreasing_trivial_pre_omega
      refine ⟨p, _, rfl, um_same, ?_⟩
      rw [dm_um hp, hz]
      repeat' decreasing_trivial_pre_omega
      exact maxP_q hq
end
end K7
end
section
set_option pp.deepTerms false
set_option pp.deepTerms.threshold 5
set_option pp.maxSteps 3000
set_option hygiene false
local macro_rules | `(tactic| get_elem_tactic_extensible) => `(tactic| (repeat' (first | with_reducible exact AtN.z | with_reducible exact AtG.z | with_reducible exact SetS.z | with_reducible exact SetSs.nil | exact WipeS.nil | with_reducible apply AtN.s | with_reducible apply AtG.s | with_reducible apply SetS.s | with_reducible apply SetSs.cons | apply WipeS.cons | exact StartS.nil | apply StartS.arg | apply StartS.var)))
local macro_rules | `(tactic| decreasing_trivial_pre_omega) => `(tactic| first
  | ((with_reducible show SSX _ _ _ _ _); first | ((with_reducible show SSX _ (_ :: _) _ _ _); refine ssx_cons ?_) | ((with_reducible show SSX _ [] _ _ _); refine ssx_nil ?_))
  | ((with_reducible show SX _ _ _ _ _); first
    | ((with_reducible show SX _ (.Return (some _) _) _ _ _); refine sx_ret ?_)
    | ((with_reducible show SX _ (.Return none _) _ _ _); refine sx_retN ?_)
    | ((with_reducible show SX _ (.If _ _ _ _) _ _ _); refine sx_if ?_)
    | ((with_reducible show SX _ (.Assign [.Name _ _] (.ListComp _ _ _ _) _) _ _ _); fail)
    | ((with_reducible show SX _ (.Assign [.Name _ _] _ _) _ _ _); refine sx_setA hD (by get_elem_tactic_extensible) ?_)
    | ((with_reducible show SX _ (.Assign [.Tuple [.Name _ _, .Name _ _] _ _] (.Tuple [_, _] _ _) _) _ _ _); refine sx_par2 hD (by get_elem_tactic_extensible) (by get_elem_tactic_extensible) (by decide) ?_)
    | ((with_reducible show SX _ (.Assign [.Tuple [.Name _ _, .Name _ _, .Name _ _] _ _] (.Tuple [_, _, _] _ _) _) _ _ _); refine sx_par3A hD (by get_elem_tactic_extensible) (by get_elem_tactic_extensible) (by get_elem_tactic_extensible) (by decide) (by decide) (by decide) ?_)
    | ((with_reducible show SX _ (.Assign [.Tuple _ _ _] _ _) _ _ _); refine sx_asg hD (tg_tpA hD (by repeat' (first | exact tn_nil | apply tn_consA hD (by get_elem_tactic_extensible))) (by rfl)) ?_)
    | ((with_reducible show SX _ (.Assign [.Subscript _ _ _] _ _) _ _ _); refine sx_subX hF ?_)
    | ((with_reducible show SX _ (.AugAssign (.Name _ _) .Add _ _) _ _ _); refine sx_augadd hD (by get_elem_tactic_extensible) (by get_elem_tactic_extensible) ?_)
    | ((with_reducible show SX _ (.Expr _ _) _ _ _); refine sx_expr ?_)
    | ((with_reducible show SX _ (.Break _) _ _ _); refine sx_break ?_)
    | ((with_reducible show SX _ (.Continue _) _ _ _); refine sx_continue ?_)
    | ((with_reducible show SX _ (.Pass _) _ _ _); refine sx_pass ?_))
  | ((with_reducible show EX _ _ _ _ _ _); first
    | ((with_reducible show EX _ (.Name _ _) _ _ _ _); refine ax_var (by first | exact hF | exact hF.blk _ | exact (hF.blk _).blk _) (by get_elem_tactic_extensible) (by get_elem_tactic_extensible) ?_)
    | ((with_reducible show EX _ (.Constant (.int _) _ _) _ _ _ _); refine ex_int ?_)
    | ((with_reducible show EX _ (.Constant (.str _) _ _) _ _ _ _); refine ex_str ?_)
    | ((with_reducible show EX _ (.Constant (.bool _) _ _) _ _ _ _); refine ex_bl ?_)
    | ((with_reducible show EX _ (.Constant .none _ _) _ _ _ _); refine ex_non ?_)
    | ((with_reducible show EX _ (.BinOp _ .Add _ _) _ _ _ _); refine ex_add ?_)
    | ((with_reducible show EX _ (.BinOp _ .Sub _ _) _ _ _ _); refine ex_sub ?_)
    | ((with_reducible show EX _ (.BinOp _ .Mult _ _) _ _ _ _); refine ex_mul ?_)
    | ((with_reducible show EX _ (.BinOp _ .Mod _ _) _ _ _ _); refine ex_modX ?_)
    | ((with_reducible show EX _ (.BinOp _ .FloorDiv _ _) _ _ _ _); refine ex_fdiv ?_)
    | ((with_reducible show EX _ (.BinOp _ .Pow _ _) _ _ _ _); refine ex_pow ?_)
    | ((with_reducible show EX _ (.UnaryOp .USub _ _) _ _ _ _); refine ex_neg ?_)
    | ((with_reducible show EX _ (.UnaryOp .Not _ _) _ _ _ _); refine ex_not ?_)
    | ((with_reducible show EX _ (.Tuple _ _ _) _ _ _ _); refine ex_tup ?_)
    | ((with_reducible show EX _ (.List (_ :: _) _) _ _ _ _); refine ex_lst ?_)
    | ((with_reducible show EX _ (.IfExp _ _ _ _) _ _ _ _); refine ex_if ?_)
    | ((with_reducible show EX _ (.Compare _ [.Eq] [_] _) _ _ _ _); refine ex_eq (by first | exact hF | exact hF.blk _ | exact (hF.blk _).blk _) ?_)
    | ((with_reducible show EX _ (.Compare _ [.NotEq] [_] _) _ _ _ _); refine ex_ne (by first | exact hF | exact hF.blk _ | exact (hF.blk _).blk _) ?_)
    | ((with_reducible show EX _ (.Compare _ [.Lt] [_] _) _ _ _ _); refine ex_lt ?_)
    | ((with_reducible show EX _ (.Compare _ [.LtE] [_] _) _ _ _ _); refine ex_le ?_)
    | ((with_reducible show EX _ (.Compare _ [.Gt] [_] _) _ _ _ _); refine ex_gt ?_)
    | ((with_reducible show EX _ (.Compare _ [.GtE] [_] _) _ _ _ _); refine ex_ge ?_)
    | ((with_reducible show EX _ (.Compare _ [.Is] [.Constant .none _ _] _) _ _ _ _); refine ex_isN ?_)
    | ((with_reducible show EX _ (.Compare _ [.IsNot] [.Constant .none _ _] _) _ _ _ _); refine ex_notN ?_)
    | ((with_reducible show EX _ (.BoolOp _ [_] _) _ _ _ _); refine ex_one ?_)
    | ((with_reducible show EX _ (.BoolOp .And _ _) _ _ _ _); refine ex_and ?_)
    | ((with_reducible show EX _ (.BoolOp .Or _ _) _ _ _ _); refine ex_or ?_)
    | ((with_reducible show EX _ (.Subscript _ (.Slice _ _ _ _) _) _ _ _ _); fail)
    | ((with_reducible show EX _ (.Subscript _ _ _) _ _ _ _); refine ex_ixX (by first | exact hF | exact hF.blk _ | exact (hF.blk _).blk _) ?_)
    | ((with_reducible show EX _ (.Call (.Name "len" _) [_] [] _) _ _ _ _); refine ex_len (by first | exact hF | exact hF.blk _ | exact (hF.blk _).blk _) gB.len ?_)
    | ((with_reducible show EX _ (.Call (.Name "int" _) [_] [] _) _ _ _ _); refine ex_int1 (by first | exact hF | exact hF.blk _ | exact (hF.blk _).blk _) gB.int ?_)
    | ((with_reducible show EX _ (.Call (.Name "abs" _) [_] [] _) _ _ _ _); refine ex_abs (by first | exact hF | exact hF.blk _ | exact (hF.blk _).blk _) gB.abs ?_)
    | ((with_reducible show EX _ (.Call (.Name "list" _) [_] [] _) _ _ _ _); refine ex_list1 (by first | exact hF | exact hF.blk _ | exact (hF.blk _).blk _) gB.list ?_)
    | ((with_reducible show EX _ (.Call (.Name "tuple" _) [_] [] _) _ _ _ _); refine ex_tuple1 (by first | exact hF | exact hF.blk _ | exact (hF.blk _).blk _) gB.tuple ?_)
    | ((with_reducible show EX _ (.Call (.Name "sum" _) [_] [] _) _ _ _ _); refine ex_sum (by first | exact hF | exact hF.blk _ | exact (hF.blk _).blk _) gB.sum ?_)
    | ((with_reducible show EX _ (.Call (.Name "max" _) [_] [] _) _ _ _ _); refine ex_max (by first | exact hF | exact hF.blk _ | exact (hF.blk _).blk _) gB.max ?_)
    | ((with_reducible show EX _ (.Call (.Name "all" _) [_] [] _) _ _ _ _); refine ex_all (by first | exact hF | exact hF.blk _ | exact (hF.blk _).blk _) gB.all ?_)
    | ((with_reducible show EX _ (.Call (.Name "bool" _) [_] [] _) _ _ _ _); refine ex_bool1 (by first | exact hF | exact hF.blk _ | exact (hF.blk _).blk _) gB.bool ?_)
    | ((with_reducible show EX _ (.Call (.Name "max" _) [_, _] [] _) _ _ _ _); refine ex_max2 (by first | exact hF | exact hF.blk _ | exact (hF.blk _).blk _) gB.max ?_)
    | ((with_reducible show EX _ (.Call (.Name "gcd" _) [_, _] [] _) _ _ _ _); refine ex_gcd (by first | exact hF | exact hF.blk _ | exact (hF.blk _).blk _) gGcd ?_)
    | ((with_reducible show EX _ (.Call (.Name "isqrt" _) [_] [] _) _ _ _ _); refine ex_isqrt (by first | exact hF | exact hF.blk _ | exact (hF.blk _).blk _) gIsqrt ?_)
    | ((with_reducible show EX _ (.Call (.Name "sorted" _) [_] [_] _) _ _ _ _); refine ex_sortR (by first | exact hF | exact hF.blk _ | exact (hF.blk _).blk _) gB.sorted ?_)
    | ((with_reducible show EX _ (.Call (.Name "isinstance" _) [_, .Name "list" _] [] _) _ _ _ _); refine ex_isi (by first | exact hF | exact hF.blk _ | exact (hF.blk _).blk _) .lst gB.isinstance gB.list ?_)
    | ((with_reducible show EX _ (.Call (.Name "isinstance" _) [_, .Name "tuple" _] [] _) _ _ _ _); refine ex_isi (by first | exact hF | exact hF.blk _ | exact (hF.blk _).blk _) .tup gB.isinstance gB.tuple ?_)
    | ((with_reducible show EX _ (.Call (.Name "isinstance" _) [_, .Name "int" _] [] _) _ _ _ _); refine ex_isi (by first | exact hF | exact hF.blk _ | exact (hF.blk _).blk _) .int gB.isinstance gB.int ?_)
    | ((with_reducible show EX _ (.Call (.Name "isinstance" _) [_, .Name "bool" _] [] _) _ _ _ _); refine ex_isi (by first | exact hF | exact hF.blk _ | exact (hF.blk _).blk _) .bl gB.isinstance gB.bool ?_)
    | ((with_reducible show EX _ (.Call (.Name "isinstance" _) [_, .Name "str" _] [] _) _ _ _ _); refine ex_isi (by first | exact hF | exact hF.blk _ | exact (hF.blk _).blk _) .str gB.isinstance gB.str ?_)
    | ((with_reducible show EX _ (.Call (.Name "isinstance" _) [_, .Name "dict" _] [] _) _ _ _ _); refine ex_isi (by first | exact hF | exact hF.blk _ | exact (hF.blk _).blk _) .dic gB.isinstance gB.dict ?_)
    | ((with_reducible show EX _ (.Call (.Name "isinstance" _) [_, .Tuple [.Name "list" _, .Name "tuple" _] _ _] [] _) _ _ _ _); refine ex_isi2 (by first | exact hF | exact hF.blk _ | exact (hF.blk _).blk _) .lst .tup gB.isinstance gB.list gB.tuple ?_)
    | ((with_reducible show EX _ (.Call (.Name "isinstance" _) [_, .Tuple [.Name "list" _, .Name "tuple" _, .Name "dict" _] _ _] [] _) _ _ _ _); refine ex_isi3 (by first | exact hF | exact hF.blk _ | exact (hF.blk _).blk _) .lst .tup .dic gB.isinstance gB.list gB.tuple gB.dict ?_)
    | ((with_reducible show EX _ (.Call (.Attribute _ "append" _) [_] [] _) _ _ _ _); refine ex_append (by first | exact hF | exact hF.blk _ | exact (hF.blk _).blk _) ?_)
    | ((with_reducible show EX _ (.Call (.Name _ _) (_ :: _) [] _) _ _ _ _); refine ex_callF (by first | exact hF | exact hF.blk _ | exact (hF.blk _).blk _) (by with_reducible assumption) (by omega) ?_))
  | ((with_reducible show AX _ _ _ _ _ _); first | ((with_reducible show AX _ (_ :: _) _ _ _ _); refine ax_cons ?_) | ((with_reducible show AX _ [] _ _ _ _); refine ax_nil ?_))
  | ((with_reducible show TX _ _ _ _ _ _); first
    | ((with_reducible show TX _ (.Compare _ [.Eq] [_] _) _ _ _ _); refine tx_eq (by first | exact hF | exact hF.blk _ | exact (hF.blk _).blk _) ?_)
    | ((with_reducible show TX _ (.Compare _ [.NotEq] [_] _) _ _ _ _); refine tx_ne (by first | exact hF | exact hF.blk _ | exact (hF.blk _).blk _) ?_)
    | ((with_reducible show TX _ (.Compare _ [.Lt] [_] _) _ _ _ _); refine tx_lt ?_)
    | ((with_reducible show TX _ (.Compare _ [.LtE] [_] _) _ _ _ _); refine tx_le ?_)
    | ((with_reducible show TX _ (.Compare _ [.Gt] [_] _) _ _ _ _); refine tx_gt ?_)
    | ((with_reducible show TX _ (.Compare _ [.GtE] [_] _) _ _ _ _); refine tx_ge ?_)
    | ((with_reducible show TX _ (.Compare _ [.Is] [.Constant .none _ _] _) _ _ _ _); refine tx_isN ?_)
    | ((with_reducible show TX _ (.Compare _ [.IsNot] [.Constant .none _ _] _) _ _ _ _); refine tx_notN ?_)
    | ((with_reducible show TX _ (.UnaryOp .Not _ _) _ _ _ _); refine tx_not ?_)
    | ((with_reducible show TX _ (.BoolOp .And _ _) _ _ _ _); refine WWX.tx (wx_and ?_))
    | ((with_reducible show TX _ (.BoolOp .Or _ _) _ _ _ _); refine WWX.tx (wx_or ?_))
    | ((with_reducible show TX _ (.Compare _ _ _ _) _ _ _ _); fail)
    | ((with_reducible show TX _ (.Call (.Name "isinstance" _) _ _ _) _ _ _ _); refine tx_bl ?_)
    | ((with_reducible show TX _ (_) _ _ _ _); refine tx_tru (by first | exact hF | exact hF.blk _ | exact (hF.blk _).blk _) (fun _ _ => rfl) ?_))
  | ((with_reducible show WWX _ _ _ _ _ _); first | ((with_reducible show WWX _ (.BoolOp .And [_] _) _ _ _ _); refine wx_and1 ?_) | ((with_reducible show WWX _ (.BoolOp .Or [_] _) _ _ _ _); refine wx_or1 ?_) | ((with_reducible show WWX _ (.BoolOp .And _ _) _ _ _ _); refine wx_and ?_) | ((with_reducible show WWX _ (.BoolOp .Or _ _) _ _ _ _); refine wx_or ?_))
  | with_reducible refine addP_ii ?_
  | with_reducible refine subP_ii ?_
  | with_reducible refine mulP_ii (by first | assumption | exact cm_l (by omega) (by omega) | exact cm_r (by omega) (by omega)) ?_
  | with_reducible refine modX_p (by first | assumption | decide | omega) ?_
  | with_reducible refine fdivP_ii (by first | assumption | exact cd_i (by omega) (by omega)) ?_
  | with_reducible refine powP_ii (by unfold CPow; decide) ?_
  | with_reducible refine negP_i ?_
  | with_reducible refine eqP_ii ?_
  | with_reducible refine eqP_ss ?_
  | with_reducible refine eqP_bb ?_
  | with_reducible refine neP_ii ?_
  | with_reducible refine neP_ss ?_
  | with_reducible refine neP_bb ?_
  | with_reducible refine ltP_ii ?_
  | with_reducible refine intP_i ?_
  | with_reducible refine intP_b ?_
  | with_reducible refine absP_i ?_
  | with_reducible refine boolP_b ?_
  | with_reducible refine lenP_t ?_
  | with_reducible refine lenP_l ?_
  | with_reducible refine lenP_rl ?_
  | with_reducible refine augP_ii ?_
  | with_reducible refine listP_l ?_
  | with_reducible refine listP_t ?_
  | with_reducible refine tupP_l ?_
  | with_reducible refine tupP_t ?_
  | with_reducible refine tru_i ?_
  | with_reducible refine tru_b ?_
  | ((with_reducible show lenP _ _ [.ref _]); refine lenP_r (by first | exact um_same | assumption) ?_)
  | ((with_reducible show ixX _ _ (.tup _) (.int _)); refine ixX_t (by rfl) ?_)
  | ((with_reducible show ixX _ _ (.lst _) (.int _)); refine ixX_l (by rfl) ?_)
  | ((with_reducible show ixX _ _ (.ref _) (.int _)); refine ixX_r (by first | exact um_same | assumption) (by rfl) ?_)
  | ((with_reducible show setX _ _ (.ref _) (.int _) _); refine setX_r (by first | exact um_same | assumption) (by rfl) ?_)
  | ((with_reducible show appP _ _ (.ref _) _); refine appP_r (by first | exact um_same | assumption) ?_ ?_)
  | ((with_reducible show isL _ (.ref _) ∧ _); refine isL_r (by first | exact um_same | assumption) ?_)
  | ((with_reducible apply ds1); get_elem_tactic_extensible)
  | ((with_reducible apply ds2); get_elem_tactic_extensible)
  | ((with_reducible apply ds3); get_elem_tactic_extensible)
  | ((with_reducible apply tgd_nm); get_elem_tactic_extensible)
  | ((with_reducible apply tgd_tp); get_elem_tactic_extensible)
  | ((with_reducible apply ty_is); first | exact rfl | assumption)
  | ((with_reducible show (isNoneD _ = true → _) ∧ _); first | refine bx_T (by rfl) ?_ | refine bx_F (by rfl) ?_)
  | ((with_reducible show ((!isNoneD _) = true → _) ∧ _); first | refine bx_T (by rfl) ?_ | refine bx_F (by rfl) ?_)
  | with_reducible refine br_T (by decide) ?_
  | with_reducible refine br_F (by decide) ?_
  | with_reducible refine bn_T (by decide) ?_
  | with_reducible refine bn_F (by decide) ?_
  | with_reducible refine bw_T ?_
  | with_reducible refine bw_F ?_
  | with_reducible refine bx_T (by decide) ?_
  | with_reducible refine bx_F (by decide) ?_
  | ((with_reducible show _ ≤ sizeLine ∧ _); refine ax_tup (by exact Nat.le_of_ble_eq_true (by rfl)) ?_)
  | fail)
set_option Elab.async false
set_option linter.all false
set_option maxRecDepth 100000
set_option maxHeartbeats 600000
/-! K12U: the law's drawn rows: _law_name, _law_stepped, _law_pair. -/
namespace K7
open PySem PySem.Spec PyProof.Rows L2 G
theorem maxOf_in : ∀ (xs : List Q4) (x : Q4), PySem.W.maxOf x xs ∈ x :: xs
  | [], x => List.mem_cons_self ..
  | y :: ys, x => by
    have h := maxOf_in ys (if PySem.W.DatumOrd.lt x y = true then y else x)
    have e : PySem.W.maxOf x (y :: ys) = PySem.W.maxOf (if PySem.W.DatumOrd.lt x y = true then y else x) ys := rfl
    rw [e]
    rcases List.mem_cons.mp h with h | h
    · rw [h]
      split
      · simp
      · simp
    · simp [h]
theorem grtL_nrm (p : Q4) : nrmQ (grtL p) = nrmQ p := by
  have h : ∀ q ∈ fourQ p ++ (fourQ p).map negQ, nrmQ q = nrmQ p := by
    intro q hq
    unfold fourQ at hq
    simp only [List.map_cons, List.map_nil, List.cons_append, List.nil_append, List.mem_cons, List.not_mem_nil, or_false] at hq
    rcases hq with rfl | rfl | rfl | rfl | rfl | rfl | rfl | rfl <;> (unfold nrmQ <;> try unfold negQ) <;> grind
  refine h _ ?_
  unfold grtL
  show maxQ (p :: _) ∈ _
  exact maxOf_in _ _
def six : List Q4 := [⟨1, 1, 0, 0⟩, ⟨1, 0, 1, 0⟩, ⟨1, 0, 0, 1⟩, ⟨1, 1, 0, 0⟩, ⟨1, 0, 1, 0⟩, ⟨1, 0, 0, 1⟩]
section
variable {T : Fm Unit} (hh : T.hot = false) {k : Nat} {P : Program} {w : World} {K : PySem.W.Frag} {mg : Str → Option Value} {base : Heap} {args : List D} {M : Ms} {Φ : PD} {Ψ : PX}
def jn (p : Q4) (M : Ms) : List Q4 → Gm → Ms → Prop := fun _ Γ M' => M' = M ∧ ∃ (r : Q4) (o3 o4 : Option D), (0 < nrmQ r ∧ nrmQ r ≤ nrmQ p) ∧ Γ = [some (qD p), some (.int (conQ p)), some (qD r), o3, o4, none]
def ds__law_name : DS := fun args M Φ _ => ∃ p : Q4, args = [qD p] ∧ 0 < nrmQ p ∧ nrmQ p ≤ 1000000000 ∧ ∀ y, 0 < nrmQ y → nrmQ y ≤ nrmQ p → Φ (qD y) M
include hh in
theorem b__law_name (gB : Bi mg) (c1 : Cal false P w K mg base "_law_common" k ["amounts"] ds__law_common) (c2 : Cal false P w K mg base "_law_times" k ["one", "two"] ds__law_times) (c3 : Cal false P w K mg base "_law_size" k ["quad"] ds__law_size) (c4 : Cal false P w K mg base "_law_greatest" k ["quad"] ds__law_greatest)
    (hD : Fd T k P w K mg base n__law_name (defScope s__law_name)) (h : ds__law_name args M Φ Ψ) : Bod T s__law_name n__law_name args M Φ Ψ := by
  obtain ⟨p, rfl, h0, h1, hq⟩ := h
  have hF := hD.fc
  have hp0 : p ≠ ⟨0, 0, 0, 0⟩ := fun z => by rw [z] at h0; exact absurd h0 (by decide)
  obtain ⟨d1, d2, d3, d4⟩ := con_lt hp0 (show nrmQ p ≤ 1000000000000 by omega)
  have cdp : ∀ v : Int, CDiv v (conQ p) := fun v => cd_i d1 d2
  refine bod_start (by get_elem_tactic_extensible) ?_; refine ssx_cons ?_
  repeat' decreasing_trivial_pre_omega
  refine ⟨p, rfl, ?_⟩
  repeat' decreasing_trivial_pre_omega
  (with_reducible show EX _ (.ListComp _ _ _ _) _ _ _ _); refine ex_lc (by first | exact hF | exact hF.blk _ | exact (hF.blk _).blk _) [("one", 5)] (by first | exact tb_nmA hF (by get_elem_tactic_extensible) | exact tb_nmA (hF.blk _) (by get_elem_tactic_extensible) | exact tb_tpA hF (by repeat' (first | exact tnb_nil | apply tnb_consA hF (by get_elem_tactic_extensible))) (by rfl) | exact tb_tpA (hF.blk _) (by repeat' (first | exact tnb_nil | apply tnb_consA (hF.blk _) (by get_elem_tactic_extensible))) (by rfl)) .none (ix_seqD (by first | exact hF | exact hF.blk _ | exact (hF.blk _).blk _) ?_) (by decide +kernel) (by decide)
  repeat' decreasing_trivial_pre_omega
  refine ⟨_, rfl, lc_mapA (xs := [p.a, p.b, p.c, p.d]) D.int (fun v => .int (v / conQ p)) (by simp) (by get_elem_tactic_extensible) (fun v hv M3 _ => ?_) ?_⟩
  · repeat' decreasing_trivial_pre_omega
    exact ⟨rfl, rfl⟩
  refine ax_nil ?_
  refine tupP_l ?_
  refine ⟨_, (by get_elem_tactic_extensible), ?_⟩
  refine ssx_cons ?_
  generalize hit : (Expr.BinOp _ Operator.Mult _ _) = it
  have hs : ∀ env x, foldedSetIterable it env x = pure x := by rw [← hit]; intro _ _; rfl
  refine sx_forA hD six qD (jn p M) (fun _ => True) (tg_nmA hD (by get_elem_tactic_extensible)) ?_ (fun _ _ _ _ => trivial) ?_ ?_ hs
  · rw [← hit]
    refine ix_seqD hF (ex_rep ?_)
    repeat' decreasing_trivial_pre_omega
    refine ⟨[qD ⟨1, 1, 0, 0⟩, qD ⟨1, 0, 1, 0⟩, qD ⟨1, 0, 0, 1⟩], 2, rfl, rfl, ⟨by omega, by omega, size_le (show 3 * 2 ≤ 16777216 by omega)⟩, ?_⟩
    refine ⟨six.map qD, rfl, rfl, fun _ _ => trivial, rfl, primQ p, none, none, ⟨d3, d4⟩, rfl⟩
  · rintro ys e zs Γ M' he ⟨rfl, r, o3, o4, hr, rfl⟩
    have hen : nrmQ e = 2 := by
      have key : (six.all fun q => decide (nrmQ q = 2)) = true := by decide +kernel
      exact of_decide_eq_true (List.all_eq_true.mp key e (by rw [he]; simp))
    have hre := nrm_mul r e
    rw [hen] at hre
    repeat' decreasing_trivial_pre_omega
    refine ⟨r, e, rfl, sm_nrm (by omega), ?_⟩
    repeat' decreasing_trivial_pre_omega
    refine ⟨r, rfl, sm_nrm (by omega), ?_⟩
    generalize mulQ r e = t at *
    repeat' decreasing_trivial_pre_omega
    refine br_d (fun hc => ?_) (fun hc => ?_)
    · refine wx_and1 ?_
      refine tx_eq hF ?_
      (with_reducible show EX _ (.ListComp _ _ _ _) _ _ _ _); refine ex_lc (by first | exact hF | exact hF.blk _ | exact (hF.blk _).blk _) [("one", 5)] (by first | exact tb_nmA hF (by get_elem_tactic_extensible) | exact tb_nmA (hF.blk _) (by get_elem_tactic_extensible) | exact tb_tpA hF (by repeat' (first | exact tnb_nil | apply tnb_consA hF (by get_elem_tactic_extensible))) (by rfl) | exact tb_tpA (hF.blk _) (by repeat' (first | exact tnb_nil | apply tnb_consA (hF.blk _) (by get_elem_tactic_extensible))) (by rfl)) (.one _) (ix_seqD (by first | exact hF | exact hF.blk _ | exact (hF.blk _).blk _) ?_) (by decide +kernel) (by decide)
      repeat' decreasing_trivial_pre_omega
      refine ⟨_, rfl, lc_filterA (xs := [t.a, t.b, t.c, t.d]) D.int D.int (fun v => decide (v % 2 = 1)) (by simp) (by get_elem_tactic_extensible) (fun v hv M3 _ => ?_) ?_⟩
      · repeat' decreasing_trivial_pre_omega
        refine ⟨?_, fun _ => ?_⟩
        · repeat' decreasing_trivial_pre_omega
          exact ⟨_, rfl, rfl, rfl⟩
        · repeat' decreasing_trivial_pre_omega
          exact ⟨rfl, rfl⟩
      refine ex_lst ?_
      repeat' decreasing_trivial_pre_omega
      refine ⟨_, eqD_ints _ [], ?_⟩
      refine br_d (fun h2 => ?_) (fun h2 => ?_)
      · have hev : ∀ v ∈ [t.a, t.b, t.c, t.d], v % 2 = 0 := fun v hv => by
          have := List.filter_eq_nil_iff.mp h2 v hv
          rw [decide_eq_true_eq] at this
          omega
        have e4 : nrmQ t = 4 * nrmQ (parQ t 2) := by
          have a1 := hev t.a (by simp); have a2 := hev t.b (by simp); have a3 := hev t.c (by simp); have a4 := hev t.d (by simp)
          unfold nrmQ parQ
          dsimp only
          have q1 : t.a = 2 * (t.a / 2) := by omega
          have q2 : t.b = 2 * (t.b / 2) := by omega
          have q3 : t.c = 2 * (t.c / 2) := by omega
          have q4 : t.d = 2 * (t.d / 2) := by omega
          generalize t.a / 2 = u1 at *
          generalize t.b / 2 = u2 at *
          generalize t.c / 2 = u3 at *
          generalize t.d / 2 = u4 at *
          rw [q1, q2, q3, q4]
          grind
        repeat' decreasing_trivial_pre_omega
        (with_reducible show EX _ (.ListComp _ _ _ _) _ _ _ _); refine ex_lc (by first | exact hF | exact hF.blk _ | exact (hF.blk _).blk _) [("one", 5)] (by first | exact tb_nmA hF (by get_elem_tactic_extensible) | exact tb_nmA (hF.blk _) (by get_elem_tactic_extensible) | exact tb_tpA hF (by repeat' (first | exact tnb_nil | apply tnb_consA hF (by get_elem_tactic_extensible))) (by rfl) | exact tb_tpA (hF.blk _) (by repeat' (first | exact tnb_nil | apply tnb_consA (hF.blk _) (by get_elem_tactic_extensible))) (by rfl)) .none (ix_seqD (by first | exact hF | exact hF.blk _ | exact (hF.blk _).blk _) ?_) (by decide +kernel) (by decide)
        repeat' decreasing_trivial_pre_omega
        refine ⟨_, rfl, lc_mapA (xs := [t.a, t.b, t.c, t.d]) D.int (fun v => .int (v / 2)) (by simp) (by get_elem_tactic_extensible) (fun v hv M3 _ => ?_) ?_⟩
        · repeat' decreasing_trivial_pre_omega
          exact ⟨rfl, rfl⟩
        repeat' decreasing_trivial_pre_omega
        exact ⟨rfl, parQ t 2, _, _, ⟨by omega, by omega⟩, rfl⟩
      · repeat' decreasing_trivial_pre_omega
        exact ⟨rfl, r, _, _, hr, rfl⟩
    · repeat' decreasing_trivial_pre_omega
      exact ⟨rfl, r, _, _, hr, rfl⟩
  · rintro Γ M' ⟨rfl, r, o3, o4, hr, rfl⟩
    repeat' decreasing_trivial_pre_omega
    refine ⟨r, rfl, ?_⟩
    exact hq _ (by rw [grtL_nrm]; exact hr.1) (by rw [grtL_nrm]; exact hr.2)
end
end K7
end
set_option Elab.async false
set_option linter.all false
set_option maxRecDepth 100000
set_option maxHeartbeats 4000000
/-! K13A: rows without signs and order of the last three; scalings; cube rows. -/
namespace K7
open PySem PySem.Spec PyProof.Rows L2 G
def cmp4 (x y : Q4) : Prop := x.a < y.a ∨ (x.a = y.a ∧ (x.b < y.b ∨ (x.b = y.b ∧ (x.c < y.c ∨ (x.c = y.c ∧ x.d < y.d)))))
theorem lt_cmp (x y : Q4) : PySem.W.DatumOrd.lt x y = true ↔ cmp4 x y := by
  show (if x.a = y.a then (if x.b = y.b then (if x.c = y.c then decide (x.d < y.d) else decide (x.c < y.c)) else decide (x.b < y.b)) else decide (x.a < y.a)) = true ↔ cmp4 x y
  unfold cmp4
  by_cases h1 : x.a = y.a
  · rw [if_pos h1]
    by_cases h2 : x.b = y.b
    · rw [if_pos h2]
      by_cases h3 : x.c = y.c
      · rw [if_pos h3, decide_eq_true_eq]; omega
      · rw [if_neg h3, decide_eq_true_eq]; omega
    · rw [if_neg h2, decide_eq_true_eq]; omega
  · rw [if_neg h1, decide_eq_true_eq]; omega
/-! ### sorted lists without signs -/
def ab (x : Int) : Int := ((x.natAbs : Nat) : Int)
theorem sA_def (xs : List Int) : sA xs = (xs.map ab).mergeSort (leI true) := rfl
theorem sA_uniq {xs ys : List Int} (hp : ys.Perm (xs.map ab)) (hs : ys.Pairwise fun a b => b ≤ a) : sA xs = ys := by
  rw [sA_def]
  refine List.Perm.eq_of_pairwise (le := fun a b => leI true a b = true) (fun a b _ _ h1 h2 => ?_) (List.pairwise_mergeSort (fun a b c h1 h2 => ?_) (fun a b => ?_) _) (hs.imp fun {a b} h => (leI_iff a b).mpr h) ((List.mergeSort_perm _ _).trans hp.symm)
  · rw [leI_iff] at h1 h2; omega
  · rw [leI_iff] at h1 h2 ⊢; omega
  · rw [Bool.or_eq_true, leI_iff, leI_iff]; omega
theorem sA_perm {xs ys : List Int} (hp : (xs.map ab).Perm (ys.map ab)) : sA xs = sA ys :=
  sA_uniq ((show (sA ys).Perm (ys.map ab) from List.mergeSort_perm _ _).trans hp.symm) (sA_srt ys)
theorem sA_fix3 {x y z : Int} (h1 : y ≤ x) (h2 : z ≤ y) (h3 : 0 ≤ z) : sA [x, y, z] = [x, y, z] := by
  refine sA_uniq ?_ ?_
  · simp only [List.map_cons, List.map_nil]
    rw [show ab x = x by unfold ab; omega, show ab y = y by unfold ab; omega, show ab z = z by unfold ab; omega]
  · simp only [List.pairwise_cons, List.mem_cons, List.not_mem_nil, or_false, List.Pairwise.nil, and_true]
    refine ⟨?_, ?_, fun _ h => h.elim⟩
    · rintro a (rfl | rfl) <;> omega
    · rintro a rfl; omega
theorem sA_scale (k : Int) (xs : List Int) : sA (xs.map (k * ·)) = (sA xs).map (ab k * ·) := by
  refine sA_uniq ?_ ?_
  · have h : (sA xs).Perm (xs.map ab) := List.mergeSort_perm _ _
    refine (h.map (ab k * ·)).trans ?_
    rw [List.map_map, List.map_map]
    refine List.Perm.of_eq (List.map_congr_left fun x _ => ?_)
    show ab k * ab x = ab (k * x)
    unfold ab
    rw [Int.natAbs_mul]; rfl
  · rw [List.pairwise_map]
    exact (sA_srt xs).imp fun {a b} h => Int.mul_le_mul_of_nonneg_left h (by unfold ab; omega)
/-! ### scaled rows -/
def sQ (k : Int) (p : Q4) : Q4 := ⟨k * p.a, k * p.b, k * p.c, k * p.d⟩
theorem q4x {p q : Q4} (h1 : p.a = q.a) (h2 : p.b = q.b) (h3 : p.c = q.c) (h4 : p.d = q.d) : p = q := PySem.W.T4.same h1 h2 h3 h4
theorem sQ_sQ (k l : Int) (p : Q4) : sQ k (sQ l p) = sQ (k * l) p := by unfold sQ; simp only [Int.mul_assoc]
theorem sQ_1 (p : Q4) : sQ 1 p = p := by unfold sQ; simp only [Int.one_mul]
theorem mul_sQl (k : Int) (p q : Q4) : mulQ (sQ k p) q = sQ k (mulQ p q) := by unfold mulQ sQ; exact q4x (by grind) (by grind) (by grind) (by grind)
theorem mul_sQr (k : Int) (p q : Q4) : mulQ p (sQ k q) = sQ k (mulQ p q) := by unfold mulQ sQ; exact q4x (by grind) (by grind) (by grind) (by grind)
theorem mul_as (p q r : Q4) : mulQ (mulQ p q) r = mulQ p (mulQ q r) := by unfold mulQ; exact q4x (by grind) (by grind) (by grind) (by grind)
theorem bak_sQ (k : Int) (p : Q4) : bakQ (sQ k p) = sQ k (bakQ p) := by unfold bakQ sQ; simp only [Int.mul_neg]
theorem bak_mul (p q : Q4) : bakQ (mulQ p q) = mulQ (bakQ q) (bakQ p) := by unfold mulQ bakQ; exact q4x (by grind) (by grind) (by grind) (by grind)
theorem bak_bak (p : Q4) : bakQ (bakQ p) = p := by unfold bakQ; simp only [Int.neg_neg]
theorem bak_l (p q : Q4) : mulQ (bakQ p) (mulQ p q) = sQ (nrmQ p) q := by unfold mulQ bakQ sQ nrmQ; exact q4x (by grind) (by grind) (by grind) (by grind)
theorem bak_r (p q : Q4) : mulQ (mulQ q p) (bakQ p) = sQ (nrmQ p) q := by unfold mulQ bakQ sQ nrmQ; exact q4x (by grind) (by grind) (by grind) (by grind)
theorem mul_one (p : Q4) : mulQ p ⟨1, 0, 0, 0⟩ = p := by unfold mulQ; exact q4x (by grind) (by grind) (by grind) (by grind)
theorem one_mul (p : Q4) : mulQ ⟨1, 0, 0, 0⟩ p = p := by unfold mulQ; exact q4x (by grind) (by grind) (by grind) (by grind)
theorem nrm_sQ (k : Int) (p : Q4) : nrmQ (sQ k p) = k * k * nrmQ p := by unfold nrmQ sQ; grind
theorem neg_sQ (p : Q4) : negQ p = sQ (-1) p := by unfold negQ sQ; simp only [Int.neg_one_mul]
theorem sQ_inj {k : Int} {p q : Q4} (h : k ≠ 0) (e : sQ k p = sQ k q) : p = q := by
  unfold sQ at e
  injection e with e1 e2 e3 e4
  exact q4x (Int.eq_of_mul_eq_mul_left h e1) (Int.eq_of_mul_eq_mul_left h e2) (Int.eq_of_mul_eq_mul_left h e3) (Int.eq_of_mul_eq_mul_left h e4)
/-! ### rows without signs, the last three sorted -/
def tQ (p : Q4) : Q4 := tid (ab p.a) p.b p.c p.d
theorem tid_of {f x y z u v w : Int} (h : sA [x, y, z] = [u, v, w]) : tid f x y z = ⟨f, u, v, w⟩ := by unfold tid; rw [h]
theorem tQ_of {p : Q4} {u v w : Int} (h : sA [p.b, p.c, p.d] = [u, v, w]) : tQ p = ⟨ab p.a, u, v, w⟩ := tid_of h
theorem tQ_sQ (k : Int) (p : Q4) : tQ (sQ k p) = sQ (ab k) (tQ p) := by
  obtain ⟨x, y, z, h⟩ := sA_3 p.b p.c p.d
  have h2 := sA_scale k [p.b, p.c, p.d]
  rw [h] at h2
  rw [tQ_of h, tQ_of (p := sQ k p) (u := ab k * x) (v := ab k * y) (w := ab k * z) h2]
  refine q4x ?_ rfl rfl rfl
  show ab (k * p.a) = ab k * ab p.a
  unfold ab
  rw [Int.natAbs_mul]; rfl
theorem tQ_fix {p : Q4} (h0 : 0 ≤ p.a) (h1 : p.c ≤ p.b) (h2 : p.d ≤ p.c) (h3 : 0 ≤ p.d) : tQ p = p := by
  rw [tQ_of (sA_fix3 h1 h2 h3)]
  exact q4x (by show ab p.a = p.a; unfold ab; omega) rfl rfl rfl
theorem sA_ab {x y z u v w : Int} (h1 : ab x = ab u) (h2 : ab y = ab v) (h3 : ab z = ab w) : sA [x, y, z] = sA [u, v, w] :=
  sA_perm (by simp only [List.map_cons, List.map_nil]; rw [h1, h2, h3])
theorem sA_sw1 (x y z : Int) : sA [x, y, z] = sA [y, x, z] := sA_perm (List.Perm.swap _ _ _)
theorem sA_sw2 (x y z : Int) : sA [x, y, z] = sA [x, z, y] := sA_perm ((List.Perm.swap _ _ _).cons _)
/-- the first numbers and the others, up to signs and one of the six orders -/
def P6 (k : Nat) (p q : Q4) : Prop := ab p.a = ab q.a ∧ match k with
  | 0 => ab p.b = ab q.b ∧ ab p.c = ab q.c ∧ ab p.d = ab q.d
  | 1 => ab p.b = ab q.b ∧ ab p.c = ab q.d ∧ ab p.d = ab q.c
  | 2 => ab p.b = ab q.c ∧ ab p.c = ab q.b ∧ ab p.d = ab q.d
  | 3 => ab p.b = ab q.c ∧ ab p.c = ab q.d ∧ ab p.d = ab q.b
  | 4 => ab p.b = ab q.d ∧ ab p.c = ab q.b ∧ ab p.d = ab q.c
  | _ => ab p.b = ab q.d ∧ ab p.c = ab q.c ∧ ab p.d = ab q.b
theorem tQ_same {p q : Q4} : ∀ (k : Nat), P6 k p q → tQ p = tQ q := by
  intro k ⟨h, h2⟩
  have key : sA [p.b, p.c, p.d] = sA [q.b, q.c, q.d] → tQ p = tQ q := fun e => by
    obtain ⟨x, y, z, h3⟩ := sA_3 q.b q.c q.d
    rw [tQ_of h3, tQ_of (e.trans h3), h]
  match k, h2 with
  | 0, h2 => exact key (sA_ab h2.1 h2.2.1 h2.2.2)
  | 1, h2 => exact key ((sA_ab h2.1 h2.2.1 h2.2.2).trans (sA_sw2 _ _ _))
  | 2, h2 => exact key ((sA_ab h2.1 h2.2.1 h2.2.2).trans (sA_sw1 _ _ _))
  | 3, h2 => exact key ((sA_ab h2.1 h2.2.1 h2.2.2).trans ((sA_sw2 _ _ _).trans (sA_sw1 _ _ _)))
  | 4, h2 => exact key ((sA_ab h2.1 h2.2.1 h2.2.2).trans ((sA_sw1 _ _ _).trans (sA_sw2 _ _ _)))
  | 5, h2 => exact key ((sA_ab h2.1 h2.2.1 h2.2.2).trans ((sA_sw1 _ _ _).trans ((sA_sw2 _ _ _).trans (sA_sw1 _ _ _))))
  | k + 6, h2 => exact key ((sA_ab h2.1 h2.2.1 h2.2.2).trans ((sA_sw1 _ _ _).trans ((sA_sw2 _ _ _).trans (sA_sw1 _ _ _))))
theorem tQ_bak (p : Q4) : tQ (bakQ p) = tQ p := tQ_same 0 ⟨rfl, by show ab (-p.b) = _; unfold ab; omega, by show ab (-p.c) = _; unfold ab; omega, by show ab (-p.d) = _; unfold ab; omega⟩
def smI : List Int → Int
  | [] => 0
  | x :: xs => x + smI xs
theorem perm_sm {xs ys : List Int} (h : xs.Perm ys) : smI xs = smI ys := by
  induction h with
  | nil => rfl
  | cons x _ ih => show x + _ = x + _; rw [ih]
  | swap x y l => show y + (x + smI l) = x + (y + smI l); omega
  | trans _ _ h1 h2 => exact h1.trans h2
theorem tQ_nrm (p : Q4) : nrmQ (tQ p) = nrmQ p := by
  obtain ⟨x, y, z, h⟩ := sA_3 p.b p.c p.d
  rw [tQ_of h]
  have hp : (sA [p.b, p.c, p.d]).Perm ([p.b, p.c, p.d].map ab) := List.mergeSort_perm _ _
  rw [h] at hp
  have h2 := perm_sm (hp.map fun x => x * x)
  simp only [List.map_cons, List.map_nil, smI] at h2
  have k : ∀ x : Int, ab x * ab x = x * x := fun x => Int.natAbs_mul_self
  rw [k, k, k] at h2
  show ab p.a * ab p.a + x * x + y * y + z * z = p.a * p.a + p.b * p.b + p.c * p.c + p.d * p.d
  rw [k]
  omega
theorem tQ_idem (p : Q4) : (0 ≤ (tQ p).a ∧ (tQ p).c ≤ (tQ p).b ∧ (tQ p).d ≤ (tQ p).c ∧ 0 ≤ (tQ p).d) ∧ (tQ p).a = ab p.a := by
  obtain ⟨x, y, z, h⟩ := sA_3 p.b p.c p.d
  rw [tQ_of h]
  have h1 := sA_srt [p.b, p.c, p.d]
  rw [h] at h1
  simp only [List.pairwise_cons, List.mem_cons, List.not_mem_nil, or_false, List.Pairwise.nil, and_true] at h1
  obtain ⟨w, _, hw⟩ := sA_mem (y := z) (xs := [p.b, p.c, p.d]) (by rw [h]; simp)
  exact ⟨⟨by show 0 ≤ ab p.a; unfold ab; omega, h1.1 y (.inl rfl), h1.2.1 z rfl, by show 0 ≤ z; omega⟩, rfl⟩
theorem tQ_dvd {n : Int} (p : Q4) : (n ∣ (tQ p).a ∧ n ∣ (tQ p).b ∧ n ∣ (tQ p).c ∧ n ∣ (tQ p).d) ↔ (n ∣ p.a ∧ n ∣ p.b ∧ n ∣ p.c ∧ n ∣ p.d) := by
  obtain ⟨x, y, z, h⟩ := sA_3 p.b p.c p.d
  rw [tQ_of h]
  have hp : (sA [p.b, p.c, p.d]).Perm ([p.b, p.c, p.d].map ab) := List.mergeSort_perm _ _
  rw [h] at hp
  have k : ∀ x : Int, n ∣ ab x ↔ n ∣ x := fun x => Int.dvd_natAbs
  have e : (∀ v ∈ [x, y, z], n ∣ v) ↔ (∀ v ∈ [p.b, p.c, p.d], n ∣ v) := by
    constructor
    · intro g v hv
      exact (k v).mp (g _ (hp.mem_iff.mpr (List.mem_map_of_mem hv)))
    · intro g v hv
      obtain ⟨w, hw, rfl⟩ := List.mem_map.mp (hp.mem_iff.mp hv)
      exact (k w).mpr (g w hw)
  simp only [List.mem_cons, List.not_mem_nil, or_false, forall_eq_or_imp, forall_eq] at e
  show (n ∣ ab p.a ∧ _) ↔ _
  rw [k]
  exact and_congr_right fun _ => e
/-! ### cube rows -/
def Cb (c : Q4) : Prop := ∃ h ∈ cubeL, ∃ s : Int, s ≠ 0 ∧ c = sQ s h
theorem f_cmul : (cubeL.all fun f => cubeL.all fun g => cubeL.any fun h => [1, -1, 2, -2, 4, -4].any fun s => decide (mulQ f g = sQ s h)) = true := by decide +kernel
theorem f_cbak : (cubeL.all fun f => cubeL.any fun h => [1, -1].any fun s => decide (bakQ f = sQ s h)) = true := by decide +kernel
theorem cb_of {c : Q4} (h : c ∈ cubeL) : Cb c := ⟨c, h, 1, by decide, (sQ_1 c).symm⟩
theorem cb_s {c : Q4} {k : Int} (hk : k ≠ 0) : Cb c → Cb (sQ k c) := fun ⟨h, hh, s, hs, e⟩ => ⟨h, hh, k * s, Int.mul_ne_zero hk hs, by rw [e, sQ_sQ]⟩
theorem cb_mul {c d : Q4} : Cb c → Cb d → Cb (mulQ c d) := by
  rintro ⟨h, hh, s, hs, rfl⟩ ⟨g, hg, t, ht, rfl⟩
  have := List.all_eq_true.mp (List.all_eq_true.mp f_cmul h hh) g hg
  obtain ⟨x, hx, h2⟩ := List.any_eq_true.mp this
  obtain ⟨u, hu, h3⟩ := List.any_eq_true.mp h2
  have h3 := of_decide_eq_true h3
  have hu0 : u ≠ 0 := by rintro rfl; exact absurd hu (by decide)
  rw [mul_sQl, mul_sQr, h3]
  exact cb_s hs (cb_s ht (cb_s hu0 (cb_of hx)))
theorem cb_bak {c : Q4} : Cb c → Cb (bakQ c) := by
  rintro ⟨h, hh, s, hs, rfl⟩
  obtain ⟨x, hx, h2⟩ := List.any_eq_true.mp (List.all_eq_true.mp f_cbak h hh)
  obtain ⟨u, hu, h3⟩ := List.any_eq_true.mp h2
  have h3 := of_decide_eq_true h3
  have hu0 : u ≠ 0 := by rintro rfl; exact absurd hu (by decide)
  rw [bak_sQ, h3]
  exact cb_s hs (cb_s hu0 (cb_of hx))
theorem cb_nrm {c : Q4} : Cb c → nrmQ c ≠ 0 := by
  rintro ⟨h, hh, s, hs, rfl⟩
  have := of_decide_eq_true (List.all_eq_true.mp f_cub.1 h hh)
  rw [nrm_sQ]
  exact Int.mul_ne_zero (Int.mul_ne_zero hs hs) (by omega)
theorem cb_1 : Cb ⟨1, 0, 0, 0⟩ := cb_of (by decide +kernel)
/-! ### orbits -/
def Orb (N M : Q4) : Prop := ∃ f l, Cb f ∧ Cb l ∧ ∃ u : Int, u ≠ 0 ∧ (sQ u M = mulQ (mulQ f N) l ∨ sQ u M = mulQ (mulQ f (bakQ N)) l)
theorem orb_refl (N : Q4) : Orb N N := ⟨_, _, cb_1, cb_1, 1, by decide, .inl (by rw [sQ_1, one_mul, mul_one])⟩
theorem orb_s {N : Q4} {k : Int} (hk : k ≠ 0) : Orb N (sQ k N) := ⟨_, _, cb_s hk cb_1, cb_1, 1, by decide, .inl (by rw [sQ_1, mul_sQl, one_mul, mul_one])⟩
theorem orb_bak (N : Q4) : Orb N (bakQ N) := ⟨_, _, cb_1, cb_1, 1, by decide, .inr (by rw [sQ_1, one_mul, mul_one])⟩
theorem orb_lr {N f l : Q4} (hf : Cb f) (hl : Cb l) : Orb N (mulQ (mulQ f N) l) := ⟨f, l, hf, hl, 1, by decide, .inl (sQ_1 _)⟩
theorem two_sides (f l x : Q4) : mulQ (mulQ (bakQ f) (mulQ (mulQ f x) l)) (bakQ l) = sQ (nrmQ f * nrmQ l) x := by
  rw [mul_as f x l, bak_l, mul_sQl, bak_r, sQ_sQ]
theorem orb_symm {N M : Q4} : Orb N M → Orb M N := by
  rintro ⟨f, l, hf, hl, u, hu, e | e⟩
  · refine ⟨sQ u (bakQ f), bakQ l, cb_s hu (cb_bak hf), cb_bak hl, nrmQ f * nrmQ l, Int.mul_ne_zero (cb_nrm hf) (cb_nrm hl), .inl ?_⟩
    rw [← two_sides f l, ← e, mul_sQr, mul_sQl, mul_sQl, mul_sQl]
  · refine ⟨sQ u l, f, cb_s hu hl, hf, nrmQ f * nrmQ l, Int.mul_ne_zero (cb_nrm hf) (cb_nrm hl), .inr ?_⟩
    have h := two_sides f l (bakQ N)
    rw [← e, mul_sQr, mul_sQl] at h
    have h2 := congrArg bakQ h
    rw [bak_sQ, bak_sQ, bak_mul, bak_mul, bak_bak, bak_bak, bak_bak] at h2
    rw [← h2, mul_sQl, mul_sQl, mul_as]
theorem orb_trans {K N M : Q4} : Orb K N → Orb N M → Orb K M := by
  rintro ⟨f, l, hf, hl, u, hu, e⟩ ⟨g, m, hg, hm, v, hv, e2⟩
  have key : ∀ X Y : Q4, sQ u X = mulQ (mulQ f Y) l → sQ v M = mulQ (mulQ g X) m → sQ (u * v) M = mulQ (mulQ (mulQ g f) Y) (mulQ l m) := fun X Y h1 h2 => by
    rw [← sQ_sQ, h2, ← mul_sQl, ← mul_sQr, h1, mul_as, mul_as, mul_as, mul_as, mul_as]
  have key2 : ∀ X Y : Q4, sQ u (bakQ X) = mulQ (mulQ (bakQ l) Y) (bakQ f) → sQ v M = mulQ (mulQ g (bakQ X)) m → sQ (u * v) M = mulQ (mulQ (mulQ g (bakQ l)) Y) (mulQ (bakQ f) m) := fun X Y h1 h2 => by
    rw [← sQ_sQ, h2, ← mul_sQl, ← mul_sQr, h1, mul_as, mul_as, mul_as, mul_as, mul_as]
  have bk : ∀ Y : Q4, sQ u N = mulQ (mulQ f Y) l → sQ u (bakQ N) = mulQ (mulQ (bakQ l) (bakQ Y)) (bakQ f) := fun Y h => by
    rw [← bak_sQ, h, bak_mul, bak_mul, mul_as]
  rcases e2 with e2 | e2
  · refine ⟨mulQ g f, mulQ l m, cb_mul hg hf, cb_mul hl hm, u * v, Int.mul_ne_zero hu hv, ?_⟩
    rcases e with e | e
    · exact .inl (key _ _ e e2)
    · exact .inr (key _ _ e e2)
  · refine ⟨mulQ g (bakQ l), mulQ (bakQ f) m, cb_mul hg (cb_bak hl), cb_mul (cb_bak hf) hm, u * v, Int.mul_ne_zero hu hv, ?_⟩
    rcases e with e | e
    · exact .inr (key2 _ _ (bk _ e) e2)
    · exact .inl (key2 _ _ (by have := bk _ e; rwa [bak_bak] at this) e2)
end K7
set_option Elab.async false
set_option linter.all false
set_option maxRecDepth 100000
set_option maxHeartbeats 4000000
/-! K13B: conjugations by cube rows (printed by mk13b.py). -/
namespace K7
open PySem PySem.Spec PyProof.Rows L2 G
theorem cube24 {c : Q4} (h : c ∈ cubeL) : c = ⟨0, 0, 0, 1⟩ ∨ c = ⟨0, 0, 1, -1⟩ ∨ c = ⟨0, 0, 1, 0⟩ ∨ c = ⟨0, 0, 1, 1⟩ ∨ c = ⟨0, 1, -1, 0⟩ ∨ c = ⟨0, 1, 0, -1⟩ ∨ c = ⟨0, 1, 0, 0⟩ ∨ c = ⟨0, 1, 0, 1⟩ ∨ c = ⟨0, 1, 1, 0⟩ ∨ c = ⟨1, -1, -1, -1⟩ ∨ c = ⟨1, -1, -1, 1⟩ ∨ c = ⟨1, -1, 0, 0⟩ ∨ c = ⟨1, -1, 1, -1⟩ ∨ c = ⟨1, -1, 1, 1⟩ ∨ c = ⟨1, 0, -1, 0⟩ ∨ c = ⟨1, 0, 0, -1⟩ ∨ c = ⟨1, 0, 0, 0⟩ ∨ c = ⟨1, 0, 0, 1⟩ ∨ c = ⟨1, 0, 1, 0⟩ ∨ c = ⟨1, 1, -1, -1⟩ ∨ c = ⟨1, 1, -1, 1⟩ ∨ c = ⟨1, 1, 0, 0⟩ ∨ c = ⟨1, 1, 1, -1⟩ ∨ c = ⟨1, 1, 1, 1⟩ := by
  have e : cubeL = [⟨0, 0, 0, 1⟩, ⟨0, 0, 1, -1⟩, ⟨0, 0, 1, 0⟩, ⟨0, 0, 1, 1⟩, ⟨0, 1, -1, 0⟩, ⟨0, 1, 0, -1⟩, ⟨0, 1, 0, 0⟩, ⟨0, 1, 0, 1⟩, ⟨0, 1, 1, 0⟩, ⟨1, -1, -1, -1⟩, ⟨1, -1, -1, 1⟩, ⟨1, -1, 0, 0⟩, ⟨1, -1, 1, -1⟩, ⟨1, -1, 1, 1⟩, ⟨1, 0, -1, 0⟩, ⟨1, 0, 0, -1⟩, ⟨1, 0, 0, 0⟩, ⟨1, 0, 0, 1⟩, ⟨1, 0, 1, 0⟩, ⟨1, 1, -1, -1⟩, ⟨1, 1, -1, 1⟩, ⟨1, 1, 0, 0⟩, ⟨1, 1, 1, -1⟩, ⟨1, 1, 1, 1⟩] := by decide +kernel
  rw [e] at h
  simpa only [List.mem_cons, List.not_mem_nil, or_false] using h
theorem tQ_conj {c : Q4} (t : Q4) (h : c ∈ cubeL) : tQ (mulQ (mulQ c t) (bakQ c)) = sQ (nrmQ c) (tQ t) := by
  have e : sQ (nrmQ c) (tQ t) = tQ (sQ (nrmQ c) t) := by
    rw [tQ_sQ]
    have := (of_decide_eq_true (List.all_eq_true.mp f_cub.1 c h)).1
    rw [show ab (nrmQ c) = nrmQ c by unfold ab; omega]
  rw [e]
  rcases cube24 h with rfl | rfl | rfl | rfl | rfl | rfl | rfl | rfl | rfl | rfl | rfl | rfl | rfl | rfl | rfl | rfl | rfl | rfl | rfl | rfl | rfl | rfl | rfl | rfl
  · exact tQ_same 0 (by simp only [P6, mulQ, bakQ, sQ, nrmQ, ab]; omega)
  · exact tQ_same 1 (by simp only [P6, mulQ, bakQ, sQ, nrmQ, ab]; omega)
  · exact tQ_same 0 (by simp only [P6, mulQ, bakQ, sQ, nrmQ, ab]; omega)
  · exact tQ_same 1 (by simp only [P6, mulQ, bakQ, sQ, nrmQ, ab]; omega)
  · exact tQ_same 2 (by simp only [P6, mulQ, bakQ, sQ, nrmQ, ab]; omega)
  · exact tQ_same 5 (by simp only [P6, mulQ, bakQ, sQ, nrmQ, ab]; omega)
  · exact tQ_same 0 (by simp only [P6, mulQ, bakQ, sQ, nrmQ, ab]; omega)
  · exact tQ_same 5 (by simp only [P6, mulQ, bakQ, sQ, nrmQ, ab]; omega)
  · exact tQ_same 2 (by simp only [P6, mulQ, bakQ, sQ, nrmQ, ab]; omega)
  · exact tQ_same 3 (by simp only [P6, mulQ, bakQ, sQ, nrmQ, ab]; omega)
  · exact tQ_same 4 (by simp only [P6, mulQ, bakQ, sQ, nrmQ, ab]; omega)
  · exact tQ_same 1 (by simp only [P6, mulQ, bakQ, sQ, nrmQ, ab]; omega)
  · exact tQ_same 4 (by simp only [P6, mulQ, bakQ, sQ, nrmQ, ab]; omega)
  · exact tQ_same 3 (by simp only [P6, mulQ, bakQ, sQ, nrmQ, ab]; omega)
  · exact tQ_same 5 (by simp only [P6, mulQ, bakQ, sQ, nrmQ, ab]; omega)
  · exact tQ_same 2 (by simp only [P6, mulQ, bakQ, sQ, nrmQ, ab]; omega)
  · exact tQ_same 0 (by simp only [P6, mulQ, bakQ, sQ, nrmQ, ab]; omega)
  · exact tQ_same 2 (by simp only [P6, mulQ, bakQ, sQ, nrmQ, ab]; omega)
  · exact tQ_same 5 (by simp only [P6, mulQ, bakQ, sQ, nrmQ, ab]; omega)
  · exact tQ_same 4 (by simp only [P6, mulQ, bakQ, sQ, nrmQ, ab]; omega)
  · exact tQ_same 3 (by simp only [P6, mulQ, bakQ, sQ, nrmQ, ab]; omega)
  · exact tQ_same 1 (by simp only [P6, mulQ, bakQ, sQ, nrmQ, ab]; omega)
  · exact tQ_same 3 (by simp only [P6, mulQ, bakQ, sQ, nrmQ, ab]; omega)
  · exact tQ_same 4 (by simp only [P6, mulQ, bakQ, sQ, nrmQ, ab]; omega)
/-- the last three sorted and without signs, by a cube rotation and a sign -/
theorem sort3 (t : Q4) : ∃ c ∈ cubeL, ∃ (s x y z : Int), (s = 1 ∨ s = -1) ∧ sA [t.b, t.c, t.d] = [x, y, z] ∧ mulQ (mulQ c t) (bakQ c) = sQ (nrmQ c) ⟨t.a, s * x, s * y, s * z⟩ := by
  obtain ⟨a, b, c, d⟩ := t
  have go : ∀ (m : Q4) (hm : m ∈ cubeL) (k : Nat) (s x y z : Int), (s = 1 ∨ s = -1) → P6 k ⟨a, b, c, d⟩ ⟨a, x, y, z⟩ → y ≤ x → z ≤ y → 0 ≤ z → mulQ (mulQ m ⟨a, b, c, d⟩) (bakQ m) = sQ (nrmQ m) ⟨a, s * x, s * y, s * z⟩ → ∃ m ∈ cubeL, ∃ (s x y z : Int), (s = 1 ∨ s = -1) ∧ sA [b, c, d] = [x, y, z] ∧ mulQ (mulQ m ⟨a, b, c, d⟩) (bakQ m) = sQ (nrmQ m) ⟨a, s * x, s * y, s * z⟩ := fun m hm k s x y z hs h6 h1 h2 h3 e => by
    refine ⟨m, hm, s, x, y, z, hs, ?_, e⟩
    have h4 := tQ_same k h6
    obtain ⟨u, v, w, hu⟩ := sA_3 b c d
    rw [tQ_of (p := ⟨a, b, c, d⟩) hu, tQ_of (p := ⟨a, x, y, z⟩) (sA_fix3 h1 h2 h3)] at h4
    injection h4 with _ g1 g2 g3
    rw [hu, g1, g2, g3]
  rcases Int.le_total 0 b with hb | hb <;> rcases Int.le_total 0 c with hc | hc <;> rcases Int.le_total 0 d with hd | hd
  · rcases Int.le_total (b) (c) with h1 | h1 <;> rcases Int.le_total (b) (d) with h2 | h2 <;> rcases Int.le_total (c) (d) with h3 | h3
    · exact go ⟨0, 1, 0, -1⟩ (by decide +kernel) 5 (-1) (d) (c) (b) (.inr rfl) (by simp only [P6, ab, true_and, and_true] <;> omega) (by omega) (by omega) (by omega) (q4x (by simp only [mulQ, bakQ, sQ, nrmQ]; omega) (by simp only [mulQ, bakQ, sQ, nrmQ]; omega) (by simp only [mulQ, bakQ, sQ, nrmQ]; omega) (by simp only [mulQ, bakQ, sQ, nrmQ]; omega))
    · exact go ⟨1, -1, -1, -1⟩ (by decide +kernel) 4 1 (c) (d) (b) (.inl rfl) (by simp only [P6, ab, true_and, and_true] <;> omega) (by omega) (by omega) (by omega) (q4x (by simp only [mulQ, bakQ, sQ, nrmQ]; omega) (by simp only [mulQ, bakQ, sQ, nrmQ]; omega) (by simp only [mulQ, bakQ, sQ, nrmQ]; omega) (by simp only [mulQ, bakQ, sQ, nrmQ]; omega))
    · exact go ⟨0, 0, 1, -1⟩ (by decide +kernel) 1 (-1) (b) (d) (c) (.inr rfl) (by simp only [P6, ab, true_and, and_true] <;> omega) (by omega) (by omega) (by omega) (q4x (by simp only [mulQ, bakQ, sQ, nrmQ]; omega) (by simp only [mulQ, bakQ, sQ, nrmQ]; omega) (by simp only [mulQ, bakQ, sQ, nrmQ]; omega) (by simp only [mulQ, bakQ, sQ, nrmQ]; omega))
    · exact go ⟨0, 1, -1, 0⟩ (by decide +kernel) 2 (-1) (c) (b) (d) (.inr rfl) (by simp only [P6, ab, true_and, and_true] <;> omega) (by omega) (by omega) (by omega) (q4x (by simp only [mulQ, bakQ, sQ, nrmQ]; omega) (by simp only [mulQ, bakQ, sQ, nrmQ]; omega) (by simp only [mulQ, bakQ, sQ, nrmQ]; omega) (by simp only [mulQ, bakQ, sQ, nrmQ]; omega))
    · exact go ⟨1, 1, 1, 1⟩ (by decide +kernel) 3 1 (d) (b) (c) (.inl rfl) (by simp only [P6, ab, true_and, and_true] <;> omega) (by omega) (by omega) (by omega) (q4x (by simp only [mulQ, bakQ, sQ, nrmQ]; omega) (by simp only [mulQ, bakQ, sQ, nrmQ]; omega) (by simp only [mulQ, bakQ, sQ, nrmQ]; omega) (by simp only [mulQ, bakQ, sQ, nrmQ]; omega))
    · exact go ⟨1, 0, 0, 0⟩ (by decide +kernel) 0 1 (b) (c) (d) (.inl rfl) (by simp only [P6, ab, true_and, and_true] <;> omega) (by omega) (by omega) (by omega) (q4x (by simp only [mulQ, bakQ, sQ, nrmQ]; omega) (by simp only [mulQ, bakQ, sQ, nrmQ]; omega) (by simp only [mulQ, bakQ, sQ, nrmQ]; omega) (by simp only [mulQ, bakQ, sQ, nrmQ]; omega))
    · exact go ⟨0, 0, 1, -1⟩ (by decide +kernel) 1 (-1) (b) (d) (c) (.inr rfl) (by simp only [P6, ab, true_and, and_true] <;> omega) (by omega) (by omega) (by omega) (q4x (by simp only [mulQ, bakQ, sQ, nrmQ]; omega) (by simp only [mulQ, bakQ, sQ, nrmQ]; omega) (by simp only [mulQ, bakQ, sQ, nrmQ]; omega) (by simp only [mulQ, bakQ, sQ, nrmQ]; omega))
    · exact go ⟨1, 0, 0, 0⟩ (by decide +kernel) 0 1 (b) (c) (d) (.inl rfl) (by simp only [P6, ab, true_and, and_true] <;> omega) (by omega) (by omega) (by omega) (q4x (by simp only [mulQ, bakQ, sQ, nrmQ]; omega) (by simp only [mulQ, bakQ, sQ, nrmQ]; omega) (by simp only [mulQ, bakQ, sQ, nrmQ]; omega) (by simp only [mulQ, bakQ, sQ, nrmQ]; omega))
  · rcases Int.le_total (b) (c) with h1 | h1 <;> rcases Int.le_total (b) (-d) with h2 | h2 <;> rcases Int.le_total (c) (-d) with h3 | h3
    · exact go ⟨1, 0, -1, 0⟩ (by decide +kernel) 5 1 (-d) (c) (b) (.inl rfl) (by simp only [P6, ab, true_and, and_true] <;> omega) (by omega) (by omega) (by omega) (q4x (by simp only [mulQ, bakQ, sQ, nrmQ]; omega) (by simp only [mulQ, bakQ, sQ, nrmQ]; omega) (by simp only [mulQ, bakQ, sQ, nrmQ]; omega) (by simp only [mulQ, bakQ, sQ, nrmQ]; omega))
    · exact go ⟨1, -1, 1, 1⟩ (by decide +kernel) 4 (-1) (c) (-d) (b) (.inr rfl) (by simp only [P6, ab, true_and, and_true] <;> omega) (by omega) (by omega) (by omega) (q4x (by simp only [mulQ, bakQ, sQ, nrmQ]; omega) (by simp only [mulQ, bakQ, sQ, nrmQ]; omega) (by simp only [mulQ, bakQ, sQ, nrmQ]; omega) (by simp only [mulQ, bakQ, sQ, nrmQ]; omega))
    · exact go ⟨1, 1, 0, 0⟩ (by decide +kernel) 1 1 (b) (-d) (c) (.inl rfl) (by simp only [P6, ab, true_and, and_true] <;> omega) (by omega) (by omega) (by omega) (q4x (by simp only [mulQ, bakQ, sQ, nrmQ]; omega) (by simp only [mulQ, bakQ, sQ, nrmQ]; omega) (by simp only [mulQ, bakQ, sQ, nrmQ]; omega) (by simp only [mulQ, bakQ, sQ, nrmQ]; omega))
    · exact go ⟨0, 1, 1, 0⟩ (by decide +kernel) 2 1 (c) (b) (-d) (.inl rfl) (by simp only [P6, ab, true_and, and_true] <;> omega) (by omega) (by omega) (by omega) (q4x (by simp only [mulQ, bakQ, sQ, nrmQ]; omega) (by simp only [mulQ, bakQ, sQ, nrmQ]; omega) (by simp only [mulQ, bakQ, sQ, nrmQ]; omega) (by simp only [mulQ, bakQ, sQ, nrmQ]; omega))
    · exact go ⟨1, -1, 1, -1⟩ (by decide +kernel) 3 (-1) (-d) (b) (c) (.inr rfl) (by simp only [P6, ab, true_and, and_true] <;> omega) (by omega) (by omega) (by omega) (q4x (by simp only [mulQ, bakQ, sQ, nrmQ]; omega) (by simp only [mulQ, bakQ, sQ, nrmQ]; omega) (by simp only [mulQ, bakQ, sQ, nrmQ]; omega) (by simp only [mulQ, bakQ, sQ, nrmQ]; omega))
    · exact go ⟨0, 0, 0, 1⟩ (by decide +kernel) 0 (-1) (b) (c) (-d) (.inr rfl) (by simp only [P6, ab, true_and, and_true] <;> omega) (by omega) (by omega) (by omega) (q4x (by simp only [mulQ, bakQ, sQ, nrmQ]; omega) (by simp only [mulQ, bakQ, sQ, nrmQ]; omega) (by simp only [mulQ, bakQ, sQ, nrmQ]; omega) (by simp only [mulQ, bakQ, sQ, nrmQ]; omega))
    · exact go ⟨1, 1, 0, 0⟩ (by decide +kernel) 1 1 (b) (-d) (c) (.inl rfl) (by simp only [P6, ab, true_and, and_true] <;> omega) (by omega) (by omega) (by omega) (q4x (by simp only [mulQ, bakQ, sQ, nrmQ]; omega) (by simp only [mulQ, bakQ, sQ, nrmQ]; omega) (by simp only [mulQ, bakQ, sQ, nrmQ]; omega) (by simp only [mulQ, bakQ, sQ, nrmQ]; omega))
    · exact go ⟨0, 0, 0, 1⟩ (by decide +kernel) 0 (-1) (b) (c) (-d) (.inr rfl) (by simp only [P6, ab, true_and, and_true] <;> omega) (by omega) (by omega) (by omega) (q4x (by simp only [mulQ, bakQ, sQ, nrmQ]; omega) (by simp only [mulQ, bakQ, sQ, nrmQ]; omega) (by simp only [mulQ, bakQ, sQ, nrmQ]; omega) (by simp only [mulQ, bakQ, sQ, nrmQ]; omega))
  · rcases Int.le_total (b) (-c) with h1 | h1 <;> rcases Int.le_total (b) (d) with h2 | h2 <;> rcases Int.le_total (-c) (d) with h3 | h3
    · exact go ⟨0, 1, 0, 1⟩ (by decide +kernel) 5 1 (d) (-c) (b) (.inl rfl) (by simp only [P6, ab, true_and, and_true] <;> omega) (by omega) (by omega) (by omega) (q4x (by simp only [mulQ, bakQ, sQ, nrmQ]; omega) (by simp only [mulQ, bakQ, sQ, nrmQ]; omega) (by simp only [mulQ, bakQ, sQ, nrmQ]; omega) (by simp only [mulQ, bakQ, sQ, nrmQ]; omega))
    · exact go ⟨1, 1, 1, -1⟩ (by decide +kernel) 4 (-1) (-c) (d) (b) (.inr rfl) (by simp only [P6, ab, true_and, and_true] <;> omega) (by omega) (by omega) (by omega) (q4x (by simp only [mulQ, bakQ, sQ, nrmQ]; omega) (by simp only [mulQ, bakQ, sQ, nrmQ]; omega) (by simp only [mulQ, bakQ, sQ, nrmQ]; omega) (by simp only [mulQ, bakQ, sQ, nrmQ]; omega))
    · exact go ⟨1, -1, 0, 0⟩ (by decide +kernel) 1 1 (b) (d) (-c) (.inl rfl) (by simp only [P6, ab, true_and, and_true] <;> omega) (by omega) (by omega) (by omega) (q4x (by simp only [mulQ, bakQ, sQ, nrmQ]; omega) (by simp only [mulQ, bakQ, sQ, nrmQ]; omega) (by simp only [mulQ, bakQ, sQ, nrmQ]; omega) (by simp only [mulQ, bakQ, sQ, nrmQ]; omega))
    · exact go ⟨1, 0, 0, 1⟩ (by decide +kernel) 2 1 (-c) (b) (d) (.inl rfl) (by simp only [P6, ab, true_and, and_true] <;> omega) (by omega) (by omega) (by omega) (q4x (by simp only [mulQ, bakQ, sQ, nrmQ]; omega) (by simp only [mulQ, bakQ, sQ, nrmQ]; omega) (by simp only [mulQ, bakQ, sQ, nrmQ]; omega) (by simp only [mulQ, bakQ, sQ, nrmQ]; omega))
    · exact go ⟨1, 1, -1, -1⟩ (by decide +kernel) 3 (-1) (d) (b) (-c) (.inr rfl) (by simp only [P6, ab, true_and, and_true] <;> omega) (by omega) (by omega) (by omega) (q4x (by simp only [mulQ, bakQ, sQ, nrmQ]; omega) (by simp only [mulQ, bakQ, sQ, nrmQ]; omega) (by simp only [mulQ, bakQ, sQ, nrmQ]; omega) (by simp only [mulQ, bakQ, sQ, nrmQ]; omega))
    · exact go ⟨0, 0, 1, 0⟩ (by decide +kernel) 0 (-1) (b) (-c) (d) (.inr rfl) (by simp only [P6, ab, true_and, and_true] <;> omega) (by omega) (by omega) (by omega) (q4x (by simp only [mulQ, bakQ, sQ, nrmQ]; omega) (by simp only [mulQ, bakQ, sQ, nrmQ]; omega) (by simp only [mulQ, bakQ, sQ, nrmQ]; omega) (by simp only [mulQ, bakQ, sQ, nrmQ]; omega))
    · exact go ⟨1, -1, 0, 0⟩ (by decide +kernel) 1 1 (b) (d) (-c) (.inl rfl) (by simp only [P6, ab, true_and, and_true] <;> omega) (by omega) (by omega) (by omega) (q4x (by simp only [mulQ, bakQ, sQ, nrmQ]; omega) (by simp only [mulQ, bakQ, sQ, nrmQ]; omega) (by simp only [mulQ, bakQ, sQ, nrmQ]; omega) (by simp only [mulQ, bakQ, sQ, nrmQ]; omega))
    · exact go ⟨0, 0, 1, 0⟩ (by decide +kernel) 0 (-1) (b) (-c) (d) (.inr rfl) (by simp only [P6, ab, true_and, and_true] <;> omega) (by omega) (by omega) (by omega) (q4x (by simp only [mulQ, bakQ, sQ, nrmQ]; omega) (by simp only [mulQ, bakQ, sQ, nrmQ]; omega) (by simp only [mulQ, bakQ, sQ, nrmQ]; omega) (by simp only [mulQ, bakQ, sQ, nrmQ]; omega))
  · rcases Int.le_total (b) (-c) with h1 | h1 <;> rcases Int.le_total (b) (-d) with h2 | h2 <;> rcases Int.le_total (-c) (-d) with h3 | h3
    · exact go ⟨1, 0, 1, 0⟩ (by decide +kernel) 5 (-1) (-d) (-c) (b) (.inr rfl) (by simp only [P6, ab, true_and, and_true] <;> omega) (by omega) (by omega) (by omega) (q4x (by simp only [mulQ, bakQ, sQ, nrmQ]; omega) (by simp only [mulQ, bakQ, sQ, nrmQ]; omega) (by simp only [mulQ, bakQ, sQ, nrmQ]; omega) (by simp only [mulQ, bakQ, sQ, nrmQ]; omega))
    · exact go ⟨1, 1, -1, 1⟩ (by decide +kernel) 4 1 (-c) (-d) (b) (.inl rfl) (by simp only [P6, ab, true_and, and_true] <;> omega) (by omega) (by omega) (by omega) (q4x (by simp only [mulQ, bakQ, sQ, nrmQ]; omega) (by simp only [mulQ, bakQ, sQ, nrmQ]; omega) (by simp only [mulQ, bakQ, sQ, nrmQ]; omega) (by simp only [mulQ, bakQ, sQ, nrmQ]; omega))
    · exact go ⟨0, 0, 1, 1⟩ (by decide +kernel) 1 (-1) (b) (-d) (-c) (.inr rfl) (by simp only [P6, ab, true_and, and_true] <;> omega) (by omega) (by omega) (by omega) (q4x (by simp only [mulQ, bakQ, sQ, nrmQ]; omega) (by simp only [mulQ, bakQ, sQ, nrmQ]; omega) (by simp only [mulQ, bakQ, sQ, nrmQ]; omega) (by simp only [mulQ, bakQ, sQ, nrmQ]; omega))
    · exact go ⟨1, 0, 0, -1⟩ (by decide +kernel) 2 (-1) (-c) (b) (-d) (.inr rfl) (by simp only [P6, ab, true_and, and_true] <;> omega) (by omega) (by omega) (by omega) (q4x (by simp only [mulQ, bakQ, sQ, nrmQ]; omega) (by simp only [mulQ, bakQ, sQ, nrmQ]; omega) (by simp only [mulQ, bakQ, sQ, nrmQ]; omega) (by simp only [mulQ, bakQ, sQ, nrmQ]; omega))
    · exact go ⟨1, -1, -1, 1⟩ (by decide +kernel) 3 1 (-d) (b) (-c) (.inl rfl) (by simp only [P6, ab, true_and, and_true] <;> omega) (by omega) (by omega) (by omega) (q4x (by simp only [mulQ, bakQ, sQ, nrmQ]; omega) (by simp only [mulQ, bakQ, sQ, nrmQ]; omega) (by simp only [mulQ, bakQ, sQ, nrmQ]; omega) (by simp only [mulQ, bakQ, sQ, nrmQ]; omega))
    · exact go ⟨0, 1, 0, 0⟩ (by decide +kernel) 0 1 (b) (-c) (-d) (.inl rfl) (by simp only [P6, ab, true_and, and_true] <;> omega) (by omega) (by omega) (by omega) (q4x (by simp only [mulQ, bakQ, sQ, nrmQ]; omega) (by simp only [mulQ, bakQ, sQ, nrmQ]; omega) (by simp only [mulQ, bakQ, sQ, nrmQ]; omega) (by simp only [mulQ, bakQ, sQ, nrmQ]; omega))
    · exact go ⟨0, 0, 1, 1⟩ (by decide +kernel) 1 (-1) (b) (-d) (-c) (.inr rfl) (by simp only [P6, ab, true_and, and_true] <;> omega) (by omega) (by omega) (by omega) (q4x (by simp only [mulQ, bakQ, sQ, nrmQ]; omega) (by simp only [mulQ, bakQ, sQ, nrmQ]; omega) (by simp only [mulQ, bakQ, sQ, nrmQ]; omega) (by simp only [mulQ, bakQ, sQ, nrmQ]; omega))
    · exact go ⟨0, 1, 0, 0⟩ (by decide +kernel) 0 1 (b) (-c) (-d) (.inl rfl) (by simp only [P6, ab, true_and, and_true] <;> omega) (by omega) (by omega) (by omega) (q4x (by simp only [mulQ, bakQ, sQ, nrmQ]; omega) (by simp only [mulQ, bakQ, sQ, nrmQ]; omega) (by simp only [mulQ, bakQ, sQ, nrmQ]; omega) (by simp only [mulQ, bakQ, sQ, nrmQ]; omega))
  · rcases Int.le_total (-b) (c) with h1 | h1 <;> rcases Int.le_total (-b) (d) with h2 | h2 <;> rcases Int.le_total (c) (d) with h3 | h3
    · exact go ⟨1, 0, 1, 0⟩ (by decide +kernel) 5 1 (d) (c) (-b) (.inl rfl) (by simp only [P6, ab, true_and, and_true] <;> omega) (by omega) (by omega) (by omega) (q4x (by simp only [mulQ, bakQ, sQ, nrmQ]; omega) (by simp only [mulQ, bakQ, sQ, nrmQ]; omega) (by simp only [mulQ, bakQ, sQ, nrmQ]; omega) (by simp only [mulQ, bakQ, sQ, nrmQ]; omega))
    · exact go ⟨1, 1, -1, 1⟩ (by decide +kernel) 4 (-1) (c) (d) (-b) (.inr rfl) (by simp only [P6, ab, true_and, and_true] <;> omega) (by omega) (by omega) (by omega) (q4x (by simp only [mulQ, bakQ, sQ, nrmQ]; omega) (by simp only [mulQ, bakQ, sQ, nrmQ]; omega) (by simp only [mulQ, bakQ, sQ, nrmQ]; omega) (by simp only [mulQ, bakQ, sQ, nrmQ]; omega))
    · exact go ⟨0, 0, 1, 1⟩ (by decide +kernel) 1 1 (-b) (d) (c) (.inl rfl) (by simp only [P6, ab, true_and, and_true] <;> omega) (by omega) (by omega) (by omega) (q4x (by simp only [mulQ, bakQ, sQ, nrmQ]; omega) (by simp only [mulQ, bakQ, sQ, nrmQ]; omega) (by simp only [mulQ, bakQ, sQ, nrmQ]; omega) (by simp only [mulQ, bakQ, sQ, nrmQ]; omega))
    · exact go ⟨1, 0, 0, -1⟩ (by decide +kernel) 2 1 (c) (-b) (d) (.inl rfl) (by simp only [P6, ab, true_and, and_true] <;> omega) (by omega) (by omega) (by omega) (q4x (by simp only [mulQ, bakQ, sQ, nrmQ]; omega) (by simp only [mulQ, bakQ, sQ, nrmQ]; omega) (by simp only [mulQ, bakQ, sQ, nrmQ]; omega) (by simp only [mulQ, bakQ, sQ, nrmQ]; omega))
    · exact go ⟨1, -1, -1, 1⟩ (by decide +kernel) 3 (-1) (d) (-b) (c) (.inr rfl) (by simp only [P6, ab, true_and, and_true] <;> omega) (by omega) (by omega) (by omega) (q4x (by simp only [mulQ, bakQ, sQ, nrmQ]; omega) (by simp only [mulQ, bakQ, sQ, nrmQ]; omega) (by simp only [mulQ, bakQ, sQ, nrmQ]; omega) (by simp only [mulQ, bakQ, sQ, nrmQ]; omega))
    · exact go ⟨0, 1, 0, 0⟩ (by decide +kernel) 0 (-1) (-b) (c) (d) (.inr rfl) (by simp only [P6, ab, true_and, and_true] <;> omega) (by omega) (by omega) (by omega) (q4x (by simp only [mulQ, bakQ, sQ, nrmQ]; omega) (by simp only [mulQ, bakQ, sQ, nrmQ]; omega) (by simp only [mulQ, bakQ, sQ, nrmQ]; omega) (by simp only [mulQ, bakQ, sQ, nrmQ]; omega))
    · exact go ⟨0, 0, 1, 1⟩ (by decide +kernel) 1 1 (-b) (d) (c) (.inl rfl) (by simp only [P6, ab, true_and, and_true] <;> omega) (by omega) (by omega) (by omega) (q4x (by simp only [mulQ, bakQ, sQ, nrmQ]; omega) (by simp only [mulQ, bakQ, sQ, nrmQ]; omega) (by simp only [mulQ, bakQ, sQ, nrmQ]; omega) (by simp only [mulQ, bakQ, sQ, nrmQ]; omega))
    · exact go ⟨0, 1, 0, 0⟩ (by decide +kernel) 0 (-1) (-b) (c) (d) (.inr rfl) (by simp only [P6, ab, true_and, and_true] <;> omega) (by omega) (by omega) (by omega) (q4x (by simp only [mulQ, bakQ, sQ, nrmQ]; omega) (by simp only [mulQ, bakQ, sQ, nrmQ]; omega) (by simp only [mulQ, bakQ, sQ, nrmQ]; omega) (by simp only [mulQ, bakQ, sQ, nrmQ]; omega))
  · rcases Int.le_total (-b) (c) with h1 | h1 <;> rcases Int.le_total (-b) (-d) with h2 | h2 <;> rcases Int.le_total (c) (-d) with h3 | h3
    · exact go ⟨0, 1, 0, 1⟩ (by decide +kernel) 5 (-1) (-d) (c) (-b) (.inr rfl) (by simp only [P6, ab, true_and, and_true] <;> omega) (by omega) (by omega) (by omega) (q4x (by simp only [mulQ, bakQ, sQ, nrmQ]; omega) (by simp only [mulQ, bakQ, sQ, nrmQ]; omega) (by simp only [mulQ, bakQ, sQ, nrmQ]; omega) (by simp only [mulQ, bakQ, sQ, nrmQ]; omega))
    · exact go ⟨1, 1, 1, -1⟩ (by decide +kernel) 4 1 (c) (-d) (-b) (.inl rfl) (by simp only [P6, ab, true_and, and_true] <;> omega) (by omega) (by omega) (by omega) (q4x (by simp only [mulQ, bakQ, sQ, nrmQ]; omega) (by simp only [mulQ, bakQ, sQ, nrmQ]; omega) (by simp only [mulQ, bakQ, sQ, nrmQ]; omega) (by simp only [mulQ, bakQ, sQ, nrmQ]; omega))
    · exact go ⟨1, -1, 0, 0⟩ (by decide +kernel) 1 (-1) (-b) (-d) (c) (.inr rfl) (by simp only [P6, ab, true_and, and_true] <;> omega) (by omega) (by omega) (by omega) (q4x (by simp only [mulQ, bakQ, sQ, nrmQ]; omega) (by simp only [mulQ, bakQ, sQ, nrmQ]; omega) (by simp only [mulQ, bakQ, sQ, nrmQ]; omega) (by simp only [mulQ, bakQ, sQ, nrmQ]; omega))
    · exact go ⟨1, 0, 0, 1⟩ (by decide +kernel) 2 (-1) (c) (-b) (-d) (.inr rfl) (by simp only [P6, ab, true_and, and_true] <;> omega) (by omega) (by omega) (by omega) (q4x (by simp only [mulQ, bakQ, sQ, nrmQ]; omega) (by simp only [mulQ, bakQ, sQ, nrmQ]; omega) (by simp only [mulQ, bakQ, sQ, nrmQ]; omega) (by simp only [mulQ, bakQ, sQ, nrmQ]; omega))
    · exact go ⟨1, 1, -1, -1⟩ (by decide +kernel) 3 1 (-d) (-b) (c) (.inl rfl) (by simp only [P6, ab, true_and, and_true] <;> omega) (by omega) (by omega) (by omega) (q4x (by simp only [mulQ, bakQ, sQ, nrmQ]; omega) (by simp only [mulQ, bakQ, sQ, nrmQ]; omega) (by simp only [mulQ, bakQ, sQ, nrmQ]; omega) (by simp only [mulQ, bakQ, sQ, nrmQ]; omega))
    · exact go ⟨0, 0, 1, 0⟩ (by decide +kernel) 0 1 (-b) (c) (-d) (.inl rfl) (by simp only [P6, ab, true_and, and_true] <;> omega) (by omega) (by omega) (by omega) (q4x (by simp only [mulQ, bakQ, sQ, nrmQ]; omega) (by simp only [mulQ, bakQ, sQ, nrmQ]; omega) (by simp only [mulQ, bakQ, sQ, nrmQ]; omega) (by simp only [mulQ, bakQ, sQ, nrmQ]; omega))
    · exact go ⟨1, -1, 0, 0⟩ (by decide +kernel) 1 (-1) (-b) (-d) (c) (.inr rfl) (by simp only [P6, ab, true_and, and_true] <;> omega) (by omega) (by omega) (by omega) (q4x (by simp only [mulQ, bakQ, sQ, nrmQ]; omega) (by simp only [mulQ, bakQ, sQ, nrmQ]; omega) (by simp only [mulQ, bakQ, sQ, nrmQ]; omega) (by simp only [mulQ, bakQ, sQ, nrmQ]; omega))
    · exact go ⟨0, 0, 1, 0⟩ (by decide +kernel) 0 1 (-b) (c) (-d) (.inl rfl) (by simp only [P6, ab, true_and, and_true] <;> omega) (by omega) (by omega) (by omega) (q4x (by simp only [mulQ, bakQ, sQ, nrmQ]; omega) (by simp only [mulQ, bakQ, sQ, nrmQ]; omega) (by simp only [mulQ, bakQ, sQ, nrmQ]; omega) (by simp only [mulQ, bakQ, sQ, nrmQ]; omega))
  · rcases Int.le_total (-b) (-c) with h1 | h1 <;> rcases Int.le_total (-b) (d) with h2 | h2 <;> rcases Int.le_total (-c) (d) with h3 | h3
    · exact go ⟨1, 0, -1, 0⟩ (by decide +kernel) 5 (-1) (d) (-c) (-b) (.inr rfl) (by simp only [P6, ab, true_and, and_true] <;> omega) (by omega) (by omega) (by omega) (q4x (by simp only [mulQ, bakQ, sQ, nrmQ]; omega) (by simp only [mulQ, bakQ, sQ, nrmQ]; omega) (by simp only [mulQ, bakQ, sQ, nrmQ]; omega) (by simp only [mulQ, bakQ, sQ, nrmQ]; omega))
    · exact go ⟨1, -1, 1, 1⟩ (by decide +kernel) 4 1 (-c) (d) (-b) (.inl rfl) (by simp only [P6, ab, true_and, and_true] <;> omega) (by omega) (by omega) (by omega) (q4x (by simp only [mulQ, bakQ, sQ, nrmQ]; omega) (by simp only [mulQ, bakQ, sQ, nrmQ]; omega) (by simp only [mulQ, bakQ, sQ, nrmQ]; omega) (by simp only [mulQ, bakQ, sQ, nrmQ]; omega))
    · exact go ⟨1, 1, 0, 0⟩ (by decide +kernel) 1 (-1) (-b) (d) (-c) (.inr rfl) (by simp only [P6, ab, true_and, and_true] <;> omega) (by omega) (by omega) (by omega) (q4x (by simp only [mulQ, bakQ, sQ, nrmQ]; omega) (by simp only [mulQ, bakQ, sQ, nrmQ]; omega) (by simp only [mulQ, bakQ, sQ, nrmQ]; omega) (by simp only [mulQ, bakQ, sQ, nrmQ]; omega))
    · exact go ⟨0, 1, 1, 0⟩ (by decide +kernel) 2 (-1) (-c) (-b) (d) (.inr rfl) (by simp only [P6, ab, true_and, and_true] <;> omega) (by omega) (by omega) (by omega) (q4x (by simp only [mulQ, bakQ, sQ, nrmQ]; omega) (by simp only [mulQ, bakQ, sQ, nrmQ]; omega) (by simp only [mulQ, bakQ, sQ, nrmQ]; omega) (by simp only [mulQ, bakQ, sQ, nrmQ]; omega))
    · exact go ⟨1, -1, 1, -1⟩ (by decide +kernel) 3 1 (d) (-b) (-c) (.inl rfl) (by simp only [P6, ab, true_and, and_true] <;> omega) (by omega) (by omega) (by omega) (q4x (by simp only [mulQ, bakQ, sQ, nrmQ]; omega) (by simp only [mulQ, bakQ, sQ, nrmQ]; omega) (by simp only [mulQ, bakQ, sQ, nrmQ]; omega) (by simp only [mulQ, bakQ, sQ, nrmQ]; omega))
    · exact go ⟨0, 0, 0, 1⟩ (by decide +kernel) 0 1 (-b) (-c) (d) (.inl rfl) (by simp only [P6, ab, true_and, and_true] <;> omega) (by omega) (by omega) (by omega) (q4x (by simp only [mulQ, bakQ, sQ, nrmQ]; omega) (by simp only [mulQ, bakQ, sQ, nrmQ]; omega) (by simp only [mulQ, bakQ, sQ, nrmQ]; omega) (by simp only [mulQ, bakQ, sQ, nrmQ]; omega))
    · exact go ⟨1, 1, 0, 0⟩ (by decide +kernel) 1 (-1) (-b) (d) (-c) (.inr rfl) (by simp only [P6, ab, true_and, and_true] <;> omega) (by omega) (by omega) (by omega) (q4x (by simp only [mulQ, bakQ, sQ, nrmQ]; omega) (by simp only [mulQ, bakQ, sQ, nrmQ]; omega) (by simp only [mulQ, bakQ, sQ, nrmQ]; omega) (by simp only [mulQ, bakQ, sQ, nrmQ]; omega))
    · exact go ⟨0, 0, 0, 1⟩ (by decide +kernel) 0 1 (-b) (-c) (d) (.inl rfl) (by simp only [P6, ab, true_and, and_true] <;> omega) (by omega) (by omega) (by omega) (q4x (by simp only [mulQ, bakQ, sQ, nrmQ]; omega) (by simp only [mulQ, bakQ, sQ, nrmQ]; omega) (by simp only [mulQ, bakQ, sQ, nrmQ]; omega) (by simp only [mulQ, bakQ, sQ, nrmQ]; omega))
  · rcases Int.le_total (-b) (-c) with h1 | h1 <;> rcases Int.le_total (-b) (-d) with h2 | h2 <;> rcases Int.le_total (-c) (-d) with h3 | h3
    · exact go ⟨0, 1, 0, -1⟩ (by decide +kernel) 5 1 (-d) (-c) (-b) (.inl rfl) (by simp only [P6, ab, true_and, and_true] <;> omega) (by omega) (by omega) (by omega) (q4x (by simp only [mulQ, bakQ, sQ, nrmQ]; omega) (by simp only [mulQ, bakQ, sQ, nrmQ]; omega) (by simp only [mulQ, bakQ, sQ, nrmQ]; omega) (by simp only [mulQ, bakQ, sQ, nrmQ]; omega))
    · exact go ⟨1, -1, -1, -1⟩ (by decide +kernel) 4 (-1) (-c) (-d) (-b) (.inr rfl) (by simp only [P6, ab, true_and, and_true] <;> omega) (by omega) (by omega) (by omega) (q4x (by simp only [mulQ, bakQ, sQ, nrmQ]; omega) (by simp only [mulQ, bakQ, sQ, nrmQ]; omega) (by simp only [mulQ, bakQ, sQ, nrmQ]; omega) (by simp only [mulQ, bakQ, sQ, nrmQ]; omega))
    · exact go ⟨0, 0, 1, -1⟩ (by decide +kernel) 1 1 (-b) (-d) (-c) (.inl rfl) (by simp only [P6, ab, true_and, and_true] <;> omega) (by omega) (by omega) (by omega) (q4x (by simp only [mulQ, bakQ, sQ, nrmQ]; omega) (by simp only [mulQ, bakQ, sQ, nrmQ]; omega) (by simp only [mulQ, bakQ, sQ, nrmQ]; omega) (by simp only [mulQ, bakQ, sQ, nrmQ]; omega))
    · exact go ⟨0, 1, -1, 0⟩ (by decide +kernel) 2 1 (-c) (-b) (-d) (.inl rfl) (by simp only [P6, ab, true_and, and_true] <;> omega) (by omega) (by omega) (by omega) (q4x (by simp only [mulQ, bakQ, sQ, nrmQ]; omega) (by simp only [mulQ, bakQ, sQ, nrmQ]; omega) (by simp only [mulQ, bakQ, sQ, nrmQ]; omega) (by simp only [mulQ, bakQ, sQ, nrmQ]; omega))
    · exact go ⟨1, 1, 1, 1⟩ (by decide +kernel) 3 (-1) (-d) (-b) (-c) (.inr rfl) (by simp only [P6, ab, true_and, and_true] <;> omega) (by omega) (by omega) (by omega) (q4x (by simp only [mulQ, bakQ, sQ, nrmQ]; omega) (by simp only [mulQ, bakQ, sQ, nrmQ]; omega) (by simp only [mulQ, bakQ, sQ, nrmQ]; omega) (by simp only [mulQ, bakQ, sQ, nrmQ]; omega))
    · exact go ⟨1, 0, 0, 0⟩ (by decide +kernel) 0 (-1) (-b) (-c) (-d) (.inr rfl) (by simp only [P6, ab, true_and, and_true] <;> omega) (by omega) (by omega) (by omega) (q4x (by simp only [mulQ, bakQ, sQ, nrmQ]; omega) (by simp only [mulQ, bakQ, sQ, nrmQ]; omega) (by simp only [mulQ, bakQ, sQ, nrmQ]; omega) (by simp only [mulQ, bakQ, sQ, nrmQ]; omega))
    · exact go ⟨0, 0, 1, -1⟩ (by decide +kernel) 1 1 (-b) (-d) (-c) (.inl rfl) (by simp only [P6, ab, true_and, and_true] <;> omega) (by omega) (by omega) (by omega) (q4x (by simp only [mulQ, bakQ, sQ, nrmQ]; omega) (by simp only [mulQ, bakQ, sQ, nrmQ]; omega) (by simp only [mulQ, bakQ, sQ, nrmQ]; omega) (by simp only [mulQ, bakQ, sQ, nrmQ]; omega))
    · exact go ⟨1, 0, 0, 0⟩ (by decide +kernel) 0 (-1) (-b) (-c) (-d) (.inr rfl) (by simp only [P6, ab, true_and, and_true] <;> omega) (by omega) (by omega) (by omega) (q4x (by simp only [mulQ, bakQ, sQ, nrmQ]; omega) (by simp only [mulQ, bakQ, sQ, nrmQ]; omega) (by simp only [mulQ, bakQ, sQ, nrmQ]; omega) (by simp only [mulQ, bakQ, sQ, nrmQ]; omega))
end K7
set_option Elab.async false
set_option linter.all false
set_option maxRecDepth 100000
set_option maxHeartbeats 4000000
/-! K13C: shares; what the law's standing list holds. -/
namespace K7
open PySem PySem.Spec PyProof.Rows L2 G
/-! ### shares -/
def LeS (p q : Q4) : Prop := p.a * p.a * nrmQ q ≤ q.a * q.a * nrmQ p
theorem LeS.trans {p q r : Q4} (hq : 0 < nrmQ q) (hp : 0 ≤ nrmQ p) (hr : 0 ≤ nrmQ r) (h1 : LeS p q) (h2 : LeS q r) : LeS p r := by
  unfold LeS at *
  generalize nrmQ p = P at *; generalize nrmQ q = Q at *; generalize nrmQ r = R at *
  generalize p.a * p.a = x at *; generalize q.a * q.a = y at *; generalize r.a * r.a = z at *
  have e1 := Int.mul_le_mul_of_nonneg_right h1 hr
  have e2 := Int.mul_le_mul_of_nonneg_right h2 hp
  refine Int.le_of_mul_le_mul_left (a := Q) ?_ hq
  have q1 : x * Q * R = Q * (x * R) := by grind
  have q2 : y * P * R = y * R * P := by grind
  have q3 : z * Q * P = Q * (z * P) := by grind
  omega
theorem sq_pos {u : Int} (h : u ≠ 0) : 0 < u * u := by
  rcases Int.lt_or_gt_of_ne h with h | h
  · have := Int.mul_pos (show 0 < -u by omega) (show 0 < -u by omega)
    rwa [Int.neg_mul_neg] at this
  · exact Int.mul_pos h h
theorem leS_l {p q : Q4} {u : Int} (h : u ≠ 0) : LeS (sQ u p) q ↔ LeS p q := by
  unfold LeS
  rw [nrm_sQ]
  have e1 : (sQ u p).a * (sQ u p).a * nrmQ q = u * u * (p.a * p.a * nrmQ q) := by unfold sQ; grind
  have e2 : q.a * q.a * (u * u * nrmQ p) = u * u * (q.a * q.a * nrmQ p) := by grind
  rw [e1, e2]
  exact ⟨fun z => Int.le_of_mul_le_mul_left z (sq_pos h), fun z => Int.mul_le_mul_of_nonneg_left z (Int.le_of_lt (sq_pos h))⟩
theorem leS_r {p q : Q4} {u : Int} (h : u ≠ 0) : LeS p (sQ u q) ↔ LeS p q := by
  unfold LeS
  rw [nrm_sQ]
  have e1 : (sQ u q).a * (sQ u q).a * nrmQ p = u * u * (q.a * q.a * nrmQ p) := by unfold sQ; grind
  have e2 : p.a * p.a * (u * u * nrmQ q) = u * u * (p.a * p.a * nrmQ q) := by grind
  rw [e1, e2]
  exact ⟨fun z => Int.le_of_mul_le_mul_left z (sq_pos h), fun z => Int.mul_le_mul_of_nonneg_left z (Int.le_of_lt (sq_pos h))⟩
theorem leS_bl {p q : Q4} : LeS (bakQ p) q ↔ LeS p q := by
  unfold LeS
  rw [nrm_bak]; rfl
theorem leS_br {p q : Q4} : LeS p (bakQ q) ↔ LeS p q := by
  unfold LeS
  rw [nrm_bak]; rfl
theorem ab_sq (x : Int) : ab x * ab x = x * x := Int.natAbs_mul_self
theorem leS_tl {p q : Q4} : LeS (tQ p) q ↔ LeS p q := by
  unfold LeS
  rw [tQ_nrm, (tQ_idem p).2, ab_sq]
theorem leS_tr {p q : Q4} : LeS p (tQ q) ↔ LeS p q := by
  unfold LeS
  rw [tQ_nrm, (tQ_idem q).2, ab_sq]
/-! ### the running best -/
structure Run (ts : List Q4) (st : Sst) : Prop where
  pos : 0 < st.1.2
  top : ∀ t ∈ ts, t.a * t.a * st.1.2 ≤ st.1.1 * nrmQ t
  neg : ts ≠ [] ∨ st = ((-1, 1), [])
  mem : ∀ r, r ∈ st.2 ↔ ∃ t ∈ ts, (r = t ∨ r = bakQ t) ∧ t.a * t.a * st.1.2 = st.1.1 * nrmQ t
  hit : ts ≠ [] → ∃ t ∈ ts, t.a * t.a * st.1.2 = st.1.1 * nrmQ t
theorem run_step {ts : List Q4} {st : Sst} {t : Q4} (h : Run ts st) (hts : ∀ y ∈ ts, 0 < nrmQ y) (ht : 0 < nrmQ t) : Run (ts ++ [t]) (stdS st t) := by
  unfold stdS
  by_cases hc : st.1.1 * nrmQ t < t.a * t.a * st.1.2
  · rw [if_pos hc]
    dsimp only
    rw [if_pos rfl]
    have lt : ∀ y ∈ ts, y.a * y.a * nrmQ t < t.a * t.a * nrmQ y := fun y hy => by
      have h1 := h.top y hy
      have h2 := hts y hy
      have h3 := h.pos
      generalize y.a * y.a = Y at *; generalize t.a * t.a = A at *; generalize nrmQ t = n at *; generalize nrmQ y = m at *
      generalize st.1.2 = b at *; generalize st.1.1 = tp at *
      have e1 := Int.mul_le_mul_of_nonneg_right h1 (Int.le_of_lt ht)
      have e2 := Int.mul_lt_mul_of_pos_right hc h2
      refine Int.lt_of_mul_lt_mul_left (a := b) ?_ (Int.le_of_lt h3)
      have q1 : Y * b * n = b * (Y * n) := by grind
      have q2 : tp * m * n = tp * n * m := by grind
      have q3 : A * b * m = b * (A * m) := by grind
      omega
    refine ⟨ht, fun y hy => ?_, .inl (by simp), fun r => ?_, fun _ => ⟨t, by simp, rfl⟩⟩
    · rcases List.mem_append.mp hy with hy | hy
      · exact Int.le_of_lt (lt y hy)
      · rw [List.mem_singleton.mp hy]; exact Int.le_refl _
    · constructor
      · intro hr
        have hr : r ∈ [] ++ [t, bakQ t] := hr
        simp only [List.nil_append, List.mem_cons, List.not_mem_nil, or_false] at hr
        exact ⟨t, by simp, hr, rfl⟩
      · rintro ⟨y, hy, hr, e⟩
        show r ∈ [] ++ [t, bakQ t]
        rcases List.mem_append.mp hy with hy | hy
        · have e : y.a * y.a * nrmQ t = t.a * t.a * nrmQ y := e
          have := lt y hy
          omega
        · rw [List.mem_singleton.mp hy] at hr
          simpa only [List.nil_append, List.mem_cons, List.not_mem_nil, or_false] using hr
  · rw [if_neg hc]
    dsimp only
    by_cases he : t.a * t.a * st.1.2 = st.1.1 * nrmQ t
    · rw [if_pos he]
      refine ⟨h.pos, fun y hy => ?_, .inl (by simp), fun r => ?_, fun _ => ⟨t, by simp, he⟩⟩
      · rcases List.mem_append.mp hy with hy | hy
        · exact h.top y hy
        · rw [List.mem_singleton.mp hy]; exact Int.le_of_eq he
      · show r ∈ st.2 ++ [t, bakQ t] ↔ _
        rw [List.mem_append, h.mem]
        constructor
        · rintro (⟨y, hy, hr, e⟩ | hr)
          · exact ⟨y, by simp [hy], hr, e⟩
          · simp only [List.mem_cons, List.not_mem_nil, or_false] at hr
            exact ⟨t, by simp, hr, he⟩
        · rintro ⟨y, hy, hr, e⟩
          rcases List.mem_append.mp hy with hy | hy
          · exact .inl ⟨y, hy, hr, e⟩
          · rw [List.mem_singleton.mp hy] at hr
            exact .inr (by simpa only [List.mem_cons, List.not_mem_nil, or_false] using hr)
    · rw [if_neg he]
      have hne : ts ≠ [] := by
        rcases h.neg with z | z
        · exact z
        · rw [z] at hc
          have := sq_nonneg t.a
          dsimp only at hc
          omega
      refine ⟨h.pos, fun y hy => ?_, .inl (by simp), fun r => ?_, fun _ => ?_⟩
      · rcases List.mem_append.mp hy with hy | hy
        · exact h.top y hy
        · rw [List.mem_singleton.mp hy]; omega
      · show r ∈ st.2 ↔ _
        rw [h.mem]
        constructor
        · rintro ⟨y, hy, hr, e⟩
          exact ⟨y, by simp [hy], hr, e⟩
        · rintro ⟨y, hy, hr, e⟩
          rcases List.mem_append.mp hy with hy | hy
          · exact ⟨y, hy, hr, e⟩
          · rw [List.mem_singleton.mp hy] at e
            exact absurd e he
      · obtain ⟨y, hy, e⟩ := h.hit hne
        exact ⟨y, by simp [hy], e⟩
theorem run_fold : ∀ {us ts : List Q4} {st : Sst}, Run ts st → (∀ y ∈ ts, 0 < nrmQ y) → (∀ y ∈ us, 0 < nrmQ y) → Run (ts ++ us) (us.foldl stdS st)
  | [], ts, st, h, _, _ => by rw [List.append_nil]; exact h
  | u :: us, ts, st, h, h1, h2 => by
    rw [List.foldl_cons, show ts ++ u :: us = (ts ++ [u]) ++ us by simp]
    refine run_fold (run_step h h1 (h2 u (List.mem_cons_self ..))) (fun y hy => ?_) fun y hy => h2 y (List.mem_cons_of_mem _ hy)
    rcases List.mem_append.mp hy with hy | hy
    · exact h1 y hy
    · rw [List.mem_singleton.mp hy]; exact h2 u (List.mem_cons_self ..)
/-- all the products -/
def allR (M : Q4) : List Q4 := cubeL.flatMap (rowS M)
theorem mem_allR {M t : Q4} : t ∈ allR M ↔ ∃ f ∈ cubeL, ∃ l ∈ cubeL, t = mulQ (mulQ f M) l := by
  unfold allR rowS
  rw [List.mem_flatMap]
  constructor
  · rintro ⟨f, hf, ht⟩
    obtain ⟨l, hl, rfl⟩ := List.mem_map.mp ht
    exact ⟨f, hf, l, hl, rfl⟩
  · rintro ⟨f, hf, l, hl, rfl⟩
    exact ⟨f, hf, List.mem_map.mpr ⟨l, hl, rfl⟩⟩
theorem cub_nrm {f : Q4} (h : f ∈ cubeL) : 1 ≤ nrmQ f ∧ nrmQ f ≤ 4 := of_decide_eq_true (List.all_eq_true.mp f_cub.1 f h)
theorem allR_pos {M t : Q4} (h : 0 < nrmQ M) (ht : t ∈ allR M) : 0 < nrmQ t := by
  obtain ⟨f, hf, l, hl, rfl⟩ := mem_allR.mp ht
  rw [nrm_mul, nrm_mul]
  exact Int.mul_pos (Int.mul_pos (by have := cub_nrm hf; omega) h) (by have := cub_nrm hl; omega)
theorem run_all {M : Q4} (h : 0 < nrmQ M) : Run (allR M) (stdF M cubeL) := by
  have r0 : Run [] ((-1, 1), []) := ⟨by decide, fun _ z => (nomatch z), .inr rfl, fun r => ⟨fun z => (nomatch z), fun ⟨_, z, _⟩ => (nomatch z)⟩, fun z => absurd rfl z⟩
  have := run_fold (us := allR M) r0 (fun _ z => (nomatch z)) fun y hy => allR_pos h hy
  rw [List.nil_append] at this
  exact this
/-- among all products, those with the greatest share, and their backs -/
theorem mem_best {M : Q4} (h : 0 < nrmQ M) (r : Q4) : r ∈ (stdF M cubeL).2 ↔ ∃ t ∈ allR M, (r = t ∨ r = bakQ t) ∧ ∀ y ∈ allR M, LeS y t := by
  have R := run_all h
  rw [R.mem]
  have hp := R.pos
  have ht := R.top
  have hne : allR M ≠ [] := by
    intro z
    have : mulQ (mulQ ⟨0, 0, 0, 1⟩ M) ⟨0, 0, 0, 1⟩ ∈ allR M := mem_allR.mpr ⟨_, by decide +kernel, _, by decide +kernel, rfl⟩
    rw [z] at this
    exact (nomatch this)
  obtain ⟨x, hx, ex⟩ := R.hit hne
  generalize (stdF M cubeL).1.2 = b at *
  generalize (stdF M cubeL).1.1 = tp at *
  constructor
  · rintro ⟨t, hm, hr, e⟩
    refine ⟨t, hm, hr, fun y hy => ?_⟩
    have h1 := ht y hy
    have n1 := allR_pos h hm
    have n2 := allR_pos h hy
    unfold LeS
    generalize y.a * y.a = Y at *; generalize t.a * t.a = A at *; generalize nrmQ t = n at *; generalize nrmQ y = m at *
    have e1 := Int.mul_le_mul_of_nonneg_right h1 (Int.le_of_lt n1)
    have e2 := congrArg (· * m) e
    refine Int.le_of_mul_le_mul_left (a := b) ?_ hp
    have q1 : Y * b * n = b * (Y * n) := by grind
    have q2 : tp * m * n = tp * n * m := by grind
    have q3 : A * b * m = b * (A * m) := by grind
    omega
  · rintro ⟨t, hm, hr, e⟩
    refine ⟨t, hm, hr, ?_⟩
    have h1 := e x hx
    have h2 := ht t hm
    have n1 := allR_pos h hm
    have n2 := allR_pos h hx
    unfold LeS at h1
    generalize x.a * x.a = Y at *; generalize t.a * t.a = A at *; generalize nrmQ t = n at *; generalize nrmQ x = m at *
    have e1 := Int.mul_le_mul_of_nonneg_right h1 (Int.le_of_lt hp)
    have e2 := congrArg (· * n) ex
    have key : tp * n ≤ A * b := by
      refine Int.le_of_mul_le_mul_left (a := m) ?_ n2
      have q1 : Y * b * n = Y * n * b := by grind
      have q2 : tp * m * n = m * (tp * n) := by grind
      have q3 : A * m * b = m * (A * b) := by grind
      omega
    omega
/-! ### contents -/
theorem con_eq {p q : Q4} (h : ∀ n : Int, (n ∣ p.a ∧ n ∣ p.b ∧ n ∣ p.c ∧ n ∣ p.d) ↔ (n ∣ q.a ∧ n ∣ q.b ∧ n ∣ q.c ∧ n ∣ q.d)) : conQ p = conQ q :=
  Int.dvd_antisymm (con_nonneg p) (con_nonneg q) (dvd_con.mpr ((h _).mp (dvd_con.mp (Int.dvd_refl _)))) (dvd_con.mpr ((h _).mpr (dvd_con.mp (Int.dvd_refl _))))
theorem con_tQ (p : Q4) : conQ (tQ p) = conQ p := con_eq fun n => tQ_dvd p
theorem con_neg (p : Q4) : conQ (negQ p) = conQ p := con_eq fun n => by unfold negQ; simp only [Int.dvd_neg]
theorem con_bak (p : Q4) : conQ (bakQ p) = conQ p := con_eq fun n => by unfold bakQ; simp only [Int.dvd_neg]
theorem con_sQ (k : Int) (p : Q4) : conQ (sQ k p) = ab k * conQ p := by
  unfold conQ sQ gcdN ab
  simp only [Int.natAbs_zero, Int.natAbs_mul, Int.natAbs_natCast, Nat.gcd_mul_left, Nat.gcd_zero_left, Int.natCast_mul]
theorem con_prim {p : Q4} (h : 0 < nrmQ p) : conQ (primQ p) = 1 ∧ p = sQ (conQ p) (primQ p) := by
  have e : p = sQ (conQ p) (primQ p) := (prim_mul h).1
  have hc := con_pos h
  refine ⟨?_, e⟩
  have e2 := congrArg conQ e
  rw [con_sQ, show ab (conQ p) = conQ p by unfold ab; omega] at e2
  exact Int.eq_of_mul_eq_mul_left (show conQ p ≠ 0 by omega) (by omega)
/-- equal directions, no divisors, nothing below 0 -/
theorem prim_eq {p q : Q4} {u v : Int} (hu : u ≠ 0) (h : sQ u p = sQ v q) (hp : conQ p = 1) (hq : conQ q = 1) : p = q ∨ p = negQ q := by
  have e := congrArg conQ h
  rw [con_sQ, con_sQ, hp, hq] at e
  have e2 : u = v ∨ u = -v := by unfold ab at e; omega
  rcases e2 with rfl | rfl
  · exact .inl (sQ_inj hu h)
  · refine .inr (sQ_inj hu ?_)
    rw [neg_sQ, sQ_sQ, h, Int.mul_neg, Int.mul_one, Int.neg_neg]
end K7
set_option Elab.async false
set_option linter.all false
set_option maxRecDepth 100000
set_option maxHeartbeats 4000000
/-! K13D: what the law's standing list holds is a thing of the orbit. -/
namespace K7
open PySem PySem.Spec PyProof.Rows L2 G
def Tdy (q : Q4) : Prop := 0 ≤ q.a ∧ q.c ≤ q.b ∧ q.d ≤ q.c ∧ 0 ≤ q.d
def Std (M q : Q4) : Prop := Tdy q ∧ conQ q = 1 ∧ Orb M q ∧ ∀ y, Orb M y → LeS y q
/-- an orbit by the 24 -/
theorem orb24 {N M : Q4} (h : Orb N M) : ∃ f ∈ cubeL, ∃ l ∈ cubeL, ∃ u v : Int, u ≠ 0 ∧ v ≠ 0 ∧ (sQ u M = sQ v (mulQ (mulQ f N) l) ∨ sQ u M = sQ v (bakQ (mulQ (mulQ f N) l))) := by
  obtain ⟨f, l, hf, hl, u, hu, e⟩ := h
  rcases e with e | e
  · obtain ⟨f0, hf0, s, hs, rfl⟩ := hf
    obtain ⟨l0, hl0, t, ht, rfl⟩ := hl
    refine ⟨f0, hf0, l0, hl0, u, s * t, hu, Int.mul_ne_zero hs ht, .inl ?_⟩
    rw [e, mul_sQl, mul_sQl, mul_sQr, sQ_sQ]
  · obtain ⟨f0, hf0, s, hs, e1⟩ := cb_bak hl
    obtain ⟨l0, hl0, t, ht, e2⟩ := cb_bak hf
    refine ⟨f0, hf0, l0, hl0, u, s * t, hu, Int.mul_ne_zero hs ht, .inr ?_⟩
    have e3 : mulQ (mulQ f (bakQ N)) l = bakQ (mulQ (mulQ (bakQ l) N) (bakQ f)) := by
      rw [bak_mul, bak_mul, bak_bak, bak_bak, mul_as]
    rw [e, e3, e1, e2, mul_sQl, mul_sQl, mul_sQr, sQ_sQ, bak_sQ]
theorem orb_pos {N M : Q4} (h : Orb N M) (hN : 0 < nrmQ N) : 0 < nrmQ M := by
  obtain ⟨f, hf, l, hl, u, v, hu, hv, e⟩ := orb24 h
  have e2 : nrmQ (sQ u M) = v * v * (nrmQ f * nrmQ N * nrmQ l) := by
    rcases e with e | e
    · rw [e, nrm_sQ, nrm_mul, nrm_mul]
    · rw [e, nrm_sQ, nrm_bak, nrm_mul, nrm_mul]
  rw [nrm_sQ] at e2
  have h1 := cub_nrm hf
  have h2 := cub_nrm hl
  have h3 : 0 < v * v * (nrmQ f * nrmQ N * nrmQ l) := Int.mul_pos (sq_pos hv) (Int.mul_pos (Int.mul_pos (by omega) hN) (by omega))
  rw [← e2] at h3
  exact Int.pos_of_mul_pos_right h3 (sq_pos hu)
theorem orb_le {N M q : Q4} (h : Orb N M) (hq : ∀ y ∈ allR N, LeS y q) : LeS M q := by
  obtain ⟨f, hf, l, hl, u, v, hu, hv, e⟩ := orb24 h
  have h1 := hq _ (mem_allR.mpr ⟨f, hf, l, hl, rfl⟩)
  rw [← leS_l hu]
  rcases e with e | e
  · rw [e, leS_l hv]; exact h1
  · rw [e, leS_l hv, leS_bl]; exact h1
theorem orb_all {N t : Q4} (h : t ∈ allR N) : Orb N t := by
  obtain ⟨f, hf, l, hl, rfl⟩ := mem_allR.mp h
  exact orb_lr (cb_of hf) (cb_of hl)
theorem min_nn : ∀ (xs : List Int) (x : Int), 0 ≤ PySem.W.minOf x xs ↔ 0 ≤ x ∧ ∀ y ∈ xs, 0 ≤ y
  | [], x => ⟨fun h => ⟨h, fun _ z => (nomatch z)⟩, fun h => h.1⟩
  | y :: ys, x => by
    have e : PySem.W.minOf x (y :: ys) = PySem.W.minOf (if PySem.W.DatumOrd.lt y x = true then y else x) ys := rfl
    have el : (PySem.W.DatumOrd.lt y x = true) ↔ y < x := decide_eq_true_iff
    rw [e, min_nn ys]
    simp only [List.mem_cons, forall_eq_or_imp]
    by_cases hc : y < x
    · rw [if_pos (el.mpr hc)]
      exact ⟨fun h => ⟨by omega, h.1, h.2⟩, fun h => ⟨h.2.1, h.2.2⟩⟩
    · rw [if_neg (fun z => hc (el.mp z))]
      exact ⟨fun h => ⟨h.1, by omega, h.2⟩, fun h => ⟨h.1, h.2.2⟩⟩
theorem tdyB_iff (q : Q4) : tdyB q = true ↔ Tdy q := by
  unfold tdyB Tdy
  rw [Bool.and_eq_true, Bool.and_eq_true, decide_eq_true_eq, decide_eq_true_eq, decide_eq_true_eq, min_nn]
  simp only [List.mem_cons, List.not_mem_nil, or_false, forall_eq_or_imp, forall_eq]
  omega
theorem ltI4 (a b c d : Int) : ltI [a, b, c, d] [0, 0, 0, 0] = true ↔ (a < 0 ∨ (a = 0 ∧ (b < 0 ∨ (b = 0 ∧ (c < 0 ∨ (c = 0 ∧ d < 0)))))) := by
  show (if decide (a = 0) = true then (if decide (b = 0) = true then (if decide (c = 0) = true then (if decide (d = 0) = true then decide (4 < 4) else decide (d < 0)) else decide (c < 0)) else decide (b < 0)) else decide (a < 0)) = true ↔ _
  by_cases h1 : a = 0
  · rw [if_pos (decide_eq_true h1)]
    by_cases h2 : b = 0
    · rw [if_pos (decide_eq_true h2)]
      by_cases h3 : c = 0
      · rw [if_pos (decide_eq_true h3)]
        by_cases h4 : d = 0
        · rw [if_pos (decide_eq_true h4), decide_eq_true_eq]; omega
        · rw [if_neg (by simpa using h4), decide_eq_true_eq]; omega
      · rw [if_neg (by simpa using h3), decide_eq_true_eq]; omega
    · rw [if_neg (by simpa using h2), decide_eq_true_eq]; omega
  · rw [if_neg (by simpa using h1), decide_eq_true_eq]; omega
theorem ltI_nn {q : Q4} (h : Tdy q) : ltI [q.a, q.b, q.c, q.d] [0, 0, 0, 0] = false := by
  obtain ⟨h1, h2, h3, h4⟩ := h
  rw [Bool.eq_false_iff, Ne, ltI4]
  omega
theorem ltI_nneg {q : Q4} (h : Tdy q) (h0 : 0 < nrmQ q) : ltI [(negQ q).a, (negQ q).b, (negQ q).c, (negQ q).d] [0, 0, 0, 0] = true := by
  obtain ⟨h1, h2, h3, h4⟩ := h
  rw [ltI4]
  unfold negQ
  dsimp only
  rcases Int.lt_or_le 0 q.a with z | z
  · omega
  rcases Int.lt_or_le 0 q.b with z2 | z2
  · omega
  exfalso
  have e1 : q.a = 0 := by omega
  have e2 : q.b = 0 := by omega
  have e3 : q.c = 0 := by omega
  have e4 : q.d = 0 := by omega
  unfold nrmQ at h0
  rw [e1, e2, e3, e4] at h0
  exact absurd h0 (by decide)
theorem maxIn : ∀ (xs : List Q4) (x : Q4), PySem.W.maxOf x xs ∈ x :: xs
  | [], x => List.mem_cons_self ..
  | y :: ys, x => by
    have h := maxIn ys (if PySem.W.DatumOrd.lt x y = true then y else x)
    have e : PySem.W.maxOf x (y :: ys) = PySem.W.maxOf (if PySem.W.DatumOrd.lt x y = true then y else x) ys := rfl
    rw [e]
    rcases List.mem_cons.mp h with h | h
    · rw [h]
      split
      · simp
      · simp
    · simp [h]
theorem tdy_or (t : Q4) : tdy t = primQ t ∨ tdy t = negQ (primQ t) := by
  by_cases h : ltI [(primQ t).a, (primQ t).b, (primQ t).c, (primQ t).d] [0, 0, 0, 0] = true
  · right
    show (if ltI [(primQ t).a, (primQ t).b, (primQ t).c, (primQ t).d] [0, 0, 0, 0] = true then negQ (primQ t) else primQ t) = _
    rw [if_pos h]
  · left
    show (if ltI [(primQ t).a, (primQ t).b, (primQ t).c, (primQ t).d] [0, 0, 0, 0] = true then negQ (primQ t) else primQ t) = _
    rw [if_neg h]
theorem negneg (p : Q4) : negQ (negQ p) = p := by unfold negQ; simp only [Int.neg_neg]
theorem tdy_of {t q : Q4} (hq : Tdy q) (h0 : 0 < nrmQ q) (h : primQ t = q ∨ primQ t = negQ q) : tdy t = q := by
  show (if ltI [(primQ t).a, (primQ t).b, (primQ t).c, (primQ t).d] [0, 0, 0, 0] = true then negQ (primQ t) else primQ t) = q
  rcases h with h | h
  · rw [h, ltI_nn hq, if_neg Bool.false_ne_true]
  · rw [h, ltI_nneg hq h0, if_pos rfl, negneg]
theorem mem_told {M : Q4} (h : 0 < nrmQ M) (q : Q4) : q ∈ toldL M ↔ Std M q := by
  unfold toldL toldF
  rw [List.mem_filter, tdyB_iff, List.mem_map]
  constructor
  · rintro ⟨⟨r, hr, rfl⟩, ht⟩
    obtain ⟨t, hm, hr, hb⟩ := (mem_best h r).mp hr
    have hn := allR_pos h hm
    have hrn : 0 < nrmQ r := by rcases hr with rfl | rfl <;> simpa only [nrm_bak] using hn
    obtain ⟨c1, e1⟩ := con_prim hrn
    have hor : Orb M r := by
      rcases hr with rfl | rfl
      · exact orb_all hm
      · exact orb_trans (orb_all hm) (orb_bak _)
    have hle : ∀ y ∈ allR M, LeS y r := fun y hy => by
      rcases hr with rfl | rfl
      · exact hb y hy
      · rw [leS_br]; exact hb y hy
    have hc := con_pos hrn
    have key : ∃ u : Int, u ≠ 0 ∧ r = sQ u (tdy r) ∧ conQ (tdy r) = 1 := by
      rcases tdy_or r with e | e
      · exact ⟨conQ r, by omega, by rw [e]; exact e1, by rw [e]; exact c1⟩
      · refine ⟨-conQ r, by omega, ?_, by rw [e, con_neg]; exact c1⟩
        rw [e, neg_sQ, sQ_sQ, Int.neg_mul_neg, Int.mul_one]; exact e1
    obtain ⟨u, hu, e2, c2⟩ := key
    refine ⟨ht, c2, ?_, fun y hy => ?_⟩
    · obtain ⟨f, l, hf, hl, v, hv, e⟩ := hor
      refine ⟨f, l, hf, hl, v * u, Int.mul_ne_zero hv hu, ?_⟩
      rw [← sQ_sQ, ← e2]; exact e
    · rw [← leS_r hu, ← e2]
      exact orb_le hy hle
  · rintro ⟨ht, hc, ho, hm⟩
    refine ⟨?_, ht⟩
    have hq0 := orb_pos ho h
    obtain ⟨f, hf, l, hl, u, v, hu, hv, e⟩ := orb24 ho
    have hin : mulQ (mulQ f M) l ∈ allR M := mem_allR.mpr ⟨f, hf, l, hl, rfl⟩
    have hn := allR_pos h hin
    have go : ∀ r : Q4, (r = mulQ (mulQ f M) l ∨ r = bakQ (mulQ (mulQ f M) l)) → sQ u q = sQ v r → ∃ r ∈ (stdF M cubeL).2, tdy r = q := fun r hr e => by
      have hrn : 0 < nrmQ r := by rcases hr with rfl | rfl <;> simpa only [nrm_bak] using hn
      refine ⟨r, (mem_best h r).mpr ⟨_, hin, hr, fun y hy => ?_⟩, ?_⟩
      · have h1 := hm y (orb_all hy)
        rw [← leS_r hu, e, leS_r hv] at h1
        rcases hr with rfl | rfl
        · exact h1
        · rwa [leS_br] at h1
      · obtain ⟨c1, e1⟩ := con_prim hrn
        have hcr := con_pos hrn
        rw [e1, sQ_sQ] at e
        refine tdy_of ht hq0 ?_
        rcases prim_eq hu e hc c1 with z | z
        · exact .inl z.symm
        · exact .inr (by rw [z, negneg])
    rcases e with e | e
    · exact go _ (.inl rfl) e
    · exact go _ (.inr rfl) e
/-! ### the greatest of some rows -/
theorem cmp_irr (x : Q4) : ¬ cmp4 x x := by unfold cmp4; omega
theorem maxOf_ge : ∀ (xs : List Q4) (x : Q4), ∀ y ∈ x :: xs, ¬ cmp4 (PySem.W.maxOf x xs) y
  | [], x, y, hy => by
    rw [List.mem_singleton.mp hy]; exact cmp_irr x
  | z :: zs, x, y, hy => by
    have e : PySem.W.maxOf x (z :: zs) = PySem.W.maxOf (if PySem.W.DatumOrd.lt x z = true then z else x) zs := rfl
    rw [e]
    by_cases hc : cmp4 x z
    · rw [if_pos ((lt_cmp x z).mpr hc)]
      have ih := maxOf_ge zs z
      rcases List.mem_cons.mp hy with rfl | hy
      · have := ih z (List.mem_cons_self ..)
        generalize PySem.W.maxOf z zs = m at *
        unfold cmp4 at *
        omega
      · exact ih y hy
    · rw [if_neg (fun w => hc ((lt_cmp x z).mp w))]
      have ih := maxOf_ge zs x
      rcases List.mem_cons.mp hy with rfl | hy
      · exact ih _ (List.mem_cons_self ..)
      · rcases List.mem_cons.mp hy with rfl | hy
        · have := ih x (List.mem_cons_self ..)
          generalize PySem.W.maxOf x zs = m at *
          unfold cmp4 at *
          omega
        · exact ih y (List.mem_cons_of_mem _ hy)
theorem cmp_eq {x y : Q4} (h1 : ¬ cmp4 x y) (h2 : ¬ cmp4 y x) : x = y := by
  unfold cmp4 at h1 h2
  exact q4x (by omega) (by omega) (by omega) (by omega)
/-- the law's greatest: the only one that stands and that none passes -/
theorem told_max {M q : Q4} (h : 0 < nrmQ M) (hq : Std M q) (hm : ∀ y, Std M y → ¬ cmp4 q y) : ∃ z zs, toldL M = z :: zs ∧ PySem.W.maxOf z zs = q := by
  have h1 := (mem_told h q).mpr hq
  cases e : toldL M with
  | nil => rw [e] at h1; exact (nomatch h1)
  | cons z zs =>
    refine ⟨z, zs, rfl, ?_⟩
    have h2 : PySem.W.maxOf z zs ∈ z :: zs := by
      exact maxIn zs z
    have h3 := maxOf_ge zs z
    rw [e] at h1
    exact cmp_eq (h3 q h1) (hm _ ((mem_told h _).mp (by rw [e]; exact h2)))
/-- only the orbit matters -/
theorem std_orb {M N q : Q4} (h : Orb M N) : Std M q ↔ Std N q := by
  unfold Std
  have h2 := orb_symm h
  exact ⟨fun ⟨a, b, c, d⟩ => ⟨a, b, orb_trans h2 c, fun y hy => d y (orb_trans h hy)⟩, fun ⟨a, b, c, d⟩ => ⟨a, b, orb_trans h c, fun y hy => d y (orb_trans h2 hy)⟩⟩
end K7
set_option Elab.async false
set_option linter.all false
set_option maxRecDepth 100000
set_option maxHeartbeats 4000000
/-! K13E: the three shapes (its cases of key24 are printed by mk13e.py). -/
namespace K7
open PySem PySem.Spec PyProof.Rows L2 G
theorem f_n3 : (cubeL.all fun q => decide (nrmQ q = 1) || (decide (nrmQ q = 2) || decide (nrmQ q = 4))) = true := by decide +kernel
theorem cub_n3 {k : Q4} (h : k ∈ cubeL) : nrmQ k = 1 ∨ nrmQ k = 2 ∨ nrmQ k = 4 := by
  have := List.all_eq_true.mp f_n3 k h
  simpa only [Bool.or_eq_true, decide_eq_true_eq] using this
theorem odd_dvd {g x : Int} (h : g % 2 = 1) (h4 : g ∣ 4 * x) : g ∣ x := by
  obtain ⟨m, hm⟩ := h4
  obtain ⟨t, ht⟩ : ∃ t, g = 2 * t + 1 := ⟨g / 2, by omega⟩
  refine ⟨g * x - t * (t + 1) * m, ?_⟩
  have e : g * (g * x - t * (t + 1) * m) = g * g * x - t * (t + 1) * (g * m) := by grind
  rw [e, ← hm, ht]
  grind
theorem pr_mul {s k : Q4} (hc : conQ s = 1) (ho : nrmQ s % 2 = 1) (hk : k ∈ cubeL) : conQ (mulQ s k) = 1 := by
  have hd : conQ (mulQ s k) ∣ _ ∧ _ := dvd_con.mp (Int.dvd_refl _)
  have h0 := con_nonneg (mulQ s k)
  generalize hg : conQ (mulQ s k) = g at *
  obtain ⟨d1, d2, d3, d4⟩ := hd
  rw [nrm_par] at ho
  have godd : g % 2 = 1 := by
    rcases (show g % 2 = 0 ∨ g % 2 = 1 by omega) with z | z
    · exfalso
      have h2 : (2 : Int) ∣ g := Int.dvd_of_emod_eq_zero z
      have e1 := Int.dvd_trans h2 d1
      have e2 := Int.dvd_trans h2 d2
      have e3 := Int.dvd_trans h2 d3
      have e4 := Int.dvd_trans h2 d4
      clear d1 d2 d3 d4 hg
      rcases cube24 hk with rfl | rfl | rfl | rfl | rfl | rfl | rfl | rfl | rfl | rfl | rfl | rfl | rfl | rfl | rfl | rfl | rfl | rfl | rfl | rfl | rfl | rfl | rfl | rfl <;> (simp only [mulQ] at e1 e2 e3 e4; omega)
    · exact z
  have hb := bak_r k s
  have key : ∀ x y z u : Int, g ∣ (mulQ s k).a * x + (mulQ s k).b * y + (mulQ s k).c * z + (mulQ s k).d * u := fun x y z u =>
    Int.dvd_add (Int.dvd_add (Int.dvd_add (Int.dvd_mul_of_dvd_left d1) (Int.dvd_mul_of_dvd_left d2)) (Int.dvd_mul_of_dvd_left d3)) (Int.dvd_mul_of_dvd_left d4)
  have n4 : ∀ x : Int, g ∣ nrmQ k * x → g ∣ x := fun x hx => by
    refine odd_dvd godd ?_
    rcases cub_n3 hk with e | e | e <;> rw [e] at hx
    · rw [Int.one_mul] at hx; exact Int.dvd_mul_of_dvd_right hx
    · rw [show 4 * x = 2 * (2 * x) by omega]; exact Int.dvd_mul_of_dvd_right hx
    · exact hx
  have q : g ∣ conQ s := by
    generalize mulQ s k = r at *
    refine dvd_con.mpr ⟨n4 _ ?_, n4 _ ?_, n4 _ ?_, n4 _ ?_⟩
    · have e := congrArg PySem.W.T4.a hb
      rw [show (sQ (nrmQ k) s).a = nrmQ k * s.a from rfl] at e
      rw [← e]
      have := key k.a k.b k.c k.d
      rwa [show (mulQ r (bakQ k)).a = r.a * k.a + r.b * k.b + r.c * k.c + r.d * k.d by unfold mulQ bakQ; grind]
    · have e := congrArg PySem.W.T4.b hb
      rw [show (sQ (nrmQ k) s).b = nrmQ k * s.b from rfl] at e
      rw [← e]
      have := key (-k.b) k.a (-k.d) k.c
      rwa [show (mulQ r (bakQ k)).b = r.a * -k.b + r.b * k.a + r.c * -k.d + r.d * k.c by unfold mulQ bakQ; grind]
    · have e := congrArg PySem.W.T4.c hb
      rw [show (sQ (nrmQ k) s).c = nrmQ k * s.c from rfl] at e
      rw [← e]
      have := key (-k.c) k.d k.a (-k.b)
      rwa [show (mulQ r (bakQ k)).c = r.a * -k.c + r.b * k.d + r.c * k.a + r.d * -k.b by unfold mulQ bakQ; grind]
    · have e := congrArg PySem.W.T4.d hb
      rw [show (sQ (nrmQ k) s).d = nrmQ k * s.d from rfl] at e
      rw [← e]
      have := key (-k.d) (-k.c) k.b k.a
      rwa [show (mulQ r (bakQ k)).d = r.a * -k.d + r.b * -k.c + r.c * k.b + r.d * k.a by unfold mulQ bakQ; grind]
  rw [hc] at q
  exact Int.eq_one_of_dvd_one h0 q
/-! ### orbits and tidied rows -/
theorem orb_tQ (p : Q4) : Orb p (tQ p) := by
  obtain ⟨c, hc, s, x, y, z, hs, hA, e⟩ := sort3 p
  have hn := cub_nrm hc
  rw [tQ_of hA]
  have cc := cb_of hc
  have be : mulQ (mulQ c (bakQ p)) (bakQ c) = bakQ (mulQ (mulQ c p) (bakQ c)) := by rw [bak_mul, bak_mul, bak_bak, mul_as]
  rcases hs with rfl | rfl <;> rcases Int.lt_or_le p.a 0 with ha | ha
  · refine ⟨c, bakQ c, cc, cb_bak cc, -nrmQ c, by omega, .inr ?_⟩
    rw [be, e]
    unfold sQ bakQ ab
    exact q4x (by dsimp only; rw [show ((p.a.natAbs : Nat) : Int) = -p.a by omega, Int.neg_mul_neg]) (by dsimp only; grind) (by dsimp only; grind) (by dsimp only; grind)
  · refine ⟨c, bakQ c, cc, cb_bak cc, nrmQ c, by omega, .inl ?_⟩
    rw [e]
    unfold sQ ab
    exact q4x (by dsimp only; rw [show ((p.a.natAbs : Nat) : Int) = p.a by omega]) (by dsimp only; grind) (by dsimp only; grind) (by dsimp only; grind)
  · refine ⟨c, bakQ c, cc, cb_bak cc, -nrmQ c, by omega, .inl ?_⟩
    rw [e]
    unfold sQ ab
    exact q4x (by dsimp only; rw [show ((p.a.natAbs : Nat) : Int) = -p.a by omega, Int.neg_mul_neg]) (by dsimp only; grind) (by dsimp only; grind) (by dsimp only; grind)
  · refine ⟨c, bakQ c, cc, cb_bak cc, nrmQ c, by omega, .inr ?_⟩
    rw [be, e]
    unfold sQ bakQ ab
    exact q4x (by dsimp only; rw [show ((p.a.natAbs : Nat) : Int) = p.a by omega]) (by dsimp only; grind) (by dsimp only; grind) (by dsimp only; grind)
theorem orb_r {s k : Q4} (hk : Cb k) : Orb s (mulQ s k) := by
  have := orb_lr (N := s) cb_1 hk
  rwa [one_mul] at this
/-- the tidied rows of an orbit are those of products with the 24 -/
theorem orb_share {s y : Q4} (h : Orb s y) : ∃ k ∈ cubeL, ∃ u v : Int, 0 < u ∧ 0 < v ∧ sQ u (tQ y) = sQ v (tQ (mulQ s k)) := by
  obtain ⟨f, hf, l, hl, u, v, hu, hv, e⟩ := orb24 h
  have hfn := cub_nrm hf
  have e1 : sQ (ab u) (tQ y) = sQ (ab v) (tQ (mulQ (mulQ f s) l)) := by
    rcases e with e | e
    · rw [← tQ_sQ, e, tQ_sQ]
    · rw [← tQ_sQ, e, tQ_sQ, tQ_bak]
  obtain ⟨k, hk, w, hw, e2⟩ := cb_mul (cb_of hl) (cb_of hf)
  have e3 : tQ (mulQ (mulQ f s) l) = tQ (mulQ s (mulQ l f)) := by
    have h1 := tQ_conj (mulQ s (mulQ l f)) hf
    have h2 : mulQ (mulQ f (mulQ s (mulQ l f))) (bakQ f) = sQ (nrmQ f) (mulQ (mulQ f s) l) := by
      rw [← mul_as, ← mul_as, bak_r]
    rw [h2, tQ_sQ, show ab (nrmQ f) = nrmQ f by unfold ab; omega] at h1
    exact sQ_inj (by omega) h1
  refine ⟨k, hk, ab u, ab v * ab w, by unfold ab; omega, ?_, ?_⟩
  · exact Int.mul_pos (by unfold ab; omega) (by unfold ab; omega)
  · rw [e1, e3, e2, mul_sQr, tQ_sQ, sQ_sQ]
/-! ### descending rows -/
structure Dsc (s : Q4) : Prop where
  ab : s.b ≤ s.a
  bc : s.c ≤ s.b
  cd : s.d ≤ s.c
  d0 : 0 ≤ s.d
theorem sA_cons {x : Int} {xs : List Int} (h : ∀ y ∈ xs, K7.ab y ≤ K7.ab x) : sA (x :: xs) = K7.ab x :: sA xs := by
  refine sA_uniq ?_ ?_
  · rw [List.map_cons]
    exact (show (sA xs).Perm (xs.map K7.ab) from List.mergeSort_perm _ _).cons _
  · rw [List.pairwise_cons]
    refine ⟨fun y hy => ?_, sA_srt xs⟩
    obtain ⟨z, hz, rfl⟩ := sA_mem hy
    exact h z hz
theorem srt_tQ {p : Q4} (h1 : K7.ab p.b ≤ K7.ab p.a) (h2 : K7.ab p.c ≤ K7.ab p.a) (h3 : K7.ab p.d ≤ K7.ab p.a) : srtQ p = tQ p ∧ Dsc (srtQ p) := by
  obtain ⟨x, y, z, h⟩ := sA_3 p.b p.c p.d
  have e : sA [p.a, p.b, p.c, p.d] = [K7.ab p.a, x, y, z] := by
    rw [sA_cons (by simp only [List.mem_cons, List.not_mem_nil, or_false, forall_eq_or_imp, forall_eq]; exact ⟨h1, h2, h3⟩), h]
  have e2 : srtQ p = ⟨K7.ab p.a, x, y, z⟩ := by unfold srtQ; rw [e]
  refine ⟨by rw [e2, tQ_of h], ?_⟩
  have hs := sA_srt [p.a, p.b, p.c, p.d]
  rw [e] at hs
  simp only [List.pairwise_cons, List.mem_cons, List.not_mem_nil, or_false, List.Pairwise.nil, and_true] at hs
  obtain ⟨w, _, hw⟩ := sA_mem (y := z) (xs := [p.a, p.b, p.c, p.d]) (by rw [e]; simp)
  rw [e2]
  exact ⟨hs.1 x (.inl rfl), hs.2.1 y (.inl rfl), hs.2.2.1 z rfl, by show 0 ≤ z; omega⟩
theorem srt_perm {p q : Q4} (h : ([p.a, p.b, p.c, p.d].map K7.ab).Perm ([q.a, q.b, q.c, q.d].map K7.ab)) : srtQ p = srtQ q := by
  unfold srtQ
  rw [sA_perm h]
theorem ab_neg (x : Int) : ab (-x) = ab x := by unfold ab; omega
theorem srt_unit (p : Q4) : ∃ f ∈ cubeL, srtQ p = tQ (mulQ f p) ∧ Dsc (srtQ p) ∧ conQ (mulQ f p) = conQ p ∧ nrmQ (mulQ f p) = nrmQ p := by
  have e1 : mulQ ⟨1, 0, 0, 0⟩ p = p := one_mul p
  have e2 : mulQ ⟨0, 1, 0, 0⟩ p = ⟨-p.b, p.a, -p.d, p.c⟩ := by unfold mulQ; exact q4x (by dsimp only; omega) (by dsimp only; omega) (by dsimp only; omega) (by dsimp only; omega)
  have e3 : mulQ ⟨0, 0, 1, 0⟩ p = ⟨-p.c, p.d, p.a, -p.b⟩ := by unfold mulQ; exact q4x (by dsimp only; omega) (by dsimp only; omega) (by dsimp only; omega) (by dsimp only; omega)
  have e4 : mulQ ⟨0, 0, 0, 1⟩ p = ⟨-p.d, -p.c, p.b, p.a⟩ := by unfold mulQ; exact q4x (by dsimp only; omega) (by dsimp only; omega) (by dsimp only; omega) (by dsimp only; omega)
  have nn : ∀ f : Q4, nrmQ f = 1 → nrmQ (mulQ f p) = nrmQ p := fun f h => by rw [nrm_mul, h, Int.one_mul]
  have mx : (ab p.b ≤ ab p.a ∧ ab p.c ≤ ab p.a ∧ ab p.d ≤ ab p.a) ∨ (ab p.a ≤ ab p.b ∧ ab p.c ≤ ab p.b ∧ ab p.d ≤ ab p.b) ∨ (ab p.a ≤ ab p.c ∧ ab p.b ≤ ab p.c ∧ ab p.d ≤ ab p.c) ∨ (ab p.a ≤ ab p.d ∧ ab p.b ≤ ab p.d ∧ ab p.c ≤ ab p.d) := by omega
  rcases mx with ⟨m1, m2, m3⟩ | ⟨m1, m2, m3⟩ | ⟨m1, m2, m3⟩ | ⟨m1, m2, m3⟩
  · have := srt_tQ m1 m2 m3
    exact ⟨_, by decide +kernel, by rw [e1]; exact this.1, this.2, by rw [e1], nn ⟨1, 0, 0, 0⟩ rfl⟩
  · have hp : srtQ p = srtQ ⟨-p.b, p.a, -p.d, p.c⟩ := srt_perm (by
      simp only [List.map_cons, List.map_nil, ab_neg]
      exact (List.Perm.swap _ _ _).trans (((List.Perm.swap _ _ _).cons _).cons _))
    have := srt_tQ (p := ⟨-p.b, p.a, -p.d, p.c⟩) (by rw [ab_neg]; exact m1) (by rw [ab_neg, ab_neg]; exact m3) (by rw [ab_neg]; exact m2)
    refine ⟨⟨0, 1, 0, 0⟩, by decide +kernel, by rw [e2, hp]; exact this.1, by rw [hp]; exact this.2, ?_, nn _ rfl⟩
    rw [e2]
    refine con_eq fun n => ?_
    simp only [Int.dvd_neg]
    exact ⟨fun ⟨a, b, c, d⟩ => ⟨b, a, d, c⟩, fun ⟨a, b, c, d⟩ => ⟨b, a, d, c⟩⟩
  · have hp : srtQ p = srtQ ⟨-p.c, p.d, p.a, -p.b⟩ := srt_perm (by
      simp only [List.map_cons, List.map_nil, ab_neg]
      generalize ab p.a = a; generalize ab p.b = b; generalize ab p.c = c; generalize ab p.d = d
      have q1 : [a, b, c, d].Perm [c, a, b, d] := (((List.Perm.swap c b [d]).cons a)).trans (List.Perm.swap c a [b, d])
      have q2 : [c, a, b, d].Perm [c, d, a, b] := (((List.Perm.swap d b []).cons a).trans (List.Perm.swap d a [b])).cons c
      exact q1.trans q2)
    have := srt_tQ (p := ⟨-p.c, p.d, p.a, -p.b⟩) (by rw [ab_neg]; exact m3) (by rw [ab_neg]; exact m1) (by rw [ab_neg, ab_neg]; exact m2)
    refine ⟨⟨0, 0, 1, 0⟩, by decide +kernel, by rw [e3, hp]; exact this.1, by rw [hp]; exact this.2, ?_, nn _ rfl⟩
    rw [e3]
    refine con_eq fun n => ?_
    simp only [Int.dvd_neg]
    exact ⟨fun ⟨a, b, c, d⟩ => ⟨c, d, a, b⟩, fun ⟨a, b, c, d⟩ => ⟨c, d, a, b⟩⟩
  · have hp : srtQ p = srtQ ⟨-p.d, -p.c, p.b, p.a⟩ := srt_perm (by
      simp only [List.map_cons, List.map_nil, ab_neg]
      exact (List.reverse_perm [ab p.a, ab p.b, ab p.c, ab p.d]).symm)
    have := srt_tQ (p := ⟨-p.d, -p.c, p.b, p.a⟩) (by rw [ab_neg, ab_neg]; exact m3) (by rw [ab_neg]; exact m2) (by rw [ab_neg]; exact m1)
    refine ⟨⟨0, 0, 0, 1⟩, by decide +kernel, by rw [e4, hp]; exact this.1, by rw [hp]; exact this.2, ?_, nn _ rfl⟩
    rw [e4]
    refine con_eq fun n => ?_
    simp only [Int.dvd_neg]
    exact ⟨fun ⟨a, b, c, d⟩ => ⟨d, c, b, a⟩, fun ⟨a, b, c, d⟩ => ⟨d, c, b, a⟩⟩
/-- the three -/
def J3 : List Q4 := [⟨1, 0, 0, 0⟩, ⟨1, -1, 0, 0⟩, ⟨1, -1, -1, -1⟩]
def fA (s k : Q4) : Int := (mulQ s k).a * (mulQ s k).a
theorem key24 {s k : Q4} (hs : Dsc s) (hk : k ∈ cubeL) : ∃ j ∈ J3, nrmQ j = nrmQ k ∧ fA s k ≤ fA s j ∧ (fA s k = fA s j → tQ (mulQ s k) = tQ (mulQ s j)) := by
  obtain ⟨a, b, c, d⟩ := s
  obtain ⟨h1, h2, h3, h4⟩ := hs
  have h1 : b ≤ a := h1
  have h2 : c ≤ b := h2
  have h3 : d ≤ c := h3
  have h4 : 0 ≤ d := h4
  have go : ∀ {k : Q4} (j : Q4), j ∈ J3 → nrmQ j = nrmQ k → -(mulQ ⟨a, b, c, d⟩ j).a ≤ (mulQ ⟨a, b, c, d⟩ k).a → (mulQ ⟨a, b, c, d⟩ k).a ≤ (mulQ ⟨a, b, c, d⟩ j).a → ((mulQ ⟨a, b, c, d⟩ k).a = (mulQ ⟨a, b, c, d⟩ j).a ∨ (mulQ ⟨a, b, c, d⟩ k).a = -(mulQ ⟨a, b, c, d⟩ j).a → tQ (mulQ ⟨a, b, c, d⟩ k) = tQ (mulQ ⟨a, b, c, d⟩ j)) → ∃ j ∈ J3, nrmQ j = nrmQ k ∧ fA ⟨a, b, c, d⟩ k ≤ fA ⟨a, b, c, d⟩ j ∧ (fA ⟨a, b, c, d⟩ k = fA ⟨a, b, c, d⟩ j → tQ (mulQ ⟨a, b, c, d⟩ k) = tQ (mulQ ⟨a, b, c, d⟩ j)) := fun {k} j hj hn g1 g2 g3 => by
    refine ⟨j, hj, hn, (sq_le g1 g2).2, fun e => g3 ?_⟩
    unfold fA at e
    generalize (mulQ ⟨a, b, c, d⟩ k).a = x at *
    generalize (mulQ ⟨a, b, c, d⟩ j).a = t at *
    have e2 : (x - t) * (x + t) = 0 := by
      have : (x - t) * (x + t) = x * x - t * t := by grind
      omega
    rcases Int.mul_eq_zero.mp e2 with z | z <;> omega
  rcases cube24 hk with rfl | rfl | rfl | rfl | rfl | rfl | rfl | rfl | rfl | rfl | rfl | rfl | rfl | rfl | rfl | rfl | rfl | rfl | rfl | rfl | rfl | rfl | rfl | rfl
  · exact go ⟨1, 0, 0, 0⟩ (by decide +kernel) (by rfl) (by simp only [mulQ]; omega) (by simp only [mulQ]; omega) fun e => tQ_same 0 (by simp only [P6, mulQ, ab] at e; simp only [P6, mulQ, ab, true_and, and_true] <;> omega)
  · exact go ⟨1, -1, 0, 0⟩ (by decide +kernel) (by rfl) (by simp only [mulQ]; omega) (by simp only [mulQ]; omega) fun e => tQ_same 0 (by simp only [P6, mulQ, ab] at e; simp only [P6, mulQ, ab, true_and, and_true] <;> omega)
  · exact go ⟨1, 0, 0, 0⟩ (by decide +kernel) (by rfl) (by simp only [mulQ]; omega) (by simp only [mulQ]; omega) fun e => tQ_same 4 (by simp only [P6, mulQ, ab] at e; simp only [P6, mulQ, ab, true_and, and_true] <;> omega)
  · exact go ⟨1, -1, 0, 0⟩ (by decide +kernel) (by rfl) (by simp only [mulQ]; omega) (by simp only [mulQ]; omega) fun e => tQ_same 0 (by simp only [P6, mulQ, ab] at e; simp only [P6, mulQ, ab, true_and, and_true] <;> omega)
  · exact go ⟨1, -1, 0, 0⟩ (by decide +kernel) (by rfl) (by simp only [mulQ]; omega) (by simp only [mulQ]; omega) fun e => tQ_same 0 (by simp only [P6, mulQ, ab] at e; simp only [P6, mulQ, ab, true_and, and_true] <;> omega)
  · exact go ⟨1, -1, 0, 0⟩ (by decide +kernel) (by rfl) (by simp only [mulQ]; omega) (by simp only [mulQ]; omega) fun e => tQ_same 0 (by simp only [P6, mulQ, ab] at e; simp only [P6, mulQ, ab, true_and, and_true] <;> omega)
  · exact go ⟨1, 0, 0, 0⟩ (by decide +kernel) (by rfl) (by simp only [mulQ]; omega) (by simp only [mulQ]; omega) fun e => tQ_same 1 (by simp only [P6, mulQ, ab] at e; simp only [P6, mulQ, ab, true_and, and_true] <;> omega)
  · exact go ⟨1, -1, 0, 0⟩ (by decide +kernel) (by rfl) (by simp only [mulQ]; omega) (by simp only [mulQ]; omega) fun e => tQ_same 4 (by simp only [P6, mulQ, ab] at e; simp only [P6, mulQ, ab, true_and, and_true] <;> omega)
  · exact go ⟨1, -1, 0, 0⟩ (by decide +kernel) (by rfl) (by simp only [mulQ]; omega) (by simp only [mulQ]; omega) fun e => tQ_same 3 (by simp only [P6, mulQ, ab] at e; simp only [P6, mulQ, ab, true_and, and_true] <;> omega)
  · exact go ⟨1, -1, -1, -1⟩ (by decide +kernel) (by rfl) (by simp only [mulQ]; omega) (by simp only [mulQ]; omega) fun e => tQ_same 0 (by simp only [P6, mulQ, ab] at e; simp only [P6, mulQ, ab, true_and, and_true] <;> omega)
  · exact go ⟨1, -1, -1, -1⟩ (by decide +kernel) (by rfl) (by simp only [mulQ]; omega) (by simp only [mulQ]; omega) fun e => tQ_same 3 (by simp only [P6, mulQ, ab] at e; simp only [P6, mulQ, ab, true_and, and_true] <;> omega)
  · exact go ⟨1, -1, 0, 0⟩ (by decide +kernel) (by rfl) (by simp only [mulQ]; omega) (by simp only [mulQ]; omega) fun e => tQ_same 0 (by simp only [P6, mulQ, ab] at e; simp only [P6, mulQ, ab, true_and, and_true] <;> omega)
  · exact go ⟨1, -1, -1, -1⟩ (by decide +kernel) (by rfl) (by simp only [mulQ]; omega) (by simp only [mulQ]; omega) fun e => tQ_same 1 (by simp only [P6, mulQ, ab] at e; simp only [P6, mulQ, ab, true_and, and_true] <;> omega)
  · exact go ⟨1, -1, -1, -1⟩ (by decide +kernel) (by rfl) (by simp only [mulQ]; omega) (by simp only [mulQ]; omega) fun e => tQ_same 0 (by simp only [P6, mulQ, ab] at e; simp only [P6, mulQ, ab, true_and, and_true] <;> omega)
  · exact go ⟨1, -1, 0, 0⟩ (by decide +kernel) (by rfl) (by simp only [mulQ]; omega) (by simp only [mulQ]; omega) fun e => tQ_same 4 (by simp only [P6, mulQ, ab] at e; simp only [P6, mulQ, ab, true_and, and_true] <;> omega)
  · exact go ⟨1, -1, 0, 0⟩ (by decide +kernel) (by rfl) (by simp only [mulQ]; omega) (by simp only [mulQ]; omega) fun e => tQ_same 3 (by simp only [P6, mulQ, ab] at e; simp only [P6, mulQ, ab, true_and, and_true] <;> omega)
  · exact go ⟨1, 0, 0, 0⟩ (by decide +kernel) (by rfl) (by simp only [mulQ]; omega) (by simp only [mulQ]; omega) fun e => tQ_same 0 (by simp only [P6, mulQ, ab] at e; simp only [P6, mulQ, ab, true_and, and_true] <;> omega)
  · exact go ⟨1, -1, 0, 0⟩ (by decide +kernel) (by rfl) (by simp only [mulQ]; omega) (by simp only [mulQ]; omega) fun e => tQ_same 3 (by simp only [P6, mulQ, ab] at e; simp only [P6, mulQ, ab, true_and, and_true] <;> omega)
  · exact go ⟨1, -1, 0, 0⟩ (by decide +kernel) (by rfl) (by simp only [mulQ]; omega) (by simp only [mulQ]; omega) fun e => tQ_same 2 (by simp only [P6, mulQ, ab] at e; simp only [P6, mulQ, ab, true_and, and_true] <;> omega)
  · exact go ⟨1, -1, -1, -1⟩ (by decide +kernel) (by rfl) (by simp only [mulQ]; omega) (by simp only [mulQ]; omega) fun e => tQ_same 0 (by simp only [P6, mulQ, ab] at e; simp only [P6, mulQ, ab, true_and, and_true] <;> omega)
  · exact go ⟨1, -1, -1, -1⟩ (by decide +kernel) (by rfl) (by simp only [mulQ]; omega) (by simp only [mulQ]; omega) fun e => tQ_same 0 (by simp only [P6, mulQ, ab] at e; simp only [P6, mulQ, ab, true_and, and_true] <;> omega)
  · exact go ⟨1, -1, 0, 0⟩ (by decide +kernel) (by rfl) (by simp only [mulQ]; omega) (by simp only [mulQ]; omega) fun e => tQ_same 0 (by simp only [P6, mulQ, ab] at e; simp only [P6, mulQ, ab, true_and, and_true] <;> omega)
  · exact go ⟨1, -1, -1, -1⟩ (by decide +kernel) (by rfl) (by simp only [mulQ]; omega) (by simp only [mulQ]; omega) fun e => tQ_same 0 (by simp only [P6, mulQ, ab] at e; simp only [P6, mulQ, ab, true_and, and_true] <;> omega)
  · exact go ⟨1, -1, -1, -1⟩ (by decide +kernel) (by rfl) (by simp only [mulQ]; omega) (by simp only [mulQ]; omega) fun e => tQ_same 0 (by simp only [P6, mulQ, ab] at e; simp only [P6, mulQ, ab, true_and, and_true] <;> omega)
/-! ### the greatest of the three -/
def lw (x y : Int × Q4) : Prop := x.1 < y.1 ∨ (x.1 = y.1 ∧ cmp4 x.2 y.2)
theorem lt_w (x y : Int × Q4) : PySem.W.DatumOrd.lt x y = true ↔ lw x y := by
  show (if x.1 = y.1 then PySem.W.DatumOrd.lt x.2 y.2 else decide (x.1 < y.1)) = true ↔ lw x y
  unfold lw
  by_cases h : x.1 = y.1
  · rw [if_pos h, lt_cmp]
    exact ⟨fun z => .inr ⟨h, z⟩, fun z => z.elim (fun w => absurd h (by omega)) (·.2)⟩
  · rw [if_neg h, decide_eq_true_eq]
    exact ⟨.inl, fun z => z.elim id fun w => absurd w.1 h⟩
theorem lw_irr (x : Int × Q4) : ¬ lw x x := by unfold lw cmp4; omega
theorem lw_as {x y : Int × Q4} (h : lw x y) : ¬ lw y x := by unfold lw cmp4 at *; omega
theorem lw_nt {x y z : Int × Q4} (h1 : ¬ lw x y) (h2 : ¬ lw y z) : ¬ lw x z := by unfold lw cmp4 at *; omega
theorem max3 (x y z : Int × Q4) : (PySem.W.maxOf x [y, z] = x ∨ PySem.W.maxOf x [y, z] = y ∨ PySem.W.maxOf x [y, z] = z) ∧ ¬ lw (PySem.W.maxOf x [y, z]) x ∧ ¬ lw (PySem.W.maxOf x [y, z]) y ∧ ¬ lw (PySem.W.maxOf x [y, z]) z := by
  have e : PySem.W.maxOf x [y, z] = (fun m : Int × Q4 => if PySem.W.DatumOrd.lt m z = true then z else m) (if PySem.W.DatumOrd.lt x y = true then y else x) := rfl
  rw [e]
  by_cases h1 : lw x y
  · rw [if_pos ((lt_w x y).mpr h1)]
    dsimp only
    by_cases h2 : lw y z
    · rw [if_pos ((lt_w y z).mpr h2)]
      exact ⟨.inr (.inr rfl), lw_nt (lw_as h2) (lw_as h1), lw_as h2, lw_irr _⟩
    · rw [if_neg (fun w => h2 ((lt_w y z).mp w))]
      exact ⟨.inr (.inl rfl), lw_as h1, lw_irr _, h2⟩
  · rw [if_neg (fun w => h1 ((lt_w x y).mp w))]
    dsimp only
    by_cases h2 : lw x z
    · rw [if_pos ((lt_w x z).mpr h2)]
      exact ⟨.inr (.inr rfl), lw_as h2, lw_nt (lw_as h2) h1, lw_irr _⟩
    · rw [if_neg (fun w => h2 ((lt_w x z).mp w))]
      exact ⟨.inl rfl, lw_irr _, h1, h2⟩
theorem shapes {s : Q4} (hs : Dsc s) : shp1 s = (4 * fA s ⟨1, 0, 0, 0⟩, tQ (mulQ s ⟨1, 0, 0, 0⟩)) ∧ shp2 s = (2 * fA s ⟨1, -1, 0, 0⟩, tQ (mulQ s ⟨1, -1, 0, 0⟩)) ∧ shp3 s = (1 * fA s ⟨1, -1, -1, -1⟩, tQ (mulQ s ⟨1, -1, -1, -1⟩)) := by
  obtain ⟨a, b, c, d⟩ := s
  obtain ⟨h1, h2, h3, h4⟩ := hs
  have h1 : b ≤ a := h1
  have h2 : c ≤ b := h2
  have h3 : d ≤ c := h3
  have h4 : 0 ≤ d := h4
  refine ⟨?_, ?_, ?_⟩
  · rw [mul_one, tQ_fix (by show 0 ≤ a; omega) h2 h3 h4]
    unfold shp1 fA
    rw [mul_one, Int.mul_assoc]
  · have e1 : tid (a + b) (a - b) (c + d) (c - d) = tQ ⟨a + b, a - b, c + d, c - d⟩ := by
      unfold tQ
      rw [show K7.ab (a + b) = a + b by unfold K7.ab; omega]
    have e2 : tQ ⟨a + b, a - b, c + d, c - d⟩ = tQ (mulQ ⟨a, b, c, d⟩ ⟨1, -1, 0, 0⟩) := tQ_same 1 (by simp only [P6, mulQ, K7.ab]; omega)
    unfold shp2 fA
    dsimp only
    rw [e1, e2, show (mulQ ⟨a, b, c, d⟩ ⟨1, -1, 0, 0⟩).a = a + b by simp only [mulQ]; omega, Int.mul_assoc]
  · have e1 : tid (a + b + c + d) (a + b - c - d) (a - b + c - d) (a - b - c + d) = tQ ⟨a + b + c + d, a + b - c - d, a - b + c - d, a - b - c + d⟩ := by
      unfold tQ
      rw [show K7.ab (a + b + c + d) = a + b + c + d by unfold K7.ab; omega]
    have e2 : tQ ⟨a + b + c + d, a + b - c - d, a - b + c - d, a - b - c + d⟩ = tQ (mulQ ⟨a, b, c, d⟩ ⟨1, -1, -1, -1⟩) := by
      first
      | exact tQ_same 0 (by simp only [P6, mulQ, K7.ab]; omega)
      | exact tQ_same 1 (by simp only [P6, mulQ, K7.ab]; omega)
      | exact tQ_same 2 (by simp only [P6, mulQ, K7.ab]; omega)
      | exact tQ_same 3 (by simp only [P6, mulQ, K7.ab]; omega)
      | exact tQ_same 4 (by simp only [P6, mulQ, K7.ab]; omega)
      | exact tQ_same 5 (by simp only [P6, mulQ, K7.ab]; omega)
    unfold shp3 fA
    dsimp only
    rw [e1, e2, show (mulQ ⟨a, b, c, d⟩ ⟨1, -1, -1, -1⟩).a = a + b + c + d by simp only [mulQ]; omega, Int.one_mul]
theorem wgt_3 {N : Q4} (hs : Dsc (srtQ N)) : (∃ j ∈ J3, ∃ c : Int, 0 < c ∧ c * nrmQ j = 4 ∧ wgt N = (c * fA (srtQ N) j, tQ (mulQ (srtQ N) j))) ∧ ∀ j ∈ J3, ∃ c : Int, 0 < c ∧ c * nrmQ j = 4 ∧ ¬ lw (wgt N) (c * fA (srtQ N) j, tQ (mulQ (srtQ N) j)) := by
  obtain ⟨h1, h2, h3⟩ := shapes hs
  obtain ⟨hm, m1, m2, m3⟩ := max3 (shp1 (srtQ N)) (shp2 (srtQ N)) (shp3 (srtQ N))
  have e : wgt N = PySem.W.maxOf (shp1 (srtQ N)) [shp2 (srtQ N), shp3 (srtQ N)] := rfl
  rw [← e] at hm m1 m2 m3
  generalize wgt N = m at *
  generalize srtQ N = s at *
  rw [h1] at m1; rw [h2] at m2; rw [h3] at m3
  refine ⟨?_, fun j hj => ?_⟩
  · rcases hm with rfl | rfl | rfl
    · exact ⟨_, by unfold J3; simp, 4, by decide, rfl, h1⟩
    · exact ⟨_, by unfold J3; simp, 2, by decide, rfl, h2⟩
    · exact ⟨_, by unfold J3; simp, 1, by decide, rfl, h3⟩
  · unfold J3 at hj
    simp only [List.mem_cons, List.not_mem_nil, or_false] at hj
    rcases hj with rfl | rfl | rfl
    · exact ⟨4, by decide, rfl, m1⟩
    · exact ⟨2, by decide, rfl, m2⟩
    · exact ⟨1, by decide, rfl, m3⟩
theorem j3_pos {j : Q4} (h : j ∈ J3) : 0 < nrmQ j ∧ j ∈ cubeL := by
  unfold J3 at h
  simp only [List.mem_cons, List.not_mem_nil, or_false] at h
  rcases h with rfl | rfl | rfl <;> exact ⟨by decide, by decide +kernel⟩
theorem c_cmp {A C ni nj ci cj B : Int} (h1 : A ≤ B) (h2 : cj * B ≤ ci * C) (e1 : ci * ni = 4) (e2 : cj * nj = 4) (p1 : 0 < ni) (p2 : 0 < nj) : A * ni ≤ C * nj := by
  have g1 := Int.mul_le_mul_of_nonneg_right (Int.mul_le_mul_of_nonneg_right h2 (Int.le_of_lt p1)) (Int.le_of_lt p2)
  have q1 : cj * B * ni * nj = cj * nj * (B * ni) := by grind
  have q2 : ci * C * ni * nj = ci * ni * (C * nj) := by grind
  have g2 := Int.mul_le_mul_of_nonneg_right h1 (Int.le_of_lt p1)
  rw [q1, q2, e1, e2] at g1
  omega
theorem c_back {C B ni nj ci cj : Int} (h : C * nj ≤ B * ni) (e1 : ci * ni = 4) (e2 : cj * nj = 4) (p1 : 0 < ci) (p2 : 0 < cj) : ci * C ≤ cj * B := by
  have g1 := Int.mul_le_mul_of_nonneg_right (Int.mul_le_mul_of_nonneg_right h (Int.le_of_lt p1)) (Int.le_of_lt p2)
  have q1 : C * nj * ci * cj = cj * nj * (ci * C) := by grind
  have q2 : B * ni * ci * cj = ci * ni * (cj * B) := by grind
  rw [q1, q2, e1, e2] at g1
  omega
theorem leS_k {s k j : Q4} (h0 : 0 < nrmQ s) : LeS (mulQ s k) (mulQ s j) ↔ fA s k * nrmQ j ≤ fA s j * nrmQ k := by
  unfold LeS
  rw [nrm_mul, nrm_mul]
  show fA s k * (nrmQ s * nrmQ j) ≤ fA s j * (nrmQ s * nrmQ k) ↔ _
  have q1 : fA s k * (nrmQ s * nrmQ j) = nrmQ s * (fA s k * nrmQ j) := by grind
  have q2 : fA s j * (nrmQ s * nrmQ k) = nrmQ s * (fA s j * nrmQ k) := by grind
  rw [q1, q2]
  exact ⟨fun z => Int.le_of_mul_le_mul_left z h0, fun z => Int.mul_le_mul_of_nonneg_left z (Int.le_of_lt h0)⟩
/-- the program's row stands, and none that stands passes it -/
theorem wgt_std {N : Q4} (hc : conQ N = 1) (ho : nrmQ N % 2 = 1) : Std N (wgt N).2 ∧ ∀ y, Std N y → ¬ cmp4 (wgt N).2 y := by
  obtain ⟨f, hf, es, hs, e1, e2⟩ := srt_unit N
  have hsc : conQ (srtQ N) = 1 := by rw [es, con_tQ, e1, hc]
  have hso : nrmQ (srtQ N) % 2 = 1 := by rw [es, tQ_nrm, e2, ho]
  have hN : N ≠ ⟨0, 0, 0, 0⟩ := fun z => by rw [z] at ho; exact absurd ho (by decide)
  have hN0 := nrm_pos hN
  have hs0 : 0 < nrmQ (srtQ N) := by rw [es, tQ_nrm, e2]; exact hN0
  have ho1 : Orb N (srtQ N) := by
    rw [es]
    have := orb_lr (N := N) (cb_of hf) cb_1
    rw [mul_one] at this
    exact orb_trans this (orb_tQ _)
  obtain ⟨⟨j, hj, c, hc0, hc4, hw⟩, hmax⟩ := wgt_3 hs
  generalize srtQ N = s at *
  have hjp := j3_pos hj
  have hcon : ∀ k ∈ cubeL, conQ (tQ (mulQ s k)) = 1 := fun k hk => by rw [con_tQ, pr_mul hsc hso hk]
  have hO : Orb s (wgt N).2 := by
    rw [hw]
    exact orb_trans (orb_r (cb_of hjp.2)) (orb_tQ _)
  have hle : ∀ k ∈ cubeL, LeS (mulQ s k) (mulQ s j) := fun k hk => by
    obtain ⟨i, hi, hn, h1, _⟩ := key24 hs hk
    obtain ⟨ci, hci, hc4', hl⟩ := hmax i hi
    rw [leS_k hs0, ← hn]
    refine c_cmp h1 ?_ hc4 hc4' hjp.1 (j3_pos hi).1
    rw [hw] at hl
    unfold lw at hl
    dsimp only at hl
    omega
  have hstd : Std s (wgt N).2 := by
    rw [hw]
    refine ⟨(tQ_idem _).1, hcon j hjp.2, by rw [hw] at hO; exact hO, fun y hy => ?_⟩
    obtain ⟨k, hk, u, v, hu, hv, e⟩ := orb_share hy
    show LeS y (tQ (mulQ s j))
    rw [leS_tr, ← leS_tl, ← leS_l (show u ≠ 0 by omega), e, leS_l (show v ≠ 0 by omega), leS_tl]
    exact hle k hk
  refine ⟨(std_orb ho1).mpr hstd, fun y hy => ?_⟩
  have hy := (std_orb ho1).mp hy
  obtain ⟨ht, hyc, hyo, hym⟩ := hy
  obtain ⟨k, hk, u, v, hu, hv, e⟩ := orb_share hyo
  have ety : tQ y = y := tQ_fix ht.1 ht.2.1 ht.2.2.1 ht.2.2.2
  rw [ety] at e
  have euv := congrArg conQ e
  rw [con_sQ, con_sQ, hyc, hcon k hk] at euv
  have euv : u = v := by unfold ab at euv; omega
  subst euv
  have ey : y = tQ (mulQ s k) := sQ_inj (by omega) e
  have h1 := hym _ hO
  rw [hw] at h1
  have h1 : LeS (tQ (mulQ s j)) y := h1
  rw [ey, leS_tl, leS_tr, leS_k hs0] at h1
  obtain ⟨i, hi, hn, h2, h3⟩ := key24 hs hk
  obtain ⟨ci, hci, hc4', hl⟩ := hmax i hi
  rw [← hn] at h1
  rw [hw] at hl ⊢
  unfold lw at hl
  dsimp only at hl ⊢
  have g1 := c_back h1 hc4 hc4' hc0 hci
  have g2 : ci * fA s k ≤ ci * fA s i := Int.mul_le_mul_of_nonneg_left h2 (Int.le_of_lt hci)
  have g3 : fA s k = fA s i := Int.eq_of_mul_eq_mul_left (show ci ≠ 0 by omega) (by omega)
  rw [ey, h3 g3]
  have g4 : ¬ c * fA s j < ci * fA s i := fun z => hl (.inl z)
  exact fun z => hl (.inr ⟨by omega, z⟩)
/-- the law's due and the program's answer -/
theorem stand_law {M N : Q4} (hM : 0 < nrmQ M) (h : Orb M N) (hc : conQ N = 1) (ho : nrmQ N % 2 = 1) : ∃ z zs, toldL M = z :: zs ∧ PySem.W.maxOf z zs = (wgt N).2 := by
  obtain ⟨h1, h2⟩ := wgt_std hc ho
  exact told_max hM ((std_orb h).mpr h1) fun y hy => h2 y ((std_orb h).mp hy)
end K7
set_option Elab.async false
set_option linter.all false
set_option maxRecDepth 100000
set_option maxHeartbeats 4000000
/-! K13F: names stay within the orbit. -/
namespace K7
open PySem PySem.Spec PyProof.Rows L2 G
theorem hbk_cb (p : Q4) : Cb (hbk p) := by
  unfold hbk
  split
  · exact cb_of (by decide +kernel)
  · split <;> exact cb_of (by decide +kernel)
theorem half_eq {p : Q4} (h : nrmQ p % 2 = 0) : mulQ p (hbk p) = sQ 2 (halfQ p) := half_ok h
theorem half_back {p : Q4} (h : nrmQ p % 2 = 0) : mulQ (halfQ p) (bakQ (hbk p)) = p := by
  have e := bak_r (hbk p) p
  rw [half_eq h, mul_sQl, hbk_nrm] at e
  exact sQ_inj (by decide) e
theorem con_mul_dvd (x y : Q4) : conQ x ∣ conQ (mulQ x y) := by
  obtain ⟨d1, d2, d3, d4⟩ := dvd_con.mp (Int.dvd_refl (conQ x))
  generalize conQ x = g at *
  have key : ∀ a b c d : Int, g ∣ x.a * a + x.b * b + x.c * c + x.d * d := fun a b c d =>
    Int.dvd_add (Int.dvd_add (Int.dvd_add (Int.dvd_mul_of_dvd_left d1) (Int.dvd_mul_of_dvd_left d2)) (Int.dvd_mul_of_dvd_left d3)) (Int.dvd_mul_of_dvd_left d4)
  refine dvd_con.mpr ⟨?_, ?_, ?_, ?_⟩
  · have := key y.a (-y.b) (-y.c) (-y.d)
    rwa [show x.a * y.a + x.b * -y.b + x.c * -y.c + x.d * -y.d = (mulQ x y).a by unfold mulQ; grind] at this
  · have := key y.b y.a y.d (-y.c)
    rwa [show x.a * y.b + x.b * y.a + x.c * y.d + x.d * -y.c = (mulQ x y).b by unfold mulQ; grind] at this
  · have := key y.c (-y.d) y.a y.b
    rwa [show x.a * y.c + x.b * -y.d + x.c * y.a + x.d * y.b = (mulQ x y).c by unfold mulQ; grind] at this
  · have := key y.d y.c (-y.b) y.a
    rwa [show x.a * y.d + x.b * y.c + x.c * -y.b + x.d * y.a = (mulQ x y).d by unfold mulQ; grind] at this
theorem con_of_mul {x y : Q4} (h : conQ (mulQ x y) = 1) : conQ x = 1 := by
  have := con_mul_dvd x y
  rw [h] at this
  exact Int.eq_one_of_dvd_one (con_nonneg x) this
theorem oddF_all : ∀ (f : Nat) (p : Q4), 0 < nrmQ p → (nrmQ p).toNat ≤ f → conQ p = 1 → (∃ c u, Cb c ∧ u ≠ 0 ∧ sQ u (oddF f p) = mulQ p c) ∧ conQ (oddF f p) = 1 ∧ nrmQ (oddF f p) % 2 = 1 ∧ nrmQ (oddF f p) ≤ nrmQ p
  | 0, p, h0, hf, _ => by omega
  | f + 1, p, h0, hf, hc => by
    unfold oddF
    by_cases he : nrmQ p % 2 = 0
    · rw [if_pos he]
      have e := half_nrm he
      obtain ⟨⟨c, u, hcb, hu, e1⟩, e2, e3, e4⟩ := oddF_all f (halfQ p) (by omega) (by omega) (con_of_mul (y := bakQ (hbk p)) (by rw [half_back he]; exact hc))
      refine ⟨⟨mulQ (hbk p) c, 2 * u, cb_mul (hbk_cb p) hcb, by omega, ?_⟩, e2, e3, by omega⟩
      rw [← sQ_sQ, e1, ← mul_as, half_eq he, mul_sQl]
    · rw [if_neg he]
      exact ⟨⟨_, 1, cb_1, by decide, by rw [sQ_1, mul_one]⟩, hc, by omega, Int.le_refl _⟩
theorem four_unit {p r : Q4} (h : r ∈ fourQ p) : ∃ c, Cb c ∧ nrmQ c = 1 ∧ r = mulQ p c := by
  unfold fourQ at h
  simp only [List.mem_cons, List.not_mem_nil, or_false] at h
  rcases h with rfl | rfl | rfl | rfl
  · exact ⟨_, cb_1, rfl, (mul_one _).symm⟩
  · exact ⟨⟨0, 1, 0, 0⟩, cb_of (by decide +kernel), rfl, by unfold mulQ; exact q4x (by dsimp only; omega) (by dsimp only; omega) (by dsimp only; omega) (by dsimp only; omega)⟩
  · exact ⟨⟨0, 0, 1, 0⟩, cb_of (by decide +kernel), rfl, by unfold mulQ; exact q4x (by dsimp only; omega) (by dsimp only; omega) (by dsimp only; omega) (by dsimp only; omega)⟩
  · exact ⟨⟨0, 0, 0, 1⟩, cb_of (by decide +kernel), rfl, by unfold mulQ; exact q4x (by dsimp only; omega) (by dsimp only; omega) (by dsimp only; omega) (by dsimp only; omega)⟩
theorem grt_unit (p : Q4) : ∃ c u, Cb c ∧ u ≠ 0 ∧ u * u = 1 ∧ nrmQ c = 1 ∧ sQ u (grtP p) = mulQ p c := by
  have h : grtP p ∈ (fourQ p).map fun r => PySem.W.maxOf r [negQ r] := by
    unfold grtP
    show maxQ (_ :: _) ∈ _
    exact maxIn _ _
  obtain ⟨r, hr, e⟩ := List.mem_map.mp h
  obtain ⟨c, hc, hn, rfl⟩ := four_unit hr
  have hm := maxIn [negQ (mulQ p c)] (mulQ p c)
  rw [e] at hm
  simp only [List.mem_cons, List.not_mem_nil, or_false] at hm
  rcases hm with hm | hm
  · exact ⟨c, 1, hc, by decide, rfl, hn, by rw [hm, sQ_1]⟩
  · exact ⟨c, -1, hc, by decide, rfl, hn, by rw [hm, neg_sQ, sQ_sQ, show (-1 : Int) * -1 = 1 from rfl, sQ_1]⟩
/-- the name of a row -/
theorem nam_all {p : Q4} (h : 0 < nrmQ p) : (∃ c u, Cb c ∧ u ≠ 0 ∧ sQ u (namQ p) = mulQ p c) ∧ conQ (namQ p) = 1 ∧ nrmQ (namQ p) % 2 = 1 ∧ 0 < nrmQ (namQ p) ∧ nrmQ (namQ p) ≤ nrmQ p := by
  obtain ⟨c1, e1⟩ := con_prim h
  have hc := con_pos h
  have en : nrmQ p = conQ p * conQ p * nrmQ (primQ p) := (prim_mul h).2
  have hp0 : 0 < nrmQ (primQ p) := by
    rw [en] at h
    exact Int.pos_of_mul_pos_right h (Int.mul_pos hc hc)
  have hle : nrmQ (primQ p) ≤ nrmQ p := by
    rw [en]
    have h2 : 1 ≤ conQ p * conQ p := by
      have := Int.mul_pos hc hc
      omega
    have := Int.mul_le_mul_of_nonneg_right h2 (Int.le_of_lt hp0)
    rwa [Int.one_mul] at this
  obtain ⟨⟨c, u, hcb, hu, e2⟩, e3, e4, e5⟩ := oddF_all _ (primQ p) hp0 (Nat.le_refl _) c1
  obtain ⟨d, v, hdb, hv, hv1, hdn, e6⟩ := grt_unit (oddQ (primQ p))
  have e7 : sQ v (namQ p) = mulQ (oddQ (primQ p)) d := e6
  have e2 : sQ u (oddQ (primQ p)) = mulQ (primQ p) c := e2
  have e3 : conQ (oddQ (primQ p)) = 1 := e3
  have e4 : nrmQ (oddQ (primQ p)) % 2 = 1 := e4
  have e5 : nrmQ (oddQ (primQ p)) ≤ nrmQ (primQ p) := e5
  have nn : nrmQ (namQ p) = nrmQ (oddQ (primQ p)) := by
    have := congrArg nrmQ e7
    rw [nrm_sQ, nrm_mul, hv1, hdn, Int.one_mul, Int.mul_one] at this
    exact this
  have n0 : 0 < nrmQ (namQ p) := by
    rw [nn]
    rcases Int.lt_or_le 0 (nrmQ (oddQ (primQ p))) with z | z
    · exact z
    · exfalso
      have hz : oddQ (primQ p) ≠ ⟨0, 0, 0, 0⟩ := fun w => by rw [w] at e4; exact absurd e4 (by decide)
      have := nrm_pos hz
      omega
  refine ⟨⟨mulQ c d, conQ p * u * v, cb_mul hcb hdb, Int.mul_ne_zero (Int.mul_ne_zero (by omega) hu) hv, ?_⟩, ?_, by rw [nn]; exact e4, n0, by rw [nn]; omega⟩
  · rw [← sQ_sQ, e7, ← sQ_sQ, ← mul_sQl, e2, ← mul_sQl, ← mul_sQl, ← e1, mul_as]
  · refine con_of_mul (y := bakQ d) ?_
    have h3 := bak_r d (oddQ (primQ p))
    rw [← e7, hdn, sQ_1, mul_sQl] at h3
    have h4 := congrArg conQ h3
    rw [con_sQ, e3] at h4
    have h5 : ab v = 1 := by
      have h6 : v = 1 ∨ v = -1 := by
        have h7 : (v - 1) * (v + 1) = 0 := by
          have : (v - 1) * (v + 1) = v * v - 1 := by grind
          omega
        rcases Int.mul_eq_zero.mp h7 with z | z <;> omega
      unfold ab; omega
    rw [h5, Int.one_mul] at h4
    exact h4
/-- the middle of two rows and the name that the program takes -/
def midQ (x y : Q4) : Q4 := namQ (mulQ (bakQ (namQ x)) (namQ y))
theorem orb_mid {x y : Q4} (hx : 0 < nrmQ x) (hy : 0 < nrmQ y) : Orb (mulQ (bakQ x) y) (midQ x y) ∧ conQ (midQ x y) = 1 ∧ nrmQ (midQ x y) % 2 = 1 := by
  obtain ⟨⟨c, u, hc, hu, e⟩, _, _, hx0, _⟩ := nam_all hx
  obtain ⟨⟨d, v, hd, hv, e2⟩, _, _, hy0, _⟩ := nam_all hy
  have hp : 0 < nrmQ (mulQ (bakQ (namQ x)) (namQ y)) := by rw [nrm_mul, nrm_bak]; exact Int.mul_pos hx0 hy0
  obtain ⟨⟨f, w, hf, hw, e3⟩, h1, h2, _, _⟩ := nam_all hp
  refine ⟨orb_trans (N := mulQ (bakQ (namQ x)) (namQ y)) ⟨bakQ c, d, cb_bak hc, hd, u * v, Int.mul_ne_zero hu hv, .inl ?_⟩ ⟨_, f, cb_1, hf, w, hw, .inl ?_⟩, h1, h2⟩
  · rw [← sQ_sQ, ← mul_sQr, ← mul_sQl, ← bak_sQ, e, e2, bak_mul, mul_as, mul_as, mul_as]
  · rw [one_mul]; exact e3
theorem stand_mid {x y : Q4} (hx : 0 < nrmQ x) (hy : 0 < nrmQ y) {M : Q4} (hM : 0 < nrmQ M) (h : Orb M (mulQ (bakQ x) y)) : ∃ z zs, toldL M = z :: zs ∧ PySem.W.maxOf z zs = (wgt (midQ x y)).2 := by
  obtain ⟨h1, h2, h3⟩ := orb_mid hx hy
  exact stand_law hM (orb_trans h h1) h2 h3
theorem mid_ne {x y : Q4} (hx : 0 < nrmQ x) (hy : 0 < nrmQ y) : (wgt (midQ x y)).2 ≠ ⟨0, 0, 0, 0⟩ := by
  obtain ⟨h1, h2, h3⟩ := orb_mid hx hy
  obtain ⟨_, hc, _, _⟩ := (wgt_std h2 h3).1
  intro z
  rw [z] at hc
  exact absurd hc (by decide)
theorem orb_back (x y : Q4) : Orb (mulQ (bakQ x) y) (mulQ (bakQ y) x) := by
  have := orb_bak (mulQ (bakQ x) y)
  rwa [bak_mul, bak_bak] at this
theorem orb_move {m : Q4} (h : 0 < nrmQ m) (x y : Q4) : Orb (mulQ (bakQ x) y) (mulQ (bakQ (mulQ m x)) (mulQ m y)) := by
  have e : mulQ (bakQ (mulQ m x)) (mulQ m y) = sQ (nrmQ m) (mulQ (bakQ x) y) := by
    rw [bak_mul, mul_as, bak_l, mul_sQr]
  rw [e]
  exact orb_s (by omega)
theorem mid_one {x c : Q4} (hx : 0 < nrmQ x) (hc : Cb c) : (wgt (midQ x (mulQ x c))).2 = ⟨1, 0, 0, 0⟩ := by
  have hcn : 0 < nrmQ c := by
    obtain ⟨h, hh, s, hs, rfl⟩ := hc
    rw [nrm_sQ]
    exact Int.mul_pos (sq_pos hs) (by have := cub_nrm hh; omega)
  have hy : 0 < nrmQ (mulQ x c) := by rw [nrm_mul]; exact Int.mul_pos hx hcn
  obtain ⟨h1, h2, h3⟩ := orb_mid hx hy
  have hs := (wgt_std h2 h3).1
  rw [bak_l] at h1
  have ho : Orb ⟨1, 0, 0, 0⟩ (midQ x (mulQ x c)) := by
    refine orb_trans ?_ h1
    refine ⟨_, sQ (nrmQ x) c, cb_1, cb_s (by omega) hc, 1, by decide, .inl ?_⟩
    rw [sQ_1, one_mul, one_mul]
  obtain ⟨ht, hc1, hq, hm⟩ := (std_orb ho).mpr hs
  have h4 := hm _ (orb_refl ⟨1, 0, 0, 0⟩)
  generalize (wgt (midQ x (mulQ x c))).2 = q at *
  have h4 : 1 * 1 * nrmQ q ≤ q.a * q.a * 1 := h4
  have s2 := sq_nonneg q.b; have s3 := sq_nonneg q.c; have s4 := sq_nonneg q.d
  have e0 : nrmQ q = q.a * q.a + q.b * q.b + q.c * q.c + q.d * q.d := rfl
  have zz : ∀ x : Int, x * x ≤ 0 → x = 0 := fun x h => by
    rcases Int.mul_eq_zero.mp (show x * x = 0 by have := sq_nonneg x; omega) with z | z <;> exact z
  have eb := zz q.b (by omega)
  have ec := zz q.c (by omega)
  have ed := zz q.d (by omega)
  obtain ⟨ha, _, _, _⟩ := ht
  obtain ⟨a, b, c', d⟩ := q
  dsimp only at eb ec ed ha
  subst eb ec ed
  have e5 : conQ ⟨a, 0, 0, 0⟩ = ab a := by
    have := con_sQ a ⟨1, 0, 0, 0⟩
    rw [show sQ a ⟨1, 0, 0, 0⟩ = ⟨a, 0, 0, 0⟩ by unfold sQ; simp] at this
    rw [this, show conQ ⟨1, 0, 0, 0⟩ = 1 from by decide, Int.mul_one]
  rw [e5] at hc1
  have : a = 1 := by unfold ab at hc1; omega
  rw [this]
end K7
section
set_option pp.deepTerms false
set_option pp.deepTerms.threshold 5
set_option pp.maxSteps 3000
set_option hygiene false
local macro_rules | `(tactic| get_elem_tactic_extensible) => `(tactic| (repeat' (first | with_reducible exact AtN.z | with_reducible exact AtG.z | with_reducible exact SetS.z | with_reducible exact SetSs.nil | exact WipeS.nil | with_reducible apply AtN.s | with_reducible apply AtG.s | with_reducible apply SetS.s | with_reducible apply SetSs.cons | apply WipeS.cons | exact StartS.nil | apply StartS.arg | apply StartS.var)))
local macro_rules | `(tactic| decreasing_trivial_pre_omega) => `(tactic| first
  | ((with_reducible show SSX _ _ _ _ _); first | ((with_reducible show SSX _ (_ :: _) _ _ _); refine ssx_cons ?_) | ((with_reducible show SSX _ [] _ _ _); refine ssx_nil ?_))
  | ((with_reducible show SX _ _ _ _ _); first
    | ((with_reducible show SX _ (.Return (some _) _) _ _ _); refine sx_ret ?_)
    | ((with_reducible show SX _ (.Return none _) _ _ _); refine sx_retN ?_)
    | ((with_reducible show SX _ (.If _ _ _ _) _ _ _); refine sx_if ?_)
    | ((with_reducible show SX _ (.Assign [.Name _ _] (.ListComp _ _ _ _) _) _ _ _); fail)
    | ((with_reducible show SX _ (.Assign [.Name _ _] _ _) _ _ _); refine sx_setA hD (by get_elem_tactic_extensible) ?_)
    | ((with_reducible show SX _ (.Assign [.Tuple [.Name _ _, .Name _ _] _ _] (.Tuple [_, _] _ _) _) _ _ _); refine sx_par2 hD (by get_elem_tactic_extensible) (by get_elem_tactic_extensible) (by decide) ?_)
    | ((with_reducible show SX _ (.Assign [.Tuple [.Name _ _, .Name _ _, .Name _ _] _ _] (.Tuple [_, _, _] _ _) _) _ _ _); refine sx_par3A hD (by get_elem_tactic_extensible) (by get_elem_tactic_extensible) (by get_elem_tactic_extensible) (by decide) (by decide) (by decide) ?_)
    | ((with_reducible show SX _ (.Assign [.Tuple _ _ _] _ _) _ _ _); refine sx_asg hD (tg_tpA hD (by repeat' (first | exact tn_nil | apply tn_consA hD (by get_elem_tactic_extensible))) (by rfl)) ?_)
    | ((with_reducible show SX _ (.Assign [.Subscript _ _ _] _ _) _ _ _); refine sx_subX hF ?_)
    | ((with_reducible show SX _ (.AugAssign (.Name _ _) .Add _ _) _ _ _); refine sx_augadd hD (by get_elem_tactic_extensible) (by get_elem_tactic_extensible) ?_)
    | ((with_reducible show SX _ (.Expr _ _) _ _ _); refine sx_expr ?_)
    | ((with_reducible show SX _ (.Break _) _ _ _); refine sx_break ?_)
    | ((with_reducible show SX _ (.Continue _) _ _ _); refine sx_continue ?_)
    | ((with_reducible show SX _ (.Pass _) _ _ _); refine sx_pass ?_))
  | ((with_reducible show EX _ _ _ _ _ _); first
    | ((with_reducible show EX _ (.Name _ _) _ _ _ _); refine ax_var (by first | exact hF | exact hF.blk _ | exact (hF.blk _).blk _) (by get_elem_tactic_extensible) (by get_elem_tactic_extensible) ?_)
    | ((with_reducible show EX _ (.Constant (.int _) _ _) _ _ _ _); refine ex_int ?_)
    | ((with_reducible show EX _ (.Constant (.str _) _ _) _ _ _ _); refine ex_str ?_)
    | ((with_reducible show EX _ (.Constant (.bool _) _ _) _ _ _ _); refine ex_bl ?_)
    | ((with_reducible show EX _ (.Constant .none _ _) _ _ _ _); refine ex_non ?_)
    | ((with_reducible show EX _ (.BinOp _ .Add _ _) _ _ _ _); refine ex_add ?_)
    | ((with_reducible show EX _ (.BinOp _ .Sub _ _) _ _ _ _); refine ex_sub ?_)
    | ((with_reducible show EX _ (.BinOp _ .Mult _ _) _ _ _ _); refine ex_mul ?_)
    | ((with_reducible show EX _ (.BinOp _ .Mod _ _) _ _ _ _); refine ex_modX ?_)
    | ((with_reducible show EX _ (.BinOp _ .FloorDiv _ _) _ _ _ _); refine ex_fdiv ?_)
    | ((with_reducible show EX _ (.BinOp _ .Pow _ _) _ _ _ _); refine ex_pow ?_)
    | ((with_reducible show EX _ (.UnaryOp .USub _ _) _ _ _ _); refine ex_neg ?_)
    | ((with_reducible show EX _ (.UnaryOp .Not _ _) _ _ _ _); refine ex_not ?_)
    | ((with_reducible show EX _ (.Tuple _ _ _) _ _ _ _); refine ex_tup ?_)
    | ((with_reducible show EX _ (.List (_ :: _) _) _ _ _ _); refine ex_lst ?_)
    | ((with_reducible show EX _ (.IfExp _ _ _ _) _ _ _ _); refine ex_if ?_)
    | ((with_reducible show EX _ (.Compare _ [.Eq] [_] _) _ _ _ _); refine ex_eq (by first | exact hF | exact hF.blk _ | exact (hF.blk _).blk _) ?_)
    | ((with_reducible show EX _ (.Compare _ [.NotEq] [_] _) _ _ _ _); refine ex_ne (by first | exact hF | exact hF.blk _ | exact (hF.blk _).blk _) ?_)
    | ((with_reducible show EX _ (.Compare _ [.Lt] [_] _) _ _ _ _); refine ex_lt ?_)
    | ((with_reducible show EX _ (.Compare _ [.LtE] [_] _) _ _ _ _); refine ex_le ?_)
    | ((with_reducible show EX _ (.Compare _ [.Gt] [_] _) _ _ _ _); refine ex_gt ?_)
    | ((with_reducible show EX _ (.Compare _ [.GtE] [_] _) _ _ _ _); refine ex_ge ?_)
    | ((with_reducible show EX _ (.Compare _ [.Is] [.Constant .none _ _] _) _ _ _ _); refine ex_isN ?_)
    | ((with_reducible show EX _ (.Compare _ [.IsNot] [.Constant .none _ _] _) _ _ _ _); refine ex_notN ?_)
    | ((with_reducible show EX _ (.BoolOp _ [_] _) _ _ _ _); refine ex_one ?_)
    | ((with_reducible show EX _ (.BoolOp .And _ _) _ _ _ _); refine ex_and ?_)
    | ((with_reducible show EX _ (.BoolOp .Or _ _) _ _ _ _); refine ex_or ?_)
    | ((with_reducible show EX _ (.Subscript _ (.Slice _ _ _ _) _) _ _ _ _); fail)
    | ((with_reducible show EX _ (.Subscript _ _ _) _ _ _ _); refine ex_ixX (by first | exact hF | exact hF.blk _ | exact (hF.blk _).blk _) ?_)
    | ((with_reducible show EX _ (.Call (.Name "len" _) [_] [] _) _ _ _ _); refine ex_len (by first | exact hF | exact hF.blk _ | exact (hF.blk _).blk _) gB.len ?_)
    | ((with_reducible show EX _ (.Call (.Name "int" _) [_] [] _) _ _ _ _); refine ex_int1 (by first | exact hF | exact hF.blk _ | exact (hF.blk _).blk _) gB.int ?_)
    | ((with_reducible show EX _ (.Call (.Name "abs" _) [_] [] _) _ _ _ _); refine ex_abs (by first | exact hF | exact hF.blk _ | exact (hF.blk _).blk _) gB.abs ?_)
    | ((with_reducible show EX _ (.Call (.Name "list" _) [_] [] _) _ _ _ _); refine ex_list1 (by first | exact hF | exact hF.blk _ | exact (hF.blk _).blk _) gB.list ?_)
    | ((with_reducible show EX _ (.Call (.Name "tuple" _) [_] [] _) _ _ _ _); refine ex_tuple1 (by first | exact hF | exact hF.blk _ | exact (hF.blk _).blk _) gB.tuple ?_)
    | ((with_reducible show EX _ (.Call (.Name "sum" _) [_] [] _) _ _ _ _); refine ex_sum (by first | exact hF | exact hF.blk _ | exact (hF.blk _).blk _) gB.sum ?_)
    | ((with_reducible show EX _ (.Call (.Name "max" _) [_] [] _) _ _ _ _); refine ex_max (by first | exact hF | exact hF.blk _ | exact (hF.blk _).blk _) gB.max ?_)
    | ((with_reducible show EX _ (.Call (.Name "all" _) [_] [] _) _ _ _ _); refine ex_all (by first | exact hF | exact hF.blk _ | exact (hF.blk _).blk _) gB.all ?_)
    | ((with_reducible show EX _ (.Call (.Name "bool" _) [_] [] _) _ _ _ _); refine ex_bool1 (by first | exact hF | exact hF.blk _ | exact (hF.blk _).blk _) gB.bool ?_)
    | ((with_reducible show EX _ (.Call (.Name "max" _) [_, _] [] _) _ _ _ _); refine ex_max2 (by first | exact hF | exact hF.blk _ | exact (hF.blk _).blk _) gB.max ?_)
    | ((with_reducible show EX _ (.Call (.Name "gcd" _) [_, _] [] _) _ _ _ _); refine ex_gcd (by first | exact hF | exact hF.blk _ | exact (hF.blk _).blk _) gGcd ?_)
    | ((with_reducible show EX _ (.Call (.Name "isqrt" _) [_] [] _) _ _ _ _); refine ex_isqrt (by first | exact hF | exact hF.blk _ | exact (hF.blk _).blk _) gIsqrt ?_)
    | ((with_reducible show EX _ (.Call (.Name "sorted" _) [_] [_] _) _ _ _ _); refine ex_sortR (by first | exact hF | exact hF.blk _ | exact (hF.blk _).blk _) gB.sorted ?_)
    | ((with_reducible show EX _ (.Call (.Name "isinstance" _) [_, .Name "list" _] [] _) _ _ _ _); refine ex_isi (by first | exact hF | exact hF.blk _ | exact (hF.blk _).blk _) .lst gB.isinstance gB.list ?_)
    | ((with_reducible show EX _ (.Call (.Name "isinstance" _) [_, .Name "tuple" _] [] _) _ _ _ _); refine ex_isi (by first | exact hF | exact hF.blk _ | exact (hF.blk _).blk _) .tup gB.isinstance gB.tuple ?_)
    | ((with_reducible show EX _ (.Call (.Name "isinstance" _) [_, .Name "int" _] [] _) _ _ _ _); refine ex_isi (by first | exact hF | exact hF.blk _ | exact (hF.blk _).blk _) .int gB.isinstance gB.int ?_)
    | ((with_reducible show EX _ (.Call (.Name "isinstance" _) [_, .Name "bool" _] [] _) _ _ _ _); refine ex_isi (by first | exact hF | exact hF.blk _ | exact (hF.blk _).blk _) .bl gB.isinstance gB.bool ?_)
    | ((with_reducible show EX _ (.Call (.Name "isinstance" _) [_, .Name "str" _] [] _) _ _ _ _); refine ex_isi (by first | exact hF | exact hF.blk _ | exact (hF.blk _).blk _) .str gB.isinstance gB.str ?_)
    | ((with_reducible show EX _ (.Call (.Name "isinstance" _) [_, .Name "dict" _] [] _) _ _ _ _); refine ex_isi (by first | exact hF | exact hF.blk _ | exact (hF.blk _).blk _) .dic gB.isinstance gB.dict ?_)
    | ((with_reducible show EX _ (.Call (.Name "isinstance" _) [_, .Tuple [.Name "list" _, .Name "tuple" _] _ _] [] _) _ _ _ _); refine ex_isi2 (by first | exact hF | exact hF.blk _ | exact (hF.blk _).blk _) .lst .tup gB.isinstance gB.list gB.tuple ?_)
    | ((with_reducible show EX _ (.Call (.Name "isinstance" _) [_, .Tuple [.Name "list" _, .Name "tuple" _, .Name "dict" _] _ _] [] _) _ _ _ _); refine ex_isi3 (by first | exact hF | exact hF.blk _ | exact (hF.blk _).blk _) .lst .tup .dic gB.isinstance gB.list gB.tuple gB.dict ?_)
    | ((with_reducible show EX _ (.Call (.Attribute _ "append" _) [_] [] _) _ _ _ _); refine ex_append (by first | exact hF | exact hF.blk _ | exact (hF.blk _).blk _) ?_)
    | ((with_reducible show EX _ (.Call (.Name _ _) (_ :: _) [] _) _ _ _ _); refine ex_callF (by first | exact hF | exact hF.blk _ | exact (hF.blk _).blk _) (by with_reducible assumption) (by omega) ?_))
  | ((with_reducible show AX _ _ _ _ _ _); first | ((with_reducible show AX _ (_ :: _) _ _ _ _); refine ax_cons ?_) | ((with_reducible show AX _ [] _ _ _ _); refine ax_nil ?_))
  | ((with_reducible show TX _ _ _ _ _ _); first
    | ((with_reducible show TX _ (.Compare _ [.Eq] [_] _) _ _ _ _); refine tx_eq (by first | exact hF | exact hF.blk _ | exact (hF.blk _).blk _) ?_)
    | ((with_reducible show TX _ (.Compare _ [.NotEq] [_] _) _ _ _ _); refine tx_ne (by first | exact hF | exact hF.blk _ | exact (hF.blk _).blk _) ?_)
    | ((with_reducible show TX _ (.Compare _ [.Lt] [_] _) _ _ _ _); refine tx_lt ?_)
    | ((with_reducible show TX _ (.Compare _ [.LtE] [_] _) _ _ _ _); refine tx_le ?_)
    | ((with_reducible show TX _ (.Compare _ [.Gt] [_] _) _ _ _ _); refine tx_gt ?_)
    | ((with_reducible show TX _ (.Compare _ [.GtE] [_] _) _ _ _ _); refine tx_ge ?_)
    | ((with_reducible show TX _ (.Compare _ [.Is] [.Constant .none _ _] _) _ _ _ _); refine tx_isN ?_)
    | ((with_reducible show TX _ (.Compare _ [.IsNot] [.Constant .none _ _] _) _ _ _ _); refine tx_notN ?_)
    | ((with_reducible show TX _ (.UnaryOp .Not _ _) _ _ _ _); refine tx_not ?_)
    | ((with_reducible show TX _ (.BoolOp .And _ _) _ _ _ _); refine WWX.tx (wx_and ?_))
    | ((with_reducible show TX _ (.BoolOp .Or _ _) _ _ _ _); refine WWX.tx (wx_or ?_))
    | ((with_reducible show TX _ (.Compare _ _ _ _) _ _ _ _); fail)
    | ((with_reducible show TX _ (.Call (.Name "isinstance" _) _ _ _) _ _ _ _); refine tx_bl ?_)
    | ((with_reducible show TX _ (_) _ _ _ _); refine tx_tru (by first | exact hF | exact hF.blk _ | exact (hF.blk _).blk _) (fun _ _ => rfl) ?_))
  | ((with_reducible show WWX _ _ _ _ _ _); first | ((with_reducible show WWX _ (.BoolOp .And [_] _) _ _ _ _); refine wx_and1 ?_) | ((with_reducible show WWX _ (.BoolOp .Or [_] _) _ _ _ _); refine wx_or1 ?_) | ((with_reducible show WWX _ (.BoolOp .And _ _) _ _ _ _); refine wx_and ?_) | ((with_reducible show WWX _ (.BoolOp .Or _ _) _ _ _ _); refine wx_or ?_))
  | with_reducible refine addP_ii ?_
  | with_reducible refine subP_ii ?_
  | with_reducible refine mulP_ii (by first | assumption | exact cm_l (by omega) (by omega) | exact cm_r (by omega) (by omega)) ?_
  | with_reducible refine modX_p (by first | assumption | decide | omega) ?_
  | with_reducible refine fdivP_ii (by first | assumption | exact cd_i (by omega) (by omega)) ?_
  | with_reducible refine powP_ii (by unfold CPow; decide) ?_
  | with_reducible refine negP_i ?_
  | with_reducible refine eqP_ii ?_
  | with_reducible refine eqP_ss ?_
  | with_reducible refine eqP_bb ?_
  | with_reducible refine neP_ii ?_
  | with_reducible refine neP_ss ?_
  | with_reducible refine neP_bb ?_
  | with_reducible refine ltP_ii ?_
  | with_reducible refine intP_i ?_
  | with_reducible refine intP_b ?_
  | with_reducible refine absP_i ?_
  | with_reducible refine boolP_b ?_
  | with_reducible refine lenP_t ?_
  | with_reducible refine lenP_l ?_
  | with_reducible refine lenP_rl ?_
  | with_reducible refine augP_ii ?_
  | with_reducible refine listP_l ?_
  | with_reducible refine listP_t ?_
  | with_reducible refine tupP_l ?_
  | with_reducible refine tupP_t ?_
  | with_reducible refine tru_i ?_
  | with_reducible refine tru_b ?_
  | ((with_reducible show lenP _ _ [.ref _]); refine lenP_r (by first | exact um_same | assumption) ?_)
  | ((with_reducible show ixX _ _ (.tup _) (.int _)); refine ixX_t (by rfl) ?_)
  | ((with_reducible show ixX _ _ (.lst _) (.int _)); refine ixX_l (by rfl) ?_)
  | ((with_reducible show ixX _ _ (.ref _) (.int _)); refine ixX_r (by first | exact um_same | assumption) (by rfl) ?_)
  | ((with_reducible show setX _ _ (.ref _) (.int _) _); refine setX_r (by first | exact um_same | assumption) (by rfl) ?_)
  | ((with_reducible show appP _ _ (.ref _) _); refine appP_r (by first | exact um_same | assumption) ?_ ?_)
  | ((with_reducible show isL _ (.ref _) ∧ _); refine isL_r (by first | exact um_same | assumption) ?_)
  | ((with_reducible apply ds1); get_elem_tactic_extensible)
  | ((with_reducible apply ds2); get_elem_tactic_extensible)
  | ((with_reducible apply ds3); get_elem_tactic_extensible)
  | ((with_reducible apply tgd_nm); get_elem_tactic_extensible)
  | ((with_reducible apply tgd_tp); get_elem_tactic_extensible)
  | ((with_reducible apply ty_is); first | exact rfl | assumption)
  | ((with_reducible show (isNoneD _ = true → _) ∧ _); first | refine bx_T (by rfl) ?_ | refine bx_F (by rfl) ?_)
  | ((with_reducible show ((!isNoneD _) = true → _) ∧ _); first | refine bx_T (by rfl) ?_ | refine bx_F (by rfl) ?_)
  | with_reducible refine br_T (by decide) ?_
  | with_reducible refine br_F (by decide) ?_
  | with_reducible refine bn_T (by decide) ?_
  | with_reducible refine bn_F (by decide) ?_
  | with_reducible refine bw_T ?_
  | with_reducible refine bw_F ?_
  | with_reducible refine bx_T (by decide) ?_
  | with_reducible refine bx_F (by decide) ?_
  | ((with_reducible show _ ≤ sizeLine ∧ _); refine ax_tup (by exact Nat.le_of_ble_eq_true (by rfl)) ?_)
  | fail)
set_option Elab.async false
set_option linter.all false
set_option maxRecDepth 100000
set_option maxHeartbeats 4000000
/-! K12V: the law's drawn pairs: _law_stepped, _law_pair. -/
namespace K7
open PySem PySem.Spec PyProof.Rows L2 G
theorem rootJ_sq {n : Int} : ∀ {j : Nat} {x : Int} {r : Nat}, rootJ n j x = some r → (r : Int) * r = x
  | 0, x, r, h => nomatch h
  | j + 1, x, r, h => by
    have h : (if (j : Int) * j ≤ n ∧ (j : Int) * j = x then some j else rootJ n j x) = some r := h
    by_cases hc : (j : Int) * j ≤ n ∧ (j : Int) * j = x
    · rw [if_pos hc] at h; cases h; exact hc.2
    · rw [if_neg hc] at h; exact rootJ_sq h
theorem cand_ok {n a b c : Int} {q : Q4} (h : q ∈ cand n a b c) : nrmQ q = n := by
  unfold cand at h
  rw [List.mem_filter] at h
  obtain ⟨h1, h2⟩ := h
  have hd : dOf n a b c ≤ a := by
    unfold okQ at h2
    rw [Bool.and_eq_true, decide_eq_true_eq] at h2
    exact h2.1
  have e : a * a + b * b + c * c + dOf n a b c * dOf n a b c = n := by
    unfold dOf at hd ⊢
    cases hr : rootJ n (n.toNat + 1) (n - a * a - b * b - c * c) with
    | none =>
      rw [hr] at hd
      dsimp only at hd
      omega
    | some r =>
      have := rootJ_sq hr
      dsimp only
      omega
  unfold candL at h1
  split at h1
  · simp only [List.mem_cons, List.not_mem_nil, or_false] at h1
    rcases h1 with rfl | rfl
    · exact e
    · show a * a + b * b + c * c + -dOf n a b c * -dOf n a b c = n
      rw [Int.neg_mul_neg]; exact e
  · simp only [List.mem_cons, List.not_mem_nil, or_false] at h1
    rcases h1 with rfl
    exact e
theorem raw_nrm {n : Int} {q : Q4} (h : q ∈ rawA n) : nrmQ q = n := by
  unfold rawA rawB rawC at h
  obtain ⟨a, _, h⟩ := List.mem_flatMap.mp h
  obtain ⟨b, _, h⟩ := List.mem_flatMap.mp h
  obtain ⟨c, _, h⟩ := List.mem_flatMap.mp h
  exact cand_ok h
theorem flat_len {α β : Type} {f : α → List β} {m : Nat} : ∀ {xs : List α}, (∀ x ∈ xs, (f x).length ≤ m) → (xs.flatMap f).length ≤ xs.length * m
  | [], _ => Nat.zero_le _
  | x :: xs, h => by
    rw [List.flatMap_cons, List.length_append, List.length_cons, Nat.succ_mul]
    have h1 := h x (List.mem_cons_self ..)
    have h2 := flat_len (xs := xs) fun y hy => h y (List.mem_cons_of_mem _ hy)
    omega
theorem raw_len {n : Int} (h : topJ n (n.toNat + 1) ≤ 10) : (rawA n).length ≤ 10000 := by
  unfold rawA
  have h1 := flat_len (f := rawB n) (m := 900) (xs := irg 1 (topJ n (n.toNat + 1))) fun a ha => by
    have ha := irg_mem ha
    have hl : (2 * a + 1).toNat ≤ 21 := by omega
    have h2 := flat_len (f := rawC n a) (m := 42) (xs := irg (-a) (2 * a + 1).toNat) fun b _ => by
      have h3 := flat_len (f := cand n a b) (m := 2) (xs := irg (-a) (2 * a + 1).toNat) fun c _ => by
        refine Nat.le_trans (List.length_filter_le _ _) ?_
        unfold candL
        split <;> exact Nat.le_of_ble_eq_true rfl
      rw [irg_len] at h3
      show (rawC n a b).length ≤ 42
      have h4 : (2 * a + 1).toNat * 2 ≤ 21 * 2 := Nat.mul_le_mul_right _ hl
      exact Nat.le_trans h3 (by omega)
    rw [irg_len] at h2
    show (rawB n a).length ≤ 900
    have h4 : (2 * a + 1).toNat * 42 ≤ 21 * 42 := Nat.mul_le_mul_right _ hl
    exact Nat.le_trans h2 (by omega)
  rw [irg_len] at h1
  have h4 : topJ n (n.toNat + 1) * 900 ≤ 10 * 900 := Nat.mul_le_mul_right _ h
  omega
structure NmL (n : Int) : Prop where
  raw : (rawA n).length ≤ 10000
  ne : namesL n ≠ []
theorem nm_nrm {n : Int} {q : Q4} (h : q ∈ namesL n) : nrmQ q = n := by
  unfold namesL at h
  exact raw_nrm (List.mem_mergeSort.mp h)
def witB (n : Int) (q : Q4) : Bool := decide (topJ n (n.toNat + 1) ≤ 10) && (decide (q.a ∈ irg 1 (topJ n (n.toNat + 1))) && (decide (q.b ∈ irg (-q.a) (2 * q.a + 1).toNat) && (decide (q.c ∈ irg (-q.a) (2 * q.a + 1).toNat) && decide (q ∈ cand n q.a q.b q.c))))
theorem nm_of {n : Int} {q : Q4} (h : witB n q = true) : NmL n := by
  unfold witB at h
  simp only [Bool.and_eq_true, decide_eq_true_eq] at h
  obtain ⟨h1, h2, h3, h4, h5⟩ := h
  refine ⟨raw_len h1, fun z => ?_⟩
  have : q ∈ namesL n := by
    unfold namesL
    refine List.mem_mergeSort.mpr ?_
    unfold rawA rawB rawC
    exact List.mem_flatMap.mpr ⟨_, h2, List.mem_flatMap.mpr ⟨_, h3, List.mem_flatMap.mpr ⟨_, h4, h5⟩⟩⟩
  rw [z] at this
  exact nomatch this
def sizes : List Int := [3, 5, 7, 11, 15, 39, 49, 57, 65, 105, 91, 119, 75, 63, 45]
theorem nm_3 : NmL 3 := nm_of (q := ⟨1, 1, 1, 0⟩) (by decide +kernel)
theorem nm_5 : NmL 5 := nm_of (q := ⟨2, 1, 0, 0⟩) (by decide +kernel)
theorem nm_7 : NmL 7 := nm_of (q := ⟨2, 1, 1, 1⟩) (by decide +kernel)
theorem nm_11 : NmL 11 := nm_of (q := ⟨3, 1, 1, 0⟩) (by decide +kernel)
theorem nm_15 : NmL 15 := nm_of (q := ⟨3, 2, 1, 1⟩) (by decide +kernel)
theorem nm_39 : NmL 39 := nm_of (q := ⟨6, 1, 1, 1⟩) (by decide +kernel)
theorem nm_49 : NmL 49 := nm_of (q := ⟨6, 3, 2, 0⟩) (by decide +kernel)
theorem nm_57 : NmL 57 := nm_of (q := ⟨7, 2, 2, 0⟩) (by decide +kernel)
theorem nm_65 : NmL 65 := nm_of (q := ⟨8, 1, 0, 0⟩) (by decide +kernel)
theorem nm_105 : NmL 105 := nm_of (q := ⟨10, 2, 1, 0⟩) (by decide +kernel)
theorem nm_91 : NmL 91 := nm_of (q := ⟨9, 3, 1, 0⟩) (by decide +kernel)
theorem nm_119 : NmL 119 := nm_of (q := ⟨10, 3, 3, 1⟩) (by decide +kernel)
theorem nm_75 : NmL 75 := nm_of (q := ⟨8, 3, 1, 1⟩) (by decide +kernel)
theorem nm_63 : NmL 63 := nm_of (q := ⟨7, 3, 2, 1⟩) (by decide +kernel)
theorem nm_45 : NmL 45 := nm_of (q := ⟨6, 2, 2, 1⟩) (by decide +kernel)
theorem sizes_ok {n : Int} (h : n ∈ sizes) : NmL n ∧ 3 ≤ n ∧ n ≤ 119 := by
  unfold sizes at h
  simp only [List.mem_cons, List.not_mem_nil, or_false] at h
  rcases h with rfl | rfl | rfl | rfl | rfl | rfl | rfl | rfl | rfl | rfl | rfl | rfl | rfl | rfl | rfl
  · exact ⟨nm_3, by decide, by decide⟩
  · exact ⟨nm_5, by decide, by decide⟩
  · exact ⟨nm_7, by decide, by decide⟩
  · exact ⟨nm_11, by decide, by decide⟩
  · exact ⟨nm_15, by decide, by decide⟩
  · exact ⟨nm_39, by decide, by decide⟩
  · exact ⟨nm_49, by decide, by decide⟩
  · exact ⟨nm_57, by decide, by decide⟩
  · exact ⟨nm_65, by decide, by decide⟩
  · exact ⟨nm_105, by decide, by decide⟩
  · exact ⟨nm_91, by decide, by decide⟩
  · exact ⟨nm_119, by decide, by decide⟩
  · exact ⟨nm_75, by decide, by decide⟩
  · exact ⟨nm_63, by decide, by decide⟩
  · exact ⟨nm_45, by decide, by decide⟩
section
variable {T : Fm Unit} (hh : T.hot = false) {k : Nat} {P : Program} {w : World} {K : PySem.W.Frag} {mg : Str → Option Value} {base : Heap} {args : List D} {M : Ms} {Φ : PD} {Ψ : PX}
def ds__law_stepped : DS := fun args M Φ _ => ∃ (b : Addr) (os : List Int) (m : Int), args = [.ref b, .lst (os.map D.int), .int m] ∧ os ≠ [] ∧ os.length ≤ 100 ∧ (∀ o ∈ os, o ∈ sizes ∧ o ≤ 11) ∧ 0 ≤ m ∧ m ≤ 3 ∧ Bag M b ∧ ∀ x M', 0 < nrmQ x → nrmQ x ≤ 11 ^ m.toNat → Bag M' b → Φ (qD x) M'
include hh in
theorem b__law_stepped (gB : Bi mg) (c1 : Cal false P w K mg base "_law_draw" k ["bag", "limit"] ds__law_draw) (c2 : Cal false P w K mg base "_law_times" k ["one", "two"] ds__law_times) (c3 : Cal false P w K mg base "_law_of" k ["bag", "things"] ds__law_of) (c4 : Cal false P w K mg base "_law_names" k ["size"] ds__law_names) (c5 : Cal false P w K mg base "_law_name" k ["quad"] ds__law_name)
    (hD : Fd T k P w K mg base n__law_stepped (defScope s__law_stepped)) (h : ds__law_stepped args M Φ Ψ) : Bod T s__law_stepped n__law_stepped args M Φ Ψ := by
  obtain ⟨b, os, m, rfl, ho0, ho1, ho2, hm0, hm1, hb, hq⟩ := h
  have hF := hD.fc
  have p11 : ∀ j : Nat, (j : Int) ≤ m → ((11 : Int) ^ j ≤ 11 ^ m.toNat ∧ (11 : Int) ^ j ≤ 1331) := fun j hj => by
    have a1 : j = 0 ∨ j = 1 ∨ j = 2 ∨ j = 3 := by omega
    have a2 : m = 0 ∨ m = 1 ∨ m = 2 ∨ m = 3 := by omega
    rcases a2 with rfl | rfl | rfl | rfl <;> rcases a1 with rfl | rfl | rfl | rfl <;> first | decide | omega
  refine bod_start (by get_elem_tactic_extensible) ?_; refine ssx_cons ?_
  repeat' ((fail_if_success (with_reducible show SSX _ _ _ _ _)); decreasing_trivial_pre_omega)
  refine ssx_cons ?_
  refine sx_forE hD (tg_nmA hD (by get_elem_tactic_extensible)) (ix_rng1 hF gB.range ?_)
  repeat' decreasing_trivial_pre_omega
  refine ⟨b, m + 1, rfl, by omega, by omega, hb, fun t o ht0 ht1 hb => ?_⟩
  repeat' decreasing_trivial_pre_omega
  refine ⟨t, rfl, by omega, by omega, Int, D.int, irg 0 t.toNat, by rw [rngD_irg], fun ys Γ M' => ∃ (r : Q4) (o : Option D), Bag M' b ∧ (ys.length : Int) ≤ m ∧ 0 < nrmQ r ∧ nrmQ r ≤ 11 ^ ys.length ∧ Γ = [some (.ref b), some (.lst (os.map D.int)), some (.int m), some (qD r), o], fun _ _ _ _ => trivial, ⟨⟨1, 0, 0, 0⟩, none, hb, hm0, by decide, by decide, rfl⟩, ?_, ?_⟩
  · rintro ys y zs Γ M' he ⟨r, o, hb, hl, hr0, hr1, rfl⟩
    have hyl := congrArg List.length he
    rw [irg_len, List.length_append, List.length_cons] at hyl
    have hp := p11 ys.length hl
    repeat' decreasing_trivial_pre_omega
    refine ⟨b, _, rfl, by simpa using ho0, by rw [List.length_map]; omega, hb, fun d o hd hb => ?_⟩
    obtain ⟨n, hn, rfl⟩ := List.mem_map.mp hd
    obtain ⟨hn1, hn2⟩ := ho2 n hn
    obtain ⟨nm, n3, n119⟩ := sizes_ok hn1
    repeat' decreasing_trivial_pre_omega
    refine ⟨n, rfl, by omega, by omega, nm.raw, ?_⟩
    repeat' decreasing_trivial_pre_omega
    refine ⟨b, _, rfl, by simpa using nm.ne, ?_, hb, fun d o hd hb => ?_⟩
    · rw [List.length_map]
      unfold namesL
      rw [List.length_mergeSort]
      have := nm.raw
      omega
    obtain ⟨e, hem, rfl⟩ := List.mem_map.mp hd
    have hen := nm_nrm hem
    repeat' decreasing_trivial_pre_omega
    refine ⟨r, e, rfl, sm_x (by omega), ?_⟩
    repeat' decreasing_trivial_pre_omega
    refine ⟨_, _, hb, ?_, ?_, ?_, rfl⟩
    · rw [List.length_append]; simp only [List.length_cons, List.length_nil]; omega
    · rw [nrm_mul, hen]; exact Int.mul_pos hr0 (by omega)
    · rw [nrm_mul, hen, List.length_append, List.length_cons, List.length_nil, Int.pow_succ]
      exact Int.mul_le_mul hr1 (by omega) (by omega) (by have := hp.1; omega)
  · rintro Γ M' ⟨r, o, hb, hl, hr0, hr1, rfl⟩
    rw [irg_len] at hl hr1
    have hp := p11 _ hl
    repeat' decreasing_trivial_pre_omega
    refine ⟨r, rfl, hr0, by omega, fun y h0 h1 => ?_⟩
    exact hq y _ h0 (by omega) hb
def ds__law_pair : DS := fun args M Φ _ => ∃ (b : Addr), args = [.ref b] ∧ Bag M b ∧ ∀ x y M', 0 < nrmQ x → nrmQ x ≤ 900 → 0 < nrmQ y → nrmQ y ≤ 15000 → Bag M' b → Φ (.tup [qD x, qD y]) M'
include hh in
theorem b__law_pair (gB : Bi mg) (c1 : Cal false P w K mg base "_law_draw" k ["bag", "limit"] ds__law_draw) (c2 : Cal false P w K mg base "_law_times" k ["one", "two"] ds__law_times) (c3 : Cal false P w K mg base "_law_of" k ["bag", "things"] ds__law_of) (c4 : Cal false P w K mg base "_law_names" k ["size"] ds__law_names) (c5 : Cal false P w K mg base "_law_quad" k ["bag", "top"] ds__law_quad) (c6 : Cal false P w K mg base "_law_stepped" k ["bag", "odds", "most"] ds__law_stepped)
    (hD : Fd T k P w K mg base n__law_pair (defScope s__law_pair)) (h : ds__law_pair args M Φ Ψ) : Bod T s__law_pair n__law_pair args M Φ Ψ := by
  obtain ⟨b, rfl, hb, hq⟩ := h
  have hF := hD.fc
  refine bod_start (by get_elem_tactic_extensible) ?_; refine ssx_cons ?_
  repeat' decreasing_trivial_pre_omega
  refine ⟨b, 3, rfl, by decide, by decide, hb, fun t o ht0 ht1 hb => ?_⟩
  repeat' decreasing_trivial_pre_omega
  refine br_d (fun hc => ?_) (fun hc => ?_)
  · repeat' decreasing_trivial_pre_omega
    refine ⟨b, _, rfl, by simp, by simp, hb, fun d o hd hb => ?_⟩
    obtain ⟨t, ht, rfl⟩ : ∃ t : Int, (1 ≤ t ∧ t ≤ 15) ∧ d = .int t := by
      simp only [List.mem_cons, List.not_mem_nil, or_false] at hd
      rcases hd with rfl | rfl | rfl | rfl | rfl | rfl | rfl | rfl <;> exact ⟨_, by decide, rfl⟩
    repeat' decreasing_trivial_pre_omega
    have ht5 := sq_le (z := t) (t := 15) (by omega) ht.2
    refine ⟨b, t, rfl, ht.1, ht.2, hb, fun x M1 hx0 hx1 hb => ?_⟩
    repeat' decreasing_trivial_pre_omega
    refine ⟨b, t, rfl, ht.1, ht.2, hb, fun y M2 hy0 hy1 hb => ?_⟩
    repeat' decreasing_trivial_pre_omega
    exact hq x y _ hx0 (by omega) hy0 (by omega) hb
  · repeat' decreasing_trivial_pre_omega
    refine ⟨b, _, rfl, by simp, by simp, hb, fun d o hd hb => ?_⟩
    obtain ⟨os, hos, rfl⟩ : ∃ os : List Int, (os ≠ [] ∧ os.length ≤ 100 ∧ ∀ o ∈ os, o ∈ sizes ∧ o ≤ 11) ∧ d = .lst (os.map D.int) := by
      simp only [List.mem_cons, List.not_mem_nil, or_false] at hd
      rcases hd with rfl | rfl | rfl | rfl | rfl
      · exact ⟨[3], by decide, rfl⟩
      · exact ⟨[3, 5], by decide, rfl⟩
      · exact ⟨[5, 7, 3], by decide, rfl⟩
      · exact ⟨[3, 11], by decide, rfl⟩
      · exact ⟨[5], by decide, rfl⟩
    repeat' decreasing_trivial_pre_omega
    refine ⟨b, os, 2, rfl, hos.1, hos.2.1, hos.2.2, by decide, by decide, hb, fun x M1 hx0 hx1 hb => ?_⟩
    have hx1 : nrmQ x ≤ 121 := hx1
    repeat' decreasing_trivial_pre_omega
    refine br_d (fun hc => ?_) (fun hc => ?_)
    · repeat' decreasing_trivial_pre_omega
      refine ⟨b, os, 3, rfl, hos.1, hos.2.1, hos.2.2, by decide, by decide, hb, fun y M2 hy0 hy1 hb => ?_⟩
      have hy1 : nrmQ y ≤ 1331 := hy1
      repeat' decreasing_trivial_pre_omega
      exact hq x y _ hx0 (by omega) hy0 (by omega) hb
    · repeat' decreasing_trivial_pre_omega
      refine ⟨b, _, rfl, by simp, by simp, hb, fun d o hd hb => ?_⟩
      obtain ⟨n, hn, rfl⟩ : ∃ n : Int, n ∈ sizes ∧ d = .int n := by
        simp only [List.mem_cons, List.not_mem_nil, or_false] at hd
        rcases hd with rfl | rfl | rfl | rfl | rfl | rfl | rfl | rfl | rfl | rfl <;> exact ⟨_, by decide, rfl⟩
      obtain ⟨nm, n3, n119⟩ := sizes_ok hn
      repeat' decreasing_trivial_pre_omega
      refine ⟨n, rfl, by omega, by omega, nm.raw, ?_⟩
      repeat' decreasing_trivial_pre_omega
      refine ⟨b, _, rfl, by simpa using nm.ne, ?_, hb, fun d o hd hb => ?_⟩
      · rw [List.length_map]
        unfold namesL
        rw [List.length_mergeSort]
        have := nm.raw
        omega
      obtain ⟨e, hem, rfl⟩ := List.mem_map.mp hd
      have hen := nm_nrm hem
      repeat' decreasing_trivial_pre_omega
      refine ⟨x, e, rfl, sm_x (by omega), ?_⟩
      repeat' decreasing_trivial_pre_omega
      have h5 := Int.mul_le_mul hx1 (show nrmQ e ≤ 119 by omega) (by omega) (by omega)
      refine hq x (mulQ x e) _ hx0 (by omega) ?_ ?_ hb
      · rw [nrm_mul]; exact Int.mul_pos hx0 (by omega)
      · rw [nrm_mul]; omega
end
end K7
end
section
set_option pp.deepTerms false
set_option pp.deepTerms.threshold 5
set_option pp.maxSteps 3000
set_option hygiene false
local macro_rules | `(tactic| get_elem_tactic_extensible) => `(tactic| (repeat' (first | with_reducible exact AtN.z | with_reducible exact AtG.z | with_reducible exact SetS.z | with_reducible exact SetSs.nil | exact WipeS.nil | with_reducible apply AtN.s | with_reducible apply AtG.s | with_reducible apply SetS.s | with_reducible apply SetSs.cons | apply WipeS.cons | exact StartS.nil | apply StartS.arg | apply StartS.var)))
local macro_rules | `(tactic| decreasing_trivial_pre_omega) => `(tactic| first
  | ((with_reducible show SSX _ _ _ _ _); first | ((with_reducible show SSX _ (_ :: _) _ _ _); refine ssx_cons ?_) | ((with_reducible show SSX _ [] _ _ _); refine ssx_nil ?_))
  | ((with_reducible show SX _ _ _ _ _); first
    | ((with_reducible show SX _ (.Return (some _) _) _ _ _); refine sx_ret ?_)
    | ((with_reducible show SX _ (.Return none _) _ _ _); refine sx_retN ?_)
    | ((with_reducible show SX _ (.If _ _ _ _) _ _ _); refine sx_if ?_)
    | ((with_reducible show SX _ (.Assign [.Name _ _] (.ListComp _ _ _ _) _) _ _ _); fail)
    | ((with_reducible show SX _ (.Assign [.Name _ _] _ _) _ _ _); refine sx_setA hD (by get_elem_tactic_extensible) ?_)
    | ((with_reducible show SX _ (.Assign [.Tuple [.Name _ _, .Name _ _] _ _] (.Tuple [_, _] _ _) _) _ _ _); refine sx_par2 hD (by get_elem_tactic_extensible) (by get_elem_tactic_extensible) (by decide) ?_)
    | ((with_reducible show SX _ (.Assign [.Tuple [.Name _ _, .Name _ _, .Name _ _] _ _] (.Tuple [_, _, _] _ _) _) _ _ _); refine sx_par3A hD (by get_elem_tactic_extensible) (by get_elem_tactic_extensible) (by get_elem_tactic_extensible) (by decide) (by decide) (by decide) ?_)
    | ((with_reducible show SX _ (.Assign [.Tuple _ _ _] _ _) _ _ _); refine sx_asg hD (tg_tpA hD (by repeat' (first | exact tn_nil | apply tn_consA hD (by get_elem_tactic_extensible))) (by rfl)) ?_)
    | ((with_reducible show SX _ (.Assign [.Subscript _ _ _] _ _) _ _ _); refine sx_subX hF ?_)
    | ((with_reducible show SX _ (.AugAssign (.Name _ _) .Add _ _) _ _ _); refine sx_augadd hD (by get_elem_tactic_extensible) (by get_elem_tactic_extensible) ?_)
    | ((with_reducible show SX _ (.Expr _ _) _ _ _); refine sx_expr ?_)
    | ((with_reducible show SX _ (.Break _) _ _ _); refine sx_break ?_)
    | ((with_reducible show SX _ (.Continue _) _ _ _); refine sx_continue ?_)
    | ((with_reducible show SX _ (.Pass _) _ _ _); refine sx_pass ?_))
  | ((with_reducible show EX _ _ _ _ _ _); first
    | ((with_reducible show EX _ (.Name _ _) _ _ _ _); refine ax_var (by first | exact hF | exact hF.blk _ | exact (hF.blk _).blk _) (by get_elem_tactic_extensible) (by get_elem_tactic_extensible) ?_)
    | ((with_reducible show EX _ (.Constant (.int _) _ _) _ _ _ _); refine ex_int ?_)
    | ((with_reducible show EX _ (.Constant (.str _) _ _) _ _ _ _); refine ex_str ?_)
    | ((with_reducible show EX _ (.Constant (.bool _) _ _) _ _ _ _); refine ex_bl ?_)
    | ((with_reducible show EX _ (.Constant .none _ _) _ _ _ _); refine ex_non ?_)
    | ((with_reducible show EX _ (.BinOp _ .Add _ _) _ _ _ _); refine ex_add ?_)
    | ((with_reducible show EX _ (.BinOp _ .Sub _ _) _ _ _ _); refine ex_sub ?_)
    | ((with_reducible show EX _ (.BinOp _ .Mult _ _) _ _ _ _); refine ex_mul ?_)
    | ((with_reducible show EX _ (.BinOp _ .Mod _ _) _ _ _ _); refine ex_modX ?_)
    | ((with_reducible show EX _ (.BinOp _ .FloorDiv _ _) _ _ _ _); refine ex_fdiv ?_)
    | ((with_reducible show EX _ (.BinOp _ .Pow _ _) _ _ _ _); refine ex_pow ?_)
    | ((with_reducible show EX _ (.UnaryOp .USub _ _) _ _ _ _); refine ex_neg ?_)
    | ((with_reducible show EX _ (.UnaryOp .Not _ _) _ _ _ _); refine ex_not ?_)
    | ((with_reducible show EX _ (.Tuple _ _ _) _ _ _ _); refine ex_tup ?_)
    | ((with_reducible show EX _ (.List (_ :: _) _) _ _ _ _); refine ex_lst ?_)
    | ((with_reducible show EX _ (.IfExp _ _ _ _) _ _ _ _); refine ex_if ?_)
    | ((with_reducible show EX _ (.Compare _ [.Eq] [_] _) _ _ _ _); refine ex_eq (by first | exact hF | exact hF.blk _ | exact (hF.blk _).blk _) ?_)
    | ((with_reducible show EX _ (.Compare _ [.NotEq] [_] _) _ _ _ _); refine ex_ne (by first | exact hF | exact hF.blk _ | exact (hF.blk _).blk _) ?_)
    | ((with_reducible show EX _ (.Compare _ [.Lt] [_] _) _ _ _ _); refine ex_lt ?_)
    | ((with_reducible show EX _ (.Compare _ [.LtE] [_] _) _ _ _ _); refine ex_le ?_)
    | ((with_reducible show EX _ (.Compare _ [.Gt] [_] _) _ _ _ _); refine ex_gt ?_)
    | ((with_reducible show EX _ (.Compare _ [.GtE] [_] _) _ _ _ _); refine ex_ge ?_)
    | ((with_reducible show EX _ (.Compare _ [.Is] [.Constant .none _ _] _) _ _ _ _); refine ex_isN ?_)
    | ((with_reducible show EX _ (.Compare _ [.IsNot] [.Constant .none _ _] _) _ _ _ _); refine ex_notN ?_)
    | ((with_reducible show EX _ (.BoolOp _ [_] _) _ _ _ _); refine ex_one ?_)
    | ((with_reducible show EX _ (.BoolOp .And _ _) _ _ _ _); refine ex_and ?_)
    | ((with_reducible show EX _ (.BoolOp .Or _ _) _ _ _ _); refine ex_or ?_)
    | ((with_reducible show EX _ (.Subscript _ (.Slice _ _ _ _) _) _ _ _ _); fail)
    | ((with_reducible show EX _ (.Subscript _ _ _) _ _ _ _); refine ex_ixX (by first | exact hF | exact hF.blk _ | exact (hF.blk _).blk _) ?_)
    | ((with_reducible show EX _ (.Call (.Name "len" _) [_] [] _) _ _ _ _); refine ex_len (by first | exact hF | exact hF.blk _ | exact (hF.blk _).blk _) gB.len ?_)
    | ((with_reducible show EX _ (.Call (.Name "int" _) [_] [] _) _ _ _ _); refine ex_int1 (by first | exact hF | exact hF.blk _ | exact (hF.blk _).blk _) gB.int ?_)
    | ((with_reducible show EX _ (.Call (.Name "abs" _) [_] [] _) _ _ _ _); refine ex_abs (by first | exact hF | exact hF.blk _ | exact (hF.blk _).blk _) gB.abs ?_)
    | ((with_reducible show EX _ (.Call (.Name "list" _) [_] [] _) _ _ _ _); refine ex_list1 (by first | exact hF | exact hF.blk _ | exact (hF.blk _).blk _) gB.list ?_)
    | ((with_reducible show EX _ (.Call (.Name "tuple" _) [_] [] _) _ _ _ _); refine ex_tuple1 (by first | exact hF | exact hF.blk _ | exact (hF.blk _).blk _) gB.tuple ?_)
    | ((with_reducible show EX _ (.Call (.Name "sum" _) [_] [] _) _ _ _ _); refine ex_sum (by first | exact hF | exact hF.blk _ | exact (hF.blk _).blk _) gB.sum ?_)
    | ((with_reducible show EX _ (.Call (.Name "max" _) [_] [] _) _ _ _ _); refine ex_max (by first | exact hF | exact hF.blk _ | exact (hF.blk _).blk _) gB.max ?_)
    | ((with_reducible show EX _ (.Call (.Name "all" _) [_] [] _) _ _ _ _); refine ex_all (by first | exact hF | exact hF.blk _ | exact (hF.blk _).blk _) gB.all ?_)
    | ((with_reducible show EX _ (.Call (.Name "bool" _) [_] [] _) _ _ _ _); refine ex_bool1 (by first | exact hF | exact hF.blk _ | exact (hF.blk _).blk _) gB.bool ?_)
    | ((with_reducible show EX _ (.Call (.Name "max" _) [_, _] [] _) _ _ _ _); refine ex_max2 (by first | exact hF | exact hF.blk _ | exact (hF.blk _).blk _) gB.max ?_)
    | ((with_reducible show EX _ (.Call (.Name "gcd" _) [_, _] [] _) _ _ _ _); refine ex_gcd (by first | exact hF | exact hF.blk _ | exact (hF.blk _).blk _) gGcd ?_)
    | ((with_reducible show EX _ (.Call (.Name "isqrt" _) [_] [] _) _ _ _ _); refine ex_isqrt (by first | exact hF | exact hF.blk _ | exact (hF.blk _).blk _) gIsqrt ?_)
    | ((with_reducible show EX _ (.Call (.Name "sorted" _) [_] [_] _) _ _ _ _); refine ex_sortR (by first | exact hF | exact hF.blk _ | exact (hF.blk _).blk _) gB.sorted ?_)
    | ((with_reducible show EX _ (.Call (.Name "isinstance" _) [_, .Name "list" _] [] _) _ _ _ _); refine ex_isi (by first | exact hF | exact hF.blk _ | exact (hF.blk _).blk _) .lst gB.isinstance gB.list ?_)
    | ((with_reducible show EX _ (.Call (.Name "isinstance" _) [_, .Name "tuple" _] [] _) _ _ _ _); refine ex_isi (by first | exact hF | exact hF.blk _ | exact (hF.blk _).blk _) .tup gB.isinstance gB.tuple ?_)
    | ((with_reducible show EX _ (.Call (.Name "isinstance" _) [_, .Name "int" _] [] _) _ _ _ _); refine ex_isi (by first | exact hF | exact hF.blk _ | exact (hF.blk _).blk _) .int gB.isinstance gB.int ?_)
    | ((with_reducible show EX _ (.Call (.Name "isinstance" _) [_, .Name "bool" _] [] _) _ _ _ _); refine ex_isi (by first | exact hF | exact hF.blk _ | exact (hF.blk _).blk _) .bl gB.isinstance gB.bool ?_)
    | ((with_reducible show EX _ (.Call (.Name "isinstance" _) [_, .Name "str" _] [] _) _ _ _ _); refine ex_isi (by first | exact hF | exact hF.blk _ | exact (hF.blk _).blk _) .str gB.isinstance gB.str ?_)
    | ((with_reducible show EX _ (.Call (.Name "isinstance" _) [_, .Name "dict" _] [] _) _ _ _ _); refine ex_isi (by first | exact hF | exact hF.blk _ | exact (hF.blk _).blk _) .dic gB.isinstance gB.dict ?_)
    | ((with_reducible show EX _ (.Call (.Name "isinstance" _) [_, .Tuple [.Name "list" _, .Name "tuple" _] _ _] [] _) _ _ _ _); refine ex_isi2 (by first | exact hF | exact hF.blk _ | exact (hF.blk _).blk _) .lst .tup gB.isinstance gB.list gB.tuple ?_)
    | ((with_reducible show EX _ (.Call (.Name "isinstance" _) [_, .Tuple [.Name "list" _, .Name "tuple" _, .Name "dict" _] _ _] [] _) _ _ _ _); refine ex_isi3 (by first | exact hF | exact hF.blk _ | exact (hF.blk _).blk _) .lst .tup .dic gB.isinstance gB.list gB.tuple gB.dict ?_)
    | ((with_reducible show EX _ (.Call (.Attribute _ "append" _) [_] [] _) _ _ _ _); refine ex_append (by first | exact hF | exact hF.blk _ | exact (hF.blk _).blk _) ?_)
    | ((with_reducible show EX _ (.Call (.Name _ _) (_ :: _) [] _) _ _ _ _); refine ex_callF (by first | exact hF | exact hF.blk _ | exact (hF.blk _).blk _) (by with_reducible assumption) (by omega) ?_))
  | ((with_reducible show AX _ _ _ _ _ _); first | ((with_reducible show AX _ (_ :: _) _ _ _ _); refine ax_cons ?_) | ((with_reducible show AX _ [] _ _ _ _); refine ax_nil ?_))
  | ((with_reducible show TX _ _ _ _ _ _); first
    | ((with_reducible show TX _ (.Compare _ [.Eq] [_] _) _ _ _ _); refine tx_eq (by first | exact hF | exact hF.blk _ | exact (hF.blk _).blk _) ?_)
    | ((with_reducible show TX _ (.Compare _ [.NotEq] [_] _) _ _ _ _); refine tx_ne (by first | exact hF | exact hF.blk _ | exact (hF.blk _).blk _) ?_)
    | ((with_reducible show TX _ (.Compare _ [.Lt] [_] _) _ _ _ _); refine tx_lt ?_)
    | ((with_reducible show TX _ (.Compare _ [.LtE] [_] _) _ _ _ _); refine tx_le ?_)
    | ((with_reducible show TX _ (.Compare _ [.Gt] [_] _) _ _ _ _); refine tx_gt ?_)
    | ((with_reducible show TX _ (.Compare _ [.GtE] [_] _) _ _ _ _); refine tx_ge ?_)
    | ((with_reducible show TX _ (.Compare _ [.Is] [.Constant .none _ _] _) _ _ _ _); refine tx_isN ?_)
    | ((with_reducible show TX _ (.Compare _ [.IsNot] [.Constant .none _ _] _) _ _ _ _); refine tx_notN ?_)
    | ((with_reducible show TX _ (.UnaryOp .Not _ _) _ _ _ _); refine tx_not ?_)
    | ((with_reducible show TX _ (.BoolOp .And _ _) _ _ _ _); refine WWX.tx (wx_and ?_))
    | ((with_reducible show TX _ (.BoolOp .Or _ _) _ _ _ _); refine WWX.tx (wx_or ?_))
    | ((with_reducible show TX _ (.Compare _ _ _ _) _ _ _ _); fail)
    | ((with_reducible show TX _ (.Call (.Name "isinstance" _) _ _ _) _ _ _ _); refine tx_bl ?_)
    | ((with_reducible show TX _ (_) _ _ _ _); refine tx_tru (by first | exact hF | exact hF.blk _ | exact (hF.blk _).blk _) (fun _ _ => rfl) ?_))
  | ((with_reducible show WWX _ _ _ _ _ _); first | ((with_reducible show WWX _ (.BoolOp .And [_] _) _ _ _ _); refine wx_and1 ?_) | ((with_reducible show WWX _ (.BoolOp .Or [_] _) _ _ _ _); refine wx_or1 ?_) | ((with_reducible show WWX _ (.BoolOp .And _ _) _ _ _ _); refine wx_and ?_) | ((with_reducible show WWX _ (.BoolOp .Or _ _) _ _ _ _); refine wx_or ?_))
  | with_reducible refine addP_ii ?_
  | with_reducible refine subP_ii ?_
  | with_reducible refine mulP_ii (by first | assumption | exact cm_l (by omega) (by omega) | exact cm_r (by omega) (by omega)) ?_
  | with_reducible refine modX_p (by first | assumption | decide | omega) ?_
  | with_reducible refine fdivP_ii (by first | assumption | exact cd_i (by omega) (by omega)) ?_
  | with_reducible refine powP_ii (by unfold CPow; decide) ?_
  | with_reducible refine negP_i ?_
  | with_reducible refine eqP_ii ?_
  | with_reducible refine eqP_ss ?_
  | with_reducible refine eqP_bb ?_
  | with_reducible refine neP_ii ?_
  | with_reducible refine neP_ss ?_
  | with_reducible refine neP_bb ?_
  | with_reducible refine ltP_ii ?_
  | with_reducible refine intP_i ?_
  | with_reducible refine intP_b ?_
  | with_reducible refine absP_i ?_
  | with_reducible refine boolP_b ?_
  | with_reducible refine lenP_t ?_
  | with_reducible refine lenP_l ?_
  | with_reducible refine lenP_rl ?_
  | with_reducible refine augP_ii ?_
  | with_reducible refine listP_l ?_
  | with_reducible refine listP_t ?_
  | with_reducible refine tupP_l ?_
  | with_reducible refine tupP_t ?_
  | with_reducible refine tru_i ?_
  | with_reducible refine tru_b ?_
  | ((with_reducible show lenP _ _ [.ref _]); refine lenP_r (by first | exact um_same | assumption) ?_)
  | ((with_reducible show ixX _ _ (.tup _) (.int _)); refine ixX_t (by rfl) ?_)
  | ((with_reducible show ixX _ _ (.lst _) (.int _)); refine ixX_l (by rfl) ?_)
  | ((with_reducible show ixX _ _ (.ref _) (.int _)); refine ixX_r (by first | exact um_same | assumption) (by rfl) ?_)
  | ((with_reducible show setX _ _ (.ref _) (.int _) _); refine setX_r (by first | exact um_same | assumption) (by rfl) ?_)
  | ((with_reducible show appP _ _ (.ref _) _); refine appP_r (by first | exact um_same | assumption) ?_ ?_)
  | ((with_reducible show isL _ (.ref _) ∧ _); refine isL_r (by first | exact um_same | assumption) ?_)
  | ((with_reducible apply ds1); get_elem_tactic_extensible)
  | ((with_reducible apply ds2); get_elem_tactic_extensible)
  | ((with_reducible apply ds3); get_elem_tactic_extensible)
  | ((with_reducible apply tgd_nm); get_elem_tactic_extensible)
  | ((with_reducible apply tgd_tp); get_elem_tactic_extensible)
  | ((with_reducible apply ty_is); first | exact rfl | assumption)
  | ((with_reducible show (isNoneD _ = true → _) ∧ _); first | refine bx_T (by rfl) ?_ | refine bx_F (by rfl) ?_)
  | ((with_reducible show ((!isNoneD _) = true → _) ∧ _); first | refine bx_T (by rfl) ?_ | refine bx_F (by rfl) ?_)
  | with_reducible refine br_T (by decide) ?_
  | with_reducible refine br_F (by decide) ?_
  | with_reducible refine bn_T (by decide) ?_
  | with_reducible refine bn_F (by decide) ?_
  | with_reducible refine bw_T ?_
  | with_reducible refine bw_F ?_
  | with_reducible refine bx_T (by decide) ?_
  | with_reducible refine bx_F (by decide) ?_
  | ((with_reducible show _ ≤ sizeLine ∧ _); refine ax_tup (by exact Nat.le_of_ble_eq_true (by rfl)) ?_)
  | fail)
set_option Elab.async false
set_option linter.all false
set_option maxRecDepth 100000
set_option maxHeartbeats 4000000
/-! K12X: standing_row and the law of k60. -/
namespace K7
open PySem PySem.Spec PyProof.Rows L2 G
theorem mid_eq {x y u v : Q4} (hx : 0 < nrmQ x) (hy : 0 < nrmQ y) (hu : 0 < nrmQ u) (hv : 0 < nrmQ v) (h : Orb (mulQ (bakQ x) y) (mulQ (bakQ u) v)) : (wgt (midQ u v)).2 = (wgt (midQ x y)).2 := by
  have pM : 0 < nrmQ (mulQ (bakQ x) y) := by rw [nrm_mul, nrm_bak]; exact Int.mul_pos hx hy
  obtain ⟨z, zs, h1, h2⟩ := stand_mid hx hy pM (orb_refl _)
  obtain ⟨z', zs', h3, h4⟩ := stand_mid hu hv pM h
  rw [h1] at h3
  injection h3 with h5 h6
  rw [← h2, ← h4, h5, h6]
section
variable {CR CG : Addr} {T : Fm Unit} (hh : T.hot = false) {k : Nat} {P : Program} {w : World} {K : PySem.W.Frag} {mg : Str → Option Value} {base : Heap} {args : List D} {M : Ms} {Φ : PD} {Ψ : PX}
/-- two grains, told by rows -/
def ds_standing_row (CR CG : Addr) : DS := fun args M Φ _ => ∃ x y : Q4, args = [grnD CG (namQ x), grnD CG (namQ y)] ∧ 0 < nrmQ x ∧ 0 < nrmQ y ∧ nrmQ x ≤ 1000000 ∧ nrmQ y ≤ 1000000 ∧ Φ (rowD CR (wgt (midQ x y)).2) M
include hh in
theorem b_standing_row {j : Nat} (hj : j < k) (oG : OCls K CG ["name"]) (c1 : Cal false P w K mg base "standing_numbers" k ["numbers"] ds_standing_numbers) (c2 : Cal false P w K mg base "apart" k ["g", "h"] (ds_apart CG)) (cMk : MkC false P w K mg base "Row" CR j ["self", "numbers"] (ds_Row_init CR))
    (hD : Fd T k P w K mg base n_standing_row (defScope s_standing_row)) (h : ds_standing_row CR CG args M Φ Ψ) : Bod T s_standing_row n_standing_row args M Φ Ψ := by
  obtain ⟨x, y, rfl, hx0, hy0, hx1, hy1, hq⟩ := h
  have hF := hD.fc
  obtain ⟨_, _, _, gx0, gx1⟩ := nam_all hx0
  obtain ⟨_, _, _, gy0, gy1⟩ := nam_all hy0
  have ne : ∀ {g : Q4}, 0 < nrmQ g → g ≠ ⟨0, 0, 0, 0⟩ := fun h z => by rw [z] at h; exact absurd h (by decide)
  have e1 : nrmQ (namQ x) * nrmQ (namQ y) ≤ 1000000 * 1000000 := Int.mul_le_mul (by omega) (by omega) (Int.le_of_lt gy0) (by omega)
  have hp : 0 < nrmQ (mulQ (bakQ (namQ x)) (namQ y)) := by rw [nrm_mul, nrm_bak]; exact Int.mul_pos gx0 gy0
  have e2 : nrmQ (mulQ (bakQ (namQ x)) (namQ y)) = nrmQ (namQ x) * nrmQ (namQ y) := by rw [nrm_mul, nrm_bak]
  obtain ⟨_, _, _, gm0, gm1⟩ := nam_all hp
  refine bod_start (by get_elem_tactic_extensible) ?_; refine ssx_cons ?_
  decreasing_trivial_pre_omega
  refine ex_make hF (cMk.at hh) hj ?_
  repeat' decreasing_trivial_pre_omega
  refine ex_fld hF oG ?_
  repeat' decreasing_trivial_pre_omega
  refine ⟨namQ x, namQ y, rfl, ne gx0, ne gy0, by omega, by omega, ?_⟩
  refine ⟨rfl, _, rfl, ?_⟩
  repeat' decreasing_trivial_pre_omega
  refine ⟨_, rfl, by omega, ?_⟩
  repeat' decreasing_trivial_pre_omega
  exact mk_row rfl (.inl rfl) (mid_ne hx0 hy0) hq
def ds_law : DS := fun args M Φ _ => ∃ ns : List Int, args = [.rol (ns.map D.int)] ∧ ∀ M', Φ (.bl true) M'
include hh in
theorem b_law {j : Nat} (hj : j < k) (gB : Bi mg) (oR : OCls K CR ["numbers"]) (oG : OCls K CG ["name"]) (c1 : Cal false P w K mg base "_law_bag" k ["script"] ds__law_bag) (c2 : Cal false P w K mg base "_law_of" k ["bag", "things"] ds__law_of) (c3 : Cal false P w K mg base "_law_names" k ["size"] ds__law_names)
    (c4 : Cal false P w K mg base "_law_pair" k ["bag"] ds__law_pair) (c5 : MkC false P w K mg base "Row" CR j ["self", "numbers"] (ds_Row_init CR)) (c6 : MkC false P w K mg base "Grain" CG j ["self", "row"] (ds_Grain_initG CR CG)) (c7 : Cal false P w K mg base "_law_quad" k ["bag", "top"] ds__law_quad)
    (c8 : Cal false P w K mg base "_law_times" k ["one", "two"] ds__law_times) (c9 : Cal false P w K mg base "_law_standing" k ["one", "two"] ds__law_standing) (c10 : CalK0 P w K mg base "_law_cubes" k ds__law_cubes) (c11 : Cal false P w K mg base "_law_row_is" k ["told", "due"] (ds__law_row_is CR))
    (c12 : Cal false P w K mg base "standing_row" k ["g", "h"] (ds_standing_row CR CG)) (d12 : CalK P w K mg base "standing_row" k "g" "h" (ds_standing_row CR CG))
    (hD : Fd T k P w K mg base n_law (defScope s_law)) (h : ds_law args M Φ Ψ) : Bod T s_law n_law args M Φ Ψ := by
  obtain ⟨ns, rfl, hq⟩ := h
  have hF := hD.fc
  have ne : ∀ {g : Q4}, 0 < nrmQ g → g ≠ ⟨0, 0, 0, 0⟩ := fun h z => by rw [z] at h; exact absurd h (by decide)
  refine bod_start (by get_elem_tactic_extensible) ?_; refine ssx_cons ?_
  repeat' decreasing_trivial_pre_omega
  refine ⟨ns, rfl, fun b o hb0 hb => ?_⟩
  generalize um M b o = M1 at hb ⊢
  repeat' decreasing_trivial_pre_omega
  refine ⟨b, rfl, hb, fun x y M2 hx0 hx1 hy0 hy1 hb => ?_⟩
  repeat' decreasing_trivial_pre_omega
  refine ⟨b, 3, rfl, by decide, by decide, hb, fun m M3 hm0 hm1 hb => ?_⟩
  repeat' decreasing_trivial_pre_omega
  have hxy : 0 < nrmQ x * nrmQ y := Int.mul_pos hx0 hy0
  have hxy1 : nrmQ x * nrmQ y ≤ 900 * 15000 := Int.mul_le_mul hx1 hy1 (by omega) (by omega)
  have pM : ∀ {x y : Q4}, 0 < nrmQ x → 0 < nrmQ y → 0 < nrmQ (mulQ (bakQ x) y) := fun hx hy => by rw [nrm_mul, nrm_bak]; exact Int.mul_pos hx hy
  obtain ⟨z, zs, hz1, hz2⟩ := stand_mid hx0 hy0 (pM hx0 hy0) (orb_refl _)
  refine ⟨x, y, rfl, by omega, hxy, by omega, z, zs, hz1, ?_⟩
  rw [hz2]
  repeat' decreasing_trivial_pre_omega
  refine ⟨b, _, rfl, by simp, by simp, hb, fun d o hd hb => ?_⟩
  obtain ⟨n, hn, rfl⟩ : ∃ n : Int, (n ∈ sizes ∧ n ≤ 15) ∧ d = .int n := by
    simp only [List.mem_cons, List.not_mem_nil, or_false] at hd
    rcases hd with rfl | rfl | rfl | rfl <;> exact ⟨_, by decide, rfl⟩
  obtain ⟨nm, n3, n119⟩ := sizes_ok hn.1
  repeat' decreasing_trivial_pre_omega
  refine ⟨n, rfl, by omega, by omega, nm.raw, ?_⟩
  repeat' decreasing_trivial_pre_omega
  refine ⟨b, _, rfl, by simpa using nm.ne, ?_, hb, fun d o hd hb => ?_⟩
  · rw [List.length_map]
    unfold namesL
    rw [List.length_mergeSort]
    have := nm.raw
    omega
  obtain ⟨e, hem, rfl⟩ := List.mem_map.mp hd
  have hen := nm_nrm hem
  generalize um _ b o = M4 at hb ⊢
  repeat' decreasing_trivial_pre_omega
  refine ⟨y, e, rfl, sm_x (by omega), ?_⟩
  have ht0 : 0 < nrmQ (mulQ y e) := by rw [nrm_mul]; exact Int.mul_pos hy0 (by omega)
  have ht1 : nrmQ (mulQ y e) ≤ 225000 := by
    rw [nrm_mul]
    have := Int.mul_le_mul hy1 (show nrmQ e ≤ 15 by omega) (by omega) (by omega)
    omega
  generalize mulQ y e = t at *
  repeat' decreasing_trivial_pre_omega
  refine ex_make hF (c6.at hh) hj ?_
  repeat' decreasing_trivial_pre_omega
  refine mk_grainG (.inl (.inr rfl)) (ne hx0) (by omega) ?_
  repeat' decreasing_trivial_pre_omega
  refine ex_make hF (c6.at hh) hj ?_
  repeat' decreasing_trivial_pre_omega
  refine mk_grainG (.inl (.inl rfl)) (ne hy0) (by omega) ?_
  repeat' decreasing_trivial_pre_omega
  refine ⟨x, y, rfl, hx0, hy0, by omega, by omega, ?_⟩
  repeat' decreasing_trivial_pre_omega
  refine ⟨_, rfl, ?_⟩
  repeat' decreasing_trivial_pre_omega
  refine ex_callSw hF d12 (Nat.le_refl _) ?_
  refine kax_cons ?_
  repeat' decreasing_trivial_pre_omega
  refine kax_cons ?_
  repeat' decreasing_trivial_pre_omega
  refine kax_nil ⟨rfl, ?_⟩
  refine ⟨y, x, rfl, hy0, hx0, by omega, by omega, ?_⟩
  rw [mid_eq hx0 hy0 hy0 hx0 (orb_back x y)]
  repeat' decreasing_trivial_pre_omega
  refine ⟨_, rfl, ?_⟩
  repeat' decreasing_trivial_pre_omega
  have hmx0 : 0 < nrmQ (mulQ m x) := by rw [nrm_mul]; exact Int.mul_pos hm0 hx0
  have hmy0 : 0 < nrmQ (mulQ m y) := by rw [nrm_mul]; exact Int.mul_pos hm0 hy0
  have hmx1 : nrmQ (mulQ m x) ≤ 4 * (3 * 3) * 900 := by rw [nrm_mul]; exact Int.mul_le_mul hm1 hx1 (by omega) (by omega)
  have hmy1 : nrmQ (mulQ m y) ≤ 4 * (3 * 3) * 15000 := by rw [nrm_mul]; exact Int.mul_le_mul hm1 hy1 (by omega) (by omega)
  have emid := mid_eq hx0 hy0 hmx0 hmy0 (orb_move hm0 x y)
  refine ex_make hF (c6.at hh) hj ?_
  repeat' decreasing_trivial_pre_omega
  refine ⟨m, x, rfl, sm_x (by omega), ?_⟩
  repeat' decreasing_trivial_pre_omega
  refine mk_grainG (.inl (.inl rfl)) (ne hmx0) (by omega) ?_
  repeat' decreasing_trivial_pre_omega
  refine ex_make hF (c6.at hh) hj ?_
  repeat' decreasing_trivial_pre_omega
  refine ex_make hF (c5.at hh) hj ?_
  repeat' decreasing_trivial_pre_omega
  refine ⟨m, y, rfl, sm_x (by omega), ?_⟩
  repeat' decreasing_trivial_pre_omega
  refine mk_row rfl (.inl rfl) (ne hmy0) ?_
  repeat' decreasing_trivial_pre_omega
  refine mk_grainG (.inr rfl) (ne hmy0) (by omega) ?_
  repeat' decreasing_trivial_pre_omega
  refine ⟨_, _, rfl, hmx0, hmy0, by omega, by omega, ?_⟩
  rw [emid]
  repeat' decreasing_trivial_pre_omega
  refine ⟨_, rfl, ?_⟩
  repeat' decreasing_trivial_pre_omega
  refine ex_make hF (c6.at hh) hj ?_
  repeat' decreasing_trivial_pre_omega
  refine mk_grainG (.inl (.inl rfl)) (ne ht0) (by omega) ?_
  repeat' decreasing_trivial_pre_omega
  refine ⟨_, _, rfl, ht0, hx0, by omega, by omega, ?_⟩
  repeat' decreasing_trivial_pre_omega
  have hxt : 0 < nrmQ x * nrmQ t := Int.mul_pos hx0 ht0
  have hxt1 : nrmQ x * nrmQ t ≤ 900 * 225000 := Int.mul_le_mul hx1 ht1 (by omega) (by omega)
  obtain ⟨z2, zs2, hz3, hz4⟩ := stand_mid ht0 hx0 (pM hx0 ht0) (orb_back x t)
  refine ⟨x, t, rfl, by omega, hxt, by omega, z2, zs2, hz3, ?_⟩
  rw [hz4]
  repeat' decreasing_trivial_pre_omega
  refine ⟨_, rfl, ?_⟩
  repeat' decreasing_trivial_pre_omega
  refine ex_callK0 hF c10 (Nat.le_refl _) ?_
  refine kax_nil ⟨rfl, rfl, ?_⟩
  repeat' decreasing_trivial_pre_omega
  refine ⟨b, _, rfl, by rw [Ne, List.map_eq_nil_iff]; decide +kernel, by rw [List.length_map, f_cub.2]; omega, hb, fun d o hd hb => ?_⟩
  obtain ⟨c, hc, rfl⟩ := List.mem_map.mp hd
  have hcn := cub_nrm hc
  have hxc0 : 0 < nrmQ (mulQ x c) := by rw [nrm_mul]; exact Int.mul_pos hx0 (by omega)
  have hxc1 : nrmQ (mulQ x c) ≤ 900 * 4 := by rw [nrm_mul]; exact Int.mul_le_mul hx1 hcn.2 (by omega) (by omega)
  repeat' decreasing_trivial_pre_omega
  refine ex_make hF (c6.at hh) hj ?_
  repeat' decreasing_trivial_pre_omega
  refine ⟨x, c, rfl, sm_x (by omega), ?_⟩
  repeat' decreasing_trivial_pre_omega
  refine mk_grainG (.inl (.inl rfl)) (ne hxc0) (by omega) ?_
  repeat' decreasing_trivial_pre_omega
  refine ⟨_, _, rfl, hx0, hxc0, by omega, by omega, ?_⟩
  rw [mid_one hx0 (cb_of hc)]
  repeat' decreasing_trivial_pre_omega
  refine ⟨_, rfl, ?_⟩
  repeat' decreasing_trivial_pre_omega
  refine ⟨_, _, rfl, hx0, hy0, by omega, by omega, ?_⟩
  repeat' decreasing_trivial_pre_omega
  exact ⟨_, rfl, hq _⟩
end
end K7
end
set_option Elab.async false
set_option linter.all false
set_option maxRecDepth 100000
set_option maxHeartbeats 1000000
set_option pp.maxSteps 1200
/-! K7R: the module's facts, the callees (printed by mk7w.py). -/
namespace K7
open PySem PySem.Spec PyProof.Rows L2 G He
section
variable {P : Program} {w : World} {K : PySem.W.Frag} {h : Heap} {mg : Str → Option Value} {base : Heap} (X : K.In h) (G : h.Ns mainGlobals mg) (c : SaysA fa fn K)
theorem cal_G {hot : Bool} {x : Str} {st : Stmt} {N ps : List Str} {k : Nat} {ds : DS} {fd : FuncData} {f : Addr} (F : FunD K x x (defArgs st) (defBody st) (defScope st) [] [] f fd) (S : FnScope N ps (defScope st)) (hm : mg x = some (.ref f)) (hb : Binds K fd ps [])
    (len : ∀ args M Φ Ψ, ds args M Φ Ψ → args.length = ps.length) (hbody : ∀ (T : Fm Unit), T.hot = hot → Fd T k P w K mg base N (defScope st) → ∀ args M Φ Ψ, ds args M Φ Ψ → Bod T st N args M Φ Ψ) : Cal hot P w K mg base x (k + 1) ps ds :=
  ⟨f, fd, okG F S len hbody, hm, F.kp, hb⟩
theorem ProC.mono {hot : Bool} {C : Addr} {m : Str} {j j' : Nat} {ps : List Str} {ds : DS} (c : ProC hot P w K mg base C m j ps ds) (h : j ≤ j') : ProC hot P w K mg base C m j' ps ds := by
  obtain ⟨q, f, fd, F, r⟩ := c
  exact ⟨q, f, fd, F.mono h, r⟩
theorem CalK.mono {x : Str} {j j' : Nat} {p1 p2 : Str} {ds : DS} (c : CalK P w K mg base x j p1 p2 ds) (h : j ≤ j') : CalK P w K mg base x j' p1 p2 ds := by
  obtain ⟨f, fd, F, r⟩ := c
  exact ⟨f, fd, F.mono h, r⟩
theorem CalK0.mono {x : Str} {j j' : Nat} {ds : DS} (c : CalK0 P w K mg base x j ds) (h : j ≤ j') : CalK0 P w K mg base x j' ds := by
  obtain ⟨f, fd, F, r⟩ := c
  exact ⟨f, fd, F.mono h, r⟩
include X G c
theorem gB : Bi mg where
  len := free_ok X G (c.fact 0 rfl)
  abs := free_ok X G (c.fact 1 rfl)
  int := free_ok X G (c.fact 2 rfl)
  bool := free_ok X G (c.fact 3 rfl)
  str := free_ok X G (c.fact 4 rfl)
  list := free_ok X G (c.fact 5 rfl)
  tuple := free_ok X G (c.fact 6 rfl)
  dict := free_ok X G (c.fact 7 rfl)
  isinstance := free_ok X G (c.fact 8 rfl)
  all := free_ok X G (c.fact 9 rfl)
  zip := free_ok X G (c.fact 10 rfl)
  max := free_ok X G (c.fact 11 rfl)
  min := free_ok X G (c.fact 12 rfl)
  sum := free_ok X G (c.fact 13 rfl)
  sorted := free_ok X G (c.fact 14 rfl)
  range := free_ok X G (c.fact 15 rfl)
  enumerate := free_ok X G (c.fact 16 rfl)
theorem gR : mg "Row" = some (.ref (ga K "Row")) := glo_ok X G (c.fact 55 rfl)
theorem gGr : mg "Grain" = some (.ref (ga K "Grain")) := glo_ok X G (c.fact 56 rfl)
theorem gG : mg "gcd" = some (.builtin "math.gcd") := bi_ok X G (c.fact 57 rfl)
theorem oR : OCls K (ga K "Row") ["numbers"] := ⟨cls_ok (c.fact 58 rfl), fun f hf => eqO_ok (List.all_eq_true.mp (c.fact 59 rfl) f hf)⟩
theorem oG : OCls K (ga K "Grain") ["name"] := ⟨cls_ok (c.fact 61 rfl), fun f hf => eqO_ok (List.all_eq_true.mp (c.fact 62 rfl) f hf)⟩
theorem kt : PySem.W.kitOne K (.type "tuple") (.ref (ga K "Row")) = some false := of_decide_eq_true (c.fact 67 rfl)
theorem oF : OwnF K (ga K "Row") := own_ok (oR X G c).cls (c.fact 64 rfl)
theorem kl : PySem.W.kitOne K (.type "list") (.ref (ga K "Row")) = some false := of_decide_eq_true (c.fact 65 rfl)
theorem kr : PySem.W.kitOne K (.ref (ga K "Row")) (.ref (ga K "Row")) = some true := of_decide_eq_true (c.fact 66 rfl)
theorem c__law_like : ∀ n : Nat, Cal false P w K mg base "_law_like" (n + 1) ["told", "due"] (ds__law_like n) := by
  obtain ⟨fd, F⟩ := c.def_ 37 (d := dG "_law_like" s__law_like) rfl
  have hm : mg "_law_like" = some (.ref (ga K "_law_like")) := glo_ok X G (c.fact 54 rfl)
  have hb : Binds K fd ["told", "due"] [] := (F.bindsN fun _ _ _ _ _ _ us hl => match us, hl with | [_, _], _ => rfl)
  intro n
  induction n with
  | zero => exact cal_G (st := s__law_like) (N := n__law_like) F ⟨rfl, rfl, rfl, by decide +kernel, rfl, by decide +kernel, by decide +kernel⟩ hm hb (fun args M Φ Ψ h => by obtain ⟨_, rfl, _⟩ := h; rfl) (fun T hh hD args M Φ Ψ h => b__law_like (n := 0) hh (gB X G c) (fun m e => by omega) hD h)
  | succ n ih => exact cal_G (st := s__law_like) (N := n__law_like) F ⟨rfl, rfl, rfl, by decide +kernel, rfl, by decide +kernel, by decide +kernel⟩ hm hb (fun args M Φ Ψ h => by obtain ⟨_, rfl, _⟩ := h; rfl) (fun T hh hD args M Φ Ψ h => b__law_like (n := n + 1) hh (gB X G c) (fun m e => Nat.succ.inj e ▸ ih) hD h)
theorem c__law_bag : Cal false P w K mg base "_law_bag" 1 ["script"] ds__law_bag := by
  obtain ⟨fd, F⟩ := c.def_ 0 (d := dG "_law_bag" s__law_bag) rfl
  exact cal_G (st := s__law_bag) (N := n__law_bag) (k := 0) F ⟨rfl, rfl, rfl, by decide +kernel, rfl, by decide +kernel, by decide +kernel⟩ (glo_ok X G (c.fact 17 rfl)) (F.bindsN fun _ _ _ _ _ _ us hl => match us, hl with | [_], _ => rfl) (fun args M Φ Ψ h => by obtain ⟨_, rfl, _⟩ := h; rfl) (fun T hh hD args M Φ Ψ h => b__law_bag hh (gB X G c) hD h)
theorem c__law_draw : Cal false P w K mg base "_law_draw" 1 ["bag", "limit"] ds__law_draw := by
  obtain ⟨fd, F⟩ := c.def_ 1 (d := dG "_law_draw" s__law_draw) rfl
  exact cal_G (st := s__law_draw) (N := n__law_draw) (k := 0) F ⟨rfl, rfl, rfl, by decide +kernel, rfl, by decide +kernel, by decide +kernel⟩ (glo_ok X G (c.fact 18 rfl)) (F.bindsN fun _ _ _ _ _ _ us hl => match us, hl with | [_, _], _ => rfl) (fun args M Φ Ψ h => by obtain ⟨_, _, rfl, _⟩ := h; rfl) (fun T hh hD args M Φ Ψ h => b__law_draw hh (gB X G c) hD h)
theorem c__law_of : Cal false P w K mg base "_law_of" 2 ["bag", "things"] ds__law_of := by
  obtain ⟨fd, F⟩ := c.def_ 2 (d := dG "_law_of" s__law_of) rfl
  exact cal_G (st := s__law_of) (N := n__law_of) (k := 1) F ⟨rfl, rfl, rfl, by decide +kernel, rfl, by decide +kernel, by decide +kernel⟩ (glo_ok X G (c.fact 19 rfl)) (F.bindsN fun _ _ _ _ _ _ us hl => match us, hl with | [_, _], _ => rfl) (fun args M Φ Ψ h => by obtain ⟨_, _, rfl, _⟩ := h; rfl) (fun T hh hD args M Φ Ψ h => b__law_of hh (gB X G c) ((c__law_draw X G c).mono (by decide)) hD h)
theorem c__law_gcd : Cal false P w K mg base "_law_gcd" 1 ["one", "two"] ds__law_gcd := by
  obtain ⟨fd, F⟩ := c.def_ 3 (d := dG "_law_gcd" s__law_gcd) rfl
  exact cal_G (st := s__law_gcd) (N := n__law_gcd) (k := 0) F ⟨rfl, rfl, rfl, by decide +kernel, rfl, by decide +kernel, by decide +kernel⟩ (glo_ok X G (c.fact 20 rfl)) (F.bindsN fun _ _ _ _ _ _ us hl => match us, hl with | [_, _], _ => rfl) (fun args M Φ Ψ h => by obtain ⟨_, _, rfl, _⟩ := h; rfl) (fun T hh hD args M Φ Ψ h => b__law_gcd hh (gB X G c) hD h)
theorem c__law_common : Cal false P w K mg base "_law_common" 2 ["amounts"] ds__law_common := by
  obtain ⟨fd, F⟩ := c.def_ 4 (d := dG "_law_common" s__law_common) rfl
  exact cal_G (st := s__law_common) (N := n__law_common) (k := 1) F ⟨rfl, rfl, rfl, by decide +kernel, rfl, by decide +kernel, by decide +kernel⟩ (glo_ok X G (c.fact 21 rfl)) (F.bindsN fun _ _ _ _ _ _ us hl => match us, hl with | [_], _ => rfl) (fun args M Φ Ψ h => by obtain ⟨_, rfl, _⟩ := h; rfl) (fun T hh hD args M Φ Ψ h => b__law_common hh ((c__law_gcd X G c).mono (by decide)) hD h)
theorem c__law_greatest : Cal false P w K mg base "_law_greatest" 1 ["quad"] ds__law_greatest := by
  obtain ⟨fd, F⟩ := c.def_ 5 (d := dG "_law_greatest" s__law_greatest) rfl
  exact cal_G (st := s__law_greatest) (N := n__law_greatest) (k := 0) F ⟨rfl, rfl, rfl, by decide +kernel, rfl, by decide +kernel, by decide +kernel⟩ (glo_ok X G (c.fact 22 rfl)) (F.bindsN fun _ _ _ _ _ _ us hl => match us, hl with | [_], _ => rfl) (fun args M Φ Ψ h => by obtain ⟨_, rfl, _⟩ := h; rfl) (fun T hh hD args M Φ Ψ h => b__law_greatest hh (gB X G c) hD h)
theorem c__law_names : Cal false P w K mg base "_law_names" 3 ["size"] ds__law_names := by
  obtain ⟨fd, F⟩ := c.def_ 6 (d := dG "_law_names" s__law_names) rfl
  exact cal_G (st := s__law_names) (N := n__law_names) (k := 2) F ⟨rfl, rfl, rfl, by decide +kernel, rfl, by decide +kernel, by decide +kernel⟩ (glo_ok X G (c.fact 23 rfl)) (F.bindsN fun _ _ _ _ _ _ us hl => match us, hl with | [_], _ => rfl) (fun args M Φ Ψ h => by obtain ⟨_, rfl, _⟩ := h; rfl) (fun T hh hD args M Φ Ψ h => b__law_names hh (gB X G c) ((c__law_common X G c).mono (by decide)) ((c__law_greatest X G c).mono (by decide)) hD h)
theorem c__law_times : Cal false P w K mg base "_law_times" 1 ["one", "two"] ds__law_times := by
  obtain ⟨fd, F⟩ := c.def_ 7 (d := dG "_law_times" s__law_times) rfl
  exact cal_G (st := s__law_times) (N := n__law_times) (k := 0) F ⟨rfl, rfl, rfl, by decide +kernel, rfl, by decide +kernel, by decide +kernel⟩ (glo_ok X G (c.fact 24 rfl)) (F.bindsN fun _ _ _ _ _ _ us hl => match us, hl with | [_, _], _ => rfl) (fun args M Φ Ψ h => by obtain ⟨_, _, rfl, _⟩ := h; rfl) (fun T hh hD args M Φ Ψ h => b__law_times hh  hD h)
theorem c__law_size : Cal false P w K mg base "_law_size" 1 ["quad"] ds__law_size := by
  obtain ⟨fd, F⟩ := c.def_ 8 (d := dG "_law_size" s__law_size) rfl
  exact cal_G (st := s__law_size) (N := n__law_size) (k := 0) F ⟨rfl, rfl, rfl, by decide +kernel, rfl, by decide +kernel, by decide +kernel⟩ (glo_ok X G (c.fact 25 rfl)) (F.bindsN fun _ _ _ _ _ _ us hl => match us, hl with | [_], _ => rfl) (fun args M Φ Ψ h => by obtain ⟨_, rfl, _⟩ := h; rfl) (fun T hh hD args M Φ Ψ h => b__law_size hh (gB X G c) hD h)
theorem c__law_quad : Cal false P w K mg base "_law_quad" 2 ["bag", "top"] ds__law_quad := by
  obtain ⟨fd, F⟩ := c.def_ 9 (d := dG "_law_quad" s__law_quad) rfl
  exact cal_G (st := s__law_quad) (N := n__law_quad) (k := 1) F ⟨rfl, rfl, rfl, by decide +kernel, rfl, by decide +kernel, by decide +kernel⟩ (glo_ok X G (c.fact 26 rfl)) (F.bindsN fun _ _ _ _ _ _ us hl => match us, hl with | [_, _], _ => rfl) (fun args M Φ Ψ h => by obtain ⟨_, _, rfl, _⟩ := h; rfl) (fun T hh hD args M Φ Ψ h => b__law_quad hh (gB X G c) ((c__law_draw X G c).mono (by decide)) ((c__law_size X G c).mono (by decide)) hD h)
theorem c__law_name : Cal false P w K mg base "_law_name" 3 ["quad"] ds__law_name := by
  obtain ⟨fd, F⟩ := c.def_ 10 (d := dG "_law_name" s__law_name) rfl
  exact cal_G (st := s__law_name) (N := n__law_name) (k := 2) F ⟨rfl, rfl, rfl, by decide +kernel, rfl, by decide +kernel, by decide +kernel⟩ (glo_ok X G (c.fact 27 rfl)) (F.bindsN fun _ _ _ _ _ _ us hl => match us, hl with | [_], _ => rfl) (fun args M Φ Ψ h => by obtain ⟨_, rfl, _⟩ := h; rfl) (fun T hh hD args M Φ Ψ h => b__law_name hh (gB X G c) ((c__law_common X G c).mono (by decide)) ((c__law_times X G c).mono (by decide)) ((c__law_size X G c).mono (by decide)) ((c__law_greatest X G c).mono (by decide)) hD h)
theorem c__law_stepped : Cal false P w K mg base "_law_stepped" 4 ["bag", "odds", "most"] ds__law_stepped := by
  obtain ⟨fd, F⟩ := c.def_ 11 (d := dG "_law_stepped" s__law_stepped) rfl
  exact cal_G (st := s__law_stepped) (N := n__law_stepped) (k := 3) F ⟨rfl, rfl, rfl, by decide +kernel, rfl, by decide +kernel, by decide +kernel⟩ (glo_ok X G (c.fact 28 rfl)) (F.bindsN fun _ _ _ _ _ _ us hl => match us, hl with | [_, _, _], _ => rfl) (fun args M Φ Ψ h => by obtain ⟨_, _, _, rfl, _⟩ := h; rfl) (fun T hh hD args M Φ Ψ h => b__law_stepped hh (gB X G c) ((c__law_draw X G c).mono (by decide)) ((c__law_times X G c).mono (by decide)) ((c__law_of X G c).mono (by decide)) ((c__law_names X G c).mono (by decide)) ((c__law_name X G c).mono (by decide)) hD h)
theorem c__law_pair : Cal false P w K mg base "_law_pair" 5 ["bag"] ds__law_pair := by
  obtain ⟨fd, F⟩ := c.def_ 12 (d := dG "_law_pair" s__law_pair) rfl
  exact cal_G (st := s__law_pair) (N := n__law_pair) (k := 4) F ⟨rfl, rfl, rfl, by decide +kernel, rfl, by decide +kernel, by decide +kernel⟩ (glo_ok X G (c.fact 29 rfl)) (F.bindsN fun _ _ _ _ _ _ us hl => match us, hl with | [_], _ => rfl) (fun args M Φ Ψ h => by obtain ⟨_, rfl, _⟩ := h; rfl) (fun T hh hD args M Φ Ψ h => b__law_pair hh (gB X G c) ((c__law_draw X G c).mono (by decide)) ((c__law_times X G c).mono (by decide)) ((c__law_of X G c).mono (by decide)) ((c__law_names X G c).mono (by decide)) ((c__law_quad X G c).mono (by decide)) ((c__law_stepped X G c).mono (by decide)) hD h)
theorem c_is_number : Cal false P w K mg base "is_number" 1 ["value"] ds_is_number := by
  obtain ⟨fd, F⟩ := c.def_ 13 (d := dG "is_number" s_is_number) rfl
  exact cal_G (st := s_is_number) (N := n_is_number) (k := 0) F ⟨rfl, rfl, rfl, by decide +kernel, rfl, by decide +kernel, by decide +kernel⟩ (glo_ok X G (c.fact 30 rfl)) (F.bindsN fun _ _ _ _ _ _ us hl => match us, hl with | [_], _ => rfl) (fun args M Φ Ψ h => by obtain ⟨_, _, rfl, _⟩ := h; rfl) (fun T hh hD args M Φ Ψ h => b_is_number hh (gB X G c) hD h)
theorem c_are_numbers : Cal false P w K mg base "are_numbers" 2 ["values", "many"] ds_are_numbers := by
  obtain ⟨fd, F⟩ := c.def_ 14 (d := dG "are_numbers" s_are_numbers) rfl
  exact cal_G (st := s_are_numbers) (N := n_are_numbers) (k := 1) F ⟨rfl, rfl, rfl, by decide +kernel, rfl, by decide +kernel, by decide +kernel⟩ (glo_ok X G (c.fact 31 rfl)) (F.bindsN fun _ _ _ _ _ _ us hl => match us, hl with | [_, _], _ => rfl) (fun args M Φ Ψ h => by obtain ⟨_, _, _, rfl, _⟩ := h; rfl) (fun T hh hD args M Φ Ψ h => b_are_numbers hh (gB X G c) ((c_is_number X G c).mono (by decide)) hD h)
theorem c_is_four : Cal false P w K mg base "is_four" 3 ["value"] ds_is_four := by
  obtain ⟨fd, F⟩ := c.def_ 15 (d := dG "is_four" s_is_four) rfl
  exact cal_G (st := s_is_four) (N := n_is_four) (k := 2) F ⟨rfl, rfl, rfl, by decide +kernel, rfl, by decide +kernel, by decide +kernel⟩ (glo_ok X G (c.fact 32 rfl)) (F.bindsN fun _ _ _ _ _ _ us hl => match us, hl with | [_], _ => rfl) (fun args M Φ Ψ h => by obtain ⟨_, _, rfl, _⟩ := h; rfl) (fun T hh hD args M Φ Ψ h => b_is_four hh (gB X G c) ((c_are_numbers X G c).mono (by decide)) hD h)
theorem cMk_Row : MkC false P w K mg base "Row" (ga K "Row") 4 ["self", "numbers"] (ds_Row_init (ga K "Row")) := by
  obtain ⟨fd, F⟩ := c.def_ 38 rfl
  refine ⟨_, fd, (okG (N := n_Row___init__) (k := 3) F ⟨rfl, rfl, rfl, by decide +kernel, rfl, by decide +kernel, by decide +kernel⟩ (fun args M Φ Ψ h => by obtain ⟨_, _, _, rfl, _⟩ := h; rfl) (fun T hh hD args M Φ Ψ h => b_Row___init__ hh (gB X G c) (oR X G c) ((c_is_four X G c).mono (by decide)) hD h)), mkr_ok (c.fact 60 rfl), gR X G c, (F.bindsN fun _ _ _ _ _ _ us hl => match us, hl with | [_, _], _ => rfl), ?_⟩
  obtain ⟨oc, od, dV, kV, doc, pm, an, cdv, ct, osl, rfl, lk, hcd, hD, hK⟩ := F.ex
  rcases hD with ⟨_, rfl⟩ | ⟨e, _⟩
  · exact ⟨fun s us ws X l1 l2 => L2.BindsTo.of_looks fun M => PySem.W.Looks.of_pure (match us, l1, ws, l2 with | [_], _, [_], _ => rfl), fun r1 r2 => r1.append r2⟩
  · exact absurd rfl e
theorem c_four_parts : Cal false P w K mg base "four_parts" 1 ["four", "common"] ds_four_parts := by
  obtain ⟨fd, F⟩ := c.def_ 16 (d := dG "four_parts" s_four_parts) rfl
  exact cal_G (st := s_four_parts) (N := n_four_parts) (k := 0) F ⟨rfl, rfl, rfl, by decide +kernel, rfl, by decide +kernel, by decide +kernel⟩ (glo_ok X G (c.fact 33 rfl)) (F.bindsN fun _ _ _ _ _ _ us hl => match us, hl with | [_, _], _ => rfl) (fun args M Φ Ψ h => by obtain ⟨_, _, rfl, _⟩ := h; rfl) (fun T hh hD args M Φ Ψ h => b_four_parts hh  hD h)
theorem c_divisor_of : Cal false P w K mg base "divisor_of" 1 ["numbers"] ds_divisor_of := by
  obtain ⟨fd, F⟩ := c.def_ 17 (d := dG "divisor_of" s_divisor_of) rfl
  exact cal_G (st := s_divisor_of) (N := n_divisor_of) (k := 0) F ⟨rfl, rfl, rfl, by decide +kernel, rfl, by decide +kernel, by decide +kernel⟩ (glo_ok X G (c.fact 34 rfl)) (F.bindsN fun _ _ _ _ _ _ us hl => match us, hl with | [_], _ => rfl) (fun args M Φ Ψ h => by obtain ⟨_, rfl, _⟩ := h; rfl) (fun T hh hD args M Φ Ψ h => b_divisor_of hh (gG X G c) hD h)
theorem c_primitive : Cal false P w K mg base "primitive" 2 ["four"] ds_primitive := by
  obtain ⟨fd, F⟩ := c.def_ 18 (d := dG "primitive" s_primitive) rfl
  exact cal_G (st := s_primitive) (N := n_primitive) (k := 1) F ⟨rfl, rfl, rfl, by decide +kernel, rfl, by decide +kernel, by decide +kernel⟩ (glo_ok X G (c.fact 35 rfl)) (F.bindsN fun _ _ _ _ _ _ us hl => match us, hl with | [_], _ => rfl) (fun args M Φ Ψ h => by obtain ⟨_, rfl, _⟩ := h; rfl) (fun T hh hD args M Φ Ψ h => b_primitive hh ((c_four_parts X G c).mono (by decide)) ((c_divisor_of X G c).mono (by decide)) hD h)
theorem c_four_size : Cal false P w K mg base "four_size" 1 ["four"] ds_four_size := by
  obtain ⟨fd, F⟩ := c.def_ 19 (d := dG "four_size" s_four_size) rfl
  exact cal_G (st := s_four_size) (N := n_four_size) (k := 0) F ⟨rfl, rfl, rfl, by decide +kernel, rfl, by decide +kernel, by decide +kernel⟩ (glo_ok X G (c.fact 36 rfl)) (F.bindsN fun _ _ _ _ _ _ us hl => match us, hl with | [_], _ => rfl) (fun args M Φ Ψ h => by obtain ⟨_, rfl, _⟩ := h; rfl) (fun T hh hD args M Φ Ψ h => b_four_size hh  hD h)
theorem c_four_product : Cal false P w K mg base "four_product" 1 ["one", "two"] ds_four_product := by
  obtain ⟨fd, F⟩ := c.def_ 20 (d := dG "four_product" s_four_product) rfl
  exact cal_G (st := s_four_product) (N := n_four_product) (k := 0) F ⟨rfl, rfl, rfl, by decide +kernel, rfl, by decide +kernel, by decide +kernel⟩ (glo_ok X G (c.fact 37 rfl)) (F.bindsN fun _ _ _ _ _ _ us hl => match us, hl with | [_, _], _ => rfl) (fun args M Φ Ψ h => by obtain ⟨_, _, rfl, _⟩ := h; rfl) (fun T hh hD args M Φ Ψ h => b_four_product hh  hD h)
theorem c__halved : Cal false P w K mg base "_halved" 2 ["four"] ds__halved := by
  obtain ⟨fd, F⟩ := c.def_ 21 (d := dG "_halved" s__halved) rfl
  exact cal_G (st := s__halved) (N := n__halved) (k := 1) F ⟨rfl, rfl, rfl, by decide +kernel, rfl, by decide +kernel, by decide +kernel⟩ (glo_ok X G (c.fact 38 rfl)) (F.bindsN fun _ _ _ _ _ _ us hl => match us, hl with | [_], _ => rfl) (fun args M Φ Ψ h => by obtain ⟨_, rfl, _⟩ := h; rfl) (fun T hh hD args M Φ Ψ h => b__halved hh ((c_four_parts X G c).mono (by decide)) ((c_four_product X G c).mono (by decide)) hD h)
theorem c_odd_four : Cal false P w K mg base "odd_four" 3 ["four"] ds_odd_fourG := by
  obtain ⟨fd, F⟩ := c.def_ 22 (d := dG "odd_four" s_odd_four) rfl
  exact cal_G (st := s_odd_four) (N := n_odd_four) (k := 2) F ⟨rfl, rfl, rfl, by decide +kernel, rfl, by decide +kernel, by decide +kernel⟩ (glo_ok X G (c.fact 39 rfl)) (F.bindsN fun _ _ _ _ _ _ us hl => match us, hl with | [_], _ => rfl) (fun args M Φ Ψ h => by obtain ⟨_, rfl, _⟩ := h; rfl) (fun T hh hD args M Φ Ψ h => b_odd_fourG hh ((c_primitive X G c).mono (by decide)) ((c_four_size X G c).mono (by decide)) ((c__halved X G c).mono (by decide)) hD h)
theorem c_four_minus : Cal false P w K mg base "four_minus" 1 ["four"] ds_four_minus := by
  obtain ⟨fd, F⟩ := c.def_ 23 (d := dG "four_minus" s_four_minus) rfl
  exact cal_G (st := s_four_minus) (N := n_four_minus) (k := 0) F ⟨rfl, rfl, rfl, by decide +kernel, rfl, by decide +kernel, by decide +kernel⟩ (glo_ok X G (c.fact 40 rfl)) (F.bindsN fun _ _ _ _ _ _ us hl => match us, hl with | [_], _ => rfl) (fun args M Φ Ψ h => by obtain ⟨_, rfl, _⟩ := h; rfl) (fun T hh hD args M Φ Ψ h => b_four_minus hh  hD h)
theorem c_greatest : Cal false P w K mg base "greatest" 2 ["four"] ds_greatest := by
  obtain ⟨fd, F⟩ := c.def_ 24 (d := dG "greatest" s_greatest) rfl
  exact cal_G (st := s_greatest) (N := n_greatest) (k := 1) F ⟨rfl, rfl, rfl, by decide +kernel, rfl, by decide +kernel, by decide +kernel⟩ (glo_ok X G (c.fact 41 rfl)) (F.bindsN fun _ _ _ _ _ _ us hl => match us, hl with | [_], _ => rfl) (fun args M Φ Ψ h => by obtain ⟨_, rfl, _⟩ := h; rfl) (fun T hh hD args M Φ Ψ h => b_greatest hh (gB X G c) ((c_four_minus X G c).mono (by decide)) hD h)
theorem c_name_of : Cal false P w K mg base "name_of" 4 ["four"] ds_name_ofG := by
  obtain ⟨fd, F⟩ := c.def_ 25 (d := dG "name_of" s_name_of) rfl
  exact cal_G (st := s_name_of) (N := n_name_of) (k := 3) F ⟨rfl, rfl, rfl, by decide +kernel, rfl, by decide +kernel, by decide +kernel⟩ (glo_ok X G (c.fact 42 rfl)) (F.bindsN fun _ _ _ _ _ _ us hl => match us, hl with | [_], _ => rfl) (fun args M Φ Ψ h => by obtain ⟨_, rfl, _⟩ := h; rfl) (fun T hh hD args M Φ Ψ h => b_name_ofG hh ((c_odd_four X G c).mono (by decide)) ((c_greatest X G c).mono (by decide)) hD h)
theorem cMk_Grain : MkC false P w K mg base "Grain" (ga K "Grain") 5 ["self", "row"] (ds_Grain_initG (ga K "Row") (ga K "Grain")) := by
  obtain ⟨fd, F⟩ := c.def_ 39 rfl
  refine ⟨_, fd, (okG (N := n_Grain___init__) (k := 4) F ⟨rfl, rfl, rfl, by decide +kernel, rfl, by decide +kernel, by decide +kernel⟩ (fun args M Φ Ψ h => by obtain ⟨_, _, _, rfl, _⟩ := h; rfl) (fun T hh hD args M Φ Ψ h => b_Grain___init__G hh (gB X G c) (gR X G c) (kt X G c) (kl X G c) (kr X G c) (oF X G c) (oR X G c) (oG X G c) ((c_is_four X G c).mono (by decide)) ((c_name_of X G c).mono (by decide)) hD h)), mkr_ok (c.fact 63 rfl), gGr X G c, (F.bindsN fun _ _ _ _ _ _ us hl => match us, hl with | [_, _], _ => rfl), ?_⟩
  obtain ⟨oc, od, dV, kV, doc, pm, an, cdv, ct, osl, rfl, lk, hcd, hD, hK⟩ := F.ex
  rcases hD with ⟨_, rfl⟩ | ⟨e, _⟩
  · exact ⟨fun s us ws X l1 l2 => L2.BindsTo.of_looks fun M => PySem.W.Looks.of_pure (match us, l1, ws, l2 with | [_], _, [_], _ => rfl), fun r1 r2 => r1.append r2⟩
  · exact absurd rfl e
theorem c__law_back : Cal false P w K mg base "_law_back" 1 ["quad"] ds__law_back := by
  obtain ⟨fd, F⟩ := c.def_ 26 (d := dG "_law_back" s__law_back) rfl
  exact cal_G (st := s__law_back) (N := n__law_back) (k := 0) F ⟨rfl, rfl, rfl, by decide +kernel, rfl, by decide +kernel, by decide +kernel⟩ (glo_ok X G (c.fact 43 rfl)) (F.bindsN fun _ _ _ _ _ _ us hl => match us, hl with | [_], _ => rfl) (fun args M Φ Ψ h => by obtain ⟨_, rfl, _⟩ := h; rfl) (fun T hh hD args M Φ Ψ h => b__law_back hh  hD h)
theorem c0__law_cubes : CalK0 P w K mg base "_law_cubes" 2 ds__law_cubes := by
  obtain ⟨fd, F⟩ := c.def_ 27 (d := dG "_law_cubes" s__law_cubes) rfl
  refine ⟨_, fd, (okG (N := n__law_cubes) (k := 1) F ⟨rfl, rfl, rfl, by decide +kernel, rfl, by decide +kernel, by decide +kernel⟩ (fun args M Φ Ψ h => by obtain ⟨rfl, _⟩ := h; rfl) (fun T hh hD args M Φ Ψ h => b__law_cubes hh (gB X G c) ((c__law_size X G c).mono (by decide)) hD h)), glo_ok X G (c.fact 44 rfl), F.kp, ?_⟩
  obtain ⟨oc, od, dV, kV, doc, pm, an, cdv, ct, osl, rfl, lk, hcd, hD, hK⟩ := F.ex
  rcases hD with ⟨_, rfl⟩ | ⟨e, _⟩
  · exact ⟨fun s us ws X l1 l2 => L2.BindsTo.of_looks fun M => PySem.W.Looks.of_pure (match us, l1, ws, l2 with | [], _, [], _ => rfl), fun _ r => r⟩
  · exact absurd rfl e
theorem c__law_standing : Cal false P w K mg base "_law_standing" 3 ["one", "two"] ds__law_standing := by
  obtain ⟨fd, F⟩ := c.def_ 28 (d := dG "_law_standing" s__law_standing) rfl
  exact cal_G (st := s__law_standing) (N := n__law_standing) (k := 2) F ⟨rfl, rfl, rfl, by decide +kernel, rfl, by decide +kernel, by decide +kernel⟩ (glo_ok X G (c.fact 45 rfl)) (F.bindsN fun _ _ _ _ _ _ us hl => match us, hl with | [_, _], _ => rfl) (fun args M Φ Ψ h => by obtain ⟨_, _, rfl, _⟩ := h; rfl) (fun T hh hD args M Φ Ψ h => b__law_standing hh (gB X G c) ((c__law_size X G c).mono (by decide)) ((c__law_times X G c).mono (by decide)) ((c__law_back X G c).mono (by decide)) (CalK0.mono (c0__law_cubes X G c) (by decide)) ((c__law_common X G c).mono (by decide)) hD h)
theorem c__law_row_is : Cal false P w K mg base "_law_row_is" 4 ["told", "due"] (ds__law_row_is (ga K "Row")) := by
  obtain ⟨fd, F⟩ := c.def_ 29 (d := dG "_law_row_is" s__law_row_is) rfl
  exact cal_G (st := s__law_row_is) (N := n__law_row_is) (k := 3) F ⟨rfl, rfl, rfl, by decide +kernel, rfl, by decide +kernel, by decide +kernel⟩ (glo_ok X G (c.fact 46 rfl)) (F.bindsN fun _ _ _ _ _ _ us hl => match us, hl with | [_, _], _ => rfl) (fun args M Φ Ψ h => by obtain ⟨_, rfl, _⟩ := h; rfl) (fun T hh hD args M Φ Ψ h => b__law_row_is hh (gB X G c) (gR X G c) (kr X G c) (oF X G c) (oR X G c) ((c__law_like X G c 2).mono (by decide)) hD h)
theorem c_tidied : Cal false P w K mg base "tidied" 1 ["first", "others"] ds_tidied := by
  obtain ⟨fd, F⟩ := c.def_ 30 (d := dG "tidied" s_tidied) rfl
  exact cal_G (st := s_tidied) (N := n_tidied) (k := 0) F ⟨rfl, rfl, rfl, by decide +kernel, rfl, by decide +kernel, by decide +kernel⟩ (glo_ok X G (c.fact 47 rfl)) (F.bindsN fun _ _ _ _ _ _ us hl => match us, hl with | [_, _], _ => rfl) (fun args M Φ Ψ h => by obtain ⟨_, _, _, rfl, _⟩ := h; rfl) (fun T hh hD args M Φ Ψ h => b_tidied hh (gB X G c) hD h)
theorem c_weighed_row : Cal false P w K mg base "weighed_row" 2 ["numbers"] ds_weighed_row := by
  obtain ⟨fd, F⟩ := c.def_ 31 (d := dG "weighed_row" s_weighed_row) rfl
  exact cal_G (st := s_weighed_row) (N := n_weighed_row) (k := 1) F ⟨rfl, rfl, rfl, by decide +kernel, rfl, by decide +kernel, by decide +kernel⟩ (glo_ok X G (c.fact 48 rfl)) (F.bindsN fun _ _ _ _ _ _ us hl => match us, hl with | [_], _ => rfl) (fun args M Φ Ψ h => by obtain ⟨_, rfl, _⟩ := h; rfl) (fun T hh hD args M Φ Ψ h => b_weighed_row hh (gB X G c) ((c_tidied X G c).mono (by decide)) hD h)
theorem c_standing_numbers : Cal false P w K mg base "standing_numbers" 3 ["numbers"] ds_standing_numbers := by
  obtain ⟨fd, F⟩ := c.def_ 32 (d := dG "standing_numbers" s_standing_numbers) rfl
  exact cal_G (st := s_standing_numbers) (N := n_standing_numbers) (k := 2) F ⟨rfl, rfl, rfl, by decide +kernel, rfl, by decide +kernel, by decide +kernel⟩ (glo_ok X G (c.fact 49 rfl)) (F.bindsN fun _ _ _ _ _ _ us hl => match us, hl with | [_], _ => rfl) (fun args M Φ Ψ h => by obtain ⟨_, rfl, _⟩ := h; rfl) (fun T hh hD args M Φ Ψ h => b_standing_numbers hh ((c_weighed_row X G c).mono (by decide)) hD h)
theorem c_four_back : Cal false P w K mg base "four_back" 1 ["four"] ds_four_back := by
  obtain ⟨fd, F⟩ := c.def_ 33 (d := dG "four_back" s_four_back) rfl
  exact cal_G (st := s_four_back) (N := n_four_back) (k := 0) F ⟨rfl, rfl, rfl, by decide +kernel, rfl, by decide +kernel, by decide +kernel⟩ (glo_ok X G (c.fact 50 rfl)) (F.bindsN fun _ _ _ _ _ _ us hl => match us, hl with | [_], _ => rfl) (fun args M Φ Ψ h => by obtain ⟨_, rfl, _⟩ := h; rfl) (fun T hh hD args M Φ Ψ h => b_four_back hh  hD h)
theorem c_apart : Cal false P w K mg base "apart" 7 ["g", "h"] (ds_apart (ga K "Grain")) := by
  obtain ⟨fd, F⟩ := c.def_ 34 (d := dG "apart" s_apart) rfl
  exact cal_G (st := s_apart) (N := n_apart) (k := 6) F ⟨rfl, rfl, rfl, by decide +kernel, rfl, by decide +kernel, by decide +kernel⟩ (glo_ok X G (c.fact 51 rfl)) (F.bindsN fun _ _ _ _ _ _ us hl => match us, hl with | [_, _], _ => rfl) (fun args M Φ Ψ h => by obtain ⟨_, _, rfl, _⟩ := h; rfl) (fun T hh hD args M Φ Ψ h => b_apart hh (j := 5) (by decide) (oG X G c) ((c_four_product X G c).mono (by decide)) ((c_four_back X G c).mono (by decide)) ((cMk_Grain X G c).mono (by decide)) hD h)
theorem c_standing_row : Cal false P w K mg base "standing_row" 8 ["g", "h"] (ds_standing_row (ga K "Row") (ga K "Grain")) := by
  obtain ⟨fd, F⟩ := c.def_ 35 (d := dG "standing_row" s_standing_row) rfl
  exact cal_G (st := s_standing_row) (N := n_standing_row) (k := 7) F ⟨rfl, rfl, rfl, by decide +kernel, rfl, by decide +kernel, by decide +kernel⟩ (glo_ok X G (c.fact 52 rfl)) (F.bindsN fun _ _ _ _ _ _ us hl => match us, hl with | [_, _], _ => rfl) (fun args M Φ Ψ h => by obtain ⟨_, _, rfl, _⟩ := h; rfl) (fun T hh hD args M Φ Ψ h => b_standing_row hh (j := 6) (by decide) (oG X G c) ((c_standing_numbers X G c).mono (by decide)) ((c_apart X G c).mono (by decide)) ((cMk_Row X G c).mono (by decide)) hD h)
theorem ck_standing_row : CalK P w K mg base "standing_row" 8 "g" "h" (ds_standing_row (ga K "Row") (ga K "Grain")) := by
  obtain ⟨fd, F⟩ := c.def_ 35 (d := dG "standing_row" s_standing_row) rfl
  refine ⟨_, fd, (okG (N := n_standing_row) (k := 7) F ⟨rfl, rfl, rfl, by decide +kernel, rfl, by decide +kernel, by decide +kernel⟩ (fun args M Φ Ψ h => by obtain ⟨_, _, rfl, _⟩ := h; rfl) (fun T hh hD args M Φ Ψ h => b_standing_row hh (j := 6) (by decide) (oG X G c) ((c_standing_numbers X G c).mono (by decide)) ((c_apart X G c).mono (by decide)) ((cMk_Row X G c).mono (by decide)) hD h)), glo_ok X G (c.fact 52 rfl), F.kp, ?_⟩
  obtain ⟨oc, od, dV, kV, doc, pm, an, cdv, ct, osl, rfl, lk, hcd, hD, hK⟩ := F.ex
  rcases hD with ⟨_, rfl⟩ | ⟨e, _⟩
  · exact ⟨fun s us ws X l1 l2 => L2.BindsTo.of_looks fun M => PySem.W.Looks.of_pure (match us, l1, ws, l2 with | [], _, [_, _], _ => rfl), fun _ r => swp_vals r⟩
  · exact absurd rfl e
omit X G c in
theorem head_F {f : Addr} (X : K.In h) (G : h.Ns mainGlobals mg) (hfa : mg ("law" : Str) = some (.ref f)) (c : SaysA fa fn K) :
    ∃ fd : FuncData, (∀ (s : Shared) (v : Value), BindsTo s fd ⟨[v], []⟩ [("script", v)]) ∧ ∀ base : Heap, K.In base → base.Ns mainGlobals mg → FnOk P w K mg base (L2.CX P w) 9 f fd ["script"] (lift K ds_law) := by
  obtain ⟨fd, F⟩ := c.def_ 36 (d := dG "law" s_law) rfl
  have e := hfa.symm.trans (glo_ok X G (c.fact 53 (f := faB (.glo "law")) rfl))
  cases e
  exact ⟨fd, fun s v => FunD.bindsA (ps := ["script"]) F (fun _ _ _ _ _ _ us hl => match us, hl with | [_], _ => rfl) s [v] rfl, fun base _ _ => (okG (N := n_law) (k := 8) F ⟨rfl, rfl, rfl, by decide +kernel, rfl, by decide +kernel, by decide +kernel⟩ (fun args M Φ Ψ h => by obtain ⟨_, rfl, _⟩ := h; rfl) (fun T hh hD args M Φ Ψ h => b_law hh (j := 7) (by decide) (gB X G c) (oR X G c) (oG X G c) ((c__law_bag X G c).mono (by decide)) ((c__law_of X G c).mono (by decide)) ((c__law_names X G c).mono (by decide)) ((c__law_pair X G c).mono (by decide)) ((cMk_Row X G c).mono (by decide)) ((cMk_Grain X G c).mono (by decide)) ((c__law_quad X G c).mono (by decide)) ((c__law_times X G c).mono (by decide)) ((c__law_standing X G c).mono (by decide)) (CalK0.mono (c0__law_cubes X G c) (by decide)) ((c__law_row_is X G c).mono (by decide)) ((c_standing_row X G c).mono (by decide)) (CalK.mono (ck_standing_row X G c) (by decide)) hD h)).ok⟩
end
end K7
set_option Elab.async false
set_option linter.all false
set_option maxRecDepth 100000
set_option maxHeartbeats 0
set_option pp.maxSteps 1200
/-! K7Z: the end (printed by mk7z.py). -/
namespace K7
open PySem PySem.Spec PyProof.Rows L2 G He
theorem rol_rep {K : PySem.W.Frag} {H : Hp} : ∀ {ns : List Int}, Reps K H (ns.map D.int) (ns.map V.int)
  | [] => rfl
  | n :: ns => ⟨.int n, ns.map V.int, rfl, rfl, rol_rep⟩
theorem fin_h : FinH := by
  intro w mg fa h Y hG hmg
  obtain ⟨K, KX, c⟩ := Y
  obtain ⟨fd, hb, hF⟩ := head_F (P := (PySem.Challenge.rw_sharedsites_k60_whole_standing_rows).prog) (w := w) KX hG hmg c
  refine ⟨K, fd, G.lift K ds_law, KX, hb, fun H a ns hl hO hS => ?_, hF⟩
  refine ⟨H, fun _ => none, [.rol (ns.map G.D.int)], fun d _ => d = .bl true, fun _ _ _ _ => False, ⟨fun _ _ e => e, fun _ _ e => nomatch e⟩, ⟨.ref a, [], rfl, ⟨a, ns.map L2.V.int, rfl, hS, rol_rep⟩, rfl⟩, ⟨ns, rfl, fun _ => rfl⟩, fun F' H' M' d v _ _ r e => by cases e; exact r, fun _ _ _ _ _ _ _ _ _ _ _ _ _ z => z⟩
end K7
theorem PySem.Challenge.cw_sharedsites_k60_whole_standing_rows_holds : PySem.Challenge.rw_sharedsites_k60_whole_standing_rows.Holds := by
  exact K7.fin K7.fin_h
