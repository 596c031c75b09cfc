import PyProof.Rows.All
import Wide.All
import OpenK.AllK
import Wide.FinOn
import HandS.ForMost
import HandS.ForExc
import HandS.Evl
import HandS.Defaults
import HandS.HotCalls
import HandS.Style
import KE.DataMinMax
import PyProof.Rows.RowBridgeK
import HandS.IsInst
import HandS.Gcd
import HandS.FStr
import PyProof.StrOps2
import HandS.Iter
import HandS.Zip
import KE.KExcIs
import HandS.ExcInitHot
import HandS.ClsMeth
import HandS.Property
import HandS.ExcIs
import HandS.OwnEq
import KE.KTryMore
import HandS.ExcInit
import HandS.ExcField
import HandS.WordsExc
import KE.DatumOrd
import PySem.Challenge.RW_sharedsites_k83_leaves_told
import KE.IntTextLaws
import HandS.Codes
import HandS.Text
import HandS.HeadHook1
import HandS.HeadHook2
import HandS.MakeKw
import HandS.Head0
import HandS.Head1
import HandS.Head2
import HandS.Head3
import HandS.HeadEnd
set_option Elab.async false
set_option linter.all false
set_option maxRecDepth 100000
/-! GBase: the data layer over HandS. Values as pure data D; a frozen part F of the heap, hidden; mutable things by a map Ms; judgements on data. -/
namespace G
open PySem PySem.Spec PyProof.Rows L2

/-! ### data -/
inductive D where
  | non | bl (b : Bool) | int (i : Int) | str (x : Str) | ref (a : Addr) | ty (n : String)
  | tup (xs : List D)
  | lst (xs : List D)
  /-- a list that is only read -/
  | rol (xs : List D)
  /-- an instance of the class at C that no longer changes: the names of its fields, their data -/
  | ins (C : Addr) (ns : List Str) (ds : List D)
  | dic (ks : List Key) (ds : List D)
  /-- a caught exception of the own class at C: the names of its fields, their data -/
  | exn (C : Addr) (ns : List Str) (ds : List D)

/-- this very object stands at a -/
def xob (a : Addr) (o : Obj) : HO := .ext fun h => h.get? a = some o
structure XobC (C d : Addr) (o : Obj) : Prop where
  cls : o.cls = .ref C
  dict : o.dict = some d
  data : ∃ fv, o.data = .fields fv

mutual
def Rep (K : PySem.W.Frag) (F : Hp) : D → V → Prop
  | .non, v => v = .non
  | .bl b, v => v = .bl b
  | .int i, v => v = .int i
  | .str x, v => v = .str x
  | .ref a, v => v = .ref a
  | .ty n, v => v = .ty n
  | .tup ds, v => ∃ a vs, v = .ref a ∧ SqT K F a vs ∧ Reps K F ds vs
  | .lst ds, v => ∃ a vs, v = .ref a ∧ F a = some (.lst vs) ∧ Reps K F ds vs
  | .rol ds, v => ∃ a vs, v = .ref a ∧ SqL K F a vs ∧ Reps K F ds vs
  | .ins C ns ds, v => ∃ a dx vs, v = .ref a ∧ F a = some (.ins C dx (ns.zip vs)) ∧ ns.length = ds.length ∧ Reps K F ds vs
  | .dic ks ds, v => ∃ a vs, v = .ref a ∧ F a = some (.dK (ks.zip vs)) ∧ ks.length = ds.length ∧ Reps K F ds vs
  | .exn C ns ds, v => ∃ a o d vs, v = .ref a ∧ F a = some (xob a o) ∧ XobC C d o ∧ F d = some (.xd (ns.zip vs)) ∧ ns.length = ds.length ∧ Reps K F ds vs
def Reps (K : PySem.W.Frag) (F : Hp) : List D → List V → Prop
  | [], vs => vs = []
  | d :: ds, vs => ∃ v r, vs = v :: r ∧ Rep K F d v ∧ Reps K F ds r
end

theorem same_t {K : PySem.W.Frag} {F F' : Hp} (e : Same F F') {a : Addr} {xs : List V} (h : SqT K F a xs) : SqT K F' a xs := by
  rcases h with (h | ⟨o, h⟩) | h
  · exact .inl (.inl (e _ _ h))
  · exact .inl (.inr ⟨o, e _ _ h⟩)
  · exact .inr h
mutual
theorem Rep.mono {K : PySem.W.Frag} {F F' : Hp} (e : Same F F') : ∀ {d : D} {v : V}, Rep K F d v → Rep K F' d v
  | .non, _, h => h
  | .bl _, _, h => h
  | .int _, _, h => h
  | .str _, _, h => h
  | .ref _, _, h => h
  | .ty _, _, h => h
  | .tup _, _, ⟨a, vs, h1, h2, h3⟩ => ⟨a, vs, h1, same_t e h2, Reps.mono e h3⟩
  | .lst _, _, ⟨a, vs, h1, h2, h3⟩ => ⟨a, vs, h1, e _ _ h2, Reps.mono e h3⟩
  | .rol _, _, ⟨a, vs, h1, h2, h3⟩ => ⟨a, vs, h1, e.seq h2, Reps.mono e h3⟩
  | .ins _ _ _, _, ⟨a, dx, vs, h1, h2, h3, h4⟩ => ⟨a, dx, vs, h1, e _ _ h2, h3, Reps.mono e h4⟩
  | .dic _ _, _, ⟨a, vs, h1, h2, h3, h4⟩ => ⟨a, vs, h1, e _ _ h2, h3, Reps.mono e h4⟩
  | .exn _ _ _, _, ⟨a, o, d, vs, h1, h2, h3, h4, h5, h6⟩ => ⟨a, o, d, vs, h1, e _ _ h2, h3, e _ _ h4, h5, Reps.mono e h6⟩
theorem Reps.mono {K : PySem.W.Frag} {F F' : Hp} (e : Same F F') : ∀ {ds : List D} {vs : List V}, Reps K F ds vs → Reps K F' ds vs
  | [], _, h => h
  | _ :: _, _, ⟨v, r, h1, h2, h3⟩ => ⟨v, r, h1, Rep.mono e h2, Reps.mono e h3⟩
end
theorem Reps.length {K : PySem.W.Frag} {F : Hp} : ∀ {ds : List D} {vs : List V}, Reps K F ds vs → vs.length = ds.length
  | [], _, h => by
    have h : _ = [] := h
    rw [h]; rfl
  | _ :: _, _, ⟨v, r, h1, _, h3⟩ => by rw [h1, List.length_cons, List.length_cons, Reps.length h3]
theorem Reps.get {K : PySem.W.Frag} {F : Hp} : ∀ {ds : List D} {vs : List V} {i : Nat} {d : D}, Reps K F ds vs → ds[i]? = some d → ∃ v, vs[i]? = some v ∧ Rep K F d v
  | [], _, _, _, _, e => by simp at e
  | _ :: _, _, 0, d, ⟨v, r, h1, h2, _⟩, e => by
    have e : some _ = some d := e
    cases e
    exact ⟨v, by rw [h1]; rfl, h2⟩
  | _ :: ds, _, i + 1, d, ⟨v, r, h1, _, h3⟩, e => by
    obtain ⟨u, hu, ru⟩ := Reps.get h3 (show ds[i]? = some d from e)
    exact ⟨u, by rw [h1]; exact hu, ru⟩
theorem Reps.set {K : PySem.W.Frag} {F : Hp} {d : D} {v : V} (h : Rep K F d v) : ∀ {ds : List D} {vs : List V} (i : Nat), Reps K F ds vs → Reps K F (ds.set i d) (vs.set i v)
  | [], _, _, h1 => by
    have h1 : _ = [] := h1
    subst h1
    exact rfl
  | _ :: _, _, 0, ⟨u, r, h1, _, h3⟩ => ⟨v, r, by rw [h1]; rfl, h, h3⟩
  | _ :: _, _, i + 1, ⟨u, r, h1, h2, h3⟩ => ⟨u, r.set i v, by rw [h1]; rfl, h2, Reps.set h i h3⟩
theorem Reps.append {K : PySem.W.Frag} {F : Hp} : ∀ {ds es : List D} {vs us : List V}, Reps K F ds vs → Reps K F es us → Reps K F (ds ++ es) (vs ++ us)
  | [], _, _, _, h, h' => by
    have h : _ = [] := h
    subst h
    exact h'
  | _ :: _, _, _, _, ⟨v, r, h1, h2, h3⟩, h' => ⟨v, r ++ _, by rw [h1]; rfl, h2, Reps.append h3 h'⟩
theorem Reps.one {K : PySem.W.Frag} {F : Hp} {d : D} {v : V} (h : Rep K F d v) : Reps K F [d] [v] := ⟨v, [], rfl, h, rfl⟩
theorem Reps.cons {K : PySem.W.Frag} {F : Hp} {d : D} {v : V} {ds : List D} {vs : List V} (h : Rep K F d v) (h' : Reps K F ds vs) : Reps K F (d :: ds) (v :: vs) := ⟨v, vs, rfl, h, h'⟩
theorem Reps.drop {K : PySem.W.Frag} {F : Hp} : ∀ {ds : List D} {vs : List V} (n : Nat), Reps K F ds vs → Reps K F (ds.drop n) (vs.drop n)
  | [], _, n, h => by
    have h : _ = [] := h
    subst h
    rw [List.drop_nil, List.drop_nil]
    exact rfl
  | _ :: _, _, 0, h => h
  | _ :: _, _, n + 1, ⟨v, r, h1, h2, h3⟩ => by rw [h1]; exact Reps.drop n h3
theorem Reps.take {K : PySem.W.Frag} {F : Hp} : ∀ {ds : List D} {vs : List V} (n : Nat), Reps K F ds vs → Reps K F (ds.take n) (vs.take n)
  | [], _, n, h => by
    have h : _ = [] := h
    subst h
    rw [List.take_nil, List.take_nil]
    exact rfl
  | _ :: _, _, 0, _ => rfl
  | _ :: _, _, n + 1, ⟨v, r, h1, h2, h3⟩ => ⟨v, r.take n, by rw [h1]; rfl, h2, Reps.take n h3⟩
theorem Reps.nil_inv {K : PySem.W.Frag} {F : Hp} {vs : List V} (h : Reps K F [] vs) : vs = [] := h
/-- ints, texts, bools: the data tell the values -/
theorem Reps.ints {K : PySem.W.Frag} {F : Hp} : ∀ {ns : List Int} {vs : List V}, Reps K F (ns.map D.int) vs → vs = ns.map V.int
  | [], _, h => h
  | _ :: _, _, ⟨v, r, h1, h2, h3⟩ => by
    have h2 : v = _ := h2
    rw [h1, h2, Reps.ints h3]; rfl
theorem Reps.of_ints {K : PySem.W.Frag} {F : Hp} : ∀ (ns : List Int), Reps K F (ns.map D.int) (ns.map V.int)
  | [] => rfl
  | n :: ns => ⟨.int n, ns.map V.int, rfl, rfl, Reps.of_ints ns⟩

/-! ### mutable things -/
inductive MO where
  | lst (ds : List D)
  | ins (C : Addr) (ns : List Str) (ds : List D)
  | dK (ks : List Key) (ds : List D)
abbrev Ms := Addr → Option MO
def um (M : Ms) (p : Addr) (o : MO) : Ms := fun q => if q = p then some o else M q
theorem um_same {M : Ms} {p : Addr} {o : MO} : um M p o p = some o := by unfold um; rw [if_pos rfl]
theorem um_ne {M : Ms} {p q : Addr} {o : MO} (h : q ≠ p) : um M p o q = M q := by unfold um; rw [if_neg h]
theorem um_um {M : Ms} {p : Addr} {o u : MO} : um (um M p o) p u = um M p u := by
  funext b; unfold um; split <;> rfl
def MR (K : PySem.W.Frag) (F H : Hp) (p : Addr) : MO → Prop
  | .lst ds => ∃ vs, H p = some (.lst vs) ∧ Reps K F ds vs
  | .ins C ns ds => ∃ dx vs, H p = some (.ins C dx (ns.zip vs)) ∧ ns.length = ds.length ∧ Reps K F ds vs
  | .dK ks ds => ∃ vs, H p = some (.dK (ks.zip vs)) ∧ ks.length = ds.length ∧ Reps K F ds vs
structure Ok (K : PySem.W.Frag) (F H : Hp) (M : Ms) : Prop where
  ex : Same F H
  mu : ∀ p o, M p = some o → F p = none ∧ MR K F H p o
theorem MR.some {K : PySem.W.Frag} {F H : Hp} {p : Addr} {o : MO} (h : MR K F H p o) : ∃ u, H p = some u := by
  cases o with
  | lst ds => obtain ⟨vs, h, _⟩ := h; exact ⟨_, h⟩
  | ins C ns ds => obtain ⟨dx, vs, h, _⟩ := h; exact ⟨_, h⟩
  | dK ks ds => obtain ⟨vs, h, _⟩ := h; exact ⟨_, h⟩
theorem MR.mono {K : PySem.W.Frag} {F F' H H' : Hp} {p : Addr} {o : MO} (e : Same F F') (hp : H' p = H p) (h : MR K F H p o) : MR K F' H' p o := by
  cases o with
  | lst ds => obtain ⟨vs, h1, h2⟩ := h; exact ⟨vs, hp.trans h1, h2.mono e⟩
  | ins C ns ds => obtain ⟨dx, vs, h1, h2, h3⟩ := h; exact ⟨dx, vs, hp.trans h1, h2, h3.mono e⟩
  | dK ks ds => obtain ⟨vs, h1, h2, h3⟩ := h; exact ⟨vs, hp.trans h1, h2, h3.mono e⟩
section
variable {K : PySem.W.Frag} {F H : Hp} {M : Ms} {p : Addr}
theorem Ok.fresh (ok : Ok K F H M) (h : H p = none) : M p = none := by
  cases e : M p with
  | none => rfl
  | some o =>
    obtain ⟨u, hu⟩ := (ok.mu p o e).2.some
    rw [h] at hu; cases hu
theorem Ok.freshF (ok : Ok K F H M) (h : H p = none) : F p = none := ok.ex.free h
theorem same_upd {H : Hp} {p : Addr} {o : HO} (h : H p = none) : Same H (upd H p o) := fun b u e => by
  rw [upd_ne (ne_of_none e h)]; exact e
theorem same_upd2 {F H : Hp} {p : Addr} {o : HO} (e : Same F H) (h : F p = none) : Same F (upd H p o) := fun b u q => by
  rw [upd_ne (ne_of_none q h)]; exact e b u q
theorem same_updU {F H : Hp} {p : Addr} {o : HO} (e : Same F H) : Same (upd F p o) (upd H p o) := fun b u q => by
  by_cases hb : b = p
  · subst hb; rw [upd_same] at q ⊢; exact q
  · rw [upd_ne hb] at q ⊢; exact e b u q
/-- a new thing, frozen at once -/
theorem Ok.new {o : HO} (ok : Ok K F H M) (h : H p = none) : Ok K (upd F p o) (upd H p o) M := by
  refine ⟨same_updU ok.ex, fun q u e => ?_⟩
  obtain ⟨h1, h2⟩ := ok.mu q u e
  have hq : q ≠ p := fun z => by
    obtain ⟨w, hw⟩ := h2.some
    rw [z, h] at hw; cases hw
  exact ⟨by rw [upd_ne hq]; exact h1, h2.mono (same_upd (ok.freshF h)) (upd_ne hq)⟩
/-- a new thing that may change -/
theorem Ok.newM {o : HO} {u : MO} (ok : Ok K F H M) (h : H p = none) (hu : MR K F (upd H p o) p u) : Ok K F (upd H p o) (um M p u) := by
  refine ⟨same_upd2 ok.ex (ok.freshF h), fun q v e => ?_⟩
  by_cases hq : q = p
  · subst hq
    rw [um_same] at e; cases e
    exact ⟨ok.freshF h, hu⟩
  · rw [um_ne hq] at e
    obtain ⟨h1, h2⟩ := ok.mu q v e
    exact ⟨h1, h2.mono (Same.refl F) (upd_ne hq)⟩
/-- a change -/
theorem Ok.write {o : HO} {u u0 : MO} (ok : Ok K F H M) (h : M p = some u0) (hu : MR K F (upd H p o) p u) : Ok K F (upd H p o) (um M p u) := by
  have hF := (ok.mu p u0 h).1
  refine ⟨same_upd2 ok.ex hF, fun q v e => ?_⟩
  by_cases hq : q = p
  · subst hq
    rw [um_same] at e; cases e
    exact ⟨hF, hu⟩
  · rw [um_ne hq] at e
    obtain ⟨h1, h2⟩ := ok.mu q v e
    exact ⟨h1, h2.mono (Same.refl F) (upd_ne hq)⟩
/-- fewer mutable things -/
def Sub (M M' : Ms) : Prop := ∀ p o, M p = some o → M' p = some o
theorem Sub.refl (M : Ms) : Sub M M := fun _ _ h => h
theorem Sub.trans {M M1 M2 : Ms} (a : Sub M M1) (b : Sub M1 M2) : Sub M M2 := fun p o h => b p o (a p o h)
theorem Sub.new {o : MO} (h : M p = none) : Sub M (um M p o) := fun q u e => by
  have : q ≠ p := fun z => by rw [z, h] at e; cases e
  rw [um_ne this]; exact e
theorem Ok.sub {M' : Ms} (ok : Ok K F H M') (h : Sub M M') : Ok K F H M := ⟨ok.ex, fun q u e => ok.mu q u (h q u e)⟩
def dm (M : Ms) (p : Addr) : Ms := fun q => if q = p then none else M q
theorem dm_sub : Sub (dm M p) M := fun q u e => by
  unfold dm at e
  split at e
  · cases e
  · exact e
theorem dm_um {o : MO} (h : M p = none) : dm (um M p o) p = M := by
  funext q; unfold dm um
  by_cases hq : q = p
  · rw [if_pos hq, hq, h]
  · rw [if_neg hq, if_neg hq]
/-- a mutable thing is frozen: a list -/
theorem Ok.freezeL {ds : List D} (ok : Ok K F H M) (h : M p = some (.lst ds)) : ∃ F', Same F F' ∧ Ok K F' H (dm M p) ∧ Rep K F' (.lst ds) (.ref p) := by
  obtain ⟨hF, vs, hp, r⟩ := ok.mu p _ h
  have e : Same F (upd F p (.lst vs)) := same_upd hF
  refine ⟨upd F p (.lst vs), e, ⟨fun b u q => ?_, fun q u e1 => ?_⟩, p, vs, rfl, upd_same, r.mono e⟩
  · by_cases hb : b = p
    · subst hb; rw [upd_same] at q; cases q; exact hp
    · rw [upd_ne hb] at q; exact ok.ex b u q
  · have hq : q ≠ p := fun z => by
      unfold dm at e1
      rw [if_pos z] at e1; cases e1
    obtain ⟨h1, h2⟩ := ok.mu q u (dm_sub q u e1)
    exact ⟨by rw [upd_ne hq]; exact h1, h2.mono e rfl⟩
theorem Ok.freezeI {C : Addr} {ns : List Str} {ds : List D} (ok : Ok K F H M) (h : M p = some (.ins C ns ds)) : ∃ F', Same F F' ∧ Ok K F' H (dm M p) ∧ Rep K F' (.ins C ns ds) (.ref p) := by
  obtain ⟨hF, dx, vs, hp, hl, r⟩ := ok.mu p _ h
  have e : Same F (upd F p (.ins C dx (ns.zip vs))) := same_upd hF
  refine ⟨upd F p (.ins C dx (ns.zip vs)), e, ⟨fun b u q => ?_, fun q u e1 => ?_⟩, p, dx, vs, rfl, upd_same, hl, r.mono e⟩
  · by_cases hb : b = p
    · subst hb; rw [upd_same] at q; cases q; exact hp
    · rw [upd_ne hb] at q; exact ok.ex b u q
  · have hq : q ≠ p := fun z => by
      unfold dm at e1
      rw [if_pos z] at e1; cases e1
    obtain ⟨h1, h2⟩ := ok.mu q u (dm_sub q u e1)
    exact ⟨by rw [upd_ne hq]; exact h1, h2.mono e rfl⟩
end

/-! ### slots -/
abbrev Gm := List (Option D)
def Sl (K : PySem.W.Frag) (F : Hp) (σ : L2.St) (Γ : Gm) : Prop := σ.length = Γ.length ∧ ∀ (i : Nat) (d : D), Γ[i]? = some (some d) → ∃ v, σ[i]? = some (some v) ∧ Rep K F d v
theorem Sl.mono {K : PySem.W.Frag} {F F' : Hp} {σ : L2.St} {Γ : Gm} (e : Same F F') (h : Sl K F σ Γ) : Sl K F' σ Γ :=
  ⟨h.1, fun i d q => let ⟨v, a, b⟩ := h.2 i d q; ⟨v, a, b.mono e⟩⟩
theorem Sl.set {K : PySem.W.Frag} {F : Hp} {σ : L2.St} {Γ : Gm} {d : D} {v : V} (h : Sl K F σ Γ) (r : Rep K F d v) (i : Nat) : Sl K F (σ.set i (some v)) (Γ.set i (some d)) := by
  refine ⟨by rw [List.length_set, List.length_set]; exact h.1, fun j x q => ?_⟩
  by_cases hj : i = j
  · subst hj
    have hi : i < Γ.length := by
      have := (List.getElem?_eq_some_iff.mp q).1
      rwa [List.length_set] at this
    rw [List.getElem?_set_self hi] at q
    cases q
    exact ⟨v, List.getElem?_set_self (by rw [h.1]; exact hi), r⟩
  · rw [List.getElem?_set_ne hj] at q
    rw [List.getElem?_set_ne hj]
    exact h.2 j x q
theorem Sl.forget {K : PySem.W.Frag} {F : Hp} {σ : L2.St} {Γ : Gm} (h : Sl K F σ Γ) (i : Nat) : Sl K F (σ.set i none) (Γ.set i none) := by
  refine ⟨by rw [List.length_set, List.length_set]; exact h.1, fun j x q => ?_⟩
  by_cases hj : i = j
  · subst hj
    have hi : i < Γ.length := by
      have := (List.getElem?_eq_some_iff.mp q).1
      rwa [List.length_set] at this
    rw [List.getElem?_set_self hi] at q
    cases q
  · rw [List.getElem?_set_ne hj] at q
    rw [List.getElem?_set_ne hj]
    exact h.2 j x q
def wipeG (Γ : Gm) : List Nat → Gm
  | [] => Γ
  | v :: vs => (wipeG Γ vs).set v none
theorem Sl.wipe {K : PySem.W.Frag} {F : Hp} {σ : L2.St} {Γ : Gm} (h : Sl K F σ Γ) : ∀ vs : List Nat, Sl K F (L2.wipe σ vs) (wipeG Γ vs)
  | [] => h
  | v :: vs => (Sl.wipe h vs).forget v

/-! ### ends on data -/
/-- what is wanted of an exception: its class, its fields, the mutable things -/
abbrev PX := Addr → List Str → List D → Ms → Prop
abbrev PD := D → Ms → Prop
def KE (K : PySem.W.Frag) (F : Hp) (Φ : PD) (Q : VK) : Prop := ∀ F' H' M' d v, Same F F' → Ok K F' H' M' → Rep K F' d v → Φ d M' → Q v H'
def KB (K : PySem.W.Frag) (F : Hp) (Φ : Bool → Ms → Prop) (Q : Bool → Hp → Prop) : Prop := ∀ F' H' M' b, Same F F' → Ok K F' H' M' → Φ b M' → Q b H'
def KA (K : PySem.W.Frag) (F : Hp) (Φ : List D → Ms → Prop) (Q : List V → Hp → Prop) : Prop := ∀ F' H' M' ds vs, Same F F' → Ok K F' H' M' → Reps K F' ds vs → Φ ds M' → Q vs H'
def KX (K : PySem.W.Frag) (F : Hp) (Ψ : PX) (E : XK) : Prop := ∀ F' H' M' C d ns ds vs, Same F F' → Ok K F' H' M' → F' d = some (.xd (ns.zip vs)) → ns.length = ds.length → Reps K F' ds vs → Ψ C ns ds M' → E (.ref C) (some d) H'
section
variable {K : PySem.W.Frag} {F F' : Hp}
theorem KE.mono {Φ : PD} {Q : VK} (e : Same F F') (h : KE K F Φ Q) : KE K F' Φ Q := fun F2 H2 M2 d v e2 => h F2 H2 M2 d v (e.trans e2)
theorem KB.mono {Φ : Bool → Ms → Prop} {Q : Bool → Hp → Prop} (e : Same F F') (h : KB K F Φ Q) : KB K F' Φ Q := fun F2 H2 M2 b e2 => h F2 H2 M2 b (e.trans e2)
theorem KA.mono {Φ : List D → Ms → Prop} {Q : List V → Hp → Prop} (e : Same F F') (h : KA K F Φ Q) : KA K F' Φ Q := fun F2 H2 M2 ds vs e2 => h F2 H2 M2 ds vs (e.trans e2)
theorem KX.mono {Ψ : PX} {E : XK} (e : Same F F') (h : KX K F Ψ E) : KX K F' Ψ E := fun F2 H2 M2 C d ns ds vs e2 => h F2 H2 M2 C d ns ds vs (e.trans e2)
theorem KX.none {E : XK} : KX K F (fun _ _ _ _ => False) E := fun _ _ _ _ _ _ _ _ _ _ _ _ _ z => z.elim
end

/-- a family of contexts (a def's body: one; a comprehension's block: one for each state at its start), the written part, the wish about exceptions -/
structure Fm (ι : Type) where
  X : ι → Cx
  K : PySem.W.Frag
  w : WX
  /-- an exception is being handled -/
  hot : Bool

section
variable {ι : Type}
def GE (T : Fm ι) (t : TE) (Γ : Gm) (M : Ms) (Φ : PD) (Ψ : PX) : Prop := ∀ F H σ Q, Ok T.K F H M → Sl T.K F σ Γ → KE T.K F Φ Q → KX T.K F Ψ (fun c d H => T.w c d σ H) → t σ H Q
def GT (T : Fm ι) (t : TT) (Γ : Gm) (M : Ms) (Φ : Bool → Ms → Prop) (Ψ : PX) : Prop := ∀ F H σ Q, Ok T.K F H M → Sl T.K F σ Γ → KB T.K F Φ Q → KX T.K F Ψ (fun c d H => T.w c d σ H) → t σ H Q
def GA (T : Fm ι) (t : TA) (Γ : Gm) (M : Ms) (Φ : List D → Ms → Prop) (Ψ : PX) : Prop := ∀ F H σ Q, Ok T.K F H M → Sl T.K F σ Γ → KA T.K F Φ Q → KX T.K F Ψ (fun c d H => T.w c d σ H) → t σ H Q
/-- an operation on values -/
def GR (T : Fm ι) (r : R2) (x y : D) (M : Ms) (Φ : PD) : Prop := ∀ F H vx vy Q, Ok T.K F H M → Rep T.K F x vx → Rep T.K F y vy → KE T.K F Φ Q → r vx vy H Q
def GU (T : Fm ι) (r : V → Hp → VK → Prop) (x : D) (M : Ms) (Φ : PD) : Prop := ∀ F H vx Q, Ok T.K F H M → Rep T.K F x vx → KE T.K F Φ Q → r vx H Q
def GC (T : Fm ι) (r : List V → Hp → VK → Prop) (xs : List D) (M : Ms) (Φ : PD) : Prop := ∀ F H vs Q, Ok T.K F H M → Reps T.K F xs vs → KE T.K F Φ Q → r vs H Q

/-! ### the readings that the text itself has -/
def teOf (T : Fm ι) (e : Expr) : TE := fun σ H Q => ∀ i pins s, Inv (T.X i) pins σ H s → wpAny (model (T.X i).prog (T.X i).w) (T.X i).A (eval e (T.X i).env) (EP (T.X i) pins σ Q) (T.X i).xe s
def ttOf (T : Fm ι) (e : Expr) : TT := fun σ H Q => ∀ i pins s, Inv (T.X i) pins σ H s → wpAny (model (T.X i).prog (T.X i).w) (T.X i).A (isTrue e (T.X i).env (eval e (T.X i).env)) (TP (T.X i) pins σ Q) (T.X i).xe s
def twOf (T : Fm ι) (e : Expr) : TT := fun σ H Q => ∀ i (whole : Sem Value) pins s, Inv (T.X i) pins σ H s → wpAny (model (T.X i).prog (T.X i).w) (T.X i).A (isTrue e (T.X i).env whole) (TP (T.X i) pins σ Q) (T.X i).xe s
def taOf (T : Fm ι) (es : List Expr) : TA := fun σ H Q => ∀ i (pos : Pos) pins s, Inv (T.X i) pins σ H s → wpAny (model (T.X i).prog (T.X i).w) (T.X i).A (spliced (backTo pos (starEach es (T.X i).env))) (AP (T.X i) pins σ Q) (T.X i).xe s
def tsOf (T : Fm ι) (st : Stmt) : TS := fun D σ H => ∀ i pins s, Inv (T.X i) pins σ H s → wpAny (model (T.X i).prog (T.X i).w) (T.X i).A (exec st (T.X i).env) (SP (T.X i) pins D) (T.X i).xe s
def tssOf (T : Fm ι) (st : List Stmt) : TS := fun D σ H => ∀ i pins s, Inv (T.X i) pins σ H s → wpAny (model (T.X i).prog (T.X i).w) (T.X i).A (execs st (T.X i).env) (SP (T.X i) pins D) (T.X i).xe s
variable {T : Fm ι} {e : Expr} {es : List Expr} {st : Stmt} {sts : List Stmt} {Γ : Gm} {M : Ms} {Φ : PD} {Ψ : PX}
theorem pe_te (i : ι) : PE (T.X i) e (teOf T e) := ⟨fun pins s _ _ _ I h => h i pins s I⟩
theorem pt_tt (i : ι) : PT (T.X i) e (ttOf T e) := ⟨fun pins s _ _ _ I h => h i pins s I⟩
theorem pw_tw (i : ι) : PW (T.X i) e (twOf T e) := ⟨fun wh pins s _ _ _ I h => h i wh pins s I⟩
theorem pa_ta (i : ι) : PA (T.X i) es (taOf T es) := ⟨fun pos pins s _ _ _ I h => h i pos pins s I⟩
theorem ps_ts (i : ι) : PS (T.X i) st (tsOf T st) := ⟨fun pins s _ _ _ I h => h i pins s I⟩
theorem pss_tss (i : ι) : PSs (T.X i) sts (tssOf T sts) := ⟨fun pins s _ _ _ I h => h i pins s I⟩

/-! ### the judgements -/
/-- the expression e, at the slots Γ and the mutable things M, hands on a datum and mutable things of which Φ holds (or raises so that Ψ holds) -/
def EX (T : Fm ι) (e : Expr) (Γ : Gm) (M : Ms) (Φ : PD) (Ψ : PX) : Prop := GE T (teOf T e) Γ M Φ Ψ
def TX (T : Fm ι) (e : Expr) (Γ : Gm) (M : Ms) (Φ : Bool → Ms → Prop) (Ψ : PX) : Prop := GT T (ttOf T e) Γ M Φ Ψ
def WWX (T : Fm ι) (e : Expr) (Γ : Gm) (M : Ms) (Φ : Bool → Ms → Prop) (Ψ : PX) : Prop := GT T (twOf T e) Γ M Φ Ψ
def AX (T : Fm ι) (es : List Expr) (Γ : Gm) (M : Ms) (Φ : List D → Ms → Prop) (Ψ : PX) : Prop := GA T (taOf T es) Γ M Φ Ψ
theorem EX.mk {t : TE} (h : ∀ i, PE (T.X i) e t) (g : GE T t Γ M Φ Ψ) : EX T e Γ M Φ Ψ := fun F H σ Q ok sl k x i pins s I => (h i).run pins s σ H Q I (g F H σ Q ok sl k x)
theorem TX.mk {t : TT} {Φ : Bool → Ms → Prop} (h : ∀ i, PT (T.X i) e t) (g : GT T t Γ M Φ Ψ) : TX T e Γ M Φ Ψ := fun F H σ Q ok sl k x i pins s I => (h i).run pins s σ H Q I (g F H σ Q ok sl k x)
theorem WWX.mk {t : TT} {Φ : Bool → Ms → Prop} (h : ∀ i, PW (T.X i) e t) (g : GT T t Γ M Φ Ψ) : WWX T e Γ M Φ Ψ := fun F H σ Q ok sl k x i wh pins s I => (h i).run wh pins s σ H Q I (g F H σ Q ok sl k x)
theorem AX.mk {t : TA} {Φ : List D → Ms → Prop} (h : ∀ i, PA (T.X i) es t) (g : GA T t Γ M Φ Ψ) : AX T es Γ M Φ Ψ := fun F H σ Q ok sl k x i pos pins s I => (h i).run pos pins s σ H Q I (g F H σ Q ok sl k x)
theorem WWX.tx {Φ : Bool → Ms → Prop} (h : WWX T e Γ M Φ Ψ) : TX T e Γ M Φ Ψ := TX.mk (fun i => (pw_tw i).pt) h
/-- weaker ends -/
theorem EX.imp {Φ' : PD} {Ψ' : PX} (h : EX T e Γ M Φ Ψ) (h1 : ∀ d M, Φ d M → Φ' d M) (h2 : ∀ C ns ds M, Ψ C ns ds M → Ψ' C ns ds M) : EX T e Γ M Φ' Ψ' :=
  fun F H σ Q ok sl k x => h F H σ Q ok sl (fun F' H' M' d v a b c q => k F' H' M' d v a b c (h1 _ _ q)) fun F' H' M' C d ns ds vs a b c f g q => x F' H' M' C d ns ds vs a b c f g (h2 _ _ _ _ q)

/-! ### generic readings -/
theorem ge_c {d : D} {v : V} (hv : ∀ K F, Rep K F d v) (h : Φ d M) : GE T (tC v) Γ M Φ Ψ := fun F H σ Q ok sl k x => k F H M d v (Same.refl F) ok (hv _ _) h
theorem ge_var {j : Nat} {d : D} (hj : Γ[j]? = some (some d)) (h : Φ d M) : GE T (tVar j) Γ M Φ Ψ := fun F H σ Q ok sl k x => by
  obtain ⟨v, hv, r⟩ := sl.2 j d hj
  exact ⟨v, hv, k F H M d v (Same.refl F) ok r h⟩
theorem ge_op {r : R2} {ta tb : TE} (h : GE T ta Γ M (fun x M1 => GE T tb Γ M1 (fun y M2 => GR T r x y M2 Φ) Ψ) Ψ) : GE T (tOp r ta tb) Γ M Φ Ψ := fun F H σ Q ok sl k x =>
  h F H σ _ ok sl (fun F1 H1 M1 d1 v1 e1 ok1 r1 hb => hb F1 H1 σ _ ok1 (sl.mono e1) (fun F2 H2 M2 d2 v2 e2 ok2 r2 hr => hr F2 H2 v1 v2 Q ok2 (r1.mono e2) r2 (k.mono (e1.trans e2))) (x.mono e1)) x
theorem ge_un {r : V → Hp → VK → Prop} {ta : TE} (h : GE T ta Γ M (fun x M1 => GU T r x M1 Φ) Ψ) : GE T (tUn r ta) Γ M Φ Ψ := fun F H σ Q ok sl k x =>
  h F H σ _ ok sl (fun F1 H1 M1 d1 v1 e1 ok1 r1 hr => hr F1 H1 v1 Q ok1 r1 (k.mono e1)) x
theorem ga_nil {Φ : List D → Ms → Prop} (h : Φ [] M) : GA T tNil Γ M Φ Ψ := fun F H σ Q ok sl k x => k F H M [] [] (Same.refl F) ok rfl h
theorem ga_cons {te : TE} {ta : TA} {Φ : List D → Ms → Prop} (h : GE T te Γ M (fun x M1 => GA T ta Γ M1 (fun xs M2 => Φ (x :: xs) M2) Ψ) Ψ) : GA T (tCons te ta) Γ M Φ Ψ := fun F H σ Q ok sl k x =>
  h F H σ _ ok sl (fun F1 H1 M1 d1 v1 e1 ok1 r1 hb => hb F1 H1 σ _ ok1 (sl.mono e1) (fun F2 H2 M2 ds vs e2 ok2 rs hr => k F2 H2 M2 (d1 :: ds) (v1 :: vs) (e1.trans e2) ok2 (.cons (r1.mono e2) rs) hr) (x.mono e1)) x
theorem ge_tup {ta : TA} (h : GA T ta Γ M (fun xs M1 => xs.length ≤ sizeLine ∧ Φ (.tup xs) M1) Ψ) : GE T (tTup ta) Γ M Φ Ψ := fun F H σ Q ok sl k x =>
  h F H σ _ ok sl (fun F1 H1 M1 ds vs e1 ok1 rs ⟨hl, q⟩ => ⟨by rw [rs.length]; exact hl, fun p hp => by
    have e2 : Same F1 (upd F1 p (.tup vs)) := same_upd (ok1.freshF hp)
    exact k _ _ M1 (.tup ds) (.ref p) (e1.trans e2) (ok1.new hp) ⟨p, vs, rfl, .inl (.inl upd_same), rs.mono e2⟩ q⟩) x
theorem ge_lst {ta : TA} (h : GA T ta Γ M (fun xs M1 => xs.length ≤ sizeLine ∧ Φ (.lst xs) M1) Ψ) : GE T (tLst ta) Γ M Φ Ψ := fun F H σ Q ok sl k x =>
  h F H σ _ ok sl (fun F1 H1 M1 ds vs e1 ok1 rs ⟨hl, q⟩ => ⟨by rw [rs.length]; exact hl, fun p hp => by
    have e2 : Same F1 (upd F1 p (.lst vs)) := same_upd (ok1.freshF hp)
    exact k _ _ M1 (.lst ds) (.ref p) (e1.trans e2) (ok1.new hp) ⟨p, vs, rfl, upd_same, rs.mono e2⟩ q⟩) x
/-- a list that will change -/
theorem ge_lstM {ta : TA} (h : GA T ta Γ M (fun xs M1 => xs.length ≤ sizeLine ∧ ∀ p, M1 p = none → Φ (.ref p) (um M1 p (.lst xs))) Ψ) : GE T (tLst ta) Γ M Φ Ψ := fun F H σ Q ok sl k x =>
  h F H σ _ ok sl (fun F1 H1 M1 ds vs e1 ok1 rs ⟨hl, q⟩ => ⟨by rw [rs.length]; exact hl, fun p hp => by
    exact k F1 _ _ (.ref p) (.ref p) e1 (ok1.newM (u := .lst ds) hp ⟨vs, upd_same, rs⟩) rfl (q p (ok1.fresh hp))⟩) x
theorem gt_test {te : TE} {Φ : Bool → Ms → Prop} (h : GE T te Γ M (fun d M1 => ∃ b, d = .bl b ∧ Φ b M1) Ψ) : GT T (tTest te) Γ M Φ Ψ := fun F H σ Q ok sl k x =>
  h F H σ _ ok sl (fun F1 H1 M1 d v e1 ok1 r ⟨b, hd, q⟩ => by
    subst hd
    exact ⟨b, r, k F1 H1 M1 b e1 ok1 q⟩) x
theorem gt_B {te : TE} {Φ : Bool → Ms → Prop} (h : GE T te Γ M (fun d M1 => ∃ b, d = .bl b ∧ Φ b M1) Ψ) : GT T (tB te) Γ M Φ Ψ := gt_test h
theorem gt_and {t u : TT} {Φ : Bool → Ms → Prop} (h : GT T t Γ M (fun b M1 => if b = true then GT T u Γ M1 Φ Ψ else Φ false M1) Ψ) : GT T (tAnd t u) Γ M Φ Ψ := fun F H σ Q ok sl k x =>
  h F H σ _ ok sl (fun F1 H1 M1 b e1 ok1 q => by
    cases b with
    | true => exact q F1 H1 σ Q ok1 (sl.mono e1) (k.mono e1) (x.mono e1)
    | false => exact k F1 H1 M1 false e1 ok1 q) x
theorem gt_or {t u : TT} {Φ : Bool → Ms → Prop} (h : GT T t Γ M (fun b M1 => if b = true then Φ true M1 else GT T u Γ M1 Φ Ψ) Ψ) : GT T (tOr t u) Γ M Φ Ψ := fun F H σ Q ok sl k x =>
  h F H σ _ ok sl (fun F1 H1 M1 b e1 ok1 q => by
    cases b with
    | false => exact q F1 H1 σ Q ok1 (sl.mono e1) (k.mono e1) (x.mono e1)
    | true => exact k F1 H1 M1 true e1 ok1 q) x
theorem gt_not {t : TT} {Φ : Bool → Ms → Prop} (h : GT T t Γ M (fun b M1 => Φ (!b) M1) Ψ) : GT T (tNot t) Γ M Φ Ψ := fun F H σ Q ok sl k x =>
  h F H σ _ ok sl (fun F1 H1 M1 b e1 ok1 q => k F1 H1 M1 (!b) e1 ok1 q) x
theorem ge_andV {ta tb : TE} (h : GE T ta Γ M (fun d M1 => ∃ b, d = .bl b ∧ if b = true then GE T tb Γ M1 Φ Ψ else Φ (.bl false) M1) Ψ) : GE T (tAndV ta tb) Γ M Φ Ψ := fun F H σ Q ok sl k x =>
  h F H σ _ ok sl (fun F1 H1 M1 d v e1 ok1 r ⟨b, hd, q⟩ => by
    subst hd
    refine ⟨b, r, ?_⟩
    cases b with
    | true => exact q F1 H1 σ Q ok1 (sl.mono e1) (k.mono e1) (x.mono e1)
    | false => exact k F1 H1 M1 (.bl false) (.bl false) e1 ok1 rfl q) x
theorem ge_orV {ta tb : TE} (h : GE T ta Γ M (fun d M1 => ∃ b, d = .bl b ∧ if b = true then Φ (.bl true) M1 else GE T tb Γ M1 Φ Ψ) Ψ) : GE T (tOrV ta tb) Γ M Φ Ψ := fun F H σ Q ok sl k x =>
  h F H σ _ ok sl (fun F1 H1 M1 d v e1 ok1 r ⟨b, hd, q⟩ => by
    subst hd
    refine ⟨b, r, ?_⟩
    cases b with
    | false => exact q F1 H1 σ Q ok1 (sl.mono e1) (k.mono e1) (x.mono e1)
    | true => exact k F1 H1 M1 (.bl true) (.bl true) e1 ok1 rfl q) x
theorem ge_notV {ta : TE} (h : GE T ta Γ M (fun d M1 => ∃ b, d = .bl b ∧ Φ (.bl (!b)) M1) Ψ) : GE T (tNotV ta) Γ M Φ Ψ := fun F H σ Q ok sl k x =>
  h F H σ _ ok sl (fun F1 H1 M1 d v e1 ok1 r ⟨b, hd, q⟩ => by
    subst hd
    exact ⟨b, r, k F1 H1 M1 (.bl (!b)) (.bl (!b)) e1 ok1 rfl q⟩) x
theorem ge_if {t : TT} {ta tb : TE} (h : GT T t Γ M (fun b M1 => if b = true then GE T ta Γ M1 Φ Ψ else GE T tb Γ M1 Φ Ψ) Ψ) : GE T (tIf t ta tb) Γ M Φ Ψ := fun F H σ Q ok sl k x =>
  h F H σ _ ok sl (fun F1 H1 M1 b e1 ok1 q => by
    cases b with
    | true => exact q F1 H1 σ Q ok1 (sl.mono e1) (k.mono e1) (x.mono e1)
    | false => exact q F1 H1 σ Q ok1 (sl.mono e1) (k.mono e1) (x.mono e1)) x
theorem ge_CB {r : List V → Hp → VK → Prop} {ta : TA} (h : GA T ta Γ M (fun xs M1 => GC T r xs M1 Φ) Ψ) : GE T (tCB r ta) Γ M Φ Ψ := fun F H σ Q ok sl k x =>
  h F H σ _ ok sl (fun F1 H1 M1 ds vs e1 ok1 rs hr => hr F1 H1 vs Q ok1 rs (k.mono e1)) x
end
end G
set_option Elab.async false
set_option linter.all false
set_option maxRecDepth 100000
/-! GRules: the rules of expressions on data. -/
namespace G
open PySem PySem.Spec PyProof.Rows L2

/-! ### room; what a def promises -/
/-- room for k calls more; nothing is handled unless hot -/
structure RoomM (hot : Bool) (k : Nat) (A : Around) : Prop where
  rm : L2H.RoomH k A
  hd : hot = false → A.handled = none
theorem RoomM.mono {hot : Bool} {j k : Nat} {A : Around} (r : RoomM hot k A) (h : j ≤ k) : RoomM hot j A := ⟨r.rm.mono h, r.hd⟩
theorem RoomM.cold {hot : Bool} {k : Nat} {A : Around} (r : RoomM hot k A) (h : hot = false) : Room k A := ⟨r.hd h, r.rm.dp, r.rm.un⟩
theorem RoomM.of {hot : Bool} {k : Nat} {A : Around} (r : Room k A) : RoomM hot k A := ⟨⟨r.dp, r.un⟩, fun _ => r.hd⟩
/-- a def's promise, also (hot) while an exception is handled -/
structure FnM (hot : Bool) (P : Program) (w : World) (K : PySem.W.Frag) (mg : Str → Option Value) (base : Heap) (k : Nat) (f : Addr) (fd : FuncData) (ps : List Str) (sp : Sp) : Prop where
  len : ∀ vs H Q E, sp vs H Q E → vs.length = ps.length
  run : ∀ (A : Around) (fr : List Env) (s : Shared) (H : Hp) (ar : Args) (us : List Value) (vs : List V) (Q : VK) (E : XK), RoomM hot k A → Env0 P w K mg base A fr s H → BindsTo s fd ar (ps.zip us) → Vals vs us → sp vs H Q E →
    codeAny (model P w) A (.call (.ref f) ar) (CR (L2.CX P w) fr P w H s Q E) s
theorem FnM.ok {P : Program} {w : World} {K : PySem.W.Frag} {mg : Str → Option Value} {base : Heap} {k : Nat} {f : Addr} {fd : FuncData} {ps : List Str} {sp : Sp} (F : FnM false P w K mg base k f fd ps sp) : FnOk P w K mg base (L2.CX P w) k f fd ps sp :=
  ⟨F.len, fun A fr s H ar us vs Q E hr => F.run A fr s H ar us vs Q E (.of hr)⟩
theorem FnM.of {P : Program} {w : World} {K : PySem.W.Frag} {mg : Str → Option Value} {base : Heap} {k : Nat} {f : Addr} {fd : FuncData} {ps : List Str} {sp : Sp} (F : FnOk P w K mg base (L2.CX P w) k f fd ps sp) : FnM false P w K mg base k f fd ps sp :=
  ⟨F.len, fun A fr s H ar us vs Q E hr => F.run A fr s H ar us vs Q E (hr.cold rfl)⟩
section
variable {X : Cx} {hot : Bool} {k : Nat} {f : Addr} {fd : FuncData} {ps : List Str} {sp : Sp} {E : L2.St → XK} {x : Str} {q pos : Pos} {e : Expr} {es : List Expr} {t : TA}
/-- the callee runs -/
theorem run_fnM {pins : List (Addr × Obj)} {σ : L2.St} {H : Hp} {s : Shared} {Q : VK} {us : List Value} {vs : List V} (F : FnM hot X.prog X.w X.K X.mg X.base k f fd ps sp) (hr : RoomM hot k X.A) (hb : Binds X.K fd ps []) (hx : PassesAt (L2.CX X.prog X.w) X σ (E σ))
    (I : Inv X pins σ H s) (r : Vals vs us) (h : sp vs H Q (E σ)) : wpAny (model X.prog X.w) X.A (call (.ref f) us) (EP X pins σ Q) X.xe s := by
  have el : us.length = ps.length := r.length.symm.trans (F.len _ _ _ _ h)
  have bt : BindsTo s fd ⟨us, []⟩ (ps.zip us) := by
    have bt := hb s us I.kIn (by rw [List.append_nil, el])
    rwa [List.append_nil] at bt
  have go := F.run X.A X.stack s H ⟨us, []⟩ us vs Q (E σ) hr I.env0 bt r h
  refine wpAny_call (codeAny_mono go fun res sE z => ?_)
  match res, z with
  | .error err, z => exact hx pins H s err sE I z
  | .ok (.ret u), z => exact I.after z
theorem pe_callM (F : FnM hot X.prog X.w X.K X.mg X.base k f fd ps sp) (hr : RoomM hot k X.A) (hg : Gl X x) (hm : X.mg x = some (.ref f)) (hk : PySem.W.keepIn X.K (.ref f) = true) (hb : Binds X.K fd ps []) (hx : ∀ σ, PassesAt (L2.CX X.prog X.w) X σ (E σ))
    (ha : PA X (e :: es) t) (hdb : (x == ("__debug__" : Str)) = false) (he : starEach (e :: es) X.env = (false, eval e X.env) :: starEach es X.env) (hpl : (backTo pos (starEach es X.env)).any (·.1) = false) :
    PE X (.Call (.Name x q) (e :: es) [] pos) (tCallS sp E t) := ⟨fun pins s σ H Q I h =>
  wpAny_Call_Name_kw (ld_glob I hg hm (PySem.W.callWith_K (h₀ := X.base) I.ok.mod.kin hk (thn (ha.run pos pins s σ H _ I h) fun _ s1 z => by
    obtain ⟨vs, H1, I1, r, y⟩ := z
    exact ⟨I1.kIn, run_fnM F hr hb (hx σ) I1 r y⟩) he hpl) hdb)⟩
end

/-! ### what is known of a family -/
structure Fc {ι : Type} (T : Fm ι) (k : Nat) (P : Program) (w : World) (K : PySem.W.Frag) (mg : Str → Option Value) (base : Heap) (N : List Str) (sc : Scope) : Prop where
  hT : T.K = K
  hP : ∀ i, (T.X i).prog = P
  hw : ∀ i, (T.X i).w = w
  hK : ∀ i, (T.X i).K = T.K
  hmg : ∀ i, (T.X i).mg = mg
  hb : ∀ i, (T.X i).base = base
  hN : ∀ i, (T.X i).N = N
  nd : N.Nodup
  hs : ∀ i, (T.X i).env.scope = sc
  calm : T.hot = false → ∀ i, (T.X i).calm = true
  hr : ∀ i, RoomM T.hot k (T.X i).A
  tk : ∀ i, Takes (T.X i) T.w

/-- .. and of a def's body -/
structure Fd {ι : Type} (T : Fm ι) (k : Nat) (P : Program) (w : World) (K : PySem.W.Frag) (mg : Str → Option Value) (base : Heap) (N : List Str) (sc : Scope) : Prop where
  fc : Fc T k P w K mg base N sc
  fn : ∀ i x, Loc sc x → (T.X i).fn x = true ∨ sc.names.lookup x = some .local
  own : ∀ i, PassesOwn (model (T.X i).prog (T.X i).w) (T.X i).A (T.X i).env (T.X i).xe
  stk : ∀ i, (T.X i).stack = (T.X i).env :: (T.X i).outer
  frm : ∀ i, (T.X i).env.frame = some (T.X i).env.locals

section
variable {ι : Type} {T : Fm ι} {k : Nat} {P : Program} {w : World} {K : PySem.W.Frag} {mg : Str → Option Value} {base : Heap} {N : List Str} {sc : Scope} {Γ : Gm} {M : Ms} {Φ : PD} {Ψ : PX}
variable {e a b c : Expr} {es : List Expr} {pos : Pos}

/-! ### names, constants -/
theorem ex_int {n : Int} {j} (h : Φ (.int n) M) : EX T (.Constant (.int n) j pos) Γ M Φ Ψ := EX.mk (fun i => pe_int) (ge_c (d := .int n) (fun _ _ => rfl) h)
theorem ex_str {x : Str} {j} (h : Φ (.str x) M) : EX T (.Constant (.str x) j pos) Γ M Φ Ψ := EX.mk (fun i => pe_str) (ge_c (d := .str x) (fun _ _ => rfl) h)
theorem ex_bl {x : Bool} {j} (h : Φ (.bl x) M) : EX T (.Constant (.bool x) j pos) Γ M Φ Ψ := EX.mk (fun i => pe_bl) (ge_c (d := .bl x) (fun _ _ => rfl) h)
theorem ex_non {j} (h : Φ .non M) : EX T (.Constant .none j pos) Γ M Φ Ψ := EX.mk (fun i => pe_non) (ge_c (d := .non) (fun _ _ => rfl) h)
theorem ex_var (hF : Fc T k P w K mg base N sc) (i : Nat) {x : Str} {d : D} (hj : Γ[i]? = some (some d)) (h : Φ d M) (hN : N[i]? = some x := by rfl) (hv : Vis sc x := by first | exact Or.inl rfl | exact Or.inr (Or.inl rfl) | exact Or.inr (Or.inr rfl))
    (hd : (x == ("__debug__" : Str)) = false := by decide) (hcd : (x == ("__classdict__" : Str)) = false := by decide) : EX T (.Name x pos) Γ M Φ Ψ :=
  EX.mk (fun j => pe_var (i := i) (by rw [hF.hN]; exact hN) (by rw [hF.hs]; exact hv) hd hcd) (ge_var hj h)
/-- a module's name that holds a datum -/
def Gv (K : PySem.W.Frag) (mg : Str → Option Value) (x : Str) (d : D) : Prop := ∃ v u, mg x = some u ∧ RelV v u ∧ ∀ F, Rep K F d v
theorem ex_glob (hF : Fc T k P w K mg base N sc) {x : Str} {d : D} (g : Gv K mg x d) (h : Φ d M) (hg : sc.names.lookup x = some .globalImplicit := by rfl) (hd : (x == ("__debug__" : Str)) = false := by decide) : EX T (.Name x pos) Γ M Φ Ψ := by
  obtain ⟨v, u, h1, h2, h3⟩ := g
  rw [← hF.hT] at h3
  refine EX.mk (t := tC v) (fun j => pe_glob (by show (T.X j).env.scope.names.lookup x = _; rw [hF.hs]; exact hg) (by rw [hF.hmg]; exact h1) h2 hd) ?_
  exact fun F H σ Q ok sl q x => q F H M d v (Same.refl F) ok (h3 F) h

/-! ### operators -/
theorem opr_or {X : Cx} {f : Value → Value → Sem Value} {r r' : R2} (h : OpR X f r) (h' : OpR X f r') : OpR X f (fun x y H Q => r x y H Q ∨ r' x y H Q) :=
  fun pins s σ H x y v u Q I rx ry q => q.elim (h pins s σ H x y v u Q I rx ry) (h' pins s σ H x y v u Q I rx ry)
theorem ex_opG {op : Operator} {r : R2} {R : Ms → PD → D → D → Prop} (ho : ∀ i, OpR (T.X i) (binaryOp op) r) (hR : ∀ x y M Φ, R M Φ x y → GR T r x y M Φ)
    (h : EX T a Γ M (fun x M1 => EX T b Γ M1 (fun y M2 => R M2 Φ x y) Ψ) Ψ) : EX T (.BinOp a op b pos) Γ M Φ Ψ :=
  EX.mk (fun i => pe_op (ho i) (pe_te i) (pe_te i)) (ge_op (EX.imp h (fun _ _ q => EX.imp q (fun _ _ z => hR _ _ _ _ z) fun _ _ _ _ z => z) fun _ _ _ _ z => z))
def addP (M : Ms) (Φ : PD) : D → D → Prop
  | .int i, .int j => Φ (.int (i + j)) M
  | .str x, .str y => x.length + y.length ≤ sizeLine ∧ Φ (.str (x ++ y)) M
  | .lst x, .lst y => x.length + y.length ≤ sizeLine ∧ Φ (.lst (x ++ y)) M
  | _, _ => False
theorem ex_add (h : EX T a Γ M (fun x M1 => EX T b Γ M1 (fun y M2 => addP M2 Φ x y) Ψ) Ψ) : EX T (.BinOp a .Add b pos) Γ M Φ Ψ := by
  refine ex_opG (R := addP) (fun i => opr_or op_add (opr_or op_add_str op_cat)) (fun x y M Φ q => ?_) h
  intro F H vx vy Q ok rx ry hk
  cases x <;> cases y <;> first | exact False.elim q | skip
  · cases rx; cases ry
    exact .inl ⟨_, _, rfl, rfl, hk F H M (.int _) _ (Same.refl F) ok rfl q⟩
  · cases rx; cases ry
    exact .inr (.inl ⟨_, _, rfl, rfl, q.1, hk F H M (.str _) _ (Same.refl F) ok rfl q.2⟩)
  · obtain ⟨p, vs, rfl, hp, rp⟩ := rx
    obtain ⟨p', vs', rfl, hp', rp'⟩ := ry
    refine .inr (.inr ⟨p, p', vs, vs', rfl, rfl, ok.ex _ _ hp, ok.ex _ _ hp', by rw [rp.length, rp'.length]; exact q.1, fun t ht => ?_⟩)
    have e2 : Same F (upd F t (.lst (vs ++ vs'))) := same_upd (ok.freshF ht)
    exact hk _ _ M (.lst _) _ e2 (ok.new ht) ⟨t, _, rfl, upd_same, (rp.append rp').mono e2⟩ q.2
def subP (M : Ms) (Φ : PD) : D → D → Prop
  | .int i, .int j => Φ (.int (i - j)) M
  | _, _ => False
theorem ex_sub (h : EX T a Γ M (fun x M1 => EX T b Γ M1 (fun y M2 => subP M2 Φ x y) Ψ) Ψ) : EX T (.BinOp a .Sub b pos) Γ M Φ Ψ := by
  refine ex_opG (R := subP) (fun i => op_sub) (fun x y M Φ q => ?_) h
  intro F H vx vy Q ok rx ry hk
  cases x <;> cases y <;> first | exact False.elim q | skip
  cases rx; cases ry
  exact ⟨_, _, rfl, rfl, hk F H M (.int _) _ (Same.refl F) ok rfl q⟩
def mulP (M : Ms) (Φ : PD) : D → D → Prop
  | .int i, .int j => CMul i j ∧ Φ (.int (i * j)) M
  | _, _ => False
theorem ex_mul (h : EX T a Γ M (fun x M1 => EX T b Γ M1 (fun y M2 => mulP M2 Φ x y) Ψ) Ψ) : EX T (.BinOp a .Mult b pos) Γ M Φ Ψ := by
  refine ex_opG (R := mulP) (fun i => op_mul) (fun x y M Φ q => ?_) h
  intro F H vx vy Q ok rx ry hk
  cases x <;> cases y <;> first | exact False.elim q | skip
  cases rx; cases ry
  exact ⟨_, _, rfl, rfl, q.1, hk F H M (.int _) _ (Same.refl F) ok rfl q.2⟩
/-- // by a positive divisor below 2^30 -/
def fdivP (M : Ms) (Φ : PD) : D → D → Prop
  | .int i, .int j => CDiv i j ∧ Φ (.int (i / j)) M
  | _, _ => False
theorem ex_fdiv (h : EX T a Γ M (fun x M1 => EX T b Γ M1 (fun y M2 => fdivP M2 Φ x y) Ψ) Ψ) : EX T (.BinOp a .FloorDiv b pos) Γ M Φ Ψ := by
  refine ex_opG (R := fdivP) (fun i => op_fdiv) (fun x y M Φ q => ?_) h
  intro F H vx vy Q ok rx ry hk
  cases x <;> cases y <;> first | exact False.elim q | skip
  cases rx; cases ry
  exact ⟨_, _, rfl, rfl, q.1, hk F H M (.int _) _ (Same.refl F) ok rfl q.2⟩
/-- % by a positive number -/
def modP (M : Ms) (Φ : PD) : D → D → Prop
  | .int i, .int j => 0 < j ∧ Φ (.int (i % j)) M
  | _, _ => False
theorem ex_mod (h : EX T a Γ M (fun x M1 => EX T b Γ M1 (fun y M2 => modP M2 Φ x y) Ψ) Ψ) : EX T (.BinOp a .Mod b pos) Γ M Φ Ψ := by
  refine ex_opG (R := modP) (fun i => op_mod) (fun x y M Φ q => ?_) h
  intro F H vx vy Q ok rx ry hk
  cases x <;> cases y <;> first | exact False.elim q | skip
  cases rx; cases ry
  exact ⟨_, _, rfl, rfl, q.1, hk F H M (.int _) _ (Same.refl F) ok rfl q.2⟩
def powP (M : Ms) (Φ : PD) : D → D → Prop
  | .int i, .int j => CPow i j ∧ Φ (.int (i ^ j.toNat)) M
  | _, _ => False
theorem ex_pow (h : EX T a Γ M (fun x M1 => EX T b Γ M1 (fun y M2 => powP M2 Φ x y) Ψ) Ψ) : EX T (.BinOp a .Pow b pos) Γ M Φ Ψ := by
  refine ex_opG (R := powP) (fun i => op_pow) (fun x y M Φ q => ?_) h
  intro F H vx vy Q ok rx ry hk
  cases x <;> cases y <;> first | exact False.elim q | skip
  cases rx; cases ry
  exact ⟨_, _, rfl, rfl, q.1, hk F H M (.int _) _ (Same.refl F) ok rfl q.2⟩
def negP (M : Ms) (Φ : PD) : D → Prop
  | .int i => Φ (.int (-i)) M
  | _ => False
theorem ex_neg (h : EX T a Γ M (fun x M1 => negP M1 Φ x) Ψ) : EX T (.UnaryOp .USub a pos) Γ M Φ Ψ := by
  refine EX.mk (fun i => pe_un un_neg (pe_te i)) (ge_un (EX.imp h (fun x M q => ?_) fun _ _ _ _ z => z))
  intro F H vx Q ok rx hk
  cases x <;> first | exact False.elim q | skip
  cases rx
  exact ⟨_, rfl, hk F H M (.int _) _ (Same.refl F) ok rfl q⟩

/-! ### comparisons -/
/-! plain data -/
mutual
def toP : D → Option PyData
  | .non => some .none
  | .bl b => some (.bool b)
  | .int i => some (.int i)
  | .str x => some (.str x)
  | .tup ds => (toPs ds).map PyData.tuple
  | .lst ds => (toPs ds).map PyData.list
  | .rol ds => (toPs ds).map PyData.list
  | _ => none
def toPs : List D → Option (List PyData)
  | [] => some []
  | d :: ds => (toP d).bind fun p => (toPs ds).map fun ps => p :: ps
end
mutual
theorem toP_dp {K : PySem.W.Frag} {F H : Hp} (e : Same F H) : ∀ {d : D} {v : V} {p : PyData}, Rep K F d v → toP d = some p → Dp K H v p
  | .non, _, _, h, q => by cases h; cases q; exact .non
  | .bl _, _, _, h, q => by cases h; cases q; exact .bl _
  | .int _, _, _, h, q => by cases h; cases q; exact .int _
  | .str _, _, _, h, q => by cases h; cases q; exact .str _
  | .tup ds, _, p, ⟨a, vs, h1, h2, h3⟩, q => by
    obtain ⟨ps, hp, rfl⟩ := Option.map_eq_some_iff.mp (show (toPs ds).map PyData.tuple = some p from q)
    subst h1
    exact .tup (same_t e h2) (toPs_dp e h3 hp)
  | .lst ds, _, p, ⟨a, vs, h1, h2, h3⟩, q => by
    obtain ⟨ps, hp, rfl⟩ := Option.map_eq_some_iff.mp (show (toPs ds).map PyData.list = some p from q)
    subst h1
    exact .lst (.inl (.inl (e _ _ h2))) (toPs_dp e h3 hp)
  | .rol ds, _, p, ⟨a, vs, h1, h2, h3⟩, q => by
    obtain ⟨ps, hp, rfl⟩ := Option.map_eq_some_iff.mp (show (toPs ds).map PyData.list = some p from q)
    subst h1
    exact .lst (e.seq h2) (toPs_dp e h3 hp)
  | .ref _, _, _, _, q => by cases q
  | .ty _, _, _, _, q => by cases q
  | .ins _ _ _, _, _, _, q => by cases q
  | .dic _ _, _, _, _, q => by cases q
  | .exn _ _ _, _, _, _, q => by cases q
theorem toPs_dp {K : PySem.W.Frag} {F H : Hp} (e : Same F H) : ∀ {ds : List D} {vs : List V} {ps : List PyData}, Reps K F ds vs → toPs ds = some ps → DpAll K H vs ps
  | [], _, _, h, q => by
    have h : _ = [] := h
    cases q; subst h; exact .nil
  | d :: ds, _, ps, ⟨v, r, h1, h2, h3⟩, q => by
    subst h1
    obtain ⟨p, hp, q⟩ := Option.bind_eq_some_iff.mp (show (toP d).bind (fun p => (toPs ds).map fun ps => p :: ps) = some ps from q)
    obtain ⟨ps', hps, rfl⟩ := Option.map_eq_some_iff.mp q
    exact .cons (toP_dp e h2 hp) (toPs_dp e h3 hps)
end
/-- == of two data -/
def eqD : D → D → Option Bool := fun x y => (toP x).bind fun p => (toP y).bind fun q => if SeqAt.shaped p && SeqAt.shaped q then some (PyData.eqv p q) else none
def eqP (M : Ms) (Φ : PD) : D → D → Prop
  | .int i, .int j => Φ (.bl (decide (i = j))) M
  | .str x, .str y => Φ (.bl (decide (x = y))) M
  | .bl x, .bl y => Φ (.bl (decide (x = y))) M
  | x, y => ∃ c, eqD x y = some c ∧ Φ (.bl c) M
def neP (M : Ms) (Φ : PD) (x y : D) : Prop := eqP M (fun d M => ∃ c, d = .bl c ∧ Φ (.bl (!c)) M) x y
def ltP (f : Int → Int → Bool) (M : Ms) (Φ : PD) : D → D → Prop
  | .int i, .int j => Φ (.bl (f i j)) M
  | _, _ => False
theorem nomarkG {op : CmpOp} (b : Expr) (h : op ≠ .In) (h2 : op ≠ .NotIn) : behindInMarks op b = false := nomark b h h2
theorem ex_cmpG {op : CmpOp} {r : R2} {R : Ms → PD → D → D → Prop} (ho : ∀ i, OpR (T.X i) (compareOp op) r) (hm : behindInMarks op b = false) (hR : ∀ x y M Φ, R M Φ x y → GR T r x y M Φ)
    (h : EX T a Γ M (fun x M1 => EX T b Γ M1 (fun y M2 => R M2 Φ x y) Ψ) Ψ) : EX T (.Compare a [op] [b] pos) Γ M Φ Ψ :=
  EX.mk (fun i => pe_cmpR (ho i) (pe_te i) (pe_te i) hm) (ge_op (EX.imp h (fun _ _ q => EX.imp q (fun _ _ z => hR _ _ _ _ z) fun _ _ _ _ z => z) fun _ _ _ _ z => z))
theorem tx_cmpG {op : CmpOp} {r : R2} {R : Ms → PD → D → D → Prop} {Φ : Bool → Ms → Prop} (ho : ∀ i, OpR (T.X i) (compareOp op) r) (hm : behindInMarks op b = false) (hR : ∀ x y M Φ, R M Φ x y → GR T r x y M Φ)
    (h : EX T a Γ M (fun x M1 => EX T b Γ M1 (fun y M2 => R M2 (fun d M => ∃ c, d = .bl c ∧ Φ c M) x y) Ψ) Ψ) : TX T (.Compare a [op] [b] pos) Γ M Φ Ψ :=
  TX.mk (fun i => pt_cmpR (ho i) (pe_te i) (pe_te i) hm) (gt_test (ge_op (EX.imp h (fun _ _ q => EX.imp q (fun _ _ z => hR _ _ _ _ z) fun _ _ _ _ z => z) fun _ _ _ _ z => z)))
def rEq2 (K : PySem.W.Frag) : R2 := fun x y H Q => rEq x y H Q ∨ rEqD K x y H Q
def rNe2 (K : PySem.W.Frag) : R2 := fun x y H Q => rNe x y H Q ∨ rNeD K x y H Q
theorem gr_eqD {x y : D} {c : Bool} {F H : Hp} {vx vy : V} {Q : VK} (ok : Ok T.K F H M) (rx : Rep T.K F x vx) (ry : Rep T.K F y vy) (h : eqD x y = some c) (q : Q (.bl c) H) : rEqD T.K vx vy H Q := by
  unfold eqD at h
  obtain ⟨p, hp, h⟩ := Option.bind_eq_some_iff.mp h
  obtain ⟨p', hp', h⟩ := Option.bind_eq_some_iff.mp h
  split at h
  · rename_i hsh
    cases h
    obtain ⟨s1, s2⟩ := Bool.and_eq_true_iff.mp hsh
    exact ⟨p, p', toP_dp ok.ex rx hp, toP_dp ok.ex ry hp', s1, s2, q⟩
  · cases h
theorem gr_eqD' {x y : D} {c : Bool} {F H : Hp} {vx vy : V} {Q : VK} (ok : Ok T.K F H M) (rx : Rep T.K F x vx) (ry : Rep T.K F y vy) (h : eqD x y = some c) (q : Q (.bl (!c)) H) : rNeD T.K vx vy H Q := by
  unfold eqD at h
  obtain ⟨p, hp, h⟩ := Option.bind_eq_some_iff.mp h
  obtain ⟨p', hp', h⟩ := Option.bind_eq_some_iff.mp h
  split at h
  · rename_i hsh
    cases h
    obtain ⟨s1, s2⟩ := Bool.and_eq_true_iff.mp hsh
    exact ⟨p, p', toP_dp ok.ex rx hp, toP_dp ok.ex ry hp', s1, s2, q⟩
  · cases h
theorem gr_eq {x y : D} (q : eqP M Φ x y) : GR T (rEq2 T.K) x y M Φ := by
  intro F H vx vy Q ok rx ry hk
  unfold eqP at q
  split at q
  · cases rx; cases ry
    refine .inl ⟨rfl, hk F H M (.bl _) _ (Same.refl F) ok rfl ?_⟩
    rw [dec_int]; rw [show decide (_ = _) = (_ == _) from (Bool.beq_eq_decide_eq ..).symm] at q; exact q
  · cases rx; cases ry
    refine .inl ⟨rfl, hk F H M (.bl _) _ (Same.refl F) ok rfl ?_⟩
    rw [dec_str]; rw [show decide (_ = _) = (_ == _) from (Bool.beq_eq_decide_eq ..).symm] at q; exact q
  · cases rx; cases ry
    refine .inl ⟨rfl, hk F H M (.bl _) _ (Same.refl F) ok rfl ?_⟩
    rw [dec_bl]; rw [show decide (_ = _) = (_ == _) from (Bool.beq_eq_decide_eq ..).symm] at q; exact q
  · obtain ⟨c, hc, q⟩ := q
    exact .inr (gr_eqD ok rx ry hc (hk F H M (.bl _) _ (Same.refl F) ok rfl q))
theorem gr_ne {x y : D} (q : neP M Φ x y) : GR T (rNe2 T.K) x y M Φ := by
  intro F H vx vy Q ok rx ry hk
  unfold neP eqP at q
  split at q
  · cases rx; cases ry
    obtain ⟨c, hc, q⟩ := q
    refine .inl ⟨rfl, hk F H M (.bl _) _ (Same.refl F) ok rfl ?_⟩
    rw [dec_int]; cases hc; rw [show decide (_ = _) = (_ == _) from (Bool.beq_eq_decide_eq ..).symm] at q; exact q
  · cases rx; cases ry
    obtain ⟨c, hc, q⟩ := q
    refine .inl ⟨rfl, hk F H M (.bl _) _ (Same.refl F) ok rfl ?_⟩
    rw [dec_str]; cases hc; rw [show decide (_ = _) = (_ == _) from (Bool.beq_eq_decide_eq ..).symm] at q; exact q
  · cases rx; cases ry
    obtain ⟨c, hc, q⟩ := q
    refine .inl ⟨rfl, hk F H M (.bl _) _ (Same.refl F) ok rfl ?_⟩
    rw [dec_bl]; cases hc; rw [show decide (_ = _) = (_ == _) from (Bool.beq_eq_decide_eq ..).symm] at q; exact q
  · obtain ⟨c, hc, c', hc', q⟩ := q
    cases hc'
    exact .inr (gr_eqD' ok rx ry hc (hk F H M (.bl _) _ (Same.refl F) ok rfl q))
theorem Fc.units (hF : Fc T k P w K mg base N sc) (i : ι) : (T.X i).A.units + 64 < cLine := by have := (hF.hr i).rm.un; omega
theorem op_eq2 (hF : Fc T k P w K mg base N sc) (i : ι) : OpR (T.X i) (compareOp .Eq) (rEq2 T.K) := opr_or op_eq (by rw [← hF.hK i]; exact op_eqD (hF.units i))
theorem op_ne2 (hF : Fc T k P w K mg base N sc) (i : ι) : OpR (T.X i) (compareOp .NotEq) (rNe2 T.K) := opr_or op_ne (by rw [← hF.hK i]; exact op_neD (hF.units i))
theorem ex_eq (hF : Fc T k P w K mg base N sc) (h : EX T a Γ M (fun x M1 => EX T b Γ M1 (fun y M2 => eqP M2 Φ x y) Ψ) Ψ) : EX T (.Compare a [.Eq] [b] pos) Γ M Φ Ψ := ex_cmpG (R := eqP) (op_eq2 hF) (nomark _) (fun _ _ _ _ q => gr_eq q) h
theorem ex_ne (hF : Fc T k P w K mg base N sc) (h : EX T a Γ M (fun x M1 => EX T b Γ M1 (fun y M2 => neP M2 Φ x y) Ψ) Ψ) : EX T (.Compare a [.NotEq] [b] pos) Γ M Φ Ψ := ex_cmpG (R := neP) (op_ne2 hF) (nomark _) (fun _ _ _ _ q => gr_ne q) h
theorem tx_eq (hF : Fc T k P w K mg base N sc) {Φ : Bool → Ms → Prop} (h : EX T a Γ M (fun x M1 => EX T b Γ M1 (fun y M2 => eqP M2 (fun d M => ∃ c, d = .bl c ∧ Φ c M) x y) Ψ) Ψ) : TX T (.Compare a [.Eq] [b] pos) Γ M Φ Ψ := tx_cmpG (R := eqP) (op_eq2 hF) (nomark _) (fun _ _ _ _ q => gr_eq q) h
theorem tx_ne (hF : Fc T k P w K mg base N sc) {Φ : Bool → Ms → Prop} (h : EX T a Γ M (fun x M1 => EX T b Γ M1 (fun y M2 => neP M2 (fun d M => ∃ c, d = .bl c ∧ Φ c M) x y) Ψ) Ψ) : TX T (.Compare a [.NotEq] [b] pos) Γ M Φ Ψ := tx_cmpG (R := neP) (op_ne2 hF) (nomark _) (fun _ _ _ _ q => gr_ne q) h
theorem gr_lt {f : Int → Int → Bool} {x y : D} (q : ltP f M Φ x y) : GR T (rI0 fun i j => .bl (f i j)) x y M Φ := by
  intro F H vx vy Q ok rx ry hk
  cases x <;> cases y <;> first | exact False.elim q | skip
  cases rx; cases ry
  exact ⟨_, _, rfl, rfl, hk F H M (.bl _) _ (Same.refl F) ok rfl q⟩
theorem ex_lt (h : EX T a Γ M (fun x M1 => EX T b Γ M1 (fun y M2 => ltP (fun i j => decide (i < j)) M2 Φ x y) Ψ) Ψ) : EX T (.Compare a [.Lt] [b] pos) Γ M Φ Ψ := ex_cmpG (R := ltP fun i j => decide (i < j)) (fun i => op_lt) (nomark _) (fun _ _ _ _ q => gr_lt q) h
theorem ex_le (h : EX T a Γ M (fun x M1 => EX T b Γ M1 (fun y M2 => ltP (fun i j => decide (i ≤ j)) M2 Φ x y) Ψ) Ψ) : EX T (.Compare a [.LtE] [b] pos) Γ M Φ Ψ := ex_cmpG (R := ltP fun i j => decide (i ≤ j)) (fun i => op_le) (nomark _) (fun _ _ _ _ q => gr_lt q) h
theorem ex_gt (h : EX T a Γ M (fun x M1 => EX T b Γ M1 (fun y M2 => ltP (fun i j => decide (j < i)) M2 Φ x y) Ψ) Ψ) : EX T (.Compare a [.Gt] [b] pos) Γ M Φ Ψ := ex_cmpG (R := ltP fun i j => decide (j < i)) (fun i => op_gt) (nomark _) (fun _ _ _ _ q => gr_lt q) h
theorem ex_ge (h : EX T a Γ M (fun x M1 => EX T b Γ M1 (fun y M2 => ltP (fun i j => decide (j ≤ i)) M2 Φ x y) Ψ) Ψ) : EX T (.Compare a [.GtE] [b] pos) Γ M Φ Ψ := ex_cmpG (R := ltP fun i j => decide (j ≤ i)) (fun i => op_ge) (nomark _) (fun _ _ _ _ q => gr_lt q) h
section
variable {Φ : Bool → Ms → Prop}
theorem tx_lt (h : EX T a Γ M (fun x M1 => EX T b Γ M1 (fun y M2 => ltP (fun i j => decide (i < j)) M2 (fun d M => ∃ c, d = .bl c ∧ Φ c M) x y) Ψ) Ψ) : TX T (.Compare a [.Lt] [b] pos) Γ M Φ Ψ := tx_cmpG (R := ltP fun i j => decide (i < j)) (fun i => op_lt) (nomark _) (fun _ _ _ _ q => gr_lt q) h
theorem tx_le (h : EX T a Γ M (fun x M1 => EX T b Γ M1 (fun y M2 => ltP (fun i j => decide (i ≤ j)) M2 (fun d M => ∃ c, d = .bl c ∧ Φ c M) x y) Ψ) Ψ) : TX T (.Compare a [.LtE] [b] pos) Γ M Φ Ψ := tx_cmpG (R := ltP fun i j => decide (i ≤ j)) (fun i => op_le) (nomark _) (fun _ _ _ _ q => gr_lt q) h
theorem tx_gt (h : EX T a Γ M (fun x M1 => EX T b Γ M1 (fun y M2 => ltP (fun i j => decide (j < i)) M2 (fun d M => ∃ c, d = .bl c ∧ Φ c M) x y) Ψ) Ψ) : TX T (.Compare a [.Gt] [b] pos) Γ M Φ Ψ := tx_cmpG (R := ltP fun i j => decide (j < i)) (fun i => op_gt) (nomark _) (fun _ _ _ _ q => gr_lt q) h
theorem tx_ge (h : EX T a Γ M (fun x M1 => EX T b Γ M1 (fun y M2 => ltP (fun i j => decide (j ≤ i)) M2 (fun d M => ∃ c, d = .bl c ∧ Φ c M) x y) Ψ) Ψ) : TX T (.Compare a [.GtE] [b] pos) Γ M Φ Ψ := tx_cmpG (R := ltP fun i j => decide (j ≤ i)) (fun i => op_ge) (nomark _) (fun _ _ _ _ q => gr_lt q) h
end
/-- is None, is not None -/
def isNoneD : D → Bool
  | .non => true
  | _ => false
theorem rep_non {K : PySem.W.Frag} {F : Hp} {d : D} {v : V} (r : Rep K F d v) : decide (v = .non) = isNoneD d := by
  cases d with
  | non => cases r; rfl
  | tup ds => obtain ⟨a, vs, rfl, _⟩ := r; rfl
  | lst ds => obtain ⟨a, vs, rfl, _⟩ := r; rfl
  | rol ds => obtain ⟨a, vs, rfl, _⟩ := r; rfl
  | ins C ns ds => obtain ⟨a, dx, vs, rfl, _⟩ := r; rfl
  | dic ks ds => obtain ⟨a, vs, rfl, _⟩ := r; rfl
  | exn C ns ds => obtain ⟨a, o, d, vs, rfl, _⟩ := r; rfl
  | _ => cases r; rfl
theorem ge_isN {ta : TE} (h : GE T ta Γ M (fun d M1 => Φ (.bl (isNoneD d)) M1) Ψ) : GE T (tIsN ta) Γ M Φ Ψ := fun F H σ Q ok sl q x =>
  h F H σ _ ok sl (fun F1 H1 M1 d v e1 ok1 r z => by
    show Q (.bl (decide (v = .non))) H1
    rw [rep_non r]
    exact q F1 H1 M1 (.bl _) _ e1 ok1 rfl z) x
theorem ge_notN {ta : TE} (h : GE T ta Γ M (fun d M1 => Φ (.bl (!isNoneD d)) M1) Ψ) : GE T (tNotN ta) Γ M Φ Ψ := fun F H σ Q ok sl q x =>
  h F H σ _ ok sl (fun F1 H1 M1 d v e1 ok1 r z => by
    show Q (.bl (!decide (v = .non))) H1
    rw [rep_non r]
    exact q F1 H1 M1 (.bl _) _ e1 ok1 rfl z) x
theorem ex_isN {j p2} (h : EX T a Γ M (fun d M1 => Φ (.bl (isNoneD d)) M1) Ψ) : EX T (.Compare a [.Is] [.Constant .none j p2] pos) Γ M Φ Ψ := EX.mk (fun i => pe_cmp (pc_isN (pe_te i)) rfl) (ge_isN h)
theorem ex_notN {j p2} (h : EX T a Γ M (fun d M1 => Φ (.bl (!isNoneD d)) M1) Ψ) : EX T (.Compare a [.IsNot] [.Constant .none j p2] pos) Γ M Φ Ψ := EX.mk (fun i => pe_cmp (pc_notN (pe_te i)) rfl) (ge_notN h)
theorem tx_isN {j p2} {Φ : Bool → Ms → Prop} (h : EX T a Γ M (fun d M1 => Φ (isNoneD d) M1) Ψ) : TX T (.Compare a [.Is] [.Constant .none j p2] pos) Γ M Φ Ψ := TX.mk (fun i => pt_cmp (pc_isN (pe_te i)) rfl) (gt_B (ge_isN (EX.imp h (fun d M q => ⟨_, rfl, q⟩) fun _ _ _ _ z => z)))
theorem tx_notN {j p2} {Φ : Bool → Ms → Prop} (h : EX T a Γ M (fun d M1 => Φ (!isNoneD d) M1) Ψ) : TX T (.Compare a [.IsNot] [.Constant .none j p2] pos) Γ M Φ Ψ := TX.mk (fun i => pt_cmp (pc_notN (pe_te i)) rfl) (gt_B (ge_notN (EX.imp h (fun d M q => ⟨_, rfl, q⟩) fun _ _ _ _ z => z)))

/-! ### tests -/
/-- an expression that gives True or False -/
theorem tx_val {Φ : Bool → Ms → Prop} (he : ∀ env whole, isTrue e env whole = (do let v ← whole; standAt e.pos; holding [v] (truthy v))) (h : EX T e Γ M (fun d M1 => ∃ c, d = .bl c ∧ Φ c M1) Ψ) : TX T e Γ M Φ Ψ :=
  TX.mk (fun i => pt_val (pe_te i) (he _)) (gt_B h)
/-- any value's truth -/
def truP (M : Ms) (Φ : Bool → Ms → Prop) : D → Prop
  | .non => Φ false M
  | .bl b => Φ b M
  | .int i => Φ (i != 0) M
  | .str y => y.length ≤ sizeLine ∧ Φ ((y.length : Int) != 0) M
  | .tup ds => Φ (!ds.isEmpty) M
  | .lst ds => Φ (!ds.isEmpty) M
  | .rol ds => Φ (!ds.isEmpty) M
  | .dic ks ds => Φ (!ks.isEmpty) M
  | .ref p => (∃ ds, M p = some (.lst ds) ∧ Φ (!ds.isEmpty) M) ∨ (∃ ks ds, M p = some (.dK ks ds) ∧ Φ (!ks.isEmpty) M)
  | _ => False
theorem reps_empty {K : PySem.W.Frag} {F : Hp} {ds : List D} {vs : List V} (r : Reps K F ds vs) : vs.isEmpty = ds.isEmpty := by
  have e := r.length
  cases ds <;> cases vs <;> simp_all
theorem zip_empty {α β : Type} {ks : List α} {vs : List β} (h : ks.length = vs.length) : (ks.zip vs).isEmpty = ks.isEmpty := by
  cases ks <;> cases vs <;> simp_all
theorem truV_of {F H : Hp} {d : D} {v : V} {Φ : Bool → Ms → Prop} (ok : Ok T.K F H M) (r : Rep T.K F d v) (q : truP M Φ d) : ∃ c, TruV T.K v H c ∧ Φ c M := by
  cases d with
  | non => cases r; exact ⟨_, rfl, q⟩
  | bl b => cases r; exact ⟨_, rfl, q⟩
  | int i => cases r; exact ⟨_, rfl, q⟩
  | str y => cases r; exact ⟨_, ⟨q.1, rfl⟩, q.2⟩
  | tup ds => obtain ⟨a, vs, rfl, h, r⟩ := r; exact ⟨_, .inr (.inl ⟨vs, same_t ok.ex h, rfl⟩), by rw [reps_empty r]; exact q⟩
  | lst ds => obtain ⟨a, vs, rfl, h, r⟩ := r; exact ⟨_, .inl ⟨vs, .inl (.inl (ok.ex _ _ h)), rfl⟩, by rw [reps_empty r]; exact q⟩
  | rol ds => obtain ⟨a, vs, rfl, h, r⟩ := r; exact ⟨_, .inl ⟨vs, ok.ex.seq h, rfl⟩, by rw [reps_empty r]; exact q⟩
  | dic ks ds => obtain ⟨a, vs, rfl, h, hl, r⟩ := r; exact ⟨_, .inr (.inr ⟨_, ok.ex _ _ h, rfl⟩), by rw [zip_empty (hl.trans r.length.symm)]; exact q⟩
  | ref p =>
    cases r
    rcases q with ⟨ds, h, q⟩ | ⟨ks, ds, h, q⟩
    · obtain ⟨_, vs, hp, r⟩ := ok.mu p _ h
      exact ⟨_, .inl ⟨vs, .inl (.inl hp), rfl⟩, by rw [reps_empty r]; exact q⟩
    · obtain ⟨_, vs, hp, hl, r⟩ := ok.mu p _ h
      exact ⟨_, .inr (.inr ⟨_, hp, rfl⟩), by rw [zip_empty (hl.trans r.length.symm)]; exact q⟩
  | ty n => exact False.elim q
  | ins C ns ds => exact False.elim q
  | exn C ns ds => exact False.elim q
theorem tx_tru (hF : Fc T k P w K mg base N sc) {Φ : Bool → Ms → Prop} (he : ∀ env whole, isTrue e env whole = (do let v ← whole; standAt e.pos; holding [v] (truthy v))) (h : EX T e Γ M (fun d M1 => truP M1 Φ d) Ψ) : TX T e Γ M Φ Ψ := by
  refine TX.mk (t := fun σ H Q => teOf T e σ H fun x H' => ∃ k, TruV T.K x H' k ∧ Q k H') (fun i => by rw [← hF.hK i]; exact pt_truth (pe_te i) (he _)) ?_
  intro F H σ Q ok sl q x
  exact h F H σ _ ok sl (fun F1 H1 M1 d v e1 ok1 r z => by
    obtain ⟨c, h1, h2⟩ := truV_of ok1 r z
    exact ⟨c, h1, q F1 H1 M1 c e1 ok1 h2⟩) x
theorem tx_not {Φ : Bool → Ms → Prop} (h : TX T a Γ M (fun c M1 => Φ (!c) M1) Ψ) : TX T (.UnaryOp .Not a pos) Γ M Φ Ψ := TX.mk (fun i => pt_not (pt_tt i)) (gt_not h)
theorem wx_and1 {Φ : Bool → Ms → Prop} (h : TX T a Γ M Φ Ψ) : WWX T (.BoolOp .And [a] pos) Γ M Φ Ψ := WWX.mk (fun i => pw_and1 (pt_tt i)) h
theorem wx_or1 {Φ : Bool → Ms → Prop} (h : TX T a Γ M Φ Ψ) : WWX T (.BoolOp .Or [a] pos) Γ M Φ Ψ := WWX.mk (fun i => pw_or1 (pt_tt i)) h
theorem TX.imp {Φ Φ' : Bool → Ms → Prop} (h : TX T e Γ M Φ Ψ) (h1 : ∀ c M, Φ c M → Φ' c M) : TX T e Γ M Φ' Ψ :=
  fun F H σ Q ok sl q x => h F H σ Q ok sl (fun F' H' M' c a b z => q F' H' M' c a b (h1 _ _ z)) x
theorem wx_and {rest : List Expr} {Φ : Bool → Ms → Prop} (h : TX T a Γ M (fun c M1 => (c = true → WWX T (.BoolOp .And (b :: rest) pos) Γ M1 Φ Ψ) ∧ (c = false → Φ false M1)) Ψ) : WWX T (.BoolOp .And (a :: b :: rest) pos) Γ M Φ Ψ :=
  WWX.mk (fun i => pw_and (pt_tt i) (pw_tw i)) (gt_and (TX.imp h fun c M1 q => by
    cases c with
    | true => exact q.1 rfl
    | false => exact q.2 rfl))
theorem wx_or {rest : List Expr} {Φ : Bool → Ms → Prop} (h : TX T a Γ M (fun c M1 => (c = true → Φ true M1) ∧ (c = false → WWX T (.BoolOp .Or (b :: rest) pos) Γ M1 Φ Ψ)) Ψ) : WWX T (.BoolOp .Or (a :: b :: rest) pos) Γ M Φ Ψ :=
  WWX.mk (fun i => pw_or (pt_tt i) (pw_tw i)) (gt_or (TX.imp h fun c M1 q => by
    cases c with
    | true => exact q.1 rfl
    | false => exact q.2 rfl))
/-- and, or, not as values (of bools) -/
theorem ex_one {op} (h : EX T a Γ M Φ Ψ) : EX T (.BoolOp op [a] pos) Γ M Φ Ψ := EX.mk (fun i => pe_one (pe_te i)) h
theorem ex_and {rest : List Expr} (h : EX T a Γ M (fun d M1 => ∃ c, d = .bl c ∧ (c = true → EX T (.BoolOp .And (b :: rest) pos) Γ M1 Φ Ψ) ∧ (c = false → Φ (.bl false) M1)) Ψ) : EX T (.BoolOp .And (a :: b :: rest) pos) Γ M Φ Ψ :=
  EX.mk (fun i => pe_and (pe_te i) (pe_te i)) (ge_andV (EX.imp h (fun d M1 ⟨c, hc, q⟩ => ⟨c, hc, by
    cases c with
    | true => exact q.1 rfl
    | false => exact q.2 rfl⟩) fun _ _ _ _ z => z))
theorem ex_or {rest : List Expr} (h : EX T a Γ M (fun d M1 => ∃ c, d = .bl c ∧ (c = true → Φ (.bl true) M1) ∧ (c = false → EX T (.BoolOp .Or (b :: rest) pos) Γ M1 Φ Ψ)) Ψ) : EX T (.BoolOp .Or (a :: b :: rest) pos) Γ M Φ Ψ :=
  EX.mk (fun i => pe_or (pe_te i) (pe_te i)) (ge_orV (EX.imp h (fun d M1 ⟨c, hc, q⟩ => ⟨c, hc, by
    cases c with
    | true => exact q.1 rfl
    | false => exact q.2 rfl⟩) fun _ _ _ _ z => z))
theorem ex_not (h : EX T a Γ M (fun d M1 => ∃ c, d = .bl c ∧ Φ (.bl (!c)) M1) Ψ) : EX T (.UnaryOp .Not a pos) Γ M Φ Ψ := EX.mk (fun i => pe_not (pe_te i)) (ge_notV h)
theorem ex_if (h : TX T c Γ M (fun t M1 => (t = true → EX T a Γ M1 Φ Ψ) ∧ (t = false → EX T b Γ M1 Φ Ψ)) Ψ) : EX T (.IfExp c a b pos) Γ M Φ Ψ :=
  EX.mk (fun i => pe_ifExp (pt_tt i) (pe_te i) (pe_te i)) (ge_if (TX.imp h fun t M1 q => by
    cases t with
    | true => exact q.1 rfl
    | false => exact q.2 rfl))

/-! ### displays, argument lists -/
theorem ax_nil {Φ : List D → Ms → Prop} (h : Φ [] M) : AX T [] Γ M Φ Ψ := AX.mk (fun i => pa_nil) (ga_nil h)
theorem AX.imp {Φ Φ' : List D → Ms → Prop} (h : AX T es Γ M Φ Ψ) (h1 : ∀ ds M, Φ ds M → Φ' ds M) : AX T es Γ M Φ' Ψ :=
  fun F H σ Q ok sl q x => h F H σ Q ok sl (fun F' H' M' c vs a b r z => q F' H' M' c vs a b r (h1 _ _ z)) x
theorem ax_cons {Φ : List D → Ms → Prop} (h : EX T e Γ M (fun x M1 => AX T es Γ M1 (fun xs M2 => Φ (x :: xs) M2) Ψ) Ψ) (hs : ∀ env, starEach (e :: es) env = (false, eval e env) :: starEach es env := by intro _; rfl) : AX T (e :: es) Γ M Φ Ψ :=
  AX.mk (fun i => pa_cons (pe_te i) (pa_ta i) (hs _)) (ga_cons h)
theorem ex_tup {x1} (h : AX T es Γ M (fun xs M1 => xs.length ≤ sizeLine ∧ Φ (.tup xs) M1) Ψ) : EX T (.Tuple es x1 pos) Γ M Φ Ψ := EX.mk (fun i => pe_tup (pa_ta i)) (ge_tup h)
theorem ex_lst (h : AX T es Γ M (fun xs M1 => xs.length ≤ sizeLine ∧ Φ (.lst xs) M1) Ψ) : EX T (.List es pos) Γ M Φ Ψ := EX.mk (fun i => pe_lst (pa_ta i)) (ge_lst h)
theorem ex_lstM (h : AX T es Γ M (fun xs M1 => xs.length ≤ sizeLine ∧ ∀ p, M1 p = none → Φ (.ref p) (um M1 p (.lst xs))) Ψ) : EX T (.List es pos) Γ M Φ Ψ := EX.mk (fun i => pe_lst (pa_ta i)) (ge_lstM h)
theorem sz {α : Type} {xs : List α} (n : Nat) (h : xs.length = n := by rfl) (h2 : n ≤ 16777216 := by decide) : xs.length ≤ sizeLine := by rw [sizeLine_eq, h]; exact h2
theorem size_small {n : Nat} (h : n ≤ 16777216 := by decide) : n ≤ sizeLine := by rw [sizeLine_eq]; exact h

/-! ### subscripts -/
def ixP (M : Ms) (Φ : PD) : D → D → Prop
  | .tup ds, .int i => ∃ d, atI ds i = some d ∧ Φ d M
  | .lst ds, .int i => ∃ d, atI ds i = some d ∧ Φ d M
  | .rol ds, .int i => ∃ d, atI ds i = some d ∧ Φ d M
  | .ref p, .int i => ∃ ds d, M p = some (.lst ds) ∧ atI ds i = some d ∧ Φ d M
  | .str z, .int i => z.length ≤ sizeLine ∧ ∃ c, atI z.cps.toList i = some c ∧ Φ (.str ⟨#[c]⟩) M
  | _, _ => False
theorem reps_at {K : PySem.W.Frag} {F : Hp} {ds : List D} {vs : List V} {i : Int} {d : D} (r : Reps K F ds vs) (h : atI ds i = some d) : ∃ v, atI vs i = some v ∧ Rep K F d v := by
  unfold atI at h ⊢
  rw [r.length]
  obtain ⟨j, hj, h⟩ := Option.bind_eq_some_iff.mp h
  obtain ⟨v, hv, rv⟩ := r.get h
  exact ⟨v, by rw [hj]; exact hv, rv⟩
theorem gr_ix {x y : D} (q : ixP M Φ x y) : GR T (rIx T.K) x y M Φ := by
  intro F H vx vy Q ok rx ry hk
  unfold ixP at q
  split at q
  · obtain ⟨p, vs, rfl, hp, rp⟩ := rx
    cases ry
    obtain ⟨d, hd, q⟩ := q
    obtain ⟨v, hv, rv⟩ := reps_at rp hd
    exact .inr (.inl ⟨p, vs, _, v, rfl, rfl, same_t ok.ex hp, hv, hk F H M d v (Same.refl F) ok rv q⟩)
  · obtain ⟨p, vs, rfl, hp, rp⟩ := rx
    cases ry
    obtain ⟨d, hd, q⟩ := q
    obtain ⟨v, hv, rv⟩ := reps_at rp hd
    exact .inl ⟨p, vs, _, v, rfl, rfl, .inl (.inl (ok.ex _ _ hp)), hv, hk F H M d v (Same.refl F) ok rv q⟩
  · obtain ⟨p, vs, rfl, hp, rp⟩ := rx
    cases ry
    obtain ⟨d, hd, q⟩ := q
    obtain ⟨v, hv, rv⟩ := reps_at rp hd
    exact .inl ⟨p, vs, _, v, rfl, rfl, ok.ex.seq hp, hv, hk F H M d v (Same.refl F) ok rv q⟩
  · cases rx; cases ry
    obtain ⟨ds, d, hm, hd, q⟩ := q
    obtain ⟨_, vs, hp, rp⟩ := ok.mu _ _ hm
    obtain ⟨v, hv, rv⟩ := reps_at rp hd
    exact .inl ⟨_, vs, _, v, rfl, rfl, .inl (.inl hp), hv, hk F H M d v (Same.refl F) ok rv q⟩
  · cases rx; cases ry
    obtain ⟨hz, c, hc, q⟩ := q
    exact .inr (.inr ⟨_, _, c, rfl, rfl, hz, hc, hk F H M (.str _) _ (Same.refl F) ok rfl q⟩)
  · exact False.elim q
theorem ex_ix (hF : Fc T k P w K mg base N sc) (h : EX T a Γ M (fun x M1 => EX T b Γ M1 (fun y M2 => ixP M2 Φ x y) Ψ) Ψ) (hs : PlainIx b := by exact fun _ _ => rfl) : EX T (.Subscript a b pos) Γ M Φ Ψ :=
  EX.mk (fun i => pe_ix (by rw [← hF.hK i]; exact ix_seq) (pe_te i) (pe_te i) hs) (ge_op (EX.imp h (fun _ _ q => EX.imp q (fun _ _ z => gr_ix z) fun _ _ _ _ z => z) fun _ _ _ _ z => z))
end

/-! ### calls of the program's own defs -/
abbrev DS := List D → Ms → PD → PX → Prop
def lift (K : PySem.W.Frag) (ds : DS) : Sp := fun vs H Q E => ∃ F M args Φ Ψ, Ok K F H M ∧ Reps K F args vs ∧ ds args M Φ Ψ ∧ KE K F Φ Q ∧ KX K F Ψ E
/-- the module's name x is a def of these parameters that does as ds says -/
def Cal (hot : Bool) (P : Program) (w : World) (K : PySem.W.Frag) (mg : Str → Option Value) (base : Heap) (x : Str) (k : Nat) (ps : List Str) (ds : DS) : Prop :=
  ∃ f fd, FnM hot P w K mg base k f fd ps (lift K ds) ∧ mg x = some (.ref f) ∧ PySem.W.keepIn K (.ref f) = true ∧ Binds K fd ps []
theorem Cal.at {hot hot' : Bool} {P : Program} {w : World} {K : PySem.W.Frag} {mg : Str → Option Value} {base : Heap} {x : Str} {k : Nat} {ps : List Str} {ds : DS} (c : Cal hot P w K mg base x k ps ds) (h : hot' = hot) : Cal hot' P w K mg base x k ps ds := by
  rw [h]; exact c
section
variable {ι : Type} {T : Fm ι} {k : Nat} {P : Program} {w : World} {K : PySem.W.Frag} {mg : Str → Option Value} {base : Heap} {N : List Str} {sc : Scope} {Γ : Gm} {M : Ms} {Φ : PD} {Ψ : PX}
variable {e a b c : Expr} {es : List Expr} {pos : Pos}
theorem Fc.fno (hF : Fc T k P w K mg base N sc) (i : ι) {hot : Bool} {j : Nat} {f : Addr} {fd : FuncData} {ps : List Str} {sp : Sp} (F : FnM hot P w T.K mg base j f fd ps sp) : FnM hot (T.X i).prog (T.X i).w (T.X i).K (T.X i).mg (T.X i).base j f fd ps sp := by
  rw [hF.hP i, hF.hw i, hF.hK i, hF.hmg i, hF.hb i]; exact F
theorem ge_callS {ds : DS} {t : TA} (h : GA T t Γ M (fun xs M1 => ds xs M1 Φ Ψ) Ψ) : GE T (tCallS (lift T.K ds) (WE T.w) t) Γ M Φ Ψ := fun F H σ Q ok sl q x =>
  h F H σ _ ok sl (fun F1 H1 M1 xs vs e1 ok1 rs z => ⟨F1, M1, xs, Φ, Ψ, ok1, rs, z, q.mono e1, x.mono e1⟩) x
theorem Fc.pass (hF : Fc T k P w K mg base N sc) (i : ι) (σ : L2.St) : PassesAt (L2.CX (T.X i).prog (T.X i).w) (T.X i) σ (WE T.w σ) := passAt (hF.tk i) σ
theorem ex_call (hF : Fc T k P w K mg base N sc) {x : Str} {j : Nat} {ps : List Str} {ds : DS} {p : Pos} (c : Cal T.hot P w K mg base x j ps ds) (hk : j ≤ k) (h : AX T (e :: es) Γ M (fun xs M1 => ds xs M1 Φ Ψ) Ψ)
    (hg : sc.names.lookup x = some .globalImplicit := by rfl) (hdb : (x == ("__debug__" : Str)) = false := by decide) (he : ∀ env, starEach (e :: es) env = (false, eval e env) :: starEach es env := by intro _; rfl) (hpl : ∀ env, (backTo pos (starEach es env)).any (·.1) = false := by intro _; rfl) :
    EX T (.Call (.Name x p) (e :: es) [] pos) Γ M Φ Ψ := by
  rw [← hF.hT] at c
  obtain ⟨f, fd, F, hm, kp, hb⟩ := c
  refine EX.mk (t := tCallS (lift T.K ds) (WE T.w) (taOf T (e :: es))) (fun i => ?_) (ge_callS h)
  exact pe_callM (hF.fno i F) ((hF.hr i).mono hk) (by show (T.X i).env.scope.names.lookup x = _; rw [hF.hs]; exact hg) (by rw [hF.hmg]; exact hm) (by rw [hF.hK]; exact kp) (by rw [hF.hK]; exact hb) (hF.pass i) (pa_ta i) hdb (he _) (hpl _)

/-! ### calls of built-ins -/
theorem ex_bltG (hF : Fc T k P w K mg base N sc) {x : Str} {id : String} {p : Pos} {r : List V → Hp → VK → Prop} {R : Ms → PD → List D → Prop} (hc : ∀ i, CallR (T.X i) (.builtin id) r) (hm : mg x = none) (hv : bootBuiltins x = some (.builtin id)) (hR : ∀ xs M Φ, R M Φ xs → GC T r xs M Φ)
    (h : AX T (e :: es) Γ M (fun xs M1 => R M1 Φ xs) Ψ) (hg : sc.names.lookup x = some .globalImplicit := by rfl) (hn : x ≠ "__name__" := by decide) (hdb : (x == ("__debug__" : Str)) = false := by decide)
    (he : ∀ env, starEach (e :: es) env = (false, eval e env) :: starEach es env := by intro _; rfl) (hpl : ∀ env, (backTo pos (starEach es env)).any (·.1) = false := by intro _; rfl) : EX T (.Call (.Name x p) (e :: es) [] pos) Γ M Φ Ψ :=
  EX.mk (fun i => pe_callB (hc i) (by show (T.X i).env.scope.names.lookup x = _; rw [hF.hs]; exact hg) (by rw [hF.hmg]; exact hm) hv (pa_ta i) hn hdb (he _) (hpl _)) (ge_CB (AX.imp h fun xs M1 q => hR _ _ _ q))
theorem ex_tyG (hF : Fc T k P w K mg base N sc) {x : Str} {id : String} {p : Pos} {r : List V → Hp → VK → Prop} {R : Ms → PD → List D → Prop} (hc : ∀ i, CallR (T.X i) (.type id) r) (hm : mg x = none) (hv : bootBuiltins x = some (.type id)) (hR : ∀ xs M Φ, R M Φ xs → GC T r xs M Φ)
    (h : AX T (e :: es) Γ M (fun xs M1 => R M1 Φ xs) Ψ) (hg : sc.names.lookup x = some .globalImplicit := by rfl) (hn : x ≠ "__name__" := by decide) (hdb : (x == ("__debug__" : Str)) = false := by decide)
    (he : ∀ env, starEach (e :: es) env = (false, eval e env) :: starEach es env := by intro _; rfl) (hpl : ∀ env, (backTo pos (starEach es env)).any (·.1) = false := by intro _; rfl) : EX T (.Call (.Name x p) (e :: es) [] pos) Γ M Φ Ψ :=
  EX.mk (fun i => pe_callTy (hc i) (by show (T.X i).env.scope.names.lookup x = _; rw [hF.hs]; exact hg) (by rw [hF.hmg]; exact hm) hv (pa_ta i) hn hdb (he _) (hpl _)) (ge_CB (AX.imp h fun xs M1 q => hR _ _ _ q))
end
end G
set_option Elab.async false
set_option linter.all false
set_option maxRecDepth 100000
/-! GStm: statements, loops, comprehensions, defs on data. -/
namespace G
open PySem PySem.Spec PyProof.Rows L2

abbrev Da := D
structure GEnds where
  nx : Gm → Ms → Prop
  rt : PD
  bk : Gm → Ms → Prop := fun _ _ => False
  ct : Gm → Ms → Prop := fun _ _ => False
  ex : Gm → PX := fun _ _ _ _ _ => False
section
variable {ι : Type}
def KS (K : PySem.W.Frag) (F : Hp) (N : Gm → Ms → Prop) (R : L2.St → Hp → Prop) : Prop := ∀ F' Γ' M' σ' H', Same F F' → Ok K F' H' M' → Sl K F' σ' Γ' → N Γ' M' → R σ' H'
structure KD (T : Fm ι) (F : Hp) (D : GEnds) (E : Ends) : Prop where
  nx : KS T.K F D.nx E.nx
  rt : KE T.K F D.rt E.rt
  bk : KS T.K F D.bk E.bk
  ct : KS T.K F D.ct E.ct
  ex : ∀ F' Γ' M' σ' H' C d ns ds vs, Same F F' → Ok T.K F' H' M' → Sl T.K F' σ' Γ' → F' d = some (.xd (ns.zip vs)) → ns.length = ds.length → Reps T.K F' ds vs → D.ex Γ' C ns ds M' → T.w (.ref C) (some d) σ' H'
theorem KS.mono {K : PySem.W.Frag} {F F' : Hp} {N : Gm → Ms → Prop} {R : L2.St → Hp → Prop} (e : Same F F') (h : KS K F N R) : KS K F' N R := fun F2 Γ M σ H e2 => h F2 Γ M σ H (e.trans e2)
theorem KD.mono {T : Fm ι} {F F' : Hp} {D : GEnds} {E : Ends} (e : Same F F') (h : KD T F D E) : KD T F' D E :=
  ⟨h.nx.mono e, h.rt.mono e, h.bk.mono e, h.ct.mono e, fun F2 Γ M σ H C d ns ds vs e2 => h.ex F2 Γ M σ H C d ns ds vs (e.trans e2)⟩
theorem KD.kx {T : Fm ι} {F : Hp} {D : GEnds} {E : Ends} {σ : L2.St} {Γ : Gm} (h : KD T F D E) (sl : Sl T.K F σ Γ) : KX T.K F (D.ex Γ) (fun c d H => T.w c d σ H) :=
  fun F' H' M' C d ns ds vs e ok hd hl r q => h.ex F' Γ M' σ H' C d ns ds vs e ok (sl.mono e) hd hl r q
def GS (T : Fm ι) (t : TS) (Γ : Gm) (M : Ms) (D : GEnds) : Prop := ∀ F H σ E, Ok T.K F H M → Sl T.K F σ Γ → KD T F D E → t E σ H
def SX (T : Fm ι) (st : Stmt) (Γ : Gm) (M : Ms) (D : GEnds) : Prop := GS T (tsOf T st) Γ M D
def SSX (T : Fm ι) (st : List Stmt) (Γ : Gm) (M : Ms) (D : GEnds) : Prop := GS T (tssOf T st) Γ M D
variable {T : Fm ι} {k : Nat} {P : Program} {w : World} {K : PySem.W.Frag} {mg : Str → Option Value} {base : Heap} {N : List Str} {sc : Scope} {Γ : Gm} {M : Ms} {D : GEnds}
variable {st : Stmt} {sts : List Stmt} {e a b c : Expr} {pos : Pos}
theorem SX.mk {t : TS} (h : ∀ i, PS (T.X i) st t) (g : GS T t Γ M D) : SX T st Γ M D := fun F H σ E ok sl q i pins s I => (h i).run pins s σ H E I (g F H σ E ok sl q)
theorem SSX.mk {t : TS} (h : ∀ i, PSs (T.X i) sts t) (g : GS T t Γ M D) : SSX T sts Γ M D := fun F H σ E ok sl q i pins s I => (h i).run pins s σ H E I (g F H σ E ok sl q)
theorem gs_next (h : D.nx Γ M) : GS T tNext Γ M D := fun F H σ E ok sl q => q.nx F Γ M σ H (Same.refl F) ok sl h
theorem gs_seq {t u : TS} (h : GS T t Γ M { D with nx := fun Γ' M' => GS T u Γ' M' D }) : GS T (tSeq t u) Γ M D := fun F H σ E ok sl q =>
  h F H σ { E with nx := u E } ok sl ⟨fun F' Γ' M' σ' H' e ok' sl' z => z F' H' σ' E ok' sl' (q.mono e), q.rt, q.bk, q.ct, q.ex⟩
theorem ssx_nil (h : D.nx Γ M) : SSX T [] Γ M D := SSX.mk (fun i => pss_nil) (gs_next h)
theorem ssx_cons (h : SX T st Γ M { D with nx := fun Γ' M' => SSX T sts Γ' M' D }) : SSX T (st :: sts) Γ M D := SSX.mk (fun i => pss_cons (ps_ts i) (pss_tss i)) (gs_seq h)
theorem ssx_one (h : SX T st Γ M D) : SSX T [st] Γ M D := SSX.mk (fun i => pss_one (ps_ts i)) h
theorem sx_pass (h : D.nx Γ M) : SX T (.Pass pos) Γ M D := SX.mk (fun i => ps_pass) (gs_next h)
theorem sx_break (h : D.bk Γ M) : SX T (.Break pos) Γ M D := SX.mk (fun i => ps_break) (fun F H σ E ok sl q => q.bk F Γ M σ H (Same.refl F) ok sl h)
theorem sx_continue (h : D.ct Γ M) : SX T (.Continue pos) Γ M D := SX.mk (fun i => ps_continue) (fun F H σ E ok sl q => q.ct F Γ M σ H (Same.refl F) ok sl h)
theorem sx_ret (h : EX T e Γ M D.rt (D.ex Γ)) : SX T (.Return (some e) pos) Γ M D := SX.mk (fun i => ps_ret (pe_te i)) (fun F H σ E ok sl q => h F H σ _ ok sl q.rt (q.kx sl))
theorem sx_retN (h : D.rt .non M) : SX T (.Return none pos) Γ M D := SX.mk (fun i => ps_retN) (fun F H σ E ok sl q => q.rt F H M .non .non (Same.refl F) ok rfl h)
theorem sx_expr (h : EX T e Γ M (fun _ M1 => D.nx Γ M1) (D.ex Γ)) (hs : ∀ env, swapsWith e none pos.line env = pure false := by intro _; rfl) : SX T (.Expr e pos) Γ M D :=
  SX.mk (fun i => ps_expr (pe_te i) (hs _)) (fun F H σ E ok sl q => h F H σ _ ok sl (fun F1 H1 M1 d v e1 ok1 r z => q.nx F1 Γ M1 σ H1 e1 ok1 (sl.mono e1) z) (q.kx sl))
theorem sx_if {t u : List Stmt} (h : TX T c Γ M (fun z M1 => (z = true → SSX T t Γ M1 D) ∧ (z = false → SSX T u Γ M1 D)) (D.ex Γ)) : SX T (.If c t u pos) Γ M D :=
  SX.mk (fun i => ps_if (pt_tt i) (pss_tss i) (pss_tss i)) (fun F H σ E ok sl q => h F H σ _ ok sl (fun F1 H1 M1 z e1 ok1 ⟨h1, h2⟩ => by
    cases z with
    | true => exact h1 rfl F1 H1 σ E ok1 (sl.mono e1) (q.mono e1)
    | false => exact h2 rfl F1 H1 σ E ok1 (sl.mono e1) (q.mono e1)) (q.kx sl))

/-! ### targets -/
inductive Tg where
  | nm (i : Nat)
  | tp (is : List Nat)
def gNames : List Nat → TGs
  | [] => gNil
  | i :: is => gCons (gName i) (gNames is)
def tgR (K : PySem.W.Frag) : Tg → TG
  | .nm i => gName i
  | .tp is => gTup K is.length (gNames is)
def setG : Gm → List Nat → List Da → Gm
  | Γ, i :: is, d :: ds => setG (Γ.set i (some d)) is ds
  | Γ, _, _ => Γ
def tgD : Tg → Da → Gm → Option Gm
  | .nm i, d, Γ => some (Γ.set i (some d))
  | .tp is, .tup ds, Γ => if ds.length = is.length then some (setG Γ is ds) else none
  | _, _, _ => none
def Tg.ix : Tg → List Nat
  | .nm i => [i]
  | .tp is => is
theorem wipe_get {σ : L2.St} {j : Nat} : ∀ {vs : List Nat}, (L2.wipe σ vs)[j]? = if j ∈ vs ∧ j < σ.length then some none else σ[j]?
  | [] => by rw [if_neg (by simp)]; rfl
  | v :: vs => by
    show ((L2.wipe σ vs).set v none)[j]? = _
    by_cases hj : v = j
    · subst hj
      by_cases hl : v < σ.length
      · rw [List.getElem?_set_self (by rw [wipe_length]; exact hl), if_pos ⟨List.mem_cons_self, hl⟩]
      · rw [if_neg fun z => hl z.2, List.getElem?_eq_none (by rw [List.length_set, wipe_length]; omega), List.getElem?_eq_none (by omega)]
    · rw [List.getElem?_set_ne hj, wipe_get (vs := vs)]
      by_cases hm : j ∈ vs
      · by_cases hl : j < σ.length
        · rw [if_pos ⟨hm, hl⟩, if_pos ⟨List.mem_cons_of_mem _ hm, hl⟩]
        · rw [if_neg fun z => hl z.2, if_neg fun z => hl z.2]
      · rw [if_neg fun z => hm z.1, if_neg fun z => hm ((List.mem_cons.mp z.1).resolve_left fun e => hj e.symm)]
theorem wipe_set {σ : L2.St} {i : Nat} {x : Option V} {vs : List Nat} (h : i ∈ vs) : L2.wipe (σ.set i x) vs = L2.wipe σ vs := by
  apply List.ext_getElem?
  intro j
  rw [wipe_get, wipe_get, List.length_set]
  by_cases hj : j ∈ vs ∧ j < σ.length
  · rw [if_pos hj, if_pos hj]
  · rw [if_neg hj, if_neg hj]
    by_cases e : i = j
    · subst e
      rw [List.getElem?_eq_none (by rw [List.length_set]; exact Nat.le_of_not_lt fun z => hj ⟨h, z⟩), List.getElem?_eq_none (Nat.le_of_not_lt fun z => hj ⟨h, z⟩)]
    · rw [List.getElem?_set_ne e]
theorem names_run {K : PySem.W.Frag} {F H : Hp} : ∀ {is : List Nat} {ds : List Da} {vs : List V} {σ : L2.St} {Γ : Gm} {Q : L2.St → Hp → Prop}, is.length = ds.length → Reps K F ds vs → Sl K F σ Γ →
    (∀ σ', Sl K F σ' (setG Γ is ds) → (∀ us : List Nat, (∀ i ∈ is, i ∈ us) → L2.wipe σ' us = L2.wipe σ us) → Q σ' H) → gNames is vs σ H Q
  | [], [], vs, σ, Γ, Q, _, r, sl, q => ⟨r, q σ sl fun _ _ => rfl⟩
  | i :: is, d :: ds, _, σ, Γ, Q, hl, ⟨v, vr, h1, h2, h3⟩, sl, q =>
    ⟨v, vr, h1, names_run (is := is) (ds := ds) (by simpa using hl) h3 (sl.set h2 i) fun σ' sl' hw => q σ' sl' fun us hu => by
      rw [hw us fun j hj => hu j (List.mem_cons_of_mem _ hj), wipe_set (hu i List.mem_cons_self)]⟩
  | [], _ :: _, _, _, _, _, hl, _, _, _ => by cases hl
  | _ :: _, [], _, _, _, _, hl, _, _, _ => by cases hl
theorem tg_run {F H : Hp} {tg : Tg} {d : Da} {v : V} {σ : L2.St} {Γ Γ' : Gm} {Q : L2.St → Hp → Prop} (h : tgD tg d Γ = some Γ') (r : Rep K F d v) (ex : Same F H) (sl : Sl K F σ Γ)
    (q : ∀ σ', Sl K F σ' Γ' → (∀ us : List Nat, (∀ i ∈ tg.ix, i ∈ us) → L2.wipe σ' us = L2.wipe σ us) → Q σ' H) : tgR K tg v σ H Q := by
  cases tg with
  | nm i =>
    cases h
    exact q _ (sl.set r i) fun us hu => wipe_set (hu i List.mem_cons_self)
  | tp is =>
    cases d with
    | tup ds =>
      have h : (if ds.length = is.length then some (setG Γ is ds) else none) = some Γ' := h
      by_cases hl : ds.length = is.length
      · rw [if_pos hl] at h
        cases h
        obtain ⟨a, vs, h1, h2, h3⟩ := r
        exact ⟨a, vs, h1, same_t ex h2, h3.length.trans hl, names_run hl.symm h3 sl q⟩
      · rw [if_neg hl] at h; cases h
    | _ => cases h
/-- the text's target e is tg -/
def TgOk (T : Fm ι) (e : Expr) (tg : Tg) : Prop := ∀ i, PG (T.X i) e (tgR T.K tg)
def TnOk (T : Fm ι) (es : List Expr) (is : List Nat) : Prop := ∀ i, PGs (T.X i) es (gNames is)
theorem Fd.pgn (hF : Fd T k P w K mg base N sc) (i : ι) {j : Nat} {x : Str} (hN : N[j]? = some x) (hx : Loc sc x) : PG (T.X i) (.Name x pos) (gName j) :=
  pg_name (by rw [hF.fc.hN]; exact hF.fc.nd) (by rw [hF.fc.hN]; exact hN) (by rw [hF.fc.hs]; exact hx) (by have := hF.fn i x hx; rw [hF.fc.hs]; exact this)
theorem tg_nm (hF : Fd T k P w K mg base N sc) (j : Nat) {x : Str} (hN : N[j]? = some x := by rfl) (hx : Loc sc x := by first | exact Or.inl rfl | exact Or.inr rfl) : TgOk T (.Name x pos) (.nm j) := fun i => hF.pgn i hN hx
theorem tn_nil : TnOk T [] [] := fun i => pgs_nil
theorem tn_cons (hF : Fd T k P w K mg base N sc) (j : Nat) {x : Str} {es : List Expr} {is : List Nat} (h : TnOk T es is) (hN : N[j]? = some x := by rfl) (hx : Loc sc x := by first | exact Or.inl rfl | exact Or.inr rfl) : TnOk T (.Name x pos :: es) (j :: is) := fun i =>
  pgs_cons (hF.pgn i hN hx) (h i) (by rfl)
theorem tg_tp (hF : Fd T k P w K mg base N sc) {es : List Expr} {is : List Nat} {x1} (h : TnOk T es is) (hn : ∀ env, (assignEach es env).length = is.length := by intro _; rfl) (hst : ∀ env, (assignEach es env).findIdx? (·.1) = none := by intro _; rfl) (hh : T.hot = false := by assumption) : TgOk T (.Tuple es x1 pos) (.tp is) := fun i => by
  have q := pg_tup (X := T.X i) (pos := pos) (k := x1) (hF.fc.calm hh i) (h i) (hn _) (hst _)
  rw [hF.fc.hK i] at q
  exact q

/-! ### assignments -/
theorem sx_asg (hF : Fd T k P w K mg base N sc) {tg : Expr} {g : Tg} (hg : TgOk T tg g) (h : EX T e Γ M (fun d M1 => ∃ Γ', tgD g d Γ = some Γ' ∧ D.nx Γ' M1) (D.ex Γ)) (hs : ∀ env, swapsWithSole [tg] e pos.line env = pure false := by intro _; rfl) (hw : ∀ env : Env, env.scope = sc → swappedStores [tg] e env = pure none := by first | (intro _ _; rfl) | (intro env he; obtain ⟨⟩ := env; cases he; rfl))
    (h1 : ∀ env, (assignEach [tg] env).map (·.2) = [assign tg env] := by intro _; rfl) : SX T (.Assign [tg] e pos) Γ M D :=
  SX.mk (fun i => ps_asg (pe_te i) (hg i) (hs _) (hw _ (hF.fc.hs i)) (h1 _)) (fun F H σ E ok sl q => h F H σ _ ok sl (fun F1 H1 M1 d v e1 ok1 r ⟨Γ', h2, z⟩ => tg_run h2 r ok1.ex (sl.mono e1) fun σ' sl' _ => q.nx F1 Γ' M1 σ' H1 e1 ok1 sl' z) (q.kx sl))
theorem sx_set (hF : Fd T k P w K mg base N sc) (j : Nat) {x : Str} {p : Pos} (h : EX T e Γ M (fun d M1 => D.nx (Γ.set j (some d)) M1) (D.ex Γ)) (hN : N[j]? = some x := by rfl) (hx : Loc sc x := by first | exact Or.inl rfl | exact Or.inr rfl)
    (hs : ∀ env, swapsWith e (some (.Name x p)) pos.line env = pure false := by intro _; rfl) : SX T (.Assign [.Name x p] e pos) Γ M D :=
  SX.mk (fun i => ps_set (i := j) (by rw [hF.fc.hN]; exact hF.fc.nd) (by rw [hF.fc.hN]; exact hN) (by rw [hF.fc.hs]; exact hx) (pe_te i) (hs _) (by have := hF.fn i x hx; rw [hF.fc.hs]; exact this))
    (fun F H σ E ok sl q => h F H σ _ ok sl (fun F1 H1 M1 d v e1 ok1 r z => q.nx F1 _ M1 _ H1 e1 ok1 ((sl.mono e1).set r j) z) (q.kx sl))
/-- a, b = x, y with plain local names -/
theorem sx_par (hF : Fd T k P w K mg base N sc) (i j : Nat) {x y : Str} {px py pt : Pos} {kt k2 : Nat} {pt2 : Pos} (h : AX T [a, b] Γ M (fun ds M1 => ∃ d u, ds = [d, u] ∧ D.nx ((Γ.set i (some d)).set j (some u)) M1) (D.ex Γ))
    (hw : ∀ env : Env, env.scope = sc → swappedStores [.Tuple [.Name x px, .Name y py] kt pt] (.Tuple [a, b] k2 pt2) env = pure (some [x, y]) := by intro env he; obtain ⟨⟩ := env; cases he; rfl)
    (hi : N[i]? = some x := by rfl) (hj : N[j]? = some y := by rfl) (hij : i ≠ j := by decide) (hx : sc.names.lookup x = some .local := by rfl) (hy : sc.names.lookup y = some .local := by rfl)
    (hs : ∀ env, swapsWithSole [.Tuple [.Name x px, .Name y py] kt pt] (.Tuple [a, b] k2 pt2) pos.line env = pure false := by intro _; rfl) (hh : T.hot = false := by assumption) :
    SX T (.Assign [.Tuple [.Name x px, .Name y py] kt pt] (.Tuple [a, b] k2 pt2) pos) Γ M D :=
  SX.mk (fun z => ps_par (i := i) (j := j) (hF.fc.calm hh z) (by rw [hF.fc.hN]; exact hF.fc.nd) (by rw [hF.fc.hN]; exact hi) (by rw [hF.fc.hN]; exact hj) hij (by rw [hF.fc.hs]; exact hx) (by rw [hF.fc.hs]; exact hy) (pa_ta z) (hw _ (hF.fc.hs z)) (hs _))
    (fun F H σ E ok sl q => h F H σ _ ok sl (fun F1 H1 M1 ds vs e1 ok1 r ⟨d, u, hd, z⟩ => by
      subst hd
      obtain ⟨v, vr, h1, h2, v2, vr2, h3, h4, h5⟩ := r
      have h5 : vr2 = [] := h5
      subst h5 h3
      exact ⟨v, v2, h1, q.nx F1 _ M1 _ H1 e1 ok1 (((sl.mono e1).set h2 i).set h4 j) z⟩) (q.kx sl))
/-- a, b, c = x, y, z with plain local names -/
theorem sx_par3 {c : Expr} (hF : Fd T k P w K mg base N sc) (i j l : Nat) {x y z : Str} {px py pz pt : Pos} {kt k2 : Nat} {pt2 : Pos} (h : AX T [a, b, c] Γ M (fun ds M1 => ∃ d u v, ds = [d, u, v] ∧ D.nx (((Γ.set i (some d)).set j (some u)).set l (some v)) M1) (D.ex Γ))
    (hw : ∀ env : Env, env.scope = sc → swappedStores [.Tuple [.Name x px, .Name y py, .Name z pz] kt pt] (.Tuple [a, b, c] k2 pt2) env = pure (some [x, y, z]) := by intro env he; obtain ⟨⟩ := env; cases he; rfl)
    (hi : N[i]? = some x := by rfl) (hj : N[j]? = some y := by rfl) (hl : N[l]? = some z := by rfl) (hij : i ≠ j := by decide) (hil : i ≠ l := by decide) (hjl : j ≠ l := by decide) (hx : sc.names.lookup x = some .local := by rfl) (hy : sc.names.lookup y = some .local := by rfl) (hz : sc.names.lookup z = some .local := by rfl)
    (hs : ∀ env, swapsWithSole [.Tuple [.Name x px, .Name y py, .Name z pz] kt pt] (.Tuple [a, b, c] k2 pt2) pos.line env = pure false := by intro _; rfl) (hh : T.hot = false := by assumption) :
    SX T (.Assign [.Tuple [.Name x px, .Name y py, .Name z pz] kt pt] (.Tuple [a, b, c] k2 pt2) pos) Γ M D :=
  SX.mk (fun q => ps_par3 (i := i) (j := j) (l := l) (hF.fc.calm hh q) (by rw [hF.fc.hN]; exact hF.fc.nd) (by rw [hF.fc.hN]; exact hi) (by rw [hF.fc.hN]; exact hj) (by rw [hF.fc.hN]; exact hl) hij hil hjl (by rw [hF.fc.hs]; exact hx) (by rw [hF.fc.hs]; exact hy) (by rw [hF.fc.hs]; exact hz) (pa_ta q) (hw _ (hF.fc.hs q)) (hs _))
    (fun F H σ E ok sl q => h F H σ _ ok sl (fun F1 H1 M1 ds vs e1 ok1 r ⟨d, u, v, hd, z⟩ => by
      subst hd
      obtain ⟨v1, vr, h1, h2, v2, vr2, h3, h4, v3, vr3, h5, h6, h7⟩ := r
      have h7 : vr3 = [] := h7
      subst h7 h5 h3
      exact ⟨v1, v2, v3, h1, q.nx F1 _ M1 _ H1 e1 ok1 ((((sl.mono e1).set h2 i).set h4 j).set h6 l) z⟩) (q.kx sl))
/-- o[i] = e, o a list or a dict that may change -/
def setP (M : Ms) (Θ : Ms → Prop) : Da → Da → Da → Prop
  | .ref p, .int i, v => ∃ ds j, M p = some (.lst ds) ∧ ixN ds.length i = some j ∧ Θ (um M p (.lst (ds.set j v)))
  | _, _, _ => False
theorem sx_sub {o i : Expr} {pos' : Pos} (h : EX T e Γ M (fun v M1 => EX T o Γ M1 (fun x M2 => EX T i Γ M2 (fun y M3 => setP M3 (fun M4 => D.nx Γ M4) x y v) (D.ex Γ)) (D.ex Γ)) (D.ex Γ))
    (hs' : ∀ env, swapsWithSole [.Subscript o i pos'] e pos.line env = pure false := by intro _; rfl) (hw : ∀ env, swappedStores [.Subscript o i pos'] e env = pure none := by intro _; rfl)
    (ha : ∀ env v, assign (.Subscript o i pos') env v = (do
      let ov ← holding [v] (eval o env)
      let iv ← holding [v, ov] (eval i env)
      standAt pos'
      holding [v, ov, iv] (setItem ov iv v)
      release [v, ov, iv] []) := by intro _ _; rfl)
    (h1 : ∀ env, (assignEach [.Subscript o i pos'] env).map (·.2) = [assign (.Subscript o i pos') env] := by intro _; rfl) : SX T (.Assign [.Subscript o i pos'] e pos) Γ M D := by
  refine SX.mk (fun z => ps_asg (pe_te z) (pg_sub (pe_te z) (pe_te z) set_list (ha _)) (hs' _) (hw _) (h1 _)) ?_
  intro F H σ E ok sl q
  refine h F H σ _ ok sl (fun F1 H1 M1 v vv e1 ok1 r1 z1 => ?_) (q.kx sl)
  refine z1 F1 H1 σ _ ok1 (sl.mono e1) (fun F2 H2 M2 x vx e2 ok2 r2 z2 => ?_) ((q.mono e1).kx (sl.mono e1))
  refine z2 F2 H2 σ _ ok2 (sl.mono (e1.trans e2)) (fun F3 H3 M3 y vy e3 ok3 r3 z3 => ?_) ((q.mono (e1.trans e2)).kx (sl.mono (e1.trans e2)))
  cases x <;> cases y <;> first | exact False.elim z3 | skip
  obtain ⟨ds, j, hm, hj, z⟩ := z3
  cases r2; cases r3
  obtain ⟨hF', vs, hp, rs⟩ := ok3.mu _ _ hm
  refine ⟨_, vs, _, j, rfl, rfl, hp, by rw [rs.length]; exact hj, ?_⟩
  refine q.nx F3 Γ _ σ _ (e1.trans (e2.trans e3)) (ok3.write (u := .lst (ds.set j v)) hm ⟨_, upd_same, Reps.set ((r1.mono e2).mono e3) j rs⟩) (sl.mono (e1.trans (e2.trans e3))) z

/-! ### what is walked -/
/-- the iterator J yields the data ds (as long as PM holds of the mutable things) -/
structure ItD (K : PySem.W.Frag) (PM : Ms → Prop) (J : It) (F : Hp) (ds : List Da) : Prop where
  go : ∀ i F' H M, Same F F' → Ok K F' H M → PM M → i < ds.length → J.go i H
  stop : ∀ i F' H M, Same F F' → Ok K F' H M → PM M → ds.length ≤ i → J.stop i H
  yld : ∀ i F' H M x H', Same F F' → Ok K F' H M → PM M → J.yld i H x H' → ∃ F2, Same F' F2 ∧ Ok K F2 H' M ∧ ∀ d, ds[i]? = some d → Rep K F2 d x
abbrev Thi := List Da → (Ms → Prop) → Ms → Prop
def GI (T : Fm ι) (wi : TI) (Γ : Gm) (M : Ms) (Θ : Thi) (Ψ : PX) : Prop := ∀ F H σ R, Ok T.K F H M → Sl T.K F σ Γ →
  (∀ F' H' M' J ds PM, Same F F' → Ok T.K F' H' M' → ItD T.K PM J F' ds → Θ ds PM M' → R J H') → KX T.K F Ψ (fun c d H => T.w c d σ H) → wi σ H R
def tiOf (T : Fm ι) (tg iter : Expr) : TI := fun σ H R => ∀ i pins s, Inv (T.X i) pins σ H s → wpAny (model (T.X i).prog (T.X i).w) (T.X i).A (eval iter (T.X i).env) (fun v s1 => wpAny (model (T.X i).prog (T.X i).w) (T.X i).A (pyIter v) (PIE (T.X i) pins σ tg R) (T.X i).xe s1) (T.X i).xe s
variable {tg iter : Expr} {Θ : Thi} {Ψ : PX}
theorem pi_ti (i : ι) : PI (T.X i) tg iter (tiOf T tg iter) := ⟨fun pins s _ _ _ I h => h i pins s I⟩
def IX (T : Fm ι) (tg iter : Expr) (Γ : Gm) (M : Ms) (Θ : Thi) (Ψ : PX) : Prop := GI T (tiOf T tg iter) Γ M Θ Ψ
theorem IX.mk {wi : TI} (h : ∀ i, PI (T.X i) tg iter wi) (g : GI T wi Γ M Θ Ψ) : IX T tg iter Γ M Θ Ψ := fun F H σ R ok sl q x i pins s I => (h i).run pins s σ H R I (g F H σ R ok sl q x)
/-- a list or a tuple -/
def iAny (K : PySem.W.Frag) (tl : TE) : TI := fun σ H R => tl σ H fun x H1 => ∃ a, x = .ref a ∧ (((∃ xs, SqL K H1 a xs) ∧ R (Itl K a) H1) ∨ ((∃ xs, SqT K H1 a xs) ∧ R (Itt K a) H1))
theorem pi_any {X : Cx} {l : Expr} {tl : TE} (hl : PE X l tl) : PI X tg l (iAny X.K tl) := by
  refine ⟨fun pins s σ H R I h => ?_⟩
  refine thn (hl.run pins s σ H _ I h) fun v s1 ⟨x, H1, I1, r1, q1⟩ => ?_
  obtain ⟨a, e, q⟩ := q1
  subst e
  cases r1
  rcases q with ⟨⟨xs, hq⟩, q⟩ | ⟨⟨xs, hq⟩, q⟩
  · obtain ⟨its, rv, p, hz⟩ := I1.list hq
    refine wpAny_pyIter_list p.isList ?_
    refine ⟨s1.heap.objs.size, [s1.heap.objs.size], _, _, H1, rfl, I1.kept (t' := s1.toks) fun b o e => Heap.get?_push_of_some _ e, turn_list a _, ⟨_, Heap.get?_push_size _ rfl, rfl, rfl⟩, fun b hb => ?_, q⟩
    have e : b = s1.heap.objs.size := by simpa using hb
    subst e
    exact I1.fpOk (Nat.le_refl _) (I1.hok.fresh (Nat.le_refl _))
  · obtain ⟨its, rv, p, hz⟩ := I1.tuple hq
    refine wpAny_pyIter_tuple (show s1.heap.IsTuple a its.toArray from p) ?_
    refine ⟨s1.heap.objs.size, [s1.heap.objs.size], _, _, H1, rfl, I1.kept (t' := s1.toks) fun b o e => Heap.get?_push_of_some _ e, turn_tuple a _, ⟨_, Heap.get?_push_size _ rfl, rfl, rfl⟩, fun b hb => ?_, q⟩
    have e : b = s1.heap.objs.size := by simpa using hb
    subst e
    exact I1.fpOk (Nat.le_refl _) (I1.hok.fresh (Nat.le_refl _))
def seqD : Da → Option (List Da)
  | .lst ds => some ds
  | .rol ds => some ds
  | .tup ds => some ds
  | _ => none
theorem reps_ix {F : Hp} {ds : List Da} {vs : List V} {i : Nat} {x : V} (r : Reps K F ds vs) (h : vs[i]? = some x) : ∀ d, ds[i]? = some d → Rep K F d x := fun d hd => by
  obtain ⟨v, hv, rv⟩ := r.get hd
  rw [h] at hv; cases hv; exact rv
theorem itd_l {F : Hp} {a : Addr} {ds : List Da} {vs : List V} (h : ∀ F' H M, Same F F' → Ok K F' H M → SqL K H a vs) (r : Reps K F ds vs) : ItD K (fun _ => True) (Itl K a) F ds where
  go := fun i F' H M e ok _ hi => ⟨vs, vs[i]'(by rw [r.length]; exact hi), h F' H M e ok, by simp [r.length, hi]⟩
  stop := fun i F' H M e ok _ hi => ⟨vs, h F' H M e ok, by rw [r.length]; exact hi⟩
  yld := fun i F' H M x H' e ok _ y => by
    obtain ⟨e1, y⟩ := y
    subst e1
    exact ⟨F', Same.refl _, ok, reps_ix (r.mono e) (y vs (h F' _ M e ok))⟩
theorem itd_t {F : Hp} {a : Addr} {ds : List Da} {vs : List V} (h : ∀ F' H M, Same F F' → Ok K F' H M → SqT K H a vs) (r : Reps K F ds vs) : ItD K (fun _ => True) (Itt K a) F ds where
  go := fun i F' H M e ok _ hi => ⟨vs, vs[i]'(by rw [r.length]; exact hi), h F' H M e ok, by simp [r.length, hi]⟩
  stop := fun i F' H M e ok _ hi => ⟨vs, h F' H M e ok, by rw [r.length]; exact hi⟩
  yld := fun i F' H M x H' e ok _ y => by
    obtain ⟨e1, y⟩ := y
    subst e1
    exact ⟨F', Same.refl _, ok, reps_ix (r.mono e) (y vs (h F' _ M e ok))⟩
theorem ix_seqD (hF : Fc T k P w K mg base N sc) (h : EX T iter Γ M (fun d M1 => ∃ ds, seqD d = some ds ∧ Θ ds (fun _ => True) M1) Ψ) : IX T tg iter Γ M Θ Ψ := by
  refine IX.mk (wi := iAny T.K (teOf T iter)) (fun i => by rw [← hF.hK i]; exact pi_any (pe_te i)) ?_
  intro F H σ R ok sl q x
  refine h F H σ _ ok sl (fun F1 H1 M1 d v e1 ok1 r z => ?_) x
  obtain ⟨ds, hd, z⟩ := z
  cases d <;> first | exact nomatch (show (none : Option (List Da)) = some ds from hd) | skip
  · cases hd
    obtain ⟨a, vs, rfl, h1, r⟩ := r
    exact ⟨a, rfl, .inr ⟨⟨vs, same_t ok1.ex h1⟩, q F1 H1 M1 _ _ _ e1 ok1 (itd_t (fun F' H M e ok => same_t ok.ex (same_t e h1)) r) z⟩⟩
  · cases hd
    obtain ⟨a, vs, rfl, h1, r⟩ := r
    exact ⟨a, rfl, .inl ⟨⟨vs, .inl (.inl (ok1.ex _ _ h1))⟩, q F1 H1 M1 _ _ _ e1 ok1 (itd_l (fun F' H M e ok => .inl (.inl (ok.ex _ _ (e _ _ h1)))) r) z⟩⟩
  · cases hd
    obtain ⟨a, vs, rfl, h1, r⟩ := r
    exact ⟨a, rfl, .inl ⟨⟨vs, ok1.ex.seq h1⟩, q F1 H1 M1 _ _ _ e1 ok1 (itd_l (fun F' H M e ok => ok.ex.seq (e.seq h1)) r) z⟩⟩
/-- a list that may change, but not while it is walked -/
theorem ix_mut (hF : Fc T k P w K mg base N sc) (h : EX T iter Γ M (fun d M1 => ∃ p ds, d = .ref p ∧ M1 p = some (.lst ds) ∧ Θ ds (fun M => M p = some (.lst ds)) M1) Ψ) : IX T tg iter Γ M Θ Ψ := by
  refine IX.mk (wi := iAny T.K (teOf T iter)) (fun i => by rw [← hF.hK i]; exact pi_any (pe_te i)) ?_
  intro F H σ R ok sl q x
  refine h F H σ _ ok sl (fun F1 H1 M1 d v e1 ok1 r z => ?_) x
  obtain ⟨p, ds, hd, hm, z⟩ := z
  subst hd
  cases r
  obtain ⟨_, vs0, hp0, r0⟩ := ok1.mu _ _ hm
  refine ⟨p, rfl, .inl ⟨⟨vs0, .inl (.inl hp0)⟩, q F1 H1 M1 _ _ _ e1 ok1 ⟨fun i F' H M e ok pm hi => ?_, fun i F' H M e ok pm hi => ?_, fun i F' H M x H' e ok pm y => ?_⟩ z⟩⟩
  · obtain ⟨_, vs, hp, r⟩ := ok.mu _ _ pm
    exact ⟨vs, vs[i]'(by rw [r.length]; exact hi), .inl (.inl hp), by simp [r.length, hi]⟩
  · obtain ⟨_, vs, hp, r⟩ := ok.mu _ _ pm
    exact ⟨vs, .inl (.inl hp), by rw [r.length]; exact hi⟩
  · obtain ⟨_, vs, hp, r⟩ := ok.mu _ _ pm
    obtain ⟨e1, y⟩ := y
    subst e1
    exact ⟨F', Same.refl _, ok, reps_ix r (y vs (.inl (.inl hp)))⟩
/-- the ints lo, lo + 1, .. (n of them) -/
def rngD (lo : Int) (n : Nat) : List Da := (List.range n).map fun (i : Nat) => .int (lo + (i : Int))
theorem rngD_len {lo : Int} {n : Nat} : (rngD lo n).length = n := by unfold rngD; simp
theorem rngD_get {lo : Int} {n i : Nat} {d : Da} (h : (rngD lo n)[i]? = some d) : i < n ∧ d = .int (lo + (i : Int)) := by
  have hi : i < n := by
    have := (List.getElem?_eq_some_iff.mp h).1
    rwa [rngD_len] at this
  refine ⟨hi, ?_⟩
  unfold rngD at h
  rw [List.getElem?_map, List.getElem?_range hi] at h
  exact (Option.some.inj h).symm
theorem itd_r {F : Hp} {lo : Int} {n : Nat} : ItD K (fun _ => True) (Itr lo n) F (rngD lo n) where
  go := fun i F' H M e ok _ hi => by rw [rngD_len] at hi; exact hi
  stop := fun i F' H M e ok _ hi => by rw [rngD_len] at hi; exact hi
  yld := fun i F' H M x H' e ok _ y => by
    obtain ⟨e1, y⟩ := y
    subst e1
    exact ⟨F', Same.refl _, ok, fun d hd => by rw [(rngD_get hd).2]; exact y⟩
theorem ix_rng1 (hF : Fc T k P w K mg base N sc) {p : Pos} (hm : mg "range" = none) (h : AX T [a] Γ M (fun xs M1 => ∃ j : Int, xs = [.int j] ∧ -(2 ^ 62) ≤ j ∧ j < 2 ^ 62 ∧ Θ (rngD 0 j.toNat) (fun _ => True) M1) Ψ) (hg : sc.names.lookup ("range" : Str) = some .globalImplicit := by rfl)
    (hs : ∀ env, starEach [a] env = [(false, eval a env)] := by intro _; rfl) : IX T tg (.Call (.Name "range" p) [a] [] pos) Γ M Θ Ψ := by
  refine IX.mk (fun i => pi_range1 (by show (T.X i).env.scope.names.lookup _ = _; rw [hF.hs]; exact hg) (by rw [hF.hmg]; exact hm) (pa_ta i) (hs _)) ?_
  intro F H σ R ok sl q x
  refine h F H σ _ ok sl (fun F1 H1 M1 ds vs e1 ok1 r z => ?_) x
  obtain ⟨j, hd, h1, h2, z⟩ := z
  subst hd
  obtain ⟨v, vr, e, h3, h4⟩ := r
  have h4 : vr = [] := h4
  subst h4 h3
  exact ⟨j, e, h1, h2, q F1 H1 M1 _ _ _ e1 ok1 itd_r z⟩
theorem ix_rng2 (hF : Fc T k P w K mg base N sc) {p : Pos} (hm : mg "range" = none) (h : AX T [a, b] Γ M (fun xs M1 => ∃ i j : Int, xs = [.int i, .int j] ∧ (-(2 ^ 62) ≤ i ∧ i < 2 ^ 62 ∧ -(2 ^ 62) ≤ j ∧ j < 2 ^ 62) ∧ Θ (rngD i (j - i).toNat) (fun _ => True) M1) Ψ) (hg : sc.names.lookup ("range" : Str) = some .globalImplicit := by rfl)
    (hs : ∀ env, starEach [a, b] env = [(false, eval a env), (false, eval b env)] := by intro _; rfl) (hs2 : ∀ env, starEach [b] env = [(false, eval b env)] := by intro _; rfl) : IX T tg (.Call (.Name "range" p) [a, b] [] pos) Γ M Θ Ψ := by
  refine IX.mk (fun i => pi_range2 (by show (T.X i).env.scope.names.lookup _ = _; rw [hF.hs]; exact hg) (by rw [hF.hmg]; exact hm) (pa_ta i) (hs _) (hs2 _)) ?_
  intro F H σ R ok sl q x
  refine h F H σ _ ok sl (fun F1 H1 M1 ds vs e1 ok1 r z => ?_) x
  obtain ⟨i, j, hd, h1, z⟩ := z
  subst hd
  obtain ⟨v, vr, e, h3, v', vr', e', h4, h5⟩ := r
  have h5 : vr' = [] := h5
  subst h5 h4 h3 e'
  exact ⟨i, j, e, h1, q F1 H1 M1 _ _ _ e1 ok1 itd_r z⟩

/-! ### for, while -/
theorem sx_for (hF : Fd T k P w K mg base N sc) {body : List Stmt} {g : Tg} (hg : TgOk T tg g)
    (h : IX T tg iter Γ M (fun ds PM M1 => ∃ I : Nat → Gm → Ms → Prop, I 0 Γ M1 ∧ (∀ n Γ M, I n Γ M → PM M) ∧
      (∀ n d Γ M, ds[n]? = some d → I n Γ M → ∃ Γ', tgD g d Γ = some Γ' ∧ SSX T body Γ' M { D with nx := I (n + 1), ct := I (n + 1), bk := D.nx }) ∧ ∀ Γ M, I ds.length Γ M → D.nx Γ M) (D.ex Γ))
    (hs : ∀ env x, foldedSetIterable iter env x = pure x := by intro _ _; rfl) (hh : T.hot = false := by assumption) : SX T (.For tg iter body [] pos) Γ M D := by
  refine SX.mk (fun i => ps_for (hF.own i) (hF.fc.calm hh i) (pi_ti i) (hg i) (pss_tss i) (hs _)) ?_
  intro F H σ E ok sl q
  refine h F H σ _ ok sl (fun F1 H1 M1 J ds PM e1 ok1 it z => ?_) (q.kx sl)
  obtain ⟨I, i0, pm, step, fin⟩ := z
  refine ⟨fun i m σ H => m = ds.length - i ∧ i ≤ ds.length ∧ ∃ F' Γ' M', Same F1 F' ∧ Ok T.K F' H M' ∧ Sl T.K F' σ Γ' ∧ I i Γ' M', ⟨_, rfl, Nat.zero_le _, F1, Γ, M1, Same.refl _, ok1, sl.mono e1, i0⟩, ?_⟩
  rintro i m σ' H' ⟨rfl, hi, F', Γ', M', e2, ok2, sl2, hI⟩
  by_cases hlt : i < ds.length
  · refine .inr ⟨it.go i F' H' M' e2 ok2 (pm _ _ _ hI) hlt, fun σ3 H3 => i + 1 ≤ ds.length ∧ ∃ F' Γ' M', Same F1 F' ∧ Ok T.K F' H3 M' ∧ Sl T.K F' σ3 Γ' ∧ I (i + 1) Γ' M', fun σ3 H3 n3 => ⟨ds.length - (i + 1), by omega, rfl, n3⟩, fun x H3 y => ?_⟩
    obtain ⟨F2, e3, ok3, r⟩ := it.yld i F' H' M' x H3 e2 ok2 (pm _ _ _ hI) y
    have hd : ds[i]? = some ds[i] := by simp [hlt]
    obtain ⟨Γ2, hg2, hb⟩ := step i _ Γ' M' hd hI
    refine tg_run hg2 (r _ hd) ok3.ex (sl2.mono e3) fun σ4 sl4 _ => ?_
    have qm : KD T F2 D E := q.mono (e1.trans (e2.trans e3))
    refine hb F2 H3 σ4 _ ok3 sl4 ⟨?_, qm.rt, qm.nx, ?_, qm.ex⟩
    · intro F5 Γ5 M5 σ5 H5 e5 ok5 sl5 z5
      exact ⟨hlt, F5, Γ5, M5, e2.trans (e3.trans e5), ok5, sl5, z5⟩
    · intro F5 Γ5 M5 σ5 H5 e5 ok5 sl5 z5
      exact ⟨hlt, F5, Γ5, M5, e2.trans (e3.trans e5), ok5, sl5, z5⟩
  · have e : i = ds.length := by omega
    subst e
    exact .inl ⟨it.stop _ F' H' M' e2 ok2 (pm _ _ _ hI) (Nat.le_refl _), q.nx F' Γ' M' σ' H' (e1.trans e2) ok2 sl2 (fin _ _ hI)⟩
theorem sx_while (hF : Fd T k P w K mg base N sc) {body : List Stmt} (W : Nat → Gm → Ms → Prop) (m0 : Nat) (w0 : W m0 Γ M)
    (h : ∀ m Γ M, W m Γ M → TX T c Γ M (fun z M1 => (z = true → SSX T body Γ M1 { D with nx := fun Γ' M' => ∃ m', m' < m ∧ W m' Γ' M', ct := fun Γ' M' => ∃ m', m' < m ∧ W m' Γ' M', bk := D.nx }) ∧ (z = false → D.nx Γ M1)) (D.ex Γ)) :
    SX T (.While c body [] pos) Γ M D := by
  refine SX.mk (fun i => ps_while (hF.own i) (pt_tt i) (pss_tss i)) ?_
  intro F H σ E ok sl q
  refine ⟨fun m σ H => ∃ F' Γ' M', Same F F' ∧ Ok T.K F' H M' ∧ Sl T.K F' σ Γ' ∧ W m Γ' M', ⟨m0, F, Γ, M, Same.refl _, ok, sl, w0⟩, ?_⟩
  rintro m σ1 H1 ⟨F1, Γ1, M1, e1, ok1, sl1, hw⟩
  refine h m Γ1 M1 hw F1 H1 σ1 _ ok1 sl1 (fun F2 H2 M2 z e2 ok2 zz => ?_) ((q.mono e1).kx sl1)
  have qm : KD T F2 D E := q.mono (e1.trans e2)
  cases z with
  | true =>
    rw [if_pos rfl]
    refine ⟨fun σ' H' => ∃ m', m' < m ∧ ∃ F' Γ' M', Same F F' ∧ Ok T.K F' H' M' ∧ Sl T.K F' σ' Γ' ∧ W m' Γ' M', fun σ' H' ⟨m', h1, h2⟩ => ⟨m', h1, h2⟩, ?_⟩
    refine zz.1 rfl F2 H2 σ1 _ ok2 (sl1.mono e2) ⟨?_, qm.rt, qm.nx, ?_, qm.ex⟩
    · rintro F5 Γ5 M5 σ5 H5 e5 ok5 sl5 ⟨m', h1, h2⟩
      exact ⟨m', h1, F5, Γ5, M5, e1.trans (e2.trans e5), ok5, sl5, h2⟩
    · rintro F5 Γ5 M5 σ5 H5 e5 ok5 sl5 ⟨m', h1, h2⟩
      exact ⟨m', h1, F5, Γ5, M5, e1.trans (e2.trans e5), ok5, sl5, h2⟩
  | false =>
    rw [if_neg Bool.false_ne_true]
    exact qm.nx F2 Γ1 M2 σ1 H2 (Same.refl _) ok2 (sl1.mono e2) (zz.2 rfl)

/-! ### comprehensions -/
abbrev Bk (ι : Type) := ι × Shared × Hp × Addr × List (Str × Addr) × List Addr
def Fm.blk (T : Fm ι) (scope : Scope) : Fm (Bk ι) := ⟨fun p => (T.X p.1).blk p.2.1 p.2.2.1 scope (compEnvC scope p.2.2.2.2.1 p.2.2.2.1 (T.X p.1).env) p.2.2.2.2.2, T.K, fun _ _ _ _ => False, T.hot⟩
theorem Fc.blk (hF : Fc T k P w K mg base N sc) (scope : Scope) : Fc (T.blk scope) k P w K mg base N (relS scope sc) where
  hT := hF.hT
  hP := fun p => hF.hP p.1
  hw := fun p => hF.hw p.1
  hK := fun p => hF.hK p.1
  hmg := fun p => hF.hmg p.1
  hb := fun p => hF.hb p.1
  hN := fun p => hF.hN p.1
  nd := hF.nd
  hs := fun p => by
    show relS scope (T.X p.1).env.scope = _
    rw [hF.hs]
  calm := fun hh p => hF.calm hh p.1
  hr := fun p => hF.hr p.1
  tk := fun p => takes0
/-- a block's own target -/
theorem relS_local {scope sc : Scope} {x : Str} (h : scope.names.lookup x = some .local) : (relS scope sc).names.lookup x = some .local := by
  have : ∀ l : List (Str × NameKind), l.lookup x = some .local → (l.map fun (n, k) => if (k == .free && sc.kind == .function && sc.names.lookup n == some .cell) then (n, NameKind.cell) else (n, k)).lookup x = some .local := by
    intro l
    induction l with
    | nil => intro h; cases h
    | cons p r ih =>
      obtain ⟨n, kd⟩ := p
      intro h
      rw [List.lookup_cons] at h
      show List.lookup x ((if (kd == .free && sc.kind == .function && sc.names.lookup n == some .cell) then (n, NameKind.cell) else (n, kd)) :: _) = _
      cases hx : x == n with
      | true =>
        rw [hx] at h
        have h : some kd = some .local := h
        cases h
        rw [if_neg (by rw [show (NameKind.local == NameKind.free) = false from rfl]; simp), List.lookup_cons, hx]
      | false =>
        rw [hx] at h
        by_cases hb : (kd == .free && sc.kind == .function && sc.names.lookup n == some .cell) = true
        · rw [if_pos hb, List.lookup_cons, hx]; exact ih h
        · rw [if_neg hb, List.lookup_cons, hx]; exact ih h
  exact this _ h
theorem relS_cell {scope sc : Scope} {x : Str} (h : scope.names.lookup x = some .cell) : (relS scope sc).names.lookup x = some .cell := by
  have : ∀ l : List (Str × NameKind), l.lookup x = some .cell → (l.map fun (n, k) => if (k == .free && sc.kind == .function && sc.names.lookup n == some .cell) then (n, NameKind.cell) else (n, k)).lookup x = some .cell := by
    intro l
    induction l with
    | nil => intro h; cases h
    | cons p r ih =>
      obtain ⟨n, kd⟩ := p
      intro h
      rw [List.lookup_cons] at h
      show List.lookup x ((if (kd == .free && sc.kind == .function && sc.names.lookup n == some .cell) then (n, NameKind.cell) else (n, kd)) :: _) = _
      cases hx : x == n with
      | true =>
        rw [hx] at h
        have h : some kd = some .cell := h
        cases h
        rw [if_neg (by rw [show (NameKind.cell == NameKind.free) = false from rfl]; simp), List.lookup_cons, hx]
      | false =>
        rw [hx] at h
        by_cases hb : (kd == .free && sc.kind == .function && sc.names.lookup n == some .cell) = true
        · rw [if_pos hb, List.lookup_cons, hx]; exact ih h
        · rw [if_neg hb, List.lookup_cons, hx]; exact ih h
  exact this _ h
theorem Fc.pgb (hF : Fc T k P w K mg base N sc) {scope : Scope} (p : Bk ι) {j : Nat} {x : Str} (hN : N[j]? = some x) (hx : Loc scope x) : PG ((T.blk scope).X p) (.Name x pos) (gName j) := by
  refine pg_name (by rw [(hF.blk scope).hN]; exact hF.nd) (by rw [(hF.blk scope).hN]; exact hN) ?_ ?_
  · rw [(hF.blk scope).hs]
    exact hx.imp relS_local relS_cell
  · rcases hx with h | h
    · refine .inr ?_
      rw [(hF.blk scope).hs]
      exact relS_local h
    · refine .inl ?_
      show (scope.names.lookup x == some .cell) = true
      rw [h]; rfl
theorem tb_nm (hF : Fc T k P w K mg base N sc) {scope : Scope} (j : Nat) {x : Str} (hN : N[j]? = some x := by rfl) (hx : Loc scope x := by first | exact Or.inl rfl | exact Or.inr rfl) : TgOk (T.blk scope) (.Name x pos) (.nm j) := fun p => hF.pgb p hN hx
theorem tnb_nil {scope : Scope} : TnOk (T.blk scope) [] [] := fun i => pgs_nil
theorem tnb_cons (hF : Fc T k P w K mg base N sc) {scope : Scope} (j : Nat) {x : Str} {es : List Expr} {is : List Nat} (h : TnOk (T.blk scope) es is) (hN : N[j]? = some x := by rfl) (hx : Loc scope x := by first | exact Or.inl rfl | exact Or.inr rfl) : TnOk (T.blk scope) (.Name x pos :: es) (j :: is) := fun p =>
  pgs_cons (hF.pgb p hN hx) (h p) (by rfl)
theorem tb_tp (hF : Fc T k P w K mg base N sc) {scope : Scope} {es : List Expr} {is : List Nat} {x1} (h : TnOk (T.blk scope) es is) (hn : ∀ env, (assignEach es env).length = is.length := by intro _; rfl) (hst : ∀ env, (assignEach es env).findIdx? (·.1) = none := by intro _; rfl) (hh : T.hot = false := by assumption) : TgOk (T.blk scope) (.Tuple es x1 pos) (.tp is) := fun i => by
  have q := pg_tup (X := (T.blk scope).X i) (pos := pos) (k := x1) ((hF.blk scope).calm hh i) (h i) (hn _) (hst _)
  rw [(hF.blk scope).hK i] at q
  exact q
/-- one test, or none -/
inductive IfOk (T : Fm ι) : List Expr → (Gm → Ms → (Bool → Ms → Prop) → Prop) → Prop where
  | none : IfOk T [] (fun _ M Φ => Φ true M)
  | one (c : Expr) : IfOk T [c] (fun Γ M Φ => TX T c Γ M Φ fun _ _ _ _ => False)
/-- what a comprehension asks: I by the turn, what is made so far, the mutable things -/
def lcAsk (T : Fm ι) (scope : Scope) (own : List Nat) (g : Tg) (q : Gm → Ms → (Bool → Ms → Prop) → Prop) (elt : Expr) (Γ : Gm) (Φ : PD) : Thi := fun ds PM M1 =>
  ∃ I : Nat → List Da → Ms → Prop, I 0 [] M1 ∧ (∀ n acc M p o, I n acc M → M p = none → PM (um M p o)) ∧
    (∀ n d acc M p, ds[n]? = some d → I n acc M → M p = none → ∃ Γ', tgD g d (wipeG Γ own) = some Γ' ∧ q Γ' (um M p (.lst acc)) fun c M2 =>
      (c = true → EX (T.blk scope) elt Γ' M2 (fun y M3 => acc.length < sizeLine ∧ ∃ M4, M3 = um M4 p (.lst acc) ∧ M4 p = none ∧ I (n + 1) (acc ++ [y]) M4) fun _ _ _ _ => False) ∧
      (c = false → ∃ M4, M2 = um M4 p (.lst acc) ∧ M4 p = none ∧ I (n + 1) acc M4)) ∧
    ∀ acc M, I ds.length acc M → Φ (.lst acc) M
theorem ge_lc {elt : Expr} {scope : Scope} {own : List Nat} {g : Tg} {q : Gm → Ms → (Bool → Ms → Prop) → Prop} {tt : TT} {wi : TI} {Φ : PD} (hq : ∀ Γ M Φ, q Γ M Φ → GT (T.blk scope) tt Γ M Φ fun _ _ _ _ => False) (hown : ∀ i ∈ g.ix, i ∈ own)
    (h : GI T wi Γ M (lcAsk T scope own g q elt Γ Φ) Ψ) : GE T (tLc wi (tgR T.K g) tt (teOf (T.blk scope) elt) own) Γ M Φ Ψ := by
  intro F H σ Q ok sl hk x
  refine h F H σ _ ok sl (fun F1 H1 M1 J ds PM e1 ok1 it z p hp => ?_) x
  obtain ⟨I, i0, pm, step, fin⟩ := z
  have okp : Ok T.K F1 (upd H1 p (.lst [])) (um M1 p (.lst [])) := ok1.newM (u := .lst []) hp ⟨[], upd_same, rfl⟩
  refine ⟨fun i m H => m = ds.length - i ∧ i ≤ ds.length ∧ ∃ F' M' acc, Same F1 F' ∧ Ok T.K F' H (um M' p (.lst acc)) ∧ M' p = none ∧ I i acc M', ⟨_, rfl, Nat.zero_le _, F1, M1, [], Same.refl _, okp, ok1.fresh hp, i0⟩, ?_⟩
  rintro i m H' ⟨rfl, hi, F', M', acc, e2, ok2, hn, hI⟩
  have slw : Sl T.K F' (L2.wipe σ own) (wipeG Γ own) := (sl.mono (e1.trans e2)).wipe own
  by_cases hlt : i < ds.length
  · refine .inr ⟨it.go i F' H' _ e2 ok2 (pm _ _ _ _ _ hI hn) hlt, fun H3 => i + 1 ≤ ds.length ∧ ∃ F' M' acc, Same F1 F' ∧ Ok T.K F' H3 (um M' p (.lst acc)) ∧ M' p = none ∧ I (i + 1) acc M', fun H3 n3 => ⟨ds.length - (i + 1), by omega, rfl, n3⟩, fun y H3 hy => ?_⟩
    obtain ⟨F2, e3, ok3, r⟩ := it.yld i F' H' _ y H3 e2 ok2 (pm _ _ _ _ _ hI hn) hy
    have hd : ds[i]? = some ds[i] := by simp [hlt]
    obtain ⟨Γ2, hg2, hb⟩ := step i _ acc M' p hd hI hn
    refine tg_run hg2 (r _ hd) ok3.ex (slw.mono e3) fun σ4 sl4 hw => ⟨?_, ?_⟩
    · rw [hw own hown]
      apply List.ext_getElem?
      intro j
      rw [wipe_get, wipe_get, wipe_length]
      by_cases hj : j ∈ own ∧ j < σ.length
      · rw [if_pos hj, if_pos hj]
      · rw [if_neg hj]
    · refine hq _ _ _ hb F2 H3 σ4 _ ok3 sl4 (fun F5 H5 M5 c e5 ok5 zz => ?_) KX.none
      cases c with
      | true =>
        rw [if_pos rfl]
        refine zz.1 rfl F5 H5 σ4 _ ok5 (sl4.mono e5) (fun F6 H6 M6 y v e6 ok6 ry hh => ?_) KX.none
        obtain ⟨hl, M7, e7, n7, I7⟩ := hh
        subst e7
        obtain ⟨hF6, vs, hp6, rs⟩ := ok6.mu p _ um_same
        refine ⟨vs, hp6, by rw [rs.length]; exact hl, hlt, F6, M7, acc ++ [y], e2.trans (e3.trans (e5.trans e6)), ?_, n7, I7⟩
        have q8 := ok6.write (u := .lst (acc ++ [y])) um_same ⟨_, upd_same, rs.append (Reps.one ry)⟩
        rw [um_um] at q8
        exact q8
      | false =>
        rw [if_neg Bool.false_ne_true]
        obtain ⟨M7, e7, n7, I7⟩ := zz.2 rfl
        subst e7
        exact ⟨hlt, F5, M7, acc, e2.trans (e3.trans e5), ok5, n7, I7⟩
  · have e : i = ds.length := by omega
    subst e
    refine .inl ⟨it.stop _ F' H' _ e2 ok2 (pm _ _ _ _ _ hI hn) (Nat.le_refl _), ?_⟩
    obtain ⟨F3, e3, ok3, r3⟩ := ok2.freezeL um_same
    rw [dm_um hn] at ok3
    exact hk F3 H' M' _ _ (e1.trans (e2.trans e3)) ok3 r3 (fin _ _ hI)
theorem ifs_run {ifs : List Expr} {q : Gm → Ms → (Bool → Ms → Prop) → Prop} (h : IfOk T ifs q) : ∃ tt : TT, (∀ i, PTs (T.X i) ifs tt) ∧ ∀ Γ M Φ, q Γ M Φ → GT T tt Γ M Φ fun _ _ _ _ => False := by
  cases h with
  | none => exact ⟨tYes, fun i => pts_nil, fun Γ M Φ z F H σ Q ok sl k x => k F H M true (Same.refl _) ok z⟩
  | one c => exact ⟨ttOf T c, fun i => pts_one (pt_tt i), fun Γ M Φ z => z⟩
/-- [elt for tg in iter if ..], own: the slots of the block's own names -/
theorem ex_lc (hF : Fc T k P w K mg base N sc) {elt : Expr} {ifs : List Expr} {scope : Scope} (own : List (Str × Nat)) {g : Tg} {q : Gm → Ms → (Bool → Ms → Prop) → Prop} {Φ : PD} (hg : TgOk (T.blk scope) tg g) (hq : IfOk (T.blk scope) ifs q)
    (h : IX T tg iter Γ M (lcAsk T scope (own.map (·.2)) g q elt Γ Φ) Ψ) (ok : blkC N sc scope own = true) (hown : ∀ i ∈ g.ix, i ∈ own.map (·.2)) (hs : ∀ env x, foldedSetIterable iter env x = pure x := by intro _ _; rfl) (hh : T.hot = false := by assumption) :
    EX T (.ListComp elt [⟨tg, iter, ifs, 0⟩] scope pos) Γ M Φ Ψ := by
  obtain ⟨tt, h1, h2⟩ := ifs_run hq
  refine EX.mk (fun i => pe_lc (own := own) (hF.calm hh i) (by rw [hF.hN]; exact hF.nd) (pi_ti i) (by rw [hF.hN, hF.hs]; exact blkOk_by ok) (fun s H C cl fp => hg (i, s, H, C, cl, fp)) (fun s H C cl fp => h1 (i, s, H, C, cl, fp)) (fun s H C cl fp => pe_te (T := T.blk scope) (i, s, H, C, cl, fp)) (hs _)) ?_
  exact ge_lc h2 hown h
/-- y = [elt for tg in iter if ..] on one line, y a local -/
theorem sx_setLc (hF : Fd T k P w K mg base N sc) (j : Nat) {y : Str} {py spos : Pos} {elt : Expr} {ifs : List Expr} {scope : Scope} (own : List (Str × Nat)) {g : Tg} {q : Gm → Ms → (Bool → Ms → Prop) → Prop} (hg : TgOk (T.blk scope) tg g) (hq : IfOk (T.blk scope) ifs q)
    (h : IX T tg iter Γ M (lcAsk T scope (own.map (·.2)) g q elt Γ (fun d M1 => D.nx (Γ.set j (some d)) M1)) (D.ex Γ)) (ok : blkC N sc scope own = true) (hown : ∀ i ∈ g.ix, i ∈ own.map (·.2))
    (hsw : ∀ env : Env, env.scope = sc → swapsWith (.ListComp elt [⟨tg, iter, ifs, 0⟩] scope pos) (some (.Name y py)) spos.line env = pure true)
    (hN : N[j]? = some y := by rfl) (hy : sc.names.lookup y = some .local := by rfl) (hs : ∀ env x, foldedSetIterable iter env x = pure x := by intro _ _; rfl) (hh : T.hot = false := by assumption) :
    SX T (.Assign [.Name y py] (.ListComp elt [⟨tg, iter, ifs, 0⟩] scope pos) spos) Γ M D := by
  obtain ⟨tt, h1, h2⟩ := ifs_run hq
  refine SX.mk (fun i => ps_setLc (own := own) (hF.fc.calm hh i) (by rw [hF.fc.hN]; exact hF.fc.nd) (by rw [hF.fc.hN]; exact hN) (by rw [hF.fc.hs]; exact hy) (hsw _ (hF.fc.hs i)) (pi_ti i) (by rw [hF.fc.hN, hF.fc.hs]; exact blkOk_by ok) (fun s H C cl fp => hg (i, s, H, C, cl, fp)) (fun s H C cl fp => h1 (i, s, H, C, cl, fp)) (fun s H C cl fp => pe_te (T := T.blk scope) (i, s, H, C, cl, fp)) (hs _)) ?_
  intro F H σ E ok sl qd
  exact ge_lc h2 hown h F H σ _ ok sl (fun F1 H1 M1 d v e1 ok1 r z => qd.nx F1 _ M1 _ H1 e1 ok1 ((sl.mono e1).set r j) z) (qd.kx sl)
/-- a comprehension whose elements lean on the items alone, over a list of one type's data -/
theorem lc_mapT {α : Type} {elt : Expr} {scope : Scope} {own : List Nat} {g : Tg} {Φ : PD} {xs : List α} (enc f : α → Da) (hl : xs.length ≤ 100000)
    (h : ∀ x ∈ xs, ∃ Γ', tgD g (enc x) (wipeG Γ own) = some Γ' ∧ ∀ M', Sub M M' → EX (T.blk scope) elt Γ' M' (fun y M2 => y = f x ∧ M2 = M') fun _ _ _ _ => False) (q : Φ (.lst (xs.map f)) M) :
    lcAsk T scope own g (fun _ M Φ => Φ true M) elt Γ Φ (xs.map enc) (fun _ => True) M := by
  refine ⟨fun n acc M2 => acc = (xs.take n).map f ∧ M2 = M, ⟨by simp, rfl⟩, fun _ _ _ _ _ _ _ => trivial, fun n d acc M2 p hd hI hp => ?_, fun acc M2 hI => ?_⟩
  · obtain ⟨rfl, rfl⟩ := hI
    rw [List.getElem?_map] at hd
    obtain ⟨x, hx, rfl⟩ := Option.map_eq_some_iff.mp hd
    obtain ⟨Γ', h1, h2⟩ := h x (List.mem_of_getElem? hx)
    refine ⟨Γ', h1, fun _ => EX.imp (h2 _ (Sub.new hp)) (fun y M3 e => ?_) fun _ _ _ _ z => z, fun z => nomatch z⟩
    obtain ⟨rfl, rfl⟩ := e
    refine ⟨?_, M2, rfl, hp, ?_, rfl⟩
    · rw [List.length_map, List.length_take]
      exact Nat.lt_of_le_of_lt (Nat.min_le_right _ _) (Nat.lt_of_le_of_lt hl (by rw [sizeLine_eq]; decide))
    · rw [List.take_add_one, hx]; simp
  · obtain ⟨rfl, rfl⟩ := hI
    rw [List.length_map, List.take_length]; exact q
theorem lc_filterT {α : Type} {elt c : Expr} {scope : Scope} {own : List Nat} {g : Tg} {Φ : PD} {xs : List α} (enc f : α → Da) (t : α → Bool) (hl : xs.length ≤ 100000)
    (h : ∀ x ∈ xs, ∃ Γ', tgD g (enc x) (wipeG Γ own) = some Γ' ∧ ∀ M', Sub M M' → TX (T.blk scope) c Γ' M' (fun b M2 => b = t x ∧ M2 = M' ∧ (b = true → EX (T.blk scope) elt Γ' M' (fun y M2 => y = f x ∧ M2 = M') fun _ _ _ _ => False)) fun _ _ _ _ => False) (q : Φ (.lst ((xs.filter t).map f)) M) :
    lcAsk T scope own g (fun Γ M Φ => TX (T.blk scope) c Γ M Φ fun _ _ _ _ => False) elt Γ Φ (xs.map enc) (fun _ => True) M := by
  refine ⟨fun n acc M2 => acc = ((xs.take n).filter t).map f ∧ M2 = M, ⟨by simp, rfl⟩, fun _ _ _ _ _ _ _ => trivial, fun n d acc M2 p hd hI hp => ?_, fun acc M2 hI => ?_⟩
  · obtain ⟨rfl, rfl⟩ := hI
    rw [List.getElem?_map] at hd
    obtain ⟨x, hx, rfl⟩ := Option.map_eq_some_iff.mp hd
    obtain ⟨Γ', h1, h2⟩ := h x (List.mem_of_getElem? hx)
    have ht : xs.take (n + 1) = xs.take n ++ [x] := by rw [List.take_add_one, hx]; rfl
    have hlen : (((xs.take n).filter t).map f).length < sizeLine := by
      rw [List.length_map]
      refine Nat.lt_of_le_of_lt (List.length_filter_le _ _) ?_
      rw [List.length_take]
      exact Nat.lt_of_le_of_lt (Nat.min_le_right _ _) (Nat.lt_of_le_of_lt hl (by rw [sizeLine_eq]; decide))
    refine ⟨Γ', h1, TX.imp (h2 _ (Sub.new hp)) fun b M3 e => ?_⟩
    obtain ⟨rfl, rfl, he⟩ := e
    refine ⟨fun hb => EX.imp (he hb) (fun y M4 e => ?_) fun _ _ _ _ z => z, fun hb => ⟨M2, rfl, hp, ?_, rfl⟩⟩
    · obtain ⟨rfl, rfl⟩ := e
      refine ⟨hlen, M2, rfl, hp, ?_, rfl⟩
      rw [ht, List.filter_append, List.map_append]
      simp [hb]
    · rw [ht, List.filter_append, List.map_append]
      simp [hb]
  · obtain ⟨rfl, rfl⟩ := hI
    rw [List.length_map, List.take_length]; exact q
end

/-! ### a def -/
def startG (N : List Str) (args : List Da) : Gm := args.map some ++ List.replicate (N.length - args.length) none
theorem sl_start {K : PySem.W.Frag} {F : Hp} {N : List Str} {args : List Da} {vs : List V} (r : Reps K F args vs) : Sl K F (L2.start N vs) (startG N args) := by
  refine ⟨by unfold L2.start startG; simp [r.length], fun i d h => ?_⟩
  unfold startG at h
  have hi : i < args.length := by
    by_cases hi : i < args.length
    · exact hi
    · rw [List.getElem?_append_right (by simpa using hi), List.getElem?_replicate] at h
      split at h <;> cases h
  rw [List.getElem?_append_left (by simpa using hi), List.getElem?_map] at h
  cases e : args[i]? with
  | none => rw [e] at h; cases h
  | some a =>
    rw [e] at h
    cases h
    obtain ⟨v, hv, rv⟩ := r.get e
    refine ⟨v, ?_, rv⟩
    unfold L2.start
    rw [List.getElem?_append_left (by rw [List.length_map, r.length]; exact hi), List.getElem?_map, hv]
    rfl
-- a def while an exception is handled
theorem fn_hot {P : Program} {w : World} {K : PySem.W.Frag} {mg : Str → Option Value} {base : Heap} {k : Nat} {f : Addr} {x qual : Str} {params : Arguments} {body : List Stmt} {scope : Scope} {dvs : List V} {kws : List (Str × V)} {fd : FuncData} {N ps : List Str} {sp : Sp}
    (F : FunD K x qual params body scope dvs kws f fd) (S : FnScope N ps scope) (len : ∀ vs H Q E, sp vs H Q E → vs.length = ps.length)
    (hbody : ∀ (cdv : Value) (A : Around) (fr : List Env) (s : Shared) (H : Hp) (vs : List V) (Q : VK) (E : XK) (p : Addr × Obj), L2H.RoomH k (A.deeper (envOfC qual scope s.heap.objs.size f cdv)) → sp vs H Q E →
      ∃ t, PSs (L2H.cxH (L2.CX P w) P w K mg base N qual scope f cdv A fr s H E p) body t ∧ t { nx := fun _ H' => Q .non H', rt := Q } (L2.start N vs) H) : FnM true P w K mg base (k + 1) f fd ps sp := by
  obtain ⟨oc, od, dV, kV, doc, pm, an, cdv, ct, osl, rfl, lk, hcd, _, _⟩ := F.ex
  refine ⟨len, fun A fr s H ar us vs Q E hr e0 bt r hsp => ?_⟩
  have nvs := len _ _ _ _ hsp
  have hf := e0.mod.kin f _ lk
  have kin : K.In s.heap := e0.mod.kin.keeps fun b o z => (e0.bs b o z).1
  have nl : s.heap.NoLimit := e0.mod.nolimit.keeps fun b o z => (e0.bs b o z).1
  have nfr : f ∉ frs fr := fun z => by
    have := (e0.funs.mem z).1
    rw [hf] at this; cases this
  have pin : L2H.PinOk fr H s (f, _) := ⟨(e0.bs f _ hf).1, (e0.bs f _ hf).2, nfr, fun v z => nomatch z⟩
  have kinds : ∀ y ∈ ps.zip us, scope.names.lookup y.1 = some .local ∨ (scope.names.lookup y.1 = some .cell ∧ ((cellsFrom (s.heap.objs.size + 1) scope.names []).lookup y.1).isSome = true) := by
    rintro ⟨n, v⟩ hy
    exact (S.par n (List.of_mem_zip hy).1).imp id fun q => ⟨q, PySem.W.cellsFrom_some _ _ _ (.inl q)⟩
  refine codeAny_call_function hr.rm.depth (kin _ _ lk) rfl S.co S.gen rfl (PySem.W.codeRec_of kin hcd) (bt _ _ _ _ ?_)
  refine wpAny_newFunctionEnv_cells S.kind kinds fun env he s1 z => ?_
  subst he
  refine ⟨nl.keeps z.toInCall.keep, codeAny_func ?_⟩
  obtain ⟨t, ht, go⟩ := hbody cdv A fr s H vs Q E (f, _) (hr.rm.deeper _) hsp
  have I := L2H.inv_startH (CX := L2.CX P w) (w := w) (P := P) (mg := mg) (cd := cdv) (f := f) (qual := qual) (E := E) S pin e0 nvs r z
  have all := ht.run [] s1 (L2.start N vs) H _ I go
  refine wpAny_mono all (fun fl s2 q => ?_) fun _ _ q => q
  cases fl with
  | brk => exact q.choose_spec.choose_spec.2.elim
  | cont => exact q.choose_spec.choose_spec.2.elim
  | next =>
    obtain ⟨σ2, H', J, q⟩ := q
    exact (⟨.non, H', J.os, J.bare, J.base, J.hok, rfl, q⟩ : CE fr P w H s Q .none s2)
  | ret u =>
    obtain ⟨v, σ2, H', J, rv, q⟩ := q
    exact (⟨v, H', J.os, J.bare, J.base, J.hok, rv, q⟩ : CE fr P w H s Q u s2)
/-- THE RULE: a def by its body -/
theorem okG {hot : Bool} {P : Program} {w : World} {K : PySem.W.Frag} {mg : Str → Option Value} {base : Heap} {x qual : Str} {params : Arguments} {body : List Stmt} {scope : Scope} {dvs : List V} {kws : List (Str × V)} {f : Addr} {fd : FuncData} {N ps : List Str} {k : Nat} {ds : DS}
    (F : FunD K x qual params body scope dvs kws f fd) (S : FnScope N ps scope) (len : ∀ args M Φ Ψ, ds args M Φ Ψ → args.length = ps.length)
    (hbody : ∀ (T : Fm Unit), T.hot = hot → Fd T k P w K mg base N scope → ∀ args M Φ Ψ, ds args M Φ Ψ → SSX T body (startG N args) M ⟨fun _ M' => Φ .non M', Φ, fun _ _ => False, fun _ _ => False, fun _ => Ψ⟩) : FnM hot P w K mg base (k + 1) f fd ps (lift K ds) := by
  have hlen : ∀ vs H Q E, lift K ds vs H Q E → vs.length = ps.length := fun vs H Q E h => by
    obtain ⟨F0, M, args, Φ, Ψ, ok, r, hd, _⟩ := h
    rw [r.length]; exact len _ _ _ _ hd
  have ends : ∀ (T : Fm Unit) (E : XK), T.K = K → T.w = (fun cls d _ H => E cls d H) → ∀ (F0 : Hp) (Φ : PD) (Ψ : PX) (Q : VK), KE K F0 Φ Q → KX K F0 Ψ E → KD T F0 ⟨fun _ M' => Φ .non M', Φ, fun _ _ => False, fun _ _ => False, fun _ => Ψ⟩ { nx := fun _ H' => Q .non H', rt := Q } := by
    rintro ⟨X, K', w', ht⟩ E rfl rfl F0 Φ Ψ Q hk hx
    refine ⟨?_, hk, ?_, ?_, ?_⟩
    · exact fun F' Γ' M' σ' H' e ok' sl' z => hk F' H' M' .non .non e ok' rfl z
    · exact fun _ _ _ _ _ _ _ _ z => z.elim
    · exact fun _ _ _ _ _ _ _ _ z => z.elim
    · exact fun F' Γ' M' σ' H' C d ns ds vs e ok' _ hd hl r z => hx F' H' M' C d ns ds vs e ok' hd hl r z
  cases hot with
  | false =>
    refine .of (F.ok S hlen fun cdv A outer s H vs Q E hr h => ?_)
    obtain ⟨F0, M, args, Φ, Ψ, ok, r, hd, hk, hx⟩ := h
    let T : Fm Unit := ⟨fun _ : Unit => cxOf (L2.CX P w) P w K mg base N qual scope f cdv A outer s H E, K, fun cls d _ H => E cls d H, false⟩
    refine ⟨tssOf T body, pss_tss (T := T) (), ?_⟩
    refine hbody T rfl ?_ args M Φ Ψ hd F0 H _ _ ok (sl_start r) (ends T E rfl rfl F0 Φ Ψ Q hk hx)
    exact ⟨⟨rfl, fun _ => rfl, fun _ => rfl, fun _ => rfl, fun _ => rfl, fun _ => rfl, fun _ => rfl, S.nd, fun _ => rfl, fun _ _ => rfl, fun _ => .of hr, fun _ => takes_of rfl rfl rfl rfl⟩, fun _ _ _ => .inl rfl, fun _ => passes_of rfl, fun _ => rfl, fun _ => rfl⟩
  | true =>
    refine fn_hot F S hlen fun cdv A outer s H vs Q E p hr h => ?_
    obtain ⟨F0, M, args, Φ, Ψ, ok, r, hd, hk, hx⟩ := h
    let T : Fm Unit := ⟨fun _ : Unit => L2H.cxH (L2.CX P w) P w K mg base N qual scope f cdv A outer s H E p, K, fun cls d _ H => E cls d H, true⟩
    refine ⟨tssOf T body, pss_tss (T := T) (), ?_⟩
    refine hbody T rfl ?_ args M Φ Ψ hd F0 H _ _ ok (sl_start r) (ends T E rfl rfl F0 Φ Ψ Q hk hx)
    exact ⟨⟨rfl, fun _ => rfl, fun _ => rfl, fun _ => rfl, fun _ => rfl, fun _ => rfl, fun _ => rfl, S.nd, fun _ => rfl, (fun z => nomatch z), fun _ => ⟨hr, (fun z => nomatch z)⟩, fun _ => takes_of rfl rfl rfl rfl⟩, fun _ _ _ => .inl rfl, fun _ => passes_of rfl, fun _ => rfl, fun _ => rfl⟩
end G
set_option Elab.async false
set_option linter.all false
set_option maxRecDepth 100000
/-! GBlt: built-in functions on data. -/
namespace G
open PySem PySem.Spec PyProof.Rows L2
section
variable {ι : Type} {T : Fm ι} {k : Nat} {P : Program} {w : World} {K : PySem.W.Frag} {mg : Str → Option Value} {base : Heap} {N : List Str} {sc : Scope} {Γ : Gm} {M : Ms} {Φ : PD} {Ψ : PX}
variable {e a b c : Expr} {es : List Expr} {pos p : Pos}
theorem reps1 {K : PySem.W.Frag} {F : Hp} {d : D} {vs : List V} (h : Reps K F [d] vs) : ∃ v, vs = [v] ∧ Rep K F d v := by
  obtain ⟨v, r, h1, h2, h3⟩ := h
  have h3 : r = [] := h3
  subst h3
  exact ⟨v, h1, h2⟩
theorem reps2 {K : PySem.W.Frag} {F : Hp} {d d' : D} {vs : List V} (h : Reps K F [d, d'] vs) : ∃ v v', vs = [v, v'] ∧ Rep K F d v ∧ Rep K F d' v' := by
  obtain ⟨v, r, h1, h2, h3⟩ := h
  obtain ⟨v', h4, h5⟩ := reps1 h3
  subst h4
  exact ⟨v, v', h1, h2, h5⟩
/-! ### len -/
def lenP (M : Ms) (Φ : PD) : List D → Prop
  | [.str y] => y.length ≤ sizeLine ∧ Φ (.int y.length) M
  | [.tup ds] => Φ (.int ds.length) M
  | [.lst ds] => Φ (.int ds.length) M
  | [.rol ds] => Φ (.int ds.length) M
  | [.ref p] => ∃ ds, M p = some (.lst ds) ∧ Φ (.int ds.length) M
  | _ => False
theorem gc_len {xs : List D} (q : lenP M Φ xs) : GC T (fun xs H Q => ∃ x n, xs = [x] ∧ LenV T.K x H n ∧ Q (.int n) H) xs M Φ := by
  intro F H vs Q ok rs hk
  unfold lenP at q
  split at q
  · obtain ⟨v, rfl, r⟩ := reps1 rs
    cases r
    exact ⟨_, _, rfl, ⟨q.1, rfl⟩, hk F H M (.int _) _ (Same.refl _) ok rfl q.2⟩
  · obtain ⟨v, rfl, r⟩ := reps1 rs
    obtain ⟨a, us, rfl, h1, h2⟩ := r
    exact ⟨_, _, rfl, .inr ⟨us, same_t ok.ex h1, rfl⟩, by rw [h2.length]; exact hk F H M (.int _) _ (Same.refl _) ok rfl q⟩
  · obtain ⟨v, rfl, r⟩ := reps1 rs
    obtain ⟨a, us, rfl, h1, h2⟩ := r
    exact ⟨_, _, rfl, .inl ⟨us, .inl (.inl (ok.ex _ _ h1)), rfl⟩, by rw [h2.length]; exact hk F H M (.int _) _ (Same.refl _) ok rfl q⟩
  · obtain ⟨v, rfl, r⟩ := reps1 rs
    obtain ⟨a, us, rfl, h1, h2⟩ := r
    exact ⟨_, _, rfl, .inl ⟨us, ok.ex.seq h1, rfl⟩, by rw [h2.length]; exact hk F H M (.int _) _ (Same.refl _) ok rfl q⟩
  · obtain ⟨v, rfl, r⟩ := reps1 rs
    cases r
    obtain ⟨ds, hm, q⟩ := q
    obtain ⟨_, us, h1, h2⟩ := ok.mu _ _ hm
    exact ⟨_, _, rfl, .inl ⟨us, .inl (.inl h1), rfl⟩, by rw [h2.length]; exact hk F H M (.int _) _ (Same.refl _) ok rfl q⟩
  · exact False.elim q
theorem ex_len (hF : Fc T k P w K mg base N sc) (hm : mg "len" = none) (h : AX T [e] Γ M (fun xs M1 => lenP M1 Φ xs) Ψ) (hg : sc.names.lookup ("len" : Str) = some .globalImplicit := by rfl) (he : ∀ env, starEach [e] env = (false, eval e env) :: starEach [] env := by intro _; rfl) : EX T (.Call (.Name "len" p) [e] [] pos) Γ M Φ Ψ :=
  ex_bltG hF (R := lenP) (fun i => by rw [← hF.hK i]; exact call_len) hm boot_len (fun _ _ _ q => gc_len q) h hg (he := he)
/-! ### abs, int, bool, str, list -/
def absP (M : Ms) (Φ : PD) : List D → Prop
  | [.int i] => Φ (.int (if i < 0 then -i else i)) M
  | _ => False
theorem ex_abs (hF : Fc T k P w K mg base N sc) (hm : mg "abs" = none) (h : AX T [e] Γ M (fun xs M1 => absP M1 Φ xs) Ψ) (hg : sc.names.lookup ("abs" : Str) = some .globalImplicit := by rfl) (he : ∀ env, starEach [e] env = (false, eval e env) :: starEach [] env := by intro _; rfl) : EX T (.Call (.Name "abs" p) [e] [] pos) Γ M Φ Ψ := by
  refine ex_bltG hF (R := absP) (fun i => call_abs) hm (by decide +kernel) (fun xs M Φ q => ?_) h hg (he := he)
  intro F H vs Q ok rs hk
  unfold absP at q
  split at q
  · obtain ⟨v, rfl, r⟩ := reps1 rs
    cases r
    exact ⟨_, rfl, hk F H M (.int _) _ (Same.refl _) ok rfl q⟩
  · exact False.elim q
def intP (M : Ms) (Φ : PD) : List D → Prop
  | [.int i] => Φ (.int i) M
  | [.bl b] => Φ (.int (if b then 1 else 0)) M
  | _ => False
theorem ex_int1 (hF : Fc T k P w K mg base N sc) (hm : mg "int" = none) (h : AX T [e] Γ M (fun xs M1 => intP M1 Φ xs) Ψ) (hg : sc.names.lookup ("int" : Str) = some .globalImplicit := by rfl) (he : ∀ env, starEach [e] env = (false, eval e env) :: starEach [] env := by intro _; rfl) : EX T (.Call (.Name "int" p) [e] [] pos) Γ M Φ Ψ := by
  refine ex_tyG hF (R := intP) (fun i => call_int1) hm boot_int (fun xs M Φ q => ?_) h hg (he := he)
  intro F H vs Q ok rs hk
  unfold intP at q
  split at q
  · obtain ⟨v, rfl, r⟩ := reps1 rs
    cases r
    exact .inl ⟨_, rfl, hk F H M (.int _) _ (Same.refl _) ok rfl q⟩
  · obtain ⟨v, rfl, r⟩ := reps1 rs
    cases r
    exact .inr ⟨_, rfl, hk F H M (.int _) _ (Same.refl _) ok rfl q⟩
  · exact False.elim q
/-- int of a text that is a number -/
theorem ex_intS (hF : Fc T k P w K mg base N sc) (hm : mg "int" = none) (h : EX T e Γ M (fun d M1 => ∃ a n, d = .str a ∧ PySem.intText? a = some n ∧ a.length ≤ 640 ∧ Φ (.int n) M1) Ψ) (hg : sc.names.lookup ("int" : Str) = some .globalImplicit := by rfl) (he : ∀ env, starEach [e] env = (false, eval e env) :: starEach [] env := by intro _; rfl) : EX T (.Call (.Name "int" p) [e] [] pos) Γ M Φ Ψ := by
  refine ex_tyG hF (R := fun M Φ xs => ∃ a n, xs = [.str a] ∧ PySem.intText? a = some n ∧ a.length ≤ 640 ∧ Φ (.int n) M) (fun i => call_int_str) hm boot_int (fun xs M Φ q => ?_) (ax_cons (EX.imp h (fun d M1 ⟨a, n, hd, h1, h2, q⟩ => ax_nil ⟨a, n, by rw [hd], h1, h2, q⟩) fun _ _ _ _ z => z) he) hg (he := he)
  intro F H vs Q ok rs hk
  obtain ⟨a, n, rfl, h1, h2, q⟩ := q
  obtain ⟨v, rfl, r⟩ := reps1 rs
  cases r
  exact ⟨a, n, rfl, h1, h2, hk F H M (.int _) _ (Same.refl _) ok rfl q⟩
def strP (M : Ms) (Φ : PD) : List D → Prop
  | [.int i] => i.natAbs.log2 < 1920 ∧ Φ (.str (toString i)) M
  | _ => False
theorem ex_str1 (hF : Fc T k P w K mg base N sc) (hm : mg "str" = none) (h : AX T [e] Γ M (fun xs M1 => strP M1 Φ xs) Ψ) (hg : sc.names.lookup ("str" : Str) = some .globalImplicit := by rfl) (he : ∀ env, starEach [e] env = (false, eval e env) :: starEach [] env := by intro _; rfl) : EX T (.Call (.Name "str" p) [e] [] pos) Γ M Φ Ψ := by
  refine ex_tyG hF (R := strP) (fun i => call_str_int) hm (by decide +kernel) (fun xs M Φ q => ?_) h hg (he := he)
  intro F H vs Q ok rs hk
  unfold strP at q
  split at q
  · obtain ⟨v, rfl, r⟩ := reps1 rs
    cases r
    exact ⟨_, rfl, q.1, hk F H M (.str _) _ (Same.refl _) ok rfl q.2⟩
  · exact False.elim q
def seqM (M : Ms) : D → Option (List D)
  | .lst ds => some ds
  | .rol ds => some ds
  | .tup ds => some ds
  | .ref p => match M p with
    | some (.lst ds) => some ds
    | _ => none
  | _ => none
theorem seqM_read {K : PySem.W.Frag} {F H : Hp} {d : D} {ds : List D} {v : V} (ok : Ok K F H M) (r : Rep K F d v) (h : seqM M d = some ds) : ∃ a vs, v = .ref a ∧ (SqL K H a vs ∨ SqT K H a vs) ∧ Reps K F ds vs := by
  cases d with
  | lst xs => cases h; obtain ⟨a, us, rfl, h1, h2⟩ := r; exact ⟨a, us, rfl, .inl (.inl (.inl (ok.ex _ _ h1))), h2⟩
  | rol xs => cases h; obtain ⟨a, us, rfl, h1, h2⟩ := r; exact ⟨a, us, rfl, .inl (ok.ex.seq h1), h2⟩
  | tup xs => cases h; obtain ⟨a, us, rfl, h1, h2⟩ := r; exact ⟨a, us, rfl, .inr (same_t ok.ex h1), h2⟩
  | ref p =>
    cases r
    have h : (match M p with | some (.lst ds) => some ds | _ => none) = some ds := h
    cases e : M p with
    | none => rw [e] at h; cases h
    | some o =>
      rw [e] at h
      cases o with
      | lst xs =>
        cases h
        obtain ⟨_, us, h1, h2⟩ := ok.mu _ _ e
        exact ⟨p, us, rfl, .inl (.inl (.inl h1)), h2⟩
      | _ => cases h
  | _ => cases h
/-- list(x): a new list -/
def listP (M : Ms) (Φ : PD) (xs : List D) : Prop := ∃ d ds, xs = [d] ∧ seqM M d = some ds ∧ Φ (.lst ds) M
theorem ex_list1 (hF : Fc T k P w K mg base N sc) (hm : mg "list" = none) (h : AX T [e] Γ M (fun xs M1 => listP M1 Φ xs) Ψ) (hg : sc.names.lookup ("list" : Str) = some .globalImplicit := by rfl) (he : ∀ env, starEach [e] env = (false, eval e env) :: starEach [] env := by intro _; rfl) : EX T (.Call (.Name "list" p) [e] [] pos) Γ M Φ Ψ := by
  refine ex_tyG hF (R := listP) (r := fun xs H Q => ∃ p ys, xs = [.ref p] ∧ (SqL T.K H p ys ∨ SqT T.K H p ys) ∧ ∀ l, H l = none → Q (.ref l) (upd H l (.lst ys))) (fun i => by rw [← hF.hK i]; exact call_list_of) hm (by decide +kernel) (fun xs M Φ q => ?_) h hg (he := he)
  intro F H vs Q ok rs hk
  obtain ⟨d, ds, rfl, hs, q⟩ := q
  obtain ⟨v, rfl, r⟩ := reps1 rs
  obtain ⟨a, us, rfl, h1, h2⟩ := seqM_read ok r hs
  refine ⟨a, us, rfl, h1, fun l hl => ?_⟩
  have e2 : Same F (upd F l (.lst us)) := same_upd (ok.freshF hl)
  exact hk _ _ M (.lst ds) _ e2 (ok.new hl) ⟨l, us, rfl, upd_same, h2.mono e2⟩ q
/-! ### math.gcd -/
def gcdP (M : Ms) (Φ : PD) : List D → Prop
  | [.int i, .int j] => Φ (.int ((Nat.gcd i.natAbs j.natAbs : Nat) : Int)) M
  | _ => False
theorem ex_gcd (hF : Fc T k P w K mg base N sc) (hm : mg "gcd" = some (.builtin "math.gcd")) (h : AX T [a, b] Γ M (fun xs M1 => gcdP M1 Φ xs) Ψ) (hg : sc.names.lookup ("gcd" : Str) = some .globalImplicit := by rfl)
    (he : ∀ env, starEach [a, b] env = (false, eval a env) :: starEach [b] env := by intro _; rfl) (hpl : ∀ env, (backTo pos (starEach [b] env)).any (·.1) = false := by intro _; rfl) : EX T (.Call (.Name "gcd" p) [a, b] [] pos) Γ M Φ Ψ := by
  refine EX.mk (fun i => pe_callBfun cr_gcd (by show (T.X i).env.scope.names.lookup _ = _; rw [hF.hs]; exact hg) (by rw [hF.hmg]; exact hm) (pa_ta i) (by decide) (he _) (hpl _)) (ge_CB (AX.imp h fun xs M1 q => ?_))
  intro F H vs Q ok rs hk
  unfold gcdP at q
  split at q
  · obtain ⟨v, v', rfl, r, r'⟩ := reps2 rs
    cases r; cases r'
    exact ⟨_, _, rfl, hk F H M1 (.int _) _ (Same.refl _) ok rfl q⟩
  · exact False.elim q
/-! ### max of a list of data -/
theorem toPs_mem : ∀ {ds : List D} {ps : List PyData} {i : Nat} {d : D}, toPs ds = some ps → ds[i]? = some d → ∃ q, ps[i]? = some q ∧ toP d = some q
  | [], _, _, _, _, h => by simp at h
  | d :: ds, ps, i, x, hp, h => by
    obtain ⟨p, hp1, q⟩ := Option.bind_eq_some_iff.mp (show (toP d).bind (fun p => (toPs ds).map fun ps => p :: ps) = some ps from hp)
    obtain ⟨ps', hps, rfl⟩ := Option.map_eq_some_iff.mp q
    cases i with
    | zero =>
      have h : some d = some x := h
      cases h
      exact ⟨p, rfl, hp1⟩
    | succ i =>
      obtain ⟨q, h1, h2⟩ := toPs_mem hps (show ds[i]? = some x from h)
      exact ⟨q, h1, h2⟩
/-- max of a list of alike data: one of them, the greatest -/
def maxP (M : Ms) (Φ : PD) (xs : List D) : Prop := ∃ ds p ps, (xs = [.lst ds] ∨ xs = [.rol ds]) ∧ toPs ds = some (p :: ps) ∧ PySem.W.AlikeAll (p :: ps) ∧ PyData.depthAll (p :: ps) ≤ 8 ∧ ∀ d ∈ ds, toP d = some (PySem.W.maxD p ps) → Φ d M
/-- the same, told of the data -/
def rMaxG (K : PySem.W.Frag) (ds : List D) (p : PyData) (ps : List PyData) (F : Hp) : List V → Hp → VK → Prop := fun vs H Q => ∃ (a : Addr) (us : List V), vs = [.ref a] ∧ SqL K H a us ∧ Same F H ∧ Reps K F ds us ∧ ∀ d ∈ ds, toP d = some (PySem.W.maxD p ps) → ∀ v, Rep K F d v → Q v H
theorem ex_max (hF : Fc T k P w K mg base N sc) (hm : mg "max" = none) (h : AX T [e] Γ M (fun xs M1 => maxP M1 Φ xs) Ψ) (hg : sc.names.lookup ("max" : Str) = some .globalImplicit := by rfl)
    (he : ∀ env, starEach [e] env = (false, eval e env) :: starEach [] env := by intro _; rfl) (hh : T.hot = false := by assumption) : EX T (.Call (.Name "max" p) [e] [] pos) Γ M Φ Ψ := by
  -- the reading: for every list of values that the data tell, the greatest one's value
  refine EX.mk (t := fun σ H Q => taOf T [e] σ H fun vs H1 => ∃ F ds p ps, toPs ds = some (p :: ps) ∧ PySem.W.AlikeAll (p :: ps) ∧ PyData.depthAll (p :: ps) ≤ 8 ∧ rMaxG T.K ds p ps F vs H1 Q) (fun i => ⟨fun pins s σ H Q I hq => ?_⟩) ?_
  · have cr : CallR (T.X i) (.builtin "max") (fun vs H1 Q => ∃ F ds p ps, toPs ds = some (p :: ps) ∧ PySem.W.AlikeAll (p :: ps) ∧ PyData.depthAll (p :: ps) ≤ 8 ∧ rMaxG T.K ds p ps F vs H1 Q) := by
      intro pins s σ H vs us Q I r hq
      obtain ⟨F, ds, p, ps, h1, h2, h3, a, ws, rfl, h4, hs, h5, q⟩ := hq
      obtain ⟨its, rv, hl, _⟩ := I.list (by rw [hF.hK i]; exact h4)
      rw [Vals.ref1 r]
      have hd := toPs_dp hs h5 h1
      rw [← hF.hK i] at hd
      obtain ⟨as, hr⟩ := Dp.readsAll I (p :: ps) ws its hd rv
      refine PySem.W.max_list_data (I.ok.hd (hF.calm hh i)) hl.isList (by simpa using hr) h2 (by have := hF.units i; omega) fun j v h' tk bs hv hrd hk => ?_
      have hv' : its[j]? = some v := by simpa using hv
      have hlen := rv.length
      have hj : j < ws.length := by
        have := (List.getElem?_eq_some_iff.mp hv').1
        omega
      obtain ⟨u', hu', ru⟩ := rv.get (x := ws[j]) (i := j) (by simp [hj])
      rw [hv'] at hu'
      cases hu'
      have hjd : j < ds.length := by rw [← h5.length]; exact hj
      obtain ⟨v0, hv0, rv0⟩ := h5.get (i := j) (d := ds[j]) (by simp [hjd])
      have ev : ws[j] = v0 := by
        have : ws[j]? = some ws[j] := by simp [hj]
        rw [this] at hv0
        exact Option.some.inj hv0
      obtain ⟨q0, hq0, hq1⟩ := toPs_mem h1 (show ds[j]? = some ds[j] by simp [hjd])
      have hdp := toP_dp hs rv0 hq1
      rw [← hF.hK i, ← ev] at hdp
      obtain ⟨as0, hr0⟩ := Dp.reads I q0 _ v hdp ru
      have e1 := (PyProof.Rows.reads_det (fun b o z _ => hk b o z) hr0 hrd).1
      rw [← e1] at hq1
      exact ⟨_, H, I.kept hk, ru, q _ (List.getElem_mem hjd) hq1 _ (by rw [ev]; exact rv0)⟩
    exact (pe_callB (t := taOf T [e]) cr (by show (T.X i).env.scope.names.lookup _ = _; rw [hF.hs]; exact hg) (by rw [hF.hmg]; exact hm) (by decide +kernel) (pa_ta i) (by decide) (by decide) (he _) (by rfl)).run pins s σ H Q I hq
  · intro F H σ Q ok sl hk x
    refine h F H σ _ ok sl (fun F1 H1 M1 xs vs e1 ok1 rs q => ?_) x
    obtain ⟨ds, p, ps, hx, h1, h2, h3, q⟩ := q
    rcases hx with rfl | rfl
    · obtain ⟨v, rfl, r⟩ := reps1 rs
      obtain ⟨a, us, rfl, g1, g2⟩ := r
      exact ⟨F1, ds, p, ps, h1, h2, h3, a, us, rfl, .inl (.inl (ok1.ex _ _ g1)), ok1.ex, g2, fun d hd hp v rv => hk F1 H1 M1 d v e1 ok1 rv (q d hd hp)⟩
    · obtain ⟨v, rfl, r⟩ := reps1 rs
      obtain ⟨a, us, rfl, g1, g2⟩ := r
      exact ⟨F1, ds, p, ps, h1, h2, h3, a, us, rfl, ok1.ex.seq g1, ok1.ex, g2, fun d hd hp v rv => hk F1 H1 M1 d v e1 ok1 rv (q d hd hp)⟩
end
end G
set_option Elab.async false
set_option linter.all false
set_option maxRecDepth 100000
/-! GBlt2: isinstance, all, slices, in, chains, f-strings, texts, zip on data. -/
namespace G
open PySem PySem.Spec PyProof.Rows L2
/-! ### types -/
inductive Bt where
  | non | bl | int | str | lst | tup | dic
  deriving DecidableEq
def Bt.name : Bt → String
  | .non => "NoneType" | .bl => "bool" | .int => "int" | .str => "str" | .lst => "list" | .tup => "tuple" | .dic => "dict"
def Bt.py : Bt → Str
  | .non => "NoneType" | .bl => "bool" | .int => "int" | .str => "str" | .lst => "list" | .tup => "tuple" | .dic => "dict"
def isB : Bt → Bt → Bool
  | .non, .non => true | .bl, .bl => true | .int, .int => true | .str, .str => true | .lst, .lst => true | .tup, .tup => true | .dic, .dic => true | .bl, .int => true
  | _, _ => false
theorem kit_isB {K : PySem.W.Frag} (a b : Bt) : PySem.W.kitOne K (.type a.name) (.type b.name) = some (isB a b) := by
  refine kit_ty ?_
  cases a <;> cases b <;> decide +kernel
def tyD : D → Option Bt
  | .non => some .non | .bl _ => some .bl | .int _ => some .int | .str _ => some .str | .lst _ => some .lst | .rol _ => some .lst | .tup _ => some .tup | .dic _ _ => some .dic
  | _ => none
theorem tyX_of {K : PySem.W.Frag} {F H : Hp} {M : Ms} {d : D} {v : V} {t : Bt} (ok : Ok K F H M) (r : Rep K F d v) (h : tyD d = some t) : TyX K H v (.type t.name) := by
  cases d with
  | non => cases h; cases r; exact .base .non
  | bl b => cases h; cases r; exact .base (.bl b)
  | int i => cases h; cases r; exact .base (.int i)
  | str x => cases h; cases r; exact .base (.str x)
  | lst ds => cases h; obtain ⟨a, vs, rfl, h1, _⟩ := r; exact .base (.lst (ok.ex _ _ h1))
  | rol ds =>
    cases h
    obtain ⟨a, vs, rfl, h1, _⟩ := r
    rcases h1 with (h1 | ⟨o, h1⟩) | ⟨o, its, n, h1, h2, _⟩
    · exact .base (.lst (ok.ex _ _ h1))
    · exact .base (.frz (ok.ex _ _ h1))
    · exact .kList h1 h2
  | tup ds =>
    cases h
    obtain ⟨a, vs, rfl, h1, _⟩ := r
    rcases h1 with (h1 | ⟨o, h1⟩) | ⟨o, its, n, h1, h2, _⟩
    · exact .base (.tup (ok.ex _ _ h1))
    · exact .fTuple (ok.ex _ _ h1)
    · exact .kTuple h1 h2
  | dic ks ds => cases h; obtain ⟨a, vs, rfl, h1, _⟩ := r; exact .base (.dK (ok.ex _ _ h1))
  | _ => cases h
section
variable {ι : Type} {T : Fm ι} {k : Nat} {P : Program} {w : World} {K : PySem.W.Frag} {mg : Str → Option Value} {base : Heap} {N : List Str} {sc : Scope} {Γ : Gm} {M : Ms} {Φ : PD} {Ψ : PX}
variable {e a b c : Expr} {es : List Expr} {pos p p1 p2 p3 p4 : Pos}
theorem pe_bt (hF : Fc T k P w K mg base N sc) (i : ι) (t : Bt) (hm : mg t.py = none) (hv : bootBuiltins t.py = some (.type t.name)) (hg : sc.names.lookup t.py = some .globalImplicit) : PE (T.X i) (.Name t.py p) (tC (.ty t.name)) :=
  pe_bltn (by show (T.X i).env.scope.names.lookup _ = _; rw [hF.hs]; exact hg) (by rw [hF.hmg]; exact hm) hv rfl (by cases t <;> decide) (by cases t <;> decide)
/-- isinstance(e, T), T a built-in class -/
theorem ex_isi (hF : Fc T k P w K mg base N sc) (t : Bt) (hm : mg "isinstance" = none) (hmt : mg t.py = none) (h : EX T e Γ M (fun d M1 => ∃ u, tyD d = some u ∧ Φ (.bl (isB u t)) M1) Ψ) (hg : sc.names.lookup ("isinstance" : Str) = some .globalImplicit := by rfl) (hgt : sc.names.lookup t.py = some .globalImplicit := by rfl)
    (hv : bootBuiltins t.py = some (.type t.name) := by decide +kernel) (he : ∀ env es, starEach (e :: es) env = (false, eval e env) :: starEach es env := by intro _ _; rfl) : EX T (.Call (.Name "isinstance" p) [e, .Name t.py p1] [] pos) Γ M Φ Ψ := by
  refine EX.mk (t := tCB (rIsi T.K) (tCons (teOf T e) (tCons (tC (.ty t.name)) tNil))) (fun i => ?_) ?_
  · exact pe_callB (by rw [← hF.hK i]; exact call_isi) (by show (T.X i).env.scope.names.lookup _ = _; rw [hF.hs]; exact hg) (by rw [hF.hmg]; exact hm) (by decide +kernel) (pa_cons (pe_te i) (pa_cons (pe_bt hF i t hmt hv hgt) pa_nil) (he _ _)) (by decide) (by decide) (he _ _) (by rfl)
  · intro F H σ Q ok sl hk x
    refine h F H σ _ ok sl (fun F1 H1 M1 d v e1 ok1 r ⟨u, hu, q⟩ => ?_) x
    exact ⟨v, .ty t.name, .type u.name, .type t.name, isB u t, rfl, .ty _, tyX_of ok1 r hu, kit_isB u t, hk F1 H1 M1 (.bl _) _ e1 ok1 rfl q⟩
theorem kitAny2 {K : PySem.W.Frag} (a b c : Bt) : PySem.W.kitAny K (.type a.name) [.type b.name, .type c.name] = some (isB a b || isB a c) := by
  refine kitAny_cons (kit_isB a b) (fun h => ?_) (fun h => by rw [h]; rfl)
  rw [h]
  exact kitAny_cons (kit_isB a c) (fun h => by rw [h]; rfl) (fun h => by rw [h]; rfl)
theorem kitAny3 {K : PySem.W.Frag} (a b c d : Bt) : PySem.W.kitAny K (.type a.name) [.type b.name, .type c.name, .type d.name] = some (isB a b || (isB a c || isB a d)) := by
  refine kitAny_cons (kit_isB a b) (fun h => ?_) (fun h => by rw [h]; rfl)
  rw [h]
  exact kitAny2 a c d
theorem ex_isi2 (hF : Fc T k P w K mg base N sc) (t u : Bt) {kt : Nat} (hm : mg "isinstance" = none) (hmt : mg t.py = none) (hmu : mg u.py = none) (h : EX T e Γ M (fun d M1 => ∃ s, tyD d = some s ∧ Φ (.bl (isB s t || isB s u)) M1) Ψ) (hg : sc.names.lookup ("isinstance" : Str) = some .globalImplicit := by rfl) (hgt : sc.names.lookup t.py = some .globalImplicit := by rfl) (hgu : sc.names.lookup u.py = some .globalImplicit := by rfl)
    (hv : bootBuiltins t.py = some (.type t.name) := by decide +kernel) (hv2 : bootBuiltins u.py = some (.type u.name) := by decide +kernel) (he : ∀ env es, starEach (e :: es) env = (false, eval e env) :: starEach es env := by intro _ _; rfl) : EX T (.Call (.Name "isinstance" p) [e, .Tuple [.Name t.py p1, .Name u.py p2] kt p3] [] pos) Γ M Φ Ψ := by
  refine EX.mk (t := tCB (rIsiT T.K) (tCons (teOf T e) (tCons (tTup (tCons (tC (.ty t.name)) (tCons (tC (.ty u.name)) tNil))) tNil))) (fun i => ?_) ?_
  · exact pe_callB (by rw [← hF.hK i]; exact call_isiT) (by show (T.X i).env.scope.names.lookup _ = _; rw [hF.hs]; exact hg) (by rw [hF.hmg]; exact hm) (by decide +kernel) (pa_cons (pe_te i) (pa_cons (pe_tup (pa_cons (pe_bt hF i t hmt hv hgt) (pa_cons (pe_bt hF i u hmu hv2 hgu) pa_nil))) pa_nil) (he _ _)) (by decide) (by decide) (he _ _) (by rfl)
  · intro F H σ Q ok sl hk x
    refine h F H σ _ ok sl (fun F1 H1 M1 d v e1 ok1 r ⟨s, hs, q⟩ => ?_) x
    refine ⟨(size_small (n := 2)), fun tp htp => ?_⟩
    have e2 : Same F1 (upd F1 tp (.tup [.ty t.name, .ty u.name])) := same_upd (ok1.freshF htp)
    have ok2 := ok1.new (o := .tup [.ty t.name, .ty u.name]) htp
    exact ⟨v, tp, _, .type s.name, _, _, rfl, upd_same, .cons (.ty _) (.cons (.ty _) .nil), tyX_of ok2 (r.mono e2) hs, kitAny2 s t u, hk _ _ M1 (.bl _) _ (e1.trans e2) ok2 rfl q⟩
/-- .. of a list that may change -/
theorem ex_isi2M (hF : Fc T k P w K mg base N sc) (t u : Bt) {kt : Nat} (hm : mg "isinstance" = none) (hmt : mg t.py = none) (hmu : mg u.py = none) (h : EX T e Γ M (fun d M1 => ∃ q ds, d = .ref q ∧ M1 q = some (.lst ds) ∧ Φ (.bl (isB .lst t || isB .lst u)) M1) Ψ) (hg : sc.names.lookup ("isinstance" : Str) = some .globalImplicit := by rfl) (hgt : sc.names.lookup t.py = some .globalImplicit := by rfl) (hgu : sc.names.lookup u.py = some .globalImplicit := by rfl)
    (hv : bootBuiltins t.py = some (.type t.name) := by decide +kernel) (hv2 : bootBuiltins u.py = some (.type u.name) := by decide +kernel) (he : ∀ env es, starEach (e :: es) env = (false, eval e env) :: starEach es env := by intro _ _; rfl) : EX T (.Call (.Name "isinstance" p) [e, .Tuple [.Name t.py p1, .Name u.py p2] kt p3] [] pos) Γ M Φ Ψ := by
  refine EX.mk (t := tCB (rIsiT T.K) (tCons (teOf T e) (tCons (tTup (tCons (tC (.ty t.name)) (tCons (tC (.ty u.name)) tNil))) tNil))) (fun i => ?_) ?_
  · exact pe_callB (by rw [← hF.hK i]; exact call_isiT) (by show (T.X i).env.scope.names.lookup _ = _; rw [hF.hs]; exact hg) (by rw [hF.hmg]; exact hm) (by decide +kernel) (pa_cons (pe_te i) (pa_cons (pe_tup (pa_cons (pe_bt hF i t hmt hv hgt) (pa_cons (pe_bt hF i u hmu hv2 hgu) pa_nil))) pa_nil) (he _ _)) (by decide) (by decide) (he _ _) (by rfl)
  · intro F H σ Q ok sl hk x
    refine h F H σ _ ok sl (fun F1 H1 M1 d v e1 ok1 r z => ?_) x
    obtain ⟨q, ds, rfl, hq, z⟩ := z
    cases r
    refine ⟨(size_small (n := 2)), fun tp htp => ?_⟩
    have e2 : Same F1 (upd F1 tp (.tup [.ty t.name, .ty u.name])) := same_upd (ok1.freshF htp)
    have ok2 := ok1.new (o := .tup [.ty t.name, .ty u.name]) htp
    obtain ⟨_, vs, hp, _⟩ := ok2.mu _ _ hq
    exact ⟨.ref q, tp, _, .type (Bt.name .lst), _, _, rfl, upd_same, .cons (.ty _) (.cons (.ty _) .nil), .base (.lst hp), kitAny2 .lst t u, hk _ _ M1 (.bl _) _ (e1.trans e2) ok2 rfl z⟩
theorem ex_isi3 (hF : Fc T k P w K mg base N sc) (t u z : Bt) {kt : Nat} (hm : mg "isinstance" = none) (hmt : mg t.py = none) (hmu : mg u.py = none) (hmz : mg z.py = none) (h : EX T e Γ M (fun d M1 => ∃ s, tyD d = some s ∧ Φ (.bl (isB s t || (isB s u || isB s z))) M1) Ψ) (hg : sc.names.lookup ("isinstance" : Str) = some .globalImplicit := by rfl) (hgt : sc.names.lookup t.py = some .globalImplicit := by rfl) (hgu : sc.names.lookup u.py = some .globalImplicit := by rfl) (hgz : sc.names.lookup z.py = some .globalImplicit := by rfl)
    (hv : bootBuiltins t.py = some (.type t.name) := by decide +kernel) (hv2 : bootBuiltins u.py = some (.type u.name) := by decide +kernel) (hv3 : bootBuiltins z.py = some (.type z.name) := by decide +kernel) (he : ∀ env es, starEach (e :: es) env = (false, eval e env) :: starEach es env := by intro _ _; rfl) : EX T (.Call (.Name "isinstance" p) [e, .Tuple [.Name t.py p1, .Name u.py p2, .Name z.py p4] kt p3] [] pos) Γ M Φ Ψ := by
  refine EX.mk (t := tCB (rIsiT T.K) (tCons (teOf T e) (tCons (tTup (tCons (tC (.ty t.name)) (tCons (tC (.ty u.name)) (tCons (tC (.ty z.name)) tNil)))) tNil))) (fun i => ?_) ?_
  · exact pe_callB (by rw [← hF.hK i]; exact call_isiT) (by show (T.X i).env.scope.names.lookup _ = _; rw [hF.hs]; exact hg) (by rw [hF.hmg]; exact hm) (by decide +kernel) (pa_cons (pe_te i) (pa_cons (pe_tup (pa_cons (pe_bt hF i t hmt hv hgt) (pa_cons (pe_bt hF i u hmu hv2 hgu) (pa_cons (pe_bt hF i z hmz hv3 hgz) pa_nil)))) pa_nil) (he _ _)) (by decide) (by decide) (he _ _) (by rfl)
  · intro F H σ Q ok sl hk x
    refine h F H σ _ ok sl (fun F1 H1 M1 d v e1 ok1 r ⟨s, hs, q⟩ => ?_) x
    refine ⟨(size_small (n := 3)), fun tp htp => ?_⟩
    have e2 : Same F1 (upd F1 tp (.tup [.ty t.name, .ty u.name, .ty z.name])) := same_upd (ok1.freshF htp)
    have ok2 := ok1.new (o := .tup [.ty t.name, .ty u.name, .ty z.name]) htp
    exact ⟨v, tp, _, .type s.name, _, _, rfl, upd_same, .cons (.ty _) (.cons (.ty _) (.cons (.ty _) .nil)), tyX_of ok2 (r.mono e2) hs, kitAny3 s t u z, hk _ _ M1 (.bl _) _ (e1.trans e2) ok2 rfl q⟩
/-! ### all, any of a list of truths -/
theorem reps_bls {K : PySem.W.Frag} {F : Hp} : ∀ {bs : List Bool} {vs : List V}, Reps K F (bs.map D.bl) vs → vs = bs.map V.bl
  | [], _, h => h
  | _ :: _, _, ⟨v, r, h1, h2, h3⟩ => by
    have h2 : v = _ := h2
    rw [h1, h2, reps_bls h3]; rfl
theorem ex_all (hF : Fc T k P w K mg base N sc) (hm : mg "all" = none) (h : EX T e Γ M (fun d M1 => ∃ bs : List Bool, d = .lst (bs.map D.bl) ∧ Φ (.bl (bs.all id)) M1) Ψ) (hg : sc.names.lookup ("all" : Str) = some .globalImplicit := by rfl)
    (he : ∀ env, starEach [e] env = (false, eval e env) :: starEach [] env := by intro _; rfl) (hh : T.hot = false := by assumption) : EX T (.Call (.Name "all" p) [e] [] pos) Γ M Φ Ψ := by
  refine ex_bltG hF (R := fun M Φ xs => ∃ bs : List Bool, xs = [.lst (bs.map D.bl)] ∧ Φ (.bl (bs.all id)) M) (r := rAll T.K) (fun i => by rw [← hF.hK i]; exact cr_all (hF.calm hh i)) hm (by decide +kernel) (fun xs M Φ q => ?_) (ax_cons (EX.imp h (fun d M1 ⟨bs, hd, q⟩ => ax_nil ⟨bs, by rw [hd], q⟩) fun _ _ _ _ z => z) he) hg (he := he)
  intro F H vs Q ok rs hk
  obtain ⟨bs, rfl, q⟩ := q
  obtain ⟨v, rfl, r⟩ := reps1 rs
  obtain ⟨a, us, rfl, h1, h2⟩ := r
  refine ⟨a, bs, rfl, ?_, hk F H M (.bl _) _ (Same.refl _) ok rfl q⟩
  rw [← reps_bls h2]
  exact .inl (.inl (ok.ex _ _ h1))
/-! ### slices -/
def cutL {α : Type} (xs : List α) (lo hi : Option Int) : List α := (xs.drop (HT.sIx xs.length 0 lo)).take (HT.sIx xs.length xs.length hi - HT.sIx xs.length 0 lo)
def slP (M : Ms) (Φ : PD) (lo hi : Option Int) : D → Prop
  | .lst ds => Φ (.lst (cutL ds lo hi)) M
  | .rol ds => Φ (.lst (cutL ds lo hi)) M
  | .ref p => ∃ ds, M p = some (.lst ds) ∧ Φ (.lst (cutL ds lo hi)) M
  | .str z => z.length ≤ sizeLine ∧ Φ (.str (cutS z lo hi)) M
  | _ => False
def toOf (T : Fm ι) (e : Option Expr) : TO := fun σ H Q => ∀ i pins s, Inv (T.X i) pins σ H s →
    wpAny (model (T.X i).prog (T.X i).w) (T.X i).A (evalPart e (T.X i).env) (fun u s' => ∃ o H', Inv (T.X i) pins σ H' s' ∧ IsPart u o ∧ Q o H') (T.X i).xe s
theorem po_to {e : Option Expr} (i : ι) : PO (T.X i) e (toOf T e) := ⟨fun pins s _ _ _ I h => h i pins s I⟩
/-- a slice's part -/
def OX (T : Fm ι) (e : Option Expr) (Γ : Gm) (M : Ms) (Φ : Option Int → Ms → Prop) (Ψ : PX) : Prop := ∀ F H σ Q, Ok T.K F H M → Sl T.K F σ Γ → (∀ F' H' M' o, Same F F' → Ok T.K F' H' M' → Φ o M' → Q o H') → KX T.K F Ψ (fun c d H => T.w c d σ H) → toOf T e σ H Q
theorem ox_none {Φ : Option Int → Ms → Prop} (h : Φ none M) : OX T none Γ M Φ Ψ := fun F H σ Q ok sl hk x i pins s I => (po_none).run pins s σ H Q I (hk F H M none (Same.refl _) ok h)
theorem ox_some {Φ : Option Int → Ms → Prop} (h : EX T e Γ M (fun d M1 => ∃ j, d = .int j ∧ Φ (some j) M1) Ψ) : OX T (some e) Γ M Φ Ψ := fun F H σ Q ok sl hk x i pins s I =>
  (po_some (pe_te i)).run pins s σ H Q I (h F H σ _ ok sl (fun F1 H1 M1 d v e1 ok1 r ⟨j, hd, q⟩ => by
    subst hd
    exact ⟨j, r, hk F1 H1 M1 (some j) e1 ok1 q⟩) x)
theorem ex_slice (hF : Fc T k P w K mg base N sc) {lo hi : Option Expr} (h : EX T e Γ M (fun d M1 => OX T lo Γ M1 (fun l M2 => OX T hi Γ M2 (fun u M3 => slP M3 Φ l u d) Ψ) Ψ) Ψ) : EX T (.Subscript e (.Slice lo hi none p2) pos) Γ M Φ Ψ := by
  refine EX.mk (t := tSl (fun x lo hi H Q => rSlL T.K x lo hi H Q ∨ rSlS x lo hi H Q) (teOf T e) (toOf T lo) (toOf T hi)) (fun i => pe_slice (SlR.or (by rw [← hF.hK i]; exact sl_list) sl_str) (pe_te i) (po_to i) (po_to i)) ?_
  intro F H σ Q ok sl hk x
  refine h F H σ _ ok sl (fun F1 H1 M1 d v e1 ok1 r q => ?_) x
  refine q F1 H1 σ _ ok1 (sl.mono e1) (fun F2 H2 M2 l e2 ok2 q => ?_) (x.mono e1)
  refine q F2 H2 σ _ ok2 (sl.mono (e1.trans e2)) (fun F3 H3 M3 u e3 ok3 q => ?_) (x.mono (e1.trans e2))
  have r := r.mono (e2.trans e3)
  have hk := hk.mono (e1.trans (e2.trans e3))
  have fin : ∀ (a : Addr) (vs : List V) (ds : List D), SqL T.K H3 a vs → Reps T.K F3 ds vs → Φ (.lst (cutL ds l u)) M3 → rSlL T.K (.ref a) l u H3 Q := fun a vs ds hs rs z => by
    refine ⟨a, vs, rfl, hs, fun t ht => ?_⟩
    have e4 : Same F3 (upd F3 t (.lst (cutV vs l u))) := same_upd (ok3.freshF ht)
    refine hk _ _ M3 (.lst (cutL ds l u)) _ e4 (ok3.new ht) ⟨t, _, rfl, upd_same, Reps.mono e4 ?_⟩ z
    unfold cutV cutL
    rw [rs.length]
    exact (rs.drop _).take _
  cases d with
  | lst ds => obtain ⟨a, vs, rfl, h1, h2⟩ := r; exact .inl (fin a vs ds (.inl (.inl (ok3.ex _ _ h1))) h2 q)
  | rol ds => obtain ⟨a, vs, rfl, h1, h2⟩ := r; exact .inl (fin a vs ds (ok3.ex.seq h1) h2 q)
  | ref p => cases r; obtain ⟨ds, hm, q⟩ := q; obtain ⟨_, vs, h1, h2⟩ := ok3.mu _ _ hm; exact .inl (fin _ vs ds (.inl (.inl h1)) h2 q)
  | str z => cases r; exact .inr ⟨z, rfl, q.1, hk F3 H3 M3 (.str _) _ (Same.refl _) ok3 rfl q.2⟩
  | _ => exact False.elim q
/-! ### in -/
def flatD : D → Option V
  | .non => some .non | .bl b => some (.bl b) | .int i => some (.int i) | .str x => some (.str x)
  | _ => none
def flatDs : List D → Option (List V)
  | [] => some []
  | d :: ds => (flatD d).bind fun v => (flatDs ds).map fun vs => v :: vs
theorem flatD_rep {K : PySem.W.Frag} {F : Hp} {d : D} {v u : V} (r : Rep K F d v) (h : flatD d = some u) : v = u ∧ flatV u = true := by
  cases d <;> first | (cases h; cases r; exact ⟨rfl, rfl⟩) | cases h
theorem flatDs_rep {K : PySem.W.Frag} {F : Hp} : ∀ {ds : List D} {vs us : List V}, Reps K F ds vs → flatDs ds = some us → vs = us ∧ us.all flatV = true
  | [], _, _, r, h => by cases h; exact ⟨r, rfl⟩
  | d :: ds, _, _, ⟨v, r, h1, h2, h3⟩, h => by
    obtain ⟨u, hu, h⟩ := Option.bind_eq_some_iff.mp (show (flatD d).bind (fun v => (flatDs ds).map fun vs => v :: vs) = some _ from h)
    obtain ⟨us, hus, rfl⟩ := Option.map_eq_some_iff.mp h
    obtain ⟨e1, f1⟩ := flatD_rep h2 hu
    obtain ⟨e2, f2⟩ := flatDs_rep h3 hus
    exact ⟨by rw [h1, e1, e2], by rw [List.all_cons, f1, f2]; rfl⟩
/-- x in y: y a list or a tuple of flat data, or a text (x one sign) -/
def inP (neg : Bool) (M : Ms) (Φ : PD) (x y : D) : Prop :=
  (∃ ds u us, seqM M y = some ds ∧ flatD x = some u ∧ flatDs ds = some us ∧ Φ (.bl (if neg then !inV u us else inV u us)) M) ∨
  (∃ c z, x = .str ⟨#[c]⟩ ∧ y = .str z ∧ Φ (.bl (if neg then !decide (c ∈ z.cps.toList) else decide (c ∈ z.cps.toList))) M)
def rIn2 (K : PySem.W.Frag) (neg : Bool) : R2 := fun x y H Q => rIn K neg x y H Q ∨ ∃ (c : Nat) (z : Str), x = .str ⟨#[c]⟩ ∧ y = .str z ∧ Q (.bl (if neg then !decide (c ∈ z.cps.toList) else decide (c ∈ z.cps.toList))) H
theorem gr_in {neg : Bool} {x y : D} (q : inP neg M Φ x y) : GR T (rIn2 T.K neg) x y M Φ := by
  intro F H vx vy Q ok rx ry hk
  rcases q with ⟨ds, u, us, h1, h2, h3, q⟩ | ⟨c, z, rfl, rfl, q⟩
  · obtain ⟨a, vs, rfl, h4, h5⟩ := seqM_read ok ry h1
    obtain ⟨rfl, f1⟩ := flatD_rep rx h2
    obtain ⟨rfl, f2⟩ := flatDs_rep h5 h3
    exact .inl ⟨a, vs, rfl, h4, f1, f2, hk F H M (.bl _) _ (Same.refl _) ok rfl q⟩
  · cases rx; cases ry
    exact .inr ⟨c, z, rfl, rfl, hk F H M (.bl _) _ (Same.refl _) ok rfl q⟩
theorem op_in2 {X : Cx} : OpR X (compareOp .In) (rIn2 X.K false) := opr_or op_in_seq op_in_sign
theorem op_notIn2 {X : Cx} : OpR X (compareOp .NotIn) (rIn2 X.K true) := opr_or op_notIn_seq op_notIn_sign
theorem ex_in (hF : Fc T k P w K mg base N sc) (h : EX T a Γ M (fun x M1 => EX T b Γ M1 (fun y M2 => inP false M2 Φ x y) Ψ) Ψ) (hm : behindInMarks .In b = false := by rfl) : EX T (.Compare a [.In] [b] pos) Γ M Φ Ψ := ex_cmpG (R := inP false) (fun i => by rw [← hF.hK i]; exact op_in2) hm (fun _ _ _ _ q => gr_in q) h
theorem ex_notIn (hF : Fc T k P w K mg base N sc) (h : EX T a Γ M (fun x M1 => EX T b Γ M1 (fun y M2 => inP true M2 Φ x y) Ψ) Ψ) (hm : behindInMarks .NotIn b = false := by rfl) : EX T (.Compare a [.NotIn] [b] pos) Γ M Φ Ψ := ex_cmpG (R := inP true) (fun i => by rw [← hF.hK i]; exact op_notIn2) hm (fun _ _ _ _ q => gr_in q) h
theorem tx_in (hF : Fc T k P w K mg base N sc) {Φ : Bool → Ms → Prop} (h : EX T a Γ M (fun x M1 => EX T b Γ M1 (fun y M2 => inP false M2 (fun d M => ∃ c, d = .bl c ∧ Φ c M) x y) Ψ) Ψ) (hm : behindInMarks .In b = false := by rfl) : TX T (.Compare a [.In] [b] pos) Γ M Φ Ψ := tx_cmpG (R := inP false) (fun i => by rw [← hF.hK i]; exact op_in2) hm (fun _ _ _ _ q => gr_in q) h
theorem tx_notIn (hF : Fc T k P w K mg base N sc) {Φ : Bool → Ms → Prop} (h : EX T a Γ M (fun x M1 => EX T b Γ M1 (fun y M2 => inP true M2 (fun d M => ∃ c, d = .bl c ∧ Φ c M) x y) Ψ) Ψ) (hm : behindInMarks .NotIn b = false := by rfl) : TX T (.Compare a [.NotIn] [b] pos) Γ M Φ Ψ := tx_cmpG (R := inP true) (fun i => by rw [← hF.hK i]; exact op_notIn2) hm (fun _ _ _ _ q => gr_in q) h
/-! ### a <= b <= c of ints -/
theorem ge_chain {f g : Int → Int → Bool} {ta tb tc : TE} (h : GE T ta Γ M (fun x M1 => GE T tb Γ M1 (fun y M2 => ∃ i j, x = .int i ∧ y = .int j ∧ (f i j = false → Φ (.bl false) M2) ∧ (f i j = true → GE T tc Γ M2 (fun z M3 => ∃ l, z = .int l ∧ Φ (.bl (g j l)) M3) Ψ)) Ψ) Ψ) :
    GE T (tChain (rI0 fun i j => .bl (f i j)) (rI0 fun i j => .bl (g i j)) ta tb tc) Γ M Φ Ψ := by
  intro F H σ Q ok sl hk x
  refine h F H σ _ ok sl (fun F1 H1 M1 d v e1 ok1 r q => ?_) x
  refine q F1 H1 σ _ ok1 (sl.mono e1) (fun F2 H2 M2 d2 v2 e2 ok2 r2 q => ?_) (x.mono e1)
  obtain ⟨i, j, rfl, rfl, q1, q2⟩ := q
  cases r; cases r2
  refine ⟨i, j, rfl, rfl, f i j, rfl, ?_⟩
  cases hf : f i j with
  | true =>
    rw [if_pos rfl]
    refine q2 hf F2 H2 σ _ ok2 (sl.mono (e1.trans e2)) (fun F3 H3 M3 d3 v3 e3 ok3 r3 ⟨l, hl, q⟩ => ?_) (x.mono (e1.trans e2))
    subst hl
    cases r3
    exact ⟨j, l, rfl, rfl, hk F3 H3 M3 (.bl _) _ (e1.trans (e2.trans e3)) ok3 rfl q⟩
  | false =>
    rw [if_neg Bool.false_ne_true]
    exact hk F2 H2 M2 (.bl _) _ (e1.trans e2) ok2 rfl (q1 hf)
theorem ex_chLe (h : EX T a Γ M (fun x M1 => EX T b Γ M1 (fun y M2 => ∃ i j, x = .int i ∧ y = .int j ∧ (decide (i ≤ j) = false → Φ (.bl false) M2) ∧ (decide (i ≤ j) = true → EX T c Γ M2 (fun z M3 => ∃ l, z = .int l ∧ Φ (.bl (decide (j ≤ l))) M3) Ψ)) Ψ) Ψ)
    (hm : lastMarks [.LtE, .LtE] [b, c] = false := by rfl) : EX T (.Compare a [.LtE, .LtE] [b, c] pos) Γ M Φ Ψ := EX.mk (fun i => pe_chain op_le op_le (pe_te i) (pe_te i) (pe_te i) hm) (ge_chain (f := fun i j => decide (i ≤ j)) (g := fun i j => decide (i ≤ j)) h)
theorem tx_chLe {Φ : Bool → Ms → Prop} (h : EX T a Γ M (fun x M1 => EX T b Γ M1 (fun y M2 => ∃ i j, x = .int i ∧ y = .int j ∧ (decide (i ≤ j) = false → Φ false M2) ∧ (decide (i ≤ j) = true → EX T c Γ M2 (fun z M3 => ∃ l, z = .int l ∧ Φ (decide (j ≤ l)) M3) Ψ)) Ψ) Ψ)
    (hm : lastMarks [.LtE, .LtE] [b, c] = false := by rfl) : TX T (.Compare a [.LtE, .LtE] [b, c] pos) Γ M Φ Ψ := by
  refine TX.mk (fun i => pt_chain op_le op_le (pe_te i) (pe_te i) (pe_te i) hm) (gt_test (ge_chain (f := fun i j => decide (i ≤ j)) (g := fun i j => decide (i ≤ j)) ?_))
  refine EX.imp h (fun x M1 q => EX.imp q (fun y M2 ⟨i, j, h1, h2, h3, h4⟩ => ⟨i, j, h1, h2, fun z => ⟨_, rfl, h3 z⟩, fun z => EX.imp (h4 z) (fun d M3 ⟨l, hl, q⟩ => ⟨l, hl, _, rfl, q⟩) fun _ _ _ _ z => z⟩) fun _ _ _ _ z => z) fun _ _ _ _ z => z
/-! ### texts -/
theorem reps_strs {K : PySem.W.Frag} {F : Hp} : ∀ {xs : List Str} {vs : List V}, Reps K F (xs.map D.str) vs → vs = xs.map V.str
  | [], _, h => h
  | _ :: _, _, ⟨v, r, h1, h2, h3⟩ => by
    have h2 : v = _ := h2
    rw [h1, h2, reps_strs h3]; rfl
theorem reps_of_strs {K : PySem.W.Frag} {F : Hp} : ∀ (xs : List Str), Reps K F (xs.map D.str) (xs.map V.str)
  | [] => rfl
  | x :: xs => ⟨.str x, xs.map V.str, rfl, rfl, reps_of_strs xs⟩
theorem ge_m1 {r : V → List V → Hp → VK → Prop} {to te : TE} (h : GE T to Γ M (fun x M1 => ∃ s, x = .str s ∧ GE T te Γ M1 (fun y M2 => ∀ F H v Q, Ok T.K F H M2 → Rep T.K F y v → KE T.K F Φ Q → r (.str s) [v] H Q) Ψ) Ψ) : GE T (tM1 r to te) Γ M Φ Ψ := by
  intro F H σ Q ok sl hk x
  refine h F H σ _ ok sl (fun F1 H1 M1 d v e1 ok1 r ⟨s, hs, q⟩ => ?_) x
  subst hs
  cases r
  refine ⟨⟨s, rfl⟩, ?_⟩
  exact q F1 H1 σ _ ok1 (sl.mono e1) (fun F2 H2 M2 d2 v2 e2 ok2 r2 q => q F2 H2 v2 Q ok2 r2 (hk.mono (e1.trans e2))) (x.mono e1)
theorem ex_split {apos : Pos} (h : EX T a Γ M (fun x M1 => ∃ s, x = .str s ∧ EX T b Γ M1 (fun y M2 => ∃ t, y = .str t ∧ (t.length == 0) = false ∧ s.length + 2 ≤ sizeLine ∧ Φ (.lst ((Txt.split s t).map D.str)) M2) Ψ) Ψ)
    (hs : ∀ env, starEach [b] env = [(false, eval b env)] := by intro _; rfl) (hbase : ∀ env, attributeBase a "split" env (eval a env) = eval a env := by intro _; rfl) (hline : (apos.endLine == pos.line) = true := by rfl) : EX T (.Call (.Attribute a "split" apos) [b] [] pos) Γ M Φ Ψ := by
  refine EX.mk (fun i => pe_split (pe_te i) (pe_te i) (hs _) (hbase _) hline) (ge_m1 (EX.imp h (fun x M1 ⟨s, hx, q⟩ => ⟨s, hx, EX.imp q (fun y M2 ⟨t, hy, h1, h2, q⟩ => ?_) fun _ _ _ _ z => z⟩) fun _ _ _ _ z => z))
  intro F H v Q ok r hk
  subst hy
  cases r
  refine ⟨s, t, rfl, rfl, h1, h2, fun p hp => ?_⟩
  have e2 : Same F (upd F p (.lst ((Txt.split s t).map V.str))) := same_upd (ok.freshF hp)
  exact hk _ _ M2 (.lst _) _ e2 (ok.new hp) ⟨p, _, rfl, upd_same, reps_of_strs _⟩ q
theorem ex_starts {apos : Pos} (h : EX T a Γ M (fun x M1 => ∃ s, x = .str s ∧ EX T b Γ M1 (fun y M2 => ∃ t, y = .str t ∧ Φ (.bl (Txt.startswith s t)) M2) Ψ) Ψ)
    (hs : ∀ env, starEach [b] env = [(false, eval b env)] := by intro _; rfl) (hbase : ∀ env, attributeBase a "startswith" env (eval a env) = eval a env := by intro _; rfl) (hline : (apos.endLine == pos.line) = true := by rfl) : EX T (.Call (.Attribute a "startswith" apos) [b] [] pos) Γ M Φ Ψ := by
  refine EX.mk (fun i => pe_m1 F.slot_str_startswith F.type_str_startswith mt_startswith (pe_te i) (pe_te i) (hs _) (hbase _) hline) (ge_m1 (EX.imp h (fun x M1 ⟨s, hx, q⟩ => ⟨s, hx, EX.imp q (fun y M2 ⟨t, hy, q⟩ => ?_) fun _ _ _ _ z => z⟩) fun _ _ _ _ z => z))
  intro F H v Q ok r hk
  subst hy
  cases r
  exact ⟨s, t, rfl, rfl, hk F H M2 (.bl _) _ (Same.refl _) ok rfl q⟩
theorem ex_join (hF : Fc T k P w K mg base N sc) {apos : Pos} (h : EX T a Γ M (fun x M1 => ∃ s, x = .str s ∧ EX T b Γ M1 (fun y M2 => ∃ ys : List Str, y = .lst (ys.map D.str) ∧ (ys.map (·.length)).sum + ys.length * s.length ≤ 16777216 ∧ Φ (.str (Txt.join s ys)) M2) Ψ) Ψ)
    (hs : ∀ env, starEach [b] env = [(false, eval b env)] := by intro _; rfl) (hbase : ∀ env, attributeBase a "join" env (eval a env) = eval a env := by intro _; rfl) (hline : (apos.endLine == pos.line) = true := by rfl) : EX T (.Call (.Attribute a "join" apos) [b] [] pos) Γ M Φ Ψ := by
  refine EX.mk (t := tM1 (fun x xs H Q => ∃ a p, ∃ ys : List Str, x = .str a ∧ xs = [.ref p] ∧ (SqL T.K H p (ys.map V.str) ∨ SqT T.K H p (ys.map V.str)) ∧ (ys.map (·.length)).sum + ys.length * a.length ≤ 16777216 ∧ Q (.str (Txt.join a ys)) H) (teOf T a) (teOf T b)) (fun i => by rw [← hF.hK i]; exact pe_join (pe_te i) (pe_te i) (hs _) (hbase _) hline) (ge_m1 (EX.imp h (fun x M1 ⟨s, hx, q⟩ => ⟨s, hx, EX.imp q (fun y M2 ⟨ys, hy, h1, q⟩ => ?_) fun _ _ _ _ z => z⟩) fun _ _ _ _ z => z))
  intro F H v Q ok r hk
  subst hy
  obtain ⟨p, vs, rfl, h2, h3⟩ := r
  refine ⟨s, p, ys, rfl, rfl, .inl (.inl (.inl ?_)), h1, hk F H M2 (.str _) _ (Same.refl _) ok rfl q⟩
  rw [← reps_strs h3]
  exact ok.ex _ _ h2
/-- a part of an f-string: a text or an int -/
def fmtP (M : Ms) (Φ : PD) : D → Prop
  | .str y => y.length ≤ sizeLine ∧ Φ (.str y) M
  | .int i => i.natAbs.log2 < 1920 ∧ Φ (.str (toString i)) M
  | _ => False
theorem ex_fmt (h : EX T e Γ M (fun d M1 => fmtP M1 Φ d) Ψ) : EX T (.FormattedValue e (-1) none pos) Γ M Φ Ψ := by
  refine EX.mk (fun i => pe_fmt (pe_te i)) ?_
  intro F H σ Q ok sl hk x
  refine h F H σ _ ok sl (fun F1 H1 M1 d v e1 ok1 r q => ?_) x
  cases d with
  | str y => cases r; exact .inl ⟨y, rfl, q.1, hk F1 H1 M1 (.str _) _ e1 ok1 rfl q.2⟩
  | int y => cases r; exact .inr ⟨y, rfl, q.1, hk F1 H1 M1 (.str _) _ e1 ok1 rfl q.2⟩
  | _ => exact False.elim q
/-- the parts of an f-string, joined to acc -/
def JX (T : Fm ι) : List Expr → Str → Gm → Ms → PD → PX → Prop
  | [], acc, Γ, M, Φ, Ψ => Φ (.str acc) M
  | e :: es, acc, Γ, M, Φ, Ψ => EX T e Γ M (fun d M1 => ∃ y, d = .str y ∧ (acc ++ y).length ≤ sizeLine ∧ JX T es (acc ++ y) Γ M1 Φ Ψ) Ψ
theorem pj_te (i : ι) : ∀ es : List Expr, PJ (T.X i) es (es.map (teOf T))
  | [] => .nil
  | e :: es => .cons (pe_te i) (pj_te i es)
theorem gj_run : ∀ {es : List Expr} {acc : Str} {Γ : Gm} {M : Ms}, JX T es acc Γ M Φ Ψ → ∀ F H σ Q, Ok T.K F H M → Sl T.K F σ Γ → KE T.K F Φ Q → KX T.K F Ψ (fun c d H => T.w c d σ H) → tJs (es.map (teOf T)) acc σ H fun out H1 => Q (.str out) H1
  | [], acc, Γ, M, h, F, H, σ, Q, ok, sl, hk, x => hk F H M (.str acc) _ (Same.refl _) ok rfl h
  | e :: es, acc, Γ, M, h, F, H, σ, Q, ok, sl, hk, x => by
    refine h F H σ _ ok sl (fun F1 H1 M1 d v e1 ok1 r ⟨y, hd, hl, q⟩ => ?_) x
    subst hd
    exact ⟨y, r, hl, gj_run q F1 H1 σ Q ok1 (sl.mono e1) (hk.mono e1) (x.mono e1)⟩
theorem ex_joined {v1 v2 : Expr} {rest : List Expr} (h : JX T (v1 :: v2 :: rest) Str.empty Γ M Φ Ψ) : EX T (.JoinedStr (v1 :: v2 :: rest) pos) Γ M Φ Ψ :=
  EX.mk (fun i => pe_joined (pj_te i _)) (fun F H σ Q ok sl hk x => gj_run h F H σ Q ok sl hk x)
/-! ### a text walked, sign by sign -/
def signsD (z : Str) : List Da := z.cps.toList.map fun c => .str ⟨#[c]⟩
end
end G
set_option Elab.async false
set_option linter.all false
set_option maxRecDepth 100000
/-! GBlt3: an empty dict, a text times a number, walks over a text and over zip. -/
namespace G
open PySem PySem.Spec PyProof.Rows L2
section
variable {ι : Type} {T : Fm ι} {k : Nat} {P : Program} {w : World} {K : PySem.W.Frag} {mg : Str → Option Value} {base : Heap} {N : List Str} {sc : Scope} {Γ : Gm} {M : Ms} {Φ : PD} {Ψ : PX}
variable {e a b c tg iter : Expr} {es elts : List Expr} {pos p p1 p2 p3 p4 tpos : Pos} {kk : Nat} {Θ : Thi}
/-- {} -/
theorem ex_dict0 (h : Φ (.dic [] []) M) : EX T (.Dict [] [] pos) Γ M Φ Ψ := by
  refine EX.mk (fun i => pe_dnewK) ?_
  intro F H σ Q ok sl q x p hp
  have e2 : Same F (upd F p (.dK [])) := same_upd (ok.freshF hp)
  exact q _ _ M (.dic [] []) _ e2 (ok.new hp) ⟨p, [], rfl, upd_same, rfl, rfl⟩ h
/-- a text, n times -/
def repS (z : Str) (n : Nat) : Str := ⟨(List.replicate n z.cps).foldl (· ++ ·) #[]⟩
theorem repS_tl (z : Str) (n : Nat) : (repS z n).cps.toList = (List.replicate n z.cps.toList).flatten := by
  have : ∀ (k : Nat) (acc : Array Nat), ((List.replicate k z.cps).foldl (· ++ ·) acc).toList = acc.toList ++ (List.replicate k z.cps.toList).flatten := by
    intro k
    induction k with
    | zero => intro acc; simp
    | succ k ih => intro acc; rw [List.replicate_succ, List.foldl_cons, ih, List.replicate_succ]; simp
  unfold repS
  rw [this]; simp
theorem repS_len (z : Str) (n : Nat) : (repS z n).length = n * z.length := by
  have h := congrArg List.length (repS_tl z n)
  simpa [Str.length] using h
theorem op_rep {X : Cx} : OpR X (binaryOp .Mult) (fun x y H Q => ∃ (z : Str) (n : Int), x = .str z ∧ y = .int n ∧ 2 ≤ n ∧ n ≤ 1000 ∧ 1 ≤ z.length ∧ z.length ≤ 1000 ∧ Q (.str (repS z n.toNat)) H) := by
  rintro pins s σ H x y v u Q I rx ry ⟨z, n, rfl, rfl, h1, h2, h3, h4, q⟩
  obtain ⟨t, rfl⟩ := rx
  obtain ⟨t', rfl⟩ := ry
  have hz : (n == 1 || z.length == 0) = false := by
    rw [beq_eq_false_iff_ne.mpr (show n ≠ 1 by omega), beq_eq_false_iff_ne.mpr (show z.length ≠ 0 by omega)]; rfl
  have hlen : z.length * n.toNat ≤ 1000000 := by
    have : n.toNat ≤ 1000 := by omega
    exact Nat.le_trans (Nat.mul_le_mul h4 this) (by decide)
  refine P.mul_str ?_ (fun _ _ => ?_) (fun _ _ => ?_) ?_
  · rw [decide_eq_false (by omega), decide_eq_false (by omega)]; rfl
  · have h5 : (2 ^ 63 - 1 : Int) / n ≥ (2 ^ 63 - 1) / 1000 := by
      have : (2 ^ 63 - 1 : Int) / 1000 * n ≤ 2 ^ 63 - 1 := by
        have : (2 ^ 63 - 1 : Int) / 1000 * n ≤ (2 ^ 63 - 1) / 1000 * 1000 := Int.mul_le_mul_of_nonneg_left h2 (by decide)
        have e : (2 ^ 63 - 1 : Int) / 1000 * 1000 ≤ 2 ^ 63 - 1 := by decide
        omega
      exact (Int.le_ediv_iff_mul_le (by omega)).mpr this
    have h6 : (2 ^ 63 - 1 : Int) / 1000 ≥ 1000 := by decide
    omega
  · unfold Builtin.Str.tooLong
    rw [decide_eq_false]
    rw [sizeLine_eq]; omega
  · rw [if_neg (by omega), if_neg (by rw [hz]; decide)]
    refine ⟨?_, ⟨.str (repS z n.toNat), H, I.tok _, ⟨_, rfl⟩, q⟩⟩
    have := repS_len z n.toNat
    rw [sizeLine_eq]
    show (repS z n.toNat).length ≤ _
    rw [this, Nat.mul_comm]; omega
def mulSP (M : Ms) (Φ : PD) : D → D → Prop
  | .str z, .int n => 2 ≤ n ∧ n ≤ 1000 ∧ 1 ≤ z.length ∧ z.length ≤ 1000 ∧ Φ (.str (repS z n.toNat)) M
  | _, _ => False
theorem ex_mulS (h : EX T a Γ M (fun x M1 => EX T b Γ M1 (fun y M2 => mulSP M2 Φ x y) Ψ) Ψ) : EX T (.BinOp a .Mult b pos) Γ M Φ Ψ := by
  refine ex_opG (R := mulSP) (fun i => op_rep) (fun x y M Φ q => ?_) h
  intro F H vx vy Q ok rx ry hk
  cases x <;> cases y <;> first | exact False.elim q | skip
  cases rx; cases ry
  exact ⟨_, _, rfl, rfl, q.1, q.2.1, q.2.2.1, q.2.2.2.1, hk F H M (.str _) _ (Same.refl F) ok rfl q.2.2.2.2⟩

/-! ### a text walked -/
theorem itd_s {F : Hp} {x : Str} : ItD K (fun _ => True) (Its x) F (signsD x) where
  go := fun i F' H M e ok _ hi => by
    have hi : i < (signsD x).length := hi
    rw [show (signsD x).length = x.cps.size by simp [signsD]] at hi
    exact hi
  stop := fun i F' H M e ok _ hi => by
    rw [show (signsD x).length = x.cps.size by simp [signsD]] at hi
    exact hi
  yld := fun i F' H M v H' e ok _ y => by
    obtain ⟨rfl, c, h1, rfl⟩ := y
    refine ⟨F', Same.refl _, ok, fun d hd => ?_⟩
    unfold signsD at hd
    rw [List.getElem?_map, Array.getElem?_toList, h1] at hd
    cases hd
    exact rfl
theorem ix_str (h : EX T iter Γ M (fun d M1 => ∃ x, d = .str x ∧ Θ (signsD x) (fun _ => True) M1) Ψ) : IX T tg iter Γ M Θ Ψ := by
  refine IX.mk (wi := iStr (teOf T iter)) (fun i => pi_str (pe_te i)) ?_
  intro F H σ R ok sl q x
  refine h F H σ _ ok sl (fun F1 H1 M1 d v e1 ok1 r z => ?_) x
  obtain ⟨y, rfl, z⟩ := z
  cases r
  exact ⟨y, rfl, q F1 H1 M1 _ _ _ e1 ok1 itd_s z⟩

/-! ### zip of two lists or two tuples -/
def zipDs (xs ys : List D) : List D := List.zipWith (fun a b => .tup [a, b]) xs ys
theorem zipDs_get {xs ys : List D} {i : Nat} {d : D} (h : (zipDs xs ys)[i]? = some d) : ∃ a b, xs[i]? = some a ∧ ys[i]? = some b ∧ d = .tup [a, b] := by
  unfold zipDs at h
  rw [List.getElem?_zipWith] at h
  cases h1 : xs[i]? with
  | none => rw [h1] at h; cases h
  | some a =>
    cases h2 : ys[i]? with
    | none => rw [h1, h2] at h; cases h
    | some b =>
      rw [h1, h2] at h
      cases h
      exact ⟨a, b, rfl, rfl, rfl⟩
theorem zip_yld {F F' H H' : Hp} {M : Ms} {xs ys : List D} {us vs : List V} {i : Nat} {v : V} {W1 W2 : List V → Prop} (e : Same F F') (ok : Ok K F' H M) (r1 : Reps K F xs us) (r2 : Reps K F ys vs) (h1 : W1 us) (h2 : W2 vs)
    (y : ∃ T x y, v = .ref T ∧ H T = none ∧ H' = upd H T (.tup [x, y]) ∧ (∀ xs, W1 xs → xs[i]? = some x) ∧ ∀ ys, W2 ys → ys[i]? = some y) : ∃ F2, Same F' F2 ∧ Ok K F2 H' M ∧ ∀ d, (zipDs xs ys)[i]? = some d → Rep K F2 d v := by
  obtain ⟨t, x, z, rfl, hT, rfl, g1, g2⟩ := y
  have e2 : Same F' (upd F' t (.tup [x, z])) := same_upd (ok.freshF hT)
  refine ⟨_, e2, ok.new hT, fun d hd => ?_⟩
  obtain ⟨a, b, h3, h4, rfl⟩ := zipDs_get hd
  exact ⟨t, [x, z], rfl, .inl (.inl upd_same), .cons ((reps_ix r1 (g1 _ h1) a h3).mono (e.trans e2)) (Reps.one ((reps_ix r2 (g2 _ h2) b h4).mono (e.trans e2)))⟩
theorem zipDs_len (xs ys : List D) : (zipDs xs ys).length = min xs.length ys.length := by simp [zipDs]
theorem itd_zl {F : Hp} {a b : Addr} {xs ys : List D} {us vs : List V} (h1 : ∀ F' H M, Same F F' → Ok K F' H M → SqL K H a us) (h2 : ∀ F' H M, Same F F' → Ok K F' H M → SqL K H b vs) (r1 : Reps K F xs us) (r2 : Reps K F ys vs) : ItD K (fun _ => True) (Itz K a b) F (zipDs xs ys) where
  go := fun i F' H M e ok _ hi => by
    rw [zipDs_len] at hi
    exact ⟨us, vs, us[i]'(by rw [r1.length]; omega), vs[i]'(by rw [r2.length]; omega), h1 F' H M e ok, h2 F' H M e ok, List.getElem?_eq_getElem _, List.getElem?_eq_getElem _⟩
  stop := fun i F' H M e ok _ hi => by
    rw [zipDs_len] at hi
    exact ⟨us, vs, h1 F' H M e ok, h2 F' H M e ok, by rw [r1.length, r2.length]; omega⟩
  yld := fun i F' H M v H' e ok _ y => zip_yld (W1 := fun q => SqL K H a q) (W2 := fun q => SqL K H b q) e ok r1 r2 (h1 F' H M e ok) (h2 F' H M e ok) y
theorem itd_zt {F : Hp} {a b : Addr} {xs ys : List D} {us vs : List V} (h1 : ∀ F' H M, Same F F' → Ok K F' H M → SqT K H a us) (h2 : ∀ F' H M, Same F F' → Ok K F' H M → SqT K H b vs) (r1 : Reps K F xs us) (r2 : Reps K F ys vs) : ItD K (fun _ => True) (RZ.ItzT K a b) F (zipDs xs ys) where
  go := fun i F' H M e ok _ hi => by
    rw [zipDs_len] at hi
    exact ⟨us, vs, us[i]'(by rw [r1.length]; omega), vs[i]'(by rw [r2.length]; omega), h1 F' H M e ok, h2 F' H M e ok, List.getElem?_eq_getElem _, List.getElem?_eq_getElem _⟩
  stop := fun i F' H M e ok _ hi => by
    rw [zipDs_len] at hi
    exact ⟨us, vs, h1 F' H M e ok, h2 F' H M e ok, by rw [r1.length, r2.length]; omega⟩
  yld := fun i F' H M v H' e ok _ y => zip_yld (W1 := fun q => SqT K H a q) (W2 := fun q => SqT K H b q) e ok r1 r2 (h1 F' H M e ok) (h2 F' H M e ok) y
/-- a list's items -/
def lstD : D → Option (List D)
  | .lst ds => some ds
  | .rol ds => some ds
  | _ => none
theorem lstD_of {F : Hp} {d : D} {ds : List D} {v : V} (h : lstD d = some ds) (r : Rep K F d v) : ∃ a vs, v = .ref a ∧ (∀ F' H M, Same F F' → Ok K F' H M → SqL K H a vs) ∧ Reps K F ds vs := by
  cases d <;> first | exact nomatch (show (none : Option (List D)) = some ds from h) | skip
  · cases h
    obtain ⟨a, vs, rfl, h1, r⟩ := r
    exact ⟨a, vs, rfl, fun F' H M e ok => .inl (.inl (ok.ex _ _ (e _ _ h1))), r⟩
  · cases h
    obtain ⟨a, vs, rfl, h1, r⟩ := r
    exact ⟨a, vs, rfl, fun F' H M e ok => ok.ex.seq (e.seq h1), r⟩
def zipP (Θ : Thi) (M : Ms) (x y : D) : Prop := (∃ xs ys, lstD x = some xs ∧ lstD y = some ys ∧ Θ (zipDs xs ys) (fun _ => True) M) ∨ ∃ xs ys, x = .tup xs ∧ y = .tup ys ∧ Θ (zipDs xs ys) (fun _ => True) M
theorem ix_zip (hF : Fc T k P w K mg base N sc) (hm : mg "zip" = none) (h : AX T [a, b] Γ M (fun ds M1 => ∃ x y, ds = [x, y] ∧ zipP Θ M1 x y) Ψ) (hg : sc.names.lookup ("zip" : Str) = some .globalImplicit := by rfl)
    (hs : ∀ env, starEach [a, b] env = (false, eval a env) :: starEach [b] env := by intro _; rfl) (hpl : ∀ env, (backTo pos (starEach [b] env)).any (·.1) = false := by intro _; rfl) : IX T (.Tuple elts kk tpos) (.Call (.Name "zip" p) [a, b] [] pos) Γ M Θ Ψ := by
  refine IX.mk (wi := RZ.iZipA T.K (taOf T [a, b])) (fun i => by rw [← hF.hK i]; exact RZ.pi_zipA (by show (T.X i).env.scope.names.lookup _ = _; rw [hF.hs]; exact hg) (by rw [hF.hmg]; exact hm) (pa_ta i) (hs _) (hpl _)) ?_
  intro F H σ R ok sl q x
  refine h F H σ _ ok sl (fun F1 H1 M1 ds vs e1 ok1 r z => ?_) x
  obtain ⟨x, y, rfl, z⟩ := z
  obtain ⟨vx, vr, rfl, rx, vy, vr2, rfl, ry, hv⟩ := r
  have hv : vr2 = [] := hv
  subst hv
  rcases z with ⟨xs, ys, hx, hy, z⟩ | ⟨xs, ys, rfl, rfl, z⟩
  · obtain ⟨p1, us, rfl, g1, r1⟩ := lstD_of hx rx
    obtain ⟨p2, ws, rfl, g2, r2⟩ := lstD_of hy ry
    exact ⟨p1, p2, us, ws, rfl, .inl ⟨g1 F1 H1 M1 (Same.refl _) ok1, g2 F1 H1 M1 (Same.refl _) ok1, q F1 H1 M1 _ _ _ e1 ok1 (itd_zl g1 g2 r1 r2) z⟩⟩
  · obtain ⟨p1, us, rfl, g1, r1⟩ := rx
    obtain ⟨p2, ws, rfl, g2, r2⟩ := ry
    have g1' : ∀ F' H M, Same F1 F' → Ok T.K F' H M → SqT T.K H p1 us := fun F' H M e ok => same_t ok.ex (same_t e g1)
    have g2' : ∀ F' H M, Same F1 F' → Ok T.K F' H M → SqT T.K H p2 ws := fun F' H M e ok => same_t ok.ex (same_t e g2)
    exact ⟨p1, p2, us, ws, rfl, .inr ⟨g1' F1 H1 M1 (Same.refl _) ok1, g2' F1 H1 M1 (Same.refl _) ok1, q F1 H1 M1 _ _ _ e1 ok1 (itd_zt g1' g2' r1 r2) z⟩⟩
end
end G
set_option Elab.async false
set_option linter.all false
set_option maxRecDepth 100000
/-! GObj: instances of the program's own classes on data: fields, makes, methods, properties, staticmethods, own ==, isinstance. -/
namespace G
open PySem PySem.Spec PyProof.Rows L2

/-! ### fields -/
def lkD (ns : List Str) (ds : List D) (f : Str) : Option D := (ns.zip ds).lookup f
theorem reps_lk {K : PySem.W.Frag} {F : Hp} {f : Str} {d : D} : ∀ {ns : List Str} {ds : List D} {vs : List V}, Reps K F ds vs → lkD ns ds f = some d → ∃ v, (ns.zip vs).lookup f = some v ∧ Rep K F d v
  | [], _, _, _, h => by cases h
  | _ :: _, [], _, _, h => by cases h
  | n :: ns, x :: ds, _, ⟨v, r, h1, h2, h3⟩, h => by
    subst h1
    have h : List.lookup f ((n, x) :: ns.zip ds) = some d := h
    rw [List.lookup_cons] at h
    show ∃ v', List.lookup f ((n, v) :: ns.zip r) = some v' ∧ _
    rw [List.lookup_cons]
    cases hx : f == n with
    | true => rw [hx] at h; cases h; exact ⟨v, rfl, h2⟩
    | false => rw [hx] at h; exact reps_lk h3 h
theorem lk_none {f : Str} : ∀ {ns : List Str} {vs : List V}, f ∉ ns → (ns.zip vs).lookup f = none
  | [], _, _ => rfl
  | _ :: _, [], _ => rfl
  | n :: ns, v :: vs, h => by
    show List.lookup f ((n, v) :: ns.zip vs) = none
    have hne : (f == n) = false := beq_eq_false_iff_ne.mpr fun e => h (by rw [e]; exact List.mem_cons_self)
    rw [List.lookup_cons, hne]
    exact lk_none fun z => h (List.mem_cons_of_mem _ z)
/-- a field is set: the names, the data -/
def putD (f : Str) (d : D) : List Str → List D → List Str × List D
  | n :: ns, x :: ds => if n = f then (n :: ns, d :: ds) else (n :: (putD f d ns ds).1, x :: (putD f d ns ds).2)
  | _, _ => ([f], [d])
theorem putF_rep {K : PySem.W.Frag} {F : Hp} {f : Str} {d : D} {v : V} (hd : Rep K F d v) : ∀ {ns : List Str} {ds : List D} {vs : List V}, ns.length = ds.length → Reps K F ds vs →
    ∃ us, putF f v (ns.zip vs) = (putD f d ns ds).1.zip us ∧ (putD f d ns ds).1.length = (putD f d ns ds).2.length ∧ Reps K F (putD f d ns ds).2 us
  | [], [], _, _, r => by
    have r : _ = [] := r
    subst r
    exact ⟨[v], rfl, rfl, Reps.one hd⟩
  | n :: ns, x :: ds, _, hl, ⟨u, r, h1, h2, h3⟩ => by
    subst h1
    by_cases e : n = f
    · refine ⟨v :: r, ?_, ?_, ?_⟩
      · show putF f v ((n, u) :: ns.zip r) = _
        unfold putF putD
        rw [if_pos e, if_pos e]; rfl
      · unfold putD; rw [if_pos e]; exact hl
      · unfold putD; rw [if_pos e]; exact .cons hd h3
    · obtain ⟨us, q1, q2, q3⟩ := putF_rep hd (ns := ns) (ds := ds) (by simpa using hl) h3
      refine ⟨u :: us, ?_, ?_, ?_⟩
      · show putF f v ((n, u) :: ns.zip r) = _
        unfold putF putD
        rw [if_neg e, if_neg e, q1]; rfl
      · unfold putD; rw [if_neg e]; simp [q2]
      · unfold putD; rw [if_neg e]; exact .cons h2 q3
  | [], _ :: _, _, hl, _ => by cases hl
  | _ :: _, [], _, hl, _ => by cases hl

/-- the class at C, and names of fields that no class of it has -/
structure OCls (K : PySem.W.Frag) (C : Addr) (fs : List Str) : Prop where
  cls : Cls K C
  na : ∀ f ∈ fs, NoAttr K C f

/-- an instance's data, frozen or not -/
def insP (C : Addr) (M : Ms) (R : List Str → List D → Prop) : D → Prop
  | .ins C' ns ds => C' = C ∧ R ns ds
  | .ref p => ∃ ns ds, M p = some (.ins C ns ds) ∧ R ns ds
  | _ => False
theorem insP_of {K : PySem.W.Frag} {F H : Hp} {M : Ms} {C : Addr} {R : List Str → List D → Prop} {x : D} {v : V} (ok : Ok K F H M) (r : Rep K F x v) (h : insP C M R x) :
    ∃ a dx ns ds vs, v = .ref a ∧ H a = some (.ins C dx (ns.zip vs)) ∧ ns.length = ds.length ∧ Reps K F ds vs ∧ R ns ds := by
  cases x <;> first | exact False.elim h | skip
  · obtain ⟨ns, ds, hm, q⟩ := h
    cases r
    obtain ⟨_, dx, vs, hp, hl, rs⟩ := ok.mu _ _ hm
    exact ⟨_, dx, ns, ds, vs, rfl, hp, hl, rs, q⟩
  · obtain ⟨rfl, q⟩ := h
    obtain ⟨a, dx, vs, rfl, hp, hl, rs⟩ := r
    exact ⟨a, dx, _, _, vs, rfl, ok.ex _ _ hp, hl, rs, q⟩

section
variable {ι : Type} {T : Fm ι} {k : Nat} {P : Program} {w : World} {K : PySem.W.Frag} {mg : Str → Option Value} {base : Heap} {N : List Str} {sc : Scope} {Γ : Gm} {M : Ms} {Φ : PD} {Ψ : PX}
variable {e a b c o : Expr} {es : List Expr} {pos p p1 p2 p3 p4 apos : Pos} {f m : Str} {C : Addr} {fs : List Str}

/-- e.f, a field -/
theorem ex_fld (hF : Fc T k P w K mg base N sc) (oc : OCls K C fs) (h : EX T e Γ M (fun x M1 => insP C M1 (fun ns ds => ∃ d, lkD ns ds f = some d ∧ Φ d M1) x) Ψ) (hf : f ∈ fs := by decide)
    (hb : ∀ env, attributeBase e f env (eval e env) = eval e env := by intro _; rfl) : EX T (.Attribute e f pos) Γ M Φ Ψ := by
  rw [← hF.hT] at oc
  refine EX.mk (t := tFld T.K (teOf T e) f) (fun i => by rw [← hF.hK i]; exact pe_fld (pe_te i) (hb _)) ?_
  intro F H σ Q ok sl q x
  refine h F H σ _ ok sl (fun F1 H1 M1 d v e1 ok1 r z => ?_) x
  obtain ⟨a, dx, ns, ds, vs, rfl, ha, hl, rs, d, hd, z⟩ := insP_of ok1 r z
  obtain ⟨v, hv, rv⟩ := reps_lk rs hd
  exact ⟨a, C, dx, _, v, rfl, ha, oc.cls, oc.na f hf, hv, q F1 H1 M1 d v e1 ok1 rv z⟩
/-- o.f = e, o an instance that may change -/
theorem sx_fld {D : GEnds} {pos' : Pos} (hF : Fc T k P w K mg base N sc) (oc : OCls K C fs)
    (h : EX T e Γ M (fun y M1 => EX T o Γ M1 (fun x M2 => ∃ p ns ds, x = .ref p ∧ M2 p = some (.ins C ns ds) ∧ ns.length < 900 ∧ D.nx Γ (um M2 p (.ins C (putD f y ns ds).1 (putD f y ns ds).2))) (D.ex Γ)) (D.ex Γ)) (hf : f ∈ fs := by decide)
    (hs : ∀ env, swapsWith e (some (.Attribute o f pos')) pos.line env = pure false := by intro _; rfl) : SX T (.Assign [.Attribute o f pos'] e pos) Γ M D := by
  rw [← hF.hT] at oc
  refine SX.mk (t := sFld T.K (teOf T o) (teOf T e) f) (fun i => by rw [← hF.hK i]; exact ps_fld (pe_te i) (pe_te i) (hs _)) ?_
  intro F H σ E ok sl q
  refine h F H σ _ ok sl (fun F1 H1 M1 y vy e1 ok1 r1 z1 => ?_) (q.kx sl)
  refine z1 F1 H1 σ _ ok1 (sl.mono e1) (fun F2 H2 M2 x vx e2 ok2 r2 z2 => ?_) ((q.mono e1).kx (sl.mono e1))
  obtain ⟨p, ns, ds, rfl, hm, hl, z⟩ := z2
  cases r2
  obtain ⟨_, dx, vs, hp, hl2, rs⟩ := ok2.mu _ _ hm
  obtain ⟨us, q1, q2, q3⟩ := putF_rep (f := f) (r1.mono e2) hl2 rs
  refine ⟨p, C, dx, _, rfl, hp, oc.cls, oc.na f hf, ?_, ?_⟩
  · have := List.length_zip (l₁ := ns) (l₂ := vs); omega
  · rw [q1]
    exact q.nx F2 Γ _ σ _ (e1.trans e2) (ok2.write (u := .ins C _ _) hm ⟨dx, us, upd_same, q2, q3⟩) (sl.mono (e1.trans e2)) z

/-! ### keywords' values -/
def tkOf (T : Fm ι) (kws : List Keyword) : TA := fun σ H Q => ∀ i (pos : Pos) pins s, Inv (T.X i) pins σ H s → wpAny (model (T.X i).prog (T.X i).w) (T.X i).A (evalAll ((backToKw pos (keywordEach kws (T.X i).env)).map (·.2))) (AP (T.X i) pins σ Q) (T.X i).xe s
theorem pk_tk {kws : List Keyword} (i : ι) : PK (T.X i) kws (tkOf T kws) := ⟨fun pos pins s _ _ _ I h => h i pos pins s I⟩
def KAX (T : Fm ι) (kws : List Keyword) (Γ : Gm) (M : Ms) (Φ : List D → Ms → Prop) (Ψ : PX) : Prop := GA T (tkOf T kws) Γ M Φ Ψ
theorem kax_nil {Φ : List D → Ms → Prop} (h : Φ [] M) : KAX T [] Γ M Φ Ψ := fun F H σ Q ok sl q x i pos pins s I => pk_nil.run pos pins s σ H Q I (ga_nil h F H σ Q ok sl q x)
theorem kax_cons {nm : Option Str} {kws : List Keyword} {Φ : List D → Ms → Prop} (h : EX T e Γ M (fun x M1 => KAX T kws Γ M1 (fun xs M2 => Φ (x :: xs) M2) Ψ) Ψ) : KAX T (⟨nm, e, p⟩ :: kws) Γ M Φ Ψ := fun F H σ Q ok sl q x i pos pins s I =>
  (pk_cons (pe_te (T := T) i) (pk_tk i)).run pos pins s σ H Q I (ga_cons h F H σ Q ok sl q x)

/-! ### a new instance -/
theorem Ok.side {K : PySem.W.Frag} {F H : Hp} {M : Ms} {p : Addr} {u : HO} (ok : Ok K F H M) (h : H p = none) : Ok K F (upd H p u) M := by
  refine ⟨same_upd2 ok.ex (ok.freshF h), fun q v e => ?_⟩
  obtain ⟨h1, h2⟩ := ok.mu q v e
  have hq : q ≠ p := fun z => by
    obtain ⟨w, hw⟩ := h2.some
    rw [z, h] at hw; cases hw
  exact ⟨h1, h2.mono (Same.refl F) (upd_ne hq)⟩
end
section
variable {X : Cx} {hot : Bool} {k n : Nat} {f C : Addr} {fd : FuncData} {ps ks : List Str} {sp : Sp} {E : L2.St → XK} {x m : Str} {q pos apos : Pos} {e o : Expr} {es : List Expr} {kws : List Keyword} {ta : TE} {t tk : TA}
theorem RoomM.make {A : Around} (r : RoomM hot (k + 1) A) (C : Addr) (us : List Value) (kw : List (Str × Value)) : RoomM hot k (A.under (.builtin "type.__call__" ⟨.ref C :: us, kw⟩)) := by
  refine ⟨⟨?_, ?_⟩, r.hd⟩
  · have := r.rm.dp; rw [make_depth]; omega
  · have := r.rm.un; rw [make_units]; omega
theorem RoomM.in1 {A : Around} (r : RoomM hot (k + 1) A) : RoomM hot k A.in1 := by
  refine ⟨⟨?_, ?_⟩, r.hd⟩
  · have := r.rm.dp; show A.depth + 3 * k + 5 < _; omega
  · have := r.rm.un; show A.units + 1 + 16 * k + 200 < _; omega
/-- C(..): the class at C called, the arguments bound to zs -/
theorem run_mkM {pins : List (Addr × Obj)} {σ : L2.St} {H : Hp} {s : Shared} {Q : VK} {us : List Value} {kw : List (Str × Value)} {vs : List V} {zs : List Value} (mk : Mk X.K C f) (F : FnM hot X.prog X.w X.K X.mg X.base k f fd ps sp) (hr : RoomM hot (k + 1) X.A)
    (hx : PassesAt (L2.CX X.prog X.w) X σ (E σ)) (bt : ∀ (s : Shared) (a : Value), X.K.In s.heap → BindsTo s fd ⟨a :: us, kw⟩ (ps.zip (a :: zs))) (I : Inv X pins σ H s) (r : Vals vs zs)
    (h : ∀ x dx, H x = none → H dx = none → dx ≠ x → sp (.ref x :: vs) (upd (upd H dx (.own x)) x (.ins C dx [])) (fun v H2 => v = .non ∧ Q (.ref x) H2) (E σ)) :
    wpAny (model X.prog X.w) X.A (call (.ref C) us kw) (EP X pins σ Q) X.xe s := by
  have two := I.made (C := C)
  have go := h (s.heap.objs.size + 1) s.heap.objs.size (I.hok.fresh (Nat.le_succ _)) (I.hok.fresh (Nat.le_refl _)) (Nat.ne_of_lt (Nat.lt_succ_self _))
  have run := F.run _ X.stack _ _ ⟨.ref (s.heap.objs.size + 1) :: us, kw⟩ _ _ _ _ (hr.make C us kw) (two.env0.make C us kw) (bt _ _ two.kIn) (Paired.cons (F := RelV) (a := V.ref (s.heap.objs.size + 1)) rfl r) go
  refine wpAny_call (make_map (f := f) I.kIn mk.makes mk.init (beq_iff_eq.mp mk.fn) (codeAny_mono run fun res sE z => ?_))
  match res, z with
  | .error err, z => exact hx pins _ _ err sE two z
  | .ok (.ret u), z =>
    obtain ⟨v, H3, I3, rv, ev, y⟩ := two.after z
    subst ev
    exact ⟨rv, .ref (s.heap.objs.size + 1), H3, I3, rfl, y⟩
def tMkM (C : Addr) (sp : Sp) (E : L2.St → XK) (t : TA) : TE := fun σ H Q => t σ H fun vs H1 => ∀ x dx, H1 x = none → H1 dx = none → dx ≠ x → sp (.ref x :: vs) (upd (upd H1 dx (.own x)) x (.ins C dx [])) (fun v H2 => v = .non ∧ Q (.ref x) H2) (E σ)
theorem pe_mkM (mk : Mk X.K C f) (F : FnM hot X.prog X.w X.K X.mg X.base k f fd ps sp) (hr : RoomM hot (k + 1) X.A) (hg : Gl X x) (hm : X.mg x = some (.ref C)) (hb : Binds X.K fd ps []) (hx : ∀ σ, PassesAt (L2.CX X.prog X.w) X σ (E σ))
    (ha : PA X (e :: es) t) (hdb : (x == ("__debug__" : Str)) = false) (he : starEach (e :: es) X.env = (false, eval e X.env) :: starEach es X.env) (hpl : (backTo pos (starEach es X.env)).any (·.1) = false) :
    PE X (.Call (.Name x q) (e :: es) [] pos) (tMkM C sp E t) := ⟨fun pins s σ H Q I h =>
  wpAny_Call_Name_kw (ld_glob I hg hm (PySem.W.callWith_K (h₀ := X.base) I.ok.mod.kin mk.kp (thn (ha.run pos pins s σ H _ I h) fun us s1 z => by
    obtain ⟨vs, H1, I1, r, y⟩ := z
    refine ⟨I1.kIn, run_mkM mk F hr (hx σ) (fun s2 a k2 => ?_) I1 r y⟩
    have hl : ((a :: us) ++ []).length = ps.length := by
      have q0 := F.len _ _ _ _ (y (s1.heap.objs.size + 1) s1.heap.objs.size (I1.hok.fresh (Nat.le_succ _)) (I1.hok.fresh (Nat.le_refl _)) (Nat.ne_of_lt (Nat.lt_succ_self _)))
      rw [List.append_nil, List.length_cons, ← r.length]
      exact q0
    have bt := hb s2 (a :: us) k2 hl
    rwa [List.append_nil] at bt) he hpl) hdb)⟩
/-- keywords alone: C(k = v, ..), in the parameters' order -/
theorem pe_mkKM (mk : Mk X.K C f) (F : FnM hot X.prog X.w X.K X.mg X.base k f fd ps sp) (hr : RoomM hot (k + 1) X.A) (hg : Gl X x) (hm : X.mg x = some (.ref C)) (hb : KBn X.K fd ps 1 ks (fun us ws => us ++ ws) (fun vs zs => vs ++ zs)) (hx : ∀ σ, PassesAt (L2.CX X.prog X.w) X σ (E σ))
    (hkw : PK X kws tk) (hall : (backToKw pos (keywordEach kws X.env)).all (·.1.isSome) = true) (hks : (backToKw pos (keywordEach kws X.env)).filterMap (·.1) = ks)
    (hdb : (x == ("__debug__" : Str)) = false) (hpl : (backToKw pos (keywordEach kws X.env)).any (·.1.isNone) = false) (hlen : ps.length = ks.length + 1) :
    PE X (.Call (.Name x q) [] kws pos) (tMkM C sp E tk) := ⟨fun pins s σ H Q I h => by
  have hpl2 : ((backTo pos (starEach [] X.env)).any (·.1) || (backToKw pos (keywordEach kws X.env)).any (·.1.isNone)) = false := hpl
  refine wpAny_Call_Name_kw (ld_glob I hg hm (PySem.W.callWith_KW0 (h₀ := X.base) I.ok.mod.kin mk.kp hall (thn (hkw.run pos pins s σ H _ I h) fun ws s1 z => ?_) hpl2) hdb)
  obtain ⟨zs, H1, I1, r, y⟩ := z
  refine ⟨I1.kIn, ?_⟩
  rw [hks]
  refine run_mkM (us := []) mk F hr (hx σ) (fun s2 a k2 => hb.to s2 [a] ws k2 rfl ?_) I1 r y
  have q0 := F.len _ _ _ _ (y (s1.heap.objs.size + 1) s1.heap.objs.size (I1.hok.fresh (Nat.le_succ _)) (I1.hok.fresh (Nat.le_refl _)) (Nat.ne_of_lt (Nat.lt_succ_self _)))
  rw [List.length_cons] at q0
  have := r.length
  omega⟩

/-! ### methods -/
theorem pe_methM0 {pl : Sem Bool} (he : PE X o ta) (c : Cls X.K C) (hm : Meth X.K C m f) (F : FnM hot X.prog X.w X.K X.mg X.base k f fd ps sp) (hr : RoomM hot k X.A) (hb : Binds X.K fd ps []) (hx : ∀ σ, PassesAt (L2.CX X.prog X.w) X σ (E σ))
    (ht : eval (.Call (.Attribute o m apos) [] [] pos) X.env = (do
      let ov ← eval o X.env
      standAt apos.atName
      let (g, fst) ← holding [ov] (getMethod ov m pl)
      callWith pos g fst (backTo pos (starEach [] X.env)) (backToKw pos (keywordEach [] X.env)))) :
    PE X (.Call (.Attribute o m apos) [] [] pos) (L2H.tMethH C m sp E ta tNil) := ⟨fun pins s σ H Q I h =>
  PySem.W.methodCall_KW (pl := pl) (thn (he.run pins s σ H _ I h) fun u s1 z => by
    obtain ⟨x, H1, I1, rx, a, dx, fs, rfl, ea, l, y⟩ := z
    obtain rfl : u = Value.ref a := rx
    exact getmeth_ok I1 ea c hm l (PySem.W.callWith_K0 (first := [.ref a]) I1.kIn hm.kp (run_fnM (us := [.ref a]) (vs := [.ref a]) F hr hb (hx σ) I1 (.cons rfl .nil) y))) ht⟩
theorem pe_methM {pl : Sem Bool} (he : PE X o ta) (c : Cls X.K C) (hm : Meth X.K C m f) (F : FnM hot X.prog X.w X.K X.mg X.base k f fd ps sp) (hr : RoomM hot k X.A) (hb : Binds X.K fd ps []) (hx : ∀ σ, PassesAt (L2.CX X.prog X.w) X σ (E σ)) (ha : PA X (e :: es) t)
    (hst : starEach (e :: es) X.env = (false, eval e X.env) :: starEach es X.env) (hpl : (backTo pos (starEach es X.env)).any (·.1) = false)
    (ht : eval (.Call (.Attribute o m apos) (e :: es) [] pos) X.env = (do
      let ov ← eval o X.env
      standAt apos.atName
      let (g, fst) ← holding [ov] (getMethod ov m pl)
      callWith pos g fst (backTo pos (starEach (e :: es) X.env)) (backToKw pos (keywordEach [] X.env)))) :
    PE X (.Call (.Attribute o m apos) (e :: es) [] pos) (L2H.tMethH C m sp E ta t) := ⟨fun pins s σ H Q I h =>
  PySem.W.methodCall_KW (pl := pl) (thn (he.run pins s σ H _ I h) fun u s1 z => by
    obtain ⟨x, H1, I1, rx, a, dx, fs, rfl, ea, l, y⟩ := z
    obtain rfl : u = Value.ref a := rx
    refine getmeth_ok I1 ea c hm l (PySem.W.callWith_K (first := [.ref a]) (h₀ := X.base) I.ok.mod.kin hm.kp (thn (ha.run pos pins s1 σ H1 _ I1 y) fun us s2 z => ?_) hst hpl)
    obtain ⟨vs, H2, I2, r, y⟩ := z
    exact ⟨I2.kIn, run_fnM (us := .ref a :: us) (vs := .ref a :: vs) F hr hb (hx σ) I2 (.cons rfl r) y⟩) ht⟩
/-- a property -/
theorem pe_propM {g p : Addr} (he : PE X o ta) (c : Cls X.K C) (hp : PropOf X.K C m p g) (F : FnM hot X.prog X.w X.K X.mg X.base k g fd ps sp) (hr : RoomM hot (k + 1) X.A) (hb : Binds X.K fd ps [])
    (hab : attributeBase o m X.env (eval o X.env) = eval o X.env) : PE X (.Attribute o m pos) (tProp C sp [] (fun _ _ _ => False) ta) := ⟨fun pins s σ H Q I h =>
  attr_of hab (thn (he.run pins s σ H _ I h) fun u s1 z => by
    obtain ⟨x, H1, I1, rx, a, dx, fs, rfl, ea, y⟩ := z
    obtain rfl : u = Value.ref a := rx
    obtain ⟨mA, O, _⟩ := ins_get I1.hok ea
    obtain ⟨od, J, _⟩ := O.look
    obtain ⟨rest, hrec⟩ := hp.rec_
    have hc : (PySem.W.clsIn X.K C).isSome = true := by
      obtain ⟨cd, q, _⟩ := PySem.W.any_some c.hd
      rw [q]; rfl
    have I2 := I1.tok (s1.toks + 1)
    have pg := PySem.W.plainGet_of (c.get m)
    have bt : BindsTo { s1 with toks := s1.toks + 1 } fd ⟨[.ref a], []⟩ (ps.zip [Value.ref a]) := by
      have := hb { s1 with toks := s1.toks + 1 } [.ref a] I2.kIn (F.len _ _ _ _ y)
      rwa [List.append_nil] at this
    have run := F.run X.A.in1 X.stack { s1 with toks := s1.toks + 1 } H1 ⟨[.ref a], []⟩ [.ref a] [.ref a] Q _ hr.in1 I2.env0.in1 bt (.cons rfl .nil) y
    refine PySem.W.get_bind I1.kIn J pg.1 (PySem.W.findObj_data hc hp.at_ hp.get hp.tak) pg.2 (wpAny_call (PySem.W.prop_get (s := { s1 with toks := s1.toks + 1 }) I1.kIn hrec (codeAny_mono run fun res sE z => ?_)))
    match res, z with
    | .error err, z =>
      obtain ⟨_, _, _, _, _, _, _, _, _, _, _, _, z⟩ := z
      exact z.elim
    | .ok (.ret u), z =>
      obtain ⟨v, H3, I3, rv, q3⟩ := I2.after z
      exact PySem.W.handed_on (handed_of rv) ⟨v, H3, I3, rv, q3⟩)⟩
/-- C.m(e, ..), m a staticmethod of the class at C -/
structure StatM (K : PySem.W.Frag) (C : Addr) (m : Str) (g : Addr) : Prop where
  rd : ClX.CRead K C (.type "type")
  at_ : ∃ p rest, PySem.W.findCls K (.ref C) (.type "type") m = some (.get (.builtin "staticmethod.__get__") (.ref p) .none (.ref C)) ∧ PySem.W.recIn K p "staticmethod" = some (.ref g :: rest)
  kp : PySem.W.keepIn K (.ref g) = true
theorem pe_statM {pl : Sem Bool} {g : Addr} (hg : Gl X x) (hc : X.mg x = some (.ref C)) (hm : StatM X.K C m g) (F : FnM hot X.prog X.w X.K X.mg X.base k g fd ps sp) (hr : RoomM hot k X.A) (hb : Binds X.K fd ps []) (hx : ∀ σ, PassesAt (L2.CX X.prog X.w) X σ (E σ)) (ha : PA X (e :: es) t)
    (hdb : (x == ("__debug__" : Str)) = false) (hst : starEach (e :: es) X.env = (false, eval e X.env) :: starEach es X.env) (hpl : (backTo pos (starEach es X.env)).any (·.1) = false)
    (ht : eval (.Call (.Attribute (.Name x q) m apos) (e :: es) [] pos) X.env = (do
      let ov ← eval (.Name x q) X.env
      standAt apos.atName
      let (g, fst) ← holding [ov] (getMethod ov m pl)
      callWith pos g fst (backTo pos (starEach (e :: es) X.env)) (backToKw pos (keywordEach [] X.env)))) :
    PE X (.Call (.Attribute (.Name x q) m apos) (e :: es) [] pos) (tCallS sp E t) := ⟨fun pins s σ H Q I h => by
  obtain ⟨p, rest, h1, h2⟩ := hm.at_
  refine PySem.W.methodCall_KW (pl := pl) (ld_glob I hg hc ?_ hdb) ht
  refine PySem.W.method_cls I.kIn hm.rd.ga (PySem.W.cls_bind I.kIn hm.rd.rd h1 (wpAny_call (PySem.W.sm_get (s := { s with toks := s.toks + 1 }) I.kIn h2 (PySem.W.handed_on rfl ?_))))
  have I1 := I.tok (s.toks + 1)
  refine PySem.W.callWith_K (h₀ := X.base) I.ok.mod.kin hm.kp (thn (ha.run pos pins _ σ H _ I1 h) fun us s2 z => ?_) hst hpl
  obtain ⟨vs, H2, I2, r, y⟩ := z
  exact ⟨I2.kIn, run_fnM F hr hb (hx σ) I2 r y⟩⟩
end

/-! ### what an own == and isinstance ask of values -/
/-- a value's type: also a caught exception's -/
inductive Ty2 (K : PySem.W.Frag) (H : Hp) : V → Value → Prop where
  | x {v : V} {t : Value} (h : TyX K H v t) : Ty2 K H v t
  | e {a C d : Addr} {o : Obj} {fs : List (Str × V)} (h1 : H a = some (xob a o)) (h2 : XobC C d o) (h3 : H d = some (.xd fs)) (h4 : ExcC K C) : Ty2 K H (.ref a) (.ref C)
theorem xob_at {P : Program} {w : World} {H : Hp} {h : Heap} {a b : Addr} {o : Obj} (hok : HOk P w H h) (e : H a = some (xob b o)) : h.get? b = some o := by
  have z : ObjOk P w H h a (.ext fun h => h.get? b = some o) := hok a _ e
  exact z.1
/-- a caught exception as the library's rules want it -/
theorem xob_inst {X : Cx} {pins : List (Addr × Obj)} {σ : L2.St} {H : Hp} {s : Shared} {a C d : Addr} {o : Obj} {fs : List (Str × V)} (I : Inv X pins σ H s) (h1 : H a = some (xob a o)) (h2 : XobC C d o) (h3 : H d = some (.xd fs)) :
    ∃ (od : Obj) (mA : Str → Option Value), PySem.W.InstAt s.heap a o C (some od) ∧ (∀ n, PySem.W.lookIn n od = some (mA n)) ∧ ∀ f, RelO (fs.lookup f) (mA f) := by
  have ha := xob_at I.hok h1
  have hx : ObjOk X.prog X.w H s.heap d (.xd fs) := I.hok d _ h3
  obtain ⟨mA, hns, hr⟩ := hx
  obtain ⟨od, ho, hl⟩ := lookIn_ns hns
  obtain ⟨fv, hd⟩ := h2.data
  exact ⟨od, mA, ⟨ha, h2.cls, by unfold PySem.W.notCls; rw [hd] <;> rfl, by rw [h2.dict]; exact ho⟩, hl, hr⟩
theorem kit_of2 {X : Cx} {pins : List (Addr × Obj)} {σ : L2.St} {H : Hp} {s : Shared} {v : V} {u t : Value} (I : Inv X pins σ H s) (rx : RelV v u) (ty : Ty2 X.K H v t) : ∃ Q : Heap → Prop, PySem.W.KitX X.K u t Q ∧ Q s.heap ∧ u ≠ .builtin "__main__.__loader__#opaque" := by
  cases ty with
  | x h => exact kit_of I rx h
  | @e a C d o fs h1 h2 h3 h4 =>
    cases rx
    obtain ⟨od, mA, J, _⟩ := xob_inst I h1 h2 h3
    have hcl : (PySem.W.clsIn X.K C).isSome = true := by
      obtain ⟨cd, q, _⟩ := PySem.W.any_some h4.hd
      rw [q]; rfl
    exact ⟨_, PySem.W.kitx_exc (od := some od) hcl h4.hg h4.hk h4.hs h4.ha h4.hn h4.ht h4.hm, J, fun z => nomatch z⟩
def rIs2 (K : PySem.W.Frag) : List V → Hp → VK → Prop := fun xs H Q => ∃ (x c : V) (t u : Value) (b : Bool), xs = [x, c] ∧ ClsV c u ∧ Ty2 K H x t ∧ PySem.W.kitOne K t u = some b ∧ Q (.bl b) H
theorem call_is2 {X : Cx} : CallR X (.builtin "isinstance") (rIs2 X.K) := by
  rintro pins s σ H xs us Q I r ⟨x, c, t, u, b, rfl, k, ty, e, q⟩
  cases r with
  | cons r1 r =>
    cases r with
    | cons r2 r =>
      cases r
      have ec := k.eq r2
      subst ec
      obtain ⟨_, Z, p, hx⟩ := kit_of2 I r1 ty
      exact PySem.W.kia_one Z I.kIn p e hx fun tk => ⟨.bl b, H, I.tok tk, rfl, q⟩
/-- x == y by the class's own def -/
def rOwn (K : PySem.W.Frag) (C : Addr) (sp : Sp) : R2 := fun x y H Q => ∃ a dx fs tb, x = .ref a ∧ H a = some (.ins C dx fs) ∧ Ty2 K H y tb ∧ PySem.W.notFirst K C tb = true ∧ sp [x, y] H (fun v H' => (∃ b, v = .bl b) ∧ Q v H') (fun _ _ _ => False)
theorem op_own {X : Cx} {hot : Bool} {k : Nat} {f C : Addr} {fd : FuncData} {ps : List Str} {sp : Sp} (F : FnM hot X.prog X.w X.K X.mg X.base k f fd ps sp) (hr : RoomM hot k X.A)
    (hs : PySem.W.findIn X.K (.ref C) "__eq__" = some (some (.ref f))) (hf : PySem.W.isFn X.K (.ref f) = true) (hb : Binds X.K fd ps []) : OpR X (compareOp .Eq) (rOwn X.K C sp) := by
  rintro pins s σ H x y v u Q I rx ry ⟨a, dx, fs, tb, rfl, ha, ty, hn, hsp⟩
  cases rx
  obtain ⟨mA, O, _⟩ := ins_get I.hok ha
  obtain ⟨od, J, _⟩ := O.look
  obtain ⟨_, Z, p, _⟩ := kit_of2 I ry ty
  obtain ⟨m, fr⟩ := I.fr
  have hu : X.A.units < cLine := by have := hr.rm.un; omega
  refine PySem.W.cmp_K (op := .Eq) (tb := tb) hu fr I.ok.mod.kin J (Z.ty _ _ I.kIn p) hn hs hf ?_
  have bt : BindsTo s fd ⟨[.ref a, u], []⟩ (ps.zip [Value.ref a, u]) := by
    have := hb s [.ref a, u] I.kIn (F.len _ _ _ _ hsp)
    rwa [List.append_nil] at this
  refine wpAny_call (codeAny_mono (F.run X.A X.stack s H ⟨[.ref a, u], []⟩ [.ref a, u] [.ref a, y] _ _ hr I.env0 bt (.cons rfl (.cons ry .nil)) hsp) fun res sE z => ?_)
  match res, z with
  | .error err, z =>
    obtain ⟨_, _, _, _, _, _, _, _, _, _, _, _, z⟩ := z
    exact z.elim
  | .ok (.ret u), z =>
    obtain ⟨v, H3, I3, rv, ⟨b, hb⟩, q3⟩ := I.after z
    subst hb
    cases rv
    exact ⟨.bl b, H3, I3, rfl, q3⟩

/-! ### types of data -/
inductive Wd where
  | b (t : Bt)
  | o (C : Addr)
  | x (C : Addr)
def Wd.v : Wd → Value
  | .b t => .type t.name
  | .o C => .ref C
  | .x C => .ref C
def wdD (M : Ms) : D → Option Wd
  | .non => some (.b .non) | .bl _ => some (.b .bl) | .int _ => some (.b .int) | .str _ => some (.b .str) | .lst _ => some (.b .lst) | .rol _ => some (.b .lst) | .tup _ => some (.b .tup) | .dic _ _ => some (.b .dic)
  | .ins C _ _ => some (.o C)
  | .exn C _ _ => some (.x C)
  | .ref p => match M p with
    | some (.lst _) => some (.b .lst)
    | some (.ins C _ _) => some (.o C)
    | some (.dK _ _) => some (.b .dic)
    | none => none
  | .ty _ => none
/-- an own class whose instances isinstance may be asked of -/
structure OwnF (K : PySem.W.Frag) (C : Addr) : Prop where
  cls : Cls K C
  ha : PySem.W.findIn K (.ref C) "__class__" = some (some (.builtin "object.__class__"))
  hn : PySem.W.specialIn K (.builtin "object.__class__") "__get__" = some (some (.builtin "getset_descriptor.__get__"))
  ht : PySem.W.takesIn K (.builtin "object.__class__") = some true
  hm : PySem.W.mroIn K C (.type "object") = some true
def WdOk (K : PySem.W.Frag) : Wd → Prop
  | .b _ => True
  | .o C => OwnF K C
  | .x C => ExcC K C
theorem ty2_of {K : PySem.W.Frag} {F H : Hp} {M : Ms} {d : D} {v : V} {wd : Wd} (ok : Ok K F H M) (r : Rep K F d v) (h : wdD M d = some wd) (hw : WdOk K wd) : Ty2 K H v wd.v := by
  cases d with
  | non => cases h; exact .x (tyX_of (t := .non) ok r rfl)
  | bl b => cases h; exact .x (tyX_of (t := .bl) ok r rfl)
  | int i => cases h; exact .x (tyX_of (t := .int) ok r rfl)
  | str x => cases h; exact .x (tyX_of (t := .str) ok r rfl)
  | lst ds => cases h; exact .x (tyX_of (t := .lst) ok r rfl)
  | rol ds => cases h; exact .x (tyX_of (t := .lst) ok r rfl)
  | tup ds => cases h; exact .x (tyX_of (t := .tup) ok r rfl)
  | dic ks ds => cases h; exact .x (tyX_of (t := .dic) ok r rfl)
  | ins C ns ds =>
    cases h
    obtain ⟨a, dx, vs, rfl, h1, _⟩ := r
    exact .x (.base (.ins (ok.ex _ _ h1) hw.cls hw.ha hw.hn hw.ht hw.hm))
  | exn C ns ds =>
    cases h
    obtain ⟨a, o, d, vs, rfl, h1, h2, h3, _⟩ := r
    exact .e (ok.ex _ _ h1) h2 (ok.ex _ _ h3) hw
  | ref p =>
    cases r
    have h : (match M p with
    | some (.lst _) => some (Wd.b .lst)
    | some (.ins C _ _) => some (Wd.o C)
    | some (.dK _ _) => some (Wd.b .dic)
    | none => none) = some wd := h
    cases hm : M p with
    | none => rw [hm] at h; cases h
    | some o =>
      rw [hm] at h
      have hmu := (ok.mu p o hm).2
      cases o with
      | lst ds =>
        cases h
        obtain ⟨vs, hp, _⟩ := hmu
        exact .x (.base (.lst hp))
      | ins C ns ds =>
        cases h
        obtain ⟨dx, vs, hp, _⟩ := hmu
        exact .x (.base (.ins hp hw.cls hw.ha hw.hn hw.ht hw.hm))
      | dK ks ds =>
        cases h
        obtain ⟨vs, hp, _⟩ := hmu
        exact .x (.base (.dK hp))
  | ty n => cases h

/-! ### the rules on data -/
/-- the module's name x is the class at C; its __init__ does as ds says -/
def MkC (hot : Bool) (P : Program) (w : World) (K : PySem.W.Frag) (mg : Str → Option Value) (base : Heap) (x : Str) (C : Addr) (j : Nat) (ps : List Str) (ds : DS) : Prop :=
  ∃ f fd, FnM hot P w K mg base j f fd ps (lift K ds) ∧ Mk K C f ∧ mg x = some (.ref C) ∧ Binds K fd ps [] ∧ KBn K fd ps 1 ps.tail (fun us ws => us ++ ws) (fun vs zs => vs ++ zs)
def MetC (hot : Bool) (P : Program) (w : World) (K : PySem.W.Frag) (mg : Str → Option Value) (base : Heap) (C : Addr) (m : Str) (j : Nat) (ps : List Str) (ds : DS) : Prop :=
  ∃ f fd, FnM hot P w K mg base j f fd ps (lift K ds) ∧ Meth K C m f ∧ Binds K fd ps [] ∧ Cls K C
def ProC (hot : Bool) (P : Program) (w : World) (K : PySem.W.Frag) (mg : Str → Option Value) (base : Heap) (C : Addr) (m : Str) (j : Nat) (ps : List Str) (ds : DS) : Prop :=
  ∃ p f fd, FnM hot P w K mg base j f fd ps (lift K ds) ∧ PropOf K C m p f ∧ Binds K fd ps [] ∧ Cls K C
def StaC (hot : Bool) (P : Program) (w : World) (K : PySem.W.Frag) (mg : Str → Option Value) (base : Heap) (x : Str) (C : Addr) (m : Str) (j : Nat) (ps : List Str) (ds : DS) : Prop :=
  ∃ f fd, FnM hot P w K mg base j f fd ps (lift K ds) ∧ StatM K C m f ∧ mg x = some (.ref C) ∧ Binds K fd ps []
def EqC (hot : Bool) (P : Program) (w : World) (K : PySem.W.Frag) (mg : Str → Option Value) (base : Heap) (C : Addr) (j : Nat) (ps : List Str) (ds : DS) : Prop :=
  ∃ f fd, FnM hot P w K mg base j f fd ps (lift K ds) ∧ PySem.W.findIn K (.ref C) "__eq__" = some (some (.ref f)) ∧ PySem.W.isFn K (.ref f) = true ∧ Binds K fd ps []
section
variable {hot hot' : Bool} {P : Program} {w : World} {K : PySem.W.Frag} {mg : Str → Option Value} {base : Heap} {x m : Str} {C : Addr} {j : Nat} {ps : List Str} {ds : DS}
theorem MkC.at (c : MkC hot P w K mg base x C j ps ds) (h : hot' = hot) : MkC hot' P w K mg base x C j ps ds := by rw [h]; exact c
theorem StaC.at (c : StaC hot P w K mg base x C m j ps ds) (h : hot' = hot) : StaC hot' P w K mg base x C m j ps ds := by rw [h]; exact c
theorem MetC.at (c : MetC hot P w K mg base C m j ps ds) (h : hot' = hot) : MetC hot' P w K mg base C m j ps ds := by rw [h]; exact c
theorem ProC.at (c : ProC hot P w K mg base C m j ps ds) (h : hot' = hot) : ProC hot' P w K mg base C m j ps ds := by rw [h]; exact c
theorem EqC.at (c : EqC hot P w K mg base C j ps ds) (h : hot' = hot) : EqC hot' P w K mg base C j ps ds := by rw [h]; exact c
end
/-- behind __init__: the instance as it is, or frozen -/
def mkP (C p : Addr) (Φ : PD) (M : Ms) : Prop := Φ (.ref p) M ∨ ∃ ns ds, M p = some (.ins C ns ds) ∧ Φ (.ins C ns ds) (dm M p)
section
variable {ι : Type} {T : Fm ι} {k : Nat} {P : Program} {w : World} {K : PySem.W.Frag} {mg : Str → Option Value} {base : Heap} {N : List Str} {sc : Scope} {Γ : Gm} {M : Ms} {Φ : PD} {Ψ : PX}
variable {e a b c o : Expr} {es : List Expr} {kws : List Keyword} {pos p p1 p2 p3 p4 apos : Pos} {f m x : Str} {C : Addr} {fs ps : List Str} {j : Nat} {ds : DS}
def mkAsk (C : Addr) (ds : DS) (Φ : PD) (Ψ : PX) : List D → Ms → Prop := fun xs M1 => ∀ p, M1 p = none → ds (.ref p :: xs) (um M1 p (.ins C [] [])) (fun d M2 => d = .non ∧ mkP C p Φ M2) (fun C ns ds M2 => Ψ C ns ds (dm M2 p))
theorem ge_mk {t : TA} (h : GA T t Γ M (mkAsk C ds Φ Ψ) Ψ) : GE T (tMkM C (lift T.K ds) (WE T.w) t) Γ M Φ Ψ := by
  intro F H σ Q ok sl q x
  refine h F H σ _ ok sl (fun F1 H1 M1 xs vs e1 ok1 rs z p dx hp hd hne => ?_) x
  have ok2 : Ok T.K F1 (upd (upd H1 dx (.own p)) p (.ins C dx [])) (um M1 p (.ins C [] [])) := (ok1.side (u := .own p) hd).newM (p := p) (by rw [upd_ne (Ne.symm hne)]; exact hp) ⟨dx, [], upd_same, rfl, rfl⟩
  refine ⟨F1, _, .ref p :: xs, _, _, ok2, .cons rfl rs, z p (ok1.fresh hp), ?_, ?_⟩
  · rintro F2 H2 M2 d v e2 ok3 r ⟨rfl, y⟩
    refine ⟨r, ?_⟩
    rcases y with y | ⟨ns, dd, hm, y⟩
    · exact q F2 H2 M2 (.ref p) (.ref p) (e1.trans e2) ok3 rfl y
    · obtain ⟨F3, e3, ok4, r4⟩ := ok3.freezeI hm
      exact q F3 H2 _ _ _ (e1.trans (e2.trans e3)) ok4 r4 y
  · exact fun F2 H2 M2 C d ns dd us e2 ok3 hx hl r y => x F2 H2 _ C d ns dd us (e1.trans e2) (ok3.sub dm_sub) hx hl r y
/-- C(e, ..) -/
theorem ex_make (hF : Fc T k P w K mg base N sc) (cc : MkC T.hot P w K mg base x C j ps ds) (hk : j < k) (h : AX T (e :: es) Γ M (mkAsk C ds Φ Ψ) Ψ)
    (hg : sc.names.lookup x = some .globalImplicit := by rfl) (hdb : (x == ("__debug__" : Str)) = false := by decide) (he : ∀ env, starEach (e :: es) env = (false, eval e env) :: starEach es env := by intro _; rfl) (hpl : ∀ env, (backTo pos (starEach es env)).any (·.1) = false := by intro _; rfl) :
    EX T (.Call (.Name x p) (e :: es) [] pos) Γ M Φ Ψ := by
  rw [← hF.hT] at cc
  obtain ⟨f, fd, F, mk, hm, hb, _⟩ := cc
  refine EX.mk (t := tMkM C (lift T.K ds) (WE T.w) (taOf T (e :: es))) (fun i => ?_) (ge_mk h)
  exact pe_mkM (by rw [hF.hK]; exact mk) (hF.fno i F) ((hF.hr i).mono hk) (by show (T.X i).env.scope.names.lookup x = _; rw [hF.hs]; exact hg) (by rw [hF.hmg]; exact hm) (by rw [hF.hK]; exact hb) (hF.pass i) (pa_ta i) hdb (he _) (hpl _)
/-- C(k = e, ..), all parameters in their order -/
theorem ex_makeK (hF : Fc T k P w K mg base N sc) (cc : MkC T.hot P w K mg base x C j ps ds) (hk : j < k) (h : KAX T kws Γ M (mkAsk C ds Φ Ψ) Ψ) (hps : ps.length = ps.tail.length + 1 := by rfl)
    (hall : ∀ env, (backToKw pos (keywordEach kws env)).all (·.1.isSome) = true := by intro _; rfl) (hks : ∀ env, (backToKw pos (keywordEach kws env)).filterMap (·.1) = ps.tail := by intro _; rfl)
    (hg : sc.names.lookup x = some .globalImplicit := by rfl) (hdb : (x == ("__debug__" : Str)) = false := by decide) (hpl : ∀ env, (backToKw pos (keywordEach kws env)).any (·.1.isNone) = false := by intro _; rfl) :
    EX T (.Call (.Name x p) [] kws pos) Γ M Φ Ψ := by
  rw [← hF.hT] at cc
  obtain ⟨f, fd, F, mk, hm, _, hb⟩ := cc
  refine EX.mk (t := tMkM C (lift T.K ds) (WE T.w) (tkOf T kws)) (fun i => ?_) (ge_mk h)
  exact pe_mkKM (by rw [hF.hK]; exact mk) (hF.fno i F) ((hF.hr i).mono hk) (by show (T.X i).env.scope.names.lookup x = _; rw [hF.hs]; exact hg) (by rw [hF.hmg]; exact hm) (by rw [hF.hK]; exact hb) (hF.pass i) (pk_tk i) (hall _) (hks _) hdb (hpl _) hps
theorem ex_meth0 (hF : Fc T k P w K mg base N sc) (cc : MetC T.hot P w K mg base C m j ps ds) (hk : j ≤ k) (h : EX T o Γ M (fun x M1 => insP C M1 (fun ns _ => m ∉ ns ∧ ds [x] M1 Φ Ψ) x) Ψ) {pl : Env → Sem Bool}
    (ht : ∀ env, eval (.Call (.Attribute o m apos) [] [] pos) env = (do
      let ov ← eval o env
      standAt apos.atName
      let (g, fst) ← holding [ov] (getMethod ov m (pl env))
      callWith pos g fst (backTo pos (starEach [] env)) (backToKw pos (keywordEach [] env))) := by intro _; rfl) : EX T (.Call (.Attribute o m apos) [] [] pos) Γ M Φ Ψ := by
  rw [← hF.hT] at cc
  obtain ⟨f, fd, F, hm, hb, hc⟩ := cc
  refine EX.mk (t := L2H.tMethH C m (lift T.K ds) (WE T.w) (teOf T o) tNil) (fun i => ?_) ?_
  · exact pe_methM0 (pl := pl _) (pe_te i) (by rw [hF.hK]; exact hc) (by rw [hF.hK]; exact hm) (hF.fno i F) ((hF.hr i).mono hk) (by rw [hF.hK]; exact hb) (hF.pass i) (ht _)
  · intro F0 H σ Q ok sl q x
    refine h F0 H σ _ ok sl (fun F1 H1 M1 d v e1 ok1 r z => ?_) x
    obtain ⟨a, dx, ns, dd, vs, rfl, ha, hl, rs, hn, z⟩ := insP_of ok1 r z
    exact ⟨a, dx, _, rfl, ha, lk_none hn, F1, M1, [d], Φ, Ψ, ok1, Reps.one r, z, q.mono e1, x.mono e1⟩
theorem ex_meth (hF : Fc T k P w K mg base N sc) (cc : MetC T.hot P w K mg base C m j ps ds) (hk : j ≤ k) (h : EX T o Γ M (fun x M1 => insP C M1 (fun ns _ => m ∉ ns ∧ AX T (e :: es) Γ M1 (fun xs M2 => ds (x :: xs) M2 Φ Ψ) Ψ) x) Ψ) {pl : Env → Sem Bool}
    (he : ∀ env, starEach (e :: es) env = (false, eval e env) :: starEach es env := by intro _; rfl) (hpl : ∀ env, (backTo pos (starEach es env)).any (·.1) = false := by intro _; rfl)
    (ht : ∀ env, eval (.Call (.Attribute o m apos) (e :: es) [] pos) env = (do
      let ov ← eval o env
      standAt apos.atName
      let (g, fst) ← holding [ov] (getMethod ov m (pl env))
      callWith pos g fst (backTo pos (starEach (e :: es) env)) (backToKw pos (keywordEach [] env))) := by intro _; rfl) : EX T (.Call (.Attribute o m apos) (e :: es) [] pos) Γ M Φ Ψ := by
  rw [← hF.hT] at cc
  obtain ⟨f, fd, F, hm, hb, hc⟩ := cc
  refine EX.mk (t := L2H.tMethH C m (lift T.K ds) (WE T.w) (teOf T o) (taOf T (e :: es))) (fun i => ?_) ?_
  · exact pe_methM (pl := pl _) (pe_te i) (by rw [hF.hK]; exact hc) (by rw [hF.hK]; exact hm) (hF.fno i F) ((hF.hr i).mono hk) (by rw [hF.hK]; exact hb) (hF.pass i) (pa_ta i) (he _) (hpl _) (ht _)
  · intro F0 H σ Q ok sl q x
    refine h F0 H σ _ ok sl (fun F1 H1 M1 d v e1 ok1 r z => ?_) x
    obtain ⟨a, dx, ns, dd, vs, rfl, ha, hl, rs, hn, z⟩ := insP_of ok1 r z
    refine ⟨a, dx, _, rfl, ha, lk_none hn, ?_⟩
    refine z F1 H1 σ _ ok1 (sl.mono e1) (fun F2 H2 M2 xs us e2 ok2 rs2 y => ?_) (x.mono e1)
    exact ⟨F2, M2, d :: xs, Φ, Ψ, ok2, .cons (r.mono e2) rs2, y, q.mono (e1.trans e2), x.mono (e1.trans e2)⟩
/-- o.f, a property -/
theorem ex_prop (hF : Fc T k P w K mg base N sc) (cc : ProC T.hot P w K mg base C m j ps ds) (hk : j < k) (h : EX T o Γ M (fun x M1 => insP C M1 (fun _ _ => ds [x] M1 Φ (fun _ _ _ _ => False)) x) Ψ)
    (hb : ∀ env, attributeBase o m env (eval o env) = eval o env := by intro _; rfl) : EX T (.Attribute o m pos) Γ M Φ Ψ := by
  rw [← hF.hT] at cc
  obtain ⟨p, f, fd, F, hm, hb', hc⟩ := cc
  refine EX.mk (t := tProp C (lift T.K ds) [] (fun _ _ _ => False) (teOf T o)) (fun i => ?_) ?_
  · exact pe_propM (pe_te i) (by rw [hF.hK]; exact hc) (by rw [hF.hK]; exact hm) (hF.fno i F) ((hF.hr i).mono hk) (by rw [hF.hK]; exact hb') (hb _)
  · intro F0 H σ Q ok sl q x
    refine h F0 H σ _ ok sl (fun F1 H1 M1 d v e1 ok1 r z => ?_) x
    obtain ⟨a, dx, ns, dd, vs, rfl, ha, hl, rs, z⟩ := insP_of ok1 r z
    exact ⟨a, dx, _, rfl, ha, F1, M1, [d], Φ, _, ok1, Reps.one r, z, q.mono e1, KX.none⟩
/-- C.m(e, ..), a staticmethod -/
theorem ex_stat (hF : Fc T k P w K mg base N sc) (cc : StaC T.hot P w K mg base x C m j ps ds) (hk : j ≤ k) (h : AX T (e :: es) Γ M (fun xs M1 => ds xs M1 Φ Ψ) Ψ) {pl : Env → Sem Bool}
    (hg : sc.names.lookup x = some .globalImplicit := by rfl) (hdb : (x == ("__debug__" : Str)) = false := by decide) (he : ∀ env, starEach (e :: es) env = (false, eval e env) :: starEach es env := by intro _; rfl) (hpl : ∀ env, (backTo pos (starEach es env)).any (·.1) = false := by intro _; rfl)
    (ht : ∀ env, eval (.Call (.Attribute (.Name x p) m apos) (e :: es) [] pos) env = (do
      let ov ← eval (.Name x p) env
      standAt apos.atName
      let (g, fst) ← holding [ov] (getMethod ov m (pl env))
      callWith pos g fst (backTo pos (starEach (e :: es) env)) (backToKw pos (keywordEach [] env))) := by intro _; rfl) : EX T (.Call (.Attribute (.Name x p) m apos) (e :: es) [] pos) Γ M Φ Ψ := by
  rw [← hF.hT] at cc
  obtain ⟨f, fd, F, hm, hc, hb⟩ := cc
  refine EX.mk (t := tCallS (lift T.K ds) (WE T.w) (taOf T (e :: es))) (fun i => ?_) (ge_callS h)
  exact pe_statM (pl := pl _) (by show (T.X i).env.scope.names.lookup x = _; rw [hF.hs]; exact hg) (by rw [hF.hmg]; exact hc) (by rw [hF.hK]; exact hm) (hF.fno i F) ((hF.hr i).mono hk) (by rw [hF.hK]; exact hb) (hF.pass i) (pa_ta i) hdb (he _) (hpl _) (ht _)
/-- x == y by the class's own def -/
def ownP (K : PySem.W.Frag) (C : Addr) (ds : DS) (M : Ms) (Φ : PD) (x y : D) : Prop := insP C M (fun _ _ => ∃ wd, wdD M y = some wd ∧ WdOk K wd ∧ PySem.W.notFirst K C wd.v = true ∧ ds [x, y] M (fun d M' => (∃ b, d = .bl b) ∧ Φ d M') (fun _ _ _ _ => False)) x
theorem gr_own {x y : D} (q : ownP T.K C ds M Φ x y) : GR T (rOwn T.K C (lift T.K ds)) x y M Φ := by
  intro F H vx vy Q ok rx ry hk
  obtain ⟨a, dx, ns, dd, vs, rfl, ha, hl, rs, wd, h1, h2, h3, z⟩ := insP_of ok rx q
  refine ⟨a, dx, _, wd.v, rfl, ha, ty2_of ok ry h1 h2, h3, F, M, [x, y], _, _, ok, .cons rx (Reps.one ry), z, ?_, KX.none⟩
  rintro F' H' M' d v e ok' r ⟨⟨b, rfl⟩, y⟩
  exact ⟨⟨b, r⟩, hk F' H' M' _ v e ok' r y⟩
theorem op_eqO (hF : Fc T k P w K mg base N sc) (cc : EqC T.hot P w K mg base C j ps ds) (hk : j ≤ k) (i : ι) : OpR (T.X i) (compareOp .Eq) (rOwn T.K C (lift T.K ds)) := by
  rw [← hF.hT] at cc
  obtain ⟨f, fd, F, h1, h2, hb⟩ := cc
  have q := op_own (C := C) (hF.fno i F) ((hF.hr i).mono hk) (by rw [hF.hK]; exact h1) (by rw [hF.hK]; exact h2) (by rw [hF.hK]; exact hb)
  rwa [hF.hK] at q
theorem ex_eqO (hF : Fc T k P w K mg base N sc) (cc : EqC T.hot P w K mg base C j ps ds) (hk : j ≤ k) (h : EX T a Γ M (fun x M1 => EX T b Γ M1 (fun y M2 => ownP K C ds M2 Φ x y) Ψ) Ψ) : EX T (.Compare a [.Eq] [b] pos) Γ M Φ Ψ :=
  ex_cmpG (R := ownP K C ds) (op_eqO hF cc hk) (nomark _) (fun _ _ _ _ q => gr_own (by rw [hF.hT]; exact q)) h
theorem tx_eqO (hF : Fc T k P w K mg base N sc) (cc : EqC T.hot P w K mg base C j ps ds) (hk : j ≤ k) {Φ : Bool → Ms → Prop} (h : EX T a Γ M (fun x M1 => EX T b Γ M1 (fun y M2 => ownP K C ds M2 (fun d M => ∃ c, d = .bl c ∧ Φ c M) x y) Ψ) Ψ) : TX T (.Compare a [.Eq] [b] pos) Γ M Φ Ψ :=
  tx_cmpG (R := ownP K C ds) (op_eqO hF cc hk) (nomark _) (fun _ _ _ _ q => gr_own (by rw [hF.hT]; exact q)) h
/-- isinstance(e, c), c an own class -/
def isP (K : PySem.W.Frag) (cv : Value) (M : Ms) (Φ : PD) (d : D) : Prop := ∃ wd b, wdD M d = some wd ∧ WdOk K wd ∧ PySem.W.kitOne K wd.v cv = some b ∧ Φ (.bl b) M
theorem ex_isC (hF : Fc T k P w K mg base N sc) (hm : mg "isinstance" = none) (hc : mg x = some (.ref C)) (h : EX T e Γ M (fun d M1 => isP K (.ref C) M1 Φ d) Ψ) (hg : sc.names.lookup ("isinstance" : Str) = some .globalImplicit := by rfl) (hgc : sc.names.lookup x = some .globalImplicit := by rfl)
    (hdb : (x == ("__debug__" : Str)) = false := by decide) (he : ∀ env es, starEach (e :: es) env = (false, eval e env) :: starEach es env := by intro _ _; rfl) : EX T (.Call (.Name "isinstance" p) [e, .Name x p1] [] pos) Γ M Φ Ψ := by
  refine EX.mk (t := tCB (rIs2 T.K) (tCons (teOf T e) (tCons (tC (.ref C)) tNil))) (fun i => ?_) ?_
  · exact pe_callB (by rw [← hF.hK i]; exact call_is2) (by show (T.X i).env.scope.names.lookup _ = _; rw [hF.hs]; exact hg) (by rw [hF.hmg]; exact hm) (by decide +kernel)
      (pa_cons (pe_te i) (pa_cons (pe_glob (by show (T.X i).env.scope.names.lookup x = _; rw [hF.hs]; exact hgc) (by rw [hF.hmg]; exact hc) rfl hdb) pa_nil (by rfl)) (he _ _)) (by decide) (by decide) (he _ _) (by rfl)
  · intro F H σ Q ok sl hk x
    refine h F H σ _ ok sl (fun F1 H1 M1 d v e1 ok1 r z => ?_) x
    obtain ⟨wd, b, h1, h2, h3, q⟩ := z
    rw [← hF.hT] at h2 h3
    exact ⟨v, .ref C, wd.v, .ref C, b, rfl, .own C, ty2_of ok1 r h1 h2, h3, hk F1 H1 M1 (.bl _) _ e1 ok1 rfl q⟩
/-- .. c a built-in one -/
theorem ex_isT (hF : Fc T k P w K mg base N sc) (n : String) (hm : mg "isinstance" = none) (hc : mg x = none) (hv : bootBuiltins x = some (.type n)) (h : EX T e Γ M (fun d M1 => isP K (.type n) M1 Φ d) Ψ) (hg : sc.names.lookup ("isinstance" : Str) = some .globalImplicit := by rfl) (hgc : sc.names.lookup x = some .globalImplicit := by rfl)
    (hn : x ≠ "__name__" := by decide) (hdb : (x == ("__debug__" : Str)) = false := by decide) (he : ∀ env es, starEach (e :: es) env = (false, eval e env) :: starEach es env := by intro _ _; rfl) : EX T (.Call (.Name "isinstance" p) [e, .Name x p1] [] pos) Γ M Φ Ψ := by
  refine EX.mk (t := tCB (rIs2 T.K) (tCons (teOf T e) (tCons (tC (.ty n)) tNil))) (fun i => ?_) ?_
  · exact pe_callB (by rw [← hF.hK i]; exact call_is2) (by show (T.X i).env.scope.names.lookup _ = _; rw [hF.hs]; exact hg) (by rw [hF.hmg]; exact hm) (by decide +kernel)
      (pa_cons (pe_te i) (pa_cons (pe_bltn (by show (T.X i).env.scope.names.lookup x = _; rw [hF.hs]; exact hgc) (by rw [hF.hmg]; exact hc) hv rfl hn hdb) pa_nil (by rfl)) (he _ _)) (by decide) (by decide) (he _ _) (by rfl)
  · intro F H σ Q ok sl hk x
    refine h F H σ _ ok sl (fun F1 H1 M1 d v e1 ok1 r z => ?_) x
    obtain ⟨wd, b, h1, h2, h3, q⟩ := z
    rw [← hF.hT] at h2 h3
    exact ⟨v, .ty n, wd.v, .type n, b, rfl, .ty n, ty2_of ok1 r h1 h2, h3, hk F1 H1 M1 (.bl _) _ e1 ok1 rfl q⟩
end
end G
set_option Elab.async false
set_option linter.all false
set_option maxRecDepth 100000
/-! GExc: exceptions of the program's own classes on data: their fields, raise, try. -/
namespace G
open PySem PySem.Spec PyProof.Rows L2

/-! ### a caught exception's field -/
def tXg (K : PySem.W.Frag) (f : Str) (te : TE) : TE := fun σ H Q => te σ H fun x H1 => ∃ (a C d : Addr) (o : Obj) (fs : List (Str × V)) (v : V), x = .ref a ∧ H1 a = some (xob a o) ∧ XobC C d o ∧ H1 d = some (.xd fs) ∧ XfC K C ∧ PySem.W.findIn K (.ref C) f = some none ∧ fs.lookup f = some v ∧ Q v H1
theorem pe_xg {X : Cx} {e : Expr} {te : TE} {pos : Pos} {n : Str} (he : PE X e te) (hb : attributeBase e n X.env (eval e X.env) = eval e X.env) : PE X (.Attribute e n pos) (tXg X.K n te) := ⟨fun pins s σ H Q I h =>
  attr_of hb (thn (he.run pins s σ H _ I h) fun u s1 z => by
    obtain ⟨x, H1, I1, rx, a, C, d, o, fs, v, rfl, h1, h2, h3, T, hno, l, q⟩ := z
    obtain rfl : u = Value.ref a := rx
    obtain ⟨od, mA, J, hl, hr⟩ := xob_inst I1 h1 h2 h3
    obtain ⟨u, hu, ru⟩ := RelO.some_of (v := v) (o := mA n) (by rw [← l]; exact hr n)
    exact HandSPX.exc_get I1.kIn J T.ga T.gg T.exC (PySem.W.findObj_own T.hdC hno rfl (by rw [hl, hu])) (handed_of ru) ⟨v, H1, I1.tok _, ru, q⟩)⟩
/-- the class at C, and fields of its instances -/
structure XCls (K : PySem.W.Frag) (C : Addr) (fs : List Str) : Prop where
  xf : XfC K C
  na : ∀ f ∈ fs, PySem.W.findIn K (.ref C) f = some none
section
variable {ι : Type} {T : Fm ι} {k : Nat} {P : Program} {w : World} {K : PySem.W.Frag} {mg : Str → Option Value} {base : Heap} {N : List Str} {sc : Scope} {Γ : Gm} {M : Ms} {Φ : PD} {Ψ : PX}
variable {e : Expr} {es : List Expr} {pos p : Pos} {f x : Str} {C : Addr} {fs : List Str}
theorem ex_xfld (hF : Fc T k P w K mg base N sc) (h : EX T e Γ M (fun x M1 => ∃ C ns ds d fs, x = .exn C ns ds ∧ XCls K C fs ∧ f ∈ fs ∧ lkD ns ds f = some d ∧ Φ d M1) Ψ)
    (hb : ∀ env, attributeBase e f env (eval e env) = eval e env := by intro _; rfl) : EX T (.Attribute e f pos) Γ M Φ Ψ := by
  refine EX.mk (t := tXg T.K f (teOf T e)) (fun i => by rw [← hF.hK i]; exact pe_xg (pe_te i) (hb _)) ?_
  intro F H σ Q ok sl q x
  refine h F H σ _ ok sl (fun F1 H1 M1 d v e1 ok1 r z => ?_) x
  obtain ⟨C, ns, ds, y, fs, rfl, hc, hf, hl, z⟩ := z
  obtain ⟨a, o, dx, vs, rfl, h1, h2, h3, h4, rs⟩ := r
  obtain ⟨v, hv, rv⟩ := reps_lk rs hl
  rw [← hF.hT] at hc
  exact ⟨a, C, dx, o, _, v, rfl, ok1.ex _ _ h1, h2, ok1.ex _ _ h3, hc.xf, hc.na f hf, hv, q F1 H1 M1 y v e1 ok1 rv z⟩
end

/-! ### an __init__ that sets fields alone -/
/-- where a field's value comes from -/
inductive Src where
  | arg (i : Nat)
  | txt (x : Str)
def Src.v (us : List V) : Src → V
  | .arg i => us.getD i .non
  | .txt x => .str x
def Src.d (ds : List D) : Src → D
  | .arg i => ds.getD i .non
  | .txt x => .str x
def mkFs (its : List (Str × Src)) (us : List V) : List (Str × V) := its.map fun p => (p.1, p.2.v us)
def initSp (K : PySem.W.Frag) (C : Addr) (n : Nat) (its : List (Str × Src)) : Sp := fun vs H Q _ => ∃ a us, vs = .ref a :: us ∧ us.length = n ∧ H a = some (exo a C none) ∧
  ∀ dx H', H dx = none → dx ≠ a → H' a = some (exo a C (some dx)) → H' dx = some (exd dx (mkFs its us).reverse) → (∀ b, b ≠ a → b ≠ dx → H' b = H b) → Q .non H'
def initT (K : PySem.W.Frag) : List (Str × TE) → TS
  | [] => tNext
  | p :: r => tSeq (tOst K p.1 (tVar 0) p.2) (initT K r)
theorem init_run {K : PySem.W.Frag} {σ : L2.St} {a C dx : Addr} {D : Ends} (h0 : σ[0]? = some (some (.ref a))) (oc : OexC K C) (ne : dx ≠ a) : ∀ (r : List (Str × TE × V)) (fs : List (Str × V)) (H : Hp),
    (∀ p ∈ r, PySem.W.findIn K (.ref C) p.1 = some none ∧ ∀ H Q, Q p.2.2 H → p.2.1 σ H Q) → H a = some (exo a C (some dx)) → H dx = some (exd dx fs) → fs.length + r.length ≤ 900 →
    (∀ H', H' a = some (exo a C (some dx)) → H' dx = some (exd dx ((r.map fun p => (p.1, p.2.2)).reverse ++ fs)) → (∀ b, b ≠ a → b ≠ dx → H' b = H b) → D.nx σ H') → initT K (r.map fun p => (p.1, p.2.1)) D σ H
  | [], fs, H, _, h1, h2, _, q => q H h1 (by simpa using h2) fun _ _ _ => rfl
  | p :: r, fs, H, hr, h1, h2, hl, q => by
    obtain ⟨hn, hv⟩ := hr p List.mem_cons_self
    refine hv H _ ⟨.ref a, h0, a, C, rfl, oc, hn, .inr ⟨dx, fs, h1, h2, ?_, ?_⟩⟩
    · simp at hl; omega
    · refine init_run h0 oc ne r ((p.1, p.2.2) :: fs) (upd H dx (exd dx ((p.1, p.2.2) :: fs))) (fun z hz => hr z (List.mem_cons_of_mem _ hz)) (by rw [upd_ne (Ne.symm ne)]; exact h1) upd_same (by simp at hl ⊢; omega) fun H' q1 q2 q3 => ?_
      refine q H' q1 ?_ fun b hb1 hb2 => (q3 b hb1 hb2).trans (upd_ne hb2)
      rw [q2]; simp
/-- the statements self.f = .. -/
inductive InitB (N : List Str) (sc : Scope) : List Stmt → List (Str × Src) → Prop where
  | nil : InitB N sc [] []
  | arg {f x : Str} {i : Nat} {p p' p2 pos : Pos} {r : List Stmt} {its : List (Str × Src)} (hN : N[i + 1]? = some x) (hv : Vis sc x) (hd : (x == ("__debug__" : Str)) = false) (hcd : (x == ("__classdict__" : Str)) = false) (h : InitB N sc r its) :
      InitB N sc (.Assign [.Attribute (.Name "self" p) f p'] (.Name x p2) pos :: r) ((f, .arg i) :: its)
  | txt {f x : Str} {j} {p p' p2 pos : Pos} {r : List Stmt} {its : List (Str × Src)} (h : InitB N sc r its) :
      InitB N sc (.Assign [.Attribute (.Name "self" p) f p'] (.Constant (.str x) j p2) pos :: r) ((f, .txt x) :: its)
def srcT : Src → TE
  | .arg i => tVar (i + 1)
  | .txt x => tC (.str x)
theorem init_pss {X : Cx} {N : List Str} {sc : Scope} (hN : X.N = N) (hs : X.env.scope = sc) (h0 : N[0]? = some ("self" : Str)) (hv0 : Vis sc "self") : ∀ {body : List Stmt} {its : List (Str × Src)}, InitB N sc body its → PSs X body (initT X.K (its.map fun p => (p.1, srcT p.2)))
  | _, _, .nil => pss_nil
  | _, _, .arg h1 h2 h3 h4 h => pss_cons (ps_ost (pe_var (i := 0) (by rw [hN]; exact h0) (by rw [hs]; exact hv0)) (pe_var (by rw [hN]; exact h1) (by rw [hs]; exact h2) h3 h4)) (init_pss hN hs h0 hv0 h)
  | _, _, .txt h => pss_cons (ps_ost (pe_var (i := 0) (by rw [hN]; exact h0) (by rw [hs]; exact hv0)) pe_str) (init_pss hN hs h0 hv0 h)
theorem ok_init {P : Program} {w : World} {K : PySem.W.Frag} {mg : Str → Option Value} {base : Heap} {x qual : Str} {params : Arguments} {body : List Stmt} {scope : Scope} {dvs : List V} {kws : List (Str × V)} {f : Addr} {fd : FuncData} {N ps : List Str} {k n : Nat} {C : Addr} {its : List (Str × Src)} {CX : CXT}
    (F : FunD K x qual params body scope dvs kws f fd) (S : FnScope N ps scope) (oc : OexC K C) (hB : InitB N scope body its) (hn : ps.length = n + 1) (h0 : N[0]? = some ("self" : Str)) (hv0 : Vis scope "self") (hna : ∀ p ∈ its, PySem.W.findIn K (.ref C) p.1 = some none) (hne : its ≠ []) (hl : its.length ≤ 800)
    (hi : ∀ p ∈ its, ∀ i, p.2 = .arg i → i < n) : FnOk P w K mg base CX (k + 1) f fd ps (initSp K C n its) := by
  refine F.ok S (fun vs H Q E h => ?_) (fun cdv A outer s H vs Q E hr h => ?_)
  · obtain ⟨a, us, rfl, hu, _⟩ := h
    simp [hu, hn]
  · obtain ⟨a, us, rfl, hu, ha, q⟩ := h
    refine ⟨_, init_pss (X := cxOf CX P w K mg base N qual scope f cdv A outer s H E) rfl rfl h0 hv0 hB, ?_⟩
    have lN : n + 1 ≤ N.length := by
      have := congrArg List.length S.pre
      rw [List.length_take] at this; omega
    have st : ∀ i u, (V.ref a :: us)[i]? = some u → (L2.start N (V.ref a :: us))[i]? = some (some u) := fun i u hh => by
      unfold L2.start
      have hi : i < (V.ref a :: us).length := (List.getElem?_eq_some_iff.mp hh).1
      rw [List.getElem?_append_left (by simpa using hi), List.getElem?_map, hh]; rfl
    have hsrc : ∀ p ∈ its, ∀ (H : Hp) (Q : VK), Q (p.2.v us) H → srcT p.2 (L2.start N (V.ref a :: us)) H Q := by
      intro p hp H Q hQ
      cases e : p.2 with
      | txt x => rw [e] at hQ; exact hQ
      | arg i =>
        rw [e] at hQ
        have hiu : i < us.length := by rw [hu]; exact hi p hp i e
        refine ⟨us[i], st (i + 1) _ (by simp [hiu]), ?_⟩
        simpa [Src.v, hiu] using hQ
    cases its with
    | nil => exact absurd rfl hne
    | cons p r =>
      refine hsrc p List.mem_cons_self H _ ⟨.ref a, st 0 _ rfl, a, C, rfl, oc, hna p List.mem_cons_self, .inl ⟨ha, fun dx hd ne => ?_⟩⟩
      have e1 : (r.map fun p => (p.1, srcT p.2)) = (r.map fun p => (p.1, srcT p.2, p.2.v us)).map fun p => (p.1, p.2.1) := by rw [List.map_map]; rfl
      have e2 : ((r.map fun p => (p.1, srcT p.2, p.2.v us)).map fun p => (p.1, p.2.2)) = mkFs r us := by rw [List.map_map]; rfl
      show initT K (r.map fun p => (p.1, srcT p.2)) _ _ _
      rw [e1]
      refine init_run (st 0 _ rfl) oc ne (r.map fun p => (p.1, srcT p.2, p.2.v us)) [(p.1, p.2.v us)] (upd (upd H dx (exd dx [(p.1, p.2.v us)])) a (exo a C (some dx))) (fun z hz => ?_) upd_same (by rw [upd_ne ne, upd_same]) (by simp at hl ⊢; omega) fun H' q1 q2 q3 => ?_
      · obtain ⟨y, hy, rfl⟩ := List.mem_map.mp hz
        exact ⟨hna y (List.mem_cons_of_mem _ hy), hsrc y (List.mem_cons_of_mem _ hy)⟩
      · refine q dx H' hd ne q1 ?_ fun b h1 h2 => ?_
        · rw [q2, e2]
          simp [mkFs]
        · rw [q3 b h1 h2, upd_ne h1, upd_ne h2]

/-! ### raise -/
/-- the module's name x is the own exception class at C; its __init__ sets its fields -/
def XcC (P : Program) (w : World) (K : PySem.W.Frag) (mg : Str → Option Value) (base : Heap) (x : Str) (C : Addr) (j n : Nat) (its : List (Str × Src)) : Prop :=
  ∃ f fd ps, FnOk P w K mg base (L2.CX P w) j f fd ps (initSp K C n its) ∧ OexC K C ∧ PySem.W.findIn K (.ref C) "__init__" = some (some (.ref f)) ∧ PySem.W.typeIn K (.ref f) = some (.type "function") ∧ mg x = some (.ref C) ∧ Binds K fd ps []
def xNs (its : List (Str × Src)) : List Str := (its.map (·.1)).reverse
def xDs (its : List (Str × Src)) (ds : List D) : List D := (its.map fun p => p.2.d ds).reverse
theorem src_rep {K : PySem.W.Frag} {F : Hp} {ds : List D} {us : List V} (r : Reps K F ds us) : ∀ p : Src, (∀ i, p = .arg i → i < ds.length) → Rep K F (p.d ds) (p.v us)
  | .txt x, _ => rfl
  | .arg i, h => by
    have hi := h i rfl
    obtain ⟨v, hv, rv⟩ := r.get (List.getElem?_eq_getElem hi)
    have e1 : (Src.arg i).d ds = ds[i] := by simp [Src.d, hi]
    have e2 : (Src.arg i).v us = v := by
      show us.getD i .non = v
      rw [List.getD_eq_getElem?_getD, hv]; rfl
    rw [e1, e2]; exact rv
theorem xds_rep {K : PySem.W.Frag} {F : Hp} {ds : List D} {us : List V} (r : Reps K F ds us) : ∀ its : List (Str × Src), (∀ p ∈ its, ∀ i, p.2 = .arg i → i < ds.length) → Reps K F (xDs its ds) (its.map fun p => p.2.v us).reverse
  | [], _ => rfl
  | p :: its, h => by
    have a := xds_rep r its fun q hq => h q (List.mem_cons_of_mem _ hq)
    have b := src_rep r p.2 (h p List.mem_cons_self)
    have c := a.append (Reps.one b)
    simpa [xDs] using c
theorem zip_maps {α β γ : Type} (f : α → β) (g : α → γ) : ∀ l : List α, (l.map f).zip (l.map g) = l.map fun x => (f x, g x)
  | [] => rfl
  | x :: l => by
    show (f x, g x) :: (l.map f).zip (l.map g) = _
    rw [zip_maps f g l]; rfl
theorem mkFs_zip (its : List (Str × Src)) (us : List V) : (mkFs its us).reverse = (xNs its).zip (its.map fun p => p.2.v us).reverse := by
  unfold mkFs xNs
  rw [← List.map_reverse, ← List.map_reverse, ← List.map_reverse, zip_maps]
section
variable {ι : Type} {T : Fm ι} {k : Nat} {P : Program} {w : World} {K : PySem.W.Frag} {mg : Str → Option Value} {base : Heap} {N : List Str} {sc : Scope} {Γ : Gm} {M : Ms} {D : GEnds}
variable {e : Expr} {es : List Expr} {pos p : Pos} {x : Str} {C : Addr} {j n : Nat} {its : List (Str × Src)}
theorem sx_raise (hF : Fc T k P w K mg base N sc) (cc : XcC P w K mg base x C j n its) (hk : j < k) (hi : ∀ p ∈ its, ∀ i, p.2 = .arg i → i < n) (h : AX T (e :: es) Γ M (fun xs M1 => xs.length = n ∧ D.ex Γ C (xNs its) (xDs its xs) M1) (D.ex Γ)) (hn : n ≤ 900 := by decide)
    (hg : sc.names.lookup x = some .globalImplicit := by rfl) (hdb : (x == ("__debug__" : Str)) = false := by decide) (he : ∀ env, starEach (e :: es) env = (false, eval e env) :: starEach es env := by intro _; rfl) (hpl : ∀ env, (backTo pos (starEach es env)).any (·.1) = false := by intro _; rfl)
    (hh : T.hot = false := by assumption) {rp : Pos} : SX T (.Raise (some (.Call (.Name x p) (e :: es) [] pos)) none rp) Γ M D := by
  rw [← hF.hT] at cc
  obtain ⟨f, fd, ps, F, oc, hini, ht, hm, hb⟩ := cc
  refine SX.mk (t := fun _ σ H => tMkO C (initSp T.K C n its) [] (taOf T (e :: es)) σ H fun cls d H' => T.w cls d σ H') (fun i => ?_) ?_
  · refine ps_raise (hF.calm hh i) (hF.tk i) ?_
    have F' : FnOk (T.X i).prog (T.X i).w (T.X i).K (T.X i).mg (T.X i).base (L2.CX (T.X i).prog (T.X i).w) j f fd ps (initSp T.K C n its) := by rw [hF.hP i, hF.hw i, hF.hK i, hF.hmg i, hF.hb i]; exact F
    refine pmk_oex (k := j) (by rw [hF.hK]; exact oc) (by rw [hF.hK]; exact hini) (by rw [hF.hK]; exact ht) F' (((hF.hr i).mono hk).cold hh) (by rw [hF.hK]; exact hb) .nil (fun pins σ H s er s' I z => ?_) (by show (T.X i).env.scope.names.lookup x = _; rw [hF.hs]; exact hg) (by rw [hF.hmg]; exact hm) (pa_ta i) hdb (he _) (hpl _)
    obtain ⟨_, _, _, _, _, _, _, _, _, _, _, _, z⟩ := z
    exact z.elim
  · intro F0 H σ E ok sl q
    refine h F0 H σ _ ok sl (fun F1 H1 M1 xs vs e1 ok1 rs z => ?_) (q.kx sl)
    obtain ⟨hxs, z⟩ := z
    have hvs : vs.length = n := rs.length.trans hxs
    refine ⟨by omega, fun a ha => ⟨a, vs, by rw [List.append_nil], hvs, upd_same, fun dx H' hd ne q1 q2 q3 => ⟨rfl, dx, _, q1, q2, ?_, ?_⟩⟩⟩
    · rw [upd_ne ne] at hd; exact hd
    · have hd1 : H1 dx = none := by rw [upd_ne ne] at hd; exact hd
      have eH : upd (del H' a) dx (.xd (mkFs its vs).reverse) = upd H1 dx (.xd ((xNs its).zip (its.map fun p => p.2.v vs).reverse)) := by
        rw [mkFs_zip]
        funext b
        by_cases h1 : b = dx
        · rw [h1, upd_same, upd_same]
        · rw [upd_ne h1, upd_ne h1]
          by_cases h2 : b = a
          · rw [h2, del_same, ha]
          · rw [del_ne h2, q3 b h2 h1, upd_ne h2]
      rw [eH]
      have e2 : Same F1 (upd F1 dx (.xd ((xNs its).zip (its.map fun p => p.2.v vs).reverse))) := same_upd (ok1.freshF hd1)
      have hx := xds_rep rs its (by rw [hxs]; exact hi)
      refine (q.kx sl) _ _ M1 C dx (xNs its) (xDs its xs) _ (e1.trans e2) (ok1.new hd1) upd_same (by simp [xNs, xDs]) (hx.mono e2) z
end
end G
set_option Elab.async false
set_option linter.all false
set_option maxRecDepth 100000
/-! GTry: try with except clauses (one class, a tuple of classes; with a name or without) on data. -/
namespace G
open PySem PySem.Spec PyProof.Rows L2

/-! ### the caught exception's object comes into the abstract heap -/
section
variable {X : Cx} {pins : List (Addr × Obj)} {σ : L2.St} {H : Hp} {s sI : Shared}
theorem Inv.heat (I : Inv X pins σ H s) (I0 : Inv X pins σ H sI) {a : Addr} {o : Obj} {fv : Array Value} (hs : sI.heap.get? a = none) (ha : s.heap.get? a = some o) (hd : o.data = .fields fv) (na : H a = none) (nL : a ≠ X.env.locals) :
    Inv (X.suite a (X.pn ++ pins)) [] σ (upd H a (xob a o)) s := by
  have up : ∀ {b : Addr} {u : HO}, H b = some u → upd H a (xob a o) b = some u := fun {b u} e => by rw [upd_ne (ne_of_none e na)]; exact e
  have nil : ∀ {b : Addr}, b ≠ a → H b = none → upd H a (xob a o) b = none := fun {b} h e => by rw [upd_ne h]; exact e
  refine ⟨I.ok.suite _ _, I.os, I.bare, ⟨I.base.keep, I.base.slot, fun b u e n hx => nil (fun z => ?_) (I.base.free b u e n hx), I.base.there, fun b xs e => up (I.base.tups b xs e), fun b u v e => up (I.base.frzs b u v e), fun b ps e => ?_⟩, I.loc, I.cell, nil (Ne.symm nL) I.free, fun x c e => nil (fun z => ?_) (I.freeC x c e), fun p hp => ?_, fun b u e => ?_, I.len⟩
  · obtain ⟨u', e'⟩ := I0.base.there b u e hx
    rw [z, hs] at e'; cases e'
  · obtain ⟨more, e'⟩ := I.base.tbls b ps e
    exact ⟨more, up e'⟩
  · obtain ⟨v, u, e', d⟩ := I.cell x c e
    rw [z, ha] at e'; cases e'
    rw [hd] at d; cases d
  · have hp : p ∈ X.pn ++ pins := by simpa using hp
    obtain ⟨h1, h2, h3⟩ := I.pin p hp
    refine ⟨h1, nil (fun z => ?_) h2, h3⟩
    have h4 := (I0.pin p hp).1
    rw [z, hs] at h4; cases h4
  · by_cases hb : b = a
    · subst hb
      rw [upd_same] at e
      cases e
      exact ⟨ha, ⟨_, ha⟩, fun h1 h2 z k => k _ z⟩
    · rw [upd_ne hb] at e
      exact (I.hok b u e).stay (fun _ _ _ z => z) (fun _ z => up z) fun _ _ z => up z
theorem Inv.cool {a : Addr} {pn' : List (Addr × Obj)} (I : Inv (X.suite a (X.pn ++ pins)) pn' σ H s) (ok : X.Ok) : Inv X pins σ H s :=
  ⟨ok, I.os, I.bare, I.base, I.loc, I.cell, I.free, I.freeC, fun p hp => I.pin p (List.mem_append_left _ hp), I.hok, I.len⟩
end
theorem flying_keep {base h h' : Heap} {l : List Env} {e : Addr} {Z : Obj → Prop} (k : ∀ b o, h.get? b = some o → h'.get? b = some o) (x : HandSPX.FlyingZ base l e Z h) : HandSPX.FlyingZ base l e Z h' := by
  obtain ⟨h1, h2, h3, oe, vs, Tb, oT, ts, g1, z, d1, v1, n1, n2, g2, d2, v2⟩ := x
  exact ⟨fun b o q => k b o (h1 b o q), h2, h3.of_keeps fun b o q _ => ⟨o, k b o q, rfl⟩, oe, vs, Tb, oT, ts, k _ _ g1, z, d1, v1, n1, n2, k _ _ g2, d2, v2⟩

/-! ### the clauses' tests -/
section
variable {ι : Type}
/-- the test te of an except clause names the classes cs -/
def TestX (X : Cx) (te : Expr) (cs : List Value) : Prop := ∀ (a : Addr) (pn : List (Addr × Obj)) (o : Obj) (σ : L2.St) (H : Hp) (s : Shared) (b : Bool) (Q : Bool → Shared → Prop) (E E2 : Value → Shared → Prop), Inv (X.suite a pn) [] σ H s → s.heap.get? a = some o →
  PySem.W.exmAny X.K o.cls cs = some b → (∀ h' t', (∀ b o, s.heap.get? b = some o → h'.get? b = some o) → Q b { s with heap := h', toks := t' }) →
  wpAny (model X.prog X.w) (X.A.mark (some (.ref a))) (eval te X.env) (fun c s1 => wpAny (model X.prog X.w) (X.A.mark (some (.ref a))) (excMatches (.ref a) c) Q E2 s1) E s
def TestG (T : Fm ι) (te : Expr) (cs : List Value) : Prop := ∀ i, TestX (T.X i) te cs
variable {T : Fm ι} {k : Nat} {P : Program} {w : World} {K : PySem.W.Frag} {mg : Str → Option Value} {base : Heap} {N : List Str} {sc : Scope} {Γ : Gm} {M : Ms} {D : GEnds}
/-- a name that holds the class c -/
def NmC (mg : Str → Option Value) (x : Str) (c : Value) : Prop := mg x = some c ∨ (mg x = none ∧ bootBuiltins x = some c ∧ x ≠ "__name__")
theorem Fc.names (hF : Fc T k P w K mg base N sc) (i : ι) {x : Str} {c : Value} (h : NmC mg x c) (hg : sc.names.lookup x = some .globalImplicit) (hd : (x == ("__debug__" : Str)) = false) (a : Addr) (pn : List (Addr × Obj)) : Names ((T.X i).suite a pn) x c :=
  ⟨by show (T.X i).env.scope.names.lookup x = _; rw [hF.hs]; exact hg, hd, by show (T.X i).mg x = some c ∨ _; rw [hF.hmg]; exact h⟩
theorem names_ld {X : Cx} {x : Str} {c : Value} {pos : Pos} {pins : List (Addr × Obj)} {σ : L2.St} {H : Hp} {s : Shared} {Q : Value → Shared → Prop} {E : Value → Shared → Prop} (h : Names X x c) (I : Inv X pins σ H s) (q : Q c s) : wpAny (model X.prog X.w) X.A (eval (.Name x pos) X.env) Q E s := by
  obtain ⟨hg, hd, hm | ⟨hm, hv, hn⟩⟩ := h
  · exact ld_glob I hg hm q hd
  · exact ld_blt I hg hm hv q hn hd
theorem exm_any1 {K : PySem.W.Frag} {cls c : Value} {b : Bool} (h : PySem.W.exmAny K cls [c] = some b) : PySem.W.exmOne K cls c = some b := by
  obtain ⟨b1, d1, h1, h2, h3⟩ := PySem.W.exmAny_cons h
  have h2 : some false = some d1 := h2
  cases h2
  rw [h1, h3, Bool.or_false]
theorem test_nm (hF : Fc T k P w K mg base N sc) {x : Str} {c : Value} {pos : Pos} (h : NmC mg x c) (hg : sc.names.lookup x = some .globalImplicit := by rfl) (hd : (x == ("__debug__" : Str)) = false := by decide) : TestG T (.Name x pos) [c] := by
  intro i a pn o σ H s b Q E E2 I ha hx q
  refine names_ld (hF.names i h hg hd a pn) I ?_
  have LT : PySem.W.Looks (model (T.X i).prog (T.X i).w) s.heap (typeOf (.ref a)) o.cls := fun A Q E s' kk z => wpAny_typeOf_ref (kk _ _ ha) z
  exact (PySem.W.exm_one I.kIn LT (exm_any1 hx)).here (q s.heap s.toks fun _ _ z => z)
theorem test_t2 (hF : Fc T k P w K mg base N sc) {x y : Str} {c d : Value} {kk : Nat} {p1 p2 pos : Pos} (h1 : NmC mg x c) (h2 : NmC mg y d) (g1 : sc.names.lookup x = some .globalImplicit := by rfl) (g2 : sc.names.lookup y = some .globalImplicit := by rfl)
    (d1 : (x == ("__debug__" : Str)) = false := by decide) (d2 : (y == ("__debug__" : Str)) = false := by decide) : TestG T (.Tuple [.Name x p1, .Name y p2] kk pos) [c, d] := by
  intro i a pn o σ H s b Q E E2 I ha hx q
  have kp : ∀ b o, s.heap.get? b = some o → (s.heap.push { cls := .type "tuple", data := .seq [c, d].toArray }).get? b = some o := fun _ _ z => Heap.get?_push_of_some _ z
  have LT : PySem.W.Looks (model (T.X i).prog (T.X i).w) s.heap (typeOf (.ref a)) o.cls := fun A Q E s' kk z => wpAny_typeOf_ref (kk _ _ ha) z
  refine wpAny_Tuple (wpAny_items_cons (names_ld (hF.names i h1 g1 d1 a pn) I (wpAny_items_cons (names_ld (hF.names i h2 g2 d2 a pn) I (wpAny_items_nil ⟨by size_fits, ?_⟩)))))
  exact (PySem.W.exm_tup2 (I.kIn.keeps kp) (LT.keeps kp) (Heap.get?_push_size s.heap rfl) hx).here (q _ s.toks kp)
theorem test_t3 (hF : Fc T k P w K mg base N sc) {x y z : Str} {c d e : Value} {kk : Nat} {p1 p2 p3 pos : Pos} (h1 : NmC mg x c) (h2 : NmC mg y d) (h3 : NmC mg z e) (g1 : sc.names.lookup x = some .globalImplicit := by rfl) (g2 : sc.names.lookup y = some .globalImplicit := by rfl) (g3 : sc.names.lookup z = some .globalImplicit := by rfl)
    (d1 : (x == ("__debug__" : Str)) = false := by decide) (d2 : (y == ("__debug__" : Str)) = false := by decide) (d3 : (z == ("__debug__" : Str)) = false := by decide) : TestG T (.Tuple [.Name x p1, .Name y p2, .Name z p3] kk pos) [c, d, e] := by
  intro i a pn o σ H s b Q E E2 I ha hx q
  have kp : ∀ b o, s.heap.get? b = some o → (s.heap.push { cls := .type "tuple", data := .seq [c, d, e].toArray }).get? b = some o := fun _ _ z => Heap.get?_push_of_some _ z
  have LT : PySem.W.Looks (model (T.X i).prog (T.X i).w) s.heap (typeOf (.ref a)) o.cls := fun A Q E s' kk z => wpAny_typeOf_ref (kk _ _ ha) z
  refine wpAny_Tuple (wpAny_items_cons (names_ld (hF.names i h1 g1 d1 a pn) I (wpAny_items_cons (names_ld (hF.names i h2 g2 d2 a pn) I (wpAny_items_cons (names_ld (hF.names i h3 g3 d3 a pn) I (wpAny_items_nil ⟨by size_fits, ?_⟩)))))))
  exact (PySem.W.exm_tup3 (I.kIn.keeps kp) (LT.keeps kp) (Heap.get?_push_size s.heap rfl) hx).here (q _ s.toks kp)

/-! ### try -/
/-- a clause: the classes, the name's slot, the suite -/
structure Hd where
  cs : List Value
  nm : Option Nat
  su : List Stmt
inductive HdsG (T : Fm ι) (N : List Str) (sc : Scope) : List ExceptHandler → List Hd → Prop where
  | nil : HdsG T N sc [] []
  | plain {te : Expr} {cs : List Value} {b0 : Stmt} {su : List Stmt} {pos : Pos} {hds : List ExceptHandler} {l : List Hd} (h : TestG T te cs) (r : HdsG T N sc hds l) : HdsG T N sc (.ExceptHandler (some te) none (b0 :: su) pos :: hds) (⟨cs, none, b0 :: su⟩ :: l)
  | as {te : Expr} {cs : List Value} {n : Str} {i : Nat} {b0 : Stmt} {su : List Stmt} {pos : Pos} {hds : List ExceptHandler} {l : List Hd} (h : TestG T te cs) (hN : N[i]? = some n) (hl : sc.names.lookup n = some .local) (r : HdsG T N sc hds l) :
      HdsG T N sc (.ExceptHandler (some te) (some n) (b0 :: su) pos :: hds) (⟨cs, some i, b0 :: su⟩ :: l)
def GEnds.off (D : GEnds) (i : Nat) : GEnds := ⟨fun Γ M => D.nx (Γ.set i none) M, D.rt, fun Γ M => D.bk (Γ.set i none) M, fun Γ M => D.ct (Γ.set i none) M, fun _ _ _ _ _ => False⟩
def GEnds.nox (D : GEnds) : GEnds := { D with ex := fun _ _ _ _ _ => False }
/-- the suite of a clause runs: in any family of hot contexts -/
def suiteG (k : Nat) (P : Program) (w : World) (K : PySem.W.Frag) (mg : Str → Option Value) (base : Heap) (N : List Str) (sc : Scope) (su : List Stmt) (Γ : Gm) (M : Ms) (D : GEnds) : Prop :=
  ∀ (κ : Type) (T : Fm κ), T.hot = true → Fd T k P w K mg base N sc → SSX T su Γ M D
/-- an exception of the class at C meets the clauses -/
def catchG (k : Nat) (P : Program) (w : World) (K : PySem.W.Frag) (mg : Str → Option Value) (base : Heap) (N : List Str) (sc : Scope) (D : GEnds) : List Hd → Gm → PX
  | [], Γ, C, ns, ds, M => D.ex Γ C ns ds M
  | h :: l, Γ, C, ns, ds, M => ∃ b, PySem.W.exmAny K (.ref C) h.cs = some b ∧ (b = true → match h.nm with
      | none => suiteG k P w K mg base N sc h.su Γ M D.nox
      | some i => suiteG k P w K mg base N sc h.su (Γ.set i (some (.exn C ns ds))) M (D.off i)) ∧ (b = false → catchG k P w K mg base N sc D l Γ C ns ds M)
theorem suite_fd (hD : Fd T k P w K mg base N sc) (i : ι) (a : Addr) : Fd (ι := List (Addr × Obj)) ⟨fun pn => (T.X i).suite a pn, T.K, fun _ _ _ _ => False, true⟩ k P w K mg base N sc where
  fc := {
    hT := hD.fc.hT
    hP := fun _ => hD.fc.hP i
    hw := fun _ => hD.fc.hw i
    hK := fun _ => hD.fc.hK i
    hmg := fun _ => hD.fc.hmg i
    hb := fun _ => hD.fc.hb i
    hN := fun _ => hD.fc.hN i
    nd := hD.fc.nd
    hs := fun _ => hD.fc.hs i
    calm := fun z => nomatch z
    hr := fun _ => ⟨⟨(hD.fc.hr i).rm.dp, (hD.fc.hr i).rm.un⟩, fun z => nomatch z⟩
    tk := fun _ => takes_none5 }
  fn := fun _ => hD.fn i
  own := fun _ => .never
  stk := fun _ => hD.stk i
  frm := fun _ => hD.frm i
/-- what is wished of an exception of the body -/
def wTry (T : Fm ι) (F : Hp) (R : Gm → PX) : WX := fun cls d σ H => ∃ F' Γ M C dd ns ds vs, Same F F' ∧ Ok T.K F' H M ∧ Sl T.K F' σ Γ ∧ cls = .ref C ∧ d = some dd ∧ F' dd = some (.xd (ns.zip vs)) ∧ ns.length = ds.length ∧ Reps T.K F' ds vs ∧ R Γ C ns ds M
theorem sx_try (hD : Fd T k P w K mg base N sc) {body : List Stmt} {h0 : ExceptHandler} {hds : List ExceptHandler} {l : List Hd} {pos : Pos} (hg : HdsG T N sc (h0 :: hds) l)
    (h : ∀ (κ : Type) (T' : Fm κ), T'.hot = T.hot → Fd T' k P w K mg base N sc → SSX T' body Γ M { D with ex := catchG k P w K mg base N sc D l }) : SX T (.Try body (h0 :: hds) [] [] pos) Γ M D := by
  intro F H σ E ok sl q i pins s I
  generalize hX : T.X i = X at I ⊢
  have okX := I.ok
  have stk : X.stack = X.env :: X.outer := by rw [← hX]; exact hD.stk i
  have frm : X.env.frame = some X.env.locals := by rw [← hX]; exact hD.frm i
  have fra : X.A.frames = some (X.env :: X.outer) := okX.frames.trans (congrArg some stk)
  have tkX : Takes X T.w := by rw [← hX]; exact hD.fc.tk i
  have eK : X.K = T.K := by rw [← hX]; exact hD.fc.hK i
  have eN : X.N = N := by rw [← hX]; exact hD.fc.hN i
  have eS : X.env.scope = sc := by rw [← hX]; exact hD.fc.hs i
  let W := wTry T F (catchG k P w K mg base N sc D l)
  let J : Type := { j : List (Addr × Obj) × (Value → Shared → Prop) // Takes (X.tr j.1 j.2) W ∧ PassesOwn (model X.prog X.w) X.A X.env j.2 }
  let T1 : Fm J := ⟨fun j => X.tr j.1.1 j.1.2, T.K, W, T.hot⟩
  have hD1 : Fd T1 k P w K mg base N sc := by
    subst hX
    exact {
      fc := {
        hT := hD.fc.hT, hP := fun _ => hD.fc.hP i, hw := fun _ => hD.fc.hw i, hK := fun _ => hD.fc.hK i, hmg := fun _ => hD.fc.hmg i, hb := fun _ => hD.fc.hb i, hN := fun _ => hD.fc.hN i
        nd := hD.fc.nd, hs := fun _ => hD.fc.hs i, calm := fun z _ => hD.fc.calm z i, hr := fun _ => hD.fc.hr i, tk := fun j => j.2.1 }
      fn := fun _ => hD.fn i, own := fun j => j.2.2, stk := fun _ => hD.stk i, frm := fun _ => hD.frm i }
  have go := h J T1 rfl hD1 F H σ E ok sl ⟨q.nx, q.rt, q.bk, q.ct, fun F' Γ' M' σ' H' C d ns ds vs e ok' sl' hd hl r z => ⟨F', Γ', M', C, d, ns, ds, vs, e, ok', sl', rfl, rfl, hd, hl, r, z⟩⟩
  refine wpAny_Try_except ?_
  let cat : Value → Shared → Prop := fun e s1 => wpAny (model X.prog X.w) X.A (noteFrame e X.env) (fun _ s2 => wpAny (model X.prog X.w) X.A (setFlight e none) (fun _ s3 => wpAny (model X.prog X.w) X.A (handleBy e X.env (h0 :: hds)) (SP X pins E) X.xe s3) X.xe s2) X.xe s1
  have tkJ : Takes (X.tr (X.pn ++ pins) cat) W := by
    rintro u sT ⟨a, B, sI, pins', σ1, H1, cls, d, rfl, J', nb, up, sky, na, os, ag, F1, Γ1, M1, C, dd, ns, ds, vs, e1, ok1, sl1, rfl, rfl, hdd, hln, rs, hc⟩
    have J1 : Inv X pins σ1 H1 sI := J'.ofTry okX
    have skX : Sky B (X.env :: X.outer) a (Zc (.ref C) (some dd)) X.env.locals sT.heap := by rw [← stk]; exact sky
    show wpAny (model X.prog X.w) X.A (noteFrame (.ref a) X.env) _ _ _
    refine Sky.land Zc.steady fra frm skX fun h3 fl3 up3 => ?_
    have noF : a ∉ frs (X.env :: X.outer) := fun z => by
      obtain ⟨oe, fv, g1, _, g2⟩ := fl3.there
      obtain ⟨_, o', g3, g4⟩ := fl3.2.2.1.mem z
      rw [g1] at g3; cases g3
      exact g4 _ g2
    have noL : a ≠ X.env.locals := fun z => noF (List.mem_filterMap.mpr ⟨X.env, List.mem_cons_self, by rw [frm, z]⟩)
    have sIa : sI.heap.get? a = none := by
      cases e : sI.heap.get? a with
      | none => rfl
      | some o =>
        have z := nb a o e (by rw [show (X.tr (X.pn ++ pins) cat).stack = X.env :: X.outer from stk]; exact noF)
        rw [fl3.2.1] at z; cases z
    have hot : ∀ (h4 : Heap) (t4 : Nat), HandSPX.FlyingZ B (X.env :: X.outer) a (Zc (.ref C) (some dd)) h4 → sI.heap.UpToSlots h4 → ∃ o, h4.get? a = some o ∧ XobC C dd o ∧ Inv (X.suite a (X.pn ++ pins)) [] σ1 (upd H1 a (xob a o)) { sT with heap := h4, toks := t4 } := by
      intro h4 t4 fl4 up4
      obtain ⟨o, fv, g1, ⟨z1, z2⟩, g2⟩ := fl4.there
      have J4 : Inv X pins σ1 H1 { sT with heap := h4, toks := t4 } := J1.landed (s' := { sT with heap := h4, toks := t4 }) nb fl4.1 up4 os ag
      exact ⟨o, g1, ⟨z1, z2, fv, g2⟩, Inv.heat J4 J1 sIa g1 g2 na noL⟩
    -- the data behind
    have data : ∀ o : Obj, XobC C dd o → ∃ F2, Same F1 F2 ∧ Ok T.K F2 (upd H1 a (xob a o)) M1 ∧ Rep T.K F2 (.exn C ns ds) (.ref a) := by
      intro o ho
      have e2 : Same F1 (upd F1 a (xob a o)) := same_upd (ok1.freshF na)
      exact ⟨_, e2, ok1.new na, a, o, dd, vs, rfl, upd_same, ho, e2 _ _ hdd, hln, rs.mono e2⟩
    have noex : ∀ {F2 : Hp} {D2 : GEnds} {E2 : Ends}, (∀ Γ C ns ds M, ¬ D2.ex Γ C ns ds M) → KS T.K F2 D2.nx E2.nx → KE T.K F2 D2.rt E2.rt → KS T.K F2 D2.bk E2.bk → KS T.K F2 D2.ct E2.ct →
        KD (ι := List (Addr × Obj)) ⟨fun pn => (T.X i).suite a pn, T.K, fun _ _ _ _ => False, true⟩ F2 D2 E2 := fun hx k1 k2 k3 k4 => ⟨k1, k2, k3, k4, fun _ _ _ _ _ _ _ _ _ _ _ _ _ _ _ _ z => (hx _ _ _ _ _ z).elim⟩
    have loop : ∀ {hs : List ExceptHandler} {L : List Hd}, HdsG T N sc hs L → ∀ (h4 : Heap) (t4 : Nat), HandSPX.FlyingZ B (X.env :: X.outer) a (Zc (.ref C) (some dd)) h4 → sI.heap.UpToSlots h4 → catchG k P w K mg base N sc D L Γ1 C ns ds M1 →
        wpAny (model X.prog X.w) X.A (handleBy (.ref a) X.env hs) (SP X pins E) X.xe { sT with heap := h4, toks := t4 } := by
      intro hs L hk
      induction hk with
      | nil =>
        intro h4 t4 fl4 up4 hc
        refine wpAny_handleBy_nil ?_
        obtain ⟨_, _, _, oe, fv, Tb, _, _, g1, _, g2, g3, _⟩ := id fl4
        unfold PySem.passOn
        refine wpAny_bind (wpAny_field g1 g2 g3 ?_)
        rw [if_neg (fun z => by cases eq_of_beq z)]
        have thr : wpAny (model X.prog X.w) X.A (setFlight (.ref a) X.env.frame) (fun _ s4 => wpAny (model X.prog X.w) X.A (throw (.ref a) : Sem Flow) (SP X pins E) X.xe s4) X.xe { sT with heap := h4, toks := t4 } := by
          rw [frm]
          refine HandSPX.setFlight_upZ fl4 fun h5 hh5 up5 => wpAny_throw (tkX _ _ ?_)
          exact ⟨a, B, sI, pins, σ1, H1, .ref C, some dd, rfl, J1, nb, up4.trans up5, .inr (.inr (by rw [stk]; exact hh5)), na, os, ag, q.ex F1 Γ1 M1 σ1 H1 C dd ns ds vs e1 ok1 sl1 hdd hln rs hc⟩
        first
          | exact wpAny_bind (wpAny_pure (wpAny_bind thr))
          | exact wpAny_bind thr
      | @plain te cs b0 su pos hds l2 ht r ih =>
        intro h4 t4 fl4 up4 hc
        obtain ⟨b, hb, hyes, hno⟩ := hc
        obtain ⟨o, g1, ho, S4⟩ := hot h4 t4 fl4 up4
        have tx := ht i
        rw [hX] at tx
        refine wpAny_handleBy_cons (codeAny_handlers_test (tx a (X.pn ++ pins) o σ1 _ _ b _ _ _ S4 g1 (by rw [ho.cls, eK, hD.fc.hT]; exact hb) fun h5 t5 k5 => ?_)) (by intro z; cases z)
        have fl5 := flying_keep k5 fl4
        have up5 := up4.trans (Heap.UpToSlots.of_keeps k5)
        cases b with
        | false => exact ih h5 t5 fl5 up5 (hno rfl)
        | true =>
          refine codeAny_handlers_suite (HandSPX.lands_againZ fl5 fun h6 fl6 up6 => ?_)
          obtain ⟨o6, g6, ho6, S6⟩ := hot h6 t5 fl6 (up5.trans up6)
          obtain ⟨F2, e2, ok2, re⟩ := data o6 ho6
          have qm := q.mono (e1.trans e2)
          have run := hyes rfl (List (Addr × Obj)) _ rfl (suite_fd hD i a) F2 _ σ1 E ok2 (sl1.mono e2) (noex (fun _ _ _ _ _ z => z) qm.nx qm.rt qm.bk qm.ct) (X.pn ++ pins) [] { sT with heap := h6, toks := t5 }
          dsimp only at run
          rw [hX] at run
          refine wpAny_mono (run S6) (fun f s6 hsp => ?_) fun _ _ z => False.elim z
          cases f with
          | next => obtain ⟨σ6, H6, I6, q6⟩ := hsp; exact ⟨_, _, G.Inv.cool I6 okX, q6⟩
          | brk => obtain ⟨σ6, H6, I6, q6⟩ := hsp; exact ⟨_, _, G.Inv.cool I6 okX, q6⟩
          | cont => obtain ⟨σ6, H6, I6, q6⟩ := hsp; exact ⟨_, _, G.Inv.cool I6 okX, q6⟩
          | ret u => obtain ⟨v6, σ6, H6, I6, r6, q6⟩ := hsp; exact ⟨_, _, _, G.Inv.cool I6 okX, r6, q6⟩
      | @as te cs n j b0 su pos hds l2 ht hN hl r ih =>
        intro h4 t4 fl4 up4 hc
        obtain ⟨b, hb, hyes, hno⟩ := hc
        obtain ⟨o, g1, ho, S4⟩ := hot h4 t4 fl4 up4
        have tx := ht i
        rw [hX] at tx
        refine wpAny_handleBy_cons (codeAny_handlers_test (tx a (X.pn ++ pins) o σ1 _ _ b _ _ _ S4 g1 (by rw [ho.cls, eK, hD.fc.hT]; exact hb) fun h5 t5 k5 => ?_)) (by intro z; cases z)
        have fl5 := flying_keep k5 fl4
        have up5 := up4.trans (Heap.UpToSlots.of_keeps k5)
        have lcl : X.env.scope.names.lookup n = some .local := by rw [eS]; exact hl
        have ndX : X.N.Nodup := by rw [eN]; exact hD.fc.nd
        have atX : X.N[j]? = some n := by rw [eN]; exact hN
        cases b with
        | false => exact ih h5 t5 fl5 up5 (hno rfl)
        | true =>
          refine codeAny_handlers_suite_as (HandSPX.lands_againZ fl5 fun h6 fl6 up6 => ?_)
          obtain ⟨o6, g6, ho6, S6⟩ := hot h6 t5 fl6 (up5.trans up6)
          obtain ⟨F2, e2, ok2, re⟩ := data o6 ho6
          have qm := q.mono (e1.trans e2)
          refine store_ok (X := X.suite a (X.pn ++ pins)) (v := .ref a) S6 ndX atX (.inl lcl) rfl (fun s7 S7 => ?_) (.inr lcl)
          have off : ∀ {R : Gm → Ms → Prop} {Z : L2.St → Hp → Prop}, KS T.K F2 R Z → KS T.K F2 (fun Γ M => R (Γ.set j none) M) (fun σ' H' => Z (σ'.set j none) H') := fun k F' Γ' M' σ' H' e ok' sl' z => k F' _ M' _ H' e ok' (sl'.forget j) z
          have run := hyes rfl (List (Addr × Obj)) _ rfl (suite_fd hD i a) F2 _ (σ1.set j (some (.ref a))) { nx := fun σ' H' => E.nx (σ'.set j none) H', rt := E.rt, bk := fun σ' H' => E.bk (σ'.set j none) H', ct := fun σ' H' => E.ct (σ'.set j none) H' } ok2 ((sl1.mono e2).set re j) (noex (fun _ _ _ _ _ z => z) (off qm.nx) qm.rt (off qm.bk) (off qm.ct)) (X.pn ++ pins) [] s7
          dsimp only at run
          rw [hX] at run
          refine wpAny_mono (run S7) (fun f s8 hsp => ?_) fun _ _ z => False.elim z
          have fin : ∀ {σ8 : L2.St} {H8 : Hp} {R : Shared → Prop}, Inv (X.suite a (X.pn ++ pins)) [] σ8 H8 s8 → (∀ s9, Inv X pins (σ8.set j none) H8 s9 → R s9) → wpAny (model X.prog X.w) X.A (do bindName X.env n .none; unbindBehindTheSuite X.env n pos) (fun _ s9 => R s9) X.xe s8 := fun S8 hR => gone_ok (G.Inv.cool S8 okX) ndX atX lcl hR
          cases f with
          | next => obtain ⟨σ8, H8, I8, q8⟩ := hsp; exact fin I8 fun s9 I9 => ⟨_, _, I9, q8⟩
          | brk => obtain ⟨σ8, H8, I8, q8⟩ := hsp; exact fin I8 fun s9 I9 => ⟨_, _, I9, q8⟩
          | cont => obtain ⟨σ8, H8, I8, q8⟩ := hsp; exact fin I8 fun s9 I9 => ⟨_, _, I9, q8⟩
          | ret u => obtain ⟨v8, σ8, H8, I8, r8, q8⟩ := hsp; exact fin I8 fun s9 I9 => ⟨_, _, _, I9, r8, q8⟩
    exact loop hg h3 sT.toks fl3 (up.trans up3) hc
  have run := go ⟨(X.pn ++ pins, cat), tkJ, PassesOwn.looking⟩ [] s (I.toTry cat)
  refine wpAny_mono run (fun f s1 z => ?_) fun _ _ z => z
  cases f with
  | next => obtain ⟨σ2, H2, I2, z⟩ := z; exact wpAny_execs_nil ⟨σ2, H2, I2.ofTry okX, z⟩
  | brk => obtain ⟨σ2, H2, I2, z⟩ := z; exact ⟨σ2, H2, I2.ofTry okX, z⟩
  | cont => obtain ⟨σ2, H2, I2, z⟩ := z; exact ⟨σ2, H2, I2.ofTry okX, z⟩
  | ret u => obtain ⟨v, σ2, H2, I2, r, z⟩ := z; exact ⟨v, σ2, H2, I2.ofTry okX, r, z⟩
end
end G
set_option Elab.async false
set_option linter.all false
set_option maxRecDepth 100000
set_option maxHeartbeats 4000000
/-! K83A: the package's functions of pairs. -/
namespace K83
open PySem PySem.Spec PyProof.Rows L2 G
def top (i : Nat) : Stmt := PySem.Challenge.pw_sharedsites_k83_leaves_told.main.body.getD i (.Pass ⟨0, 0, 0, 0⟩)
/-! ### pairs -/
abbrev Pr := Int × Int
def pD (p : Pr) : D := .tup [.int p.1, .int p.2]
def shp (s : Bool) : Str := if s then "six" else "square"
theorem shp_sq (s : Bool) : decide (shp s = "square") = !s := by cases s <;> decide
theorem shp_six (s : Bool) : decide (shp s = "six") = s := by cases s <;> decide
def size6 (s : Bool) (p : Pr) : Int := if s then p.1 * p.1 + p.1 * p.2 + p.2 * p.2 else p.1 * p.1 + p.2 * p.2
def mul6 (s : Bool) (p q : Pr) : Pr := (p.1 * q.1 - p.2 * q.2, if s then p.1 * q.2 + p.2 * q.1 + p.2 * q.2 else p.1 * q.2 + p.2 * q.1)
def mir6 (s : Bool) (p : Pr) : Pr := (if s then p.1 + p.2 else p.1, -p.2)
def div6 (s : Bool) (p q : Pr) : Pr := ((mul6 s p (mir6 s q)).1 / size6 s q, (mul6 s p (mir6 s q)).2 / size6 s q)
def unitsOf (s : Bool) : List Pr := if s then [(1, 0), (0, 1), (-1, 1), (-1, 0), (0, -1), (1, -1)] else [(1, 0), (0, 1), (-1, 0), (0, -1)]
def least0 (p : Pr) : Pr := (p.1 / (Nat.gcd p.1.natAbs p.2.natAbs : Nat), p.2 / (Nat.gcd p.1.natAbs p.2.natAbs : Nat))
def least (s : Bool) (p : Pr) : Pr := if size6 s (least0 p) % size6 s (1, 1) = 0 then div6 s (least0 p) (1, 1) else least0 p
def maxL : List Pr → Pr
  | [] => (0, 0)
  | x :: xs => PySem.W.maxOf x xs
def leafName (s : Bool) (p : Pr) : Pr := maxL ((unitsOf s).map (mul6 s (least s p)))
/-- small numbers -/
def Sm (n : Int) : Prop := -(2 ^ 60) < n ∧ n < 2 ^ 60
def Sn (n : Int) : Prop := -(2 ^ 29) < n ∧ n < 2 ^ 29
def SmP (p : Pr) : Prop := Sm p.1 ∧ Sm p.2
theorem Sm.cm {x y : Int} (h : Sm x) : CMul x y := .inl ⟨by have := h.1; omega, by have := h.2; omega⟩
theorem toPs_pairs : ∀ xs : List Pr, toPs (xs.map pD) = some (xs.map PySem.W.Datum.toD)
  | [] => rfl
  | x :: xs => by
    show (toP (pD x)).bind (fun p => (toPs (xs.map pD)).map fun ps => p :: ps) = _
    rw [toPs_pairs xs]
    rfl
theorem toP_pair (x : Pr) : toP (pD x) = some (PySem.W.Datum.toD x) := rfl
theorem toD_inj {x y : Pr} (h : PySem.W.Datum.toD x = PySem.W.Datum.toD y) : x = y := by
  have h : PyData.tuple [.int x.1, .int x.2] = PyData.tuple [.int y.1, .int y.2] := h
  injection h with h
  injection h with h1 h2
  injection h2 with h2 _
  injection h1 with h1
  injection h2 with h2
  exact Prod.ext h1 h2
theorem depth_pairs : ∀ xs : List Pr, PyData.depthAll (xs.map PySem.W.Datum.toD) ≤ 1
  | [] => Nat.zero_le _
  | x :: xs => by
    show max (PyData.depth (PyData.tuple [.int x.1, .int x.2])) (PyData.depthAll (xs.map PySem.W.Datum.toD)) ≤ 1
    have := depth_pairs xs
    have e : PyData.depth (PyData.tuple [.int x.1, .int x.2]) = 1 := by simp [PyData.depth, PyData.depthAll]
    rw [e]; omega
theorem maxP_pairs {M : Ms} {Φ : PD} {x : Pr} {xs : List Pr} (h : Φ (pD (PySem.W.maxOf x xs)) M) : maxP M Φ [.lst ((x :: xs).map pD)] := by
  refine ⟨_, _, _, .inl rfl, toPs_pairs (x :: xs), ⟨?_, ?_⟩, Nat.le_trans (depth_pairs (x :: xs)) (by decide), fun d hd ht => ?_⟩
  · intro a ha b hb
    obtain ⟨a', _, rfl⟩ := List.mem_map.mp (show a ∈ (x :: xs).map PySem.W.Datum.toD from ha)
    obtain ⟨b', _, rfl⟩ := List.mem_map.mp (show b ∈ (x :: xs).map PySem.W.Datum.toD from hb)
    exact PySem.W.DatumOrd.alike a' b'
  · intro a ha
    obtain ⟨a', _, rfl⟩ := List.mem_map.mp (show a ∈ (x :: xs).map PySem.W.Datum.toD from ha)
    exact PySem.W.DatumOrd.notNone a'
  · obtain ⟨y, _, rfl⟩ := List.mem_map.mp hd
    rw [toP_pair] at ht
    have e := Option.some.inj ht
    have e2 := PySem.W.maxD_map x xs
    have e3 : y = PySem.W.maxOf x xs := toD_inj (e.trans e2)
    rw [e3]; exact h
/-! ### specs -/
def dsSizeOf : DS := fun args M Φ _ => ∃ s p, args = [.str (shp s), pD p] ∧ SmP p ∧ Φ (.int (size6 s p)) M
def dsMul : DS := fun args M Φ _ => ∃ s p q, args = [.str (shp s), pD p, pD q] ∧ SmP p ∧ Φ (pD (mul6 s p q)) M
def dsMir : DS := fun args M Φ _ => ∃ s p, args = [.str (shp s), pD p] ∧ Φ (pD (mir6 s p)) M
def dsDiv : DS := fun args M Φ _ => ∃ s p q, args = [.str (shp s), pD p, pD q] ∧ SmP p ∧ SmP q ∧ 0 < size6 s q ∧ size6 s q < 1073741824 ∧ Φ (pD (div6 s p q)) M
def dsLeafName : DS := fun args M Φ _ => ∃ s p, args = [.str (shp s), pD p] ∧ Sn p.1 ∧ Sn p.2 ∧ p ≠ (0, 0) ∧ Φ (pD (leafName s p)) M
/-! ### the text -/
abbrev sSizeOf : Stmt := top 16
abbrev sMul : Stmt := top 17
abbrev sMir : Stmt := top 18
abbrev sDiv : Stmt := top 19
abbrev sLeafName : Stmt := top 20
abbrev nSizeOf : List Str := ["shape", "pair", "x", "y"]
abbrev nMul : List Str := ["shape", "one", "other", "x", "y", "u", "v"]
abbrev nMir : List Str := ["shape", "pair", "x", "y"]
abbrev nDiv : List Str := ["shape", "pair", "other", "x", "y", "size"]
abbrev nLeafName : List Str := ["shape", "pair", "common", "least", "units", "unit"]
abbrev Bod {ι : Type} (T : Fm ι) (st : Stmt) (N : List Str) (args : List D) (M : Ms) (Φ : PD) (Ψ : PX) : Prop :=
  SSX T (defBody st) (startG N args) M ⟨fun _ M' => Φ .non M', Φ, fun _ _ => False, fun _ _ => False, fun _ => Ψ⟩
section
variable {T : Fm Unit} (hh : T.hot = false) {k : Nat} {P : Program} {w : World} {K : PySem.W.Frag} {mg : Str → Option Value} {base : Heap} {args : List D} {M : Ms} {Φ : PD} {Ψ : PX}
include hh in
theorem b_size_of (hD : Fd T k P w K mg base nSizeOf (defScope sSizeOf)) (gSQ : Gv K mg "SQUARE" (.str "square")) (h : dsSizeOf args M Φ Ψ) : Bod T sSizeOf nSizeOf args M Φ Ψ := by
  obtain ⟨s, p, rfl, hp, q⟩ := h
  have hF := hD.fc
  refine ssx_cons (sx_asg hD (tg_tp hD (tn_cons hD 2 (tn_cons hD 3 tn_nil))) (ex_var hF 1 rfl ⟨_, rfl, ?_⟩))
  refine ssx_cons (sx_if (tx_eq hF (ex_var hF 0 rfl (ex_glob hF gSQ ⟨_, rfl, fun h => ?_, fun h => ?_⟩))))
  · rw [shp_sq] at h
    refine ssx_cons (sx_ret (ex_add (ex_mul (ex_var hF 2 rfl (ex_var hF 2 rfl ⟨hp.1.cm, ex_mul (ex_var hF 3 rfl (ex_var hF 3 rfl ⟨hp.2.cm, ?_⟩))⟩)))))
    cases s with
    | false => exact q
    | true => cases h
  · rw [shp_sq] at h
    refine ssx_nil (ssx_cons (sx_ret (ex_add (ex_add (ex_mul (ex_var hF 2 rfl (ex_var hF 2 rfl ⟨hp.1.cm, ex_mul (ex_var hF 2 rfl (ex_var hF 3 rfl ⟨hp.1.cm, ex_mul (ex_var hF 3 rfl (ex_var hF 3 rfl ⟨hp.2.cm, ?_⟩))⟩))⟩)))))))
    cases s with
    | true => exact q
    | false => cases h
include hh in
theorem b_mul (hD : Fd T k P w K mg base nMul (defScope sMul)) (gSQ : Gv K mg "SQUARE" (.str "square")) (h : dsMul args M Φ Ψ) : Bod T sMul nMul args M Φ Ψ := by
  obtain ⟨s, p, r, rfl, hp, q⟩ := h
  have hF := hD.fc
  refine ssx_cons (sx_asg hD (tg_tp hD (tn_cons hD 3 (tn_cons hD 4 tn_nil))) (ex_var hF 1 rfl ⟨_, rfl, ?_⟩))
  refine ssx_cons (sx_asg hD (tg_tp hD (tn_cons hD 5 (tn_cons hD 6 tn_nil))) (ex_var hF 2 rfl ⟨_, rfl, ?_⟩))
  refine ssx_cons (sx_if (tx_eq hF (ex_var hF 0 rfl (ex_glob hF gSQ ⟨_, rfl, fun h => ?_, fun h => ?_⟩))))
  · rw [shp_sq] at h
    refine ssx_cons (sx_ret (ex_tup (ax_cons (ex_sub (ex_mul (ex_var hF 3 rfl (ex_var hF 5 rfl ⟨hp.1.cm, ex_mul (ex_var hF 4 rfl (ex_var hF 6 rfl ⟨hp.2.cm, ?_⟩))⟩)))))))
    refine ax_cons (ex_add (ex_mul (ex_var hF 3 rfl (ex_var hF 6 rfl ⟨hp.1.cm, ex_mul (ex_var hF 4 rfl (ex_var hF 5 rfl ⟨hp.2.cm, ax_nil ⟨sz 2, ?_⟩⟩))⟩))))
    cases s with
    | false => exact q
    | true => cases h
  · rw [shp_sq] at h
    refine ssx_nil (ssx_cons (sx_ret (ex_tup (ax_cons (ex_sub (ex_mul (ex_var hF 3 rfl (ex_var hF 5 rfl ⟨hp.1.cm, ex_mul (ex_var hF 4 rfl (ex_var hF 6 rfl ⟨hp.2.cm, ?_⟩))⟩))))))))
    refine ax_cons (ex_add (ex_add (ex_mul (ex_var hF 3 rfl (ex_var hF 6 rfl ⟨hp.1.cm, ex_mul (ex_var hF 4 rfl (ex_var hF 5 rfl ⟨hp.2.cm, ex_mul (ex_var hF 4 rfl (ex_var hF 6 rfl ⟨hp.2.cm, ax_nil ⟨sz 2, ?_⟩⟩))⟩))⟩)))))
    cases s with
    | true => exact q
    | false => cases h
include hh in
theorem b_mir (hD : Fd T k P w K mg base nMir (defScope sMir)) (gSQ : Gv K mg "SQUARE" (.str "square")) (h : dsMir args M Φ Ψ) : Bod T sMir nMir args M Φ Ψ := by
  obtain ⟨s, p, rfl, q⟩ := h
  have hF := hD.fc
  refine ssx_cons (sx_asg hD (tg_tp hD (tn_cons hD 2 (tn_cons hD 3 tn_nil))) (ex_var hF 1 rfl ⟨_, rfl, ?_⟩))
  refine ssx_cons (sx_if (tx_eq hF (ex_var hF 0 rfl (ex_glob hF gSQ ⟨_, rfl, fun h => ?_, fun h => ?_⟩))))
  · rw [shp_sq] at h
    refine ssx_cons (sx_ret (ex_tup (ax_cons (ex_var hF 2 rfl (ax_cons (ex_neg (ex_var hF 3 rfl (ax_nil ⟨sz 2, ?_⟩))))))))
    cases s with
    | false => exact q
    | true => cases h
  · rw [shp_sq] at h
    refine ssx_nil (ssx_cons (sx_ret (ex_tup (ax_cons (ex_add (ex_var hF 2 rfl (ex_var hF 3 rfl (ax_cons (ex_neg (ex_var hF 3 rfl (ax_nil ⟨sz 2, ?_⟩)))))))))))
    cases s with
    | true => exact q
    | false => cases h
include hh in
theorem b_div {j1 j2 j3 : Nat} (hD : Fd T k P w K mg base nDiv (defScope sDiv)) (cM : Cal T.hot P w K mg base "multiplied" j1 ["shape", "one", "other"] dsMul) (cR : Cal T.hot P w K mg base "mirrored" j2 ["shape", "pair"] dsMir) (cS : Cal T.hot P w K mg base "size_of" j3 ["shape", "pair"] dsSizeOf) (h1 : j1 ≤ k) (h2 : j2 ≤ k) (h3 : j3 ≤ k)
    (h : dsDiv args M Φ Ψ) : Bod T sDiv nDiv args M Φ Ψ := by
  obtain ⟨s, p, r, rfl, hp, hr, hz, hz2, q⟩ := h
  have hF := hD.fc
  refine ssx_cons (sx_asg hD (tg_tp hD (tn_cons hD 3 (tn_cons hD 4 tn_nil))) (ex_call hF cM h1 (ax_cons (ex_var hF 0 rfl (ax_cons (ex_var hF 1 rfl (ax_cons (ex_call hF cR h2 (ax_cons (ex_var hF 0 rfl (ax_cons (ex_var hF 2 rfl (ax_nil ⟨s, r, rfl, ax_nil ⟨s, p, _, rfl, hp, _, rfl, ?_⟩⟩)))))))))))))
  refine ssx_cons (sx_set hD 5 (ex_call hF cS h3 (ax_cons (ex_var hF 0 rfl (ax_cons (ex_var hF 2 rfl (ax_nil ⟨s, r, rfl, hr, ?_⟩)))))))
  exact ssx_cons (sx_ret (ex_tup (ax_cons (ex_fdiv (ex_var hF 3 rfl (ex_var hF 5 rfl ⟨⟨hz, hz2⟩, ax_cons (ex_fdiv (ex_var hF 4 rfl (ex_var hF 5 rfl ⟨⟨hz, hz2⟩, ax_nil ⟨sz 2, q⟩⟩)))⟩))))))
/-! leaf_name -/
theorem gcd_pos {p : Pr} (h : p ≠ (0, 0)) : 0 < Nat.gcd p.1.natAbs p.2.natAbs := by
  apply Nat.pos_of_ne_zero
  intro e
  obtain ⟨h1, h2⟩ := Nat.gcd_eq_zero_iff.mp e
  exact h (Prod.ext (Int.natAbs_eq_zero.mp h1) (Int.natAbs_eq_zero.mp h2))
theorem gcd_lt {p : Pr} (h : p ≠ (0, 0)) (h1 : Sn p.1) (h2 : Sn p.2) : Nat.gcd p.1.natAbs p.2.natAbs < 1073741824 := by
  by_cases e : p.1 = 0
  · have e2 : p.2 ≠ 0 := fun z => h (Prod.ext e z)
    have : Nat.gcd p.1.natAbs p.2.natAbs ≤ p.2.natAbs := Nat.le_of_dvd (by omega) (Nat.gcd_dvd_right _ _)
    have := h2.1; have := h2.2; omega
  · have : Nat.gcd p.1.natAbs p.2.natAbs ≤ p.1.natAbs := Nat.le_of_dvd (by omega) (Nat.gcd_dvd_left _ _)
    have := h1.1; have := h1.2; omega
theorem div_sn {a : Int} {g : Nat} (h : Sn a) (hg : 0 < g) : Sn (a / (g : Int)) := by
  have h1 := h.1
  have h2 := h.2
  have hg' : (0 : Int) < (g : Int) := by omega
  constructor
  · by_cases ha : 0 ≤ a
    · have : 0 ≤ a / (g : Int) := Int.ediv_nonneg ha (by omega)
      omega
    · have : a ≤ a / (g : Int) := by
        rw [Int.le_ediv_iff_mul_le hg']
        have h3 : (1 : Int) ≤ (g : Int) := by omega
        have := Int.mul_le_mul_of_nonpos_left (show a ≤ 0 by omega) h3
        omega
      omega
  · by_cases ha : 0 ≤ a
    · have : a / (g : Int) ≤ a := Int.ediv_le_self _ ha
      omega
    · have : a / (g : Int) < 0 := Int.ediv_neg_of_neg_of_pos (by omega) hg'
      omega
theorem least0_sn {p : Pr} (h : p ≠ (0, 0)) (h1 : Sn p.1) (h2 : Sn p.2) : Sn (least0 p).1 ∧ Sn (least0 p).2 := ⟨div_sn h1 (gcd_pos h), div_sn h2 (gcd_pos h)⟩
theorem Sn.sm {n : Int} (h : Sn n) : Sm n := ⟨by have := h.1; omega, by have := h.2; omega⟩
theorem sz11 (s : Bool) : 0 < size6 s (1, 1) ∧ size6 s (1, 1) < 4 := by cases s <;> decide
theorem div11_sm {s : Bool} {p : Pr} (h1 : Sn p.1) (h2 : Sn p.2) : SmP (div6 s p (1, 1)) := by
  obtain ⟨a1, a2⟩ := h1
  obtain ⟨b1, b2⟩ := h2
  cases s
  · show Sm ((p.1 * 1 - p.2 * (-1)) / 2) ∧ Sm ((p.1 * (-1) + p.2 * 1) / 2)
    unfold Sm; omega
  · show Sm ((p.1 * (1 + 1) - p.2 * (-1)) / 3) ∧ Sm ((p.1 * (-1) + p.2 * (1 + 1) + p.2 * (-1)) / 3)
    unfold Sm; omega
include hh in
theorem b_leaf_name {j1 j2 j3 : Nat} (hD : Fd T k P w K mg base nLeafName (defScope sLeafName)) (gSQ : Gv K mg "SQUARE" (.str "square")) (gU : Gv K mg "SQUARE_UNITS" (.tup ((unitsOf false).map pD))) (gV : Gv K mg "SIX_UNITS" (.tup ((unitsOf true).map pD)))
    (gG : mg "gcd" = some (.builtin "math.gcd")) (gM : mg "max" = none) (cM : Cal T.hot P w K mg base "multiplied" j1 ["shape", "one", "other"] dsMul) (cD : Cal T.hot P w K mg base "divided" j2 ["shape", "pair", "other"] dsDiv) (cS : Cal T.hot P w K mg base "size_of" j3 ["shape", "pair"] dsSizeOf) (h1 : j1 ≤ k) (h2 : j2 ≤ k) (h3 : j3 ≤ k)
    (h : dsLeafName args M Φ Ψ) : Bod T sLeafName nLeafName args M Φ Ψ := by
  obtain ⟨s, p, rfl, hp1, hp2, hp0, q⟩ := h
  have hF := hD.fc
  have hg := gcd_pos hp0
  have hg2 := gcd_lt hp0 hp1 hp2
  have hg3 : (0 : Int) < (Nat.gcd p.1.natAbs p.2.natAbs : Nat) := by omega
  have hg4 : ((Nat.gcd p.1.natAbs p.2.natAbs : Nat) : Int) < 1073741824 := by omega
  obtain ⟨l1, l2⟩ := least0_sn hp0 hp1 hp2
  refine ssx_cons (sx_set hD 2 (ex_gcd hF gG (ax_cons (ex_ix hF (ex_var hF 1 rfl (ex_int ⟨_, rfl, ax_cons (ex_ix hF (ex_var hF 1 rfl (ex_int ⟨_, rfl, ax_nil ?_⟩)))⟩))))))
  refine ssx_cons (sx_set hD 3 (ex_tup (ax_cons (ex_fdiv (ex_ix hF (ex_var hF 1 rfl (ex_int ⟨_, rfl, ex_var hF 2 rfl ⟨⟨hg3, hg4⟩, ax_cons (ex_fdiv (ex_ix hF (ex_var hF 1 rfl (ex_int ⟨_, rfl, ex_var hF 2 rfl ⟨⟨hg3, hg4⟩, ax_nil ⟨sz 2, ?_⟩⟩⟩))))⟩⟩)))))))
  -- the rest, behind the if, for the least pair l
  have rest : ∀ l : Pr, SmP l → l = least s p → SSX T ((defBody sLeafName).drop 3) [some (.str (shp s)), some (pD p), some (.int ((Nat.gcd p.1.natAbs p.2.natAbs : Nat) : Int)), some (pD l), none, none] M ⟨fun _ M' => Φ .non M', Φ, fun _ _ => False, fun _ _ => False, fun _ => Ψ⟩ := by
    intro l hl el
    have fin : SSX T ((defBody sLeafName).drop 4) [some (.str (shp s)), some (pD p), some (.int ((Nat.gcd p.1.natAbs p.2.natAbs : Nat) : Int)), some (pD l), some (.tup ((unitsOf s).map pD)), none] M ⟨fun _ M' => Φ .non M', Φ, fun _ _ => False, fun _ _ => False, fun _ => Ψ⟩ := by
      refine ssx_cons (sx_ret (ex_max hF gM (ax_cons (ex_lc hF [("unit", 5)] (tb_nm hF 5) (IfOk.none) (ix_seqD hF (ex_var hF 4 rfl ⟨_, rfl, ?_⟩)) (by decide +kernel) (by decide)))))
      refine lc_mapT pD (fun u => pD (mul6 s l u)) (by cases s <;> decide) (fun u _ => ⟨_, rfl, fun M' _ => ?_⟩) ?_
      · exact ex_call (hF.blk _) cM h1 (ax_cons (ex_var (hF.blk _) 0 rfl (ax_cons (ex_var (hF.blk _) 3 rfl (ax_cons (ex_var (hF.blk _) 5 rfl (ax_nil ⟨s, l, u, rfl, hl, rfl, rfl⟩)))))))
      · refine ax_nil ?_
        have e : (unitsOf s).map (fun u => pD (mul6 s l u)) = ((unitsOf s).map (mul6 s l)).map pD := by
          rw [List.map_map]; rfl
        rw [e]
        have q2 : Φ (pD (maxL ((unitsOf s).map (mul6 s l)))) M := by rw [el]; exact q
        cases s <;> exact maxP_pairs q2
    refine ssx_cons (sx_set hD 4 (ex_if (tx_eq hF (ex_var hF 0 rfl (ex_glob hF gSQ ⟨_, rfl, fun h => ?_, fun h => ?_⟩)))))
    · rw [shp_sq] at h
      refine ex_glob hF gU ?_
      cases s with
      | false => exact fin
      | true => cases h
    · rw [shp_sq] at h
      refine ex_glob hF gV ?_
      cases s with
      | true => exact fin
      | false => cases h
  refine ssx_cons (sx_if (tx_eq hF (ex_mod (ex_call hF cS h3 (ax_cons (ex_var hF 0 rfl (ax_cons (ex_var hF 3 rfl (ax_nil ⟨s, least0 p, rfl, ⟨l1.sm, l2.sm⟩, ex_call hF cS h3 (ax_cons (ex_var hF 0 rfl (ax_cons (ex_tup (ax_cons (ex_int (ax_cons (ex_int (ax_nil ⟨sz 2, ?_⟩)))))))))⟩)))))))))
  refine ax_nil ⟨s, (1, 1), rfl, ⟨by unfold Sm; decide, by unfold Sm; decide⟩, (sz11 s).1, ex_int ⟨_, rfl, fun h => ?_, fun h => ?_⟩⟩
  · have h := of_decide_eq_true h
    refine ssx_cons (sx_set hD 3 (ex_call hF cD h2 (ax_cons (ex_var hF 0 rfl (ax_cons (ex_var hF 3 rfl (ax_cons (ex_tup (ax_cons (ex_int (ax_cons (ex_int (ax_nil ⟨sz 2, ?_⟩)))))))))))))
    refine ax_nil ⟨s, least0 p, (1, 1), rfl, ⟨l1.sm, l2.sm⟩, ⟨by unfold Sm; decide, by unfold Sm; decide⟩, (sz11 s).1, by have := (sz11 s).2; omega, ?_⟩
    refine ssx_nil (rest (div6 s (least0 p) (1, 1)) (div11_sm l1 l2) ?_)
    unfold least; rw [if_pos h]
  · have h := of_decide_eq_false h
    refine ssx_nil (rest (least0 p) ⟨l1.sm, l2.sm⟩ ?_)
    unfold least; rw [if_neg h]
end
end K83
set_option Elab.async false
set_option linter.all false
set_option maxRecDepth 100000
set_option maxHeartbeats 4000000
/-! K83B: the law's own functions of pairs. -/
namespace K83
open PySem PySem.Spec PyProof.Rows L2 G
abbrev sLGcd : Stmt := top 31
abbrev sLMul : Stmt := top 32
abbrev sLSize : Stmt := top 33
abbrev sLMir : Stmt := top 34
abbrev sLUnits : Stmt := top 35
abbrev sLName : Stmt := top 36
abbrev nLGcd : List Str := ["a", "b"]
abbrev nLMul : List Str := ["shape_word", "p", "q", "x", "y", "u", "v"]
abbrev nLSize : List Str := ["shape_word", "p"]
abbrev nLMir : List Str := ["shape_word", "p"]
abbrev nLUnits : List Str := ["shape_word"]
abbrev nLName : List Str := ["shape_word", "p", "g", "q", "x", "y", "u", "v", "unit"]
def dsLGcd : DS := fun args M Φ _ => ∃ a b : Int, args = [.int a, .int b] ∧ Φ (.int (Nat.gcd a.natAbs b.natAbs : Nat)) M
def dsLMul : DS := fun args M Φ _ => ∃ s p q, args = [.str (shp s), pD p, pD q] ∧ SmP p ∧ Φ (pD (mul6 s p q)) M
def dsLSize : DS := fun args M Φ _ => ∃ s p, args = [.str (shp s), pD p] ∧ SmP p ∧ Φ (.int (size6 s p)) M
def dsLMir : DS := fun args M Φ _ => ∃ s p, args = [.str (shp s), pD p] ∧ Φ (pD (mir6 s p)) M
def dsLUnits : DS := fun args M Φ _ => ∃ s, args = [.str (shp s)] ∧ Φ (.lst ((unitsOf s).map pD)) M
section
variable {T : Fm Unit} (hh : T.hot = false) {k : Nat} {P : Program} {w : World} {K : PySem.W.Frag} {mg : Str → Option Value} {base : Heap} {args : List D} {M : Ms} {Φ : PD} {Ψ : PX}
theorem gcd_step {a b : Int} (ha : 0 ≤ a) (hb : 0 < b) : Nat.gcd b.natAbs (a % b).natAbs = Nat.gcd a.natAbs b.natAbs := by
  have e : (a % b).natAbs = a.natAbs % b.natAbs := by
    have := Int.natAbs_emod_of_nonneg ha b
    simpa using this
  rw [e, Nat.gcd_comm a.natAbs, Nat.gcd_rec b.natAbs a.natAbs, Nat.gcd_comm]
include hh in
theorem b_lgcd (hD : Fd T k P w K mg base nLGcd (defScope sLGcd)) (gA : mg "abs" = none) (gI : mg "int" = none) (h : dsLGcd args M Φ Ψ) : Bod T sLGcd nLGcd args M Φ Ψ := by
  obtain ⟨a, b, rfl, q⟩ := h
  have hF := hD.fc
  refine ssx_cons (sx_par hD 0 1 (ax_cons (ex_abs hF gA (ax_cons (ex_var hF 0 rfl (ax_nil (ax_cons (ex_abs hF gA (ax_cons (ex_var hF 1 rfl (ax_nil (ax_nil ⟨_, _, rfl, ?_⟩))))))))))))
  have e1 : ∀ n : Int, (if n < 0 then -n else n) = (n.natAbs : Int) := fun n => by split <;> omega
  rw [e1, e1]
  refine ssx_cons (sx_while hD (fun m Γ M' => ∃ x y : Nat, Nat.gcd x y = Nat.gcd a.natAbs b.natAbs ∧ m = y ∧ Γ = [some (.int x), some (.int y)] ∧ M' = M) b.natAbs ⟨a.natAbs, b.natAbs, rfl, rfl, rfl, rfl⟩ ?_)
  rintro m Γ M' ⟨x, y, hxy, rfl, rfl, rfl⟩
  refine tx_tru hF (fun _ _ => rfl) (ex_var hF 1 rfl ⟨fun h => ?_, fun h => ?_⟩)
  · have hy : (m : Int) ≠ 0 := by simpa using h
    have hy0 : 0 < m := by omega
    refine ssx_cons (sx_par hD 0 1 (ax_cons (ex_var hF 1 rfl (ax_cons (ex_mod (ex_int1 hF gI (ax_cons (ex_var hF 0 rfl (ax_nil (ex_var hF 1 rfl ⟨by omega, ax_nil ⟨_, _, rfl, ssx_nil ⟨x % m, Nat.mod_lt _ hy0, m, x % m, ?_, rfl, ?_, rfl⟩⟩⟩))))))))))
    · rw [← hxy, Nat.gcd_comm x m, Nat.gcd_rec m x, Nat.gcd_comm]
    · show [some (D.int (m : Int)), some (D.int ((x : Int) % (m : Int)))] = _
      rw [Int.natCast_emod]
  · have hy : (m : Int) = 0 := by simpa using h
    have hy0 : m = 0 := by omega
    subst hy0
    refine ssx_cons (sx_ret (ex_var hF 0 rfl ?_))
    rw [Nat.gcd_zero_right] at hxy
    rw [hxy]; exact q
include hh in
theorem b_lmul (hD : Fd T k P w K mg base nLMul (defScope sLMul)) (h : dsLMul args M Φ Ψ) : Bod T sLMul nLMul args M Φ Ψ := by
  obtain ⟨s, p, r, rfl, hp, q⟩ := h
  have hF := hD.fc
  refine ssx_cons (sx_asg hD (tg_tp hD (tn_cons hD 3 (tn_cons hD 4 tn_nil))) (ex_var hF 1 rfl ⟨_, rfl, ?_⟩))
  refine ssx_cons (sx_asg hD (tg_tp hD (tn_cons hD 5 (tn_cons hD 6 tn_nil))) (ex_var hF 2 rfl ⟨_, rfl, ?_⟩))
  refine ssx_cons (sx_ret (ex_tup (ax_cons (ex_sub (ex_mul (ex_var hF 3 rfl (ex_var hF 5 rfl ⟨hp.1.cm, ex_mul (ex_var hF 4 rfl (ex_var hF 6 rfl ⟨hp.2.cm, ?_⟩))⟩)))))))
  refine ax_cons (ex_add (ex_add (ex_mul (ex_var hF 3 rfl (ex_var hF 6 rfl ⟨hp.1.cm, ex_mul (ex_var hF 4 rfl (ex_var hF 5 rfl ⟨hp.2.cm, ?_⟩))⟩)))))
  refine ex_if (tx_eq hF (ex_var hF 0 rfl (ex_str ⟨_, rfl, fun h => ?_, fun h => ?_⟩)))
  · rw [shp_six] at h
    refine ex_mul (ex_var hF 4 rfl (ex_var hF 6 rfl ⟨hp.2.cm, ax_nil ⟨sz 2, ?_⟩⟩))
    subst h; exact q
  · rw [shp_six] at h
    refine ex_int (ax_nil ⟨sz 2, ?_⟩)
    subst h
    show Φ (pD (_, p.1 * r.2 + p.2 * r.1 + 0)) M
    rw [Int.add_zero]; exact q
theorem b_lsize (hD : Fd T k P w K mg base nLSize (defScope sLSize)) (h : dsLSize args M Φ Ψ) : Bod T sLSize nLSize args M Φ Ψ := by
  obtain ⟨s, p, rfl, hp, q⟩ := h
  have hF := hD.fc
  refine ssx_cons (sx_ret (ex_add (ex_add (ex_mul (ex_ix hF (ex_var hF 1 rfl (ex_int ⟨_, rfl, ex_ix hF (ex_var hF 1 rfl (ex_int ⟨_, rfl, hp.1.cm, ex_mul (ex_ix hF (ex_var hF 1 rfl (ex_int ⟨_, rfl, ex_ix hF (ex_var hF 1 rfl (ex_int ⟨_, rfl, hp.2.cm, ?_⟩))⟩)))⟩))⟩)))))))
  refine ex_if (tx_eq hF (ex_var hF 0 rfl (ex_str ⟨_, rfl, fun h => ?_, fun h => ?_⟩)))
  · rw [shp_six] at h
    refine ex_mul (ex_ix hF (ex_var hF 1 rfl (ex_int ⟨_, rfl, ex_ix hF (ex_var hF 1 rfl (ex_int ⟨_, rfl, hp.1.cm, ?_⟩))⟩)))
    subst h
    have e : p.1 * p.1 + p.2 * p.2 + p.1 * p.2 = size6 true p := by show _ = p.1 * p.1 + p.1 * p.2 + p.2 * p.2; omega
    show Φ (.int (p.1 * p.1 + p.2 * p.2 + p.1 * p.2)) M
    rw [e]; exact q
  · rw [shp_six] at h
    refine ex_int ?_
    subst h
    show Φ (.int (p.1 * p.1 + p.2 * p.2 + 0)) M
    rw [Int.add_zero]; exact q
theorem b_lmir (hD : Fd T k P w K mg base nLMir (defScope sLMir)) (h : dsLMir args M Φ Ψ) : Bod T sLMir nLMir args M Φ Ψ := by
  obtain ⟨s, p, rfl, q⟩ := h
  have hF := hD.fc
  refine ssx_cons (sx_ret (ex_if (tx_eq hF (ex_var hF 0 rfl (ex_str ⟨_, rfl, fun h => ?_, fun h => ?_⟩)))))
  · rw [shp_six] at h
    refine ex_tup (ax_cons (ex_add (ex_ix hF (ex_var hF 1 rfl (ex_int ⟨_, rfl, ex_ix hF (ex_var hF 1 rfl (ex_int ⟨_, rfl, ax_cons (ex_sub (ex_int (ex_ix hF (ex_var hF 1 rfl (ex_int ⟨_, rfl, ax_nil ⟨sz 2, ?_⟩⟩)))))⟩))⟩)))))
    subst h
    show Φ (pD (p.1 + p.2, 0 - p.2)) M
    rw [Int.zero_sub]; exact q
  · rw [shp_six] at h
    refine ex_tup (ax_cons (ex_ix hF (ex_var hF 1 rfl (ex_int ⟨_, rfl, ax_cons (ex_sub (ex_int (ex_ix hF (ex_var hF 1 rfl (ex_int ⟨_, rfl, ax_nil ⟨sz 2, ?_⟩⟩)))))⟩))))
    subst h
    show Φ (pD (p.1, 0 - p.2)) M
    rw [Int.zero_sub]; exact q
theorem b_lunits (hD : Fd T k P w K mg base nLUnits (defScope sLUnits)) (h : dsLUnits args M Φ Ψ) : Bod T sLUnits nLUnits args M Φ Ψ := by
  obtain ⟨s, rfl, q⟩ := h
  have hF := hD.fc
  refine ssx_cons (sx_ret (ex_if (tx_eq hF (ex_var hF 0 rfl (ex_str ⟨_, rfl, fun h => ?_, fun h => ?_⟩)))))
  · rw [shp_six] at h
    refine ex_lst (ax_cons (ex_tup (ax_cons (ex_int (ax_cons (ex_int (ax_nil ⟨sz 2, ax_cons (ex_tup (ax_cons (ex_int (ax_cons (ex_int (ax_nil ⟨sz 2, ax_cons (ex_tup (ax_cons (ex_neg (ex_int (ax_cons (ex_int (ax_nil ⟨sz 2, ax_cons (ex_tup (ax_cons (ex_neg (ex_int (ax_cons (ex_int (ax_nil ⟨sz 2, ax_cons (ex_tup (ax_cons (ex_int (ax_cons (ex_neg (ex_int (ax_nil ⟨sz 2, ax_cons (ex_tup (ax_cons (ex_int (ax_cons (ex_neg (ex_int (ax_nil ⟨sz 2, ax_nil ⟨sz 6, ?_⟩⟩)))))))⟩)))))))⟩)))))))⟩)))))))⟩))))))⟩)))))))
    subst h; exact q
  · rw [shp_six] at h
    refine ex_lst (ax_cons (ex_tup (ax_cons (ex_int (ax_cons (ex_int (ax_nil ⟨sz 2, ax_cons (ex_tup (ax_cons (ex_int (ax_cons (ex_int (ax_nil ⟨sz 2, ax_cons (ex_tup (ax_cons (ex_neg (ex_int (ax_cons (ex_int (ax_nil ⟨sz 2, ax_cons (ex_tup (ax_cons (ex_int (ax_cons (ex_neg (ex_int (ax_nil ⟨sz 2, ax_nil ⟨sz 4, ?_⟩⟩)))))))⟩)))))))⟩))))))⟩)))))))
    subst h; exact q
def dsLName : DS := fun args M Φ _ => ∃ s p, args = [.str (shp s), pD p] ∧ Sn p.1 ∧ Sn p.2 ∧ p ≠ (0, 0) ∧ Φ (pD (leafName s p)) M
def qOf (s : Bool) : Int := if s then 3 else 2
theorem q_eq (s : Bool) : qOf s = size6 s (1, 1) := by cases s <;> rfl
include hh in
theorem b_lname {j1 j2 j3 j4 j5 : Nat} (hD : Fd T k P w K mg base nLName (defScope sLName)) (gM : mg "max" = none) (gI : mg "int" = none) (cG : Cal T.hot P w K mg base "_law_gcd" j1 ["a", "b"] dsLGcd) (cM : Cal T.hot P w K mg base "_law_pair_mul" j2 ["shape_word", "p", "q"] dsLMul)
    (cS : Cal T.hot P w K mg base "_law_pair_size" j3 ["shape_word", "p"] dsLSize) (cR : Cal T.hot P w K mg base "_law_mirror" j4 ["shape_word", "p"] dsLMir) (cU : Cal T.hot P w K mg base "_law_units" j5 ["shape_word"] dsLUnits) (h1 : j1 ≤ k) (h2 : j2 ≤ k) (h3 : j3 ≤ k) (h4 : j4 ≤ k) (h5 : j5 ≤ k)
    (h : dsLName args M Φ Ψ) : Bod T sLName nLName args M Φ Ψ := by
  obtain ⟨s, p, rfl, hp1, hp2, hp0, q⟩ := h
  have hF := hD.fc
  have hg := gcd_pos hp0
  have hg2 := gcd_lt hp0 hp1 hp2
  have hg3 : (0 : Int) < (Nat.gcd p.1.natAbs p.2.natAbs : Nat) := by omega
  have hg4 : ((Nat.gcd p.1.natAbs p.2.natAbs : Nat) : Int) < 1073741824 := by omega
  obtain ⟨l1, l2⟩ := least0_sn hp0 hp1 hp2
  have hq0 : 0 < qOf s ∧ qOf s < 4 := by rw [q_eq]; exact sz11 s
  have rest : ∀ (l : Pr) (o1 o2 : Option D), SmP l → l = least s p → SSX T ((defBody sLName).drop 3) [some (.str (shp s)), some (pD p), some (.int ((Nat.gcd p.1.natAbs p.2.natAbs : Nat) : Int)), some (.int (qOf s)), some (.int l.1), some (.int l.2), o1, o2, none] M ⟨fun _ M' => Φ .non M', Φ, fun _ _ => False, fun _ _ => False, fun _ => Ψ⟩ := by
    intro l o1 o2 hl el
    refine ssx_cons (sx_ret (ex_max hF gM (ax_cons (ex_lc hF [("unit", 8)] (tb_nm hF 8) (IfOk.none) (ix_seqD hF (ex_call hF cU h5 (ax_cons (ex_var hF 0 rfl (ax_nil ⟨s, rfl, _, rfl, ?_⟩))))) (by decide +kernel) (by decide)))))
    refine lc_mapT pD (fun u => pD (mul6 s l u)) (by cases s <;> decide) (fun u _ => ⟨_, rfl, fun M' _ => ?_⟩) ?_
    · exact ex_call (hF.blk _) cM h2 (ax_cons (ex_var (hF.blk _) 0 rfl (ax_cons (ex_tup (ax_cons (ex_var (hF.blk _) 4 rfl (ax_cons (ex_var (hF.blk _) 5 rfl (ax_nil ⟨sz 2, ax_cons (ex_var (hF.blk _) 8 rfl (ax_nil ⟨s, l, u, rfl, hl, rfl, rfl⟩))⟩)))))))))
    · refine ax_nil ?_
      have e : (unitsOf s).map (fun u => pD (mul6 s l u)) = ((unitsOf s).map (mul6 s l)).map pD := by
        rw [List.map_map]; rfl
      rw [e]
      have q2 : Φ (pD (maxL ((unitsOf s).map (mul6 s l)))) M := by rw [el]; exact q
      cases s <;> exact maxP_pairs q2
  have mid : SSX T ((defBody sLName).drop 1) [some (.str (shp s)), some (pD p), some (.int ((Nat.gcd p.1.natAbs p.2.natAbs : Nat) : Int)), some (.int (qOf s)), none, none, none, none, none] M ⟨fun _ M' => Φ .non M', Φ, fun _ _ => False, fun _ _ => False, fun _ => Ψ⟩ := by
    refine ssx_cons (sx_asg hD (tg_tp hD (tn_cons hD 4 (tn_cons hD 5 tn_nil))) (ex_tup (ax_cons (ex_fdiv (ex_ix hF (ex_var hF 1 rfl (ex_int ⟨_, rfl, ex_var hF 2 rfl ⟨⟨hg3, hg4⟩, ax_cons (ex_fdiv (ex_ix hF (ex_var hF 1 rfl (ex_int ⟨_, rfl, ex_var hF 2 rfl ⟨⟨hg3, hg4⟩, ax_nil ⟨sz 2, _, rfl, ?_⟩⟩⟩))))⟩⟩)))))))
    refine ssx_cons <| sx_if <| tx_eq hF <| ex_mod <| ex_int1 hF gI <| ax_cons <| ex_call hF cS h3 <| ax_cons <| ex_var hF 0 rfl <| ax_cons <| ex_tup <| ax_cons <| ex_var hF 4 rfl <| ax_cons <| ex_var hF 5 rfl <| ax_nil ⟨sz 2, ax_nil ⟨s, least0 p, rfl, ⟨l1.sm, l2.sm⟩, ax_nil ?_⟩⟩
    refine ex_var hF 3 rfl ⟨hq0.1, ex_int ⟨_, rfl, fun h => ?_, fun h => ?_⟩⟩
    · have h := of_decide_eq_true h
      rw [q_eq] at h
      refine ssx_cons <| sx_asg hD (tg_tp hD (tn_cons hD 6 (tn_cons hD 7 tn_nil))) <| ex_call hF cM h2 <| ax_cons <| ex_var hF 0 rfl <| ax_cons <| ex_tup <| ax_cons <| ex_var hF 4 rfl <| ax_cons <| ex_var hF 5 rfl <| ax_nil ⟨sz 2, ax_cons <| ex_call hF cR h4 <| ax_cons <| ex_var hF 0 rfl <| ax_cons <| ex_tup <| ax_cons <| ex_int <| ax_cons <| ex_int <| ax_nil ⟨sz 2, ax_nil ⟨s, (1, 1), rfl, ax_nil ⟨s, least0 p, mir6 s (1, 1), rfl, ⟨l1.sm, l2.sm⟩, _, rfl, ?_⟩⟩⟩⟩
      refine ssx_cons <| sx_asg hD (tg_tp hD (tn_cons hD 4 (tn_cons hD 5 tn_nil))) <| ex_tup <| ax_cons <| ex_fdiv <| ex_var hF 6 rfl <| ex_var hF 3 rfl ⟨⟨hq0.1, by omega⟩, ax_cons <| ex_fdiv <| ex_var hF 7 rfl <| ex_var hF 3 rfl ⟨⟨hq0.1, by omega⟩, ax_nil ⟨sz 2, _, rfl, ?_⟩⟩⟩
      refine ssx_nil (rest (div6 s (least0 p) (1, 1)) _ _ (div11_sm l1 l2) ?_)
      unfold least; rw [if_pos h]
    · have h := of_decide_eq_false h
      rw [q_eq] at h
      refine ssx_nil (rest (least0 p) none none ⟨l1.sm, l2.sm⟩ ?_)
      unfold least; rw [if_neg h]
  refine ssx_cons (sx_par hD 2 3 (ax_cons (ex_call hF cG h1 (ax_cons (ex_ix hF (ex_var hF 1 rfl (ex_int ⟨_, rfl, ax_cons (ex_ix hF (ex_var hF 1 rfl (ex_int ⟨_, rfl, ax_nil ⟨_, _, rfl, ?_⟩⟩)))⟩)))))))
  refine ax_cons (ex_if (tx_eq hF (ex_var hF 0 rfl (ex_str ⟨_, rfl, fun h => ?_, fun h => ?_⟩))))
  · rw [shp_six] at h
    refine ex_int (ax_nil ⟨_, _, rfl, ?_⟩)
    subst h; exact mid
  · rw [shp_six] at h
    refine ex_int (ax_nil ⟨_, _, rfl, ?_⟩)
    subst h; exact mid
end
end K83
set_option Elab.async false
set_option linter.all false
set_option maxRecDepth 100000
set_option maxHeartbeats 4000000
/-! K83C: the law's bag of numbers, its draws, its equality of data. -/
namespace K83
open PySem PySem.Spec PyProof.Rows L2 G
abbrev sLBag : Stmt := top 27
abbrev sLDraw : Stmt := top 28
abbrev sLOf : Stmt := top 29
abbrev sLSame : Stmt := top 30
abbrev nLBag : List Str := ["script", "mixed", "cell"]
abbrev nLDraw : List Str := ["bag", "below", "cell", "digit", "seed"]
abbrev nLOf : List Str := ["bag", "things"]
abbrev nLSame : List Str := ["found", "due", "a", "b"]
/-- the bag's items -/
def bagD (cs : List Int) (i : Nat) (v m c : Int) : List D := [.lst (cs.map D.int), .int i, .int v, .int m, .int c, .dic [] []]
def MixOk (m : Int) : Prop := 0 ≤ m ∧ m < 2147483648
/-- at b stands a bag -/
def Bag (M : Ms) (b : Addr) : Prop := ∃ cs i v m c, M b = some (.lst (bagD cs i v m c)) ∧ MixOk m
def dsLBag : DS := fun args M Φ _ => ∃ ns : List Int, args = [.rol (ns.map D.int)] ∧ ∀ p o, M p = none → Bag (um M p o) p → Φ (.ref p) (um M p o)
def dsLDraw : DS := fun args M Φ _ => ∃ b n, args = [.ref b, .int n] ∧ 0 < n ∧ n < 1073741824 ∧ Bag M b ∧ ∀ d o, 0 ≤ d → d < n → Bag (um M b o) b → Φ (.int d) (um M b o)
def dsLOf : DS := fun args M Φ _ => ∃ b xs, args = [.ref b, .lst xs] ∧ xs ≠ [] ∧ xs.length < 1073741824 ∧ Bag M b ∧ ∀ d o, d ∈ xs → Bag (um M b o) b → Φ d (um M b o)
section
variable {T : Fm Unit} (hh : T.hot = false) {k : Nat} {P : Program} {w : World} {K : PySem.W.Frag} {mg : Str → Option Value} {base : Heap} {args : List D} {M : Ms} {Φ : PD} {Ψ : PX}
theorem MixOk.cm {m j : Int} (h : MixOk m) : CMul m j := .inl ⟨by have := h.1; omega, by have := h.2; omega⟩
include hh in
theorem b_lbag (hD : Fd T k P w K mg base nLBag (defScope sLBag)) (gI : mg "int" = none) (gL : mg "list" = none) (h : dsLBag args M Φ Ψ) : Bod T sLBag nLBag args M Φ Ψ := by
  obtain ⟨ns, rfl, q⟩ := h
  have hF := hD.fc
  refine ssx_cons <| sx_set hD 1 <| ex_int ?_
  refine ssx_cons <| sx_for hD (tg_nm hD 2) <| ix_seqD hF <| ex_slice hF <| ex_var hF 0 rfl <| ox_none <| ox_some <| ex_int ⟨_, rfl, _, rfl, ?_⟩
  refine ⟨fun _ Γ M' => M' = M ∧ ∃ m o, MixOk m ∧ Γ = [some (.rol (ns.map D.int)), some (.int m), o], ⟨rfl, 77041, none, by unfold MixOk; decide, rfl⟩, fun _ _ _ _ => trivial, ?_, ?_⟩
  · rintro n d Γ M' hd ⟨rfl, m, o, hm, rfl⟩
    have hd : ∃ i, d = .int i := by
      have := List.mem_of_getElem? hd
      unfold cutL at this
      have := List.mem_of_mem_drop (List.mem_of_mem_take this)
      obtain ⟨i, _, rfl⟩ := List.mem_map.mp this
      exact ⟨i, rfl⟩
    obtain ⟨i, rfl⟩ := hd
    refine ⟨_, rfl, ?_⟩
    refine ssx_one <| sx_set hD 1 <| ex_mod <| ex_int1 hF gI <| ax_cons <| ex_add <| ex_add <| ex_mul <| ex_var hF 1 rfl <| ex_int ⟨.inr (by decide), ex_mul <| ex_mod <| ex_int1 hF gI <| ax_cons <| ex_var hF 2 rfl <| ax_nil <| ex_int ⟨by decide, ex_int ⟨.inr (by decide), ex_int <| ax_nil <| ex_int ⟨by decide, ?_⟩⟩⟩⟩
    exact ⟨rfl, _, _, ⟨Int.emod_nonneg _ (by decide), by have := Int.emod_lt_of_pos (m * 52361 + i % 1000609 * 811 + 97) (show (0 : Int) < 2147483587 by decide); omega⟩, rfl⟩
  · rintro Γ M' ⟨rfl, m, o, hm, rfl⟩
    refine ssx_one <| sx_ret <| ex_lstM <| ax_cons <| ex_list1 hF gL <| ax_cons <| ex_slice hF <| ex_var hF 0 rfl <| ox_none <| ox_some <| ex_int ⟨_, rfl, ax_nil ⟨_, _, rfl, rfl, ?_⟩⟩
    refine ax_cons <| ex_int <| ax_cons <| ex_int <| ax_cons <| ex_var hF 1 rfl <| ax_cons <| ex_int <| ax_cons <| ex_dict0 <| ax_nil ⟨sz 6, fun p hp => q p _ hp ?_⟩
    have e : ∃ cs : List Int, cutL (ns.map D.int) none (some 63) = cs.map D.int := by
      refine ⟨(ns.drop (HT.sIx ns.length 0 none)).take (HT.sIx ns.length ns.length (some 63) - HT.sIx ns.length 0 none), ?_⟩
      unfold cutL
      rw [List.map_take, List.map_drop, List.length_map]
    obtain ⟨cs, e⟩ := e
    refine ⟨cs, 0, 0, m, 0, ?_, hm⟩
    rw [um_same, e]; rfl
theorem bag_mix {x : Int} {n : Int} (h : 0 < n) (h2 : n ≤ 2147483648) : MixOk (x % n) := ⟨Int.emod_nonneg _ (by omega), by have := Int.emod_lt_of_pos x h; omega⟩
include hh in
theorem b_ldraw (hD : Fd T k P w K mg base nLDraw (defScope sLDraw)) (gI : mg "int" = none) (gA : mg "abs" = none) (gL : mg "len" = none) (h : dsLDraw args M Φ Ψ) : Bod T sLDraw nLDraw args M Φ Ψ := by
  obtain ⟨b, n, rfl, hn, hn2, ⟨cs, i, v, m, c, hb, hm⟩, q⟩ := h
  have hF := hD.fc
  -- behind the second statement
  have rest : ∀ (i : Nat) (v m c : Int) (o : Option D), MixOk m → SSX T ((defBody sLDraw).drop 2) [some (.ref b), some (.int n), o, none, none] (um M b (.lst (bagD cs i v m c))) ⟨fun _ M' => Φ .non M', Φ, fun _ _ => False, fun _ _ => False, fun _ => Ψ⟩ := by
    intro i v m c o hm
    refine ssx_cons <| sx_if <| tx_gt <| ex_ix hF <| ex_var hF 0 rfl <| ex_int ⟨_, _, um_same, rfl, ex_int ⟨_, rfl, fun _ => ?_, fun _ => ?_⟩⟩
    · refine ssx_cons <| sx_set hD 3 <| ex_mod <| ex_int1 hF gI <| ax_cons <| ex_ix hF <| ex_var hF 0 rfl <| ex_int ⟨_, _, um_same, rfl, ax_nil <| ex_var hF 1 rfl ⟨hn, ?_⟩⟩
      refine ssx_cons <| sx_sub <| ex_fdiv <| ex_ix hF <| ex_var hF 0 rfl <| ex_int ⟨_, _, um_same, rfl, ex_var hF 1 rfl ⟨⟨hn, hn2⟩, ex_var hF 0 rfl <| ex_int ⟨_, _, um_same, rfl, ?_⟩⟩⟩
      refine ssx_one <| sx_ret <| ex_var hF 3 rfl ?_
      rw [um_um]
      exact q _ _ (Int.emod_nonneg _ (by omega)) (Int.emod_lt_of_pos _ hn) ⟨cs, i, v / n, m, c, um_same, hm⟩
    · refine ssx_nil <| ssx_cons <| sx_set hD 4 <| ex_int1 hF gI <| ax_cons <| ex_ix hF <| ex_var hF 0 rfl <| ex_int ⟨_, _, um_same, rfl, ax_nil ?_⟩
      refine ssx_cons <| sx_sub <| ex_mod <| ex_int1 hF gI <| ax_cons <| ex_add <| ex_add <| ex_add <| ex_mul <| ex_mul <| ex_var hF 4 rfl <| ex_var hF 4 rfl ⟨hm.cm, ex_int ⟨.inr (by decide), ?_⟩⟩
      refine ex_mul <| ex_var hF 4 rfl <| ex_int ⟨.inr (by decide), ex_mul <| ex_ix hF <| ex_var hF 0 rfl <| ex_int ⟨_, _, um_same, rfl, ex_int ⟨.inr (by decide), ex_int <| ax_nil <| ex_int ⟨by decide, ex_var hF 0 rfl <| ex_int ⟨_, _, um_same, rfl, ?_⟩⟩⟩⟩⟩
      refine ssx_one <| sx_ret <| ex_mod <| ex_int1 hF gI <| ax_cons <| ex_add <| ex_fdiv <| ex_ix hF <| ex_var hF 0 rfl <| ex_int ⟨_, _, um_same, rfl, ex_int ⟨by unfold CDiv; decide, ?_⟩⟩
      refine ex_mul <| ex_mod <| ex_int1 hF gI <| ax_cons <| ex_ix hF <| ex_var hF 0 rfl <| ex_int ⟨_, _, um_same, rfl, ax_nil <| ex_int ⟨by decide, ex_int ⟨.inr (by decide), ax_nil <| ex_var hF 1 rfl ⟨hn, ?_⟩⟩⟩⟩
      rw [um_um]
      exact q _ _ (Int.emod_nonneg _ (by omega)) (Int.emod_lt_of_pos _ hn) ⟨cs, i, v, _, c, um_same, bag_mix (by decide) (by decide)⟩
  refine ssx_cons <| sx_sub <| ex_add <| ex_ix hF <| ex_var hF 0 rfl <| ex_int ⟨_, _, hb, rfl, ex_int <| ex_var hF 0 rfl <| ex_int ⟨_, _, hb, rfl, ?_⟩⟩
  refine ssx_cons <| sx_if <| WWX.tx <| wx_and <| tx_eq hF <| ex_ix hF <| ex_var hF 0 rfl <| ex_int ⟨_, _, um_same, rfl, ex_int ⟨_, rfl, fun _ => ?_, fun _ => ?_⟩⟩
  · refine wx_and1 <| tx_lt <| ex_ix hF <| ex_var hF 0 rfl <| ex_int ⟨_, _, um_same, rfl, ex_len hF gL <| ax_cons <| ex_ix hF <| ex_var hF 0 rfl <| ex_int ⟨_, _, um_same, rfl, ax_nil ⟨_, rfl, fun h => ?_, fun _ => ?_⟩⟩⟩
    · have h := of_decide_eq_true h
      have hi : i < cs.length := by
        rw [List.length_map] at h; omega
      have hc : atI (cs.map D.int) (i : Int) = some (.int cs[i]) := by
        unfold atI ixN
        rw [if_pos (by omega), if_pos (by rw [List.length_map]; omega)]
        simp [hi]
      refine ssx_cons <| sx_set hD 2 <| ex_int1 hF gI <| ax_cons <| ex_ix hF <| ex_ix hF <| ex_var hF 0 rfl <| ex_int ⟨_, _, um_same, rfl, ex_ix hF <| ex_var hF 0 rfl <| ex_int ⟨_, _, um_same, rfl, _, hc, ax_nil ?_⟩⟩
      refine ssx_cons <| sx_sub <| ex_add <| ex_ix hF <| ex_var hF 0 rfl <| ex_int ⟨_, _, um_same, rfl, ex_int <| ex_var hF 0 rfl <| ex_int ⟨_, _, um_same, rfl, ?_⟩⟩
      refine ssx_one <| sx_if <| tx_ge <| ex_abs hF gA <| ax_cons <| ex_var hF 2 rfl <| ax_nil <| ex_pow <| ex_int <| ex_int ⟨by unfold CPow; decide, ⟨_, rfl, fun _ => ?_, fun _ => ?_⟩⟩
      · refine ssx_one <| sx_sub <| ex_abs hF gA <| ax_cons <| ex_var hF 2 rfl <| ax_nil <| ex_var hF 0 rfl <| ex_int ⟨_, _, um_same, rfl, ?_⟩
        rw [um_um, um_um]
        exact rest (i + 1) _ m (c + 1) _ hm
      · refine ssx_one <| sx_sub <| ex_mod <| ex_int1 hF gI <| ax_cons <| ex_add <| ex_add <| ex_mul <| ex_ix hF <| ex_var hF 0 rfl <| ex_int ⟨_, _, um_same, rfl, ex_int ⟨.inr (by decide), ?_⟩⟩
        refine ex_mul <| ex_mod <| ex_int1 hF gI <| ax_cons <| ex_var hF 2 rfl <| ax_nil <| ex_int ⟨by decide, ex_int ⟨.inr (by decide), ex_int <| ax_nil <| ex_int ⟨by decide, ex_var hF 0 rfl <| ex_int ⟨_, _, um_same, rfl, ?_⟩⟩⟩⟩
        rw [um_um, um_um]
        exact rest (i + 1) v _ (c + 1) _ (bag_mix (by decide) (by decide))
    · exact ssx_nil (rest i v m (c + 1) none hm)
  · exact ⟨(fun z => nomatch z), fun _ => ssx_nil (rest i v m (c + 1) none hm)⟩
include hh in
theorem b_lof {j : Nat} (hD : Fd T k P w K mg base nLOf (defScope sLOf)) (gL : mg "len" = none) (cD : Cal T.hot P w K mg base "_law_draw" j ["bag", "below"] dsLDraw) (hj : j ≤ k) (h : dsLOf args M Φ Ψ) : Bod T sLOf nLOf args M Φ Ψ := by
  obtain ⟨b, xs, rfl, hx, hl, hb, q⟩ := h
  have hF := hD.fc
  have h0 : 0 < xs.length := List.length_pos_iff.mpr hx
  refine ssx_one <| sx_ret <| ex_ix hF <| ex_var hF 1 rfl <| ex_call hF cD hj <| ax_cons <| ex_var hF 0 rfl <| ax_cons <| ex_len hF gL <| ax_cons <| ex_var hF 1 rfl <| ax_nil <| ax_nil ⟨b, _, rfl, by omega, by omega, hb, fun d o h1 h2 hb2 => ?_⟩
  have hi : d.toNat < xs.length := by omega
  refine ⟨xs[d.toNat], ?_, q _ o (List.getElem_mem _) hb2⟩
  unfold atI ixN
  rw [if_pos h1, if_pos h2]
  simp [hi]
end
/-! ### equality of data -/
/-- plain data, lists and tuples at most n deep -/
def sameOk : Nat → D → Bool
  | _, .non => true
  | _, .bl _ => true
  | _, .int _ => true
  | _, .str _ => true
  | n + 1, .lst ds => decide (ds.length ≤ 1000) && ds.all (sameOk n)
  | n + 1, .tup ds => decide (ds.length ≤ 1000) && ds.all (sameOk n)
  | _, _ => false
def dsLSame (n : Nat) : DS := fun args M Φ _ => ∃ x, args = [x, x] ∧ sameOk n x = true ∧ Φ (.bl true) M
section
variable {T : Fm Unit} (hh : T.hot = false) {k : Nat} {P : Program} {w : World} {K : PySem.W.Frag} {mg : Str → Option Value} {base : Heap} {args : List D} {M : Ms} {Φ : PD} {Ψ : PX}
theorem zip_self (xs : List D) : zipDs xs xs = xs.map fun d => .tup [d, d] := by
  unfold zipDs
  induction xs with
  | nil => rfl
  | cons x xs ih => simp
include hh in
theorem b_lsame {n j : Nat} (hD : Fd T k P w K mg base nLSame (defScope sLSame)) (gS : mg "isinstance" = none) (gL : mg "list" = none) (gT : mg "tuple" = none) (gB : mg "bool" = none) (gI : mg "int" = none) (gSt : mg "str" = none) (gLn : mg "len" = none) (gZ : mg "zip" = none)
    (cS : ∀ m, n = m + 1 → Cal T.hot P w K mg base "_law_same" j ["found", "due"] (dsLSame m)) (hj : j ≤ k) (h : dsLSame n args M Φ Ψ) : Bod T sLSame nLSame args M Φ Ψ := by
  obtain ⟨x, rfl, hx, q⟩ := h
  have hF := hD.fc
  -- a list or a tuple
  have seq : ∀ (xs : List D) (t : Bt), (x = .lst xs ∧ t = .lst ∨ x = .tup xs ∧ t = .tup) → SSX T ((defBody sLSame).drop 1) [some x, some x, none, none] M ⟨fun _ M' => Φ .non M', Φ, fun _ _ => False, fun _ _ => False, fun _ => Ψ⟩ := by
    intro xs t ht
    have ty : tyD x = some t := by rcases ht with ⟨rfl, rfl⟩ | ⟨rfl, rfl⟩ <;> rfl
    have tt : (isB t .lst || isB t .tup) = true := by rcases ht with ⟨_, rfl⟩ | ⟨_, rfl⟩ <;> rfl
    obtain ⟨m, rfl, hl, hall⟩ : ∃ m, n = m + 1 ∧ xs.length ≤ 1000 ∧ ∀ d ∈ xs, sameOk m d = true := by
      cases n with
      | zero => rcases ht with ⟨rfl, _⟩ | ⟨rfl, _⟩ <;> cases hx
      | succ m =>
        have hx : (decide (xs.length ≤ 1000) && xs.all (sameOk m)) = true := by rcases ht with ⟨rfl, _⟩ | ⟨rfl, _⟩ <;> exact hx
        obtain ⟨h1, h2⟩ := Bool.and_eq_true_iff.mp hx
        exact ⟨m, rfl, of_decide_eq_true h1, fun d hd => List.all_eq_true.mp h2 d hd⟩
    refine ssx_cons <| sx_if <| tx_val (fun _ _ => rfl) <| ex_isi2 hF .lst .tup gS gL gT <| ex_var hF 1 rfl ⟨_, ty, _, rfl, fun _ => ?_, fun z => absurd (tt.symm.trans z) (by decide)⟩
    refine ssx_cons <| sx_if <| tx_ne hF <| ex_lst <| ax_cons <| ex_isi hF .lst gS gL <| ex_var hF 0 rfl ⟨_, ty, ax_cons <| ex_isi hF .tup gS gT <| ex_var hF 0 rfl ⟨_, ty, ax_nil ⟨sz 2, ?_⟩⟩⟩
    refine ex_lst <| ax_cons <| ex_isi hF .lst gS gL <| ex_var hF 1 rfl ⟨_, ty, ax_cons <| ex_isi hF .tup gS gT <| ex_var hF 1 rfl ⟨_, ty, ax_nil ⟨sz 2, true, ?_, _, rfl, _, rfl, (fun z => nomatch z), fun _ => ?_⟩⟩⟩
    · rcases ht with ⟨_, rfl⟩ | ⟨_, rfl⟩ <;> rfl
    · have lx : ∀ {M : Ms} {Φ : PD}, Φ (.int xs.length) M → lenP M Φ [x] := fun {M Φ} z => by rcases ht with ⟨rfl, _⟩ | ⟨rfl, _⟩ <;> exact z
      have zx : ∀ {Θ : Thi} {M : Ms}, Θ (xs.map fun d => .tup [d, d]) (fun _ => True) M → zipP Θ M x x := fun {Θ M} z => by
        rw [← zip_self] at z
        rcases ht with ⟨rfl, _⟩ | ⟨rfl, _⟩
        · exact .inl ⟨xs, xs, rfl, rfl, z⟩
        · exact .inr ⟨xs, xs, rfl, rfl, z⟩
      refine ssx_nil <| ssx_one <| sx_ret <| ex_and <| ex_eq hF <| ex_len hF gLn <| ax_cons <| ex_var hF 0 rfl <| ax_nil <| lx <| ex_len hF gLn <| ax_cons <| ex_var hF 1 rfl <| ax_nil <| lx ⟨_, rfl, fun _ => ?_, fun z => absurd z (by simp)⟩
      refine ex_one <| ex_eq hF <| ex_len hF gLn <| ax_cons <| ex_lc hF [("a", 2), ("b", 3)] (tb_tp hF (tnb_cons hF 2 (tnb_cons hF 3 tnb_nil))) (IfOk.one _) (ix_zip hF gZ <| ax_cons <| ex_var hF 0 rfl <| ax_cons <| ex_var hF 1 rfl <| ax_nil ⟨_, _, rfl, zx ?_⟩) (by decide +kernel) (by decide)
      refine lc_filterT (fun d => .tup [d, d]) (fun _ => .int 1) (fun _ => false) (by omega) (fun d hd => ⟨_, rfl, fun M' _ => tx_not <| tx_val (fun _ _ => rfl) <| ex_call (hF.blk _) (cS m rfl) hj <| ax_cons <| ex_var (hF.blk _) 2 rfl <| ax_cons <| ex_var (hF.blk _) 3 rfl <| ax_nil ⟨d, rfl, hall d hd, _, rfl, rfl, rfl, fun z => nomatch z⟩⟩) ?_
      refine ax_nil <| ex_int ?_
      rw [List.filter_eq_nil_iff.mpr (fun _ _ => by simp)]
      exact q
  -- other data
  have flat : ∀ (t : Bt), tyD x = some t → (isB t .lst || isB t .tup) = false → (∀ M Φ, Φ (.bl true) M → eqP M Φ x x) → SSX T ((defBody sLSame).drop 1) [some x, some x, none, none] M ⟨fun _ M' => Φ .non M', Φ, fun _ _ => False, fun _ _ => False, fun _ => Ψ⟩ := by
    intro t ty tt he
    refine ssx_cons <| sx_if <| tx_val (fun _ _ => rfl) <| ex_isi2 hF .lst .tup gS gL gT <| ex_var hF 1 rfl ⟨_, ty, _, rfl, fun z => absurd (tt.symm.trans z) (by decide), fun _ => ssx_nil ?_⟩
    refine ssx_cons <| sx_if <| tx_ne hF <| ex_lst <| ax_cons <| ex_isi hF .bl gS gB <| ex_var hF 0 rfl ⟨_, ty, ax_cons <| ex_isi hF .int gS gI <| ex_var hF 0 rfl ⟨_, ty, ax_cons <| ex_isi hF .str gS gSt <| ex_var hF 0 rfl ⟨_, ty, ax_nil ⟨sz 3, ?_⟩⟩⟩⟩
    refine ex_lst <| ax_cons <| ex_isi hF .bl gS gB <| ex_var hF 1 rfl ⟨_, ty, ax_cons <| ex_isi hF .int gS gI <| ex_var hF 1 rfl ⟨_, ty, ax_cons <| ex_isi hF .str gS gSt <| ex_var hF 1 rfl ⟨_, ty, ax_nil ⟨sz 3, true, ?_, _, rfl, _, rfl, (fun z => nomatch z), fun _ => ?_⟩⟩⟩⟩
    · cases t <;> rfl
    · exact ssx_nil <| ssx_one <| sx_ret <| ex_eq hF <| ex_var hF 0 rfl <| ex_var hF 1 rfl <| he _ _ q
  have other : x ≠ .non → SSX T ((defBody sLSame).drop 1) [some x, some x, none, none] M ⟨fun _ M' => Φ .non M', Φ, fun _ _ => False, fun _ _ => False, fun _ => Ψ⟩ → Bod T sLSame nLSame [x, x] M Φ Ψ := by
    intro hx g
    have e : isNoneD x = false := by cases x <;> first | rfl | exact absurd rfl hx
    refine ssx_cons <| sx_if <| WWX.tx <| wx_or <| tx_isN <| ex_var hF 1 rfl ⟨fun z => ?_, fun _ => wx_or1 <| tx_isN <| ex_var hF 0 rfl ⟨fun z => ?_, fun _ => ssx_nil g⟩⟩
    · rw [e] at z; cases z
    · rw [e] at z; cases z
  cases x with
  | non =>
    refine ssx_cons <| sx_if <| WWX.tx <| wx_or <| tx_isN <| ex_var hF 1 rfl ⟨fun _ => ⟨fun _ => ?_, fun z => nomatch z⟩, fun z => nomatch z⟩
    exact ssx_one <| sx_ret <| ex_and <| ex_isN <| ex_var hF 1 rfl ⟨_, rfl, fun _ => ex_one <| ex_isN <| ex_var hF 0 rfl q, fun z => nomatch z⟩
  | bl b => exact other (fun z => nomatch z) (flat .bl rfl rfl fun _ _ z => by show _; simpa [eqP] using z)
  | int i => exact other (fun z => nomatch z) (flat .int rfl rfl fun _ _ z => by show _; simpa [eqP] using z)
  | str z => exact other (fun z => nomatch z) (flat .str rfl rfl fun _ _ z => by show _; simpa [eqP] using z)
  | tup xs => exact other (fun z => nomatch z) (seq _ .tup (.inr ⟨rfl, rfl⟩))
  | lst xs => exact other (fun z => nomatch z) (seq _ .lst (.inl ⟨rfl, rfl⟩))
  | ref p => cases n <;> cases hx
  | ty p => cases n <;> cases hx
  | rol p => cases n <;> cases hx
  | ins a b c => cases n <;> cases hx
  | dic a b => cases n <;> cases hx
  | exn a b c => cases n <;> cases hx
end
end K83
set_option Elab.async false
set_option linter.all false
set_option maxRecDepth 100000
/-! K83T: the texts of leaves, in plain Lean. -/
namespace K83
open PySem PySem.Spec PyProof.Rows L2 G
abbrev S (l : List Nat) : Str := SX.S l
theorem lit_minus : ("-" : Str) = S [45] := rfl
theorem starts_minus (l : List Nat) : Txt.startswith (S l) "-" = (l.head? == some 45) := by
  rw [lit_minus]
  unfold Txt.startswith Builtin.Str.subAt
  cases l with
  | nil => rfl
  | cons c r =>
    have e : ((c :: r).toArray.extract 0 (0 + 1)) = #[c] := by simp
    show (decide (0 + 1 ≤ (c :: r).length) && ((c :: r).toArray.extract 0 (0 + 1) == #[45])) = _
    rw [e, decide_eq_true (by simp)]
    simp
/-- the digits of a word -/
def digs (l : List Nat) : List Nat := if l.head? = some 45 then l.drop 1 else l
def isDig (c : Nat) : Bool := decide (48 ≤ c) && decide (c ≤ 57)
/-- is_integer_word -/
def iwL (l : List Nat) : Bool := decide (1 ≤ (digs l).length) && (decide ((digs l).length ≤ 40) && ((digs l).all isDig && (if (digs l).head? = some 48 then decide (l = [48]) else true)))
/-! ### numbers as texts -/
def zL (i : Int) : List Nat := if i < 0 then 45 :: TL.numL i.natAbs else TL.numL i.natAbs
theorem str_z (i : Int) : (Str.ofString (toString i)) = S (zL i) := by
  unfold zL
  split
  · rename_i h
    obtain ⟨n, rfl⟩ : ∃ n : Nat, i = -((n + 1 : Nat) : Int) := ⟨i.natAbs - 1, by omega⟩
    have e1 : toString (-((n + 1 : Nat) : Int)) = "-" ++ toString (n + 1) := rfl
    have e2 : (-((n + 1 : Nat) : Int)).natAbs = n + 1 := by omega
    rw [e1, e2]
    apply TL.ext_tl
    have h2 := TL.tl_num (n + 1)
    have e3 : toString ((n + 1 : Nat) : Int) = toString (n + 1) := rfl
    rw [e3, TL.tl_ofString] at h2
    rw [TL.tl_ofString, String.toList_append, List.map_append, h2]
    rfl
  · rename_i h
    obtain ⟨n, rfl⟩ : ∃ n : Nat, i = (n : Int) := ⟨i.natAbs, by omega⟩
    exact SX.num_S n
theorem numL_dig (n : Nat) : (TL.numL n).all isDig = true := by
  rw [List.all_eq_true]
  intro c hc
  have := TL.numL_digits n c hc
  unfold isDig
  rw [decide_eq_true this.1, decide_eq_true this.2]; rfl
theorem numL_head (n : Nat) : (TL.numL n).head? ≠ some 45 := by
  intro h
  cases e : TL.numL n with
  | nil => rw [e] at h; cases h
  | cons c r =>
    rw [e] at h; cases h
    have := TL.numL_digits n 45 (by rw [e]; exact List.mem_cons_self)
    omega
theorem digs_num (n : Nat) : digs (TL.numL n) = TL.numL n := by
  unfold digs; rw [if_neg (numL_head n)]
theorem digs_neg (l : List Nat) : digs (45 :: l) = l := rfl
/-- a number's text begins with a nought just if it is nought -/
theorem numL_nought : ∀ n : Nat, (TL.numL n).head? = some 48 → n = 0 := by
  intro n
  induction n using Nat.strongRecOn with
  | _ n ih =>
    intro h
    by_cases hn : n < 10
    · rw [TL.numL_lt hn] at h
      simp at h; omega
    · rw [TL.numL_step (by omega)] at h
      have hne := TL.numL_ne (n / 10)
      have : (TL.numL (n / 10)).head? = some 48 := by
        cases e : TL.numL (n / 10) with
        | nil => exact absurd e hne
        | cons c r => rw [e] at h; simpa using h
      have := ih (n / 10) (by omega) this
      omega
theorem len_num {n : Nat} (h : n < 10 ^ 40) : 1 ≤ (TL.numL n).length ∧ (TL.numL n).length ≤ 40 :=
  ⟨List.length_pos_iff.mpr (TL.numL_ne n), TL.numL_len (by decide) h⟩
/-- the text of a number is an integer word -/
theorem iw_z {i : Int} (h : i.natAbs < 10 ^ 40) : iwL (zL i) = true := by
  have hl := len_num h
  have e : digs (zL i) = TL.numL i.natAbs := by
    unfold zL
    split
    · exact digs_neg _
    · exact digs_num _
  unfold iwL
  rw [e, decide_eq_true hl.1, decide_eq_true hl.2, numL_dig, Bool.true_and, Bool.true_and, Bool.true_and]
  split
  · rename_i h0
    have := numL_nought _ h0
    have hi : i = 0 := by omega
    subst hi
    rfl
  · rfl
theorem int_z {i : Int} (h : i.natAbs < 10 ^ 40) : intText? (S (zL i)) = some i ∧ (S (zL i)).length ≤ 640 := by
  have hl := len_num h
  unfold zL
  split
  · rename_i hi
    refine ⟨?_, by rw [SX.S_len]; simp; omega⟩
    have := PySem.intText_neg (x := S (45 :: TL.numL i.natAbs)) (cs := TL.numL i.natAbs) rfl (TL.numL_digits _) (TL.numL_ne _) (by rw [SX.S_len]; simp; omega)
    rw [this, TL.numL_val]
    congr 1; omega
  · rename_i hi
    refine ⟨?_, by rw [SX.S_len]; omega⟩
    have := PySem.intText_digits (x := S (TL.numL i.natAbs)) (TL.numL_digits _) (TL.numL_ne _) (by rw [SX.S_len]; omega)
    rw [this]
    show some ((NumText.digitsVal (TL.numL i.natAbs) : Nat) : Int) = _
    rw [TL.numL_val]
    congr 1; omega
theorem z_free {i : Int} {c : Nat} (h : c < 45) : c ∉ zL i := by
  unfold zL
  have := TL.numL_free (n := i.natAbs) (s := c) (.inl (by omega))
  split
  · intro z
    rcases List.mem_cons.mp z with z | z
    · omega
    · exact this z
  · exact this
theorem z_ne (i : Int) : zL i ≠ [] := by
  unfold zL
  split
  · simp
  · exact TL.numL_ne _
/-! ### the text of a leaf -/
def shpL (s : Bool) : List Nat := if s then [115, 105, 120] else [115, 113, 117, 97, 114, 101]
theorem shp_S (s : Bool) : shp s = S (shpL s) := by cases s <;> rfl
def shpOf (l : List Nat) : Option Bool := if l = shpL true then some true else if l = shpL false then some false else none
theorem shpOf_shp (s : Bool) : shpOf (shpL s) = some s := by cases s <;> rfl
theorem shp_free {s : Bool} {c : Nat} (h : c < 45) : c ∉ shpL s := by
  cases s
  · show c ∉ [115, 113, 117, 97, 114, 101]
    simp; omega
  · show c ∉ [115, 105, 120]
    simp; omega
def textL (s : Bool) (p : Pr) : List Nat := shpL s ++ 32 :: (zL p.1 ++ 32 :: zL p.2)
/-- what Leaf.read tells of a text -/
def readL (l : List Nat) : Option (Bool × Pr) := match TL.spl [32] 0 [] l with
  | [a, b, c] => (shpOf a).bind fun s => if iwL b && iwL c then (intText? (S b)).bind fun x => (intText? (S c)).bind fun y => if x = 0 ∧ y = 0 then none else some (s, (x, y)) else none
  | _ => none
theorem spl_words {ws : List (List Nat)} (hne : ws ≠ []) (h : ∀ p ∈ ws, 32 ∉ p) : TL.spl [32] 0 [] (TL.joinL [32] ws) = ws := SX.spl_join hne h
theorem textL_join (s : Bool) (p : Pr) : textL s p = TL.joinL [32] [shpL s, zL p.1, zL p.2] := by
  unfold textL
  simp [TL.joinL]
theorem words_text (s : Bool) (p : Pr) : TL.spl [32] 0 [] (textL s p) = [shpL s, zL p.1, zL p.2] := by
  rw [textL_join]
  refine spl_words (by simp) fun q hq => ?_
  simp at hq
  rcases hq with rfl | rfl | rfl
  · exact shp_free (by decide)
  · exact z_free (by decide)
  · exact z_free (by decide)
theorem read_text {s : Bool} {p : Pr} (h1 : p.1.natAbs < 10 ^ 40) (h2 : p.2.natAbs < 10 ^ 40) (h : p ≠ (0, 0)) : readL (textL s p) = some (s, p) := by
  unfold readL
  rw [words_text]
  show (shpOf (shpL s)).bind _ = _
  rw [shpOf_shp, Option.bind_some, iw_z h1, iw_z h2, Bool.true_and, if_pos rfl, (int_z h1).1, (int_z h2).1, Option.bind_some, Option.bind_some, if_neg]
  rintro ⟨e1, e2⟩
  exact h (Prod.ext e1 e2)
/-! ### texts that are none of a leaf -/
theorem read_len {ws : List (List Nat)} (hne : ws ≠ []) (h : ∀ p ∈ ws, 32 ∉ p) (hl : ws.length ≠ 3) : readL (TL.joinL [32] ws) = none := by
  unfold readL
  rw [spl_words hne h]
  match ws, hl with
  | [], _ => rfl
  | [_], _ => rfl
  | [_, _], _ => rfl
  | [_, _, _], hl => exact absurd rfl hl
  | _ :: _ :: _ :: _ :: _, _ => rfl
theorem read_3 {a b c : List Nat} (ha : 32 ∉ a) (hb : 32 ∉ b) (hc : 32 ∉ c) : readL (TL.joinL [32] [a, b, c]) = (shpOf a).bind fun s => if iwL b && iwL c then (intText? (S b)).bind fun x => (intText? (S c)).bind fun y => if x = 0 ∧ y = 0 then none else some (s, (x, y)) else none := by
  unfold readL
  rw [spl_words (by simp) (by simp; exact ⟨ha, hb, hc⟩)]
theorem read_bad1 {a b c : List Nat} (ha : 32 ∉ a) (hb : 32 ∉ b) (hc : 32 ∉ c) (h : shpOf a = none) : readL (TL.joinL [32] [a, b, c]) = none := by
  rw [read_3 ha hb hc, h]; rfl
theorem read_bad2 {a b c : List Nat} (ha : 32 ∉ a) (hb : 32 ∉ b) (hc : 32 ∉ c) (h : iwL b = false ∨ iwL c = false) : readL (TL.joinL [32] [a, b, c]) = none := by
  rw [read_3 ha hb hc]
  cases shpOf a with
  | none => rfl
  | some s =>
    rw [Option.bind_some, if_neg]
    rcases h with h | h <;> simp [h]
theorem iw_cases {l : List Nat} (h : (digs l).length = 0 ∨ 40 < (digs l).length ∨ (∃ c ∈ digs l, isDig c = false) ∨ ((digs l).head? = some 48 ∧ l ≠ [48])) : iwL l = false := by
  unfold iwL
  rcases h with h | h | ⟨c, hc, h⟩ | ⟨h1, h2⟩
  · rw [decide_eq_false (by omega)]; rfl
  · rw [decide_eq_false (p := (digs l).length ≤ 40) (by omega)]; simp
  · have : (digs l).all isDig = false := by
      rw [List.all_eq_false]
      exact ⟨c, hc, by rw [h]; decide⟩
    rw [this]; simp
  · rw [if_pos h1, decide_eq_false h2]; simp
theorem digs_of {l : List Nat} (h : l.head? ≠ some 45) : digs l = l := if_neg h
theorem iw_lead0 {d : List Nat} (h : d ≠ []) : iwL (48 :: d) = false := by
  refine iw_cases (.inr (.inr (.inr ⟨?_, ?_⟩)))
  · rw [digs_of (by simp)]; rfl
  · intro z
    injection z with _ z
    exact h z
theorem iw_plus (d : List Nat) : iwL (43 :: d) = false := iw_cases (.inr (.inr (.inl ⟨43, by rw [digs_of (by simp)]; exact List.mem_cons_self, rfl⟩)))
theorem iw_minus0 : iwL [45, 48] = false := rfl
theorem iw_long {d : List Nat} (h : d.head? ≠ some 45) (hl : 40 < d.length) : iwL d = false := iw_cases (.inr (.inl (by rw [digs_of h]; exact hl)))
theorem iw_feed (i : Int) : iwL (zL i ++ [10]) = false := by
  refine iw_cases (.inr (.inr (.inl ⟨10, ?_, rfl⟩)))
  unfold zL
  split
  · show 10 ∈ digs (45 :: (TL.numL i.natAbs ++ [10]))
    rw [digs_neg]; simp
  · rw [digs_of]
    · simp
    · have := numL_head i.natAbs
      cases e : TL.numL i.natAbs with
      | nil => exact absurd e (TL.numL_ne _)
      | cons c r => rw [e] at this; simpa using this
end K83
set_option Elab.async false
set_option linter.all false
set_option maxRecDepth 100000
set_option maxHeartbeats 4000000
/-! K83D: the package's words and leaves. -/
namespace K83
open PySem PySem.Spec PyProof.Rows L2 G
/-- a def of a class's body -/
abbrev sIW : Stmt := top 9
abbrev sIsNumber : Stmt := top 22
abbrev sIsPair : Stmt := top 23
abbrev sCheck : Stmt := top 24
abbrev sInit : Stmt := inClass (top 25) 0
abbrev sEq : Stmt := inClass (top 25) 1
abbrev sSize : Stmt := inClass (top 25) 2
abbrev sText : Stmt := inClass (top 25) 3
abbrev sRead : Stmt := inClass (top 25) 4
abbrev nIW : List Str := ["word", "digits", "sign"]
abbrev nIsNumber : List Str := ["value"]
abbrev nIsPair : List Str := ["value"]
abbrev nCheck : List Str := ["shape"]
abbrev nInit : List Str := ["self", "shape", "pair"]
abbrev nEq : List Str := ["self", "other"]
abbrev nSize : List Str := ["self"]
abbrev nText : List Str := ["self"]
abbrev nRead : List Str := ["text", "words", "pair"]
def dsIW : DS := fun args M Φ _ => ∃ l, args = [.str (S l)] ∧ l.length ≤ 1000000 ∧ Φ (.bl (iwL l)) M
section
variable {T : Fm Unit} (hh : T.hot = false) {k : Nat} {P : Program} {w : World} {K : PySem.W.Frag} {mg : Str → Option Value} {base : Heap} {args : List D} {M : Ms} {Φ : PD} {Ψ : PX}
theorem sl_len {l : List Nat} (h : l.length ≤ 1000000) : (S l).length ≤ sizeLine := by rw [SX.S_len, sizeLine_eq]; omega
theorem cut_from1 (a : List Nat) : cutS (S a) (some 1) none = S (a.drop 1) := (C8.cutS_slice _ _ _).trans (SX.slice_from (a := a) (i := 1) (by decide))
theorem at0 {α : Type} (c : α) (r : List α) : atI (c :: r) 0 = some c := by
  unfold atI ixN
  rw [if_pos (by decide), if_pos (by rw [List.length_cons]; omega)]; rfl
theorem dig_in (c : Nat) : decide (c ∈ ("0123456789" : Str).cps.toList) = isDig c := by
  show decide (c ∈ [48, 49, 50, 51, 52, 53, 54, 55, 56, 57]) = _
  unfold isDig
  rw [← Bool.decide_and]
  refine decide_eq_decide.mpr ?_
  simp; omega
include hh in
theorem b_iw (hD : Fd T k P w K mg base nIW (defScope sIW)) (gD : Gv K mg "DIGITS" (.str "0123456789")) (gM : Gv K mg "MOST_DIGITS" (.int 40)) (gL : mg "len" = none) (gA : mg "all" = none) (h : dsIW args M Φ Ψ) : Bod T sIW nIW args M Φ Ψ := by
  obtain ⟨l, rfl, hl, q⟩ := h
  have hF := hD.fc
  have hdl : (digs l).length ≤ 1000000 := by
    unfold digs; split
    · rw [List.length_drop]; omega
    · exact hl
  -- behind the first statement
  have rest : SSX T ((defBody sIW).drop 1) [some (.str (S l)), some (.str (S (digs l))), none] M ⟨fun _ M' => Φ .non M', Φ, fun _ _ => False, fun _ _ => False, fun _ => Ψ⟩ := by
    have no : iwL l = false → Φ (.bl false) M := fun e => by rw [e] at q; exact q
    refine ssx_cons <| sx_if <| WWX.tx <| wx_or <| tx_not <| tx_chLe <| ex_int <| ex_len hF gL <| ax_cons <| ex_var hF 1 rfl <| ax_nil ⟨sl_len hdl, _, _, rfl, rfl, fun h => ?_, fun h => ?_⟩
    · refine ⟨fun _ => ⟨fun _ => ssx_one <| sx_ret <| ex_bl (no ?_), fun z => nomatch z⟩, fun z => nomatch z⟩
      have h := of_decide_eq_false h
      rw [SX.S_len] at h
      exact iw_cases (.inl (by omega))
    · have h1 := of_decide_eq_true h
      rw [SX.S_len] at h1
      refine ex_glob hF gM ⟨_, rfl, fun h => ?_, fun h => ?_⟩
      · refine ⟨fun _ => ssx_one <| sx_ret <| ex_bl (no ?_), fun z => nomatch z⟩
        have h : ¬ (((S (digs l)).length : Int) ≤ 40) := by simpa using h
        rw [SX.S_len] at h
        exact iw_cases (.inr (.inl (by omega)))
      · have h2 : ((S (digs l)).length : Int) ≤ 40 := by simpa using h
        rw [SX.S_len] at h2
        refine wx_or1 <| tx_not <| tx_val (fun _ _ => rfl) <| ex_all hF gA <| ex_lc hF [("sign", 2)] (tb_nm hF 2) IfOk.none (ix_str <| ex_var hF 1 rfl ⟨_, rfl, ?_⟩) (by decide +kernel) (by decide)
        refine lc_mapT (xs := digs l) (fun c => .str ⟨#[c]⟩) (fun c => .bl (isDig c)) (by omega) (fun c _ => ⟨_, rfl, fun M' _ => ?_⟩) ?_
        · refine ex_in (hF.blk _) <| ex_var (hF.blk _) 2 rfl <| ex_glob (hF.blk _) gD <| .inr ⟨c, _, rfl, rfl, ?_, rfl⟩
          show D.bl (decide (c ∈ _)) = _
          rw [dig_in]
        · refine ⟨(digs l).map isDig, by rw [List.map_map]; rfl, _, rfl, fun h => ?_, fun h => ?_⟩
          · refine ssx_one <| sx_ret <| ex_bl (no ?_)
            have h : (digs l).all isDig = false := by
              rw [List.all_map] at h
              simpa using h
            unfold iwL
            rw [h]; simp
          · have h : (digs l).all isDig = true := by
              rw [List.all_map] at h
              simpa using h
            have hne : digs l ≠ [] := by intro z; rw [z] at h1; simp at h1
            obtain ⟨c, r, hcr⟩ := List.exists_cons_of_ne_nil hne
            have ix : atI (S (digs l)).cps.toList 0 = some c := by
              show atI (digs l) 0 = _
              rw [hcr]; exact at0 c r
            refine ssx_nil <| ssx_cons <| sx_if <| tx_eq hF <| ex_ix hF <| ex_var hF 1 rfl <| ex_int ⟨sl_len hdl, c, ix, ex_str ⟨_, rfl, fun h0 => ?_, fun h0 => ?_⟩⟩
            · have h0 := of_decide_eq_true h0
              have h0 : c = 48 := by
                have := SX.S_inj (a := [c]) (b := [48]) h0
                simpa using this
              refine ssx_one <| sx_ret <| ex_eq hF <| ex_var hF 0 rfl <| ex_str ?_
              have e : decide (S l = ("0" : Str)) = iwL l := by
                unfold iwL
                rw [h, decide_eq_true (p := 1 ≤ (digs l).length) (by omega), decide_eq_true (p := (digs l).length ≤ 40) (by omega), if_pos (by rw [hcr, h0]; rfl)]
                simp only [Bool.true_and]
                exact decide_eq_decide.mpr ⟨fun z => SX.S_inj (a := l) (b := [48]) z, fun z => by rw [z]; rfl⟩
              show Φ (.bl (decide (S l = ("0" : Str)))) M
              rw [e]; exact q
            · have h0 := of_decide_eq_false h0
              refine ssx_nil <| ssx_one <| sx_ret <| ex_bl ?_
              have e : iwL l = true := by
                unfold iwL
                rw [h, decide_eq_true (p := 1 ≤ (digs l).length) (by omega), decide_eq_true (p := (digs l).length ≤ 40) (by omega), if_neg]
                · rfl
                · rw [hcr]
                  intro z
                  have z : some c = some 48 := z
                  cases z
                  exact h0 rfl
              rw [e] at q; exact q
  refine ssx_cons <| sx_set hD 1 <| ex_if <| tx_val (fun _ _ => rfl) <| ex_starts <| ex_var hF 0 rfl ⟨_, rfl, ex_str ⟨_, rfl, _, rfl, fun h => ?_, fun h => ?_⟩⟩
  · rw [starts_minus] at h
    refine ex_slice hF <| ex_var hF 0 rfl <| ox_some <| ex_int ⟨_, rfl, ox_none ⟨sl_len hl, ?_⟩⟩
    have e : cutS (S l) (some 1) none = S (digs l) := by
      rw [cut_from1]
      unfold digs
      rw [if_pos (eq_of_beq h)]
    rw [e]; exact rest
  · rw [starts_minus] at h
    have e : digs l = l := digs_of (by intro z; rw [z] at h; cases h)
    rw [e] at rest
    exact ex_var hF 0 rfl rest
/-! ### numbers, pairs, shapes -/
def isNum : D → Bool
  | .int _ => true
  | _ => false
theorem isNum_ty {d : D} {t : Bt} (h : tyD d = some t) : isNum d = (isB t .int && !isB t .bl) := by
  cases d <;> first | (cases h; rfl) | cases h
def dsIsNumber : DS := fun args M Φ _ => ∃ d t, args = [d] ∧ tyD d = some t ∧ Φ (.bl (isNum d)) M
theorem b_isnumber (hD : Fd T k P w K mg base nIsNumber (defScope sIsNumber)) (gS : mg "isinstance" = none) (gI : mg "int" = none) (gB : mg "bool" = none) (h : dsIsNumber args M Φ Ψ) : Bod T sIsNumber nIsNumber args M Φ Ψ := by
  obtain ⟨d, t, rfl, ht, q⟩ := h
  have hF := hD.fc
  rw [isNum_ty ht] at q
  refine ssx_one <| sx_ret <| ex_and <| ex_isi hF .int gS gI <| ex_var hF 0 rfl ⟨t, ht, _, rfl, fun h => ?_, fun h => ?_⟩
  · rw [h] at q
    exact ex_one <| ex_not <| ex_isi hF .bl gS gB <| ex_var hF 0 rfl ⟨t, ht, _, rfl, q⟩
  · rw [h] at q; exact q
def seqTL : D → Option (List D)
  | .lst ds => some ds
  | .rol ds => some ds
  | .tup ds => some ds
  | _ => none
def pairOfL : List D → Option Pr
  | [.int x, .int y] => if x = 0 ∧ y = 0 then none else some (x, y)
  | _ => none
/-- the pair that a thing is -/
def pairOf (d : D) : Option Pr := (seqTL d).bind pairOfL
/-- a thing of built-in types -/
def plainTy (d : D) : Prop := (∃ t, tyD d = some t) ∧ ∀ xs, seqTL d = some xs → ∀ x ∈ xs, ∃ t, tyD x = some t
theorem seq_ty {d : D} {t : Bt} (h : tyD d = some t) : (isB t .lst || isB t .tup) = (seqTL d).isSome := by
  cases d <;> first | (cases h; rfl) | cases h
theorem pairL_num {a b : D} (h : isNum a = false ∨ isNum b = false) : pairOfL [a, b] = none := by
  cases a <;> first | rfl | skip
  cases b <;> first | rfl | skip
  rcases h with h | h <;> cases h
theorem pairL_len {xs : List D} (h : xs.length ≠ 2) : pairOfL xs = none := by
  match xs, h with
  | [], _ => rfl
  | [_], _ => unfold pairOfL; split <;> simp_all
  | [_, _], h => exact absurd rfl h
  | _ :: _ :: _ :: _, _ => unfold pairOfL; split <;> simp_all
/-- of a thing, or of a list that may change and is a pair -/
def dsIsPair : DS := fun args M Φ _ => (∃ d, args = [d] ∧ plainTy d ∧ Φ (.bl (pairOf d).isSome) M) ∨ ∃ h x y, args = [.ref h] ∧ M h = some (.lst [.int x, .int y]) ∧ ¬ (x = 0 ∧ y = 0) ∧ Φ (.bl true) M
theorem b_ispair {j : Nat} (hD : Fd T k P w K mg base nIsPair (defScope sIsPair)) (gS : mg "isinstance" = none) (gL : mg "list" = none) (gT : mg "tuple" = none) (gLn : mg "len" = none) (cN : Cal T.hot P w K mg base "is_number" j ["value"] dsIsNumber) (hj : j ≤ k) (h : dsIsPair args M Φ Ψ) : Bod T sIsPair nIsPair args M Φ Ψ := by
  have hF := hD.fc
  rcases h with ⟨d, rfl, ⟨⟨t, ht⟩, hall⟩, q⟩ | ⟨a, x, y, rfl, ha, hxy, q⟩
  rotate_left
  · refine ssx_cons <| sx_if <| WWX.tx <| wx_or <| tx_not <| tx_val (fun _ _ => rfl) <| ex_isi2M hF .lst .tup gS gL gT <| ex_var hF 0 rfl ⟨a, _, rfl, ha, _, rfl, (fun z => nomatch z), fun _ => ?_⟩
    refine wx_or1 <| tx_ne hF <| ex_len hF gLn <| ax_cons <| ex_var hF 0 rfl <| ax_nil ⟨_, ha, ex_int ⟨_, rfl, _, rfl, (fun z => nomatch z), fun _ => ?_⟩⟩
    refine ssx_nil <| ssx_cons <| sx_if <| WWX.tx <| wx_or <| tx_not <| tx_val (fun _ _ => rfl) <| ex_call hF cN hj <| ax_cons <| ex_ix hF <| ex_var hF 0 rfl <| ex_int ⟨_, _, ha, rfl, ax_nil ⟨.int x, .int, rfl, rfl, _, rfl, (fun z => nomatch z), fun _ => ?_⟩⟩
    refine wx_or1 <| tx_not <| tx_val (fun _ _ => rfl) <| ex_call hF cN hj <| ax_cons <| ex_ix hF <| ex_var hF 0 rfl <| ex_int ⟨_, _, ha, rfl, ax_nil ⟨.int y, .int, rfl, rfl, _, rfl, (fun z => nomatch z), fun _ => ?_⟩⟩
    refine ssx_nil <| ssx_one <| sx_ret <| ex_or <| ex_ne hF <| ex_ix hF <| ex_var hF 0 rfl <| ex_int ⟨_, _, ha, rfl, ex_int ⟨_, rfl, _, rfl, fun _ => q, fun h3 => ?_⟩⟩
    have h3 : x = 0 := by simpa using h3
    refine ex_one <| ex_ne hF <| ex_ix hF <| ex_var hF 0 rfl <| ex_int ⟨_, _, ha, rfl, ex_int ⟨_, rfl, ?_⟩⟩
    rw [decide_eq_false (fun z => hxy ⟨h3, z⟩)]
    exact q
  have hs := seq_ty ht
  refine ssx_cons <| sx_if <| WWX.tx <| wx_or <| tx_not <| tx_val (fun _ _ => rfl) <| ex_isi2 hF .lst .tup gS gL gT <| ex_var hF 0 rfl ⟨t, ht, _, rfl, fun h => ?_, fun h => ?_⟩
  · refine ⟨fun _ => ssx_one <| sx_ret <| ex_bl ?_, fun z => nomatch z⟩
    rw [hs] at h
    have e : seqTL d = none := by
      cases e : seqTL d with
      | none => rfl
      | some xs => rw [e] at h; cases h
    unfold pairOf at q
    rw [e] at q; exact q
  · rw [hs] at h
    obtain ⟨xs, e⟩ : ∃ xs, seqTL d = some xs := by
      cases e : seqTL d with
      | none => rw [e] at h; cases h
      | some xs => exact ⟨xs, rfl⟩
    have q : Φ (.bl (pairOfL xs).isSome) M := by
      unfold pairOf at q
      rw [e] at q; exact q
    have hall := hall xs e
    have ln : ∀ {M : Ms} {Φ : PD}, Φ (.int xs.length) M → lenP M Φ [d] := by
      intro M Φ z
      cases d <;> first | (cases e; exact z) | cases e
    have ix : ∀ {M : Ms} {Φ : PD} {i : Int} {x : D}, atI xs i = some x → Φ x M → ixP M Φ d (.int i) := by
      intro M Φ i x h1 h2
      cases d <;> first | (cases e; exact ⟨x, h1, h2⟩) | cases e
    refine wx_or1 <| tx_ne hF <| ex_len hF gLn <| ax_cons <| ex_var hF 0 rfl <| ax_nil <| ln <| ex_int ⟨_, rfl, _, rfl, fun h => ?_, fun h => ?_⟩
    · refine ssx_one <| sx_ret <| ex_bl ?_
      rw [pairL_len (by intro z; rw [z] at h; cases h)] at q
      exact q
    · have hl : xs.length = 2 := by
        have : ((xs.length : Int) = 2) := by simpa using h
        omega
      obtain ⟨a, b, rfl⟩ : ∃ a b, xs = [a, b] := by
        match xs, hl with
        | [a, b], _ => exact ⟨a, b, rfl⟩
      obtain ⟨ta, hta⟩ := hall a (by simp)
      obtain ⟨tb, htb⟩ := hall b (by simp)
      refine ssx_nil <| ssx_cons <| sx_if <| WWX.tx <| wx_or <| tx_not <| tx_val (fun _ _ => rfl) <| ex_call hF cN hj <| ax_cons <| ex_ix hF <| ex_var hF 0 rfl <| ex_int <| ix rfl <| ax_nil ⟨a, ta, rfl, hta, _, rfl, fun h => ?_, fun h => ?_⟩
      · refine ⟨fun _ => ssx_one <| sx_ret <| ex_bl ?_, fun z => nomatch z⟩
        rw [pairL_num (.inl (by simpa using h))] at q; exact q
      · refine wx_or1 <| tx_not <| tx_val (fun _ _ => rfl) <| ex_call hF cN hj <| ax_cons <| ex_ix hF <| ex_var hF 0 rfl <| ex_int <| ix rfl <| ax_nil ⟨b, tb, rfl, htb, _, rfl, fun h2 => ?_, fun h2 => ?_⟩
        · refine ssx_one <| sx_ret <| ex_bl ?_
          rw [pairL_num (.inr (by simpa using h2))] at q; exact q
        · obtain ⟨x, rfl⟩ : ∃ x, a = .int x := by cases a <;> first | exact ⟨_, rfl⟩ | cases h
          obtain ⟨y, rfl⟩ : ∃ y, b = .int y := by cases b <;> first | exact ⟨_, rfl⟩ | cases h2
          have q : Φ (.bl (if x = 0 ∧ y = 0 then none else some ((x, y) : Pr)).isSome) M := q
          refine ssx_nil <| ssx_one <| sx_ret <| ex_or <| ex_ne hF <| ex_ix hF <| ex_var hF 0 rfl <| ex_int <| ix rfl <| ex_int ⟨_, rfl, _, rfl, fun h3 => ?_, fun h3 => ?_⟩
          · have h3 : x ≠ 0 := by simpa using h3
            rw [if_neg (fun z => h3 z.1)] at q; exact q
          · have h3 : x = 0 := by simpa using h3
            refine ex_one <| ex_ne hF <| ex_ix hF <| ex_var hF 0 rfl <| ex_int <| ix rfl <| ex_int ⟨_, rfl, ?_⟩
            by_cases hy : y = 0
            · rw [if_pos ⟨h3, hy⟩] at q
              rw [hy]; exact q
            · rw [if_neg (fun z => hy z.2)] at q
              rw [decide_eq_false hy]; exact q
end
end K83
set_option Elab.async false
set_option linter.all false
set_option maxRecDepth 100000
set_option maxHeartbeats 4000000
/-! K83E: check_shape and the class Leaf. -/
namespace K83
open PySem PySem.Spec PyProof.Rows L2 G
def itsX (c : Str) : List (Str × Src) := [("value", .arg 0), ("code", .txt c)]
theorem its_lt (c : Str) : ∀ p ∈ itsX c, ∀ i, p.2 = .arg i → i < 1 := by
  intro p hp i e
  simp [itsX] at hp
  rcases hp with rfl | rfl
  · cases e; decide
  · cases e
/-- the error of the class at C, of the code c, about v -/
def faultP (Ψ : PX) (C : Addr) (c : Str) (v : D) (M : Ms) : Prop := Ψ C (xNs (itsX c)) (xDs (itsX c) [v]) M
def shapeOf : D → Option Bool
  | .str x => if x = shp true then some true else if x = shp false then some false else none
  | _ => none
theorem shapeOf_shp (s : Bool) : shapeOf (.str (shp s)) = some s := by cases s <;> rfl
theorem shapeOf_eq {d : D} {s : Bool} (h : shapeOf d = some s) : d = .str (shp s) := by
  cases d <;> first | cases h | skip
  rename_i x
  have h : (if x = shp true then some true else if x = shp false then some false else none) = some s := h
  split at h
  · rename_i e; cases h; rw [e]
  · split at h
    · rename_i e; cases h; rw [e]
    · cases h
def dsCheck (CK : Addr) : DS := fun args M Φ Ψ => ∃ d t, args = [d] ∧ tyD d = some t ∧ match shapeOf d with
  | some _ => Φ .non M
  | none => faultP Ψ CK "BadKind" d M
section
variable {T : Fm Unit} (hh : T.hot = false) {k : Nat} {P : Program} {w : World} {K : PySem.W.Frag} {mg : Str → Option Value} {base : Heap} {args : List D} {M : Ms} {Φ : PD} {Ψ : PX} {CK CP CF CL : Addr}
theorem in_shapes (x : Str) : inV (.str x) [.str ("square" : Str), .str ("six" : Str)] = (shapeOf (.str x)).isSome := by
  show ([V.str ("square" : Str), V.str ("six" : Str)].any fun y => eqV y (.str x)) = _
  simp only [List.any_cons, List.any_nil, Bool.or_false]
  show (eqV (V.str ("square" : Str)) (.str x) || eqV (V.str ("six" : Str)) (.str x)) = Option.isSome (if x = shp true then some true else if x = shp false then some false else none)
  by_cases h1 : x = shp true
  · rw [if_pos h1, h1]; rfl
  · by_cases h2 : x = shp false
    · rw [if_neg h1, if_pos h2, h2]; rfl
    · rw [if_neg h1, if_neg h2]
      have e1 : eqV (V.str ("square" : Str)) (.str x) = false := by
        show (("square" : Str) == x) = false
        rw [beq_eq_false_iff_ne]; intro z; exact h2 z.symm
      have e2 : eqV (V.str ("six" : Str)) (.str x) = false := by
        show (("six" : Str) == x) = false
        rw [beq_eq_false_iff_ne]; intro z; exact h1 z.symm
      rw [e1, e2]; rfl
include hh in
theorem b_check {j : Nat} (hD : Fd T k P w K mg base nCheck (defScope sCheck)) (gS : mg "isinstance" = none) (gSt : mg "str" = none) (gSh : Gv K mg "SHAPES" (.tup [.str "square", .str "six"])) (cK : XcC P w K mg base "BadKind" CK j 1 (itsX "BadKind")) (hj : j < k) (h : dsCheck CK args M Φ Ψ) : Bod T sCheck nCheck args M Φ Ψ := by
  obtain ⟨d, t, rfl, ht, q⟩ := h
  have hF := hD.fc
  refine ssx_one <| sx_if <| WWX.tx <| wx_or <| tx_not <| tx_val (fun _ _ => rfl) <| ex_isi hF .str gS gSt <| ex_var hF 0 rfl ⟨t, ht, _, rfl, fun h => ?_, fun h => ?_⟩
  · refine ⟨fun _ => ?_, fun z => nomatch z⟩
    have e : shapeOf d = none := by
      cases d <;> first | rfl | skip
      cases ht; cases h
    rw [e] at q
    exact ssx_one <| sx_raise hF cK hj (its_lt _) <| ax_cons <| ex_var hF 0 rfl <| ax_nil ⟨rfl, q⟩
  · obtain ⟨x, rfl⟩ : ∃ x, d = .str x := by
      cases d <;> first | exact ⟨_, rfl⟩ | (cases ht; done) | (cases ht; cases h)
    refine wx_or1 <| tx_notIn hF <| ex_var hF 0 rfl <| ex_glob hF gSh <| .inl ⟨_, _, _, rfl, rfl, rfl, _, rfl, ?_⟩
    rw [if_pos rfl, in_shapes]
    refine ⟨fun h => ?_, fun h => ?_⟩
    · have e : shapeOf (.str x) = none := by
        cases e : shapeOf (.str x) with
        | none => rfl
        | some s => rw [e] at h; cases h
      rw [e] at q
      exact ssx_one <| sx_raise hF cK hj (its_lt _) <| ax_cons <| ex_var hF 0 rfl <| ax_nil ⟨rfl, q⟩
    · obtain ⟨s, e⟩ : ∃ s, shapeOf (.str x) = some s := by
        cases e : shapeOf (.str x) with
        | none => rw [e] at h; cases h
        | some s => exact ⟨s, rfl⟩
      rw [e] at q
      exact ssx_nil q
/-! ### the class Leaf -/
abbrev lNs : List Str := ["shape", "name"]
/-- a leaf's data -/
def leafD (CL : Addr) (s : Bool) (p : Pr) : D := .ins CL lNs [.str (shp s), pD p]
/-- making a leaf of the things d and e -/
def leafP (CK CP : Addr) (d e : D) (ok : Bool → Pr → Prop) (M : Ms) (Ψ : PX) : Prop := match shapeOf d with
  | none => faultP Ψ CK "BadKind" d M
  | some s => match pairOf e with
    | none => faultP Ψ CP "BadPair" e M
    | some p => Sn p.1 ∧ Sn p.2 ∧ ok s p
/-- of things, or of a shape and a list that may change and is a pair -/
def dsInit (CK CP CL : Addr) : DS := fun args M Φ Ψ => (∃ a d e, args = [.ref a, d, e] ∧ M a = some (.ins CL [] []) ∧ (∃ t, tyD d = some t) ∧ plainTy e ∧ leafP CK CP d e (fun s p => Φ .non (um M a (.ins CL lNs [.str (shp s), pD (leafName s p)]))) M Ψ) ∨
  ∃ a s b x y, args = [.ref a, .str (shp s), .ref b] ∧ M a = some (.ins CL [] []) ∧ M b = some (.lst [.int x, .int y]) ∧ b ≠ a ∧ ¬ (x = 0 ∧ y = 0) ∧ Sn x ∧ Sn y ∧ Φ .non (um M a (.ins CL lNs [.str (shp s), pD (leafName s (x, y))]))
include hh in
theorem b_init {j j1 j2 j3 : Nat} (hD : Fd T k P w K mg base nInit (defScope sInit)) (oL : OCls K CL lNs) (cC : Cal T.hot P w K mg base "check_shape" j1 ["shape"] (dsCheck CK)) (cP : Cal T.hot P w K mg base "is_pair" j2 ["value"] dsIsPair) (cN : Cal T.hot P w K mg base "leaf_name" j3 ["shape", "pair"] dsLeafName)
    (cB : XcC P w K mg base "BadPair" CP j 1 (itsX "BadPair")) (hj : j < k) (h1 : j1 ≤ k) (h2 : j2 ≤ k) (h3 : j3 ≤ k) (h : dsInit CK CP CL args M Φ Ψ) : Bod T sInit nInit args M Φ Ψ := by
  have hF := hD.fc
  rcases h with ⟨a, d, e, rfl, ha, ⟨t, ht⟩, he, q⟩ | ⟨a, s, b, x, y, rfl, ha, hb, hba, hxy, q1, q2, q⟩
  rotate_left
  · refine ssx_cons <| sx_expr <| ex_call hF cC h1 <| ax_cons <| ex_var hF 1 rfl <| ax_nil ⟨.str (shp s), .str, rfl, rfl, ?_⟩
    rw [shapeOf_shp]
    refine ssx_cons <| sx_if <| tx_not <| tx_val (fun _ _ => rfl) <| ex_call hF cP h2 <| ax_cons <| ex_var hF 2 rfl <| ax_nil <| .inr ⟨b, x, y, rfl, hb, hxy, _, rfl, (fun z => nomatch z), fun _ => ?_⟩
    refine ssx_nil <| ssx_cons <| sx_fld hF oL <| ex_var hF 1 rfl <| ex_var hF 0 rfl ⟨a, _, _, rfl, ha, by decide, ?_⟩
    have hb' : ∀ o, um M a o b = some (.lst [.int x, .int y]) := fun o => by rw [um_ne hba]; exact hb
    refine ssx_one <| sx_fld hF oL <| ex_call hF cN h3 <| ax_cons <| ex_var hF 1 rfl <| ax_cons <| ex_tup <| ax_cons <| ex_ix hF <| ex_var hF 2 rfl <| ex_int ⟨_, _, hb' _, rfl, ax_cons <| ex_ix hF <| ex_var hF 2 rfl <| ex_int ⟨_, _, hb' _, rfl, ax_nil ⟨sz 2, ax_nil ⟨s, (x, y), rfl, q1, q2, fun z => hxy ⟨congrArg Prod.fst z, congrArg Prod.snd z⟩, ?_⟩⟩⟩⟩
    refine ex_var hF 0 rfl ⟨a, _, _, rfl, um_same, (by decide : 1 < 900), ?_⟩
    rw [um_um]
    exact q
  unfold leafP at q
  cases es : shapeOf d with
  | none =>
    rw [es] at q
    exact ssx_cons <| sx_expr <| ex_call hF cC h1 <| ax_cons <| ex_var hF 1 rfl <| ax_nil ⟨d, t, rfl, ht, by rw [es]; exact q⟩
  | some s =>
    rw [es] at q
    refine ssx_cons <| sx_expr <| ex_call hF cC h1 <| ax_cons <| ex_var hF 1 rfl <| ax_nil ⟨d, t, rfl, ht, ?_⟩
    rw [es]
    have hd := shapeOf_eq es
    subst hd
    refine ssx_cons <| sx_if <| tx_not <| tx_val (fun _ _ => rfl) <| ex_call hF cP h2 <| ax_cons <| ex_var hF 2 rfl <| ax_nil <| .inl ⟨e, rfl, he, _, rfl, fun h => ?_, fun h => ?_⟩
    · have e0 : pairOf e = none := by
        cases e0 : pairOf e with
        | none => rfl
        | some p => rw [e0] at h; cases h
      rw [e0] at q
      exact ssx_one <| sx_raise hF cB hj (its_lt _) <| ax_cons <| ex_var hF 2 rfl <| ax_nil ⟨rfl, q⟩
    · obtain ⟨p, e0⟩ : ∃ p, pairOf e = some p := by
        cases e0 : pairOf e with
        | none => rw [e0] at h; cases h
        | some p => exact ⟨p, rfl⟩
      rw [e0] at q
      obtain ⟨q1, q2, q⟩ := q
      obtain ⟨xs, e1, e2⟩ := Option.bind_eq_some_iff.mp e0
      have e3 : xs = [.int p.1, .int p.2] ∧ p ≠ (0, 0) := by
        unfold pairOfL at e2
        split at e2
        · split at e2
          · cases e2
          · rename_i x y hne
            cases e2
            exact ⟨rfl, fun z => hne ⟨congrArg Prod.fst z, congrArg Prod.snd z⟩⟩
        · cases e2
      obtain ⟨rfl, hne⟩ := e3
      have ix : ∀ {M : Ms} {Φ : PD} {i : Int} {x : D}, atI [D.int p.1, D.int p.2] i = some x → Φ x M → ixP M Φ e (.int i) := by
        intro M Φ i x h1 h2
        cases e <;> first | (cases e1; exact ⟨x, h1, h2⟩) | cases e1
      refine ssx_nil <| ssx_cons <| sx_fld hF oL <| ex_var hF 1 rfl <| ex_var hF 0 rfl ⟨a, _, _, rfl, ha, by decide, ?_⟩
      refine ssx_one <| sx_fld hF oL <| ex_call hF cN h3 <| ax_cons <| ex_var hF 1 rfl <| ax_cons <| ex_tup <| ax_cons <| ex_ix hF <| ex_var hF 2 rfl <| ex_int <| ix rfl <| ax_cons <| ex_ix hF <| ex_var hF 2 rfl <| ex_int <| ix rfl <| ax_nil ⟨sz 2, ax_nil ⟨s, p, rfl, q1, q2, hne, ?_⟩⟩
      refine ex_var hF 0 rfl ⟨a, _, _, rfl, um_same, (by decide : 1 < 900), ?_⟩
      rw [um_um]
      exact q
/-- == of a leaf and a thing -/
def dsEqL (CL : Addr) : DS := fun args M Φ _ => ∃ s p d, args = [leafD CL s p, d] ∧ ((∃ t, tyD d = some t ∧ Φ (.bl false) M) ∨ ∃ s2 p2, d = leafD CL s2 p2 ∧ Φ (.bl (decide (s = s2) && decide (p = p2))) M)
theorem eqD_pair (p r : Pr) : eqD (pD p) (pD r) = some (decide (p = r)) := by
  have e : eqD (pD p) (pD r) = some (PyData.eqv (.tuple [.int p.1, .int p.2]) (.tuple [.int r.1, .int r.2])) := rfl
  rw [e]
  congr 1
  show ((p.1 == r.1) && ((p.2 == r.2) && true)) = _
  rw [Bool.and_true]
  obtain ⟨a, b⟩ := p
  obtain ⟨c, d⟩ := r
  by_cases h1 : a = c
  · by_cases h2 : b = d
    · subst h1 h2; simp
    · subst h1
      rw [decide_eq_false (by intro z; cases z; exact h2 rfl)]
      simp [h2]
  · rw [decide_eq_false (by intro z; cases z; exact h1 rfl)]
    simp [h1]
include hh in
theorem b_eq {j : Nat} (hD : Fd T k P w K mg base nEq (defScope sEq)) (oL : OCls K CL lNs) (wL : OwnF K CL) (gS : mg "isinstance" = none) (gLf : mg "Leaf" = some (.ref CL)) (kt : ∀ t : Bt, PySem.W.kitOne K (.type t.name) (.ref CL) = some false) (kL : PySem.W.kitOne K (.ref CL) (.ref CL) = some true)
    (h : dsEqL CL args M Φ Ψ) : Bod T sEq nEq args M Φ Ψ := by
  obtain ⟨s, p, d, rfl, q⟩ := h
  have hF := hD.fc
  rcases q with ⟨t, ht, q⟩ | ⟨s2, p2, rfl, q⟩
  · have hw : wdD M d = some (.b t) := by cases d <;> first | (cases ht; rfl) | cases ht
    refine ssx_cons <| sx_if <| tx_not <| tx_val (fun _ _ => rfl) <| ex_isC hF gS gLf <| ex_var hF 1 rfl ⟨.b t, false, hw, trivial, kt t, _, rfl, fun _ => ?_, fun z => nomatch z⟩
    exact ssx_one <| sx_ret <| ex_bl q
  · refine ssx_cons <| sx_if <| tx_not <| tx_val (fun _ _ => rfl) <| ex_isC hF gS gLf <| ex_var hF 1 rfl ⟨.o CL, true, rfl, wL, kL, _, rfl, (fun z => nomatch z), fun _ => ?_⟩
    refine ssx_nil <| ssx_one <| sx_ret <| ex_and <| ex_eq hF <| ex_fld hF oL <| ex_var hF 0 rfl ⟨rfl, _, rfl, ex_fld hF oL <| ex_var hF 1 rfl ⟨rfl, _, rfl, _, rfl, fun h => ?_, fun h => ?_⟩⟩
    · have h : s = s2 := by
        have := of_decide_eq_true h
        cases s <;> cases s2 <;> first | rfl | cases this
      refine ex_one <| ex_eq hF <| ex_fld hF oL <| ex_var hF 0 rfl ⟨rfl, _, rfl, ex_fld hF oL <| ex_var hF 1 rfl ⟨rfl, _, rfl, decide (p = p2), eqD_pair _ _, ?_⟩⟩
      rw [decide_eq_true h, Bool.true_and] at q
      exact q
    · have h : s ≠ s2 := by
        intro z; subst z
        exact of_decide_eq_false h rfl
      rw [decide_eq_false h, Bool.false_and] at q
      exact q
def dsSize (CL : Addr) : DS := fun args M Φ _ => ∃ s p, args = [leafD CL s p] ∧ SmP p ∧ Φ (.int (size6 s p)) M
theorem b_size {j : Nat} (hD : Fd T k P w K mg base nSize (defScope sSize)) (oL : OCls K CL lNs) (cS : Cal T.hot P w K mg base "size_of" j ["shape", "pair"] dsSizeOf) (hj : j ≤ k) (h : dsSize CL args M Φ Ψ) : Bod T sSize nSize args M Φ Ψ := by
  obtain ⟨s, p, rfl, hp, q⟩ := h
  have hF := hD.fc
  exact ssx_one <| sx_ret <| ex_call hF cS hj <| ax_cons <| ex_fld hF oL <| ex_var hF 0 rfl ⟨rfl, _, rfl, ax_cons <| ex_fld hF oL <| ex_var hF 0 rfl ⟨rfl, _, rfl, ax_nil ⟨s, p, rfl, hp, q⟩⟩⟩
theorem nat_sm {i : Int} (h : Sm i) : i.natAbs < 10 ^ 40 := by
  unfold Sm at h
  have : i.natAbs < 2 ^ 60 := by omega
  omega
theorem zL_len {i : Int} (h : Sm i) : (zL i).length ≤ 41 := by
  have := (len_num (nat_sm h)).2
  unfold zL
  split
  · simp; omega
  · omega
theorem log_sm {i : Int} (h : Sm i) : i.natAbs.log2 < 1920 := by
  unfold Sm at h
  by_cases h0 : i.natAbs = 0
  · rw [h0]; decide
  · show i.natAbs.log2 < 1920
    have : i.natAbs.log2 < 60 := (Nat.log2_lt h0).mpr (by omega)
    omega
def dsText (CL : Addr) : DS := fun args M Φ _ => ∃ s p, args = [leafD CL s p] ∧ SmP p ∧ Φ (.str (S (textL s p))) M
theorem b_text (hD : Fd T k P w K mg base nText (defScope sText)) (oL : OCls K CL lNs) (h : dsText CL args M Φ Ψ) : Bod T sText nText args M Φ Ψ := by
  obtain ⟨s, p, rfl, hp, q⟩ := h
  have hF := hD.fc
  have e0 : (Str.empty : Str) = S [] := rfl
  have e1 : (" " : Str) = S [32] := rfl
  have l1 := zL_len hp.1
  have l2 := zL_len hp.2
  have l0 : (shpL s).length ≤ 6 := by cases s <;> decide
  have sz : ∀ l : List Nat, l.length ≤ 1000 → (S l).length ≤ sizeLine := fun l h => sl_len (by omega)
  refine ssx_one <| sx_ret <| ex_joined <| ex_fmt <| ex_fld hF oL <| ex_var hF 0 rfl ⟨rfl, _, rfl, ?_⟩
  rw [shp_S]
  refine ⟨sz _ (by omega), _, rfl, ?_, ?_⟩
  · rw [e0, SX.S_cat]; exact sz _ (by simp; omega)
  rw [e0, SX.S_cat]
  refine ex_str ⟨_, rfl, ?_, ?_⟩
  · rw [e1, SX.S_cat]; exact sz _ (by simp; omega)
  rw [e1, SX.S_cat]
  refine ex_fmt <| ex_ix hF <| ex_fld hF oL <| ex_var hF 0 rfl ⟨rfl, _, rfl, ex_int ⟨_, rfl, log_sm hp.1, _, rfl, ?_, ?_⟩⟩
  · rw [str_z, SX.S_cat]; exact sz _ (by simp; omega)
  rw [str_z, SX.S_cat]
  refine ex_str ⟨_, rfl, ?_, ?_⟩
  · rw [SX.S_cat]; exact sz _ (by simp; omega)
  rw [SX.S_cat]
  refine ex_fmt <| ex_ix hF <| ex_fld hF oL <| ex_var hF 0 rfl ⟨rfl, _, rfl, ex_int ⟨_, rfl, log_sm hp.2, _, rfl, ?_, ?_⟩⟩
  · rw [str_z, SX.S_cat]; exact sz _ (by simp; omega)
  rw [str_z, SX.S_cat]
  have e : ([] ++ shpL s ++ [32] ++ zL p.1 ++ [32] ++ zL p.2) = textL s p := by
    unfold textL; simp
  show Φ (.str (S ([] ++ shpL s ++ [32] ++ zL p.1 ++ [32] ++ zL p.2))) M
  rw [e]; exact q
/-! ### Leaf(..) and Leaf.read -/
theorem mk_leafP {d e : D} (hd : ∃ t, tyD d = some t) (he : plainTy e) (q : leafP CK CP d e (fun s p => Φ (leafD CL s (leafName s p)) M) M Ψ) : mkAsk CL (dsInit CK CP CL) Φ Ψ [d, e] M := by
  intro a ha
  refine .inl ⟨a, d, e, rfl, um_same, hd, he, ?_⟩
  unfold leafP at q ⊢
  have back : ∀ {C : Addr} {c : Str} {v : D}, faultP Ψ C c v M → faultP (fun C ns ds M2 => Ψ C ns ds (dm M2 a)) C c v (um M a (.ins CL [] [])) := fun z => by
    unfold faultP at z
    show Ψ _ _ _ (dm (um M a (.ins CL [] [])) a)
    rw [dm_um ha]; exact z
  cases h1 : shapeOf d with
  | none => rw [h1] at q; exact back q
  | some s =>
    rw [h1] at q
    cases h2 : pairOf e with
    | none => rw [h2] at q; exact back q
    | some p =>
      rw [h2] at q
      obtain ⟨q1, q2, q⟩ := q
      refine ⟨q1, q2, rfl, .inr ⟨_, _, um_same, ?_⟩⟩
      rw [um_um, dm_um ha]
      exact q
/-- .. of a list that may change -/
theorem mk_mut {s : Bool} {b : Addr} {x y : Int} (hb : M b = some (.lst [.int x, .int y])) (h : ¬ (x = 0 ∧ y = 0)) (q1 : Sn x) (q2 : Sn y) (q : Φ (leafD CL s (leafName s (x, y))) M) : mkAsk CL (dsInit CK CP CL) Φ Ψ [.str (shp s), .ref b] M := by
  intro a ha
  have hba : b ≠ a := fun z => by rw [z, ha] at hb; cases hb
  refine .inr ⟨a, s, b, x, y, rfl, um_same, (by rw [um_ne hba]; exact hb), hba, h, q1, q2, rfl, .inr ⟨_, _, um_same, ?_⟩⟩
  rw [um_um, dm_um ha]
  exact q
def readOf : D → Option (Bool × Pr)
  | .str x => readL x.cps.toList
  | _ => none
def readP (CF CL : Addr) (d : D) (ok : Bool → Pr → Prop) (M : Ms) (Ψ : PX) : Prop := match readOf d with
  | none => faultP Ψ CF "BadLeaf" d M
  | some (s, p) => Sn p.1 ∧ Sn p.2 ∧ ok s p
def dsRead (CF CL : Addr) : DS := fun args M Φ Ψ => ∃ d, args = [d] ∧ (∃ t, tyD d = some t) ∧ (∀ x, d = .str x → x.length ≤ 100000) ∧ readP CF CL d (fun s p => Φ (leafD CL s (leafName s p)) M) M Ψ
theorem shapeOf_S (a : List Nat) : shapeOf (.str (S a)) = shpOf a := by
  show (if S a = shp true then some true else if S a = shp false then some false else none) = (if a = shpL true then some true else if a = shpL false then some false else none)
  have e : ∀ s, S a = shp s ↔ a = shpL s := fun s => ⟨fun z => by rw [shp_S] at z; exact SX.S_inj z, fun z => by rw [z, shp_S]⟩
  by_cases h1 : a = shpL true
  · rw [if_pos ((e true).mpr h1), if_pos h1]
  · rw [if_neg (fun z => h1 ((e true).mp z)), if_neg h1]
    by_cases h2 : a = shpL false
    · rw [if_pos ((e false).mpr h2), if_pos h2]
    · rw [if_neg (fun z => h2 ((e false).mp z)), if_neg h2]
/-- an integer word is a number's text -/
theorem iw_int {l : List Nat} (h : iwL l = true) : ∃ x, intText? (S l) = some x ∧ (S l).length ≤ 640 := by
  unfold iwL at h
  obtain ⟨h1, h⟩ := Bool.and_eq_true_iff.mp h
  obtain ⟨h2, h⟩ := Bool.and_eq_true_iff.mp h
  obtain ⟨h3, _⟩ := Bool.and_eq_true_iff.mp h
  have h1 := of_decide_eq_true h1
  have h2 := of_decide_eq_true h2
  have ad : NumText.AllDigits (digs l) := fun c hc => by
    have := List.all_eq_true.mp h3 c hc
    unfold isDig at this
    obtain ⟨a, b⟩ := Bool.and_eq_true_iff.mp this
    exact ⟨of_decide_eq_true a, of_decide_eq_true b⟩
  have ne : digs l ≠ [] := by intro z; rw [z] at h1; cases h1
  by_cases hd : l.head? = some 45
  · obtain ⟨r, rfl⟩ : ∃ r, l = 45 :: r := by
      cases l with
      | nil => cases hd
      | cons c r => cases hd; exact ⟨r, rfl⟩
    rw [digs_neg] at ad ne h2
    exact ⟨_, PySem.intText_neg (x := S (45 :: r)) (cs := r) rfl ad ne (by rw [SX.S_len]; simp; omega), by rw [SX.S_len]; simp; omega⟩
  · rw [digs_of hd] at ad ne h2
    exact ⟨_, PySem.intText_digits (x := S l) ad ne (by rw [SX.S_len]; omega), by rw [SX.S_len]; omega⟩
theorem words_S (l : List Nat) : Txt.split (S l) " " = (TL.spl [32] 0 [] l).map S := SX.split_S (a := l) (b := [32]) (by simp) (by decide)
theorem words_len (l : List Nat) : ∀ w ∈ TL.spl [32] 0 [] l, w.length ≤ l.length + 1 := by
  intro w hw
  have h := split_weight (S l) " " (by decide)
  rw [words_S, List.map_map, SX.S_len] at h
  have : ∀ ws : List (List Nat), w ∈ ws → w.length ≤ (ws.map ((·.length) ∘ S)).sum := by
    intro ws
    induction ws with
    | nil => intro z; cases z
    | cons x ws ih =>
      intro z
      rw [List.map_cons, List.sum_cons]
      show _ ≤ (S x).length + _
      rw [SX.S_len]
      rcases List.mem_cons.mp z with rfl | z
      · omega
      · have := ih z; omega
  have := this _ hw
  omega
include hh in
theorem b_read {j j1 j2 : Nat} (hD : Fd T k P w K mg base nRead (defScope sRead)) (gS : mg "isinstance" = none) (gSt : mg "str" = none) (gLn : mg "len" = none) (gI : mg "int" = none) (gSh : Gv K mg "SHAPES" (.tup [.str "square", .str "six"]))
    (cI : Cal T.hot P w K mg base "is_integer_word" j1 ["word"] dsIW) (cL : MkC T.hot P w K mg base "Leaf" CL j2 ["self", "shape", "pair"] (dsInit CK CP CL)) (cF : XcC P w K mg base "BadLeaf" CF j 1 (itsX "BadLeaf")) (hj : j < k) (h1 : j1 ≤ k) (h2 : j2 < k)
    (h : dsRead CF CL args M Φ Ψ) : Bod T sRead nRead args M Φ Ψ := by
  obtain ⟨d, rfl, ⟨t, ht⟩, hl, q⟩ := h
  have hF := hD.fc
  unfold readP at q
  -- not three words
  have bad : ∀ {D0 : GEnds} {p1 p2 p3 p4 : Pos} (ws o : Option D), D0.ex = (fun _ => Ψ) → readOf d = none → SX T (.Raise (some (.Call (.Name "BadLeaf" p1) [.Name "text" p2] [] p3)) none p4) [some d, ws, o] M D0 := by
    intro D0 p1 p2 p3 p4 ws o e0 e
    rw [e] at q
    exact sx_raise hF cF hj (its_lt _) <| ax_cons <| ex_var hF 0 rfl <| ax_nil ⟨rfl, by rw [e0]; exact q⟩
  -- the words
  have rest : ∀ ws : List (List Nat), (∀ w ∈ ws, w.length ≤ 200000) → ((ws.length = 3 → ∃ l, d = .str (S l) ∧ ws = TL.spl [32] 0 [] l) ∧ (ws.length ≠ 3 → readOf d = none)) →
      SSX T ((defBody sRead).drop 1) [some d, some (.lst ((ws.map S).map D.str)), none] M ⟨fun _ M' => Φ .non M', Φ, fun _ _ => False, fun _ _ => False, fun _ => Ψ⟩ := by
    intro ws hw ⟨w3, wn⟩
    have hlen : (((ws.map S).map D.str).length : Int) = ws.length := by simp
    refine ssx_cons <| sx_if <| WWX.tx <| wx_or <| tx_ne hF <| ex_len hF gLn <| ax_cons <| ex_var hF 1 rfl <| ax_nil <| ex_int ⟨_, rfl, _, rfl, fun h => ?_, fun h => ?_⟩
    · refine ⟨fun _ => ssx_one <| bad _ _ rfl (wn ?_), fun z => nomatch z⟩
      intro z
      rw [hlen, z] at h; cases h
    · have h3 : ws.length = 3 := by
        rw [hlen] at h
        have : ((ws.length : Int) = 3) := by simpa using h
        omega
      obtain ⟨l, rfl, e⟩ := w3 h3
      obtain ⟨a, b, c, rfl⟩ : ∃ a b c, ws = [a, b, c] := by
        match ws, h3 with
        | [a, b, c], _ => exact ⟨a, b, c, rfl⟩
      have ea := hw a (by simp)
      have eb := hw b (by simp)
      have ec := hw c (by simp)
      have er : readOf (.str (S l)) = (shpOf a).bind fun s => if iwL b && iwL c then (intText? (S b)).bind fun x => (intText? (S c)).bind fun y => if x = 0 ∧ y = 0 then none else some (s, (x, y)) else none := by
        show readL l = _
        unfold readL
        rw [← e]
      refine wx_or1 <| tx_notIn hF <| ex_ix hF <| ex_var hF 1 rfl <| ex_int ⟨_, rfl, ex_glob hF gSh <| .inl ⟨_, _, _, rfl, rfl, rfl, _, rfl, ?_⟩⟩
      rw [if_pos rfl, in_shapes, shapeOf_S]
      cases es : shpOf a with
      | none =>
        rw [es] at er
        exact ⟨fun _ => ssx_one <| bad _ _ rfl er, fun z => nomatch z⟩
      | some s =>
        rw [es, Option.bind_some] at er
        refine ⟨(fun z => nomatch z), fun _ => ssx_nil ?_⟩
        refine ssx_cons <| sx_if <| WWX.tx <| wx_or <| tx_not <| tx_val (fun _ _ => rfl) <| ex_call hF cI h1 <| ax_cons <| ex_ix hF <| ex_var hF 1 rfl <| ex_int ⟨_, rfl, ax_nil ⟨b, rfl, by omega, _, rfl, fun hb => ?_, fun hb => ?_⟩⟩
        · have hb : iwL b = false := by simpa using hb
          rw [hb, Bool.false_and, if_neg (by decide)] at er
          exact ⟨fun _ => ssx_one <| bad _ _ rfl er, fun z => nomatch z⟩
        · have hb : iwL b = true := by simpa using hb
          refine wx_or1 <| tx_not <| tx_val (fun _ _ => rfl) <| ex_call hF cI h1 <| ax_cons <| ex_ix hF <| ex_var hF 1 rfl <| ex_int ⟨_, rfl, ax_nil ⟨c, rfl, by omega, _, rfl, fun hc => ?_, fun hc => ?_⟩⟩
          · have hc : iwL c = false := by simpa using hc
            rw [hc, Bool.and_false, if_neg (by decide)] at er
            exact ssx_one <| bad _ _ rfl er
          · have hc : iwL c = true := by simpa using hc
            obtain ⟨x, x1, x2⟩ := iw_int hb
            obtain ⟨y, y1, y2⟩ := iw_int hc
            rw [hb, hc, Bool.true_and, if_pos rfl, x1, y1, Option.bind_some, Option.bind_some] at er
            refine ssx_nil <| ssx_cons <| sx_set hD 2 <| ex_tup <| ax_cons <| ex_intS hF gI <| ex_ix hF <| ex_var hF 1 rfl <| ex_int ⟨_, rfl, _, x, rfl, x1, x2, ?_⟩
            refine ax_cons <| ex_intS hF gI <| ex_ix hF <| ex_var hF 1 rfl <| ex_int ⟨_, rfl, _, y, rfl, y1, y2, ax_nil ⟨sz 2, ?_⟩⟩
            refine ssx_cons <| sx_if <| tx_eq hF <| ex_var hF 2 rfl <| ex_tup <| ax_cons <| ex_int <| ax_cons <| ex_int <| ax_nil ⟨sz 2, decide ((x, y) = ((0, 0) : Pr)), eqD_pair (x, y) (0, 0), _, rfl, fun h => ?_, fun h => ?_⟩
            · have h := of_decide_eq_true h
              rw [if_pos ⟨congrArg Prod.fst h, congrArg Prod.snd h⟩] at er
              exact ssx_one <| bad _ _ rfl er
            · have h := of_decide_eq_false h
              have h' : ¬ (x = 0 ∧ y = 0) := fun z => h (Prod.ext z.1 z.2)
              rw [if_neg h'] at er
              rw [er] at q
              obtain ⟨q1, q2, q⟩ := q
              have hs := shapeOf_S a
              rw [es] at hs
              refine ssx_nil <| ssx_one <| sx_ret <| ex_make hF cL h2 <| ax_cons <| ex_ix hF <| ex_var hF 1 rfl <| ex_int ⟨_, rfl, ax_cons <| ex_var hF 2 rfl <| ax_nil ?_⟩
              refine mk_leafP ⟨.str, rfl⟩ ⟨⟨.tup, rfl⟩, ?_⟩ ?_
              · intro xs hx z hz
                cases hx
                simp at hz
                rcases hz with rfl | rfl
                · exact ⟨.int, rfl⟩
                · exact ⟨.int, rfl⟩
              · have hp : pairOf (pD (x, y)) = some (x, y) := by
                  show (if x = 0 ∧ y = 0 then none else some ((x, y) : Pr)) = _
                  rw [if_neg h']
                unfold leafP
                rw [hs]
                show (match pairOf (pD (x, y)) with
                  | none => _
                  | some p => _)
                rw [hp]
                exact ⟨q1, q2, q⟩
  refine ssx_cons <| sx_set hD 1 <| ex_if <| tx_val (fun _ _ => rfl) <| ex_isi hF .str gS gSt <| ex_var hF 0 rfl ⟨t, ht, _, rfl, fun h => ?_, fun h => ?_⟩
  · obtain ⟨x, rfl⟩ : ∃ x, d = .str x := by
      cases d <;> first | exact ⟨_, rfl⟩ | (cases ht; done) | (cases ht; cases h)
    have hx := hl x rfl
    obtain ⟨l, rfl⟩ : ∃ l, x = S l := ⟨x.cps.toList, (SX.S_tl x).symm⟩
    refine ex_split <| ex_var hF 0 rfl ⟨_, rfl, ex_str ⟨_, rfl, by decide, by rw [sizeLine_eq]; omega, ?_⟩⟩
    rw [words_S]
    refine rest (TL.spl [32] 0 [] l) (fun w hw => ?_) ⟨fun _ => ⟨l, rfl, rfl⟩, fun h3 => ?_⟩
    · have := words_len l w hw
      rw [SX.S_len] at hx
      omega
    · show readL l = none
      unfold readL
      match TL.spl [32] 0 [] l, h3 with
      | [], _ => rfl
      | [_], _ => rfl
      | [_, _], _ => rfl
      | [_, _, _], h3 => exact absurd rfl h3
      | _ :: _ :: _ :: _ :: _, _ => rfl
  · refine ex_lst <| ax_nil ⟨sz 0, rest [] (fun _ z => by cases z) ⟨(fun z => nomatch z), fun _ => ?_⟩⟩
    cases d <;> first | rfl | (cases ht; cases h)
end
end K83
set_option Elab.async false
set_option linter.all false
set_option maxRecDepth 100000
set_option maxHeartbeats 4000000
/-! K83F: the law's own defs about leaves. -/
namespace K83
open PySem PySem.Spec PyProof.Rows L2 G
abbrev sLPair : Stmt := top 37
abbrev sLBent : Stmt := top 38
abbrev sLLeaf : Stmt := top 39
abbrev sLFault : Stmt := top 40
abbrev sLMade : Stmt := top 41
abbrev sLRead : Stmt := top 42
abbrev sLDue : Stmt := top 43
abbrev sLBText : Stmt := top 44
abbrev sLThings : Stmt := top 45
abbrev nLPair : List Str := ["bag", "wide", "p"]
abbrev nLBent : List Str := ["bag", "shape_word", "z", "q", "many"]
abbrev nLLeaf : List Str := ["bag", "shape_word", "z", "q"]
abbrev nLFault : List Str := ["e", "kinds"]
abbrev nLMade : List Str := ["shape_word", "p", "e"]
abbrev nLRead : List Str := ["text", "told", "e"]
abbrev nLDue : List Str := ["word", "thing"]
abbrev nLBText : List Str := ["bag", "text", "words", "style", "at", "digits", "bent"]
abbrev nLThings : List Str := ["told"]
def P300 (p : Pr) : Prop := -300 ≤ p.1 ∧ p.1 ≤ 300 ∧ -300 ≤ p.2 ∧ p.2 ≤ 300
def dsLPair : DS := fun args M Φ _ => ∃ b, args = [.ref b] ∧ Bag M b ∧ ∀ p o, P300 p → p ≠ (0, 0) → Bag (um M b o) b → Φ (pD p) (um M b o)
/-- a pair's number of times -/
def scl (m : Int) (p : Pr) : Pr := (m * p.1, m * p.2)
/-- a pair of the same leaf -/
def bentP (s : Bool) (z r : Pr) : Prop := ∃ u ∈ unitsOf s, ∃ e : Bool, ∃ m ∈ ([1, 1, 2, 3, -1] : List Int), r = scl m (if e then mul6 s (mul6 s z u) (1, 1) else mul6 s z u)
def Z5 (p : Pr) : Prop := (-100000 ≤ p.1 ∧ p.1 ≤ 100000) ∧ -100000 ≤ p.2 ∧ p.2 ≤ 100000
def dsLBent : DS := fun args M Φ _ => ∃ b s z, args = [.ref b, .str (shp s), pD z] ∧ Z5 z ∧ Bag M b ∧ ∀ r o, bentP s z r → Bag (um M b o) b → Φ (pD r) (um M b o)
theorem unit_small {s : Bool} {u : Pr} (h : u ∈ unitsOf s) : (-1 ≤ u.1 ∧ u.1 ≤ 1) ∧ -1 ≤ u.2 ∧ u.2 ≤ 1 := by
  cases s <;> simp [unitsOf] at h <;> rcases h with rfl | rfl | rfl | rfl | rfl | rfl <;> decide
theorem mul_unit_z {s : Bool} {z u : Pr} (hz : Z5 z) (h : u ∈ unitsOf s) : (-300000 ≤ (mul6 s z u).1 ∧ (mul6 s z u).1 ≤ 300000) ∧ -300000 ≤ (mul6 s z u).2 ∧ (mul6 s z u).2 ≤ 300000 := by
  obtain ⟨⟨a1, a2⟩, a3, a4⟩ := hz
  cases s <;> simp [unitsOf] at h <;> rcases h with rfl | rfl | rfl | rfl | rfl | rfl <;> simp [mul6] <;> omega
section
variable {T : Fm Unit} (hh : T.hot = false) {k : Nat} {P : Program} {w : World} {K : PySem.W.Frag} {mg : Str → Option Value} {base : Heap} {args : List D} {M : Ms} {Φ : PD} {Ψ : PX} {CK CP CF CL : Addr}
include hh in
theorem b_lpair {j : Nat} (hD : Fd T k P w K mg base nLPair (defScope sLPair)) (cD : Cal T.hot P w K mg base "_law_draw" j ["bag", "below"] dsLDraw) (hj : j ≤ k) (h : dsLPair args M Φ Ψ) : Bod T sLPair nLPair args M Φ Ψ := by
  obtain ⟨b, rfl, hb, q⟩ := h
  have hF := hD.fc
  have rest : ∀ (wd : Int) (M1 : Ms) (o : MO), (wd = 300 ∨ wd = 9) → M1 = um M b o → Bag M1 b → SSX T ((defBody sLPair).drop 1) [some (.ref b), some (.int wd), none] M1 ⟨fun _ M' => Φ .non M', Φ, fun _ _ => False, fun _ _ => False, fun _ => Ψ⟩ := by
    rintro wd M1 o hw rfl hb1
    refine ssx_cons <| sx_set hD 2 <| ex_tup <| ax_cons <| ex_sub <| ex_call hF cD hj <| ax_cons <| ex_var hF 0 rfl <| ax_cons <| ex_add <| ex_mul <| ex_int <| ex_var hF 1 rfl ⟨.inl (by decide), ex_int <| ax_nil ⟨b, _, rfl, by rcases hw with rfl | rfl <;> decide, by rcases hw with rfl | rfl <;> decide, hb1, fun d o2 h1 h2 hb2 => ?_⟩⟩
    refine ex_var hF 1 rfl <| ax_cons <| ex_sub <| ex_call hF cD hj <| ax_cons <| ex_var hF 0 rfl <| ax_cons <| ex_add <| ex_mul <| ex_int <| ex_var hF 1 rfl ⟨.inl (by decide), ex_int <| ax_nil ⟨b, _, rfl, by rcases hw with rfl | rfl <;> decide, by rcases hw with rfl | rfl <;> decide, hb2, fun d2 o3 h3 h4 hb3 => ?_⟩⟩
    refine ex_var hF 1 rfl <| ax_nil ⟨sz 2, ?_⟩
    rw [um_um, um_um] at hb3
    rw [um_um, um_um]
    have hp : P300 (d - wd, d2 - wd) := by
      unfold P300
      rcases hw with rfl | rfl <;> simp <;> omega
    refine ssx_one <| sx_ret <| ex_if <| tx_ne hF <| ex_var hF 2 rfl <| ex_tup <| ax_cons <| ex_int <| ax_cons <| ex_int <| ax_nil ⟨sz 2, decide ((d - wd, d2 - wd) = ((0, 0) : Pr)), eqD_pair (d - wd, d2 - wd) (0, 0), _, rfl, _, rfl, fun h => ?_, fun h => ?_⟩
    · refine ex_var hF 2 rfl ?_
      have h : (d - wd, d2 - wd) ≠ ((0, 0) : Pr) := fun z => by rw [decide_eq_true z] at h; cases h
      exact q (d - wd, d2 - wd) o3 hp h hb3
    · exact ex_tup <| ax_cons <| ex_int <| ax_cons <| ex_int <| ax_nil ⟨sz 2, q (3, 1) o3 (by unfold P300; decide) (by decide) hb3⟩
  refine ssx_cons <| sx_set hD 1 <| ex_if <| tx_eq hF <| ex_call hF cD hj <| ax_cons <| ex_var hF 0 rfl <| ax_cons <| ex_int <| ax_nil ⟨b, _, rfl, by decide, by decide, hb, fun d o h1 h2 hb1 => ?_⟩
  refine ex_int ⟨_, rfl, fun _ => ?_, fun _ => ?_⟩
  · exact ex_int (rest 300 _ o (.inl rfl) rfl hb1)
  · exact ex_int (rest 9 _ o (.inr rfl) rfl hb1)
theorem z5_sm {p : Pr} (h : (-300000 ≤ p.1 ∧ p.1 ≤ 300000) ∧ -300000 ≤ p.2 ∧ p.2 ≤ 300000) : SmP p := by
  unfold SmP Sm
  omega
include hh in
theorem b_lbent {j j1 j2 j3 : Nat} (hD : Fd T k P w K mg base nLBent (defScope sLBent)) (cM : Cal T.hot P w K mg base "_law_pair_mul" j ["shape_word", "p", "q"] dsLMul) (cO : Cal T.hot P w K mg base "_law_of" j1 ["bag", "things"] dsLOf) (cU : Cal T.hot P w K mg base "_law_units" j2 ["shape_word"] dsLUnits) (cD : Cal T.hot P w K mg base "_law_draw" j3 ["bag", "below"] dsLDraw)
    (h0 : j ≤ k) (h1 : j1 ≤ k) (h2 : j2 ≤ k) (h3 : j3 ≤ k) (h : dsLBent args M Φ Ψ) : Bod T sLBent nLBent args M Φ Ψ := by
  obtain ⟨b, s, z, rfl, hz, hb, q⟩ := h
  have hF := hD.fc
  have hzs : SmP z := by unfold SmP Sm; unfold Z5 at hz; omega
  have rest : ∀ (r : Pr) (M1 : Ms) (o : MO), (∀ m ∈ ([1, 1, 2, 3, -1] : List Int), bentP s z (scl m r)) → M1 = um M b o → Bag M1 b → SSX T ((defBody sLBent).drop 2) [some (.ref b), some (.str (shp s)), some (pD z), some (pD r), none] M1 ⟨fun _ M' => Φ .non M', Φ, fun _ _ => False, fun _ _ => False, fun _ => Ψ⟩ := by
    rintro r M1 o hu rfl hb1
    refine ssx_cons <| sx_set hD 4 <| ex_call hF cO h1 <| ax_cons <| ex_var hF 0 rfl ?_
    refine ax_cons <| ex_lst ?_
    refine ax_cons <| ex_int <| ax_cons <| ex_int <| ax_cons <| ex_int <| ax_cons <| ex_int ?_
    refine ax_cons <| ex_sub <| ex_int <| ex_int ?_
    refine ax_nil ⟨sz 5, ?_⟩
    refine ax_nil ⟨b, [.int 1, .int 1, .int 2, .int 3, .int (-1)], rfl, by simp, by decide, hb1, fun d o2 hd hb2 => ?_⟩
    obtain ⟨m, hm, rfl⟩ : ∃ m ∈ ([1, 1, 2, 3, -1] : List Int), d = .int m := by
      simp at hd
      rcases hd with rfl | rfl | rfl | rfl
      · exact ⟨1, by simp, rfl⟩
      · exact ⟨2, by simp, rfl⟩
      · exact ⟨3, by simp, rfl⟩
      · exact ⟨-1, by simp, rfl⟩
    have cm : ∀ x, CMul m x := fun x => .inl (by simp at hm; rcases hm with rfl | rfl | rfl | rfl <;> decide)
    refine ssx_one <| sx_ret <| ex_tup <| ax_cons <| ex_mul <| ex_var hF 4 rfl <| ex_ix hF <| ex_var hF 3 rfl <| ex_int ⟨_, rfl, cm _, ax_cons <| ex_mul <| ex_var hF 4 rfl <| ex_ix hF <| ex_var hF 3 rfl <| ex_int ⟨_, rfl, cm _, ax_nil ⟨sz 2, ?_⟩⟩⟩
    rw [um_um] at hb2 ⊢
    exact q (scl m r) o2 (hu m hm) hb2
  refine ssx_cons <| sx_set hD 3 <| ex_call hF cM h0 <| ax_cons <| ex_var hF 1 rfl <| ax_cons <| ex_var hF 2 rfl <| ax_cons <| ex_call hF cO h1 <| ax_cons <| ex_var hF 0 rfl <| ax_cons <| ex_call hF cU h2 <| ax_cons <| ex_var hF 1 rfl <| ax_nil ⟨s, rfl, ?_⟩
  refine ax_nil ⟨b, _, rfl, by cases s <;> simp [unitsOf], by cases s <;> decide, hb, fun d o hd hb1 => ?_⟩
  obtain ⟨u, hu, rfl⟩ := List.mem_map.mp hd
  refine ax_nil ⟨s, z, u, rfl, hzs, ?_⟩
  have hq := z5_sm (mul_unit_z hz hu)
  refine ssx_cons <| sx_if <| tx_eq hF <| ex_call hF cD h3 <| ax_cons <| ex_var hF 0 rfl <| ax_cons <| ex_int <| ax_nil ⟨b, _, rfl, by decide, by decide, hb1, fun d o2 _ _ hb2 => ?_⟩
  rw [um_um] at hb2 ⊢
  refine ex_int ⟨_, rfl, fun _ => ?_, fun _ => ?_⟩
  · refine ssx_one <| sx_set hD 3 <| ex_call hF cM h0 <| ax_cons <| ex_var hF 1 rfl <| ax_cons <| ex_var hF 3 rfl <| ax_cons <| ex_tup <| ax_cons <| ex_int <| ax_cons <| ex_int <| ax_nil ⟨sz 2, ax_nil ⟨s, mul6 s z u, (1, 1), rfl, hq, ?_⟩⟩
    exact rest _ _ o2 (fun m hm => ⟨u, hu, true, m, hm, rfl⟩) rfl hb2
  · exact ssx_nil (rest _ _ o2 (fun m hm => ⟨u, hu, false, m, hm, rfl⟩) rfl hb2)
/-- the pair r can be a leaf's -/
def LeafOk (r : Pr) : Prop := r ≠ (0, 0) ∧ Sn r.1 ∧ Sn r.2
def dsLLeaf (CL : Addr) : DS := fun args M Φ _ => ∃ b s z, args = [.ref b, .str (shp s), pD z] ∧ Z5 z ∧ (∀ r, bentP s z r → LeafOk r) ∧ Bag M b ∧ ∀ r o, bentP s z r → Bag (um M b o) b → Φ (leafD CL s (leafName s r)) (um M b o)
theorem pair_plain (p : Pr) (tup : Bool) : plainTy (if tup then pD p else .lst [.int p.1, .int p.2]) := by
  cases tup
  · refine ⟨⟨.lst, rfl⟩, fun xs hx x hm => ?_⟩
    cases hx
    simp at hm
    rcases hm with rfl | rfl <;> exact ⟨.int, rfl⟩
  · refine ⟨⟨.tup, rfl⟩, fun xs hx x hm => ?_⟩
    cases hx
    simp at hm
    rcases hm with rfl | rfl <;> exact ⟨.int, rfl⟩
theorem pair_of (p : Pr) (tup : Bool) (h : p ≠ (0, 0)) : pairOf (if tup then pD p else .lst [.int p.1, .int p.2]) = some p := by
  have e : (if p.1 = 0 ∧ p.2 = 0 then none else some ((p.1, p.2) : Pr)) = some p := by
    rw [if_neg fun z => h (Prod.ext z.1 z.2)]
  cases tup <;> exact e
/-- Leaf(the shape, a good pair) -/
theorem mk_good {s : Bool} {p : Pr} (tup : Bool) (h : LeafOk p) (q : Φ (leafD CL s (leafName s p)) M) : mkAsk CL (dsInit CK CP CL) Φ Ψ [.str (shp s), if tup then pD p else .lst [.int p.1, .int p.2]] M := by
  refine mk_leafP ⟨.str, rfl⟩ (pair_plain p tup) ?_
  unfold leafP
  rw [shapeOf_shp, pair_of p tup h.1]
  exact ⟨h.2.1, h.2.2, q⟩
include hh in
theorem b_lleaf {j j1 j2 : Nat} (hD : Fd T k P w K mg base nLLeaf (defScope sLLeaf)) (cB : Cal T.hot P w K mg base "_law_bent_pair" j ["bag", "shape_word", "z"] dsLBent) (cD : Cal T.hot P w K mg base "_law_draw" j1 ["bag", "below"] dsLDraw) (cL : MkC T.hot P w K mg base "Leaf" CL j2 ["self", "shape", "pair"] (dsInit CK CP CL))
    (h0 : j ≤ k) (h1 : j1 ≤ k) (h2 : j2 < k) (h : dsLLeaf CL args M Φ Ψ) : Bod T sLLeaf nLLeaf args M Φ Ψ := by
  obtain ⟨b, s, z, rfl, hz, hok, hb, q⟩ := h
  have hF := hD.fc
  refine ssx_cons <| sx_set hD 3 <| ex_call hF cB h0 <| ax_cons <| ex_var hF 0 rfl <| ax_cons <| ex_var hF 1 rfl <| ax_cons <| ex_var hF 2 rfl <| ax_nil ⟨b, s, z, rfl, hz, hb, fun r o hr hb1 => ?_⟩
  refine ssx_one <| sx_ret <| ex_make hF cL h2 <| ax_cons <| ex_var hF 1 rfl <| ax_cons <| ex_if <| tx_eq hF <| ex_call hF cD h1 <| ax_cons <| ex_var hF 0 rfl <| ax_cons <| ex_int <| ax_nil ⟨b, _, rfl, by decide, by decide, hb1, fun d o2 _ _ hb2 => ?_⟩
  rw [um_um] at hb2 ⊢
  refine ex_int ⟨_, rfl, fun _ => ?_, fun _ => ?_⟩
  · exact ex_var hF 3 rfl <| ax_nil <| mk_good true (hok r hr) (q r o2 hr hb2)
  · exact ex_lst <| ax_cons <| ex_ix hF <| ex_var hF 3 rfl <| ex_int ⟨_, rfl, ax_cons <| ex_ix hF <| ex_var hF 3 rfl <| ex_int ⟨_, rfl, ax_nil ⟨sz 2, ax_nil <| mk_good false (hok r hr) (q r o2 hr hb2)⟩⟩⟩
def dsLThings (CL : Addr) : DS := fun args M Φ _ => ∃ s p, args = [leafD CL s p] ∧ SmP p ∧ Φ (.lst [.str (shp s), pD p, .int (size6 s p), .str (S (textL s p))]) M
theorem b_lthings {j j1 : Nat} (hD : Fd T k P w K mg base nLThings (defScope sLThings)) (oL : OCls K CL lNs) (cS : ProC T.hot P w K mg base CL "size" j ["self"] (dsSize CL)) (cT : MetC T.hot P w K mg base CL "text" j1 ["self"] (dsText CL)) (h0 : j < k) (h1 : j1 ≤ k) (h : dsLThings CL args M Φ Ψ) : Bod T sLThings nLThings args M Φ Ψ := by
  obtain ⟨s, p, rfl, hp, q⟩ := h
  have hF := hD.fc
  refine ssx_one <| sx_ret <| ex_lst <| ax_cons <| ex_fld hF oL <| ex_var hF 0 rfl ⟨rfl, _, rfl, ax_cons <| ex_fld hF oL <| ex_var hF 0 rfl ⟨rfl, _, rfl, ?_⟩⟩
  refine ax_cons <| ex_prop hF cS h0 <| ex_var hF 0 rfl ⟨rfl, s, p, rfl, hp, ?_⟩
  refine ax_cons <| ex_meth0 hF cT h1 <| ex_var hF 0 rfl ⟨rfl, by decide, s, p, rfl, hp, ax_nil ⟨sz 4, q⟩⟩
end
end K83
set_option Elab.async false
set_option linter.all false
set_option maxRecDepth 100000
set_option maxHeartbeats 4000000
/-! K83G: the law's refusals: faults, made, read, due. -/
namespace K83
open PySem PySem.Spec PyProof.Rows L2 G
inductive Ek where
  | k | p | f
  deriving DecidableEq
def Ek.code : Ek → Str
  | .k => "BadKind" | .p => "BadPair" | .f => "BadLeaf"
def Ek.at (CK CP CF : Addr) : Ek → Addr
  | .k => CK | .p => CP | .f => CF
/-- what _law_fault tells of an error -/
def faultT (x : Ek) (v : D) : D := .tup [.str x.code, .lst [.bl (decide (x = .k)), .bl (decide (x = .p)), .bl (decide (x = .f)), .bl true, .bl true], v]
/-- what is known of the errors' classes -/
structure Errs (K : PySem.W.Frag) (mg : Str → Option Value) (CK CP CF CS : Addr) : Prop where
  gk : mg "BadKind" = some (.ref CK)
  gp : mg "BadPair" = some (.ref CP)
  gf : mg "BadLeaf" = some (.ref CF)
  gs : mg "SitesError" = some (.ref CS)
  gv : mg "ValueError" = none
  ex : ∀ x : Ek, ExcC K (x.at CK CP CF)
  xc : ∀ x : Ek, XCls K (x.at CK CP CF) ["value", "code"]
  kit : ∀ x y : Ek, PySem.W.kitOne K (.ref (x.at CK CP CF)) (.ref (y.at CK CP CF)) = some (decide (x = y))
  kitS : ∀ x : Ek, PySem.W.kitOne K (.ref (x.at CK CP CF)) (.ref CS) = some true
  kitV : ∀ x : Ek, PySem.W.kitOne K (.ref (x.at CK CP CF)) (.type "ValueError") = some true
  exm : ∀ x : Ek, PySem.W.exmAny K (.ref (x.at CK CP CF)) [.ref CK, .ref CP, .ref CF] = some true
def dsLFault (CK CP CF : Addr) : DS := fun args M Φ _ => ∃ (x : Ek) (v : D), args = [.exn (x.at CK CP CF) (xNs (itsX x.code)) (xDs (itsX x.code) [v])] ∧ Φ (faultT x v) M
section
variable {T : Fm Unit} {k : Nat} {P : Program} {w : World} {K : PySem.W.Frag} {mg : Str → Option Value} {base : Heap} {args : List D} {M : Ms} {Φ : PD} {Ψ : PX} {CK CP CF CS CL : Addr}
theorem b_lfault (hD : Fd T k P w K mg base nLFault (defScope sLFault)) (er : Errs K mg CK CP CF CS) (gS : mg "isinstance" = none) (h : dsLFault CK CP CF args M Φ Ψ) : Bod T sLFault nLFault args M Φ Ψ := by
  obtain ⟨x, v, rfl, q⟩ := h
  have hF := hD.fc
  have ask : ∀ (y : Ek) {M : Ms} {Φ : PD}, Φ (.bl (decide (x = y))) M → isP K (.ref (y.at CK CP CF)) M Φ (.exn (x.at CK CP CF) (xNs (itsX x.code)) (xDs (itsX x.code) [v])) := fun y {M Φ} z => ⟨.x (x.at CK CP CF), _, rfl, er.ex x, er.kit x y, z⟩
  refine ssx_cons <| sx_set hD 1 <| ex_lst <| ax_cons <| ex_isC hF gS er.gk <| ex_var hF 0 rfl <| ask .k ?_
  refine ax_cons <| ex_isC hF gS er.gp <| ex_var hF 0 rfl <| ask .p ?_
  refine ax_cons <| ex_isC hF gS er.gf <| ex_var hF 0 rfl <| ask .f ?_
  refine ax_cons <| ex_isC hF gS er.gs <| ex_var hF 0 rfl ⟨.x (x.at CK CP CF), _, rfl, er.ex x, er.kitS x, ?_⟩
  refine ax_cons <| ex_isT hF "ValueError" gS er.gv (by decide +kernel) <| ex_var hF 0 rfl ⟨.x (x.at CK CP CF), _, rfl, er.ex x, er.kitV x, ax_nil ⟨sz 5, ?_⟩⟩
  refine ssx_one <| sx_ret <| ex_tup <| ax_cons <| ex_xfld hF <| ex_var hF 0 rfl ⟨_, _, _, .str x.code, _, rfl, er.xc x, by decide, rfl, ?_⟩
  refine ax_cons <| ex_var hF 1 rfl <| ax_cons <| ex_xfld hF <| ex_var hF 0 rfl ⟨_, _, _, v, _, rfl, er.xc x, by decide, rfl, ax_nil ⟨sz 3, ?_⟩⟩
  exact q
/-- one clause for the three errors, by _law_fault -/
theorem catch_fault {N : List Str} {sc : Scope} {D0 : GEnds} {Γ : Gm} {i : Nat} {su : List Stmt} (er : Errs K mg CK CP CF CS) (x : Ek) {v : D} (h : suiteG k P w K mg base N sc su (Γ.set i (some (.exn (x.at CK CP CF) (xNs (itsX x.code)) (xDs (itsX x.code) [v])))) M (D0.off i)) :
    faultP (catchG k P w K mg base N sc D0 [⟨[.ref CK, .ref CP, .ref CF], some i, su⟩] Γ) (x.at CK CP CF) x.code v M := ⟨true, er.exm x, fun _ => h, fun z => nomatch z⟩
/-- making a leaf, as the law tells it -/
def madeP (d e : D) (Φ : D → Prop) : Prop := match shapeOf d with
  | none => Φ (faultT .k d)
  | some s => match pairOf e with
    | none => Φ (faultT .p e)
    | some p => Sn p.1 ∧ Sn p.2 ∧ Φ (.tup [.str "leaf", pD (leafName s p)])
def dsLMade : DS := fun args M Φ _ => ∃ d e, args = [d, e] ∧ (∃ t, tyD d = some t) ∧ plainTy e ∧ madeP d e (fun d => Φ d M)
theorem b_lmade {j j1 : Nat} (hh : T.hot = false) (hD : Fd T k P w K mg base nLMade (defScope sLMade)) (er : Errs K mg CK CP CF CS) (oL : OCls K CL lNs) (cL : MkC T.hot P w K mg base "Leaf" CL j ["self", "shape", "pair"] (dsInit CK CP CL)) (cF : Cal true P w K mg base "_law_fault" j1 ["e"] (dsLFault CK CP CF))
    (h0 : j < k) (h1 : j1 ≤ k) (h : dsLMade args M Φ Ψ) : Bod T sLMade nLMade args M Φ Ψ := by
  obtain ⟨d, e, rfl, hd, he, q⟩ := h
  have hF := hD.fc
  refine ssx_one <| sx_try hD (.as (i := 2) (test_t3 hF (.inl er.gk) (.inl er.gp) (.inl er.gf)) rfl rfl .nil) fun κ T' hh' hD' => ?_
  refine ssx_one <| sx_ret <| ex_tup <| ax_cons <| ex_str <| ax_cons <| ex_fld hD'.fc oL <| ex_make hD'.fc (cL.at hh') h0 <| ax_cons <| ex_var hD'.fc 0 rfl <| ax_cons <| ex_var hD'.fc 1 rfl <| ax_nil <| mk_leafP hd he ?_
  unfold madeP at q
  unfold leafP
  cases es : shapeOf d with
  | none =>
    rw [es] at q
    exact catch_fault er .k fun κ T2 h2 hD2 => ssx_one <| sx_ret <| ex_call hD2.fc (cF.at h2) h1 <| ax_cons <| ex_var hD2.fc 2 rfl <| ax_nil ⟨.k, d, rfl, q⟩
  | some s =>
    rw [es] at q
    cases ep : pairOf e with
    | none =>
      rw [ep] at q
      exact catch_fault er .p fun κ T2 h2 hD2 => ssx_one <| sx_ret <| ex_call hD2.fc (cF.at h2) h1 <| ax_cons <| ex_var hD2.fc 2 rfl <| ax_nil ⟨.p, e, rfl, q⟩
    | some p =>
      rw [ep] at q
      obtain ⟨q1, q2, q⟩ := q
      exact ⟨q1, q2, rfl, _, rfl, ax_nil ⟨sz 2, q⟩⟩
def tellP (d : D) (Φ : D → Prop) : Prop := match readOf d with
  | none => Φ (faultT .f d)
  | some (s, p) => Sn p.1 ∧ Sn p.2 ∧ Φ (.tup [.str "leaf", .str (shp s), pD (leafName s p)])
def dsLRead : DS := fun args M Φ _ => ∃ d, args = [d] ∧ (∃ t, tyD d = some t) ∧ (∀ x, d = .str x → x.length ≤ 100000) ∧ tellP d (fun d => Φ d M)
theorem b_lread {j j1 : Nat} (hh : T.hot = false) (hD : Fd T k P w K mg base nLRead (defScope sLRead)) (er : Errs K mg CK CP CF CS) (oL : OCls K CL lNs) (cR : StaC T.hot P w K mg base "Leaf" CL "read" j ["text"] (dsRead CF CL)) (cF : Cal true P w K mg base "_law_fault" j1 ["e"] (dsLFault CK CP CF))
    (h0 : j ≤ k) (h1 : j1 ≤ k) (h : dsLRead args M Φ Ψ) : Bod T sLRead nLRead args M Φ Ψ := by
  obtain ⟨d, rfl, hd, hx, q⟩ := h
  have hF := hD.fc
  refine ssx_one <| sx_try hD (.as (i := 2) (test_t3 hF (.inl er.gk) (.inl er.gp) (.inl er.gf)) rfl rfl .nil) fun κ T' hh' hD' => ?_
  refine ssx_cons <| sx_set hD' 1 <| ex_stat hD'.fc (cR.at hh') h0 <| ax_cons <| ex_var hD'.fc 0 rfl <| ax_nil ⟨d, rfl, hd, hx, ?_⟩
  unfold tellP at q
  unfold readP
  cases es : readOf d with
  | none =>
    rw [es] at q
    exact catch_fault er .f fun κ T2 h2 hD2 => ssx_one <| sx_ret <| ex_call hD2.fc (cF.at h2) h1 <| ax_cons <| ex_var hD2.fc 2 rfl <| ax_nil ⟨.f, d, rfl, q⟩
  | some sp =>
    rw [es] at q
    obtain ⟨q1, q2, q⟩ := q
    refine ⟨q1, q2, ?_⟩
    exact ssx_one <| sx_ret <| ex_tup <| ax_cons <| ex_str <| ax_cons <| ex_fld hD'.fc oL <| ex_var hD'.fc 1 rfl ⟨rfl, _, rfl, ax_cons <| ex_fld hD'.fc oL <| ex_var hD'.fc 1 rfl ⟨rfl, _, rfl, ax_nil ⟨sz 3, q⟩⟩⟩
def dsLDue : DS := fun args M Φ _ => ∃ (x : Ek) (v : D), args = [.str x.code, v] ∧ Φ (faultT x v) M
theorem b_ldue (hD : Fd T k P w K mg base nLDue (defScope sLDue)) (h : dsLDue args M Φ Ψ) : Bod T sLDue nLDue args M Φ Ψ := by
  obtain ⟨x, v, rfl, q⟩ := h
  have hF := hD.fc
  refine ssx_one <| sx_ret <| ex_tup <| ax_cons <| ex_var hF 0 rfl <| ax_cons <| ex_lst <| ax_cons <| ex_eq hF <| ex_var hF 0 rfl <| ex_str <| ax_cons <| ex_eq hF <| ex_var hF 0 rfl <| ex_str ?_
  refine ax_cons <| ex_eq hF <| ex_var hF 0 rfl <| ex_str <| ax_cons <| ex_bl <| ax_cons <| ex_bl <| ax_nil ⟨sz 5, ax_cons <| ex_var hF 1 rfl <| ax_nil ⟨sz 3, ?_⟩⟩
  have e : ∀ y : Ek, decide (x.code = y.code) = decide (x = y) := fun y => by cases x <;> cases y <;> decide
  have q' := q
  unfold faultT at q'
  rw [← e .k, ← e .p, ← e .f] at q'
  exact q'
end
end K83
set_option Elab.async false
set_option linter.all false
set_option maxRecDepth 100000
set_option maxHeartbeats 4000000
/-! K83H: the law's bent texts. -/
namespace K83
open PySem PySem.Spec PyProof.Rows L2 G
/-- words as data -/
def wordsD (ws : List (List Nat)) : List D := (ws.map S).map D.str
theorem joinL_len : ∀ ws : List (List Nat), (TL.joinL [32] ws).length ≤ (ws.map (·.length)).sum + ws.length
  | [] => by simp [TL.joinL]
  | [a] => by simp [TL.joinL]
  | a :: b :: r => by
    have := joinL_len (b :: r)
    simp [TL.joinL] at this ⊢
    omega
theorem join_words (ws : List (List Nat)) : Txt.join " " (ws.map S) = S (TL.joinL [32] ws) := SX.join_S [32] ws
theorem lens_S (ws : List (List Nat)) : ((ws.map S).map (·.length)).sum = (ws.map (·.length)).sum := by
  rw [List.map_map]
  exact congrArg List.sum (List.map_congr_left fun x _ => SX.S_len x)
def dsLBText : DS := fun args M Φ _ => ∃ b s z, args = [.ref b, .str (S (textL s z))] ∧ SmP z ∧ Bag M b ∧ ∀ l o, readL l = none → l.length ≤ 1000 → Bag (um M b o) b → Φ (.str (S l)) (um M b o)
section
variable {T : Fm Unit} (hh : T.hot = false) {k : Nat} {P : Program} {w : World} {K : PySem.W.Frag} {mg : Str → Option Value} {base : Heap} {args : List D} {M : Ms} {Φ : PD} {Ψ : PX}
theorem three {d : Int} (h1 : 0 ≤ d) (h2 : d < 3) : d = 0 ∨ d = 1 ∨ d = 2 := by omega
theorem tl_S (l : List Nat) : (S l).cps.toList = l := rfl
theorem head_take {l : List Nat} : (S (l.take 1) = ("-" : Str)) ↔ l.head? = some 45 := by
  have e : ("-" : Str) = S [45] := rfl
  rw [e]
  constructor
  · intro z
    have z := SX.S_inj z
    cases l with
    | nil => cases z
    | cons c r => simpa using z
  · intro z
    cases l with
    | nil => cases z
    | cons c r =>
      have : c = 45 := by simpa using z
      rw [this]; rfl
theorem cut_to1 (a : List Nat) : cutS (S a) none (some 1) = S (a.take 1) := (C8.cutS_slice _ _ _).trans (SX.slice_to (a := a) (i := 1) (by decide))
theorem sl_lst {ds c : List D} {l u : Option Int} (h : cutL ds l u = c) (q : Φ (.lst c) M) : slP M Φ l u (.lst ds) := by subst h; exact q
theorem add_words {p r : List (List Nat)} (h : p.length + r.length ≤ 1000) (q : Φ (.lst (wordsD (p ++ r))) M) : addP M Φ (.lst (wordsD p)) (.lst (wordsD r)) := by
  refine ⟨?_, ?_⟩
  · rw [sizeLine_eq]; simp [wordsD]; omega
  · have e : wordsD p ++ wordsD r = wordsD (p ++ r) := by simp [wordsD]
    show Φ (.lst (wordsD p ++ wordsD r)) M
    rw [e]; exact q
theorem add_txt {a c : List Nat} (h : a.length + c.length ≤ 1000000) (q : Φ (.str (S (a ++ c))) M) : addP M Φ (.str (S a)) (.str (S c)) := by
  refine ⟨by rw [SX.S_len, SX.S_len, sizeLine_eq]; omega, ?_⟩
  show Φ (.str (S a ++ S c)) M
  rw [SX.S_cat]; exact q
theorem rep41 : repS ("1" : Str) (Int.toNat 41) = S (List.replicate 41 49) := by
  apply TL.ext_tl
  show (repS ("1" : Str) 41).cps.toList = _
  rw [repS_tl]
  rfl
/-- joining words gives a text -/
theorem ask_join {ws : List (List Nat)} (h : (ws.map (·.length)).sum + ws.length ≤ 900) (q : Φ (.str (S (TL.joinL [32] ws))) M) : ∃ ys : List Str, D.lst (wordsD ws) = .lst (ys.map D.str) ∧ (ys.map (·.length)).sum + ys.length * (" " : Str).length ≤ 16777216 ∧ Φ (.str (Txt.join " " ys)) M := by
  refine ⟨ws.map S, rfl, ?_, by rw [join_words]; exact q⟩
  have e : (" " : Str).length = 1 := rfl
  rw [lens_S, List.length_map, e]; omega
include hh in
theorem b_lbtext {j : Nat} (hD : Fd T k P w K mg base nLBText (defScope sLBText)) (cD : Cal T.hot P w K mg base "_law_draw" j ["bag", "below"] dsLDraw) (hj : j ≤ k) (h : dsLBText args M Φ Ψ) : Bod T sLBText nLBText args M Φ Ψ := by
  obtain ⟨b, s, z, rfl, hz, hb, q⟩ := h
  have hF := hD.fc
  have l0 : (shpL s).length ≤ 6 := by cases s <;> decide
  have l1 := zL_len hz.1
  have l2 := zL_len hz.2
  have f0 : 32 ∉ shpL s := shp_free (by decide)
  have f1 : 32 ∉ zL z.1 := z_free (by decide)
  have f2 : 32 ∉ zL z.2 := z_free (by decide)
  have et : textL s z = TL.joinL [32] [shpL s, zL z.1, zL z.2] := textL_join s z
  have lt : (textL s z).length ≤ 100 := by
    rw [et]
    have := joinL_len [shpL s, zL z.1, zL z.2]
    simp at this; omega
  have szl : ∀ l : List Nat, l.length ≤ 1000 → (S l).length ≤ sizeLine := fun l h => sl_len (by omega)
  -- the end of the three first kinds: words put together
  have one : ∀ (M1 : Ms) (o : MO) (d : Int) (g : Gm), M1 = um M b o → Bag M1 b → 0 ≤ d → d < 13 → g = [some (.ref b), some (.str (S (textL s z))), some (.lst (wordsD [shpL s, zL z.1, zL z.2])), some (.int d), none, none, none] → SSX T ((defBody sLBText).drop 1) g M1 ⟨fun _ M' => Φ .non M', Φ, fun _ _ => False, fun _ _ => False, fun _ => Ψ⟩ := by
    rintro M1 o d g rfl hb1 h1 h2 rfl
    refine ssx_cons <| sx_if <| tx_lt <| ex_var hF 3 rfl <| ex_int ⟨_, rfl, fun h => ?_, fun h => ?_⟩
    · have h := of_decide_eq_true h
      obtain ⟨X, hX, x1, x2⟩ : ∃ X : List Nat, atI [D.str "hex", D.str "7", D.str ""] d = some (.str (S X)) ∧ 32 ∉ X ∧ X.length ≤ 3 := by
        rcases three h1 h with rfl | rfl | rfl
        · exact ⟨[104, 101, 120], rfl, by decide, by decide⟩
        · exact ⟨[55], rfl, by decide, by decide⟩
        · exact ⟨[], rfl, by decide, by decide⟩
      refine ssx_cons <| sx_set hD 4 <| ex_call hF cD hj <| ax_cons <| ex_var hF 0 rfl <| ax_cons <| ex_int <| ax_nil ⟨b, _, rfl, by decide, by decide, hb1, fun a o2 a1 a2 hb2 => ?_⟩
      rw [um_um] at hb2 ⊢
      obtain ⟨p, r, e1, e2, e3⟩ : ∃ p r : List (List Nat), cutL (wordsD [shpL s, zL z.1, zL z.2]) none (some a) = wordsD p ∧ cutL (wordsD [shpL s, zL z.1, zL z.2]) (some a) none = wordsD r ∧ p ++ r = [shpL s, zL z.1, zL z.2] := by
        rcases three a1 a2 with rfl | rfl | rfl
        · exact ⟨[], [shpL s, zL z.1, zL z.2], rfl, rfl, rfl⟩
        · exact ⟨[shpL s], [zL z.1, zL z.2], rfl, rfl, rfl⟩
        · exact ⟨[shpL s, zL z.1], [zL z.2], rfl, rfl, rfl⟩
      have hlen : p.length + r.length = 3 := by
        have := congrArg List.length e3
        simpa using this
      have hmem : ∀ w, w ∈ p ∨ w ∈ r → 32 ∉ w := by
        intro w hw
        have : w ∈ [shpL s, zL z.1, zL z.2] := by rw [← e3]; exact List.mem_append.mpr hw
        simp at this
        rcases this with rfl | rfl | rfl
        · exact f0
        · exact f1
        · exact f2
      have hsum : (p.map (·.length)).sum + (r.map (·.length)).sum ≤ 100 := by
        have := congrArg (fun l => (l.map (·.length)).sum) e3
        simp at this
        omega
      refine ssx_one <| sx_ret <| ex_join hF <| ex_str ⟨_, rfl, ex_add <| ex_add <| ex_slice hF <| ex_var hF 2 rfl <| ox_none <| ox_some <| ex_var hF 4 rfl ⟨_, rfl, sl_lst e1 ?_⟩⟩
      refine ex_lst <| ax_cons <| ex_ix hF <| ex_lst <| ax_cons <| ex_str <| ax_cons <| ex_str <| ax_cons <| ex_str <| ax_nil ⟨sz 3, ex_var hF 3 rfl ⟨_, hX, ax_nil ⟨sz 1, ?_⟩⟩⟩
      refine add_words (r := [X]) (by simp; omega) ?_
      refine ex_slice hF <| ex_var hF 2 rfl <| ox_some <| ex_var hF 4 rfl ⟨_, rfl, ox_none <| sl_lst e2 <| add_words (by simp; omega) ?_⟩
      have hj4 : (p ++ [X] ++ r).length = 4 := by simp; omega
      have hsum4 : ((p ++ [X] ++ r).map (·.length)).sum + (p ++ [X] ++ r).length ≤ 200 := by
        rw [hj4]; simp; omega
      refine ask_join (by omega) (q _ o2 (read_len (by simp) ?_ (by rw [hj4]; decide)) ?_ hb2)
      · intro w hw
        simp at hw
        rcases hw with hw | rfl | hw
        · exact hmem w (.inl hw)
        · exact x1
        · exact hmem w (.inr hw)
      · have := joinL_len (p ++ [X] ++ r)
        omega
    · have h := of_decide_eq_false h
      refine ssx_nil <| ssx_cons <| sx_if <| tx_lt <| ex_var hF 3 rfl <| ex_int ⟨_, rfl, fun h => ?_, fun h => ?_⟩
      · have h' := of_decide_eq_true h
        refine ssx_one <| sx_ret <| ex_ix hF <| ex_lst <| ax_cons <| ex_add <| ex_var hF 1 rfl <| ex_str <| add_txt (c := [32]) (by simp; omega) ?_
        refine ax_cons <| ex_add <| ex_str <| ex_var hF 1 rfl <| add_txt (a := [32]) (by simp; omega) ?_
        refine ax_cons <| ex_add <| ex_var hF 1 rfl <| ex_str <| add_txt (c := [10]) (by simp; omega) ?_
        refine ax_nil ⟨sz 3, ex_sub <| ex_var hF 3 rfl <| ex_int ?_⟩
        have three' : d = 3 ∨ d = 4 ∨ d = 5 := by omega
        have fin : ∀ l, readL l = none → l.length ≤ 1000 → Φ (.str (S l)) (um M b o) := fun l g1 g2 => q l o g1 g2 hb1
        have eA : textL s z ++ [32] = TL.joinL [32] [shpL s, zL z.1, zL z.2, []] := by rw [et]; simp [TL.joinL]
        have eB : [32] ++ textL s z = TL.joinL [32] [[], shpL s, zL z.1, zL z.2] := by rw [et]; simp [TL.joinL]
        have eC : textL s z ++ [10] = TL.joinL [32] [shpL s, zL z.1, zL z.2 ++ [10]] := by rw [et]; simp [TL.joinL]
        rcases three' with rfl | rfl | rfl
        · refine ⟨_, rfl, fin _ ?_ (by simp; omega)⟩
          rw [eA]
          exact read_len (by simp) (by simp; exact ⟨f0, f1, f2⟩) (by simp)
        · refine ⟨_, rfl, fin _ ?_ (by simp; omega)⟩
          rw [eB]
          exact read_len (by simp) (by simp; exact ⟨f0, f1, f2⟩) (by simp)
        · refine ⟨_, rfl, fin _ ?_ (by simp; omega)⟩
          rw [eC]
          exact read_bad2 f0 f1 (by simp; exact f2) (.inr (iw_feed _))
      · have h := of_decide_eq_false h
        refine ssx_nil <| ssx_cons <| sx_if <| tx_lt <| ex_var hF 3 rfl <| ex_int ⟨_, rfl, fun h => ?_, fun h => ?_⟩
        · have h' := of_decide_eq_true h
          refine ssx_cons <| sx_set hD 4 <| ex_add <| ex_int <| ex_call hF cD hj <| ax_cons <| ex_var hF 0 rfl <| ax_cons <| ex_int <| ax_nil ⟨b, _, rfl, by decide, by decide, hb1, fun a o2 a1 a2 hb2 => ?_⟩
          rw [um_um] at hb2 ⊢
          obtain ⟨i, p, r, hi, e0, e1, e2, e3⟩ : ∃ (i : Int) (p r : List (List Nat)), Sm i ∧ atI (wordsD [shpL s, zL z.1, zL z.2]) (1 + a) = some (.str (S (zL i))) ∧ cutL (wordsD [shpL s, zL z.1, zL z.2]) none (some (1 + a)) = wordsD p ∧ cutL (wordsD [shpL s, zL z.1, zL z.2]) (some (1 + a + 1)) none = wordsD r ∧
              ∀ X : List Nat, p ++ [X] ++ r = [shpL s, X, zL z.2] ∨ p ++ [X] ++ r = [shpL s, zL z.1, X] := by
            have : a = 0 ∨ a = 1 := by omega
            rcases this with rfl | rfl
            · exact ⟨z.1, [shpL s], [zL z.2], hz.1, rfl, rfl, rfl, fun X => .inl rfl⟩
            · exact ⟨z.2, [shpL s, zL z.1], [], hz.2, rfl, rfl, rfl, fun X => .inr rfl⟩
          have li := zL_len hi
          have ln := len_num (nat_sm hi)
          have fn : 32 ∉ TL.numL i.natAbs := TL.numL_free (.inl (by decide))
          refine ssx_cons <| sx_set hD 5 <| ex_ix hF <| ex_var hF 2 rfl <| ex_var hF 4 rfl ⟨_, e0, ?_⟩
          -- behind the minus sign
          have rest : SSX T (((defBody sLBText).drop 3).headD (.Pass ⟨0, 0, 0, 0⟩) |> fun st => match st with
              | .If _ body _ _ => body.drop 3
              | _ => []) [some (.ref b), some (.str (S (textL s z))), some (.lst (wordsD [shpL s, zL z.1, zL z.2])), some (.int d), some (.int (1 + a)), some (.str (S (TL.numL i.natAbs))), none] (um M b o2) ⟨fun Γ' M' => SSX T ((defBody sLBText).drop 4) Γ' M' ⟨fun _ M' => Φ .non M', Φ, fun _ _ => False, fun _ _ => False, fun _ => Ψ⟩, Φ, fun _ _ => False, fun _ _ => False, fun _ => Ψ⟩ := by
            have fin : ∀ X : List Nat, iwL X = false → 32 ∉ X → X.length ≤ 100 → SSX T (((defBody sLBText).drop 3).headD (.Pass ⟨0, 0, 0, 0⟩) |> fun st => match st with
              | .If _ body _ _ => body.drop 4
              | _ => []) [some (.ref b), some (.str (S (textL s z))), some (.lst (wordsD [shpL s, zL z.1, zL z.2])), some (.int d), some (.int (1 + a)), some (.str (S (TL.numL i.natAbs))), some (.str (S X))] (um M b o2) ⟨fun Γ' M' => SSX T ((defBody sLBText).drop 4) Γ' M' ⟨fun _ M' => Φ .non M', Φ, fun _ _ => False, fun _ _ => False, fun _ => Ψ⟩, Φ, fun _ _ => False, fun _ _ => False, fun _ => Ψ⟩ := by
              intro X g1 g2 g3
              have hX := e3 X
              have hlen : (p ++ [X] ++ r).length = 3 := by rcases hX with e | e <;> rw [e] <;> rfl
              have hsum : ((p ++ [X] ++ r).map (·.length)).sum ≤ 200 := by rcases hX with e | e <;> rw [e] <;> simp <;> omega
              have hpr : p.length + r.length = 2 := by simp at hlen; omega
              refine ssx_one <| sx_ret <| ex_join hF <| ex_str ⟨_, rfl, ex_add <| ex_add <| ex_slice hF <| ex_var hF 2 rfl <| ox_none <| ox_some <| ex_var hF 4 rfl ⟨_, rfl, sl_lst e1 ?_⟩⟩
              refine ex_lst <| ax_cons <| ex_var hF 6 rfl <| ax_nil ⟨sz 1, add_words (r := [X]) (by simp; omega) ?_⟩
              refine ex_slice hF <| ex_var hF 2 rfl <| ox_some <| ex_add <| ex_var hF 4 rfl <| ex_int ⟨_, rfl, ox_none <| sl_lst e2 <| add_words (by simp; omega) ?_⟩
              refine ask_join (by omega) (q _ o2 ?_ ?_ hb2)
              · rcases hX with e | e <;> rw [e]
                · exact read_bad2 f0 g2 f2 (.inl g1)
                · exact read_bad2 f0 f1 g2 (.inr g1)
              · have := joinL_len (p ++ [X] ++ r)
                omega
            refine ssx_cons <| sx_set hD 6 <| ex_ix hF <| ex_lst <| ax_cons <| ex_add <| ex_str <| ex_var hF 5 rfl <| add_txt (a := [48]) (by simp; omega) ?_
            refine ax_cons <| ex_add <| ex_str <| ex_var hF 5 rfl <| add_txt (a := [43]) (by simp; omega) ?_
            refine ax_cons <| ex_str <| ax_cons <| ex_add <| ex_var hF 5 rfl <| ex_mulS <| ex_str <| ex_int ⟨by decide, by decide, by decide, by decide, ?_⟩
            rw [rep41]
            refine add_txt (by simp; omega) <| ax_nil ⟨sz 4, ex_sub <| ex_var hF 3 rfl <| ex_int ?_⟩
            have four : d = 6 ∨ d = 7 ∨ d = 8 ∨ d = 9 := by omega
            rcases four with rfl | rfl | rfl | rfl
            · exact ⟨_, rfl, fin (48 :: TL.numL i.natAbs) (iw_lead0 (TL.numL_ne _)) (by simp; exact fn) (by simp; omega)⟩
            · exact ⟨_, rfl, fin (43 :: TL.numL i.natAbs) (iw_plus _) (by simp; exact fn) (by simp; omega)⟩
            · exact ⟨_, rfl, fin [45, 48] iw_minus0 (by decide) (by decide)⟩
            · refine ⟨_, rfl, fin (TL.numL i.natAbs ++ List.replicate 41 49) (iw_long ?_ (by rw [List.length_append, List.length_replicate]; omega)) ?_ (by simp; omega)⟩
              · have := numL_head i.natAbs
                cases e : TL.numL i.natAbs with
                | nil => exact absurd e (TL.numL_ne _)
                | cons c rr => rw [e] at this; simpa using this
              · intro hm
                rcases List.mem_append.mp hm with hm | hm
                · exact fn hm
                · have := List.eq_of_mem_replicate hm
                  omega
          refine ssx_cons <| sx_if <| tx_eq hF <| ex_slice hF <| ex_var hF 5 rfl <| ox_none <| ox_some <| ex_int ⟨_, rfl, szl _ (by omega), ?_⟩
          rw [cut_to1]
          refine ex_str ⟨_, rfl, fun hm => ?_, fun hm => ?_⟩
          · have hm := head_take.mp (of_decide_eq_true hm)
            have en : i < 0 := by
              by_cases hn : i < 0
              · exact hn
              · unfold zL at hm
                rw [if_neg hn] at hm
                exact absurd hm (numL_head _)
            have ez : zL i = 45 :: TL.numL i.natAbs := if_pos en
            refine ssx_one <| sx_set hD 5 <| ex_slice hF <| ex_var hF 5 rfl <| ox_some <| ex_int ⟨_, rfl, ox_none ⟨szl _ (by omega), ?_⟩⟩
            rw [cut_from1, ez]
            exact rest
          · have hm := of_decide_eq_false hm
            have en : ¬ i < 0 := by
              intro hn
              refine hm (head_take.mpr ?_)
              unfold zL
              rw [if_pos hn]; rfl
            have ez : zL i = TL.numL i.natAbs := if_neg en
            rw [ez]
            exact ssx_nil rest
        · have h := of_decide_eq_false h
          have fin : ∀ l, readL l = none → l.length ≤ 1000 → Φ (.str (S l)) (um M b o) := fun l g1 g2 => q l o g1 g2 hb1
          refine ssx_nil <| ssx_one <| sx_ret <| ex_ix hF <| ex_lst <| ax_cons <| ex_join hF <| ex_str ⟨_, rfl, ex_slice hF <| ex_var hF 2 rfl <| ox_none <| ox_some <| ex_int ⟨_, rfl, sl_lst (c := wordsD [shpL s, zL z.1]) rfl ⟨[shpL s, zL z.1].map S, rfl, ?_, ?_⟩⟩⟩
          · have e : (" " : Str).length = 1 := rfl
            rw [lens_S, List.length_map, e]
            simp only [List.map_cons, List.map_nil, List.sum_cons, List.sum_nil, List.length_cons, List.length_nil]
            omega
          rw [join_words]
          refine ax_cons <| ex_add <| ex_str <| ex_slice hF <| ex_var hF 1 rfl <| ox_some <| ex_int ⟨_, rfl, ox_none ⟨szl _ (by omega), ?_⟩⟩
          rw [cut_from1]
          refine add_txt (a := [83]) (by simp; omega) ?_
          refine ax_cons <| ex_add <| ex_ix hF <| ex_var hF 2 rfl <| ex_int ⟨_, rfl, ex_str <| add_txt (c := [32, 48, 32, 48]) (by simp; omega) ?_⟩
          refine ax_nil ⟨sz 3, ex_sub <| ex_var hF 3 rfl <| ex_int ?_⟩
          have ten : d = 10 ∨ d = 11 ∨ d = 12 := by omega
          have eB : [83] ++ (textL s z).drop 1 = TL.joinL [32] [83 :: (shpL s).drop 1, zL z.1, zL z.2] := by
            rw [et]; cases s <;> simp [TL.joinL, shpL]
          have eC : shpL s ++ [32, 48, 32, 48] = TL.joinL [32] [shpL s, [48], [48]] := by simp [TL.joinL]
          rcases ten with rfl | rfl | rfl
          · refine ⟨_, rfl, fin _ (read_len (by simp) (by simp; exact ⟨f0, f1⟩) (by simp)) ?_⟩
            have := joinL_len [shpL s, zL z.1]
            simp at this; omega
          · refine ⟨_, rfl, fin _ ?_ (by simp; omega)⟩
            rw [eB]
            refine read_bad1 ?_ f1 f2 ?_
            · cases s <;> decide
            · cases s <;> rfl
          · refine ⟨_, rfl, fin _ ?_ (by simp; omega)⟩
            have e0 : intText? (S [48]) = some 0 := (int_z (i := 0) (by decide)).1
            rw [eC, read_3 f0 (by decide) (by decide), shpOf_shp, Option.bind_some, if_pos (by decide), e0]
            rfl
  refine ssx_cons <| sx_par hD 2 3 <| ax_cons <| ex_split <| ex_var hF 1 rfl ⟨_, rfl, ex_str ⟨_, rfl, by decide, by rw [SX.S_len, sizeLine_eq]; omega, ?_⟩⟩
  rw [words_S, words_text]
  refine ax_cons <| ex_call hF cD hj <| ax_cons <| ex_var hF 0 rfl <| ax_cons <| ex_int <| ax_nil ⟨b, _, rfl, by decide, by decide, hb, fun d o h1 h2 hb1 => ax_nil ⟨_, _, rfl, ?_⟩⟩
  exact one _ o d _ rfl hb1 h1 h2 rfl
end
end K83
set_option Elab.async false
set_option linter.all false
set_option maxRecDepth 100000
set_option maxHeartbeats 1000000
set_option pp.maxSteps 1200
/-! K83M: the plain mathematics of a leaf's name. -/
namespace K83
open PySem PySem.Spec PyProof.Rows L2 G
def ltP (p q : Pr) : Bool := PySem.W.DatumOrd.lt p q
theorem ltP_iff (p q : Pr) : ltP p q = true ↔ p.1 < q.1 ∨ (p.1 = q.1 ∧ p.2 < q.2) := by
  show (if p.1 = q.1 then PySem.W.DatumOrd.lt p.2 q.2 else PySem.W.DatumOrd.lt p.1 q.1) = true ↔ _
  by_cases h : p.1 = q.1
  · rw [if_pos h]
    show decide (p.2 < q.2) = true ↔ _
    rw [decide_eq_true_eq]; omega
  · rw [if_neg h]
    show decide (p.1 < q.1) = true ↔ _
    rw [decide_eq_true_eq]; omega
theorem max_mem : ∀ (xs : List Pr) (x : Pr), PySem.W.maxOf x xs ∈ x :: xs
  | [], x => List.mem_cons_self
  | y :: ys, x => by
    show PySem.W.maxOf (if PySem.W.DatumOrd.lt x y = true then y else x) ys ∈ _
    have := max_mem ys (if PySem.W.DatumOrd.lt x y = true then y else x)
    split at this
    · rename_i hl
      rw [if_pos hl]
      exact List.mem_cons_of_mem _ this
    · rename_i hl
      rw [if_neg hl]
      rcases List.mem_cons.mp this with h | h
      · rw [h]; exact List.mem_cons_self
      · exact List.mem_cons_of_mem _ (List.mem_cons_of_mem _ h)
theorem max_ge : ∀ (xs : List Pr) (x y : Pr), y ∈ x :: xs → ltP (PySem.W.maxOf x xs) y = false
  | [], x, y, h => by
    rcases List.mem_cons.mp h with rfl | h
    · show ltP y y = false
      rw [Bool.eq_false_iff]; intro c; rw [ltP_iff] at c; omega
    · cases h
  | z :: zs, x, y, h => by
    show ltP (PySem.W.maxOf (if PySem.W.DatumOrd.lt x z = true then z else x) zs) y = false
    have ih := max_ge zs (if PySem.W.DatumOrd.lt x z = true then z else x)
    have i0 := ih _ List.mem_cons_self
    by_cases hl : PySem.W.DatumOrd.lt x z = true
    · rw [if_pos hl] at ih i0 ⊢
      rcases List.mem_cons.mp h with rfl | h
      · have hl : ltP y z = true := hl
        rw [ltP_iff] at hl
        rw [Bool.eq_false_iff, Ne, ltP_iff] at i0 ⊢
        omega
      · exact ih y h
    · rw [if_neg hl] at ih i0 ⊢
      rcases List.mem_cons.mp h with rfl | h
      · exact i0
      · rcases List.mem_cons.mp h with rfl | h
        · have hl : ¬ ltP x y = true := hl
          rw [ltP_iff] at hl
          rw [Bool.eq_false_iff, Ne, ltP_iff] at i0 ⊢
          omega
        · exact ih y (List.mem_cons_of_mem _ h)
theorem max_uniq {xs ys : List Pr} (hx : xs ≠ []) (hy : ys ≠ []) (h : ∀ a, a ∈ xs ↔ a ∈ ys) : maxL xs = maxL ys := by
  match xs, ys, hx, hy with
  | x :: xs, y :: ys, _, _ =>
    show PySem.W.maxOf x xs = PySem.W.maxOf y ys
    have m1 := max_mem xs x
    have m2 := max_mem ys y
    have g1 := max_ge xs x _ ((h _).mpr m2)
    have g2 := max_ge ys y _ ((h _).mp m1)
    rw [Bool.eq_false_iff, Ne, ltP_iff] at g1 g2
    exact Prod.ext (by omega) (by omega)
theorem maxL_mem {xs : List Pr} (hx : xs ≠ []) : maxL xs ∈ xs := by
  match xs, hx with
  | x :: xs, _ => exact max_mem xs x
/-- the turn -/
def tau (s : Bool) (p : Pr) : Pr := (-p.2, if s then p.1 + p.2 else p.1)
def Forb (s : Bool) (p : Pr) : Pr := maxL ((unitsOf s).map (mul6 s p))
def orbL (s : Bool) (p : Pr) : List Pr :=
  if s then [p, tau s p, tau s (tau s p), tau s (tau s (tau s p)), tau s (tau s (tau s (tau s p))), tau s (tau s (tau s (tau s (tau s p))))]
  else [p, tau s p, tau s (tau s p), tau s (tau s (tau s p))]
theorem mul_units (s : Bool) (p : Pr) : (unitsOf s).map (mul6 s p) = orbL s p := by
  obtain ⟨x, y⟩ := p
  cases s
  · simp [unitsOf, orbL, mul6, tau]
  · simp [unitsOf, orbL, mul6, tau]
    omega
theorem tau_full (s : Bool) (p : Pr) : (if s then tau s (tau s (tau s (tau s (tau s (tau s p))))) else tau s (tau s (tau s (tau s p)))) = p := by
  obtain ⟨x, y⟩ := p
  cases s
  · simp [tau]
  · simp [tau]
    omega
theorem Forb_tau (s : Bool) (p : Pr) : Forb s (tau s p) = Forb s p := by
  unfold Forb
  rw [mul_units, mul_units]
  refine max_uniq (by cases s <;> simp [orbL]) (by cases s <;> simp [orbL]) fun a => ?_
  have hf := tau_full s p
  cases s
  · rw [if_neg (by decide)] at hf
    simp only [orbL, if_neg (show ¬ (false = true) by decide), hf, List.mem_cons, List.not_mem_nil, or_false]
    grind
  · rw [if_pos rfl] at hf
    simp only [orbL, if_pos, hf, List.mem_cons, List.not_mem_nil, or_false]
    grind
theorem Forb_mem (s : Bool) (p : Pr) : ∃ u ∈ unitsOf s, Forb s p = mul6 s p u := by
  have := maxL_mem (xs := (unitsOf s).map (mul6 s p)) (by cases s <;> simp [unitsOf])
  obtain ⟨u, hu, e⟩ := List.mem_map.mp this
  exact ⟨u, hu, e.symm⟩
theorem unit_ind {s : Bool} (C : Pr → Prop) (ht : ∀ a, C a → C (tau s a)) {z u : Pr} (hz : C z) (hu : u ∈ unitsOf s) : C (mul6 s z u) := by
  have : mul6 s z u ∈ orbL s z := by rw [← mul_units]; exact List.mem_map.mpr ⟨u, hu, rfl⟩
  cases s
  · simp only [orbL, if_neg (show ¬ (false = true) by decide), List.mem_cons, List.not_mem_nil, or_false] at this
    rcases this with h | h | h | h <;> rw [h]
    · exact hz
    · exact ht _ hz
    · exact ht _ (ht _ hz)
    · exact ht _ (ht _ (ht _ hz))
  · simp only [orbL, if_pos, List.mem_cons, List.not_mem_nil, or_false] at this
    rcases this with h | h | h | h | h | h <;> rw [h]
    · exact hz
    · exact ht _ hz
    · exact ht _ (ht _ hz)
    · exact ht _ (ht _ (ht _ hz))
    · exact ht _ (ht _ (ht _ (ht _ hz)))
    · exact ht _ (ht _ (ht _ (ht _ (ht _ hz))))
/-- a pair with no common factor -/
def Prim (p : Pr) : Prop := Nat.gcd p.1.natAbs p.2.natAbs = 1
def qq (s : Bool) : Int := size6 s (1, 1)
def Red (s : Bool) (p : Pr) : Prop := Prim p ∧ size6 s p % qq s ≠ 0
theorem prim_iff {p : Pr} : Prim p ↔ ∀ d : Nat, (d : Int) ∣ p.1 → (d : Int) ∣ p.2 → d = 1 := by
  constructor
  · intro h d h1 h2
    have := Nat.dvd_gcd (Int.ofNat_dvd_left.mp h1) (Int.ofNat_dvd_left.mp h2)
    rw [show Nat.gcd p.1.natAbs p.2.natAbs = 1 from h] at this
    exact Nat.dvd_one.mp this
  · intro h
    refine h _ (Int.ofNat_dvd_left.mpr (Nat.gcd_dvd_left _ _)) (Int.ofNat_dvd_left.mpr (Nat.gcd_dvd_right _ _))
theorem prim_least {p : Pr} (h : Prim p) : least0 p = p := by
  unfold least0
  rw [show Nat.gcd p.1.natAbs p.2.natAbs = 1 from h]
  exact Prod.ext (by show p.1 / ((1 : Nat) : Int) = p.1; omega) (by show p.2 / ((1 : Nat) : Int) = p.2; omega)
theorem least_dec {p : Pr} (h : p ≠ (0, 0)) : ∃ g : Int, 0 < g ∧ p = scl g (least0 p) ∧ Prim (least0 p) := by
  have hg := gcd_pos h
  have e1 := Int.mul_ediv_cancel' (Int.ofNat_dvd_left.mpr (Nat.gcd_dvd_left p.1.natAbs p.2.natAbs))
  have e2 := Int.mul_ediv_cancel' (Int.ofNat_dvd_left.mpr (Nat.gcd_dvd_right p.1.natAbs p.2.natAbs))
  refine ⟨(Nat.gcd p.1.natAbs p.2.natAbs : Nat), by omega, Prod.ext e1.symm e2.symm, prim_iff.mpr fun d d1 d2 => ?_⟩
  have c1 : ((Nat.gcd p.1.natAbs p.2.natAbs * d : Nat) : Int) ∣ p.1 := by
    obtain ⟨c, hc⟩ := d1
    refine ⟨c, ?_⟩
    rw [Int.natCast_mul, Int.mul_assoc, ← hc]; exact e1.symm
  have c2 : ((Nat.gcd p.1.natAbs p.2.natAbs * d : Nat) : Int) ∣ p.2 := by
    obtain ⟨c, hc⟩ := d2
    refine ⟨c, ?_⟩
    rw [Int.natCast_mul, Int.mul_assoc, ← hc]; exact e2.symm
  have := Nat.dvd_gcd (Int.ofNat_dvd_left.mp c1) (Int.ofNat_dvd_left.mp c2)
  have := Nat.le_of_dvd hg this
  have hd : d ≤ 1 := by
    exact Nat.le_of_mul_le_mul_left (by rw [Nat.mul_one]; exact this) hg
  have : d ≠ 0 := by
    rintro rfl
    apply h
    have := Nat.le_of_dvd hg (Nat.dvd_gcd (Int.ofNat_dvd_left.mp c1) (Int.ofNat_dvd_left.mp c2))
    have z1 : p.1 = 0 := by
      obtain ⟨c, hc⟩ := c1
      rw [hc]; simp
    have z2 : p.2 = 0 := by
      obtain ⟨c, hc⟩ := c2
      rw [hc]; simp
    exact Prod.ext z1 z2
  omega
theorem prim_scl {p : Pr} {m : Int} (h : Prim p) (hm : 0 < m) : least0 (scl m p) = p := by
  have e : Nat.gcd (scl m p).1.natAbs (scl m p).2.natAbs = m.natAbs := by
    show Nat.gcd (m * p.1).natAbs (m * p.2).natAbs = _
    rw [Int.natAbs_mul, Int.natAbs_mul, Nat.gcd_mul_left, show Nat.gcd p.1.natAbs p.2.natAbs = 1 from h, Nat.mul_one]
  unfold least0
  rw [e]
  have : ((m.natAbs : Nat) : Int) = m := by omega
  rw [this]
  exact Prod.ext (Int.mul_ediv_cancel_left _ (by omega)) (Int.mul_ediv_cancel_left _ (by omega))
theorem prim_neg {p : Pr} (h : Prim p) : Prim (scl (-1) p) := by
  rw [prim_iff] at h ⊢
  intro d h1 h2
  refine h d ?_ ?_
  · obtain ⟨c, hc⟩ := h1
    exact ⟨-c, by have : -1 * p.1 = (d : Int) * c := hc; rw [Int.mul_neg]; omega⟩
  · obtain ⟨c, hc⟩ := h2
    exact ⟨-c, by have : -1 * p.2 = (d : Int) * c := hc; rw [Int.mul_neg]; omega⟩
theorem size_tau (s : Bool) (p : Pr) : size6 s (tau s p) = size6 s p := by
  cases s
  · simp only [size6, tau]; grind
  · simp only [size6, tau]; grind
theorem prim_tau {s : Bool} {p : Pr} (h : Prim p) : Prim (tau s p) := by
  rw [prim_iff] at h ⊢
  intro d h1 h2
  have k2 : (d : Int) ∣ p.2 := Int.dvd_neg.mp h1
  refine h d ?_ k2
  cases s
  · exact h2
  · exact (Int.dvd_add_left k2).mp h2
theorem red_tau {s : Bool} {p : Pr} (h : Red s p) : Red s (tau s p) := ⟨prim_tau h.1, by rw [size_tau]; exact h.2⟩
theorem scl_neg (s : Bool) (p : Pr) : scl (-1) p = (if s then tau s (tau s (tau s p)) else tau s (tau s p)) := by
  obtain ⟨x, y⟩ := p
  cases s
  · simp [tau, scl]
  · simp [tau, scl]
    omega
theorem red_neg {s : Bool} {p : Pr} (h : Red s p) : Red s (scl (-1) p) := by
  rw [scl_neg s]
  cases s
  · exact red_tau (red_tau h)
  · exact red_tau (red_tau (red_tau h))
theorem Forb_neg (s : Bool) (p : Pr) : Forb s (scl (-1) p) = Forb s p := by
  rw [scl_neg s]
  cases s
  · exact (Forb_tau _ _).trans (Forb_tau _ _)
  · exact (Forb_tau _ _).trans ((Forb_tau _ _).trans (Forb_tau _ _))
theorem least_red {s : Bool} {p : Pr} (h : Red s p) : least s p = p := by
  unfold least
  rw [prim_least h.1]
  exact if_neg h.2
theorem div_back (s : Bool) (p : Pr) : div6 s (mul6 s p (1, 1)) (1, 1) = p := by
  obtain ⟨x, y⟩ := p
  cases s <;> simp only [div6, mul6, mir6, size6] <;> refine Prod.ext ?_ ?_ <;> simp <;> omega
theorem size_11 (s : Bool) (p : Pr) : size6 s (mul6 s p (1, 1)) = qq s * size6 s p := by
  cases s
  · simp only [size6, mul6, qq]; grind
  · simp only [size6, mul6, qq]; grind
theorem gcd_k {x y : Int} {k d : Nat} (h : Nat.gcd x.natAbs y.natAbs = 1) (h1 : (d : Int) ∣ k * x) (h2 : (d : Int) ∣ k * y) : d ∣ k := by
  have := Nat.dvd_gcd (Int.ofNat_dvd_left.mp h1) (Int.ofNat_dvd_left.mp h2)
  rw [Int.natAbs_mul, Int.natAbs_mul, Nat.gcd_mul_left, h, Nat.mul_one] at this
  exact this
theorem prim_11 {s : Bool} {p : Pr} (h : Red s p) : Prim (mul6 s p (1, 1)) := by
  obtain ⟨x, y⟩ := p
  obtain ⟨h1, h2⟩ := h
  rw [prim_iff]
  intro d d1 d2
  cases s
  · obtain ⟨a, ha⟩ := d1
    obtain ⟨b, hb⟩ := d2
    have ha : x * 1 - y * 1 = d * a := ha
    have hb : x * 1 + y * 1 = d * b := hb
    have hd : d ∣ 2 := gcd_k (k := 2) h1 ⟨a + b, by rw [Int.mul_add, ← ha, ← hb]; show 2 * x = _; omega⟩ ⟨b - a, by rw [Int.mul_sub, ← ha, ← hb]; show 2 * y = _; omega⟩
    have hle := Nat.le_of_dvd (by decide) hd
    rcases (show d = 0 ∨ d = 1 ∨ d = 2 by omega) with rfl | rfl | rfl
    · exact absurd hd (by decide)
    · rfl
    · exfalso
      apply h2
      show (x * x + y * y) % 2 = 0
      have : x = y + 2 * a := by omega
      rw [this]
      have e : (y + 2 * a) * (y + 2 * a) + y * y = 2 * (y * y + 2 * (a * y) + 2 * (a * a)) := by grind
      rw [e]
      exact Int.mul_emod_right _ _
  · obtain ⟨a, ha⟩ := d1
    obtain ⟨b, hb⟩ := d2
    have ha : x * 1 - y * 1 = d * a := ha
    have hb : x * 1 + y * 1 + y * 1 = d * b := hb
    have hd : d ∣ 3 := gcd_k (k := 3) h1 ⟨a + a + b, by rw [Int.mul_add, Int.mul_add, ← ha, ← hb]; show 3 * x = _; omega⟩ ⟨b - a, by rw [Int.mul_sub, ← ha, ← hb]; show 3 * y = _; omega⟩
    have hle := Nat.le_of_dvd (by decide) hd
    rcases (show d = 0 ∨ d = 1 ∨ d = 2 ∨ d = 3 by omega) with rfl | rfl | rfl | rfl
    · exact absurd hd (by decide)
    · rfl
    · exact absurd hd (by decide)
    · exfalso
      apply h2
      show (x * x + x * y + y * y) % 3 = 0
      have : x = y + 3 * a := by omega
      rw [this]
      have e : (y + 3 * a) * (y + 3 * a) + (y + 3 * a) * y + y * y = 3 * (y * y + 3 * (a * y) + 3 * (a * a)) := by grind
      rw [e]
      exact Int.mul_emod_right _ _
theorem least_11 {s : Bool} {p : Pr} (h : Red s p) : least s (mul6 s p (1, 1)) = p := by
  unfold least
  rw [prim_least (prim_11 h), if_pos (by rw [size_11]; exact Int.mul_emod_right _ _), div_back]
theorem sq_mod2 (a : Int) : (a * a) % 2 = a % 2 := by
  rw [Int.mul_emod]
  rcases (show a % 2 = 0 ∨ a % 2 = 1 by omega) with h | h <;> rw [h] <;> rfl
theorem red_div {s : Bool} {p : Pr} (h : Prim p) (h0 : size6 s p % qq s = 0) : Red s (div6 s p (1, 1)) ∧ p = mul6 s (div6 s p (1, 1)) (1, 1) := by
  obtain ⟨x, y⟩ := p
  cases s
  · have h0 : (x * x + y * y) % 2 = 0 := h0
    have hm : (y - x) % 2 = 0 := by
      have a1 := sq_mod2 x
      have a2 := sq_mod2 y
      omega
    obtain ⟨t, ht⟩ : ∃ t, y = x + 2 * t := ⟨(y - x) / 2, by omega⟩
    subst ht
    have e : div6 false (x, x + 2 * t) (1, 1) = (x + t, t) := by
      simp only [div6, mul6, mir6, size6]
      refine Prod.ext ?_ ?_ <;> simp <;> omega
    have e2 : (x, x + 2 * t) = mul6 false (x + t, t) (1, 1) := by
      simp only [mul6]
      refine Prod.ext ?_ ?_ <;> simp <;> omega
    rw [e]
    refine ⟨⟨?_, ?_⟩, e2⟩
    · rw [prim_iff] at h ⊢
      intro d d1 d2
      have dx : (d : Int) ∣ x := (Int.dvd_add_left d2).mp d1
      exact h d dx (Int.dvd_add dx (Int.dvd_mul_of_dvd_right d2))
    · intro c
      have c : ((x + t) * (x + t) + t * t) % 2 = 0 := c
      have a1 := sq_mod2 (x + t)
      have a2 := sq_mod2 t
      have hx : x % 2 = 0 := by omega
      have := prim_iff.mp h 2 (by show (2 : Int) ∣ x; omega) (by show (2 : Int) ∣ x + 2 * t; omega)
      cases this
  · have h0 : (x * x + x * y + y * y) % 3 = 0 := h0
    have hm : (y - x) % 3 = 0 := by
      have e : x * x + x * y + y * y = (y - x) * (y - x) + 3 * (x * y) := by grind
      rw [e] at h0
      have b : ((y - x) * (y - x)) % 3 = 0 := by omega
      rw [Int.mul_emod] at b
      rcases (show (y - x) % 3 = 0 ∨ (y - x) % 3 = 1 ∨ (y - x) % 3 = 2 by omega) with h | h | h
      · exact h
      · rw [h] at b; cases b
      · rw [h] at b; cases b
    obtain ⟨t, ht⟩ : ∃ t, y = x + 3 * t := ⟨(y - x) / 3, by omega⟩
    subst ht
    have e : div6 true (x, x + 3 * t) (1, 1) = (x + t, t) := by
      simp only [div6, mul6, mir6, size6]
      refine Prod.ext ?_ ?_ <;> simp <;> omega
    have e2 : (x, x + 3 * t) = mul6 true (x + t, t) (1, 1) := by
      simp only [mul6]
      refine Prod.ext ?_ ?_ <;> simp <;> omega
    rw [e]
    refine ⟨⟨?_, ?_⟩, e2⟩
    · rw [prim_iff] at h ⊢
      intro d d1 d2
      have dx : (d : Int) ∣ x := (Int.dvd_add_left d2).mp d1
      exact h d dx (Int.dvd_add dx (Int.dvd_mul_of_dvd_right d2))
    · intro c
      have c : ((x + t) * (x + t) + (x + t) * t + t * t) % 3 = 0 := c
      have e3 : (x + t) * (x + t) + (x + t) * t + t * t = x * x + 3 * (x * t + t * t) := by grind
      rw [e3] at c
      have b : (x * x) % 3 = 0 := by omega
      rw [Int.mul_emod] at b
      have hx : x % 3 = 0 := by
        rcases (show x % 3 = 0 ∨ x % 3 = 1 ∨ x % 3 = 2 by omega) with h | h | h
        · exact h
        · rw [h] at b; cases b
        · rw [h] at b; cases b
      have := prim_iff.mp h 3 (by show (3 : Int) ∣ x; omega) (by show (3 : Int) ∣ x + 3 * t; omega)
      cases this
theorem red_least {s : Bool} {p : Pr} (h : p ≠ (0, 0)) : Red s (least s p) := by
  obtain ⟨g, _, _, hp⟩ := least_dec h
  unfold least
  split
  · rename_i h0
    exact (red_div hp h0).1
  · rename_i h0
    exact ⟨hp, h0⟩
theorem leaf_Forb (s : Bool) (p : Pr) : leafName s p = Forb s (least s p) := rfl
theorem least_scl {s : Bool} {p : Pr} {m : Int} (h : Prim p) (hm : 0 < m) : least s (scl m p) = least s p := by
  unfold least
  rw [prim_scl h hm, prim_least h]
theorem neg_11 (s : Bool) (p : Pr) : scl (-1) (mul6 s p (1, 1)) = mul6 s (scl (-1) p) (1, 1) := by
  obtain ⟨x, y⟩ := p
  cases s <;> simp only [mul6, scl] <;> refine Prod.ext ?_ ?_ <;> simp <;> omega
theorem name_scl {s : Bool} {c : Pr} {m : Int} {e : Bool} (h : Red s c) (hm : m ∈ ([1, 1, 2, 3, -1] : List Int)) : leafName s (scl m (if e then mul6 s c (1, 1) else c)) = Forb s c := by
  rw [leaf_Forb]
  have cases_m : 0 < m ∨ m = -1 := by
    simp only [List.mem_cons, List.not_mem_nil, or_false] at hm
    omega
  cases e with
  | false =>
    rw [if_neg (by decide)]
    rcases cases_m with hm | rfl
    · rw [least_scl h.1 hm, least_red h]
    · rw [least_red (red_neg h), Forb_neg]
  | true =>
    rw [if_pos rfl]
    rcases cases_m with hm | rfl
    · rw [least_scl (prim_11 h) hm, least_11 h]
    · rw [neg_11, least_11 (red_neg h), Forb_neg]
theorem div_300 {a : Int} {g : Nat} (h1 : -300 ≤ a) (h2 : a ≤ 300) (hg : 0 < g) : -300 ≤ a / (g : Int) ∧ a / (g : Int) ≤ 300 := by
  constructor
  · apply Int.le_ediv_of_mul_le (by omega)
    have : (-300 : Int) * (g : Int) ≤ -300 * 1 := by omega
    omega
  · exact Int.ediv_le_of_le_mul (by omega) (by omega)
theorem least_bd {s : Bool} {p : Pr} (h : P300 p) (h0 : p ≠ (0, 0)) : (-2000 ≤ (least s p).1 ∧ (least s p).1 ≤ 2000) ∧ -2000 ≤ (least s p).2 ∧ (least s p).2 ≤ 2000 := by
  obtain ⟨h1, h2, h3, h4⟩ := h
  have hg := gcd_pos h0
  have b1 := div_300 h1 h2 hg
  have b2 := div_300 h3 h4 hg
  have hx : -300 ≤ (least0 p).1 ∧ (least0 p).1 ≤ 300 := b1
  have hy : -300 ≤ (least0 p).2 ∧ (least0 p).2 ≤ 300 := b2
  unfold least
  split
  · generalize least0 p = x at hx hy
    cases s <;> simp only [div6, mul6, mir6, size6] <;> simp <;> omega
  · omega
theorem red_ne {s : Bool} {p : Pr} (h : Red s p) : p ≠ (0, 0) := by
  rintro rfl
  exact absurd h.1 (show ¬ (Nat.gcd (0 : Int).natAbs (0 : Int).natAbs = 1) by decide)
theorem name_small {s : Bool} {p : Pr} (h : P300 p) (h0 : p ≠ (0, 0)) : Z5 (leafName s p) ∧ leafName s p ≠ (0, 0) := by
  rw [leaf_Forb]
  obtain ⟨u, hu, e⟩ := Forb_mem s (least s p)
  rw [e]
  constructor
  · have hb := least_bd (s := s) h h0
    generalize least s p = x at hb
    unfold Z5
    cases s <;> simp [unitsOf] at hu <;> rcases hu with rfl | rfl | rfl | rfl | rfl | rfl <;> simp [mul6] <;> omega
  · exact red_ne (unit_ind (Red s) (fun _ h => red_tau h) (red_least h0) hu)
theorem name_bent {s : Bool} {p r : Pr} (h : P300 p) (h0 : p ≠ (0, 0)) (hr : bentP s (leafName s p) r) : LeafOk r ∧ leafName s r = leafName s p := by
  obtain ⟨hz, hz0⟩ := name_small (s := s) h h0
  obtain ⟨u, hu, e, m, hm, rfl⟩ := hr
  have hC : Red s (leafName s p) ∧ Forb s (leafName s p) = leafName s p := by
    obtain ⟨v, hv, ev⟩ := Forb_mem s (least s p)
    rw [leaf_Forb, ev]
    have := unit_ind (fun a => Red s a ∧ Forb s a = Forb s (least s p)) (fun a ha => ⟨red_tau ha.1, (Forb_tau s a).trans ha.2⟩) ⟨red_least h0, rfl⟩ hv
    exact ⟨this.1, this.2.trans ev⟩
  have hc := unit_ind (fun a => Red s a ∧ Forb s a = leafName s p) (fun a ha => ⟨red_tau ha.1, (Forb_tau s a).trans ha.2⟩) hC hu
  refine ⟨?_, (name_scl hc.1 hm).trans hc.2⟩
  have hb := mul_unit_z hz hu
  have hn := red_ne hc.1
  generalize mul6 s (leafName s p) u = c at hb hn
  obtain ⟨x, y⟩ := c
  have hn : ¬ (x = 0 ∧ y = 0) := fun k => hn (by rw [k.1, k.2])
  have hb : (-300000 ≤ x ∧ x ≤ 300000) ∧ -300000 ≤ y ∧ y ≤ 300000 := hb
  have key : ∀ a b : Int, ¬ (a = 0 ∧ b = 0) → (-1000000 ≤ a ∧ a ≤ 1000000) → (-1000000 ≤ b ∧ b ≤ 1000000) → LeafOk (scl m (a, b)) := by
    intro a b n0 ha hb
    simp only [List.mem_cons, List.not_mem_nil, or_false] at hm
    refine ⟨fun k => n0 ?_, ?_, ?_⟩
    · have k1 : m * a = 0 := congrArg Prod.fst k
      have k2 : m * b = 0 := congrArg Prod.snd k
      rcases hm with rfl | rfl | rfl | rfl | rfl <;> omega
    · unfold Sn scl
      rcases hm with rfl | rfl | rfl | rfl | rfl <;> simp <;> omega
    · unfold Sn scl
      rcases hm with rfl | rfl | rfl | rfl | rfl <;> simp <;> omega
  cases e with
  | false => exact key x y hn (by omega) (by omega)
  | true =>
    cases s
    · exact key _ _ (by omega) (by omega) (by omega)
    · refine key _ _ ?_ ?_ ?_ <;> simp <;> omega
theorem name_7 : leafName true (700000, 0) = (1, 0) := by decide +kernel
end K83
set_option Elab.async false
set_option linter.all false
set_option maxRecDepth 100000
set_option maxHeartbeats 1000000
set_option pp.maxSteps 1200
/-! K83L: the law. -/
namespace K83
open PySem PySem.Spec PyProof.Rows L2 G
abbrev sLaw : Stmt := top 46
abbrev nLaw : List Str := ["script", "bag", "shape_word", "p", "q", "z", "w", "handed", "told", "twin", "one", "text", "due", "strange", "bent", "thing", "wrong", "odd", "pair_like"]
theorem p300_sn {p : Pr} (h : P300 p) : Sn p.1 ∧ Sn p.2 := by unfold P300 at h; unfold Sn; omega
theorem z5_smP {p : Pr} (h : Z5 p) : SmP p := by unfold Z5 at h; unfold SmP Sm; omega
theorem z5_sn {p : Pr} (h : Z5 p) : Sn p.1 ∧ Sn p.2 := by unfold Z5 at h; unfold Sn; omega
def dsLaw : DS := fun args M Φ _ => ∃ ns : List Int, args = [.rol (ns.map D.int)] ∧ ∀ M', Φ (.bl true) M'
/-- the law's callees -/
structure Lc (hot : Bool) (P : Program) (w : World) (K : PySem.W.Frag) (mg : Str → Option Value) (base : Heap) (CK CP CF CL : Addr) (j : Nat) : Prop where
  bag : Cal hot P w K mg base "_law_bag" j ["script"] dsLBag
  of : Cal hot P w K mg base "_law_of" j ["bag", "things"] dsLOf
  pair : Cal hot P w K mg base "_law_pair" j ["bag"] dsLPair
  name : Cal hot P w K mg base "_law_leaf_name" j ["shape_word", "p"] dsLName
  size : Cal hot P w K mg base "_law_pair_size" j ["shape_word", "p"] dsLSize
  leaf : Cal hot P w K mg base "_law_leaf" j ["bag", "shape_word", "z"] (dsLLeaf CL)
  same : Cal hot P w K mg base "_law_same" j ["found", "due"] (dsLSame 5)
  things : Cal hot P w K mg base "_law_things" j ["told"] (dsLThings CL)
  bent : Cal hot P w K mg base "_law_bent_pair" j ["bag", "shape_word", "z"] dsLBent
  read : Cal hot P w K mg base "_law_read" j ["text"] dsLRead
  made : Cal hot P w K mg base "_law_made" j ["shape_word", "p"] dsLMade
  due : Cal hot P w K mg base "_law_due" j ["word", "thing"] dsLDue
  btext : Cal hot P w K mg base "_law_bent_text" j ["bag", "text"] dsLBText
  leafC : MkC hot P w K mg base "Leaf" CL j ["self", "shape", "pair"] (dsInit CK CP CL)
  eqC : EqC hot P w K mg base CL j ["self", "other"] (dsEqL CL)
  fld : OCls K CL lNs
  own : OwnF K CL
  nfO : PySem.W.notFirst K CL (.ref CL) = true
  nfB : ∀ t : Bt, PySem.W.notFirst K CL (.type t.name) = true
section
variable {T : Fm Unit} (hh : T.hot = false) {k : Nat} {P : Program} {w : World} {K : PySem.W.Frag} {mg : Str → Option Value} {base : Heap} {args : List D} {M : Ms} {Φ : PD} {Ψ : PX} {CK CP CF CL : Addr}
theorem add_shp {s : Bool} {c : List Nat} (h : c.length ≤ 1000) (q : Φ (.str (S (shpL s ++ c))) M) : addP M Φ (.str (shp s)) (.str (S c)) := by
  rw [shp_S]
  exact add_txt (by have : (shpL s).length ≤ 6 := by cases s <;> decide
                    omega) q
/-- the text of a pair of a shape, as the law writes it -/
theorem ex_text {N : List Str} {sc : Scope} {Γ : Gm} (hF : Fc T k P w K mg base N sc) (gS : mg "str" = none) {s : Bool} {z : Pr} (i j : Nat) {x y : Str} {p1 p2 p3 p4 p5 p6 p7 p8 p9 p10 p11 p12 p13 p14 p15 p16 p17 : Pos} (hi : Γ[i]? = some (some (.str (shp s)))) (hj : Γ[j]? = some (some (pD z))) (hz : SmP z) (q : Φ (.str (S (textL s z))) M)
    (n1 : N[i]? = some x) (v1 : Vis sc x) (d1 : (x == ("__debug__" : Str)) = false) (c1 : (x == ("__classdict__" : Str)) = false) (n2 : N[j]? = some y) (v2 : Vis sc y) (d2 : (y == ("__debug__" : Str)) = false) (c2 : (y == ("__classdict__" : Str)) = false) (hg : sc.names.lookup ("str" : Str) = some .globalImplicit) :
    EX T (.BinOp (.BinOp (.BinOp (.BinOp (.Name x p1) .Add (.Constant (.str " ") 0 p2) p3) .Add (.Call (.Name "str" p4) [.Subscript (.Name y p5) (.Constant (.int 0) 0 p6) p7] [] p8) p9) .Add (.Constant (.str " ") 0 p10) p11) .Add (.Call (.Name "str" p12) [.Subscript (.Name y p13) (.Constant (.int 1) 0 p14) p15] [] p16) p17) Γ M Φ Ψ := by
  have l1 := zL_len hz.1
  have l2 := zL_len hz.2
  have l0 : (shpL s).length ≤ 6 := by cases s <;> decide
  refine ex_add <| ex_add <| ex_add <| ex_add <| ex_var hF i hi ?_ n1 v1 d1 c1
  refine ex_str <| add_shp (c := [32]) (by decide) ?_
  refine ex_str1 hF gS (ax_cons <| ex_ix hF <| ex_var hF j hj (ex_int ⟨_, rfl, ax_nil ⟨log_sm hz.1, ?_⟩⟩) n2 v2 d2 c2) hg
  rw [str_z]
  refine add_txt (by simp; omega) <| ex_str <| add_txt (c := [32]) (by simp; omega) ?_
  refine ex_str1 hF gS (ax_cons <| ex_ix hF <| ex_var hF j hj (ex_int ⟨_, rfl, ax_nil ⟨log_sm hz.2, ?_⟩⟩) n2 v2 d2 c2) hg
  rw [str_z]
  refine add_txt (by simp; omega) ?_
  have e : (shpL s ++ [32] ++ zL z.1 ++ [32] ++ zL z.2) = textL s z := by
    unfold textL; simp
  rw [e]; exact q
/-- equality of a thing with itself -/
theorem same5 {M : Ms} {Φ : PD} {x : D} (h : sameOk 5 x = true) (q : Φ (.bl true) M) : dsLSame 5 [x, x] M Φ Ψ := ⟨x, rfl, h, q⟩
section
variable {j : Nat} (c : Lc T.hot P w K mg base CK CP CF CL j) (hj : j < k) (gS : mg "str" = none)
theorem made_good {s : Bool} {p : Pr} {Z : D → Prop} (tup : Bool) (h : LeafOk p) (q : Z (.tup [.str "leaf", pD (leafName s p)])) : madeP (.str (shp s)) (if tup then pD p else .lst [.int p.1, .int p.2]) Z := by
  unfold madeP
  rw [shapeOf_shp, pair_of p tup h.1]
  exact ⟨h.2.1, h.2.2, q⟩
theorem sn_40 {i : Int} (h : Sn i) : i.natAbs < 10 ^ 40 := by
  unfold Sn at h
  have : i.natAbs < 2 ^ 29 := by omega
  omega
theorem tell_good {s : Bool} {z : Pr} {Z : D → Prop} (h : LeafOk z) (q : Z (.tup [.str "leaf", .str (shp s), pD (leafName s z)])) : tellP (.str (S (textL s z))) Z := by
  unfold tellP
  have e : readOf (.str (S (textL s z))) = some (s, z) := read_text (sn_40 h.2.1) (sn_40 h.2.2) h.1
  rw [e]
  exact ⟨h.2.1, h.2.2, q⟩
theorem text_len {s : Bool} {z : Pr} (h : LeafOk z) : (S (textL s z)).length ≤ 100 := by
  have l1 := (len_num (sn_40 h.2.1)).2
  have l2 := (len_num (sn_40 h.2.2)).2
  have a : ∀ i : Int, (TL.numL i.natAbs).length ≤ 40 → (zL i).length ≤ 41 := fun i h => by
    unfold zL; split
    · simp; omega
    · omega
  have a1 := a _ l1
  have a2 := a _ l2
  have l0 : (shpL s).length ≤ 6 := by cases s <;> decide
  rw [SX.S_len]; unfold textL
  simp; omega
include hh c hj gS
/-- the end: the good one beside -/
theorem law_end {s : Bool} {p z : Pr} {Γ : Gm} (hD : Fd T k P w K mg base nLaw (defScope sLaw)) (g2 : Γ[2]? = some (some (.str (shp s)))) (g3 : Γ[3]? = some (some (pD p))) (g5 : Γ[5]? = some (some (pD z))) (g8 : Γ[8]? = some (some (leafD CL s z))) (g11 : Γ[11]? = some (some (.str (S (textL s z)))))
    (g12 : Γ[12]? = some (some (.lst [.str (shp s), pD z, .int (size6 s z), .str (S (textL s z))]))) (hp : P300 p) (hp0 : p ≠ (0, 0)) (hz : Z5 z) (hz0 : z ≠ (0, 0)) (e1 : leafName s p = z) (e2 : leafName s z = z) (q : ∀ M', Φ (.bl true) M') :
    SSX T ((defBody sLaw).drop 21) Γ M ⟨fun _ M' => Φ .non M', Φ, fun _ _ => False, fun _ _ => False, fun _ => Ψ⟩ := by
  have hF := hD.fc
  have zs := z5_smP hz
  have zn := z5_sn hz
  have okp : LeafOk p := ⟨hp0, p300_sn hp⟩
  have okz : LeafOk z := ⟨hz0, zn⟩
  refine ssx_one <| sx_ret <| ex_and <| ex_call hF c.same (by omega) <| ax_cons <| ex_call hF c.made (by omega) <| ax_cons <| ex_var hF 2 g2 <| ax_cons <| ex_var hF 3 g3 <| ax_nil ⟨_, _, rfl, ⟨.str, rfl⟩, pair_plain p true, made_good true okp ?_⟩
  refine ax_cons <| ex_tup <| ax_cons <| ex_str <| ax_cons <| ex_var hF 5 g5 <| ax_nil ⟨sz 2, ax_nil ?_⟩
  rw [e1]
  refine same5 (by rfl) ⟨_, rfl, fun _ => ?_, fun z => nomatch z⟩
  refine ex_and <| ex_call hF c.same (by omega) <| ax_cons <| ex_call hF c.read (by omega) <| ax_cons <| ex_var hF 11 g11 <| ax_nil ⟨_, rfl, ⟨.str, rfl⟩, (fun x hx => by cases hx; have := text_len (s := s) okz; omega), tell_good okz ?_⟩
  refine ax_cons <| ex_tup <| ax_cons <| ex_str <| ax_cons <| ex_var hF 2 g2 <| ax_cons <| ex_var hF 5 g5 <| ax_nil ⟨sz 3, ax_nil ?_⟩
  rw [e2]
  refine same5 (by rfl) ⟨_, rfl, fun _ => ?_, fun z => nomatch z⟩
  refine ex_one <| ex_call hF c.same (by omega) <| ax_cons <| ex_call hF c.things (by omega) <| ax_cons <| ex_var hF 8 g8 <| ax_nil ⟨s, z, rfl, zs, ax_cons <| ex_var hF 12 g12 <| ax_nil ?_⟩
  exact same5 (by rfl) (q _)
/-- the law's slots -/
abbrev gL (a0 a1 a2 a3 a4 a5 a6 a7 a8 a9 a10 a11 a12 a13 a14 a15 a16 a17 a18 : Option D) : Gm := [a0, a1, a2, a3, a4, a5, a6, a7, a8, a9, a10, a11, a12, a13, a14, a15, a16, a17, a18]
def oddL (s : Bool) : List D := [.non, .str "Square", .str "sixs", .str "", .int 6, .bl true, .tup [.str (shp s)], .lst [.str (shp s)], .str "hex", .str "plain", .str (S (shpL s ++ [32]))]
omit hh c hj gS in
theorem odd_ok {s : Bool} {d : D} (h : d ∈ oddL s) : (∃ t, tyD d = some t) ∧ shapeOf d = none ∧ sameOk 5 (faultT .k d) = true := by
  unfold oddL at h
  simp only [List.mem_cons, List.not_mem_nil, or_false] at h
  rcases h with rfl | rfl | rfl | rfl | rfl | rfl | rfl | rfl | rfl | rfl | rfl
  · exact ⟨⟨.non, rfl⟩, rfl, rfl⟩
  · exact ⟨⟨.str, rfl⟩, by rfl, rfl⟩
  · exact ⟨⟨.str, rfl⟩, by rfl, rfl⟩
  · exact ⟨⟨.str, rfl⟩, by rfl, rfl⟩
  · exact ⟨⟨.int, rfl⟩, rfl, rfl⟩
  · exact ⟨⟨.bl, rfl⟩, rfl, rfl⟩
  · exact ⟨⟨.tup, rfl⟩, rfl, rfl⟩
  · exact ⟨⟨.lst, rfl⟩, rfl, rfl⟩
  · exact ⟨⟨.str, rfl⟩, by rfl, rfl⟩
  · exact ⟨⟨.str, rfl⟩, by rfl, rfl⟩
  · refine ⟨⟨.str, rfl⟩, ?_, rfl⟩
    rw [shapeOf_S]
    cases s <;> rfl
/-- the wrong shapes -/
theorem law_odd {s : Bool} {b : Addr} {p z : Pr} {wr : D} {a0 a4 a6 a7 a9 a10 a13 a14 a15 a17 a18 : Option D} (hD : Fd T k P w K mg base nLaw (defScope sLaw)) (hw : plainTy wr) (hb : Bag M b)
    (hp : P300 p) (hp0 : p ≠ (0, 0)) (hz : Z5 z) (hz0 : z ≠ (0, 0)) (e1 : leafName s p = z) (e2 : leafName s z = z) (q : ∀ M', Φ (.bl true) M') :
    SSX T ((defBody sLaw).drop 19) (gL a0 (some (.ref b)) (some (.str (shp s))) (some (pD p)) a4 (some (pD z)) a6 a7 (some (leafD CL s z)) a9 a10 (some (.str (S (textL s z)))) (some (.lst [.str (shp s), pD z, .int (size6 s z), .str (S (textL s z))])) a13 a14 a15 (some wr) a17 a18) M ⟨fun _ M' => Φ .non M', Φ, fun _ _ => False, fun _ _ => False, fun _ => Ψ⟩ := by
  have hF := hD.fc
  refine ssx_cons <| sx_set hD 17 <| ex_call hF c.of (by omega) <| ax_cons <| ex_var hF 1 rfl <| ax_cons <| ex_lst <| ax_cons <| ex_non <| ax_cons <| ex_str <| ax_cons <| ex_str <| ax_cons <| ex_str <| ax_cons <| ex_int <| ax_cons <| ex_bl <| ax_cons <| ex_tup <| ax_cons <| ex_var hF 2 rfl <| ax_nil ⟨sz 1, ?_⟩
  refine ax_cons <| ex_lst <| ax_cons <| ex_var hF 2 rfl <| ax_nil ⟨sz 1, ax_cons <| ex_str <| ax_cons <| ex_str <| ax_cons <| ex_add <| ex_var hF 2 rfl <| ex_str <| add_shp (c := [32]) (by decide) <| ax_nil ⟨sz 11, ?_⟩⟩
  refine ax_nil ⟨b, oddL s, rfl, by simp [oddL], by simp [oddL], hb, fun d o hd hb1 => ?_⟩
  obtain ⟨d1, d2, d3⟩ := odd_ok hd
  refine ssx_cons <| sx_for hD (tg_nm hD 18) <| ix_seqD hF <| ex_lst <| ax_cons <| ex_var hF 3 rfl <| ax_cons <| ex_var hF 16 rfl <| ax_nil ⟨sz 2, _, rfl, ?_⟩
  refine ⟨fun n Γ' M' => ∃ a, Γ' = gL a0 (some (.ref b)) (some (.str (shp s))) (some (pD p)) a4 (some (pD z)) a6 a7 (some (leafD CL s z)) a9 a10 (some (.str (S (textL s z)))) (some (.lst [.str (shp s), pD z, .int (size6 s z), .str (S (textL s z))])) a13 a14 a15 (some wr) (some d) a, ⟨a18, rfl⟩, fun _ _ _ _ => trivial, ?_, ?_⟩
  · rintro n x Γ' M' hx ⟨a, rfl⟩
    have hpl : plainTy x := by
      have := List.mem_of_getElem? hx
      simp at this
      rcases this with rfl | rfl
      · exact pair_plain p true
      · exact hw
    refine ⟨_, rfl, ?_⟩
    refine ssx_one <| sx_if <| tx_not <| tx_val (fun _ _ => rfl) <| ex_call hF c.same (by omega) <| ax_cons <| ex_call hF c.made (by omega) <| ax_cons <| ex_var hF 17 rfl <| ax_cons <| ex_var hF 18 rfl <| ax_nil ⟨d, x, rfl, d1, hpl, ?_⟩
    unfold madeP
    rw [d2]
    refine ax_cons <| ex_call hF c.due (by omega) <| ax_cons <| ex_str <| ax_cons <| ex_var hF 17 rfl <| ax_nil ⟨.k, d, rfl, ax_nil <| same5 d3 ⟨_, rfl, (fun z => nomatch z), fun _ => ssx_nil ⟨_, rfl⟩⟩⟩
  · rintro Γ' M' ⟨a, rfl⟩
    exact law_end hh c hj gS hD rfl rfl rfl rfl rfl rfl hp hp0 hz hz0 e1 e2 q
omit hh c hj gS in
theorem plain1 {d : D} {t : Bt} (h : tyD d = some t) (hs : seqTL d = none) : plainTy d := ⟨⟨t, h⟩, fun xs e => by rw [hs] at e; cases e⟩
omit hh c hj gS in
theorem plainS {d : D} {t : Bt} {xs : List D} (h : tyD d = some t) (hs : seqTL d = some xs) (hx : ∀ x ∈ xs, ∃ t, tyD x = some t) : plainTy d := ⟨⟨t, h⟩, fun ys e => by rw [hs] at e; cases e; exact hx⟩
def wrongL (p : Pr) : List D := [.non, .tup [.int 0, .int 0], .lst [.int 0, .int 0], .tup [.int p.1], .tup [.int p.1, .int p.2, .int 1], .tup [.bl true, .int 2], .lst [.int 1, .bl false], .str "12", .tup [.str "1", .int 2], .tup [.non, .int 1], .int 7, .lst [], .tup [.tup [.int 1, .int 2], .int 1]]
omit hh c hj gS in
theorem wrong_ok {p : Pr} {d : D} (h : d ∈ wrongL p) : plainTy d ∧ pairOf d = none ∧ sameOk 5 (faultT .p d) = true := by
  unfold wrongL at h
  simp only [List.mem_cons, List.not_mem_nil, or_false] at h
  have two : ∀ (a b : D), (∃ t, tyD a = some t) → (∃ t, tyD b = some t) → ∀ x ∈ [a, b], ∃ t, tyD x = some t := by
    intro a b ha hb x hx
    simp at hx
    rcases hx with rfl | rfl
    · exact ha
    · exact hb
  rcases h with rfl | rfl | rfl | rfl | rfl | rfl | rfl | rfl | rfl | rfl | rfl | rfl | rfl
  · exact ⟨plain1 rfl rfl, rfl, rfl⟩
  · exact ⟨plainS rfl rfl (two _ _ ⟨.int, rfl⟩ ⟨.int, rfl⟩), rfl, rfl⟩
  · exact ⟨plainS rfl rfl (two _ _ ⟨.int, rfl⟩ ⟨.int, rfl⟩), rfl, rfl⟩
  · exact ⟨plainS rfl rfl (by simp; exact ⟨.int, rfl⟩), rfl, rfl⟩
  · exact ⟨plainS rfl rfl (by simp; exact ⟨⟨.int, rfl⟩, ⟨.int, rfl⟩, ⟨.int, rfl⟩⟩), rfl, rfl⟩
  · exact ⟨plainS rfl rfl (two _ _ ⟨.bl, rfl⟩ ⟨.int, rfl⟩), rfl, rfl⟩
  · exact ⟨plainS rfl rfl (two _ _ ⟨.int, rfl⟩ ⟨.bl, rfl⟩), rfl, rfl⟩
  · exact ⟨plain1 rfl rfl, rfl, rfl⟩
  · exact ⟨plainS rfl rfl (two _ _ ⟨.str, rfl⟩ ⟨.int, rfl⟩), rfl, rfl⟩
  · exact ⟨plainS rfl rfl (two _ _ ⟨.non, rfl⟩ ⟨.int, rfl⟩), rfl, rfl⟩
  · exact ⟨plain1 rfl rfl, rfl, rfl⟩
  · exact ⟨plainS rfl rfl (by simp), rfl, rfl⟩
  · exact ⟨plainS rfl rfl (two _ _ ⟨.tup, rfl⟩ ⟨.int, rfl⟩), rfl, rfl⟩
def nineL (s : Bool) (t : List Nat) : List D := [.non, .int 5, .bl true, .str "", .tup [.str (shp s), .int 1, .int 2], .lst [.str (S t)], .str "square", .str (S (t ++ [32, 49])), .str "six 1,2"]
/-- a thing that is no text of a leaf -/
def NoLeaf (d : D) : Prop := (∃ t, tyD d = some t) ∧ (∀ x, d = .str x → x.length ≤ 100000) ∧ readOf d = none ∧ sameOk 5 (faultT .f d) = true
omit hh c hj gS in
theorem nine_ok {s : Bool} {z : Pr} {d : D} (hz : LeafOk z) (h : d ∈ nineL s (textL s z)) : NoLeaf d := by
  unfold nineL at h
  simp only [List.mem_cons, List.not_mem_nil, or_false] at h
  rcases h with rfl | rfl | rfl | rfl | rfl | rfl | rfl | rfl | rfl
  · exact ⟨⟨.non, rfl⟩, (fun _ z => nomatch z), rfl, rfl⟩
  · exact ⟨⟨.int, rfl⟩, (fun _ z => nomatch z), rfl, rfl⟩
  · exact ⟨⟨.bl, rfl⟩, (fun _ z => nomatch z), rfl, rfl⟩
  · exact ⟨⟨.str, rfl⟩, (fun x e => by cases e; decide), rfl, rfl⟩
  · exact ⟨⟨.tup, rfl⟩, (fun _ z => nomatch z), rfl, rfl⟩
  · exact ⟨⟨.lst, rfl⟩, (fun _ z => nomatch z), rfl, rfl⟩
  · exact ⟨⟨.str, rfl⟩, (fun x e => by cases e; decide), rfl, rfl⟩
  · refine ⟨⟨.str, rfl⟩, (fun x e => ?_), ?_, rfl⟩
    · cases e
      have := text_len (s := s) hz
      rw [SX.S_len] at this ⊢
      simp; omega
    · show readL (textL s z ++ [32, 49]) = none
      have e : textL s z ++ [32, 49] = TL.joinL [32] [shpL s, zL z.1, zL z.2, [49]] := by
        rw [textL_join]; simp [TL.joinL]
      rw [e]
      refine read_len (by simp) ?_ (by simp)
      simp
      exact ⟨shp_free (by decide), z_free (by decide), z_free (by decide)⟩
  · exact ⟨⟨.str, rfl⟩, (fun x e => by cases e; decide), rfl, rfl⟩
/-- the texts and things that are none, the wrong pairs -/
theorem law_wrong {s : Bool} {b : Addr} {p z : Pr} {a0 a4 a6 a7 a9 a10 a13 a14 a15 a16 a17 a18 : Option D} (hD : Fd T k P w K mg base nLaw (defScope sLaw)) (hb : Bag M b)
    (hp : P300 p) (hp0 : p ≠ (0, 0)) (hz : Z5 z) (hz0 : z ≠ (0, 0)) (e1 : leafName s p = z) (e2 : leafName s z = z) (q : ∀ M', Φ (.bl true) M') :
    SSX T ((defBody sLaw).drop 16) (gL a0 (some (.ref b)) (some (.str (shp s))) (some (pD p)) a4 (some (pD z)) a6 a7 (some (leafD CL s z)) a9 a10 (some (.str (S (textL s z)))) (some (.lst [.str (shp s), pD z, .int (size6 s z), .str (S (textL s z))])) a13 a14 a15 a16 a17 a18) M ⟨fun _ M' => Φ .non M', Φ, fun _ _ => False, fun _ _ => False, fun _ => Ψ⟩ := by
  have hF := hD.fc
  have zs := z5_smP hz
  have okz : LeafOk z := ⟨hz0, z5_sn hz⟩
  have lt := text_len (s := s) okz
  rw [SX.S_len] at lt
  refine ssx_cons <| sx_for hD (tg_nm hD 15) <| ix_seqD hF <| ex_lst <| ax_cons <| ex_call hF c.btext (by omega) <| ax_cons <| ex_var hF 1 rfl <| ax_cons <| ex_var hF 11 rfl <| ax_nil ⟨b, s, z, rfl, zs, hb, fun l o hl hl2 hb1 => ?_⟩
  refine ax_cons <| ex_call hF c.of (by omega) <| ax_cons <| ex_var hF 1 rfl <| ax_cons <| ex_lst <| ax_cons <| ex_non <| ax_cons <| ex_int <| ax_cons <| ex_bl <| ax_cons <| ex_str <| ax_cons <| ex_tup <| ax_cons <| ex_var hF 2 rfl <| ax_cons <| ex_int <| ax_cons <| ex_int <| ax_nil ⟨sz 3, ?_⟩
  refine ax_cons <| ex_lst <| ax_cons <| ex_var hF 11 rfl <| ax_nil ⟨sz 1, ax_cons <| ex_str <| ax_cons <| ex_add <| ex_var hF 11 rfl <| ex_str <| add_txt (c := [32, 49]) (by simp; omega) <| ax_cons <| ex_str <| ax_nil ⟨sz 9, ?_⟩⟩
  refine ax_nil ⟨b, nineL s (textL s z), rfl, by simp [nineL], by simp [nineL], hb1, fun d o2 hd hb2 => ax_nil ⟨sz 2, _, rfl, ?_⟩⟩
  have okd := nine_ok okz hd
  have okl : NoLeaf (.str (S l)) := ⟨⟨.str, rfl⟩, (fun x e => by cases e; rw [SX.S_len]; omega), hl, rfl⟩
  rw [um_um] at hb2 ⊢
  refine ⟨fun n Γ' M' => M' = um M b o2 ∧ ∃ a, Γ' = gL a0 (some (.ref b)) (some (.str (shp s))) (some (pD p)) a4 (some (pD z)) a6 a7 (some (leafD CL s z)) a9 a10 (some (.str (S (textL s z)))) (some (.lst [.str (shp s), pD z, .int (size6 s z), .str (S (textL s z))])) a13 a14 a a16 a17 a18, ⟨rfl, a15, rfl⟩, fun _ _ _ _ => trivial, ?_, ?_⟩
  · rintro n x Γ' M' hx ⟨rfl, a, rfl⟩
    have hpl : NoLeaf x := by
      have := List.mem_of_getElem? hx
      simp at this
      rcases this with rfl | rfl
      · exact okl
      · exact okd
    obtain ⟨x1, x2, x3, x4⟩ := hpl
    refine ⟨_, rfl, ?_⟩
    refine ssx_one <| sx_if <| tx_not <| tx_val (fun _ _ => rfl) <| ex_call hF c.same (by omega) <| ax_cons <| ex_call hF c.read (by omega) <| ax_cons <| ex_var hF 15 rfl <| ax_nil ⟨x, rfl, x1, x2, ?_⟩
    unfold tellP
    rw [x3]
    exact ax_cons <| ex_call hF c.due (by omega) <| ax_cons <| ex_str <| ax_cons <| ex_var hF 15 rfl <| ax_nil ⟨.f, x, rfl, ax_nil <| same5 x4 ⟨_, rfl, (fun z => nomatch z), fun _ => ssx_nil ⟨rfl, _, rfl⟩⟩⟩
  · rintro Γ' M' ⟨rfl, a, rfl⟩
    refine ssx_cons ?_; refine sx_set hD 16 ?_; refine ex_call hF c.of (by omega) ?_; refine ax_cons ?_; refine ex_var hF 1 rfl ?_; refine ax_cons ?_; refine ex_lst ?_; refine ax_cons ?_; refine ex_non ?_
    refine ax_cons ?_; refine ex_tup ?_; refine ax_cons ?_; refine ex_int ?_; refine ax_cons ?_; refine ex_int ?_; refine ax_nil ?_
    refine ⟨sz 2, ?_⟩
    refine ax_cons ?_; refine ex_lst ?_; refine ax_cons ?_; refine ex_int ?_; refine ax_cons ?_; refine ex_int ?_; refine ax_nil ?_
    refine ⟨sz 2, ?_⟩
    refine ax_cons ?_; refine ex_tup ?_; refine ax_cons ?_; refine ex_ix hF ?_; refine ex_var hF 3 rfl ?_; refine ex_int ?_
    refine ⟨_, rfl, ?_⟩
    refine ax_nil ?_
    refine ⟨sz 1, ?_⟩
    refine ax_cons ?_; refine ex_tup ?_; refine ax_cons ?_; refine ex_ix hF ?_; refine ex_var hF 3 rfl ?_; refine ex_int ?_
    refine ⟨_, rfl, ?_⟩
    refine ax_cons ?_; refine ex_ix hF ?_; refine ex_var hF 3 rfl ?_; refine ex_int ?_
    refine ⟨_, rfl, ?_⟩
    refine ax_cons ?_; refine ex_int ?_; refine ax_nil ?_
    refine ⟨sz 3, ?_⟩
    refine ax_cons ?_; refine ex_tup ?_; refine ax_cons ?_; refine ex_bl ?_; refine ax_cons ?_; refine ex_int ?_; refine ax_nil ?_
    refine ⟨sz 2, ?_⟩
    refine ax_cons ?_; refine ex_lst ?_; refine ax_cons ?_; refine ex_int ?_; refine ax_cons ?_; refine ex_bl ?_; refine ax_nil ?_
    refine ⟨sz 2, ?_⟩
    refine ax_cons ?_; refine ex_str ?_; refine ax_cons ?_; refine ex_tup ?_; refine ax_cons ?_; refine ex_str ?_; refine ax_cons ?_; refine ex_int ?_; refine ax_nil ?_
    refine ⟨sz 2, ?_⟩
    refine ax_cons ?_; refine ex_tup ?_; refine ax_cons ?_; refine ex_non ?_; refine ax_cons ?_; refine ex_int ?_; refine ax_nil ?_
    refine ⟨sz 2, ?_⟩
    refine ax_cons ?_; refine ex_int ?_; refine ax_cons ?_; refine ex_lst ?_; refine ax_nil ?_
    refine ⟨sz 0, ?_⟩
    refine ax_cons ?_; refine ex_tup ?_; refine ax_cons ?_; refine ex_tup ?_; refine ax_cons ?_; refine ex_int ?_; refine ax_cons ?_; refine ex_int ?_; refine ax_nil ?_
    refine ⟨sz 2, ?_⟩
    refine ax_cons ?_; refine ex_int ?_; refine ax_nil ?_
    refine ⟨sz 2, ?_⟩
    refine ax_nil ?_
    refine ⟨sz 13, ?_⟩
    refine ax_nil ⟨b, wrongL p, rfl, by simp [wrongL], by simp [wrongL], hb2, fun wr o3 hwr hb3 => ?_⟩
    obtain ⟨w1, w2, w3⟩ := wrong_ok hwr
    refine ssx_cons <| sx_if <| tx_not <| tx_val (fun _ _ => rfl) <| ex_call hF c.same (by omega) <| ax_cons <| ex_call hF c.made (by omega) <| ax_cons <| ex_var hF 2 rfl <| ax_cons <| ex_var hF 16 rfl <| ax_nil ⟨_, wr, rfl, ⟨.str, rfl⟩, w1, ?_⟩
    unfold madeP
    rw [shapeOf_shp, w2]
    refine ax_cons <| ex_call hF c.due (by omega) <| ax_cons <| ex_str <| ax_cons <| ex_var hF 16 rfl <| ax_nil ⟨.p, wr, rfl, ax_nil <| same5 w3 ⟨_, rfl, (fun z => nomatch z), fun _ => ssx_nil ?_⟩⟩
    exact law_odd hh c hj gS hD w1 hb3 hp hp0 hz hz0 e1 e2 q
omit hh c hj gS in
theorem lit_7 : ("six 700000 0" : Str) = S (textL true (700000, 0)) := by decide +kernel
/-- the leaf of another pair, told by a text -/
theorem law_mid {s : Bool} {b : Addr} {p z : Pr} {a0 a4 a6 a7 a9 a10 a13 a14 a15 a16 a17 a18 : Option D} (hD : Fd T k P w K mg base nLaw (defScope sLaw)) (hb : Bag M b)
    (hp : P300 p) (hp0 : p ≠ (0, 0)) (hz : Z5 z) (hz0 : z ≠ (0, 0)) (e1 : leafName s p = z) (e2 : leafName s z = z) (q : ∀ M', Φ (.bl true) M') :
    SSX T ((defBody sLaw).drop 13) (gL a0 (some (.ref b)) (some (.str (shp s))) (some (pD p)) a4 (some (pD z)) a6 a7 (some (leafD CL s z)) a9 a10 (some (.str (S (textL s z)))) (some (.lst [.str (shp s), pD z, .int (size6 s z), .str (S (textL s z))])) a13 a14 a15 a16 a17 a18) M ⟨fun _ M' => Φ .non M', Φ, fun _ _ => False, fun _ _ => False, fun _ => Ψ⟩ := by
  have hF := hD.fc
  refine ssx_cons ?_; refine sx_set hD 14 ?_; refine ex_call hF c.bent (by omega) ?_; refine ax_cons ?_; refine ex_var hF 1 rfl ?_; refine ax_cons ?_; refine ex_var hF 2 rfl ?_; refine ax_cons ?_; refine ex_var hF 5 rfl ?_; refine ax_nil ?_
  refine ⟨b, s, z, rfl, hz, hb, fun r o hr hb1 => ?_⟩
  subst e1
  obtain ⟨okr, er⟩ := name_bent hp hp0 hr
  have rs : SmP r := by obtain ⟨_, h1, h2⟩ := okr; unfold Sn at h1 h2; unfold SmP Sm; omega
  refine ssx_cons ?_; refine sx_if ?_; refine tx_not ?_; refine tx_val (fun _ _ => rfl) ?_; refine ex_call hF c.same (by omega) ?_; refine ax_cons ?_; refine ex_call hF c.read (by omega) ?_; refine ax_cons ?_
  refine ex_text hF gS 2 14 rfl rfl rs ?_ rfl (.inl rfl) (by decide) (by decide) rfl (.inl rfl) (by decide) (by decide) rfl
  refine ax_nil ⟨_, rfl, ⟨.str, rfl⟩, (fun x hx => by cases hx; have := text_len (s := s) okr; omega), tell_good okr ?_⟩
  rw [er]
  refine ax_cons ?_; refine ex_tup ?_; refine ax_cons ?_; refine ex_str ?_; refine ax_cons ?_; refine ex_var hF 2 rfl ?_; refine ax_cons ?_; refine ex_var hF 5 rfl ?_; refine ax_nil ?_
  refine ⟨sz 3, ax_nil <| same5 (by rfl) ⟨_, rfl, (fun z => nomatch z), fun _ => ssx_nil ?_⟩⟩
  have ok7 : LeafOk (700000, 0) := ⟨by decide, by unfold Sn; decide, by unfold Sn; decide⟩
  refine ssx_cons ?_; refine sx_if ?_; refine tx_not ?_; refine tx_val (fun _ _ => rfl) ?_; refine ex_call hF c.same (by omega) ?_; refine ax_cons ?_; refine ex_call hF c.read (by omega) ?_; refine ax_cons ?_; refine ex_str ?_
  rw [lit_7]
  refine ax_nil ⟨_, rfl, ⟨.str, rfl⟩, (fun x hx => by cases hx; have := text_len (s := true) ok7; omega), tell_good ok7 ?_⟩
  rw [name_7]
  refine ax_cons ?_; refine ex_tup ?_; refine ax_cons ?_; refine ex_str ?_; refine ax_cons ?_; refine ex_str ?_; refine ax_cons ?_; refine ex_tup ?_; refine ax_cons ?_; refine ex_int ?_; refine ax_cons ?_; refine ex_int ?_; refine ax_nil ?_
  refine ⟨sz 2, ax_nil ⟨sz 3, ax_nil <| same5 (by rfl) ⟨_, rfl, (fun z => nomatch z), fun _ => ssx_nil ?_⟩⟩⟩
  exact law_wrong hh c hj gS hD hb1 hp hp0 hz hz0 rfl e2 q
omit hh hj gS in
/-- x == y of leaves -/
theorem ask_eq {s s2 : Bool} {p p2 : Pr} {Φ : PD} (q : Φ (.bl (decide (s = s2) && decide (p = p2))) M) : ownP K CL (dsEqL CL) M Φ (leafD CL s p) (leafD CL s2 p2) :=
  ⟨rfl, .o CL, rfl, c.own, c.nfO, s, p, _, rfl, .inr ⟨s2, p2, rfl, ⟨_, rfl⟩, q⟩⟩
omit hh hj gS in
theorem ask_ne {s : Bool} {p : Pr} {d : D} {t : Bt} {Φ : PD} (ht : tyD d = some t) (q : Φ (.bl false) M) : ownP K CL (dsEqL CL) M Φ (leafD CL s p) d := by
  have hw : wdD M d = some (.b t) := by cases d <;> first | (cases ht; rfl) | cases ht
  exact ⟨rfl, .b t, hw, trivial, c.nfB t, s, p, d, rfl, .inl ⟨t, ht, ⟨_, rfl⟩, q⟩⟩
/-- the leaves, equal and not -/
theorem law_top {s : Bool} {b : Addr} {p z r w' : Pr} {a0 a7 a13 a14 a15 a16 a17 a18 : Option D} (hD : Fd T k P w K mg base nLaw (defScope sLaw)) (hb : Bag M b)
    (hp : P300 p) (hp0 : p ≠ (0, 0)) (hz : Z5 z) (hz0 : z ≠ (0, 0)) (e1 : leafName s p = z) (e2 : leafName s z = z) (q : ∀ M', Φ (.bl true) M') :
    SSX T ((defBody sLaw).drop 9) (gL a0 (some (.ref b)) (some (.str (shp s))) (some (pD p)) (some (pD r)) (some (pD z)) (some (pD w')) a7 (some (leafD CL s z)) (some (leafD CL s z)) (some (leafD CL s w')) (some (.str (S (textL s z)))) (some (.lst [.str (shp s), pD z, .int (size6 s z), .str (S (textL s z))])) a13 a14 a15 a16 a17 a18) M ⟨fun _ M' => Φ .non M', Φ, fun _ _ => False, fun _ _ => False, fun _ => Ψ⟩ := by
  have hF := hD.fc
  have zs := z5_smP hz
  have okz : LeafOk z := ⟨hz0, z5_sn hz⟩
  refine ssx_cons ?_; refine sx_if ?_; refine WWX.tx ?_; refine wx_or ?_; refine tx_not ?_; refine tx_val (fun _ _ => rfl) ?_; refine ex_call hF c.same (by omega) ?_; refine ax_cons ?_; refine ex_call hF c.things (by omega) ?_; refine ax_cons ?_; refine ex_var hF 8 rfl ?_; refine ax_nil ?_
  refine ⟨s, z, rfl, zs, ax_cons <| ex_var hF 12 rfl <| ax_nil <| same5 (by rfl) ⟨_, rfl, (fun z => nomatch z), fun _ => ?_⟩⟩
  refine wx_or ?_; refine tx_not ?_; refine tx_val (fun _ _ => rfl) ?_; refine ex_call hF c.same (by omega) ?_; refine ax_cons ?_; refine ex_call hF c.things (by omega) ?_; refine ax_cons ?_; refine ex_var hF 9 rfl ?_; refine ax_nil ?_
  refine ⟨s, z, rfl, zs, ax_cons <| ex_var hF 12 rfl <| ax_nil <| same5 (by rfl) ⟨_, rfl, (fun z => nomatch z), fun _ => ?_⟩⟩
  refine wx_or1 ?_; refine tx_not ?_; refine tx_eqO hF c.eqC (by omega) ?_; refine ex_var hF 8 rfl ?_; refine ex_var hF 9 rfl ?_; refine ask_eq c ?_
  refine ⟨_, rfl, ?_⟩
  rw [decide_eq_true rfl, decide_eq_true rfl]
  refine ⟨(fun z => nomatch z), fun _ => ssx_nil ?_⟩
  refine ssx_cons ?_; refine sx_if ?_; refine WWX.tx ?_; refine wx_or ?_; refine tx_ne hF ?_; refine ex_eqO hF c.eqC (by omega) ?_; refine ex_var hF 8 rfl ?_; refine ex_var hF 10 rfl ?_; refine ask_eq c ?_
  refine ex_eq hF ?_; refine ex_var hF 5 rfl ?_; refine ex_var hF 6 rfl ?_
  refine ⟨decide (z = w'), eqD_pair _ _, ?_⟩
  rw [decide_eq_true (p := s = s) rfl, Bool.true_and]
  refine ⟨_, rfl, _, rfl, (fun z => absurd z (by simp)), fun _ => ?_⟩
  refine wx_or ?_; refine tx_eqO hF c.eqC (by omega) ?_; refine ex_var hF 8 rfl ?_; refine ex_var hF 5 rfl ?_; refine ask_ne c (t := .tup) rfl ?_
  refine ⟨_, rfl, (fun z => nomatch z), fun _ => ?_⟩
  refine wx_or1 ?_; refine tx_eqO hF c.eqC (by omega) ?_; refine ex_var hF 8 rfl ?_; refine ex_var hF 11 rfl ?_; refine ask_ne c (t := .str) rfl ?_
  refine ⟨_, rfl, (fun z => nomatch z), fun _ => ssx_nil ?_⟩
  have rest : SSX T ((defBody sLaw).drop 12) (gL a0 (some (.ref b)) (some (.str (shp s))) (some (pD p)) (some (pD r)) (some (pD z)) (some (pD w')) a7 (some (leafD CL s z)) (some (leafD CL s z)) (some (leafD CL s w')) (some (.str (S (textL s z)))) (some (.lst [.str (shp s), pD z, .int (size6 s z), .str (S (textL s z))])) (some (.str (shp (!s)))) a14 a15 a16 a17 a18) M ⟨fun _ M' => Φ .non M', Φ, fun _ _ => False, fun _ _ => False, fun _ => Ψ⟩ := by
    refine ssx_cons ?_; refine sx_if ?_; refine WWX.tx ?_; refine wx_or ?_; refine tx_eqO hF c.eqC (by omega) ?_; refine ex_var hF 8 rfl ?_; refine ex_make hF c.leafC hj ?_; refine ax_cons ?_; refine ex_var hF 13 rfl ?_; refine ax_cons ?_; refine ex_var hF 5 rfl ?_; refine ax_nil ?_; refine mk_good true okz ?_; refine ask_eq c ?_
    refine ⟨_, rfl, ?_⟩
    rw [decide_eq_false (p := s = !s) (by cases s <;> decide), Bool.false_and]
    refine ⟨(fun z => nomatch z), fun _ => ?_⟩
    refine wx_or1 ?_; refine tx_ne hF ?_; refine ex_fld hF c.fld ?_; refine ex_make hF c.leafC hj ?_; refine ax_cons ?_; refine ex_var hF 13 rfl ?_; refine ax_cons ?_; refine ex_var hF 5 rfl ?_; refine ax_nil ?_; refine mk_good true okz ?_
    refine ⟨rfl, _, rfl, ex_var hF 13 rfl ⟨_, rfl, _, rfl, ?_⟩⟩
    rw [decide_eq_true rfl]
    refine ⟨(fun z => nomatch z), fun _ => ssx_nil ?_⟩
    exact law_mid hh c hj gS hD hb hp hp0 hz hz0 e1 e2 q
  refine ssx_cons ?_; refine sx_set hD 13 ?_; refine ex_if ?_; refine tx_eq hF ?_; refine ex_var hF 2 rfl ?_; refine ex_str ?_
  refine ⟨_, rfl, fun h => ex_str ?_, fun h => ex_str ?_⟩
  · have h := of_decide_eq_true h
    have hs : s = true := by cases s <;> first | rfl | exact absurd h (by decide)
    subst hs
    exact rest
  · have h := of_decide_eq_false h
    have hs : s = false := by cases s <;> first | rfl | exact absurd rfl h
    subst hs
    exact rest
theorem b_law (hD : Fd T k P w K mg base nLaw (defScope sLaw)) (h : dsLaw args M Φ Ψ) : Bod T sLaw nLaw args M Φ Ψ := by
  obtain ⟨ns, rfl, q⟩ := h
  have hF := hD.fc
  refine ssx_cons ?_; refine sx_set hD 1 ?_; refine ex_call hF c.bag (by omega) ?_; refine ax_cons ?_; refine ex_var hF 0 rfl ?_; refine ax_nil ?_
  refine ⟨ns, rfl, fun b o hb0 hb => ?_⟩
  generalize um M b o = M1 at hb ⊢
  refine ssx_cons ?_; refine sx_set hD 2 ?_; refine ex_call hF c.of (by omega) ?_; refine ax_cons ?_; refine ex_var hF 1 rfl ?_; refine ax_cons ?_; refine ex_lst ?_; refine ax_cons ?_; refine ex_str ?_; refine ax_cons ?_; refine ex_str ?_; refine ax_nil ?_
  refine ⟨sz 2, ax_nil ⟨b, _, rfl, by simp, by simp, hb, fun d o hd hb => ?_⟩⟩
  obtain ⟨s, rfl⟩ : ∃ s, d = .str (shp s) := by
    simp at hd
    rcases hd with rfl | rfl
    · exact ⟨false, rfl⟩
    · exact ⟨true, rfl⟩
  generalize um M1 b o = M2 at hb ⊢
  refine ssx_cons ?_; refine sx_par hD 3 4 ?_; refine ax_cons ?_; refine ex_call hF c.pair (by omega) ?_; refine ax_cons ?_; refine ex_var hF 1 rfl ?_; refine ax_nil ?_
  refine ⟨b, rfl, hb, fun p o hp hp0 hb => ?_⟩
  generalize um M2 b o = M3 at hb ⊢
  refine ax_cons ?_; refine ex_call hF c.pair (by omega) ?_; refine ax_cons ?_; refine ex_var hF 1 rfl ?_; refine ax_nil ?_
  refine ⟨b, rfl, hb, fun r o hr hr0 hb => ax_nil ⟨_, _, rfl, ?_⟩⟩
  generalize um M3 b o = M4 at hb ⊢
  have pn := p300_sn hp
  have rn := p300_sn hr
  refine ssx_cons ?_; refine sx_par hD 5 6 ?_; refine ax_cons ?_; refine ex_call hF c.name (by omega) ?_; refine ax_cons ?_; refine ex_var hF 2 rfl ?_; refine ax_cons ?_; refine ex_var hF 3 rfl ?_; refine ax_nil ?_
  refine ⟨s, p, rfl, pn.1, pn.2, hp0, ?_⟩
  refine ax_cons ?_; refine ex_call hF c.name (by omega) ?_; refine ax_cons ?_; refine ex_var hF 2 rfl ?_; refine ax_cons ?_; refine ex_var hF 4 rfl ?_; refine ax_nil ?_
  refine ⟨s, r, rfl, rn.1, rn.2, hr0, ax_nil ⟨_, _, rfl, ?_⟩⟩
  obtain ⟨hz, hz0⟩ := name_small (s := s) hp hp0
  have nb : ∀ x, bentP s (leafName s p) x → LeafOk x ∧ leafName s x = leafName s p := fun x hx => name_bent hp hp0 hx
  generalize ez : leafName s p = z at hz hz0 nb ⊢
  have e2 : leafName s z = z := by
    refine (nb z ⟨(1, 0), by cases s <;> simp [unitsOf], false, 1, by simp, ?_⟩).2
    show z = (1 * (mul6 s z (1, 0)).1, 1 * (mul6 s z (1, 0)).2)
    obtain ⟨x, y⟩ := z
    cases s <;> simp [mul6]
  have zs := z5_smP hz
  refine ssx_cons ?_; refine sx_set hD 7 ?_; refine ex_lstM ?_; refine ax_cons ?_; refine ex_ix hF ?_; refine ex_var hF 3 rfl ?_; refine ex_int ?_
  refine ⟨_, rfl, ?_⟩
  refine ax_cons ?_; refine ex_ix hF ?_; refine ex_var hF 3 rfl ?_; refine ex_int ?_
  refine ⟨_, rfl, ax_nil ⟨sz 2, fun h hh0 => ?_⟩⟩
  have hbh : b ≠ h := fun z => by
    obtain ⟨_, _, _, _, _, hb1, _⟩ := hb
    rw [z, hh0] at hb1; cases hb1
  have hb : Bag (um M4 h (.lst [.int p.1, .int p.2])) b := by
    obtain ⟨cs, i, v, m, cc, hb1, hb2⟩ := hb
    exact ⟨cs, i, v, m, cc, by rw [um_ne hbh]; exact hb1, hb2⟩
  have hm : (um M4 h (.lst [.int p.1, .int p.2])) h = some (.lst [.int p.1, .int p.2]) := um_same
  generalize um M4 h (.lst [.int p.1, .int p.2]) = M5 at hb hm ⊢
  have hne : ¬ (p.1 = 0 ∧ p.2 = 0) := fun z => hp0 (Prod.ext z.1 z.2)
  refine ssx_cons ?_; refine sx_par3 hD 8 9 10 ?_; refine ax_cons ?_; refine ex_make hF c.leafC hj ?_; refine ax_cons ?_; refine ex_var hF 2 rfl ?_; refine ax_cons ?_; refine ex_var hF 7 rfl ?_; refine ax_nil ?_; refine mk_mut hm hne pn.1 pn.2 ?_
  refine ax_cons ?_; refine ex_call hF c.leaf (by omega) ?_; refine ax_cons ?_; refine ex_var hF 1 rfl ?_; refine ax_cons ?_; refine ex_var hF 2 rfl ?_; refine ax_cons ?_; refine ex_var hF 5 rfl ?_; refine ax_nil ?_
  refine ⟨b, s, z, rfl, hz, fun x hx => (nb x hx).1, hb, fun x o hx hb => ?_⟩
  have hm : (um M5 b o) h = some (.lst [.int p.1, .int p.2]) := by rw [um_ne (Ne.symm hbh)]; exact hm
  generalize um M5 b o = M6 at hb hm ⊢
  rw [(nb x hx).2]
  have okr : LeafOk r := ⟨hr0, rn⟩
  refine ax_cons ?_; refine ex_makeK hF c.leafC hj ?_; refine kax_cons ?_; refine ex_var hF 2 rfl ?_; refine kax_cons ?_; refine ex_var hF 4 rfl ?_; refine kax_nil ?_; refine mk_good true okr ?_
  refine ax_nil ⟨_, _, _, rfl, ?_⟩
  have ez' : leafName s (p.1, p.2) = z := ez
  rw [ez']
  refine ssx_cons ?_; refine sx_sub ?_; refine ex_int ?_; refine ex_var hF 7 rfl ?_; refine ex_int ?_
  refine ⟨_, _, hm, rfl, ?_⟩
  have hb : Bag (um M6 h (.lst [.int 0, .int p.2])) b := by
    obtain ⟨cs, i, v, m, cc, hb1, hb2⟩ := hb
    exact ⟨cs, i, v, m, cc, by rw [um_ne hbh]; exact hb1, hb2⟩
  show SSX T _ _ (um M6 h (.lst [.int 0, .int p.2])) _
  generalize um M6 h (.lst [.int 0, .int p.2]) = M7 at hb ⊢
  refine ssx_cons ?_; refine sx_set hD 11 ?_
  refine ex_text hF gS 2 5 rfl rfl zs ?_ rfl (.inl rfl) (by decide) (by decide) rfl (.inl rfl) (by decide) (by decide) rfl
  refine ssx_cons ?_; refine sx_set hD 12 ?_; refine ex_lst ?_; refine ax_cons ?_; refine ex_var hF 2 rfl ?_; refine ax_cons ?_; refine ex_var hF 5 rfl ?_; refine ax_cons ?_; refine ex_call hF c.size (by omega) ?_; refine ax_cons ?_; refine ex_var hF 2 rfl ?_; refine ax_cons ?_; refine ex_var hF 5 rfl ?_; refine ax_nil ?_
  refine ⟨s, z, rfl, zs, ?_⟩
  refine ax_cons ?_; refine ex_var hF 11 rfl ?_; refine ax_nil ?_
  refine ⟨sz 4, ?_⟩
  exact law_top hh c hj gS hD hb hp hp0 hz hz0 ez e2 q
end
end
end K83
set_option Elab.async false
set_option linter.all false
set_option maxRecDepth 100000
set_option maxHeartbeats 1000000
set_option pp.maxSteps 1200
/-! GHead: the head's Hook: defs by paths, any Booleans of the fragment. -/
namespace G
open PySem PySem.Spec PyProof.Rows L2 He
structure DefA where
  at_ : PySem.W.Frag → Addr
  name : Str
  qual : Str
  params : Arguments
  body : List Stmt
  scope : Scope
def fnA (K : PySem.W.Frag) (a : Addr) : FnW := match K.lookup a with
  | some ⟨_, _, .func fd, _⟩ => some (fd.name, fd.qualname, fd.params, fd.body, fd.scope, fd.globals, fd.closure, fd.builtins)
  | _ => none
def DefA.val (d : DefA) : FnW := some (d.name, d.qual, d.params, .stmts d.body, d.scope, mainGlobals, [], builtinsNs)
def DefA.ok (K : PySem.W.Frag) (d : DefA) : Bool := PySem.W.keepIn K (.ref (d.at_ K)) && (match K.lookup (d.at_ K) with
  | some ⟨_, _, .func fd, _⟩ => PySem.W.codeIn K fd.code d.qual && (dflB K fd.defaults [] && kwdB K fd.kwdefaults [])
  | _ => false)
theorem DefA.funD {K : PySem.W.Frag} {d : DefA} (e : fnA K (d.at_ K) = d.val) (c : d.ok K = true) : ∃ fd, FunD K d.name d.qual d.params d.body d.scope [] [] (d.at_ K) fd := by
  obtain ⟨kp, c2⟩ := ba c
  unfold fnA at e
  cases q : K.lookup (d.at_ K) with
  | none =>
    rw [q] at c2
    cases c2
  | some o =>
    obtain ⟨oc, od, dt, osl⟩ := o
    rw [q] at c2 e
    cases dt with
    | func fd =>
      obtain ⟨n1, n2, n3, n4, n5, n6, n7, n8, n9, n10, n11, n12, n13, n14, n15⟩ := fd
      have e2 : (some (n1, n2, n3, n4, n5, n6, n7, n15) : FnW) = some (d.name, d.qual, d.params, .stmts d.body, d.scope, mainGlobals, [], builtinsNs) := e
      simp only [Option.some.injEq, Prod.mk.injEq] at e2
      obtain ⟨h1, h2, h3, h4, h5, h6, h7, h8⟩ := e2
      subst h1 h2 h3 h4 h5 h6 h7 h8
      have c3 : (PySem.W.codeIn K n13 d.qual && (dflB K n8 [] && kwdB K n9 [])) = true := c2
      obtain ⟨k1, k2⟩ := ba c3
      obtain ⟨k3, k4⟩ := ba k2
      exact ⟨_, ⟨oc, od, n8, n9, n10, n11, n12, n13, n14, osl, rfl, q, k1, dflB_ok k3, kwdB_ok k4⟩, kp⟩
    | _ => cases c2
abbrev FaB : Type := PySem.W.Frag → Bool
def obsA (fa : List FaB) (fn : List DefA) (K : PySem.W.Frag) : AlD := ((fa.all fun f => f K) && fn.all fun d => d.ok K, fn.map fun d => fnA K (d.at_ K))
def valA (fn : List DefA) : AlD := (true, fn.map DefA.val)
def SaysA (fa : List FaB) (fn : List DefA) (K : PySem.W.Frag) : Prop := obsA fa fn K = valA fn
def obsAG (n : Nat) (fa : List FaB) (fn : List DefA) (g : Addr → Option Obj) : AlD := obsA fa fn (frG g (cStatics :: asD g n))
def hookA (n : Nat) (fa : List FaB) (fn : List DefA) : PySem.W.Hook where
  α := AlD
  obs := fun s => obsAG n fa fn s.heap.get?
  val := fun _ => valA fn
  says := fun _ h => ∃ K : PySem.W.Frag, K.In h ∧ SaysA fa fn K
  of := fun _ _ e => ⟨_, frG_in, e⟩
  keeps := fun _ _ _ ⟨K, hK, c⟩ k => ⟨K, PySem.W.Frag.In.keeps hK k, c⟩
theorem obsAG_eq {n : Nat} {fa : List FaB} {fn : List DefA} {g : Addr → Option Obj} {s : Shared} (h : ∀ a, g a = s.heap.get? a) : obsAG n fa fn g = (hookA n fa fn).obs s := by
  have e : g = s.heap.get? := funext h
  rw [e] <;> rfl
section
variable {fa : List FaB} {fn : List DefA} {K : PySem.W.Frag}
theorem SaysA.all (c : SaysA fa fn K) : ∀ f ∈ fa, f K = true := by
  have c1 := (ba (show ((fa.all fun f => f K) && fn.all fun d => d.ok K) = true from congrArg (fun z : AlD => z.1) c)).1
  exact List.all_eq_true.mp c1
theorem SaysA.fact (c : SaysA fa fn K) (i : Nat) {f : FaB} (h : fa[i]? = some f := by rfl) : f K = true := c.all f (List.mem_of_getElem? h)
theorem SaysA.def_ (c : SaysA fa fn K) (i : Nat) {d : DefA} (h : fn[i]? = some d := by rfl) : ∃ fd, FunD K d.name d.qual d.params d.body d.scope [] [] (d.at_ K) fd := by
  have c2 := (ba (show ((fa.all fun f => f K) && fn.all fun d => d.ok K) = true from congrArg (fun z : AlD => z.1) c)).2
  have e : fn.map (fun d => fnA K (d.at_ K)) = fn.map DefA.val := congrArg (fun z : AlD => z.2) c
  have e2 : (fn.map fun d => fnA K (d.at_ K))[i]? = (fn.map DefA.val)[i]? := by rw [e]
  rw [List.getElem?_map, List.getElem?_map, h] at e2
  exact DefA.funD (Option.some.inj e2) (List.all_eq_true.mp c2 d (List.mem_of_getElem? h))
end
/-! ### a datum in the text -/
mutual
def datB (K : PySem.W.Frag) : D → Value → Bool
  | .bl b, .bool c => b == c
  | .int i, .int j _ => decide (i = j)
  | .str x, .str y _ => decide (x = y)
  | .tup ds, .ref a => (match K.lookup a with
    | some ⟨.type c, _, .seq its _, _⟩ => decide (c = "tuple") && (decide (its.size ≤ sizeLine) && datsB K ds its.toList)
    | _ => false)
  | _, _ => false
def datsB (K : PySem.W.Frag) : List D → List Value → Bool
  | [], [] => true
  | d :: ds, u :: us => datB K d u && datsB K ds us
  | _, _ => false
end
mutual
theorem datB_ok {K : PySem.W.Frag} : ∀ (d : D) (u : Value), datB K d u = true → ∃ v, RelV v u ∧ ∀ F, Rep K F d v
  | .bl b, u, h => by
    cases u with
    | bool c =>
      have h1 : (b == c) = true := h
      exact ⟨.bl b, by rw [eq_of_beq h1]; rfl, fun _ => rfl⟩
    | _ => cases h
  | .int i, u, h => by
    cases u with
    | int j t =>
      have e : i = j := of_decide_eq_true h
      exact ⟨.int i, ⟨t, by rw [e]⟩, fun _ => rfl⟩
    | _ => cases h
  | .str x, u, h => by
    cases u with
    | str y t =>
      have e : x = y := of_decide_eq_true h
      exact ⟨.str x, ⟨t, by rw [e]⟩, fun _ => rfl⟩
    | _ => cases h
  | .tup ds, u, h => by
    cases u with
    | ref a =>
      have h1 : (match K.lookup a with
        | some ⟨.type c, _, .seq its _, _⟩ => decide (c = "tuple") && (decide (its.size ≤ sizeLine) && datsB K ds its.toList)
        | _ => false) = true := h
      cases q : K.lookup a with
      | none =>
        rw [q] at h1
        cases h1
      | some o =>
        obtain ⟨oc, od, dt, osl⟩ := o
        rw [q] at h1
        cases oc with
        | type c =>
          cases dt with
          | seq its n =>
            obtain ⟨h2, h3⟩ := ba (show (decide (c = "tuple") && (decide (its.size ≤ sizeLine) && datsB K ds its.toList)) = true from h1)
            obtain ⟨h4, h5⟩ := ba h3
            obtain ⟨vs, h6, h7⟩ := datsB_ok ds its.toList h5
            exact ⟨.ref a, rfl, fun F => ⟨a, vs, rfl, .inr ⟨_, its, n, q, congrArg Value.type (of_decide_eq_true h2), rfl, of_decide_eq_true h4, h6⟩, h7 F⟩⟩
          | _ => cases h1
        | _ => cases dt <;> cases h1
    | _ => cases h
  | .non, u, h => by cases u <;> cases h
  | .ref _, u, h => by cases u <;> cases h
  | .ty _, u, h => by cases u <;> cases h
  | .lst _, u, h => by cases u <;> cases h
  | .rol _, u, h => by cases u <;> cases h
  | .ins _ _ _, u, h => by cases u <;> cases h
  | .dic _ _, u, h => by cases u <;> cases h
  | .exn _ _ _, u, h => by cases u <;> cases h
theorem datsB_ok {K : PySem.W.Frag} : ∀ (ds : List D) (us : List Value), datsB K ds us = true → ∃ vs, Vals vs us ∧ ∀ F, Reps K F ds vs
  | [], us, h => by
    cases us with
    | nil => exact ⟨[], .nil, fun _ => rfl⟩
    | cons _ _ => cases h
  | d :: ds, us, h => by
    cases us with
    | nil => cases h
    | cons u us =>
      obtain ⟨h1, h2⟩ := ba (show (datB K d u && datsB K ds us) = true from h)
      obtain ⟨v, r, e⟩ := datB_ok d u h1
      obtain ⟨vs, rs, es⟩ := datsB_ok ds us h2
      exact ⟨v :: vs, .cons r rs, fun F => ⟨v, vs, rfl, e F, es F⟩⟩
end
/-! ### facts by Booleans -/
def gvB (x : Str) (d : D) : FaB := fun K => match PySem.W.nsIn K mainGlobals x with
  | some (some u) => datB K d u
  | _ => false
def biB (x : Str) (id : String) : FaB := fun K => eqO (PySem.W.nsIn K mainGlobals x) (some (some (.builtin id)))
def faB (f : Fa) : FaB := fun K => f.ok K
section
variable {K : PySem.W.Frag} {h : Heap} {mg : Str → Option Value}
theorem gv_ok (X : K.In h) (G : h.Ns mainGlobals mg) {x : Str} {d : D} (c : gvB x d K = true) : Gv K mg x d := by
  unfold gvB at c
  cases e : PySem.W.nsIn K mainGlobals x with
  | none =>
    rw [e] at c
    cases c
  | some o =>
    rw [e] at c
    cases o with
    | none => cases c
    | some u =>
      obtain ⟨v, r, q⟩ := datB_ok d u c
      exact ⟨v, u, PySem.W.mg_of X G e, r, q⟩
theorem bi_ok (X : K.In h) (G : h.Ns mainGlobals mg) {x : Str} {id : String} (c : biB x id K = true) : mg x = some (.builtin id) := PySem.W.mg_of X G (eqO_ok c)
end
/-- an own exception class over ValueError -/
def oexB (K : PySem.W.Frag) (C : Addr) : Bool := (match K.lookup C with
  | some ⟨.type t, _, .cls cd, sl⟩ => (match cd.mro, sl.toList with
    | .ref C' :: bm, [_, _, _, _, some (.builtin n), _] => decide (t = "type") && (decide (C' = C) && (decide (n = "ValueError.__new__") && (!cd.hasDel && (cd.hasDict && PySem.HandSPX.refsVE bm))))
    | _, _ => false)
  | _ => false) && (eqO (PySem.W.findIn K (.ref C) "__setattr__") (some (some (.builtin "object.__setattr__"))) && (decide (PySem.W.subIn K (.ref C) (.type "BaseException") = some true) && (decide (PySem.W.typeIn K (.ref C) = some (.type "type")) && PySem.W.keepIn K (.ref C))))
theorem oex_ok {K : PySem.W.Frag} {C : Addr} (c : oexB K C = true) : OexC K C := by
  obtain ⟨c0, c⟩ := ba c
  obtain ⟨c1, c⟩ := ba c
  obtain ⟨c2, c⟩ := ba c
  obtain ⟨c3, c4⟩ := ba c
  refine ⟨?_, eqO_ok c1, of_decide_eq_true c2, of_decide_eq_true c3, c4⟩
  split at c0
  · rename_i t dd cd sl ho
    split at c0
    · rename_i C' bm k0 k1 k2 k3 n k5 hm hs
      obtain ⟨e1, c0⟩ := ba c0
      obtain ⟨e2, c0⟩ := ba c0
      obtain ⟨e3, c0⟩ := ba c0
      obtain ⟨e4, c0⟩ := ba c0
      obtain ⟨e5, e6⟩ := ba c0
      have e1 := of_decide_eq_true e1
      have e2 := of_decide_eq_true e2
      have e3 := of_decide_eq_true e3
      obtain ⟨nm, bs, mro, ns, qn, hd, sn, sub, ab, col, del⟩ := cd
      dsimp only at hm e4 e5
      have e4 : del = false := by cases del <;> first | rfl | cases e4
      subst hm e1 e2 e3 e4 e5
      have hsl : sl = #[k0, k1, k2, k3, some (.builtin "ValueError.__new__"), k5] := by
        obtain ⟨l⟩ := sl
        simp only at hs
        rw [hs]
      subst hsl
      exact ⟨nm, qn, ns, bs, bm, sn, sub, ab, col, dd, k0, k1, k2, k3, k5, ho, e6⟩
    · cases c0
  · cases c0
/-- what a caught error's class must say -/
def excB (K : PySem.W.Frag) (C : Addr) : Bool := xfB K C && (eqO (PySem.W.findIn K (.ref C) "__class__") (some (some (.builtin "object.__class__"))) && (eqO (PySem.W.specialIn K (.builtin "object.__class__") "__get__") (some (some (.builtin "getset_descriptor.__get__"))) && (decide (PySem.W.takesIn K (.builtin "object.__class__") = some true) && decide (PySem.W.mroIn K C (.type "object") = some true))))
theorem exc_ok {K : PySem.W.Frag} {C : Addr} (c : excB K C = true) : ExcC K C := by
  obtain ⟨c0, c⟩ := ba c
  obtain ⟨c1, c⟩ := ba c
  obtain ⟨c2, c⟩ := ba c
  obtain ⟨c3, c4⟩ := ba c
  have x := xfB_ok c0
  exact ⟨x.ga, x.gg, x.exC, x.hdC, eqO_ok c1, eqO_ok c2, of_decide_eq_true c3, of_decide_eq_true c4⟩
def ownB (K : PySem.W.Frag) (C : Addr) : Bool := eqO (PySem.W.findIn K (.ref C) "__class__") (some (some (.builtin "object.__class__"))) && (eqO (PySem.W.specialIn K (.builtin "object.__class__") "__get__") (some (some (.builtin "getset_descriptor.__get__"))) && (decide (PySem.W.takesIn K (.builtin "object.__class__") = some true) && decide (PySem.W.mroIn K C (.type "object") = some true)))
theorem own_ok {K : PySem.W.Frag} {C : Addr} (k : Cls K C) (c : ownB K C = true) : OwnF K C := by
  obtain ⟨c1, c⟩ := ba c
  obtain ⟨c2, c⟩ := ba c
  obtain ⟨c3, c4⟩ := ba c
  exact ⟨k, eqO_ok c1, eqO_ok c2, of_decide_eq_true c3, of_decide_eq_true c4⟩
/-- a staticmethod's def, a property's -/
def recA (K : PySem.W.Frag) (p : Addr) (k : String) : Addr := match PySem.W.recIn K p k with
  | some (.ref g :: _) => g
  | _ => 0
def stR (K : PySem.W.Frag) (C : Addr) (m : Str) : Addr := match PySem.W.findCls K (.ref C) (.type "type") m with
  | some (.get _ (.ref p) _ _) => p
  | _ => 0
def stA (K : PySem.W.Frag) (C : Addr) (m : Str) : Addr := recA K (stR K C m) "staticmethod"
def prA (K : PySem.W.Frag) (C : Addr) (m : Str) : Addr := recA K (ma K C m) "property"
def recB (K : PySem.W.Frag) (p : Addr) (k : String) : Bool := match PySem.W.recIn K p k with
  | some (.ref _ :: _) => true
  | _ => false
theorem rec_ok {K : PySem.W.Frag} {p : Addr} {k : String} (c : recB K p k = true) : ∃ rest, PySem.W.recIn K p k = some (.ref (recA K p k) :: rest) := by
  unfold recB at c
  unfold recA
  split at c
  · rename_i g r e
    rw [e]
    exact ⟨r, rfl⟩
  · cases c
def staB (K : PySem.W.Frag) (C : Addr) (m : Str) : Bool := PySem.W.readsIn K C (.type "type") && (eqO (PySem.W.specialIn K (.ref C) "__getattribute__") (some (some (.builtin "type.__getattribute__"))) && ((match PySem.W.findCls K (.ref C) (.type "type") m with
  | some (.get (.builtin g) (.ref p) .none (.ref C')) => decide (g = "staticmethod.__get__") && (decide (p = stR K C m) && decide (C' = C))
  | _ => false) && (recB K (stR K C m) "staticmethod" && PySem.W.keepIn K (.ref (stA K C m)))))
theorem sta_ok {K : PySem.W.Frag} {C : Addr} {m : Str} (c : staB K C m = true) : StatM K C m (stA K C m) := by
  obtain ⟨c1, c⟩ := ba c
  obtain ⟨c2, c⟩ := ba c
  obtain ⟨c3, c⟩ := ba c
  obtain ⟨c4, c5⟩ := ba c
  obtain ⟨rest, e⟩ := rec_ok c4
  refine ⟨⟨c1, eqO_ok c2⟩, ⟨stR K C m, rest, ?_, e⟩, c5⟩
  split at c3
  · rename_i g p C' q
    obtain ⟨a1, c3⟩ := ba c3
    obtain ⟨a2, a3⟩ := ba c3
    rw [q, of_decide_eq_true a1, ← of_decide_eq_true a2, of_decide_eq_true a3]
  · cases c3
def proB (K : PySem.W.Frag) (C : Addr) (m : Str) : Bool := eqO (PySem.W.findIn K (.ref C) m) (some (some (.ref (ma K C m)))) && (eqO (PySem.W.specialIn K (.ref (ma K C m)) "__get__") (some (some (.builtin "property.__get__"))) && (decide (PySem.W.takesIn K (.ref (ma K C m)) = some true) && recB K (ma K C m) "property"))
theorem pro_ok {K : PySem.W.Frag} {C : Addr} {m : Str} (c : proB K C m = true) : PropOf K C m (ma K C m) (prA K C m) := by
  obtain ⟨c1, c⟩ := ba c
  obtain ⟨c2, c⟩ := ba c
  obtain ⟨c3, c4⟩ := ba c
  exact ⟨eqO_ok c1, eqO_ok c2, of_decide_eq_true c3, rec_ok c4⟩
/-! ### more room -/
section
variable {hot : Bool} {P : Program} {w : World} {K : PySem.W.Frag} {mg : Str → Option Value} {base : Heap} {x m : Str} {C : Addr} {j j' : Nat} {ps : List Str} {ds : DS}
theorem FnM.mono {f : Addr} {fd : FuncData} {sp : Sp} (F : FnM hot P w K mg base j f fd ps sp) (h : j ≤ j') : FnM hot P w K mg base j' f fd ps sp := ⟨F.len, fun A fr s H ar us vs Q E hr => F.run A fr s H ar us vs Q E (hr.mono h)⟩
theorem Cal.mono (c : Cal hot P w K mg base x j ps ds) (h : j ≤ j') : Cal hot P w K mg base x j' ps ds := by
  obtain ⟨f, fd, F, r⟩ := c
  exact ⟨f, fd, F.mono h, r⟩
theorem MkC.mono (c : MkC hot P w K mg base x C j ps ds) (h : j ≤ j') : MkC hot P w K mg base x C j' ps ds := by
  obtain ⟨f, fd, F, r⟩ := c
  exact ⟨f, fd, F.mono h, r⟩
theorem EqC.mono (c : EqC hot P w K mg base C j ps ds) (h : j ≤ j') : EqC hot P w K mg base C j' ps ds := by
  obtain ⟨f, fd, F, r⟩ := c
  exact ⟨f, fd, F.mono h, r⟩
end
end G
set_option Elab.async false
set_option linter.all false
set_option maxRecDepth 100000
set_option maxHeartbeats 1000000
set_option pp.maxSteps 1200
/-! K83W: the module's facts, the callees. -/
namespace K83
open PySem PySem.Spec PyProof.Rows L2 G He
abbrev sBadKind : Stmt := inClass (top 3) 0
abbrev sBadPair : Stmt := inClass (top 4) 0
abbrev sBadLeaf : Stmt := inClass (top 5) 0
def dG (x : Str) (st : Stmt) : DefA := ⟨fun K => ga K x, x, x, defArgs st, defBody st, defScope st⟩
def dM (at_ : PySem.W.Frag → Addr) (x q : Str) (st : Stmt) : DefA := ⟨at_, x, q, defArgs st, defBody st, defScope st⟩
def eks : List Ek := [.k, .p, .f]
theorem eks_all (x : Ek) : x ∈ eks := by cases x <;> simp [eks]
def bts : List Bt := [.non, .bl, .int, .str, .lst, .tup, .dic]
theorem bts_all (x : Bt) : x ∈ bts := by cases x <;> simp [bts]
def fa0 : List FaB := [faB (.free "isinstance"),
  faB (.free "int"),
  faB (.free "bool"),
  faB (.free "list"),
  faB (.free "tuple"),
  faB (.free "str"),
  faB (.free "len"),
  faB (.free "all"),
  faB (.free "abs"),
  faB (.free "zip"),
  faB (.free "max"),
  faB (.free "ValueError"),
  faB (.glo "size_of"),
  faB (.glo "multiplied"),
  faB (.glo "mirrored"),
  faB (.glo "divided"),
  faB (.glo "leaf_name"),
  faB (.glo "is_integer_word"),
  faB (.glo "is_number"),
  faB (.glo "is_pair"),
  faB (.glo "check_shape"),
  faB (.glo "_law_bag"),
  faB (.glo "_law_draw"),
  faB (.glo "_law_of"),
  faB (.glo "_law_gcd"),
  faB (.glo "_law_pair_mul"),
  faB (.glo "_law_pair_size"),
  faB (.glo "_law_mirror"),
  faB (.glo "_law_units"),
  faB (.glo "_law_leaf_name")]
def fa1 : List FaB := [faB (.glo "_law_pair"),
  faB (.glo "_law_bent_pair"),
  faB (.glo "_law_fault"),
  faB (.glo "_law_due"),
  faB (.glo "_law_bent_text"),
  faB (.glo "_law_leaf"),
  faB (.glo "_law_made"),
  faB (.glo "_law_read"),
  faB (.glo "_law_things"),
  faB (.glo "_law_same"),
  faB (.glo "law"),
  faB (.glo "Leaf"),
  faB (.glo "BadKind"),
  faB (.glo "BadPair"),
  faB (.glo "BadLeaf"),
  faB (.glo "SitesError"),
  biB "gcd" "math.gcd",
  gvB "SQUARE" (.str "square"),
  gvB "DIGITS" (.str "0123456789"),
  gvB "MOST_DIGITS" (.int 40),
  gvB "SHAPES" (.tup [.str "square", .str "six"]),
  gvB "SQUARE_UNITS" (.tup ((unitsOf false).map pD)),
  gvB "SIX_UNITS" (.tup ((unitsOf true).map pD)),
  fun K => oexB K (ga K "BadKind"),
  fun K => eqO (PySem.W.findIn K (.ref (ga K "BadKind")) "__init__") (some (some (.ref (ma K (ga K "BadKind") "__init__")))) && decide (PySem.W.typeIn K (.ref (ma K (ga K "BadKind") "__init__")) = some (.type "function")),
  fun K => (["value", "code"] : List Str).all fun f => eqO (PySem.W.findIn K (.ref (ga K "BadKind")) f) (some none),
  fun K => excB K (ga K "BadKind"),
  fun K => xfB K (ga K "BadKind"),
  fun K => oexB K (ga K "BadPair"),
  fun K => eqO (PySem.W.findIn K (.ref (ga K "BadPair")) "__init__") (some (some (.ref (ma K (ga K "BadPair") "__init__")))) && decide (PySem.W.typeIn K (.ref (ma K (ga K "BadPair") "__init__")) = some (.type "function"))]
def fa2 : List FaB := [fun K => (["value", "code"] : List Str).all fun f => eqO (PySem.W.findIn K (.ref (ga K "BadPair")) f) (some none),
  fun K => excB K (ga K "BadPair"),
  fun K => xfB K (ga K "BadPair"),
  fun K => oexB K (ga K "BadLeaf"),
  fun K => eqO (PySem.W.findIn K (.ref (ga K "BadLeaf")) "__init__") (some (some (.ref (ma K (ga K "BadLeaf") "__init__")))) && decide (PySem.W.typeIn K (.ref (ma K (ga K "BadLeaf") "__init__")) = some (.type "function")),
  fun K => (["value", "code"] : List Str).all fun f => eqO (PySem.W.findIn K (.ref (ga K "BadLeaf")) f) (some none),
  fun K => excB K (ga K "BadLeaf"),
  fun K => xfB K (ga K "BadLeaf"),
  fun K => eks.all fun x => eks.all fun y => decide (PySem.W.kitOne K (.ref (x.at (ga K "BadKind") (ga K "BadPair") (ga K "BadLeaf"))) (.ref (y.at (ga K "BadKind") (ga K "BadPair") (ga K "BadLeaf"))) = some (decide (x = y))),
  fun K => eks.all fun x => decide (PySem.W.kitOne K (.ref (x.at (ga K "BadKind") (ga K "BadPair") (ga K "BadLeaf"))) (.ref (ga K "SitesError")) = some true),
  fun K => eks.all fun x => decide (PySem.W.kitOne K (.ref (x.at (ga K "BadKind") (ga K "BadPair") (ga K "BadLeaf"))) (.type "ValueError") = some true),
  fun K => eks.all fun x => decide (PySem.W.exmAny K (.ref (x.at (ga K "BadKind") (ga K "BadPair") (ga K "BadLeaf"))) [.ref (ga K "BadKind"), .ref (ga K "BadPair"), .ref (ga K "BadLeaf")] = some true),
  faB (.cls "Leaf"),
  fun K => lNs.all fun f => eqO (PySem.W.findIn K (.ref (ga K "Leaf")) f) (some none),
  fun K => ownB K (ga K "Leaf"),
  fun K => PySem.W.notFirst K (ga K "Leaf") (.ref (ga K "Leaf")),
  fun K => bts.all fun t => PySem.W.notFirst K (ga K "Leaf") (.type t.name),
  fun K => bts.all fun t => decide (PySem.W.kitOne K (.type t.name) (.ref (ga K "Leaf")) = some false),
  fun K => decide (PySem.W.kitOne K (.ref (ga K "Leaf")) (.ref (ga K "Leaf")) = some true),
  faB (.mkr "Leaf"),
  faB (.meth "Leaf" "text"),
  fun K => proB K (ga K "Leaf") "size",
  fun K => staB K (ga K "Leaf") "read",
  fun K => eqO (PySem.W.findIn K (.ref (ga K "Leaf")) "__eq__") (some (some (.ref (ma K (ga K "Leaf") "__eq__")))) && PySem.W.isFn K (.ref (ma K (ga K "Leaf") "__eq__"))]
def fa : List FaB := fa0 ++ fa1 ++ fa2
def fn0 : List DefA := [dG "size_of" sSizeOf,
  dG "multiplied" sMul,
  dG "mirrored" sMir,
  dG "divided" sDiv,
  dG "leaf_name" sLeafName,
  dG "is_integer_word" sIW,
  dG "is_number" sIsNumber,
  dG "is_pair" sIsPair,
  dG "check_shape" sCheck,
  dG "_law_bag" sLBag,
  dG "_law_draw" sLDraw,
  dG "_law_of" sLOf,
  dG "_law_gcd" sLGcd,
  dG "_law_pair_mul" sLMul,
  dG "_law_pair_size" sLSize,
  dG "_law_mirror" sLMir,
  dG "_law_units" sLUnits,
  dG "_law_leaf_name" sLName,
  dG "_law_pair" sLPair,
  dG "_law_bent_pair" sLBent,
  dG "_law_fault" sLFault,
  dG "_law_due" sLDue,
  dG "_law_bent_text" sLBText,
  dG "_law_leaf" sLLeaf,
  dG "_law_made" sLMade,
  dG "_law_read" sLRead,
  dG "_law_things" sLThings,
  dG "_law_same" sLSame,
  dG "law" sLaw,
  dM (fun K => ma K (ga K "Leaf") "__init__") "__init__" "Leaf.__init__" sInit]
def fn1 : List DefA := [dM (fun K => ma K (ga K "Leaf") "__eq__") "__eq__" "Leaf.__eq__" sEq,
  dM (fun K => prA K (ga K "Leaf") "size") "size" "Leaf.size" sSize,
  dM (fun K => ma K (ga K "Leaf") "text") "text" "Leaf.text" sText,
  dM (fun K => stA K (ga K "Leaf") "read") "read" "Leaf.read" sRead,
  dM (fun K => ma K (ga K "BadKind") "__init__") "__init__" "BadKind.__init__" sBadKind,
  dM (fun K => ma K (ga K "BadPair") "__init__") "__init__" "BadPair.__init__" sBadPair,
  dM (fun K => ma K (ga K "BadLeaf") "__init__") "__init__" "BadLeaf.__init__" sBadLeaf]
def fn : List DefA := fn0 ++ fn1
section
variable {P : Program} {w : World} {K : PySem.W.Frag} {h : Heap} {mg : Str → Option Value} {base : Heap} (X : K.In h) (G : h.Ns mainGlobals mg) (c : SaysA fa fn K)
theorem cal_G {hot : Bool} {x : Str} {st : Stmt} {N ps : List Str} {k : Nat} {ds : DS} {fd : FuncData} {f : Addr} (F : FunD K x x (defArgs st) (defBody st) (defScope st) [] [] f fd) (S : FnScope N ps (defScope st)) (hm : mg x = some (.ref f)) (hb : Binds K fd ps [])
    (len : ∀ args M Φ Ψ, ds args M Φ Ψ → args.length = ps.length) (hbody : ∀ (T : Fm Unit), T.hot = hot → Fd T k P w K mg base N (defScope st) → ∀ args M Φ Ψ, ds args M Φ Ψ → Bod T st N args M Φ Ψ) : Cal hot P w K mg base x (k + 1) ps ds :=
  ⟨f, fd, okG F S len hbody, hm, F.kp, hb⟩
include X G c
theorem fr_isinstance : mg "isinstance" = none := free_ok X G (c.fact 0 rfl)
theorem fr_int : mg "int" = none := free_ok X G (c.fact 1 rfl)
theorem fr_bool : mg "bool" = none := free_ok X G (c.fact 2 rfl)
theorem fr_list : mg "list" = none := free_ok X G (c.fact 3 rfl)
theorem fr_tuple : mg "tuple" = none := free_ok X G (c.fact 4 rfl)
theorem fr_str : mg "str" = none := free_ok X G (c.fact 5 rfl)
theorem fr_len : mg "len" = none := free_ok X G (c.fact 6 rfl)
theorem fr_all : mg "all" = none := free_ok X G (c.fact 7 rfl)
theorem fr_abs : mg "abs" = none := free_ok X G (c.fact 8 rfl)
theorem fr_zip : mg "zip" = none := free_ok X G (c.fact 9 rfl)
theorem fr_max : mg "max" = none := free_ok X G (c.fact 10 rfl)
theorem fr_ValueError : mg "ValueError" = none := free_ok X G (c.fact 11 rfl)
theorem gl_Leaf : mg "Leaf" = some (.ref (ga K "Leaf")) := glo_ok X G (c.fact 41 rfl)
theorem gl_BadKind : mg "BadKind" = some (.ref (ga K "BadKind")) := glo_ok X G (c.fact 42 rfl)
theorem gl_BadPair : mg "BadPair" = some (.ref (ga K "BadPair")) := glo_ok X G (c.fact 43 rfl)
theorem gl_BadLeaf : mg "BadLeaf" = some (.ref (ga K "BadLeaf")) := glo_ok X G (c.fact 44 rfl)
theorem gl_SitesError : mg "SitesError" = some (.ref (ga K "SitesError")) := glo_ok X G (c.fact 45 rfl)
theorem gG : mg "gcd" = some (.builtin "math.gcd") := bi_ok X G (c.fact 46 rfl)
theorem gSQ : Gv K mg "SQUARE" (.str "square") := gv_ok X G (c.fact 47 rfl)
theorem gD : Gv K mg "DIGITS" (.str "0123456789") := gv_ok X G (c.fact 48 rfl)
theorem gM : Gv K mg "MOST_DIGITS" (.int 40) := gv_ok X G (c.fact 49 rfl)
theorem gSh : Gv K mg "SHAPES" (.tup [.str "square", .str "six"]) := gv_ok X G (c.fact 50 rfl)
theorem gU : Gv K mg "SQUARE_UNITS" (.tup ((unitsOf false).map pD)) := gv_ok X G (c.fact 51 rfl)
theorem gV : Gv K mg "SIX_UNITS" (.tup ((unitsOf true).map pD)) := gv_ok X G (c.fact 52 rfl)
theorem eq_and {a b : Bool} (h : (a && b) = true) : a = true ∧ b = true := ba h
theorem na_BadKind : ∀ f ∈ (["value", "code"] : List Str), PySem.W.findIn K (.ref (ga K "BadKind")) f = some none := fun f hf => eqO_ok (List.all_eq_true.mp (c.fact 55 rfl) f hf)
theorem xK : XcC P w K mg base "BadKind" (ga K "BadKind") 1 1 (itsX "BadKind") := by
  obtain ⟨fd, F⟩ := c.def_ 34 rfl
  obtain ⟨i1, i2⟩ := ba (c.fact 54 rfl)
  have oc := oex_ok (c.fact 53 rfl)
  refine ⟨_, fd, ["self", "value"], ok_init (N := ["self", "value"]) (k := 0) F ⟨rfl, rfl, rfl, by decide +kernel, rfl, by decide +kernel, by decide +kernel⟩ oc ?_ rfl rfl (.inl rfl) (fun p hp => ?_) (by simp [itsX]) (by simp [itsX]) (fun p hp i e => ?_), oc, eqO_ok i1, of_decide_eq_true i2, gl_BadKind X G c, (F.bindsN fun _ _ _ _ _ _ us hl => match us, hl with | [_, _], _ => rfl)⟩
  · exact .arg rfl (.inl rfl) (by decide) (by decide) (.txt .nil)
  · simp only [itsX, List.mem_cons, List.not_mem_nil, or_false] at hp
    rcases hp with rfl | rfl
    · exact na_BadKind X G c _ (by simp)
    · exact na_BadKind X G c _ (by simp)
  · simp only [itsX, List.mem_cons, List.not_mem_nil, or_false] at hp
    rcases hp with rfl | rfl
    · injection e with e; omega
    · cases e
theorem na_BadPair : ∀ f ∈ (["value", "code"] : List Str), PySem.W.findIn K (.ref (ga K "BadPair")) f = some none := fun f hf => eqO_ok (List.all_eq_true.mp (c.fact 60 rfl) f hf)
theorem xP : XcC P w K mg base "BadPair" (ga K "BadPair") 1 1 (itsX "BadPair") := by
  obtain ⟨fd, F⟩ := c.def_ 35 rfl
  obtain ⟨i1, i2⟩ := ba (c.fact 59 rfl)
  have oc := oex_ok (c.fact 58 rfl)
  refine ⟨_, fd, ["self", "value"], ok_init (N := ["self", "value"]) (k := 0) F ⟨rfl, rfl, rfl, by decide +kernel, rfl, by decide +kernel, by decide +kernel⟩ oc ?_ rfl rfl (.inl rfl) (fun p hp => ?_) (by simp [itsX]) (by simp [itsX]) (fun p hp i e => ?_), oc, eqO_ok i1, of_decide_eq_true i2, gl_BadPair X G c, (F.bindsN fun _ _ _ _ _ _ us hl => match us, hl with | [_, _], _ => rfl)⟩
  · exact .arg rfl (.inl rfl) (by decide) (by decide) (.txt .nil)
  · simp only [itsX, List.mem_cons, List.not_mem_nil, or_false] at hp
    rcases hp with rfl | rfl
    · exact na_BadPair X G c _ (by simp)
    · exact na_BadPair X G c _ (by simp)
  · simp only [itsX, List.mem_cons, List.not_mem_nil, or_false] at hp
    rcases hp with rfl | rfl
    · injection e with e; omega
    · cases e
theorem na_BadLeaf : ∀ f ∈ (["value", "code"] : List Str), PySem.W.findIn K (.ref (ga K "BadLeaf")) f = some none := fun f hf => eqO_ok (List.all_eq_true.mp (c.fact 65 rfl) f hf)
theorem xF : XcC P w K mg base "BadLeaf" (ga K "BadLeaf") 1 1 (itsX "BadLeaf") := by
  obtain ⟨fd, F⟩ := c.def_ 36 rfl
  obtain ⟨i1, i2⟩ := ba (c.fact 64 rfl)
  have oc := oex_ok (c.fact 63 rfl)
  refine ⟨_, fd, ["self", "value"], ok_init (N := ["self", "value"]) (k := 0) F ⟨rfl, rfl, rfl, by decide +kernel, rfl, by decide +kernel, by decide +kernel⟩ oc ?_ rfl rfl (.inl rfl) (fun p hp => ?_) (by simp [itsX]) (by simp [itsX]) (fun p hp i e => ?_), oc, eqO_ok i1, of_decide_eq_true i2, gl_BadLeaf X G c, (F.bindsN fun _ _ _ _ _ _ us hl => match us, hl with | [_, _], _ => rfl)⟩
  · exact .arg rfl (.inl rfl) (by decide) (by decide) (.txt .nil)
  · simp only [itsX, List.mem_cons, List.not_mem_nil, or_false] at hp
    rcases hp with rfl | rfl
    · exact na_BadLeaf X G c _ (by simp)
    · exact na_BadLeaf X G c _ (by simp)
  · simp only [itsX, List.mem_cons, List.not_mem_nil, or_false] at hp
    rcases hp with rfl | rfl
    · injection e with e; omega
    · cases e
theorem er : Errs K mg (ga K "BadKind") (ga K "BadPair") (ga K "BadLeaf") (ga K "SitesError") where
  gk := gl_BadKind X G c
  gp := gl_BadPair X G c
  gf := gl_BadLeaf X G c
  gs := gl_SitesError X G c
  gv := fr_ValueError X G c
  ex := fun x => by cases x <;> first | exact exc_ok (c.fact 56 rfl) | exact exc_ok (c.fact 61 rfl) | exact exc_ok (c.fact 66 rfl)
  xc := fun x => by cases x <;> first | exact ⟨xfB_ok (c.fact 57 rfl), na_BadKind X G c⟩ | exact ⟨xfB_ok (c.fact 62 rfl), na_BadPair X G c⟩ | exact ⟨xfB_ok (c.fact 67 rfl), na_BadLeaf X G c⟩
  kit := fun x y => of_decide_eq_true (List.all_eq_true.mp (List.all_eq_true.mp (c.fact 68 rfl) x (eks_all x)) y (eks_all y))
  kitS := fun x => of_decide_eq_true (List.all_eq_true.mp (c.fact 69 rfl) x (eks_all x))
  kitV := fun x => of_decide_eq_true (List.all_eq_true.mp (c.fact 70 rfl) x (eks_all x))
  exm := fun x => of_decide_eq_true (List.all_eq_true.mp (c.fact 71 rfl) x (eks_all x))
theorem oL : OCls K (ga K "Leaf") lNs := ⟨cls_ok (c.fact 72 rfl), fun f hf => eqO_ok (List.all_eq_true.mp (c.fact 73 rfl) f hf)⟩
theorem wL : OwnF K (ga K "Leaf") := own_ok (oL X G c).cls (c.fact 74 rfl)
theorem c_size_of : Cal false P w K mg base "size_of" 1 ["shape", "pair"] dsSizeOf := by
  obtain ⟨fd, F⟩ := c.def_ 0 (d := dG "size_of" sSizeOf) rfl
  exact cal_G (st := sSizeOf) (N := nSizeOf) F ⟨rfl, rfl, rfl, by decide +kernel, rfl, by decide +kernel, by decide +kernel⟩ (glo_ok X G (c.fact 12 rfl)) (F.bindsN fun _ _ _ _ _ _ us hl => match us, hl with | [_, _], _ => rfl) (fun args M Φ Ψ h => by obtain ⟨_, _, rfl, _⟩ := h; rfl) (fun T hT hD args M Φ Ψ h => b_size_of hT hD (gSQ X G c) h)
theorem c_multiplied : Cal false P w K mg base "multiplied" 1 ["shape", "one", "other"] dsMul := by
  obtain ⟨fd, F⟩ := c.def_ 1 (d := dG "multiplied" sMul) rfl
  exact cal_G (st := sMul) (N := nMul) F ⟨rfl, rfl, rfl, by decide +kernel, rfl, by decide +kernel, by decide +kernel⟩ (glo_ok X G (c.fact 13 rfl)) (F.bindsN fun _ _ _ _ _ _ us hl => match us, hl with | [_, _, _], _ => rfl) (fun args M Φ Ψ h => by obtain ⟨_, _, _, rfl, _⟩ := h; rfl) (fun T hT hD args M Φ Ψ h => b_mul hT hD (gSQ X G c) h)
theorem c_mirrored : Cal false P w K mg base "mirrored" 1 ["shape", "pair"] dsMir := by
  obtain ⟨fd, F⟩ := c.def_ 2 (d := dG "mirrored" sMir) rfl
  exact cal_G (st := sMir) (N := nMir) F ⟨rfl, rfl, rfl, by decide +kernel, rfl, by decide +kernel, by decide +kernel⟩ (glo_ok X G (c.fact 14 rfl)) (F.bindsN fun _ _ _ _ _ _ us hl => match us, hl with | [_, _], _ => rfl) (fun args M Φ Ψ h => by obtain ⟨_, _, rfl, _⟩ := h; rfl) (fun T hT hD args M Φ Ψ h => b_mir hT hD (gSQ X G c) h)
theorem c_divided : Cal false P w K mg base "divided" 2 ["shape", "pair", "other"] dsDiv := by
  obtain ⟨fd, F⟩ := c.def_ 3 (d := dG "divided" sDiv) rfl
  exact cal_G (st := sDiv) (N := nDiv) F ⟨rfl, rfl, rfl, by decide +kernel, rfl, by decide +kernel, by decide +kernel⟩ (glo_ok X G (c.fact 15 rfl)) (F.bindsN fun _ _ _ _ _ _ us hl => match us, hl with | [_, _, _], _ => rfl) (fun args M Φ Ψ h => by obtain ⟨_, _, _, rfl, _⟩ := h; rfl) (fun T hT hD args M Φ Ψ h => b_div hT hD ((c_multiplied X G c).at hT) ((c_mirrored X G c).at hT) ((c_size_of X G c).at hT) (by omega) (by omega) (by omega) h)
theorem c_leaf_name : Cal false P w K mg base "leaf_name" 3 ["shape", "pair"] dsLeafName := by
  obtain ⟨fd, F⟩ := c.def_ 4 (d := dG "leaf_name" sLeafName) rfl
  exact cal_G (st := sLeafName) (N := nLeafName) F ⟨rfl, rfl, rfl, by decide +kernel, rfl, by decide +kernel, by decide +kernel⟩ (glo_ok X G (c.fact 16 rfl)) (F.bindsN fun _ _ _ _ _ _ us hl => match us, hl with | [_, _], _ => rfl) (fun args M Φ Ψ h => by obtain ⟨_, _, rfl, _⟩ := h; rfl) (fun T hT hD args M Φ Ψ h => b_leaf_name hT hD (gSQ X G c) (gU X G c) (gV X G c) (gG X G c) (fr_max X G c) ((c_multiplied X G c).at hT) ((c_divided X G c).at hT) ((c_size_of X G c).at hT) (by omega) (by omega) (by omega) h)
theorem c_is_integer_word : Cal false P w K mg base "is_integer_word" 1 ["word"] dsIW := by
  obtain ⟨fd, F⟩ := c.def_ 5 (d := dG "is_integer_word" sIW) rfl
  exact cal_G (st := sIW) (N := nIW) F ⟨rfl, rfl, rfl, by decide +kernel, rfl, by decide +kernel, by decide +kernel⟩ (glo_ok X G (c.fact 17 rfl)) (F.bindsN fun _ _ _ _ _ _ us hl => match us, hl with | [_], _ => rfl) (fun args M Φ Ψ h => by obtain ⟨_, rfl, _⟩ := h; rfl) (fun T hT hD args M Φ Ψ h => b_iw hT hD (gD X G c) (gM X G c) (fr_len X G c) (fr_all X G c) h)
theorem c_is_number : Cal false P w K mg base "is_number" 1 ["value"] dsIsNumber := by
  obtain ⟨fd, F⟩ := c.def_ 6 (d := dG "is_number" sIsNumber) rfl
  exact cal_G (st := sIsNumber) (N := nIsNumber) F ⟨rfl, rfl, rfl, by decide +kernel, rfl, by decide +kernel, by decide +kernel⟩ (glo_ok X G (c.fact 18 rfl)) (F.bindsN fun _ _ _ _ _ _ us hl => match us, hl with | [_], _ => rfl) (fun args M Φ Ψ h => by obtain ⟨_, _, rfl, _⟩ := h; rfl) (fun T hT hD args M Φ Ψ h => b_isnumber hD (fr_isinstance X G c) (fr_int X G c) (fr_bool X G c) h)
theorem c_is_pair : Cal false P w K mg base "is_pair" 2 ["value"] dsIsPair := by
  obtain ⟨fd, F⟩ := c.def_ 7 (d := dG "is_pair" sIsPair) rfl
  exact cal_G (st := sIsPair) (N := nIsPair) F ⟨rfl, rfl, rfl, by decide +kernel, rfl, by decide +kernel, by decide +kernel⟩ (glo_ok X G (c.fact 19 rfl)) (F.bindsN fun _ _ _ _ _ _ us hl => match us, hl with | [_], _ => rfl) (fun args M Φ Ψ h => by rcases h with ⟨_, rfl, _⟩ | ⟨_, _, _, rfl, _⟩ <;> rfl) (fun T hT hD args M Φ Ψ h => b_ispair hD (fr_isinstance X G c) (fr_list X G c) (fr_tuple X G c) (fr_len X G c) ((c_is_number X G c).at hT) (by omega) h)
theorem c_check_shape : Cal false P w K mg base "check_shape" 3 ["shape"] (dsCheck (ga K "BadKind")) := by
  obtain ⟨fd, F⟩ := c.def_ 8 (d := dG "check_shape" sCheck) rfl
  exact cal_G (st := sCheck) (N := nCheck) F ⟨rfl, rfl, rfl, by decide +kernel, rfl, by decide +kernel, by decide +kernel⟩ (glo_ok X G (c.fact 20 rfl)) (F.bindsN fun _ _ _ _ _ _ us hl => match us, hl with | [_], _ => rfl) (fun args M Φ Ψ h => by obtain ⟨_, _, rfl, _⟩ := h; rfl) (fun T hT hD args M Φ Ψ h => b_check hT hD (fr_isinstance X G c) (fr_str X G c) (gSh X G c) (xK X G c) (by omega) h)
theorem c__law_bag : Cal false P w K mg base "_law_bag" 7 ["script"] dsLBag := by
  obtain ⟨fd, F⟩ := c.def_ 9 (d := dG "_law_bag" sLBag) rfl
  exact cal_G (st := sLBag) (N := nLBag) F ⟨rfl, rfl, rfl, by decide +kernel, rfl, by decide +kernel, by decide +kernel⟩ (glo_ok X G (c.fact 21 rfl)) (F.bindsN fun _ _ _ _ _ _ us hl => match us, hl with | [_], _ => rfl) (fun args M Φ Ψ h => by obtain ⟨_, rfl, _⟩ := h; rfl) (fun T hT hD args M Φ Ψ h => b_lbag hT hD (fr_int X G c) (fr_list X G c) h)
theorem c__law_draw : Cal false P w K mg base "_law_draw" 1 ["bag", "below"] dsLDraw := by
  obtain ⟨fd, F⟩ := c.def_ 10 (d := dG "_law_draw" sLDraw) rfl
  exact cal_G (st := sLDraw) (N := nLDraw) F ⟨rfl, rfl, rfl, by decide +kernel, rfl, by decide +kernel, by decide +kernel⟩ (glo_ok X G (c.fact 22 rfl)) (F.bindsN fun _ _ _ _ _ _ us hl => match us, hl with | [_, _], _ => rfl) (fun args M Φ Ψ h => by obtain ⟨_, _, rfl, _⟩ := h; rfl) (fun T hT hD args M Φ Ψ h => b_ldraw hT hD (fr_int X G c) (fr_abs X G c) (fr_len X G c) h)
theorem c__law_of : Cal false P w K mg base "_law_of" 2 ["bag", "things"] dsLOf := by
  obtain ⟨fd, F⟩ := c.def_ 11 (d := dG "_law_of" sLOf) rfl
  exact cal_G (st := sLOf) (N := nLOf) F ⟨rfl, rfl, rfl, by decide +kernel, rfl, by decide +kernel, by decide +kernel⟩ (glo_ok X G (c.fact 23 rfl)) (F.bindsN fun _ _ _ _ _ _ us hl => match us, hl with | [_, _], _ => rfl) (fun args M Φ Ψ h => by obtain ⟨_, _, rfl, _⟩ := h; rfl) (fun T hT hD args M Φ Ψ h => b_lof hT hD (fr_len X G c) ((c__law_draw X G c).at hT) (by omega) h)
theorem c__law_gcd : Cal false P w K mg base "_law_gcd" 1 ["a", "b"] dsLGcd := by
  obtain ⟨fd, F⟩ := c.def_ 12 (d := dG "_law_gcd" sLGcd) rfl
  exact cal_G (st := sLGcd) (N := nLGcd) F ⟨rfl, rfl, rfl, by decide +kernel, rfl, by decide +kernel, by decide +kernel⟩ (glo_ok X G (c.fact 24 rfl)) (F.bindsN fun _ _ _ _ _ _ us hl => match us, hl with | [_, _], _ => rfl) (fun args M Φ Ψ h => by obtain ⟨_, _, rfl, _⟩ := h; rfl) (fun T hT hD args M Φ Ψ h => b_lgcd hT hD (fr_abs X G c) (fr_int X G c) h)
theorem c__law_pair_mul : Cal false P w K mg base "_law_pair_mul" 1 ["shape_word", "p", "q"] dsLMul := by
  obtain ⟨fd, F⟩ := c.def_ 13 (d := dG "_law_pair_mul" sLMul) rfl
  exact cal_G (st := sLMul) (N := nLMul) F ⟨rfl, rfl, rfl, by decide +kernel, rfl, by decide +kernel, by decide +kernel⟩ (glo_ok X G (c.fact 25 rfl)) (F.bindsN fun _ _ _ _ _ _ us hl => match us, hl with | [_, _, _], _ => rfl) (fun args M Φ Ψ h => by obtain ⟨_, _, _, rfl, _⟩ := h; rfl) (fun T hT hD args M Φ Ψ h => b_lmul hT hD h)
theorem c__law_pair_size : Cal false P w K mg base "_law_pair_size" 1 ["shape_word", "p"] dsLSize := by
  obtain ⟨fd, F⟩ := c.def_ 14 (d := dG "_law_pair_size" sLSize) rfl
  exact cal_G (st := sLSize) (N := nLSize) F ⟨rfl, rfl, rfl, by decide +kernel, rfl, by decide +kernel, by decide +kernel⟩ (glo_ok X G (c.fact 26 rfl)) (F.bindsN fun _ _ _ _ _ _ us hl => match us, hl with | [_, _], _ => rfl) (fun args M Φ Ψ h => by obtain ⟨_, _, rfl, _⟩ := h; rfl) (fun T hT hD args M Φ Ψ h => b_lsize hD h)
theorem c__law_mirror : Cal false P w K mg base "_law_mirror" 1 ["shape_word", "p"] dsLMir := by
  obtain ⟨fd, F⟩ := c.def_ 15 (d := dG "_law_mirror" sLMir) rfl
  exact cal_G (st := sLMir) (N := nLMir) F ⟨rfl, rfl, rfl, by decide +kernel, rfl, by decide +kernel, by decide +kernel⟩ (glo_ok X G (c.fact 27 rfl)) (F.bindsN fun _ _ _ _ _ _ us hl => match us, hl with | [_, _], _ => rfl) (fun args M Φ Ψ h => by obtain ⟨_, _, rfl, _⟩ := h; rfl) (fun T hT hD args M Φ Ψ h => b_lmir hD h)
theorem c__law_units : Cal false P w K mg base "_law_units" 1 ["shape_word"] dsLUnits := by
  obtain ⟨fd, F⟩ := c.def_ 16 (d := dG "_law_units" sLUnits) rfl
  exact cal_G (st := sLUnits) (N := nLUnits) F ⟨rfl, rfl, rfl, by decide +kernel, rfl, by decide +kernel, by decide +kernel⟩ (glo_ok X G (c.fact 28 rfl)) (F.bindsN fun _ _ _ _ _ _ us hl => match us, hl with | [_], _ => rfl) (fun args M Φ Ψ h => by obtain ⟨_, rfl, _⟩ := h; rfl) (fun T hT hD args M Φ Ψ h => b_lunits hD h)
theorem c__law_leaf_name : Cal false P w K mg base "_law_leaf_name" 2 ["shape_word", "p"] dsLName := by
  obtain ⟨fd, F⟩ := c.def_ 17 (d := dG "_law_leaf_name" sLName) rfl
  exact cal_G (st := sLName) (N := nLName) F ⟨rfl, rfl, rfl, by decide +kernel, rfl, by decide +kernel, by decide +kernel⟩ (glo_ok X G (c.fact 29 rfl)) (F.bindsN fun _ _ _ _ _ _ us hl => match us, hl with | [_, _], _ => rfl) (fun args M Φ Ψ h => by obtain ⟨_, _, rfl, _⟩ := h; rfl) (fun T hT hD args M Φ Ψ h => b_lname hT hD (fr_max X G c) (fr_int X G c) ((c__law_gcd X G c).at hT) ((c__law_pair_mul X G c).at hT) ((c__law_pair_size X G c).at hT) ((c__law_mirror X G c).at hT) ((c__law_units X G c).at hT) (by omega) (by omega) (by omega) (by omega) (by omega) h)
theorem c__law_pair : Cal false P w K mg base "_law_pair" 2 ["bag"] dsLPair := by
  obtain ⟨fd, F⟩ := c.def_ 18 (d := dG "_law_pair" sLPair) rfl
  exact cal_G (st := sLPair) (N := nLPair) F ⟨rfl, rfl, rfl, by decide +kernel, rfl, by decide +kernel, by decide +kernel⟩ (glo_ok X G (c.fact 30 rfl)) (F.bindsN fun _ _ _ _ _ _ us hl => match us, hl with | [_], _ => rfl) (fun args M Φ Ψ h => by obtain ⟨_, rfl, _⟩ := h; rfl) (fun T hT hD args M Φ Ψ h => b_lpair hT hD ((c__law_draw X G c).at hT) (by omega) h)
theorem c__law_bent_pair : Cal false P w K mg base "_law_bent_pair" 3 ["bag", "shape_word", "z"] dsLBent := by
  obtain ⟨fd, F⟩ := c.def_ 19 (d := dG "_law_bent_pair" sLBent) rfl
  exact cal_G (st := sLBent) (N := nLBent) F ⟨rfl, rfl, rfl, by decide +kernel, rfl, by decide +kernel, by decide +kernel⟩ (glo_ok X G (c.fact 31 rfl)) (F.bindsN fun _ _ _ _ _ _ us hl => match us, hl with | [_, _, _], _ => rfl) (fun args M Φ Ψ h => by obtain ⟨_, _, _, rfl, _⟩ := h; rfl) (fun T hT hD args M Φ Ψ h => b_lbent hT hD ((c__law_pair_mul X G c).at hT) ((c__law_of X G c).at hT) ((c__law_units X G c).at hT) ((c__law_draw X G c).at hT) (by omega) (by omega) (by omega) (by omega) h)
theorem c__law_fault : Cal true P w K mg base "_law_fault" 1 ["e"] (dsLFault (ga K "BadKind") (ga K "BadPair") (ga K "BadLeaf")) := by
  obtain ⟨fd, F⟩ := c.def_ 20 (d := dG "_law_fault" sLFault) rfl
  exact cal_G (st := sLFault) (N := nLFault) F ⟨rfl, rfl, rfl, by decide +kernel, rfl, by decide +kernel, by decide +kernel⟩ (glo_ok X G (c.fact 32 rfl)) (F.bindsN fun _ _ _ _ _ _ us hl => match us, hl with | [_], _ => rfl) (fun args M Φ Ψ h => by obtain ⟨_, _, rfl, _⟩ := h; rfl) (fun T hT hD args M Φ Ψ h => b_lfault hD (er X G c) (fr_isinstance X G c) h)
theorem c__law_due : Cal false P w K mg base "_law_due" 7 ["word", "thing"] dsLDue := by
  obtain ⟨fd, F⟩ := c.def_ 21 (d := dG "_law_due" sLDue) rfl
  exact cal_G (st := sLDue) (N := nLDue) F ⟨rfl, rfl, rfl, by decide +kernel, rfl, by decide +kernel, by decide +kernel⟩ (glo_ok X G (c.fact 33 rfl)) (F.bindsN fun _ _ _ _ _ _ us hl => match us, hl with | [_, _], _ => rfl) (fun args M Φ Ψ h => by obtain ⟨_, _, rfl, _⟩ := h; rfl) (fun T hT hD args M Φ Ψ h => b_ldue hD h)
theorem c__law_bent_text : Cal false P w K mg base "_law_bent_text" 2 ["bag", "text"] dsLBText := by
  obtain ⟨fd, F⟩ := c.def_ 22 (d := dG "_law_bent_text" sLBText) rfl
  exact cal_G (st := sLBText) (N := nLBText) F ⟨rfl, rfl, rfl, by decide +kernel, rfl, by decide +kernel, by decide +kernel⟩ (glo_ok X G (c.fact 34 rfl)) (F.bindsN fun _ _ _ _ _ _ us hl => match us, hl with | [_, _], _ => rfl) (fun args M Φ Ψ h => by obtain ⟨_, _, _, rfl, _⟩ := h; rfl) (fun T hT hD args M Φ Ψ h => b_lbtext hT hD ((c__law_draw X G c).at hT) (by omega) h)
theorem cMk : MkC false P w K mg base "Leaf" (ga K "Leaf") 4 ["self", "shape", "pair"] (dsInit (ga K "BadKind") (ga K "BadPair") (ga K "Leaf")) := by
  obtain ⟨fd, F⟩ := c.def_ 29 rfl
  refine ⟨_, fd, okG (N := nInit) (k := 3) F ⟨rfl, rfl, rfl, by decide +kernel, rfl, by decide +kernel, by decide +kernel⟩ (fun args M Φ Ψ h => ?_) (fun T hT hD args M Φ Ψ h => b_init hT hD (oL X G c) ((c_check_shape X G c).at hT) ((c_is_pair X G c).at hT) ((c_leaf_name X G c).at hT) (xP X G c) (by omega) (by omega) (by omega) (by omega) h), mkr_ok (c.fact 79 rfl), gl_Leaf X G c, (F.bindsN fun _ _ _ _ _ _ us hl => match us, hl with | [_, _, _], _ => rfl), ?_⟩
  · rcases h with ⟨_, _, _, rfl, _⟩ | ⟨_, _, _, _, _, rfl, _⟩ <;> rfl
  · obtain ⟨oc, od, dV, kV, doc, pm, an, cdv, ct, osl, rfl, lk, hcd, hD, hK⟩ := F.ex
    rcases hD with ⟨_, rfl⟩ | ⟨e, _⟩
    · exact ⟨fun s us ws X l1 l2 => L2.BindsTo.of_looks fun M => PySem.W.Looks.of_pure (match us, l1, ws, l2 with | [_], _, [_, _], _ => rfl), fun r1 r2 => r1.append r2⟩
    · exact absurd rfl e
theorem cEq : EqC false P w K mg base (ga K "Leaf") 1 ["self", "other"] (dsEqL (ga K "Leaf")) := by
  obtain ⟨fd, F⟩ := c.def_ 30 rfl
  obtain ⟨i1, i2⟩ := ba (c.fact 83 rfl)
  exact ⟨_, fd, okG (N := nEq) (k := 0) F ⟨rfl, rfl, rfl, by decide +kernel, rfl, by decide +kernel, by decide +kernel⟩ (fun args M Φ Ψ h => by obtain ⟨_, _, _, rfl, _⟩ := h; rfl) (fun T hT hD args M Φ Ψ h => b_eq (j := 0) hT hD (oL X G c) (wL X G c) (fr_isinstance X G c) (gl_Leaf X G c) (fun t => of_decide_eq_true (List.all_eq_true.mp (c.fact 77 rfl) t (bts_all t))) (of_decide_eq_true (c.fact 78 rfl)) h), eqO_ok i1, i2, (F.bindsN fun _ _ _ _ _ _ us hl => match us, hl with | [_, _], _ => rfl)⟩
theorem cSz : ProC false P w K mg base (ga K "Leaf") "size" 2 ["self"] (dsSize (ga K "Leaf")) := by
  obtain ⟨fd, F⟩ := c.def_ 31 rfl
  exact ⟨_, _, fd, okG (N := nSize) (k := 1) F ⟨rfl, rfl, rfl, by decide +kernel, rfl, by decide +kernel, by decide +kernel⟩ (fun args M Φ Ψ h => by obtain ⟨_, _, rfl, _⟩ := h; rfl) (fun T hT hD args M Φ Ψ h => b_size hD (oL X G c) ((c_size_of X G c).at hT) (by omega) h), pro_ok (c.fact 81 rfl), (F.bindsN fun _ _ _ _ _ _ us hl => match us, hl with | [_], _ => rfl), (oL X G c).cls⟩
theorem cTx : MetC false P w K mg base (ga K "Leaf") "text" 1 ["self"] (dsText (ga K "Leaf")) := by
  obtain ⟨fd, F⟩ := c.def_ 32 rfl
  exact ⟨_, fd, okG (N := nText) (k := 0) F ⟨rfl, rfl, rfl, by decide +kernel, rfl, by decide +kernel, by decide +kernel⟩ (fun args M Φ Ψ h => by obtain ⟨_, _, rfl, _⟩ := h; rfl) (fun T hT hD args M Φ Ψ h => b_text hD (oL X G c) h), meth_ok (c.fact 80 rfl), (F.bindsN fun _ _ _ _ _ _ us hl => match us, hl with | [_], _ => rfl), (oL X G c).cls⟩
theorem cRd : StaC false P w K mg base "Leaf" (ga K "Leaf") "read" 6 ["text"] (dsRead (ga K "BadLeaf") (ga K "Leaf")) := by
  obtain ⟨fd, F⟩ := c.def_ 33 rfl
  exact ⟨_, fd, okG (N := nRead) (k := 5) F ⟨rfl, rfl, rfl, by decide +kernel, rfl, by decide +kernel, by decide +kernel⟩ (fun args M Φ Ψ h => by obtain ⟨_, rfl, _⟩ := h; rfl) (fun T hT hD args M Φ Ψ h => b_read hT hD (fr_isinstance X G c) (fr_str X G c) (fr_len X G c) (fr_int X G c) (gSh X G c) ((c_is_integer_word X G c).at hT) ((cMk X G c).at hT) (xF X G c) (by omega) (by omega) (by omega) h), sta_ok (c.fact 82 rfl), gl_Leaf X G c, (F.bindsN fun _ _ _ _ _ _ us hl => match us, hl with | [_], _ => rfl)⟩
theorem c_same : ∀ n : Nat, Cal false P w K mg base "_law_same" (n + 1) ["found", "due"] (dsLSame n) := by
  obtain ⟨fd, F⟩ := c.def_ 27 (d := dG "_law_same" sLSame) rfl
  have hm : mg "_law_same" = some (.ref (ga K "_law_same")) := glo_ok X G (c.fact 39 rfl)
  have hb : Binds K fd ["found", "due"] [] := (F.bindsN fun _ _ _ _ _ _ us hl => match us, hl with | [_, _], _ => rfl)
  intro n
  induction n with
  | zero => exact cal_G (st := sLSame) (N := nLSame) F ⟨rfl, rfl, rfl, by decide +kernel, rfl, by decide +kernel, by decide +kernel⟩ hm hb (fun args M Φ Ψ h => by obtain ⟨_, rfl, _⟩ := h; rfl) (fun T hT hD args M Φ Ψ h => b_lsame (n := 0) (j := 0) hT hD (fr_isinstance X G c) (fr_list X G c) (fr_tuple X G c) (fr_bool X G c) (fr_int X G c) (fr_str X G c) (fr_len X G c) (fr_zip X G c) (fun m e => by omega) (by omega) h)
  | succ n ih => exact cal_G (st := sLSame) (N := nLSame) F ⟨rfl, rfl, rfl, by decide +kernel, rfl, by decide +kernel, by decide +kernel⟩ hm hb (fun args M Φ Ψ h => by obtain ⟨_, rfl, _⟩ := h; rfl) (fun T hT hD args M Φ Ψ h => b_lsame (n := n + 1) (j := n + 1) hT hD (fr_isinstance X G c) (fr_list X G c) (fr_tuple X G c) (fr_bool X G c) (fr_int X G c) (fr_str X G c) (fr_len X G c) (fr_zip X G c) (fun m e => (Nat.succ.inj e ▸ ih.at hT)) (by omega) h)
theorem c__law_leaf : Cal false P w K mg base "_law_leaf" 6 ["bag", "shape_word", "z"] (dsLLeaf (ga K "Leaf")) := by
  obtain ⟨fd, F⟩ := c.def_ 23 (d := dG "_law_leaf" sLLeaf) rfl
  exact cal_G (st := sLLeaf) (N := nLLeaf) F ⟨rfl, rfl, rfl, by decide +kernel, rfl, by decide +kernel, by decide +kernel⟩ (glo_ok X G (c.fact 35 rfl)) (F.bindsN fun _ _ _ _ _ _ us hl => match us, hl with | [_, _, _], _ => rfl) (fun args M Φ Ψ h => by obtain ⟨_, _, _, rfl, _⟩ := h; rfl) (fun T hT hD args M Φ Ψ h => b_lleaf hT hD ((c__law_bent_pair X G c).at hT) ((c__law_draw X G c).at hT) ((cMk X G c).at hT) (by omega) (by omega) (by omega) h)
theorem c__law_made : Cal false P w K mg base "_law_made" 6 ["shape_word", "p"] dsLMade := by
  obtain ⟨fd, F⟩ := c.def_ 24 (d := dG "_law_made" sLMade) rfl
  exact cal_G (st := sLMade) (N := nLMade) F ⟨rfl, rfl, rfl, by decide +kernel, rfl, by decide +kernel, by decide +kernel⟩ (glo_ok X G (c.fact 36 rfl)) (F.bindsN fun _ _ _ _ _ _ us hl => match us, hl with | [_, _], _ => rfl) (fun args M Φ Ψ h => by obtain ⟨_, _, rfl, _⟩ := h; rfl) (fun T hT hD args M Φ Ψ h => b_lmade hT hD (er X G c) (oL X G c) ((cMk X G c).at hT) (c__law_fault X G c) (by omega) (by omega) h)
theorem c__law_read : Cal false P w K mg base "_law_read" 7 ["text"] dsLRead := by
  obtain ⟨fd, F⟩ := c.def_ 25 (d := dG "_law_read" sLRead) rfl
  exact cal_G (st := sLRead) (N := nLRead) F ⟨rfl, rfl, rfl, by decide +kernel, rfl, by decide +kernel, by decide +kernel⟩ (glo_ok X G (c.fact 37 rfl)) (F.bindsN fun _ _ _ _ _ _ us hl => match us, hl with | [_], _ => rfl) (fun args M Φ Ψ h => by obtain ⟨_, rfl, _⟩ := h; rfl) (fun T hT hD args M Φ Ψ h => b_lread hT hD (er X G c) (oL X G c) ((cRd X G c).at hT) (c__law_fault X G c) (by omega) (by omega) h)
theorem c__law_things : Cal false P w K mg base "_law_things" 4 ["told"] (dsLThings (ga K "Leaf")) := by
  obtain ⟨fd, F⟩ := c.def_ 26 (d := dG "_law_things" sLThings) rfl
  exact cal_G (st := sLThings) (N := nLThings) F ⟨rfl, rfl, rfl, by decide +kernel, rfl, by decide +kernel, by decide +kernel⟩ (glo_ok X G (c.fact 38 rfl)) (F.bindsN fun _ _ _ _ _ _ us hl => match us, hl with | [_], _ => rfl) (fun args M Φ Ψ h => by obtain ⟨_, _, rfl, _⟩ := h; rfl) (fun T hT hD args M Φ Ψ h => b_lthings hD (oL X G c) ((cSz X G c).at hT) ((cTx X G c).at hT) (by omega) (by omega) h)
theorem lc : Lc false P w K mg base (ga K "BadKind") (ga K "BadPair") (ga K "BadLeaf") (ga K "Leaf") 7 where
  bag := c__law_bag X G c
  of := (c__law_of X G c).mono (by omega)
  pair := (c__law_pair X G c).mono (by omega)
  name := (c__law_leaf_name X G c).mono (by omega)
  size := (c__law_pair_size X G c).mono (by omega)
  leaf := (c__law_leaf X G c).mono (by omega)
  same := (c_same X G c 5).mono (by omega)
  things := (c__law_things X G c).mono (by omega)
  bent := (c__law_bent_pair X G c).mono (by omega)
  read := c__law_read X G c
  made := (c__law_made X G c).mono (by omega)
  due := (c__law_due X G c).mono (by omega)
  btext := (c__law_bent_text X G c).mono (by omega)
  leafC := (cMk X G c).mono (by omega)
  eqC := (cEq X G c).mono (by omega)
  fld := oL X G c
  own := wL X G c
  nfO := c.fact 75 rfl
  nfB := fun t => List.all_eq_true.mp (c.fact 76 rfl) t (bts_all t)
theorem c_law : Cal false P w K mg base "law" 9 ["script"] dsLaw := by
  obtain ⟨fd, F⟩ := c.def_ 28 (d := dG "law" sLaw) rfl
  exact cal_G (st := sLaw) (N := nLaw) (k := 8) F ⟨rfl, rfl, rfl, by decide +kernel, rfl, by decide +kernel, by decide +kernel⟩ (glo_ok X G (c.fact 40 rfl)) (F.bindsN fun _ _ _ _ _ _ us hl => match us, hl with | [_], _ => rfl) (fun args M Φ Ψ h => by obtain ⟨_, rfl, _⟩ := h; rfl) (fun T hT hD args M Φ Ψ h => b_law hT (hT ▸ lc X G c) (by omega) (fr_str X G c) hD h)
end
end K83
set_option Elab.async false
set_option linter.all false
set_option maxRecDepth 100000
set_option maxHeartbeats 0
set_option pp.maxSteps 1200
/-! K83R: the module's run. -/
namespace K83
open PySem PySem.Spec PyProof.Rows L2 G He
abbrev RW : PySem.W.OpenRow := PySem.W.OpenLaw.row PySem.Challenge.rw_sharedsites_k83_leaves_told
def looseA : List Str := ["__name__", "SitesError", "BadKind", "BadPair", "BadLeaf", "DIGITS", "MOST_DIGITS", "is_integer_word", "SQUARE", "SIX", "SHAPES", "SQUARE_UNITS", "SIX_UNITS", "size_of", "multiplied", "mirrored", "divided", "leaf_name", "is_number", "is_pair", "check_shape", "Leaf"]
def looseB : List Str := ["_law_bag", "_law_draw", "_law_of", "_law_same", "_law_gcd", "_law_pair_mul", "_law_pair_size", "_law_mirror", "_law_units", "_law_leaf_name", "_law_pair", "_law_bent_pair", "_law_leaf", "_law_fault", "_law_made", "_law_read", "_law_due", "_law_bent_text", "_law_things"]
def loose : List Str := looseA ++ looseB
abbrev hk : PySem.W.Hook := hookA 6 fa fn
def ob (s : PySem.W.SharedT) : He.AlD := obsAG 6 fa fn (HandSHeadRun.getT s)
theorem ob_eq (s : PySem.W.SharedT) : ob s = hk.obs s.abs := obsAG_eq (HandSHeadRun.getT_eq s)
abbrev qv := PySem.W.view RW.prog [0, 46]
theorem run (w : World) : HandSHeadRun.RunEqI RW qv hk ob 6000 loose w := by
  show _ = _
  kernel_rfl
end K83
set_option Elab.async false
set_option linter.all false
set_option maxRecDepth 100000
set_option maxHeartbeats 0
set_option pp.maxSteps 1200
/-! K83Z: the end. -/
namespace G
open PySem PySem.Spec PyProof.Rows L2
/-- a law's end: the promise over the world's own contexts -/
theorem walk_W {l : PySem.W.OpenLaw} {n k : Nat} {q : Program} {loose : List Str} {XP : (Str → Option Value) → Heap → Prop} {YP : World → Heap → Prop} {d : DefRec} {x : Str}
    (hn : l.most = some n) (hn2 : n ≤ sizeLine) (hdf : d.params.defaults = []) (hr : Room k callerA)
    (F : ∀ (w : World) (mg : Str → Option Value) (fa : Addr) (h : Heap), YP w h → h.Ns mainGlobals mg → mg d.name = some (.ref fa) →
      ∃ (K : PySem.W.Frag) (fd : FuncData) (sp : Sp), K.In h ∧ (∀ (s : Shared) (u : Value), BindsTo s fd ⟨[u], []⟩ [(x, u)]) ∧
        (∀ (H : Hp) (a : Addr) (ns : List Int), ns.length ≤ n → Only H → SqL K H a (ns.map V.int) → sp [.ref a] H (fun v _ => v = .bl true) fun _ _ _ => False) ∧
        ∀ base : Heap, K.In base → base.Ns mainGlobals mg → FnOk l.prog w K mg base (L2.CX l.prog w) k fa fd [x] sp) :
    PySem.W.WalkO q loose XP YP l.row.toRowW d [] (fun f vs => PySem.call f vs) := by
  refine Att.attach_call hn hdf fun w s₀ s₁ mg mb fa o pm cd doc a vs ns G Y ho hd hcd hmg hobj hints hlen hg => ?_
  obtain ⟨K, fd, sp, KX, hb, hsp, hF⟩ := F w mg fa _ Y G.T.g hmg
  refine law_call KX G.T.g G.T.b G.T.builtins G.T.nolimit hg hobj hints (Nat.le_trans hlen hn2) hr hF hb (fun H hO hS => hsp H a ns hlen hO hS) fun H e s' z => ?_
  obtain ⟨_, _, _, _, _, _, _, _, _, _, _, _, z⟩ := z
  exact z
end G
namespace K83
open PySem PySem.Spec PyProof.Rows L2 G He
theorem rol_rep {K : PySem.W.Frag} {H : Hp} : ∀ {ns : List Int}, Reps K H (ns.map D.int) (ns.map V.int)
  | [] => rfl
  | n :: ns => ⟨.int n, ns.map V.int, rfl, rfl, rol_rep⟩
theorem head_F {P : Program} {w : World} {K : PySem.W.Frag} {h : Heap} {mg : Str → Option Value} {f : Addr} (X : K.In h) (G : h.Ns mainGlobals mg) (hfa : mg ("law" : Str) = some (.ref f)) (c : SaysA fa fn K) :
    ∃ fd : FuncData, (∀ (s : Shared) (v : Value), BindsTo s fd ⟨[v], []⟩ [("script", v)]) ∧ ∀ base : Heap, K.In base → base.Ns mainGlobals mg → FnOk P w K mg base (L2.CX P w) 9 f fd ["script"] (lift K dsLaw) := by
  obtain ⟨fd, F⟩ := c.def_ 28 (d := dG "law" sLaw) rfl
  have e := hfa.symm.trans (glo_ok X G (c.fact 40 (f := faB (.glo "law")) rfl))
  cases e
  refine ⟨fd, fun s v => FunD.bindsA (ps := ["script"]) F (fun _ _ _ _ _ _ us hl => match us, hl with | [_], _ => rfl) s [v] rfl, fun base _ _ => ?_⟩
  exact (okG (N := nLaw) (k := 8) F ⟨rfl, rfl, rfl, by decide +kernel, rfl, by decide +kernel, by decide +kernel⟩ (fun args M Φ Ψ h => by obtain ⟨_, rfl, _⟩ := h; rfl) (fun T hT hD args M Φ Ψ h => b_law hT (hT ▸ lc X G c) (by omega) (fr_str X G c) hD h)).ok
end K83
open PySem PySem.W PySem.Calls PyProof.Rows
theorem PySem.Challenge.cw_sharedsites_k83_leaves_told_holds : PySem.Challenge.rw_sharedsites_k83_leaves_told.Holds := by
  w_on; o_law
  refine HandSHeadRun.head_imp (r := K83.RW) (q := K83.qv) (H := K83.hk) (ob := K83.ob) (M := 6000) (loose := K83.loose) (d := HandSHeadRun.topDef K83.RW.prog 46) (kwd := []) K83.ob_eq K83.run
    (by kernel_rfl) (by kernel_rfl) (by kernel_rfl) (by rfl) (by first | assumption | decide +kernel) (by decide +kernel) ⟨rfl, rfl, rfl, rfl, rfl, by decide +kernel⟩ ?hw ?hc
  case hw => w_witness2
  case hc =>
    refine G.walk_W (l := PySem.Challenge.rw_sharedsites_k83_leaves_told) (n := 63) (k := 9) (x := "script") rfl (by decide) (by kernel_rfl) ⟨rfl, by decide, by decide⟩ ?F
    intro w mg fa h Y hG hmg0
    obtain ⟨K, KX, c⟩ := Y
    have hmg : mg ("law" : PySem.Str) = some (.ref fa) := by
      have e : (HandSHeadRun.topDef K83.RW.prog 46).name = ("law" : PySem.Str) := by kernel_rfl
      rw [← e]
      exact hmg0
    obtain ⟨fd, hb, hF⟩ := K83.head_F (P := (PySem.Challenge.rw_sharedsites_k83_leaves_told).prog) (w := w) KX hG hmg c
    refine ⟨K, fd, G.lift K K83.dsLaw, KX, hb, fun H a ns hl hO hS => ?_, hF⟩
    refine ⟨H, fun _ => none, [.rol (ns.map G.D.int)], fun d _ => d = .bl true, fun _ _ _ _ => False, ⟨fun _ _ e => e, fun _ _ e => nomatch e⟩, ⟨.ref a, [], rfl, ⟨a, ns.map L2.V.int, rfl, hS, K83.rol_rep⟩, rfl⟩, ⟨ns, rfl, fun _ => rfl⟩, fun F' H' M' d v _ _ r e => by cases e; exact r, fun _ _ _ _ _ _ _ _ _ _ _ _ _ z => z⟩
