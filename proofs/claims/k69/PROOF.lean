import PyProof.Rows.All
import HandS.ForMost
import HandS.ForExc
import HandS.Walk
import HandS.Deep
import HandS.TupAny
import HandS.IsInst
import HandS.SortInts
import HandS.Wide
import HandS.Defaults
import HandS.Flow
import HandS.Conv
import HandS.Iter
import HandS.Rev
import HandS.WordsDict
import HandS.CallSlots
import HandS.Zip
import HandS.Head0
import HandS.Head1
import HandS.Head2
import HandS.HeadEnd
import HandS.HeadHook1
import HandS.HeadHook2
import HandS.ExcIs
import HandS.ExcOwn
import KE.DataMinMax
import HandS.SetFor
import HandS.Strs
import HandS.SetTxt0
import KE.SortData
import HandS.TupMul
import HandS.Style
import HandS.TryOnly
import PyProof.StrOps2
import HandS.More
import PySem.Challenge.RW_camhouse_k69_chains_and_closed
set_option Elab.async false
set_option linter.all false
set_option maxRecDepth 100000
set_option maxHeartbeats 4000000
set_option autoImplicit false
section
namespace PL
open PySem PySem.Spec PyProof.Rows L2

abbrev D := PyData
abbrev Fg := PySem.W.Frag

inductive Res (α : Type) where
  | ok (a : α) | exn (e : D) | bad
def Res.bind {α β : Type} : Res α → (α → Res β) → Res β
  | .ok a, f => f a
  | .exn e, _ => .exn e
  | .bad, _ => .bad
abbrev Lo := List (Option D)
abbrev DE := Lo → Res D
abbrev DT := Lo → Res Bool
abbrev DA := Lo → Res (List D)
inductive SRes where
  | nx (ρ : Lo) | rt (v : D) | bk (ρ : Lo) | ct (ρ : Lo) | ex (e : D) (ρ : Lo) | bad
abbrev DS := Lo → SRes

mutual
inductive Rp (K : Fg) (F : Hp) : V → D → Prop
  | non : Rp K F .non .none
  | bl (b : Bool) : Rp K F (.bl b) (.bool b)
  | int (i : Int) : Rp K F (.int i) (.int i)
  | str (x : Str) : PyData.strOk x = true → x.length ≤ sizeLine → Rp K F (.str x) (.str x)
  | lst {a : Addr} {xs : List V} {ds : List D} : SqL K F a xs → xs.length ≤ sizeLine → RpA K F xs ds → Rp K F (.ref a) (.list ds)
  | tup {a : Addr} {xs : List V} {ds : List D} : SqT K F a xs → xs.length ≤ sizeLine → RpA K F xs ds → Rp K F (.ref a) (.tuple ds)
  | dic {a : Addr} {kvs : List (Key × V)} {ps : List (D × D)} : F a = some (.dK kvs) → kvs.length ≤ sizeLine → RpD K F kvs ps → Rp K F (.ref a) (.dict ps)
inductive RpA (K : Fg) (F : Hp) : List V → List D → Prop
  | nil : RpA K F [] []
  | cons {x : V} {xs : List V} {d : D} {ds : List D} : Rp K F x d → RpA K F xs ds → RpA K F (x :: xs) (d :: ds)
inductive RpD (K : Fg) (F : Hp) : List (Key × V) → List (D × D) → Prop
  | nil : RpD K F [] []
  | cons {k : Key} {v : V} {kvs : List (Key × V)} {dk dv : D} {ps : List (D × D)} : Rp K F (kV k) dk → Rp K F v dv → RpD K F kvs ps → RpD K F ((k, v) :: kvs) ((dk, dv) :: ps)
end

theorem seqT {K : Fg} {H H' : Hp} {a : Addr} {xs : List V} (e : Same H H') (h : SqT K H a xs) : SqT K H' a xs := by
  rcases h with (h | ⟨o, h⟩) | h
  · exact .inl (.inl (e _ _ h))
  · exact .inl (.inr ⟨o, e _ _ h⟩)
  · exact .inr h

section
variable {K : Fg} {F F' : Hp}
mutual
theorem Rp.mono (s : Same F F') : ∀ {d : D} {x : V}, Rp K F x d → Rp K F' x d
  | _, _, .non => .non
  | _, _, .bl b => .bl b
  | _, _, .int i => .int i
  | _, _, .str x h l => .str x h l
  | _, _, .lst h l r => .lst (s.seq h) l (RpA.mono s r)
  | _, _, .tup h l r => .tup (seqT s h) l (RpA.mono s r)
  | _, _, .dic h l r => .dic (s _ _ h) l (RpD.mono s r)
theorem RpA.mono (s : Same F F') : ∀ {ds : List D} {xs : List V}, RpA K F xs ds → RpA K F' xs ds
  | _, _, .nil => .nil
  | _, _, .cons h t => .cons (Rp.mono s h) (RpA.mono s t)
theorem RpD.mono (s : Same F F') : ∀ {ps : List (D × D)} {kvs : List (Key × V)}, RpD K F kvs ps → RpD K F' kvs ps
  | _, _, .nil => .nil
  | _, _, .cons h h2 t => .cons (Rp.mono s h) (Rp.mono s h2) (RpD.mono s t)
end
theorem RpA.length : ∀ {xs : List V} {ds : List D}, RpA K F xs ds → xs.length = ds.length
  | _, _, .nil => rfl
  | _, _, .cons _ t => by simp [RpA.length t]
theorem RpA.get : ∀ {xs : List V} {ds : List D} {i : Nat} {d : D}, RpA K F xs ds → ds[i]? = some d → ∃ x, xs[i]? = some x ∧ Rp K F x d
  | _, _, _, _, .nil, e => by simp at e
  | _, _, 0, _, .cons h _, e => by simp at e; subst e; exact ⟨_, rfl, h⟩
  | _, _, i + 1, _, .cons _ t, e => by
    obtain ⟨x, h1, h2⟩ := RpA.get (i := i) t (by simpa using e)
    exact ⟨x, by simpa using h1, h2⟩
theorem RpA.getV : ∀ {xs : List V} {ds : List D} {i : Nat} {x : V}, RpA K F xs ds → xs[i]? = some x → ∃ d, ds[i]? = some d ∧ Rp K F x d
  | _, _, _, _, .nil, e => by simp at e
  | _, _, 0, _, .cons h _, e => by simp at e; subst e; exact ⟨_, rfl, h⟩
  | _, _, i + 1, _, .cons _ t, e => by
    obtain ⟨x, h1, h2⟩ := RpA.getV (i := i) t (by simpa using e)
    exact ⟨x, by simpa using h1, h2⟩
theorem RpA.append : ∀ {xs ys : List V} {ds es : List D}, RpA K F xs ds → RpA K F ys es → RpA K F (xs ++ ys) (ds ++ es)
  | _, _, _, _, .nil, s => s
  | _, _, _, _, .cons r t, s => .cons r (RpA.append t s)
theorem RpA.take : ∀ {xs : List V} {ds : List D} (n : Nat), RpA K F xs ds → RpA K F (xs.take n) (ds.take n)
  | _, _, 0, _ => .nil
  | _, _, _ + 1, .nil => .nil
  | _, _, n + 1, .cons r t => .cons r (RpA.take n t)
theorem RpA.drop : ∀ {xs : List V} {ds : List D} (n : Nat), RpA K F xs ds → RpA K F (xs.drop n) (ds.drop n)
  | _, _, 0, r => r
  | _, _, _ + 1, .nil => .nil
  | _, _, n + 1, .cons _ t => RpA.drop n t
theorem RpA.set : ∀ {xs : List V} {ds : List D} {x : V} {d : D} (n : Nat), Rp K F x d → RpA K F xs ds → RpA K F (xs.set n x) (ds.set n d)
  | _, _, _, _, _, _, .nil => .nil
  | _, _, _, _, 0, h, .cons _ t => .cons h t
  | _, _, _, _, n + 1, h, .cons r t => .cons r (RpA.set n h t)
theorem RpA.rev : ∀ {xs : List V} {ds : List D}, RpA K F xs ds → RpA K F xs.reverse ds.reverse
  | _, _, .nil => .nil
  | _, _, .cons r t => by
    rw [List.reverse_cons, List.reverse_cons]
    exact (RpA.rev t).append (.cons r .nil)
/-- as the library's own relation -/
def noD : D → Bool := fun d => d.canLay0
mutual
theorem Rp.dp : ∀ {d : D} {x : V}, Rp K F x d → d.canLay0 = true → Dp K F x d
  | _, _, .non, _ => .non
  | _, _, .bl b, _ => .bl b
  | _, _, .int i, _ => .int i
  | _, _, .str x _ _, _ => .str x
  | _, _, .lst h l r, c => .lst h (RpA.dp r (by simpa [PyData.canLay0] using c))
  | _, _, .tup h l r, c => .tup h (RpA.dp r (by simpa [PyData.canLay0] using c))
  | _, _, .dic h l r, c => by simp [PyData.canLay0] at c
theorem RpA.dp : ∀ {ds : List D} {xs : List V}, RpA K F xs ds → PyData.canLayAll0 ds = true → DpAll K F xs ds
  | _, _, .nil, _ => .nil
  | _, _, .cons h t, c => by
    simp only [PyData.canLayAll0, Bool.and_eq_true] at c
    exact .cons (Rp.dp h c.1) (RpA.dp t c.2)
end
end

structure Ext (F H F' H' : Hp) : Prop where
  ff : Same F F'
  hh : Same H H'
  nw : ∀ a, F a = none → H a ≠ none → F' a = none
  fh : Same F' H'
theorem Ext.refl {F H : Hp} (h : Same F H) : Ext F H F H := ⟨.refl _, .refl _, fun _ h _ => h, h⟩
theorem Ext.trans {F H F1 H1 F2 H2 : Hp} (a : Ext F H F1 H1) (b : Ext F1 H1 F2 H2) : Ext F H F2 H2 :=
  ⟨a.ff.trans b.ff, a.hh.trans b.hh, fun c h1 h2 => b.nw c (a.nw c h1 h2) (fun z => by
    cases q : H c with
    | none => exact h2 q
    | some o => rw [a.hh _ _ q] at z; cases z), b.fh⟩
theorem same_upd' {H : Hp} {p : Addr} {o : HO} (h : H p = none) : Same H (upd H p o) := fun b x e => by rw [upd_ne (ne_of_none e h)]; exact e
theorem same_upd2 {F H : Hp} {p : Addr} {o : HO} (s : Same F H) : Same (upd F p o) (upd H p o) := fun b x e => by
  by_cases hb : b = p
  · subst hb; rw [upd_same] at e ⊢; exact e
  · rw [upd_ne hb] at e ⊢; exact s _ _ e
theorem free_of {F H : Hp} (s : Same F H) {p : Addr} (h : H p = none) : F p = none := by
  cases q : F p with
  | none => rfl
  | some o => rw [s _ _ q] at h; cases h
/-- a new object, not yet of the frozen part -/
theorem Ext.new {F H : Hp} {p : Addr} {o : HO} (s : Same F H) (h : H p = none) : Ext F H F (upd H p o) :=
  ⟨.refl _, same_upd' h, fun _ q _ => q, s.trans (same_upd' h)⟩
theorem Ext.newF {F H : Hp} {p : Addr} {o : HO} (s : Same F H) (h : H p = none) : Ext F H (upd F p o) (upd H p o) :=
  ⟨same_upd' (free_of s h), same_upd' h, fun a q1 q2 => by
    have ne : a ≠ p := fun z => by subst z; exact q2 h
    rw [upd_ne ne]; exact q1, same_upd2 s⟩
/-- an object that was laid behind H joins the frozen part -/
theorem Ext.freeze {F H F' H' : Hp} {p : Addr} {o : HO} (e : Ext F H F' H') (h : H p = none) (hp : H' p = some o) (fp : F' p = none) : Ext F H (upd F' p o) H' :=
  ⟨e.ff.trans (same_upd' fp), e.hh, fun a q1 q2 => by
    have ne : a ≠ p := fun z => by subst z; exact q2 h
    rw [upd_ne ne]; exact e.nw a q1 q2, fun b x q => by
    by_cases hb : b = p
    · subst hb; rw [upd_same] at q; rw [hp]; exact q
    · rw [upd_ne hb] at q; exact e.fh _ _ q⟩

inductive Mode | sh | bo | fr
  deriving DecidableEq
/-- what a changing object holds -/
inductive OwnO (K : Fg) (F : Hp) : HO → D → Prop
  | lst {xs : List V} {ds : List D} : xs.length ≤ sizeLine → RpA K F xs ds → OwnO K F (.lst xs) (.list ds)
  | dic {kvs : List (Key × V)} {ps : List (D × D)} : kvs.length ≤ sizeLine → RpD K F kvs ps → OwnO K F (.dK kvs) (.dict ps)
theorem OwnO.mono {K : Fg} {F F' : Hp} {o : HO} {d : D} (s : Same F F') : OwnO K F o d → OwnO K F' o d
  | .lst l r => .lst l (r.mono s)
  | .dic l r => .dic l (r.mono s)
theorem OwnO.rp {K : Fg} {F : Hp} {a : Addr} {o : HO} {d : D} (h : F a = some o) : OwnO K F o d → Rp K F (.ref a) d
  | .lst l r => .lst (SqL.of h) l r
  | .dic l r => .dic h l r
/-- a value that is new for sure (or no list, no dict) -/
def isMut : D → Bool
  | .list _ => true
  | .dict _ => true
  | _ => false
/-- H0: where it is new -/
def RM (m : Mode) (K : Fg) (F H0 H : Hp) (x : V) (d : D) : Prop :=
  match m with
  | .sh => Rp K F x d
  | .bo => Rp K F x d ∨ ∃ a o, x = .ref a ∧ H a = some o ∧ OwnO K F o d
  | .fr => (isMut d = false ∧ Rp K F x d) ∨ ∃ a o, x = .ref a ∧ H a = some o ∧ OwnO K F o d ∧ F a = none ∧ H0 a = none
section
variable {K : Fg} {F H0 H F' H' : Hp} {x : V} {d : D}
theorem RM.ext {m : Mode} (e : Ext F H F' H') (h : RM m K F H0 H x d) : RM m K F' H0 H' x d := by
  cases m with
  | sh => exact Rp.mono e.ff h
  | bo =>
    rcases h with h | ⟨a, o, h1, h2, h3⟩
    · exact .inl (Rp.mono e.ff h)
    · exact .inr ⟨a, o, h1, e.hh _ _ h2, h3.mono e.ff⟩
  | fr =>
    rcases h with ⟨h0, h⟩ | ⟨a, o, h1, h2, h3, h4, h5⟩
    · exact .inl ⟨h0, Rp.mono e.ff h⟩
    · exact .inr ⟨a, o, h1, e.hh _ _ h2, h3.mono e.ff, e.nw a h4 (by rw [h2]; exact fun z => nomatch z), h5⟩
theorem RM.bo_of (m : Mode) (h : RM m K F H0 H x d) : RM .bo K F H0 H x d := by
  cases m with
  | sh => exact .inl h
  | bo => exact h
  | fr =>
    rcases h with ⟨_, h⟩ | ⟨a, o, h1, h2, h3, _⟩
    · exact .inl h
    · exact .inr ⟨a, o, h1, h2, h3⟩
/-- a fresh value joins the frozen part -/
theorem RM.share (e : Ext F H F' H') (h : RM .fr K F' H H' x d) : ∃ F2, Ext F H F2 H' ∧ Rp K F2 x d := by
  rcases h with ⟨_, h⟩ | ⟨a, o, rfl, h2, h3, h4, h5⟩
  · exact ⟨F', e, h⟩
  · exact ⟨_, e.freeze h5 h2 h4, (h3.mono (same_upd' h4)).rp upd_same⟩
end

structure SR (K : Fg) (F0 H0 : Hp) (O : List Nat) (F H : Hp) (σ : L2.St) (ρ : Lo) : Prop where
  e0 : Ext F0 H0 F H
  len : σ.length = ρ.length
  sh : ∀ i v, i ∉ O → ρ[i]? = some (some v) → ∃ x, σ[i]? = some (some x) ∧ Rp K F x v
  ow : ∀ i v, i ∈ O → ρ[i]? = some (some v) → ∃ a o, σ[i]? = some (some (.ref a)) ∧ H a = some o ∧ OwnO K F o v ∧ F a = none ∧ H0 a = none
  dj : ∀ i j v w a, i ∈ O → j ∈ O → i ≠ j → ρ[i]? = some (some v) → ρ[j]? = some (some w) → σ[i]? = some (some (.ref a)) → σ[j]? = some (some (.ref a)) → False
section
variable {K : Fg} {F0 H0 F H F' H' : Hp} {O : List Nat} {σ : L2.St} {ρ : Lo}
theorem SR.sub (s : SR K F0 H0 O F H σ ρ) : Same F H := s.e0.fh
theorem SR.ext (s : SR K F0 H0 O F H σ ρ) (e : Ext F H F' H') : SR K F0 H0 O F' H' σ ρ := by
  refine ⟨s.e0.trans e, s.len, fun i v h1 h2 => ?_, fun i v h1 h2 => ?_, s.dj⟩
  · obtain ⟨x, h3, h4⟩ := s.sh i v h1 h2
    exact ⟨x, h3, h4.mono e.ff⟩
  · obtain ⟨a, o, h3, h4, h5, h6, h7⟩ := s.ow i v h1 h2
    exact ⟨a, o, h3, e.hh _ _ h4, h5.mono e.ff, e.nw a h6 (by rw [h4]; exact fun z => nomatch z), h7⟩
/-- one owned slot is shared from now on -/
theorem SR.freeze1 (i : Nat) (s : SR K F0 H0 O F H σ ρ) : ∃ F', Same F F' ∧ SR K F0 H0 (O.filter fun j => j != i) F' H σ ρ := by
  by_cases hi : i ∈ O ∧ ∃ v, ρ[i]? = some (some v)
  · obtain ⟨hi, v, hv⟩ := hi
    obtain ⟨a, o, h1, h2, h3, h4, h5⟩ := s.ow i v hi hv
    refine ⟨upd F a o, same_upd' h4, ⟨s.e0.freeze h5 h2 h4, s.len, fun j w h6 h7 => ?_, fun j w h6 h7 => ?_, fun j k w w' b h6 h7 => ?_⟩⟩
    · by_cases hj : j = i
      · subst hj
        rw [hv] at h7; cases h7
        exact ⟨_, h1, (h3.mono (same_upd' h4)).rp upd_same⟩
      · have hj' : j ∉ O := fun z => h6 (by simp [z, hj])
        obtain ⟨x, h8, h9⟩ := s.sh j w hj' h7
        exact ⟨x, h8, h9.mono (same_upd' h4)⟩
    · simp at h6
      obtain ⟨b, p, h8, h9, h10, h11, h12⟩ := s.ow j w h6.1 h7
      refine ⟨b, p, h8, h9, h10.mono (same_upd' h4), ?_, h12⟩
      rw [upd_ne]
      · exact h11
      · intro z
        subst z
        exact s.dj j i w v b h6.1 hi h6.2 h7 hv h8 h1
    · simp at h6 h7
      exact s.dj j k w w' b h6.1 h7.1
  · refine ⟨F, .refl _, ⟨s.e0, s.len, fun j w h6 h7 => ?_, fun j w h6 h7 => ?_, fun j k w w' b h6 h7 => ?_⟩⟩
    · refine s.sh j w (fun z => ?_) h7
      by_cases hj : j = i
      · subst hj; exact hi ⟨z, w, h7⟩
      · exact h6 (by simp [z, hj])
    · simp at h6; exact s.ow j w h6.1 h7
    · simp at h6 h7
      exact s.dj j k w w' b h6.1 h7.1
theorem SR.drop (I : List Nat) : ∀ {O : List Nat} {F : Hp}, SR K F0 H0 O F H σ ρ → ∃ F', Same F F' ∧ SR K F0 H0 (O.filter fun j => !I.contains j) F' H σ ρ := by
  induction I with
  | nil =>
    intro O F s
    have e : O.filter (fun j => !([] : List Nat).contains j) = O := List.filter_eq_self.mpr (by simp)
    exact ⟨F, .refl _, by rw [e]; exact s⟩
  | cons i I ih =>
    intro O F s
    obtain ⟨F1, e1, s1⟩ := s.freeze1 i
    obtain ⟨F2, e2, s2⟩ := ih s1
    refine ⟨F2, e1.trans e2, ?_⟩
    rw [List.filter_filter] at s2
    have : (fun j => !(i :: I).contains j) = fun a => (!I.contains a) && (a != i) := by
      funext a
      simp only [List.contains_cons, Bool.not_or, bne]
      rw [Bool.and_comm]
    rw [this]; exact s2
/-- all owned slots shared -/
theorem SR.all (s : SR K F0 H0 O F H σ ρ) : ∃ F', Same F F' ∧ SR K F0 H0 [] F' H σ ρ := by
  obtain ⟨F', e, s'⟩ := s.drop O
  have : O.filter (fun j => !O.contains j) = [] := by simp
  rw [this] at s'
  exact ⟨F', e, s'⟩
/-- a shared value is stored -/
theorem SR.setS {i : Nat} {x : V} {v : D} (s : SR K F0 H0 O F H σ ρ) (hi : i ∉ O) (h : Rp K F x v) : SR K F0 H0 O F H (σ.set i (some x)) (ρ.set i (some v)) := by
  refine ⟨s.e0, by simp [s.len], fun j w h1 h2 => ?_, fun j w h1 h2 => ?_, fun j k w w' b h1 h2 h3 h4 h5 h6 h7 => ?_⟩
  · by_cases hj : j = i
    · subst hj
      have hl : j < ρ.length := by have := (List.getElem?_eq_some_iff.mp h2).1; simpa using this
      rw [List.getElem?_set_self hl] at h2; cases h2
      exact ⟨x, by rw [List.getElem?_set_self (by rw [s.len]; exact hl)], h⟩
    · rw [List.getElem?_set_ne (Ne.symm hj)] at h2 ⊢
      exact s.sh j w h1 h2
  · have hj : j ≠ i := fun z => hi (z ▸ h1)
    rw [List.getElem?_set_ne (Ne.symm hj)] at h2 ⊢
    exact s.ow j w h1 h2
  · have hj : j ≠ i := fun z => hi (z ▸ h1)
    have hk : k ≠ i := fun z => hi (z ▸ h2)
    rw [List.getElem?_set_ne (Ne.symm hj)] at h4 h6
    rw [List.getElem?_set_ne (Ne.symm hk)] at h5 h7
    exact s.dj j k w w' b h1 h2 h3 h4 h5 h6 h7
/-- a slot is forgotten -/
theorem SR.wipe1 {i : Nat} (s : SR K F0 H0 O F H σ ρ) : SR K F0 H0 O F H (σ.set i none) (ρ.set i none) := by
  have key : ∀ j w, (ρ.set i none)[j]? = some (some w) → j ≠ i := fun j w h2 z => by
    subst z
    have hl : j < ρ.length := by have := (List.getElem?_eq_some_iff.mp h2).1; simpa using this
    rw [List.getElem?_set_self hl] at h2; cases h2
  refine ⟨s.e0, by simp [s.len], fun j w h1 h2 => ?_, fun j w h1 h2 => ?_, fun j k w w' b h1 h2 h3 h4 h5 h6 h7 => ?_⟩
  · have hj := key j w h2
    rw [List.getElem?_set_ne (Ne.symm hj)] at h2 ⊢
    exact s.sh j w h1 h2
  · have hj := key j w h2
    rw [List.getElem?_set_ne (Ne.symm hj)] at h2 ⊢
    exact s.ow j w h1 h2
  · have hj := key j w h4
    have hk := key k w' h5
    rw [List.getElem?_set_ne (Ne.symm hj)] at h4 h6
    rw [List.getElem?_set_ne (Ne.symm hk)] at h5 h7
    exact s.dj j k w w' b h1 h2 h3 h4 h5 h6 h7
/-- a slot whose value is fresh becomes an owned one -/
theorem SR.setO {i : Nat} {a : Addr} {o : HO} {v : D} (s : SR K F0 H0 O F H σ ρ) (h2 : H a = some o) (h3 : OwnO K F o v) (h4 : F a = none) (h5 : H0 a = none)
    (hn : ∀ j w, j ∈ O → j ≠ i → ρ[j]? = some (some w) → σ[j]? = some (some (.ref a)) → False) : SR K F0 H0 (i :: O.filter fun j => j != i) F H (σ.set i (some (.ref a))) (ρ.set i (some v)) := by
  have hO : ∀ j, j ∈ (i :: O.filter fun j => j != i) → j ≠ i → j ∈ O := fun j h z => by
    simp [z] at h; exact h
  refine ⟨s.e0, by simp [s.len], fun j w h1 h2 => ?_, fun j w h1 h2' => ?_, fun j k w w' b h1 h2 h3 h4 h5 h6 h7 => ?_⟩
  · have hj : j ≠ i := fun z => h1 (by simp [z])
    rw [List.getElem?_set_ne (Ne.symm hj)] at h2 ⊢
    exact s.sh j w (fun z => h1 (by simp [z, hj])) h2
  · by_cases hj : j = i
    · subst hj
      have hl : j < ρ.length := by have := (List.getElem?_eq_some_iff.mp h2').1; simpa using this
      rw [List.getElem?_set_self hl] at h2'; cases h2'
      exact ⟨a, o, by rw [List.getElem?_set_self (by rw [s.len]; exact hl)], h2, h3, h4, h5⟩
    · rw [List.getElem?_set_ne (Ne.symm hj)] at h2' ⊢
      exact s.ow j w (hO j h1 hj) h2'
  · by_cases hj : j = i
    · subst hj
      have hl : j < ρ.length := by have := (List.getElem?_eq_some_iff.mp h4).1; simpa using this
      rw [List.getElem?_set_self (by rw [s.len]; exact hl)] at h6
      cases h6
      rw [List.getElem?_set_ne h3] at h5 h7
      exact hn k w' (hO k h2 (Ne.symm h3)) (Ne.symm h3) h5 h7
    · by_cases hk : k = i
      · subst hk
        have hl : k < ρ.length := by have := (List.getElem?_eq_some_iff.mp h5).1; simpa using this
        rw [List.getElem?_set_self (by rw [s.len]; exact hl)] at h7
        cases h7
        rw [List.getElem?_set_ne (Ne.symm hj)] at h4 h6
        exact hn j w (hO j h1 hj) hj h4 h6
      · rw [List.getElem?_set_ne (Ne.symm hj)] at h4 h6
        rw [List.getElem?_set_ne (Ne.symm hk)] at h5 h7
        exact s.dj j k w w' b (hO j h1 hj) (hO k h2 hk) h3 h4 h5 h6 h7
/-- the object of an owned slot is changed -/
theorem SR.mut {i : Nat} {a : Addr} {o o' : HO} {v v' : D} (s : SR K F0 H0 O F H σ ρ) (hi : i ∈ O) (hv : ρ[i]? = some (some v)) (ha : σ[i]? = some (some (.ref a))) (h2 : H a = some o) (h4 : F a = none) (h5 : H0 a = none) (h3 : OwnO K F o' v') :
    SR K F0 H0 O F (upd H a o') σ (ρ.set i (some v')) := by
  have hl : i < ρ.length := (List.getElem?_eq_some_iff.mp hv).1
  refine ⟨⟨s.e0.ff, fun b x q => ?_, s.e0.nw, fun b x q => ?_⟩, by simp [s.len], fun j w h1 h2 => ?_, fun j w h1 h2' => ?_, fun j k w w' b h1 h2 h3 h4 h5 h6 h7 => ?_⟩
  · rw [upd_ne (ne_of_none q h5)]; exact s.e0.hh _ _ q
  · rw [upd_ne (ne_of_none q h4)]; exact s.e0.fh _ _ q
  · have hj : j ≠ i := fun z => h1 (z ▸ hi)
    rw [List.getElem?_set_ne (Ne.symm hj)] at h2
    exact s.sh j w h1 h2
  · by_cases hj : j = i
    · subst hj
      rw [List.getElem?_set_self hl] at h2'; cases h2'
      exact ⟨a, o', ha, upd_same, h3, h4, h5⟩
    · rw [List.getElem?_set_ne (Ne.symm hj)] at h2'
      obtain ⟨b, p, q1, q2, q3, q4, q5⟩ := s.ow j w h1 h2'
      refine ⟨b, p, q1, ?_, q3, q4, q5⟩
      rw [upd_ne]
      · exact q2
      · intro z; subst z
        exact s.dj j i w v b h1 hi hj h2' hv q1 ha
  · have h4' : ∃ w, ρ[j]? = some (some w) := by
      by_cases hj : j = i
      · subst hj; exact ⟨v, hv⟩
      · rw [List.getElem?_set_ne (Ne.symm hj)] at h4; exact ⟨_, h4⟩
    have h5' : ∃ w, ρ[k]? = some (some w) := by
      by_cases hj : k = i
      · subst hj; exact ⟨v, hv⟩
      · rw [List.getElem?_set_ne (Ne.symm hj)] at h5; exact ⟨_, h5⟩
    obtain ⟨w1, e1⟩ := h4'
    obtain ⟨w2, e2⟩ := h5'
    exact s.dj j k w1 w2 b h1 h2 h3 e1 e2 h6 h7
end
end PL

end
section
namespace PL
open PySem PySem.Spec PyProof.Rows L2

def Res.up {α : Type} : Option α → Res α
  | some a => .ok a
  | none => .bad
/-- an exception as data: its class's name and its fields -/
def excD (c : Str) (args : List (Str × D)) : D := .dict ((.str c, .none) :: args.map fun p => (.str p.1, p.2))
def ExRp (K : Fg) (mg : Str → Option Value) (F H : Hp) (cls : Value) (dd : Option Addr) (e : D) : Prop :=
  ∃ (c : Str) (args : List (Str × D)), e = excD c args ∧ mg c = some cls ∧
    (args = [] ∧ dd = none ∨ ∃ f v d x, args = [(f, v)] ∧ dd = some d ∧ H d = some (.xd [(f, x)]) ∧ Rp K F x v)

def EPost (X : Cx) (W : WX) (m : Mode) (F H : Hp) (σ : L2.St) (r : Res D) (Q : VK) : Prop :=
  match r with
  | .ok d => ∀ F' H' x, Ext F H F' H' → RM m X.K F' H H' x d → Q x H'
  | .exn e => ∀ F' H' cls dd, Ext F H F' H' → ExRp X.K X.mg F' H' cls dd e → W cls dd σ H'
  | .bad => False
def APost (X : Cx) (W : WX) (F H : Hp) (σ : L2.St) (r : Res (List D)) (Q : List V → Hp → Prop) : Prop :=
  match r with
  | .ok ds => ∀ F' H' xs, Ext F H F' H' → RpA X.K F' xs ds → Q xs H'
  | .exn e => ∀ F' H' cls dd, Ext F H F' H' → ExRp X.K X.mg F' H' cls dd e → W cls dd σ H'
  | .bad => False
def TPost (X : Cx) (W : WX) (F H : Hp) (σ : L2.St) (r : Res Bool) (Q : Bool → Hp → Prop) : Prop :=
  match r with
  | .ok b => ∀ F' H', Ext F H F' H' → Q b H'
  | .exn e => ∀ F' H' cls dd, Ext F H F' H' → ExRp X.K X.mg F' H' cls dd e → W cls dd σ H'
  | .bad => False
def VPost (K : Fg) (m : Mode) (F H : Hp) (r : Option D) (Q : VK) : Prop :=
  match r with
  | some d => ∀ F' H' x, Ext F H F' H' → RM m K F' H H' x d → Q x H'
  | none => False

def EJ (X : Cx) (W : WX) (O : List Nat) (m : Mode) (e : Expr) (d : DE) : Prop :=
  ∃ t, PE X e t ∧ ∀ F0 H0 F H σ ρ Q, SR X.K F0 H0 O F H σ ρ → EPost X W m F H σ (d ρ) Q → t σ H Q
def AJ (X : Cx) (W : WX) (O : List Nat) (es : List Expr) (d : DA) : Prop :=
  ∃ t, PA X es t ∧ ∀ F0 H0 F H σ ρ Q, SR X.K F0 H0 O F H σ ρ → APost X W F H σ (d ρ) Q → t σ H Q
def TJ (X : Cx) (W : WX) (O : List Nat) (e : Expr) (d : DT) : Prop :=
  ∃ t, PT X e t ∧ ∀ F0 H0 F H σ ρ Q, SR X.K F0 H0 O F H σ ρ → TPost X W F H σ (d ρ) Q → t σ H Q
def WJ (X : Cx) (W : WX) (O : List Nat) (e : Expr) (d : DT) : Prop :=
  ∃ t, PW X e t ∧ ∀ F0 H0 F H σ ρ Q, SR X.K F0 H0 O F H σ ρ → TPost X W F H σ (d ρ) Q → t σ H Q
/-- what every rule may ask of the place where it stands -/
structure Here (X : Cx) (W : WX) (k : Nat) : Prop where
  hr : Room k X.A
  calm : X.calm = true
  tk : Takes X W
  nd : X.N.Nodup
  hp : PassesOwn (model X.prog X.w) X.A X.env X.xe

section
variable {X : Cx} {W : WX} {m m1 m2 : Mode} {F H F1 H1 : Hp} {σ : L2.St} {Q : VK} {r : Res D}
theorem RM.back {K : Fg} {F H0 H0' H : Hp} {x : V} {d : D} (s : Same H0' H0) (h : RM m K F H0 H x d) : RM m K F H0' H x d := by
  cases m with
  | sh => exact h
  | bo => exact h
  | fr =>
    rcases h with h | ⟨a, o, h1, h2, h3, h4, h5⟩
    · exact .inl h
    · exact .inr ⟨a, o, h1, h2, h3, h4, free_of s h5⟩
theorem EPost.ext (e : Ext F H F1 H1) (h : EPost X W m F H σ r Q) : EPost X W m F1 H1 σ r Q := by
  cases r with
  | ok d => exact fun F' H' x e' rm => h F' H' x (e.trans e') (rm.back e.hh)
  | exn c => exact fun F' H' cls dd e' rm => h F' H' cls dd (e.trans e') rm
  | bad => exact h
theorem APost.ext {r : Res (List D)} {Q : List V → Hp → Prop} (e : Ext F H F1 H1) (h : APost X W F H σ r Q) : APost X W F1 H1 σ r Q := by
  cases r with
  | ok d => exact fun F' H' x e' rm => h F' H' x (e.trans e') rm
  | exn c => exact fun F' H' cls dd e' rm => h F' H' cls dd (e.trans e') rm
  | bad => exact h
theorem TPost.ext {r : Res Bool} {Q : Bool → Hp → Prop} (e : Ext F H F1 H1) (h : TPost X W F H σ r Q) : TPost X W F1 H1 σ r Q := by
  cases r with
  | ok d => exact fun F' H' e' => h F' H' (e.trans e')
  | exn c => exact fun F' H' cls dd e' rm => h F' H' cls dd (e.trans e') rm
  | bad => exact h
theorem EPost.up {v : Option D} (h : EPost X W m F H σ (Res.up v) Q) : VPost X.K m F H v Q := by
  cases v with
  | some d => exact h
  | none => exact h
/-- the first of two steps -/
theorem EPost.bindE {f : D → Res D} {R : VK} (s : Same F H) (h : EPost X W m F H σ (r.bind f) Q) (k : ∀ a F' H' x, r = .ok a → Ext F H F' H' → RM m1 X.K F' H H' x a → EPost X W m F' H' σ (f a) Q → R x H') : EPost X W m1 F H σ r R := by
  cases r with
  | ok a => exact fun F' H' x e rm => k a F' H' x rfl e rm (EPost.ext e h)
  | exn c => exact h
  | bad => exact h
theorem EPost.bindA {ra : Res (List D)} {f : List D → Res D} {R : List V → Hp → Prop} (h : EPost X W m F H σ (ra.bind f) Q) (k : ∀ a F' H' xs, ra = .ok a → Ext F H F' H' → RpA X.K F' xs a → EPost X W m F' H' σ (f a) Q → R xs H') : APost X W F H σ ra R := by
  cases ra with
  | ok a => exact fun F' H' x e rm => k a F' H' x rfl e rm (EPost.ext e h)
  | exn c => exact h
  | bad => exact h
theorem EPost.bindT {rb : Res Bool} {f : Bool → Res D} {R : Bool → Hp → Prop} (h : EPost X W m F H σ (rb.bind f) Q) (k : ∀ b F' H', rb = .ok b → Ext F H F' H' → EPost X W m F' H' σ (f b) Q → R b H') : TPost X W F H σ rb R := by
  cases rb with
  | ok a => exact fun F' H' e => k a F' H' rfl e (EPost.ext e h)
  | exn c => exact h
  | bad => exact h
theorem TPost.bindE {f : D → Res Bool} {Q : Bool → Hp → Prop} {R : VK} (h : TPost X W F H σ (r.bind f) Q) (k : ∀ a F' H' x, r = .ok a → Ext F H F' H' → RM m1 X.K F' H H' x a → TPost X W F' H' σ (f a) Q → R x H') : EPost X W m1 F H σ r R := by
  cases r with
  | ok a => exact fun F' H' x e rm => k a F' H' x rfl e rm (TPost.ext e h)
  | exn c => exact h
  | bad => exact h
theorem TPost.bindT {rb : Res Bool} {f : Bool → Res Bool} {Q R : Bool → Hp → Prop} (h : TPost X W F H σ (rb.bind f) Q) (k : ∀ b F' H', rb = .ok b → Ext F H F' H' → TPost X W F' H' σ (f b) Q → R b H') : TPost X W F H σ rb R := by
  cases rb with
  | ok a => exact fun F' H' e => k a F' H' rfl e (TPost.ext e h)
  | exn c => exact h
  | bad => exact h
theorem APost.bindE {f : D → Res (List D)} {Q : List V → Hp → Prop} {R : VK} (h : APost X W F H σ (r.bind f) Q) (k : ∀ a F' H' x, r = .ok a → Ext F H F' H' → RM m1 X.K F' H H' x a → APost X W F' H' σ (f a) Q → R x H') : EPost X W m1 F H σ r R := by
  cases r with
  | ok a => exact fun F' H' x e rm => k a F' H' x rfl e rm (APost.ext e h)
  | exn c => exact h
  | bad => exact h
theorem APost.bindA {ra : Res (List D)} {f : List D → Res (List D)} {Q R : List V → Hp → Prop} (h : APost X W F H σ (ra.bind f) Q) (k : ∀ a F' H' xs, ra = .ok a → Ext F H F' H' → RpA X.K F' xs a → APost X W F' H' σ (f a) Q → R xs H') : APost X W F H σ ra R := by
  cases ra with
  | ok a => exact fun F' H' x e rm => k a F' H' x rfl e rm (APost.ext e h)
  | exn c => exact h
  | bad => exact h
end

section
variable {X : Cx} {W : WX} {O : List Nat} {m m1 m2 : Mode} {e a b : Expr} {d da db : DE}
theorem EJ.fr_sh (h : EJ X W O .fr e d) : EJ X W O .sh e d := by
  obtain ⟨t, p, q⟩ := h
  refine ⟨t, p, fun F0 H0 F H σ ρ Q s po => q F0 H0 F H σ ρ Q s ?_⟩
  cases hd : d ρ with
  | ok v =>
    rw [hd] at po
    intro F' H' x e rm
    obtain ⟨F2, e2, r2⟩ := RM.share e rm
    exact po F2 H' x e2 r2
  | exn c => rw [hd] at po; exact po
  | bad => rw [hd] at po; exact po
theorem EJ.to_bo (h : EJ X W O m e d) : EJ X W O .bo e d := by
  obtain ⟨t, p, q⟩ := h
  refine ⟨t, p, fun F0 H0 F H σ ρ Q s po => q F0 H0 F H σ ρ Q s ?_⟩
  cases hd : d ρ with
  | ok v => rw [hd] at po; exact fun F' H' x e rm => po F' H' x e (RM.bo_of m rm)
  | exn c => rw [hd] at po; exact po
  | bad => rw [hd] at po; exact po
/-- a shared value that is no list and no dict is as good as fresh: used for results by values -/
theorem RM.of_sh {K : Fg} {F H0 H : Hp} {x : V} {d : D} (h : Rp K F x d) (hm : isMut d = false) : RM m K F H0 H x d := by
  cases m with
  | sh => exact h
  | bo => exact .inl h
  | fr => exact .inl ⟨hm, h⟩

def eVar (i : Nat) : DE := fun ρ => match ρ[i]? with
  | some (some v) => .ok v
  | _ => .bad
def eC (v : D) : DE := fun _ => .ok v
theorem ej_var {i : Nat} {x : Str} {pos : Pos} (hi : i ∉ O) (h : PE X (.Name x pos) (tVar i)) : EJ X W O .sh (.Name x pos) (eVar i) := by
  refine ⟨_, h, fun F0 H0 F H σ ρ Q s po => ?_⟩
  unfold eVar at po
  split at po
  · rename_i v hv
    obtain ⟨y, h1, h2⟩ := s.sh i v hi hv
    exact ⟨y, h1, po F H y (.refl s.sub) h2⟩
  · exact po.elim
theorem ej_own {i : Nat} {x : Str} {pos : Pos} (h : PE X (.Name x pos) (tVar i)) : EJ X W O .bo (.Name x pos) (eVar i) := by
  refine ⟨_, h, fun F0 H0 F H σ ρ Q s po => ?_⟩
  unfold eVar at po
  split at po
  · rename_i v hv
    by_cases hi : i ∈ O
    · obtain ⟨a, o, h1, h2, h3, _, _⟩ := s.ow i v hi hv
      exact ⟨_, h1, po F H _ (.refl s.sub) (.inr ⟨a, o, rfl, h2, h3⟩)⟩
    · obtain ⟨y, h1, h2⟩ := s.sh i v hi hv
      exact ⟨y, h1, po F H y (.refl s.sub) (.inl h2)⟩
  · exact po.elim
/-- a constant, a module's constant -/
theorem ej_c {v : V} {c : D} (h : PE X e (tC v)) (r : ∀ F, Rp X.K F v c) : EJ X W O .sh e (eC c) :=
  ⟨_, h, fun F0 H0 F H σ ρ Q s po => po F H v (.refl s.sub) (r F)⟩
theorem ej_int {i : Int} {j : Nat} {pos : Pos} : EJ X W O .sh (.Constant (.int i) j pos) (eC (.int i)) := ej_c pe_int fun _ => .int i
theorem ej_bl {i : Bool} {j : Nat} {pos : Pos} : EJ X W O .sh (.Constant (.bool i) j pos) (eC (.bool i)) := ej_c pe_bl fun _ => .bl i
theorem ej_non {j : Nat} {pos : Pos} : EJ X W O .sh (.Constant .none j pos) (eC .none) := ej_c pe_non fun _ => .non
theorem ej_str {x : Str} {j : Nat} {pos : Pos} (h : (PyData.strOk x && decide (x.length ≤ sizeLine)) = true) : EJ X W O .sh (.Constant (.str x) j pos) (eC (.str x)) := by
  have h' := Bool.and_eq_true_iff.mp h
  exact ej_c pe_str fun _ => .str x h'.1 (of_decide_eq_true h'.2)

def eUn (f : D → Option D) (da : DE) : DE := fun ρ => (da ρ).bind fun x => Res.up (f x)
def eBin (f : D → D → Option D) (da db : DE) : DE := fun ρ => (da ρ).bind fun x => (db ρ).bind fun y => Res.up (f x y)
theorem ej_un {f : D → Option D} {r : V → Hp → VK → Prop} (ha : EJ X W O m1 a da) (ru : ∀ t, PE X a t → PE X e (fun σ H Q => t σ H fun x H1 => r x H1 Q))
    (hv : ∀ F Hs H x v Q, Same F H → RM m1 X.K F Hs H x v → VPost X.K m F H (f v) Q → r x H Q) : EJ X W O m e (eUn f da) := by
  obtain ⟨t, p, q⟩ := ha
  refine ⟨_, ru t p, fun F0 H0 F H σ ρ Q s po => q F0 H0 F H σ ρ _ s (EPost.bindE (m1 := m1) s.sub po fun v F' H' x _ e rm po' => ?_)⟩
  exact hv F' H H' x v Q e.fh rm po'.up
theorem ej_bin {f : D → D → Option D} {r : R2} (ha : EJ X W O m1 a da) (hb : EJ X W O m2 b db) (ru : ∀ t u, PE X a t → PE X b u → PE X e (tOp r t u))
    (hv : ∀ F Hs Hs' H x v y w Q, Same F H → RM m1 X.K F Hs H x v → RM m2 X.K F Hs' H y w → VPost X.K m F H (f v w) Q → r x y H Q) : EJ X W O m e (eBin f da db) := by
  obtain ⟨t, p, q⟩ := ha
  obtain ⟨u, p2, q2⟩ := hb
  refine ⟨_, ru t u p p2, fun F0 H0 F H σ ρ Q s po => q F0 H0 F H σ ρ _ s (EPost.bindE (m1 := m1) s.sub po fun v F' H' x _ e rm po' => ?_)⟩
  refine q2 F0 H0 F' H' σ ρ _ (s.ext e) (EPost.bindE (m1 := m2) e.fh po' fun w F2 H2 y _ e2 rm2 po2 => ?_)
  exact hv F2 H H' H2 x v y w Q e2.fh (rm.ext e2) rm2 po2.up
/-- two readings of one expression -/
theorem pe_or2 {t u : TE} (h : PE X e t) (h' : PE X e u) : PE X e (fun σ H Q => t σ H Q ∨ u σ H Q) := by
  refine ⟨fun pins s σ H Q I hw => ?_⟩
  rcases hw with hw | hw
  · exact h.run pins s σ H Q I hw
  · exact h'.run pins s σ H Q I hw
end
end PL

end
section
namespace PL
open PySem PySem.Spec PyProof.Rows L2

section
variable {K : Fg} {F Hs H : Hp} {x : V}
theorem bo_int {i : Int} (h : RM .bo K F Hs H x (.int i)) : x = .int i := by
  rcases h with h | ⟨a, o, _, _, h⟩
  · cases h; rfl
  · cases h
theorem bo_bool {i : Bool} (h : RM .bo K F Hs H x (.bool i)) : x = .bl i := by
  rcases h with h | ⟨a, o, _, _, h⟩
  · cases h; rfl
  · cases h
theorem bo_none (h : RM .bo K F Hs H x .none) : x = .non := by
  rcases h with h | ⟨a, o, _, _, h⟩
  · cases h; rfl
  · cases h
theorem bo_str {z : Str} (h : RM .bo K F Hs H x (.str z)) : x = .str z ∧ PyData.strOk z = true ∧ z.length ≤ sizeLine := by
  rcases h with h | ⟨a, o, _, _, h⟩
  · cases h with
    | str _ h1 h2 => exact ⟨rfl, h1, h2⟩
  · cases h
theorem bo_list {ds : List D} (s : Same F H) (h : RM .bo K F Hs H x (.list ds)) : ∃ a xs, x = .ref a ∧ SqL K H a xs ∧ xs.length ≤ sizeLine ∧ RpA K F xs ds := by
  rcases h with h | ⟨a, o, e, h1, h⟩
  · cases h with
    | lst h1 h2 h3 => exact ⟨_, _, rfl, s.seq h1, h2, h3⟩
  · cases h with
    | lst h2 h3 => exact ⟨_, _, e, SqL.of h1, h2, h3⟩
theorem bo_tup {ds : List D} (s : Same F H) (h : RM .bo K F Hs H x (.tuple ds)) : ∃ a xs, x = .ref a ∧ SqT K H a xs ∧ SqT K F a xs ∧ xs.length ≤ sizeLine ∧ RpA K F xs ds := by
  rcases h with h | ⟨a, o, e, h1, h⟩
  · cases h with
    | tup h1 h2 h3 => exact ⟨_, _, rfl, seqT s h1, h1, h2, h3⟩
  · cases h
theorem bo_dict {ps : List (D × D)} (s : Same F H) (h : RM .bo K F Hs H x (.dict ps)) : ∃ a kvs, x = .ref a ∧ H a = some (.dK kvs) ∧ kvs.length ≤ sizeLine ∧ RpD K F kvs ps := by
  rcases h with h | ⟨a, o, e, h1, h⟩
  · cases h with
    | dic h1 h2 h3 => exact ⟨_, _, rfl, s _ _ h1, h2, h3⟩
  · cases h with
    | dic h2 h3 => exact ⟨_, _, e, h1, h2, h3⟩
theorem rpa_ints : ∀ {ns : List Int} {xs : List V}, RpA K F xs (ns.map PyData.int) → xs = ns.map V.int
  | [], _, .nil => rfl
  | _ :: _, _, .cons h t => by
    cases h
    rw [rpa_ints t]; rfl
theorem ints_rpa : ∀ (ns : List Int), RpA K F (ns.map V.int) (ns.map PyData.int)
  | [] => .nil
  | n :: ns => .cons (.int n) (ints_rpa ns)
theorem rpa_bools : ∀ {bs : List Bool} {xs : List V}, RpA K F xs (bs.map PyData.bool) → xs = bs.map V.bl
  | [], _, .nil => rfl
  | _ :: _, _, .cons h t => by
    cases h
    rw [rpa_bools t]; rfl
theorem rpa_strs : ∀ {bs : List Str} {xs : List V}, RpA K F xs (bs.map PyData.str) → xs = bs.map V.str ∧ ∀ z ∈ bs, PyData.strOk z = true ∧ z.length ≤ sizeLine
  | [], _, .nil => ⟨rfl, by simp⟩
  | _ :: _, _, .cons h t => by
    cases h with
    | str _ h1 h2 =>
      obtain ⟨e, q⟩ := rpa_strs t
      refine ⟨by rw [e]; rfl, fun z hz => ?_⟩
      rcases List.mem_cons.mp hz with rfl | hz
      · exact ⟨h1, h2⟩
      · exact q z hz
theorem strs_rpa : ∀ (bs : List Str), (∀ z ∈ bs, PyData.strOk z = true ∧ z.length ≤ sizeLine) → RpA K F (bs.map V.str) (bs.map PyData.str)
  | [], _ => .nil
  | n :: ns, h => .cons (.str n (h n (by simp)).1 (h n (by simp)).2) (strs_rpa ns fun z hz => h z (by simp [hz]))
end

/-- all ints -/
def allInt : List D → Option (List Int)
  | [] => some []
  | .int i :: r => (allInt r).map (i :: ·)
  | _ => none
theorem allInt_some : ∀ {ds : List D} {ns : List Int}, allInt ds = some ns → ds = ns.map PyData.int
  | [], ns, h => by cases h; rfl
  | .int i :: r, ns, h => by
    unfold allInt at h
    cases q : allInt r with
    | none => rw [q] at h; cases h
    | some ms => rw [q] at h; cases h; rw [allInt_some q]; rfl
  | .none :: r, ns, h => by cases h
  | .bool _ :: r, ns, h => by cases h
  | .str _ :: r, ns, h => by cases h
  | .list _ :: r, ns, h => by cases h
  | .tuple _ :: r, ns, h => by cases h
  | .dict _ :: r, ns, h => by cases h
@[simp] theorem allInt_map : ∀ (ns : List Int), allInt (ns.map PyData.int) = some ns
  | [] => rfl
  | n :: ns => by simp [allInt, allInt_map ns]
def allBool : List D → Option (List Bool)
  | [] => some []
  | .bool i :: r => (allBool r).map (i :: ·)
  | _ => none
theorem allBool_some : ∀ {ds : List D} {ns : List Bool}, allBool ds = some ns → ds = ns.map PyData.bool
  | [], ns, h => by cases h; rfl
  | .bool i :: r, ns, h => by
    unfold allBool at h
    cases q : allBool r with
    | none => rw [q] at h; cases h
    | some ms => rw [q] at h; cases h; rw [allBool_some q]; rfl
  | .none :: r, ns, h => by cases h
  | .int _ :: r, ns, h => by cases h
  | .str _ :: r, ns, h => by cases h
  | .list _ :: r, ns, h => by cases h
  | .tuple _ :: r, ns, h => by cases h
  | .dict _ :: r, ns, h => by cases h
@[simp] theorem allBool_map : ∀ (ns : List Bool), allBool (ns.map PyData.bool) = some ns
  | [] => rfl
  | n :: ns => by simp [allBool, allBool_map ns]
def allStr : List D → Option (List Str)
  | [] => some []
  | .str i :: r => (allStr r).map (i :: ·)
  | _ => none
theorem allStr_some : ∀ {ds : List D} {ns : List Str}, allStr ds = some ns → ds = ns.map PyData.str
  | [], ns, h => by cases h; rfl
  | .str i :: r, ns, h => by
    unfold allStr at h
    cases q : allStr r with
    | none => rw [q] at h; cases h
    | some ms => rw [q] at h; cases h; rw [allStr_some q]; rfl
  | .none :: r, ns, h => by cases h
  | .int _ :: r, ns, h => by cases h
  | .bool _ :: r, ns, h => by cases h
  | .list _ :: r, ns, h => by cases h
  | .tuple _ :: r, ns, h => by cases h
  | .dict _ :: r, ns, h => by cases h
@[simp] theorem allStr_map : ∀ (ns : List Str), allStr (ns.map PyData.str) = some ns
  | [] => rfl
  | n :: ns => by simp [allStr, allStr_map ns]

def mulOk (i j : Int) : Bool := decide (i.natAbs.log2 + j.natAbs.log2 < 1000000)
def vAdd : D → D → Option D
  | .int i, .int j => some (.int (i + j))
  | .str a, .str b => if a.length + b.length ≤ sizeLine then some (.str (a ++ b)) else none
  | .list a, .list b => if a.length + b.length ≤ sizeLine then some (.list (a ++ b)) else none
  | .tuple a, .tuple b => if a.length + b.length ≤ sizeLine then some (.tuple (a ++ b)) else none
  | _, _ => none
def vSub : D → D → Option D
  | .int i, .int j => some (.int (i - j))
  | _, _ => none
def vMul : D → D → Option D
  | .int i, .int j => if mulOk i j = true then some (.int (i * j)) else none
  | _, _ => none
def vDiv : D → D → Option D
  | .int i, .int j => if 0 < j then (if j.natAbs.log2 < 9000 then some (.int (i / j)) else none) else if j < 0 ∧ j.natAbs < 1073741824 then some (.int (i.fdiv j)) else none
  | _, _ => none
def vMod : D → D → Option D
  | .int i, .int j => if 0 < j then some (.int (i % j)) else if j < 0 then some (.int (i.fmod j)) else none
  | _, _ => none
def vPow : D → D → Option D
  | .int i, .int j => if 0 ≤ j ∧ j ≤ 1000000 ∧ i.natAbs < 2 ^ 64 then some (.int (i ^ j.toNat)) else none
  | _, _ => none
def vNeg : D → Option D
  | .int i => some (.int (-i))
  | _ => none

theorem strOk_append {a b : Str} (h : PyData.strOk a = true) (h' : PyData.strOk b = true) : PyData.strOk (a ++ b) = true := by
  unfold PyData.strOk at *
  have e : (a ++ b).cps = a.cps ++ b.cps := rfl
  rw [e, Array.all_append, h, h']; rfl
theorem str_len_append (a b : Str) : (a ++ b).length = a.length + b.length := by
  show (a.cps ++ b.cps).size = _
  rw [Array.size_append]; rfl

section
variable {X : Cx} {W : WX} {O : List Nat} {m m1 m2 : Mode} {e a b : Expr} {d da db : DE} {pos : Pos}
/-- list + list, whatever the lists are -/
def rCatL (K : Fg) : R2 := fun x y H Q => ∃ l b xs zs, x = .ref l ∧ y = .ref b ∧ SqL K H l xs ∧ SqL K H b zs ∧ xs.length + zs.length ≤ sizeLine ∧ ∀ p, H p = none → Q (.ref p) (upd H p (.lst (xs ++ zs)))
theorem op_catL : OpR X (binaryOp .Add) (rCatL X.K) := by
  intro pins s σ H x y v u Q I rx ry h
  obtain ⟨l, b, xs, zs, rfl, rfl, hH, hB, hz, q⟩ := h
  cases rx
  cases ry
  obtain ⟨its, r, p1, _⟩ := I.list hH
  obtain ⟨its2, r2, p2, _⟩ := I.list hB
  obtain ⟨⟨cls, dd, data, sl⟩, ho, hc, n, hd⟩ := id p1.isList
  obtain ⟨⟨cls2, dd2, data2, sl2⟩, ho2, hc2, n2, hd2⟩ := id p2.isList
  simp only at hc hd hc2 hd2
  subst hc hd hc2 hd2
  have e : its.toArray ++ its2.toArray = (its ++ its2).toArray := by simp
  have l1 := r.length
  have l2 := r2.length
  refine PySem.concat_meets ⟨_, ho, rfl⟩ ⟨_, ho2, rfl⟩ PySem.noFill_list_add PySem.seq_list_add PySem.F.slot_list_add PySem.F.entry_list_add (PySem.F.args_list_add_2 _ _) (list_addW l b its.toArray its2.toArray n n2 dd dd2 sl sl2 (by rw [List.size_toArray, List.size_toArray]; omega)) ⟨ho, ho2, ?_⟩
  rw [e]
  exact ⟨.ref _, _, I.lnew (t' := s.toks) (r.append r2) (by rw [List.length_append]; omega), rfl, q _ I.fresh⟩
theorem ej_add (ha : EJ X W O .bo a da) (hb : EJ X W O .bo b db) : EJ X W O .fr (.BinOp a .Add b pos) (eBin vAdd da db) := by
  refine ej_bin (r := fun x y H Q => rI0 (fun i j => .int (i + j)) x y H Q ∨ (∃ i j, x = .str i ∧ y = .str j ∧ i.length + j.length ≤ sizeLine ∧ Q (.str (i ++ j)) H) ∨ rCatL X.K x y H Q ∨ rCatA X.K x y H Q) ha hb
    (fun t u h1 h2 => pe_op (op_add.or (op_add_str.or (op_catL.or op_catA))) h1 h2) fun F Hs Hs' H x v y w Q s r1 r2 po => ?_
  unfold vAdd at po
  split at po
  · cases bo_int r1; cases bo_int r2
    exact .inl ⟨_, _, rfl, rfl, po F H _ (.refl s) (RM.of_sh (.int _) rfl)⟩
  · obtain ⟨rfl, o1, l1⟩ := bo_str r1
    obtain ⟨rfl, o2, l2⟩ := bo_str r2
    split at po
    · rename_i hl
      exact .inr (.inl ⟨_, _, rfl, rfl, hl, po F H _ (.refl s) (RM.of_sh (.str _ (strOk_append o1 o2) (by rw [str_len_append]; exact hl)) rfl)⟩)
    · exact po.elim
  · obtain ⟨l, xs, rfl, h1, h2, h3⟩ := bo_list s r1
    obtain ⟨l', ys, rfl, h1', h2', h3'⟩ := bo_list s r2
    split at po
    · rename_i hl
      have hl' : xs.length + ys.length ≤ sizeLine := by rw [h3.length, h3'.length]; exact hl
      exact .inr (.inr (.inl ⟨_, _, _, _, rfl, rfl, h1, h1', hl', fun p hp => po F _ _ (.new s hp) (.inr ⟨p, _, rfl, upd_same, .lst (by rw [List.length_append]; exact hl') (h3.append h3'), free_of s hp, hp⟩)⟩))
    · exact po.elim
  · obtain ⟨l, xs, rfl, h1, g1, h2, h3⟩ := bo_tup s r1
    obtain ⟨l', ys, rfl, h1', g1', h2', h3'⟩ := bo_tup s r2
    split at po
    · rename_i hl
      have hl' : xs.length + ys.length ≤ sizeLine := by rw [h3.length, h3'.length]; exact hl
      refine .inr (.inr (.inr ⟨_, _, _, _, rfl, rfl, h1, h1', hl', fun e => ?_, fun ne e => ?_, fun ne ne' p hp => po (upd F p (.tup (xs ++ ys))) _ _ (.newF s hp) (RM.of_sh (.tup (SqT.of upd_same) (by rw [List.length_append]; exact hl') ((h3.append h3').mono (same_upd' (free_of s hp)))) rfl)⟩))
      · subst e
        cases h3
        exact po F H _ (.refl s) (RM.of_sh (.tup g1' h2' h3') rfl)
      · subst e
        cases h3'
        rw [List.append_nil] at po
        exact po F H _ (.refl s) (RM.of_sh (.tup g1 h2 h3) rfl)
    · exact po.elim
  · exact po.elim
theorem ej_sub (ha : EJ X W O .bo a da) (hb : EJ X W O .bo b db) : EJ X W O .sh (.BinOp a .Sub b pos) (eBin vSub da db) := by
  refine ej_bin ha hb (fun t u h1 h2 => pe_op op_sub h1 h2) fun F Hs Hs' H x v y w Q s r1 r2 po => ?_
  unfold vSub at po
  split at po
  · cases bo_int r1; cases bo_int r2
    exact ⟨_, _, rfl, rfl, po F H _ (.refl s) (.int _)⟩
  · exact po.elim
theorem ej_mul (ha : EJ X W O .bo a da) (hb : EJ X W O .bo b db) : EJ X W O .sh (.BinOp a .Mult b pos) (eBin vMul da db) := by
  refine ej_bin ha hb (fun t u h1 h2 => pe_op op_mulW h1 h2) fun F Hs Hs' H x v y w Q s r1 r2 po => ?_
  unfold vMul at po
  split at po
  · cases bo_int r1; cases bo_int r2
    split at po
    · rename_i hm
      exact ⟨_, _, rfl, rfl, (show CMulW _ _ from of_decide_eq_true (p := _ < 1000000) hm), po F H _ (.refl s) (.int _)⟩
    · exact po.elim
  · exact po.elim
theorem ej_div (ha : EJ X W O .bo a da) (hb : EJ X W O .bo b db) : EJ X W O .sh (.BinOp a .FloorDiv b pos) (eBin vDiv da db) := by
  refine ej_bin ha hb (fun t u h1 h2 => pe_op (op_fdivW.or op_fdivN) h1 h2) fun F Hs Hs' H x v y w Q s r1 r2 po => ?_
  unfold vDiv at po
  split at po
  · cases bo_int r1; cases bo_int r2
    split at po
    · rename_i h0
      split at po
      · rename_i h1
        exact .inl ⟨_, _, rfl, rfl, ⟨h0, h1⟩, po F H _ (.refl s) (.int _)⟩
      · exact po.elim
    · split at po
      · rename_i h1
        exact .inr ⟨_, _, rfl, rfl, ⟨by omega, h1.2⟩, po F H _ (.refl s) (.int _)⟩
      · exact po.elim
  · exact po.elim
theorem ej_mod (ha : EJ X W O .bo a da) (hb : EJ X W O .bo b db) : EJ X W O .sh (.BinOp a .Mod b pos) (eBin vMod da db) := by
  refine ej_bin ha hb (fun t u h1 h2 => pe_op (op_mod.or op_modN) h1 h2) fun F Hs Hs' H x v y w Q s r1 r2 po => ?_
  unfold vMod at po
  split at po
  · cases bo_int r1; cases bo_int r2
    split at po
    · rename_i h0
      exact .inl ⟨_, _, rfl, rfl, h0, po F H _ (.refl s) (.int _)⟩
    · split at po
      · rename_i h1
        exact .inr ⟨_, _, rfl, rfl, by omega, po F H _ (.refl s) (.int _)⟩
      · exact po.elim
  · exact po.elim
theorem ej_pow (ha : EJ X W O .bo a da) (hb : EJ X W O .bo b db) : EJ X W O .sh (.BinOp a .Pow b pos) (eBin vPow da db) := by
  refine ej_bin ha hb (fun t u h1 h2 => pe_op op_pow h1 h2) fun F Hs Hs' H x v y w Q s r1 r2 po => ?_
  unfold vPow at po
  split at po
  · cases bo_int r1; cases bo_int r2
    split at po
    · rename_i h0
      exact ⟨_, _, rfl, rfl, h0, po F H _ (.refl s) (.int _)⟩
    · exact po.elim
  · exact po.elim
theorem ej_neg (ha : EJ X W O .bo a da) : EJ X W O .sh (.UnaryOp .USub a pos) (eUn vNeg da) := by
  refine ej_un ha (fun t h1 => pe_un un_neg h1) fun F Hs H x v Q s r1 po => ?_
  unfold vNeg at po
  split at po
  · cases bo_int r1
    exact ⟨_, rfl, po F H _ (.refl s) (.int _)⟩
  · exact po.elim
end
end PL

end
section
namespace PL
open PySem PySem.Spec PyProof.Rows L2

mutual
def noDict : D → Bool
  | .dict _ => false
  | .list xs => noDicts xs
  | .tuple xs => noDicts xs
  | _ => true
def noDicts : List D → Bool
  | [] => true
  | x :: xs => noDict x && noDicts xs
end
def fine (d : D) : Bool := noDict d && decide (d.depth ≤ 64)
section
variable {K : Fg} {F Hs H : Hp}
mutual
theorem Rp.lay : ∀ {d : D} {x : V}, Rp K F x d → noDict d = true → d.canLay0 = true
  | _, _, .non, _ => by simp [PyData.canLay0]
  | _, _, .bl b, _ => by simp [PyData.canLay0]
  | _, _, .int i, _ => by simp [PyData.canLay0]
  | _, _, .str x h _, _ => by simpa [PyData.canLay0] using h
  | _, _, .lst h l r, c => by
    simp only [PyData.canLay0]
    exact RpA.lay r (by simpa [noDict] using c)
  | _, _, .tup h l r, c => by
    simp only [PyData.canLay0]
    exact RpA.lay r (by simpa [noDict] using c)
  | _, _, .dic h l r, c => by simp [noDict] at c
theorem RpA.lay : ∀ {ds : List D} {xs : List V}, RpA K F xs ds → noDicts ds = true → PyData.canLayAll0 ds = true
  | _, _, .nil, _ => by simp [PyData.canLayAll0]
  | _, _, .cons h t, c => by
    simp only [noDicts, Bool.and_eq_true] at c
    simp only [PyData.canLayAll0, Bool.and_eq_true]
    exact ⟨Rp.lay h c.1, RpA.lay t c.2⟩
end
theorem bo_lay {d : D} {x : V} (h : RM .bo K F Hs H x d) (c : noDict d = true) : d.canLay0 = true := by
  rcases h with h | ⟨a, o, _, _, h⟩
  · exact h.lay c
  · cases h with
    | lst _ r =>
      simp only [PyData.canLay0]
      exact r.lay (by simpa [noDict] using c)
    | dic _ _ => simp [noDict] at c
theorem bo_dp {d : D} {x : V} (s : Same F H) (h : RM .bo K F Hs H x d) (c : d.canLay0 = true) : Dp K H x d := by
  rcases h with h | ⟨a, o, e, h1, h⟩
  · exact (h.mono s).dp c
  · cases h with
    | lst _ r =>
      subst e
      exact .lst (SqL.of h1) ((r.mono s).dp (by simpa [PyData.canLay0] using c))
    | dic _ _ => simp [PyData.canLay0] at c
theorem bo_shaped {d : D} {x : V} (s : Same F H) (h : RM .bo K F Hs H x d) (c : fine d = true) : Dp K H x d ∧ SeqAt.shaped d = true := by
  unfold fine at c
  have c' := Bool.and_eq_true_iff.mp c
  have l := bo_lay h c'.1
  refine ⟨bo_dp s h l, ?_⟩
  unfold SeqAt.shaped
  rw [l]; exact c'.2
end

def vEq (v w : D) : Option D := if fine v = true ∧ fine w = true then some (.bool (PyData.eqv v w)) else none
def vNe (v w : D) : Option D := if fine v = true ∧ fine w = true then some (.bool (!PyData.eqv v w)) else none
def ltS (i j : Str) : Bool := decide (i.cps.toList < j.cps.toList)
def vLt : D → D → Option D
  | .int i, .int j => some (.bool (decide (i < j)))
  | .str i, .str j => some (.bool (ltS i j))
  | .tuple a, .tuple b => match allInt a, allInt b with
    | some ns, some ms => some (.bool (HT.lexLt ns ms))
    | _, _ => none
  | _, _ => none
def vLe : D → D → Option D
  | .int i, .int j => some (.bool (decide (i ≤ j)))
  | .str i, .str j => some (.bool (!ltS j i))
  | _, _ => none
def vGt : D → D → Option D
  | .int i, .int j => some (.bool (decide (j < i)))
  | .str i, .str j => some (.bool (ltS j i))
  | _, _ => none
def vGe : D → D → Option D
  | .int i, .int j => some (.bool (decide (j ≤ i)))
  | .str i, .str j => some (.bool (!ltS i j))
  | _, _ => none
def strIn (x z : Str) : Bool := match x.cps.toList with
  | [c] => decide (c ∈ z.cps.toList)
  | _ => !(Builtin.Str.occurrences z x 0 z.length 1).isEmpty
def inD (x : D) (ds : List D) : Bool := ds.any fun z => PyData.eqv z x
/-- a key of a dict -/
def keyD : D → Option Key
  | .int i => some (.inl i)
  | .str z => some (.inr z)
  | _ => none
def lookD (ps : List (D × D)) (k : D) : Option D := (ps.find? fun p => PyData.eqv p.1 k).map (·.2)
def keysOk (ps : List (D × D)) : Bool := ps.all fun p => (keyD p.1).isSome
def vIn : D → D → Option D
  | .str x, .str z => some (.bool (strIn x z))
  | x, .list ds => if fine x = true ∧ fine (.list ds) = true then some (.bool (inD x ds)) else none
  | x, .tuple ds => if fine x = true ∧ fine (.tuple ds) = true then some (.bool (inD x ds)) else none
  | _, _ => none
def vNotIn (x y : D) : Option D := (vIn x y).bind fun b => match b with
  | .bool b => some (.bool (!b))
  | _ => none
def isNoneD : D → Bool
  | .none => true
  | _ => false
def vIsN : D → D → Option D
  | x, .none => some (.bool (isNoneD x))
  | _, _ => none
def vNotN : D → D → Option D
  | x, .none => some (.bool (!isNoneD x))
  | _, _ => none

section
variable {X : Cx} {W : WX} {O : List Nat} {k : Nat} {m m1 m2 : Mode} {e a b : Expr} {d da db : DE} {pos : Pos}
theorem Here.u64 (h : Here X W k) : X.A.units + 64 < cLine := h.hr.units
theorem Here.u65 (h : Here X W k) : X.A.units + 65 < cLine := by have := h.hr.un; omega
theorem Here.u1 (h : Here X W k) : X.A.units + 1 < cLine := by have := h.hr.un; omega
theorem Here.u0 (h : Here X W k) : X.A.units < cLine := by have := h.hr.un; omega
/-- a comparison by a rule -/
def CmpOk (X : Cx) (op : CmpOp) (b : Expr) (f : D → D → Option D) : Prop := behindInMarks op b = false ∧
  ∃ r : R2, OpR X (compareOp op) r ∧ ∀ F Hs Hs' H x v y w Q, Same F H → RM .bo X.K F Hs H x v → RM .bo X.K F Hs' H y w → VPost X.K .sh F H (f v w) Q → r x y H Q
def asB : D → Option Bool
  | .bool b => some b
  | _ => none
def tBin (f : D → D → Option D) (da db : DE) : DT := fun ρ => (eBin f da db ρ).bind fun v => Res.up (asB v)
theorem ej_cmp {op : CmpOp} {f : D → D → Option D} (c : CmpOk X op b f) (ha : EJ X W O .bo a da) (hb : EJ X W O .bo b db) : EJ X W O .sh (.Compare a [op] [b] pos) (eBin f da db) := by
  obtain ⟨hm, r, ho, hv⟩ := c
  exact ej_bin ha hb (fun t u h1 h2 => pe_cmpR ho h1 h2 hm) hv
theorem TPost.up {F H : Hp} {σ : L2.St} {v : Option Bool} {Q : Bool → Hp → Prop} (h : TPost X W F H σ (Res.up v) Q) : ∃ b, v = some b ∧ ∀ F' H', Ext F H F' H' → Q b H' := by
  cases v with
  | some b => exact ⟨b, rfl, h⟩
  | none => exact h.elim
theorem tj_cmp {op : CmpOp} {f : D → D → Option D} (c : CmpOk X op b f) (ha : EJ X W O .bo a da) (hb : EJ X W O .bo b db) : TJ X W O (.Compare a [op] [b] pos) (tBin f da db) := by
  obtain ⟨hm, r, ho, hv⟩ := c
  obtain ⟨t, p, q⟩ := ha
  obtain ⟨u, p2, q2⟩ := hb
  refine ⟨_, pt_cmpR ho p p2 hm, fun F0 H0 F H σ ρ Q s po => ?_⟩
  unfold tBin eBin at po
  have po : TPost X W F H σ ((da ρ).bind fun x => ((db ρ).bind fun y => Res.up (f x y)).bind fun v => Res.up (asB v)) Q := by
    cases e : da ρ <;> rw [e] at po <;> exact po
  refine q F0 H0 F H σ ρ _ s (TPost.bindE (m1 := .bo) po fun v F' H' x _ e rm po' => ?_)
  have po' : TPost X W F' H' σ ((db ρ).bind fun y => (Res.up (f v y)).bind fun v => Res.up (asB v)) Q := by
    cases e : db ρ <;> rw [e] at po' <;> exact po'
  refine q2 F0 H0 F' H' σ ρ _ (s.ext e) (TPost.bindE (m1 := .bo) po' fun w F2 H2 y _ e2 rm2 po2 => ?_)
  refine hv F2 H H' H2 x v y w _ e2.fh (rm.ext e2) rm2 ?_
  cases ef : f v w with
  | none => rw [ef] at po2; exact po2.elim
  | some d =>
    rw [ef] at po2
    obtain ⟨b, hb, qb⟩ := TPost.up po2
    intro F' H' z e3 r3
    cases d with
    | bool c =>
      cases hb
      cases r3
      exact ⟨_, rfl, qb F' H' e3⟩
    | _ => cases hb
/-- a op b op' c -/
def eChain (f f' : D → D → Option D) (da db dc : DE) : DE := fun ρ => (da ρ).bind fun x => (db ρ).bind fun y => (Res.up ((f x y).bind asB)).bind fun k => if k = true then (dc ρ).bind fun z => Res.up (f' y z) else .ok (.bool false)
def tChainD (f f' : D → D → Option D) (da db dc : DE) : DT := fun ρ => (da ρ).bind fun x => (db ρ).bind fun y => (Res.up ((f x y).bind asB)).bind fun k => if k = true then (dc ρ).bind fun z => Res.up ((f' y z).bind asB) else .ok false
theorem ej_chain {op op' : CmpOp} {f f' : D → D → Option D} {c : Expr} {dc : DE} (k1 : CmpOk X op b f) (k2 : CmpOk X op' c f') (ha : EJ X W O .bo a da) (hb : EJ X W O .bo b db) (hc : EJ X W O .bo c dc)
    (h : ∀ (r r' : R2) (t u v : TE), OpR X (compareOp op) r → OpR X (compareOp op') r' → PE X a t → PE X b u → PE X c v → PE X e (tChain r r' t u v)) : EJ X W O .sh e (eChain f f' da db dc) := by
  obtain ⟨hm, r, ho, hv⟩ := k1
  obtain ⟨hm', r', ho', hv'⟩ := k2
  obtain ⟨t, p, q⟩ := ha
  obtain ⟨u, p2, q2⟩ := hb
  obtain ⟨v, p3, q3⟩ := hc
  refine ⟨_, h r r' t u v ho ho' p p2 p3, fun F0 H0 F H σ ρ Q s po => ?_⟩
  refine q F0 H0 F H σ ρ _ s (EPost.bindE (m1 := .bo) s.sub po fun v F' H' x _ e rm po' => ?_)
  refine q2 F0 H0 F' H' σ ρ _ (s.ext e) (EPost.bindE (m1 := .bo) e.fh po' fun w F2 H2 y _ e2 rm2 po2 => ?_)
  refine hv F2 H H' H2 x v y w _ e2.fh (rm.ext e2) rm2 ?_
  cases ef : f v w with
  | none => rw [ef] at po2; exact po2.elim
  | some d =>
    rw [ef] at po2
    intro F3 H3 z e3 r3
    cases d with
    | bool c =>
      cases r3
      refine ⟨_, rfl, ?_⟩
      have po2 : EPost X W .sh F2 H2 σ (if c = true then (dc ρ).bind fun z => Res.up (f' w z) else .ok (.bool false)) Q := po2
      cases c with
      | true =>
        rw [if_pos rfl] at po2 ⊢
        refine q3 F0 H0 F3 H3 σ ρ _ (((s.ext e).ext e2).ext e3) (EPost.bindE (m1 := .bo) e3.fh (EPost.ext e3 po2) fun z F4 H4 y' _ e4 rm4 po4 => ?_)
        exact hv' F4 H' H3 H4 y w y' z _ e4.fh ((rm2.ext e3).ext e4) rm4 po4.up
      | false =>
        rw [if_neg Bool.false_ne_true] at po2 ⊢
        exact po2 F3 H3 _ e3 (.bl _)
    | _ => exact po2.elim
theorem tj_chain {op op' : CmpOp} {f f' : D → D → Option D} {c : Expr} {dc : DE} (k1 : CmpOk X op b f) (k2 : CmpOk X op' c f') (ha : EJ X W O .bo a da) (hb : EJ X W O .bo b db) (hc : EJ X W O .bo c dc)
    (h : ∀ (r r' : R2) (t u v : TE), OpR X (compareOp op) r → OpR X (compareOp op') r' → PE X a t → PE X b u → PE X c v → PT X e (tTest (tChain r r' t u v))) : TJ X W O e (tChainD f f' da db dc) := by
  obtain ⟨hm, r, ho, hv⟩ := k1
  obtain ⟨hm', r', ho', hv'⟩ := k2
  obtain ⟨t, p, q⟩ := ha
  obtain ⟨u, p2, q2⟩ := hb
  obtain ⟨v, p3, q3⟩ := hc
  refine ⟨_, h r r' t u v ho ho' p p2 p3, fun F0 H0 F H σ ρ Q s po => ?_⟩
  refine q F0 H0 F H σ ρ _ s (TPost.bindE (m1 := .bo) po fun v F' H' x _ e rm po' => ?_)
  refine q2 F0 H0 F' H' σ ρ _ (s.ext e) (TPost.bindE (m1 := .bo) po' fun w F2 H2 y _ e2 rm2 po2 => ?_)
  refine hv F2 H H' H2 x v y w _ e2.fh (rm.ext e2) rm2 ?_
  cases ef : f v w with
  | none => rw [ef] at po2; exact po2.elim
  | some d =>
    rw [ef] at po2
    intro F3 H3 z e3 r3
    cases d with
    | bool c =>
      cases r3
      refine ⟨_, rfl, ?_⟩
      have po2 : TPost X W F2 H2 σ (if c = true then (dc ρ).bind fun z => Res.up ((f' w z).bind asB) else .ok false) Q := po2
      cases c with
      | true =>
        rw [if_pos rfl] at po2 ⊢
        refine q3 F0 H0 F3 H3 σ ρ _ (((s.ext e).ext e2).ext e3) (TPost.bindE (m1 := .bo) (TPost.ext e3 po2) fun z F4 H4 y' _ e4 rm4 po4 => ?_)
        refine hv' F4 H' H3 H4 y w y' z _ e4.fh ((rm2.ext e3).ext e4) rm4 ?_
        cases ef' : f' w z with
        | none => rw [ef'] at po4; exact po4.elim
        | some d' =>
          rw [ef'] at po4
          obtain ⟨b, hb, qb⟩ := TPost.up po4
          intro F' H' z e3 r3
          cases d' with
          | bool c =>
            cases hb
            cases r3
            exact ⟨_, rfl, qb F' H' e3⟩
          | _ => cases hb
      | false =>
        rw [if_neg Bool.false_ne_true] at po2 ⊢
        exact ⟨_, rfl, po2 F3 H3 e3⟩
    | _ => exact po2.elim

theorem eq_ok (hh : Here X W k) : CmpOk X .Eq b vEq := by
  refine ⟨nomark _, _, op_eqD hh.u64, fun F Hs Hs' H x v y w Q s r1 r2 po => ?_⟩
  unfold vEq at po
  split at po
  · rename_i hf
    obtain ⟨h1, h2⟩ := bo_shaped s r1 hf.1
    obtain ⟨h3, h4⟩ := bo_shaped s r2 hf.2
    exact ⟨v, w, h1, h3, h2, h4, po F H _ (.refl s) (.bl _)⟩
  · exact po.elim
theorem ne_ok (hh : Here X W k) : CmpOk X .NotEq b vNe := by
  refine ⟨nomark _, _, op_neD hh.u64, fun F Hs Hs' H x v y w Q s r1 r2 po => ?_⟩
  unfold vNe at po
  split at po
  · rename_i hf
    obtain ⟨h1, h2⟩ := bo_shaped s r1 hf.1
    obtain ⟨h3, h4⟩ := bo_shaped s r2 hf.2
    exact ⟨v, w, h1, h3, h2, h4, po F H _ (.refl s) (.bl _)⟩
  · exact po.elim
def rLt (K : Fg) : R2 := fun x y H Q => rI0 (fun i j => .bl (decide (i < j))) x y H Q ∨ (∃ i j, x = .str i ∧ y = .str j ∧ Q (.bl (decide (i.cps.toList < j.cps.toList))) H) ∨ rLtT K x y H Q
theorem or_lt (hh : Here X W k) : OpR X (compareOp .Lt) (rLt X.K) := op_lt.or (op_lt_str.or (op_ltT hh.u0))
theorem lt_v {F Hs Hs' H : Hp} {x y : V} {v w : D} {Q : VK} (s : Same F H) (r1 : RM .bo X.K F Hs H x v) (r2 : RM .bo X.K F Hs' H y w) (po : VPost X.K .sh F H (vLt v w) Q) : rLt X.K x y H Q := by
  unfold vLt at po
  split at po
  · cases bo_int r1; cases bo_int r2
    exact .inl ⟨_, _, rfl, rfl, po F H _ (.refl s) (.bl _)⟩
  · obtain ⟨rfl, _, _⟩ := bo_str r1
    obtain ⟨rfl, _, _⟩ := bo_str r2
    exact .inr (.inl ⟨_, _, rfl, rfl, po F H _ (.refl s) (.bl _)⟩)
  · rename_i as bs
    split at po
    · rename_i ns ms e1 e2
      rw [allInt_some e1] at r1
      rw [allInt_some e2] at r2
      obtain ⟨l, xs, rfl, h1, _, _, h3⟩ := bo_tup s r1
      obtain ⟨l', ys, rfl, h1', _, _, h3'⟩ := bo_tup s r2
      have ex := rpa_ints h3
      have ey := rpa_ints h3'
      subst ex ey
      exact .inr (.inr ⟨_, _, _, _, rfl, rfl, h1, h1', po F H _ (.refl s) (.bl _)⟩)
    · exact po.elim
  · exact po.elim
theorem lt_ok (hh : Here X W k) : CmpOk X .Lt b vLt := ⟨nomark _, _, or_lt hh, fun F Hs Hs' H x v y w Q s r1 r2 po => lt_v s r1 r2 po⟩
def rLe : R2 := fun x y H Q => rI0 (fun i j => .bl (decide (i ≤ j))) x y H Q ∨ (∃ i j, x = .str i ∧ y = .str j ∧ Q (.bl (!decide (j.cps.toList < i.cps.toList))) H)
theorem or_le : OpR X (compareOp .LtE) rLe := op_le.or op_le_str
theorem le_v {F Hs Hs' H : Hp} {x y : V} {v w : D} {Q : VK} (s : Same F H) (r1 : RM .bo X.K F Hs H x v) (r2 : RM .bo X.K F Hs' H y w) (po : VPost X.K .sh F H (vLe v w) Q) : rLe x y H Q := by
  unfold vLe at po
  split at po
  · cases bo_int r1; cases bo_int r2
    exact .inl ⟨_, _, rfl, rfl, po F H _ (.refl s) (.bl _)⟩
  · obtain ⟨rfl, _, _⟩ := bo_str r1
    obtain ⟨rfl, _, _⟩ := bo_str r2
    exact .inr ⟨_, _, rfl, rfl, po F H _ (.refl s) (.bl _)⟩
  · exact po.elim
theorem le_ok : CmpOk X .LtE b vLe := ⟨nomark _, _, or_le, fun F Hs Hs' H x v y w Q s r1 r2 po => le_v s r1 r2 po⟩
theorem gt_ok : CmpOk X .Gt b vGt := by
  refine ⟨nomark _, _, op_gt.or op_gt_str, fun F Hs Hs' H x v y w Q s r1 r2 po => ?_⟩
  unfold vGt at po
  split at po
  · cases bo_int r1; cases bo_int r2
    exact .inl ⟨_, _, rfl, rfl, po F H _ (.refl s) (.bl _)⟩
  · obtain ⟨rfl, _, _⟩ := bo_str r1
    obtain ⟨rfl, _, _⟩ := bo_str r2
    exact .inr ⟨_, _, rfl, rfl, po F H _ (.refl s) (.bl _)⟩
  · exact po.elim
theorem ge_ok : CmpOk X .GtE b vGe := by
  refine ⟨nomark _, _, op_ge.or op_ge_str, fun F Hs Hs' H x v y w Q s r1 r2 po => ?_⟩
  unfold vGe at po
  split at po
  · cases bo_int r1; cases bo_int r2
    exact .inl ⟨_, _, rfl, rfl, po F H _ (.refl s) (.bl _)⟩
  · obtain ⟨rfl, _, _⟩ := bo_str r1
    obtain ⟨rfl, _, _⟩ := bo_str r2
    exact .inr ⟨_, _, rfl, rfl, po F H _ (.refl s) (.bl _)⟩
  · exact po.elim
/-- is None, is not None -/
theorem isN_v {F Hs H : Hp} {x : V} {v : D} (r : RM .bo X.K F Hs H x v) : decide (x = .non) = isNoneD v := by
  rcases r with r | ⟨a, o, rfl, _, r⟩
  · cases r <;> rfl
  · cases r <;> rfl
theorem isN_ok : CmpOk X .Is b vIsN := by
  refine ⟨nomark _, _, op_isN, fun F Hs Hs' H x v y w Q s r1 r2 po => ?_⟩
  unfold vIsN at po
  split at po
  · cases bo_none r2
    refine ⟨rfl, ?_⟩
    rw [isN_v r1]
    exact po F H _ (.refl s) (.bl _)
  · exact po.elim
theorem notN_ok : CmpOk X .IsNot b vNotN := by
  refine ⟨nomark _, _, op_notN, fun F Hs Hs' H x v y w Q s r1 r2 po => ?_⟩
  unfold vNotN at po
  split at po
  · cases bo_none r2
    refine ⟨rfl, ?_⟩
    rw [isN_v r1]
    exact po F H _ (.refl s) (.bl _)
  · exact po.elim
/-- in, not in -/
def rInT (K : Fg) (neg : Bool) : R2 := fun x y H Q => ∃ d ds, Dp K H x d ∧ (Dp K H y (.list ds) ∨ Dp K H y (.tuple ds)) ∧ SeqAt.shaped d = true ∧ SeqAt.shaped (.list ds) = true ∧ Q (.bl (if neg then !inD d ds else inD d ds)) H
theorem op_inT (hu : X.A.units + 65 < cLine) : OpR X (compareOp .In) (rInT X.K false) := by
  intro pins s σ H x y v u Q I rx ry h
  obtain ⟨d, ds, hd, he, sd, se, q⟩ := h
  obtain ⟨as, r1⟩ := Dp.reads I d x v hd rx
  rcases he with he | he
  · obtain ⟨bs, r2⟩ := Dp.reads I (.list ds) y u he ry
    exact SeqAt.in_list_reads r2 r1 (SeqAt.canLay_of_shaped se) (SeqAt.canLay_of_shaped sd) (room_in_shaped sd hu) ⟨.bl _, H, I, rfl, q⟩
  · obtain ⟨bs, r2⟩ := Dp.reads I (.tuple ds) y u he ry
    exact SeqAt.in_tuple_reads r2 r1 (SeqAt.canLay_of_shaped se) (SeqAt.canLay_of_shaped sd) (room_in_shaped sd hu) ⟨.bl _, H, I, rfl, q⟩
theorem op_notInT (hu : X.A.units + 65 < cLine) : OpR X (compareOp .NotIn) (rInT X.K true) := by
  intro pins s σ H x y v u Q I rx ry h
  obtain ⟨d, ds, hd, he, sd, se, q⟩ := h
  obtain ⟨as, r1⟩ := Dp.reads I d x v hd rx
  rcases he with he | he
  · obtain ⟨bs, r2⟩ := Dp.reads I (.list ds) y u he ry
    exact SeqAt.notIn_list_reads r2 r1 (SeqAt.canLay_of_shaped se) (SeqAt.canLay_of_shaped sd) (room_in_shaped sd hu) ⟨.bl _, H, I, rfl, q⟩
  · obtain ⟨bs, r2⟩ := Dp.reads I (.tuple ds) y u he ry
    exact SeqAt.notIn_tuple_reads r2 r1 (SeqAt.canLay_of_shaped se) (SeqAt.canLay_of_shaped sd) (room_in_shaped sd hu) ⟨.bl _, H, I, rfl, q⟩
def rIn2 (K : Fg) (neg : Bool) : R2 := fun x y H Q => (∃ (c : Nat) (z : Str), x = .str ⟨#[c]⟩ ∧ y = .str z ∧ Q (.bl (if neg then !decide (c ∈ z.cps.toList) else decide (c ∈ z.cps.toList))) H) ∨
  (∃ i j, x = .str i ∧ y = .str j ∧ Q (.bl (if neg then !(!(Builtin.Str.occurrences j i 0 j.length 1).isEmpty) else (!(Builtin.Str.occurrences j i 0 j.length 1).isEmpty))) H) ∨ rInT K neg x y H Q
theorem or_in (hh : Here X W k) : OpR X (compareOp .In) (rIn2 X.K false) := op_in_sign.or (op_in_str.or (op_inT hh.u65))
theorem or_notIn (hh : Here X W k) : OpR X (compareOp .NotIn) (rIn2 X.K true) := op_notIn_sign.or (op_notin_str.or (op_notInT hh.u65))
theorem strIn_cases (i j : Str) : (∃ c, i = ⟨#[c]⟩ ∧ strIn i j = decide (c ∈ j.cps.toList)) ∨ strIn i j = !(Builtin.Str.occurrences j i 0 j.length 1).isEmpty := by
  unfold strIn
  split
  · rename_i c hc
    left
    refine ⟨c, ?_, rfl⟩
    obtain ⟨cs⟩ := i
    have : cs = #[c] := by apply Array.ext'; simpa using hc
    rw [this]
  · exact .inr rfl
theorem shaped_list {ds : List D} : SeqAt.shaped (.tuple ds) = true → SeqAt.shaped (.list ds) = true := fun h => by
  have e : SeqAt.shaped (.list ds) = SeqAt.shaped (.tuple ds) := by simp only [SeqAt.shaped, PyData.canLay0, PyData.depth]; rfl
  rw [e]; exact h
theorem fine_list {ds : List D} : fine (.tuple ds) = true → fine (.list ds) = true := fun h => by
  have e : fine (.list ds) = fine (.tuple ds) := by simp only [fine, noDict, PyData.depth]; rfl
  rw [e]; exact h
theorem in_v {F Hs Hs' H : Hp} {x y : V} {v w : D} {Q : VK} {b : Bool} (neg : Bool) (s : Same F H) (r1 : RM .bo X.K F Hs H x v) (r2 : RM .bo X.K F Hs' H y w) (e : vIn v w = some (.bool b)) (q : Q (.bl (if neg then !b else b)) H) : rIn2 X.K neg x y H Q := by
  unfold vIn at e
  split at e
  · rename_i i j
    obtain ⟨rfl, _, _⟩ := bo_str r1
    obtain ⟨rfl, _, _⟩ := bo_str r2
    cases e
    rcases strIn_cases i j with ⟨c, rfl, e⟩ | e
    · rw [e] at q
      exact .inl ⟨c, j, rfl, rfl, q⟩
    · rw [e] at q
      exact .inr (.inl ⟨_, _, rfl, rfl, q⟩)
  · split at e
    · rename_i hf
      cases e
      obtain ⟨h1, h2⟩ := bo_shaped s r1 hf.1
      obtain ⟨h3, h4⟩ := bo_shaped s r2 hf.2
      exact .inr (.inr ⟨_, _, h1, .inl h3, h2, h4, q⟩)
    · cases e
  · split at e
    · rename_i hf
      cases e
      obtain ⟨h1, h2⟩ := bo_shaped s r1 hf.1
      obtain ⟨h3, h4⟩ := bo_shaped s r2 hf.2
      refine .inr (.inr ⟨_, _, h1, .inr h3, h2, ?_, q⟩)
      exact shaped_list h4
    · cases e
  · cases e
theorem vIn_bool {v w d : D} (e : vIn v w = some d) : ∃ b, d = .bool b := by
  unfold vIn at e
  split at e
  · cases e; exact ⟨_, rfl⟩
  · split at e
    · cases e; exact ⟨_, rfl⟩
    · cases e
  · split at e
    · cases e; exact ⟨_, rfl⟩
    · cases e
  · cases e
theorem in_ok (hh : Here X W k) (hm : behindInMarks .In b = false) : CmpOk X .In b vIn := by
  refine ⟨hm, _, or_in hh, fun F Hs Hs' H x v y w Q s r1 r2 po => ?_⟩
  cases e : vIn v w with
  | none => rw [e] at po; exact po.elim
  | some d =>
    obtain ⟨c, rfl⟩ := vIn_bool e
    rw [e] at po
    exact in_v false s r1 r2 e (po F H _ (.refl s) (.bl _))
theorem notIn_ok (hh : Here X W k) (hm : behindInMarks .NotIn b = false) : CmpOk X .NotIn b vNotIn := by
  refine ⟨hm, _, or_notIn hh, fun F Hs Hs' H x v y w Q s r1 r2 po => ?_⟩
  unfold vNotIn at po
  cases e : vIn v w with
  | none => rw [e] at po; exact po.elim
  | some d =>
    obtain ⟨c, rfl⟩ := vIn_bool e
    rw [e] at po
    exact in_v true s r1 r2 e (po F H _ (.refl s) (.bl _))
end
end PL

end
section
namespace PL
open PySem PySem.Spec PyProof.Rows L2

/-- an argument without a star -/
def NoSt (a : Expr) : Prop := ∀ env es, starEach (a :: es) env = (false, eval a env) :: starEach es env
def PlainT (X : Cx) (a : Expr) : Prop := ∀ whole, isTrue a X.env whole = (do let v ← whole; standAt a.pos; holding [v] (truthy v))

def truthD : D → Bool
  | .none => false
  | .bool b => b
  | .int i => i != 0
  | .str z => (z.length : Int) != 0
  | .list xs => !xs.isEmpty
  | .tuple xs => !xs.isEmpty
  | .dict ps => !ps.isEmpty
theorem RpD.length {K : Fg} {F : Hp} : ∀ {kvs : List (Key × V)} {ps : List (D × D)}, RpD K F kvs ps → kvs.length = ps.length
  | _, _, .nil => rfl
  | _, _, .cons _ _ t => by simp [RpD.length t]
theorem isEmpty_len {α β : Type} {xs : List α} {ys : List β} (h : xs.length = ys.length) : xs.isEmpty = ys.isEmpty := by
  cases xs <;> cases ys <;> simp at h ⊢
theorem truth_v {K : Fg} {F Hs H : Hp} {x : V} {v : D} (s : Same F H) (r : RM .bo K F Hs H x v) : TruV K x H (truthD v) := by
  cases v with
  | none => cases bo_none r; rfl
  | bool b => cases bo_bool r; rfl
  | int i => cases bo_int r; rfl
  | str z => obtain ⟨rfl, _, h⟩ := bo_str r; exact ⟨h, rfl⟩
  | list ds =>
    obtain ⟨a, xs, rfl, h1, _, h3⟩ := bo_list s r
    exact .inl ⟨xs, h1, by show (!ds.isEmpty) = _; rw [isEmpty_len h3.length]⟩
  | tuple ds =>
    obtain ⟨a, xs, rfl, h1, _, _, h3⟩ := bo_tup s r
    exact .inr (.inl ⟨xs, h1, by show (!ds.isEmpty) = _; rw [isEmpty_len h3.length]⟩)
  | dict ps =>
    obtain ⟨a, kvs, rfl, h1, _, h3⟩ := bo_dict s r
    exact .inr (.inr ⟨kvs, h1, by show (!ps.isEmpty) = _; rw [isEmpty_len h3.length]⟩)
section
variable {X : Cx} {W : WX} {O : List Nat} {k : Nat} {m m1 m2 : Mode} {e a b c : Expr} {es : List Expr} {d da db : DE} {dc ta tb : DT} {das dbs : DA} {pos p : Pos}
def tVal (d : DE) : DT := fun ρ => (d ρ).bind fun v => .ok (truthD v)
theorem tj_val (h : EJ X W O .bo e d) (he : PlainT X e := by intro _; rfl) : TJ X W O e (tVal d) := by
  obtain ⟨t, p, q⟩ := h
  refine ⟨_, pt_truth p he, fun F0 H0 F H σ ρ Q s po => q F0 H0 F H σ ρ _ s (TPost.bindE (m1 := .bo) po fun v F' H' x _ e rm po' => ?_)⟩
  exact ⟨truthD v, truth_v e.fh rm, po' F' H' (.refl e.fh)⟩
def tNotD (d : DT) : DT := fun ρ => (d ρ).bind fun b => .ok (!b)
def tAndD (d d' : DT) : DT := fun ρ => (d ρ).bind fun b => if b = true then d' ρ else .ok false
def tOrD (d d' : DT) : DT := fun ρ => (d ρ).bind fun b => if b = true then .ok true else d' ρ
theorem tj_not (h : TJ X W O a ta) : TJ X W O (.UnaryOp .Not a pos) (tNotD ta) := by
  obtain ⟨t, p, q⟩ := h
  exact ⟨_, pt_not p, fun F0 H0 F H σ ρ Q s po => q F0 H0 F H σ ρ _ s (TPost.bindT po fun b F' H' _ e po' => po' F' H' (.refl e.fh))⟩
theorem wj_and1 (h : TJ X W O a ta) : WJ X W O (.BoolOp .And [a] pos) ta := by
  obtain ⟨t, p, q⟩ := h
  exact ⟨_, pw_and1 p, q⟩
theorem wj_or1 (h : TJ X W O a ta) : WJ X W O (.BoolOp .Or [a] pos) ta := by
  obtain ⟨t, p, q⟩ := h
  exact ⟨_, pw_or1 p, q⟩
theorem wj_and (h : TJ X W O a ta) (h2 : WJ X W O (.BoolOp .And (b :: es) pos) tb) : WJ X W O (.BoolOp .And (a :: b :: es) pos) (tAndD ta tb) := by
  obtain ⟨t, p, q⟩ := h
  obtain ⟨u, p2, q2⟩ := h2
  refine ⟨_, pw_and p p2, fun F0 H0 F H σ ρ Q s po => q F0 H0 F H σ ρ _ s (TPost.bindT po fun b F' H' _ e po' => ?_)⟩
  cases b with
  | true => exact q2 F0 H0 F' H' σ ρ Q (s.ext e) po'
  | false => exact po' F' H' (.refl e.fh)
theorem wj_or (h : TJ X W O a ta) (h2 : WJ X W O (.BoolOp .Or (b :: es) pos) tb) : WJ X W O (.BoolOp .Or (a :: b :: es) pos) (tOrD ta tb) := by
  obtain ⟨t, p, q⟩ := h
  obtain ⟨u, p2, q2⟩ := h2
  refine ⟨_, pw_or p p2, fun F0 H0 F H σ ρ Q s po => q F0 H0 F H σ ρ _ s (TPost.bindT po fun b F' H' _ e po' => ?_)⟩
  cases b with
  | true => exact po' F' H' (.refl e.fh)
  | false => exact q2 F0 H0 F' H' σ ρ Q (s.ext e) po'
theorem WJ.tj (h : WJ X W O e ta) : TJ X W O e ta := by
  obtain ⟨t, p, q⟩ := h
  exact ⟨t, p.pt, q⟩

def eNot (d : DE) : DE := fun ρ => (d ρ).bind fun v => .ok (.bool (!truthD v))
def eAnd (d d' : DE) : DE := fun ρ => (d ρ).bind fun v => if truthD v = true then d' ρ else .ok v
def eOr (d d' : DE) : DE := fun ρ => (d ρ).bind fun v => if truthD v = true then .ok v else d' ρ
def eIfE (t : DT) (d d' : DE) : DE := fun ρ => (t ρ).bind fun b => if b = true then d ρ else d' ρ
theorem ej_not (h : EJ X W O .bo a da) : EJ X W O .sh (.UnaryOp .Not a pos) (eNot da) := by
  obtain ⟨t, p, q⟩ := h
  refine ⟨_, pe_notT p, fun F0 H0 F H σ ρ Q s po => q F0 H0 F H σ ρ _ s (EPost.bindE (m1 := .bo) s.sub po fun v F' H' x _ e rm po' => ?_)⟩
  exact ⟨truthD v, truth_v e.fh rm, po' F' H' _ (.refl e.fh) (.bl _)⟩
theorem ej_one {op : BoolOp} (h : EJ X W O m a da) : EJ X W O m (.BoolOp op [a] pos) da := by
  obtain ⟨t, p, q⟩ := h
  exact ⟨t, pe_one p, q⟩
theorem ej_and (h : EJ X W O .sh a da) (h2 : EJ X W O .sh (.BoolOp .And (b :: es) pos) db) : EJ X W O .sh (.BoolOp .And (a :: b :: es) pos) (eAnd da db) := by
  obtain ⟨t, p, q⟩ := h
  obtain ⟨u, p2, q2⟩ := h2
  refine ⟨_, pe_andT p p2, fun F0 H0 F H σ ρ Q s po => q F0 H0 F H σ ρ _ s (EPost.bindE (m1 := .sh) s.sub po fun v F' H' x _ e rm po' => ?_)⟩
  refine ⟨truthD v, truth_v e.fh (RM.bo_of .sh (H0 := H') rm), ?_⟩
  by_cases hv : truthD v = true
  · rw [if_pos hv] at po' ⊢
    exact q2 F0 H0 F' H' σ ρ Q (s.ext e) po'
  · rw [if_neg hv] at po' ⊢
    exact po' F' H' x (.refl e.fh) rm
theorem ej_or (h : EJ X W O .sh a da) (h2 : EJ X W O .sh (.BoolOp .Or (b :: es) pos) db) : EJ X W O .sh (.BoolOp .Or (a :: b :: es) pos) (eOr da db) := by
  obtain ⟨t, p, q⟩ := h
  obtain ⟨u, p2, q2⟩ := h2
  refine ⟨_, pe_orT p p2, fun F0 H0 F H σ ρ Q s po => q F0 H0 F H σ ρ _ s (EPost.bindE (m1 := .sh) s.sub po fun v F' H' x _ e rm po' => ?_)⟩
  refine ⟨truthD v, truth_v e.fh (RM.bo_of .sh (H0 := H') rm), ?_⟩
  by_cases hv : truthD v = true
  · rw [if_pos hv] at po' ⊢
    exact po' F' H' x (.refl e.fh) rm
  · rw [if_neg hv] at po' ⊢
    exact q2 F0 H0 F' H' σ ρ Q (s.ext e) po'
theorem ej_ifE (h : TJ X W O c ta) (h1 : EJ X W O m a da) (h2 : EJ X W O m b db) : EJ X W O m (.IfExp c a b pos) (eIfE ta da db) := by
  obtain ⟨t, p, q⟩ := h
  obtain ⟨u, p1, q1⟩ := h1
  obtain ⟨v, p2, q2⟩ := h2
  refine ⟨_, pe_ifExp p p1 p2, fun F0 H0 F H σ ρ Q s po => q F0 H0 F H σ ρ _ s (EPost.bindT po fun b F' H' _ e po' => ?_)⟩
  cases b with
  | true => exact q1 F0 H0 F' H' σ ρ Q (s.ext e) po'
  | false => exact q2 F0 H0 F' H' σ ρ Q (s.ext e) po'

def aNil : DA := fun _ => .ok []
def aCons (de : DE) (d : DA) : DA := fun ρ => (de ρ).bind fun x => (d ρ).bind fun xs => .ok (x :: xs)
theorem aj_nil : AJ X W O [] aNil := ⟨_, pa_nil, fun F0 H0 F H σ ρ Q s po => po F H [] (.refl s.sub) .nil⟩
theorem aj_cons (ns : NoSt a) (h : EJ X W O .sh a da) (h2 : AJ X W O es das) : AJ X W O (a :: es) (aCons da das) := by
  obtain ⟨t, p, q⟩ := h
  obtain ⟨u, p2, q2⟩ := h2
  refine ⟨_, pa_cons p p2 (ns _ _), fun F0 H0 F H σ ρ Q s po => q F0 H0 F H σ ρ _ s (APost.bindE (m1 := .sh) po fun v F' H' x _ e rm po' => ?_)⟩
  refine q2 F0 H0 F' H' σ ρ _ (s.ext e) (APost.bindA po' fun w F2 H2 xs _ e2 rm2 po2 => ?_)
  exact po2 F2 H2 _ (.refl e2.fh) (.cons (rm.mono e2.ff) rm2)
def eTup (d : DA) : DE := fun ρ => (d ρ).bind fun xs => if xs.length ≤ sizeLine then .ok (.tuple xs) else .bad
def eLst (d : DA) : DE := fun ρ => (d ρ).bind fun xs => if xs.length ≤ sizeLine then .ok (.list xs) else .bad
theorem ej_tup {x1 : Nat} (h : AJ X W O es das) : EJ X W O m (.Tuple es x1 pos) (eTup das) := by
  obtain ⟨t, p, q⟩ := h
  refine ⟨_, pe_tup p, fun F0 H0 F H σ ρ Q s po => q F0 H0 F H σ ρ _ s (EPost.bindA po fun v F' H' xs _ e rm po' => ?_)⟩
  split at po'
  · rename_i hl
    rw [← rm.length] at hl
    exact ⟨hl, fun p hp => po' (upd F' p (.tup xs)) _ _ (.newF e.fh hp) (RM.of_sh (.tup (SqT.of upd_same) hl (rm.mono (same_upd' (free_of e.fh hp)))) rfl)⟩
  · exact po'.elim
theorem ej_lst (h : AJ X W O es das) : EJ X W O .fr (.List es pos) (eLst das) := by
  obtain ⟨t, p, q⟩ := h
  refine ⟨_, pe_lst p, fun F0 H0 F H σ ρ Q s po => q F0 H0 F H σ ρ _ s (EPost.bindA po fun v F' H' xs _ e rm po' => ?_)⟩
  split at po'
  · rename_i hl
    rw [← rm.length] at hl
    exact ⟨hl, fun p hp => po' F' _ _ (.new e.fh hp) (.inr ⟨p, _, rfl, upd_same, .lst hl rm, free_of e.fh hp, hp⟩)⟩
  · exact po'.elim

def vIdx : D → D → Option D
  | .list ds, .int i => atI ds i
  | .tuple ds, .int i => atI ds i
  | .str z, .int i => (atI z.cps.toList i).map fun c => .str ⟨#[c]⟩
  | _, _ => none
theorem atI_rp {K : Fg} {F : Hp} {xs : List V} {ds : List D} {i : Int} {d : D} (r : RpA K F xs ds) (h : atI ds i = some d) : ∃ x, atI xs i = some x ∧ Rp K F x d := by
  unfold atI at h ⊢
  rw [r.length]
  cases e : ixN ds.length i with
  | none => rw [e] at h; cases h
  | some j =>
    rw [e] at h
    exact r.get h
theorem atI_mem {α : Type} {xs : List α} {i : Int} {x : α} (h : atI xs i = some x) : x ∈ xs := by
  unfold atI at h
  cases e : ixN xs.length i with
  | none => rw [e] at h; cases h
  | some j => rw [e] at h; exact List.mem_of_getElem? h
theorem strOk_mem {z : Str} (h : PyData.strOk z = true) {c : Nat} (hc : c ∈ z.cps.toList) : c < 0x110000 := by
  unfold PyData.strOk at h
  rw [Array.all_eq_true'] at h
  have := h c (by simpa using hc)
  simpa using this
theorem strOk_one {c : Nat} (h : c < 0x110000) : PyData.strOk ⟨#[c]⟩ = true := by
  unfold PyData.strOk
  simp [h]
theorem one_le_line : (1 : Nat) ≤ sizeLine := by decide
theorem ej_idx (ha : EJ X W O .bo a da) (hb : EJ X W O .bo b db) (hs : PlainIx b := by intro _ _; rfl) : EJ X W O .sh (.Subscript a b pos) (eBin vIdx da db) := by
  refine ej_bin ha hb (fun t u h1 h2 => pe_ix ix_seq h1 h2 hs) fun F Hs Hs' H x v y w Q s r1 r2 po => ?_
  cases e : vIdx v w with
  | none => rw [e] at po; exact po.elim
  | some d =>
    rw [e] at po
    unfold vIdx at e
    split at e
    · obtain ⟨l, xs, rfl, h1, h2, h3⟩ := bo_list s r1
      cases bo_int r2
      obtain ⟨z, h4, h5⟩ := atI_rp h3 e
      exact .inl ⟨_, _, _, _, rfl, rfl, h1, h4, po F H _ (.refl s) h5⟩
    · obtain ⟨l, xs, rfl, h1, _, h2, h3⟩ := bo_tup s r1
      cases bo_int r2
      obtain ⟨z, h4, h5⟩ := atI_rp h3 e
      exact .inr (.inl ⟨_, _, _, _, rfl, rfl, h1, h4, po F H _ (.refl s) h5⟩)
    · obtain ⟨rfl, o, l⟩ := bo_str r1
      cases bo_int r2
      rename_i z i
      cases e2 : atI z.cps.toList i with
      | none => rw [e2] at e; cases e
      | some c =>
        rw [e2] at e; cases e
        exact .inr (.inr ⟨_, _, _, rfl, rfl, l, e2, po F H _ (.refl s) (.str _ (strOk_one (strOk_mem o (atI_mem e2))) one_le_line)⟩)
    · cases e
abbrev DO := Lo → Res (Option Int)
def PJ (X : Cx) (W : WX) (O : List Nat) (e : Option Expr) (d : DO) : Prop :=
  ∃ t, PO X e t ∧ ∀ F0 H0 F H σ ρ (Q : Option Int → Hp → Prop), SR X.K F0 H0 O F H σ ρ → (match d ρ with
    | .ok o => ∀ F' H', Ext F H F' H' → Q o H'
    | .exn e => ∀ F' H' cls dd, Ext F H F' H' → ExRp X.K X.mg F' H' cls dd e → W cls dd σ H'
    | .bad => False) → t σ H Q
def oNone : DO := fun _ => .ok none
def asI : D → Option Int
  | .int i => some i
  | _ => none
def oSome (d : DE) : DO := fun ρ => (d ρ).bind fun v => (Res.up (asI v)).bind fun i => .ok (some i)
theorem pj_none : PJ X W O none oNone := ⟨_, po_none, fun F0 H0 F H σ ρ Q s po => po F H (.refl s.sub)⟩
theorem pj_some (h : EJ X W O .bo e d) : PJ X W O (some e) (oSome d) := by
  obtain ⟨t, p, q⟩ := h
  refine ⟨_, po_some p, fun F0 H0 F H σ ρ Q s po => q F0 H0 F H σ ρ _ s ?_⟩
  unfold oSome at po
  cases hd : d ρ with
  | ok v =>
    rw [hd] at po
    intro F' H' x e rm
    cases v with
    | int i =>
      cases bo_int rm
      exact ⟨i, rfl, po F' H' e⟩
    | _ => exact False.elim po
  | exn c => rw [hd] at po; exact po
  | bad => rw [hd] at po; exact po
def cutD {α : Type} (xs : List α) (lo hi : Option Int) : List α := (xs.drop (HT.sIx xs.length 0 lo)).take (HT.sIx xs.length xs.length hi - HT.sIx xs.length 0 lo)
def vSlice : D → Option Int → Option Int → Option D
  | .list ds, lo, hi => some (.list (cutD ds lo hi))
  | .tuple ds, lo, hi => some (.tuple (cutD ds lo hi))
  | .str z, lo, hi => some (.str (cutS z lo hi))
  | _, _, _ => none
theorem cut_whole {α : Type} {xs : List α} {lo hi : Option Int} (h : HT.sIx xs.length 0 lo = 0) (h' : HT.sIx xs.length xs.length hi = xs.length) : cutD xs lo hi = xs := by
  unfold cutD
  rw [h, h', List.drop_zero, Nat.sub_zero]
  exact List.take_of_length_le (Nat.le_refl _)
theorem cut_rp {K : Fg} {F : Hp} {xs : List V} {ds : List D} {lo hi : Option Int} (r : RpA K F xs ds) : RpA K F (cutV xs lo hi) (cutD ds lo hi) := by
  unfold cutV cutD
  rw [r.length]
  exact (r.drop _).take _
theorem strOk_cut {z : Str} {lo hi : Option Int} (h : PyData.strOk z = true) : PyData.strOk (cutS z lo hi) = true := by
  unfold PyData.strOk cutS
  rw [Array.all_eq_true']
  intro c hc
  have hc : c ∈ (z.cps.toList.drop (HT.sIx z.length 0 lo)).take (HT.sIx z.length z.length hi - HT.sIx z.length 0 lo) := by simpa using hc
  have := strOk_mem h (List.mem_of_mem_drop (List.mem_of_mem_take hc))
  simpa using this
theorem cutS_len {z : Str} {lo hi : Option Int} : (cutS z lo hi).length ≤ z.length := by
  unfold cutS
  show (List.toArray _).size ≤ _
  rw [List.size_toArray, List.length_take, List.length_drop]
  have : z.cps.toList.length = z.length := by simp [Str.length]
  omega
def eSlice (da : DE) (dl dh : DO) : DE := fun ρ => (da ρ).bind fun x => (dl ρ).bind fun l => (dh ρ).bind fun h => Res.up (vSlice x l h)
theorem ej_slice {lo hi : Option Expr} {dl dh : DO} {p2 : Pos} (ha : EJ X W O .bo a da) (hl : PJ X W O lo dl) (hh : PJ X W O hi dh) : EJ X W O .fr (.Subscript a (.Slice lo hi none p2) pos) (eSlice da dl dh) := by
  obtain ⟨t, p, q⟩ := ha
  obtain ⟨tl, pl, ql⟩ := hl
  obtain ⟨th, ph, qh⟩ := hh
  refine ⟨_, pe_slice (sl_list.or (sl_tupA.or sl_str)) p pl ph, fun F0 H0 F H σ ρ Q s po => q F0 H0 F H σ ρ _ s (EPost.bindE (m1 := .bo) s.sub po fun v F' H' x _ e rm po' => ?_)⟩
  refine ql F0 H0 F' H' σ ρ _ (s.ext e) ?_
  cases hl : dl ρ with
  | ok l =>
    rw [hl] at po'
    intro F2 H2 e2
    refine qh F0 H0 F2 H2 σ ρ _ ((s.ext e).ext e2) ?_
    have po2 := EPost.ext e2 po'
    cases hh : dh ρ with
    | ok h =>
      rw [hh] at po2
      intro F3 H3 e3
      have po3 : EPost X W .fr F3 H3 σ (Res.up (vSlice v l h)) Q := EPost.ext e3 po2
      have rm3 := (rm.ext e2).ext e3
      have s3 := e3.fh
      unfold vSlice at po3
      split at po3
      · obtain ⟨l, xs, rfl, h1, h2, h3⟩ := bo_list s3 rm3
        exact .inl ⟨_, _, rfl, h1, fun p hp => po3 F3 _ _ (.new s3 hp) (.inr ⟨p, _, rfl, upd_same, .lst (Nat.le_trans (cutV_length _ _ _) h2) (cut_rp h3), free_of s3 hp, hp⟩)⟩
      · obtain ⟨l, xs, rfl, h1, g1, h2, h3⟩ := bo_tup s3 rm3
        refine .inr (.inl ⟨_, _, rfl, h1, fun hw => ?_, fun _ p hp => po3 (upd F3 p (.tup _)) _ _ (.newF s3 hp) (RM.of_sh (.tup (SqT.of upd_same) (Nat.le_trans (cutV_length _ _ _) h2) ((cut_rp h3).mono (same_upd' (free_of s3 hp)))) rfl)⟩)
        refine po3 F3 H3 _ (.refl s3) (RM.of_sh ?_ rfl)
        rw [h3.length] at hw
        rw [cut_whole hw.1 hw.2]
        exact .tup g1 h2 h3
      · obtain ⟨rfl, o, l⟩ := bo_str rm3
        exact .inr (.inr ⟨_, rfl, l, po3 F3 H3 _ (.refl s3) (RM.of_sh (.str _ (strOk_cut o) (Nat.le_trans cutS_len l)) rfl)⟩)
      · exact False.elim po3
    | exn c => rw [hh] at po2; exact po2
    | bad => rw [hh] at po2; exact po2
  | exn c => rw [hl] at po'; exact po'
  | bad => rw [hl] at po'; exact po'
end
end PL

end
section
namespace PL
open PySem PySem.Spec PyProof.Rows L2

theorem NoSt.one {a : Expr} (h : NoSt a) (env : PySem.Env) : starEach [a] env = (false, eval a env) :: starEach [] env := h env []
def vLen : D → Option D
  | .str z => some (.int z.length)
  | .list ds => some (.int ds.length)
  | .tuple ds => some (.int ds.length)
  | .dict ps => some (.int ps.length)
  | _ => none
def vTuple : D → Option D
  | .list ds => some (.tuple ds)
  | .tuple ds => some (.tuple ds)
  | _ => none
def vList : D → Option D
  | .list ds => some (.list ds)
  | .tuple ds => some (.list ds)
  | _ => none
def vAll : D → Option D
  | .list ds => (allBool ds).map fun bs => .bool (bs.all id)
  | _ => none
def vAny : D → Option D
  | .list ds => (allBool ds).map fun bs => .bool (bs.any id)
  | _ => none
def vSum : D → Option D
  | .list ds => (allInt ds).map fun ns => .int ns.sum
  | _ => none
def maxL : Int → List Int → Int
  | m, [] => m
  | m, x :: r => maxL (if m < x then x else m) r
def minL : Int → List Int → Int
  | m, [] => m
  | m, x :: r => minL (if x < m then x else m) r
theorem maxL_spec : ∀ (r : List Int) (m : Int), (maxL m r = m ∨ maxL m r ∈ r) ∧ m ≤ maxL m r ∧ ∀ y ∈ r, y ≤ maxL m r
  | [], m => ⟨.inl rfl, Int.le_refl _, by simp⟩
  | x :: r, m => by
    obtain ⟨h1, h2, h3⟩ := maxL_spec r (if m < x then x else m)
    unfold maxL
    refine ⟨?_, ?_, fun y hy => ?_⟩
    · rcases h1 with h1 | h1
      · rw [h1]; split
        · exact .inr (by simp)
        · exact .inl rfl
      · exact .inr (by simp [h1])
    · exact Int.le_trans (show m ≤ (if m < x then x else m) by split <;> omega) h2
    · rcases List.mem_cons.mp hy with rfl | hy
      · exact Int.le_trans (show y ≤ (if m < y then y else m) by split <;> omega) h2
      · exact h3 y hy
theorem minL_spec : ∀ (r : List Int) (m : Int), (minL m r = m ∨ minL m r ∈ r) ∧ minL m r ≤ m ∧ ∀ y ∈ r, minL m r ≤ y
  | [], m => ⟨.inl rfl, Int.le_refl _, by simp⟩
  | x :: r, m => by
    obtain ⟨h1, h2, h3⟩ := minL_spec r (if x < m then x else m)
    unfold minL
    refine ⟨?_, ?_, fun y hy => ?_⟩
    · rcases h1 with h1 | h1
      · rw [h1]; split
        · exact .inr (by simp)
        · exact .inl rfl
      · exact .inr (by simp [h1])
    · exact Int.le_trans h2 (show (if x < m then x else m) ≤ m by split <;> omega)
    · rcases List.mem_cons.mp hy with rfl | hy
      · exact Int.le_trans h2 (show (if y < m then y else m) ≤ y by split <;> omega)
      · exact h3 y hy
def maxI : List Int → Option Int
  | [] => none
  | x :: r => some (maxL x r)
def minI : List Int → Option Int
  | [] => none
  | x :: r => some (minL x r)
def vMax1 : D → Option D
  | .list ds => ((allInt ds).bind maxI).map .int
  | _ => none
def vMin1 : D → Option D
  | .list ds => ((allInt ds).bind minI).map .int
  | _ => none
def vMax2 : D → D → Option D
  | .int i, .int j => some (.int (if j > i then j else i))
  | _, _ => none
def vMin2 : D → D → Option D
  | .int i, .int j => some (.int (if j < i then j else i))
  | _, _ => none
def vAbs : D → Option D
  | .int i => some (.int (if i < 0 then -i else i))
  | _ => none
def vInt : D → Option D
  | .int i => some (.int i)
  | .bool b => some (.int (if b then 1 else 0))
  | .str z => if z.length ≤ 640 then (PySem.intText? z).map .int else none
  | _ => none
def vStr : D → Option D
  | .int i => if i.natAbs.log2 < 1920 ∧ PyData.strOk (toString i) = true ∧ (toString i : Str).length ≤ sizeLine then some (.str (toString i)) else none
  | .str z => none
  | _ => none
def vBool (d : D) : Option D := match d with
  | .int i => some (.bool (i != 0))
  | .bool b => some (.bool b)
  | _ => none
def tyD : D → String
  | .none => "NoneType"
  | .bool _ => "bool"
  | .int _ => "int"
  | .str _ => "str"
  | .list _ => "list"
  | .tuple _ => "tuple"
  | .dict _ => "dict"
def vIsi (T : String) (d : D) : Option D := (kitB (tyD d) T).map .bool
/-- sorted, ints -/
def insI (x : Int) : List Int → List Int
  | [] => [x]
  | y :: r => if x ≤ y then x :: y :: r else y :: insI x r
def sortI : List Int → List Int
  | [] => []
  | x :: r => insI x (sortI r)
theorem insI_perm (x : Int) : ∀ r : List Int, (insI x r).Perm (x :: r)
  | [] => .refl _
  | y :: r => by
    unfold insI
    split
    · exact .refl _
    · exact ((insI_perm x r).cons y).trans (.swap x y r)
theorem insI_sorted (x : Int) : ∀ r : List Int, r.Pairwise (· ≤ ·) → (insI x r).Pairwise (· ≤ ·)
  | [], _ => by simp [insI]
  | y :: r, h => by
    have h' := List.pairwise_cons.mp h
    unfold insI
    split
    · rename_i hxy
      refine List.pairwise_cons.mpr ⟨fun z hz => ?_, h⟩
      rcases List.mem_cons.mp hz with rfl | hz
      · exact hxy
      · exact Int.le_trans hxy (h'.1 z hz)
    · rename_i hxy
      refine List.pairwise_cons.mpr ⟨fun z hz => ?_, insI_sorted x r h'.2⟩
      have := (insI_perm x r).mem_iff.mp hz
      rcases List.mem_cons.mp this with rfl | hz
      · omega
      · exact h'.1 z hz
theorem sortI_perm : ∀ r : List Int, (sortI r).Perm r
  | [] => .refl _
  | x :: r => (insI_perm x _).trans ((sortI_perm r).cons x)
theorem sortI_sorted : ∀ r : List Int, (sortI r).Pairwise (· ≤ ·)
  | [] => .nil
  | x :: r => insI_sorted x _ (sortI_sorted r)
theorem sortI_eq {ns ns' : List Int} (p : ns'.Perm ns) (h : ns'.Pairwise (· ≤ ·)) : ns' = sortI ns :=
  (p.trans (sortI_perm ns).symm).eq_of_pairwise (fun x y _ _ h1 h2 => Int.le_antisymm h1 h2) h (sortI_sorted ns)

section
variable {X : Cx} {W : WX} {O : List Nat} {k : Nat} {m m1 m2 : Mode} {e a b c : Expr} {es : List Expr} {d da db : DE} {pos p : Pos}
/-- one argument, a built-in function -/
theorem ej_b1 {x : Str} {id : String} {f : D → Option D} {r : List V → Hp → VK → Prop} (hc : CallR X (.builtin id) r) (hg : Gl X x) (hm : X.mg x = none) (hv : bootBuiltins x = some (.builtin id)) (hn : x ≠ "__name__") (hd : (x == ("__debug__" : Str)) = false)
    (ns : NoSt a) (ha : EJ X W O m1 a da) (h : ∀ F Hs H x v Q, Same F H → RM m1 X.K F Hs H x v → VPost X.K m F H (f v) Q → r [x] H Q) : EJ X W O m (.Call (.Name x p) [a] [] pos) (eUn f da) :=
  ej_un ha (fun t h1 => pe_callB hc hg hm hv (pa_cons h1 pa_nil (ns _ _)) hn hd (ns _ _)) h
theorem ej_b2 {x : Str} {id : String} {f : D → D → Option D} {r : List V → Hp → VK → Prop} (hc : CallR X (.builtin id) r) (hg : Gl X x) (hm : X.mg x = none) (hv : bootBuiltins x = some (.builtin id)) (hn : x ≠ "__name__") (hd : (x == ("__debug__" : Str)) = false)
    (ns : NoSt a) (ns2 : NoSt b) (ha : EJ X W O m1 a da) (hb : EJ X W O m2 b db) (h : ∀ F Hs Hs' H x v y w Q, Same F H → RM m1 X.K F Hs H x v → RM m2 X.K F Hs' H y w → VPost X.K m F H (f v w) Q → r [x, y] H Q) : EJ X W O m (.Call (.Name x p) [a, b] [] pos) (eBin f da db) :=
  ej_bin (r := fun x y H Q => r [x, y] H Q) ha hb (fun t u h1 h2 => pe_callB hc hg hm hv (pa_cons h1 (pa_cons h2 pa_nil (ns2 _ _)) (ns _ _)) hn hd (ns _ _) (by rw [ns2]; rfl)) h
theorem ej_t1 {x : Str} {T : String} {f : D → Option D} {r : List V → Hp → VK → Prop} (hc : CallR X (.type T) r) (hg : Gl X x) (hm : X.mg x = none) (hv : bootBuiltins x = some (.type T)) (hn : x ≠ "__name__") (hd : (x == ("__debug__" : Str)) = false)
    (ns : NoSt a) (ha : EJ X W O m1 a da) (h : ∀ F Hs H x v Q, Same F H → RM m1 X.K F Hs H x v → VPost X.K m F H (f v) Q → r [x] H Q) : EJ X W O m (.Call (.Name x p) [a] [] pos) (eUn f da) :=
  ej_un ha (fun t h1 => pe_callTy hc hg hm hv (pa_cons h1 pa_nil (ns _ _)) hn hd (ns _ _)) h

theorem ej_len (hg : Gl X "len") (hm : X.mg "len" = none) (ns : NoSt a) (ha : EJ X W O .bo a da) : EJ X W O .sh (.Call (.Name "len" p) [a] [] pos) (eUn vLen da) := by
  refine ej_b1 (call_len.or call_lenD) hg hm PySem.boot_len (by decide) (by decide) ns ha fun F Hs H x v Q s r1 po => ?_
  unfold vLen at po
  split at po
  · obtain ⟨rfl, o, l⟩ := bo_str r1
    exact .inl ⟨_, _, rfl, ⟨l, rfl⟩, po F H _ (.refl s) (.int _)⟩
  · obtain ⟨l, xs, rfl, h1, h2, h3⟩ := bo_list s r1
    exact .inl ⟨_, _, rfl, .inl ⟨xs, h1, rfl⟩, by rw [h3.length]; exact po F H _ (.refl s) (.int _)⟩
  · obtain ⟨l, xs, rfl, h1, _, h2, h3⟩ := bo_tup s r1
    exact .inl ⟨_, _, rfl, .inr ⟨xs, h1, rfl⟩, by rw [h3.length]; exact po F H _ (.refl s) (.int _)⟩
  · obtain ⟨l, xs, rfl, h1, h2, h3⟩ := bo_dict s r1
    exact .inr ⟨_, _, rfl, h1, by rw [h3.length]; exact po F H _ (.refl s) (.int _)⟩
  · exact po.elim
theorem ej_tuple (hg : Gl X "tuple") (hm : X.mg "tuple" = none) (ns : NoSt a) (ha : EJ X W O .bo a da) : EJ X W O m (.Call (.Name "tuple" p) [a] [] pos) (eUn vTuple da) := by
  refine ej_un ha (fun t h1 => pe_tupleOf hg hm h1 (ns _ _)) fun F Hs H x v Q s r1 po => ?_
  unfold vTuple at po
  split at po
  · obtain ⟨l, xs, rfl, h1, h2, h3⟩ := bo_list s r1
    exact .inl ⟨_, _, rfl, h1, fun q hq => po (upd F q (.tup xs)) _ _ (.newF s hq) (RM.of_sh (.tup (SqT.of upd_same) h2 (h3.mono (same_upd' (free_of s hq)))) rfl)⟩
  · obtain ⟨l, xs, rfl, h1, g1, h2, h3⟩ := bo_tup s r1
    exact .inr ⟨_, _, rfl, h1, po F H _ (.refl s) (RM.of_sh (.tup g1 h2 h3) rfl)⟩
  · exact po.elim
theorem ej_list (hg : Gl X "list") (hm : X.mg "list" = none) (ns : NoSt a) (ha : EJ X W O .bo a da) : EJ X W O .fr (.Call (.Name "list" p) [a] [] pos) (eUn vList da) := by
  refine ej_t1 call_list_of hg hm (by decide +kernel) (by decide) (by decide) ns ha fun F Hs H x v Q s r1 po => ?_
  unfold vList at po
  split at po
  · obtain ⟨l, xs, rfl, h1, h2, h3⟩ := bo_list s r1
    exact ⟨_, _, rfl, .inl h1, fun q hq => po F _ _ (.new s hq) (.inr ⟨q, _, rfl, upd_same, .lst h2 h3, free_of s hq, hq⟩)⟩
  · obtain ⟨l, xs, rfl, h1, g1, h2, h3⟩ := bo_tup s r1
    exact ⟨_, _, rfl, .inr h1, fun q hq => po F _ _ (.new s hq) (.inr ⟨q, _, rfl, upd_same, .lst h2 h3, free_of s hq, hq⟩)⟩
  · exact po.elim
theorem ej_all (hh : Here X W k) (hg : Gl X "all") (hm : X.mg "all" = none) (ns : NoSt a) (ha : EJ X W O .bo a da) : EJ X W O .sh (.Call (.Name "all" p) [a] [] pos) (eUn vAll da) := by
  refine ej_b1 (cr_all hh.calm) hg hm (by decide +kernel) (by decide) (by decide) ns ha fun F Hs H x v Q s r1 po => ?_
  unfold vAll at po
  split at po
  · rename_i ds
    cases e : allBool ds with
    | none => rw [e] at po; exact po.elim
    | some bs =>
      rw [e] at po
      rw [allBool_some e] at r1
      obtain ⟨l, xs, rfl, h1, h2, h3⟩ := bo_list s r1
      have ex := rpa_bools h3
      subst ex
      exact ⟨_, _, rfl, h1, po F H _ (.refl s) (.bl _)⟩
  · exact po.elim
theorem ej_any (hh : Here X W k) (hg : Gl X "any") (hm : X.mg "any" = none) (ns : NoSt a) (ha : EJ X W O .bo a da) : EJ X W O .sh (.Call (.Name "any" p) [a] [] pos) (eUn vAny da) := by
  refine ej_b1 (cr_any hh.calm) hg hm (by decide +kernel) (by decide) (by decide) ns ha fun F Hs H x v Q s r1 po => ?_
  unfold vAny at po
  split at po
  · rename_i ds
    cases e : allBool ds with
    | none => rw [e] at po; exact po.elim
    | some bs =>
      rw [e] at po
      rw [allBool_some e] at r1
      obtain ⟨l, xs, rfl, h1, h2, h3⟩ := bo_list s r1
      have ex := rpa_bools h3
      subst ex
      exact ⟨_, _, rfl, h1, po F H _ (.refl s) (.bl _)⟩
  · exact po.elim
theorem ej_sum (hh : Here X W k) (hg : Gl X "sum") (hm : X.mg "sum" = none) (ns : NoSt a) (ha : EJ X W O .bo a da) : EJ X W O .sh (.Call (.Name "sum" p) [a] [] pos) (eUn vSum da) := by
  refine ej_b1 (cr_sum hh.calm) hg hm (by decide +kernel) (by decide) (by decide) ns ha fun F Hs H x v Q s r1 po => ?_
  unfold vSum at po
  split at po
  · rename_i ds
    cases e : allInt ds with
    | none => rw [e] at po; exact po.elim
    | some bs =>
      rw [e] at po
      rw [allInt_some e] at r1
      obtain ⟨l, xs, rfl, h1, h2, h3⟩ := bo_list s r1
      have ex := rpa_ints h3
      subst ex
      exact ⟨_, _, rfl, h1, po F H _ (.refl s) (.int _)⟩
  · exact po.elim
theorem ej_max1 (hh : Here X W k) (hg : Gl X "max") (hm : X.mg "max" = none) (ns : NoSt a) (ha : EJ X W O .bo a da) : EJ X W O .sh (.Call (.Name "max" p) [a] [] pos) (eUn vMax1 da) := by
  refine ej_b1 (cr_max hh.calm) hg hm (by decide +kernel) (by decide) (by decide) ns ha fun F Hs H x v Q s r1 po => ?_
  unfold vMax1 at po
  split at po
  · rename_i ds
    cases e : allInt ds with
    | none => rw [e] at po; exact po.elim
    | some bs =>
      rw [e] at po
      rw [allInt_some e] at r1
      obtain ⟨l, xs, rfl, h1, h2, h3⟩ := bo_list s r1
      have ex := rpa_ints h3
      subst ex
      cases bs with
      | nil => exact po.elim
      | cons n r =>
        refine ⟨_, _, rfl, h1, by simp, fun m hm1 hm2 => ?_⟩
        obtain ⟨q1, q2, q3⟩ := maxL_spec r n
        have em : m = maxL n r := by
          refine Int.le_antisymm ?_ (hm2 _ ?_)
          · rcases List.mem_cons.mp hm1 with rfl | hm1
            · exact q2
            · exact q3 m hm1
          · rcases q1 with q1 | q1
            · rw [q1]; simp
            · simp [q1]
        rw [em]
        exact po F H _ (.refl s) (.int _)
  · exact po.elim
theorem ej_min1 (hh : Here X W k) (hg : Gl X "min") (hm : X.mg "min" = none) (ns : NoSt a) (ha : EJ X W O .bo a da) : EJ X W O .sh (.Call (.Name "min" p) [a] [] pos) (eUn vMin1 da) := by
  refine ej_b1 (cr_min hh.calm) hg hm (by decide +kernel) (by decide) (by decide) ns ha fun F Hs H x v Q s r1 po => ?_
  unfold vMin1 at po
  split at po
  · rename_i ds
    cases e : allInt ds with
    | none => rw [e] at po; exact po.elim
    | some bs =>
      rw [e] at po
      rw [allInt_some e] at r1
      obtain ⟨l, xs, rfl, h1, h2, h3⟩ := bo_list s r1
      have ex := rpa_ints h3
      subst ex
      cases bs with
      | nil => exact po.elim
      | cons n r =>
        refine ⟨_, _, rfl, h1, by simp, fun m hm1 hm2 => ?_⟩
        obtain ⟨q1, q2, q3⟩ := minL_spec r n
        have em : m = minL n r := by
          refine Int.le_antisymm (hm2 _ ?_) ?_
          · rcases q1 with q1 | q1
            · rw [q1]; simp
            · simp [q1]
          · rcases List.mem_cons.mp hm1 with rfl | hm1
            · exact q2
            · exact q3 m hm1
        rw [em]
        exact po F H _ (.refl s) (.int _)
  · exact po.elim
theorem ej_max2 (hh : Here X W k) (hg : Gl X "max") (hm : X.mg "max" = none) (ns : NoSt a) (ns2 : NoSt b) (ha : EJ X W O .bo a da) (hb : EJ X W O .bo b db) : EJ X W O .sh (.Call (.Name "max" p) [a, b] [] pos) (eBin vMax2 da db) := by
  refine ej_b2 (call_max2 hh.calm) hg hm (by decide +kernel) (by decide) (by decide) ns ns2 ha hb fun F Hs Hs' H x v y w Q s r1 r2 po => ?_
  unfold vMax2 at po
  split at po
  · cases bo_int r1; cases bo_int r2
    exact ⟨_, _, rfl, po F H _ (.refl s) (.int _)⟩
  · exact po.elim
theorem ej_min2 (hh : Here X W k) (hg : Gl X "min") (hm : X.mg "min" = none) (ns : NoSt a) (ns2 : NoSt b) (ha : EJ X W O .bo a da) (hb : EJ X W O .bo b db) : EJ X W O .sh (.Call (.Name "min" p) [a, b] [] pos) (eBin vMin2 da db) := by
  refine ej_b2 (call_min2 hh.calm) hg hm (by decide +kernel) (by decide) (by decide) ns ns2 ha hb fun F Hs Hs' H x v y w Q s r1 r2 po => ?_
  unfold vMin2 at po
  split at po
  · cases bo_int r1; cases bo_int r2
    exact ⟨_, _, rfl, po F H _ (.refl s) (.int _)⟩
  · exact po.elim
theorem ej_abs (hg : Gl X "abs") (hm : X.mg "abs" = none) (ns : NoSt a) (ha : EJ X W O .bo a da) : EJ X W O .sh (.Call (.Name "abs" p) [a] [] pos) (eUn vAbs da) := by
  refine ej_b1 call_abs hg hm (by decide +kernel) (by decide) (by decide) ns ha fun F Hs H x v Q s r1 po => ?_
  unfold vAbs at po
  split at po
  · cases bo_int r1
    exact ⟨_, rfl, po F H _ (.refl s) (.int _)⟩
  · exact po.elim
theorem ej_int' (hg : Gl X "int") (hm : X.mg "int" = none) (ns : NoSt a) (ha : EJ X W O .bo a da) : EJ X W O .sh (.Call (.Name "int" p) [a] [] pos) (eUn vInt da) := by
  refine ej_t1 (call_int1.or call_int_str) hg hm (by decide +kernel) (by decide) (by decide) ns ha fun F Hs H x v Q s r1 po => ?_
  unfold vInt at po
  split at po
  · cases bo_int r1
    exact .inl (.inl ⟨_, rfl, po F H _ (.refl s) (.int _)⟩)
  · cases bo_bool r1
    exact .inl (.inr ⟨_, rfl, po F H _ (.refl s) (.int _)⟩)
  · obtain ⟨rfl, o, l⟩ := bo_str r1
    split at po
    · rename_i z hz
      cases e : PySem.intText? z with
      | none => rw [e] at po; exact po.elim
      | some n =>
        rw [e] at po
        exact .inr ⟨_, _, rfl, e, hz, po F H _ (.refl s) (.int _)⟩
    · exact po.elim
  · exact po.elim
theorem ej_strI (hg : Gl X "str") (hm : X.mg "str" = none) (ns : NoSt a) (ha : EJ X W O .bo a da) : EJ X W O .sh (.Call (.Name "str" p) [a] [] pos) (eUn vStr da) := by
  refine ej_t1 call_str_int hg hm (by decide +kernel) (by decide) (by decide) ns ha fun F Hs H x v Q s r1 po => ?_
  unfold vStr at po
  split at po
  · cases bo_int r1
    split at po
    · rename_i hz
      exact ⟨_, rfl, hz.1, po F H _ (.refl s) (.str _ hz.2.1 hz.2.2)⟩
    · exact po.elim
  · exact po.elim
  · exact po.elim
theorem ej_bool (hg : Gl X "bool") (hm : X.mg "bool" = none) (ns : NoSt a) (ha : EJ X W O .bo a da) : EJ X W O .sh (.Call (.Name "bool" p) [a] [] pos) (eUn vBool da) := by
  refine ej_t1 call_bool1 hg hm (by decide +kernel) (by decide) (by decide) ns ha fun F Hs H x v Q s r1 po => ?_
  unfold vBool at po
  split at po
  · cases bo_int r1
    exact .inl ⟨_, rfl, po F H _ (.refl s) (.bl _)⟩
  · cases bo_bool r1
    exact .inr ⟨_, rfl, po F H _ (.refl s) (.bl _)⟩
  · exact po.elim
/-- a value's type -/
theorem ty_v {K : Fg} {F Hs H : Hp} {x : V} {v : D} (s : Same F H) (r : RM .bo K F Hs H x v) : TyX K H x (.type (tyD v)) := by
  cases v with
  | none => cases bo_none r; exact .base .non
  | bool b => cases bo_bool r; exact .base (.bl _)
  | int i => cases bo_int r; exact .base (.int _)
  | str z => obtain ⟨rfl, _, h⟩ := bo_str r; exact .base (.str _)
  | list ds =>
    obtain ⟨a, xs, rfl, h1, _, h3⟩ := bo_list s r
    rcases h1 with (h1 | ⟨o, h1⟩) | ⟨o, its, n, h1, h2, _⟩
    · exact .base (.lst h1)
    · exact .base (.frz h1)
    · exact .kList h1 h2
  | tuple ds =>
    obtain ⟨a, xs, rfl, h1, _, _, h3⟩ := bo_tup s r
    rcases h1 with (h1 | ⟨o, h1⟩) | ⟨o, its, n, h1, h2, _⟩
    · exact .base (.tup h1)
    · exact .fTuple h1
    · exact .kTuple h1 h2
  | dict ps =>
    obtain ⟨a, kvs, rfl, h1, _, h3⟩ := bo_dict s r
    exact .base (.dK h1)
/-- isinstance(x, T), T a built-in type by its name -/
theorem ej_isi {T : Str} {Tn : String} {p2 : Pos} (hg : Gl X "isinstance") (hm : X.mg "isinstance" = none) (hgT : Gl X T) (hmT : X.mg T = none) (hv : bootBuiltins T = some (.type Tn)) (hn : T ≠ "__name__") (hd : (T == ("__debug__" : Str)) = false)
    (ns : NoSt a) (ha : EJ X W O .bo a da) : EJ X W O .sh (.Call (.Name "isinstance" p) [a, .Name T p2] [] pos) (eUn (vIsi Tn) da) := by
  refine ej_un ha (r := fun x H Q => rIsi X.K [x, .ty Tn] H Q) (fun t h1 => pe_callB call_isi hg hm (by decide +kernel) (pa_cons h1 (pa_cons (pe_bltn hgT hmT hv (show RelV (.ty Tn) (.type Tn) from rfl) hn hd) pa_nil) (ns _ _)) (by decide) (by decide) (ns _ _)) fun F Hs H x v Q s r1 po => ?_
  unfold vIsi at po
  cases e : kitB (tyD v) Tn with
  | none => rw [e] at po; exact po.elim
  | some b =>
    rw [e] at po
    exact ⟨x, .ty Tn, .type (tyD v), .type Tn, b, rfl, .ty _, ty_v s r1, kit_ty e, po F H _ (.refl s) (.bl _)⟩
end
end PL

end
section
namespace PL
open PySem PySem.Spec PyProof.Rows L2

def RPost (K : Fg) (mg : Str → Option Value) (m : Mode) (F H : Hp) (r : Res D) (Q : VK) (E : XK) : Prop :=
  match r with
  | .ok v => ∀ F' H' x, Ext F H F' H' → RM m K F' H H' x v → Q x H'
  | .exn e => ∀ F' H' cls dd, Ext F H F' H' → ExRp K mg F' H' cls dd e → E cls dd H'
  | .bad => False
def spOf (K : Fg) (mg : Str → Option Value) (n : Nat) (m : Mode) (d : List D → Res D) : Sp := fun vs H Q E =>
  vs.length = n ∧ ∃ F ds, Same F H ∧ RpA K F vs ds ∧ RPost K mg m F H (d ds) Q E
abbrev DefOk (P : Program) (w : World) (K : Fg) (mg : Str → Option Value) (base : Heap) (k : Nat) (f : Addr) (fd : FuncData) (ps : List Str) (m : Mode) (d : List D → Res D) : Prop :=
  FnOk P w K mg base (L2.CX P w) k f fd ps (spOf K mg ps.length m d)

/-- arguments without stars, as the rules ask -/
def NoStars (es : List Expr) : Prop := ∀ (env : PySem.Env) (pos : Pos), (backTo pos (starEach es env)).any (·.1) = false
theorem noStars_nil : NoStars [] := fun _ _ => rfl
theorem noStars_cons {a : Expr} {es : List Expr} (h : NoSt a) (t : NoStars es) : NoStars (a :: es) := fun env pos => by
  rw [h]
  show ((false || (backTo pos (starEach es env)).any (·.1))) = false
  rw [t env pos]; rfl
section
variable {X : Cx} {W : WX} {O : List Nat} {k j : Nat} {m m1 m2 : Mode} {e a b c : Expr} {es : List Expr} {d da db : DE} {das : DA} {pos p : Pos} {x : Str}
def eCall (f : List D → Res D) (das : DA) : DE := fun ρ => (das ρ).bind f
/-- f(a, ..): the defaults dvs fill up -/
theorem ej_callD {f : Addr} {fd : FuncData} {ps : List Str} {df : List D → Res D} {dvs : List V} {dds : List D} {ds : List Value} (F : DefOk X.prog X.w X.K X.mg X.base k f fd ps m df) (hh : Here X W j) (hk : k ≤ j) (hg : Gl X x) (hm : X.mg x = some (.ref f))
    (kp : PySem.W.keepIn X.K (.ref f) = true) (hb : Binds X.K fd ps ds) (hd : Vals dvs ds) (hr : ∀ F, RpA X.K F dvs dds) (hl : (a :: es).length + dvs.length = ps.length) (hdb : (x == ("__debug__" : Str)) = false) (ns : NoSt a) (nss : NoStars es)
    (ha : AJ X W O (a :: es) das) (hal : ∀ ρ ds, das ρ = .ok ds → ds.length = (a :: es).length) : EJ X W O m (.Call (.Name x p) (a :: es) [] pos) (eCall (fun ds => df (ds ++ dds)) das) := by
  obtain ⟨t, pa, q⟩ := ha
  refine ⟨_, pe_callSD F (hh.hr.mono hk) hg hm kp hb hd (fun σ => passAt hh.tk σ) pa hdb (ns _ _) (nss _ _), fun F0 H0 F H σ ρ Q s po => ?_⟩
  refine q F0 H0 F H σ ρ _ s (EPost.bindA po fun ds F' H' xs hds e rm po' => ?_)
  refine ⟨?_, F', ds ++ dds, e.fh, rm.append (hr F'), ?_⟩
  · rw [List.length_append, rm.length, hal ρ ds hds]; exact hl
  · have po' : EPost X W m F' H' σ (df (ds ++ dds)) Q := po'
    cases hd : df (ds ++ dds) with
    | ok v => rw [hd] at po'; exact po'
    | exn c => rw [hd] at po'; exact po'
    | bad => rw [hd] at po'; exact po'
theorem alen_nil : ∀ ρ ds, aNil ρ = .ok ds → ds.length = ([] : List Expr).length := fun _ _ h => by cases h; rfl
theorem alen_cons {das : DA} (h : ∀ ρ ds, das ρ = .ok ds → ds.length = es.length) : ∀ ρ ds, aCons da das ρ = .ok ds → ds.length = (a :: es).length := fun ρ ds q => by
  unfold aCons at q
  cases h1 : da ρ with
  | ok v =>
    rw [h1] at q
    cases h2 : das ρ with
    | ok vs =>
      rw [h2] at q
      cases q
      simp [h ρ vs h2]
    | exn c => rw [h2] at q; cases q
    | bad => rw [h2] at q; cases q
  | exn c => rw [h1] at q; cases q
  | bad => rw [h1] at q; cases q
theorem ej_call {f : Addr} {fd : FuncData} {ps : List Str} {df : List D → Res D} (F : DefOk X.prog X.w X.K X.mg X.base k f fd ps m df) (hh : Here X W j) (hk : k ≤ j) (hg : Gl X x) (hm : X.mg x = some (.ref f))
    (kp : PySem.W.keepIn X.K (.ref f) = true) (hb : Binds X.K fd ps []) (hl : (a :: es).length = ps.length) (hdb : (x == ("__debug__" : Str)) = false) (ns : NoSt a) (nss : NoStars es)
    (ha : AJ X W O (a :: es) das) (hal : ∀ ρ ds, das ρ = .ok ds → ds.length = (a :: es).length) : EJ X W O m (.Call (.Name x p) (a :: es) [] pos) (eCall df das) := by
  have h := ej_callD (dds := []) F hh hk hg hm kp hb .nil (fun _ => .nil) (by simpa using hl) hdb ns nss ha hal (p := p) (pos := pos)
  have e : (fun ds => df (ds ++ [])) = df := by funext ds; rw [List.append_nil]
  rw [e] at h
  exact h
end

def SPost (X : Cx) (W : WX) (F0 H0 F : Hp) (m : Mode) (O' OL : List Nat) (r : SRes) (Dn : Ends) : Prop :=
  match r with
  | .nx ρ' => ∀ F' H' σ', Same F F' → SR X.K F0 H0 O' F' H' σ' ρ' → Dn.nx σ' H'
  | .rt v => ∀ F' H' x, Ext F0 H0 F' H' → RM m X.K F' H0 H' x v → Dn.rt x H'
  | .bk ρ' => ∀ F' H' σ', Same F F' → SR X.K F0 H0 OL F' H' σ' ρ' → Dn.bk σ' H'
  | .ct ρ' => ∀ F' H' σ', Same F F' → SR X.K F0 H0 OL F' H' σ' ρ' → Dn.ct σ' H'
  | .ex e ρ' => ∀ F' H' σ' cls dd, SR X.K F0 H0 [] F' H' σ' ρ' → ExRp X.K X.mg F' H' cls dd e → W cls dd σ' H'
  | .bad => False
def SJ (X : Cx) (W : WX) (m : Mode) (O O' OL : List Nat) (st : Stmt) (d : DS) : Prop :=
  ∃ t, PS X st t ∧ ∀ F0 H0 F H σ ρ Dn, SR X.K F0 H0 O F H σ ρ → SPost X W F0 H0 F m O' OL (d ρ) Dn → t Dn σ H
def BJ (X : Cx) (W : WX) (m : Mode) (O O' OL : List Nat) (st : List Stmt) (d : DS) : Prop :=
  ∃ t, PSs X st t ∧ ∀ F0 H0 F H σ ρ Dn, SR X.K F0 H0 O F H σ ρ → SPost X W F0 H0 F m O' OL (d ρ) Dn → t Dn σ H

section
variable {X : Cx} {W : WX} {O O' O1 OL : List Nat} {m : Mode} {F0 H0 F H : Hp} {σ : L2.St} {ρ : Lo} {Dn : Ends}
theorem ExRp.mono {K : Fg} {mg : Str → Option Value} {F F' H : Hp} {cls : Value} {dd : Option Addr} {e : D} (s : Same F F') (h : ExRp K mg F H cls dd e) : ExRp K mg F' H cls dd e := by
  obtain ⟨c, args, h1, h2, h3⟩ := h
  refine ⟨c, args, h1, h2, ?_⟩
  rcases h3 with h3 | ⟨f, v, d, x, q1, q2, q3, q4⟩
  · exact .inl h3
  · exact .inr ⟨f, v, d, x, q1, q2, q3, q4.mono s⟩
theorem SPost.ext {F1 : Hp} {r : SRes} (e : Same F F1) (h : SPost X W F0 H0 F m O' OL r Dn) : SPost X W F0 H0 F1 m O' OL r Dn := by
  cases r with
  | nx ρ' => exact fun F' H' σ' a b => h F' H' σ' (e.trans a) b
  | bk ρ' => exact fun F' H' σ' a b => h F' H' σ' (e.trans a) b
  | ct ρ' => exact fun F' H' σ' a b => h F' H' σ' (e.trans a) b
  | rt v => exact h
  | ex c ρ' => exact h
  | bad => exact h
/-- what an expression lets out, seen from its statement -/
theorem exn_of {e : D} {m' : Mode} {Q : VK} (s : SR X.K F0 H0 O F H σ ρ) (po : SPost X W F0 H0 F m O' OL (.ex e ρ) Dn) : EPost X W m' F H σ (.exn e) Q := by
  intro F' H' cls dd ext er
  obtain ⟨F2, e2, s2⟩ := (s.ext ext).all
  exact po F2 H' σ cls dd s2 (er.mono e2)
end
def sSkip : DS := fun ρ => .nx ρ
def sSeq (a b : DS) : DS := fun ρ => match a ρ with
  | .nx ρ' => b ρ'
  | r => r
def sOf (r : Res D) (ρ : Lo) (f : D → SRes) : SRes := match r with
  | .ok v => f v
  | .exn e => .ex e ρ
  | .bad => .bad
def sOfT (r : Res Bool) (ρ : Lo) (f : Bool → SRes) : SRes := match r with
  | .ok v => f v
  | .exn e => .ex e ρ
  | .bad => .bad
def sIf (c : DT) (a b : DS) : DS := fun ρ => sOfT (c ρ) ρ fun k => if k = true then a ρ else b ρ
def sSet (i : Nat) (e : DE) : DS := fun ρ => sOf (e ρ) ρ fun v => .nx (ρ.set i (some v))
/-- .. of a new list or dict that the def will change -/
def sSetO (i : Nat) (e : DE) : DS := fun ρ => sOf (e ρ) ρ fun v => if isMut v = true then .nx (ρ.set i (some v)) else .bad
def sRet (e : DE) : DS := fun ρ => sOf (e ρ) ρ fun v => .rt v
def sRetN : DS := fun _ => .rt .none
def sExpr (e : DE) : DS := fun ρ => sOf (e ρ) ρ fun _ => .nx ρ
def sBreak : DS := fun ρ => .bk ρ
def sCont : DS := fun ρ => .ct ρ
section
variable {X : Cx} {W : WX} {O O' O1 OL : List Nat} {k : Nat} {m m1 : Mode} {e : Expr} {de : DE} {dt : DT} {d da db : DS} {st : Stmt} {sts : List Stmt} {pos : Pos}
theorem bj_nil : BJ X W m O O OL [] sSkip := ⟨_, pss_nil, fun F0 H0 F H σ ρ Dn s po => po F H σ (.refl _) s⟩
theorem bj_cons (h1 : SJ X W m O O1 OL st da) (h2 : BJ X W m O1 O' OL sts db) : BJ X W m O O' OL (st :: sts) (sSeq da db) := by
  obtain ⟨t, p, q⟩ := h1
  obtain ⟨u, p2, q2⟩ := h2
  refine ⟨_, pss_cons p p2, fun F0 H0 F H σ ρ Dn s po => q F0 H0 F H σ ρ _ s ?_⟩
  unfold sSeq at po
  cases e : da ρ with
  | nx ρ' => rw [e] at po; exact fun F' H' σ' a s' => q2 F0 H0 F' H' σ' ρ' Dn s' (SPost.ext a po)
  | rt v => rw [e] at po; exact po
  | bk ρ' => rw [e] at po; exact po
  | ct ρ' => rw [e] at po; exact po
  | ex c ρ' => rw [e] at po; exact po
  | bad => rw [e] at po; exact po
/-- slots shared from here on -/
theorem BJ.drop (I : List Nat) (h : BJ X W m (O.filter fun j => !I.contains j) O' OL sts d) : BJ X W m O O' OL sts d := by
  obtain ⟨t, p, q⟩ := h
  refine ⟨t, p, fun F0 H0 F H σ ρ Dn s po => ?_⟩
  obtain ⟨F', a, s'⟩ := s.drop I
  exact q F0 H0 F' H σ ρ Dn s' (SPost.ext a po)
/-- .. behind it -/
theorem SJ.dropO (I : List Nat) (h : SJ X W m O (O'.filter fun j => !I.contains j) OL st d) (hO : O'.filter (fun j => !I.contains j) = O1) : SJ X W m O O1 OL st d := hO ▸ h
theorem SJ.outDrop (I : List Nat) (h : SJ X W m O O' OL st d) : SJ X W m O (O'.filter fun j => !I.contains j) OL st d := by
  obtain ⟨t, p, q⟩ := h
  refine ⟨t, p, fun F0 H0 F H σ ρ Dn s po => q F0 H0 F H σ ρ Dn s ?_⟩
  cases e : d ρ with
  | nx ρ' =>
    rw [e] at po
    intro F' H' σ' a s'
    obtain ⟨F2, b, s2⟩ := s'.drop I
    exact po F2 H' σ' (a.trans b) s2
  | rt v => rw [e] at po; exact po
  | bk ρ' => rw [e] at po; exact po
  | ct ρ' => rw [e] at po; exact po
  | ex c ρ' => rw [e] at po; exact po
  | bad => rw [e] at po; exact po
theorem BJ.outDrop (I : List Nat) (h : BJ X W m O O' OL sts d) : BJ X W m O (O'.filter fun j => !I.contains j) OL sts d := by
  obtain ⟨t, p, q⟩ := h
  refine ⟨t, p, fun F0 H0 F H σ ρ Dn s po => q F0 H0 F H σ ρ Dn s ?_⟩
  cases e : d ρ with
  | nx ρ' =>
    rw [e] at po
    intro F' H' σ' a s'
    obtain ⟨F2, b, s2⟩ := s'.drop I
    exact po F2 H' σ' (a.trans b) s2
  | rt v => rw [e] at po; exact po
  | bk ρ' => rw [e] at po; exact po
  | ct ρ' => rw [e] at po; exact po
  | ex c ρ' => rw [e] at po; exact po
  | bad => rw [e] at po; exact po
/-- code that the walk never passes: a block that does not go on has any slots behind it -/
def NoNx (d : DS) : Prop := ∀ ρ ρ', d ρ ≠ .nx ρ'
theorem BJ.any (n : NoNx d) (h : BJ X W m O O1 OL sts d) : BJ X W m O O' OL sts d := by
  obtain ⟨t, p, q⟩ := h
  refine ⟨t, p, fun F0 H0 F H σ ρ Dn s po => q F0 H0 F H σ ρ Dn s ?_⟩
  cases e : d ρ with
  | nx ρ' => exact (n ρ ρ' e).elim
  | rt v => rw [e] at po; exact po
  | bk ρ' => rw [e] at po; exact po
  | ct ρ' => rw [e] at po; exact po
  | ex c ρ' => rw [e] at po; exact po
  | bad => rw [e] at po; exact po
theorem noNx_ret {e : DE} : NoNx (sRet e) := fun ρ ρ' h => by
  unfold sRet sOf at h
  cases q : e ρ <;> rw [q] at h <;> cases h
theorem noNx_retN : NoNx sRetN := fun ρ ρ' h => by cases h
theorem noNx_break : NoNx sBreak := fun ρ ρ' h => by cases h
theorem noNx_cont : NoNx sCont := fun ρ ρ' h => by cases h
theorem noNx_seq1 (h : NoNx da) : NoNx (sSeq da db) := fun ρ ρ' q => by
  unfold sSeq at q
  cases e : da ρ with
  | nx r => exact h ρ r e
  | _ => rw [e] at q; cases q
theorem noNx_seq2 (h : NoNx db) : NoNx (sSeq da db) := fun ρ ρ' q => by
  unfold sSeq at q
  cases e : da ρ with
  | nx r => rw [e] at q; exact h r ρ' q
  | _ => rw [e] at q; cases q
theorem noNx_if {c : DT} (h1 : NoNx da) (h2 : NoNx db) : NoNx (sIf c da db) := fun ρ ρ' q => by
  unfold sIf sOfT at q
  cases e : c ρ with
  | ok b =>
    rw [e] at q
    cases b with
    | true => exact h1 ρ ρ' q
    | false => exact h2 ρ ρ' q
  | _ => rw [e] at q; cases q

theorem sOf_post {F0 H0 F H : Hp} {σ : L2.St} {ρ : Lo} {Dn : Ends} {r : Res D} {f : D → SRes} {Q : VK} (s : SR X.K F0 H0 O F H σ ρ) (po : SPost X W F0 H0 F m O' OL (sOf r ρ f) Dn)
    (k : ∀ v F' H' x, SR X.K F0 H0 O F' H' σ ρ → Ext F H F' H' → RM m1 X.K F' H H' x v → SPost X W F0 H0 F' m O' OL (f v) Dn → Q x H') : EPost X W m1 F H σ r Q := by
  cases r with
  | ok v => exact fun F' H' x e rm => k v F' H' x (s.ext e) e rm (SPost.ext e.ff po)
  | exn c => exact exn_of s po
  | bad => exact po
theorem sj_if {c : Expr} {dc : DT} {a b : List Stmt} (hc : TJ X W O c dc) (ha : BJ X W m O O' OL a da) (hb : BJ X W m O O' OL b db) : SJ X W m O O' OL (.If c a b pos) (sIf dc da db) := by
  obtain ⟨t, p, q⟩ := hc
  obtain ⟨u, p1, q1⟩ := ha
  obtain ⟨v, p2, q2⟩ := hb
  refine ⟨_, ps_if p p1 p2, fun F0 H0 F H σ ρ Dn s po => q F0 H0 F H σ ρ _ s ?_⟩
  unfold sIf at po
  cases e : dc ρ with
  | ok k =>
    rw [e] at po
    intro F' H' ex
    cases k with
    | true => exact q1 F0 H0 F' H' σ ρ Dn (s.ext ex) (SPost.ext ex.ff po)
    | false => exact q2 F0 H0 F' H' σ ρ Dn (s.ext ex) (SPost.ext ex.ff po)
  | exn c =>
    rw [e] at po
    exact exn_of (m' := .sh) (Q := fun _ _ => True) s po
  | bad => rw [e] at po; exact po
/-- name = value -/
theorem sj_set {i : Nat} (hi : i ∉ O) (he : EJ X W O .sh e de) (h : ∀ t, PE X e t → PS X st (tAsg t (gName i))) : SJ X W m O O OL st (sSet i de) := by
  obtain ⟨t, p, q⟩ := he
  refine ⟨_, h t p, fun F0 H0 F H σ ρ Dn s po => q F0 H0 F H σ ρ _ s (sOf_post (m1 := .sh) s po fun v F' H' x s' ex rm po' => ?_)⟩
  exact po' F' H' _ (.refl _) (s'.setS hi rm)
/-- name = a new list: an owned slot -/
theorem sj_setO {i : Nat} (hO : (i :: O.filter fun j => j != i) = O') (he : EJ X W O .fr e de) (h : ∀ t, PE X e t → PS X st (tAsg t (gName i))) : SJ X W m O O' OL st (sSetO i de) := by
  subst hO
  obtain ⟨t, p, q⟩ := he
  refine ⟨_, h t p, fun F0 H0 F H σ ρ Dn s po => q F0 H0 F H σ ρ _ s ?_⟩
  unfold sSetO sOf at po
  cases e : de ρ with
  | ok v =>
    rw [e] at po
    intro F' H' x ex rm
    by_cases hv : isMut v = true
    · have po : SPost X W F0 H0 F m _ OL (if isMut v = true then .nx (ρ.set i (some v)) else .bad) Dn := po
      rw [if_pos hv] at po
      rcases rm with ⟨hn, _⟩ | ⟨a, o, rfl, h2, h3, h4, h5⟩
      · rw [hv] at hn; cases hn
      · have s' := s.ext ex
        refine po F' H' _ ex.ff (s'.setO h2 h3 h4 (free_of s.e0.hh h5) fun j w hj hne hw hs => ?_)
        obtain ⟨b, ob, q1, q2, _⟩ := s.ow j w hj hw
        rw [hs] at q1
        cases q1
        rw [h5] at q2; cases q2
    · have po : SPost X W F0 H0 F m _ OL (if isMut v = true then .nx (ρ.set i (some v)) else .bad) Dn := po
      rw [if_neg hv] at po
      exact po.elim
  | exn c => rw [e] at po; exact exn_of s po
  | bad => rw [e] at po; exact po
theorem sj_ret (he : EJ X W O .sh e de) : SJ X W .sh O O' OL (.Return (some e) pos) (sRet de) := by
  obtain ⟨t, p, q⟩ := he
  refine ⟨_, ps_ret p, fun F0 H0 F H σ ρ Dn s po => q F0 H0 F H σ ρ _ s (sOf_post (m1 := .sh) s po fun v F' H' x s' ex rm po' => ?_)⟩
  exact po' F' H' x s'.e0 rm
theorem sj_retF (he : EJ X W O .fr e de) : SJ X W .fr O O' OL (.Return (some e) pos) (sRet de) := by
  obtain ⟨t, p, q⟩ := he
  refine ⟨_, ps_ret p, fun F0 H0 F H σ ρ Dn s po => q F0 H0 F H σ ρ _ s (sOf_post (m1 := .fr) s po fun v F' H' x s' ex rm po' => ?_)⟩
  exact po' F' H' x s'.e0 (rm.back s.e0.hh)
/-- return x, x an owned slot -/
theorem sj_retO {i : Nat} {x : Str} {p' : Pos} (hi : i ∈ O) (h : PE X (.Name x p') (tVar i)) : SJ X W .fr O O' OL (.Return (some (.Name x p')) pos) (sRet (eVar i)) := by
  refine ⟨_, ps_ret h, fun F0 H0 F H σ ρ Dn s po => ?_⟩
  unfold sRet sOf eVar at po
  cases hv : ρ[i]? with
  | none => rw [hv] at po; exact po.elim
  | some ov =>
    cases ov with
    | none => rw [hv] at po; exact po.elim
    | some v =>
      rw [hv] at po
      obtain ⟨a, o, h1, h2, h3, h4, h5⟩ := s.ow i v hi hv
      exact ⟨_, h1, po F H _ s.e0 (.inr ⟨a, o, rfl, h2, h3, h4, h5⟩)⟩
theorem sj_retN : SJ X W .sh O O' OL (.Return none pos) sRetN := ⟨_, ps_retN, fun F0 H0 F H σ ρ Dn s po => po F H _ s.e0 .non⟩
theorem sj_expr (he : EJ X W O .sh e de) (hs : swapsWith e none pos.line X.env = pure false := by rfl) : SJ X W m O O OL (.Expr e pos) (sExpr de) := by
  obtain ⟨t, p, q⟩ := he
  refine ⟨_, ps_expr p hs, fun F0 H0 F H σ ρ Dn s po => q F0 H0 F H σ ρ _ s (sOf_post (m1 := .sh) s po fun v F' H' x s' ex rm po' => ?_)⟩
  exact po' F' H' σ (.refl _) s'
theorem sj_pass : SJ X W m O O OL (.Pass pos) sSkip := ⟨_, ps_pass, fun F0 H0 F H σ ρ Dn s po => po F H σ (.refl _) s⟩
theorem sj_break : SJ X W m O O' O (.Break pos) sBreak := ⟨_, ps_break, fun F0 H0 F H σ ρ Dn s po => po F H σ (.refl _) s⟩
theorem sj_cont : SJ X W m O O' O (.Continue pos) sCont := ⟨_, ps_continue, fun F0 H0 F H σ ρ Dn s po => po F H σ (.refl _) s⟩
end
end PL

end
section
namespace PL
open PySem PySem.Spec PyProof.Rows L2

theorem wipe_get (σ : L2.St) : ∀ (vs : List Nat) (j : Nat), (wipe σ vs)[j]? = if j ∈ vs then (σ[j]?).map (fun _ => none) else σ[j]?
  | [], j => by simp [wipe]
  | v :: vs, j => by
    have ih := wipe_get σ vs j
    unfold wipe
    by_cases hj : j = v
    · subst hj
      rw [List.getElem?_set]
      simp only [List.mem_cons, true_or, if_true]
      by_cases hl : j < (wipe σ vs).length
      · rw [if_pos hl]
        rw [wipe_length] at hl
        rw [List.getElem?_eq_getElem hl]; rfl
      · rw [if_neg hl]
        rw [wipe_length] at hl
        rw [List.getElem?_eq_none (by omega)]; rfl
    · rw [List.getElem?_set_ne (Ne.symm hj), ih]
      simp [hj]
theorem wipe_set {σ : L2.St} {vs : List Nat} {i : Nat} {x : Option V} (h : i ∈ vs) : wipe (σ.set i x) vs = wipe σ vs := by
  apply List.ext_getElem?
  intro j
  rw [wipe_get, wipe_get]
  by_cases hj : j = i
  · subst hj
    rw [if_pos h, if_pos h, List.getElem?_set]
    by_cases hl : j < σ.length
    · simp [hl]
    · simp [hl]
  · rw [List.getElem?_set_ne (Ne.symm hj)]
theorem wipe_wipe {σ : L2.St} {vs : List Nat} : wipe (wipe σ vs) vs = wipe σ vs := by
  apply List.ext_getElem?
  intro j
  rw [wipe_get, wipe_get]
  by_cases hj : j ∈ vs
  · simp only [if_pos hj, Option.map_map]; rfl
  · simp only [if_neg hj]
def wipeD (ρ : Lo) : List Nat → Lo
  | [] => ρ
  | v :: vs => (wipeD ρ vs).set v none
theorem SR.wipe {K : Fg} {F0 H0 F H : Hp} {O : List Nat} {σ : L2.St} {ρ : Lo} (s : SR K F0 H0 O F H σ ρ) : ∀ vs : List Nat, SR K F0 H0 O F H (wipe σ vs) (wipeD ρ vs)
  | [] => s
  | v :: vs => (SR.wipe s vs).wipe1

abbrev DG := D → Lo → Option Lo
abbrev DGs := List D → Lo → Option Lo
def GJ (X : Cx) (O ts : List Nat) (tg : Expr) (g : DG) : Prop :=
  ∃ t, PG X tg t ∧ ∀ F0 H0 F H σ ρ x v Q, SR X.K F0 H0 O F H σ ρ → Rp X.K F x v → (match g v ρ with
    | some ρ' => ∀ σ', SR X.K F0 H0 O F H σ' ρ' → (∀ vs : List Nat, (∀ i ∈ ts, i ∈ vs) → wipe σ' vs = wipe σ vs) → Q σ' H
    | none => False) → t x σ H Q
def GsJ (X : Cx) (O ts : List Nat) (tgs : List Expr) (g : DGs) : Prop :=
  ∃ t, PGs X tgs t ∧ ∀ F0 H0 F H σ ρ xs ds Q, SR X.K F0 H0 O F H σ ρ → RpA X.K F xs ds → (match g ds ρ with
    | some ρ' => ∀ σ', SR X.K F0 H0 O F H σ' ρ' → (∀ vs : List Nat, (∀ i ∈ ts, i ∈ vs) → wipe σ' vs = wipe σ vs) → Q σ' H
    | none => False) → t xs σ H Q
def gN (i : Nat) : DG := fun v ρ => some (ρ.set i (some v))
def gsNil : DGs := fun ds ρ => match ds with
  | [] => some ρ
  | _ => none
def gsCons (g : DG) (gs : DGs) : DGs := fun ds ρ => match ds with
  | [] => none
  | d :: r => match g d ρ with
    | some ρ' => gs r ρ'
    | none => none
def gT (n : Nat) (gs : DGs) : DG := fun v ρ => match v with
  | .tuple ds => if ds.length = n then gs ds ρ else none
  | _ => none
section
variable {X : Cx} {W : WX} {O ts ts' : List Nat} {k : Nat} {tg : Expr} {tgs : List Expr} {g : DG} {gs : DGs} {pos : Pos}
theorem gj_name {i : Nat} (hi : i ∉ O) (h : PG X tg (gName i)) : GJ X O [i] tg (gN i) :=
  ⟨_, h, fun F0 H0 F H σ ρ x v Q s r po => po _ (s.setS hi r) fun vs hv => wipe_set (hv i (by simp))⟩
theorem gsj_nil : GsJ X O [] [] gsNil := ⟨_, pgs_nil, fun F0 H0 F H σ ρ xs ds Q s r po => by
  cases r with
  | nil => exact ⟨rfl, po σ s fun _ _ => rfl⟩
  | cons _ _ => exact po.elim⟩
theorem gsj_cons (h : GJ X O ts tg g) (h2 : GsJ X O ts' tgs gs) (hs : (assignEach (tg :: tgs) X.env).map (·.2) = assign tg X.env :: (assignEach tgs X.env).map (·.2)) : GsJ X O (ts ++ ts') (tg :: tgs) (gsCons g gs) := by
  obtain ⟨t, p, q⟩ := h
  obtain ⟨u, p2, q2⟩ := h2
  refine ⟨_, pgs_cons p p2 hs, fun F0 H0 F H σ ρ xs ds Q s r po => ?_⟩
  cases r with
  | nil => exact po.elim
  | @cons x xs d ds h1 h2 =>
    refine ⟨x, xs, rfl, q F0 H0 F H σ ρ x d _ s h1 ?_⟩
    have po : (match (match g d ρ with | some ρ' => gs ds ρ' | none => none) with
      | some ρ' => ∀ σ', SR X.K F0 H0 O F H σ' ρ' → (∀ vs : List Nat, (∀ i ∈ ts ++ ts', i ∈ vs) → wipe σ' vs = wipe σ vs) → Q σ' H
      | none => False) := po
    cases e : g d ρ with
    | none => rw [e] at po; exact po
    | some ρ1 =>
      rw [e] at po
      intro σ1 s1 w1
      refine q2 F0 H0 F H σ1 ρ1 xs ds Q s1 h2 ?_
      have po : (match gs ds ρ1 with
        | some ρ' => ∀ σ', SR X.K F0 H0 O F H σ' ρ' → (∀ vs : List Nat, (∀ i ∈ ts ++ ts', i ∈ vs) → wipe σ' vs = wipe σ vs) → Q σ' H
        | none => False) := po
      cases e2 : gs ds ρ1 with
      | none => rw [e2] at po; exact po
      | some ρ2 =>
        rw [e2] at po
        exact fun σ2 s2 w2 => po σ2 s2 fun vs hv => (w2 vs fun i hi => hv i (by simp [hi])).trans (w1 vs fun i hi => hv i (by simp [hi]))
theorem gj_tup {n j : Nat} (hc : X.calm = true) (h : GsJ X O ts tgs gs) (hn : (assignEach tgs X.env).length = n) (hst : (assignEach tgs X.env).findIdx? (·.1) = none) : GJ X O ts (.Tuple tgs j pos) (gT n gs) := by
  obtain ⟨t, p, q⟩ := h
  refine ⟨_, pg_tup hc p hn hst, fun F0 H0 F H σ ρ x v Q s r po => ?_⟩
  unfold gT at po
  cases r with
  | tup h1 h2 h3 =>
    rename_i a xs ds
    have po : (match (if ds.length = n then gs ds ρ else none) with
      | some ρ' => ∀ σ', SR X.K F0 H0 O F H σ' ρ' → (∀ vs : List Nat, (∀ i ∈ ts, i ∈ vs) → wipe σ' vs = wipe σ vs) → Q σ' H
      | none => False) := po
    by_cases hl : ds.length = n
    · rw [if_pos hl] at po
      exact ⟨_, _, rfl, seqT s.sub h1, by rw [h3.length]; exact hl, q F0 H0 F H σ ρ _ _ Q s h3 po⟩
    · rw [if_neg hl] at po; exact po.elim
  | _ => exact po.elim
end

/-- B: the part of the heap that it leans on; BF: what its values lean on -/
structure ItOk (K : Fg) (BF B : Hp) (J : It) (ds : List D) : Prop where
  go : ∀ i H2, Same B H2 → i < ds.length → J.go i H2
  stop : ∀ H2, Same B H2 → J.stop ds.length H2
  yld : ∀ i H2 x H3 F2, Same B H2 → Same BF F2 → Same F2 H2 → i < ds.length → J.yld i H2 x H3 → ∃ F3 d, Ext F2 H2 F3 H3 ∧ ds[i]? = some d ∧ Rp K F3 x d
def IPost (X : Cx) (W : WX) (bo : Bool) (F H : Hp) (σ : L2.St) (r : Res (List D)) (R : It → Hp → Prop) : Prop :=
  match r with
  | .ok ds => ∀ F' H' J, Ext F H F' H' → (bo = true → ds.length ≤ sizeLine) → ItOk X.K F' (if bo then H' else F') J ds → R J H'
  | .exn e => ∀ F' H' cls dd, Ext F H F' H' → ExRp X.K X.mg F' H' cls dd e → W cls dd σ H'
  | .bad => False
/-- bo: for a comprehension: the walked list may be an owned one, its length is within the line -/
def IJ (X : Cx) (W : WX) (O : List Nat) (bo : Bool) (tg iter : Expr) (d : DA) : Prop :=
  ∃ wi, PI X tg iter wi ∧ ∀ F0 H0 F H σ ρ R, SR X.K F0 H0 O F H σ ρ → IPost X W bo F H σ (d ρ) R → wi σ H R
def itemsD : D → Option (List D)
  | .list ds => some ds
  | .tuple ds => some ds
  | .str z => some (z.cps.toList.map fun c => .str ⟨#[c]⟩)
  | _ => none
def iVal (e : DE) : DA := fun ρ => (e ρ).bind fun v => Res.up (itemsD v)
theorem itOk_list {K : Fg} {BF B : Hp} {a : Addr} {xs : List V} {ds : List D} (h : SqL K B a xs) (r : RpA K BF xs ds) : ItOk K BF B (Itl K a) ds where
  go := fun i H2 s hi => by
    rw [← r.length] at hi
    exact ⟨xs, xs[i], s.seq h, List.getElem?_eq_getElem hi⟩
  stop := fun H2 s => ⟨xs, s.seq h, by rw [r.length]; exact Nat.le_refl _⟩
  yld := fun i H2 x H3 F2 s sf sh hi y => by
    obtain ⟨rfl, hy⟩ := y
    obtain ⟨d, h1, h2⟩ := r.getV (hy xs (s.seq h))
    exact ⟨F2, d, .refl sh, h1, h2.mono sf⟩
theorem itOk_tup {K : Fg} {BF B : Hp} {a : Addr} {xs : List V} {ds : List D} (h : SqT K B a xs) (r : RpA K BF xs ds) : ItOk K BF B (Itt K a) ds where
  go := fun i H2 s hi => by
    rw [← r.length] at hi
    exact ⟨xs, xs[i], seqT s h, List.getElem?_eq_getElem hi⟩
  stop := fun H2 s => ⟨xs, seqT s h, by rw [r.length]; exact Nat.le_refl _⟩
  yld := fun i H2 x H3 F2 s sf sh hi y => by
    obtain ⟨rfl, hy⟩ := y
    obtain ⟨d, h1, h2⟩ := r.getV (hy xs (seqT s h))
    exact ⟨F2, d, .refl sh, h1, h2.mono sf⟩
theorem itOk_str {K : Fg} {BF B : Hp} {z : Str} (h : PyData.strOk z = true) : ItOk K BF B (Its z) (z.cps.toList.map fun c => .str ⟨#[c]⟩) where
  go := fun i H2 s hi => by rw [List.length_map] at hi; exact hi
  stop := fun H2 s => by rw [List.length_map]; exact Nat.le_refl _
  yld := fun i H2 x H3 F2 s sf sh hi y => by
    obtain ⟨rfl, c, hc, rfl⟩ := y
    refine ⟨F2, .str ⟨#[c]⟩, .refl sh, ?_, .str _ (strOk_one (strOk_mem h ?_)) one_le_line⟩
    · rw [List.getElem?_map, Array.getElem?_toList, hc]; rfl
    · exact List.mem_of_getElem? (by rw [Array.getElem?_toList]; exact hc)
theorem itOk_range {K : Fg} {BF B : Hp} {lo : Int} {n : Nat} : ItOk K BF B (Itr lo n) ((List.range n).map fun i => .int (lo + (i : Nat))) where
  go := fun i H2 s hi => by rw [List.length_map, List.length_range] at hi; exact hi
  stop := fun H2 s => by rw [List.length_map, List.length_range]; exact Nat.le_refl _
  yld := fun i H2 x H3 F2 s sf sh hi y => by
    obtain ⟨rfl, rfl⟩ := y
    rw [List.length_map, List.length_range] at hi
    exact ⟨F2, _, .refl sh, by rw [List.getElem?_map, List.getElem?_range hi]; rfl, .int _⟩
theorem itOk_rangeC {K : Fg} {BF B : Hp} {lo c : Int} {n : Nat} : ItOk K BF B (Itc lo c n) ((List.range n).map fun i => .int (lo + (i : Nat) * c)) where
  go := fun i H2 s hi => by rw [List.length_map, List.length_range] at hi; exact hi
  stop := fun H2 s => by rw [List.length_map, List.length_range]; exact Nat.le_refl _
  yld := fun i H2 x H3 F2 s sf sh hi y => by
    obtain ⟨rfl, rfl⟩ := y
    rw [List.length_map, List.length_range] at hi
    exact ⟨F2, _, .refl sh, by rw [List.getElem?_map, List.getElem?_range hi]; rfl, .int _⟩
theorem itOk_zipL {K : Fg} {BF B : Hp} {a b : Addr} {xs ys : List V} {ds es : List D} (h : SqL K B a xs) (r : RpA K BF xs ds) (h' : SqL K B b ys) (r' : RpA K BF ys es) : ItOk K BF B (Itz K a b) (List.zipWith (fun d e => .tuple [d, e]) ds es) where
  go := fun i H2 s hi => by
    rw [List.length_zipWith] at hi
    have h1 : i < xs.length := by rw [r.length]; omega
    have h2 : i < ys.length := by rw [r'.length]; omega
    exact ⟨xs, ys, xs[i], ys[i], s.seq h, s.seq h', List.getElem?_eq_getElem h1, List.getElem?_eq_getElem h2⟩
  stop := fun H2 s => ⟨xs, ys, s.seq h, s.seq h', by rw [List.length_zipWith, r.length, r'.length]; omega⟩
  yld := fun i H2 x H3 F2 s sf sh hi y => by
    obtain ⟨T, x1, y1, rfl, hT, rfl, h1, h2⟩ := y
    obtain ⟨d, e1, q1⟩ := r.getV (h1 xs (s.seq h))
    obtain ⟨e, e2, q2⟩ := r'.getV (h2 ys (s.seq h'))
    have sn := same_upd' (o := .tup [x1, y1]) (free_of sh hT)
    refine ⟨_, .tuple [d, e], .newF sh hT, by rw [List.getElem?_zipWith, e1, e2], .tup (SqT.of upd_same) (by show 2 ≤ sizeLine; decide) (.cons ((q1.mono sf).mono sn) (.cons ((q2.mono sf).mono sn) .nil))⟩
theorem itOk_zipT {K : Fg} {BF B : Hp} {a b : Addr} {xs ys : List V} {ds es : List D} (h : SqT K B a xs) (r : RpA K BF xs ds) (h' : SqT K B b ys) (r' : RpA K BF ys es) : ItOk K BF B (RZ.ItzT K a b) (List.zipWith (fun d e => .tuple [d, e]) ds es) where
  go := fun i H2 s hi => by
    rw [List.length_zipWith] at hi
    have h1 : i < xs.length := by rw [r.length]; omega
    have h2 : i < ys.length := by rw [r'.length]; omega
    exact ⟨xs, ys, xs[i], ys[i], seqT s h, seqT s h', List.getElem?_eq_getElem h1, List.getElem?_eq_getElem h2⟩
  stop := fun H2 s => ⟨xs, ys, seqT s h, seqT s h', by rw [List.length_zipWith, r.length, r'.length]; omega⟩
  yld := fun i H2 x H3 F2 s sf sh hi y => by
    obtain ⟨T, x1, y1, rfl, hT, rfl, h1, h2⟩ := y
    obtain ⟨d, e1, q1⟩ := r.getV (h1 xs (seqT s h))
    obtain ⟨e, e2, q2⟩ := r'.getV (h2 ys (seqT s h'))
    have sn := same_upd' (o := .tup [x1, y1]) (free_of sh hT)
    refine ⟨_, .tuple [d, e], .newF sh hT, by rw [List.getElem?_zipWith, e1, e2], .tup (SqT.of upd_same) (by show 2 ≤ sizeLine; decide) (.cons ((q1.mono sf).mono sn) (.cons ((q2.mono sf).mono sn) .nil))⟩
theorem itOk_enum {K : Fg} {BF B : Hp} {a : Addr} {xs : List V} {ds : List D} (h : SqL K B a xs) (r : RpA K BF xs ds) : ItOk K BF B (Ite K a) (ds.zipIdx.map fun p => .tuple [.int (p.2 : Nat), p.1]) where
  go := fun i H2 s hi => by
    rw [List.length_map, List.length_zipIdx, ← r.length] at hi
    exact ⟨xs, xs[i], s.seq h, List.getElem?_eq_getElem hi⟩
  stop := fun H2 s => ⟨xs, s.seq h, by rw [List.length_map, List.length_zipIdx, r.length]; exact Nat.le_refl _⟩
  yld := fun i H2 x H3 F2 s sf sh hi y => by
    obtain ⟨T, x1, rfl, hT, rfl, h1⟩ := y
    obtain ⟨d, e1, q1⟩ := r.getV (h1 xs (s.seq h))
    have sn := same_upd' (o := .tup [.int (i : Nat), x1]) (free_of sh hT)
    refine ⟨_, .tuple [.int (i : Nat), d], .newF sh hT, ?_, .tup (SqT.of upd_same) (by show 2 ≤ sizeLine; decide) (.cons (.int _) (.cons ((q1.mono sf).mono sn) .nil))⟩
    rw [List.getElem?_map, List.getElem?_zipIdx, e1]
    simp
theorem itOk_revL {K : Fg} {BF B : Hp} {a : Addr} {xs : List V} {ds : List D} (h : SqL K B a xs) (r : RpA K BF xs ds) : ItOk K BF B (Itv K a xs.length) ds.reverse where
  go := fun i H2 s hi => by
    rw [List.length_reverse, ← r.length] at hi
    exact ⟨hi, xs, xs[xs.length - 1 - i]'(by omega), s.seq h, List.getElem?_eq_getElem _⟩
  stop := fun H2 s => by rw [List.length_reverse, r.length]; exact Nat.le_refl _
  yld := fun i H2 x H3 F2 s sf sh hi y => by
    obtain ⟨rfl, hy⟩ := y
    obtain ⟨d, h1, h2⟩ := r.getV (hy xs (s.seq h))
    refine ⟨F2, d, .refl sh, ?_, h2.mono sf⟩
    rw [List.length_reverse] at hi
    rw [List.getElem?_reverse hi, ← r.length]
    exact h1
theorem itOk_revT {K : Fg} {BF B : Hp} {a : Addr} {xs : List V} {ds : List D} (h : SqT K B a xs) (r : RpA K BF xs ds) : ItOk K BF B (RT.ItvT K a xs.length) ds.reverse where
  go := fun i H2 s hi => by
    rw [List.length_reverse, ← r.length] at hi
    exact ⟨hi, xs, xs[xs.length - 1 - i]'(by omega), seqT s h, List.getElem?_eq_getElem _⟩
  stop := fun H2 s => by rw [List.length_reverse, r.length]; exact Nat.le_refl _
  yld := fun i H2 x H3 F2 s sf sh hi y => by
    obtain ⟨rfl, hy⟩ := y
    obtain ⟨d, h1, h2⟩ := r.getV (hy xs (seqT s h))
    refine ⟨F2, d, .refl sh, ?_, h2.mono sf⟩
    rw [List.length_reverse] at hi
    rw [List.getElem?_reverse hi, ← r.length]
    exact h1
theorem pi_or {X : Cx} {tg e : Expr} {w1 w2 : TI} (h : PI X tg e w1) (h' : PI X tg e w2) : PI X tg e (fun σ H R => w1 σ H R ∨ w2 σ H R) := by
  refine ⟨fun pins s σ H R I hw => ?_⟩
  rcases hw with hw | hw
  · exact h.run pins s σ H R I hw
  · exact h'.run pins s σ H R I hw
theorem line_lt : sizeLine ≤ 4611686018427387904 := by decide
section
variable {X : Cx} {W : WX} {O : List Nat} {k : Nat} {tg e a b c : Expr} {de da db dc : DE} {pos p : Pos} {m : Mode}
theorem exn_E {F H : Hp} {σ : L2.St} {e : D} {Q : VK} {bo : Bool} {R : It → Hp → Prop} (po : IPost X W bo F H σ (.exn e) R) : EPost X W m F H σ (.exn e) Q := po
/-- a list, a tuple, a text -/
theorem ij_val (he : EJ X W O .sh e de) : IJ X W O false tg e (iVal de) := by
  obtain ⟨t, p, q⟩ := he
  refine ⟨_, pi_or (pi_list p) (pi_or (pi_tup p) (pi_str p)), fun F0 H0 F H σ ρ R s po => ?_⟩
  unfold iVal at po
  cases hd : de ρ with
  | bad => rw [hd] at po; exact po.elim
  | exn c => rw [hd] at po; exact .inl (q F0 H0 F H σ ρ _ s (by rw [hd]; exact exn_E po))
  | ok v =>
    rw [hd] at po
    cases v with
    | list ds =>
      refine .inl (q F0 H0 F H σ ρ _ s ?_)
      rw [hd]
      intro F' H' x ex rm
      cases rm with
      | lst h1 h2 h3 => exact ⟨_, rfl, ⟨_, ex.fh.seq h1⟩, po F' H' _ ex (fun _ => by rw [← h3.length]; exact h2) (itOk_list h1 h3)⟩
    | tuple ds =>
      refine .inr (.inl (q F0 H0 F H σ ρ _ s ?_))
      rw [hd]
      intro F' H' x ex rm
      cases rm with
      | tup h1 h2 h3 => exact ⟨_, rfl, ⟨_, seqT ex.fh h1⟩, po F' H' _ ex (fun _ => by rw [← h3.length]; exact h2) (itOk_tup h1 h3)⟩
    | str z =>
      refine .inr (.inr (q F0 H0 F H σ ρ _ s ?_))
      rw [hd]
      intro F' H' x ex rm
      cases rm with
      | str _ h1 h2 => exact ⟨_, rfl, po F' H' _ ex (fun _ => by rw [List.length_map]; exact h2) (itOk_str h1)⟩
    | _ => exact po.elim
/-- .. where an owned list may be walked -/
theorem ij_valB (he : EJ X W O .bo e de) : IJ X W O true tg e (iVal de) := by
  obtain ⟨t, p, q⟩ := he
  refine ⟨_, pi_or (pi_list p) (pi_or (pi_tup p) (pi_str p)), fun F0 H0 F H σ ρ R s po => ?_⟩
  unfold iVal at po
  cases hd : de ρ with
  | bad => rw [hd] at po; exact po.elim
  | exn c => rw [hd] at po; exact .inl (q F0 H0 F H σ ρ _ s (by rw [hd]; exact exn_E po))
  | ok v =>
    rw [hd] at po
    cases v with
    | list ds =>
      refine .inl (q F0 H0 F H σ ρ _ s ?_)
      rw [hd]
      intro F' H' x ex rm
      obtain ⟨l, xs, rfl, h1, h2, h3⟩ := bo_list ex.fh rm
      exact ⟨_, rfl, ⟨_, h1⟩, po F' H' _ ex (fun _ => by rw [← h3.length]; exact h2) (itOk_list h1 h3)⟩
    | tuple ds =>
      refine .inr (.inl (q F0 H0 F H σ ρ _ s ?_))
      rw [hd]
      intro F' H' x ex rm
      obtain ⟨l, xs, rfl, h1, _, h2, h3⟩ := bo_tup ex.fh rm
      exact ⟨_, rfl, ⟨_, h1⟩, po F' H' _ ex (fun _ => by rw [← h3.length]; exact h2) (itOk_tup h1 h3)⟩
    | str z =>
      refine .inr (.inr (q F0 H0 F H σ ρ _ s ?_))
      rw [hd]
      intro F' H' x ex rm
      obtain ⟨rfl, h1, h2⟩ := bo_str rm
      exact ⟨_, rfl, po F' H' _ ex (fun _ => by rw [List.length_map]; exact h2) (itOk_str h1)⟩
    | _ => exact po.elim
def inR (i : Int) : Bool := decide (-(2 ^ 62) ≤ i ∧ i < 2 ^ 62)
def rangeD (lo hi : Int) : List D := (List.range (hi - lo).toNat).map fun i => .int (lo + (i : Nat))
theorem inR_of {i : Int} (h : inR i = true) : -(2 ^ 62) ≤ i ∧ i < 2 ^ 62 := of_decide_eq_true h
theorem rangeSize_nn (i j c : Int) : ((Builtin.Range.rangeSize i j c).toNat : Int) = Builtin.Range.rangeSize i j c := by
  have hn : 0 ≤ Builtin.Range.rangeSize i j c := by
    unfold Builtin.Range.rangeSize
    split
    · split
      · have := Int.ediv_nonneg (a := j - i - 1) (b := c) (by omega) (by omega)
        omega
      · exact Int.le_refl _
    · split
      · have := Int.ediv_nonneg (a := i - j - 1) (b := -c) (by omega) (by omega)
        omega
      · exact Int.le_refl _
  omega
/-- bo: a comprehension's range has a bound -/
def vRange2 (bo : Bool) : D → D → Option (List D)
  | .int i, .int j => if inR i = true ∧ inR j = true ∧ (bo = true → (j - i).toNat ≤ sizeLine) then some (rangeD i j) else none
  | _, _ => none
def vRange1 (bo : Bool) : D → Option (List D)
  | .int j => if inR j = true ∧ (bo = true → j.toNat ≤ sizeLine) then some (rangeD 0 j) else none
  | _ => none
def vRange3 (bo : Bool) : D → D → D → Option (List D)
  | .int i, .int j, .int c => if c ≠ 0 ∧ c.natAbs < 1073741824 ∧ Builtin.Range.small i j c = true ∧ (bo = true → (Builtin.Range.rangeSize i j c).toNat ≤ sizeLine) then some ((List.range (Builtin.Range.rangeSize i j c).toNat).map fun k => .int (i + (k : Nat) * c)) else none
  | _, _, _ => none
def iR1 (bo : Bool) (d : DE) : DA := fun ρ => (d ρ).bind fun v => Res.up (vRange1 bo v)
def iR2 (bo : Bool) (d d' : DE) : DA := fun ρ => (d ρ).bind fun v => (d' ρ).bind fun w => Res.up (vRange2 bo v w)
def iR3 (bo : Bool) (d d' d'' : DE) : DA := fun ρ => (d ρ).bind fun v => (d' ρ).bind fun w => (d'' ρ).bind fun z => Res.up (vRange3 bo v w z)
theorem IPost.ext {bo : Bool} {F H F1 H1 : Hp} {σ : L2.St} {r : Res (List D)} {R : It → Hp → Prop} (e : Ext F H F1 H1) (h : IPost X W bo F H σ r R) : IPost X W bo F1 H1 σ r R := by
  cases r with
  | ok d => exact fun F' H' J e' => h F' H' J (e.trans e')
  | exn c => exact fun F' H' cls dd e' rm => h F' H' cls dd (e.trans e') rm
  | bad => exact h
theorem IPost.bindE {bo : Bool} {F H : Hp} {σ : L2.St} {r : Res D} {f : D → Res (List D)} {R : It → Hp → Prop} {Q : VK} (h : IPost X W bo F H σ (r.bind f) R) (k : ∀ a F' H' x, r = .ok a → Ext F H F' H' → RM m X.K F' H H' x a → IPost X W bo F' H' σ (f a) R → Q x H') : EPost X W m F H σ r Q := by
  cases r with
  | ok a => exact fun F' H' x e rm => k a F' H' x rfl e rm (IPost.ext e h)
  | exn c => exact h
  | bad => exact h
theorem ij_range1 {bo : Bool} (hg : Gl X "range") (hm : X.mg "range" = none) (ns : NoSt a) (ha : EJ X W O .bo a da) : IJ X W O bo tg (.Call (.Name "range" p) [a] [] pos) (iR1 bo da) := by
  obtain ⟨t, pa, q⟩ := ha
  refine ⟨_, pi_range1 hg hm (pa_cons pa pa_nil (ns _ _)) (ns _ _), fun F0 H0 F H σ ρ R s po => q F0 H0 F H σ ρ _ s (IPost.bindE (m := .bo) po fun v F' H' x _ e rm po' => ?_)⟩
  unfold vRange1 at po'
  split at po'
  · cases bo_int rm
    split at po'
    · rename_i hj
      have h1 := inR_of hj.1
      refine ⟨_, rfl, h1.1, h1.2, ?_⟩
      refine po' F' H' _ (.refl e.fh) (fun hb => ?_) ?_
      · unfold rangeD; rw [Int.sub_zero, List.length_map, List.length_range]; exact hj.2 hb
      · unfold rangeD; rw [Int.sub_zero]; exact itOk_range
    · exact po'.elim
  · exact po'.elim
theorem ij_range2 {bo : Bool} (hg : Gl X "range") (hm : X.mg "range" = none) (ns : NoSt a) (ns2 : NoSt b) (ha : EJ X W O .bo a da) (hb : EJ X W O .bo b db) : IJ X W O bo tg (.Call (.Name "range" p) [a, b] [] pos) (iR2 bo da db) := by
  obtain ⟨t, pa, q⟩ := ha
  obtain ⟨u, pb, q2⟩ := hb
  refine ⟨_, pi_range2 hg hm (pa_cons pa (pa_cons pb pa_nil (ns2 _ _)) (ns _ _)) (by rw [ns, ns2]; rfl) (ns2 _ _), fun F0 H0 F H σ ρ R s po => q F0 H0 F H σ ρ _ s (IPost.bindE (m := .bo) po fun v F' H' x _ e rm po' => ?_)⟩
  refine q2 F0 H0 F' H' σ ρ _ (s.ext e) (IPost.bindE (m := .bo) po' fun w F2 H2 y _ e2 rm2 po2 => ?_)
  unfold vRange2 at po2
  split at po2
  · cases bo_int rm; cases bo_int rm2
    split at po2
    · rename_i hj
      have h1 := inR_of hj.1
      have h2 := inR_of hj.2.1
      refine ⟨_, _, rfl, ⟨h1.1, h1.2, h2.1, h2.2⟩, po2 F2 H2 _ (.refl e2.fh) (fun hb => ?_) itOk_range⟩
      unfold rangeD
      rw [List.length_map, List.length_range]; exact hj.2.2 hb
    · exact po2.elim
  · exact po2.elim
theorem ij_range3 {bo : Bool} (hg : Gl X "range") (hm : X.mg "range" = none) (ns : NoSt a) (ns2 : NoSt b) (ns3 : NoSt c) (ha : EJ X W O .bo a da) (hb : EJ X W O .bo b db) (hc : EJ X W O .bo c dc) : IJ X W O bo tg (.Call (.Name "range" p) [a, b, c] [] pos) (iR3 bo da db dc) := by
  obtain ⟨t, pa, q⟩ := ha
  obtain ⟨u, pb, q2⟩ := hb
  obtain ⟨v, pc, q3⟩ := hc
  refine ⟨_, pi_range3 hg hm (pa_cons pa (pa_cons pb (pa_cons pc pa_nil (ns3 _ _)) (ns2 _ _)) (ns _ _)) (ns _ _) (noStars_cons ns2 (noStars_cons ns3 noStars_nil) _ _), fun F0 H0 F H σ ρ R s po => q F0 H0 F H σ ρ _ s (IPost.bindE (m := .bo) po fun v F' H' x _ e rm po' => ?_)⟩
  refine q2 F0 H0 F' H' σ ρ _ (s.ext e) (IPost.bindE (m := .bo) po' fun w F2 H2 y _ e2 rm2 po2 => ?_)
  refine q3 F0 H0 F2 H2 σ ρ _ ((s.ext e).ext e2) (IPost.bindE (m := .bo) po2 fun z F3 H3 y' _ e3 rm3 po3 => ?_)
  unfold vRange3 at po3
  split at po3
  · cases bo_int rm; cases bo_int rm2; cases bo_int rm3
    split at po3
    · rename_i hj
      refine ⟨_, _, _, _, rfl, ⟨hj.1, hj.2.1, hj.2.2.1, (rangeSize_nn _ _ _).symm⟩, po3 F3 H3 _ (.refl e3.fh) (fun hb => ?_) itOk_rangeC⟩
      rw [List.length_map, List.length_range]; exact hj.2.2.2 hb
    · exact po3.elim
  · exact po3.elim
/-- reversed(xs) -/
def vRev : D → Option (List D)
  | .list ds => some ds.reverse
  | .tuple ds => some ds.reverse
  | _ => none
def iRevD (d : DE) : DA := fun ρ => (d ρ).bind fun v => Res.up (vRev v)
theorem ij_rev {bo : Bool} (hg : Gl X "reversed") (hm : X.mg "reversed" = none) (ns : NoSt a) (ha : EJ X W O .sh a da) : IJ X W O bo tg (.Call (.Name "reversed" p) [a] [] pos) (iRevD da) := by
  obtain ⟨t, pa, q⟩ := ha
  refine ⟨_, RT.pi_revA hg hm pa (ns _ _), fun F0 H0 F H σ ρ R s po => q F0 H0 F H σ ρ _ s (IPost.bindE (m := .sh) po fun v F' H' x _ e rm po' => ?_)⟩
  have hB : ∀ {K : Fg} {J : It} {ds : List D}, ItOk K F' F' J ds → ItOk K F' (if bo = true then H' else F') J ds := fun {K J ds} h => by
    cases bo with
    | false => exact h
    | true => exact ⟨fun i H2 s => h.go i H2 (e.fh.trans s), fun H2 s => h.stop H2 (e.fh.trans s), fun i H2 x H3 F2 s => h.yld i H2 x H3 F2 (e.fh.trans s)⟩
  unfold vRev at po'
  split at po'
  · cases rm with
    | lst h1 h2 h3 => exact ⟨_, _, rfl, .inl ⟨e.fh.seq h1, po' F' H' _ (.refl e.fh) (fun _ => by rw [List.length_reverse, ← h3.length]; exact h2) (hB (itOk_revL h1 h3))⟩⟩
  · cases rm with
    | tup h1 h2 h3 => exact ⟨_, _, rfl, .inr ⟨seqT e.fh h1, po' F' H' _ (.refl e.fh) (fun _ => by rw [List.length_reverse, ← h3.length]; exact h2) (hB (itOk_revT h1 h3))⟩⟩
  · exact po'.elim
/-- zip(xs, ys): two lists or two tuples -/
def vZip : D → D → Option (List D)
  | .list ds, .list es => some (List.zipWith (fun d e => .tuple [d, e]) ds es)
  | .tuple ds, .tuple es => some (List.zipWith (fun d e => .tuple [d, e]) ds es)
  | _, _ => none
def iZipD (d d' : DE) : DA := fun ρ => (d ρ).bind fun v => (d' ρ).bind fun w => Res.up (vZip v w)
theorem ij_zip {bo : Bool} {elts : List Expr} {kk : Nat} {tpos : Pos} (hg : Gl X "zip") (hm : X.mg "zip" = none) (ns : NoSt a) (ns2 : NoSt b) (ha : EJ X W O .sh a da) (hb : EJ X W O .sh b db) : IJ X W O bo (.Tuple elts kk tpos) (.Call (.Name "zip" p) [a, b] [] pos) (iZipD da db) := by
  obtain ⟨t, pa, q⟩ := ha
  obtain ⟨u, pb, q2⟩ := hb
  refine ⟨_, RZ.pi_zipA hg hm (pa_cons pa (pa_cons pb pa_nil (ns2 _ _)) (ns _ _)) (ns _ _) (noStars_cons ns2 noStars_nil _ _), fun F0 H0 F H σ ρ R s po => q F0 H0 F H σ ρ _ s (IPost.bindE (m := .sh) po fun v F' H' x _ e rm po' => ?_)⟩
  refine q2 F0 H0 F' H' σ ρ _ (s.ext e) (IPost.bindE (m := .sh) po' fun w F2 H2 y _ e2 rm2 po2 => ?_)
  have hB : ∀ {K : Fg} {J : It} {ds : List D}, ItOk K F2 F2 J ds → ItOk K F2 (if bo = true then H2 else F2) J ds := fun {K J ds} h => by
    cases bo with
    | false => exact h
    | true => exact ⟨fun i H3 s => h.go i H3 (e2.fh.trans s), fun H3 s => h.stop H3 (e2.fh.trans s), fun i H3 x H4 F3 s => h.yld i H3 x H4 F3 (e2.fh.trans s)⟩
  have rm' : Rp X.K F2 x v := Rp.mono e2.ff rm
  unfold vZip at po2
  split at po2
  · cases rm' with
    | lst h1 h2 h3 =>
      cases rm2 with
      | lst h1' h2' h3' => exact ⟨_, _, _, _, rfl, .inl ⟨e2.fh.seq h1, e2.fh.seq h1', po2 F2 H2 _ (.refl e2.fh) (fun _ => by rw [List.length_zipWith, ← h3.length]; exact Nat.le_trans (Nat.min_le_left _ _) h2) (hB (itOk_zipL h1 h3 h1' h3'))⟩⟩
  · cases rm' with
    | tup h1 h2 h3 =>
      cases rm2 with
      | tup h1' h2' h3' => exact ⟨_, _, _, _, rfl, .inr ⟨seqT e2.fh h1, seqT e2.fh h1', po2 F2 H2 _ (.refl e2.fh) (fun _ => by rw [List.length_zipWith, ← h3.length]; exact Nat.le_trans (Nat.min_le_left _ _) h2) (hB (itOk_zipT h1 h3 h1' h3'))⟩⟩
  · exact po2.elim
/-- enumerate(xs), a list -/
def vEnum : D → Option (List D)
  | .list ds => some (ds.zipIdx.map fun p => .tuple [.int (p.2 : Nat), p.1])
  | _ => none
def iEnumD (d : DE) : DA := fun ρ => (d ρ).bind fun v => Res.up (vEnum v)
theorem ij_enum {bo : Bool} {elts : List Expr} {kk : Nat} {tpos : Pos} (hg : Gl X "enumerate") (hm : X.mg "enumerate" = none) (ns : NoSt a) (ha : EJ X W O .sh a da) : IJ X W O bo (.Tuple elts kk tpos) (.Call (.Name "enumerate" p) [a] [] pos) (iEnumD da) := by
  obtain ⟨t, pa, q⟩ := ha
  refine ⟨_, pi_enum hg hm (pa_cons pa pa_nil (ns _ _)) (ns _ _), fun F0 H0 F H σ ρ R s po => q F0 H0 F H σ ρ _ s (IPost.bindE (m := .sh) po fun v F' H' x _ e rm po' => ?_)⟩
  have hB : ∀ {K : Fg} {J : It} {ds : List D}, ItOk K F' F' J ds → ItOk K F' (if bo = true then H' else F') J ds := fun {K J ds} h => by
    cases bo with
    | false => exact h
    | true => exact ⟨fun i H2 s => h.go i H2 (e.fh.trans s), fun H2 s => h.stop H2 (e.fh.trans s), fun i H2 x H3 F2 s => h.yld i H2 x H3 F2 (e.fh.trans s)⟩
  unfold vEnum at po'
  split at po'
  · cases rm with
    | lst h1 h2 h3 => exact ⟨_, _, rfl, e.fh.seq h1, po' F' H' _ (.refl e.fh) (fun _ => by rw [List.length_map, List.length_zipIdx, ← h3.length]; exact h2) (hB (itOk_enum h1 h3))⟩
  · exact po'.elim
end

def forD (g : DG) (body : DS) : List D → Lo → SRes
  | [], ρ => .nx ρ
  | x :: xs, ρ => match g x ρ with
    | none => .bad
    | some ρ1 => match body ρ1 with
      | .nx ρ2 => forD g body xs ρ2
      | .ct ρ2 => forD g body xs ρ2
      | .bk ρ2 => .nx ρ2
      | r => r
theorem forD_cons {g : DG} {body : DS} {x : D} {xs : List D} {ρ : Lo} : forD g body (x :: xs) ρ = (match g x ρ with
    | none => .bad
    | some ρ1 => match body ρ1 with
      | .nx ρ2 => forD g body xs ρ2
      | .ct ρ2 => forD g body xs ρ2
      | .bk ρ2 => .nx ρ2
      | r => r) := rfl
def sFor (g : DG) (it : DA) (body : DS) : DS := fun ρ => match it ρ with
  | .ok ds => forD g body ds ρ
  | .exn e => .ex e ρ
  | .bad => .bad
def whileD (c : DT) (body : DS) : Nat → Lo → SRes
  | 0, _ => .bad
  | n + 1, ρ => match c ρ with
    | .ok true => match body ρ with
      | .nx ρ2 => whileD c body n ρ2
      | .ct ρ2 => whileD c body n ρ2
      | .bk ρ2 => .nx ρ2
      | r => r
    | .ok false => .nx ρ
    | .exn e => .ex e ρ
    | .bad => .bad
theorem whileD_succ {c : DT} {body : DS} {n : Nat} {ρ : Lo} : whileD c body (n + 1) ρ = (match c ρ with
    | .ok true => match body ρ with
      | .nx ρ2 => whileD c body n ρ2
      | .ct ρ2 => whileD c body n ρ2
      | .bk ρ2 => .nx ρ2
      | r => r
    | .ok false => .nx ρ
    | .exn e => .ex e ρ
    | .bad => .bad) := rfl
/-- n: more turns than the loop takes -/
def sWhile (n : Nat) (c : DT) (body : DS) : DS := whileD c body n
section
variable {X : Cx} {W : WX} {O OL ts : List Nat} {k : Nat} {m : Mode} {tg iter : Expr} {g : DG} {it : DA} {body : List Stmt} {db : DS} {dc : DT} {pos : Pos}
theorem sj_for (hh : Here X W k) (hi : IJ X W O false tg iter it) (hg : GJ X O ts tg g) (hb : BJ X W m O O O body db) (hs : ∀ x, foldedSetIterable iter X.env x = pure x) : SJ X W m O O OL (.For tg iter body [] pos) (sFor g it db) := by
  obtain ⟨wi, p1, q1⟩ := hi
  obtain ⟨tg', p2, q2⟩ := hg
  obtain ⟨tb, p3, q3⟩ := hb
  refine ⟨_, ps_for hh.hp hh.calm p1 p2 p3 hs, fun F0 H0 F H σ ρ Dn s po => q1 F0 H0 F H σ ρ _ s ?_⟩
  unfold sFor at po
  cases hd : it ρ with
  | exn c => rw [hd] at po; exact fun F' H' cls dd ext er => exn_of (m' := .sh) (Q := fun _ _ => True) s po F' H' cls dd ext er
  | bad => rw [hd] at po; exact po
  | ok ds =>
    rw [hd] at po
    intro F' H' J ext _ ok
    have po : SPost X W F0 H0 F' m O OL (forD g db ds ρ) Dn := SPost.ext ext.ff po
    refine ⟨fun i n σ1 H1 => n = ds.length - i ∧ i ≤ ds.length ∧ ∃ F1 ρ1, Same F' F1 ∧ SR X.K F0 H0 O F1 H1 σ1 ρ1 ∧ forD g db (ds.drop i) ρ1 = forD g db ds ρ, ⟨ds.length, by simp, Nat.zero_le _, F', ρ, .refl _, s.ext ext, rfl⟩, ?_⟩
    rintro i n σ1 H1 ⟨rfl, hi, F1, ρ1, sf, s1, e1⟩
    by_cases hlt : i < ds.length
    · refine .inr ⟨ok.go i H1 (sf.trans s1.sub) hlt, fun σ2 H2 => ∃ F2 ρ2, Same F' F2 ∧ SR X.K F0 H0 O F2 H2 σ2 ρ2 ∧ forD g db (ds.drop (i + 1)) ρ2 = forD g db ds ρ, fun σ2 H2 ⟨F2, ρ2, a1, a2, a3⟩ => ⟨ds.length - (i + 1), by omega, rfl, hlt, F2, ρ2, a1, a2, a3⟩, fun x H2 y => ?_⟩
      obtain ⟨F2, d, ext2, hd2, rx⟩ := ok.yld i H1 x H2 F1 (sf.trans s1.sub) sf s1.sub hlt y
      have sf2 : Same F' F2 := sf.trans ext2.ff
      have hdr : ds.drop i = d :: ds.drop (i + 1) := by
        have h0 := List.drop_eq_getElem_cons hlt
        have h1 : ds[i] = d := by rw [List.getElem?_eq_getElem hlt] at hd2; exact Option.some.inj hd2
        rw [h0, h1]
      rw [hdr] at e1
      rw [← e1, forD_cons] at po
      have e2 := e1
      rw [forD_cons] at e2
      refine q2 F0 H0 F2 H2 σ1 ρ1 x d _ (s1.ext ext2) rx ?_
      cases hg : g d ρ1 with
      | none => rw [hg] at po; exact po
      | some ρ2 =>
        rw [hg] at po e2
        intro σ2 s2 _
        refine q3 F0 H0 F2 H2 σ2 ρ2 _ s2 ?_
        cases hb : db ρ2 with
        | nx ρ3 =>
          simp only [hb] at e2
          exact fun F3 H3 σ3 a s3 => ⟨F3, ρ3, sf2.trans a, s3, e2⟩
        | ct ρ3 =>
          simp only [hb] at e2
          exact fun F3 H3 σ3 a s3 => ⟨F3, ρ3, sf2.trans a, s3, e2⟩
        | bk ρ3 => simp only [hb] at po; exact fun F3 H3 σ3 a s3 => po F3 H3 σ3 (sf2.trans a) s3
        | rt v => simp only [hb] at po; exact po
        | ex c ρ3 => simp only [hb] at po; exact fun F3 H3 σ3 cls dd s3 er => po F3 H3 σ3 cls dd s3 er
        | bad => simp only [hb] at po; exact po
    · have e : i = ds.length := by omega
      subst e
      rw [List.drop_length] at e1
      refine .inl ⟨ok.stop H1 (sf.trans s1.sub), ?_⟩
      rw [← e1] at po
      exact po F1 H1 σ1 sf s1
theorem sj_while {c : Expr} {n : Nat} (hh : Here X W k) (hc : TJ X W O c dc) (hb : BJ X W m O O O body db) : SJ X W m O O OL (.While c body [] pos) (sWhile n dc db) := by
  obtain ⟨tc, p1, q1⟩ := hc
  obtain ⟨tb, p3, q3⟩ := hb
  refine ⟨_, ps_while hh.hp p1 p3, fun F0 H0 F H σ ρ Dn s po => ?_⟩
  unfold sWhile at po
  refine ⟨fun j σ1 H1 => ∃ F1 ρ1, Same F F1 ∧ SR X.K F0 H0 O F1 H1 σ1 ρ1 ∧ whileD dc db j ρ1 = whileD dc db n ρ, ⟨n, F, ρ, .refl _, s, rfl⟩, ?_⟩
  rintro j σ1 H1 ⟨F1, ρ1, sf, s1, e1⟩
  rw [← e1] at po
  refine q1 F0 H0 F1 H1 σ1 ρ1 _ s1 ?_
  cases j with
  | zero => exact po.elim
  | succ j =>
    rw [whileD_succ] at po
    have e2 := e1
    rw [whileD_succ] at e2
    cases hcv : dc ρ1 with
    | exn c => rw [hcv] at po; exact exn_of (m' := .sh) (Q := fun _ _ => True) s1 (SPost.ext sf po)
    | bad => rw [hcv] at po; exact po
    | ok b =>
      intro F2 H2 ext
      cases b with
      | false =>
        rw [hcv] at po
        exact po F2 H2 σ1 (sf.trans ext.ff) (s1.ext ext)
      | true =>
        rw [hcv] at po e2
        refine ⟨fun σ2 H2 => ∃ F2 ρ2, Same F F2 ∧ SR X.K F0 H0 O F2 H2 σ2 ρ2 ∧ whileD dc db j ρ2 = whileD dc db n ρ, fun σ2 H2 h => ⟨j, by omega, h⟩, ?_⟩
        refine q3 F0 H0 F2 H2 σ1 ρ1 _ (s1.ext ext) ?_
        have sf2 : Same F F2 := sf.trans ext.ff
        cases hb : db ρ1 with
        | nx ρ3 =>
          simp only [hb] at e2
          exact fun F3 H3 σ3 a s3 => ⟨F3, ρ3, sf2.trans a, s3, e2⟩
        | ct ρ3 =>
          simp only [hb] at e2
          exact fun F3 H3 σ3 a s3 => ⟨F3, ρ3, sf2.trans a, s3, e2⟩
        | bk ρ3 => simp only [hb] at po; exact fun F3 H3 σ3 a s3 => po F3 H3 σ3 (sf2.trans a) s3
        | rt v => simp only [hb] at po; exact po
        | ex c ρ3 => simp only [hb] at po; exact fun F3 H3 σ3 cls dd s3 er => po F3 H3 σ3 cls dd s3 er
        | bad => simp only [hb] at po; exact po
end

def WF : WX := fun _ _ _ _ => False
theorem takes_wf {X : Cx} : Takes X WF := fun u s' ⟨_, _, _, _, _, _, _, _, _, _, _, _, _, _, _, _, w⟩ => w.elim
theorem here_blk {X : Cx} {W : WX} {k : Nat} (h : Here X W k) (s : Shared) (H : Hp) (scope : Scope) (cenv : PySem.Env) (fp : List Addr) : Here (X.blk s H scope cenv fp) WF k :=
  ⟨h.hr, h.calm, takes_wf, h.nd, PassesOwn.never⟩
def compD (g : DG) (c : DT) (e : DE) : List D → Lo → Option (List D)
  | [], _ => some []
  | x :: xs, ρ => match g x ρ with
    | none => none
    | some ρ1 => match c ρ1 with
      | .ok true => match e ρ1 with
        | .ok y => (compD g c e xs ρ).map (y :: ·)
        | _ => none
      | .ok false => compD g c e xs ρ
      | _ => none
def eComp (vs : List Nat) (g : DG) (it : DA) (c : DT) (e : DE) : DE := fun ρ => (it ρ).bind fun ds => (Res.up (compD g c e ds (wipeD ρ vs))).bind fun ys => .ok (.list ys)
def tTrue : DT := fun _ => .ok true
/-- the tests behind a comprehension's for -/
def TsJ (X : Cx) (W : WX) (O : List Nat) (es : List Expr) (d : DT) : Prop :=
  ∃ t, PTs X es t ∧ ∀ F0 H0 F H σ ρ Q, SR X.K F0 H0 O F H σ ρ → TPost X W F H σ (d ρ) Q → t σ H Q
theorem tsj_nil {X : Cx} {W : WX} {O : List Nat} : TsJ X W O [] tTrue := ⟨_, pts_nil, fun F0 H0 F H σ ρ Q s po => po F H (.refl s.sub)⟩
theorem tsj_one {X : Cx} {W : WX} {O : List Nat} {c : Expr} {d : DT} (h : TJ X W O c d) : TsJ X W O [c] d := by
  obtain ⟨t, p, q⟩ := h
  exact ⟨_, pts_one p, q⟩
section
variable {X : Cx} {W : WX} {O OL : List Nat} {k : Nat} {m : Mode} {tg iter elt : Expr} {ifs : List Expr} {g : DG} {it : DA} {dc : DT} {de : DE} {pos : Pos} {scope : Scope} {own : List (Str × Nat)}
abbrev Blk := Shared → Hp → Addr → List (Str × Addr) → List Addr → Cx
abbrev blkOf (X : Cx) (scope : Scope) : Blk := fun s H C cl fp => X.blk s H scope (compEnvC scope cl C X.env) fp
/-- one reading for all blocks -/
theorem uni_g (h : ∀ s H C cl fp, GJ (blkOf X scope s H C cl fp) O (own.map (·.2)) tg g) : ∃ t, (∀ s H C cl fp, PG (blkOf X scope s H C cl fp) tg t) ∧ ∀ F0 H0 F H σ ρ x v Q, SR X.K F0 H0 O F H σ ρ → Rp X.K F x v → (match g v ρ with
    | some ρ' => ∀ σ', SR X.K F0 H0 O F H σ' ρ' → (∀ vs : List Nat, (∀ i ∈ own.map (·.2), i ∈ vs) → wipe σ' vs = wipe σ vs) → Q σ' H
    | none => False) → t x σ H Q := by
  refine ⟨fun x σ H Q => ∀ s H' C cl fp, Classical.choose (h s H' C cl fp) x σ H Q, fun s H C cl fp => ⟨fun pins s' σ H' v u Q I r hw => ?_⟩, fun F0 H0 F H σ ρ x v Q s r po s' H' C cl fp => ?_⟩
  · exact (Classical.choose_spec (h s H C cl fp)).1.run pins s' σ H' v u Q I r (hw s H C cl fp)
  · exact (Classical.choose_spec (h s' H' C cl fp)).2 F0 H0 F H σ ρ x v Q s r po
theorem uni_t (h : ∀ s H C cl fp, TsJ (blkOf X scope s H C cl fp) WF O ifs dc) : ∃ t, (∀ s H C cl fp, PTs (blkOf X scope s H C cl fp) ifs t) ∧ ∀ F0 H0 F H σ ρ Q, SR X.K F0 H0 O F H σ ρ → TPost X WF F H σ (dc ρ) Q → t σ H Q := by
  refine ⟨fun σ H Q => ∀ s H' C cl fp, Classical.choose (h s H' C cl fp) σ H Q, fun s H C cl fp => ⟨fun pins s' σ H' Q I hw => ?_⟩, fun F0 H0 F H σ ρ Q s po s' H' C cl fp => ?_⟩
  · exact (Classical.choose_spec (h s H C cl fp)).1.run pins s' σ H' Q I (hw s H C cl fp)
  · refine (Classical.choose_spec (h s' H' C cl fp)).2 F0 H0 F H σ ρ Q s ?_
    cases e : dc ρ with
    | ok b => rw [e] at po; exact po
    | exn c => rw [e] at po; exact po
    | bad => rw [e] at po; exact po
theorem uni_e (h : ∀ s H C cl fp, EJ (blkOf X scope s H C cl fp) WF O .sh elt de) : ∃ t, (∀ s H C cl fp, PE (blkOf X scope s H C cl fp) elt t) ∧ ∀ F0 H0 F H σ ρ Q, SR X.K F0 H0 O F H σ ρ → EPost X WF .sh F H σ (de ρ) Q → t σ H Q := by
  refine ⟨fun σ H Q => ∀ s H' C cl fp, Classical.choose (h s H' C cl fp) σ H Q, fun s H C cl fp => ⟨fun pins s' σ H' Q I hw => ?_⟩, fun F0 H0 F H σ ρ Q s po s' H' C cl fp => ?_⟩
  · exact (Classical.choose_spec (h s H C cl fp)).1.run pins s' σ H' Q I (hw s H C cl fp)
  · refine (Classical.choose_spec (h s' H' C cl fp)).2 F0 H0 F H σ ρ Q s ?_
    cases e : de ρ with
    | ok b => rw [e] at po; exact po
    | exn c => rw [e] at po; exact po
    | bad => rw [e] at po; exact po
theorem compD_len {ds : List D} {ρ : Lo} : ∀ {ys : List D}, compD g dc de ds ρ = some ys → ys.length ≤ ds.length := by
  induction ds with
  | nil => intro ys h; cases h; exact Nat.le_refl _
  | cons x xs ih =>
    intro ys h
    unfold compD at h
    cases hg : g x ρ with
    | none => rw [hg] at h; cases h
    | some ρ1 =>
      simp only [hg] at h
      cases hc : dc ρ1 with
      | exn c => simp only [hc] at h; cases h
      | bad => simp only [hc] at h; cases h
      | ok b =>
        cases b with
        | false => simp only [hc] at h; have := ih h; simp; omega
        | true =>
          simp only [hc] at h
          cases he : de ρ1 with
          | exn c => simp only [he] at h; cases h
          | bad => simp only [he] at h; cases h
          | ok y =>
            simp only [he] at h
            cases hr : compD g dc de xs ρ with
            | none => rw [hr] at h; cases h
            | some zs => rw [hr] at h; cases h; have := ih hr; simp; omega
/-- the walk of a comprehension, as its rule asks it -/
theorem comp_core (hi : IJ X W O true tg iter it) {wi : TI} (q1 : ∀ F0 H0 F H σ ρ R, SR X.K F0 H0 O F H σ ρ → IPost X W true F H σ (it ρ) R → wi σ H R)
    {tgt : TG} (q2 : ∀ F0 H0 F H σ ρ x v Q, SR X.K F0 H0 O F H σ ρ → Rp X.K F x v → (match g v ρ with
    | some ρ' => ∀ σ', SR X.K F0 H0 O F H σ' ρ' → (∀ vs : List Nat, (∀ i ∈ own.map (·.2), i ∈ vs) → wipe σ' vs = wipe σ vs) → Q σ' H
    | none => False) → tgt x σ H Q) {tt : TT} (q3 : ∀ F0 H0 F H σ ρ Q, SR X.K F0 H0 O F H σ ρ → TPost X WF F H σ (dc ρ) Q → tt σ H Q)
    {te : TE} (q4 : ∀ F0 H0 F H σ ρ Q, SR X.K F0 H0 O F H σ ρ → EPost X WF .sh F H σ (de ρ) Q → te σ H Q) :
    ∀ F0 H0 F H σ ρ Q, SR X.K F0 H0 O F H σ ρ → EPost X W .fr F H σ (eComp (own.map (·.2)) g it dc de ρ) Q → tLc wi tgt tt te (own.map (·.2)) σ H Q := by
  intro F0 H0 F H σ ρ Q s po
  refine q1 F0 H0 F H σ ρ _ s ?_
  unfold eComp at po
  cases hd : it ρ with
  | exn c => rw [hd] at po; exact po
  | bad => rw [hd] at po; exact po
  | ok ds =>
    rw [hd] at po
    intro F' H' J ext hlen ok
    intro Dl hDl
    have hlen := hlen rfl
    have po : EPost X W .fr F H σ ((Res.up (compD g dc de ds (wipeD ρ (own.map (·.2))))).bind fun ys => .ok (.list ys)) Q := po
    cases hys : compD g dc de ds (wipeD ρ (own.map (·.2))) with
    | none => rw [hys] at po; exact po.elim
    | some ys =>
      rw [hys] at po
      have s' := s.ext ext
      -- D holds what is made so far; the heap without D is H1
      refine ⟨fun i n H2 => n = ds.length - i ∧ i ≤ ds.length ∧ ∃ F1 acc ds1, Ext F' H' F1 H2 ∧ H2 Dl = some (.lst acc) ∧ F1 Dl = none ∧ acc.length ≤ i ∧ RpA X.K F1 acc ds1 ∧ ∃ zs, compD g dc de (ds.drop i) (wipeD ρ (own.map (·.2))) = some zs ∧ ds1 ++ zs = ys,
        ⟨ds.length, by simp, Nat.zero_le _, F', [], [], .new ext.fh hDl, upd_same, free_of ext.fh hDl, Nat.zero_le _, .nil, ys, by simpa using hys, rfl⟩, ?_⟩
      rintro i n H2 ⟨rfl, hi', F1, acc, ds1, e1, hD, fD, hacc, racc, zs, hz, hzs⟩
      have sB : Same (if (true : Bool) = true then H' else F') H2 := e1.hh
      by_cases hlt : i < ds.length
      · refine .inr ⟨ok.go i H2 sB hlt, fun H3 => ∃ F1 acc ds1, Ext F' H' F1 H3 ∧ H3 Dl = some (.lst acc) ∧ F1 Dl = none ∧ acc.length ≤ i + 1 ∧ RpA X.K F1 acc ds1 ∧ ∃ zs, compD g dc de (ds.drop (i + 1)) (wipeD ρ (own.map (·.2))) = some zs ∧ ds1 ++ zs = ys, fun H3 h => ⟨ds.length - (i + 1), by omega, rfl, hlt, h⟩, fun x H3 y => ?_⟩
        obtain ⟨F2, d, e2, hd2, rx⟩ := ok.yld i H2 x H3 F1 sB e1.ff e1.fh hlt y
        have hdr : ds.drop i = d :: ds.drop (i + 1) := by
          have h0 := List.drop_eq_getElem_cons hlt
          have h1 : ds[i] = d := by rw [List.getElem?_eq_getElem hlt] at hd2; exact Option.some.inj hd2
          rw [h0, h1]
        rw [hdr] at hz
        unfold compD at hz
        have sw : SR X.K F0 H0 O F2 H3 (wipe σ (own.map (·.2))) (wipeD ρ (own.map (·.2))) := (s'.wipe (own.map (·.2))).ext (e1.trans e2)
        refine q2 F0 H0 F2 H3 _ _ x d _ sw rx ?_
        cases hg : g d (wipeD ρ (own.map (·.2))) with
        | none => rw [hg] at hz; cases hz
        | some ρ1 =>
          simp only [hg] at hz
          intro σ1 s1 w1
          refine ⟨(w1 _ fun i hi => hi).trans wipe_wipe, q3 F0 H0 F2 H3 σ1 ρ1 _ s1 ?_⟩
          cases hc : dc ρ1 with
          | exn c => simp only [hc] at hz; cases hz
          | bad => simp only [hc] at hz; cases hz
          | ok b =>
            intro F3 H4 e3
            have hD2 : H4 Dl = some (.lst acc) := e3.hh _ _ (e2.hh _ _ hD)
            have ne : ∀ {o : Hp} , H4 Dl ≠ none := fun {_} => by rw [hD2]; exact fun z => nomatch z
            have fD2 : F2 Dl = none := e2.nw _ fD (by rw [hD]; exact fun z => nomatch z)
            have fD3 : F3 Dl = none := e3.nw _ fD2 (by rw [e2.hh _ _ hD]; exact fun z => nomatch z)
            cases b with
            | false =>
              simp only [hc] at hz
              rw [if_neg Bool.false_ne_true]
              exact ⟨F3, acc, ds1, (e1.trans e2).trans e3, hD2, fD3, by omega, (racc.mono e2.ff).mono e3.ff, zs, hz, hzs⟩
            | true =>
              simp only [hc] at hz
              rw [if_pos rfl]
              refine q4 F0 H0 F3 H4 σ1 ρ1 _ (s1.ext e3) ?_
              cases he : de ρ1 with
              | exn c => simp only [he] at hz; cases hz
              | bad => simp only [he] at hz; cases hz
              | ok yv =>
                simp only [he] at hz
                intro F4 H5 yv' e4 ry
                have hD3 : H5 Dl = some (.lst acc) := e4.hh _ _ hD2
                have fD4 : F4 Dl = none := e4.nw _ fD3 (by rw [hD2]; exact fun z => nomatch z)
                refine ⟨acc, hD3, by have : sizeLine = 16777216 := by decide
                                     omega, ?_⟩
                cases hr : compD g dc de (ds.drop (i + 1)) (wipeD ρ (own.map (·.2))) with
                | none => rw [hr] at hz; cases hz
                | some zs2 =>
                  rw [hr] at hz
                  cases hz
                  have et := ((e1.trans e2).trans e3).trans e4
                  refine ⟨F4, acc ++ [yv'], ds1 ++ [yv], ⟨et.ff, fun b o q => ?_, et.nw, fun b o q => ?_⟩, upd_same, fD4, by simp; omega, (((racc.mono e2.ff).mono e3.ff).mono e4.ff).append (.cons ry .nil), zs2, rfl, ?_⟩
                  · rw [upd_ne (ne_of_none q hDl)]; exact et.hh _ _ q
                  · rw [upd_ne (ne_of_none q fD4)]; exact et.fh _ _ q
                  · rw [List.append_assoc]; exact hzs
      · have e : i = ds.length := by omega
        subst e
        rw [List.drop_length] at hz
        cases hz
        rw [List.append_nil] at hzs
        subst hzs
        refine .inl ⟨ok.stop H2 sB, ?_⟩
        have hDH : H Dl = none := free_of ext.hh hDl
        exact po F1 H2 _ (ext.trans e1) (.inr ⟨Dl, _, rfl, hD, .lst (by omega) racc, fD, hDH⟩)
theorem ej_comp (hh : Here X W k) (hi : IJ X W O true tg iter it) (ok : BlkOk X.N X.env.scope scope own) (hg' : ∀ s H C cl fp, Here (blkOf X scope s H C cl fp) WF k → GJ (blkOf X scope s H C cl fp) O (own.map (·.2)) tg g)
    (ht' : ∀ s H C cl fp, Here (blkOf X scope s H C cl fp) WF k → TsJ (blkOf X scope s H C cl fp) WF O ifs dc) (he' : ∀ s H C cl fp, Here (blkOf X scope s H C cl fp) WF k → EJ (blkOf X scope s H C cl fp) WF O .sh elt de) (hs : ∀ x, foldedSetIterable iter X.env x = pure x) :
    EJ X W O .fr (.ListComp elt [⟨tg, iter, ifs, 0⟩] scope pos) (eComp (own.map (·.2)) g it dc de) := by
  have hg := fun s H C cl fp => hg' s H C cl fp (here_blk hh s H _ _ fp)
  have ht := fun s H C cl fp => ht' s H C cl fp (here_blk hh s H _ _ fp)
  have he := fun s H C cl fp => he' s H C cl fp (here_blk hh s H _ _ fp)
  obtain ⟨wi, p1, q1⟩ := id hi
  obtain ⟨tgt, p2, q2⟩ := uni_g hg
  obtain ⟨tt, p3, q3⟩ := uni_t ht
  obtain ⟨te, p4, q4⟩ := uni_e he
  exact ⟨_, pe_lc hh.calm hh.nd p1 ok p2 p3 p4 hs, comp_core hi q1 q2 q3 q4⟩
/-- name = [..] on one line -/
theorem sj_setComp {i : Nat} {y : Str} {py spos : Pos} (hO : i ∉ O) (hh : Here X W k) (hi : IJ X W O true tg iter it) (ok : BlkOk X.N X.env.scope scope own) (hg' : ∀ s H C cl fp, Here (blkOf X scope s H C cl fp) WF k → GJ (blkOf X scope s H C cl fp) O (own.map (·.2)) tg g)
    (ht' : ∀ s H C cl fp, Here (blkOf X scope s H C cl fp) WF k → TsJ (blkOf X scope s H C cl fp) WF O ifs dc) (he' : ∀ s H C cl fp, Here (blkOf X scope s H C cl fp) WF k → EJ (blkOf X scope s H C cl fp) WF O .sh elt de) (hs : ∀ x, foldedSetIterable iter X.env x = pure x)
    (hy : X.N[i]? = some y) (hyl : X.env.scope.names.lookup y = some .local) (hsw : swapsWith (.ListComp elt [⟨tg, iter, ifs, 0⟩] scope pos) (some (.Name y py)) spos.line X.env = pure true) :
    SJ X W m O O OL (.Assign [.Name y py] (.ListComp elt [⟨tg, iter, ifs, 0⟩] scope pos) spos) (sSet i (eComp (own.map (·.2)) g it dc de)) := by
  have hg := fun s H C cl fp => hg' s H C cl fp (here_blk hh s H _ _ fp)
  have ht := fun s H C cl fp => ht' s H C cl fp (here_blk hh s H _ _ fp)
  have he := fun s H C cl fp => he' s H C cl fp (here_blk hh s H _ _ fp)
  obtain ⟨wi, p1, q1⟩ := id hi
  obtain ⟨tgt, p2, q2⟩ := uni_g hg
  obtain ⟨tt, p3, q3⟩ := uni_t ht
  obtain ⟨te, p4, q4⟩ := uni_e he
  refine ⟨_, ps_setLc hh.calm hh.nd hy hyl hsw p1 ok p2 p3 p4 hs, fun F0 H0 F H σ ρ Dn s po => comp_core hi q1 q2 q3 q4 F0 H0 F H σ ρ _ s ?_⟩
  unfold sSet sOf at po
  cases e : eComp (own.map (·.2)) g it dc de ρ with
  | ok v =>
    rw [e] at po
    intro F' H' x ex rm
    obtain ⟨F2, e2, r2⟩ := RM.share ex rm
    exact po F2 H' _ e2.ff ((s.ext e2).setS hO r2)
  | exn c => rw [e] at po; exact exn_of s po
  | bad => rw [e] at po; exact po
/-- .. a slot that will be changed -/
theorem sj_setCompO {i : Nat} {y : Str} {py spos : Pos} {O' : List Nat} (hO : (i :: O.filter fun j => j != i) = O') (hh : Here X W k) (hi : IJ X W O true tg iter it) (ok : BlkOk X.N X.env.scope scope own) (hg' : ∀ s H C cl fp, Here (blkOf X scope s H C cl fp) WF k → GJ (blkOf X scope s H C cl fp) O (own.map (·.2)) tg g)
    (ht' : ∀ s H C cl fp, Here (blkOf X scope s H C cl fp) WF k → TsJ (blkOf X scope s H C cl fp) WF O ifs dc) (he' : ∀ s H C cl fp, Here (blkOf X scope s H C cl fp) WF k → EJ (blkOf X scope s H C cl fp) WF O .sh elt de) (hs : ∀ x, foldedSetIterable iter X.env x = pure x)
    (hy : X.N[i]? = some y) (hyl : X.env.scope.names.lookup y = some .local) (hsw : swapsWith (.ListComp elt [⟨tg, iter, ifs, 0⟩] scope pos) (some (.Name y py)) spos.line X.env = pure true) :
    SJ X W m O O' OL (.Assign [.Name y py] (.ListComp elt [⟨tg, iter, ifs, 0⟩] scope pos) spos) (sSetO i (eComp (own.map (·.2)) g it dc de)) := by
  subst hO
  have hg := fun s H C cl fp => hg' s H C cl fp (here_blk hh s H _ _ fp)
  have ht := fun s H C cl fp => ht' s H C cl fp (here_blk hh s H _ _ fp)
  have he := fun s H C cl fp => he' s H C cl fp (here_blk hh s H _ _ fp)
  obtain ⟨wi, p1, q1⟩ := id hi
  obtain ⟨tgt, p2, q2⟩ := uni_g hg
  obtain ⟨tt, p3, q3⟩ := uni_t ht
  obtain ⟨te, p4, q4⟩ := uni_e he
  refine ⟨_, ps_setLc hh.calm hh.nd hy hyl hsw p1 ok p2 p3 p4 hs, fun F0 H0 F H σ ρ Dn s po => comp_core hi q1 q2 q3 q4 F0 H0 F H σ ρ _ s ?_⟩
  unfold sSetO sOf at po
  cases e : eComp (own.map (·.2)) g it dc de ρ with
  | ok v =>
    rw [e] at po
    intro F' H' x ex rm
    have po : SPost X W F0 H0 F m _ OL (if isMut v = true then .nx (ρ.set i (some v)) else .bad) Dn := po
    by_cases hv : isMut v = true
    · rw [if_pos hv] at po
      rcases rm with ⟨hn, _⟩ | ⟨a, o, rfl, h2, h3, h4, h5⟩
      · rw [hv] at hn; cases hn
      · have s' := s.ext ex
        refine po F' H' _ ex.ff (s'.setO h2 h3 h4 (free_of s.e0.hh h5) fun j w hj hne hw hs => ?_)
        obtain ⟨b, ob, q1, q2, _⟩ := s.ow j w hj hw
        rw [hs] at q1
        cases q1
        rw [h5] at q2; cases q2
    · rw [if_neg hv] at po; exact po.elim
  | exn c => rw [e] at po; exact exn_of s po
  | bad => rw [e] at po; exact po
end

def sApp (i : Nat) (e : DE) : DS := fun ρ => match ρ[i]? with
  | some (some (.list ds)) => sOf (e ρ) ρ fun v => if ds.length < sizeLine then .nx (ρ.set i (some (.list (ds ++ [v])))) else .bad
  | _ => .bad
/-- x[k] = e, a list's item; a dict's -/
def putD (ps : List (D × D)) (k v : D) : List (D × D) :=
  match ps with
  | [] => [(k, v)]
  | p :: r => if PyData.eqv p.1 k = true then (p.1, v) :: r else p :: putD r k v
def storeD : D → D → D → Option D
  | .list ds, .int j, v => (ixN ds.length j).map fun n => .list (ds.set n v)
  | _, _, _ => none
def sStore (i : Nat) (k e : DE) : DS := fun ρ => sOf (e ρ) ρ fun v => match ρ[i]? with
  | some (some (.list ds)) => sOf (k ρ) ρ fun kv => match storeD (.list ds) kv v with
    | some o' => .nx (ρ.set i (some o'))
    | none => .bad
  | _ => .bad
section
variable {X : Cx} {W : WX} {O OL : List Nat} {k : Nat} {m : Mode} {a b : Expr} {da db : DE} {pos p p2 : Pos} {x : Str}
theorem own_list {F0 H0 F H : Hp} {σ : L2.St} {ρ : Lo} {i : Nat} {ds : List D} (s : SR X.K F0 H0 O F H σ ρ) (hi : i ∈ O) (hv : ρ[i]? = some (some (.list ds))) :
    ∃ a xs, σ[i]? = some (some (.ref a)) ∧ H a = some (.lst xs) ∧ xs.length ≤ sizeLine ∧ RpA X.K F xs ds ∧ F a = none ∧ H0 a = none := by
  obtain ⟨a, o, h1, h2, h3, h4, h5⟩ := s.ow i _ hi hv
  cases h3 with
  | lst l r => exact ⟨a, _, h1, h2, l, r, h4, h5⟩
theorem own_dict {F0 H0 F H : Hp} {σ : L2.St} {ρ : Lo} {i : Nat} {ds : List (D × D)} (s : SR X.K F0 H0 O F H σ ρ) (hi : i ∈ O) (hv : ρ[i]? = some (some (.dict ds))) :
    ∃ a xs, σ[i]? = some (some (.ref a)) ∧ H a = some (.dK xs) ∧ xs.length ≤ sizeLine ∧ RpD X.K F xs ds ∧ F a = none ∧ H0 a = none := by
  obtain ⟨a, o, h1, h2, h3, h4, h5⟩ := s.ow i _ hi hv
  cases h3 with
  | dic l r => exact ⟨a, _, h1, h2, l, r, h4, h5⟩
/-- x.append(e), x an owned slot -/
theorem sj_app {i : Nat} {st : Stmt} (hi : i ∈ O) (ha : EJ X W O .sh a da) (h : ∀ t, PE X a t → PS X st (tDrop (tBM X.K "list" rAppend (tVar i) (tCons t tNil)))) : SJ X W m O O OL st (sApp i da) := by
  obtain ⟨t, pa, q⟩ := ha
  refine ⟨_, h t pa, fun F0 H0 F H σ ρ Dn s po => ?_⟩
  unfold sApp at po
  cases hv : ρ[i]? with
  | none => rw [hv] at po; exact po.elim
  | some ov =>
    rw [hv] at po
    cases ov with
    | none => exact po.elim
    | some v =>
      cases v with
      | list ds =>
        obtain ⟨l, xs, h1, h2, h3, h4, h5, h6⟩ := own_list s hi hv
        refine ⟨_, h1, .inl ⟨rfl, xs, SqL.of h2⟩, q F0 H0 F H σ ρ _ s (sOf_post (m1 := .sh) s po fun v F' H' x s' ex rm po' => ?_)⟩
        have po' : SPost X W F0 H0 F' m O OL (if ds.length < sizeLine then .nx (ρ.set i (some (.list (ds ++ [v])))) else .bad) Dn := po'
        by_cases hl : ds.length < sizeLine
        · rw [if_pos hl] at po'
          have hl' : xs.length < sizeLine := by rw [h4.length]; exact hl
          refine ⟨l, xs, x, rfl, rfl, ex.hh _ _ h2, hl', ?_⟩
          have r' : RpA X.K F' (xs ++ [x]) (ds ++ [v]) := (h4.mono ex.ff).append (.cons rm .nil)
          exact po' F' _ σ (.refl _) (s'.mut hi hv h1 (ex.hh _ _ h2) (ex.nw _ h5 (by rw [h2]; exact fun z => nomatch z)) h6 (.lst (by rw [List.length_append]; exact hl') r'))
        · rw [if_neg hl] at po'; exact po'.elim
      | _ => exact po.elim
/-- x[k] = e, x an owned slot -/
theorem sj_store {i : Nat} {st : Stmt} (hi : i ∈ O) (hb : EJ X W O .bo b db) (ha : EJ X W O .sh a da) (h : ∀ t u, PE X a t → PE X b u → PS X st (tAsg t (gSub (tVar i) u rSetL))) : SJ X W m O O OL st (sStore i db da) := by
  obtain ⟨t, pa, q⟩ := ha
  obtain ⟨u, pb, q2⟩ := hb
  refine ⟨_, h t u pa pb, fun F0 H0 F H σ ρ Dn s po => q F0 H0 F H σ ρ _ s (sOf_post (m1 := .sh) s po fun v F' H' x s' ex rm po' => ?_)⟩
  cases hv : ρ[i]? with
  | none => rw [hv] at po'; exact po'.elim
  | some ov =>
    rw [hv] at po'
    cases ov with
    | none => exact po'.elim
    | some o =>
      cases o with
      | list ds =>
        obtain ⟨l, xs, h1, h2, h3, h4, h5, h6⟩ := own_list s' hi hv
        refine ⟨_, h1, q2 F0 H0 F' H' σ ρ _ s' (sOf_post (m1 := .bo) s' po' fun kv F2 H2 y s2 ex2 rm2 po2 => ?_)⟩
        cases kv with
        | int j =>
          cases bo_int rm2
          have po2 : SPost X W F0 H0 F2 m O OL (match (ixN ds.length j).map fun n => PyData.list (ds.set n v) with
            | some o' => .nx (ρ.set i (some o'))
            | none => .bad) Dn := po2
          cases hn : ixN ds.length j with
          | none => rw [hn] at po2; exact po2.elim
          | some n =>
            rw [hn] at po2
            refine ⟨l, xs, j, n, rfl, rfl, ex2.hh _ _ h2, by rw [h4.length]; exact hn, ?_⟩
            have r' : RpA X.K F2 (xs.set n x) (ds.set n v) := (h4.mono ex2.ff).set n (Rp.mono ex2.ff rm)
            exact po2 F2 _ σ (.refl _) (s2.mut hi hv h1 (ex2.hh _ _ h2) (ex2.nw _ h5 (by rw [h2]; exact fun z => nomatch z)) h6 (.lst (by rw [List.length_set]; exact h3) r'))
        | _ => exact po2.elim
      | _ => exact po'.elim
end

def start (n : Nat) (ds : List D) : Lo := ds.map some ++ List.replicate (n - ds.length) none
def runD (n : Nat) (b : DS) : List D → Res D := fun ds => match b (start n ds) with
  | .nx _ => .ok .none
  | .rt v => .ok v
  | .ex e _ => .exn e
  | _ => .bad
theorem start_get {n : Nat} {ds : List D} {i : Nat} {v : D} (h : (start n ds)[i]? = some (some v)) : ds[i]? = some v := by
  unfold start at h
  by_cases hi : i < ds.length
  · rw [List.getElem?_append_left (by simpa using hi), List.getElem?_map] at h
    cases e : ds[i]? with
    | none => rw [e] at h; cases h
    | some w => rw [e] at h; cases h; rfl
  · rw [List.getElem?_append_right (by simpa using hi), List.getElem?_replicate] at h
    split at h <;> cases h
theorem def_ok {P : Program} {w : World} {K : Fg} {mg : Str → Option Value} {base : Heap} {x qual : Str} {params : Arguments} {body : List Stmt} {scope : Scope} {dvs : List V} {kws : List (Str × V)} {f : Addr} {fd : FuncData} {N ps : List Str} {k : Nat} {m : Mode} {O' : List Nat} {b : DS}
    (F : FunD K x qual params body scope dvs kws f fd) (S : FnScope N ps scope) (hN : ps.length ≤ N.length)
    (h : ∀ (cdv : Value) (A : Around) (outer : List PySem.Env) (s : Shared) (H : Hp) (E : XK), Here (cxOf (L2.CX P w) P w K mg base N qual scope f cdv A outer s H E) (fun cls d _ H => E cls d H) k →
      BJ (cxOf (L2.CX P w) P w K mg base N qual scope f cdv A outer s H E) (fun cls d _ H => E cls d H) m [] O' [] body b) :
    DefOk P w K mg base (k + 1) f fd ps m (runD N.length b) := by
  refine FunD.ok F S (fun vs H Q E hs => hs.1) fun cdv A outer s H vs Q E hr hs => ?_
  obtain ⟨hl, F1, ds, hF, hv, po⟩ := hs
  obtain ⟨t, p, q⟩ := h cdv A outer s H E ⟨hr, rfl, takes_of rfl rfl rfl rfl, S.nd, passes_of rfl⟩
  refine ⟨t, p, q F1 H F1 H _ (start N.length ds) _ ?_ ?_⟩
  · have hlen : (L2.start N vs).length = (start N.length ds).length := by
      unfold L2.start start
      rw [List.length_append, List.length_append, List.length_map, List.length_map, List.length_replicate, List.length_replicate, hv.length]
    refine ⟨.refl hF, hlen, fun i v _ h2 => ?_, fun i v h1 => (by cases h1), fun i j v w a h1 => (by cases h1)⟩
    have h3 := start_get h2
    obtain ⟨y, h4, h5⟩ := hv.get h3
    refine ⟨y, ?_, h5⟩
    unfold L2.start
    have hi : i < vs.length := (List.getElem?_eq_some_iff.mp h4).1
    rw [List.getElem?_append_left (by simpa using hi), List.getElem?_map, h4]; rfl
  · unfold runD at po
    cases hb : b (start N.length ds) with
    | nx ρ' =>
      rw [hb] at po
      exact fun F' H' σ' _ s' => po F' H' .non s'.e0 (RM.of_sh .non rfl)
    | rt v => rw [hb] at po; exact po
    | bk ρ' => rw [hb] at po; exact po.elim
    | ct ρ' => rw [hb] at po; exact po.elim
    | ex c ρ' => rw [hb] at po; exact fun F' H' σ' cls dd s' er => po F' H' cls dd s'.e0 er
    | bad => rw [hb] at po; exact po.elim
end PL

end
section
namespace PL
open PySem PySem.Spec PyProof.Rows L2

section
variable {X : Cx} {W : WX} {O OL ts : List Nat} {k : Nat} {m : Mode} {e a b : Expr} {de da db : DE} {das : DA} {pos p p2 : Pos} {x : Str} {st : Stmt}
/-- constants as fresh as one likes -/
theorem EJ.cF {v : V} {c : D} (h : PE X e (tC v)) (r : ∀ F, Rp X.K F v c) (hm : isMut c = false) : EJ X W O m e (eC c) :=
  ⟨_, h, fun F0 H0 F H σ ρ Q s po => po F H v (.refl s.sub) (RM.of_sh (r F) hm)⟩
theorem ejm_int {i : Int} {j : Nat} : EJ X W O m (.Constant (.int i) j pos) (eC (.int i)) := .cF pe_int (fun _ => .int i) rfl
theorem ejm_bl {i : Bool} {j : Nat} : EJ X W O m (.Constant (.bool i) j pos) (eC (.bool i)) := .cF pe_bl (fun _ => .bl i) rfl
theorem ejm_non {j : Nat} : EJ X W O m (.Constant .none j pos) (eC .none) := .cF pe_non (fun _ => .non) rfl
/-- a, b = x, y with plain local names -/
def sPar (i j : Nat) (d d' : DE) : DS := fun ρ => sOf (d ρ) ρ fun v => sOf (d' ρ) ρ fun w => .nx ((ρ.set i (some v)).set j (some w))
theorem sj_par {i j : Nat} (hi : i ∉ O) (hj : j ∉ O) (ns : NoSt a) (ns2 : NoSt b) (ha : EJ X W O .sh a da) (hb : EJ X W O .sh b db) (h : ∀ t, PA X [a, b] t → PS X st (tPar i j t)) : SJ X W m O O OL st (sPar i j da db) := by
  obtain ⟨t, pa, q⟩ := ha
  obtain ⟨u, pb, q2⟩ := hb
  refine ⟨_, h _ (pa_cons pa (pa_cons pb pa_nil (ns2 _ _)) (ns _ _)), fun F0 H0 F H σ ρ Dn s po => q F0 H0 F H σ ρ _ s (sOf_post (m1 := .sh) s po fun v F' H' x s' ex rm po' => ?_)⟩
  refine q2 F0 H0 F' H' σ ρ _ s' (sOf_post (m1 := .sh) s' po' fun w F2 H2 y s2 ex2 rm2 po2 => ?_)
  exact ⟨x, y, rfl, po2 F2 H2 _ (.refl _) ((s2.setS hi (Rp.mono ex2.ff rm)).setS hj rm2)⟩
/-- a, b, .. = value -/
def sUnp (g : DG) (d : DE) : DS := fun ρ => sOf (d ρ) ρ fun v => match g v ρ with
  | some ρ' => .nx ρ'
  | none => .bad
theorem sj_unp {tg : Expr} {g : DG} (ha : EJ X W O .sh a da) (hg : GJ X O ts tg g) (h : ∀ t u, PE X a t → PG X tg u → PS X st (tAsg t u)) : SJ X W m O O OL st (sUnp g da) := by
  obtain ⟨t, pa, q⟩ := ha
  obtain ⟨u, pb, q2⟩ := hg
  refine ⟨_, h t u pa pb, fun F0 H0 F H σ ρ Dn s po => q F0 H0 F H σ ρ _ s (sOf_post (m1 := .sh) s po fun v F' H' x s' ex rm po' => ?_)⟩
  refine q2 F0 H0 F' H' σ ρ x v _ s' rm ?_
  have po' : SPost X W F0 H0 F' m O OL (match g v ρ with | some ρ' => .nx ρ' | none => .bad) Dn := po'
  cases hg : g v ρ with
  | none => rw [hg] at po'; exact po'
  | some ρ' => rw [hg] at po'; exact fun σ' s2 _ => po' F' H' σ' (.refl _) s2
/-- x op= e, ints and texts -/
theorem ip_of {op : Operator} {r : R2} (h : OpR X (inplaceOp op) r) : PIp X op r := fun pins s σ H x y v u Q I r1 r2 q => h pins s σ H x y v u Q I r1 r2 q
def vAddI : D → D → Option D
  | .int i, .int j => some (.int (i + j))
  | .str a, .str b => if a.length + b.length ≤ sizeLine then some (.str (a ++ b)) else none
  | _, _ => none
def sAug (i : Nat) (f : D → D → Option D) (d : DE) : DS := fun ρ => match ρ[i]? with
  | some (some v) => sOf (d ρ) ρ fun w => match f v w with
    | some z => .nx (ρ.set i (some z))
    | none => .bad
  | _ => .bad
theorem sj_augR {i : Nat} {op : Operator} {f : D → D → Option D} {r : R2} (hi : i ∉ O) (ho : OpR X (inplaceOp op) r) (ha : EJ X W O .bo a da)
    (hv : ∀ F Hs Hs' H x v y w Q, Same F H → RM .bo X.K F Hs H x v → RM .bo X.K F Hs' H y w → VPost X.K .sh F H (f v w) Q → r x y H Q) (h : ∀ t u, PE X a t → PIp X op u → PS X st (tAug i t u)) : SJ X W m O O OL st (sAug i f da) := by
  obtain ⟨t, pa, q⟩ := ha
  refine ⟨_, h t r pa (ip_of ho), fun F0 H0 F H σ ρ Dn s po => ?_⟩
  unfold sAug at po
  cases hs : ρ[i]? with
  | none => rw [hs] at po; exact po.elim
  | some ov =>
    cases ov with
    | none => rw [hs] at po; exact po.elim
    | some v =>
      rw [hs] at po
      obtain ⟨x, h1, h2⟩ := s.sh i v hi hs
      refine ⟨x, h1, q F0 H0 F H σ ρ _ s (sOf_post (m1 := .bo) s po fun w F' H' y s' ex rm po' => ?_)⟩
      refine hv F' H' H' H' x v y w _ ex.fh (.inl (h2.mono ex.ff)) (RM.bo_of .bo rm) ?_
      have po' : SPost X W F0 H0 F' m O OL (match f v w with | some z => .nx (ρ.set i (some z)) | none => .bad) Dn := po'
      cases hf : f v w with
      | none => rw [hf] at po'; exact po'
      | some z => rw [hf] at po'; exact fun F2 H2 zv e2 r2 => po' F2 H2 _ e2.ff ((s'.ext e2).setS hi r2)
theorem sj_augAdd {i : Nat} (hi : i ∉ O) (ha : EJ X W O .bo a da) (h : ∀ t u, PE X a t → PIp X .Add u → PS X st (tAug i t u)) : SJ X W m O O OL st (sAug i vAddI da) := by
  refine sj_augR hi (iop_add.or iop_add_str) ha (fun F Hs Hs' H x v y w Q s r1 r2 po => ?_) h
  unfold vAddI at po
  split at po
  · cases bo_int r1; cases bo_int r2
    exact .inl ⟨_, _, rfl, rfl, po F H _ (.refl s) (.int _)⟩
  · obtain ⟨rfl, o1, l1⟩ := bo_str r1
    obtain ⟨rfl, o2, l2⟩ := bo_str r2
    split at po
    · rename_i hl
      exact .inr ⟨_, _, rfl, rfl, hl, po F H _ (.refl s) (.str _ (strOk_append o1 o2) (by rw [str_len_append]; exact hl))⟩
    · exact po.elim
  · exact po.elim
theorem sj_augSub {i : Nat} (hi : i ∉ O) (ha : EJ X W O .bo a da) (h : ∀ t u, PE X a t → PIp X .Sub u → PS X st (tAug i t u)) : SJ X W m O O OL st (sAug i vSub da) := by
  refine sj_augR hi iop_sub ha (fun F Hs Hs' H x v y w Q s r1 r2 po => ?_) h
  unfold vSub at po
  split at po
  · cases bo_int r1; cases bo_int r2
    exact ⟨_, _, rfl, rfl, po F H _ (.refl s) (.int _)⟩
  · exact po.elim
end
end PL

end
section
namespace PL
open PySem PySem.Spec PyProof.Rows L2

/-- the module's name x is a def of no default that means d -/
structure Kn (P : Program) (w : World) (K : Fg) (mg : Str → Option Value) (base : Heap) (k : Nat) (x : Str) (ps : List Str) (m : Mode) (d : List D → Res D) : Prop where
  ex : ∃ f fd, mg x = some (.ref f) ∧ PySem.W.keepIn K (.ref f) = true ∧ Binds K fd ps [] ∧ DefOk P w K mg base k f fd ps m d
section
variable {P : Program} {w : World} {K : Fg} {mg : Str → Option Value} {base : Heap} {x : Str} {ps : List Str} {m : Mode} {d : List D → Res D} {j k : Nat}
theorem Kn.mono (h : Kn P w K mg base k x ps m d) (hk : k ≤ j) : Kn P w K mg base j x ps m d := by
  obtain ⟨f, fd, h1, h2, h3, h4⟩ := h.ex
  exact ⟨f, fd, h1, h2, h3, h4.mono hk⟩
theorem kn_ok {f : Addr} {fd : FuncData} {params : Arguments} {body : List Stmt} {scope : Scope} {N : List Str} {O' : List Nat} {b : DS} (hm : mg x = some (.ref f))
    (F : FunD K x x params body scope [] [] f fd) (S : FnScope N ps scope) (hN : ps.length ≤ N.length)
    (hb : ∀ (kV doc pm : Value) (an : Option Addr) (cdv ct : Value) (us : List Value), us.length = ps.length → bindArgs (PySem.W.fnOf x x params body scope .none kV doc pm an cdv ct) ⟨us, []⟩ = pure (ps.zip us))
    (h : ∀ (cdv : Value) (A : Around) (outer : List PySem.Env) (s : Shared) (H : Hp) (E : XK), Here (cxOf (L2.CX P w) P w K mg base N x scope f cdv A outer s H E) (fun cls d _ H => E cls d H) k →
      BJ (cxOf (L2.CX P w) P w K mg base N x scope f cdv A outer s H E) (fun cls d _ H => E cls d H) m [] O' [] body b) : Kn P w K mg base (k + 1) x ps m (runD N.length b) :=
  ⟨f, fd, hm, F.kp, F.bindsN hb, def_ok F S hN h⟩
/-- a def that is never run -/
theorem kn_bad {f : Addr} {fd : FuncData} {params : Arguments} {body : List Stmt} {scope : Scope} (hm : mg x = some (.ref f)) (F : FunD K x x params body scope [] [] f fd)
    (hb : ∀ (kV doc pm : Value) (an : Option Addr) (cdv ct : Value) (us : List Value), us.length = ps.length → bindArgs (PySem.W.fnOf x x params body scope .none kV doc pm an cdv ct) ⟨us, []⟩ = pure (ps.zip us)) : Kn P w K mg base k x ps m (fun _ => .bad) :=
  ⟨f, fd, hm, F.kp, F.bindsN hb, ⟨fun _ _ _ _ h => h.1, fun _ _ _ _ _ _ _ _ _ _ _ _ _ h => by obtain ⟨_, _, _, _, _, q⟩ := h; exact q.elim⟩⟩
end
section
variable {X : Cx} {W : WX} {O : List Nat} {k j : Nat} {m : Mode} {a : Expr} {es : List Expr} {das : DA} {pos p : Pos} {x : Str} {ps : List Str} {df : List D → Res D}
theorem ej_callK (F : Kn X.prog X.w X.K X.mg X.base k x ps m df) (hh : Here X W j) (hk : Nat.ble k j = true) (hg : Gl X x) (hl : (a :: es).length = ps.length) (hdb : (x == ("__debug__" : Str)) = false) (ns : NoSt a) (nss : NoStars es)
    (ha : AJ X W O (a :: es) das) (hal : ∀ ρ ds, das ρ = .ok ds → ds.length = (a :: es).length) : EJ X W O m (.Call (.Name x p) (a :: es) [] pos) (eCall df das) := by
  obtain ⟨f, fd, h1, h2, h3, h4⟩ := F.ex
  exact ej_call h4 hh (Nat.le_of_ble_eq_true hk) hg h1 h2 h3 hl hdb ns nss ha hal
/-- a module's constant -/
def KC (mg : Str → Option Value) (K : Fg) (x : Str) (c : D) : Prop := ∃ v u, mg x = some u ∧ RelV v u ∧ ∀ F, Rp K F v c
theorem ej_glob {c : D} (h : KC X.mg X.K x c) (hg : Gl X x) (hd : (x == ("__debug__" : Str)) = false) : EJ X W O .sh (.Name x pos) (eC c) := by
  obtain ⟨v, u, h1, h2, h3⟩ := h
  exact ej_c (pe_glob hg h1 h2 hd) h3
end

mutual
def rpK (K : Fg) : Nat → Value → D → Bool
  | _, .none, .none => true
  | _, .bool b, .bool c => b == c
  | _, .int i _, .int j => decide (i = j)
  | _, .str x _, .str y => decide (x = y) && (PyData.strOk y && decide (y.length ≤ sizeLine))
  | n + 1, .ref a, .tuple ds => (match K.lookup a with
    | some ⟨.type c, _, .seq its _, _⟩ => decide (c = "tuple") && (decide (its.size ≤ sizeLine) && rpKs K n its.toList ds)
    | _ => false)
  | _, _, _ => false
def rpKs (K : Fg) : Nat → List Value → List D → Bool
  | _, [], [] => true
  | n, u :: us, d :: ds => rpK K n u d && rpKs K n us ds
  | _, _, _ => false
end
mutual
theorem rpK_ok (K : Fg) : ∀ (d : D) (n : Nat) (u : Value), rpK K n u d = true → ∃ v, RelV v u ∧ ∀ F, Rp K F v d
  | .none, n, u, h => by
    cases u with
    | none => exact ⟨.non, rfl, fun _ => .non⟩
    | _ => unfold rpK at h; cases n <;> cases h
  | .bool c, n, u, h => by
    cases u with
    | bool b =>
      have e : b = c := by unfold rpK at h; simpa using h
      subst e
      exact ⟨.bl b, rfl, fun _ => .bl b⟩
    | _ => unfold rpK at h; cases n <;> cases h
  | .int c, n, u, h => by
    cases u with
    | int i t =>
      have e : i = c := by unfold rpK at h; simpa using h
      subst e
      exact ⟨.int i, ⟨t, rfl⟩, fun _ => .int i⟩
    | _ => unfold rpK at h; cases n <;> cases h
  | .str y, n, u, h => by
    cases u with
    | str x t =>
      unfold rpK at h
      simp only [Bool.and_eq_true, decide_eq_true_eq] at h
      obtain ⟨e, h1, h2⟩ := h
      subst e
      exact ⟨.str x, ⟨t, rfl⟩, fun _ => .str x h1 h2⟩
    | _ => unfold rpK at h; cases n <;> cases h
  | .tuple ds, n, u, h => by
    cases u with
    | ref a =>
      cases n with
      | zero => unfold rpK at h; cases h
      | succ n =>
        unfold rpK at h
        cases q : K.lookup a with
        | none => rw [q] at h; cases h
        | some o =>
          obtain ⟨oc, od, dt, osl⟩ := o
          rw [q] at h
          cases oc with
          | type c =>
            cases dt with
            | seq its nn =>
              have h : (decide (c = "tuple") && (decide (its.size ≤ sizeLine) && rpKs K n its.toList ds)) = true := h
              simp only [Bool.and_eq_true, decide_eq_true_eq] at h
              obtain ⟨e, h1, h2⟩ := h
              subst e
              obtain ⟨vs, r1, r2⟩ := rpKs_ok K ds n its.toList h2
              refine ⟨.ref a, rfl, fun F => .tup (.inr ⟨_, its, nn, q, rfl, rfl, h1, r1⟩) ?_ (r2 F)⟩
              have := r1.length
              simp at this
              omega
            | _ => cases h
          | _ => cases h
    | _ => unfold rpK at h; cases n <;> cases h
  | .list ds, n, u, h => by unfold rpK at h; cases n <;> cases u <;> cases h
  | .dict ds, n, u, h => by unfold rpK at h; cases n <;> cases u <;> cases h
theorem rpKs_ok (K : Fg) : ∀ (ds : List D) (n : Nat) (us : List Value), rpKs K n us ds = true → ∃ vs, Vals vs us ∧ ∀ F, RpA K F vs ds
  | [], n, us, h => by
    cases us with
    | nil => exact ⟨[], .nil, fun _ => .nil⟩
    | cons _ _ => unfold rpKs at h; cases h
  | d :: ds, n, us, h => by
    cases us with
    | nil => unfold rpKs at h; cases h
    | cons u us =>
      unfold rpKs at h
      have h := Bool.and_eq_true_iff.mp h
      obtain ⟨v, h1, h2⟩ := rpK_ok K d n u h.1
      obtain ⟨vs, h3, h4⟩ := rpKs_ok K ds n us h.2
      exact ⟨v :: vs, .cons h1 h3, fun F => .cons (h2 F) (h4 F)⟩
end

abbrev AlP : Type := Bool × List He.FnW
def xcOk (K : Fg) (D : Addr) : Bool := decide (PySem.W.findIn K (.ref D) "__getattribute__" = some (some (.builtin "BaseException.__getattribute__"))) && (decide (PySem.W.findIn K (.ref D) "__getattr__" = some none) && (decide (PySem.W.subIn K (.ref D) (.type "BaseException") = some true) && (PySem.W.hasDictIn K D &&
  (decide (PySem.W.findIn K (.ref D) "__class__" = some (some (.builtin "object.__class__"))) && (decide (PySem.W.specialIn K (.builtin "object.__class__") "__get__" = some (some (.builtin "getset_descriptor.__get__"))) && (decide (PySem.W.takesIn K (.builtin "object.__class__") = some true) && decide (PySem.W.mroIn K D (.type "object") = some true)))))))
theorem xcOk_ok {K : Fg} {D : Addr} (h : xcOk K D = true) : ExcC K D := by
  simp only [xcOk, Bool.and_eq_true, decide_eq_true_eq] at h
  obtain ⟨a, b, c, d, e, f, g, i⟩ := h
  exact ⟨a, b, c, d, e, f, g, i⟩
/-- isinstance of an exception of the class x, of the class y -/
def xiOk (K : Fg) (x y : Str) (b : Bool) : Bool := xcOk K (He.ga K x) && decide (PySem.W.kitOne K (.ref (He.ga K x)) (.ref (He.ga K y)) = some b)
def kcOk (K : Fg) (p : Str × D) : Bool := match p.2 with
  | .dict [(.str y, .bool b)] => xiOk K p.1 y b
  | _ => (match PySem.W.nsIn K mainGlobals p.1 with
    | some (some u) => rpK K 8 u p.2
    | _ => false)
def obsP (fa : List He.Fa) (fn : List He.DefD) (cs : List (Str × D)) (K : PySem.W.Frag) : AlP := ((fa.all fun f => f.ok K) && ((fn.all fun d => d.ok K) && cs.all (kcOk K)), fn.map fun d => He.fnW K d.at_)
def valP (fn : List He.DefD) : AlP := (true, fn.map He.DefD.val)
def SaysP (fa : List He.Fa) (fn : List He.DefD) (cs : List (Str × D)) (K : PySem.W.Frag) : Prop := obsP fa fn cs K = valP fn
def obsPG (n : Nat) (fa : List He.Fa) (fn : List He.DefD) (cs : List (Str × D)) (g : Addr → Option Obj) : AlP := obsP fa fn cs (He.frG g (He.asD g n))
def hookP (n : Nat) (fa : List He.Fa) (fn : List He.DefD) (cs : List (Str × D)) : PySem.W.Hook where
  α := AlP
  obs := fun s => obsPG n fa fn cs s.heap.get?
  val := fun _ => valP fn
  says := fun _ h => ∃ K : PySem.W.Frag, K.In h ∧ SaysP fa fn cs K
  of := fun _ _ e => ⟨_, He.frG_in, e⟩
  keeps := fun _ _ _ ⟨K, hK, c⟩ k => ⟨K, PySem.W.Frag.In.keeps hK k, c⟩
theorem obsPG_eq {n : Nat} {fa : List He.Fa} {fn : List He.DefD} {cs : List (Str × D)} {g : Addr → Option Obj} {s : Shared} (h : ∀ a, g a = s.heap.get? a) : obsPG n fa fn cs g = (hookP n fa fn cs).obs s := by
  have e : g = s.heap.get? := funext h
  rw [e] <;> rfl
section
variable {fa : List He.Fa} {fn : List He.DefD} {cs : List (Str × D)} {K : PySem.W.Frag}
theorem SaysP.parts (c : SaysP fa fn cs K) : (fa.all fun f => f.ok K) = true ∧ (fn.all fun d => d.ok K) = true ∧ cs.all (kcOk K) = true := by
  have h := congrArg (fun z : AlP => z.1) c
  have h2 : ((fa.all fun f => f.ok K) && ((fn.all fun d => d.ok K) && cs.all (kcOk K))) = true := h
  have h3 := He.ba h2
  have h4 := He.ba h3.2
  exact ⟨h3.1, h4.1, h4.2⟩
theorem SaysP.fact (c : SaysP fa fn cs K) (i : Nat) {f : He.Fa} (h : fa[i]? = some f) : f.ok K = true := List.all_eq_true.mp c.parts.1 f (List.mem_of_getElem? h)
theorem SaysP.def_ (c : SaysP fa fn cs K) (i : Nat) {d : He.DefD} (h : fn[i]? = some d) : ∃ fd, FunD K d.name d.qual d.params d.body d.scope (d.dvs K) (d.kws K) (He.fAd K d.at_) fd := by
  have e : fn.map (fun d => He.fnW K d.at_) = fn.map He.DefD.val := congrArg (fun z : AlP => z.2) c
  have e2 : (fn.map fun d => He.fnW K d.at_)[i]? = (fn.map He.DefD.val)[i]? := by rw [e]
  rw [List.getElem?_map, List.getElem?_map, h] at e2
  exact He.DefD.funD (Option.some.inj e2) (List.all_eq_true.mp c.parts.2.1 d (List.mem_of_getElem? h))
theorem SaysP.const {mg : Str → Option Value} {h : Heap} (X : K.In h) (G : h.Ns mainGlobals mg) (c : SaysP fa fn cs K) (i : Nat) {x : Str} {d : D} (hi : cs[i]? = some (x, d)) (hd : noDict d = true) : KC mg K x d := by
  have e := List.all_eq_true.mp c.parts.2.2 (x, d) (List.mem_of_getElem? hi)
  unfold kcOk at e
  split at e
  · rename_i y b q
    have q : d = .dict [(.str y, .bool b)] := q
    subst q
    cases hd
  · cases q : PySem.W.nsIn K mainGlobals x with
    | none => simp only [q] at e; cases e
    | some o =>
      simp only [q] at e
      cases o with
      | none => cases e
      | some u =>
        obtain ⟨v, h1, h2⟩ := rpK_ok K d 8 u e
        exact ⟨v, u, PySem.W.mg_of X G q, h1, h2⟩
/-- isinstance of exceptions -/
def KI (mg : Str → Option Value) (K : Fg) (x y : Str) (b : Bool) : Prop := ∃ D C, mg x = some (.ref D) ∧ mg y = some (.ref C) ∧ ExcC K D ∧ PySem.W.kitOne K (.ref D) (.ref C) = some b
theorem SaysP.isx {mg : Str → Option Value} {h : Heap} (X : K.In h) (G : h.Ns mainGlobals mg) (c : SaysP fa fn cs K) (i : Nat) {x y : Str} {b : Bool} (hi : cs[i]? = some (x, .dict [(.str y, .bool b)])) (c1 : (He.Fa.glo x).ok K = true) (c2 : (He.Fa.glo y).ok K = true) : KI mg K x y b := by
  have e : xiOk K x y b = true := List.all_eq_true.mp c.parts.2.2 _ (List.mem_of_getElem? hi)
  have e := Bool.and_eq_true_iff.mp e
  exact ⟨_, _, He.glo_ok X G c1, He.glo_ok X G c2, xcOk_ok e.1, of_decide_eq_true e.2⟩
end

/-- a def that lets nothing out -/
theorem FnOk.calm {P : Program} {w : World} {K : Fg} {mg : Str → Option Value} {base : Heap} {k : Nat} {f : Addr} {fd : FuncData} {ps : List Str} {sp : Sp} (F : FnOk P w K mg base (L2.CX P w) k f fd ps sp) :
    FnOk P w K mg base CX0 k f fd ps (fun vs H Q _ => sp vs H Q fun _ _ _ => False) := by
  refine ⟨fun vs H Q E q => F.len vs H Q _ q, fun A outer s H args us vs Q E hr he hb hv hs => codeAny_mono (F.run A outer s H args us vs Q _ hr he hb hv hs) fun r s' hq => ?_⟩
  cases r with
  | error e =>
    obtain ⟨_, _, _, _, _, _, _, _, _, _, _, _, z⟩ := hq
    exact z.elim
  | ok fl => cases fl <;> exact hq
theorem law_sp {K : Fg} {mg : Str → Option Value} {d : List D → Res D} {H : Hp} {a : Addr} {ns : List Int} (hS : SqL K H a (ns.map V.int)) (hl : ns.length ≤ 63) (h : d [.list (ns.map .int)] = .ok (.bool true)) :
    spOf K mg 1 .sh d [.ref a] H (fun v _ => v = .bl true) (fun _ _ _ => False) := by
  refine ⟨rfl, H, [.list (ns.map .int)], .refl _, .cons (.lst hS ?_ (ints_rpa ns)) .nil, ?_⟩
  · rw [List.length_map]; exact Nat.le_trans hl (by decide)
  · rw [h]
    intro F' H' x e rm
    cases rm
    rfl
end PL

end
section
namespace PL
open PySem PySem.Spec PyProof.Rows L2
/-- more turns than any loop here takes -/
def wFuel : Nat := 2 ^ 4000
theorem lt_wFuel {n : Nat} (h : n < 2 ^ 4000) : n < wFuel := h
theorem ble_of {a b : Nat} (h : a ≤ b) : Nat.ble a b = true := Nat.ble_eq_true_of_le h
/-- what the head's facts come to -/
def Facts (P : Program) (w : World) (K : Fg) (mg : Str → Option Value) (k : Nat) (d : List D → Res D) : Prop :=
  ∃ (f : Addr) (fd : FuncData), mg "law" = some (.ref f) ∧ (∀ (s : Shared) (u : Value), BindsTo s fd ⟨[u], []⟩ [("script", u)]) ∧ ∀ base : Heap, DefOk P w K mg base k f fd ["script"] .sh d
theorem law_end {P : Program} {w : World} {K : Fg} {mg : Str → Option Value} {h : Heap} {k : Nat} {fa : Addr} {d : List D → Res D} (KX : K.In h) (hm : mg "law" = some (.ref fa)) (F : Facts P w K mg k d)
    (ht : ∀ ns : List Int, ns.length ≤ 63 → d [.list (ns.map .int)] = .ok (.bool true)) :
    ∃ (K : PySem.W.Frag) (fd : FuncData) (sp : Sp), K.In h ∧ (∀ (s : Shared) (u : Value), BindsTo s fd ⟨[u], []⟩ [("script", u)]) ∧
        (∀ (H : Hp) (a : Addr) (ns : List Int), ns.length ≤ 63 → Only H → SqL K H a (ns.map V.int) → sp [.ref a] H (fun v _ => v = .bl true) fun _ _ _ => False) ∧
        ∀ base : Heap, K.In base → base.Ns mainGlobals mg → FnOk P w K mg base CX0 k fa fd ["script"] sp := by
  obtain ⟨f, fd, h1, h2, h3⟩ := F
  rw [h1] at hm
  cases hm
  exact ⟨K, fd, (fun vs H Q _ => spOf K mg 1 .sh d vs H Q fun _ _ _ => False), KX, h2, fun H a ns hl _ hS => law_sp (mg := mg) hS hl (ht ns hl), fun base _ _ => FnOk.calm (h3 base)⟩
end PL

end
section
namespace PL
open PySem PySem.Spec PyProof.Rows L2
def isListD : D → Bool
  | .list _ => true
  | _ => false
/-- o.m(e) of a list -/
def eMeL (f : D → D → Option D) (da db : DE) : DE := fun ρ => (da ρ).bind fun v => if isListD v = true then (db ρ).bind fun w => Res.up (f v w) else .bad
def vIndex : D → D → Option D
  | .list ds, d => if fine d = true ∧ fine (.list ds) = true then (ds.findIdx? fun z => PyData.eqv z d).map fun j => .int (j : Nat) else none
  | _, _ => none
section
variable {X : Cx} {W : WX} {O OL : List Nat} {k j : Nat} {m m1 m2 : Mode} {e a b c o : Expr} {es : List Expr} {d da db : DE} {das : DA} {pos p : Pos} {x : Str}
theorem ej_index (hh : Here X W k) (ho : EJ X W O .bo o da) (ha : EJ X W O .bo e db) (h : ∀ t u, PE X o t → PE X e u → PE X c (tBM X.K "list" (rIndexD X.K) t (tCons u tNil))) : EJ X W O .sh c (eMeL vIndex da db) := by
  obtain ⟨t, p, q⟩ := ho
  obtain ⟨u, p2, q2⟩ := ha
  refine ⟨_, h t u p p2, fun F0 H0 F H σ ρ Q s po => q F0 H0 F H σ ρ _ s (EPost.bindE (m1 := .bo) s.sub po fun v F' H' x _ e rm po' => ?_)⟩
  by_cases hl : isListD v = true
  · rw [if_pos hl] at po'
    cases v with
    | list ds =>
      have ty : tyV X.K "list" x H' := by
        obtain ⟨l, xs, rfl, h1, _⟩ := bo_list e.fh rm
        exact .inl ⟨rfl, xs, h1⟩
      refine ⟨ty, q2 F0 H0 F' H' σ ρ _ (s.ext e) (EPost.bindE (m1 := .bo) e.fh po' fun w F2 H2 y _ e2 rm2 po2 => ?_)⟩
      have rm' := rm.ext e2
      have po2 := po2.up
      unfold vIndex at po2
      simp only at po2
      by_cases hf : fine w = true ∧ fine (.list ds) = true
      · rw [if_pos hf] at po2
        cases hj : ds.findIdx? (fun z => PyData.eqv z w) with
        | none => rw [hj] at po2; exact po2.elim
        | some j =>
          rw [hj] at po2
          obtain ⟨hjl, h1, h2⟩ := List.findIdx?_eq_some_iff_getElem.1 hj
          obtain ⟨d1, d2⟩ := bo_shaped e2.fh rm2 hf.1
          obtain ⟨d3, d4⟩ := bo_shaped e2.fh rm' hf.2
          obtain ⟨l, xs, rfl, _⟩ := bo_list e2.fh rm'
          refine ⟨l, y, w, ds, j, ds[j], rfl, rfl, d3, d1, d4, d2, List.getElem?_eq_getElem hjl, h1, fun n z hn hz => ?_, po2 F2 H2 _ (.refl e2.fh) (.int _)⟩
          have hn' : n < ds.length := Nat.lt_trans hn hjl
          rw [List.getElem?_eq_getElem hn'] at hz
          cases hz
          have := h2 n hn
          simpa using this
      · rw [if_neg hf] at po2; exact po2.elim
    | _ => cases hl
  · rw [if_neg hl] at po'; exact po'.elim
def rSumT (K : PySem.W.Frag) : List V → Hp → VK → Prop := fun vs H Q => ∃ (a : Addr) (ns : List Int), vs = [V.ref a] ∧ SqT K H a (ns.map V.int) ∧ Q (.int ns.sum) H
theorem iter_intTuple {prog : Program} {w : World} {A : Around} {E : Value → Shared → Prop} {s : Shared} {l : Addr} {xs : Array (Int × Tok)} {Q : Value → Shared → Prop} (hl : s.heap.IsTuple l (intItems xs))
    (h : ∀ s₂ : Shared, s₂ = { s with heap := s.heap.push { cls := .type "tuple_iterator", data := .fields #[.ref l, .int 0 0] } } →
      (s₂.heap.IsTupleIter s.heap.objs.size l 0 ∧ s₂.heap.IsTuple l (intItems xs)) → (∀ b ∈ [s.heap.objs.size, l], b < s₂.heap.objs.size) → l ≠ s.heap.objs.size → Q (.ref s.heap.objs.size) s₂) : wpAny (model prog w) A (pyIter (.ref l)) Q E s := by
  have lt : l < s.heap.objs.size := by
    obtain ⟨_, e, _⟩ := hl
    exact Heap.lt_size e
  refine wpAny_pyIter_tuple hl (h _ rfl ⟨⟨_, Heap.get?_push_size _ rfl, rfl, rfl⟩, hl.push _⟩ ?_ (Nat.ne_of_lt lt))
  intro b hb
  have e : (s.heap.push { cls := .type "tuple_iterator", data := .fields #[.ref l, .int 0 0] }).objs.size = s.heap.objs.size + 1 := Heap.size_push ..
  show b < (s.heap.push _).objs.size
  rw [e]
  simp only [List.mem_cons, List.not_mem_nil, or_false] at hb
  rcases hb with rfl | rfl
  · exact Nat.lt_succ_self _
  · exact Nat.lt_succ_of_lt lt
theorem cr_sumT (hc : X.calm = true) : CallR X (.builtin "sum") (rSumT X.K) := by
  intro pins s σ H vs us Q I r h
  obtain ⟨a, ns, rfl, hs, q⟩ := h
  obtain ⟨its, rv, hl, _⟩ := I.tuple hs
  rw [Vals.ref1 r]
  obtain ⟨xs, e⟩ := rv.ints.allInts.items
  have hn : numsOf (intItems xs).toList = ns := by rw [← e]; exact rv.ints.numsOf
  rw [nums_intItems] at hn
  have hl : s.heap.IsTuple a (intItems xs) := by rw [← e]; exact hl
  refine PySem.call_sum_walkG (iter_intTuple hl fun s₂ e2 st hfp hlI => ?_)
  subst e2
  refine ⟨_, _, _, _, _, _, numAt xs, rfl, Walks.tuple (A := X.A.in1) (I.ok.hd hc) _ a hlI (intItems xs), st, hfp, fun _ _ => intItems_at, fun h' tk t' hk => ?_⟩
  have hk' : ∀ b o, s.heap.get? b = some o → h'.get? b = some o := fun b o eb => hk b o (fun hm => Nat.lt_irrefl _ ((List.mem_singleton.1 hm) ▸ Heap.lt_size eb)) (Heap.get?_push_of_some _ eb)
  have e3 : preSum (numAt xs) (intItems xs).size = ns.sum := by
    rw [show (intItems xs).size = xs.size by simp [intItems], preSum_eq, List.take_of_length_le (by simp), hn]
  rw [e3]
  exact ⟨.int _, H, I.kept hk', ⟨_, rfl⟩, q⟩
def vSum2 : D → Option D
  | .list ds => (allInt ds).map fun ns => .int ns.sum
  | .tuple ds => (allInt ds).map fun ns => .int ns.sum
  | _ => none
theorem ej_sum2 (hh : Here X W k) (hg : Gl X "sum") (hm : X.mg "sum" = none) (ns : NoSt a) (ha : EJ X W O .bo a da) : EJ X W O .sh (.Call (.Name "sum" p) [a] [] pos) (eUn vSum2 da) := by
  refine ej_b1 ((cr_sum hh.calm).or (cr_sumT hh.calm)) hg hm (by decide +kernel) (by decide) (by decide) ns ha fun F Hs H x v Q s r1 po => ?_
  unfold vSum2 at po
  split at po
  · rename_i ds
    cases e : allInt ds with
    | none => rw [e] at po; exact po.elim
    | some bs =>
      rw [e] at po
      rw [allInt_some e] at r1
      obtain ⟨l, xs, rfl, h1, h2, h3⟩ := bo_list s r1
      have ex := rpa_ints h3
      subst ex
      exact .inl ⟨_, _, rfl, h1, po F H _ (.refl s) (.int _)⟩
  · rename_i ds
    cases e : allInt ds with
    | none => rw [e] at po; exact po.elim
    | some bs =>
      rw [e] at po
      rw [allInt_some e] at r1
      obtain ⟨l, xs, rfl, h1, _, h2, h3⟩ := bo_tup s r1
      have ex := rpa_ints h3
      subst ex
      exact .inr ⟨_, _, rfl, h1, po F H _ (.refl s) (.int _)⟩
  · exact po.elim
def sPopU (i : Nat) (g : DG) : DS := fun ρ => match ρ[i]? with
  | some (some (.list ds)) => (match ds[ds.length - 1]? with
    | some v => (match g v (ρ.set i (some (.list ds.dropLast))) with
      | some ρ' => .nx ρ'
      | none => .bad)
    | none => .bad)
  | _ => .bad
theorem sj_popU {i : Nat} {ts : List Nat} {tg : Expr} {g : DG} {st : Stmt} (hi : i ∈ O) (hg : GJ X O ts tg g) (h : ∀ u, PG X tg u → PS X st (tAsg (tBM0 X.K "list" rPop (tVar i)) u)) : SJ X W m O O OL st (sPopU i g) := by
  obtain ⟨u, pb, q2⟩ := hg
  refine ⟨_, h u pb, fun F0 H0 F H σ ρ Dn s po => ?_⟩
  unfold sPopU at po
  cases hv : ρ[i]? with
  | none => rw [hv] at po; exact po.elim
  | some ov =>
    rw [hv] at po
    cases ov with
    | none => exact po.elim
    | some v =>
      cases v with
      | list ds =>
        obtain ⟨l, xs, h1, h2, h3, h4, h5, h6⟩ := own_list s hi hv
        simp only at po
        cases hd : ds[ds.length - 1]? with
        | none => rw [hd] at po; exact po.elim
        | some d =>
          rw [hd] at po
          simp only at po
          obtain ⟨y, hy, ry⟩ := h4.get hd
          rw [← h4.length] at hy
          refine ⟨_, h1, .inl ⟨rfl, xs, SqL.of h2⟩, l, xs, y, rfl, rfl, h2, hy, ?_⟩
          have r' : RpA X.K F xs.dropLast ds.dropLast := by
            have e1 : xs.dropLast = xs.take (xs.length - 1) := List.dropLast_eq_take
            have e2 : ds.dropLast = ds.take (ds.length - 1) := List.dropLast_eq_take
            rw [e1, e2, h4.length]
            exact h4.take _
          have s2 := s.mut hi hv h1 h2 h5 h6 (.lst (by rw [List.length_dropLast]; omega) r')
          refine q2 F0 H0 F _ σ _ y d _ s2 ry ?_
          cases hgv : g d (ρ.set i (some (.list ds.dropLast))) with
          | none => rw [hgv] at po; exact po
          | some ρ' => rw [hgv] at po; exact fun σ' s3 _ => po F _ σ' (.refl _) s3
      | _ => exact po.elim
end
/-- the module's name x is a def whose last parameter has the default dd -/
structure KnD (P : Program) (w : World) (K : Fg) (mg : Str → Option Value) (base : Heap) (k : Nat) (x : Str) (ps : List Str) (dd : D) (m : Mode) (d : List D → Res D) : Prop where
  ex : ∃ f fd ds v, mg x = some (.ref f) ∧ PySem.W.keepIn K (.ref f) = true ∧ Binds K fd ps [] ∧ Vals [v] ds ∧ Binds K fd ps ds ∧ (∀ F, Rp K F v dd) ∧ DefOk P w K mg base k f fd ps m d
section
variable {P : Program} {w : World} {K : Fg} {mg : Str → Option Value} {base : Heap} {x : Str} {ps : List Str} {m : Mode} {d : List D → Res D} {j k : Nat} {dd : D}
theorem knD_ok {f : Addr} {fd : FuncData} {params : Arguments} {body : List Stmt} {scope : Scope} {N : List Str} {O' : List Nat} {b : DS} {v : V} (hm : mg x = some (.ref f))
    (F : FunD K x x params body scope [v] [] f fd) (S : FnScope N ps scope) (hN : ps.length ≤ N.length) (h1 : 0 < ps.length) (hv : ∀ F, Rp K F v dd)
    (hb : ∀ (T : Addr) (kV doc pm : Value) (an : Option Addr) (cdv ct : Value) (us its : List Value), us.length = ps.length - 1 → its.length = 1 →
      ∃ k, bindArgs (PySem.W.fnOf x x params body scope (.ref T) kV doc pm an cdv ct) ⟨us, []⟩ = seqItems? (.ref T) >>= k ∧ k (some its.toArray) = pure (ps.zip (us ++ its)))
    (hb0 : ∀ (T : Addr) (kV doc pm : Value) (an : Option Addr) (cdv ct : Value) (us its : List Value), us.length = ps.length → its.length = 1 →
      ∃ k, bindArgs (PySem.W.fnOf x x params body scope (.ref T) kV doc pm an cdv ct) ⟨us, []⟩ = seqItems? (.ref T) >>= k ∧ k (some its.toArray) = pure (ps.zip us))
    (h : ∀ (cdv : Value) (A : Around) (outer : List PySem.Env) (s : Shared) (H : Hp) (E : XK), Here (cxOf (L2.CX P w) P w K mg base N x scope f cdv A outer s H E) (fun cls d _ H => E cls d H) k →
      BJ (cxOf (L2.CX P w) P w K mg base N x scope f cdv A outer s H E) (fun cls d _ H => E cls d H) m [] O' [] body b) : KnD P w K mg base (k + 1) x ps dd m (runD N.length b) := by
  obtain ⟨ds, r1, b1⟩ := F.binds1 (ps := ps) (ps.length - 1) 0 (by simp) (by simp; omega) (fun T kV doc pm an cdv ct us its hu hi => by
    obtain ⟨k, e1, e2⟩ := hb T kV doc pm an cdv ct us its hu hi
    exact ⟨k, e1, by simpa using e2⟩)
  obtain ⟨ds0, r0, b0⟩ := F.binds1 (ps := ps) ps.length 1 (by simp) (by simp) (fun T kV doc pm an cdv ct us its hu hi => by
    obtain ⟨k, e1, e2⟩ := hb0 T kV doc pm an cdv ct us its hu hi
    refine ⟨k, e1, ?_⟩
    have : its.drop 1 = [] := List.drop_eq_nil_of_le (by simpa using Nat.le_of_eq hi)
    rw [this, List.append_nil]; exact e2)
  have : ds0 = [] := by cases r0; rfl
  subst this
  exact ⟨f, fd, ds, v, hm, F.kp, b0, by simpa using r1, b1, hv, def_ok F S hN h⟩
theorem KnD.full (h : KnD P w K mg base k x ps dd m d) : Kn P w K mg base k x ps m d := by
  obtain ⟨f, fd, ds, v, h1, h2, h3, h4, h5, h6, h7⟩ := h.ex
  exact ⟨f, fd, h1, h2, h3, h7⟩
end
section
variable {X : Cx} {W : WX} {O : List Nat} {k j : Nat} {m : Mode} {a : Expr} {es : List Expr} {das : DA} {pos p : Pos} {x : Str} {ps : List Str} {df : List D → Res D} {dd : D}
theorem ej_callDf (F : KnD X.prog X.w X.K X.mg X.base k x ps dd m df) (hh : Here X W j) (hk : Nat.ble k j = true) (hg : Gl X x) (hl : (a :: es).length + 1 = ps.length) (hdb : (x == ("__debug__" : Str)) = false) (ns : NoSt a) (nss : NoStars es)
    (ha : AJ X W O (a :: es) das) (hal : ∀ ρ ds, das ρ = .ok ds → ds.length = (a :: es).length) : EJ X W O m (.Call (.Name x p) (a :: es) [] pos) (eCall (fun ds => df (ds ++ [dd])) das) := by
  obtain ⟨f, fd, ds, v, h1, h2, h3, h4, h5, h6, h7⟩ := F.ex
  exact ej_callD (dvs := [v]) (dds := [dd]) h7 hh (Nat.le_of_ble_eq_true hk) hg h1 h2 h5 h4 (fun F => .cons (h6 F) .nil) hl hdb ns nss ha hal
/-- f() -/
theorem ej_callK0 (F : Kn X.prog X.w X.K X.mg X.base k x [] m df) (hh : Here X W j) (hk : Nat.ble k j = true) (hg : Gl X x) (hdb : (x == ("__debug__" : Str)) = false) :
    EJ X W O m (.Call (.Name x p) [] [] pos) (eCall df aNil) := by
  obtain ⟨f, fd, h1, h2, h3, h4⟩ := F.ex
  have pe : PE X (.Call (.Name x p) [] [] pos) (fun σ H Q => spOf X.K X.mg 0 m df [] H Q (WE W σ)) :=
    ⟨fun pins s σ H Q I h => wpAny_Call_Name_kw (ld_glob I hg h1 (PySem.W.callWith_K0 I.kIn h2 (run_fnSD (us := []) (dvs := []) (ds := []) (vs := []) h4 (hh.hr.mono (Nat.le_of_ble_eq_true hk)) h3 .nil (E := WE W) (passAt hh.tk σ) I .nil h)) hdb)⟩
  refine ⟨_, pe, fun F0 H0 F H σ ρ Q s po => ⟨rfl, F, [], s.sub, .nil, ?_⟩⟩
  have po : EPost X W m F H σ (df []) Q := po
  cases hd : df [] with
  | ok v => rw [hd] at po; exact po
  | exn c => rw [hd] at po; exact po
  | bad => rw [hd] at po; exact po
end
end PL

end
section
namespace PL
open PySem PySem.Spec PyProof.Rows L2
/-- the module's class x may be raised: an own class over ValueError without __init__ -/
def KX (mg : Str → Option Value) (K : Fg) (x : Str) : Prop := ∃ C, mg x = some (.ref C) ∧ PySem.W.excIn K C He.veBase "ValueError.__new__" = true ∧ PySem.W.keepIn K (.ref C) = true ∧ PySem.W.subIn K (.ref C) (.type "BaseException") = some true ∧ PySem.W.typeIn K (.ref C) = some (.type "type")
/-- of the classes x and y: whether except y catches x -/
def KM (mg : Str → Option Value) (K : Fg) (x y : Str) (b : Bool) : Prop := ∃ C D, mg x = some (.ref C) ∧ mg y = some (.ref D) ∧ PySem.W.exmOne K (.ref C) (.ref D) = some b
section
variable {mg : Str → Option Value} {K : Fg} {h : Heap}
theorem kx_of {x : Str} (X : K.In h) (G : h.Ns mainGlobals mg) (c1 : (He.Fa.glo x).ok K = true) (c2 : (He.Fa.exc x).ok K = true) : KX mg K x := by
  obtain ⟨a, b, c, d⟩ := He.exc_ok c2
  exact ⟨_, He.glo_ok X G c1, a, b, c, d⟩
theorem km_of {x y : Str} {b : Bool} (X : K.In h) (G : h.Ns mainGlobals mg) (c1 : (He.Fa.glo x).ok K = true) (c2 : (He.Fa.glo y).ok K = true) (c3 : (He.Fa.exm x y b).ok K = true) : KM mg K x y b :=
  ⟨_, _, He.glo_ok X G c1, He.glo_ok X G c2, He.exm_ok c3⟩
end
def sRaise (c : Str) : DS := fun ρ => .ex (excD c []) ρ
section
variable {X : Cx} {W : WX} {O O' OL : List Nat} {k : Nat} {m : Mode}
theorem sj_raise {x msg : Str} {j : Nat} {p p2 p3 pos : Pos} (hh : Here X W k) (h : KX X.mg X.K x) (hg : Gl X x) (hdb : (x == ("__debug__" : Str)) = false) : SJ X W m O O' OL (.Raise (some (.Call (.Name x p) [.Constant (.str msg) j p2] [] p3)) none pos) (sRaise x) := by
  obtain ⟨C, h1, h2, h3, h4, h5⟩ := h
  refine ⟨_, ps_raise hh.calm hh.tk (pmk_own PySem.F.excBase_ValueError h2 h1 h3 (raises_own h4 h5) hg hdb), fun F0 H0 F H σ ρ Dn s po => ?_⟩
  obtain ⟨F', e, s'⟩ := s.all
  exact po F' H σ (.ref C) none s' ⟨x, [], rfl, h1, .inl ⟨rfl, rfl⟩⟩
end
theorem PE.never {X : Cx} {e : Expr} : PE X e (fun _ _ _ => False) := ⟨fun _ _ _ _ _ _ h => h.elim⟩
def EX (X : Cx) (i : Nat) (a : Addr) (e : Expr) (d : DE) : Prop :=
  ∃ t, PE X e t ∧ ∀ F0 H0 F H σ ρ Q, σ[i]? = some (some (.ref a)) → SR X.K F0 H0 [] F H σ ρ → EPost X WF .sh F H σ (d ρ) Q → t σ H Q
section
variable {X : Cx} {i : Nat} {ad : Addr} {a b e : Expr} {es : List Expr} {d da db : DE} {pos : Pos}
theorem ex_lift (h : EJ X WF [] .sh e d) : EX X i ad e d := by
  obtain ⟨t, p, q⟩ := h
  exact ⟨t, p, fun F0 H0 F H σ ρ Q _ s po => q F0 H0 F H σ ρ Q s po⟩
theorem ex_not (h : EX X i ad a da) : EX X i ad (.UnaryOp .Not a pos) (eNot da) := by
  obtain ⟨t, p, q⟩ := h
  refine ⟨_, pe_notT p, fun F0 H0 F H σ ρ Q hi s po => q F0 H0 F H σ ρ _ hi s (EPost.bindE (m1 := .sh) s.sub po fun v F' H' x _ e rm po' => ?_)⟩
  exact ⟨truthD v, truth_v e.fh (RM.bo_of .sh (H0 := H') rm), po' F' H' _ (.refl e.fh) (.bl _)⟩
theorem ex_one {op : BoolOp} (h : EX X i ad a da) : EX X i ad (.BoolOp op [a] pos) da := by
  obtain ⟨t, p, q⟩ := h
  exact ⟨t, pe_one p, q⟩
theorem ex_and (h : EX X i ad a da) (h2 : EX X i ad (.BoolOp .And (b :: es) pos) db) : EX X i ad (.BoolOp .And (a :: b :: es) pos) (eAnd da db) := by
  obtain ⟨t, p, q⟩ := h
  obtain ⟨u, p2, q2⟩ := h2
  refine ⟨_, pe_andT p p2, fun F0 H0 F H σ ρ Q hi s po => q F0 H0 F H σ ρ _ hi s (EPost.bindE (m1 := .sh) s.sub po fun v F' H' x _ e rm po' => ?_)⟩
  refine ⟨truthD v, truth_v e.fh (RM.bo_of .sh (H0 := H') rm), ?_⟩
  by_cases hv : truthD v = true
  · rw [if_pos hv] at po' ⊢
    exact q2 F0 H0 F' H' σ ρ Q hi (s.ext e) po'
  · rw [if_neg hv] at po' ⊢
    exact po' F' H' x (.refl e.fh) rm
theorem ex_or (h : EX X i ad a da) (h2 : EX X i ad (.BoolOp .Or (b :: es) pos) db) : EX X i ad (.BoolOp .Or (a :: b :: es) pos) (eOr da db) := by
  obtain ⟨t, p, q⟩ := h
  obtain ⟨u, p2, q2⟩ := h2
  refine ⟨_, pe_orT p p2, fun F0 H0 F H σ ρ Q hi s po => q F0 H0 F H σ ρ _ hi s (EPost.bindE (m1 := .sh) s.sub po fun v F' H' x _ e rm po' => ?_)⟩
  refine ⟨truthD v, truth_v e.fh (RM.bo_of .sh (H0 := H') rm), ?_⟩
  by_cases hv : truthD v = true
  · rw [if_pos hv] at po' ⊢
    exact po' F' H' x (.refl e.fh) rm
  · rw [if_neg hv] at po' ⊢
    exact q2 F0 H0 F' H' σ ρ Q hi (s.ext e) po'
end
/-- isinstance(n, y) of an exception of the class c -/
def eIs (l : List (Str × Bool)) (c : Str) : DE := fun _ => match l.lookup c with
  | some b => .ok (.bool b)
  | none => .bad
theorem lookup_mem {α : Type} : ∀ {l : List (Str × α)} {c : Str} {b : α}, l.lookup c = some b → (c, b) ∈ l
  | [], _, _, h => by cases h
  | (k, v) :: r, c, b, h => by
    rw [List.lookup_cons] at h
    cases q : c == k with
    | true =>
      rw [q] at h
      cases h
      rw [eq_of_beq q]
      exact List.mem_cons_self
    | false =>
      rw [q] at h
      exact List.mem_cons_of_mem _ (lookup_mem h)
theorem ex_isE {X : Cx} {i : Nat} {ad D : Addr} {oe : Obj} {pn : List (Addr × Obj)} {n y c : Str} {p p1 p2 pos : Pos} {l : List (Str × Bool)} (hl : ∀ q ∈ l, KI X.mg X.K q.1 y q.2) (hc : X.mg c = some (.ref D)) (hz : Zc (.ref D) none oe) (hf : ∃ vs, oe.data = .fields vs)
    (hg : Gl X "isinstance") (hm : X.mg "isinstance" = none) (hgy : Gl X y) (hdy : (y == ("__debug__" : Str)) = false) (pv : PE (X.suite ad ((ad, oe) :: pn)) (.Name n p1) (tVar i)) :
    EX (X.suite ad ((ad, oe) :: pn)) i ad (.Call (.Name "isinstance" p) [.Name n p1, .Name y p2] [] pos) (eIs l c) := by
  cases hb : l.lookup c with
  | none =>
    refine ⟨fun _ _ _ => False, PE.never, fun F0 H0 F H σ ρ Q hi s po => ?_⟩
    unfold eIs at po
    rw [hb] at po
    exact po.elim
  | some b =>
    obtain ⟨D', C, h1, h2, h3, h4⟩ := hl _ (lookup_mem hb)
    have h1 : X.mg c = some (.ref D') := h1
    rw [hc] at h1
    cases h1
    have hgy' : Gl (X.suite ad ((ad, oe) :: pn)) y := hgy
    refine ⟨_, pe_callB (call_isE h3 hz hf) hg hm (by decide +kernel) (pa_cons pv (pa_cons (pe_glob (v := .ref C) hgy' h2 rfl hdy) pa_nil)) (by decide) (by decide), fun F0 H0 F H σ ρ Q hi s po => ?_⟩
    unfold eIs at po
    rw [hb] at po
    refine ⟨.ref ad, hi, .ref C, .ref C, b, rfl, fun u r => r, h4, po F H _ (.refl s.sub) (.bl b)⟩
def unX : D → Option (Str × List (D × D))
  | .dict ((.str c, _) :: r) => some (c, r)
  | _ => none
/-- only a return of the suite counts -/
def onlyRt (ρ : Lo) (r : Res D) : SRes := match r with
  | .ok v => .rt v
  | _ => .bad
/-- try: body, except (the classes of tbl) as slot i: return e -/
def sTryR (i : Nat) (tbl : Str → Option Bool) (body : DS) (e : Str → DE) : DS := fun ρ => match body ρ with
  | .ex c ρ' => (match unX c with
    | some (n, []) => (match tbl n with
      | some true => if i < ρ'.length then onlyRt ρ' (e n (ρ'.set i none)) else .bad
      | some false => .ex c ρ'
      | none => .bad)
    | _ => .bad)
  | r => r
section
variable {X : Cx} {W : WX} {O O' OL : List Nat} {k : Nat}
theorem SR.setN {K : Fg} {F0 H0 F H : Hp} {σ : L2.St} {ρ : Lo} (i : Nat) (x : Option V) (s : SR K F0 H0 [] F H σ ρ) : SR K F0 H0 [] F H (σ.set i x) (ρ.set i none) := by
  refine ⟨s.e0, by simp [s.len], fun j w h1 h2 => ?_, fun j w h1 => (by cases h1), fun j k w w' b h1 => (by cases h1)⟩
  by_cases hj : j = i
  · subst hj
    have hl : j < ρ.length := by have := (List.getElem?_eq_some_iff.mp h2).1; simpa using this
    rw [List.getElem?_set_self hl] at h2; cases h2
  · rw [List.getElem?_set_ne (Ne.symm hj)] at h2 ⊢
    exact s.sh j w h1 h2
def tblD (l : List (Str × Bool)) : Str → Option Bool := fun c => l.lookup c
theorem tbl_ok {mg : Str → Option Value} {K : Fg} {x : Str} {C : Addr} {l : List (Str × Bool)} (hC : mg x = some (.ref C)) (h : ∀ q ∈ l, KM mg K q.1 x q.2) : ∀ c b, tblD l c = some b → ∃ D, mg c = some (.ref D) ∧ PySem.W.exmOne K (.ref D) (.ref C) = some b := fun c b e => by
  obtain ⟨D, C', h1, h2, h3⟩ := h _ (lookup_mem e)
  have h2 : mg x = some (.ref C') := h2
  rw [hC] at h2
  cases h2
  exact ⟨D, h1, h3⟩
/-- the reading of the suite -/
theorem sj_tryR {i : Nat} {x n : Str} {C : Addr} {body : List Stmt} {re : Expr} {np rp pos' pos : Pos} {tbl : Str → Option Bool} {db : DS} {de : Str → DE} (hh : Here X W k) (hs : X.stack = X.env :: X.outer) (hf : X.env.frame = some X.env.locals) (hi : X.N[i]? = some n) (hln : X.env.kindOf n = some .local)
    (hg : Gl X x) (hdb : (x == ("__debug__" : Str)) = false) (hC : X.mg x = some (.ref C)) (ht : ∀ c b, tbl c = some b → ∃ D, X.mg c = some (.ref D) ∧ PySem.W.exmOne X.K (.ref D) (.ref C) = some b)
    (hb : ∀ (W' : WX) (pn : List (Addr × Obj)) (xe : Value → Shared → Prop), Here (X.tr pn xe) W' k → BJ (X.tr pn xe) W' .sh O [] OL body db)
    (hsu : ∀ (a : Addr) (oe : Obj) (D : Addr) (pn : List (Addr × Obj)) (c : Str), tbl c = some true → X.mg c = some (.ref D) → Zc (.ref D) none oe → (∃ vs, oe.data = .fields vs) → EX (X.suite a ((a, oe) :: pn)) i a re (de c)) :
    SJ X W .sh O [] OL (.Try body [.ExceptHandler (some (.Name x np)) (some n) [.Return (some re) rp] pos'] [] [] pos) (sTryR i tbl db de) := by
  have here' : ∀ (W' : WX) (pn : List (Addr × Obj)) (xe : Value → Shared → Prop), Takes (X.tr pn xe) W' → PassesOwn (model X.prog X.w) X.A X.env xe → Here (X.tr pn xe) W' k := fun W' pn xe tk po => ⟨hh.hr, hh.calm, tk, hh.nd, po⟩
  let tb : WX → TS := fun W' Dn σ H => ∀ pn xe (tk : Takes (X.tr pn xe) W') (po : PassesOwn (model X.prog X.w) X.A X.env xe), Classical.choose (hb W' pn xe (here' W' pn xe tk po)) Dn σ H
  let ts : Addr → Value → Option Addr → TS := fun a cls d Dn σ H => d = none ∧ ∃ D c, cls = .ref D ∧ ∃ (h1 : tbl c = some true) (h2 : X.mg c = some (.ref D)), ∀ oe pn (hz : Zc (.ref D) none oe) (hfs : ∃ vs, oe.data = .fields vs), Classical.choose (hsu a oe D pn c h1 h2 hz hfs) σ H Dn.rt
  refine ⟨_, ps_try_as (i := i) (tb := tb) (ts := ts) hs hf hh.nd hi hln ⟨hg, hdb, .inl hC⟩ hh.tk ?_ ?_, ?_⟩
  · intro W' pn xe tk po
    exact ⟨fun pins s σ H Dn I h => (Classical.choose_spec (hb W' pn xe (here' W' pn xe tk po))).1.run pins s σ H Dn I (h pn xe tk po)⟩
  · intro a oe cls d pn hz hfs
    refine ⟨fun pins s σ H Dn I h => ?_⟩
    obtain ⟨rfl, D, c, rfl, h1, h2, h3⟩ := h
    have p := (Classical.choose_spec (hsu a oe D pn c h1 h2 hz hfs)).1
    exact (pss_cons (ps_ret p) pss_nil).run pins s σ H Dn I (h3 oe pn hz hfs)
  · intro F0 H0 F H σ ρ Dn s po pn xe tk po2
    refine (Classical.choose_spec (hb _ pn xe (here' _ pn xe tk po2))).2 F0 H0 F H σ ρ Dn s ?_
    unfold sTryR at po
    cases hr : db ρ with
    | nx ρ' => rw [hr] at po; exact po
    | rt v => rw [hr] at po; exact po
    | bk ρ' => rw [hr] at po; exact po
    | ct ρ' => rw [hr] at po; exact po
    | bad => rw [hr] at po; exact po
    | ex c ρ' =>
      rw [hr] at po
      intro F' H' σ' cls dd s' ex
      obtain ⟨nm, args, rfl, hm, hargs⟩ := ex
      simp only [unX, excD] at po
      rcases hargs with ⟨rfl, rfl⟩ | ⟨f, v, d, xv, rfl, _⟩
      · simp only [List.map_nil] at po
        cases hn : tbl nm with
        | none => rw [hn] at po; exact po.elim
        | some b =>
          rw [hn] at po
          obtain ⟨D, hD, hx⟩ := ht nm b hn
          rw [hm] at hD
          cases hD
          refine ⟨b, hx, fun hb1 a na => ?_, fun hb0 => ?_⟩
          · subst hb1
            refine ⟨rfl, D, nm, rfl, hn, hm, fun oe pn hz hfs => ?_⟩
            have po : SPost X W F0 H0 F .sh [] OL (if i < ρ'.length then onlyRt ρ' (de nm (ρ'.set i none)) else .bad) Dn := po
            have sl : i < ρ'.length := Decidable.byContradiction fun sl => by
              rw [if_neg sl] at po
              exact po.elim
            rw [if_pos sl] at po
            rw [← s'.len] at sl
            refine (Classical.choose_spec (hsu a oe D pn nm hn hm hz hfs)).2 F0 H0 F' H' (σ'.set i (some (.ref a))) (ρ'.set i none) Dn.rt (by rw [List.getElem?_set_self sl]) (SR.setN i _ s') ?_
            simp only [onlyRt] at po
            cases hv : de nm (ρ'.set i none) with
            | ok v =>
              rw [hv] at po
              exact fun F2 H2 y e rm => po F2 H2 y (s'.e0.trans e) rm
            | exn c => rw [hv] at po; exact po.elim
            | bad => rw [hv] at po; exact po.elim
          · subst hb0
            exact po F' H' σ' _ none s' ⟨nm, [], rfl, hm, .inl ⟨rfl, rfl⟩⟩
      · simp only [List.map_cons, List.map_nil] at po
        exact po.elim
end
end PL

end
section
namespace PL
open PySem PySem.Spec PyProof.Rows L2
section
variable {prog : Program} {w : World} {A : Around} {s : Shared} {E : Value → Shared → Prop}
theorem min_list_at {l : Addr} {vs : Array Value} {x : D} {xs : List D} {as : List Addr} {Q : Value → Shared → Prop} (hh : A.handled = none) (hl : s.heap.IsList l vs) (hr : ReadsAll s.heap vs.toList (x :: xs) as) (ha : W.AlikeAll (x :: xs)) (hu : A.units + 1 + PyData.depthAll (x :: xs) < cLine)
    (h : ∀ (i : Nat) v h' tk, vs[i]? = some v → (x :: xs)[i]? = some (W.minD x xs) → (∀ b o, s.heap.get? b = some o → h'.get? b = some o) → Q v { s with heap := h', toks := tk }) :
    wpAny (model prog w) A (call (.builtin "min") [.ref l]) Q E s := by
  have hn : vs.size = xs.length + 1 := W.readsAll_len hr
  refine call_min_walkH (W.iter_listW (A := A.in1) hh hl fun s₂ e Wk st hfp hw hk => ?_)
  refine ⟨_, _, _, _, _, _, _, s.heap, _, rfl, Wk, st, hfp, by omega, hw, hk, W.cmpIn_lt (A := A.in1) hr ha (by show A.units + 1 + _ < _; exact hu), fun v s' hP m => ?_⟩
  obtain ⟨h', tk, rfl, hk'⟩ := W.moved_old e rfl m
  have e1 : vs.size - 1 = xs.length := by omega
  obtain ⟨e3, e2⟩ := W.argBest_fold W.dataLt PyData.none x xs xs.length (Nat.le_refl _)
  rw [List.take_length] at e2
  refine h _ v h' tk hP ?_ hk'
  rw [e1]
  have hlt : argBest (fun i j => W.dataLt ((x :: xs).getD i .none) ((x :: xs).getD j .none)) xs.length < (x :: xs).length := by rw [List.length_cons]; omega
  rw [List.getElem?_eq_getElem hlt]
  unfold W.minD
  rw [← e2, List.getD_eq_getElem?_getD, List.getElem?_eq_getElem hlt]
  rfl
theorem max_list_at {l : Addr} {vs : Array Value} {x : D} {xs : List D} {as : List Addr} {Q : Value → Shared → Prop} (hh : A.handled = none) (hl : s.heap.IsList l vs) (hr : ReadsAll s.heap vs.toList (x :: xs) as) (ha : W.AlikeAll (x :: xs)) (hu : A.units + 1 + PyData.depthAll (x :: xs) < cLine)
    (h : ∀ (i : Nat) v h' tk, vs[i]? = some v → (x :: xs)[i]? = some (W.maxD x xs) → (∀ b o, s.heap.get? b = some o → h'.get? b = some o) → Q v { s with heap := h', toks := tk }) :
    wpAny (model prog w) A (call (.builtin "max") [.ref l]) Q E s := by
  have hn : vs.size = xs.length + 1 := W.readsAll_len hr
  refine call_max_walkH (W.iter_listW (A := A.in1) hh hl fun s₂ e Wk st hfp hw hk => ?_)
  refine ⟨_, _, _, _, _, _, _, s.heap, _, rfl, Wk, st, hfp, by omega, hw, hk, W.cmpIn_gt (A := A.in1) hr ha (by show A.units + 1 + _ < _; exact hu), fun v s' hP m => ?_⟩
  obtain ⟨h', tk, rfl, hk'⟩ := W.moved_old e rfl m
  have e1 : vs.size - 1 = xs.length := by omega
  obtain ⟨e3, e2⟩ := W.argBest_fold (fun y a => W.dataLt a y) PyData.none x xs xs.length (Nat.le_refl _)
  rw [List.take_length] at e2
  refine h _ v h' tk hP ?_ hk'
  rw [e1]
  have hlt : argBest (fun i j => W.dataLt ((x :: xs).getD j .none) ((x :: xs).getD i .none)) xs.length < (x :: xs).length := by rw [List.length_cons]; omega
  rw [List.getElem?_eq_getElem hlt]
  unfold W.maxD
  rw [← e2, List.getD_eq_getElem?_getD, List.getElem?_eq_getElem hlt]
  rfl
end
section
variable {X : Cx}
def rExtD (g : D → List D → D) (K : Fg) : List V → Hp → VK → Prop := fun xs H Q => ∃ (a : Addr) (vs : List V) (d : D) (ds : List D), xs = [V.ref a] ∧ SqL K H a vs ∧ DpAll K H vs (d :: ds) ∧ W.AlikeAll (d :: ds) ∧ PyData.depthAll (d :: ds) ≤ 60 ∧
  ∀ (i : Nat) (v : V), vs[i]? = some v → (d :: ds)[i]? = some (g d ds) → Q v H
theorem cr_minD (hc : X.calm = true) (hu : X.A.units + 64 < cLine) : CallR X (.builtin "min") (rExtD W.minD X.K) := by
  intro pins s σ H xs us Q I r h
  obtain ⟨a, vs, d, ds, rfl, hs, hd, ha, hp, q⟩ := h
  obtain ⟨its, rv, hl, _⟩ := I.list hs
  obtain ⟨as, hr⟩ := Dp.readsAll I _ _ _ hd rv
  rw [Vals.ref1 r]
  refine min_list_at (I.ok.hd hc) hl.isList (as := as) (by simpa using hr) ha (by omega) fun i v h' tk hv hm hk => ?_
  have hv : its[i]? = some v := by simpa using hv
  have hil : i < vs.length := by
    have h1 := rv.length
    have h2 : i < its.length := (List.getElem?_eq_some_iff.mp hv).1
    omega
  obtain ⟨u, hu1, hu2⟩ := rv.get (List.getElem?_eq_getElem hil)
  rw [hv] at hu1
  cases hu1
  exact ⟨_, H, I.kept hk, hu2, q i _ (List.getElem?_eq_getElem hil) hm⟩
theorem cr_maxD (hc : X.calm = true) (hu : X.A.units + 64 < cLine) : CallR X (.builtin "max") (rExtD W.maxD X.K) := by
  intro pins s σ H xs us Q I r h
  obtain ⟨a, vs, d, ds, rfl, hs, hd, ha, hp, q⟩ := h
  obtain ⟨its, rv, hl, _⟩ := I.list hs
  obtain ⟨as, hr⟩ := Dp.readsAll I _ _ _ hd rv
  rw [Vals.ref1 r]
  refine max_list_at (I.ok.hd hc) hl.isList (as := as) (by simpa using hr) ha (by omega) fun i v h' tk hv hm hk => ?_
  have hv : its[i]? = some v := by simpa using hv
  have hil : i < vs.length := by
    have h1 := rv.length
    have h2 : i < its.length := (List.getElem?_eq_some_iff.mp hv).1
    omega
  obtain ⟨u, hu1, hu2⟩ := rv.get (List.getElem?_eq_getElem hil)
  rw [hv] at hu1
  cases hu1
  exact ⟨_, H, I.kept hk, hu2, q i _ (List.getElem?_eq_getElem hil) hm⟩
end
/-- rows of ints, all of them -/
def allRow : List D → Option (List (List Int))
  | [] => some []
  | .tuple t :: r => (allInt t).bind fun a => (allRow r).bind fun b => some (a :: b)
  | _ :: _ => none
theorem allRow_some : ∀ {l : List D} {m : List (List Int)}, allRow l = some m → l = m.map fun a => .tuple (a.map .int)
  | [], m, h => by cases h; rfl
  | x :: r, m, h => by
    cases x with
    | tuple t =>
      unfold allRow at h
      cases ea : allInt t with
      | none => rw [ea] at h; cases h
      | some a =>
        rw [ea] at h
        cases eb : allRow r with
        | none => rw [eb] at h; cases h
        | some b =>
          rw [eb] at h
          cases h
          rw [List.map_cons, ← allRow_some eb, allInt_some ea]
    | _ => cases h
theorem alikeAll_int : ∀ a b : List Int, W.alikeAll (a.map .int) (b.map .int) = true
  | [], _ => by simp [W.alikeAll]
  | _ :: _, [] => by simp [W.alikeAll]
  | x :: a, y :: b => by simp [W.alikeAll, W.alike, alikeAll_int a b]
theorem alike_rows (m : List (List Int)) : W.AlikeAll (m.map fun a => .tuple (a.map .int)) := by
  refine ⟨fun x hx y hy => ?_, fun x hx e => ?_⟩
  · obtain ⟨a, _, rfl⟩ := List.mem_map.1 hx
    obtain ⟨b, _, rfl⟩ := List.mem_map.1 hy
    simp [W.alike, alikeAll_int]
  · obtain ⟨a, _, rfl⟩ := List.mem_map.1 hx
    cases e
theorem rowsI_depthAll : ∀ l : List Int, PyData.depthAll (l.map .int) = 0
  | [] => rfl
  | a :: l => by simp [PyData.depthAll, PyData.depth, rowsI_depthAll l]
theorem rows_depth : ∀ m : List (List Int), PyData.depthAll (m.map fun a => PyData.tuple (a.map .int)) ≤ 1
  | [] => Nat.zero_le _
  | a :: m => by
    have := rows_depth m
    simp only [List.map_cons, PyData.depthAll, PyData.depth, rowsI_depthAll]
    omega
theorem canLayAll_ints : ∀ a : List Int, PyData.canLayAll0 (a.map .int) = true
  | [] => rfl
  | _ :: a => by simp [PyData.canLayAll0, PyData.canLay0, canLayAll_ints a]
theorem canLayAll_rows : ∀ m : List (List Int), PyData.canLayAll0 (m.map fun a => PyData.tuple (a.map .int)) = true
  | [] => rfl
  | a :: m => by simp [PyData.canLayAll0, PyData.canLay0, canLayAll_rows m, canLayAll_ints a]
def rowExt (g : D → List D → D) : D → Option D
  | .list (d :: ds) => (allRow (d :: ds)).bind fun _ => some (g d ds)
  | _ => none
def vMin1D (v : D) : Option D := match vMin1 v with
  | some r => some r
  | none => rowExt W.minD v
def vMax1D (v : D) : Option D := match vMax1 v with
  | some r => some r
  | none => rowExt W.maxD v
section
variable {X : Cx} {W : WX} {O : List Nat} {k : Nat} {m : Mode} {F H Hs : Hp} {a : Expr} {da : DE} {pos p : Pos}
theorem rowExt_pass {g : D → List D → D} {x : V} {v : D} {Q : VK} (s : Same F H) (r1 : RM .bo X.K F Hs H x v) (po : VPost X.K .sh F H (rowExt g v) Q) : rExtD g X.K [x] H Q := by
  unfold rowExt at po
  split at po
  · rename_i d ds
    cases e : allRow (d :: ds) with
    | none => rw [e] at po; exact po.elim
    | some rows =>
      rw [e] at po
      have er := allRow_some e
      obtain ⟨l, xs, rfl, h1, h2, h3⟩ := bo_list s r1
      refine ⟨l, xs, d, ds, rfl, h1, (h3.mono s).dp (by rw [er]; exact canLayAll_rows rows), by rw [er]; exact alike_rows rows, by have := rows_depth rows; rw [← er] at this; omega, fun i v hv hm => ?_⟩
      obtain ⟨d', h4, h5⟩ := h3.getV hv
      rw [hm] at h4
      cases h4
      exact po F H _ (.refl s) h5
  · exact po.elim
theorem ej_min1D (hh : Here X W k) (hg : Gl X "min") (hm : X.mg "min" = none) (ns : NoSt a) (ha : EJ X W O .bo a da) : EJ X W O .sh (.Call (.Name "min" p) [a] [] pos) (eUn vMin1D da) := by
  refine ej_b1 ((cr_min hh.calm).or (cr_minD hh.calm hh.u64)) hg hm (by decide +kernel) (by decide) (by decide) ns ha fun F Hs H x v Q s r1 po => ?_
  unfold vMin1D at po
  cases e0 : vMin1 v with
  | none =>
    rw [e0] at po
    exact .inr (rowExt_pass s r1 po)
  | some w =>
    rw [e0] at po
    refine .inl ?_
    unfold vMin1 at e0
    split at e0
    · rename_i ds
      cases e : allInt ds with
      | none => rw [e] at e0; cases e0
      | some bs =>
        rw [e] at e0
        rw [allInt_some e] at r1
        obtain ⟨l, xs, rfl, h1, h2, h3⟩ := bo_list s r1
        have ex := rpa_ints h3
        subst ex
        cases bs with
        | nil => cases e0
        | cons n r =>
          cases e0
          refine ⟨_, _, rfl, h1, by simp, fun m hm1 hm2 => ?_⟩
          obtain ⟨q1, q2, q3⟩ := minL_spec r n
          have em : m = minL n r := by
            refine Int.le_antisymm (hm2 _ ?_) ?_
            · rcases q1 with q1 | q1
              · rw [q1]; simp
              · simp [q1]
            · rcases List.mem_cons.mp hm1 with rfl | hm1
              · exact q2
              · exact q3 m hm1
          rw [em]
          exact po F H _ (.refl s) (.int _)
    · cases e0
theorem ej_max1D (hh : Here X W k) (hg : Gl X "max") (hm : X.mg "max" = none) (ns : NoSt a) (ha : EJ X W O .bo a da) : EJ X W O .sh (.Call (.Name "max" p) [a] [] pos) (eUn vMax1D da) := by
  refine ej_b1 ((cr_max hh.calm).or (cr_maxD hh.calm hh.u64)) hg hm (by decide +kernel) (by decide) (by decide) ns ha fun F Hs H x v Q s r1 po => ?_
  unfold vMax1D at po
  cases e0 : vMax1 v with
  | none =>
    rw [e0] at po
    exact .inr (rowExt_pass s r1 po)
  | some w =>
    rw [e0] at po
    refine .inl ?_
    unfold vMax1 at e0
    split at e0
    · rename_i ds
      cases e : allInt ds with
      | none => rw [e] at e0; cases e0
      | some bs =>
        rw [e] at e0
        rw [allInt_some e] at r1
        obtain ⟨l, xs, rfl, h1, h2, h3⟩ := bo_list s r1
        have ex := rpa_ints h3
        subst ex
        cases bs with
        | nil => cases e0
        | cons n r =>
          cases e0
          refine ⟨_, _, rfl, h1, by simp, fun m hm1 hm2 => ?_⟩
          obtain ⟨q1, q2, q3⟩ := maxL_spec r n
          have em : m = maxL n r := by
            refine Int.le_antisymm ?_ (hm2 _ ?_)
            · rcases List.mem_cons.mp hm1 with rfl | hm1
              · exact q2
              · exact q3 m hm1
            · rcases q1 with q1 | q1
              · rw [q1]; simp
              · simp [q1]
          rw [em]
          exact po F H _ (.refl s) (.int _)
    · cases e0
end
end PL

end
section
namespace PL
open PySem PySem.Spec PyProof.Rows L2
abbrev hp0 : Hp := fun _ => none
section
variable {K : Fg} {F0 H0 F H F' H' : Hp} {O : List Nat} {σ : L2.St} {ρ : Lo} {D0 : Addr} {o o' : HO}
/-- the same slots, read beside one object that no slot holds -/
theorem SR.single (s : SR K F0 H0 O F H σ ρ) (hD : H D0 = none) (e : Ext F H F' H') (h2 : H' D0 = some o) (f1 : F' D0 = none) : SR K hp0 (upd hp0 D0 o) O F' H' σ ρ := by
  refine ⟨⟨fun a p q => (nomatch q), fun a p q => ?_, fun a _ q => ?_, e.fh⟩, s.len, fun i v h1 h2 => ?_, fun i v h1 h3 => ?_, s.dj⟩
  · by_cases ha : a = D0
    · subst ha
      rw [upd_same] at q
      rw [← q]; exact h2
    · rw [upd_ne ha] at q; cases q
  · by_cases ha : a = D0
    · subst ha; exact f1
    · rw [upd_ne ha] at q; exact absurd rfl q
  · obtain ⟨x, h3, h4⟩ := s.sh i v h1 h2
    exact ⟨x, h3, h4.mono e.ff⟩
  · obtain ⟨a, p, h4, h5, h6, h7, h8⟩ := s.ow i v h1 h3
    have ha : a ≠ D0 := fun z => by rw [z, hD] at h5; cases h5
    exact ⟨a, p, h4, e.hh _ _ h5, h6.mono e.ff, e.nw a h7 (by rw [h5]; exact fun z => nomatch z), upd_ne ha⟩
theorem SR.reD (s : SR K hp0 (upd hp0 D0 o) O F H σ ρ) (f1 : F D0 = none) : SR K hp0 (upd hp0 D0 o') O F (upd H D0 o') σ ρ := by
  have no : ∀ a, (upd hp0 D0 o) a = none → a ≠ D0 := fun a h z => by rw [z, upd_same] at h; cases h
  refine ⟨⟨fun a p q => (nomatch q), fun a p q => ?_, fun a _ q => ?_, fun a p q => ?_⟩, s.len, s.sh, fun i v h1 h3 => ?_, s.dj⟩
  · by_cases ha : a = D0
    · subst ha
      rw [upd_same] at q ⊢
      exact q
    · rw [upd_ne ha] at q; cases q
  · by_cases ha : a = D0
    · subst ha; exact f1
    · rw [upd_ne ha] at q; exact absurd rfl q
  · have ha : a ≠ D0 := fun z => by rw [z, f1] at q; cases q
    rw [upd_ne ha]
    exact s.e0.fh _ _ q
  · obtain ⟨a, p, h4, h5, h6, h7, h8⟩ := s.ow i v h1 h3
    have ha := no a h8
    exact ⟨a, p, h4, by rw [upd_ne ha]; exact h5, h6, h7, upd_ne ha⟩
end
def comp2D (g : DG) (c : DT) (vs1 : List Nat) (it1 : DA) (g1 : DG) (c1 : DT) (e : DE) : List D → Lo → Option (List D)
  | [], _ => some []
  | x :: xs, ρ => match g x ρ with
    | none => none
    | some ρ1 => match c ρ1 with
      | .ok true => match it1 ρ1 with
        | .ok ds1 => match compD g1 c1 e ds1 (wipeD ρ1 vs1) with
          | some ys => (comp2D g c vs1 it1 g1 c1 e xs ρ).map (ys ++ ·)
          | none => none
        | _ => none
      | .ok false => comp2D g c vs1 it1 g1 c1 e xs ρ
      | _ => none
def eComp2 (vs vs1 : List Nat) (g : DG) (it : DA) (c : DT) (g1 : DG) (it1 : DA) (c1 : DT) (e : DE) : DE := fun ρ => (it ρ).bind fun ds => (Res.up (comp2D g c vs1 it1 g1 c1 e ds (wipeD ρ vs))).bind fun ys => if ys.length ≤ sizeLine then .ok (.list ys) else .bad
section
variable {X : Cx} {W : WX} {O OL : List Nat} {k : Nat} {m : Mode} {tg iter tg1 iter1 elt : Expr} {ifs ifs1 : List Expr} {g g1 : DG} {it it1 : DA} {dc dc1 : DT} {de : DE} {pos : Pos} {scope : Scope} {own : List (Str × Nat)} {vs1 : List Nat}
theorem uni_i (h : ∀ s H C cl fp, IJ (blkOf X scope s H C cl fp) WF O false tg1 iter1 it1) : ∃ t, (∀ s H C cl fp, PI (blkOf X scope s H C cl fp) tg1 iter1 t) ∧ ∀ F0 H0 F H σ ρ R, SR X.K F0 H0 O F H σ ρ → IPost X WF false F H σ (it1 ρ) R → t σ H R := by
  refine ⟨fun σ H R => ∀ s H' C cl fp, Classical.choose (h s H' C cl fp) σ H R, fun s H C cl fp => ⟨fun pins s' σ H' R I hw => ?_⟩, fun F0 H0 F H σ ρ R s po s' H' C cl fp => ?_⟩
  · exact (Classical.choose_spec (h s H C cl fp)).1.run pins s' σ H' R I (hw s H C cl fp)
  · refine (Classical.choose_spec (h s' H' C cl fp)).2 F0 H0 F H σ ρ R s ?_
    cases e : it1 ρ with
    | ok b => rw [e] at po; exact po
    | exn c => rw [e] at po; exact po
    | bad => rw [e] at po; exact po
theorem gj_mono {X : Cx} {O ts ts' : List Nat} {tg : Expr} {g : DG} (h : GJ X O ts tg g) (hs : ∀ i ∈ ts, i ∈ ts') : GJ X O ts' tg g := by
  obtain ⟨t, p, q⟩ := h
  refine ⟨t, p, fun F0 H0 F H σ ρ x v Q s r po => q F0 H0 F H σ ρ x v Q s r ?_⟩
  cases e : g v ρ with
  | none => rw [e] at po; exact po
  | some ρ' =>
    rw [e] at po
    exact fun σ' s' hw => po σ' s' fun vs hv => hw vs fun i hi => hv i (hs i hi)
theorem uni_g1 {ts : List Nat} (h : ∀ s H C cl fp, GJ (blkOf X scope s H C cl fp) O ts tg1 g1) : ∃ t, (∀ s H C cl fp, PG (blkOf X scope s H C cl fp) tg1 t) ∧ ∀ F0 H0 F H σ ρ x v Q, SR X.K F0 H0 O F H σ ρ → Rp X.K F x v → (match g1 v ρ with
    | some ρ' => ∀ σ', SR X.K F0 H0 O F H σ' ρ' → (∀ vs : List Nat, (∀ i ∈ ts, i ∈ vs) → wipe σ' vs = wipe σ vs) → Q σ' H
    | none => False) → t x σ H Q := by
  refine ⟨fun x σ H Q => ∀ s H' C cl fp, Classical.choose (h s H' C cl fp) x σ H Q, fun s H C cl fp => ⟨fun pins s' σ H' v u Q I r hw => ?_⟩, fun F0 H0 F H σ ρ x v Q s r po s' H' C cl fp => ?_⟩
  · exact (Classical.choose_spec (h s H C cl fp)).1.run pins s' σ H' v u Q I r (hw s H C cl fp)
  · exact (Classical.choose_spec (h s' H' C cl fp)).2 F0 H0 F H σ ρ x v Q s r po
theorem comp2_core (hi : IJ X W O true tg iter it) {wi : TI} (q1 : ∀ F0 H0 F H σ ρ R, SR X.K F0 H0 O F H σ ρ → IPost X W true F H σ (it ρ) R → wi σ H R)
    {tgt : TG} (q2 : ∀ F0 H0 F H σ ρ x v Q, SR X.K F0 H0 O F H σ ρ → Rp X.K F x v → (match g v ρ with
    | some ρ' => ∀ σ', SR X.K F0 H0 O F H σ' ρ' → (∀ vs : List Nat, (∀ i ∈ own.map (·.2), i ∈ vs) → wipe σ' vs = wipe σ vs) → Q σ' H
    | none => False) → tgt x σ H Q) {tt : TT} (q3 : ∀ F0 H0 F H σ ρ Q, SR X.K F0 H0 O F H σ ρ → TPost X WF F H σ (dc ρ) Q → tt σ H Q)
    {wi1 : TI} (q5 : ∀ F0 H0 F H σ ρ R, SR X.K F0 H0 O F H σ ρ → IPost X WF false F H σ (it1 ρ) R → wi1 σ H R)
    {tgt1 : TG} (q6 : ∀ F0 H0 F H σ ρ x v Q, SR X.K F0 H0 O F H σ ρ → Rp X.K F x v → (match g1 v ρ with
    | some ρ' => ∀ σ', SR X.K F0 H0 O F H σ' ρ' → (∀ vs : List Nat, (∀ i ∈ vs1, i ∈ vs) → wipe σ' vs = wipe σ vs) → Q σ' H
    | none => False) → tgt1 x σ H Q) {tt1 : TT} (q7 : ∀ F0 H0 F H σ ρ Q, SR X.K F0 H0 O F H σ ρ → TPost X WF F H σ (dc1 ρ) Q → tt1 σ H Q)
    {te : TE} (q4 : ∀ F0 H0 F H σ ρ Q, SR X.K F0 H0 O F H σ ρ → EPost X WF .sh F H σ (de ρ) Q → te σ H Q) :
    ∀ F0 H0 F H σ ρ Q, SR X.K F0 H0 O F H σ ρ → EPost X W .fr F H σ (eComp2 (own.map (·.2)) vs1 g it dc g1 it1 dc1 de ρ) Q → tLc2 wi tgt tt wi1 tgt1 tt1 te (own.map (·.2)) vs1 σ H Q := by
  intro F0 H0 F H σ ρ Q s po
  refine q1 F0 H0 F H σ ρ _ s ?_
  unfold eComp2 at po
  cases hd : it ρ with
  | exn c => rw [hd] at po; exact po
  | bad => rw [hd] at po; exact po
  | ok ds =>
    rw [hd] at po
    intro F' H' J ext hlen ok
    intro Dl hDl
    have hlen := hlen rfl
    have po : EPost X W .fr F H σ ((Res.up (comp2D g dc vs1 it1 g1 dc1 de ds (wipeD ρ (own.map (·.2))))).bind fun ys => if ys.length ≤ sizeLine then .ok (.list ys) else .bad) Q := po
    cases hys : comp2D g dc vs1 it1 g1 dc1 de ds (wipeD ρ (own.map (·.2))) with
    | none => rw [hys] at po; exact po.elim
    | some ys =>
      rw [hys] at po
      have po : EPost X W .fr F H σ (if ys.length ≤ sizeLine then .ok (.list ys) else .bad) Q := po
      by_cases hyl : ys.length ≤ sizeLine
      · rw [if_pos hyl] at po
        have s' := s.ext ext
        refine ⟨fun i n H2 => n = ds.length - i ∧ i ≤ ds.length ∧ ∃ F1 acc ds1, Ext F' H' F1 H2 ∧ H2 Dl = some (.lst acc) ∧ F1 Dl = none ∧ RpA X.K F1 acc ds1 ∧ ∃ zs, comp2D g dc vs1 it1 g1 dc1 de (ds.drop i) (wipeD ρ (own.map (·.2))) = some zs ∧ ds1 ++ zs = ys,
          ⟨ds.length, by simp, Nat.zero_le _, F', [], [], .new ext.fh hDl, upd_same, free_of ext.fh hDl, .nil, ys, by simpa using hys, rfl⟩, ?_⟩
        rintro i n H2 ⟨rfl, hi', F1, acc, ds1, e1, hD, fD, racc, zs, hz, hzs⟩
        have sB : Same (if (true : Bool) = true then H' else F') H2 := e1.hh
        by_cases hlt : i < ds.length
        · refine .inr ⟨ok.go i H2 sB hlt, fun H3 => ∃ F1 acc ds1, Ext F' H' F1 H3 ∧ H3 Dl = some (.lst acc) ∧ F1 Dl = none ∧ RpA X.K F1 acc ds1 ∧ ∃ zs, comp2D g dc vs1 it1 g1 dc1 de (ds.drop (i + 1)) (wipeD ρ (own.map (·.2))) = some zs ∧ ds1 ++ zs = ys, fun H3 h => ⟨ds.length - (i + 1), by omega, rfl, hlt, h⟩, fun x H3 y => ?_⟩
          obtain ⟨F2, d, e2, hd2, rx⟩ := ok.yld i H2 x H3 F1 sB e1.ff e1.fh hlt y
          have hdr : ds.drop i = d :: ds.drop (i + 1) := by
            have h0 := List.drop_eq_getElem_cons hlt
            have h1 : ds[i] = d := by rw [List.getElem?_eq_getElem hlt] at hd2; exact Option.some.inj hd2
            rw [h0, h1]
          rw [hdr] at hz
          unfold comp2D at hz
          have s2 := (s'.single hDl e1 hD fD).ext e2
          have sw := s2.wipe (own.map (·.2))
          refine q2 _ _ F2 H3 _ _ x d _ sw rx ?_
          cases hg : g d (wipeD ρ (own.map (·.2))) with
          | none => rw [hg] at hz; cases hz
          | some ρ1 =>
            simp only [hg] at hz
            intro σ1 s1 w1
            refine ⟨(w1 _ fun i hi => hi).trans wipe_wipe, q3 _ _ F2 H3 σ1 ρ1 _ s1 ?_⟩
            cases hc : dc ρ1 with
            | exn c => simp only [hc] at hz; cases hz
            | bad => simp only [hc] at hz; cases hz
            | ok b =>
              intro F3 H4 e3
              have hD2 : H4 Dl = some (.lst acc) := e3.hh _ _ (e2.hh _ _ hD)
              have fD2 : F2 Dl = none := e2.nw _ fD (by rw [hD]; exact fun z => nomatch z)
              have fD3 : F3 Dl = none := e3.nw _ fD2 (by rw [e2.hh _ _ hD]; exact fun z => nomatch z)
              cases b with
              | false =>
                simp only [hc] at hz
                rw [if_neg Bool.false_ne_true]
                exact ⟨F3, acc, ds1, (e1.trans e2).trans e3, hD2, fD3, (racc.mono e2.ff).mono e3.ff, zs, hz, hzs⟩
              | true =>
                simp only [hc] at hz
                rw [if_pos rfl]
                have s3 := s1.ext e3
                refine q5 _ _ F3 H4 σ1 ρ1 _ s3 ?_
                cases hit : it1 ρ1 with
                | exn c => simp only [hit] at hz; cases hz
                | bad => simp only [hit] at hz; cases hz
                | ok es =>
                  simp only [hit] at hz
                  intro F4 H5 J1 e4 _ ok1
                  have ok1 : ItOk X.K F4 F4 J1 es := ok1
                  cases hin : compD g1 dc1 de es (wipeD ρ1 vs1) with
                  | none => simp only [hin] at hz; cases hz
                  | some us =>
                    simp only [hin] at hz
                    cases hr : comp2D g dc vs1 it1 g1 dc1 de (ds.drop (i + 1)) (wipeD ρ (own.map (·.2))) with
                    | none => rw [hr] at hz; cases hz
                    | some rest =>
                      rw [hr] at hz
                      cases hz
                      have hD3 : H5 Dl = some (.lst acc) := e4.hh _ _ hD2
                      have fD4 : F4 Dl = none := e4.nw _ fD3 (by rw [hD2]; exact fun z => nomatch z)
                      refine ⟨fun j n H6 => n = es.length - j ∧ j ≤ es.length ∧ ∃ F5 acc dsA, Ext F' H' F5 H6 ∧ Same F4 F5 ∧ H6 Dl = some (.lst acc) ∧ F5 Dl = none ∧ RpA X.K F5 acc dsA ∧ SR X.K hp0 (upd hp0 Dl (.lst acc)) O F5 H6 σ1 ρ1 ∧ ∃ zs1, compD g1 dc1 de (es.drop j) (wipeD ρ1 vs1) = some zs1 ∧ dsA ++ (zs1 ++ rest) = ys,
                        ⟨es.length, by simp, Nat.zero_le _, F4, acc, ds1, ((e1.trans e2).trans e3).trans e4, .refl _, hD3, fD4, ((racc.mono e2.ff).mono e3.ff).mono e4.ff, s3.ext e4, us, by simpa using hin, by simpa using hzs⟩, ?_⟩
                      rintro j n H6 ⟨rfl, hj', F5, acc5, dsA, e5, sf, hD5, fD5, racc5, s5, zs1, hz1, hzs1⟩
                      have sB1 : Same F4 H6 := sf.trans e5.fh
                      by_cases hjl : j < es.length
                      · refine .inr ⟨ok1.go j H6 sB1 hjl, fun H7 => ∃ F5 acc dsA, Ext F' H' F5 H7 ∧ Same F4 F5 ∧ H7 Dl = some (.lst acc) ∧ F5 Dl = none ∧ RpA X.K F5 acc dsA ∧ SR X.K hp0 (upd hp0 Dl (.lst acc)) O F5 H7 σ1 ρ1 ∧ ∃ zs1, compD g1 dc1 de (es.drop (j + 1)) (wipeD ρ1 vs1) = some zs1 ∧ dsA ++ (zs1 ++ rest) = ys, fun H7 h => ⟨es.length - (j + 1), by omega, rfl, hjl, h⟩, fun x1 H7 y1 => ?_⟩
                        obtain ⟨F6, d1, e6, hd6, rx1⟩ := ok1.yld j H6 x1 H7 F5 sB1 sf e5.fh hjl y1
                        have hdr1 : es.drop j = d1 :: es.drop (j + 1) := by
                          have h0 := List.drop_eq_getElem_cons hjl
                          have h1 : es[j] = d1 := by rw [List.getElem?_eq_getElem hjl] at hd6; exact Option.some.inj hd6
                          rw [h0, h1]
                        rw [hdr1] at hz1
                        unfold compD at hz1
                        have s6 := s5.ext e6
                        refine q6 _ _ F6 H7 _ _ x1 d1 _ (s6.wipe vs1) rx1 ?_
                        cases hg1 : g1 d1 (wipeD ρ1 vs1) with
                        | none => rw [hg1] at hz1; cases hz1
                        | some ρ2 =>
                          simp only [hg1] at hz1
                          intro σ2 sr2 w2
                          refine ⟨(w2 _ fun i hi => hi).trans wipe_wipe, q7 _ _ F6 H7 σ2 ρ2 _ sr2 ?_⟩
                          cases hc1 : dc1 ρ2 with
                          | exn c => simp only [hc1] at hz1; cases hz1
                          | bad => simp only [hc1] at hz1; cases hz1
                          | ok b1 =>
                            intro F7 H8 e7
                            have hD6 : H7 Dl = some (.lst acc5) := e6.hh _ _ hD5
                            have hD7 : H8 Dl = some (.lst acc5) := e7.hh _ _ hD6
                            have fD6 : F6 Dl = none := e6.nw _ fD5 (by rw [hD5]; exact fun z => nomatch z)
                            have fD7 : F7 Dl = none := e7.nw _ fD6 (by rw [hD6]; exact fun z => nomatch z)
                            cases b1 with
                            | false =>
                              simp only [hc1] at hz1
                              rw [if_neg Bool.false_ne_true]
                              exact ⟨F7, acc5, dsA, (e5.trans e6).trans e7, (sf.trans e6.ff).trans e7.ff, hD7, fD7, (racc5.mono e6.ff).mono e7.ff, s6.ext e7, zs1, hz1, hzs1⟩
                            | true =>
                              simp only [hc1] at hz1
                              rw [if_pos rfl]
                              refine q4 _ _ F7 H8 σ2 ρ2 _ (sr2.ext e7) ?_
                              cases he : de ρ2 with
                              | exn c => simp only [he] at hz1; cases hz1
                              | bad => simp only [he] at hz1; cases hz1
                              | ok yv =>
                                simp only [he] at hz1
                                intro F8 H9 yv' e8 ry
                                have hD8 : H9 Dl = some (.lst acc5) := e8.hh _ _ hD7
                                have fD8 : F8 Dl = none := e8.nw _ fD7 (by rw [hD7]; exact fun z => nomatch z)
                                cases hr1 : compD g1 dc1 de (es.drop (j + 1)) (wipeD ρ1 vs1) with
                                | none => rw [hr1] at hz1; cases hz1
                                | some zs2 =>
                                  rw [hr1] at hz1
                                  cases hz1
                                  have hal : acc5.length < sizeLine := by
                                    have h1 := racc5.length
                                    have h2 := congrArg List.length hzs1
                                    simp only [List.length_append, List.length_cons] at h2
                                    omega
                                  refine ⟨acc5, hD8, hal, ?_⟩
                                  have et := ((e5.trans e6).trans e7).trans e8
                                  refine ⟨F8, acc5 ++ [yv'], dsA ++ [yv], ⟨et.ff, fun b o q => ?_, et.nw, fun b o q => ?_⟩, ((sf.trans e6.ff).trans e7.ff).trans e8.ff, upd_same, fD8, (((racc5.mono e6.ff).mono e7.ff).mono e8.ff).append (.cons ry .nil), ((s6.ext e7).ext e8).reD fD8, zs2, rfl, ?_⟩
                                  · rw [upd_ne (ne_of_none q hDl)]; exact et.hh _ _ q
                                  · rw [upd_ne (ne_of_none q fD8)]; exact et.fh _ _ q
                                  · rw [← hzs1]; simp
                      · have e : j = es.length := by omega
                        subst e
                        rw [List.drop_length] at hz1
                        cases hz1
                        exact .inl ⟨ok1.stop H6 sB1, F5, acc5, dsA, e5, hD5, fD5, racc5, rest, rfl, hzs1⟩
        · have e : i = ds.length := by omega
          subst e
          rw [List.drop_length] at hz
          cases hz
          rw [List.append_nil] at hzs
          subst hzs
          refine .inl ⟨ok.stop H2 sB, ?_⟩
          have hDH : H Dl = none := free_of ext.hh hDl
          exact po F1 H2 _ (ext.trans e1) (.inr ⟨Dl, _, rfl, hD, .lst (by rw [racc.length]; exact hyl) racc, fD, hDH⟩)
      · rw [if_neg hyl] at po
        exact po.elim
theorem ej_comp2 (hh : Here X W k) (hi : IJ X W O true tg iter it) (ok : BlkOk X.N X.env.scope scope own) (hv : ∀ i ∈ vs1, i ∈ own.map (·.2)) (hg' : ∀ s H C cl fp, Here (blkOf X scope s H C cl fp) WF k → GJ (blkOf X scope s H C cl fp) O (own.map (·.2)) tg g)
    (ht' : ∀ s H C cl fp, Here (blkOf X scope s H C cl fp) WF k → TsJ (blkOf X scope s H C cl fp) WF O ifs dc)
    (hi1' : ∀ s H C cl fp, Here (blkOf X scope s H C cl fp) WF k → IJ (blkOf X scope s H C cl fp) WF O false tg1 iter1 it1)
    (hg1' : ∀ s H C cl fp, Here (blkOf X scope s H C cl fp) WF k → GJ (blkOf X scope s H C cl fp) O vs1 tg1 g1)
    (ht1' : ∀ s H C cl fp, Here (blkOf X scope s H C cl fp) WF k → TsJ (blkOf X scope s H C cl fp) WF O ifs1 dc1)
    (he' : ∀ s H C cl fp, Here (blkOf X scope s H C cl fp) WF k → EJ (blkOf X scope s H C cl fp) WF O .sh elt de) (hs : ∀ x, foldedSetIterable iter X.env x = pure x) (hs1 : ∀ env x, foldedSetIterable iter1 env x = pure x) :
    EJ X W O .fr (.ListComp elt [⟨tg, iter, ifs, 0⟩, ⟨tg1, iter1, ifs1, 0⟩] scope pos) (eComp2 (own.map (·.2)) vs1 g it dc g1 it1 dc1 de) := by
  have hg := fun s H C cl fp => hg' s H C cl fp (here_blk hh s H _ _ fp)
  have ht := fun s H C cl fp => ht' s H C cl fp (here_blk hh s H _ _ fp)
  have hi1 := fun s H C cl fp => hi1' s H C cl fp (here_blk hh s H _ _ fp)
  have hg1 := fun s H C cl fp => hg1' s H C cl fp (here_blk hh s H _ _ fp)
  have ht1 := fun s H C cl fp => ht1' s H C cl fp (here_blk hh s H _ _ fp)
  have he := fun s H C cl fp => he' s H C cl fp (here_blk hh s H _ _ fp)
  obtain ⟨wi, p1, q1⟩ := id hi
  obtain ⟨tgt, p2, q2⟩ := uni_g hg
  obtain ⟨tt, p3, q3⟩ := uni_t ht
  obtain ⟨wi1, p5, q5⟩ := uni_i hi1
  obtain ⟨tgt1, p6, q6⟩ := uni_g1 hg1
  obtain ⟨tt1, p7, q7⟩ := uni_t ht1
  obtain ⟨te, p4, q4⟩ := uni_e he
  exact ⟨_, pe_lc2 hh.calm hh.nd p1 ok hv p2 p3 p5 p6 p7 p4 hs hs1, comp2_core hi q1 q2 q3 q5 q6 q7 q4⟩
theorem sj_setComp2 {i : Nat} {y : Str} {py spos : Pos} (hO : i ∉ O) (hh : Here X W k) (hi : IJ X W O true tg iter it) (ok : BlkOk X.N X.env.scope scope own) (hv : ∀ i ∈ vs1, i ∈ own.map (·.2)) (hg' : ∀ s H C cl fp, Here (blkOf X scope s H C cl fp) WF k → GJ (blkOf X scope s H C cl fp) O (own.map (·.2)) tg g)
    (ht' : ∀ s H C cl fp, Here (blkOf X scope s H C cl fp) WF k → TsJ (blkOf X scope s H C cl fp) WF O ifs dc)
    (hi1' : ∀ s H C cl fp, Here (blkOf X scope s H C cl fp) WF k → IJ (blkOf X scope s H C cl fp) WF O false tg1 iter1 it1)
    (hg1' : ∀ s H C cl fp, Here (blkOf X scope s H C cl fp) WF k → GJ (blkOf X scope s H C cl fp) O vs1 tg1 g1)
    (ht1' : ∀ s H C cl fp, Here (blkOf X scope s H C cl fp) WF k → TsJ (blkOf X scope s H C cl fp) WF O ifs1 dc1)
    (he' : ∀ s H C cl fp, Here (blkOf X scope s H C cl fp) WF k → EJ (blkOf X scope s H C cl fp) WF O .sh elt de) (hs : ∀ x, foldedSetIterable iter X.env x = pure x) (hs1 : ∀ env x, foldedSetIterable iter1 env x = pure x)
    (hy : X.N[i]? = some y) (hyl : X.env.scope.names.lookup y = some .local) (hsw : swapsWith (.ListComp elt [⟨tg, iter, ifs, 0⟩, ⟨tg1, iter1, ifs1, 0⟩] scope pos) (some (.Name y py)) spos.line X.env = pure true) :
    SJ X W m O O OL (.Assign [.Name y py] (.ListComp elt [⟨tg, iter, ifs, 0⟩, ⟨tg1, iter1, ifs1, 0⟩] scope pos) spos) (sSet i (eComp2 (own.map (·.2)) vs1 g it dc g1 it1 dc1 de)) := by
  have hg := fun s H C cl fp => hg' s H C cl fp (here_blk hh s H _ _ fp)
  have ht := fun s H C cl fp => ht' s H C cl fp (here_blk hh s H _ _ fp)
  have hi1 := fun s H C cl fp => hi1' s H C cl fp (here_blk hh s H _ _ fp)
  have hg1 := fun s H C cl fp => hg1' s H C cl fp (here_blk hh s H _ _ fp)
  have ht1 := fun s H C cl fp => ht1' s H C cl fp (here_blk hh s H _ _ fp)
  have he := fun s H C cl fp => he' s H C cl fp (here_blk hh s H _ _ fp)
  obtain ⟨wi, p1, q1⟩ := id hi
  obtain ⟨tgt, p2, q2⟩ := uni_g hg
  obtain ⟨tt, p3, q3⟩ := uni_t ht
  obtain ⟨wi1, p5, q5⟩ := uni_i hi1
  obtain ⟨tgt1, p6, q6⟩ := uni_g1 hg1
  obtain ⟨tt1, p7, q7⟩ := uni_t ht1
  obtain ⟨te, p4, q4⟩ := uni_e he
  refine ⟨_, ps_setLc2 hh.calm hh.nd hy hyl hsw p1 ok hv p2 p3 p5 p6 p7 p4 hs hs1, fun F0 H0 F H σ ρ Dn s po => comp2_core hi q1 q2 q3 q5 q6 q7 q4 F0 H0 F H σ ρ _ s ?_⟩
  unfold sSet sOf at po
  cases e : eComp2 (own.map (·.2)) vs1 g it dc g1 it1 dc1 de ρ with
  | ok v =>
    rw [e] at po
    intro F' H' x ex rm
    obtain ⟨F2, e2, r2⟩ := RM.share ex rm
    exact po F2 H' _ e2.ff ((s.ext e2).setS hO r2)
  | exn c => rw [e] at po; exact exn_of s po
  | bad => rw [e] at po; exact po
end
section
variable {K : Fg} {F0 H0 F H : Hp} {O : List Nat} {σ : L2.St} {ρ : Lo}
/-- an owned slot is given a shared value -/
theorem SR.setT {i : Nat} {x : V} {v : D} (s : SR K F0 H0 O F H σ ρ) (h : Rp K F x v) : SR K F0 H0 (O.filter fun j => j != i) F H (σ.set i (some x)) (ρ.set i (some v)) := by
  have ne : ∀ {j}, j ∈ (O.filter fun j => j != i) → j ≠ i ∧ j ∈ O := fun {j} hj => by
    have := List.mem_filter.1 hj
    exact ⟨by simpa using this.2, this.1⟩
  refine ⟨s.e0, by simp [s.len], fun j w h1 h2 => ?_, fun j w h1 h2 => ?_, fun j k w w' b h1 h2 h3 h4 h5 h6 h7 => ?_⟩
  · by_cases hj : j = i
    · subst hj
      have hl : j < ρ.length := by have := (List.getElem?_eq_some_iff.mp h2).1; simpa using this
      rw [List.getElem?_set_self hl] at h2; cases h2
      exact ⟨x, by rw [List.getElem?_set_self (by rw [s.len]; exact hl)], h⟩
    · rw [List.getElem?_set_ne (Ne.symm hj)] at h2 ⊢
      exact s.sh j w (fun z => h1 (List.mem_filter.2 ⟨z, by simpa using hj⟩)) h2
  · obtain ⟨hj, h1⟩ := ne h1
    rw [List.getElem?_set_ne (Ne.symm hj)] at h2 ⊢
    exact s.ow j w h1 h2
  · obtain ⟨hj, h1⟩ := ne h1
    obtain ⟨hk, h2⟩ := ne h2
    rw [List.getElem?_set_ne (Ne.symm hj)] at h4 h6
    rw [List.getElem?_set_ne (Ne.symm hk)] at h5 h7
    exact s.dj j k w w' b h1 h2 h3 h4 h5 h6 h7
end
section
variable {X : Cx} {W : WX} {O O' OL : List Nat} {m : Mode} {e : Expr} {st : Stmt} {de : DE}
theorem sj_setT {i : Nat} (hO : (O.filter fun j => j != i) = O') (he : EJ X W O .sh e de) (h : ∀ t, PE X e t → PS X st (tAsg t (gName i))) : SJ X W m O O' OL st (sSet i de) := by
  subst hO
  obtain ⟨t, p, q⟩ := he
  refine ⟨_, h t p, fun F0 H0 F H σ ρ Dn s po => q F0 H0 F H σ ρ _ s (sOf_post (m1 := .sh) s po fun v F' H' x s' ex rm po' => ?_)⟩
  exact po' F' H' _ (.refl _) (s'.setT rm)
end
end PL

end
section
namespace PL
open PySem PySem.Spec PyProof.Rows L2
/-- a set as it is made -/
abbrev nset (w : World) : Obj := { cls := .type "set", dict := none, data := .set #[] 0 (.fresh 0 0 (!w.params.followText "set-order")) }
section
variable {P : Program} {w : World} {A : Around} {E : Value → Shared → Prop} {s : Shared}
theorem setList_ints {l : Addr} {vs : Array Value} (ns : List Int) {Q : Value → Shared → Prop} (hh : A.handled = none) (hl : s.heap.IsList l vs) (hi : IntsAre vs.toList ns) (hb : ns.length + 1 < scanBound)
    (h : ∀ (h2 : Heap) (tk m : Nat), SetR w h2 s.heap.objs.size (fun j => decide (j ∈ ns)) m → m ≤ ns.length → (∀ b o, s.heap.get? b = some o → h2.get? b = some o) → Q (.ref s.heap.objs.size) { s with heap := h2, toks := tk }) :
    wpAny (model P w) A (call (.type "set") [.ref l]) Q E s := by
  have sz : vs.size = ns.length := by rw [← Array.length_toList]; exact IntsAre.length hi
  have g0 : (s.heap.push (nset w)).get? s.heap.objs.size = some (nset w) := Heap.get?_push_size _ rfl
  have ls : l < s.heap.objs.size := by obtain ⟨ol, e, _⟩ := hl; exact Heap.lt_size e
  have z1 : (s.heap.push (nset w)).objs.size = s.heap.objs.size + 1 := Heap.size_push ..
  have l1 : (s.heap.push (nset w)).IsList l vs := hl.push _
  have fl : s.heap.objs.size ∉ [(s.heap.push (nset w)).objs.size, l] := by
    rw [z1]; intro hm; simp only [List.mem_cons, List.not_mem_nil, or_false] at hm
    rcases hm with q | q
    · exact absurd q (Nat.ne_of_lt (Nat.lt_succ_self _))
    · exact absurd q (Nat.ne_of_gt ls)
  have at_ : ∀ (i : Nat) (v : Value), vs[i]? = some v → ∃ k t, ns[i]? = some k ∧ v = .int k t := fun i v hv => by
    have hn : i < ns.length := by rw [← sz]; exact (Array.getElem?_eq_some_iff.mp hv).1
    obtain ⟨t, e⟩ := IntsAre.int_at hi i v (by rw [Array.getElem?_toList]; exact hv)
    exact ⟨ns[i], t, List.getElem?_eq_getElem hn, by rw [e, List.getD_eq_getElem?_getD, List.getElem?_eq_getElem hn]; rfl⟩
  obtain ⟨mc, mt, mro⟩ := PySem.F.called_set.mro
  have made := PySem.F.called_set.made; have msub := PySem.F.called_set.sub
  refine wpAny_call (codeAny_of_tree (?_ : wpAny _ _ (callAny (.type "set") _) _ _ _))
  refine wpAny_pure ⟨Code.quiet_builtin _ (by decide +kernel), codeAny_builtin PySem.F.entry_type_call (by
    rw [Around.under_plain (weight_type_call_type "set" [.ref l] []) rfl]
    have n1 := PySem.F.called_set.notType; have n2 := PySem.F.called_set.canCreate; have n3 := PySem.F.typeCall_set_1 (.ref l)
    repeat (any_goals (first | assumption | wp_step))
    refine codeAny_mono (code_set_led1 (.ref l) (E := E) (Q₁ := fun x s1 => x = .ref s.heap.objs.size ∧ s1 = { s with heap := s.heap.push (nset w) }) ⟨rfl, rfl⟩) fun r s1 hr => ?_
    match r, hr with
    | .error e, hr => exact hr
    | .ok (.ret x), hr =>
      obtain ⟨rfl, rfl⟩ := hr
      have ty : Shared.TypeIs { s with heap := s.heap.push (nset w) } (.ref s.heap.objs.size) "set" := ⟨_, g0, rfl⟩
      have i1 := PySem.F.called_set.init.lookup; have i2 := PySem.F.called_set.init.bind (.ref s.heap.objs.size)
      repeat (any_goals (first | assumption | wp_step))
      refine codeAny_mono (codeAny_call_builtin (R := wants (fun r s2 => r = .none ∧ ∃ h2 tk m, s2 = { s with heap := h2, toks := tk } ∧ SetR w h2 s.heap.objs.size (fun j => decide (j ∈ ns)) m ∧ m ≤ ns.length ∧ (∀ b o, s.heap.get? b = some o → h2.get? b = some o)) E) PySem.F.called_set.init.plain PySem.F.entry_set_init (check_set_init_1 ty (by
        obtain ⟨ol, o1, o2, nl, o3⟩ := hl
        obtain ⟨ocls, odict, odata, oslots⟩ := ol
        simp only at o2 o3
        subst o2 o3
        have o4 : (s.heap.push (nset w)).get? l = some ⟨.type "list", odict, .seq vs nl, oslots⟩ := Heap.get?_push_of_some _ o1
        have b1 := PySem.F.sub_list_set; have b2 := PySem.F.sub_list_frozenset
        have b3 : (Value.type "list" == Value.type "dict") = false := by decide
        unfold Builtin.«set.__init__» noKeywords Builtin.Frozenset.updateFrom
        generalize hPI : pyIter = PI; wp_walk; subst hPI
        refine wpAny_pyIter_list l1 (wpAny_bind (wpAny_runValue ?_))
        have h3 : A.in1.in1.in1.handled = none := by simp [hh]
        have ne : l ≠ (s.heap.push (nset w)).objs.size := by rw [z1]; exact Nat.ne_of_lt (Nat.lt_succ_of_lt ls)
        refine set_update_ints ((Walks.list h3 _ l ne vs).toS) s.heap.objs.size fl ns sz hb at_ (vs.size - 0) 0 _ (by omega) (Nat.zero_le _) ⟨⟨_, Heap.get?_push_size _ rfl, rfl, rfl⟩, (l1.push _)⟩ ⟨0, Nat.le_refl 0, setR_new_at (Heap.get?_push_of_some _ g0)⟩ fun s3 m hm hc hS => ?_
        obtain ⟨h3, g3, d3, t3, os3⟩ := s3
        have e1 : g3 = s.gens := hm.gens
        have e2 : d3 = s.drawn := hm.drawn
        have e3 : os3 = s.os := hm.os
        subst e1 e2 e3
        show wpAny _ A.in1.in1 (pure ()) _ _ _; refine wpAny_pure ?_; show wpAny _ A.in1.in1 (ret Value.none) _ _ _
        rw [sz] at hc
        refine wpAny_pure ⟨rfl, h3, t3, m, rfl, hS, hc, fun b o e => hm.heap b o (fun hmem => ?_) (Heap.get?_push_of_some _ (Heap.get?_push_of_some _ e))⟩
        have hb0 := Heap.lt_size e
        simp only [List.mem_cons, List.not_mem_nil, or_false] at hmem
        rcases hmem with q | q
        · exact absurd q (Nat.ne_of_lt hb0)
        · rw [q, z1] at hb0; exact absurd hb0 (by simp)))) fun r2 s2 hr2 => ?_
      match r2, hr2 with
      | .error e, hr2 => exact hr2
      | .ok (.ret x), hr2 =>
        obtain ⟨rfl, h2, tk, m, rfl, q1, q2, q3⟩ := hr2
        repeat (any_goals (first | assumption | wp_step))
        exact h _ _ _ q1 q2 q3)⟩
end
def insU (x : Int) : List Int → List Int
  | [] => [x]
  | y :: r => if x < y then x :: y :: r else if x = y then y :: r else y :: insU x r
def sortU (l : List Int) : List Int := l.foldr insU []
theorem insU_mem {x k : Int} : ∀ {l : List Int}, k ∈ insU x l ↔ k = x ∨ k ∈ l
  | [] => by simp [insU]
  | y :: r => by
    unfold insU
    by_cases h : x < y
    · rw [if_pos h]; simp
    · rw [if_neg h]
      by_cases h2 : x = y
      · rw [if_pos h2]; subst h2; simp
      · rw [if_neg h2, List.mem_cons, insU_mem, List.mem_cons]
        constructor
        · rintro (h | h | h)
          · exact .inr (.inl h)
          · exact .inl h
          · exact .inr (.inr h)
        · rintro (h | h | h)
          · exact .inr (.inl h)
          · exact .inl h
          · exact .inr (.inr h)
theorem insU_lt {x : Int} : ∀ {l : List Int}, l.Pairwise (· < ·) → (insU x l).Pairwise (· < ·)
  | [], _ => by simp [insU]
  | y :: r, h => by
    obtain ⟨h1, h2⟩ := List.pairwise_cons.1 h
    unfold insU
    by_cases hx : x < y
    · rw [if_pos hx]
      refine List.pairwise_cons.2 ⟨fun k hk => ?_, h⟩
      rcases List.mem_cons.1 hk with rfl | hk
      · exact hx
      · have := h1 k hk; omega
    · rw [if_neg hx]
      by_cases h3 : x = y
      · rw [if_pos h3]; exact h
      · rw [if_neg h3]
        refine List.pairwise_cons.2 ⟨fun k hk => ?_, insU_lt h2⟩
        rcases insU_mem.1 hk with rfl | hk
        · omega
        · exact h1 k hk
theorem sortU_mem {k : Int} : ∀ {l : List Int}, k ∈ sortU l ↔ k ∈ l
  | [] => by simp [sortU]
  | x :: l => by
    have ih := sortU_mem (k := k) (l := l)
    unfold sortU at ih ⊢
    rw [List.foldr_cons, insU_mem, ih, List.mem_cons]
theorem sortU_lt : ∀ {l : List Int}, (sortU l).Pairwise (· < ·)
  | [] => List.Pairwise.nil
  | x :: l => insU_lt (l := l.foldr insU []) (sortU_lt (l := l))
theorem lt_nodup {l : List Int} (h : l.Pairwise (· < ·)) : l.Nodup := h.imp fun h e => by rw [e] at h; exact absurd h (Int.lt_irrefl _)
theorem lt_unique : ∀ {a b : List Int}, a.Pairwise (· < ·) → b.Pairwise (· < ·) → (∀ k, k ∈ a ↔ k ∈ b) → a = b
  | [], [], _, _, _ => rfl
  | [], y :: b, _, _, h => absurd ((h y).2 (by simp)) (by simp)
  | x :: a, [], _, _, h => absurd ((h x).1 (by simp)) (by simp)
  | x :: a, y :: b, ha, hb, h => by
    obtain ⟨a1, a2⟩ := List.pairwise_cons.1 ha
    obtain ⟨b1, b2⟩ := List.pairwise_cons.1 hb
    have e : x = y := by
      have h1 := (h x).1 (by simp)
      have h2 := (h y).2 (by simp)
      rcases List.mem_cons.1 h1 with h1 | h1
      · exact h1
      · rcases List.mem_cons.1 h2 with h2 | h2
        · exact h2.symm
        · have := b1 x h1; have := a1 y h2; omega
    subst e
    rw [lt_unique a2 b2 fun k => ?_]
    constructor
    · intro hk
      rcases List.mem_cons.1 ((h k).1 (by simp [hk])) with rfl | q
      · exact absurd (a1 k hk) (Int.lt_irrefl _)
      · exact q
    · intro hk
      rcases List.mem_cons.1 ((h k).2 (by simp [hk])) with rfl | q
      · exact absurd (b1 k hk) (Int.lt_irrefl _)
      · exact q
section
variable {X : Cx}
/-- set(xs) of a list or a tuple of ints -/
def rSetI (K : Fg) (w : World) : List V → Hp → VK → Prop := fun vs H Q => ∃ (a : Addr) (ns : List Int), vs = [V.ref a] ∧ (SqL K H a (ns.map V.int) ∨ SqT K H a (ns.map V.int)) ∧ ns.length + 1 < scanBound ∧
  ∀ (p : Addr), H p = none → Q (.ref p) (upd H p (SetO w p (fun j => decide (j ∈ ns)) (sortU ns).length))
theorem setR_card {w : World} {h : Heap} {a : Addr} {ns : List Int} {m : Nat} (R : SetR w h a (fun j => decide (j ∈ ns)) m) : m = (sortU ns).length := by
  obtain ⟨o, es, ep, t, _, _, _, g, nd, hm, _, _, hn, _⟩ := R
  have pm : (es.toList.map keyOf).Perm (sortU ns) := (List.perm_ext_iff_of_nodup nd (lt_nodup sortU_lt)).2 fun k => by
    rw [← hm k, sortU_mem, decide_eq_true_eq]
  have := pm.length_eq
  rw [List.length_map, Array.length_toList] at this
  omega
theorem cr_setI (hc : X.calm = true) : CallR X (.type "set") (rSetI X.K X.w) := by
  intro pins s σ H vs us Q I r h
  obtain ⟨a, ns, rfl, hs, hb, q⟩ := h
  rw [Vals.ref1 r]
  have fin : ∀ (h2 : Heap) (tk m : Nat), SetR X.w h2 s.heap.objs.size (fun j => decide (j ∈ ns)) m → m ≤ ns.length → (∀ b o, s.heap.get? b = some o → h2.get? b = some o) → ∃ (x : V) (H' : Hp), Inv X pins σ H' { s with heap := h2, toks := tk } ∧ RelV x (.ref s.heap.objs.size) ∧ Q x H' := fun h2 tk m R _ k =>
    ⟨.ref _, upd H s.heap.objs.size (SetO X.w s.heap.objs.size (fun j => decide (j ∈ ns)) m), I.laid (t' := tk) k (Nat.le_refl _) (setO_new R), rfl, by
      rw [setR_card R]
      exact q _ (I.hok.fresh (Nat.le_refl _))⟩
  rcases hs with hs | hs
  · obtain ⟨its, rv, hl, _⟩ := I.list hs
    exact setList_ints ns (I.ok.hd hc) hl.isList (by simpa using rv.ints) hb fin
  · obtain ⟨its, rv, hl, _⟩ := I.tuple hs
    exact call_set_tupI ns (I.ok.hd hc) hl (by simpa using rv.ints) hb fin
end
def vSortSet : D → Option D
  | .list ds => (allInt ds).bind fun ns => if ns.length < 4000 ∧ (sortU ns).length < 64 then some (.list ((sortU ns).map .int)) else none
  | .tuple ds => (allInt ds).bind fun ns => if ns.length < 4000 ∧ (sortU ns).length < 64 then some (.list ((sortU ns).map .int)) else none
  | _ => none
section
variable {X : Cx} {W : WX} {O : List Nat} {k : Nat} {m : Mode} {F H Hs : Hp} {a : Expr} {da : DE} {pos pos2 p p2 : Pos}
theorem rpA_ints {K : Fg} {F : Hp} : ∀ ns : List Int, RpA K F (ns.map V.int) (ns.map PyData.int)
  | [] => .nil
  | n :: ns => .cons (.int n) (rpA_ints ns)
theorem sortSet_pass {Q : VK} {l : Addr} {ns : List Int} (s : Same F H) (h : SqL X.K H l (ns.map V.int) ∨ SqT X.K H l (ns.map V.int)) (hl : ns.length < 4000) (h64 : (sortU ns).length < 64)
    (po : ∀ F' H' x, Ext F H F' H' → RM .fr X.K F' H H' x (.list ((sortU ns).map .int)) → Q x H') : rSetI X.K X.w [.ref l] H fun y H2 => rSortedSet X.w [y] H2 Q := by
  refine ⟨l, ns, rfl, h, by unfold scanBound; omega, fun p hp => ?_⟩
  refine ⟨p, _, _, rfl, upd_same, h64, fun us q h1 h2 h3 hq => ?_⟩
  have e : us = sortU ns := lt_unique h1 sortU_lt fun k => by rw [h2 k, sortU_mem, decide_eq_true_eq]
  subst e
  have hq1 : H q = none := by
    by_cases hqp : q = p
    · rw [hqp]; exact hp
    · rw [upd_ne hqp] at hq; exact hq
  have e1 : Ext F H F (upd H p (SetO X.w p (fun j => decide (j ∈ ns)) (sortU ns).length)) := .new s hp
  have e2 := e1.trans (.new (o := .lst ((sortU ns).map V.int)) e1.fh hq)
  have hsl : ((sortU ns).map V.int).length ≤ sizeLine := by
    have : sizeLine = 16777216 := by decide
    rw [List.length_map]; omega
  exact po F _ _ e2 (.inr ⟨q, _, rfl, upd_same, .lst hsl (rpA_ints _), free_of s hq1, hq1⟩)
theorem ej_sortSet (hh : Here X W k) (hgs : Gl X "sorted") (hms : X.mg "sorted" = none) (hg : Gl X "set") (hm : X.mg "set" = none) (ns : NoSt a) (ha : EJ X W O .bo a da) :
    EJ X W O .fr (.Call (.Name "sorted" p) [.Call (.Name "set" p2) [a] [] pos2] [] pos) (eUn vSortSet da) := by
  refine ej_un (r := fun x H Q => rSetI X.K X.w [x] H fun y H2 => rSortedSet X.w [y] H2 Q) ha (fun t h1 => pe_callB (cr_sortedSet hh.calm) hgs hms (by decide +kernel) (pa_cons (pe_callTy (cr_setI hh.calm) hg hm (by decide +kernel) (pa_cons h1 pa_nil (ns _ _)) (by decide) (by decide) (ns _ _)) pa_nil)) fun F Hs H x v Q s r1 po => ?_
  unfold vSortSet at po
  split at po
  · rename_i ds
    cases e : allInt ds with
    | none => rw [e] at po; exact po.elim
    | some bs =>
      rw [e] at po
      have po : VPost X.K .fr F H (if bs.length < 4000 ∧ (sortU bs).length < 64 then some (.list ((sortU bs).map .int)) else none) Q := po
      by_cases hc : bs.length < 4000 ∧ (sortU bs).length < 64
      · rw [if_pos hc] at po
        rw [allInt_some e] at r1
        obtain ⟨l, xs, rfl, h1, h2, h3⟩ := bo_list s r1
        have ex := rpa_ints h3
        subst ex
        exact sortSet_pass s (.inl h1) hc.1 hc.2 po
      · rw [if_neg hc] at po; exact po.elim
  · rename_i ds
    cases e : allInt ds with
    | none => rw [e] at po; exact po.elim
    | some bs =>
      rw [e] at po
      have po : VPost X.K .fr F H (if bs.length < 4000 ∧ (sortU bs).length < 64 then some (.list ((sortU bs).map .int)) else none) Q := po
      by_cases hc : bs.length < 4000 ∧ (sortU bs).length < 64
      · rw [if_pos hc] at po
        rw [allInt_some e] at r1
        obtain ⟨l, xs, rfl, h1, _, h2, h3⟩ := bo_tup s r1
        have ex := rpa_ints h3
        subst ex
        exact sortSet_pass s (.inr h1) hc.1 hc.2 po
      · rw [if_neg hc] at po; exact po.elim
  · exact po.elim
end
def vRep : D → D → Option D
  | .list ds, .int k => if -4611686018427387904 ≤ k ∧ k < 4611686018427387904 ∧ ds.length * k.toNat ≤ sizeLine then some (.list (List.replicate k.toNat ds).flatten) else none
  | _, _ => none
theorem rpA_rep {K : Fg} {F : Hp} {xs : List V} {ds : List D} (r : RpA K F xs ds) : ∀ n : Nat, RpA K F (List.replicate n xs).flatten (List.replicate n ds).flatten
  | 0 => .nil
  | n + 1 => by
    rw [List.replicate_succ, List.replicate_succ, List.flatten_cons, List.flatten_cons]
    exact r.append (rpA_rep r n)
section
variable {X : Cx} {W : WX} {O : List Nat} {a b : Expr} {da db : DE} {pos : Pos}
theorem ej_rep (ha : EJ X W O .fr a da) (hb : EJ X W O .bo b db) : EJ X W O .fr (.BinOp a .Mult b pos) (eBin vRep da db) := by
  refine ej_bin ha hb (fun t u h1 h2 => pe_op op_rep h1 h2) fun F Hs Hs' H x v y w Q s r1 r2 po => ?_
  unfold vRep at po
  split at po
  · rename_i ds k
    cases bo_int r2
    split at po
    · rename_i hc
      obtain ⟨c1, c2, c3⟩ := hc
      rcases r1 with ⟨hn, _⟩ | ⟨l, o, rfl, h2, h3, h4, h5⟩
      · cases hn
      · cases h3 with
        | @lst xs _ hx rx =>
          have hlen : (List.replicate k.toNat xs).flatten.length ≤ sizeLine := by
            rw [List.length_flatten, List.map_replicate, List.sum_replicate_nat, rx.length, Nat.mul_comm]
            exact c3
          refine ⟨l, k, xs, rfl, rfl, h2, by omega, by omega, by rw [rx.length]; exact c3, fun p hp => ?_⟩
          exact po F _ _ (.new s hp) (.inr ⟨p, _, rfl, upd_same, .lst hlen (rpA_rep rx _), free_of s hp, hp⟩)
    · exact po.elim
  · exact po.elim
end
end PL

end
section
namespace PL
open PySem PySem.Spec PyProof.Rows L2
def keyOf : D → Option Key
  | .int i => some (.inl i)
  | .str z => some (.inr z)
  | _ => none
def keyIs (a b : D) : Bool := match keyOf a, keyOf b with
  | some x, some y => decide (x = y)
  | _, _ => false
def findP (ps : List (D × D)) (y : D) : Option D := (ps.find? fun p => keyIs p.1 y).map (·.2)
def putP (ps : List (D × D)) (y v : D) : List (D × D) := if (ps.any fun p => keyIs p.1 y) = true then ps.map (fun p => if keyIs p.1 y then (p.1, v) else p) else ps ++ [(y, v)]
section
variable {K : Fg} {F : Hp}
theorem key_rp {k : Key} {d : D} (h : Rp K F (kV k) d) : keyOf d = some k := by
  cases k with
  | inl i =>
    have h : Rp K F (.int i) d := h
    cases h
    rfl
  | inr z =>
    have h : Rp K F (.str z) d := h
    cases h
    rfl
theorem keyIs_rp {k k' : Key} {d d' : D} (h : Rp K F (kV k) d) (h' : Rp K F (kV k') d') : keyIs d d' = decide (k = k') := by
  unfold keyIs
  rw [key_rp h, key_rp h']
theorem find_rp {k : Key} {y : D} (hy : Rp K F (kV k) y) : ∀ {kvs : List (Key × V)} {ps : List (D × D)}, RpD K F kvs ps → (∀ v, findP ps y = some v → ∃ x, valV kvs k = some x ∧ Rp K F x v) ∧ (findP ps y = none → valV kvs k = none)
  | _, _, .nil => ⟨fun v h => (by cases h), fun _ => rfl⟩
  | _, _, .cons (k := k1) (v := v1) (kvs := kvs) (dk := dk) (dv := dv) (ps := ps) h1 h2 h3 => by
    obtain ⟨i1, i2⟩ := find_rp hy h3
    have e := keyIs_rp h1 hy
    unfold findP at i1 i2 ⊢
    rw [List.find?_cons]
    by_cases hk : k1 = k
    · rw [decide_eq_true hk] at e
      rw [e]
      rw [valV_pos (p := (k1, v1)) hk]
      refine ⟨fun v h => ?_, fun h => (by cases h)⟩
      cases h
      exact ⟨_, rfl, h2⟩
    · rw [decide_eq_false hk] at e
      rw [e, valV_neg (p := (k1, v1)) hk]
      exact ⟨i1, i2⟩
theorem RpD.map_put {k : Key} {y v : D} {x : V} (hy : Rp K F (kV k) y) (hv : Rp K F x v) : ∀ {kvs : List (Key × V)} {ps : List (D × D)}, RpD K F kvs ps → RpD K F (kvs.map (fun kv => if kv.1 = k then (kv.1, x) else kv)) (ps.map (fun p => if keyIs p.1 y then (p.1, v) else p)) ∧ (kvs.any fun kv => decide (kv.1 = k)) = (ps.any fun p => keyIs p.1 y)
  | _, _, .nil => ⟨.nil, rfl⟩
  | _, _, .cons (k := k1) (v := v1) (kvs := kvs) (dk := dk) (dv := dv) (ps := ps) h1 h2 h3 => by
    obtain ⟨i1, i2⟩ := RpD.map_put hy hv h3
    have e := keyIs_rp h1 hy
    rw [List.map_cons, List.map_cons, List.any_cons, List.any_cons, i2]
    dsimp only
    rw [e]
    refine ⟨?_, rfl⟩
    by_cases hk : k1 = k
    · rw [if_pos hk, if_pos (decide_eq_true hk)]
      exact .cons h1 hv i1
    · rw [if_neg hk, if_neg (by simp [hk])]
      exact .cons h1 h2 i1
theorem RpD.app {k : Key} {y v : D} {x : V} (hy : Rp K F (kV k) y) (hv : Rp K F x v) : ∀ {kvs : List (Key × V)} {ps : List (D × D)}, RpD K F kvs ps → RpD K F (kvs ++ [(k, x)]) (ps ++ [(y, v)])
  | _, _, .nil => .cons hy hv .nil
  | _, _, .cons h1 h2 h3 => .cons h1 h2 (RpD.app hy hv h3)
theorem RpD.put {k : Key} {y v : D} {x : V} {kvs : List (Key × V)} {ps : List (D × D)} (hy : Rp K F (kV k) y) (hv : Rp K F x v) (h : RpD K F kvs ps) : RpD K F (putK kvs k x) (putP ps y v) := by
  obtain ⟨h1, h2⟩ := h.map_put hy hv
  unfold putK putP
  rw [h2]
  split
  · exact h1
  · exact h.app hy hv
theorem RpD.len : ∀ {kvs : List (Key × V)} {ps : List (D × D)}, RpD K F kvs ps → kvs.length = ps.length
  | _, _, .nil => rfl
  | _, _, .cons _ _ h => by rw [List.length_cons, List.length_cons, h.len]
theorem putK_len {kvs : List (Key × V)} {k : Key} {x : V} : (putK kvs k x).length ≤ kvs.length + 1 := by
  unfold putK
  split
  · rw [List.length_map]; omega
  · rw [List.length_append]; exact Nat.le_refl _
/-- a text or an int, as a key -/
theorem key_of_rp {y : D} {x : V} {k : Key} (h : Rp K F x y) (hk : keyOf y = some k) : x = kV k ∧ Rp K F (kV k) y := by
  cases y with
  | int i => cases hk; cases h; exact ⟨rfl, .int i⟩
  | str z => cases hk; cases h; rename_i a b; exact ⟨rfl, .str z a b⟩
  | _ => cases hk
end
section
variable {X : Cx} {W : WX} {O OL : List Nat} {k : Nat} {m : Mode} {a b e : Expr} {da db : DE} {pos : Pos}
theorem ej_dict0 : EJ X W O .fr (.Dict [] [] pos) (eC (.dict [])) :=
  ⟨_, pe_dnewK, fun F0 H0 F H σ ρ Q s po p hp => po F _ _ (.new s.sub hp) (.inr ⟨p, _, rfl, upd_same, .dic (Nat.zero_le _) .nil, free_of s.sub hp, hp⟩)⟩
def rInDk : R2 := fun y x H Q => ∃ a o, x = .ref a ∧ DGet H a y o ∧ Q (.bl o.isSome) H
def rNinDk : R2 := fun y x H Q => ∃ a o, x = .ref a ∧ DGet H a y o ∧ Q (.bl (!o.isSome)) H
theorem op_inDk (hu : X.A.units + 1 < cLine) : OpR X (compareOp .In) rInDk := by
  intro pins s σ H y x u v Q I ry rx h
  obtain ⟨a, o, rfl, g, q⟩ := h
  cases rx
  exact d_in hu I g ry fun s3 I3 => ⟨.bl o.isSome, H, I3, rfl, q⟩
theorem op_ninDk (hu : X.A.units + 1 < cLine) : OpR X (compareOp .NotIn) rNinDk := by
  intro pins s σ H y x u v Q I ry rx h
  obtain ⟨a, o, rfl, g, q⟩ := h
  cases rx
  exact d_notIn hu I g ry fun s3 I3 => ⟨.bl (!o.isSome), H, I3, rfl, q⟩
def vInD (y d : D) : Option D := match d with
  | .dict ps => (keyOf y).map fun _ => .bool (findP ps y).isSome
  | _ => none
def vNinD (y d : D) : Option D := match d with
  | .dict ps => (keyOf y).map fun _ => .bool (!(findP ps y).isSome)
  | _ => none
theorem find_some {K : Fg} {F : Hp} {kvs : List (Key × V)} {ps : List (D × D)} {y : D} {k : Key} (hy : Rp K F (kV k) y) (r : RpD K F kvs ps) : (valV kvs k).isSome = (findP ps y).isSome := by
  obtain ⟨h1, h2⟩ := find_rp hy r
  cases e : findP ps y with
  | none => rw [h2 e]; rfl
  | some v =>
    obtain ⟨x, h3, _⟩ := h1 v e
    rw [h3]; rfl
theorem bo_key {F Hs H : Hp} {x : V} {y : D} {kk : Key} (h : RM .bo X.K F Hs H x y) (hk : keyOf y = some kk) (s : Same F H) : x = kV kk ∧ Rp X.K F (kV kk) y := by
  cases y with
  | int i => cases hk; cases bo_int h; exact ⟨rfl, .int i⟩
  | str z => cases hk; obtain ⟨rfl, h1, h2⟩ := bo_str h; exact ⟨rfl, .str z h1 h2⟩
  | _ => cases hk
theorem inD_ok (hh : Here X W k) (hm : behindInMarks .In b = false) : CmpOk X .In b vInD := by
  refine ⟨hm, _, op_inDk hh.u1, fun F Hs Hs' H x v y w Q s r1 r2 po => ?_⟩
  unfold vInD at po
  split at po
  · rename_i ps
    cases hk : keyOf v with
    | none => rw [hk] at po; exact po.elim
    | some kk =>
      rw [hk] at po
      obtain ⟨a, kvs, rfl, h1, h2, h3⟩ := bo_dict s r2
      obtain ⟨rfl, ry⟩ := bo_key r1 hk s
      refine ⟨a, _, rfl, DGet.k h1, ?_⟩
      rw [find_some ry h3]
      exact po F H _ (.refl s) (.bl _)
  · exact po.elim
theorem ninD_ok (hh : Here X W k) (hm : behindInMarks .NotIn b = false) : CmpOk X .NotIn b vNinD := by
  refine ⟨hm, _, op_ninDk hh.u1, fun F Hs Hs' H x v y w Q s r1 r2 po => ?_⟩
  unfold vNinD at po
  split at po
  · rename_i ps
    cases hk : keyOf v with
    | none => rw [hk] at po; exact po.elim
    | some kk =>
      rw [hk] at po
      obtain ⟨a, kvs, rfl, h1, h2, h3⟩ := bo_dict s r2
      obtain ⟨rfl, ry⟩ := bo_key r1 hk s
      refine ⟨a, _, rfl, DGet.k h1, ?_⟩
      rw [find_some ry h3]
      exact po F H _ (.refl s) (.bl _)
  · exact po.elim
/-- d[y], there -/
def vGetD (d y : D) : Option D := match d with
  | .dict ps => findP ps y
  | _ => none
theorem ej_getD (hh : Here X W k) (hs : NoSl b) (ha : EJ X W O .bo a da) (hb : EJ X W O .bo b db) : EJ X W O .sh (.Subscript a b pos) (eBin vGetD da db) := by
  refine ej_bin (r := fun x y H Q => ∃ p v, x = .ref p ∧ DGet H p y (some v) ∧ Q v H) ha hb (fun t u h1 h2 => pe_dget hh.u1 h1 h2 hs) fun F Hs Hs' H x v y w Q s r1 r2 po => ?_
  unfold vGetD at po
  split at po
  · rename_i ps
    cases hk : keyOf w with
    | none =>
      have : findP ps w = none := by
        unfold findP
        have : (ps.find? fun p => keyIs p.1 w) = none := List.find?_eq_none.2 fun p _ => by
          unfold keyIs
          rw [hk]
          cases keyOf p.1 <;> simp
        rw [this]; rfl
      rw [this] at po
      exact po.elim
    | some kk =>
      obtain ⟨p, kvs, rfl, h1, h2, h3⟩ := bo_dict s r1
      obtain ⟨rfl, ry⟩ := bo_key r2 hk s
      cases e : findP ps w with
      | none => rw [e] at po; exact po.elim
      | some v =>
        rw [e] at po
        obtain ⟨xv, g1, g2⟩ := (find_rp ry h3).1 v e
        refine ⟨p, xv, rfl, ?_, po F H _ (.refl s) g2⟩
        rw [← g1]
        exact DGet.k h1
  · exact po.elim
/-- d[y] = e of an owned dict -/
def sStoreD (i : Nat) (k e : DE) : DS := fun ρ => sOf (e ρ) ρ fun v => match ρ[i]? with
  | some (some (.dict ps)) => sOf (k ρ) ρ fun kv => if (keyOf kv).isSome ∧ ps.length < sizeLine then .nx (ρ.set i (some (.dict (putP ps kv v)))) else .bad
  | _ => .bad
theorem sj_storeD {i : Nat} {o : Expr} {pos' : Pos} (hi : i ∈ O) (hh : Here X W k) (hb : EJ X W O .bo b db) (ha : EJ X W O .sh a da) (ho : PE X o (tVar i)) (hs : swapsWith a (some (.Subscript o b pos')) pos.line X.env = pure false) :
    SJ X W m O O OL (.Assign [.Subscript o b pos'] a pos) (sStoreD i db da) := by
  obtain ⟨t, pa, q⟩ := ha
  obtain ⟨u, pb, q2⟩ := hb
  refine ⟨_, ps_dput hh.u1 ho pb pa hs, fun F0 H0 F H σ ρ Dn s po => q F0 H0 F H σ ρ _ s (sOf_post (m1 := .sh) s po fun v F' H' x s' ex rm po' => ?_)⟩
  cases hv : ρ[i]? with
  | none => rw [hv] at po'; exact po'.elim
  | some ov =>
    rw [hv] at po'
    cases ov with
    | none => exact po'.elim
    | some o =>
      cases o with
      | dict ps =>
        obtain ⟨l, kvs, h1, h2, h3, h4, h5, h6⟩ := own_dict s' hi hv
        refine ⟨_, h1, q2 F0 H0 F' H' σ ρ _ s' (sOf_post (m1 := .bo) s' po' fun kv F2 H2 y s2 ex2 rm2 po2 => ?_)⟩
        have po2 : SPost X W F0 H0 F2 m O OL (if (keyOf kv).isSome ∧ ps.length < sizeLine then .nx (ρ.set i (some (.dict (putP ps kv v)))) else .bad) Dn := po2
        by_cases hc : (keyOf kv).isSome ∧ ps.length < sizeLine
        · rw [if_pos hc] at po2
          obtain ⟨hk, hl⟩ := hc
          obtain ⟨kk, hkk⟩ := Option.isSome_iff_exists.1 hk
          obtain ⟨rfl, ry⟩ := bo_key rm2 hkk ex2.fh
          have hl2 : kvs.length < sizeLine := by
            have := h4.len
            omega
          have h2' := ex2.hh _ _ h2
          refine ⟨l, _, rfl, DPut.k h2' hl2, ?_⟩
          have r4 : RpD X.K F2 kvs ps := h4.mono ex2.ff
          have r' : RpD X.K F2 (putK kvs kk x) (putP ps kv v) := r4.put ry (Rp.mono ex2.ff rm)
          have hlen : (putK kvs kk x).length ≤ sizeLine := by
            have := putK_len (kvs := kvs) (k := kk) (x := x)
            omega
          exact po2 F2 _ σ (.refl _) (s2.mut hi hv h1 h2' (ex2.nw _ h5 (by rw [h2]; exact fun z => nomatch z)) h6 (.dic hlen r'))
        · rw [if_neg hc] at po2
          exact po2.elim
      | _ => exact po'.elim
end
end PL

end
section
namespace PL
open PySem PySem.Spec PyProof.Rows L2
def ltT (a b : Str) : Prop := a.cps.toList < b.cps.toList
theorem str_ext {a b : Str} (h : a.cps.toList = b.cps.toList) : a = b := by
  obtain ⟨⟨a⟩⟩ := a
  obtain ⟨⟨b⟩⟩ := b
  have h : a = b := h
  rw [h]
def leT (a b : Str) : Bool := decide (a.cps.toList ≤ b.cps.toList)
theorem ltT_of {a b : Str} (h : leT a b = true) (hn : a ≠ b) : ltT a b := by
  have h := of_decide_eq_true h
  by_cases h2 : a.cps.toList < b.cps.toList
  · exact h2
  · exact absurd (str_ext (List.le_antisymm h (List.not_lt.1 h2))) hn
theorem ltT_irr {a : Str} (h : ltT a a) : False := List.lt_irrefl _ h
theorem ltT_asym {a b : Str} (h : ltT a b) (h2 : ltT b a) : False := List.lt_irrefl _ (List.lt_trans h h2)
theorem ltT_unique : ∀ {a b : List Str}, a.Pairwise ltT → b.Pairwise ltT → (∀ k, k ∈ a ↔ k ∈ b) → a = b
  | [], [], _, _, _ => rfl
  | [], y :: b, _, _, h => absurd ((h y).2 (by simp)) (by simp)
  | x :: a, [], _, _, h => absurd ((h x).1 (by simp)) (by simp)
  | x :: a, y :: b, ha, hb, h => by
    obtain ⟨a1, a2⟩ := List.pairwise_cons.1 ha
    obtain ⟨b1, b2⟩ := List.pairwise_cons.1 hb
    have e : x = y := by
      rcases List.mem_cons.1 ((h x).1 (by simp)) with h1 | h1
      · exact h1
      · rcases List.mem_cons.1 ((h y).2 (by simp)) with h2 | h2
        · exact h2.symm
        · exact (ltT_asym (b1 x h1) (a1 y h2)).elim
    subst e
    rw [ltT_unique a2 b2 fun k => ?_]
    constructor
    · intro hk
      rcases List.mem_cons.1 ((h k).1 (by simp [hk])) with rfl | q
      · exact (ltT_irr (a1 k hk)).elim
      · exact q
    · intro hk
      rcases List.mem_cons.1 ((h k).2 (by simp [hk])) with rfl | q
      · exact (ltT_irr (b1 k hk)).elim
      · exact q
theorem leT_tr (a b c : Str) (h : leT a b = true) (h2 : leT b c = true) : leT a c = true :=
  decide_eq_true (List.le_trans (of_decide_eq_true h) (of_decide_eq_true h2))
theorem leT_tot (a b : Str) : (leT a b || leT b a) = true := by
  rcases List.le_total a.cps.toList b.cps.toList with h | h
  · rw [leT, decide_eq_true h]; rfl
  · rw [Bool.or_eq_true]; exact .inr (decide_eq_true h)
theorem merge_lt {l : List Str} (h : l.Nodup) : (l.mergeSort leT).Pairwise ltT := by
  have h1 : (l.mergeSort leT).Pairwise (fun a b => leT a b = true) := List.pairwise_mergeSort leT_tr leT_tot l
  have h2 : (l.mergeSort leT).Nodup := (List.mergeSort_perm l leT).nodup_iff.2 h
  exact (h1.and h2).imp fun h => ltT_of h.1 h.2
/-- each text once -/
def onceT : List Str → List Str
  | [] => []
  | x :: r => if x ∈ onceT r then onceT r else x :: onceT r
theorem onceT_mem {k : Str} : ∀ {l : List Str}, k ∈ onceT l ↔ k ∈ l
  | [] => by simp [onceT]
  | x :: r => by
    unfold onceT
    split
    · rename_i h
      rw [onceT_mem, List.mem_cons]
      constructor
      · exact .inr
      · rintro (rfl | q)
        · exact onceT_mem.1 h
        · exact q
    · rw [List.mem_cons, onceT_mem, List.mem_cons]
theorem onceT_nodup : ∀ l : List Str, (onceT l).Nodup
  | [] => List.Pairwise.nil
  | x :: r => by
    unfold onceT
    split
    · exact onceT_nodup r
    · rename_i h
      exact List.nodup_cons.2 ⟨h, onceT_nodup r⟩
theorem onceT_len : ∀ l : List Str, (onceT l).length ≤ l.length
  | [] => Nat.le_refl _
  | x :: r => by
    have := onceT_len r
    unfold onceT
    split
    · rw [List.length_cons]; omega
    · rw [List.length_cons, List.length_cons]; omega
def sortT (l : List Str) : List Str := (onceT l).mergeSort leT
theorem sortT_lt (l : List Str) : (sortT l).Pairwise ltT := merge_lt (onceT_nodup l)
theorem sortT_mem {k : Str} {l : List Str} : k ∈ sortT l ↔ k ∈ l := by
  unfold sortT
  rw [(List.mergeSort_perm (onceT l) leT).mem_iff, onceT_mem]
theorem sortT_len (l : List Str) : (sortT l).length ≤ l.length := by
  unfold sortT
  rw [(List.mergeSort_perm (onceT l) leT).length_eq]
  exact onceT_len l
def tyOf (e : Int × Value) : Str := match e.2 with | .str k _ => k | _ => ⟨#[]⟩
/-- a set of the texts among xs -/
def SetX (P : Program) (w : World) (h : Heap) (a : Addr) (xs : List Str) : Prop :=
  ∃ (D : Froz.SD) (l : List Str), h.get? a = some (Froz.sObj "set" D) ∧ Froz.TxOk P w D l ∧ l.Nodup ∧ (∀ k, k ∈ l ↔ k ∈ xs) ∧ l.length ≤ xs.length ∧ Ris D.2.2.place.toList ∧ (w.params.followText "set-order" = true ∨ D.2.2.led = true)
section
variable {P : Program} {w : World} {A : Around} {E : Value → Shared → Prop} {s : Shared} {a : Addr}
theorem SetX.at {h h' : Heap} {xs : List Str} (R : SetX P w h a xs) (k : ∀ o, h.get? a = some o → h'.get? a = some o) : SetX P w h' a xs := by
  obtain ⟨D, l, ho, r⟩ := R
  exact ⟨D, l, k _ ho, r⟩
theorem setX_new {h : Heap} {xs : List Str} (ho : h.get? a = some (nset w)) : SetX P w h a (xs.take 0) :=
  ⟨(#[], 0, .fresh 0 0 (!w.params.followText "set-order")), [], ho, Froz.TxOk.nil rfl, List.nodup_nil, by simp, by simp, List.Pairwise.nil, by
    show _ ∨ (!w.params.followText "set-order") = true
    cases w.params.followText "set-order" <;> simp⟩
theorem tail_ris {ep : Nat} {es : Array (Int × Value)} {t : SetTable} {b : Bool} (r : Ris t.place.toList) : Ris (Froz.tailTx ep es t b).2.2.place.toList := by
  unfold Froz.tailTx
  split
  · exact relayAll_ris _ _ _
  · exact r
theorem tail_led {ep : Nat} {es : Array (Int × Value)} {t : SetTable} {b : Bool} (r : t.led = true) : (Froz.tailTx ep es t b).2.2.led = true := by
  unfold Froz.tailTx
  split
  · exact (relayAll_led _ _ _).trans r
  · exact r
theorem addTx_ris {D : Froz.SD} {h : Int} {v : Value} (r : Ris D.2.2.place.toList) : Ris (Froz.addTx h v D).2.2.place.toList := by
  have r1 := layNew_ris D.2.2 D.1 h v r
  refine tail_ris ?_
  split
  · exact r1
  · exact r1
theorem addTx_led {D : Froz.SD} {h : Int} {v : Value} (r : D.2.2.led = true) : (Froz.addTx h v D).2.2.led = true := by
  have r1 := (layNew_led D.2.2 D.1 h v).trans r
  refine tail_led ?_
  split
  · exact r1
  · exact r1
/-- a text that stands there -/
theorem add_old {D : Froz.SD} {l : List Str} {k : Str} {u : Tok} {Q : Bool → Shared → Prop} (ho : s.heap.get? a = some (Froz.sObj "set" D)) (F : Froz.TxOk P w D l) (hk : k ∈ l) (hb : l.length < scanBound)
    (h : Q false s) : wpAny (model P w) A (setAddHashed a (.str k u) (hashStr w k)) Q E s := by
  obtain ⟨es, ep, t⟩ := D
  have hel : ElemsOf (PySem.strKind P w) es.toList := F.el
  have hb0 : es.size < scanBound := by have : es.size = l.length := F.sz; omega
  have hkey : (PySem.strKind P w).is k (.str k u) = true := Froz.is_str k u
  unfold setAddHashed setAddHashedIn
  refine wpAny_holding (wpAny_bind (wpAny_setState_of ho rfl F.fit ?_)); dsimp only
  rw [byScan_of rfl hb0 hel]; simp only [↓reduceIte]
  unfold setAddByScan
  refine wpAny_bind (wpAny_bind (wpAny_rule (wpAny_bind (wpAny_setScan_of (knd := PySem.strKind P w) (k := k) hkey ho rfl F.fit hel ?_))))
  cases hfi : List.findIdx? (fun e => (PySem.strKind P w).is k e.2) es.toList with
  | some j => exact wpAny_pure (wpAny_pure h)
  | none =>
    obtain ⟨e, he, q⟩ := (F.mem k).mp hk
    have c := List.findIdx?_eq_none_iff.mp hfi e he
    rw [q] at c
    cases c
theorem add_txt {xs : List Str} {k : Str} {u : Tok} {Q : Bool → Shared → Prop} (R : SetX P w s.heap a xs) (hb : xs.length + 1 < scanBound)
    (hQ : ∀ b h', Heap.SameBut a s.heap h' → SetX P w h' a (xs ++ [k]) → Q b { s with heap := h' }) : wpAny (model P w) A (setAddHashed a (.str k u) (hashStr w k)) Q E s := by
  obtain ⟨D, l, ho, F, nd, hm, hl, r, led⟩ := R
  by_cases hk : k ∈ l
  · refine add_old ho F hk (by omega) (hQ false s.heap (Heap.SameBut.refl a s.heap) ⟨D, l, ho, F, nd, fun i => ?_, by rw [List.length_append]; omega, r, led⟩)
    rw [hm i, List.mem_append, List.mem_singleton]
    constructor
    · exact .inl
    · rintro (q | q)
      · exact q
      · rw [q]; exact (hm k).1 hk
  · refine Froz.add_x ho F hk (by omega) (hQ true _ (Heap.SameBut.update s.heap a _) ⟨_, k :: l, Froz.get_upd _ ho rfl, Froz.add_ok u F, List.nodup_cons.2 ⟨hk, nd⟩, fun i => ?_, by rw [List.length_append, List.length_cons, List.length_singleton]; omega, addTx_ris r, led.imp id addTx_led⟩)
    rw [List.mem_cons, hm i, List.mem_append, List.mem_singleton]
    exact Or.comm
theorem strs_at : ∀ {us : List Value} {ns : List Str}, StrsAre us ns → ∀ (i : Nat) (v : Value), us[i]? = some v → ∃ k t, ns[i]? = some k ∧ v = .str k t
  | _, _, .nil, _, _, h => by simp at h
  | _, _, .cons y t r, 0, v, h => ⟨y, t, rfl, (Option.some.inj h).symm⟩
  | _, _, .cons y t r, i + 1, v, h => strs_at r i v h
theorem set_update_txts {I : Addr} {fp wr : List Addr} {G : Array GenState → Array GenState → Prop} {n : Nat} {Pv : Nat → Value → Prop} {St : Nat → Shared → Prop} {R : Result → Shared → Prop}
    (W : WalksS P w A.in1 I fp wr G n Pv St) (S : Addr) (hSf : S ∉ fp) (ns : List Str) (hn : n = ns.length) (hb : ns.length + 1 < scanBound) (hval : ∀ i v, Pv i v → ∃ k t, ns[i]? = some k ∧ v = .str k t) :
    ∀ (k i : Nat) (s : Shared), n - i = k → i ≤ n → St i s → SetX P w s.heap S (ns.take i) →
      (∀ s', Moved (S :: wr) G s s' → SetX P w s'.heap S ns → R (.ok (.ret .none)) s') →
      codeAny (model P w) A (.builtin "set.update.loop" ⟨[.ref S, .ref I], []⟩) R s := by
  have hSw : S ∉ wr := fun q => hSf (W.sub _ q)
  have sub2 : ∀ b, b ∈ wr → b ∈ S :: wr := fun b q => List.mem_cons_of_mem _ q
  intro k
  induction k with
  | zero =>
    intro i s h1 h2 hst hS hR
    obtain rfl : i = n := by omega
    refine codeAny_builtin F.entry_set_update_loop ?_; rw [Around.under_plainId F.plain_set_update_loop _]
    show wpAny _ A.in1 (pyNext (.ref I) >>= _) _ _ s; refine wpAny_bind (W.done s _ _ hst fun s1 m1 => ?_)
    show wpAny _ A.in1 (ret Value.none) _ _ s1
    rw [List.take_of_length_le (by omega)] at hS
    exact wpAny_pure (hR s1 (m1.mono sub2) (hS.at fun o q => m1.heap S o hSw q))
  | succ k ih =>
    intro i s h1 h2 hst hS hR
    have hlt : i < n := by omega
    refine codeAny_builtin F.entry_set_update_loop ?_; rw [Around.under_plainId F.plain_set_update_loop _]
    show wpAny _ A.in1 (pyNext (.ref I) >>= _) _ _ s; refine wpAny_bind (W.item i s _ _ hlt hst fun v s1 hP hst1 m1 => ?_)
    obtain ⟨z, t, hz, rfl⟩ := hval i v hP
    have hS1 : SetX P w s1.heap S (ns.take i) := hS.at fun o q => m1.heap S o hSw q
    show wpAny _ A.in1 (holding [Value.str z t] (setAdd S (.str z t)) >>= _) _ _ s1
    refine wpAny_bind (wpAny_holding ?_); unfold setAdd
    refine wpAny_holding (wpAny_bind ((PySem.strKind P w).pyHash (k := z) (Froz.is_str z t) ?_))
    have tl : (ns.take i).length ≤ ns.length := by rw [List.length_take]; omega
    refine add_txt (s := { s1 with toks := s1.toks + 1 }) hS1 (by omega) fun b h' hsb hS2 => ?_
    have e2 : ns.take i ++ [z] = ns.take (i + 1) := by rw [List.take_add_one, hz]; rfl
    rw [e2] at hS2
    have oth : ∀ c o, c ≠ S → s1.heap.get? c = some o → h'.get? c = some o := fun c o q e => (hsb.2 c q).trans e
    refine wpAny_pure ⟨plainId_quiet F.plain_set_update_loop _, ih (i + 1) _ (by omega) hlt (W.frame _ s1 _ _ hst1 (Nat.le_succ _) fun c hc o e => oth c o (fun q => hSf (q ▸ hc)) e) hS2 fun s2 m2 hS3 => ?_⟩
    exact hR s2 (Moved.trans W.gtrans ((m1.mono sub2).then_heap (Nat.le_succ _) fun c o hc e => oth c o (fun q => hc (q ▸ List.mem_cons_self)) e) m2) hS3
theorem setList_txts {l : Addr} {vs : Array Value} (ns : List Str) {Q : Value → Shared → Prop} (hh : A.handled = none) (hl : s.heap.IsList l vs) (hi : StrsAre vs.toList ns) (hb : ns.length + 1 < scanBound)
    (h : ∀ (h2 : Heap) (tk : Nat), SetX P w h2 s.heap.objs.size ns → (∀ b o, s.heap.get? b = some o → h2.get? b = some o) → Q (.ref s.heap.objs.size) { s with heap := h2, toks := tk }) :
    wpAny (model P w) A (call (.type "set") [.ref l]) Q E s := by
  have sz : vs.size = ns.length := by rw [← Array.length_toList]; exact StrsAre.length hi
  have g0 : (s.heap.push (nset w)).get? s.heap.objs.size = some (nset w) := Heap.get?_push_size _ rfl
  have ls : l < s.heap.objs.size := by obtain ⟨ol, e, _⟩ := hl; exact Heap.lt_size e
  have z1 : (s.heap.push (nset w)).objs.size = s.heap.objs.size + 1 := Heap.size_push ..
  have l1 : (s.heap.push (nset w)).IsList l vs := hl.push _
  have fl : s.heap.objs.size ∉ [(s.heap.push (nset w)).objs.size, l] := by
    rw [z1]; intro hm; simp only [List.mem_cons, List.not_mem_nil, or_false] at hm
    rcases hm with q | q
    · exact absurd q (Nat.ne_of_lt (Nat.lt_succ_self _))
    · exact absurd q (Nat.ne_of_gt ls)
  have at_ : ∀ (i : Nat) (v : Value), vs[i]? = some v → ∃ k t, ns[i]? = some k ∧ v = .str k t := fun i v hv => strs_at hi i v (by rw [Array.getElem?_toList]; exact hv)
  obtain ⟨mc, mt, mro⟩ := PySem.F.called_set.mro
  have made := PySem.F.called_set.made; have msub := PySem.F.called_set.sub
  refine wpAny_call (codeAny_of_tree (?_ : wpAny _ _ (callAny (.type "set") _) _ _ _))
  refine wpAny_pure ⟨Code.quiet_builtin _ (by decide +kernel), codeAny_builtin PySem.F.entry_type_call (by
    rw [Around.under_plain (weight_type_call_type "set" [.ref l] []) rfl]
    have n1 := PySem.F.called_set.notType; have n2 := PySem.F.called_set.canCreate; have n3 := PySem.F.typeCall_set_1 (.ref l)
    repeat (any_goals (first | assumption | wp_step))
    refine codeAny_mono (code_set_led1 (.ref l) (E := E) (Q₁ := fun x s1 => x = .ref s.heap.objs.size ∧ s1 = { s with heap := s.heap.push (nset w) }) ⟨rfl, rfl⟩) fun r s1 hr => ?_
    match r, hr with
    | .error e, hr => exact hr
    | .ok (.ret x), hr =>
      obtain ⟨rfl, rfl⟩ := hr
      have ty : Shared.TypeIs { s with heap := s.heap.push (nset w) } (.ref s.heap.objs.size) "set" := ⟨_, g0, rfl⟩
      have i1 := PySem.F.called_set.init.lookup; have i2 := PySem.F.called_set.init.bind (.ref s.heap.objs.size)
      repeat (any_goals (first | assumption | wp_step))
      refine codeAny_mono (codeAny_call_builtin (R := wants (fun r s2 => r = .none ∧ ∃ h2 tk, s2 = { s with heap := h2, toks := tk } ∧ SetX P w h2 s.heap.objs.size ns ∧ (∀ b o, s.heap.get? b = some o → h2.get? b = some o)) E) PySem.F.called_set.init.plain PySem.F.entry_set_init (check_set_init_1 ty (by
        obtain ⟨ol, o1, o2, nl, o3⟩ := hl
        obtain ⟨ocls, odict, odata, oslots⟩ := ol
        simp only at o2 o3
        subst o2 o3
        have o4 : (s.heap.push (nset w)).get? l = some ⟨.type "list", odict, .seq vs nl, oslots⟩ := Heap.get?_push_of_some _ o1
        have b1 := PySem.F.sub_list_set; have b2 := PySem.F.sub_list_frozenset
        have b3 : (Value.type "list" == Value.type "dict") = false := by decide
        unfold Builtin.«set.__init__» noKeywords Builtin.Frozenset.updateFrom
        generalize hPI : pyIter = PI; wp_walk; subst hPI
        refine wpAny_pyIter_list l1 (wpAny_bind (wpAny_runValue ?_))
        have h3 : A.in1.in1.in1.handled = none := by simp [hh]
        have ne : l ≠ (s.heap.push (nset w)).objs.size := by rw [z1]; exact Nat.ne_of_lt (Nat.lt_succ_of_lt ls)
        refine set_update_txts ((Walks.list h3 _ l ne vs).toS) s.heap.objs.size fl ns sz hb at_ (vs.size - 0) 0 _ (by omega) (Nat.zero_le _) ⟨⟨_, Heap.get?_push_size _ rfl, rfl, rfl⟩, (l1.push _)⟩ (setX_new (Heap.get?_push_of_some _ g0)) fun s3 hm hS => ?_
        obtain ⟨h3, g3, d3, t3, os3⟩ := s3
        have e1 : g3 = s.gens := hm.gens
        have e2 : d3 = s.drawn := hm.drawn
        have e3 : os3 = s.os := hm.os
        subst e1 e2 e3
        show wpAny _ A.in1.in1 (pure ()) _ _ _; refine wpAny_pure ?_; show wpAny _ A.in1.in1 (ret Value.none) _ _ _
        refine wpAny_pure ⟨rfl, h3, t3, rfl, hS, fun b o e => hm.heap b o (fun hmem => ?_) (Heap.get?_push_of_some _ (Heap.get?_push_of_some _ e))⟩
        have hb0 := Heap.lt_size e
        simp only [List.mem_cons, List.not_mem_nil, or_false] at hmem
        rcases hmem with q | q
        · exact absurd q (Nat.ne_of_lt hb0)
        · rw [q, z1] at hb0; exact absurd hb0 (by simp)))) fun r2 s2 hr2 => ?_
      match r2, hr2 with
      | .error e, hr2 => exact hr2
      | .ok (.ret x), hr2 =>
        obtain ⟨rfl, h2, tk, rfl, q1, q3⟩ := hr2
        repeat (any_goals (first | assumption | wp_step))
        exact h _ _ q1 q3)⟩
end
end PL

end
section
namespace PL
open PySem PySem.Spec PyProof.Rows L2
theorem perm_of_sub {α : Type} [BEq α] [LawfulBEq α] : ∀ (l m : List α), l.Nodup → (∀ x ∈ l, x ∈ m) → m.length ≤ l.length → l.Perm m
  | [], m, _, _, h => by
    rw [List.eq_nil_of_length_eq_zero (Nat.le_zero.1 h)]
  | x :: l, m, nd, hs, h => by
    obtain ⟨n1, n2⟩ := List.nodup_cons.1 nd
    have hx := hs x (by simp)
    have p := List.perm_cons_erase hx
    have hl := p.length_eq
    rw [List.length_cons] at hl h
    refine (List.Perm.cons x (perm_of_sub l (m.erase x) n2 (fun y hy => ?_) (by omega))).trans p.symm
    exact (List.mem_erase_of_ne (fun (e : y = x) => n1 (e ▸ hy))).2 (hs y (by simp [hy]))
def txOf (v : Value) : Str := match v with | .str k _ => k | _ => ⟨#[]⟩
def IsTx (v : Value) (k : Str) : Prop := ∃ t, v = .str k t
theorem isTx_each : ∀ {vs : List Value}, (∀ v ∈ vs, ∃ k t, v = Value.str k t) → W.EachIs IsTx vs (vs.map txOf)
  | [], _ => .nil
  | v :: vs, h => by
    obtain ⟨k, t, e⟩ := h v (by simp)
    exact .cons ⟨t, by rw [e]; rfl⟩ (isTx_each fun u hu => h u (by simp [hu]))
theorem isTx_strs : ∀ {vs : List Value} {ks : List Str}, W.EachIs IsTx vs ks → StrsAre vs ks
  | _, _, .nil => .nil
  | _, _, .cons ⟨t, e⟩ r => by rw [e]; exact .cons _ t (isTx_strs r)
section
variable {P : Program} {w : World} {A : Around} {E : Value → Shared → Prop} {s : Shared} {a : Addr}
theorem sorted_setX {xs : List Str} {Q : Value → Shared → Prop} (R : SetX P w s.heap a xs) (hh : A.handled = none) (hb : xs.length < scanBound) (hu : A.units + 64 < cLine)
    (hQ : ∀ s' p (out : Array Value) (c : Nat), (∀ b o, s.heap.get? b = some o → s'.heap.get? b = some o) → s'.gens = s.gens → s'.os = s.os → s.heap.objs.size ≤ p →
      s'.heap.get? p = some (seqObj "list" out c) → StrsAre out.toList (sortT xs) → Q (.ref p) s') :
    wpAny (model P w) A (call (.builtin "sorted") [.ref a]) Q E s := by
  obtain ⟨D, l, ho, F, nd, hm, hl, ri, led⟩ := R
  have hsz : D.1.size = l.length := F.sz
  refine Calls.call_function_entry kind_sorted plain_sorted entry_sorted (args_sorted1 _) ?_
  unfold Builtin.«sorted»
  refine wpAny_bind (m := checkCount "sorted" 1 1 _) (wpAny_pure ?_)
  refine wpAny_bind (collect_set (A := A.in1) hh ⟨_, ho, rfl, rfl⟩ F.fit (by omega) ri led fun s1 vs k1 hz g1 o1 pm => ?_)
  have hvl : vs.length = l.length := by rw [pm.length_eq, List.length_map, Array.length_toList]; exact hsz
  have hT : ∀ v ∈ vs, ∃ k t, v = Value.str k t := fun v hv => by
    obtain ⟨e, he, q⟩ := List.mem_map.mp (pm.mem_iff.mp hv)
    obtain ⟨⟨k, h1, _⟩, _⟩ := F.el e he
    obtain ⟨t, h2⟩ := Value.isStrOf_shape h1
    exact ⟨k, t, q.symm.trans h2⟩
  have pl : l.Perm (vs.map txOf) := by
    refine perm_of_sub l _ nd (fun k hk => ?_) (by rw [List.length_map]; omega)
    obtain ⟨e, he, q⟩ := (F.mem k).1 hk
    obtain ⟨t, h2⟩ := Value.isStrOf_shape q
    exact List.mem_map.2 ⟨e.2, pm.mem_iff.2 (List.mem_map.2 ⟨e, he, rfl⟩), by rw [h2]; rfl⟩
  have es : (vs.map txOf).mergeSort (W.dataLe false PyData.str) = sortT xs := by
    rw [show W.dataLe false PyData.str = leT from W.dataLe_str id]
    refine ltT_unique (merge_lt (pl.nodup_iff.1 nd)) (sortT_lt xs) fun k => ?_
    rw [(List.mergeSort_perm _ _).mem_iff, ← pl.mem_iff, hm k, sortT_mem]
  have hsl : (4096 : Nat) ≤ sizeLine := by decide
  have hbl : scanBound = 4096 := rfl
  refine wpAny_bind (wpAny_newList ?_ (by omega))
  have hoL : (s1.heap.push (seqObj "list" vs.toArray 0)).get? s1.heap.objs.size = some (seqObj "list" vs.toArray 0) := Heap.get?_push_size _ rfl
  refine wpAny_bind (wpAny_holding (W.list_sort_data (enc := PyData.str) (R := IsTx) (s := { s1 with heap := s1.heap.push (seqObj "list" vs.toArray 0) }) hoL (isTx_each hT) ((isTx_each hT).mono fun v k ⟨t, e⟩ => ⟨[], by rw [e]; exact .str _ _, by simp⟩) (W.AllAlike.of fun _ _ => by simp [W.alike]) (W.Sortable.others fun b => ⟨by simp, by simp⟩) (by rw [List.length_map]; omega) (fun b _ => by rw [show (PyData.str b).depth = 0 by simp [PyData.depth]]; have := units_in1 A; omega) fun out _ eo => ?_))
  obtain ⟨c, hc⟩ := sortedHeap_at (vs := vs) (out := out.toArray) hoL
  rw [es] at eo
  refine wpAny_pure ⟨_, rfl, hQ _ s1.heap.objs.size out.toArray c (fun b u e => ?_) g1 o1 hz hc (isTx_strs eo)⟩
  have q := k1 b u e
  have hlt := Heap.lt_size q
  show (sortedHeap (s1.heap.push (seqObj "list" vs.toArray 0)) s1.heap.objs.size vs out.toArray).get? b = some u
  rw [sortedHeap_old (Nat.ne_of_lt hlt) (by rw [size_push']; exact Nat.lt_succ_of_lt hlt)]
  exact Heap.get?_push_of_some _ q
end
def SetXO (P : Program) (w : World) (a : Addr) (xs : List Str) : HO := .ext fun h => SetX P w h a xs
def rSetX (K : Fg) (P : Program) (w : World) : List V → Hp → VK → Prop := fun vs H Q => ∃ (a : Addr) (ns : List Str), vs = [V.ref a] ∧ SqL K H a (ns.map V.str) ∧ ns.length + 1 < scanBound ∧ ∀ p : Addr, H p = none → Q (.ref p) (upd H p (SetXO P w p ns))
def rSortedX (P : Program) (w : World) : List V → Hp → VK → Prop := fun vs H Q => ∃ (a : Addr) (xs : List Str), vs = [V.ref a] ∧ H a = some (SetXO P w a xs) ∧ xs.length < scanBound ∧ ∀ p : Addr, H p = none → Q (.ref p) (upd H p (.lst ((sortT xs).map V.str)))
section
variable {X : Cx}
theorem setXO_new {P P' : Program} {w w' : World} {H : Hp} {h : Heap} {a : Addr} {xs : List Str} (R : SetX P w h a xs) : ObjOk P' w' H h a (SetXO P w a xs) := by
  have ⟨D, l, ho, _⟩ := R
  exact ⟨R, ⟨_, ho⟩, fun h1 h2 p k => SetX.at p k⟩
theorem cr_setX (hc : X.calm = true) : CallR X (.type "set") (rSetX X.K X.prog X.w) := by
  intro pins s σ H vs us Q I r h
  obtain ⟨a, ns, rfl, hs, hb, q⟩ := h
  rw [Vals.ref1 r]
  obtain ⟨its, rv, hl, _⟩ := I.list hs
  refine setList_txts ns (I.ok.hd hc) hl.isList (by simpa using rv.strs) hb fun h2 tk R k => ?_
  exact ⟨.ref _, upd H s.heap.objs.size (SetXO X.prog X.w s.heap.objs.size ns), I.laid (t' := tk) k (Nat.le_refl _) (setXO_new R), rfl, q _ (I.hok.fresh (Nat.le_refl _))⟩
theorem cr_sortedX (hc : X.calm = true) (hu : X.A.units + 64 < cLine) : CallR X (.builtin "sorted") (rSortedX X.prog X.w) := by
  intro pins s σ H vs us Q I r h
  obtain ⟨a, xs, rfl, ha, hb, q⟩ := h
  have R : SetX X.prog X.w s.heap a xs := (I.hok a _ ha).1
  rw [Vals.ref1 r]
  refine sorted_setX R (I.ok.hd hc) hb hu fun s' p out c k g o hp hg hi => ?_
  have hbl : scanBound = 4096 := rfl
  have hsl : (4096 : Nat) ≤ sizeLine := by decide
  have hlen : ((sortT xs).map V.str).length ≤ sizeLine := by rw [List.length_map]; have := sortT_len xs; omega
  have hn : H p = none := I.hok.fresh hp
  have J : Inv X pins σ (upd H p (.lst ((sortT xs).map V.str))) { s with heap := s'.heap, gens := s'.gens, drawn := s'.drawn, toks := s'.toks } :=
    I.call (ch := []) (Un.laid k hp hn) (I.hok.laid k hp ⟨hlen, out.toList, c, vals_of_strs hi, hg⟩) (by rw [g]; exact I.bare) (fun _ z => nomatch z)
  have e : s' = { s with heap := s'.heap, gens := s'.gens, drawn := s'.drawn, toks := s'.toks } := by
    cases s'; cases s; cases o; rfl
  rw [e]
  exact ⟨.ref p, _, J, rfl, q p hn⟩
end
def vSortTx : D → Option D
  | .list ds => (allStr ds).bind fun ns => if ns.length < 4000 then some (.list ((sortT ns).map .str)) else none
  | _ => none
def vSortSet2 (v : D) : Option D := match vSortSet v with
  | some r => some r
  | none => vSortTx v
section
variable {X : Cx} {W : WX} {O : List Nat} {k : Nat} {m : Mode} {F H Hs : Hp} {a : Expr} {da : DE} {pos pos2 p p2 : Pos}
theorem sortTx_pass {Q : VK} {l : Addr} {ns : List Str} (s : Same F H) (h : SqL X.K H l (ns.map V.str)) (hok : ∀ z ∈ ns, PyData.strOk z = true ∧ z.length ≤ sizeLine) (hl : ns.length < 4000)
    (po : ∀ F' H' x, Ext F H F' H' → RM .fr X.K F' H H' x (.list ((sortT ns).map .str)) → Q x H') : rSetX X.K X.prog X.w [.ref l] H fun y H2 => rSortedX X.prog X.w [y] H2 Q := by
  refine ⟨l, ns, rfl, h, by unfold scanBound; omega, fun p hp => ?_⟩
  refine ⟨p, ns, rfl, upd_same, by unfold scanBound; omega, fun q hq => ?_⟩
  have hq1 : H q = none := by
    by_cases hqp : q = p
    · rw [hqp]; exact hp
    · rw [upd_ne hqp] at hq; exact hq
  have e1 : Ext F H F (upd H p (SetXO X.prog X.w p ns)) := .new s hp
  have e2 := e1.trans (.new (o := .lst ((sortT ns).map V.str)) e1.fh hq)
  have hsl : ((sortT ns).map V.str).length ≤ sizeLine := by
    have : sizeLine = 16777216 := by decide
    have := sortT_len ns
    rw [List.length_map]; omega
  exact po F _ _ e2 (.inr ⟨q, _, rfl, upd_same, .lst hsl (strs_rpa (sortT ns) fun z hz => hok z (sortT_mem.1 hz)), free_of s hq1, hq1⟩)
def rSS (X : Cx) : V → Hp → VK → Prop := fun x H Q => (rSetI X.K X.w [x] H fun y H2 => rSortedSet X.w [y] H2 Q ∨ rSortedX X.prog X.w [y] H2 Q) ∨ (rSetX X.K X.prog X.w [x] H fun y H2 => rSortedSet X.w [y] H2 Q ∨ rSortedX X.prog X.w [y] H2 Q)
theorem rSetI_mono {K : Fg} {w : World} {vs : List V} {H : Hp} {Q Q' : VK} (h : rSetI K w vs H Q) (hq : ∀ x H', Q x H' → Q' x H') : rSetI K w vs H Q' := by
  obtain ⟨a, ns, h1, h2, h3, h4⟩ := h
  exact ⟨a, ns, h1, h2, h3, fun p hp => hq _ _ (h4 p hp)⟩
theorem rSetX_mono {K : Fg} {P : Program} {w : World} {vs : List V} {H : Hp} {Q Q' : VK} (h : rSetX K P w vs H Q) (hq : ∀ x H', Q x H' → Q' x H') : rSetX K P w vs H Q' := by
  obtain ⟨a, ns, h1, h2, h3, h4⟩ := h
  exact ⟨a, ns, h1, h2, h3, fun p hp => hq _ _ (h4 p hp)⟩
theorem sortSet_v {Q : VK} {x : V} {v : D} (s : Same F H) (r1 : RM .bo X.K F Hs H x v) (po : VPost X.K .fr F H (vSortSet v) Q) : rSetI X.K X.w [x] H fun y H2 => rSortedSet X.w [y] H2 Q := by
  unfold vSortSet at po
  split at po
  · rename_i ds
    cases e : allInt ds with
    | none => rw [e] at po; exact po.elim
    | some bs =>
      rw [e] at po
      have po : VPost X.K .fr F H (if bs.length < 4000 ∧ (sortU bs).length < 64 then some (.list ((sortU bs).map .int)) else none) Q := po
      by_cases hc : bs.length < 4000 ∧ (sortU bs).length < 64
      · rw [if_pos hc] at po
        rw [allInt_some e] at r1
        obtain ⟨l, xs, rfl, h1, h2, h3⟩ := bo_list s r1
        have ex := rpa_ints h3
        subst ex
        exact sortSet_pass s (.inl h1) hc.1 hc.2 po
      · rw [if_neg hc] at po; exact po.elim
  · rename_i ds
    cases e : allInt ds with
    | none => rw [e] at po; exact po.elim
    | some bs =>
      rw [e] at po
      have po : VPost X.K .fr F H (if bs.length < 4000 ∧ (sortU bs).length < 64 then some (.list ((sortU bs).map .int)) else none) Q := po
      by_cases hc : bs.length < 4000 ∧ (sortU bs).length < 64
      · rw [if_pos hc] at po
        rw [allInt_some e] at r1
        obtain ⟨l, xs, rfl, h1, _, h2, h3⟩ := bo_tup s r1
        have ex := rpa_ints h3
        subst ex
        exact sortSet_pass s (.inr h1) hc.1 hc.2 po
      · rw [if_neg hc] at po; exact po.elim
  · exact po.elim
theorem sortTx_v {Q : VK} {x : V} {v : D} (s : Same F H) (r1 : RM .bo X.K F Hs H x v) (po : VPost X.K .fr F H (vSortTx v) Q) : rSetX X.K X.prog X.w [x] H fun y H2 => rSortedX X.prog X.w [y] H2 Q := by
  unfold vSortTx at po
  split at po
  · rename_i ds
    cases e : allStr ds with
    | none => rw [e] at po; exact po.elim
    | some bs =>
      rw [e] at po
      have po : VPost X.K .fr F H (if bs.length < 4000 then some (.list ((sortT bs).map .str)) else none) Q := po
      by_cases hc : bs.length < 4000
      · rw [if_pos hc] at po
        rw [allStr_some e] at r1
        obtain ⟨l, xs, rfl, h1, h2, h3⟩ := bo_list s r1
        obtain ⟨ex, hz⟩ := rpa_strs h3
        subst ex
        exact sortTx_pass s h1 hz hc po
      · rw [if_neg hc] at po; exact po.elim
  · exact po.elim
theorem ej_sortSet2 (hh : Here X W k) (hgs : Gl X "sorted") (hms : X.mg "sorted" = none) (hg : Gl X "set") (hm : X.mg "set" = none) (ns : NoSt a) (ha : EJ X W O .bo a da) :
    EJ X W O .fr (.Call (.Name "sorted" p) [.Call (.Name "set" p2) [a] [] pos2] [] pos) (eUn vSortSet2 da) := by
  refine ej_un (r := fun x H Q => rSS X x H Q) ha (fun t h1 => pe_callB ((cr_sortedSet hh.calm).or (cr_sortedX hh.calm hh.u64)) hgs hms (by decide +kernel) (pa_cons (pe_callTy ((cr_setI hh.calm).or (cr_setX hh.calm)) hg hm (by decide +kernel) (pa_cons h1 pa_nil (ns _ _)) (by decide) (by decide) (ns _ _)) pa_nil)) fun F Hs H x v Q s r1 po => ?_
  unfold vSortSet2 at po
  cases e : vSortSet v with
  | some w =>
    rw [e] at po
    exact .inl (rSetI_mono (sortSet_v s r1 (by rw [e]; exact po)) fun _ _ h => .inl h)
  | none =>
    rw [e] at po
    exact .inr (rSetX_mono (sortTx_v s r1 po) fun _ _ h => .inr h)
end
end PL

end
section
namespace PL
open PySem PySem.Spec PyProof.Rows L2
def dispP (zs : List Str) (xs : List D) : List (D × D) := (zs.zip xs).foldl (fun acc p => putP acc (.str p.1) p.2) []
def eDisp (zs : List Str) (d : DA) : DE := fun ρ => (d ρ).bind fun xs => if xs.length = zs.length ∧ zs.length ≤ 15 then .ok (.dict (dispP zs xs)) else .bad
section
variable {X : Cx} {W : WX} {O : List Nat} {k a : Expr} {ks : List (Option Expr)} {vs : List Expr} {da : DE} {das : DA} {pos : Pos} {zs : List Str} {z : Str}
/-- the pairs of a written dict -/
def KJ (X : Cx) (W : WX) (O : List Nat) (pos : Pos) (ks : List (Option Expr)) (vs : List Expr) (zs : List Str) (d : DA) : Prop :=
  ∃ trs, PPs X pos ks vs trs ∧ ∀ F0 H0 F H σ ρ (Q : List (V × V) → Hp → Prop), SR X.K F0 H0 O F H σ ρ → APost X W F H σ (d ρ) (fun xs H' => Q ((zs.zip xs).map fun p => (V.str p.1, p.2)) H') → tPairs trs σ H Q
theorem kj_nil : KJ X W O pos [] [] [] aNil := ⟨[], pps_nil, fun F0 H0 F H σ ρ Q s po => po F H [] (.refl s.sub) .nil⟩
theorem kj_cons (hk : EJ X W O .sh k (eC (.str z))) (h : EJ X W O .sh a da) (h2 : KJ X W O pos ks vs zs das) : KJ X W O pos (some k :: ks) (a :: vs) (z :: zs) (aCons da das) := by
  obtain ⟨t, p, q⟩ := hk
  obtain ⟨u, p2, q2⟩ := h
  obtain ⟨trs, p3, q3⟩ := h2
  refine ⟨_, pps_cons p p2 p3, fun F0 H0 F H σ ρ Q s po => ?_⟩
  show t σ H fun x H1 => u σ H1 fun y H2 => tPairs trs σ H2 fun ps H3 => Q ((x, y) :: ps) H3
  refine q F0 H0 F H σ ρ _ s fun F1 H1 x e1 rm1 => ?_
  have ex : x = V.str z := by
    have rm1 : Rp X.K F1 x (.str z) := rm1
    cases rm1
    rfl
  subst ex
  refine q2 F0 H0 F1 H1 σ ρ _ (s.ext e1) (APost.bindE (m1 := .sh) (po.ext e1) fun v F' H' y _ e rm po' => ?_)
  refine q3 F0 H0 F' H' σ ρ _ ((s.ext e1).ext e) (APost.bindA po' fun w F2 H2 xs _ e2 rm2 po2 => ?_)
  exact po2 F2 H2 (y :: xs) (.refl e2.fh) (.cons (rm.mono e2.ff) rm2)
theorem merge_rp {K : Fg} {F : Hp} : ∀ (zs : List Str) (xs : List V) (ds : List D) (kvs : List (Key × V)) (ps : List (D × D)), (∀ z ∈ zs, PyData.strOk z = true ∧ z.length ≤ sizeLine) → RpA K F xs ds → RpD K F kvs ps →
    RpD K F (mergeK kvs ((zs.zip xs).map fun p => (Sum.inr p.1, p.2))) ((zs.zip ds).foldl (fun acc p => putP acc (.str p.1) p.2) ps)
  | [], _, _, _, _, _, _, h => h
  | z :: zs, _, _, kvs, ps, hz, .nil, h => h
  | z :: zs, _, _, kvs, ps, hz, .cons (x := x) (xs := xs) (d := d) (ds := ds) h1 h2, h =>
    merge_rp zs xs ds (putK kvs (.inr z) x) (putP ps (.str z) d) (fun y hy => hz y (by simp [hy])) h2 (h.put (k := .inr z) (.str z (hz z (by simp)).1 (hz z (by simp)).2) h1)
theorem ej_disp (h : KJ X W O pos ks vs zs das) (hz : ∀ z ∈ zs, PyData.strOk z = true ∧ z.length ≤ sizeLine) (hall : ks.all (·.isSome) = true) (hl : ks.length = vs.length) (h0 : ks ≠ []) (h15 : ks.length ≤ 15) : EJ X W O .fr (.Dict ks vs pos) (eDisp zs das) := by
  obtain ⟨trs, p, q⟩ := h
  refine ⟨_, pe_disp p hall hl h0 h15, fun F0 H0 F H σ ρ Q s po => ?_⟩
  intro a ha
  have e1 : Ext F H F (upd H a (.dK [])) := .new s.sub ha
  refine q F0 H0 F (upd H a (.dK [])) σ ρ _ (s.ext e1) ?_
  have po : EPost X W .fr F H σ ((das ρ).bind fun xs => if xs.length = zs.length ∧ zs.length ≤ 15 then .ok (.dict (dispP zs xs)) else .bad) Q := po
  cases er : das ρ with
  | bad => rw [er] at po; exact po.elim
  | exn c => rw [er] at po; exact fun F2 H2 cls dd e2 rm => po F2 H2 cls dd (e1.trans e2) rm
  | ok ds =>
    rw [er] at po
    have po : EPost X W .fr F H σ (if ds.length = zs.length ∧ zs.length ≤ 15 then .ok (.dict (dispP zs ds)) else .bad) Q := po
    by_cases hc : ds.length = zs.length ∧ zs.length ≤ 15
    · rw [if_pos hc] at po
      intro F' H2 xs e2 rm
      have h2 : H2 a = some (.dK []) := e2.hh _ _ upd_same
      have fa : F a = none := free_of s.sub ha
      have fa' : F' a = none := e2.nw a fa (by rw [upd_same]; simp)
      refine ⟨h2, (zs.zip xs).map fun p => (Sum.inr p.1, p.2), by rw [List.map_map]; rfl, by rw [List.length_map, List.length_zip]; omega, ?_⟩
      have hm := merge_rp zs xs ds [] [] hz rm .nil
      have ml := length_mergeK ((zs.zip xs).map fun p => ((Sum.inr p.1 : Key), p.2)) []
      refine po F' _ (.ref a) ⟨e2.ff, fun b o hb => ?_, fun b h3 h4 => ?_, fun b o hb => ?_⟩ (.inr ⟨a, _, rfl, upd_same, .dic ?_ hm, fa', ha⟩)
      · have hne : b ≠ a := fun g => by rw [g, ha] at hb; cases hb
        rw [upd_ne hne]
        exact e2.hh _ _ (by rw [upd_ne hne]; exact hb)
      · refine e2.nw b h3 ?_
        by_cases hne : b = a
        · rw [hne, upd_same]; simp
        · rw [upd_ne hne]; exact h4
      · have hne : b ≠ a := fun g => by rw [g, fa'] at hb; cases hb
        rw [upd_ne hne]
        exact e2.fh _ _ hb
      · have : sizeLine = 16777216 := by decide
        rw [List.length_map, List.length_zip, List.length_nil] at ml
        omega
    · rw [if_neg hc] at po; exact po.elim
end
end PL

end
section
namespace PL
open PySem PySem.Spec PyProof.Rows L2
theorem tuple_mul1 (l : Addr) (items : Array Value) (n : Nat) (dd : Option Addr) (sl : Array (Option Value)) (x : Int) (u : Tok) (hx : x = 1) (c0 : (decide (x < -(2 ^ 63)) || decide (x ≥ 2 ^ 63)) = false) (c1 : (items.isEmpty || x == 1) = true) :
    Meets (Builtin.«tuple.__mul__» ⟨[.ref l, .int x u], []⟩) (fun _ R s => s.heap.get? l = some { cls := .type "tuple", dict := dd, data := .seq items n, slots := sl } ∧ R (.ok (.ret (Value.ref l))) s) :=
  .of_wp fun prog w A R s h => by
    obtain ⟨hp, g, d, tk, os⟩ := s
    obtain ⟨hl, h⟩ := h
    have f1 := AutoSeq1.idx_int
    have ty : Shared.TypeIs ⟨hp, g, d, tk, os⟩ (.ref l) "tuple" := ⟨_, hl, rfl⟩
    wp_walk using wpAny_loadPart' hl
    exact ⟨_, rfl, h⟩
def rRepT1 (K : PySem.W.Frag) : R2 := fun x y H Q => ∃ l xs, x = .ref l ∧ y = .int 1 ∧ SqT K H l xs ∧ Q (.ref l) H
section
variable {X : Cx}
theorem op_repT1 : OpR X (binaryOp .Mult) (rRepT1 X.K) := by
  intro pins s σ H x y v u Q I rx ry h
  obtain ⟨l, xs, rfl, rfl, hT, q⟩ := h
  cases rx
  obtain ⟨t, rfl⟩ := ry
  obtain ⟨its, r, ⟨⟨cls, dd, data, sl⟩, ho, hc, n, hd⟩, hs⟩ := I.tuple hT
  simp only at hc hd
  subst hc hd
  refine wpAny_binaryOp_repeat_ref (T := "tuple") (U := "int") (by decide) ⟨_, ho, rfl⟩ (fun s' => typeIs_int s' 1 t) noFill_tuple_mul F.fills_int_mul F.slot_int_rmul repeat_tuple F.slot_int_index.lookup
    (call_meets F.slot_int_rmul (typeIs_int s 1 t) F.entry_int_rmul (F.args_int_rmul_2 _ _) (int_rmul_tuple 1 t l its.toArray n dd sl)
      ⟨ho, rfl, ⟨_, ho, rfl⟩, call_meets F.slot_tuple_mul ⟨_, ho, rfl⟩ F.entry_tuple_mul (F.args_tuple_mul_2 _ _) (tuple_mul1 l its.toArray n dd sl 1 t rfl (by decide) (by simp)) ⟨ho, ?_⟩⟩)
  exact ⟨.ref l, H, I, rfl, q⟩
end
def vRepT : D → D → Option D
  | .tuple ds, .int k => if ds ≠ [] ∧ 1 ≤ k ∧ k ≤ 1000 ∧ ds.length ≤ 1000 then some (.tuple (List.replicate k.toNat ds).flatten) else none
  | _, _ => none
section
variable {X : Cx} {W : WX} {O : List Nat} {a b : Expr} {da db : DE} {pos : Pos}
theorem ej_repT (ha : EJ X W O .bo a da) (hb : EJ X W O .bo b db) : EJ X W O .sh (.BinOp a .Mult b pos) (eBin vRepT da db) := by
  refine ej_bin ha hb (fun t u h1 h2 => pe_op (op_repT1.or op_repT) h1 h2) fun F Hs Hs' H x v y w Q s r1 r2 po => ?_
  unfold vRepT at po
  split at po
  · rename_i ds k
    cases bo_int r2
    split at po
    · rename_i hc
      obtain ⟨c1, c2, c3, c4⟩ := hc
      obtain ⟨l, xs, rfl, h1, h4, h2, h3⟩ := bo_tup s r1
      by_cases hk : k = 1
      · subst hk
        refine .inl ⟨l, xs, rfl, rfl, h1, ?_⟩
        have e : (List.replicate (1 : Int).toNat ds).flatten = ds := by
          show (List.replicate 1 ds).flatten = ds
          simp
        rw [e] at po
        exact po F H _ (.refl s) (.tup h4 h2 h3)
      · refine .inr ⟨l, k, xs, rfl, rfl, h1, ?_, by omega, c3, by rw [h3.length]; exact c4, fun p hp => ?_⟩
        · intro e
          subst e
          cases h3
          exact c1 rfl
        · have hlen : (List.replicate k.toNat xs).flatten.length ≤ sizeLine := by
            rw [List.length_flatten, List.map_replicate, List.sum_replicate_nat, h3.length]
            have : sizeLine = 16777216 := by decide
            have a1 : k.toNat * ds.length ≤ 1000 * 1000 := Nat.mul_le_mul (by omega) c4
            omega
          exact po (upd F p (.tup (List.replicate k.toNat xs).flatten)) _ _ (.newF s hp) (.tup (SqT.of upd_same) hlen ((rpA_rep h3 _).mono (same_upd' (free_of s hp))))
    · exact po.elim
  · exact po.elim
end
end PL

end
section
namespace PL
open PySem PySem.Spec PyProof.Rows L2 HT
def stepT {α : Type} (xs : List α) (lo hi : Option Int) (c : Int) : List α :=
  (List.range (Builtin.Slice.slicePlaces (Builtin.Slice.sliceAdjust lo hi c (xs.length : Int)).1 (Builtin.Slice.sliceAdjust lo hi c (xs.length : Int)).2 c)).filterMap fun (m : Nat) => xs[((Builtin.Slice.sliceAdjust lo hi c (xs.length : Int)).1 + (m : Int) * c).toNat]?
def stepL {α : Type} (xs : List α) (lo hi : Option Int) (c : Int) : List α :=
  (sliceRange (sliceBounds lo hi (some c) xs.length).1 (sliceBounds lo hi (some c) xs.length).2.1 (sliceBounds lo hi (some c) xs.length).2.2).filterMap (xs[·]?)
theorem pick_vals {xs : List V} {us : List Value} (r : Vals xs us) : ∀ is : List Nat, Vals (is.filterMap (xs[·]?)) (is.filterMap (us[·]?))
  | [] => .nil
  | i :: is => by
    cases e : xs[i]? with
    | none => rw [List.filterMap_cons_none e, List.filterMap_cons_none (r.none_of e)]; exact pick_vals r is
    | some x =>
      obtain ⟨u, h1, h2⟩ := r.get e
      rw [List.filterMap_cons_some e, List.filterMap_cons_some h1]
      exact .cons h2 (pick_vals r is)
theorem pick_rp {K : Fg} {F : Hp} {xs : List V} {ds : List D} (r : RpA K F xs ds) : ∀ is : List Nat, RpA K F (is.filterMap (xs[·]?)) (is.filterMap (ds[·]?))
  | [] => .nil
  | i :: is => by
    cases e : xs[i]? with
    | none =>
      have : ds[i]? = none := by
        rw [List.getElem?_eq_none_iff] at e ⊢
        rw [← r.length]; exact e
      rw [List.filterMap_cons_none e, List.filterMap_cons_none this]; exact pick_rp r is
    | some x =>
      obtain ⟨u, h1, h2⟩ := r.getV e
      rw [List.filterMap_cons_some e, List.filterMap_cons_some h1]
      exact .cons h2 (pick_rp r is)
theorem stepT_pick {α : Type} (xs : List α) (lo hi : Option Int) (c : Int) : stepT xs lo hi c = ((List.range (Builtin.Slice.slicePlaces (Builtin.Slice.sliceAdjust lo hi c (xs.length : Int)).1 (Builtin.Slice.sliceAdjust lo hi c (xs.length : Int)).2 c)).map fun (m : Nat) => ((Builtin.Slice.sliceAdjust lo hi c (xs.length : Int)).1 + (m : Int) * c).toNat).filterMap (xs[·]?) := by
  rw [List.filterMap_map]; rfl
theorem stepT_vals {xs : List V} {us : List Value} {lo hi : Option Int} {c : Int} (r : Vals xs us) : Vals (stepT xs lo hi c) (stepT us lo hi c) := by
  rw [stepT_pick, stepT_pick, r.length]
  exact pick_vals r _
theorem stepT_rp {K : Fg} {F : Hp} {xs : List V} {ds : List D} {lo hi : Option Int} {c : Int} (r : RpA K F xs ds) : RpA K F (stepT xs lo hi c) (stepT ds lo hi c) := by
  rw [stepT_pick, stepT_pick, r.length]
  exact pick_rp r _
theorem stepL_vals {xs : List V} {us : List Value} {lo hi : Option Int} {c : Int} (r : Vals xs us) : Vals (stepL xs lo hi c) (stepL us lo hi c) := by
  unfold stepL
  rw [r.length]
  exact pick_vals r _
theorem stepL_rp {K : Fg} {F : Hp} {xs : List V} {ds : List D} {lo hi : Option Int} {c : Int} (r : RpA K F xs ds) : RpA K F (stepL xs lo hi c) (stepL ds lo hi c) := by
  unfold stepL
  rw [r.length]
  exact pick_rp r _
section
variable {prog : Program} {w : World} {A : Around} {E : Value → Shared → Prop} {s : Shared}
theorem sliceApplied_step {sl : Addr} {vl vu vs : Value} {lo hi : Option Int} {c : Int} {n : Nat} {Q : Int × Int × Nat → Shared → Prop} (hs : s.heap.IsSliceOf sl vl vu vs) (pl : IsPart vl lo) (pu : IsPart vu hi) (ps : IsPart vs (some c)) (h0 : c ≠ 0)
    (h : Q ((Builtin.Slice.sliceAdjust lo hi c (n : Int)).1, c, Builtin.Slice.slicePlaces (Builtin.Slice.sliceAdjust lo hi c (n : Int)).1 (Builtin.Slice.sliceAdjust lo hi c (n : Int)).2 c) s) : wpAny (model prog w) A (Builtin.Slice.sliceApplied (.ref sl) (pure (n : Int))) Q E s := by
  obtain ⟨os, hos, hcs, hds⟩ := id hs
  unfold Builtin.Slice.sliceApplied Builtin.Slice.sliceFields
  refine wpAny_bind (wpAny_bind (wpAny_field hos hds (x := vl) rfl (wpAny_bind (wpAny_field hos hds (x := vu) rfl (wpAny_bind (wpAny_field hos hds (x := vs) rfl (wpAny_pure ?_)))))))
  refine wpAny_bind (slicePart_ ps ?_)
  show wpAny _ _ (if (c == 0) = true then _ else _) _ _ s
  rw [if_neg (by simpa using h0)]
  refine wpAny_bind (slicePart_ pl (wpAny_bind (slicePart_ pu (wpAny_bind (wpAny_pure ?_)))))
  exact wpAny_pure h
theorem getItem_tuple_step {t sl : Addr} {items : List Value} {vl vu vs : Value} {lo hi : Option Int} {c : Int} {Q : Value → Shared → Prop} (ht : IsTup s.heap t items.toArray) (hs : s.heap.IsSliceOf sl vl vu vs) (pl : IsPart vl lo) (pu : IsPart vu hi) (ps : IsPart vs (some c))
    (h0 : c ≠ 0) (h1 : c ≠ 1) (hz : (stepT items lo hi c).length ≤ sizeLine)
    (h : Q (.ref s.heap.objs.size) { s with heap := s.heap.push { cls := .type "tuple", data := .seq (stepT items lo hi c).toArray } }) : wpAny (model prog w) A (getItem (.ref t) (.ref sl)) Q E s := by
  have htake : sizeOk (.seq (stepT items lo hi c).toArray) := by
    show (stepT items lo hi c).toArray.size ≤ sizeLine
    rw [List.size_toArray]; exact hz
  obtain ⟨os, hos, hcs, hds⟩ := id hs
  have hTs : s.TypeIs (.ref sl) "slice" := ⟨os, hos, hcs⟩
  unfold getItem
  try with_reducible refine wpAny_holding ?_
  first | refine wpAny_bind (wpAny_pure ?_) | skip
  refine wpAny_bind (wpAny_sequenceKey ht.typeIs (by decide) ?_)
  refine wpAny_bind (wpAny_callSpecial?_slot (name := Str.ofString "__getitem__") ht.typeIs PyProof.Rows.slot_tuple_getitem
    (wpAny_call_entry PyProof.Rows.slot_tuple_getitem ht.typeIs entry_tuple_getitem ?_ (args_tuple_getitem _ _)))
  show wpAny _ _ (Builtin.Tuple.tupleItemsOf (.ref t) >>= _) _ _ s
  refine wpAny_bind (tupleItemsOf_ ht ?_)
  refine wpAny_bind (wpAny_typeOf hTs ?_)
  rw [if_pos (by decide)]
  refine wpAny_bind (sliceApplied_step hs pl pu ps h0 ?_)
  have hno : ∀ (a : Int) (b : Nat), ¬ ((a == 0 && c == 1 && b == items.toArray.size) = true) := by
    intro a b q
    rw [Bool.and_eq_true, Bool.and_eq_true] at q
    exact h1 (eq_of_beq q.1.2)
  show wpAny _ _ (if ((Builtin.Slice.sliceAdjust lo hi c (items.toArray.size : Int)).1 == 0 && c == 1 && (Builtin.Slice.slicePlaces (Builtin.Slice.sliceAdjust lo hi c (items.toArray.size : Int)).1 (Builtin.Slice.sliceAdjust lo hi c (items.toArray.size : Int)).2 c) == items.toArray.size) = true then _ else _) _ _ s
  rw [if_neg (hno _ _)]
  have e : ((List.range (Builtin.Slice.slicePlaces (Builtin.Slice.sliceAdjust lo hi c (items.toArray.size : Int)).1 (Builtin.Slice.sliceAdjust lo hi c (items.toArray.size : Int)).2 c)).filterMap fun (m : Nat) => items.toArray[((Builtin.Slice.sliceAdjust lo hi c (items.toArray.size : Int)).1 + (m : Int) * c).toNat]?).toArray = (stepT items lo hi c).toArray := by
    unfold stepT
    rw [List.size_toArray]
    congr 2
    funext m
    simp
  rw [e]
  first
    | exact wpAny_bind (m := Builtin.Tuple.tupleExact _) (wpAny_newObj_type (wpAny_pure ⟨_, rfl, wpAny_pure h⟩) htake)
    | exact wpAny_bind (m := Builtin.Tuple.tupleExact _) (wpAny_newObj_type (wpAny_bind (wpAny_pure (wpAny_pure ⟨_, rfl, wpAny_pure h⟩))) htake)
end
/-- a[lo:hi:c], by values -/
def rStep (K : PySem.W.Frag) : V → Option Int → Option Int → Option Int → Hp → VK → Prop := fun x lo hi st H Q => ∃ c, st = some c ∧ c ≠ 0 ∧
  ((∃ a xs, x = .ref a ∧ SqL K H a xs ∧ (stepL xs lo hi c).length ≤ sizeLine ∧ ∀ p, H p = none → Q (.ref p) (upd H p (.lst (stepL xs lo hi c)))) ∨
   (∃ a xs, x = .ref a ∧ SqT K H a xs ∧ c ≠ 1 ∧ (stepT xs lo hi c).length ≤ sizeLine ∧ ∀ p, H p = none → Q (.ref p) (upd H p (.tup (stepT xs lo hi c)))))
def tSlS (r : V → Option Int → Option Int → Option Int → Hp → VK → Prop) (te : TE) (tl th ts : TO) : TE := fun σ H Q => te σ H fun x H1 => tl σ H1 fun l H2 => th σ H2 fun u H3 => ts σ H3 fun c H4 => r x l u c H4 Q
theorem pe_sliceS {X : Cx} {e st : Expr} {lo hi : Option Expr} {te : TE} {tl th ts : TO} {p2 pos : Pos} (he : PE X e te) (hl : PO X lo tl) (hu : PO X hi th) (hs : PO X (some st) ts) : PE X (.Subscript e (.Slice lo hi (some st) p2) pos) (tSlS (rStep X.K) te tl th ts) := by
  refine ⟨fun pins s σ H Q I h => ?_⟩
  refine Subscript_ (thn (he.run pins s σ H _ I h) fun v s1 ⟨x, H1, I1, r1, q1⟩ => ?_)
  refine wpAny_Slice (thn (hl.run pins s1 σ H1 _ I1 q1) fun vl s2 ⟨l, H2, I2, pl, q2⟩ => thn (hu.run pins s2 σ H2 _ I2 q2) fun vu s3 ⟨u, H3, I3, pu, q3⟩ => thn (hs.run pins s3 σ H3 _ I3 q3) fun vs s4 ⟨o, H4, I4, ps, q4⟩ => ?_)
  have I5 : Inv X pins σ H4 { s4 with heap := s4.heap.push { cls := .type "slice", data := .fields #[vl, vu, vs] } } := I4.kept (t' := s4.toks) fun b ob q => Heap.get?_push_of_some _ q
  obtain ⟨c, rfl, h0, q⟩ := q4
  show wpAny (model X.prog X.w) X.A (subscriptTail e (.Slice lo hi (some st) p2) v (.ref s4.heap.objs.size)) (EP X pins σ Q) X.xe { s4 with heap := s4.heap.push { cls := .type "slice", data := .fields #[vl, vu, vs] } }
  rcases q with ⟨a, xs, rfl, hx, hz, q⟩ | ⟨a, xs, rfl, hx, h1, hz, q⟩
  · cases r1
    obtain ⟨its, r, ht, hz'⟩ := I5.list hx
    refine tail_any (ops := [.ref a, .ref s4.heap.objs.size]) ht.isList.typeIs (PySem.slot_list_getitem.lookup) ?_ (by with_unfolding_all rfl)
    refine wpAny_getItem_list_slice ht.isList (Heap.IsSliceOf.new _ vl vu vs) pl pu ps (by simpa using h0) ?_ (by rw [List.size_toArray, ← r.length]; omega)
    have e : slicePick its.toArray l u (some c) = (stepL its l u c).toArray := by
      unfold slicePick stepL
      simp
    rw [e]
    exact ⟨.ref _, _, I5.laid (t' := s4.toks) (o := .lst (stepL xs l u c)) (fun b ob q => Heap.get?_push_of_some _ q) (Nat.le_refl _) ⟨hz, _, 0, stepL_vals r, Heap.get?_push_size _ rfl⟩, rfl, q _ (I5.hok.fresh (Nat.le_refl _))⟩
  · cases r1
    obtain ⟨its, r, ht, hz'⟩ := I5.tuple hx
    refine tail_any (ops := [.ref a, .ref s4.heap.objs.size]) ht.typeIs (PyProof.Rows.slot_tuple_getitem.lookup) ?_ (by with_unfolding_all rfl)
    refine getItem_tuple_step ht (Heap.IsSliceOf.new _ vl vu vs) pl pu ps h0 h1 (by rw [← (stepT_vals r).length]; exact hz) ?_
    exact ⟨.ref _, _, I5.laid (t' := s4.toks) (o := .tup (stepT xs l u c)) (fun b ob q => Heap.get?_push_of_some _ q) (Nat.le_refl _) ⟨hz, _, stepT_vals r, IsTup.new _ _⟩, rfl, q _ (I5.hok.fresh (Nat.le_refl _))⟩
def vStep : D → Option Int → Option Int → Option Int → Option D
  | .list ds, lo, hi, some c => if c ≠ 0 ∧ (stepL ds lo hi c).length ≤ sizeLine then some (.list (stepL ds lo hi c)) else none
  | .tuple ds, lo, hi, some c => if c ≠ 0 ∧ c ≠ 1 ∧ (stepT ds lo hi c).length ≤ sizeLine then some (.tuple (stepT ds lo hi c)) else none
  | _, _, _, _ => none
def eStep (da : DE) (dl dh ds : DO) : DE := fun ρ => (da ρ).bind fun x => (dl ρ).bind fun l => (dh ρ).bind fun h => (ds ρ).bind fun c => Res.up (vStep x l h c)
section
variable {X : Cx} {W : WX} {O OL : List Nat} {k : Nat} {a b : Expr} {da db : DE} {pos p : Pos}
theorem PJ.run {F0 H0 F H : Hp} {σ : L2.St} {ρ : Lo} {Q : VK} {m : Mode} {R : Option Int → Hp → Prop} {d : DO} {t : TO} {f : Option Int → Res D}
    (q : ∀ F0 H0 F H σ ρ (Q : Option Int → Hp → Prop), SR X.K F0 H0 O F H σ ρ → (match d ρ with
    | .ok o => ∀ F' H', Ext F H F' H' → Q o H'
    | .exn e => ∀ F' H' cls dd, Ext F H F' H' → ExRp X.K X.mg F' H' cls dd e → W cls dd σ H'
    | .bad => False) → t σ H Q) (s : SR X.K F0 H0 O F H σ ρ) (po : EPost X W m F H σ ((d ρ).bind f) Q) (k : ∀ o F' H', Ext F H F' H' → EPost X W m F' H' σ (f o) Q → R o H') : t σ H R := by
  refine q F0 H0 F H σ ρ R s ?_
  cases hd : d ρ with
  | ok o => rw [hd] at po; exact fun F' H' e => k o F' H' e (EPost.ext e po)
  | exn c => rw [hd] at po; exact po
  | bad => rw [hd] at po; exact po
theorem ej_step {lo hi : Option Expr} {st : Expr} {dl dh ds : DO} {p2 : Pos} (ha : EJ X W O .bo a da) (hl : PJ X W O lo dl) (hh : PJ X W O hi dh) (hs : PJ X W O (some st) ds) : EJ X W O .fr (.Subscript a (.Slice lo hi (some st) p2) pos) (eStep da dl dh ds) := by
  obtain ⟨t, p, q⟩ := ha
  obtain ⟨tl, pl, ql⟩ := hl
  obtain ⟨th, ph, qh⟩ := hh
  obtain ⟨ts, ps, qs⟩ := hs
  refine ⟨_, pe_sliceS p pl ph ps, fun F0 H0 F H σ ρ Q s po => q F0 H0 F H σ ρ _ s (EPost.bindE (m1 := .bo) s.sub po fun v F' H' x _ e rm po' => ?_)⟩
  refine PJ.run ql (s.ext e) po' fun l F2 H2 e2 po2 => ?_
  refine PJ.run qh ((s.ext e).ext e2) po2 fun h F3 H3 e3 po3 => ?_
  refine PJ.run qs (((s.ext e).ext e2).ext e3) po3 fun c F4 H4 e4 po4 => ?_
  have rm4 := ((rm.ext e2).ext e3).ext e4
  have s4 := e4.fh
  unfold vStep at po4
  split at po4
  · split at po4
    · rename_i hc
      obtain ⟨la, xs, rfl, h1, h2, h3⟩ := bo_list s4 rm4
      exact ⟨_, rfl, hc.1, .inl ⟨_, _, rfl, h1, by rw [(stepL_rp h3).length]; exact hc.2, fun p hp => po4 F4 _ _ (.new s4 hp) (.inr ⟨p, _, rfl, upd_same, .lst (by rw [(stepL_rp h3).length]; exact hc.2) (stepL_rp h3), free_of s4 hp, hp⟩)⟩⟩
    · exact False.elim po4
  · split at po4
    · rename_i hc
      obtain ⟨la, xs, rfl, h1, g1, h2, h3⟩ := bo_tup s4 rm4
      exact ⟨_, rfl, hc.1, .inr ⟨_, _, rfl, h1, hc.2.1, by rw [(stepT_rp h3).length]; exact hc.2.2, fun p hp => po4 (upd F4 p (.tup _)) _ _ (.newF s4 hp) (RM.of_sh (.tup (SqT.of upd_same) (by rw [(stepT_rp h3).length]; exact hc.2.2) ((stepT_rp h3).mono (same_upd' (free_of s4 hp)))) rfl)⟩⟩
    · exact False.elim po4
  · exact False.elim po4
end
end PL

end
section
namespace PL
open PySem PySem.Spec PyProof.Rows L2
def sTryN (tbl : Str → Option Bool) (body : DS) (e : DE) : DS := fun ρ => match body ρ with
  | .ex c ρ' => (match unX c with
    | some (n, []) => (match tbl n with
      | some true => onlyRt ρ' (e ρ')
      | some false => .ex c ρ'
      | none => .bad)
    | _ => .bad)
  | r => r
section
variable {X : Cx} {W : WX} {O O' OL : List Nat} {k : Nat}
theorem sj_tryN {x : Str} {C : Addr} {body : List Stmt} {re : Expr} {np rp pos' pos : Pos} {tbl : Str → Option Bool} {db : DS} {de : DE} (hh : Here X W k) (hs : X.stack = X.env :: X.outer) (hf : X.env.frame = some X.env.locals)
    (hg : Gl X x) (hdb : (x == ("__debug__" : Str)) = false) (hC : X.mg x = some (.ref C)) (ht : ∀ c b, tbl c = some b → ∃ D, X.mg c = some (.ref D) ∧ PySem.W.exmOne X.K (.ref D) (.ref C) = some b)
    (hb : ∀ (W' : WX) (pn : List (Addr × Obj)) (xe : Value → Shared → Prop), Here (X.tr pn xe) W' k → BJ (X.tr pn xe) W' .sh O [] OL body db)
    (hsu : ∀ (a : Addr) (oe : Obj) (pn : List (Addr × Obj)), EJ (X.suite a ((a, oe) :: pn)) WF [] .sh re de) :
    SJ X W .sh O [] OL (.Try body [.ExceptHandler (some (.Name x np)) none [.Return (some re) rp] pos'] [] [] pos) (sTryN tbl db de) := by
  have here' : ∀ (W' : WX) (pn : List (Addr × Obj)) (xe : Value → Shared → Prop), Takes (X.tr pn xe) W' → PassesOwn (model X.prog X.w) X.A X.env xe → Here (X.tr pn xe) W' k := fun W' pn xe tk po => ⟨hh.hr, hh.calm, tk, hh.nd, po⟩
  let tb : WX → TS := fun W' Dn σ H => ∀ pn xe (tk : Takes (X.tr pn xe) W') (po : PassesOwn (model X.prog X.w) X.A X.env xe), Classical.choose (hb W' pn xe (here' W' pn xe tk po)) Dn σ H
  let ts : Addr → Value → Option Addr → TS := fun a cls d Dn σ H => d = none ∧ ∀ oe pn, Classical.choose (hsu a oe pn) σ H Dn.rt
  refine ⟨_, ps_try_only (tb := tb) (ts := ts) hs hf ⟨hg, hdb, .inl hC⟩ hh.tk ?_ ?_, ?_⟩
  · intro W' pn xe tk po
    exact ⟨fun pins s σ H Dn I h => (Classical.choose_spec (hb W' pn xe (here' W' pn xe tk po))).1.run pins s σ H Dn I (h pn xe tk po)⟩
  · intro a oe cls d pn hz hfs
    refine ⟨fun pins s σ H Dn I h => ?_⟩
    obtain ⟨rfl, h3⟩ := h
    have p := (Classical.choose_spec (hsu a oe pn)).1
    exact (pss_cons (ps_ret p) pss_nil).run pins s σ H Dn I (h3 oe pn)
  · intro F0 H0 F H σ ρ Dn s po pn xe tk po2
    refine (Classical.choose_spec (hb _ pn xe (here' _ pn xe tk po2))).2 F0 H0 F H σ ρ Dn s ?_
    unfold sTryN at po
    cases hr : db ρ with
    | nx ρ' => rw [hr] at po; exact po
    | rt v => rw [hr] at po; exact po
    | bk ρ' => rw [hr] at po; exact po
    | ct ρ' => rw [hr] at po; exact po
    | bad => rw [hr] at po; exact po
    | ex c ρ' =>
      rw [hr] at po
      intro F' H' σ' cls dd s' ex
      obtain ⟨nm, args, rfl, hm, hargs⟩ := ex
      simp only [unX, excD] at po
      rcases hargs with ⟨rfl, rfl⟩ | ⟨f, v, d, xv, rfl, _⟩
      · simp only [List.map_nil] at po
        cases hn : tbl nm with
        | none => rw [hn] at po; exact po.elim
        | some b =>
          rw [hn] at po
          obtain ⟨D, hD, hx⟩ := ht nm b hn
          rw [hm] at hD
          cases hD
          refine ⟨b, hx, fun hb1 a na => ?_, fun hb0 => ?_⟩
          · subst hb1
            refine ⟨rfl, fun oe pn => ?_⟩
            refine (Classical.choose_spec (hsu a oe pn)).2 F0 H0 F' H' σ' ρ' Dn.rt s' ?_
            simp only [onlyRt] at po
            cases hv : de ρ' with
            | ok v =>
              rw [hv] at po
              exact fun F2 H2 y e rm => po F2 H2 y (s'.e0.trans e) rm
            | exn c => rw [hv] at po; exact po.elim
            | bad => rw [hv] at po; exact po.elim
          · subst hb0
            exact po F' H' σ' _ none s' ⟨nm, [], rfl, hm, .inl ⟨rfl, rfl⟩⟩
      · simp only [List.map_cons, List.map_nil] at po
        exact po.elim
end
end PL

end
section
namespace PL
open PySem PySem.Spec PyProof.Rows L2
def repS (z : Str) (n : Nat) : Str := ⟨(List.replicate n z.cps).foldl (· ++ ·) #[]⟩
theorem repS_list (z : Str) (n : Nat) : (repS z n).cps.toList = (List.replicate n z.cps.toList).flatten := by
  have : ∀ (L : List (Array Nat)) (a : Array Nat), (L.foldl (· ++ ·) a).toList = a.toList ++ (L.map (·.toList)).flatten := by
    intro L
    induction L with
    | nil => intro a; simp
    | cons x L ih => intro a; rw [List.foldl_cons, ih]; simp
  unfold repS
  rw [this, List.map_replicate]
  simp
theorem repS_len (z : Str) (n : Nat) : (repS z n).length = n * z.length := by
  have h := congrArg List.length (repS_list z n)
  rw [List.length_flatten, List.map_replicate, List.sum_replicate_nat] at h
  simpa [Str.length] using h
theorem repS_one (z : Str) : repS z 1 = z := by
  refine str_ext ?_
  rw [repS_list]
  simp
def rMulS : R2 := fun x y H Q => ∃ z k, x = .str z ∧ y = .int k ∧ 1 ≤ k ∧ k ≤ 1000 ∧ 1 ≤ z.length ∧ z.length ≤ 1000 ∧ Q (.str (repS z k.toNat)) H
theorem op_mulS {X : Cx} : OpR X (binaryOp .Mult) rMulS := by
  intro pins s σ H x y v u Q I rx ry h
  obtain ⟨z, k, rfl, rfl, h1, h2, h3, h4, q⟩ := h
  obtain ⟨t, rfl⟩ := rx
  obtain ⟨t', rfl⟩ := ry
  have hlt : ¬ k < 1 := by omega
  have hsz : z.length * k.toNat ≤ 1000 * 1000 := Nat.mul_le_mul h4 (by omega)
  have hdiv : (1000 : Int) ≤ (2 ^ 63 - 1) / k := Int.le_ediv_of_mul_le (by omega) (by omega)
  refine PySem.P.mul_str ?_ (fun _ _ => by omega) (fun _ _ => ?_) ?_
  · rw [decide_eq_false (by omega), decide_eq_false (by omega)]; rfl
  · show decide (z.length * k.toNat > sizeLine) = false
    refine decide_eq_false ?_
    rw [show sizeLine = 16777216 by decide]
    omega
  · rw [if_neg hlt]
    by_cases hk : k = 1
    · subst hk
      rw [if_pos (by simp)]
      have : repS z (1 : Int).toNat = z := repS_one z
      rw [this] at q
      exact ⟨.str z, H, I, ⟨_, rfl⟩, q⟩
    · rw [if_neg (by simp [hk]; omega)]
      refine ⟨?_, .str _, H, I.tok _, ⟨_, rfl⟩, q⟩
      have := repS_len z k.toNat
      show (repS z k.toNat).length ≤ _
      rw [this]
      have : k.toNat * z.length ≤ 1000 * 1000 := Nat.mul_le_mul (by omega) h4
      rw [show sizeLine = 16777216 by decide]
      omega
def vMulS : D → D → Option D
  | .str z, .int k => if 1 ≤ k ∧ k ≤ 1000 ∧ 1 ≤ z.length ∧ z.length ≤ 1000 then some (.str (repS z k.toNat)) else none
  | _, _ => none
theorem strOk_rep {z : Str} (h : PyData.strOk z = true) (n : Nat) : PyData.strOk (repS z n) = true := by
  unfold PyData.strOk
  rw [Array.all_eq_true']
  intro c hc
  have hc : c ∈ (repS z n).cps.toList := by simpa using hc
  rw [repS_list] at hc
  obtain ⟨l, hl, hc⟩ := List.mem_flatten.1 hc
  rw [List.eq_of_mem_replicate hl] at hc
  simpa using strOk_mem h hc
section
variable {X : Cx} {W : WX} {O : List Nat} {a b : Expr} {da db : DE} {pos : Pos}
theorem ej_mulS (ha : EJ X W O .bo a da) (hb : EJ X W O .bo b db) : EJ X W O .sh (.BinOp a .Mult b pos) (eBin vMulS da db) := by
  refine ej_bin ha hb (fun t u h1 h2 => pe_op op_mulS h1 h2) fun F Hs Hs' H x v y w Q s r1 r2 po => ?_
  unfold vMulS at po
  split at po
  · rename_i z k
    cases bo_int r2
    obtain ⟨rfl, o, l⟩ := bo_str r1
    split at po
    · rename_i hc
      obtain ⟨c1, c2, c3, c4⟩ := hc
      refine ⟨z, k, rfl, rfl, c1, c2, c3, c4, po F H _ (.refl s) (.str _ (strOk_rep o _) ?_)⟩
      rw [repS_len]
      have : k.toNat * z.length ≤ 1000 * 1000 := Nat.mul_le_mul (by omega) c4
      rw [show sizeLine = 16777216 by decide]
      omega
    · exact po.elim
  · exact po.elim
end
end PL

end
section
namespace PL
open PySem PySem.Spec PyProof.Rows L2
def sortS (ss : List Str) : List Str := ss.mergeSort leT
theorem sortS_perm (ss : List Str) : (sortS ss).Perm ss := List.mergeSort_perm _ _
theorem sortS_le (ss : List Str) : (sortS ss).Pairwise (fun a b => leT a b = true) := List.pairwise_mergeSort leT_tr leT_tot ss
theorem leT_asym {a b : Str} (h : leT a b = true) (h2 : leT b a = true) : a = b := by
  by_cases e : a = b
  · exact e
  · exact (ltT_asym (ltT_of h e) (ltT_of h2 fun g => e g.symm)).elim
theorem sortS_unique {a ss : List Str} (hp : a.Perm ss) (hs : a.Pairwise (fun a b => leT a b = true)) : a = sortS ss :=
  (hp.trans (sortS_perm ss).symm).eq_of_pairwise (fun _ _ _ _ h1 h2 => leT_asym h1 h2) hs (sortS_le ss)
theorem strs_txOf : ∀ {vs : List Value} {ss : List Str}, StrsAre vs ss → vs.map txOf = ss
  | _, _, .nil => rfl
  | _, _, .cons k t r => by rw [List.map_cons, strs_txOf r]; rfl
section
variable {X : Cx}
/-- sorted of a list of texts, any number -/
def rSortL (K : Fg) : List V → Hp → VK → Prop := fun vs H Q => ∃ (a : Addr) (ss : List Str), vs = [V.ref a] ∧ SqL K H a (ss.map V.str) ∧ ss.length ≤ sizeLine ∧ ∀ p : Addr, H p = none → Q (.ref p) (upd H p (.lst ((sortS ss).map V.str)))
theorem cr_sortL (hu : X.A.units + 64 < cLine) : CallR X (.builtin "sorted") (rSortL X.K) := by
  intro pins s σ H vs us Q I r h
  obtain ⟨a, ss, rfl, hs, hb, q⟩ := h
  rw [Vals.ref1 r]
  obtain ⟨its, rv, hl, _⟩ := I.list hs
  have st : StrsAre its ss := by simpa using rv.strs
  have hT : ∀ v ∈ its, ∃ k t, v = Value.str k t := fun v hv => by
    obtain ⟨i, hi, e⟩ := List.mem_iff_getElem.1 hv
    obtain ⟨k, t, _, e2⟩ := strs_at st i v (by rw [List.getElem?_eq_getElem hi, e])
    exact ⟨k, t, e2⟩
  have et : its.map txOf = ss := strs_txOf st
  have hlI := hl.isList
  refine W.sorted_data (enc := PyData.str) (R := IsTx) (by simpa using hlI) (isTx_each hT) ((isTx_each hT).mono fun v k ⟨t, e⟩ => ⟨[], by rw [e]; exact .str _ _⟩) (W.AllAlike.of fun _ _ => by simp [W.alike]) (W.Sortable.others fun b => ⟨by simp, by simp⟩) (by rw [et]; exact hb) (fun b _ => by rw [show (PyData.str b).depth = 0 by simp [PyData.depth]]; omega) fun out _ eo => ?_
  rw [et, show W.dataLe false PyData.str = leT from W.dataLe_str id] at eo
  have eo : W.EachIs IsTx out (sortS ss) := eo
  have hlen : ((sortS ss).map V.str).length ≤ sizeLine := by rw [List.length_map, (sortS_perm ss).length_eq]; exact hb
  obtain ⟨c, hc⟩ := sortedAll_at s.heap its out.toArray
  have k : ∀ b o, s.heap.get? b = some o → (sortedAll s.heap its out.toArray).get? b = some o := fun b o e => sortedAll_old e
  have hp : s.heap.objs.size ≤ s.heap.objs.size + 1 := Nat.le_succ _
  have hn : H (s.heap.objs.size + 1) = none := I.hok.fresh hp
  have J : Inv X pins σ (upd H (s.heap.objs.size + 1) (.lst ((sortS ss).map V.str))) { s with heap := sortedAll s.heap its out.toArray } :=
    I.call (ch := []) (Un.laid k hp hn) (I.hok.laid k hp ⟨hlen, out, c, vals_of_strs (isTx_strs eo), hc⟩) I.bare (fun _ z => nomatch z)
  exact ⟨.ref (s.heap.objs.size + 1), _, J, rfl, q _ hn⟩
end
def keysS (ps : List (D × D)) : Option (List Str) := allStr (ps.map Prod.fst)
def vSorted : D → Option D
  | .list ds => match allInt ds with
    | some ns => some (.list ((sortI ns).map .int))
    | none => (allStr ds).bind fun ss => some (.list ((sortS ss).map .str))
  | .dict ps => (keysS ps).bind fun ss => if ss.length < 64 then some (.list ((sortS ss).map .str)) else none
  | _ => none
section
variable {X : Cx} {W : WX} {O : List Nat} {k : Nat} {m : Mode} {F H Hs : Hp} {a b c o e : Expr} {da db dd : DE} {pos p : Pos}
theorem new_list {Q : VK} {p : Addr} {xs : List V} {ds : List D} (s : Same F H) (hp : H p = none) (hl : xs.length ≤ sizeLine) (hr : RpA X.K F xs ds) (po : ∀ F' H' x, Ext F H F' H' → RM .fr X.K F' H H' x (.list ds) → Q x H') : Q (.ref p) (upd H p (.lst xs)) :=
  po F _ _ (.new s hp) (.inr ⟨p, _, rfl, upd_same, .lst hl hr, free_of s hp, hp⟩)
theorem risingS_pw : ∀ {l : List Str} {x : Str}, risingS x l = true → (∀ y ∈ l, leT x y = true) ∧ l.Pairwise (fun a b => leT a b = true)
  | [], x, h => ⟨fun y hy => (by cases hy), .nil⟩
  | z :: r, x, h => by
    rw [risingS] at h
    simp only [Bool.and_eq_true, Bool.not_eq_true'] at h
    obtain ⟨h1, h2⟩ := h
    obtain ⟨h3, h4⟩ := risingS_pw h2
    have h5 : leT x z = true := by
      unfold leT
      rw [ltCps_eq] at h1
      simp only [decide_eq_false_iff_not, decide_eq_true_eq] at h1 ⊢
      exact h1
    refine ⟨fun y hy => ?_, .cons h3 h4⟩
    rcases List.mem_cons.1 hy with rfl | hy
    · exact h5
    · exact leT_tr _ _ _ h5 (h3 y hy)
theorem sortedS_pw : ∀ {l : List Str}, sortedS l = true → l.Pairwise (fun a b => leT a b = true)
  | [], _ => .nil
  | _ :: _, h => .cons (risingS_pw h).1 (risingS_pw h).2
theorem keysS_rp {K : Fg} {F : Hp} : ∀ {kvs : List (Key × V)} {ps : List (D × D)} {ss : List Str}, RpD K F kvs ps → keysS ps = some ss → kvs.map (·.1) = ss.map Sum.inr ∧ ∀ z ∈ ss, PyData.strOk z = true ∧ z.length ≤ sizeLine
  | _, _, ss, .nil, h => by
    have h : some [] = some ss := h
    cases h
    exact ⟨rfl, fun z hz => (by cases hz)⟩
  | _, _, ss, .cons (k := k) (kvs := kvs) (dk := dk) (ps := ps) h1 h2 h3, h => by
    have h : allStr (dk :: ps.map Prod.fst) = some ss := h
    cases dk with
    | str z =>
      unfold allStr at h
      cases e : allStr (ps.map Prod.fst) with
      | none => rw [e] at h; cases h
      | some bs =>
        rw [e] at h
        cases h
        obtain ⟨g1, g2⟩ := keysS_rp h3 e
        have hk := key_rp h1
        cases hk
        have h1 : Rp K F (.str z) (.str z) := h1
        refine ⟨by rw [List.map_cons, List.map_cons, g1], fun y hy => ?_⟩
        rcases List.mem_cons.1 hy with rfl | hy
        · cases h1 with
          | str _ a b => exact ⟨a, b⟩
        · exact g2 y hy
    | _ => cases h
theorem ej_sorted (hh : Here X W k) (hg : Gl X "sorted") (hm : X.mg "sorted" = none) (ns : NoSt a) (ha : EJ X W O .bo a da) : EJ X W O .fr (.Call (.Name "sorted" p) [a] [] pos) (eUn vSorted da) := by
  refine ej_b1 ((cr_sortedI.or (cr_sortL hh.u64)).or (call_sortedD hh.calm)) hg hm (by decide +kernel) (by decide) (by decide) ns ha fun F Hs H x v Q s r1 po => ?_
  unfold vSorted at po
  split at po
  · rename_i ds
    refine .inl ?_
    split at po
    · rename_i bs e
      rw [allInt_some e] at r1
      obtain ⟨l, xs, rfl, h1, h2, h3⟩ := bo_list s r1
      have ex := rpa_ints h3
      subst ex
      refine .inl ⟨l, bs, rfl, h1, fun ns' p hp hs hn => ?_⟩
      rw [sortI_eq hp hs]
      exact new_list s hn (by rw [List.length_map, (sortI_perm bs).length_eq, ← List.length_map (f := V.int)]; exact h2) (rpA_ints _) po
    · cases e : allStr ds with
      | none => rw [e] at po; exact po.elim
      | some bs =>
        rw [e] at po
        rw [allStr_some e] at r1
        obtain ⟨l, xs, rfl, h1, h2, h3⟩ := bo_list s r1
        obtain ⟨ex, hz⟩ := rpa_strs h3
        subst ex
        rw [List.length_map] at h2
        exact .inr ⟨l, bs, rfl, h1, h2, fun p hp => new_list s hp (by rw [List.length_map, (sortS_perm bs).length_eq]; exact h2) (strs_rpa _ fun z hz' => hz z ((sortS_perm bs).mem_iff.1 hz')) po⟩
  · rename_i ps
    cases e : keysS ps with
    | none => rw [e] at po; exact po.elim
    | some bs =>
      rw [e] at po
      have po : VPost X.K .fr F H (if bs.length < 64 then some (.list ((sortS bs).map .str)) else none) Q := po
      by_cases hc : bs.length < 64
      · rw [if_pos hc] at po
        obtain ⟨l, kvs, rfl, h1, h2, h3⟩ := bo_dict s r1
        obtain ⟨g1, hz⟩ := keysS_rp h3 e
        refine .inr ⟨l, kvs, bs, rfl, .inl h1, g1, hc, fun ys p hp hs hn => ?_⟩
        have hsl : (64 : Nat) ≤ sizeLine := by decide
        rw [sortS_unique hp (sortedS_pw hs)]
        exact new_list s hn (by rw [List.length_map, (sortS_perm bs).length_eq]; omega) (strs_rpa _ fun z hz' => hz z ((sortS_perm bs).mem_iff.1 hz')) po
      · rw [if_neg hc] at po; exact po.elim
  · exact po.elim
def isDictD : D → Bool
  | .dict _ => true
  | _ => false
def eMeD (f : D → D → Option D) (da db : DE) : DE := fun ρ => (da ρ).bind fun v => if isDictD v = true then (db ρ).bind fun w => Res.up (f v w) else .bad
def vGet1D (d y : D) : Option D := match d with
  | .dict ps => if (keyOf y).isSome then some ((findP ps y).getD .none) else none
  | _ => none
theorem ej_get1 (hh : Here X W k) (hM : M1 X a "get" p b pos) (ha : EJ X W O .bo a da) (hb : EJ X W O .bo b db) : EJ X W O .sh (.Call (.Attribute a "get" p) [b] [] pos) (eMeD vGet1D da db) := by
  obtain ⟨t, p, q⟩ := ha
  obtain ⟨u, p2, q2⟩ := hb
  refine ⟨_, pe_dget1 hh.u1 p p2 hM, fun F0 H0 F H σ ρ Q s po => q F0 H0 F H σ ρ _ s (EPost.bindE (m1 := .bo) s.sub po fun v F' H' x _ e rm po' => ?_)⟩
  by_cases hl : isDictD v = true
  · rw [if_pos hl] at po'
    cases v with
    | dict ps =>
      obtain ⟨l, kvs, rfl, h1, _⟩ := bo_dict e.fh rm
      refine ⟨l, rfl, .inl ⟨_, .inl h1⟩, q2 F0 H0 F' H' σ ρ _ (s.ext e) (EPost.bindE (m1 := .bo) e.fh po' fun w F2 H2 y _ e2 rm2 po2 => ?_)⟩
      have rm' := rm.ext e2
      have po2 := po2.up
      unfold vGet1D at po2
      simp only at po2
      cases hk : keyOf w with
      | none => rw [hk] at po2; exact po2.elim
      | some kk =>
        rw [hk] at po2
        have po2 : VPost X.K .sh F2 H2 (some ((findP ps w).getD .none)) Q := po2
        obtain ⟨p, kvs2, ep, g1, g2, g3⟩ := bo_dict e2.fh rm'
        cases ep
        obtain ⟨rfl, ry⟩ := bo_key rm2 hk e2.fh
        refine ⟨_, DGet.k g1, ?_⟩
        obtain ⟨f1, f2⟩ := find_rp ry g3
        cases ef : findP ps w with
        | none =>
          rw [f2 ef]
          rw [ef] at po2
          exact po2 F2 H2 _ (.refl e2.fh) .non
        | some v =>
          obtain ⟨xv, f3, f4⟩ := f1 v ef
          rw [f3]
          rw [ef] at po2
          exact po2 F2 H2 _ (.refl e2.fh) f4
    | _ => cases hl
  · rw [if_neg hl] at po'; exact po'.elim
def vCountI : D → D → Option D
  | .list ds, .int i => (allInt ds).bind fun ns => some (.int (ns.count i : Nat))
  | _, _ => none
theorem ej_countI (ho : EJ X W O .bo o da) (ha : EJ X W O .bo e db) (h : ∀ t u, PE X o t → PE X e u → PE X c (tBM X.K "list" (rCntI X.K) t (tCons u tNil))) : EJ X W O .sh c (eMeL vCountI da db) := by
  obtain ⟨t, p, q⟩ := ho
  obtain ⟨u, p2, q2⟩ := ha
  refine ⟨_, h t u p p2, fun F0 H0 F H σ ρ Q s po => q F0 H0 F H σ ρ _ s (EPost.bindE (m1 := .bo) s.sub po fun v F' H' x _ e rm po' => ?_)⟩
  by_cases hl : isListD v = true
  · rw [if_pos hl] at po'
    cases v with
    | list ds =>
      have ty : tyV X.K "list" x H' := by
        obtain ⟨l, xs, rfl, h1, _⟩ := bo_list e.fh rm
        exact .inl ⟨rfl, xs, h1⟩
      refine ⟨ty, q2 F0 H0 F' H' σ ρ _ (s.ext e) (EPost.bindE (m1 := .bo) e.fh po' fun w F2 H2 y _ e2 rm2 po2 => ?_)⟩
      have rm' := rm.ext e2
      have po2 := po2.up
      cases w with
      | int i =>
        unfold vCountI at po2
        simp only at po2
        cases ei : allInt ds with
        | none => rw [ei] at po2; exact po2.elim
        | some ns =>
          rw [ei] at po2
          rw [allInt_some ei] at rm'
          obtain ⟨l, xs, rfl, h1, h2, h3⟩ := bo_list e2.fh rm'
          have ex := rpa_ints h3
          subst ex
          have ey : y = .int i := (bo_key rm2 (kk := .inl i) rfl e2.fh).1
          subst ey
          exact ⟨l, ns, i, rfl, rfl, h1, po2 F2 H2 _ (.refl e2.fh) (.int _)⟩
      | _ => exact po2.elim
    | _ => cases hl
  · rw [if_neg hl] at po'; exact po'.elim
def vDisp1 (y v : D) : Option D := if (keyOf y).isSome then some (.dict [(y, v)]) else none
theorem ej_disp1 (ha : EJ X W O .sh a da) (hb : EJ X W O .sh b db) : EJ X W O .fr (.Dict [some a] [b] pos) (eBin vDisp1 da db) := by
  obtain ⟨t, p, q⟩ := ha
  obtain ⟨u, p2, q2⟩ := hb
  refine ⟨_, pe_disp (pps_cons p p2 pps_nil) (by rfl) (by rfl) (by simp) (by simp), fun F0 H0 F H σ ρ Q s po => ?_⟩
  intro l hl
  have e1 : Ext F H F (upd H l (.dK [])) := .new s.sub hl
  refine q F0 H0 F (upd H l (.dK [])) σ ρ _ (s.ext e1) ?_
  have po : EPost X W .fr F H σ ((da ρ).bind fun v => (db ρ).bind fun w => Res.up (vDisp1 v w)) Q := po
  cases er : da ρ with
  | bad => rw [er] at po; exact po.elim
  | exn c => rw [er] at po; exact fun F2 H2 cls dd e2 rm => po F2 H2 cls dd (e1.trans e2) rm
  | ok v =>
    intro F' H' x e rm
    refine q2 F0 H0 F' H' σ ρ _ ((s.ext e1).ext e) ?_
    rw [er] at po
    have po : EPost X W .fr F H σ ((db ρ).bind fun w => Res.up (vDisp1 v w)) Q := po
    cases er2 : db ρ with
    | bad => rw [er2] at po; exact po.elim
    | exn c => rw [er2] at po; exact fun F2 H2 cls dd e2 rm => po F2 H2 cls dd (e1.trans (e.trans e2)) rm
    | ok w =>
      rw [er2] at po
      have po : EPost X W .fr F H σ (Res.up (vDisp1 v w)) Q := po
      have po2 := po.up
      unfold vDisp1 at po2
      cases hk : keyOf v with
      | none => rw [hk] at po2; exact po2.elim
      | some kk =>
        rw [hk] at po2
        have po2 : VPost X.K .fr F H (some (.dict [(v, w)])) Q := po2
        intro F2 H2 y e2 rm2
        have rm : Rp X.K F' x v := rm
        have rm2 : Rp X.K F2 y w := rm2
        obtain ⟨rfl, ry⟩ := key_of_rp rm hk
        have e3 : Ext F (upd H l (.dK [])) F2 H2 := e.trans e2
        have h2 : H2 l = some (.dK []) := e3.hh _ _ upd_same
        have fa : F l = none := free_of s.sub hl
        have fa' : F2 l = none := e3.nw l fa (by rw [upd_same]; simp)
        refine ⟨h2, [(kk, y)], rfl, by simp, ?_⟩
        have hm : RpD X.K F2 (mergeK [] [(kk, y)]) [(v, w)] := .cons (ry.mono e2.ff) rm2 .nil
        refine po2 F2 _ (.ref l) ⟨e3.ff, fun b o hb => ?_, fun b h3 h4 => ?_, fun b o hb => ?_⟩ (.inr ⟨l, _, rfl, upd_same, .dic (show 1 ≤ sizeLine by decide) hm, fa', hl⟩)
        · have hne : b ≠ l := fun g => by rw [g, hl] at hb; cases hb
          rw [upd_ne hne]
          exact e3.hh _ _ (by rw [upd_ne hne]; exact hb)
        · refine e3.nw b h3 ?_
          by_cases hne : b = l
          · rw [hne, upd_same]; simp
          · rw [upd_ne hne]; exact h4
        · have hne : b ≠ l := fun g => by rw [g, fa'] at hb; cases hb
          rw [upd_ne hne]
          exact e3.fh _ _ hb
end
end PL

end
section
namespace PL
open PySem PySem.Spec PyProof.Rows L2
def gTL (n : Nat) (gs : DGs) : DG := fun v ρ => match v with
  | .list ds => if ds.length = n then gs ds ρ else none
  | _ => none
theorem seqLm {K : Fg} {H H' : Hp} {a : Addr} {xs : List V} (e : Same H H') (h : SqL K H a xs) : SqL K H' a xs := by
  rcases h with (h | ⟨o, h⟩) | h
  · exact .inl (.inl (e _ _ h))
  · exact .inl (.inr ⟨o, e _ _ h⟩)
  · exact .inr h
section
variable {X : Cx} {W : WX} {O ts ts' : List Nat} {k : Nat} {tg : Expr} {tgs : List Expr} {g : DG} {gs : DGs} {pos : Pos}
theorem gj_lst {n j : Nat} (hc : X.calm = true) (h : GsJ X O ts tgs gs) (hn : (assignEach tgs X.env).length = n) (hst : (assignEach tgs X.env).findIdx? (·.1) = none) : GJ X O ts (.Tuple tgs j pos) (gTL n gs) := by
  obtain ⟨t, p, q⟩ := h
  refine ⟨_, pg_lst hc p hn hst, fun F0 H0 F H σ ρ x v Q s r po => ?_⟩
  unfold gTL at po
  cases r with
  | lst h1 h2 h3 =>
    rename_i a xs ds
    have po : (match (if ds.length = n then gs ds ρ else none) with
      | some ρ' => ∀ σ', SR X.K F0 H0 O F H σ' ρ' → (∀ vs : List Nat, (∀ i ∈ ts, i ∈ vs) → wipe σ' vs = wipe σ vs) → Q σ' H
      | none => False) := po
    by_cases hl : ds.length = n
    · rw [if_pos hl] at po
      exact ⟨_, _, rfl, seqLm s.sub h1, by rw [h3.length]; exact hl, q F0 H0 F H σ ρ _ _ Q s h3 po⟩
    · rw [if_neg hl] at po; exact po.elim
  | _ => exact po.elim
end
theorem unp_l2 (i j : Nat) (a b : D) (ρ : Lo) : gTL 2 (gsCons (gN i) (gsCons (gN j) gsNil)) (.list [a, b]) ρ = some ((ρ.set i (some a)).set j (some b)) := rfl
end PL

end
section
namespace PL
open PySem
@[simp] theorem bind_ok {α β : Type} (a : α) (f : α → Res β) : (Res.ok a).bind f = f a := Eq.trans rfl rfl
@[simp] theorem bind_exn {α β : Type} (a : D) (f : α → Res β) : (Res.exn a : Res α).bind f = .exn a := Eq.trans rfl rfl
@[simp] theorem up_some {α : Type} (a : α) : Res.up (some a) = .ok a := Eq.trans rfl rfl
theorem runD_eq (n : Nat) (b : DS) (ds : List D) : runD n b ds = (match b (start n ds) with
  | .nx _ => .ok .none
  | .rt v => .ok v
  | .ex e _ => .exn e
  | _ => .bad) := rfl
/-- what a block comes to: goes on, hands back, breaks, continues -/
def WS0 (r : SRes) (N : Lo → Prop) (R : D → Prop) (B C : Lo → Prop) : Prop := match r with
  | .nx ρ => N ρ
  | .rt v => R v
  | .bk ρ => B ρ
  | .ct ρ => C ρ
  | _ => False
abbrev No : Lo → Prop := fun _ => False
theorem run0_ws {n : Nat} {b : DS} {ds : List D} {P : D → Prop} (h : WS0 (b (start n ds)) (fun _ => P .none) P No No) : ∃ v, runD n b ds = .ok v ∧ P v := by
  rw [runD_eq]
  cases e : b (start n ds) with
  | nx ρ => rw [e] at h; exact ⟨_, rfl, h⟩
  | rt v => rw [e] at h; exact ⟨_, rfl, h⟩
  | _ => rw [e] at h; exact h.elim
theorem run0_eq {n : Nat} {b : DS} {ds : List D} {v : D} (h : WS0 (b (start n ds)) (fun _ => .none = v) (fun x => x = v) No No) : runD n b ds = .ok v := by
  obtain ⟨w, h1, h2⟩ := run0_ws (P := fun x => x = v) h
  rw [h1, h2]
section
variable {a b s : DS} {ρ : Lo} {N : Lo → Prop} {R : D → Prop} {B C : Lo → Prop} {e : DE} {c : DT} {v : D} {i : Nat}
theorem w0_seq (h : WS0 (a ρ) (fun ρ' => WS0 (b ρ') N R B C) R B C) : WS0 (sSeq a b ρ) N R B C := by
  unfold sSeq
  cases e : a ρ with
  | nx ρ' => rw [e] at h; exact h
  | rt v => rw [e] at h; exact h
  | bk ρ' => rw [e] at h; exact h
  | ct ρ' => rw [e] at h; exact h
  | ex c ρ' => rw [e] at h; exact h.elim
  | bad => rw [e] at h; exact h.elim
theorem w0_skip (h : N ρ) : WS0 (sSkip ρ) N R B C := h
theorem w0_set (he : e ρ = .ok v) (h : N (ρ.set i (some v))) : WS0 (sSet i e ρ) N R B C := by
  unfold sSet; rw [he]; exact h
theorem w0_setO (he : e ρ = .ok v) (hm : isMut v = true) (h : N (ρ.set i (some v))) : WS0 (sSetO i e ρ) N R B C := by
  unfold sSetO; rw [he]
  show WS0 (if isMut v = true then .nx (ρ.set i (some v)) else .bad) N R B C
  rw [if_pos hm]; exact h
theorem w0_ret (he : e ρ = .ok v) (h : R v) : WS0 (sRet e ρ) N R B C := by
  unfold sRet; rw [he]; exact h
theorem w0_expr (he : e ρ = .ok v) (h : N ρ) : WS0 (sExpr e ρ) N R B C := by
  unfold sExpr; rw [he]; exact h
theorem w0_break (h : B ρ) : WS0 (sBreak ρ) N R B C := h
theorem w0_cont (h : C ρ) : WS0 (sCont ρ) N R B C := h
theorem w0_if {k : Bool} (hc : c ρ = .ok k) (h1 : k = true → WS0 (a ρ) N R B C) (h2 : k = false → WS0 (b ρ) N R B C) : WS0 (sIf c a b ρ) N R B C := by
  unfold sIf; rw [hc]
  cases k with
  | true => exact h1 rfl
  | false => exact h2 rfl
theorem w0_ifT (hc : c ρ = .ok true) (h1 : WS0 (a ρ) N R B C) : WS0 (sIf c a b ρ) N R B C := by unfold sIf; rw [hc]; exact h1
theorem w0_ifF (hc : c ρ = .ok false) (h1 : WS0 (b ρ) N R B C) : WS0 (sIf c a b ρ) N R B C := by unfold sIf; rw [hc]; exact h1
theorem w0_last (h : WS0 (s ρ) N R B C) : WS0 (sSeq s sSkip ρ) N R B C := by
  refine w0_seq ?_
  cases e : s ρ with
  | nx ρ' => rw [e] at h; exact h
  | rt v => rw [e] at h; exact h
  | bk ρ' => rw [e] at h; exact h
  | ct ρ' => rw [e] at h; exact h
  | ex c ρ' => rw [e] at h; exact h.elim
  | bad => rw [e] at h; exact h.elim
theorem w0_par {i j : Nat} {d d' : DE} {v w : D} (h1 : d ρ = .ok v) (h2 : d' ρ = .ok w) (h : N ((ρ.set i (some v)).set j (some w))) : WS0 (sPar i j d d' ρ) N R B C := by
  unfold sPar; rw [h1]
  show WS0 (sOf (d' ρ) ρ _) N R B C
  rw [h2]; exact h
theorem w0_unp {g : DG} {ρ' : Lo} (h1 : e ρ = .ok v) (h2 : g v ρ = some ρ') (h : N ρ') : WS0 (sUnp g e ρ) N R B C := by
  unfold sUnp; rw [h1]
  show WS0 (match g v ρ with | some ρ' => .nx ρ' | none => .bad) N R B C
  rw [h2]; exact h
theorem w0_aug {f : D → D → Option D} {x y z : D} (h1 : ρ[i]? = some (some x)) (h2 : e ρ = .ok y) (h3 : f x y = some z) (h : N (ρ.set i (some z))) : WS0 (sAug i f e ρ) N R B C := by
  unfold sAug; rw [h1]
  show WS0 (sOf (e ρ) ρ _) N R B C
  rw [h2]
  show WS0 (match f x y with | some z => .nx (ρ.set i (some z)) | none => .bad) N R B C
  rw [h3]; exact h
theorem w0_app {ds : List D} (h1 : ρ[i]? = some (some (.list ds))) (h2 : e ρ = .ok v) (h3 : ds.length < sizeLine) (h : N (ρ.set i (some (.list (ds ++ [v]))))) : WS0 (sApp i e ρ) N R B C := by
  unfold sApp; rw [h1]
  show WS0 (sOf (e ρ) ρ _) N R B C
  rw [h2]
  show WS0 (if ds.length < sizeLine then .nx (ρ.set i (some (.list (ds ++ [v])))) else .bad) N R B C
  rw [if_pos h3]; exact h
theorem w0_store {ds : List D} {k : DE} {j : Int} {n : Nat} (h1 : e ρ = .ok v) (h2 : ρ[i]? = some (some (.list ds))) (h3 : k ρ = .ok (.int j)) (h4 : L2.ixN ds.length j = some n) (h : N (ρ.set i (some (.list (ds.set n v))))) : WS0 (sStore i k e ρ) N R B C := by
  unfold sStore; rw [h1]
  show WS0 (match ρ[i]? with | some (some (.list ds)) => (sOf (k ρ) ρ fun kv => (match storeD (.list ds) kv v with | some o' => .nx (ρ.set i (some o')) | none => .bad)) | _ => .bad) N R B C
  rw [h2]
  show WS0 (sOf (k ρ) ρ fun kv => match storeD (.list ds) kv v with | some o' => .nx (ρ.set i (some o')) | none => .bad) N R B C
  rw [h3]
  show WS0 (match (L2.ixN ds.length j).map fun n => PyData.list (ds.set n v) with | some o' => .nx (ρ.set i (some o')) | none => .bad) N R B C
  rw [h4]; exact h
/-- a for: P of what is left and of the slots -/
theorem w0_for {g : DG} {it : DA} {ds : List D} (P : List D → Lo → Prop) (hi : it ρ = .ok ds) (h0 : P ds ρ) (hs : ∀ x xs ρ, P (x :: xs) ρ → ∃ ρ1, g x ρ = some ρ1 ∧ WS0 (s ρ1) (P xs) R N (P xs)) (hN : ∀ ρ, P [] ρ → N ρ) : WS0 (sFor g it s ρ) N R B C := by
  unfold sFor; rw [hi]
  show WS0 (forD g s ds ρ) N R B C
  clear hi
  induction ds generalizing ρ with
  | nil => exact hN ρ h0
  | cons x xs ih =>
    obtain ⟨ρ1, h1, h2⟩ := hs x xs ρ h0
    rw [forD_cons, h1]
    show WS0 (match s ρ1 with | .nx ρ2 => forD g s xs ρ2 | .ct ρ2 => forD g s xs ρ2 | .bk ρ2 => .nx ρ2 | r => r) N R B C
    cases hb : s ρ1 with
    | nx ρ2 => rw [hb] at h2; exact ih h2
    | ct ρ2 => rw [hb] at h2; exact ih h2
    | bk ρ2 => rw [hb] at h2; exact h2
    | rt v => rw [hb] at h2; exact h2
    | ex c ρ2 => rw [hb] at h2; exact h2.elim
    | bad => rw [hb] at h2; exact h2.elim
/-- a for over encoded items -/
theorem w0_forE {α : Type} {g : DG} {it : DA} (enc : α → D) (l : List α) (P : List α → Lo → Prop) (hi : it ρ = .ok (l.map enc)) (h0 : P l ρ) (hs : ∀ x xs ρ, P (x :: xs) ρ → ∃ ρ1, g (enc x) ρ = some ρ1 ∧ WS0 (s ρ1) (P xs) R N (P xs)) (hN : ∀ ρ, P [] ρ → N ρ) : WS0 (sFor g it s ρ) N R B C := by
  refine w0_for (fun ds ρ => ∃ l', ds = l'.map enc ∧ P l' ρ) hi ⟨l, rfl, h0⟩ (fun x xs ρ h => ?_) (fun ρ h => ?_)
  · obtain ⟨l', e, p⟩ := h
    cases l' with
    | nil => cases e
    | cons y ys =>
      cases e
      obtain ⟨ρ1, h1, h2⟩ := hs y ys ρ p
      refine ⟨ρ1, h1, ?_⟩
      cases hb : s ρ1 with
      | nx ρ2 => rw [hb] at h2; exact ⟨ys, rfl, h2⟩
      | ct ρ2 => rw [hb] at h2; exact ⟨ys, rfl, h2⟩
      | bk ρ2 => rw [hb] at h2; exact h2
      | rt v => rw [hb] at h2; exact h2
      | ex c ρ2 => rw [hb] at h2; exact h2.elim
      | bad => rw [hb] at h2; exact h2.elim
  · obtain ⟨l', e, p⟩ := h
    cases l' with
    | nil => exact hN ρ p
    | cons y ys => cases e
/-- a while: P with its measure -/
theorem w0_while {n : Nat} (P : Nat → Lo → Prop) {k : Nat} (hk : k < n) (h0 : P k ρ) (hs : ∀ k ρ, P k ρ → ∃ b, c ρ = .ok b ∧ (b = true → WS0 (s ρ) (fun ρ' => ∃ j, j < k ∧ P j ρ') R N (fun ρ' => ∃ j, j < k ∧ P j ρ')) ∧ (b = false → N ρ)) : WS0 (sWhile n c s ρ) N R B C := by
  unfold sWhile
  induction n generalizing k ρ with
  | zero => omega
  | succ n ih =>
    obtain ⟨b, h1, h2, h3⟩ := hs k ρ h0
    rw [whileD_succ, h1]
    cases b with
    | false => exact h3 rfl
    | true =>
      have h2 := h2 rfl
      show WS0 (match s ρ with | .nx ρ2 => whileD c s n ρ2 | .ct ρ2 => whileD c s n ρ2 | .bk ρ2 => .nx ρ2 | r => r) N R B C
      cases hb : s ρ with
      | nx ρ2 => rw [hb] at h2; obtain ⟨j, hj, p⟩ := h2; exact ih (by omega) p
      | ct ρ2 => rw [hb] at h2; obtain ⟨j, hj, p⟩ := h2; exact ih (by omega) p
      | bk ρ2 => rw [hb] at h2; exact h2
      | rt v => rw [hb] at h2; exact h2
      | ex c ρ2 => rw [hb] at h2; exact h2.elim
      | bad => rw [hb] at h2; exact h2.elim
end
theorem WS0.mono {r : SRes} {N N' : Lo → Prop} {R R' : D → Prop} {B B' C C' : Lo → Prop} (h : WS0 r N R B C) (hN : ∀ ρ, N ρ → N' ρ) (hR : ∀ v, R v → R' v) (hB : ∀ ρ, B ρ → B' ρ) (hC : ∀ ρ, C ρ → C' ρ) : WS0 r N' R' B' C' := by
  cases r with
  | nx ρ => exact hN _ h
  | rt v => exact hR _ h
  | bk ρ => exact hB _ h
  | ct ρ => exact hC _ h
  | ex _ _ => exact h.elim
  | bad => exact h.elim
structure WS (r : SRes) (N : Lo → Prop) (R : D → Prop) (B C : Lo → Prop) : Prop where
  go : WS0 r N R B C
theorem WS.mono {r : SRes} {N N' : Lo → Prop} {R R' : D → Prop} {B B' C C' : Lo → Prop} (h : WS r N R B C) (hN : ∀ ρ, N ρ → N' ρ) (hR : ∀ v, R v → R' v) (hB : ∀ ρ, B ρ → B' ρ) (hC : ∀ ρ, C ρ → C' ρ) : WS r N' R' B' C' := ⟨h.go.mono hN hR hB hC⟩
theorem WS0.un {r : SRes} {f : Lo → SRes} {N : Lo → Prop} {R : D → Prop} {B C : Lo → Prop} {R2 : D → Prop} {B2 C2 : Lo → Prop} (h : WS r (fun ρ' => WS (f ρ') N R B C) R2 B2 C2) : WS0 r (fun ρ' => WS0 (f ρ') N R B C) R2 B2 C2 :=
  h.go.mono (fun _ h => h.go) (fun _ h => h) (fun _ h => h) (fun _ h => h)
theorem run_ws {n : Nat} {b : DS} {ds : List D} {P : D → Prop} (h : WS (b (start n ds)) (fun _ => P .none) P No No) : ∃ v, runD n b ds = .ok v ∧ P v := run0_ws h.go
theorem run_eq {n : Nat} {b : DS} {ds : List D} {v : D} (h : WS (b (start n ds)) (fun _ => .none = v) (fun x => x = v) No No) : runD n b ds = .ok v := run0_eq h.go
section
variable {a b s : DS} {ρ : Lo} {N : Lo → Prop} {R : D → Prop} {B C : Lo → Prop} {e : DE} {c : DT} {v : D} {i : Nat}
theorem ws_seq (h : WS (a ρ) (fun ρ' => WS (b ρ') N R B C) R B C) : WS (sSeq a b ρ) N R B C := ⟨w0_seq (WS0.un h)⟩
theorem ws_skip (h : N ρ) : WS (sSkip ρ) N R B C := ⟨w0_skip h⟩
theorem ws_set (he : e ρ = .ok v) (h : N (ρ.set i (some v))) : WS (sSet i e ρ) N R B C := ⟨w0_set he h⟩
theorem ws_setO (he : e ρ = .ok v) (hm : isMut v = true) (h : N (ρ.set i (some v))) : WS (sSetO i e ρ) N R B C := ⟨w0_setO he hm h⟩
theorem ws_ret (he : e ρ = .ok v) (h : R v) : WS (sRet e ρ) N R B C := ⟨w0_ret he h⟩
theorem ws_expr (he : e ρ = .ok v) (h : N ρ) : WS (sExpr e ρ) N R B C := ⟨w0_expr he h⟩
theorem ws_break (h : B ρ) : WS (sBreak ρ) N R B C := ⟨h⟩
theorem ws_cont (h : C ρ) : WS (sCont ρ) N R B C := ⟨h⟩
theorem ws_if {k : Bool} (hc : c ρ = .ok k) (h1 : k = true → WS (a ρ) N R B C) (h2 : k = false → WS (b ρ) N R B C) : WS (sIf c a b ρ) N R B C := ⟨w0_if hc (fun h => (h1 h).go) (fun h => (h2 h).go)⟩
theorem ws_ifT (hc : c ρ = .ok true) (h1 : WS (a ρ) N R B C) : WS (sIf c a b ρ) N R B C := ⟨w0_ifT hc h1.go⟩
theorem ws_ifF (hc : c ρ = .ok false) (h1 : WS (b ρ) N R B C) : WS (sIf c a b ρ) N R B C := ⟨w0_ifF hc h1.go⟩
theorem ws_last (h : WS (s ρ) N R B C) : WS (sSeq s sSkip ρ) N R B C := ws_seq (h.mono (fun _ h => ws_skip h) (fun _ h => h) (fun _ h => h) (fun _ h => h))
/-- what holds behind the first statement -/
theorem ws_cut (M : Lo → Prop) (h : WS (a ρ) M R B C) (h2 : ∀ ρ', M ρ' → WS (b ρ') N R B C) : WS (sSeq a b ρ) N R B C := ws_seq (h.mono h2 (fun _ h => h) (fun _ h => h) (fun _ h => h))
/-- an if whose test fails, and on -/
theorem ws_off (hc : c ρ = .ok false) (h : WS (b ρ) N R B C) : WS (sSeq (sIf c a sSkip) b ρ) N R B C :=
  ws_seq (ws_ifF hc (ws_skip h))
/-- an if whose test holds -/
theorem ws_on (hc : c ρ = .ok true) (h : WS (a ρ) (fun ρ' => WS (b ρ') N R B C) R B C) : WS (sSeq (sIf c a s) b ρ) N R B C :=
  ws_seq (ws_ifT hc h)
/-- an if whose test holds and whose body hands back -/
theorem ws_onret (hc : c ρ = .ok true) (he : e ρ = .ok v) (h : R v) : WS (sSeq (sIf c (sSeq (sRet e) sSkip) s) b ρ) N R B C :=
  ws_on hc (ws_seq (ws_ret he h))
theorem ws_put (he : e ρ = .ok v) (h : WS (b (ρ.set i (some v))) N R B C) : WS (sSeq (sSet i e) b ρ) N R B C := ws_seq (ws_set he h)
theorem ws_putO (he : e ρ = .ok v) (hm : isMut v = true) (h : WS (b (ρ.set i (some v))) N R B C) : WS (sSeq (sSetO i e) b ρ) N R B C := ws_seq (ws_setO he hm h)
theorem ws_back (he : e ρ = .ok v) (h : R v) : WS (sSeq (sRet e) b ρ) N R B C := ws_seq (ws_ret he h)
theorem ws_par {i j : Nat} {d d' : DE} {v w : D} (h1 : d ρ = .ok v) (h2 : d' ρ = .ok w) (h : N ((ρ.set i (some v)).set j (some w))) : WS (sPar i j d d' ρ) N R B C := ⟨w0_par h1 h2 h⟩
theorem ws_unp {g : DG} {ρ' : Lo} (h1 : e ρ = .ok v) (h2 : g v ρ = some ρ') (h : N ρ') : WS (sUnp g e ρ) N R B C := ⟨w0_unp h1 h2 h⟩
theorem ws_aug {f : D → D → Option D} {x y z : D} (h1 : ρ[i]? = some (some x)) (h2 : e ρ = .ok y) (h3 : f x y = some z) (h : N (ρ.set i (some z))) : WS (sAug i f e ρ) N R B C := ⟨w0_aug h1 h2 h3 h⟩
theorem ws_app {ds : List D} (h1 : ρ[i]? = some (some (.list ds))) (h2 : e ρ = .ok v) (h3 : ds.length < 16777216) (h : N (ρ.set i (some (.list (ds ++ [v]))))) : WS (sApp i e ρ) N R B C := ⟨w0_app h1 h2 (by rw [show sizeLine = 16777216 by decide]; exact h3) h⟩
theorem ws_store {ds : List D} {k : DE} {j : Int} {n : Nat} (h1 : e ρ = .ok v) (h2 : ρ[i]? = some (some (.list ds))) (h3 : k ρ = .ok (.int j)) (h4 : L2.ixN ds.length j = some n) (h : N (ρ.set i (some (.list (ds.set n v))))) : WS (sStore i k e ρ) N R B C := ⟨w0_store h1 h2 h3 h4 h⟩
/-- a for: P of what is left and of the slots -/
theorem ws_for {g : DG} {it : DA} {ds : List D} (P : List D → Lo → Prop) (hi : it ρ = .ok ds) (h0 : P ds ρ) (hs : ∀ x xs ρ, P (x :: xs) ρ → ∃ ρ1, g x ρ = some ρ1 ∧ WS (s ρ1) (P xs) R N (P xs)) (hN : ∀ ρ, P [] ρ → N ρ) : WS (sFor g it s ρ) N R B C :=
  ⟨w0_for P hi h0 (fun x xs ρ p => (hs x xs ρ p).imp fun _ h => ⟨h.1, h.2.go⟩) hN⟩
/-- a for over encoded items -/
theorem ws_forE {α : Type} {g : DG} {it : DA} (enc : α → D) (l : List α) (P : List α → Lo → Prop) (hi : it ρ = .ok (l.map enc)) (h0 : P l ρ) (hs : ∀ x xs ρ, P (x :: xs) ρ → ∃ ρ1, g (enc x) ρ = some ρ1 ∧ WS (s ρ1) (P xs) R N (P xs)) (hN : ∀ ρ, P [] ρ → N ρ) : WS (sFor g it s ρ) N R B C :=
  ⟨w0_forE enc l P hi h0 (fun x xs ρ p => (hs x xs ρ p).imp fun _ h => ⟨h.1, h.2.go⟩) hN⟩
/-- a while: P with its measure -/
theorem ws_while {n : Nat} (P : Nat → Lo → Prop) {k : Nat} (hk : k < n) (h0 : P k ρ) (hs : ∀ k ρ, P k ρ → ∃ b, c ρ = .ok b ∧ (b = true → WS (s ρ) (fun ρ' => ∃ j, j < k ∧ P j ρ') R N (fun ρ' => ∃ j, j < k ∧ P j ρ')) ∧ (b = false → N ρ)) : WS (sWhile n c s ρ) N R B C :=
  ⟨w0_while P hk h0 (fun k ρ p => (hs k ρ p).imp fun _ h => ⟨h.1, fun hb => (h.2.1 hb).go, h.2.2⟩)⟩
end
theorem comp_map {α : Type} {g : DG} {e : DE} {ρ : Lo} (enc f : α → D) : ∀ (l : List α), (∀ a ∈ l, ∃ ρ1, g (enc a) ρ = some ρ1 ∧ e ρ1 = .ok (f a)) → compD g tTrue e (l.map enc) ρ = some (l.map f)
  | [], _ => rfl
  | a :: l, h => by
    obtain ⟨ρ1, h1, h2⟩ := h a (by simp)
    have ih := comp_map enc f l fun b hb => h b (by simp [hb])
    simp [compD, h1, h2, tTrue, ih]
theorem comp_filter {α : Type} {g : DG} {c : DT} {e : DE} {ρ : Lo} (enc f : α → D) (p : α → Bool) : ∀ (l : List α), (∀ a ∈ l, ∃ ρ1, g (enc a) ρ = some ρ1 ∧ c ρ1 = .ok (p a) ∧ (p a = true → e ρ1 = .ok (f a))) → compD g c e (l.map enc) ρ = some ((l.filter p).map f)
  | [], _ => rfl
  | a :: l, h => by
    obtain ⟨ρ1, h1, h2, h3⟩ := h a (by simp)
    have ih := comp_filter enc f p l fun b hb => h b (by simp [hb])
    cases hp : p a with
    | true => simp [compD, h1, h2, hp, h3 hp, ih]
    | false => simp [compD, h1, h2, hp, ih]
/-- a comprehension without a test -/
theorem eComp_map {α : Type} {vs : List Nat} {g : DG} {it : DA} {e : DE} {ρ : Lo} (enc f : α → D) (l : List α) (hi : it ρ = .ok (l.map enc)) (h : ∀ a ∈ l, ∃ ρ1, g (enc a) (wipeD ρ vs) = some ρ1 ∧ e ρ1 = .ok (f a)) : eComp vs g it tTrue e ρ = .ok (.list (l.map f)) := by
  unfold eComp
  rw [hi, bind_ok, comp_map enc f l h]; rfl
theorem eComp_filter {α : Type} {vs : List Nat} {g : DG} {it : DA} {c : DT} {e : DE} {ρ : Lo} (enc f : α → D) (p : α → Bool) (l : List α) (hi : it ρ = .ok (l.map enc)) (h : ∀ a ∈ l, ∃ ρ1, g (enc a) (wipeD ρ vs) = some ρ1 ∧ c ρ1 = .ok (p a) ∧ (p a = true → e ρ1 = .ok (f a))) : eComp vs g it c e ρ = .ok (.list ((l.filter p).map f)) := by
  unfold eComp
  rw [hi, bind_ok, comp_filter enc f p l h]; rfl
theorem mulOk_of {i j : Int} {a b : Nat} (ha : i.natAbs < 2 ^ a) (hb : j.natAbs < 2 ^ b) (h0 : 0 < a) (h1 : 0 < b) (h : a + b ≤ 1000000) : mulOk i j = true :=
  decide_eq_true (L2.wide_mul ha hb h0 h1 h)
theorem mulOk_64 {i j : Int} (h1 : -18446744073709551616 < i) (h2 : i < 18446744073709551616) (h3 : -18446744073709551616 < j) (h4 : j < 18446744073709551616) : mulOk i j = true :=
  mulOk_of (a := 64) (b := 64) (by omega) (by omega) (by decide) (by decide) (by decide)
theorem line_eq : sizeLine = 16777216 := by decide
theorem atI_nat' {α : Type} {l : List α} {k : Nat} (h : k < l.length) : L2.atI l (k : Int) = some l[k] := by
  unfold L2.atI L2.ixN
  rw [if_pos (by omega), if_pos (by omega)]
  simp
theorem atI_map {α β : Type} (f : α → β) (l : List α) (i : Int) : L2.atI (l.map f) i = (L2.atI l i).map f := by
  unfold L2.atI
  rw [List.length_map]
  cases L2.ixN l.length i with
  | none => rfl
  | some j => simp
theorem atI_getD {l : List Int} {i : Int} (h0 : 0 ≤ i) (h : i < l.length) : L2.atI l i = some (l.getD i.toNat 0) := by
  unfold L2.atI L2.ixN
  rw [if_pos h0, if_pos h]
  have : i.toNat < l.length := by omega
  simp [List.getD, this]
end PL

end
section
namespace PL
open PySem L2
theorem vMod_pos {i j : Int} (h : 0 < j) : vMod (.int i) (.int j) = some (.int (i % j)) := if_pos h
theorem log2_lt {n k : Nat} (h : n < 2 ^ k) (hk : 0 < k) : n.log2 < k := by
  by_cases h0 : n = 0
  · subst h0; simpa using hk
  · exact (Nat.log2_lt h0).2 h
theorem vDiv_pos {i j : Int} (h : 0 < j) (h2 : j < 18446744073709551616) : vDiv (.int i) (.int j) = some (.int (i / j)) := by
  show (if 0 < j then (if j.natAbs.log2 < 9000 then some (PyData.int (i / j)) else none) else _) = _
  rw [if_pos h, if_pos]
  exact Nat.lt_trans (log2_lt (k := 64) (by omega) (by decide)) (by decide)
theorem vMul_ok {i j : Int} (h : mulOk i j = true) : vMul (.int i) (.int j) = some (.int (i * j)) := if_pos h
theorem vMul_64 {i j : Int} (h1 : -18446744073709551616 < i) (h2 : i < 18446744073709551616) (h3 : -18446744073709551616 < j) (h4 : j < 18446744073709551616) : vMul (.int i) (.int j) = some (.int (i * j)) := vMul_ok (mulOk_64 h1 h2 h3 h4)
theorem vPow_nat {i j : Int} (h : 0 ≤ j) (h2 : j ≤ 1000000) (h3 : i.natAbs < 2 ^ 64) : vPow (.int i) (.int j) = some (.int (i ^ j.toNat)) := if_pos ⟨h, h2, h3⟩
theorem vPow18 : vPow (.int 10) (.int 18) = some (.int 1000000000000000000) := rfl
theorem vPow12 : vPow (.int 10) (.int 12) = some (.int 1000000000000) := rfl
theorem vAdd_int (i j : Int) : vAdd (.int i) (.int j) = some (.int (i + j)) := rfl
theorem vSub_int (i j : Int) : vSub (.int i) (.int j) = some (.int (i - j)) := rfl
theorem vNeg_int (i : Int) : vNeg (.int i) = some (.int (-i)) := rfl
theorem vAbs_int (i : Int) : vAbs (.int i) = some (.int (if i < 0 then -i else i)) := rfl
theorem vInt_int (i : Int) : vInt (.int i) = some (.int i) := rfl
theorem vInt_bool (i : Bool) : vInt (.bool i) = some (.int (if i then 1 else 0)) := rfl
theorem vLt_int (i j : Int) : vLt (.int i) (.int j) = some (.bool (decide (i < j))) := rfl
theorem vLe_int (i j : Int) : vLe (.int i) (.int j) = some (.bool (decide (i ≤ j))) := rfl
theorem vGt_int (i j : Int) : vGt (.int i) (.int j) = some (.bool (decide (j < i))) := rfl
theorem vGe_int (i j : Int) : vGe (.int i) (.int j) = some (.bool (decide (j ≤ i))) := rfl
theorem vTuple_list (l : List D) : vTuple (.list l) = some (.tuple l) := rfl
theorem vTuple_tup (l : List D) : vTuple (.tuple l) = some (.tuple l) := rfl
theorem vList_list (l : List D) : vList (.list l) = some (.list l) := rfl
theorem vList_tup (l : List D) : vList (.tuple l) = some (.list l) := rfl
theorem asB_bool (b : Bool) : asB (.bool b) = some b := rfl
theorem asI_int (b : Int) : asI (.int b) = some b := rfl
theorem vBool_bool (b : Bool) : vBool (.bool b) = some (.bool b) := rfl
theorem vBool_int (b : Int) : vBool (.int b) = some (.bool (b != 0)) := rfl
theorem truthD_bool (b : Bool) : truthD (.bool b) = b := rfl
theorem truthD_int (b : Int) : truthD (.int b) = (b != 0) := rfl
theorem truthD_tup (b : List D) : truthD (.tuple b) = !b.isEmpty := rfl
theorem truthD_list (b : List D) : truthD (.list b) = !b.isEmpty := rfl
theorem truthD_none : truthD .none = false := rfl
theorem vMax2_int (i j : Int) : vMax2 (.int i) (.int j) = some (.int (if j > i then j else i)) := rfl
theorem vMin2_int (i j : Int) : vMin2 (.int i) (.int j) = some (.int (if j < i then j else i)) := rfl
theorem mul_lit2 (j : Int) (h : j.natAbs < 2 ^ 64) : vMul (.int 2) (.int j) = some (.int (2 * j)) := vMul_ok (mulOk_of (a := 64) (b := 64) (by decide) h (by decide) (by decide) (by decide))
theorem fine_int (i : Int) : fine (.int i) = true := rfl
theorem fine_bool (i : Bool) : fine (.bool i) = true := rfl
theorem fine_str (i : Str) : fine (.str i) = true := rfl
theorem fine_none : fine .none = true := rfl
theorem vEq_int (i j : Int) : vEq (.int i) (.int j) = some (.bool (decide (i = j))) := by
  show (if _ then some (PyData.bool (PyData.eqv (.int i) (.int j))) else none) = _
  rw [if_pos ⟨rfl, rfl⟩]
  simp only [PyData.eqv, Option.some.injEq, PyData.bool.injEq]
  exact Bool.eq_iff_iff.2 (by simp)
theorem vNe_int (i j : Int) : vNe (.int i) (.int j) = some (.bool (decide (i ≠ j))) := by
  show (if _ then some (PyData.bool (!PyData.eqv (.int i) (.int j))) else none) = _
  rw [if_pos ⟨rfl, rfl⟩]
  simp only [PyData.eqv, Option.some.injEq, PyData.bool.injEq]
  exact Bool.eq_iff_iff.2 (by simp)
theorem vEq_bool (i j : Bool) : vEq (.bool i) (.bool j) = some (.bool (decide (i = j))) := by
  show (if _ then some (PyData.bool (PyData.eqv (.bool i) (.bool j))) else none) = _
  rw [if_pos ⟨rfl, rfl⟩]
  simp only [PyData.eqv, Option.some.injEq, PyData.bool.injEq]
  exact Bool.eq_iff_iff.2 (by simp)
theorem vNe_bool (i j : Bool) : vNe (.bool i) (.bool j) = some (.bool (decide (i ≠ j))) := by
  show (if _ then some (PyData.bool (!PyData.eqv (.bool i) (.bool j))) else none) = _
  rw [if_pos ⟨rfl, rfl⟩]
  simp only [PyData.eqv, Option.some.injEq, PyData.bool.injEq]
  exact Bool.eq_iff_iff.2 (by simp)
theorem vNe_str (i j : Str) : vNe (.str i) (.str j) = some (.bool (decide (i ≠ j))) := by
  show (if _ then some (PyData.bool (!PyData.eqv (.str i) (.str j))) else none) = _
  rw [if_pos ⟨rfl, rfl⟩]
  simp only [PyData.eqv, Option.some.injEq, PyData.bool.injEq]
  exact Bool.eq_iff_iff.2 (by simp)
theorem vEq_str (i j : Str) : vEq (.str i) (.str j) = some (.bool (decide (i = j))) := by
  show (if _ then some (PyData.bool (PyData.eqv (.str i) (.str j))) else none) = _
  rw [if_pos ⟨rfl, rfl⟩]
  simp only [PyData.eqv, Option.some.injEq, PyData.bool.injEq]
  exact Bool.eq_iff_iff.2 (by simp)
theorem noDicts_int : ∀ l : List Int, noDicts (l.map .int) = true
  | [] => rfl
  | _ :: l => by simp [noDicts, noDict, noDicts_int l]
theorem depthAll_int : ∀ l : List Int, PyData.depthAll (l.map .int) = 0
  | [] => rfl
  | a :: l => by simp [PyData.depthAll, PyData.depth, depthAll_int l]
theorem fine_tupI (l : List Int) : fine (.tuple (l.map .int)) = true := by
  simp [fine, noDict, noDicts_int, PyData.depth, depthAll_int]
theorem fine_listI (l : List Int) : fine (.list (l.map .int)) = true := by
  simp [fine, noDict, noDicts_int, PyData.depth, depthAll_int]
theorem eqvAll_int : ∀ l m : List Int, PyData.eqvAll (l.map .int) (m.map .int) = decide (l = m)
  | [], [] => rfl
  | [], _ :: _ => by simp [PyData.eqvAll]
  | _ :: _, [] => by simp [PyData.eqvAll]
  | a :: l, b :: m => by
    simp only [List.map_cons, PyData.eqvAll, PyData.eqv, eqvAll_int l m]
    exact Bool.eq_iff_iff.2 (by simp)
theorem vEq_tupI (l m : List Int) : vEq (.tuple (l.map .int)) (.tuple (m.map .int)) = some (.bool (decide (l = m))) := by
  show (if _ then some (PyData.bool (PyData.eqvAll _ _)) else none) = _
  rw [if_pos ⟨fine_tupI l, fine_tupI m⟩, eqvAll_int]
theorem vNe_tupI (l m : List Int) : vNe (.tuple (l.map .int)) (.tuple (m.map .int)) = some (.bool (decide (l ≠ m))) := by
  show (if _ then some (PyData.bool (!PyData.eqvAll _ _)) else none) = _
  rw [if_pos ⟨fine_tupI l, fine_tupI m⟩, eqvAll_int]
  exact congrArg (fun b => some (PyData.bool b)) (Bool.eq_iff_iff.2 (by simp))
theorem vEq_listI (l m : List Int) : vEq (.list (l.map .int)) (.list (m.map .int)) = some (.bool (decide (l = m))) := by
  show (if _ then some (PyData.bool (PyData.eqvAll _ _)) else none) = _
  rw [if_pos ⟨fine_listI l, fine_listI m⟩, eqvAll_int]
theorem vIdx_list {l : List D} {i : Int} (h0 : 0 ≤ i) (h : i < l.length) : vIdx (.list l) (.int i) = l[i.toNat]? := by
  show L2.atI l i = _
  unfold L2.atI L2.ixN
  rw [if_pos h0, if_pos h]; rfl
theorem vIdx_tup {l : List D} {i : Int} (h0 : 0 ≤ i) (h : i < l.length) : vIdx (.tuple l) (.int i) = l[i.toNat]? := vIdx_list h0 h
theorem vIdx_listI {l : List Int} {i : Int} (h0 : 0 ≤ i) (h : i < l.length) : vIdx (.list (l.map .int)) (.int i) = some (.int (l.getD i.toNat 0)) := by
  rw [vIdx_list h0 (by simpa using h)]
  have : i.toNat < l.length := by omega
  simp [List.getD, this]
theorem vIdx_tupI {l : List Int} {i : Int} (h0 : 0 ≤ i) (h : i < l.length) : vIdx (.tuple (l.map .int)) (.int i) = some (.int (l.getD i.toNat 0)) := vIdx_listI h0 h
theorem vLen_list (l : List D) : vLen (.list l) = some (.int l.length) := rfl
theorem vLen_tup (l : List D) : vLen (.tuple l) = some (.int l.length) := rfl
theorem vLen_listI (l : List Int) : vLen (.list (l.map .int)) = some (.int l.length) := by rw [vLen_list, List.length_map]
theorem vLen_tupI (l : List Int) : vLen (.tuple (l.map .int)) = some (.int l.length) := by rw [vLen_tup, List.length_map]
theorem getD_mem {l : List Int} {i : Nat} (h : i < l.length) : l.getD i 0 ∈ l := by
  simp [List.getD, h]
theorem sIx_nat {n d k : Nat} (h : k ≤ n) : HT.sIx n d (some (k : Int)) = k := by
  unfold HT.sIx
  show (if (k : Int) < 0 then _ else min (k : Int).toNat n) = k
  rw [if_neg (by omega)]; omega
theorem vSlice_to {l : List D} {k : Nat} (h : k ≤ l.length) : vSlice (.tuple l) none (some (k : Int)) = some (.tuple (l.take k)) := by
  show some (PyData.tuple ((l.drop 0).take (HT.sIx l.length l.length (some (k : Int)) - 0))) = _
  rw [sIx_nat h]; rfl
theorem vSlice_from {l : List D} {k : Nat} (h : k ≤ l.length) : vSlice (.tuple l) (some (k : Int)) none = some (.tuple (l.drop k)) := by
  show some (PyData.tuple ((l.drop (HT.sIx l.length 0 (some (k : Int)))).take (l.length - HT.sIx l.length 0 (some (k : Int))))) = _
  rw [sIx_nat h, List.take_of_length_le (by simp)]
theorem vSlice_toI {l : List Int} {k : Nat} (h : k ≤ l.length) : vSlice (.tuple (l.map .int)) none (some (k : Int)) = some (.tuple ((l.take k).map .int)) := by
  rw [vSlice_to (by simpa using h), List.map_take]
theorem vAdd_tup {a b : List D} (h : a.length + b.length ≤ 16777216) : vAdd (.tuple a) (.tuple b) = some (.tuple (a ++ b)) := if_pos (by rw [show sizeLine = 16777216 by decide]; exact h)
theorem vAdd_list {a b : List D} (h : a.length + b.length ≤ 16777216) : vAdd (.list a) (.list b) = some (.list (a ++ b)) := if_pos (by rw [show sizeLine = 16777216 by decide]; exact h)
theorem vAdd_tupI {a b : List Int} (h : a.length + b.length ≤ 16777216) : vAdd (.tuple (a.map .int)) (.tuple (b.map .int)) = some (.tuple ((a ++ b).map .int)) := by
  rw [vAdd_tup (by simpa using h), List.map_append]
theorem vSlice_fromI {l : List Int} {k : Nat} (h : k ≤ l.length) : vSlice (.tuple (l.map .int)) (some (k : Int)) none = some (.tuple ((l.drop k).map .int)) := by
  rw [vSlice_from (by simpa using h), List.map_drop]
theorem rangeD_nat (lo hi : Int) : rangeD lo hi = (List.range (hi - lo).toNat).map fun i => .int (lo + (i : Nat)) := rfl
theorem rangeD0 (n : Nat) : rangeD 0 (n : Int) = (List.range n).map fun i : Nat => PyData.int (i : Nat) := by
  simp [rangeD]
theorem inR_i {i : Int} (h : -4611686018427387904 ≤ i) (h2 : i < 4611686018427387904) : inR i = true := by
  simp [inR]; omega
theorem iR1_nat {b : Bool} {d : DE} {ρ : Lo} {n : Nat} (h : d ρ = .ok (.int n)) (hn : n ≤ 16777216) : iR1 b d ρ = .ok ((List.range n).map fun i : Nat => PyData.int (i : Nat)) := by
  unfold iR1
  rw [h, bind_ok]
  show Res.up (if inR (n : Int) = true ∧ (b = true → (n : Int).toNat ≤ sizeLine) then some (rangeD 0 n) else none) = _
  rw [if_pos ⟨inR_i (by omega) (by omega), fun _ => by rw [line_eq]; omega⟩, rangeD0]; rfl
theorem iR2_nat {b : Bool} {d d' : DE} {ρ : Lo} {lo hi : Nat} (h : d ρ = .ok (.int lo)) (h' : d' ρ = .ok (.int hi)) (hn : lo ≤ 16777216) (hn : hi ≤ 16777216) : iR2 b d d' ρ = .ok ((List.range' lo (hi - lo)).map fun i : Nat => PyData.int (i : Nat)) := by
  unfold iR2
  rw [h, bind_ok, h', bind_ok]
  show Res.up (if inR (lo : Int) = true ∧ inR (hi : Int) = true ∧ (b = true → ((hi : Int) - lo).toNat ≤ sizeLine) then some (rangeD lo hi) else none) = _
  rw [if_pos ⟨inR_i (by omega) (by omega), inR_i (by omega) (by omega), fun _ => by rw [line_eq]; omega⟩]
  rw [up_some, rangeD, List.range'_eq_map_range, List.map_map]
  have : ((hi : Int) - lo).toNat = hi - lo := by omega
  rw [this]
  congr 1
theorem eUn_ok {f : D → Option D} {e : DE} {ρ : Lo} {v w : D} (h : e ρ = .ok v) (h2 : f v = some w) : eUn f e ρ = .ok w := by
  unfold eUn; rw [h, bind_ok, h2]; rfl
theorem vAll_map {α : Type} (l : List α) (f : α → Bool) : vAll (.list (l.map fun a => .bool (f a))) = some (.bool (l.all f)) := by
  have : (l.map fun a => PyData.bool (f a)) = (l.map f).map .bool := by simp
  show (allBool _).map _ = _
  rw [this, allBool_map]; simp
theorem vAny_map {α : Type} (l : List α) (f : α → Bool) : vAny (.list (l.map fun a => .bool (f a))) = some (.bool (l.any f)) := by
  have : (l.map fun a => PyData.bool (f a)) = (l.map f).map .bool := by simp
  show (allBool _).map _ = _
  rw [this, allBool_map]; simp
theorem vSum_map {α : Type} (l : List α) (f : α → Int) : vSum2 (.list (l.map fun a => .int (f a))) = some (.int (l.map f).sum) := by
  have : (l.map fun a => PyData.int (f a)) = (l.map f).map .int := by simp
  show (allInt _).map _ = _
  rw [this, allInt_map]; simp
theorem eAll_comp {α : Type} {vs : List Nat} {g : DG} {it : DA} {e : DE} {ρ : Lo} (enc : α → D) (f : α → Bool) (l : List α) (hi : it ρ = .ok (l.map enc)) (h : ∀ a ∈ l, ∃ ρ1, g (enc a) (wipeD ρ vs) = some ρ1 ∧ e ρ1 = .ok (.bool (f a))) : eUn vAll (eComp vs g it tTrue e) ρ = .ok (.bool (l.all f)) :=
  eUn_ok (eComp_map enc (fun a => .bool (f a)) l hi h) (vAll_map l f)
theorem eAny_comp {α : Type} {vs : List Nat} {g : DG} {it : DA} {e : DE} {ρ : Lo} (enc : α → D) (f : α → Bool) (l : List α) (hi : it ρ = .ok (l.map enc)) (h : ∀ a ∈ l, ∃ ρ1, g (enc a) (wipeD ρ vs) = some ρ1 ∧ e ρ1 = .ok (.bool (f a))) : eUn vAny (eComp vs g it tTrue e) ρ = .ok (.bool (l.any f)) :=
  eUn_ok (eComp_map enc (fun a => .bool (f a)) l hi h) (vAny_map l f)
theorem eTup_comp {α : Type} {vs : List Nat} {g : DG} {it : DA} {e : DE} {ρ : Lo} (enc f : α → D) (l : List α) (hi : it ρ = .ok (l.map enc)) (h : ∀ a ∈ l, ∃ ρ1, g (enc a) (wipeD ρ vs) = some ρ1 ∧ e ρ1 = .ok (f a)) : eUn vTuple (eComp vs g it tTrue e) ρ = .ok (.tuple (l.map f)) :=
  eUn_ok (eComp_map enc f l hi h) rfl
theorem eTup_compI {α : Type} {vs : List Nat} {g : DG} {it : DA} {e : DE} {ρ : Lo} (enc : α → D) (f : α → Int) (l : List α) (hi : it ρ = .ok (l.map enc)) (h : ∀ a ∈ l, ∃ ρ1, g (enc a) (wipeD ρ vs) = some ρ1 ∧ e ρ1 = .ok (.int (f a))) : eUn vTuple (eComp vs g it tTrue e) ρ = .ok (.tuple ((l.map f).map .int)) := by
  rw [eTup_comp enc (fun a => .int (f a)) l hi h, List.map_map]; rfl
theorem sum_comp {α : Type} {vs : List Nat} {g : DG} {it : DA} {e : DE} {ρ : Lo} (enc : α → D) (f : α → Int) (l : List α) (hi : it ρ = .ok (l.map enc)) (h : ∀ a ∈ l, ∃ ρ1, g (enc a) (wipeD ρ vs) = some ρ1 ∧ e ρ1 = .ok (.int (f a))) : eUn vSum2 (eComp vs g it tTrue e) ρ = .ok (.int (l.map f).sum) :=
  eUn_ok (eComp_map enc (fun a => .int (f a)) l hi h) (vSum_map l f)
theorem kit_tuple_n : kitB "NoneType" "tuple" = some false := by decide +kernel
theorem isi_tuple_n : vIsi "tuple" .none = some (.bool false) := by show (kitB "NoneType" "tuple").map PyData.bool = _; rw [kit_tuple_n]; rfl
theorem kit_tuple_b : kitB "bool" "tuple" = some false := by decide +kernel
theorem isi_tuple_b (x : Bool) : vIsi "tuple" (.bool x) = some (.bool false) := by show (kitB "bool" "tuple").map PyData.bool = _; rw [kit_tuple_b]; rfl
theorem kit_tuple_i : kitB "int" "tuple" = some false := by decide +kernel
theorem isi_tuple_i (x : Int) : vIsi "tuple" (.int x) = some (.bool false) := by show (kitB "int" "tuple").map PyData.bool = _; rw [kit_tuple_i]; rfl
theorem kit_tuple_s : kitB "str" "tuple" = some false := by decide +kernel
theorem isi_tuple_s (x : Str) : vIsi "tuple" (.str x) = some (.bool false) := by show (kitB "str" "tuple").map PyData.bool = _; rw [kit_tuple_s]; rfl
theorem kit_tuple_l : kitB "list" "tuple" = some false := by decide +kernel
theorem isi_tuple_l (x : List D) : vIsi "tuple" (.list x) = some (.bool false) := by show (kitB "list" "tuple").map PyData.bool = _; rw [kit_tuple_l]; rfl
theorem kit_tuple_t : kitB "tuple" "tuple" = some true := by decide +kernel
theorem isi_tuple_t (x : List D) : vIsi "tuple" (.tuple x) = some (.bool true) := by show (kitB "tuple" "tuple").map PyData.bool = _; rw [kit_tuple_t]; rfl
theorem kit_tuple_d : kitB "dict" "tuple" = some false := by decide +kernel
theorem isi_tuple_d (x : List (D × D)) : vIsi "tuple" (.dict x) = some (.bool false) := by show (kitB "dict" "tuple").map PyData.bool = _; rw [kit_tuple_d]; rfl
theorem kit_bool_n : kitB "NoneType" "bool" = some false := by decide +kernel
theorem isi_bool_n : vIsi "bool" .none = some (.bool false) := by show (kitB "NoneType" "bool").map PyData.bool = _; rw [kit_bool_n]; rfl
theorem kit_bool_b : kitB "bool" "bool" = some true := by decide +kernel
theorem isi_bool_b (x : Bool) : vIsi "bool" (.bool x) = some (.bool true) := by show (kitB "bool" "bool").map PyData.bool = _; rw [kit_bool_b]; rfl
theorem kit_bool_i : kitB "int" "bool" = some false := by decide +kernel
theorem isi_bool_i (x : Int) : vIsi "bool" (.int x) = some (.bool false) := by show (kitB "int" "bool").map PyData.bool = _; rw [kit_bool_i]; rfl
theorem kit_bool_s : kitB "str" "bool" = some false := by decide +kernel
theorem isi_bool_s (x : Str) : vIsi "bool" (.str x) = some (.bool false) := by show (kitB "str" "bool").map PyData.bool = _; rw [kit_bool_s]; rfl
theorem kit_bool_l : kitB "list" "bool" = some false := by decide +kernel
theorem isi_bool_l (x : List D) : vIsi "bool" (.list x) = some (.bool false) := by show (kitB "list" "bool").map PyData.bool = _; rw [kit_bool_l]; rfl
theorem kit_bool_t : kitB "tuple" "bool" = some false := by decide +kernel
theorem isi_bool_t (x : List D) : vIsi "bool" (.tuple x) = some (.bool false) := by show (kitB "tuple" "bool").map PyData.bool = _; rw [kit_bool_t]; rfl
theorem kit_bool_d : kitB "dict" "bool" = some false := by decide +kernel
theorem isi_bool_d (x : List (D × D)) : vIsi "bool" (.dict x) = some (.bool false) := by show (kitB "dict" "bool").map PyData.bool = _; rw [kit_bool_d]; rfl
theorem kit_int_n : kitB "NoneType" "int" = some false := by decide +kernel
theorem isi_int_n : vIsi "int" .none = some (.bool false) := by show (kitB "NoneType" "int").map PyData.bool = _; rw [kit_int_n]; rfl
theorem kit_int_b : kitB "bool" "int" = some true := by decide +kernel
theorem isi_int_b (x : Bool) : vIsi "int" (.bool x) = some (.bool true) := by show (kitB "bool" "int").map PyData.bool = _; rw [kit_int_b]; rfl
theorem kit_int_i : kitB "int" "int" = some true := by decide +kernel
theorem isi_int_i (x : Int) : vIsi "int" (.int x) = some (.bool true) := by show (kitB "int" "int").map PyData.bool = _; rw [kit_int_i]; rfl
theorem kit_int_s : kitB "str" "int" = some false := by decide +kernel
theorem isi_int_s (x : Str) : vIsi "int" (.str x) = some (.bool false) := by show (kitB "str" "int").map PyData.bool = _; rw [kit_int_s]; rfl
theorem kit_int_l : kitB "list" "int" = some false := by decide +kernel
theorem isi_int_l (x : List D) : vIsi "int" (.list x) = some (.bool false) := by show (kitB "list" "int").map PyData.bool = _; rw [kit_int_l]; rfl
theorem kit_int_t : kitB "tuple" "int" = some false := by decide +kernel
theorem isi_int_t (x : List D) : vIsi "int" (.tuple x) = some (.bool false) := by show (kitB "tuple" "int").map PyData.bool = _; rw [kit_int_t]; rfl
theorem kit_int_d : kitB "dict" "int" = some false := by decide +kernel
theorem isi_int_d (x : List (D × D)) : vIsi "int" (.dict x) = some (.bool false) := by show (kitB "dict" "int").map PyData.bool = _; rw [kit_int_d]; rfl
theorem kit_str_n : kitB "NoneType" "str" = some false := by decide +kernel
theorem isi_str_n : vIsi "str" .none = some (.bool false) := by show (kitB "NoneType" "str").map PyData.bool = _; rw [kit_str_n]; rfl
theorem kit_str_b : kitB "bool" "str" = some false := by decide +kernel
theorem isi_str_b (x : Bool) : vIsi "str" (.bool x) = some (.bool false) := by show (kitB "bool" "str").map PyData.bool = _; rw [kit_str_b]; rfl
theorem kit_str_i : kitB "int" "str" = some false := by decide +kernel
theorem isi_str_i (x : Int) : vIsi "str" (.int x) = some (.bool false) := by show (kitB "int" "str").map PyData.bool = _; rw [kit_str_i]; rfl
theorem kit_str_s : kitB "str" "str" = some true := by decide +kernel
theorem isi_str_s (x : Str) : vIsi "str" (.str x) = some (.bool true) := by show (kitB "str" "str").map PyData.bool = _; rw [kit_str_s]; rfl
theorem kit_str_l : kitB "list" "str" = some false := by decide +kernel
theorem isi_str_l (x : List D) : vIsi "str" (.list x) = some (.bool false) := by show (kitB "list" "str").map PyData.bool = _; rw [kit_str_l]; rfl
theorem kit_str_t : kitB "tuple" "str" = some false := by decide +kernel
theorem isi_str_t (x : List D) : vIsi "str" (.tuple x) = some (.bool false) := by show (kitB "tuple" "str").map PyData.bool = _; rw [kit_str_t]; rfl
theorem kit_str_d : kitB "dict" "str" = some false := by decide +kernel
theorem isi_str_d (x : List (D × D)) : vIsi "str" (.dict x) = some (.bool false) := by show (kitB "dict" "str").map PyData.bool = _; rw [kit_str_d]; rfl
theorem kit_list_n : kitB "NoneType" "list" = some false := by decide +kernel
theorem isi_list_n : vIsi "list" .none = some (.bool false) := by show (kitB "NoneType" "list").map PyData.bool = _; rw [kit_list_n]; rfl
theorem kit_list_b : kitB "bool" "list" = some false := by decide +kernel
theorem isi_list_b (x : Bool) : vIsi "list" (.bool x) = some (.bool false) := by show (kitB "bool" "list").map PyData.bool = _; rw [kit_list_b]; rfl
theorem kit_list_i : kitB "int" "list" = some false := by decide +kernel
theorem isi_list_i (x : Int) : vIsi "list" (.int x) = some (.bool false) := by show (kitB "int" "list").map PyData.bool = _; rw [kit_list_i]; rfl
theorem kit_list_s : kitB "str" "list" = some false := by decide +kernel
theorem isi_list_s (x : Str) : vIsi "list" (.str x) = some (.bool false) := by show (kitB "str" "list").map PyData.bool = _; rw [kit_list_s]; rfl
theorem kit_list_l : kitB "list" "list" = some true := by decide +kernel
theorem isi_list_l (x : List D) : vIsi "list" (.list x) = some (.bool true) := by show (kitB "list" "list").map PyData.bool = _; rw [kit_list_l]; rfl
theorem kit_list_t : kitB "tuple" "list" = some false := by decide +kernel
theorem isi_list_t (x : List D) : vIsi "list" (.tuple x) = some (.bool false) := by show (kitB "tuple" "list").map PyData.bool = _; rw [kit_list_t]; rfl
theorem kit_list_d : kitB "dict" "list" = some false := by decide +kernel
theorem isi_list_d (x : List (D × D)) : vIsi "list" (.dict x) = some (.bool false) := by show (kitB "dict" "list").map PyData.bool = _; rw [kit_list_d]; rfl
theorem kit_dict_n : kitB "NoneType" "dict" = some false := by decide +kernel
theorem isi_dict_n : vIsi "dict" .none = some (.bool false) := by show (kitB "NoneType" "dict").map PyData.bool = _; rw [kit_dict_n]; rfl
theorem kit_dict_b : kitB "bool" "dict" = some false := by decide +kernel
theorem isi_dict_b (x : Bool) : vIsi "dict" (.bool x) = some (.bool false) := by show (kitB "bool" "dict").map PyData.bool = _; rw [kit_dict_b]; rfl
theorem kit_dict_i : kitB "int" "dict" = some false := by decide +kernel
theorem isi_dict_i (x : Int) : vIsi "dict" (.int x) = some (.bool false) := by show (kitB "int" "dict").map PyData.bool = _; rw [kit_dict_i]; rfl
theorem kit_dict_s : kitB "str" "dict" = some false := by decide +kernel
theorem isi_dict_s (x : Str) : vIsi "dict" (.str x) = some (.bool false) := by show (kitB "str" "dict").map PyData.bool = _; rw [kit_dict_s]; rfl
theorem kit_dict_l : kitB "list" "dict" = some false := by decide +kernel
theorem isi_dict_l (x : List D) : vIsi "dict" (.list x) = some (.bool false) := by show (kitB "list" "dict").map PyData.bool = _; rw [kit_dict_l]; rfl
theorem kit_dict_t : kitB "tuple" "dict" = some false := by decide +kernel
theorem isi_dict_t (x : List D) : vIsi "dict" (.tuple x) = some (.bool false) := by show (kitB "tuple" "dict").map PyData.bool = _; rw [kit_dict_t]; rfl
theorem kit_dict_d : kitB "dict" "dict" = some true := by decide +kernel
theorem isi_dict_d (x : List (D × D)) : vIsi "dict" (.dict x) = some (.bool true) := by show (kitB "dict" "dict").map PyData.bool = _; rw [kit_dict_d]; rfl
theorem isN_n : vIsN .none .none = some (.bool true) := rfl
theorem notN_n : vNotN .none .none = some (.bool false) := rfl
theorem isN_b (x : Bool) : vIsN (.bool x) .none = some (.bool false) := rfl
theorem notN_b (x : Bool) : vNotN (.bool x) .none = some (.bool true) := rfl
theorem isN_i (x : Int) : vIsN (.int x) .none = some (.bool false) := rfl
theorem notN_i (x : Int) : vNotN (.int x) .none = some (.bool true) := rfl
theorem isN_s (x : Str) : vIsN (.str x) .none = some (.bool false) := rfl
theorem notN_s (x : Str) : vNotN (.str x) .none = some (.bool true) := rfl
theorem isN_l (x : List D) : vIsN (.list x) .none = some (.bool false) := rfl
theorem notN_l (x : List D) : vNotN (.list x) .none = some (.bool true) := rfl
theorem isN_t (x : List D) : vIsN (.tuple x) .none = some (.bool false) := rfl
theorem notN_t (x : List D) : vNotN (.tuple x) .none = some (.bool true) := rfl
theorem isN_d (x : List (D × D)) : vIsN (.dict x) .none = some (.bool false) := rfl
theorem notN_d (x : List (D × D)) : vNotN (.dict x) .none = some (.bool true) := rfl

theorem vSum2_listI (l : List Int) : vSum2 (.list (l.map .int)) = some (.int l.sum) := by
  show (allInt _).map _ = _
  rw [allInt_map]; rfl
theorem vSum2_tupI (l : List Int) : vSum2 (.tuple (l.map .int)) = some (.int l.sum) := vSum2_listI l
def maxO (l : List Int) : Int := (maxI l).getD 0
def minO (l : List Int) : Int := (minI l).getD 0
theorem vMax1_I {l : List Int} (h : l ≠ []) : vMax1 (.list (l.map .int)) = some (.int (maxO l)) := by
  show ((allInt _).bind maxI).map _ = _
  rw [allInt_map]
  cases l with
  | nil => exact absurd rfl h
  | cons x r => rfl
theorem vMin1_I {l : List Int} (h : l ≠ []) : vMin1 (.list (l.map .int)) = some (.int (minO l)) := by
  show ((allInt _).bind minI).map _ = _
  rw [allInt_map]
  cases l with
  | nil => exact absurd rfl h
  | cons x r => rfl
theorem vMax1D_I {l : List Int} (h : l ≠ []) : vMax1D (.list (l.map .int)) = some (.int (maxO l)) := by
  unfold vMax1D
  rw [vMax1_I h]
theorem vMin1D_I {l : List Int} (h : l ≠ []) : vMin1D (.list (l.map .int)) = some (.int (minO l)) := by
  unfold vMin1D
  rw [vMin1_I h]
theorem allInt_row (t : List Int) (r : List D) : allInt (.tuple (t.map .int) :: r) = none := rfl
abbrev rwI (a : List Int) : D := .tuple (a.map .int)
theorem allRow_map : ∀ m : List (List Int), allRow (m.map rwI) = some m
  | [] => rfl
  | a :: m => by
    rw [List.map_cons, allRow, allInt_map, allRow_map m]
    rfl
/-- the least of rows is one of them -/
theorem foldMin_mem (lt : D → D → Bool) : ∀ (xs : List D) (x : D), xs.foldl (fun a y => if lt y a then y else a) x ∈ x :: xs
  | [], x => by simp
  | y :: xs, x => by
    rw [List.foldl_cons]
    have h := foldMin_mem lt xs (if lt y x then y else x)
    rcases List.mem_cons.1 h with h | h
    · rw [h]
      split <;> simp
    · simp [h]
theorem minD_mem (x : D) (xs : List D) : W.minD x xs ∈ x :: xs := foldMin_mem W.dataLt xs x
def minR (m : List (List Int)) : D := match m.map rwI with
  | [] => .none
  | x :: xs => W.minD x xs
theorem minR_mem {m : List (List Int)} (h : m ≠ []) : ∃ a ∈ m, minR m = .tuple (a.map .int) := by
  cases m with
  | nil => exact absurd rfl h
  | cons a m =>
    have h1 : minR (a :: m) ∈ (a :: m).map rwI := minD_mem (rwI a) (m.map rwI)
    obtain ⟨b, hb, e⟩ := List.mem_map.1 h1
    exact ⟨b, hb, e.symm⟩
theorem vMin1D_R {m : List (List Int)} (h : m ≠ []) : vMin1D (.list (m.map rwI)) = some (minR m) := by
  cases m with
  | nil => exact absurd rfl h
  | cons a m =>
    have h0 : vMin1 (.list ((a :: m).map rwI)) = none := by
      show ((allInt ((a :: m).map rwI)).bind minI).map PyData.int = none
      rw [List.map_cons, allInt_row]
      rfl
    unfold vMin1D
    rw [h0]
    show (allRow ((a :: m).map rwI)).bind _ = _
    rw [allRow_map]
    rfl
theorem maxO_spec {l : List Int} (h : l ≠ []) : maxO l ∈ l ∧ ∀ y ∈ l, y ≤ maxO l := by
  cases l with
  | nil => exact absurd rfl h
  | cons x r =>
    obtain ⟨h1, h2, h3⟩ := maxL_spec r x
    refine ⟨?_, fun y hy => ?_⟩
    · show maxL x r ∈ x :: r
      rcases h1 with h1 | h1
      · rw [h1]; simp
      · simp [h1]
    · rcases List.mem_cons.1 hy with rfl | hy
      · exact h2
      · exact h3 y hy
theorem minO_spec {l : List Int} (h : l ≠ []) : minO l ∈ l ∧ ∀ y ∈ l, minO l ≤ y := by
  cases l with
  | nil => exact absurd rfl h
  | cons x r =>
    obtain ⟨h1, h2, h3⟩ := minL_spec r x
    refine ⟨?_, fun y hy => ?_⟩
    · show minL x r ∈ x :: r
      rcases h1 with h1 | h1
      · rw [h1]; simp
      · simp [h1]
    · rcases List.mem_cons.1 hy with rfl | hy
      · exact h2
      · exact h3 y hy
theorem eqv_int (i j : Int) : PyData.eqv (.int i) (.int j) = decide (i = j) := by
  simp only [PyData.eqv]
  exact Bool.eq_iff_iff.2 (by simp)
theorem findIdx_int (l : List Int) (i : Int) : (l.map PyData.int).findIdx? (fun z => PyData.eqv z (.int i)) = l.findIdx? (fun z => decide (z = i)) := by
  rw [List.findIdx?_map]
  exact congrArg (fun p => l.findIdx? p) (funext fun z => eqv_int z i)
theorem vIndex_int {l : List Int} {i : Int} {j : Nat} (h : l.findIdx? (fun z => decide (z = i)) = some j) : vIndex (.list (l.map .int)) (.int i) = some (.int j) := by
  show (if _ then _ else none) = _
  rw [if_pos ⟨rfl, fine_listI l⟩, findIdx_int, h]; rfl
theorem eMeL_eq {f : D → D → Option D} {da db : DE} {ρ : Lo} {l : List D} {w v : D} (h1 : da ρ = .ok (.list l)) (h2 : db ρ = .ok w) (h3 : f (.list l) w = some v) : eMeL f da db ρ = .ok v := by
  unfold eMeL
  rw [h1, bind_ok, if_pos (show isListD (PyData.list l) = true from rfl), h2, bind_ok, h3, up_some]
theorem iVal_tup {e : DE} {ρ : Lo} {l : List D} (h : e ρ = .ok (.tuple l)) : iVal e ρ = .ok l := by
  unfold iVal; rw [h]; rfl
theorem iVal_list {e : DE} {ρ : Lo} {l : List D} (h : e ρ = .ok (.list l)) : iVal e ρ = .ok l := by
  unfold iVal; rw [h]; rfl
theorem eLen_filter {α : Type} {vs : List Nat} {g : DG} {it : DA} {c : DT} {e : DE} {ρ : Lo} (enc f : α → D) (p : α → Bool) (l : List α) (hi : it ρ = .ok (l.map enc)) (h : ∀ a ∈ l, ∃ ρ1, g (enc a) (wipeD ρ vs) = some ρ1 ∧ c ρ1 = .ok (p a) ∧ (p a = true → e ρ1 = .ok (f a))) : eUn vLen (eComp vs g it c e) ρ = .ok (.int ((l.filter p).length : Nat)) := by
  exact eUn_ok (eComp_filter enc f p l hi h) (by rw [vLen_list, List.length_map])
def mkT (xs : List D) : Res D := if xs.length ≤ sizeLine then .ok (.tuple xs) else .bad
def mkL (xs : List D) : Res D := if xs.length ≤ sizeLine then .ok (.list xs) else .bad
theorem mkT_ok {xs : List D} (h : xs.length ≤ 16777216) : mkT xs = .ok (.tuple xs) := if_pos (by rw [line_eq]; exact h)
theorem mkL_ok {xs : List D} (h : xs.length ≤ 16777216) : mkL xs = .ok (.list xs) := if_pos (by rw [line_eq]; exact h)
theorem eTup_eq (d : DA) (ρ : Lo) : eTup d ρ = (d ρ).bind mkT := Eq.trans rfl rfl
theorem eLst_eq (d : DA) (ρ : Lo) : eLst d ρ = (d ρ).bind mkL := Eq.trans rfl rfl
theorem vIdx_t0 (a : D) (l : List D) : vIdx (.tuple (a :: l)) (.int 0) = some a := by
  rw [vIdx_tup (by decide) (by simp <;> omega)]; rfl
theorem vIdx_t1 (a b : D) (l : List D) : vIdx (.tuple (a :: b :: l)) (.int 1) = some b := by
  rw [vIdx_tup (by decide) (by simp <;> omega)]; rfl
theorem vIdx_t2 (a b c : D) (l : List D) : vIdx (.tuple (a :: b :: c :: l)) (.int 2) = some c := by
  rw [vIdx_tup (by decide) (by simp <;> omega)]; rfl
theorem vIdx_t3 (a b c d : D) (l : List D) : vIdx (.tuple (a :: b :: c :: d :: l)) (.int 3) = some d := by
  rw [vIdx_tup (by decide) (by simp <;> omega)]; rfl
theorem vIdx_l0 (a : D) (l : List D) : vIdx (.list (a :: l)) (.int 0) = some a := vIdx_t0 a l
theorem vIdx_l1 (a b : D) (l : List D) : vIdx (.list (a :: b :: l)) (.int 1) = some b := vIdx_t1 a b l
theorem vIdx_l2 (a b c : D) (l : List D) : vIdx (.list (a :: b :: c :: l)) (.int 2) = some c := vIdx_t2 a b c l
theorem mkT_0 : mkT [] = .ok (.tuple []) := mkT_ok (by simp)
theorem mkL_0 : mkL [] = .ok (.list []) := mkL_ok (by simp)
theorem mkT_1 (x0 : D) : mkT [x0] = .ok (.tuple [x0]) := mkT_ok (by simp)
theorem mkL_1 (x0 : D) : mkL [x0] = .ok (.list [x0]) := mkL_ok (by simp)
theorem mkT_2 (x0 x1 : D) : mkT [x0, x1] = .ok (.tuple [x0, x1]) := mkT_ok (by simp)
theorem mkL_2 (x0 x1 : D) : mkL [x0, x1] = .ok (.list [x0, x1]) := mkL_ok (by simp)
theorem mkT_3 (x0 x1 x2 : D) : mkT [x0, x1, x2] = .ok (.tuple [x0, x1, x2]) := mkT_ok (by simp)
theorem mkL_3 (x0 x1 x2 : D) : mkL [x0, x1, x2] = .ok (.list [x0, x1, x2]) := mkL_ok (by simp)
theorem mkT_4 (x0 x1 x2 x3 : D) : mkT [x0, x1, x2, x3] = .ok (.tuple [x0, x1, x2, x3]) := mkT_ok (by simp)
theorem mkL_4 (x0 x1 x2 x3 : D) : mkL [x0, x1, x2, x3] = .ok (.list [x0, x1, x2, x3]) := mkL_ok (by simp)
theorem mkT_5 (x0 x1 x2 x3 x4 : D) : mkT [x0, x1, x2, x3, x4] = .ok (.tuple [x0, x1, x2, x3, x4]) := mkT_ok (by simp)
theorem mkL_5 (x0 x1 x2 x3 x4 : D) : mkL [x0, x1, x2, x3, x4] = .ok (.list [x0, x1, x2, x3, x4]) := mkL_ok (by simp)
theorem mkT_6 (x0 x1 x2 x3 x4 x5 : D) : mkT [x0, x1, x2, x3, x4, x5] = .ok (.tuple [x0, x1, x2, x3, x4, x5]) := mkT_ok (by simp)
theorem mkL_6 (x0 x1 x2 x3 x4 x5 : D) : mkL [x0, x1, x2, x3, x4, x5] = .ok (.list [x0, x1, x2, x3, x4, x5]) := mkL_ok (by simp)
theorem mkT_7 (x0 x1 x2 x3 x4 x5 x6 : D) : mkT [x0, x1, x2, x3, x4, x5, x6] = .ok (.tuple [x0, x1, x2, x3, x4, x5, x6]) := mkT_ok (by simp)
theorem mkL_7 (x0 x1 x2 x3 x4 x5 x6 : D) : mkL [x0, x1, x2, x3, x4, x5, x6] = .ok (.list [x0, x1, x2, x3, x4, x5, x6]) := mkL_ok (by simp)
theorem mkT_8 (x0 x1 x2 x3 x4 x5 x6 x7 : D) : mkT [x0, x1, x2, x3, x4, x5, x6, x7] = .ok (.tuple [x0, x1, x2, x3, x4, x5, x6, x7]) := mkT_ok (by simp)
theorem mkL_8 (x0 x1 x2 x3 x4 x5 x6 x7 : D) : mkL [x0, x1, x2, x3, x4, x5, x6, x7] = .ok (.list [x0, x1, x2, x3, x4, x5, x6, x7]) := mkL_ok (by simp)
theorem mkT_9 (x0 x1 x2 x3 x4 x5 x6 x7 x8 : D) : mkT [x0, x1, x2, x3, x4, x5, x6, x7, x8] = .ok (.tuple [x0, x1, x2, x3, x4, x5, x6, x7, x8]) := mkT_ok (by simp)
theorem mkL_9 (x0 x1 x2 x3 x4 x5 x6 x7 x8 : D) : mkL [x0, x1, x2, x3, x4, x5, x6, x7, x8] = .ok (.list [x0, x1, x2, x3, x4, x5, x6, x7, x8]) := mkL_ok (by simp)
theorem mkT_10 (x0 x1 x2 x3 x4 x5 x6 x7 x8 x9 : D) : mkT [x0, x1, x2, x3, x4, x5, x6, x7, x8, x9] = .ok (.tuple [x0, x1, x2, x3, x4, x5, x6, x7, x8, x9]) := mkT_ok (by simp)
theorem mkL_10 (x0 x1 x2 x3 x4 x5 x6 x7 x8 x9 : D) : mkL [x0, x1, x2, x3, x4, x5, x6, x7, x8, x9] = .ok (.list [x0, x1, x2, x3, x4, x5, x6, x7, x8, x9]) := mkL_ok (by simp)
theorem mkT_11 (x0 x1 x2 x3 x4 x5 x6 x7 x8 x9 x10 : D) : mkT [x0, x1, x2, x3, x4, x5, x6, x7, x8, x9, x10] = .ok (.tuple [x0, x1, x2, x3, x4, x5, x6, x7, x8, x9, x10]) := mkT_ok (by simp)
theorem mkL_11 (x0 x1 x2 x3 x4 x5 x6 x7 x8 x9 x10 : D) : mkL [x0, x1, x2, x3, x4, x5, x6, x7, x8, x9, x10] = .ok (.list [x0, x1, x2, x3, x4, x5, x6, x7, x8, x9, x10]) := mkL_ok (by simp)
theorem mkT_12 (x0 x1 x2 x3 x4 x5 x6 x7 x8 x9 x10 x11 : D) : mkT [x0, x1, x2, x3, x4, x5, x6, x7, x8, x9, x10, x11] = .ok (.tuple [x0, x1, x2, x3, x4, x5, x6, x7, x8, x9, x10, x11]) := mkT_ok (by simp)
theorem mkL_12 (x0 x1 x2 x3 x4 x5 x6 x7 x8 x9 x10 x11 : D) : mkL [x0, x1, x2, x3, x4, x5, x6, x7, x8, x9, x10, x11] = .ok (.list [x0, x1, x2, x3, x4, x5, x6, x7, x8, x9, x10, x11]) := mkL_ok (by simp)
theorem mkT_13 (x0 x1 x2 x3 x4 x5 x6 x7 x8 x9 x10 x11 x12 : D) : mkT [x0, x1, x2, x3, x4, x5, x6, x7, x8, x9, x10, x11, x12] = .ok (.tuple [x0, x1, x2, x3, x4, x5, x6, x7, x8, x9, x10, x11, x12]) := mkT_ok (by simp)
theorem mkL_13 (x0 x1 x2 x3 x4 x5 x6 x7 x8 x9 x10 x11 x12 : D) : mkL [x0, x1, x2, x3, x4, x5, x6, x7, x8, x9, x10, x11, x12] = .ok (.list [x0, x1, x2, x3, x4, x5, x6, x7, x8, x9, x10, x11, x12]) := mkL_ok (by simp)
theorem mkT_14 (x0 x1 x2 x3 x4 x5 x6 x7 x8 x9 x10 x11 x12 x13 : D) : mkT [x0, x1, x2, x3, x4, x5, x6, x7, x8, x9, x10, x11, x12, x13] = .ok (.tuple [x0, x1, x2, x3, x4, x5, x6, x7, x8, x9, x10, x11, x12, x13]) := mkT_ok (by simp)
theorem mkL_14 (x0 x1 x2 x3 x4 x5 x6 x7 x8 x9 x10 x11 x12 x13 : D) : mkL [x0, x1, x2, x3, x4, x5, x6, x7, x8, x9, x10, x11, x12, x13] = .ok (.list [x0, x1, x2, x3, x4, x5, x6, x7, x8, x9, x10, x11, x12, x13]) := mkL_ok (by simp)
theorem mkT_15 (x0 x1 x2 x3 x4 x5 x6 x7 x8 x9 x10 x11 x12 x13 x14 : D) : mkT [x0, x1, x2, x3, x4, x5, x6, x7, x8, x9, x10, x11, x12, x13, x14] = .ok (.tuple [x0, x1, x2, x3, x4, x5, x6, x7, x8, x9, x10, x11, x12, x13, x14]) := mkT_ok (by simp)
theorem mkL_15 (x0 x1 x2 x3 x4 x5 x6 x7 x8 x9 x10 x11 x12 x13 x14 : D) : mkL [x0, x1, x2, x3, x4, x5, x6, x7, x8, x9, x10, x11, x12, x13, x14] = .ok (.list [x0, x1, x2, x3, x4, x5, x6, x7, x8, x9, x10, x11, x12, x13, x14]) := mkL_ok (by simp)
theorem mkT_16 (x0 x1 x2 x3 x4 x5 x6 x7 x8 x9 x10 x11 x12 x13 x14 x15 : D) : mkT [x0, x1, x2, x3, x4, x5, x6, x7, x8, x9, x10, x11, x12, x13, x14, x15] = .ok (.tuple [x0, x1, x2, x3, x4, x5, x6, x7, x8, x9, x10, x11, x12, x13, x14, x15]) := mkT_ok (by simp)
theorem mkL_16 (x0 x1 x2 x3 x4 x5 x6 x7 x8 x9 x10 x11 x12 x13 x14 x15 : D) : mkL [x0, x1, x2, x3, x4, x5, x6, x7, x8, x9, x10, x11, x12, x13, x14, x15] = .ok (.list [x0, x1, x2, x3, x4, x5, x6, x7, x8, x9, x10, x11, x12, x13, x14, x15]) := mkL_ok (by simp)
theorem decI (a b : Nat) : decide ((a : Int) = (b : Int)) = decide (a = b) := Bool.eq_iff_iff.2 (by simp only [decide_eq_true_eq]; omega)
theorem natAbs_if (i : Int) : (if i < 0 then -i else i) = (i.natAbs : Nat) := by split <;> omega
theorem vMod_nat {a b : Nat} (h : 0 < b) : vMod (.int a) (.int b) = some (.int (a % b : Nat)) := vMod_pos (by omega)
theorem vDiv_nat {a b : Nat} (h : 0 < b) (h2 : b < 18446744073709551616) : vDiv (.int a) (.int b) = some (.int (a / b : Nat)) := vDiv_pos (by omega) (by omega)
theorem vMul_nat {a b : Nat} (h : a < 18446744073709551616) (h2 : b < 18446744073709551616) : vMul (.int a) (.int b) = some (.int (a * b : Nat)) := vMul_64 (by omega) (by omega) (by omega) (by omega)
/-- plain nested values, for _law_same -/
def okS : Nat → D → Prop
  | 0, _ => False
  | _ + 1, .none => True
  | _ + 1, .bool _ => True
  | _ + 1, .int _ => True
  | _ + 1, .str _ => True
  | n + 1, .tuple l => l.length ≤ 16777216 ∧ ∀ x ∈ l, okS n x
  | _ + 1, .list _ => False
  | _ + 1, .dict _ => False
theorem okS_tupI {n : Nat} (l : List Int) (h : l.length ≤ 16777216) : okS (n + 2) (.tuple (l.map .int)) := by
  refine ⟨by simpa using h, fun x hx => ?_⟩
  obtain ⟨i, _, rfl⟩ := List.mem_map.1 hx
  exact trivial
end PL

end
section
namespace PL
open PySem L2
/-- a block that raises c -/
def RX (r : SRes) (c : D) : Prop := ∃ ρ : Lo, r = .ex c ρ
theorem run_raise {n : Nat} {b : DS} {ds : List D} {c : D} (h : RX (b (start n ds)) c) : runD n b ds = .exn c := by
  obtain ⟨ρ, e⟩ := h
  rw [runD_eq, e]
section
variable {a b s : DS} {ρ : Lo} {t : DT} {e : DE} {c : D} {i : Nat} {v : D}
theorem rx_on (hc : t ρ = .ok true) (h : RX (a ρ) c) : RX (sSeq (sIf t a s) b ρ) c := by
  obtain ⟨ρ', h⟩ := h
  refine ⟨ρ', ?_⟩
  unfold sSeq sIf
  rw [hc]
  show (match a ρ with | .nx ρ' => b ρ' | r => r) = _
  rw [h]
theorem rx_off (hc : t ρ = .ok false) (h : RX (b ρ) c) : RX (sSeq (sIf t a sSkip) b ρ) c := by
  obtain ⟨ρ', h⟩ := h
  refine ⟨ρ', ?_⟩
  unfold sSeq sIf
  rw [hc]
  exact h
theorem rx_raise {x : Str} : RX (sSeq (sRaise x) b ρ) (excD x []) := ⟨ρ, rfl⟩
theorem rx_put (he : e ρ = .ok v) (h : RX (b (ρ.set i (some v))) c) : RX (sSeq (sSet i e) b ρ) c := by
  obtain ⟨ρ', h⟩ := h
  refine ⟨ρ', ?_⟩
  unfold sSeq sSet
  rw [he]
  exact h
/-- a call that raises, set -/
theorem ex_put (he : e ρ = .exn c) : sSeq (sSet i e) b ρ = .ex c ρ := by
  unfold sSeq sSet
  rw [he]; rfl
theorem rx_putx (he : e ρ = .exn c) : RX (sSeq (sSet i e) b ρ) c := ⟨ρ, ex_put he⟩
theorem rx_backx (he : e ρ = .exn c) : RX (sSeq (sRet e) b ρ) c := by
  refine ⟨ρ, ?_⟩
  unfold sSeq sRet
  rw [he]; rfl
end
section
variable {ρ ρ' : Lo} {N : Lo → Prop} {R : D → Prop} {B C : Lo → Prop} {body : DS} {i : Nat} {tbl : Str → Option Bool} {de : Str → DE} {n : Str} {v : D}
theorem ws_try_ok (h : WS (body ρ) N R B C) : WS (sTryR i tbl body de ρ) N R B C := by
  refine ⟨?_⟩
  have h := h.go
  unfold sTryR
  cases e : body ρ with
  | nx ρ' => rw [e] at h; exact h
  | rt v => rw [e] at h; exact h
  | bk ρ' => rw [e] at h; exact h
  | ct ρ' => rw [e] at h; exact h
  | ex c ρ' => rw [e] at h; exact h.elim
  | bad => rw [e] at h; exact h.elim
theorem ws_try_ex (hb : body ρ = .ex (excD n []) ρ') (ht : tbl n = some true) (hi : i < ρ'.length) (he : de n (ρ'.set i none) = .ok v) (h : R v) : WS (sTryR i tbl body de ρ) N R B C := by
  refine ⟨?_⟩
  unfold sTryR
  rw [hb]
  show WS0 (match tbl n with
    | some true => if i < ρ'.length then onlyRt ρ' (de n (ρ'.set i none)) else .bad
    | some false => .ex (excD n []) ρ'
    | none => .bad) N R B C
  rw [ht]
  show WS0 (if i < ρ'.length then onlyRt ρ' (de n (ρ'.set i none)) else .bad) N R B C
  rw [if_pos hi, he]
  exact h
end
theorem eBin_ok {f : D → D → Option D} {a b : DE} {ρ : Lo} {v w z : D} (h : a ρ = .ok v) (h1 : b ρ = .ok w) (h2 : f v w = some z) : eBin f a b ρ = .ok z := by
  unfold eBin; rw [h, bind_ok, h1, bind_ok, h2, up_some]
theorem eSlice_ok {a : DE} {lo hi : DO} {ρ : Lo} {v z : D} {i j : Option Int} (h : a ρ = .ok v) (h1 : lo ρ = .ok i) (h2 : hi ρ = .ok j) (h3 : vSlice v i j = some z) : eSlice a lo hi ρ = .ok z := by
  unfold eSlice; rw [h, bind_ok, h1, bind_ok, h2, bind_ok, h3, up_some]
theorem vSlice_toL {l : List D} {k : Nat} (h : k ≤ l.length) : vSlice (.list l) none (some (k : Int)) = some (.list (l.take k)) := by
  show some (PyData.list (cutD l none (some (k : Int)))) = _
  unfold cutD
  rw [show HT.sIx l.length 0 none = 0 from rfl, sIx_nat h, List.drop_zero, Nat.sub_zero]
theorem vSlice_fromL {l : List D} {k : Nat} (h : k ≤ l.length) : vSlice (.list l) (some (k : Int)) none = some (.list (l.drop k)) := by
  show some (PyData.list (cutD l (some (k : Int)) none)) = _
  unfold cutD
  rw [sIx_nat h, show HT.sIx l.length l.length none = l.length from rfl, List.take_of_length_le (by rw [List.length_drop]; omega)]
theorem eTo_ok {a : DE} {d : DE} {ρ : Lo} {l : List D} {k : Nat} (h : a ρ = .ok (.list l)) (h1 : d ρ = .ok (.int k)) (hk : k ≤ l.length) : eSlice a oNone (oSome d) ρ = .ok (.list (l.take k)) :=
  eSlice_ok h rfl (by unfold oSome; rw [h1, bind_ok]; rfl) (vSlice_toL hk)
theorem eFrom_ok {a : DE} {d : DE} {ρ : Lo} {l : List D} {k : Nat} (h : a ρ = .ok (.list l)) (h1 : d ρ = .ok (.int k)) (hk : k ≤ l.length) : eSlice a (oSome d) oNone ρ = .ok (.list (l.drop k)) :=
  eSlice_ok h (by unfold oSome; rw [h1, bind_ok]; rfl) rfl (vSlice_fromL hk)
theorem eTup3_ok {a b c : DE} {ρ : Lo} {x y z : D} (h : a ρ = .ok x) (h1 : b ρ = .ok y) (h2 : c ρ = .ok z) : eTup (aCons a (aCons b (aCons c aNil))) ρ = .ok (.tuple [x, y, z]) := by
  simp -implicitDefEqProofs only [eTup_eq, aCons, aNil, h, h1, h2, bind_ok, mkT_3]
theorem eTup2_ok {a b : DE} {ρ : Lo} {x y : D} (h : a ρ = .ok x) (h1 : b ρ = .ok y) : eTup (aCons a (aCons b aNil)) ρ = .ok (.tuple [x, y]) := by
  simp -implicitDefEqProofs only [eTup_eq, aCons, aNil, h, h1, bind_ok, mkT_2]
theorem ws_find {α : Type} {g : DG} {it : DA} {s : DS} {ρ : Lo} {N : Lo → Prop} {R : D → Prop} {B C : Lo → Prop} (enc : α → D) (p : α → Bool) (l : List α) (I : Lo → Prop) (hi : it ρ = .ok (l.map enc)) (h0 : I ρ)
    (hs : ∀ x ∈ l, ∀ ρ, I ρ → ∃ ρ1, g (enc x) ρ = some ρ1 ∧ (p x = true → l.find? p = some x → WS (s ρ1) No R No No) ∧ (p x = false → WS (s ρ1) I R No I))
    (hN : ∀ ρ, I ρ → l.find? p = none → N ρ) : WS (sFor g it s ρ) N R B C := by
  refine ws_forE enc l (fun rest ρ => I ρ ∧ ∃ a, a ++ rest = l ∧ ∀ i ∈ a, p i = false) hi ⟨h0, [], rfl, fun i hi => by cases hi⟩ ?_ ?_
  · rintro x rest ρ ⟨hI, a, ha, hp⟩
    obtain ⟨ρ1, h1, h2, h3⟩ := hs x (by rw [← ha]; simp) ρ hI
    refine ⟨ρ1, h1, ?_⟩
    cases h : p x with
    | true =>
      have hf : l.find? p = some x := List.find?_eq_some_iff_append.2 ⟨h, a, rest, ha.symm, fun i hi => by simp [hp i hi]⟩
      exact (h2 h hf).mono (fun _ h => h.elim) (fun _ h => h) (fun _ h => h.elim) (fun _ h => h.elim)
    | false =>
      have hq : ∀ i ∈ a ++ [x], p i = false := fun i hi => by
        rcases List.mem_append.1 hi with g | g
        · exact hp i g
        · rw [List.mem_singleton.1 g]
          exact h
      exact (h3 h).mono (fun _ h => ⟨h, a ++ [x], by rw [← ha]; simp, hq⟩) (fun _ h => h) (fun _ h => h.elim) (fun _ h => ⟨h, a ++ [x], by rw [← ha]; simp, hq⟩)
  · rintro ρ ⟨hI, a, ha, hp⟩
    refine hN ρ hI (List.find?_eq_none.2 fun i hi => ?_)
    rw [← ha, List.append_nil] at hi
    simp [hp i hi]
theorem ws_all {α : Type} {g : DG} {it : DA} {s : DS} {ρ : Lo} {N : Lo → Prop} {R : D → Prop} {B C : Lo → Prop} (enc : α → D) (ok : α → Bool) (l : List α) (I : Lo → Prop) (hi : it ρ = .ok (l.map enc)) (h0 : I ρ)
    (hs : ∀ x ∈ l, ∀ ρ, I ρ → ∃ ρ1, g (enc x) ρ = some ρ1 ∧ WS (s ρ1) (fun ρ' => ok x = true ∧ I ρ') (fun v => ok x = false ∧ v = .bool false) No (fun ρ' => ok x = true ∧ I ρ'))
    (hR : l.all ok = false → R (.bool false)) (hN : ∀ ρ, I ρ → l.all ok = true → N ρ) : WS (sFor g it s ρ) N R B C := by
  refine ws_find enc (fun x => !ok x) l I hi h0 (fun x hx ρ hI => ?_) fun ρ hI hf => hN ρ hI (List.all_eq_true.2 fun x hx => ?_)
  · obtain ⟨ρ1, h1, h2⟩ := hs x hx ρ hI
    refine ⟨ρ1, h1, fun hb _ => ?_, fun hb => ?_⟩
    · refine h2.mono (fun _ g => ?_) (fun v g => ?_) (fun _ g => g.elim) (fun _ g => ?_)
      · rw [g.1] at hb; cases hb
      · rw [g.2]
        refine hR (Bool.eq_false_iff.2 fun ha => ?_)
        rw [List.all_eq_true.1 ha x hx] at g
        cases g.1
      · rw [g.1] at hb; cases hb
    · refine h2.mono (fun _ g => g.2) (fun v g => ?_) (fun _ g => g.elim) (fun _ g => g.2)
      rw [g.1] at hb; cases hb
  · have := List.find?_eq_none.1 hf x hx
    simpa using this
def pl (n : Nat) (d : D) : Bool := noDict d && decide (d.depth ≤ n)
theorem pl_fine {n : Nat} {d : D} (h : pl n d = true) (hn : n ≤ 64) : fine d = true := by
  unfold pl at h
  obtain ⟨h1, h2⟩ := Bool.and_eq_true_iff.1 h
  have := of_decide_eq_true h2
  unfold fine
  rw [h1, Bool.true_and]
  exact decide_eq_true (by omega)
theorem pl_all {n : Nat} : ∀ {l : List D}, (∀ x ∈ l, pl n x = true) → noDicts l = true ∧ PyData.depthAll l ≤ n
  | [], _ => ⟨rfl, Nat.zero_le _⟩
  | x :: l, h => by
    obtain ⟨h1, h2⟩ := Bool.and_eq_true_iff.1 (h x (List.mem_cons_self ..))
    obtain ⟨h3, h4⟩ := pl_all (l := l) fun y hy => h y (List.mem_cons_of_mem _ hy)
    have := of_decide_eq_true h2
    refine ⟨by rw [noDicts, h1, h3]; rfl, ?_⟩
    rw [PyData.depthAll]
    omega
theorem pl_list {n : Nat} {l : List D} (h : ∀ x ∈ l, pl n x = true) : pl (n + 1) (.list l) = true := by
  obtain ⟨h1, h2⟩ := pl_all h
  unfold pl
  rw [noDict, h1, Bool.true_and, PyData.depth]
  exact decide_eq_true (by omega)
theorem pl_tup {n : Nat} {l : List D} (h : ∀ x ∈ l, pl n x = true) : pl (n + 1) (.tuple l) = true := by
  obtain ⟨h1, h2⟩ := pl_all h
  unfold pl
  rw [noDict, h1, Bool.true_and, PyData.depth]
  exact decide_eq_true (by omega)
theorem vEq_of {x y : D} (h : fine x = true) (h2 : fine y = true) : vEq x y = some (.bool (PyData.eqv x y)) := if_pos ⟨h, h2⟩
theorem vNe_of {x y : D} (h : fine x = true) (h2 : fine y = true) : vNe x y = some (.bool (!PyData.eqv x y)) := if_pos ⟨h, h2⟩
theorem vEq_nil {l : List D} (h : fine (.list l) = true) : vEq (.list l) (.list []) = some (.bool l.isEmpty) := by
  rw [vEq_of h rfl]
  cases l <;> simp [PyData.eqv, PyData.eqvAll]
theorem vNe_nil {l : List D} (h : fine (.list l) = true) : vNe (.list l) (.list []) = some (.bool (!l.isEmpty)) := by
  rw [vNe_of h rfl]
  cases l <;> simp [PyData.eqv, PyData.eqvAll]
theorem comp2_map {α β : Type} {vs1 : List Nat} {g g1 : DG} {it1 : DA} {e : DE} {ρ : Lo} (enc : α → D) (enc1 : β → D) (m : α → List β) (f : α → β → D) : ∀ (l : List α), (∀ a ∈ l, ∃ ρ1, g (enc a) ρ = some ρ1 ∧ it1 ρ1 = .ok ((m a).map enc1) ∧ ∀ b ∈ m a, ∃ ρ2, g1 (enc1 b) (wipeD ρ1 vs1) = some ρ2 ∧ e ρ2 = .ok (f a b)) → comp2D g tTrue vs1 it1 g1 tTrue e (l.map enc) ρ = some (l.flatMap fun a => (m a).map (f a))
  | [], _ => rfl
  | a :: l, h => by
    obtain ⟨ρ1, h1, h2, h3⟩ := h a (List.mem_cons_self ..)
    have ih := comp2_map enc enc1 m f l fun b hb => h b (List.mem_cons_of_mem _ hb)
    have hc := comp_map (g := g1) (e := e) (ρ := wipeD ρ1 vs1) enc1 (f a) (m a) h3
    rw [List.map_cons, comp2D, h1]
    simp only [tTrue, h2, hc, ih]
    rfl
theorem eComp2_map {α β : Type} {vs vs1 : List Nat} {g g1 : DG} {it it1 : DA} {e : DE} {ρ : Lo} (enc : α → D) (enc1 : β → D) (m : α → List β) (f : α → β → D) (l : List α) (hi : it ρ = .ok (l.map enc)) (h : ∀ a ∈ l, ∃ ρ1, g (enc a) (wipeD ρ vs) = some ρ1 ∧ it1 ρ1 = .ok ((m a).map enc1) ∧ ∀ b ∈ m a, ∃ ρ2, g1 (enc1 b) (wipeD ρ1 vs1) = some ρ2 ∧ e ρ2 = .ok (f a b)) (hl : (l.flatMap fun a => (m a).map (f a)).length ≤ 16777216) : eComp2 vs vs1 g it tTrue g1 it1 tTrue e ρ = .ok (.list (l.flatMap fun a => (m a).map (f a))) := by
  unfold eComp2
  rw [hi, bind_ok, comp2_map enc enc1 m f l h, up_some, bind_ok, if_pos (by rw [line_eq]; exact hl)]
theorem comp_ex {α : Type} {g : DG} {e : DE} {ρ : Lo} (enc : α → D) (P : α → D → Prop) : ∀ (l : List α), (∀ a ∈ l, ∃ ρ1 v, g (enc a) ρ = some ρ1 ∧ e ρ1 = .ok v ∧ P a v) → ∃ ys : List D, compD g tTrue e (l.map enc) ρ = some ys ∧ ys.length = l.length ∧ ∀ v ∈ ys, ∃ a ∈ l, P a v
  | [], _ => ⟨[], rfl, rfl, fun v hv => by cases hv⟩
  | a :: l, h => by
    obtain ⟨ρ1, v, h1, h2, h3⟩ := h a (List.mem_cons_self ..)
    obtain ⟨ys, i1, i2, i3⟩ := comp_ex enc P l fun b hb => h b (List.mem_cons_of_mem _ hb)
    refine ⟨v :: ys, ?_, by rw [List.length_cons, List.length_cons, i2], fun w hw => ?_⟩
    · rw [List.map_cons, compD, h1]
      simp only [tTrue, h2, i1]
      rfl
    · rcases List.mem_cons.1 hw with rfl | hw
      · exact ⟨a, List.mem_cons_self .., h3⟩
      · obtain ⟨b, hb, hp⟩ := i3 w hw
        exact ⟨b, List.mem_cons_of_mem _ hb, hp⟩
theorem eComp_ex {α : Type} {vs : List Nat} {g : DG} {it : DA} {e : DE} {ρ : Lo} (enc : α → D) (P : α → D → Prop) (l : List α) (hi : it ρ = .ok (l.map enc)) (h : ∀ a ∈ l, ∃ ρ1 v, g (enc a) (wipeD ρ vs) = some ρ1 ∧ e ρ1 = .ok v ∧ P a v) : ∃ ys : List D, eComp vs g it tTrue e ρ = .ok (.list ys) ∧ ys.length = l.length ∧ ∀ v ∈ ys, ∃ a ∈ l, P a v := by
  obtain ⟨ys, h1, h2, h3⟩ := comp_ex enc P l h
  exact ⟨ys, by unfold eComp; rw [hi, bind_ok, h1, up_some, bind_ok], h2, h3⟩
/-- a loop over range(n), by its counter -/
theorem ws_rng {g : DG} {it : DA} {s : DS} {ρ : Lo} {N : Lo → Prop} {R : D → Prop} {B C : Lo → Prop} (n : Nat) (P : Nat → Lo → Prop) (hi : it ρ = .ok ((List.range n).map fun i : Nat => .int (i : Nat))) (h0 : P 0 ρ) (hs : ∀ i, i < n → ∀ ρ, P i ρ → ∃ ρ1, g (.int (i : Nat)) ρ = some ρ1 ∧ WS (s ρ1) (P (i + 1)) R N (P (i + 1))) (hN : ∀ ρ, P n ρ → N ρ) : WS (sFor g it s ρ) N R B C := by
  refine ws_forE (fun i : Nat => .int (i : Nat)) (List.range n) (fun rest ρ => ∃ i, rest = List.range' i (n - i) ∧ i ≤ n ∧ P i ρ) hi ⟨0, by rw [List.range_eq_range']; rfl, by omega, h0⟩ ?_ ?_
  · rintro x xs ρ ⟨i, h1, h2, h3⟩
    have hl := congrArg List.length h1
    rw [List.length_range', List.length_cons] at hl
    have hn : n - i = xs.length + 1 := hl.symm
    rw [hn, List.range'_succ] at h1
    obtain ⟨rfl, hx⟩ := List.cons.inj h1
    have step : ∀ ρ, P (x + 1) ρ → ∃ j, xs = List.range' j (n - j) ∧ j ≤ n ∧ P j ρ := fun ρ h => ⟨x + 1, by rw [show n - (x + 1) = xs.length by omega]; exact hx, by omega, h⟩
    obtain ⟨ρ1, e, h⟩ := hs x (by omega) ρ h3
    exact ⟨ρ1, e, h.mono step (fun _ h => h) (fun _ h => h) step⟩
  · rintro ρ ⟨i, h1, h2, h3⟩
    have hl := congrArg List.length h1
    rw [List.length_range', List.length_nil] at hl
    rw [show i = n by omega] at h3
    exact hN ρ h3
end PL

end
section
namespace PL
open PySem L2
structure OkE (r : Res D) (k : D → Prop) : Prop where
  go : ∃ v, r = .ok v ∧ k v
structure OkB (r : Res Bool) (k : Bool → Prop) : Prop where
  go : ∃ v, r = .ok v ∧ k v
structure OkV (r : Option D) (k : D → Prop) : Prop where
  go : ∃ v, r = some v ∧ k v
structure OkO (r : Option Lo) (k : Lo → Prop) : Prop where
  go : ∃ v, r = some v ∧ k v
structure OkS (r : Option (Option D)) (k : D → Prop) : Prop where
  go : ∃ v, r = some (some v) ∧ k v
structure OkL (r : D) (k : List D → Prop) : Prop where
  go : ∃ v, r = .list v ∧ k v
structure OkP (r : D) (k : List (D × D) → Prop) : Prop where
  go : ∃ v, r = .dict v ∧ k v
def Go (ρ : Lo) (N : Lo → Prop) : Prop := N ρ
theorem okE_ok (v : D) (k : D → Prop) : OkE (.ok v) k = k v := propext ⟨fun h => by obtain ⟨w, e, hk⟩ := h.go; cases e; exact hk, fun h => ⟨v, rfl, h⟩⟩
theorem okB_ok (v : Bool) (k : Bool → Prop) : OkB (.ok v) k = k v := propext ⟨fun h => by obtain ⟨w, e, hk⟩ := h.go; cases e; exact hk, fun h => ⟨v, rfl, h⟩⟩
theorem okV_some (v : D) (k : D → Prop) : OkV (some v) k = k v := propext ⟨fun h => by obtain ⟨w, e, hk⟩ := h.go; cases e; exact hk, fun h => ⟨v, rfl, h⟩⟩
theorem okO_some (v : Lo) (k : Lo → Prop) : OkO (some v) k = k v := propext ⟨fun h => by obtain ⟨w, e, hk⟩ := h.go; cases e; exact hk, fun h => ⟨v, rfl, h⟩⟩
theorem okS_some (v : D) (k : D → Prop) : OkS (some (some v)) k = k v := propext ⟨fun h => by obtain ⟨w, e, hk⟩ := h.go; cases e; exact hk, fun h => ⟨v, rfl, h⟩⟩
theorem okL_list (v : List D) (k : List D → Prop) : OkL (.list v) k = k v := propext ⟨fun h => by obtain ⟨w, e, hk⟩ := h.go; cases e; exact hk, fun h => ⟨v, rfl, h⟩⟩
theorem okP_dict (v : List (D × D)) (k : List (D × D) → Prop) : OkP (.dict v) k = k v := propext ⟨fun h => by obtain ⟨w, e, hk⟩ := h.go; cases e; exact hk, fun h => ⟨v, rfl, h⟩⟩
theorem go_def (ρ : Lo) (N : Lo → Prop) : Go ρ N = N ρ := Eq.trans rfl rfl
theorem okE_ite {p : Prop} [Decidable p] (a b : Res D) (k : D → Prop) : OkE (if p then a else b) k = if p then OkE a k else OkE b k := by split <;> rfl
theorem okB_ite {p : Prop} [Decidable p] (a b : Res Bool) (k : Bool → Prop) : OkB (if p then a else b) k = if p then OkB a k else OkB b k := by split <;> rfl
theorem rbind_ite {α β : Type} {p : Prop} [Decidable p] (a b : Res α) (f : α → Res β) : (if p then a else b).bind f = if p then a.bind f else b.bind f := by split <;> rfl
section
variable {a b s : DS} {ρ : Lo} {N : Lo → Prop} {R : D → Prop} {B C : Lo → Prop} {e : DE} {c : DT} {i : Nat}
theorem wx_seq : WS (sSeq a b ρ) N R B C = WS (a ρ) (fun ρ' => WS (b ρ') N R B C) R B C := by
  refine propext ⟨fun h => ⟨?_⟩, ws_seq⟩
  have h := h.go
  unfold sSeq at h
  cases e : a ρ with
  | nx ρ' => rw [e] at h; exact ⟨h⟩
  | rt v => rw [e] at h; exact h
  | bk ρ' => rw [e] at h; exact h
  | ct ρ' => rw [e] at h; exact h
  | ex c ρ' => rw [e] at h; exact h.elim
  | bad => rw [e] at h; exact h.elim
theorem wx_skip : WS (sSkip ρ) N R B C = N ρ := propext ⟨fun h => h.go, ws_skip⟩
theorem wx_break : WS (sBreak ρ) N R B C = B ρ := propext ⟨fun h => h.go, ws_break⟩
theorem wx_cont : WS (sCont ρ) N R B C = C ρ := propext ⟨fun h => h.go, ws_cont⟩
theorem wx_retN : WS (sRetN ρ) N R B C = R .none := propext ⟨fun h => h.go, fun h => ⟨h⟩⟩
theorem wx_set : WS (sSet i e ρ) N R B C = OkE (e ρ) fun v => Go (ρ.set i (some v)) N := by
  refine propext ⟨fun h => ?_, fun h => ?_⟩
  · have h := h.go
    unfold sSet at h
    cases q : e ρ with
    | ok v => rw [q] at h; exact ⟨v, rfl, h⟩
    | exn _ => rw [q] at h; exact h.elim
    | bad => rw [q] at h; exact h.elim
  · obtain ⟨v, q, h⟩ := h.go; exact ws_set q h
theorem wx_setO : WS (sSetO i e ρ) N R B C = OkE (e ρ) fun v => isMut v = true ∧ Go (ρ.set i (some v)) N := by
  refine propext ⟨fun h => ?_, fun h => ?_⟩
  · have h := h.go
    unfold sSetO at h
    cases q : e ρ with
    | ok v =>
      rw [q] at h
      have h : WS0 (if isMut v = true then .nx (ρ.set i (some v)) else .bad) N R B C := h
      by_cases hm : isMut v = true
      · rw [if_pos hm] at h; exact ⟨v, rfl, hm, h⟩
      · rw [if_neg hm] at h; exact h.elim
    | exn _ => rw [q] at h; exact h.elim
    | bad => rw [q] at h; exact h.elim
  · obtain ⟨v, q, hm, h⟩ := h.go; exact ws_setO q hm h
theorem wx_ret : WS (sRet e ρ) N R B C = OkE (e ρ) R := by
  refine propext ⟨fun h => ?_, fun h => ?_⟩
  · have h := h.go
    unfold sRet at h
    cases q : e ρ with
    | ok v => rw [q] at h; exact ⟨v, rfl, h⟩
    | exn _ => rw [q] at h; exact h.elim
    | bad => rw [q] at h; exact h.elim
  · obtain ⟨v, q, h⟩ := h.go; exact ws_ret q h
theorem wx_expr : WS (sExpr e ρ) N R B C = OkE (e ρ) fun _ => N ρ := by
  refine propext ⟨fun h => ?_, fun h => ?_⟩
  · have h := h.go
    unfold sExpr at h
    cases q : e ρ with
    | ok v => rw [q] at h; exact ⟨v, rfl, h⟩
    | exn _ => rw [q] at h; exact h.elim
    | bad => rw [q] at h; exact h.elim
  · obtain ⟨v, q, h⟩ := h.go; exact ws_expr q h
theorem wx_if : WS (sIf c a b ρ) N R B C = OkB (c ρ) fun k => if k = true then WS (a ρ) N R B C else WS (b ρ) N R B C := by
  refine propext ⟨fun h => ?_, fun h => ?_⟩
  · have h := h.go
    unfold sIf at h
    cases q : c ρ with
    | ok v =>
      rw [q] at h
      refine ⟨v, rfl, ?_⟩
      cases v with
      | true => rw [if_pos rfl]; exact ⟨h⟩
      | false => rw [if_neg (by decide)]; exact ⟨h⟩
    | exn _ => rw [q] at h; exact h.elim
    | bad => rw [q] at h; exact h.elim
  · obtain ⟨v, q, h⟩ := h.go
    cases v with
    | true => rw [if_pos rfl] at h; exact ws_ifT q h
    | false => rw [if_neg (by decide)] at h; exact ws_ifF q h
theorem wx_par {j : Nat} {d d' : DE} (h : OkE (d ρ) fun v => OkE (d' ρ) fun w => Go ((ρ.set i (some v)).set j (some w)) N) : WS (sPar i j d d' ρ) N R B C := by
  obtain ⟨v, q, h⟩ := h.go
  obtain ⟨w, q2, h⟩ := h.go
  exact ws_par q q2 h
theorem wx_parE {j : Nat} {d d' : DE} : WS (sPar i j d d' ρ) N R B C = OkE (d ρ) fun v => OkE (d' ρ) fun w => Go ((ρ.set i (some v)).set j (some w)) N := by
  refine propext ⟨fun h => ?_, wx_par⟩
  have h := h.go
  unfold sPar at h
  cases q : d ρ with
  | ok v =>
    rw [q] at h
    have h : WS0 (sOf (d' ρ) ρ fun w => .nx ((ρ.set i (some v)).set j (some w))) N R B C := h
    refine ⟨v, rfl, ?_⟩
    cases q : d' ρ with
    | ok v => rw [q] at h; exact ⟨v, rfl, h⟩
    | exn _ => rw [q] at h; exact h.elim
    | bad => rw [q] at h; exact h.elim
  | exn _ => rw [q] at h; exact h.elim
  | bad => rw [q] at h; exact h.elim
theorem wx_unp {g : DG} : WS (sUnp g e ρ) N R B C = OkE (e ρ) fun v => OkO (g v ρ) N := by
  refine propext ⟨fun h => ?_, fun h => ?_⟩
  · have h := h.go
    unfold sUnp at h
    cases q : e ρ with
    | ok v =>
      rw [q] at h
      have h : WS0 (match g v ρ with | some ρ' => .nx ρ' | none => .bad) N R B C := h
      refine ⟨v, rfl, ?_⟩
      cases q : g v ρ with
      | some v => rw [q] at h; exact ⟨v, rfl, h⟩
      | none => rw [q] at h; exact h.elim
    | exn _ => rw [q] at h; exact h.elim
    | bad => rw [q] at h; exact h.elim
  · obtain ⟨v, q, h⟩ := h.go
    obtain ⟨w, q2, h⟩ := h.go
    exact ws_unp q q2 h
theorem wx_aug {f : D → D → Option D} : WS (sAug i f e ρ) N R B C = OkS (ρ[i]?) fun x => OkE (e ρ) fun y => OkV (f x y) fun z => Go (ρ.set i (some z)) N := by
  refine propext ⟨fun h => ?_, fun h => ?_⟩
  · have h := h.go
    unfold sAug at h
    cases q : ρ[i]? with
    | none => rw [q] at h; exact h.elim
    | some o =>
      cases o with
      | none => rw [q] at h; exact h.elim
      | some x =>
        rw [q] at h
        have h : WS0 (sOf (e ρ) ρ fun w => match f x w with | some z => .nx (ρ.set i (some z)) | none => .bad) N R B C := h
        refine ⟨x, rfl, ?_⟩
        cases q : e ρ with
        | ok v =>
          rw [q] at h
          have h : WS0 (match f x v with | some z => .nx (ρ.set i (some z)) | none => .bad) N R B C := h
          refine ⟨v, rfl, ?_⟩
          cases q : f x v with
          | some z => rw [q] at h; exact ⟨z, rfl, h⟩
          | none => rw [q] at h; exact h.elim
        | exn _ => rw [q] at h; exact h.elim
        | bad => rw [q] at h; exact h.elim
  · obtain ⟨v, q, h⟩ := h.go
    obtain ⟨w, q2, h⟩ := h.go
    obtain ⟨z, q3, h⟩ := h.go
    exact ws_aug q q2 q3 h
theorem wx_app : WS (sApp i e ρ) N R B C = OkS (ρ[i]?) fun x => OkL x fun ds => OkE (e ρ) fun v => ds.length < 16777216 ∧ Go (ρ.set i (some (.list (ds ++ [v])))) N := by
  refine propext ⟨fun h => ?_, fun h => ?_⟩
  · have h := h.go
    unfold sApp at h
    split at h
    · rename_i ds q
      refine ⟨_, q, ds, rfl, ?_⟩
      cases q : e ρ with
      | ok v =>
        rw [q] at h
        have h : WS0 (if ds.length < sizeLine then .nx (ρ.set i (some (.list (ds ++ [v])))) else .bad) N R B C := h
        refine ⟨v, rfl, ?_⟩
        by_cases hl : ds.length < sizeLine
        · rw [if_pos hl] at h; exact ⟨by rw [line_eq] at hl; exact hl, h⟩
        · rw [if_neg hl] at h; exact h.elim
      | exn _ => rw [q] at h; exact h.elim
      | bad => rw [q] at h; exact h.elim
    · exact h.elim
  · obtain ⟨v, q, h⟩ := h.go
    obtain ⟨w, q2, h⟩ := h.go
    have h := h.go
    obtain ⟨z, q3, h1, h2⟩ := h
    subst q2
    exact ws_app q q3 h1 h2
theorem wx_storeD {k : DE} : WS (sStoreD i k e ρ) N R B C = OkE (e ρ) fun v => OkS (ρ[i]?) fun x => OkP x fun ps => OkE (k ρ) fun kv => ((keyOf kv).isSome = true ∧ ps.length < 16777216) ∧ Go (ρ.set i (some (.dict (putP ps kv v)))) N := by
  refine propext ⟨fun h => ?_, fun h => ?_⟩
  · have h := h.go
    unfold sStoreD at h
    cases q : e ρ with
    | ok v =>
      rw [q] at h
      refine ⟨v, rfl, ?_⟩
      have h : WS0 (match ρ[i]? with
        | some (some (.dict ps)) => sOf (k ρ) ρ fun kv => if (keyOf kv).isSome ∧ ps.length < sizeLine then .nx (ρ.set i (some (.dict (putP ps kv v)))) else .bad
        | _ => .bad) N R B C := h
      split at h
      · rename_i ps q2
        refine ⟨_, q2, ps, rfl, ?_⟩
        cases q3 : k ρ with
        | ok kv =>
          rw [q3] at h
          have h : WS0 (if (keyOf kv).isSome ∧ ps.length < sizeLine then .nx (ρ.set i (some (.dict (putP ps kv v)))) else .bad) N R B C := h
          refine ⟨kv, rfl, ?_⟩
          by_cases hc : (keyOf kv).isSome ∧ ps.length < sizeLine
          · rw [if_pos hc] at h
            exact ⟨⟨hc.1, by have := hc.2; rw [line_eq] at this; exact this⟩, h⟩
          · rw [if_neg hc] at h; exact h.elim
        | exn _ => rw [q3] at h; exact h.elim
        | bad => rw [q3] at h; exact h.elim
      · exact h.elim
    | exn _ => rw [q] at h; exact h.elim
    | bad => rw [q] at h; exact h.elim
  · obtain ⟨v, q, h⟩ := h.go
    obtain ⟨x, q2, h2⟩ := h.go
    obtain ⟨ps, q3, h3⟩ := h2.go
    obtain ⟨kv, q4, ⟨h5, h6⟩, h7⟩ := h3.go
    subst q3
    refine ⟨?_⟩
    unfold sStoreD
    rw [q]
    show WS0 (match ρ[i]? with
    | some (some (.dict ps)) => sOf (k ρ) ρ fun kv => if (keyOf kv).isSome ∧ ps.length < sizeLine then .nx (ρ.set i (some (.dict (putP ps kv v)))) else .bad
    | _ => .bad) N R B C
    rw [q2]
    show WS0 (sOf (k ρ) ρ fun kv => if (keyOf kv).isSome ∧ ps.length < sizeLine then .nx (ρ.set i (some (.dict (putP ps kv v)))) else .bad) N R B C
    rw [q4]
    show WS0 (if (keyOf kv).isSome ∧ ps.length < sizeLine then .nx (ρ.set i (some (.dict (putP ps kv v)))) else .bad) N R B C
    rw [if_pos ⟨h5, by rw [line_eq]; exact h6⟩]
    exact h7
theorem wx_store {k : DE} : WS (sStore i k e ρ) N R B C = OkE (e ρ) fun v => OkS (ρ[i]?) fun x => OkL x fun ds => OkE (k ρ) fun kv => OkV (storeD (.list ds) kv v) fun o => Go (ρ.set i (some o)) N := by
  refine propext ⟨fun h => ?_, fun h => ?_⟩
  · have h := h.go
    unfold sStore at h
    cases q : e ρ with
    | ok v =>
      rw [q] at h
      refine ⟨v, rfl, ?_⟩
      have h : WS0 (match ρ[i]? with
        | some (some (.list ds)) => sOf (k ρ) ρ fun kv => match storeD (.list ds) kv v with
          | some o' => .nx (ρ.set i (some o'))
          | none => .bad
        | _ => .bad) N R B C := h
      split at h
      · rename_i ds q2
        refine ⟨_, q2, ds, rfl, ?_⟩
        cases q3 : k ρ with
        | ok kv =>
          rw [q3] at h
          have h : WS0 (match storeD (.list ds) kv v with
          | some o' => .nx (ρ.set i (some o'))
          | none => .bad) N R B C := h
          refine ⟨kv, rfl, ?_⟩
          cases q4 : storeD (.list ds) kv v with
          | some o => rw [q4] at h; exact ⟨o, rfl, h⟩
          | none => rw [q4] at h; exact h.elim
        | exn _ => rw [q3] at h; exact h.elim
        | bad => rw [q3] at h; exact h.elim
      · exact h.elim
    | exn _ => rw [q] at h; exact h.elim
    | bad => rw [q] at h; exact h.elim
  · obtain ⟨v, q, h⟩ := h.go
    obtain ⟨x, q2, h2⟩ := h.go
    obtain ⟨ps, q3, h3⟩ := h2.go
    obtain ⟨kv, q4, h4⟩ := h3.go
    obtain ⟨o, q5, h5⟩ := h4.go
    subst q3
    refine ⟨?_⟩
    unfold sStore
    rw [q]
    show WS0 (match ρ[i]? with
        | some (some (.list ds)) => sOf (k ρ) ρ fun kv => match storeD (.list ds) kv v with
          | some o' => .nx (ρ.set i (some o'))
          | none => .bad
        | _ => .bad) N R B C
    rw [q2]
    show WS0 (sOf (k ρ) ρ fun kv => match storeD (.list ps) kv v with
          | some o' => .nx (ρ.set i (some o'))
          | none => .bad) N R B C
    rw [q4]
    show WS0 (match storeD (.list ps) kv v with
          | some o' => .nx (ρ.set i (some o'))
          | none => .bad) N R B C
    rw [q5]
    exact h5
end
inductive Tg {α : Type} (k : α) : Type
  | mk
def rb {α β : Type} (r : Res α) (f : α → Res β) (_ : Tg f) : Res β := r.bind f
theorem rb_ok {α β : Type} (a : α) (f : α → Res β) (t : Tg f) : rb (.ok a) f t = f a := Eq.trans rfl rfl
theorem rb_exn {α β : Type} (e : D) (f : α → Res β) (t : Tg f) : rb (.exn e) f t = .exn e := Eq.trans rfl rfl
def WT (r : SRes) (N : Lo → Prop) (R : D → Prop) (B C : Lo → Prop) (_ : Tg N) (_ : Tg R) (_ : Tg B) (_ : Tg C) : Prop := WS r N R B C
def KE (r : Res D) (k : D → Prop) (_ : Tg k) : Prop := OkE r k
def KB (r : Res Bool) (k : Bool → Prop) (_ : Tg k) : Prop := OkB r k
def KV (r : Option D) (k : D → Prop) (_ : Tg k) : Prop := OkV r k
def KO (r : Option Lo) (k : Lo → Prop) (_ : Tg k) : Prop := OkO r k
def KS (r : Option (Option D)) (k : D → Prop) (_ : Tg k) : Prop := OkS r k
def KL (r : D) (k : List D → Prop) (_ : Tg k) : Prop := OkL r k
def KP (r : D) (k : List (D × D) → Prop) (_ : Tg k) : Prop := OkP r k
def KG (r : Lo) (k : Lo → Prop) (_ : Tg k) : Prop := k r
section
variable {t : Tg (fun _ : D => True)}
theorem kE_ok (v : D) (k : D → Prop) (t : Tg k) : KE (.ok v) k t = k v := okE_ok v k
theorem kB_ok (v : Bool) (k : Bool → Prop) (t : Tg k) : KB (.ok v) k t = k v := okB_ok v k
theorem kV_some (v : D) (k : D → Prop) (t : Tg k) : KV (some v) k t = k v := okV_some v k
theorem kO_some (v : Lo) (k : Lo → Prop) (t : Tg k) : KO (some v) k t = k v := okO_some v k
theorem kS_some (v : D) (k : D → Prop) (t : Tg k) : KS (some (some v)) k t = k v := okS_some v k
theorem kL_list (v : List D) (k : List D → Prop) (t : Tg k) : KL (.list v) k t = k v := okL_list v k
theorem kP_dict (v : List (D × D)) (k : List (D × D) → Prop) (t : Tg k) : KP (.dict v) k t = k v := okP_dict v k
theorem kG_def (ρ : Lo) (N : Lo → Prop) (t : Tg N) : KG ρ N t = N ρ := Eq.trans rfl rfl
theorem kE_ite {p : Prop} [Decidable p] (a b : Res D) (k : D → Prop) (t : Tg k) : KE (if p then a else b) k t = if p then KE a k t else KE b k t := by split <;> rfl
theorem kB_ite {p : Prop} [Decidable p] (a b : Res Bool) (k : Bool → Prop) (t : Tg k) : KB (if p then a else b) k t = if p then KB a k t else KB b k t := by split <;> rfl
theorem rb_ite {α β : Type} {p : Prop} [Decidable p] (a b : Res α) (f : α → Res β) (t : Tg f) : rb (if p then a else b) f t = if p then rb a f t else rb b f t := by split <;> rfl
end
theorem wt_ws (r : SRes) (N : Lo → Prop) (R : D → Prop) (B C : Lo → Prop) (tN : Tg N) (tR : Tg R) (tB : Tg B) (tC : Tg C) : WT r N R B C tN tR tB tC = WS r N R B C := Eq.trans rfl rfl
theorem ws_wtE (r : SRes) (N : Lo → Prop) (R : D → Prop) (B C : Lo → Prop) : WS r N R B C = WT r N R B C .mk .mk .mk .mk := Eq.trans rfl rfl
theorem ws_wt {r : SRes} {N : Lo → Prop} {R : D → Prop} {B C : Lo → Prop} (h : WT r N R B C .mk .mk .mk .mk) : WS r N R B C := h
section
variable {a b s : DS} {ρ : Lo} {N : Lo → Prop} {R : D → Prop} {B C : Lo → Prop} {e : DE} {c : DT} {i : Nat} {tN : Tg N} {tR : Tg R} {tB : Tg B} {tC : Tg C}
theorem tx_seq : WT (sSeq a b ρ) N R B C tN tR tB tC = WT (a ρ) (fun ρ' => WT (b ρ') N R B C tN tR tB tC) R B C .mk tR tB tC := wx_seq
theorem tx_skip : WT (sSkip ρ) N R B C tN tR tB tC = N ρ := wx_skip
theorem tx_break : WT (sBreak ρ) N R B C tN tR tB tC = B ρ := wx_break
theorem tx_cont : WT (sCont ρ) N R B C tN tR tB tC = C ρ := wx_cont
theorem tx_retN : WT (sRetN ρ) N R B C tN tR tB tC = R .none := wx_retN
theorem tx_set : WT (sSet i e ρ) N R B C tN tR tB tC = KE (e ρ) (fun v => KG (ρ.set i (some v)) N tN) .mk := wx_set
theorem tx_setO : WT (sSetO i e ρ) N R B C tN tR tB tC = KE (e ρ) (fun v => isMut v = true ∧ KG (ρ.set i (some v)) N tN) .mk := wx_setO
theorem tx_ret : WT (sRet e ρ) N R B C tN tR tB tC = KE (e ρ) R tR := wx_ret
theorem tx_expr : WT (sExpr e ρ) N R B C tN tR tB tC = KE (e ρ) (fun _ => N ρ) .mk := wx_expr
theorem tx_if : WT (sIf c a b ρ) N R B C tN tR tB tC = KB (c ρ) (fun k => if k = true then WT (a ρ) N R B C tN tR tB tC else WT (b ρ) N R B C tN tR tB tC) .mk := wx_if
theorem tx_par {j : Nat} {d d' : DE} : WT (sPar i j d d' ρ) N R B C tN tR tB tC = KE (d ρ) (fun v => KE (d' ρ) (fun w => KG ((ρ.set i (some v)).set j (some w)) N tN) .mk) .mk := wx_parE
theorem tx_unp {g : DG} : WT (sUnp g e ρ) N R B C tN tR tB tC = KE (e ρ) (fun v => KO (g v ρ) N tN) .mk := wx_unp
theorem tx_aug {f : D → D → Option D} : WT (sAug i f e ρ) N R B C tN tR tB tC = KS (ρ[i]?) (fun x => KE (e ρ) (fun y => KV (f x y) (fun z => KG (ρ.set i (some z)) N tN) .mk) .mk) .mk := wx_aug
theorem tx_app : WT (sApp i e ρ) N R B C tN tR tB tC = KS (ρ[i]?) (fun x => KL x (fun ds => KE (e ρ) (fun v => ds.length < 16777216 ∧ KG (ρ.set i (some (.list (ds ++ [v])))) N tN) .mk) .mk) .mk := wx_app
theorem tx_storeD {k : DE} : WT (sStoreD i k e ρ) N R B C tN tR tB tC = KE (e ρ) (fun v => KS (ρ[i]?) (fun x => KP x (fun ps => KE (k ρ) (fun kv => ((keyOf kv).isSome = true ∧ ps.length < 16777216) ∧ KG (ρ.set i (some (.dict (putP ps kv v)))) N tN) .mk) .mk) .mk) .mk := wx_storeD
theorem tx_store {k : DE} : WT (sStore i k e ρ) N R B C tN tR tB tC = KE (e ρ) (fun v => KS (ρ[i]?) (fun x => KL x (fun ds => KE (k ρ) (fun kv => KV (storeD (.list ds) kv v) (fun o => KG (ρ.set i (some o)) N tN) .mk) .mk) .mk) .mk) .mk := wx_store
end
section
variable (ρ : Lo)
def slotE (o : Option (Option D)) : Res D := match o with
  | some (some v) => .ok v
  | _ => .bad
theorem eVar_ap (i : Nat) : eVar i ρ = slotE (ρ[i]?) := Eq.trans rfl rfl
theorem slotE_some (v : D) : slotE (some (some v)) = .ok v := Eq.trans rfl rfl
theorem eC_ap (v : D) : eC v ρ = .ok v := Eq.trans rfl rfl
theorem eUn_ap (f : D → Option D) (d : DE) : eUn f d ρ = rb (d ρ) (fun x => Res.up (f x)) .mk := Eq.trans rfl rfl
theorem eBin_ap (f : D → D → Option D) (d d' : DE) : eBin f d d' ρ = rb (d ρ) (fun x => rb (d' ρ) (fun y => Res.up (f x y)) .mk) .mk := Eq.trans rfl rfl
theorem eMeL_ap (f : D → D → Option D) (d d' : DE) : eMeL f d d' ρ = rb (d ρ) (fun v => if isListD v = true then rb (d' ρ) (fun w => Res.up (f v w)) .mk else .bad) .mk := Eq.trans rfl rfl
theorem eCall_ap (f : List D → Res D) (d : DA) : eCall f d ρ = rb (d ρ) f .mk := Eq.trans rfl rfl
theorem aNil_ap : aNil ρ = .ok [] := Eq.trans rfl rfl
theorem aCons_ap (d : DE) (r : DA) : aCons d r ρ = rb (d ρ) (fun x => rb (r ρ) (fun xs => .ok (x :: xs)) .mk) .mk := Eq.trans rfl rfl
theorem tBin_ap (f : D → D → Option D) (d d' : DE) : tBin f d d' ρ = rb (eBin f d d' ρ) (fun v => Res.up (asB v)) .mk := Eq.trans rfl rfl
theorem tVal_ap (d : DE) : tVal d ρ = rb (d ρ) (fun v => .ok (truthD v)) .mk := Eq.trans rfl rfl
theorem tNotD_ap (d : DT) : tNotD d ρ = rb (d ρ) (fun b => .ok (!b)) .mk := Eq.trans rfl rfl
theorem tAndD_ap (d d' : DT) : tAndD d d' ρ = rb (d ρ) (fun b => if b = true then d' ρ else .ok false) .mk := Eq.trans rfl rfl
theorem tOrD_ap (d d' : DT) : tOrD d d' ρ = rb (d ρ) (fun b => if b = true then .ok true else d' ρ) .mk := Eq.trans rfl rfl
theorem tTrue_ap : tTrue ρ = .ok true := Eq.trans rfl rfl
theorem eNot_ap (d : DE) : eNot d ρ = rb (d ρ) (fun v => .ok (.bool (!truthD v))) .mk := Eq.trans rfl rfl
theorem eAnd_ap (d d' : DE) : eAnd d d' ρ = rb (d ρ) (fun v => if truthD v = true then d' ρ else .ok v) .mk := Eq.trans rfl rfl
theorem eOr_ap (d d' : DE) : eOr d d' ρ = rb (d ρ) (fun v => if truthD v = true then .ok v else d' ρ) .mk := Eq.trans rfl rfl
theorem eIfE_ap (t : DT) (d d' : DE) : eIfE t d d' ρ = rb (t ρ) (fun b => if b = true then d ρ else d' ρ) .mk := Eq.trans rfl rfl
theorem eChain_ap (f f' : D → D → Option D) (d d' d'' : DE) : eChain f f' d d' d'' ρ = rb (d ρ) (fun x => rb (d' ρ) (fun y => rb (Res.up ((f x y).bind asB)) (fun k => if k = true then rb (d'' ρ) (fun z => Res.up (f' y z)) .mk else .ok (.bool false)) .mk) .mk) .mk := by
  unfold eChain; rfl
theorem tChainD_ap (f f' : D → D → Option D) (d d' d'' : DE) : tChainD f f' d d' d'' ρ = rb (d ρ) (fun x => rb (d' ρ) (fun y => rb (Res.up ((f x y).bind asB)) (fun k => if k = true then rb (d'' ρ) (fun z => Res.up ((f' y z).bind asB)) .mk else .ok false) .mk) .mk) .mk := by
  unfold tChainD; rfl
theorem eTup_ap (d : DA) : eTup d ρ = rb (d ρ) mkT .mk := Eq.trans rfl rfl
theorem eLst_ap (d : DA) : eLst d ρ = rb (d ρ) mkL .mk := Eq.trans rfl rfl
theorem oNone_ap : oNone ρ = .ok none := Eq.trans rfl rfl
theorem oSome_ap (d : DE) : oSome d ρ = rb (d ρ) (fun v => rb (Res.up (asI v)) (fun i => .ok (some i)) .mk) .mk := Eq.trans rfl rfl
theorem eSlice_ap (d : DE) (l h : DO) : eSlice d l h ρ = rb (d ρ) (fun x => rb (l ρ) (fun i => rb (h ρ) (fun j => Res.up (vSlice x i j)) .mk) .mk) .mk := Eq.trans rfl rfl
theorem eStep_ap (d : DE) (l h s : DO) : eStep d l h s ρ = rb (d ρ) (fun x => rb (l ρ) (fun i => rb (h ρ) (fun j => rb (s ρ) (fun c => Res.up (vStep x i j c)) .mk) .mk) .mk) .mk := Eq.trans rfl rfl
theorem iVal_ap (d : DE) : iVal d ρ = rb (d ρ) (fun v => Res.up (itemsD v)) .mk := Eq.trans rfl rfl
theorem items_tup (l : List D) : itemsD (.tuple l) = some l := rfl
theorem items_list (l : List D) : itemsD (.list l) = some l := rfl
theorem iR1_ap (b : Bool) (d : DE) : iR1 b d ρ = rb (d ρ) (fun v => Res.up (vRange1 b v)) .mk := Eq.trans rfl rfl
theorem iR2_ap (b : Bool) (d d' : DE) : iR2 b d d' ρ = rb (d ρ) (fun v => rb (d' ρ) (fun w => Res.up (vRange2 b v w)) .mk) .mk := Eq.trans rfl rfl
theorem iR3_ap (b : Bool) (d d' d'' : DE) : iR3 b d d' d'' ρ = rb (d ρ) (fun v => rb (d' ρ) (fun w => rb (d'' ρ) (fun z => Res.up (vRange3 b v w z)) .mk) .mk) .mk := Eq.trans rfl rfl
theorem iRevD_ap (d : DE) : iRevD d ρ = rb (d ρ) (fun v => Res.up (vRev v)) .mk := Eq.trans rfl rfl
theorem iZipD_ap (d d' : DE) : iZipD d d' ρ = rb (d ρ) (fun v => rb (d' ρ) (fun w => Res.up (vZip v w)) .mk) .mk := Eq.trans rfl rfl
theorem iEnumD_ap (d : DE) : iEnumD d ρ = rb (d ρ) (fun v => Res.up (vEnum v)) .mk := Eq.trans rfl rfl
theorem eDisp_ap (zs : List Str) (d : DA) : eDisp zs d ρ = rb (d ρ) (fun xs => if xs.length = zs.length ∧ zs.length ≤ 15 then .ok (.dict (dispP zs xs)) else .bad) .mk := Eq.trans rfl rfl
theorem gN_ap (i : Nat) (v : D) : gN i v ρ = some (ρ.set i (some v)) := Eq.trans rfl rfl
theorem gT_ap (n : Nat) (gs : DGs) (ds : List D) (h : ds.length = n) : gT n gs (.tuple ds) ρ = gs ds ρ := if_pos h
theorem gT2_ap (i j : Nat) (a b : D) : gT 2 (gsCons (gN i) (gsCons (gN j) gsNil)) (.tuple [a, b]) ρ = some ((ρ.set i (some a)).set j (some b)) := Eq.trans rfl rfl
theorem gT3_ap (i j k : Nat) (a b c : D) : gT 3 (gsCons (gN i) (gsCons (gN j) (gsCons (gN k) gsNil))) (.tuple [a, b, c]) ρ = some (((ρ.set i (some a)).set j (some b)).set k (some c)) := Eq.trans rfl rfl
theorem gsNil_ap : gsNil [] ρ = some ρ := Eq.trans rfl rfl
theorem gsCons_ap (i : Nat) (gs : DGs) (d : D) (ds : List D) : gsCons (gN i) gs (d :: ds) ρ = gs ds (ρ.set i (some d)) := Eq.trans rfl rfl
end
theorem ite_okb {p : Prop} [Decidable p] (b : Bool) : (if p then Res.ok b else Res.ok false) = Res.ok (decide p && b) := by split <;> simp [*]
theorem ite_okB {p : Prop} [Decidable p] (b : Bool) : (if p then Res.ok (PyData.bool b) else Res.ok (.bool false)) = Res.ok (.bool (decide p && b)) := by split <;> simp [*]
theorem ite_okb' {p : Prop} [Decidable p] (b : Bool) : (if p then Res.ok true else Res.ok b) = Res.ok (decide p || b) := by split <;> simp [*]
theorem ite_okB' {p : Prop} [Decidable p] (b : Bool) : (if p then Res.ok (PyData.bool true) else Res.ok (.bool b)) = Res.ok (.bool (decide p || b)) := by split <;> simp [*]
theorem ws_tryN_ok {body : DS} {tbl : Str → Option Bool} {de : DE} {ρ : Lo} {N : Lo → Prop} {R : D → Prop} {B C : Lo → Prop} (h : WS (body ρ) N R B C) : WS (sTryN tbl body de ρ) N R B C := by
  refine ⟨?_⟩
  have h := h.go
  unfold sTryN
  cases e : body ρ with
  | nx ρ' => rw [e] at h; exact h
  | rt v => rw [e] at h; exact h
  | bk ρ' => rw [e] at h; exact h
  | ct ρ' => rw [e] at h; exact h
  | ex c ρ' => rw [e] at h; exact h.elim
  | bad => rw [e] at h; exact h.elim
theorem ws_tryN_ex {body : DS} {tbl : Str → Option Bool} {de : DE} {ρ ρ' : Lo} {N : Lo → Prop} {R : D → Prop} {B C : Lo → Prop} {n : Str} {v : D} (hb : body ρ = .ex (excD n []) ρ') (ht : tbl n = some true) (he : de ρ' = .ok v) (h : R v) : WS (sTryN tbl body de ρ) N R B C := by
  refine ⟨?_⟩
  unfold sTryN
  rw [hb]
  show WS0 (match tbl n with
    | some true => onlyRt ρ' (de ρ')
    | some false => .ex (excD n []) ρ'
    | none => .bad) N R B C
  rw [ht]
  show WS0 (onlyRt ρ' (de ρ')) N R B C
  rw [he]
  exact h
theorem ws_mid {r : SRes} {N : Lo → Prop} {R : D → Prop} {B C : Lo → Prop} (M : Lo → Prop) (h : WS r M R B C) (h2 : ∀ ρ', M ρ' → N ρ') : WS r N R B C := h.mono h2 (fun _ h => h) (fun _ h => h) (fun _ h => h)
theorem dec_ne' {α : Type} [DecidableEq α] (a b : α) : decide (a ≠ b) = !decide (a = b) := decide_not
theorem ite_dec {p : Prop} [Decidable p] (x : Res D) : (if p then x else Res.ok (PyData.bool (decide p))) = if p then x else Res.ok (.bool false) := by split <;> simp [*]
theorem ite_dec' {p : Prop} [Decidable p] (x : Res D) : (if p then Res.ok (PyData.bool (decide p)) else x) = if p then Res.ok (.bool true) else x := by split <;> simp [*]
theorem ite_b (b : Bool) (x : Res D) : (if b = true then x else Res.ok (PyData.bool b)) = if b = true then x else Res.ok (.bool false) := by cases b <;> rfl
theorem ite_b' (b : Bool) (x : Res D) : (if b = true then Res.ok (PyData.bool b) else x) = if b = true then Res.ok (.bool true) else x := by cases b <;> rfl
theorem vIdx_t4 (a b c d e : D) (l : List D) : vIdx (.tuple (a :: b :: c :: d :: e :: l)) (.int 4) = some e := by
  rw [vIdx_tup (by decide) (by simp <;> omega)]; rfl
theorem vIdx_t5 (a b c d e f : D) (l : List D) : vIdx (.tuple (a :: b :: c :: d :: e :: f :: l)) (.int 5) = some f := by
  rw [vIdx_tup (by decide) (by simp <;> omega)]; rfl
theorem vIdx_l3 (a b c d : D) (l : List D) : vIdx (.list (a :: b :: c :: d :: l)) (.int 3) = some d := vIdx_t3 a b c d l
theorem vIdx_l4 (a b c d e : D) (l : List D) : vIdx (.list (a :: b :: c :: d :: e :: l)) (.int 4) = some e := vIdx_t4 a b c d e l
theorem isMut_list (l : List D) : isMut (.list l) = true := rfl
theorem isMut_dict (l : List (D × D)) : isMut (.dict l) = true := rfl
theorem up_none' {α : Type} : Res.up (none : Option α) = .bad := rfl
end PL

end
section
namespace PL
open PySem
theorem eMeD_ap {ρ : Lo} (f : D → D → Option D) (d d' : DE) : eMeD f d d' ρ = rb (d ρ) (fun v => if isDictD v = true then rb (d' ρ) (fun w => Res.up (f v w)) .mk else .bad) .mk := Eq.trans rfl rfl
theorem vGet1D_str (ps : List (D × D)) (z : Str) : vGet1D (.dict ps) (.str z) = some ((findP ps (.str z)).getD .none) := Eq.trans rfl rfl
theorem vGet1D_int (ps : List (D × D)) (i : Int) : vGet1D (.dict ps) (.int i) = some ((findP ps (.int i)).getD .none) := Eq.trans rfl rfl
theorem vDisp1_str (z : Str) (v : D) : vDisp1 (.str z) v = some (.dict [(.str z, v)]) := Eq.trans rfl rfl
theorem vDisp1_int (i : Int) (v : D) : vDisp1 (.int i) v = some (.dict [(.int i, v)]) := Eq.trans rfl rfl
theorem vCountI_ints (ns : List Int) (i : Int) : vCountI (.list (ns.map .int)) (.int i) = some (.int (ns.count i : Nat)) := by
  show (allInt (ns.map .int)).bind _ = _
  rw [allInt_map]; rfl
theorem vSorted_ints (ns : List Int) : vSorted (.list (ns.map .int)) = some (.list ((sortI ns).map .int)) := by
  show (match allInt (ns.map .int) with
    | some ns => some (PyData.list ((sortI ns).map .int))
    | none => _) = _
  rw [allInt_map]
theorem vSorted_strs (ss : List Str) : vSorted (.list (ss.map .str)) = some (.list ((sortS ss).map .str)) := by
  cases ss with
  | nil => simp [vSorted, allInt, sortI, sortS]
  | cons z r =>
    show (match allInt (.str z :: r.map .str) with
      | some ns => some (PyData.list ((sortI ns).map .int))
      | none => (allStr (.str z :: r.map .str)).bind fun ss => some (.list ((sortS ss).map .str))) = _
    rw [show allInt (.str z :: r.map .str) = none from rfl, show allStr (.str z :: r.map .str) = some (z :: r) from allStr_map (z :: r)]
    rfl
end PL

end
section
namespace PL
open PySem
def d_is_name : List D → Res D := runD 2 (sSeq (sIf (tOrD (tNotD (tVal (eUn (vIsi "str") (eVar 0)))) (tNotD (tChainD vLe vLe (eC (.int 1)) (eUn vLen (eVar 0)) (eC (.int 12))))) (sSeq (sRet (eC (.bool false))) (sSkip)) (sSkip)) (sSeq (sIf (tBin vNotIn (eBin vIdx (eVar 0) (eC (.int 0))) (eC (.str "abcdefghijklmnopqrstuvwxyz"))) (sSeq (sRet (eC (.bool false))) (sSkip)) (sSkip)) (sSeq (sFor (gN 1) (iVal (eVar 0)) (sSeq (sIf (tAndD (tBin vNotIn (eVar 1) (eC (.str "abcdefghijklmnopqrstuvwxyz"))) (tBin vNotIn (eVar 1) (eC (.str "0123456789")))) (sSeq (sRet (eC (.bool false))) (sSkip)) (sSkip)) (sSkip))) (sSeq (sRet (eC (.bool true))) (sSkip)))))
def d_is_row : List D → Res D := runD 3 (sSeq (sRet (eAnd (eUn (vIsi "tuple") (eVar 0)) (eChain vLe vLe (eVar 1) (eUn vLen (eVar 0)) (eVar 2)))) (sSkip))
def d_is_names : List D → Res D := runD 5 (sSeq (sIf (tNotD (tVal (eCall d_is_row (aCons (eVar 0) (aCons (eVar 1) (aCons (eVar 2) (aNil))))))) (sSeq (sRet (eC (.bool false))) (sSkip)) (sSkip)) (sSeq (sSetO 3 (eC (.dict []))) (sSeq (sFor (gN 4) (iVal (eVar 0)) (sSeq (sIf (tOrD (tNotD (tVal (eCall d_is_name (aCons (eVar 4) (aNil))))) (tBin vInD (eVar 4) (eVar 3))) (sSeq (sRet (eC (.bool false))) (sSkip)) (sSkip)) (sSeq (sStoreD 3 (eVar 4) (eC (.bool true))) (sSkip)))) (sSeq (sRet (eC (.bool true))) (sSkip)))))
def d_is_ascending : List D → Res D := runD 4 (sSeq (sIf (tNotD (tVal (eCall d_is_names (aCons (eVar 0) (aCons (eVar 1) (aCons (eVar 2) (aNil))))))) (sSeq (sRet (eC (.bool false))) (sSkip)) (sSkip)) (sSeq (sRet (eUn vAll (eComp [3] (gN 3) (iR1 true (eBin vSub (eUn vLen (eVar 0)) (eC (.int 1)))) (tTrue) (eBin vLt (eBin vIdx (eVar 0) (eVar 3)) (eBin vIdx (eVar 0) (eBin vAdd (eVar 3) (eC (.int 1)))))))) (sSkip)))
def d_value_of : List D → Res D := runD 4 (sSeq (sFor (gN 3) (iVal (eVar 0)) (sSeq (sIf (tBin vEq (eBin vIdx (eVar 3) (eC (.int 0))) (eVar 1)) (sSeq (sRet (eBin vIdx (eVar 3) (eC (.int 1)))) (sSkip)) (sSkip)) (sSkip))) (sSeq (sRet (eVar 2)) (sSkip)))
def d_serves : List D → Res D := runD 2 (sSeq (sRet (eOr (eBin vEq (eBin vIdx (eVar 0) (eC (.int 2))) (eVar 1)) (eBin vEq (eBin vIdx (eVar 0) (eC (.int 2))) (eC (.str "all"))))) (sSkip))
def d_is_chain : List D → Res D := runD 7 (sSeq (sIf (tNotD (tVal (eCall d_is_names (aCons (eVar 3) (aCons (eC (.int 0)) (aCons (eC (.int 24)) (aNil))))))) (sSeq (sRet (eC (.bool false))) (sSkip)) (sSkip)) (sSeq (sSet 4 (eC (.str "master"))) (sSeq (sFor (gN 5) (iVal (eVar 3)) (sSeq (sSet 6 (eCall (fun ds => d_value_of (ds ++ [.none])) (aCons (eVar 0) (aCons (eVar 5) (aNil))))) (sSeq (sIf (tOrD (tBin vIsN (eVar 6) (eC .none)) (tOrD (tNotD (tVal (eCall d_serves (aCons (eVar 6) (aCons (eVar 2) (aNil)))))) (tBin vNe (eBin vIdx (eVar 6) (eC (.int 0))) (eVar 4)))) (sSeq (sRet (eC (.bool false))) (sSkip)) (sSkip)) (sSeq (sSet 4 (eBin vIdx (eVar 6) (eC (.int 1)))) (sSkip))))) (sSeq (sRet (eBin vEq (eVar 4) (eVar 1))) (sSkip)))))
def d_is_closed_2 : List D → Res D := runD 6 (sSeq (sIf (tOrD (tNotD (tVal (eCall d_is_ascending (aCons (eVar 3) (aCons (eC (.int 1)) (aCons (eC (.int 99)) (aNil))))))) (tOrD (tBin vNotIn (eC (.str "master")) (eVar 3)) (tBin vIn (eVar 1) (eVar 3)))) (sSeq (sRet (eC (.bool false))) (sSkip)) (sSkip)) (sSeq (sFor (gN 4) (iVal (eVar 0)) (sSeq (sSet 5 (eBin vIdx (eVar 4) (eC (.int 1)))) (sSeq (sIf (tAndD (tVal (eCall d_serves (aCons (eVar 5) (aCons (eVar 2) (aNil))))) (tAndD (tBin vIn (eBin vIdx (eVar 5) (eC (.int 0))) (eVar 3)) (tBin vNotIn (eBin vIdx (eVar 5) (eC (.int 1))) (eVar 3)))) (sSeq (sRet (eC (.bool false))) (sSkip)) (sSkip)) (sSkip)))) (sSeq (sRet (eC (.bool true))) (sSkip))))
def d_hands_that_may : List D → Res D := runD 6 (sSeq (sSetO 2 (eLst (aCons (eC (.str "master")) (aNil)))) (sSeq (sSet 3 (eC (.int 0))) (sSeq (sWhile wFuel (tBin vLt (eVar 3) (eUn vLen (eVar 2))) (sSeq (sFor (gN 4) (iVal (eVar 0)) (sSeq (sSet 5 (eBin vIdx (eVar 4) (eC (.int 1)))) (sSeq (sIf (tAndD (tVal (eCall d_serves (aCons (eVar 5) (aCons (eVar 1) (aNil))))) (tAndD (tBin vEq (eBin vIdx (eVar 5) (eC (.int 0))) (eBin vIdx (eVar 2) (eVar 3))) (tBin vNotIn (eBin vIdx (eVar 5) (eC (.int 1))) (eVar 2)))) (sSeq (sApp 2 (eBin vIdx (eVar 5) (eC (.int 1)))) (sSkip)) (sSkip)) (sSkip)))) (sSeq (sAug 3 vAddI (eC (.int 1))) (sSkip)))) (sSeq (sRet (eUn vTuple (eUn vSorted (eVar 2)))) (sSkip)))))
def d_sizes_to_hand : List D → Res D := runD 7 (sSeq (sSetO 3 (eBin vDisp1 (eVar 1) (eC (.int 0)))) (sSeq (sFor (gN 4) (iR2 false (eC (.int 1)) (eBin vAdd (eUn vLen (eVar 0)) (eC (.int 1)))) (sSeq (sFor (gN 5) (iVal (eVar 0)) (sSeq (sSet 6 (eBin vIdx (eVar 5) (eC (.int 1)))) (sSeq (sIf (tAndD (tVal (eCall d_serves (aCons (eVar 6) (aCons (eVar 2) (aNil))))) (tAndD (tBin vEq (eMeD vGet1D (eVar 3) (eBin vIdx (eVar 6) (eC (.int 1)))) (eBin vSub (eVar 4) (eC (.int 1)))) (tBin vNinD (eBin vIdx (eVar 6) (eC (.int 0))) (eVar 3)))) (sSeq (sStoreD 3 (eBin vIdx (eVar 6) (eC (.int 0))) (eVar 4)) (sSkip)) (sSkip)) (sSkip)))) (sSkip))) (sSeq (sRet (eVar 3)) (sSkip))))
def d_right_report : List D → Res D := runD 10 (sSeq (sSet 3 (eCall d_sizes_to_hand (aCons (eVar 0) (aCons (eVar 1) (aCons (eVar 2) (aNil)))))) (sSeq (sIf (tBin vNinD (eC (.str "master")) (eVar 3)) (sSeq (sRet (eTup (aCons (eC (.str "closed")) (aCons (eCall d_hands_that_may (aCons (eVar 0) (aCons (eVar 2) (aNil)))) (aNil))))) (sSkip)) (sSkip)) (sSeq (sSetO 4 (eLst (aNil))) (sSeq (sSet 5 (eC (.str "master"))) (sSeq (sFor (gN 6) (iR3 false (eBin vSub (eBin vGetD (eVar 3) (eC (.str "master"))) (eC (.int 1))) (eUn vNeg (eC (.int 1))) (eUn vNeg (eC (.int 1)))) (sSeq (sSet 7 (eComp [8, 9] (gT 2 (gsCons (gN 8) (gsCons (gN 9) (gsNil)))) (iVal (eVar 0)) (tAndD (tVal (eCall d_serves (aCons (eVar 9) (aCons (eVar 2) (aNil))))) (tAndD (tBin vEq (eBin vIdx (eVar 9) (eC (.int 0))) (eVar 5)) (tBin vEq (eMeD vGet1D (eVar 3) (eBin vIdx (eVar 9) (eC (.int 1)))) (eVar 6)))) (eTup (aCons (eVar 8) (aCons (eBin vIdx (eVar 9) (eC (.int 1))) (aNil)))))) (sSeq (sUnp (gT 2 (gsCons (gN 8) (gsCons (gN 5) (gsNil)))) (eBin vIdx (eVar 7) (eC (.int 0)))) (sSeq (sApp 4 (eVar 8)) (sSkip))))) (sSeq (sRet (eTup (aCons (eC (.str "chain")) (aCons (eUn vTuple (eVar 4)) (aNil))))) (sSkip)))))))
def d_shows_right : List D → Res D := runD 4 (sSeq (sIf (tNotD (tVal (eCall d_is_row (aCons (eVar 3) (aCons (eC (.int 2)) (aCons (eC (.int 2)) (aNil))))))) (sSeq (sRet (eC (.bool false))) (sSkip)) (sSkip)) (sSeq (sIf (tBin vEq (eBin vIdx (eVar 3) (eC (.int 0))) (eC (.str "chain"))) (sSeq (sRet (eCall d_is_chain (aCons (eVar 0) (aCons (eVar 1) (aCons (eVar 2) (aCons (eBin vIdx (eVar 3) (eC (.int 1))) (aNil))))))) (sSkip)) (sSkip)) (sSeq (sRet (eAnd (eBin vEq (eBin vIdx (eVar 3) (eC (.int 0))) (eC (.str "closed"))) (eCall d_is_closed_2 (aCons (eVar 0) (aCons (eVar 1) (aCons (eVar 2) (aCons (eBin vIdx (eVar 3) (eC (.int 1))) (aNil)))))))) (sSkip))))
def d_law_cell_3 : List D → Res D := runD 3 (sSeq (sSet 2 (eC (.int 0))) (sSeq (sIf (tBin vLt (eVar 1) (eUn vLen (eVar 0))) (sSeq (sSet 2 (eBin vIdx (eVar 0) (eVar 1))) (sSkip)) (sSkip)) (sSeq (sIf (tChainD vLe vLt (eC (.int 0)) (eVar 2) (eC (.int 1000000000000))) (sSeq (sRet (eBin vDiv (eBin vPow (eBin vAdd (eBin vAdd (eVar 2) (eC (.int 11))) (eBin vMul (eC (.int 37)) (eVar 1))) (eC (.int 17))) (eC (.int 1009)))) (sSkip)) (sSkip)) (sSeq (sRet (eVar 2)) (sSkip)))))
def d_law_digits : List D → Res D := runD 5 (sSeq (sSetO 2 (eLst (aNil))) (sSeq (sSet 3 (eVar 0)) (sSeq (sFor (gN 4) (iVal (eVar 1)) (sSeq (sApp 2 (eBin vMod (eUn vInt (eVar 3)) (eVar 4))) (sSeq (sSet 3 (eBin vDiv (eVar 3) (eVar 4))) (sSkip)))) (sSeq (sRet (eVar 2)) (sSkip)))))
def d_law_same_3 : Nat → List D → Res D
  | 0 => fun _ => .bad
  | n + 1 => runD 3 (sSeq (sIf (tAndD (tVal (eUn (vIsi "tuple") (eVar 0))) (tVal (eUn (vIsi "tuple") (eVar 1)))) (sSeq (sRet (eAnd (eBin vEq (eUn vLen (eVar 0)) (eUn vLen (eVar 1))) (eUn vAll (eComp [2] (gN 2) (iR1 true (eUn vLen (eVar 0))) (tTrue) (eCall (d_law_same_3 n) (aCons (eBin vIdx (eVar 0) (eVar 2)) (aCons (eBin vIdx (eVar 1) (eVar 2)) (aNil)))))))) (sSkip)) (sSkip)) (sSeq (sIf (tAndD (tVal (eUn (vIsi "str") (eVar 0))) (tVal (eUn (vIsi "str") (eVar 1)))) (sSeq (sRet (eBin vEq (eVar 0) (eVar 1))) (sSkip)) (sSkip)) (sSeq (sIf (tOrD (tBin vIsN (eVar 0) (eC .none)) (tBin vIsN (eVar 1) (eC .none))) (sSeq (sRet (eAnd (eBin vIsN (eVar 0) (eC .none)) (eBin vIsN (eVar 1) (eC .none)))) (sSkip)) (sSkip)) (sSeq (sIf (tOrD (tVal (eUn (vIsi "bool") (eVar 0))) (tVal (eUn (vIsi "bool") (eVar 1)))) (sSeq (sRet (eAnd (eUn (vIsi "bool") (eVar 0)) (eAnd (eUn (vIsi "bool") (eVar 1)) (eBin vEq (eVar 0) (eVar 1))))) (sSkip)) (sSkip)) (sSeq (sRet (eAnd (eUn (vIsi "int") (eVar 0)) (eAnd (eUn (vIsi "int") (eVar 1)) (eBin vEq (eVar 0) (eVar 1))))) (sSkip))))))
def d_law_word_4 : List D → Res D := runD 2 (sSeq (sRet (eAnd (eUn (vIsi "str") (eVar 0)) (eBin vEq (eVar 0) (eVar 1)))) (sSkip))
def d_law_is_name_4 : List D → Res D := runD 3 (sSeq (sSet 1 (eC (.str "abcdefghijklmnopqrstuvwxyz"))) (sSeq (sIf (tOrD (tNotD (tVal (eUn (vIsi "str") (eVar 0)))) (tOrD (tNotD (tChainD vLe vLe (eC (.int 1)) (eUn vLen (eVar 0)) (eC (.int 12)))) (tBin vNotIn (eBin vIdx (eVar 0) (eC (.int 0))) (eVar 1)))) (sSeq (sRet (eC (.bool false))) (sSkip)) (sSkip)) (sSeq (sRet (eUn vAll (eComp [2] (gN 2) (iVal (eVar 0)) (tTrue) (eBin vIn (eVar 2) (eBin vAdd (eVar 1) (eC (.str "0123456789"))))))) (sSkip))))
def d_law_ascending : List D → Res D := runD 3 (sSeq (sIf (tOrD (tNotD (tVal (eUn (vIsi "tuple") (eVar 0)))) (tNotD (tVal (eUn vAll (eComp [1] (gN 1) (iVal (eVar 0)) (tTrue) (eCall d_law_is_name_4 (aCons (eVar 1) (aNil)))))))) (sSeq (sRet (eC (.bool false))) (sSkip)) (sSkip)) (sSeq (sRet (eUn vAll (eComp [2] (gN 2) (iR1 true (eBin vSub (eUn vLen (eVar 0)) (eC (.int 1)))) (tTrue) (eBin vLt (eBin vIdx (eVar 0) (eVar 2)) (eBin vIdx (eVar 0) (eBin vAdd (eVar 2) (eC (.int 1)))))))) (sSkip)))
def d_law_name_at : List D → Res D := runD 3 (sSeq (sSet 2 (eC (.str "abcdefghijklmnopqrstuvwxyz"))) (sSeq (sIf (tBin vEq (eVar 0) (eC (.int 0))) (sSeq (sRet (eBin vIdx (eVar 2) (eVar 1))) (sSkip)) (sSkip)) (sSeq (sIf (tBin vEq (eVar 0) (eC (.int 1))) (sSeq (sRet (eBin vAdd (eBin vAdd (eC (.str "some")) (eBin vIdx (eVar 2) (eVar 1))) (eC (.str "9")))) (sSkip)) (sSkip)) (sSeq (sIf (tBin vLt (eVar 1) (eC (.int 12))) (sSeq (sRet (eBin vMulS (eC (.str "a")) (eBin vAdd (eVar 1) (eC (.int 1))))) (sSkip)) (sSkip)) (sSeq (sRet (eBin vMulS (eC (.str "b")) (eBin vSub (eVar 1) (eC (.int 11))))) (sSkip))))))
def d_law_bends : Nat → List D → Res D
  | 0 => fun _ => .bad
  | n + 1 => runD 4 (sSeq (sIf (tVal (eUn (vIsi "tuple") (eVar 0))) (sSeq (sSetO 1 (eLst (aCons (eSlice (eVar 0) oNone (oSome (eUn vNeg (eC (.int 1))))) (aCons (eBin vAdd (eVar 0) (eTup (aCons (eC (.int 0)) (aNil)))) (aCons (eStep (eVar 0) oNone oNone (oSome (eUn vNeg (eC (.int 1))))) (aCons (eBin vAdd (eVar 0) (eSlice (eVar 0) (oSome (eUn vNeg (eC (.int 1)))) oNone)) (aCons (eC .none) (aNil)))))))) (sSeq (sFor (gN 2) (iR1 false (eUn vLen (eVar 0))) (sSeq (sApp 1 (eBin vAdd (eSlice (eVar 0) oNone (oSome (eVar 2))) (eSlice (eVar 0) (oSome (eBin vAdd (eVar 2) (eC (.int 1)))) oNone))) (sSeq (sFor (gN 3) (iVal (eCall (d_law_bends n) (aCons (eBin vIdx (eVar 0) (eVar 2)) (aNil)))) (sSeq (sApp 1 (eBin vAdd (eBin vAdd (eSlice (eVar 0) oNone (oSome (eVar 2))) (eTup (aCons (eVar 3) (aNil)))) (eSlice (eVar 0) (oSome (eBin vAdd (eVar 2) (eC (.int 1)))) oNone))) (sSkip))) (sSkip)))) (sSeq (sRet (eVar 1)) (sSkip)))) (sSkip)) (sSeq (sIf (tVal (eUn (vIsi "str") (eVar 0))) (sSeq (sRet (eLst (aCons (eBin vAdd (eVar 0) (eC (.str "a"))) (aCons (eSlice (eVar 0) oNone (oSome (eUn vNeg (eC (.int 1))))) (aCons (eC (.str "")) (aCons (eC .none) (aCons (eC (.int 0)) (aCons (eTup (aCons (eVar 0) (aNil))) (aNil))))))))) (sSkip)) (sSkip)) (sSeq (sIf (tVal (eUn (vIsi "int") (eVar 0))) (sSeq (sRet (eLst (aCons (eBin vAdd (eVar 0) (eC (.int 1))) (aCons (eBin vSub (eVar 0) (eC (.int 1))) (aCons (eC .none) (aCons (eBin vEq (eVar 0) (eC (.int 1))) (aCons (eC (.str "1")) (aNil)))))))) (sSkip)) (sSkip)) (sSeq (sRet (eLst (aCons (eC (.int 0)) (aCons (eTup (aNil)) (aNil))))) (sSkip)))))
def d_law_some_2 : List D → Res D := runD 4 (sSeq (sSet 3 (eBin vAdd (eC (.int 1)) (eBin vDiv (eUn vLen (eVar 0)) (eVar 2)))) (sSeq (sRet (eStep (eVar 0) (oSome (eBin vMod (eVar 1) (eVar 3))) oNone (oSome (eVar 3)))) (sSkip)))
def d_law_hands : List D → Res D := runD 3 (sSeq (sSet 1 (eLst (aCons (eC (.str "master")) (aCons (eC (.str "anna")) (aCons (eC (.str "ben")) (aCons (eC (.str "all")) (aCons (eC (.str "m")) (aCons (eC (.str "zz9")) (aCons (eC (.str "hand")) (aCons (eC (.str "h1")) (aCons (eC (.str "h10")) (aCons (eC (.str "h2")) (aCons (eC (.str "make")) (aNil)))))))))))))) (sSeq (sIf (tBin vEq (eBin vIdx (eVar 0) (eC (.int 4))) (eC (.int 1))) (sSeq (sSet 1 (eBin vAdd (eLst (aCons (eC (.str "master")) (aNil))) (eComp [2] (gN 2) (iR2 true (eC (.int 1)) (eC (.int 11))) (tTrue) (eBin vMulS (eC (.str "a")) (eVar 2))))) (sSkip)) (sSkip)) (sSeq (sRet (eSlice (eVar 1) oNone (oSome (eBin vAdd (eC (.int 2)) (eBin vIdx (eVar 0) (eC (.int 2))))))) (sSkip))))
def d_law_grants : List D → Res D := runD 10 (sSeq (sSet 3 (eCall d_law_hands (aCons (eVar 2) (aNil)))) (sSeq (sSet 4 (eLst (aCons (eC (.str "make")) (aCons (eC (.str "all")) (aCons (eC (.str "make")) (aCons (eC (.str "mend")) (aCons (eC (.str "make")) (aCons (eC (.str "carve")) (aNil))))))))) (sSeq (sSetO 5 (eLst (aNil))) (sSeq (sFor (gN 6) (iR1 false (eBin vIdx (eVar 2) (eC (.int 0)))) (sSeq (sSet 7 (eCall d_law_digits (aCons (eCall d_law_cell_3 (aCons (eVar 0) (aCons (eBin vAdd (eVar 1) (eVar 6)) (aNil)))) (aCons (eLst (aCons (eC (.int 11)) (aCons (eC (.int 11)) (aCons (eC (.int 6)) (aNil))))) (aNil))))) (sSeq (sSet 8 (eBin vIdx (eVar 3) (eBin vMod (eBin vIdx (eVar 7) (eC (.int 0))) (eUn vLen (eVar 3))))) (sSeq (sSet 9 (eBin vIdx (eVar 3) (eBin vMod (eBin vIdx (eVar 7) (eC (.int 1))) (eUn vLen (eVar 3))))) (sSeq (sIf (tBin vEq (eBin vIdx (eVar 2) (eC (.int 3))) (eC (.int 1))) (sSeq (sSet 8 (eBin vIdx (eVar 3) (eBin vMod (eVar 6) (eUn vLen (eVar 3))))) (sSeq (sSet 9 (eBin vIdx (eVar 3) (eBin vMod (eBin vAdd (eBin vAdd (eVar 6) (eC (.int 1))) (eBin vMod (eBin vIdx (eVar 7) (eC (.int 1))) (eC (.int 2)))) (eUn vLen (eVar 3))))) (sSkip))) (sSkip)) (sSeq (sIf (tBin vEq (eBin vIdx (eVar 2) (eC (.int 3))) (eC (.int 2))) (sSeq (sSet 8 (eBin vIdx (eVar 3) (eBin vDiv (eBin vMod (eBin vIdx (eVar 7) (eC (.int 0))) (eUn vLen (eVar 3))) (eC (.int 2))))) (sSeq (sSet 9 (eBin vIdx (eVar 3) (eBin vMod (eBin vAdd (eBin vMod (eBin vIdx (eVar 7) (eC (.int 0))) (eUn vLen (eVar 3))) (eC (.int 1))) (eUn vLen (eVar 3))))) (sSkip))) (sSkip)) (sSeq (sApp 5 (eTup (aCons (eCall d_law_name_at (aCons (eBin vIdx (eVar 2) (eC (.int 1))) (aCons (eVar 6) (aNil)))) (aCons (eTup (aCons (eVar 8) (aCons (eVar 9) (aCons (eBin vIdx (eVar 4) (eBin vIdx (eVar 7) (eC (.int 2)))) (aNil))))) (aNil))))) (sSkip)))))))) (sSeq (sRet (eUn vTuple (eVar 5))) (sSkip))))))
def d_law_serves_2 : List D → Res D := runD 2 (sSeq (sRet (eOr (eBin vEq (eBin vIdx (eVar 0) (eC (.int 2))) (eVar 1)) (eBin vEq (eBin vIdx (eVar 0) (eC (.int 2))) (eC (.str "all"))))) (sSkip))
def d_law_reach_2 : List D → Res D := runD 7 (sSeq (sSetO 2 (eLst (aCons (eC (.str "master")) (aNil)))) (sSeq (sSetO 3 (eLst (aCons (eTup (aNil)) (aNil)))) (sSeq (sFor (gN 4) (iR1 false (eBin vAdd (eUn vLen (eVar 0)) (eC (.int 1)))) (sSeq (sIf (tBin vLt (eVar 4) (eUn vLen (eVar 2))) (sSeq (sFor (gT 2 (gsCons (gN 5) (gsCons (gN 6) (gsNil)))) (iVal (eVar 0)) (sSeq (sIf (tAndD (tVal (eCall d_law_serves_2 (aCons (eVar 6) (aCons (eVar 1) (aNil))))) (tAndD (tBin vEq (eBin vIdx (eVar 6) (eC (.int 0))) (eBin vIdx (eVar 2) (eVar 4))) (tBin vNotIn (eBin vIdx (eVar 6) (eC (.int 1))) (eVar 2)))) (sSeq (sApp 2 (eBin vIdx (eVar 6) (eC (.int 1)))) (sSeq (sApp 3 (eBin vAdd (eBin vIdx (eVar 3) (eVar 4)) (eTup (aCons (eVar 5) (aNil))))) (sSkip))) (sSkip)) (sSkip))) (sSkip)) (sSkip)) (sSkip))) (sSeq (sRet (eLst (aCons (eVar 2) (aCons (eVar 3) (aNil))))) (sSkip)))))
def d_law_is_chain : List D → Res D := runD 8 (sSeq (sIf (tOrD (tNotD (tVal (eUn (vIsi "tuple") (eVar 3)))) (tBin vGt (eUn vLen (eVar 3)) (eC (.int 24)))) (sSeq (sRet (eC (.bool false))) (sSkip)) (sSkip)) (sSeq (sSet 4 (eC (.str "master"))) (sSeq (sFor (gN 5) (iR1 false (eUn vLen (eVar 3))) (sSeq (sSet 6 (eComp [7] (gN 7) (iVal (eVar 0)) (tVal (eCall d_law_word_4 (aCons (eBin vIdx (eVar 3) (eVar 5)) (aCons (eBin vIdx (eVar 7) (eC (.int 0))) (aNil))))) (eBin vIdx (eVar 7) (eC (.int 1))))) (sSeq (sIf (tOrD (tBin vEq (eUn vLen (eVar 6)) (eC (.int 0))) (tBin vIn (eBin vIdx (eVar 3) (eVar 5)) (eSlice (eVar 3) oNone (oSome (eVar 5))))) (sSeq (sRet (eC (.bool false))) (sSkip)) (sSkip)) (sSeq (sIf (tOrD (tNotD (tVal (eCall d_law_serves_2 (aCons (eBin vIdx (eVar 6) (eC (.int 0))) (aCons (eVar 2) (aNil)))))) (tBin vNe (eBin vIdx (eBin vIdx (eVar 6) (eC (.int 0))) (eC (.int 0))) (eVar 4))) (sSeq (sRet (eC (.bool false))) (sSkip)) (sSkip)) (sSeq (sSet 4 (eBin vIdx (eBin vIdx (eVar 6) (eC (.int 0))) (eC (.int 1)))) (sSkip)))))) (sSeq (sRet (eBin vEq (eVar 4) (eVar 1))) (sSkip)))))
def d_law_is_closed : List D → Res D := runD 6 (sSeq (sIf (tOrD (tNotD (tVal (eCall d_law_ascending (aCons (eVar 3) (aNil))))) (tOrD (tBin vGt (eUn vLen (eVar 3)) (eC (.int 99))) (tOrD (tBin vNotIn (eC (.str "master")) (eVar 3)) (tBin vIn (eVar 1) (eVar 3))))) (sSeq (sRet (eC (.bool false))) (sSkip)) (sSkip)) (sSeq (sFor (gT 2 (gsCons (gN 4) (gsCons (gN 5) (gsNil)))) (iVal (eVar 0)) (sSeq (sIf (tAndD (tVal (eCall d_law_serves_2 (aCons (eVar 5) (aCons (eVar 2) (aNil))))) (tAndD (tBin vIn (eBin vIdx (eVar 5) (eC (.int 0))) (eVar 3)) (tBin vNotIn (eBin vIdx (eVar 5) (eC (.int 1))) (eVar 3)))) (sSeq (sRet (eC (.bool false))) (sSkip)) (sSkip)) (sSkip))) (sSeq (sRet (eC (.bool true))) (sSkip))))
def d_law_asked : List D → Res D := runD 5 (sSeq (sSet 2 (eCall d_law_digits (aCons (eCall d_law_cell_3 (aCons (eVar 0) (aCons (eC (.int 1)) (aNil)))) (aCons (eLst (aCons (eC (.int 12)) (aCons (eC (.int 6)) (aCons (eC (.int 100000)) (aNil))))) (aNil))))) (sSeq (sSet 3 (eBin vAdd (eCall d_law_hands (aCons (eVar 1) (aNil))) (eLst (aCons (eC (.str "nobody")) (aNil))))) (sSeq (sSet 4 (eBin vIdx (eLst (aCons (eC (.str "make")) (aCons (eC (.str "make")) (aCons (eC (.str "all")) (aCons (eC (.str "mend")) (aCons (eC (.str "carve")) (aCons (eC (.str "never")) (aNil)))))))) (eBin vIdx (eVar 2) (eC (.int 1))))) (sSeq (sRet (eTup (aCons (eBin vIdx (eVar 3) (eBin vMod (eBin vIdx (eVar 2) (eC (.int 0))) (eUn vLen (eVar 3)))) (aCons (eVar 4) (aCons (eBin vIdx (eVar 2) (eC (.int 2))) (aNil)))))) (sSkip)))))
def d_law_right_19 : List D → Res D := runD 4 (sSeq (sIf (tOrD (tNotD (tVal (eUn (vIsi "tuple") (eVar 3)))) (tBin vNe (eUn vLen (eVar 3)) (eC (.int 2)))) (sSeq (sRet (eC (.bool false))) (sSkip)) (sSkip)) (sSeq (sIf (tVal (eCall d_law_word_4 (aCons (eBin vIdx (eVar 3) (eC (.int 0))) (aCons (eC (.str "chain")) (aNil))))) (sSeq (sRet (eCall d_law_is_chain (aCons (eVar 0) (aCons (eVar 1) (aCons (eVar 2) (aCons (eBin vIdx (eVar 3) (eC (.int 1))) (aNil))))))) (sSkip)) (sSkip)) (sSeq (sRet (eAnd (eCall d_law_word_4 (aCons (eBin vIdx (eVar 3) (eC (.int 0))) (aCons (eC (.str "closed")) (aNil)))) (eCall d_law_is_closed (aCons (eVar 0) (aCons (eVar 1) (aCons (eVar 2) (aCons (eBin vIdx (eVar 3) (eC (.int 1))) (aNil)))))))) (sSkip))))
def d_law_rows_6 : List D → Res D := runD 14 (sSeq (sSet 4 (eComp [12] (gN 12) (iVal (eVar 0)) (tTrue) (eBin vIdx (eVar 12) (eC (.int 0))))) (sSeq (sSetO 5 (eLst (aCons (eTup (aNil)) (aCons (eUn vTuple (eVar 4)) (aCons (eUn vTuple (eUn vSorted (eVar 2))) (aCons (eTup (aCons (eC (.str "master")) (aNil))) (aCons (eC .none) (aCons (eC (.bool true)) (aCons (eC (.int 0)) (aCons (eC (.str "master")) (aCons (eTup (aCons (eC .none) (aNil))) (aCons (eTup (aCons (eC (.str "nobody")) (aNil))) (aNil))))))))))))) (sSeq (sFor (gN 6) (iR1 false (eBin vMin2 (eUn vLen (eVar 4)) (eC (.int 6)))) (sSeq (sSet 7 (eBin vIdx (eVar 4) (eBin vMod (eBin vAdd (eVar 3) (eVar 6)) (eUn vLen (eVar 4))))) (sSeq (sSet 8 (eBin vIdx (eVar 4) (eBin vMod (eBin vAdd (eBin vAdd (eVar 3) (eBin vMul (eC (.int 3)) (eVar 6))) (eC (.int 1))) (eUn vLen (eVar 4))))) (sSeq (sSetO 5 (eBin vAdd (eVar 5) (eLst (aCons (eTup (aCons (eVar 7) (aNil))) (aCons (eTup (aCons (eVar 7) (aCons (eVar 8) (aNil)))) (aCons (eTup (aCons (eVar 7) (aCons (eVar 8) (aCons (eVar 7) (aNil))))) (aCons (eTup (aCons (eVar 8) (aCons (eVar 7) (aCons (eBin vIdx (eVar 4) (eC (.int 0))) (aNil))))) (aNil)))))))) (sSkip))))) (sSeq (sFor (gN 9) (iVal (eBin vAdd (eVar 2) (eLst (aCons (eC (.str "nobody")) (aNil))))) (sSeq (sApp 5 (eUn vTuple (eUn vSorted (eComp [8] (gN 8) (iVal (eVar 2)) (tBin vNe (eVar 8) (eVar 9)) (eVar 8))))) (sSeq (sApp 5 (eUn vTuple (eUn vSorted (eBin vAdd (eVar 2) (eLst (aCons (eVar 9) (aNil))))))) (sSkip)))) (sSeq (sSet 10 (eC (.str "abcdefghij"))) (sSeq (sSet 11 (eUn vSorted (eComp [7, 8] (gT 2 (gsCons (gN 7) (gsCons (gN 8) (gsNil)))) (iVal (eComp [6] (gN 6) (iR1 true (eC (.int 100))) (tTrue) (eTup (aCons (eBin vIdx (eVar 10) (eBin vDiv (eVar 6) (eC (.int 10)))) (aCons (eBin vIdx (eVar 10) (eBin vMod (eVar 6) (eC (.int 10)))) (aNil)))))) (tTrue) (eBin vAdd (eBin vAdd (eC (.str "y")) (eVar 7)) (eVar 8))))) (sSeq (sSet 11 (eComp [13] (gN 13) (iVal (eVar 11)) (tBin vNotIn (eVar 13) (eVar 2)) (eVar 13))) (sSeq (sApp 5 (eUn vTuple (eUn vSorted (eBin vAdd (eVar 2) (eSlice (eVar 11) oNone (oSome (eBin vSub (eC (.int 99)) (eUn vLen (eVar 2))))))))) (sSeq (sApp 5 (eUn vTuple (eUn vSorted (eBin vAdd (eVar 2) (eSlice (eVar 11) oNone (oSome (eBin vSub (eC (.int 100)) (eUn vLen (eVar 2))))))))) (sSeq (sRet (eVar 5)) (sSkip)))))))))))
def d_law_69 : List D → Res D := runD 14 (sSeq (sSet 1 (eCall d_law_digits (aCons (eCall d_law_cell_3 (aCons (eVar 0) (aCons (eC (.int 0)) (aNil)))) (aCons (eLst (aCons (eC (.int 25)) (aCons (eC (.int 3)) (aCons (eC (.int 9)) (aCons (eC (.int 3)) (aCons (eC (.int 2)) (aNil))))))) (aNil))))) (sSeq (sSet 2 (eCall d_law_grants (aCons (eVar 0) (aCons (eC (.int 2)) (aCons (eVar 1) (aNil)))))) (sSeq (sUnp (gT 3 (gsCons (gN 3) (gsCons (gN 4) (gsCons (gN 5) (gsNil))))) (eCall d_law_asked (aCons (eVar 0) (aCons (eVar 1) (aNil))))) (sSeq (sUnp (gTL 2 (gsCons (gN 6) (gsCons (gN 7) (gsNil)))) (eCall d_law_reach_2 (aCons (eVar 2) (aCons (eVar 4) (aNil))))) (sSeq (sSet 8 (eTup (aCons (eC (.str "closed")) (aCons (eUn vTuple (eUn vSorted (eVar 6))) (aNil))))) (sSeq (sIf (tBin vIn (eVar 3) (eVar 6)) (sSeq (sSet 8 (eTup (aCons (eC (.str "chain")) (aCons (eBin vIdx (eVar 7) (eMeL vIndex (eVar 6) (eVar 3))) (aNil))))) (sSkip)) (sSkip)) (sSeq (sIf (tNotD (tVal (eCall (d_law_same_3 60) (aCons (eCall d_right_report (aCons (eVar 2) (aCons (eVar 3) (aCons (eVar 4) (aNil))))) (aCons (eVar 8) (aNil)))))) (sSeq (sRet (eC (.bool false))) (sSkip)) (sSkip)) (sSeq (sFor (gT 2 (gsCons (gN 9) (gsCons (gN 10) (gsNil)))) (iVal (eVar 2)) (sSeq (sIf (tNotD (tVal (eCall (d_law_same_3 60) (aCons (eCall d_serves (aCons (eVar 10) (aCons (eVar 4) (aNil)))) (aCons (eCall d_law_serves_2 (aCons (eVar 10) (aCons (eVar 4) (aNil)))) (aNil)))))) (sSeq (sRet (eC (.bool false))) (sSkip)) (sSkip)) (sSkip))) (sSeq (sSet 11 (eBin vAdd (eLst (aCons (eVar 8) (aCons (eTup (aCons (eC (.str "chain")) (aNil))) (aCons (eTup (aCons (eC (.str "closed")) (aNil))) (aCons (eTup (aNil)) (aCons (eC .none) (aCons (eC (.int 0)) (aCons (eC (.str "chain")) (aNil))))))))) (eCall d_law_some_2 (aCons (eCall (d_law_bends 60) (aCons (eVar 8) (aNil))) (aCons (eVar 5) (aCons (eC (.int 60)) (aNil))))))) (sSeq (sFor (gN 12) (iVal (eBin vAdd (eCall d_law_rows_6 (aCons (eVar 2) (aCons (eVar 4) (aCons (eVar 6) (aCons (eVar 5) (aNil)))))) (eLst (aCons (eBin vIdx (eVar 8) (eC (.int 1))) (aNil))))) (sSeq (sSet 11 (eBin vAdd (eVar 11) (eLst (aCons (eTup (aCons (eC (.str "chain")) (aCons (eVar 12) (aNil)))) (aCons (eTup (aCons (eC (.str "closed")) (aCons (eVar 12) (aNil)))) (aNil)))))) (sSeq (sIf (tNotD (tVal (eCall (d_law_same_3 60) (aCons (eCall d_is_chain (aCons (eVar 2) (aCons (eVar 3) (aCons (eVar 4) (aCons (eVar 12) (aNil)))))) (aCons (eCall d_law_is_chain (aCons (eVar 2) (aCons (eVar 3) (aCons (eVar 4) (aCons (eVar 12) (aNil)))))) (aNil)))))) (sSeq (sRet (eC (.bool false))) (sSkip)) (sSkip)) (sSeq (sIf (tNotD (tVal (eCall (d_law_same_3 60) (aCons (eCall d_is_closed_2 (aCons (eVar 2) (aCons (eVar 3) (aCons (eVar 4) (aCons (eVar 12) (aNil)))))) (aCons (eCall d_law_is_closed (aCons (eVar 2) (aCons (eVar 3) (aCons (eVar 4) (aCons (eVar 12) (aNil)))))) (aNil)))))) (sSeq (sRet (eC (.bool false))) (sSkip)) (sSkip)) (sSkip))))) (sSeq (sFor (gN 13) (iVal (eVar 11)) (sSeq (sIf (tNotD (tVal (eCall (d_law_same_3 60) (aCons (eCall d_shows_right (aCons (eVar 2) (aCons (eVar 3) (aCons (eVar 4) (aCons (eVar 13) (aNil)))))) (aCons (eCall d_law_right_19 (aCons (eVar 2) (aCons (eVar 3) (aCons (eVar 4) (aCons (eVar 13) (aNil)))))) (aNil)))))) (sSeq (sRet (eC (.bool false))) (sSkip)) (sSkip)) (sSkip))) (sSeq (sRet (eC (.bool true))) (sSkip)))))))))))))
end PL

end
section
open PySem L2 PL
local macro_rules | `(tactic| walk_at "ev") => `(tactic| (simp -implicitDefEqProofs only [PL.eUn, PL.eBin, PL.eVar, PL.eC, PL.eCall, PL.aCons, PL.aNil, PL.bind_ok, PL.up_some, PL.vAdd_int, PL.vSub_int, PL.vMod_pos, PL.vDiv_pos, PL.vAbs_int, PL.vNeg_int, PL.vInt_int, PL.vInt_bool, PL.vEq_int, PL.vNe_int, PL.vEq_bool, PL.vNe_bool, PL.vNe_str, PL.vEq_str, PL.vLt_int, PL.vLe_int, PL.vGt_int, PL.vGe_int, PL.vPow18, PL.vPow12, PL.vLen_tup, PL.vLen_list, PL.vTuple_list, PL.vTuple_tup, PL.vList_list, PL.vList_tup, PL.vMax2_int, PL.vMin2_int, PL.vBool_bool, PL.vBool_int, PL.isi_tuple_n, PL.isi_tuple_b, PL.isi_tuple_i, PL.isi_tuple_s, PL.isi_tuple_l, PL.isi_tuple_t, PL.isi_tuple_d, PL.isi_bool_n, PL.isi_bool_b, PL.isi_bool_i, PL.isi_bool_s, PL.isi_bool_l, PL.isi_bool_t, PL.isi_bool_d, PL.isi_int_n, PL.isi_int_b, PL.isi_int_i, PL.isi_int_s, PL.isi_int_l, PL.isi_int_t, PL.isi_int_d, PL.isi_str_n, PL.isi_str_b, PL.isi_str_i, PL.isi_str_s, PL.isi_str_l, PL.isi_str_t, PL.isi_str_d, PL.isi_list_n, PL.isi_list_b, PL.isi_list_i, PL.isi_list_s, PL.isi_list_l, PL.isi_list_t, PL.isi_list_d, PL.isi_dict_n, PL.isi_dict_b, PL.isi_dict_i, PL.isi_dict_s, PL.isi_dict_l, PL.isi_dict_t, PL.isi_dict_d, PL.isN_n, PL.notN_n, PL.isN_b, PL.notN_b, PL.isN_i, PL.notN_i, PL.isN_s, PL.notN_s, PL.isN_l, PL.notN_l, PL.isN_t, PL.notN_t, PL.isN_d, PL.notN_d, PL.tBin, PL.asB_bool, PL.asI_int, PL.tVal, PL.truthD_bool, PL.truthD_int, PL.truthD_tup, PL.truthD_list, PL.truthD_none, PL.tNotD, PL.tAndD, PL.tOrD, PL.eAnd, PL.eOr, PL.eNot, PL.eIfE, PL.eChain, PL.tChainD, Option.bind_some, PL.eTup_eq, PL.eLst_eq, PL.mkT_0, PL.mkL_0, PL.mkT_1, PL.mkL_1, PL.mkT_2, PL.mkL_2, PL.mkT_3, PL.mkL_3, PL.mkT_4, PL.mkL_4, PL.mkT_5, PL.mkL_5, PL.mkT_6, PL.mkL_6, PL.mkT_7, PL.mkL_7, PL.mkT_8, PL.mkL_8, PL.mkT_9, PL.mkL_9, PL.mkT_10, PL.mkL_10, PL.mkT_11, PL.mkL_11, PL.mkT_12, PL.mkL_12, PL.mkT_13, PL.mkL_13, PL.mkT_14, PL.mkL_14, PL.mkT_15, PL.mkL_15, PL.mkT_16, PL.mkL_16, PL.vIdx_t0, PL.vIdx_t1, PL.vIdx_t2, PL.vIdx_t3, PL.vIdx_l0, PL.vIdx_l1, PL.vIdx_l2, PL.gN, PL.wipeD,
  List.getElem?_cons_succ, List.getElem?_cons_zero, PL.start, List.map_cons, List.map_nil, List.length_cons, List.length_nil, List.length_map, List.replicate, List.cons_append, List.nil_append, Nat.reduceSub, Nat.reduceAdd, List.set_cons_succ, List.set_cons_zero, Int.reduceLT, if_true, if_false, reduceIte, Bool.false_eq_true, Bool.true_eq_false, Bool.not_true, Bool.not_false, decide_eq_true_eq, Int.reduceAdd, Int.reduceSub, Int.reduceNeg]))
local macro_rules | `(tactic| walk_at "evr") => `(tactic| ((walk_at "ev") <;> rfl))
local macro_rules | `(tactic| walk_at "ret") => `(tactic| (apply PL.ws_onret; (focus (walk_at "ev"; done)); (focus (walk_at "evr"; done)); (focus rfl)))
local macro_rules | `(tactic| walk_at "off") => `(tactic| (apply PL.ws_off; (focus (walk_at "ev"; done))))
local macro_rules | `(tactic| walk_at "back") => `(tactic| (apply PL.ws_back; (focus (walk_at "evr"; done)); (focus rfl)))
local macro_rules | `(tactic| wp_walk) => `(tactic| ((simp -implicitDefEqProofs only [↓PL.ws_wtE, PL.rb_ok, ↓PL.tx_seq, ↓PL.tx_skip, ↓PL.tx_set, ↓PL.tx_setO, ↓PL.tx_ret, ↓PL.tx_retN, ↓PL.tx_expr, ↓PL.tx_break, ↓PL.tx_cont, ↓PL.tx_if, ↓PL.tx_par, ↓PL.tx_unp, ↓PL.tx_aug, ↓PL.tx_app, ↓PL.tx_storeD, ↓PL.tx_store, PL.kE_ok, PL.kB_ok, PL.kV_some, PL.kO_some, PL.kS_some, PL.kL_list, PL.kP_dict, PL.kG_def, PL.slotE_some, PL.rb_exn, ↓PL.eVar_ap, ↓PL.eC_ap, ↓PL.eUn_ap, ↓PL.eBin_ap, ↓PL.eMeL_ap, ↓PL.eMeD_ap, ↓PL.eCall_ap, ↓PL.aNil_ap, ↓PL.aCons_ap, ↓PL.tBin_ap, ↓PL.tVal_ap, ↓PL.tNotD_ap, ↓PL.tAndD_ap, ↓PL.tOrD_ap, ↓PL.tTrue_ap, ↓PL.eNot_ap, ↓PL.eAnd_ap, ↓PL.eOr_ap, ↓PL.eIfE_ap, ↓PL.eChain_ap, ↓PL.tChainD_ap, ↓PL.eTup_ap, ↓PL.eLst_ap, ↓PL.oNone_ap, ↓PL.oSome_ap, ↓PL.eSlice_ap, ↓PL.iVal_ap, ↓PL.iR1_ap, ↓PL.iR2_ap, ↓PL.iR3_ap, ↓PL.iRevD_ap, ↓PL.iZipD_ap, ↓PL.iEnumD_ap, ↓PL.eDisp_ap, ↓PL.gN_ap, PL.items_tup, PL.items_list, PL.gsNil_ap, PL.gT2_ap, PL.gT3_ap, ↓PL.eStep_ap, PL.gsCons_ap, PL.isMut_list, PL.isMut_dict, PL.isListD, PL.isDictD, PL.vGet1D_str, PL.vGet1D_int, PL.vDisp1_str, PL.vDisp1_int, true_and, and_true, ↓reduceIte, Bool.not_eq_true', decide_eq_false_iff_not, Nat.reduceEqDiff, Int.reduceEq, Int.reduceNe, ne_eq, Int.cast_ofNat_Int, Nat.reduceLT, Nat.reduceLeDiff, and_self, decide_true, decide_false, not_true_eq_false, not_false_eq_true, Bool.and_false, Bool.false_and, Bool.and_true, Bool.true_and, PL.ite_okb, PL.ite_okB, PL.ite_dec, PL.ite_dec', PL.ite_b, PL.ite_b', PL.vIdx_t4, PL.vIdx_t5, PL.vIdx_l3, PL.vIdx_l4, PL.ite_okb', PL.ite_okB', PL.up_some, PL.vAdd_int, PL.vSub_int, PL.vMod_pos, PL.vDiv_pos, PL.vAbs_int, PL.vNeg_int, PL.vInt_int, PL.vInt_bool, PL.vEq_int, PL.vNe_int, PL.vEq_bool, PL.vNe_bool, PL.vNe_str, PL.vEq_str, PL.vLt_int, PL.vLe_int, PL.vGt_int, PL.vGe_int, PL.vPow18, PL.vPow12, PL.vLen_tup, PL.vLen_list, PL.vTuple_list, PL.vTuple_tup, PL.vList_list, PL.vList_tup, PL.vMax2_int, PL.vMin2_int, PL.vBool_bool, PL.vBool_int, PL.isi_tuple_n, PL.isi_tuple_b, PL.isi_tuple_i, PL.isi_tuple_s, PL.isi_tuple_l, PL.isi_tuple_t, PL.isi_tuple_d, PL.isi_bool_n, PL.isi_bool_b, PL.isi_bool_i, PL.isi_bool_s, PL.isi_bool_l, PL.isi_bool_t, PL.isi_bool_d, PL.isi_int_n, PL.isi_int_b, PL.isi_int_i, PL.isi_int_s, PL.isi_int_l, PL.isi_int_t, PL.isi_int_d, PL.isi_str_n, PL.isi_str_b, PL.isi_str_i, PL.isi_str_s, PL.isi_str_l, PL.isi_str_t, PL.isi_str_d, PL.isi_list_n, PL.isi_list_b, PL.isi_list_i, PL.isi_list_s, PL.isi_list_l, PL.isi_list_t, PL.isi_list_d, PL.isi_dict_n, PL.isi_dict_b, PL.isi_dict_i, PL.isi_dict_s, PL.isi_dict_l, PL.isi_dict_t, PL.isi_dict_d, PL.isN_n, PL.notN_n, PL.isN_b, PL.notN_b, PL.isN_i, PL.notN_i, PL.isN_s, PL.notN_s, PL.isN_l, PL.notN_l, PL.isN_t, PL.notN_t, PL.isN_d, PL.notN_d, PL.asB_bool, PL.asI_int, PL.truthD_bool, PL.truthD_int, PL.truthD_tup, PL.truthD_list, PL.truthD_none, Option.bind_some, PL.mkT_0, PL.mkL_0, PL.mkT_1, PL.mkL_1, PL.mkT_2, PL.mkL_2, PL.mkT_3, PL.mkL_3, PL.mkT_4, PL.mkL_4, PL.mkT_5, PL.mkL_5, PL.mkT_6, PL.mkL_6, PL.mkT_7, PL.mkL_7, PL.mkT_8, PL.mkL_8, PL.mkT_9, PL.mkL_9, PL.mkT_10, PL.mkL_10, PL.mkT_11, PL.mkL_11, PL.mkT_12, PL.mkL_12, PL.mkT_13, PL.mkL_13, PL.mkT_14, PL.mkL_14, PL.mkT_15, PL.mkL_15, PL.mkT_16, PL.mkL_16, PL.vIdx_t0, PL.vIdx_t1, PL.vIdx_t2, PL.vIdx_t3, PL.vIdx_l0, PL.vIdx_l1, PL.vIdx_l2, PL.wipeD, List.getElem?_cons_succ, List.getElem?_cons_zero, PL.start, List.map_cons, List.map_nil, List.length_cons, List.length_nil, List.length_map, List.replicate, List.cons_append, List.nil_append, Nat.reduceSub, Nat.reduceAdd, List.set_cons_succ, List.set_cons_zero, Int.reduceLT, if_true, if_false, reduceIte, Bool.false_eq_true, Bool.true_eq_false, Bool.not_true, Bool.not_false, decide_eq_true_eq, Int.reduceAdd, Int.reduceSub, Int.reduceNeg, PL.bind_ok]); (try simp -implicitDefEqProofs only [↓PL.wt_ws])))
local macro_rules | `(tactic| wp_walk using $[$ts],*) => `(tactic| ((simp -implicitDefEqProofs only [$[$ts:term],*, ↓PL.ws_wtE, PL.rb_ok, ↓PL.tx_seq, ↓PL.tx_skip, ↓PL.tx_set, ↓PL.tx_setO, ↓PL.tx_ret, ↓PL.tx_retN, ↓PL.tx_expr, ↓PL.tx_break, ↓PL.tx_cont, ↓PL.tx_if, ↓PL.tx_par, ↓PL.tx_unp, ↓PL.tx_aug, ↓PL.tx_app, ↓PL.tx_storeD, ↓PL.tx_store, PL.kE_ok, PL.kB_ok, PL.kV_some, PL.kO_some, PL.kS_some, PL.kL_list, PL.kP_dict, PL.kG_def, PL.slotE_some, PL.rb_exn, ↓PL.eVar_ap, ↓PL.eC_ap, ↓PL.eUn_ap, ↓PL.eBin_ap, ↓PL.eMeL_ap, ↓PL.eMeD_ap, ↓PL.eCall_ap, ↓PL.aNil_ap, ↓PL.aCons_ap, ↓PL.tBin_ap, ↓PL.tVal_ap, ↓PL.tNotD_ap, ↓PL.tAndD_ap, ↓PL.tOrD_ap, ↓PL.tTrue_ap, ↓PL.eNot_ap, ↓PL.eAnd_ap, ↓PL.eOr_ap, ↓PL.eIfE_ap, ↓PL.eChain_ap, ↓PL.tChainD_ap, ↓PL.eTup_ap, ↓PL.eLst_ap, ↓PL.oNone_ap, ↓PL.oSome_ap, ↓PL.eSlice_ap, ↓PL.iVal_ap, ↓PL.iR1_ap, ↓PL.iR2_ap, ↓PL.iR3_ap, ↓PL.iRevD_ap, ↓PL.iZipD_ap, ↓PL.iEnumD_ap, ↓PL.eDisp_ap, ↓PL.gN_ap, PL.items_tup, PL.items_list, PL.gsNil_ap, PL.gT2_ap, PL.gT3_ap, ↓PL.eStep_ap, PL.gsCons_ap, PL.isMut_list, PL.isMut_dict, PL.isListD, PL.isDictD, PL.vGet1D_str, PL.vGet1D_int, PL.vDisp1_str, PL.vDisp1_int, true_and, and_true, ↓reduceIte, Bool.not_eq_true', decide_eq_false_iff_not, Nat.reduceEqDiff, Int.reduceEq, Int.reduceNe, ne_eq, Int.cast_ofNat_Int, Nat.reduceLT, Nat.reduceLeDiff, and_self, decide_true, decide_false, not_true_eq_false, not_false_eq_true, Bool.and_false, Bool.false_and, Bool.and_true, Bool.true_and, PL.ite_okb, PL.ite_okB, PL.ite_dec, PL.ite_dec', PL.ite_b, PL.ite_b', PL.vIdx_t4, PL.vIdx_t5, PL.vIdx_l3, PL.vIdx_l4, PL.ite_okb', PL.ite_okB', PL.up_some, PL.vAdd_int, PL.vSub_int, PL.vMod_pos, PL.vDiv_pos, PL.vAbs_int, PL.vNeg_int, PL.vInt_int, PL.vInt_bool, PL.vEq_int, PL.vNe_int, PL.vEq_bool, PL.vNe_bool, PL.vNe_str, PL.vEq_str, PL.vLt_int, PL.vLe_int, PL.vGt_int, PL.vGe_int, PL.vPow18, PL.vPow12, PL.vLen_tup, PL.vLen_list, PL.vTuple_list, PL.vTuple_tup, PL.vList_list, PL.vList_tup, PL.vMax2_int, PL.vMin2_int, PL.vBool_bool, PL.vBool_int, PL.isi_tuple_n, PL.isi_tuple_b, PL.isi_tuple_i, PL.isi_tuple_s, PL.isi_tuple_l, PL.isi_tuple_t, PL.isi_tuple_d, PL.isi_bool_n, PL.isi_bool_b, PL.isi_bool_i, PL.isi_bool_s, PL.isi_bool_l, PL.isi_bool_t, PL.isi_bool_d, PL.isi_int_n, PL.isi_int_b, PL.isi_int_i, PL.isi_int_s, PL.isi_int_l, PL.isi_int_t, PL.isi_int_d, PL.isi_str_n, PL.isi_str_b, PL.isi_str_i, PL.isi_str_s, PL.isi_str_l, PL.isi_str_t, PL.isi_str_d, PL.isi_list_n, PL.isi_list_b, PL.isi_list_i, PL.isi_list_s, PL.isi_list_l, PL.isi_list_t, PL.isi_list_d, PL.isi_dict_n, PL.isi_dict_b, PL.isi_dict_i, PL.isi_dict_s, PL.isi_dict_l, PL.isi_dict_t, PL.isi_dict_d, PL.isN_n, PL.notN_n, PL.isN_b, PL.notN_b, PL.isN_i, PL.notN_i, PL.isN_s, PL.notN_s, PL.isN_l, PL.notN_l, PL.isN_t, PL.notN_t, PL.isN_d, PL.notN_d, PL.asB_bool, PL.asI_int, PL.truthD_bool, PL.truthD_int, PL.truthD_tup, PL.truthD_list, PL.truthD_none, Option.bind_some, PL.mkT_0, PL.mkL_0, PL.mkT_1, PL.mkL_1, PL.mkT_2, PL.mkL_2, PL.mkT_3, PL.mkL_3, PL.mkT_4, PL.mkL_4, PL.mkT_5, PL.mkL_5, PL.mkT_6, PL.mkL_6, PL.mkT_7, PL.mkL_7, PL.mkT_8, PL.mkL_8, PL.mkT_9, PL.mkL_9, PL.mkT_10, PL.mkL_10, PL.mkT_11, PL.mkL_11, PL.mkT_12, PL.mkL_12, PL.mkT_13, PL.mkL_13, PL.mkT_14, PL.mkL_14, PL.mkT_15, PL.mkL_15, PL.mkT_16, PL.mkL_16, PL.vIdx_t0, PL.vIdx_t1, PL.vIdx_t2, PL.vIdx_t3, PL.vIdx_l0, PL.vIdx_l1, PL.vIdx_l2, PL.wipeD, List.getElem?_cons_succ, List.getElem?_cons_zero, PL.start, List.map_cons, List.map_nil, List.length_cons, List.length_nil, List.length_map, List.replicate, List.cons_append, List.nil_append, Nat.reduceSub, Nat.reduceAdd, List.set_cons_succ, List.set_cons_zero, Int.reduceLT, if_true, if_false, reduceIte, Bool.false_eq_true, Bool.true_eq_false, Bool.not_true, Bool.not_false, decide_eq_true_eq, Int.reduceAdd, Int.reduceSub, Int.reduceNeg, PL.bind_ok]); (try simp -implicitDefEqProofs only [↓PL.wt_ws])))
local macro_rules | `(tactic| row_walk) => `(tactic| ((simp -implicitDefEqProofs only [↓PL.ws_wtE, PL.rb_ok, ↓PL.tx_seq, ↓PL.tx_skip, ↓PL.tx_set, ↓PL.tx_setO, ↓PL.tx_ret, ↓PL.tx_retN, ↓PL.tx_expr, ↓PL.tx_break, ↓PL.tx_cont, ↓PL.tx_par, ↓PL.tx_unp, ↓PL.tx_aug, ↓PL.tx_app, ↓PL.tx_storeD, ↓PL.tx_store, PL.kE_ok, PL.kB_ok, PL.kV_some, PL.kO_some, PL.kS_some, PL.kL_list, PL.kP_dict, PL.kG_def, PL.slotE_some, PL.rb_exn, ↓PL.eVar_ap, ↓PL.eC_ap, ↓PL.eUn_ap, ↓PL.eBin_ap, ↓PL.eMeL_ap, ↓PL.eMeD_ap, ↓PL.eCall_ap, ↓PL.aNil_ap, ↓PL.aCons_ap, ↓PL.tBin_ap, ↓PL.tVal_ap, ↓PL.tNotD_ap, ↓PL.tAndD_ap, ↓PL.tOrD_ap, ↓PL.tTrue_ap, ↓PL.eNot_ap, ↓PL.eAnd_ap, ↓PL.eOr_ap, ↓PL.eIfE_ap, ↓PL.eChain_ap, ↓PL.tChainD_ap, ↓PL.eTup_ap, ↓PL.eLst_ap, ↓PL.oNone_ap, ↓PL.oSome_ap, ↓PL.eSlice_ap, ↓PL.iVal_ap, ↓PL.iR1_ap, ↓PL.iR2_ap, ↓PL.iR3_ap, ↓PL.iRevD_ap, ↓PL.iZipD_ap, ↓PL.iEnumD_ap, ↓PL.eDisp_ap, ↓PL.gN_ap, PL.items_tup, PL.items_list, PL.gsNil_ap, PL.gT2_ap, PL.gT3_ap, ↓PL.eStep_ap, PL.gsCons_ap, PL.isMut_list, PL.isMut_dict, PL.isListD, PL.isDictD, PL.vGet1D_str, PL.vGet1D_int, PL.vDisp1_str, PL.vDisp1_int, true_and, and_true, ↓reduceIte, Bool.not_eq_true', decide_eq_false_iff_not, Nat.reduceEqDiff, Int.reduceEq, Int.reduceNe, ne_eq, Int.cast_ofNat_Int, Nat.reduceLT, Nat.reduceLeDiff, and_self, decide_true, decide_false, not_true_eq_false, not_false_eq_true, Bool.and_false, Bool.false_and, Bool.and_true, Bool.true_and, PL.ite_okb, PL.ite_okB, PL.ite_dec, PL.ite_dec', PL.ite_b, PL.ite_b', PL.vIdx_t4, PL.vIdx_t5, PL.vIdx_l3, PL.vIdx_l4, PL.ite_okb', PL.ite_okB', PL.up_some, PL.vAdd_int, PL.vSub_int, PL.vMod_pos, PL.vDiv_pos, PL.vAbs_int, PL.vNeg_int, PL.vInt_int, PL.vInt_bool, PL.vEq_int, PL.vNe_int, PL.vEq_bool, PL.vNe_bool, PL.vNe_str, PL.vEq_str, PL.vLt_int, PL.vLe_int, PL.vGt_int, PL.vGe_int, PL.vPow18, PL.vPow12, PL.vLen_tup, PL.vLen_list, PL.vTuple_list, PL.vTuple_tup, PL.vList_list, PL.vList_tup, PL.vMax2_int, PL.vMin2_int, PL.vBool_bool, PL.vBool_int, PL.isi_tuple_n, PL.isi_tuple_b, PL.isi_tuple_i, PL.isi_tuple_s, PL.isi_tuple_l, PL.isi_tuple_t, PL.isi_tuple_d, PL.isi_bool_n, PL.isi_bool_b, PL.isi_bool_i, PL.isi_bool_s, PL.isi_bool_l, PL.isi_bool_t, PL.isi_bool_d, PL.isi_int_n, PL.isi_int_b, PL.isi_int_i, PL.isi_int_s, PL.isi_int_l, PL.isi_int_t, PL.isi_int_d, PL.isi_str_n, PL.isi_str_b, PL.isi_str_i, PL.isi_str_s, PL.isi_str_l, PL.isi_str_t, PL.isi_str_d, PL.isi_list_n, PL.isi_list_b, PL.isi_list_i, PL.isi_list_s, PL.isi_list_l, PL.isi_list_t, PL.isi_list_d, PL.isi_dict_n, PL.isi_dict_b, PL.isi_dict_i, PL.isi_dict_s, PL.isi_dict_l, PL.isi_dict_t, PL.isi_dict_d, PL.isN_n, PL.notN_n, PL.isN_b, PL.notN_b, PL.isN_i, PL.notN_i, PL.isN_s, PL.notN_s, PL.isN_l, PL.notN_l, PL.isN_t, PL.notN_t, PL.isN_d, PL.notN_d, PL.asB_bool, PL.asI_int, PL.truthD_bool, PL.truthD_int, PL.truthD_tup, PL.truthD_list, PL.truthD_none, Option.bind_some, PL.mkT_0, PL.mkL_0, PL.mkT_1, PL.mkL_1, PL.mkT_2, PL.mkL_2, PL.mkT_3, PL.mkL_3, PL.mkT_4, PL.mkL_4, PL.mkT_5, PL.mkL_5, PL.mkT_6, PL.mkL_6, PL.mkT_7, PL.mkL_7, PL.mkT_8, PL.mkL_8, PL.mkT_9, PL.mkL_9, PL.mkT_10, PL.mkL_10, PL.mkT_11, PL.mkL_11, PL.mkT_12, PL.mkL_12, PL.mkT_13, PL.mkL_13, PL.mkT_14, PL.mkL_14, PL.mkT_15, PL.mkL_15, PL.mkT_16, PL.mkL_16, PL.vIdx_t0, PL.vIdx_t1, PL.vIdx_t2, PL.vIdx_t3, PL.vIdx_l0, PL.vIdx_l1, PL.vIdx_l2, PL.wipeD, List.getElem?_cons_succ, List.getElem?_cons_zero, PL.start, List.map_cons, List.map_nil, List.length_cons, List.length_nil, List.length_map, List.replicate, List.cons_append, List.nil_append, Nat.reduceSub, Nat.reduceAdd, List.set_cons_succ, List.set_cons_zero, Int.reduceLT, if_true, if_false, reduceIte, Bool.false_eq_true, Bool.true_eq_false, Bool.not_true, Bool.not_false, decide_eq_true_eq, Int.reduceAdd, Int.reduceSub, Int.reduceNeg, PL.bind_ok]); (try simp -implicitDefEqProofs only [↓PL.wt_ws])))
local macro_rules | `(tactic| row_walk with [$[$ts],*]) => `(tactic| ((simp -implicitDefEqProofs only [$[$ts:term],*, ↓PL.ws_wtE, PL.rb_ok, ↓PL.tx_seq, ↓PL.tx_skip, ↓PL.tx_set, ↓PL.tx_setO, ↓PL.tx_ret, ↓PL.tx_retN, ↓PL.tx_expr, ↓PL.tx_break, ↓PL.tx_cont, ↓PL.tx_par, ↓PL.tx_unp, ↓PL.tx_aug, ↓PL.tx_app, ↓PL.tx_storeD, ↓PL.tx_store, PL.kE_ok, PL.kB_ok, PL.kV_some, PL.kO_some, PL.kS_some, PL.kL_list, PL.kP_dict, PL.kG_def, PL.slotE_some, PL.rb_exn, ↓PL.eVar_ap, ↓PL.eC_ap, ↓PL.eUn_ap, ↓PL.eBin_ap, ↓PL.eMeL_ap, ↓PL.eMeD_ap, ↓PL.eCall_ap, ↓PL.aNil_ap, ↓PL.aCons_ap, ↓PL.tBin_ap, ↓PL.tVal_ap, ↓PL.tNotD_ap, ↓PL.tAndD_ap, ↓PL.tOrD_ap, ↓PL.tTrue_ap, ↓PL.eNot_ap, ↓PL.eAnd_ap, ↓PL.eOr_ap, ↓PL.eIfE_ap, ↓PL.eChain_ap, ↓PL.tChainD_ap, ↓PL.eTup_ap, ↓PL.eLst_ap, ↓PL.oNone_ap, ↓PL.oSome_ap, ↓PL.eSlice_ap, ↓PL.iVal_ap, ↓PL.iR1_ap, ↓PL.iR2_ap, ↓PL.iR3_ap, ↓PL.iRevD_ap, ↓PL.iZipD_ap, ↓PL.iEnumD_ap, ↓PL.eDisp_ap, ↓PL.gN_ap, PL.items_tup, PL.items_list, PL.gsNil_ap, PL.gT2_ap, PL.gT3_ap, ↓PL.eStep_ap, PL.gsCons_ap, PL.isMut_list, PL.isMut_dict, PL.isListD, PL.isDictD, PL.vGet1D_str, PL.vGet1D_int, PL.vDisp1_str, PL.vDisp1_int, true_and, and_true, ↓reduceIte, Bool.not_eq_true', decide_eq_false_iff_not, Nat.reduceEqDiff, Int.reduceEq, Int.reduceNe, ne_eq, Int.cast_ofNat_Int, Nat.reduceLT, Nat.reduceLeDiff, and_self, decide_true, decide_false, not_true_eq_false, not_false_eq_true, Bool.and_false, Bool.false_and, Bool.and_true, Bool.true_and, PL.ite_okb, PL.ite_okB, PL.ite_dec, PL.ite_dec', PL.ite_b, PL.ite_b', PL.vIdx_t4, PL.vIdx_t5, PL.vIdx_l3, PL.vIdx_l4, PL.ite_okb', PL.ite_okB', PL.up_some, PL.vAdd_int, PL.vSub_int, PL.vMod_pos, PL.vDiv_pos, PL.vAbs_int, PL.vNeg_int, PL.vInt_int, PL.vInt_bool, PL.vEq_int, PL.vNe_int, PL.vEq_bool, PL.vNe_bool, PL.vNe_str, PL.vEq_str, PL.vLt_int, PL.vLe_int, PL.vGt_int, PL.vGe_int, PL.vPow18, PL.vPow12, PL.vLen_tup, PL.vLen_list, PL.vTuple_list, PL.vTuple_tup, PL.vList_list, PL.vList_tup, PL.vMax2_int, PL.vMin2_int, PL.vBool_bool, PL.vBool_int, PL.isi_tuple_n, PL.isi_tuple_b, PL.isi_tuple_i, PL.isi_tuple_s, PL.isi_tuple_l, PL.isi_tuple_t, PL.isi_tuple_d, PL.isi_bool_n, PL.isi_bool_b, PL.isi_bool_i, PL.isi_bool_s, PL.isi_bool_l, PL.isi_bool_t, PL.isi_bool_d, PL.isi_int_n, PL.isi_int_b, PL.isi_int_i, PL.isi_int_s, PL.isi_int_l, PL.isi_int_t, PL.isi_int_d, PL.isi_str_n, PL.isi_str_b, PL.isi_str_i, PL.isi_str_s, PL.isi_str_l, PL.isi_str_t, PL.isi_str_d, PL.isi_list_n, PL.isi_list_b, PL.isi_list_i, PL.isi_list_s, PL.isi_list_l, PL.isi_list_t, PL.isi_list_d, PL.isi_dict_n, PL.isi_dict_b, PL.isi_dict_i, PL.isi_dict_s, PL.isi_dict_l, PL.isi_dict_t, PL.isi_dict_d, PL.isN_n, PL.notN_n, PL.isN_b, PL.notN_b, PL.isN_i, PL.notN_i, PL.isN_s, PL.notN_s, PL.isN_l, PL.notN_l, PL.isN_t, PL.notN_t, PL.isN_d, PL.notN_d, PL.asB_bool, PL.asI_int, PL.truthD_bool, PL.truthD_int, PL.truthD_tup, PL.truthD_list, PL.truthD_none, Option.bind_some, PL.mkT_0, PL.mkL_0, PL.mkT_1, PL.mkL_1, PL.mkT_2, PL.mkL_2, PL.mkT_3, PL.mkL_3, PL.mkT_4, PL.mkL_4, PL.mkT_5, PL.mkL_5, PL.mkT_6, PL.mkL_6, PL.mkT_7, PL.mkL_7, PL.mkT_8, PL.mkL_8, PL.mkT_9, PL.mkL_9, PL.mkT_10, PL.mkL_10, PL.mkT_11, PL.mkL_11, PL.mkT_12, PL.mkL_12, PL.mkT_13, PL.mkL_13, PL.mkT_14, PL.mkL_14, PL.mkT_15, PL.mkL_15, PL.mkT_16, PL.mkL_16, PL.vIdx_t0, PL.vIdx_t1, PL.vIdx_t2, PL.vIdx_t3, PL.vIdx_l0, PL.vIdx_l1, PL.vIdx_l2, PL.wipeD, List.getElem?_cons_succ, List.getElem?_cons_zero, PL.start, List.map_cons, List.map_nil, List.length_cons, List.length_nil, List.length_map, List.replicate, List.cons_append, List.nil_append, Nat.reduceSub, Nat.reduceAdd, List.set_cons_succ, List.set_cons_zero, Int.reduceLT, if_true, if_false, reduceIte, Bool.false_eq_true, Bool.true_eq_false, Bool.not_true, Bool.not_false, decide_eq_true_eq, Int.reduceAdd, Int.reduceSub, Int.reduceNeg, PL.bind_ok]); (try simp -implicitDefEqProofs only [↓PL.wt_ws])))
namespace PL
def bpS (m : Nat) : Nat → D → Prop
  | 0, _ => False
  | _ + 1, .none => True
  | _ + 1, .bool _ => True
  | _ + 1, .int _ => True
  | _ + 1, .str z => z.length ≤ m
  | n + 1, .tuple l => ∀ x ∈ l, bpS m n x
  | _ + 1, .list _ => False
  | _ + 1, .dict _ => False
mutual
/-- how many nodes -/
def szD : D → Nat
  | .tuple l => 1 + szDs l
  | _ => 1
def szDs : List D → Nat
  | [] => 0
  | x :: xs => szD x + szDs xs
end
def RwP (x : D) : Prop := bpS 1001 37 x ∧ szD x ≤ 1000
theorem szDs_one {α : Type} (f : α → D) (h : ∀ a, szD (f a) = 1) : ∀ l : List α, szDs (l.map f) = l.length
  | [] => rfl
  | a :: l => by rw [List.map_cons, szDs, h, szDs_one f h l, List.length_cons]; omega
theorem RwP_strs {ns : List Str} (h : ∀ z ∈ ns, z.length ≤ 1001) (hl : ns.length ≤ 500) : RwP (.tuple (ns.map .str)) := by
  refine ⟨fun x hx => ?_, ?_⟩
  · obtain ⟨z, hz, rfl⟩ := List.mem_map.1 hx
    exact h z hz
  · have := szDs_one PyData.str (fun _ => rfl) ns
    simp only [szD, this]; omega
theorem RwP_sort {ns : List Str} (h : ∀ z ∈ ns, z.length ≤ 1001) (hl : ns.length ≤ 500) : RwP (.tuple ((sortS ns).map .str)) :=
  RwP_strs (fun z hz => h z ((sortS_perm ns).mem_iff.1 hz)) (by rw [(sortS_perm ns).length_eq]; exact hl)
def ltK (k : Nat) : Str := ⟨#[97 + k]⟩
theorem ltK_at {k : Nat} (h : k < 10) : vIdx (.str (Str.ofString "abcdefghij")) (.int (k : Nat)) = some (.str (ltK k)) := by
  obtain rfl | rfl | rfl | rfl | rfl | rfl | rfl | rfl | rfl | rfl : k = 0 ∨ k = 1 ∨ k = 2 ∨ k = 3 ∨ k = 4 ∨ k = 5 ∨ k = 6 ∨ k = 7 ∨ k = 8 ∨ k = 9 := by omega
  all_goals rfl
def yK (k : Nat) : Str := (Str.ofString "y" ++ ltK (k / 10)) ++ ltK (k % 10)
theorem str_app_list (a b : Str) : (a ++ b).cps.toList = a.cps.toList ++ b.cps.toList := by
  show (a.cps ++ b.cps).toList = _
  simp
theorem yK_len (k : Nat) : (yK k).length ≤ 1001 := by
  have e : (yK k).length = (yK k).cps.toList.length := by simp [Str.length]
  rw [e]
  unfold yK
  rw [str_app_list, str_app_list, show (Str.ofString "y").cps.toList = [121] by decide]
  simp [ltK]
theorem cutD_sub {α : Type} (xs : List α) (lo hi : Option Int) : (cutD xs lo hi).Sublist xs :=
  (List.take_sublist _ _).trans (List.drop_sublist _ _)
theorem cut_strs (ms : List Str) (i : Int) : ∃ ms' : List Str, cutD (ms.map PyData.str) none (some i) = ms'.map .str ∧ ms'.Sublist ms := by
  obtain ⟨l, h1, h2⟩ := List.sublist_map_iff.1 (cutD_sub (ms.map PyData.str) none (some i))
  exact ⟨l, h2, h1⟩
theorem rw_snoc {L : List D} {n : Nat} (h : (∀ p ∈ L, RwP p) ∧ L.length ≤ n) {x : D} (hx : RwP x) : (∀ p ∈ L ++ [x], RwP p) ∧ (L ++ [x]).length ≤ n + 1 := by
  refine ⟨fun p hp => ?_, by rw [List.length_append]; have := h.2; simp; omega⟩
  rcases List.mem_append.1 hp with g | g
  · exact h.1 p g
  · rw [List.mem_singleton.1 g]; exact hx
structure Gr where
  g : Str
  t : Str
  d : Str
abbrev Gs := List (Str × Gr)
def digC (c : Nat) : Bool := decide (48 ≤ c ∧ c ≤ 57)
def letC (c : Nat) : Bool := decide (97 ≤ c ∧ c ≤ 122)
def nmL' (l : List Nat) : Bool := decide (1 ≤ l.length ∧ l.length ≤ 12) && (letC (l.getD 0 0) && l.all fun c => letC c || digC c)
def nmB (z : Str) : Bool := nmL' z.cps.toList
/-- the names of the grants are names, each once -/
def GsOk (G : Gs) : Prop := (G.map Prod.fst).Nodup ∧ ∀ p ∈ G, nmB p.1 = true
def HdOk (G : Gs) : Prop := ∀ p ∈ G, nmB p.2.t = true
def grE (x : Gr) : D := .tuple [.str x.g, .str x.t, .str x.d]
abbrev Tb := List (Str × D)
def gsT (G : Gs) : Tb := G.map fun p => (p.1, grE p.2)
theorem idxH {H : List Str} {i : Int} (h0 : 0 ≤ i) (h1 : i < H.length) (hh : H.length ≤ 1000) : ∃ z ∈ H, vIdx (.list (H.map .str)) (.int i) = some (.str z) := by
  obtain ⟨k, rfl⟩ := Int.eq_ofNat_of_zero_le h0
  have hk : k < H.length := by omega
  refine ⟨H[k], List.getElem_mem hk, ?_⟩
  show vIdx (.list (H.map .str)) (.int (k : Nat)) = _
  rw [vIdx_list (by omega) (by rw [List.length_map]; omega)]
  simp [hk]
def kvE (p : Str × D) : D := .tuple [.str p.1, p.2]
def tbE (T : Tb) : D := .tuple (T.map kvE)
theorem items_tb (T : Tb) : itemsD (tbE T) = some (T.map kvE) := rfl
theorem items_gs (G : Gs) : itemsD (tbE (gsT G)) = some (G.map fun p => kvE (p.1, grE p.2)) := by
  rw [items_tb, gsT, List.map_map]; rfl
theorem kvE_0 (p : Str × D) : vIdx (kvE p) (.int 0) = some (.str p.1) := rfl
theorem nm_len {z : Str} (h : nmB z = true) : z.length ≤ 12 := by
  unfold nmB nmL' at h
  rw [Bool.and_eq_true] at h
  have := (of_decide_eq_true h.1).2
  simpa [Str.length] using this
def srv (e : Str) (p : Str × Gr) : Bool := decide (p.2.d = e) || decide (p.2.d = "all")
def stepR (e x : Str) (G : Gs) (R : List Str) : List Str := G.foldl (fun R p => if srv e p = true ∧ p.2.g = x ∧ p.2.t ∉ R then R ++ [p.2.t] else R) R
def bfs (G : Gs) (e : Str) : Nat → Nat → List Str → List Str
  | 0, _, R => R
  | n + 1, k, R => match R[k]? with
    | some x => bfs G e n (k + 1) (stepR e x G R)
    | none => R
def mst : Str := Str.ofString "master"
def reach (G : Gs) (e : Str) : List Str := bfs G e (G.length + 1) 0 [mst]
inductive Rch (G : Gs) (e : Str) : Str → Prop
  | m : Rch G e mst
  | s {p : Str × Gr} : p ∈ G → srv e p = true → Rch G e p.2.g → Rch G e p.2.t
/-- what holds of a row of reached hands -/
structure RI (G : Gs) (e : Str) (k : Nat) (R : List Str) : Prop where
  nd : R.Nodup
  ms : mst ∈ R
  rc : ∀ y ∈ R, Rch G e y
  cl : ∀ j, j < k → ∀ x, R[j]? = some x → ∀ p ∈ G, srv e p = true → p.2.g = x → p.2.t ∈ R
theorem bfs_some {G : Gs} {e : Str} {n k : Nat} {R : List Str} {x : Str} (h : R[k]? = some x) : bfs G e (n + 1) k R = bfs G e n (k + 1) (stepR e x G R) := by rw [bfs, h]
theorem bfs_stop {G : Gs} {e : Str} {n k : Nat} {R : List Str} (h : R.length ≤ k) : bfs G e n k R = R := by
  cases n with
  | zero => rfl
  | succ n => rw [bfs, List.getElem?_eq_none h]
theorem len_le_of {α : Type} [BEq α] [LawfulBEq α] {l m : List α} (h : l.Nodup) (hs : ∀ x ∈ l, x ∈ m) : l.length ≤ m.length := by
  refine Nat.le_of_not_lt fun hc => ?_
  have := (perm_of_sub l m h hs (by omega)).length_eq
  omega
theorem RI.len {G : Gs} {e : Str} {k : Nat} {R : List Str} (h : RI G e k R) : R.length ≤ G.length + 1 := by
  have := len_le_of (m := mst :: G.map fun p => p.2.t) h.nd fun y hy => by
    cases h.rc y hy with
    | m => simp
    | s a b c => exact List.mem_cons_of_mem _ (List.mem_map.2 ⟨_, a, rfl⟩)
  simpa using this
theorem stepR_cons (e x : Str) (p : Str × Gr) (G : Gs) (R : List Str) : stepR e x (p :: G) R = stepR e x G (if srv e p = true ∧ p.2.g = x ∧ p.2.t ∉ R then R ++ [p.2.t] else R) := rfl
theorem stepR_pre (e x : Str) : ∀ (G : Gs) (R : List Str), ∃ M, stepR e x G R = R ++ M
  | [], R => ⟨[], by simp [stepR]⟩
  | p :: G, R => by
    rw [stepR_cons]
    split
    · obtain ⟨M, h⟩ := stepR_pre e x G (R ++ [p.2.t])
      exact ⟨p.2.t :: M, by rw [h, List.append_assoc]; rfl⟩
    · exact stepR_pre e x G R
theorem stepR_mono {e x y : Str} {G : Gs} {R : List Str} (h : y ∈ R) : y ∈ stepR e x G R := by
  obtain ⟨M, hM⟩ := stepR_pre e x G R
  rw [hM]; exact List.mem_append_left _ h
theorem stepR_has (e x : Str) : ∀ (G : Gs) (R : List Str) (p : Str × Gr), p ∈ G → srv e p = true → p.2.g = x → p.2.t ∈ stepR e x G R
  | q :: G, R, p, hp, h1, h2 => by
    rw [stepR_cons]
    rcases List.mem_cons.1 hp with rfl | hp
    · by_cases ht : p.2.t ∈ R
      · rw [if_neg fun h => h.2.2 ht]
        exact stepR_mono ht
      · rw [if_pos ⟨h1, h2, ht⟩]
        exact stepR_mono (by simp)
    · exact stepR_has e x G _ p hp h1 h2
theorem nodup_snoc {α : Type} {l : List α} {a : α} : (l ++ [a]).Nodup ↔ l.Nodup ∧ a ∉ l := by
  rw [List.nodup_append]
  constructor
  · rintro ⟨h1, h2, h3⟩
    exact ⟨h1, fun h => h3 a h a (by simp) rfl⟩
  · rintro ⟨h1, h2⟩
    refine ⟨h1, by simp, fun x hx y hy e => ?_⟩
    rw [List.mem_singleton.1 hy] at e
    exact h2 (e ▸ hx)
theorem stepR_nodup (e x : Str) : ∀ (G : Gs) (R : List Str), R.Nodup → (stepR e x G R).Nodup
  | [], R, h => h
  | p :: G, R, h => by
    rw [stepR_cons]
    split
    · rename_i hc
      exact stepR_nodup e x G _ (nodup_snoc.2 ⟨h, hc.2.2⟩)
    · exact stepR_nodup e x G R h
theorem stepR_sub (e x : Str) : ∀ (G : Gs) (R : List Str) (y : Str), y ∈ stepR e x G R → y ∈ R ∨ ∃ p ∈ G, srv e p = true ∧ p.2.g = x ∧ p.2.t = y
  | [], R, y, h => .inl h
  | p :: G, R, y, h => by
    rw [stepR_cons] at h
    rcases stepR_sub e x G _ y h with h | ⟨q, h1, h2⟩
    · split at h
      · rename_i hc
        rcases List.mem_append.1 h with h | h
        · exact .inl h
        · rw [List.mem_singleton.1 h]
          exact .inr ⟨p, by simp, hc.1, hc.2.1, rfl⟩
      · exact .inl h
    · exact .inr ⟨q, by simp [h1], h2⟩
theorem RI.step {G : Gs} {e : Str} {k : Nat} {R : List Str} {x : Str} (h : RI G e k R) (hx : R[k]? = some x) : RI G e (k + 1) (stepR e x G R) := by
  refine ⟨stepR_nodup e x G R h.nd, stepR_mono h.ms, fun y hy => ?_, fun j hj z hz p hp h1 h2 => ?_⟩
  · rcases stepR_sub e x G R y hy with g | ⟨p, g1, g2, g3, g4⟩
    · exact h.rc y g
    · rw [← g4]
      refine .s g1 g2 ?_
      rw [g3]
      exact h.rc x (List.mem_of_getElem? hx)
  · obtain ⟨M, hM⟩ := stepR_pre e x G R
    have hjl : j < R.length := by
      have := (List.getElem?_eq_some_iff.1 hx).1
      omega
    rw [hM, List.getElem?_append_left hjl] at hz
    by_cases hjk : j = k
    · rw [hjk, hx] at hz
      cases hz
      exact stepR_has e x G R p hp h1 h2
    · exact stepR_mono (h.cl j (by omega) z hz p hp h1 h2)
theorem RI.fin {G : Gs} {e : Str} : ∀ (n k : Nat) (R : List Str), RI G e k R → G.length + 1 ≤ k + n → RI G e (bfs G e n k R).length (bfs G e n k R)
  | 0, k, R, h, hn => ⟨h.nd, h.ms, h.rc, fun j hj => h.cl j (by have := h.len; show j < k; have : j < R.length := hj; omega)⟩
  | n + 1, k, R, h, hn => by
    cases hx : R[k]? with
    | some x =>
      rw [bfs_some hx]
      exact RI.fin n (k + 1) _ (h.step hx) (by omega)
    | none =>
      have hk := List.getElem?_eq_none_iff.1 hx
      rw [bfs_stop hk]
      exact ⟨h.nd, h.ms, h.rc, fun j hj => h.cl j (by omega)⟩
theorem RI.start (G : Gs) (e : Str) : RI G e 0 [mst] := ⟨by simp, by simp, fun y hy => (by rw [List.mem_singleton.1 hy]; exact .m), fun j hj => (by omega)⟩
theorem reach_ri (G : Gs) (e : Str) : RI G e (reach G e).length (reach G e) := RI.fin _ 0 _ (.start G e) (by omega)
theorem reach_nm {G : Gs} (h : HdOk G) (e : Str) : ∀ y ∈ reach G e, nmB y = true := fun y hy => by
  cases (reach_ri G e).rc y hy with
  | m => decide
  | s a b c => exact h _ a
theorem vAdd_str {a b : Str} (h : a.length + b.length ≤ 16777216) : vAdd (.str a) (.str b) = some (.str (a ++ b)) := if_pos (by rw [line_eq]; exact h)
theorem fine_strL (l : List Str) : fine (.list (l.map .str)) = true := pl_fine (n := 2) (pl_list (n := 1) fun x hx => by
  obtain ⟨z, _, rfl⟩ := List.mem_map.1 hx
  rfl) (by decide)
theorem eqv_str (i j : Str) : PyData.eqv (.str i) (.str j) = decide (i = j) := by
  simp only [PyData.eqv]
  exact Bool.eq_iff_iff.2 (by simp)
theorem inD_str (i : Str) : ∀ l : List Str, inD (.str i) (l.map .str) = decide (i ∈ l)
  | [] => rfl
  | n :: l => by
    unfold inD
    rw [List.map_cons, List.any_cons]
    have := inD_str i l
    unfold inD at this
    rw [this, eqv_str]
    refine Bool.eq_iff_iff.2 ?_
    rw [Bool.or_eq_true, decide_eq_true_eq, decide_eq_true_eq, decide_eq_true_eq, List.mem_cons, @eq_comm _ n i]
theorem vIn_strL (i : Str) (l : List Str) : vIn (.str i) (.list (l.map .str)) = some (.bool (decide (i ∈ l))) := by
  show (if _ then _ else none) = _
  rw [if_pos ⟨rfl, fine_strL l⟩, inD_str]
theorem vNotIn_of {x y : D} {b : Bool} (h : vIn x y = some (.bool b)) : vNotIn x y = some (.bool (!b)) := by
  unfold vNotIn
  rw [h]
  rfl
theorem vNotIn_strL (i : Str) (l : List Str) : vNotIn (.str i) (.list (l.map .str)) = some (.bool (!decide (i ∈ l))) := by
  rw [vNotIn_of (vIn_strL i l)]
theorem law_rows_6_eq {G : Gs} (hG : GsOk G) (hh : HdOk G) (hl : G.length ≤ 24) (e : Str) (st : Int) : ∃ L : List D, d_law_rows_6 [tbE (gsT G), .str e, .list ((reach G e).map .str), .int st] = .ok (.list L) ∧ (∀ p ∈ L, RwP p) ∧ L.length ≤ 100 := by
  suffices ∃ w, d_law_rows_6 [tbE (gsT G), .str e, .list ((reach G e).map .str), .int st] = .ok w ∧ ∃ L : List D, w = .list L ∧ ((∀ p ∈ L, RwP p) ∧ L.length ≤ 100) by
    obtain ⟨w, h, L, rfl, hd⟩ := this
    exact ⟨L, h, hd⟩
  have nmR := reach_nm hh e
  have lR := (reach_ri G e).len
  generalize reach G e = R at *
  have nR : ∀ z ∈ R, z.length ≤ 1001 := fun z hz => Nat.le_trans (nm_len (nmR z hz)) (by decide)
  obtain ⟨NM, hNM⟩ : ∃ x : List Str, x = G.map Prod.fst := ⟨_, rfl⟩
  have lN : NM.length = G.length := by rw [hNM, List.length_map]
  have nN : ∀ z ∈ NM, z.length ≤ 1001 := fun z hz => by
    rw [hNM] at hz
    obtain ⟨p, hp, rfl⟩ := List.mem_map.1 hz
    exact Nat.le_trans (nm_len (hG.2 p hp)) (by decide)
  have vlN : vLen (.list (NM.map .str)) = some (.int (G.length : Nat)) := by rw [vLen_list, List.length_map, lN]
  have vlR : vLen (.list (R.map .str)) = some (.int (R.length : Nat)) := by rw [vLen_list, List.length_map]
  have itN : ∀ x4 x5 x6 x7 x8 x9 x10 x11 x12 x13 : Option D, eComp [12] (gN 12) (iVal (eVar 0)) (tTrue) (eBin vIdx (eVar 12) (eC (.int 0))) [some (tbE (gsT G)), some (.str e), some (.list (R.map .str)), some (.int st), x4, x5, x6, x7, x8, x9, x10, x11, x12, x13] = .ok (.list (NM.map .str)) := by
    intros
    rw [hNM, List.map_map]
    exact eComp_map (fun p : Str × Gr => kvE (p.1, grE p.2)) (fun p => .str p.1) G (by wp_walk using items_gs) fun p hp => ⟨_, rfl, by wp_walk using kvE_0⟩
  have mn : vMin2 (.int (G.length : Nat)) (.int 6) = some (.int ((min G.length 6 : Nat) : Int)) := by
    rw [vMin2_int]
    refine congrArg (fun i => some (PyData.int i)) ?_
    omega
  rw [d_law_rows_6]
  refine run_ws ?_
  row_walk with [itN, vSorted_strs]
  obtain ⟨L0, hL0, eL0⟩ : ∃ L0 : List D, L0 = [.tuple [], .tuple (NM.map .str), .tuple ((sortS R).map .str), .tuple [.str (Str.ofString "master")], .none, .bool true, .int 0, .str (Str.ofString "master"), .tuple [.none], .tuple [.str (Str.ofString "nobody")]] ∧ ((∀ p ∈ L0, RwP p) ∧ L0.length ≤ 10) := by
    refine ⟨_, rfl, fun p hp => ?_, by simp⟩
    simp only [List.mem_cons, List.not_mem_nil, or_false] at hp
    rcases hp with rfl | rfl | rfl | rfl | rfl | rfl | rfl | rfl | rfl | rfl
    · exact RwP_strs (ns := []) (fun z hz => by cases hz) (by decide)
    · exact RwP_strs nN (by omega)
    · exact RwP_sort nR (by omega)
    · exact RwP_strs (ns := [Str.ofString "master"]) (fun z hz => by rw [List.mem_singleton.1 hz]; decide) (by decide)
    · exact ⟨trivial, by decide⟩
    · exact ⟨trivial, by decide⟩
    · exact ⟨trivial, by decide⟩
    · exact ⟨show _ ≤ _ by decide, by decide⟩
    · exact ⟨fun x hx => (by rw [List.mem_singleton.1 hx]; trivial), by decide⟩
    · exact RwP_strs (ns := [Str.ofString "nobody"]) (fun z hz => by rw [List.mem_singleton.1 hz]; decide) (by decide)
  rw [← hL0]
  refine ws_mid (fun ρ => ∃ (L : List D) (o6 o7 o8 : Option D), ρ = [some (tbE (gsT G)), some (.str e), some (.list (R.map .str)), some (.int st), some (.list (NM.map .str)), some (.list L), o6, o7, o8, none, none, none, none, none] ∧ ((∀ p ∈ L, RwP p) ∧ L.length ≤ 34)) ?_ ?_
  · refine ws_rng (min G.length 6) (fun k ρ => ∃ (L : List D) (o6 o7 o8 : Option D), ρ = [some (tbE (gsT G)), some (.str e), some (.list (R.map .str)), some (.int st), some (.list (NM.map .str)), some (.list L), o6, o7, o8, none, none, none, none, none] ∧ ((∀ p ∈ L, RwP p) ∧ L.length ≤ 10 + 4 * k)) (iR1_nat (by wp_walk using vlN, mn) (by omega)) ⟨L0, _, _, _, rfl, eL0⟩ ?_ ?_
    · rintro k hk _ ⟨L, o6, o7, o8, rfl, hL⟩
      have G0 : (0 : Int) < (G.length : Nat) := by omega
      have md := fun i => vMod_pos (i := i) (j := (G.length : Nat)) G0
      have ml := fun i : Int => And.intro (Int.emod_nonneg i (b := (G.length : Nat)) (by omega)) (Int.emod_lt_of_pos i G0)
      have m3 := vMul_64 (i := 3) (j := (k : Nat)) (by omega) (by omega) (by omega) (by omega)
      obtain ⟨z1, hz1, i1⟩ := idxH (H := NM) (ml (st + (k : Nat))).1 (by rw [lN]; exact (ml _).2) (by omega)
      obtain ⟨z2, hz2, i2⟩ := idxH (H := NM) (ml (st + 3 * (k : Nat) + 1)).1 (by rw [lN]; exact (ml _).2) (by omega)
      obtain ⟨z3, hz3, i3⟩ := idxH (H := NM) (i := 0) (by omega) (by rw [lN]; exact G0) (by omega)
      have va : ∀ a b c d : D, vAdd (.list L) (.list [a, b, c, d]) = some (.list (L ++ [a] ++ [b] ++ [c] ++ [d])) := fun a b c d => by
        rw [vAdd_list (by have := hL.2; simp; omega)]
        simp
      refine ⟨_, rfl, ?_⟩
      wp_walk using vlN, md, i1, m3, i2, i3, va
      have q1 := rw_snoc hL (RwP_strs (ns := [z1]) (fun z hz => by rw [List.mem_singleton.1 hz]; exact nN _ hz1) (by simp))
      have q2 := rw_snoc q1 (RwP_strs (ns := [z1, z2]) (fun z hz => by
        simp only [List.mem_cons, List.not_mem_nil, or_false] at hz
        rcases hz with rfl | rfl
        · exact nN _ hz1
        · exact nN _ hz2) (by simp))
      have q3 := rw_snoc q2 (RwP_strs (ns := [z1, z2, z1]) (fun z hz => by
        simp only [List.mem_cons, List.not_mem_nil, or_false] at hz
        rcases hz with rfl | rfl | rfl
        · exact nN _ hz1
        · exact nN _ hz2
        · exact nN _ hz1) (by simp))
      have q4 := rw_snoc q3 (RwP_strs (ns := [z2, z1, z3]) (fun z hz => by
        simp only [List.mem_cons, List.not_mem_nil, or_false] at hz
        rcases hz with rfl | rfl | rfl
        · exact nN _ hz2
        · exact nN _ hz1
        · exact nN _ hz3) (by simp))
      exact ⟨_, _, _, _, rfl, q4.1, Nat.le_trans q4.2 (by omega)⟩
    · rintro _ ⟨L, o6, o7, o8, rfl, hL⟩
      exact ⟨L, _, _, _, rfl, hL.1, by have := hL.2; omega⟩
  clear hL0 eL0
  rintro _ ⟨L, o6, o7, o8, rfl, hL⟩
  have vaN : vAdd (.list (R.map .str)) (.list [.str (Str.ofString "nobody")]) = some (.list ((R ++ [Str.ofString "nobody"]).map .str)) := by
    rw [vAdd_list (by rw [List.length_map]; simp; omega), List.map_append]; rfl
  have lNb : (Str.ofString "nobody").length ≤ 1001 := by decide
  row_walk
  refine ws_mid (fun ρ => ∃ (L : List D) (o8 o9 : Option D), ρ = [some (tbE (gsT G)), some (.str e), some (.list (R.map .str)), some (.int st), some (.list (NM.map .str)), some (.list L), o6, o7, o8, o9, none, none, none, none] ∧ ((∀ p ∈ L, RwP p) ∧ L.length ≤ 90)) ?_ ?_
  · refine ws_forE (fun z : Str => .str z) (R ++ [Str.ofString "nobody"]) (fun rest ρ => (∀ z ∈ rest, z.length ≤ 1001) ∧ ∃ (L : List D) (o8 o9 : Option D), ρ = [some (tbE (gsT G)), some (.str e), some (.list (R.map .str)), some (.int st), some (.list (NM.map .str)), some (.list L), o6, o7, o8, o9, none, none, none, none] ∧ ((∀ p ∈ L, RwP p) ∧ L.length + 2 * rest.length ≤ 90)) (by wp_walk using vaN) ⟨fun z hz => ?_, L, _, _, rfl, hL.1, by have := hL.2; simp; omega⟩ ?_ ?_
    · rcases List.mem_append.1 hz with g | g
      · exact nR z g
      · rw [List.mem_singleton.1 g]; exact lNb
    · rintro z rest _ ⟨hz, L, o8, o9, rfl, hL, lL⟩
      have lz := hz z (by simp)
      rw [List.length_cons] at lL
      have it8 : ∀ x8 x10 x11 x12 x13 : Option D, eComp [8] (gN 8) (iVal (eVar 2)) (tBin vNe (eVar 8) (eVar 9)) (eVar 8) [some (tbE (gsT G)), some (.str e), some (.list (R.map .str)), some (.int st), some (.list (NM.map .str)), some (.list L), o6, o7, x8, some (.str z), x10, x11, x12, x13] = .ok (.list ((R.filter fun y => !decide (y = z)).map .str)) := by
        intros
        refine eComp_filter (fun y : Str => .str y) (fun y => .str y) _ R (by wp_walk) fun y hy => ⟨_, rfl, ?_, fun _ => by wp_walk⟩
        wp_walk
        simp
      have va : vAdd (.list (R.map .str)) (.list [.str z]) = some (.list ((R ++ [z]).map .str)) := by
        rw [vAdd_list (by rw [List.length_map]; simp; omega), List.map_append]; rfl
      have L' : (∀ p ∈ L, RwP p) ∧ L.length ≤ L.length := ⟨hL, Nat.le_refl _⟩
      have q1 := rw_snoc L' (RwP_sort (ns := R.filter fun y => !decide (y = z)) (fun y hy => nR y (List.mem_filter.1 hy).1) (by have := List.length_filter_le (fun y => !decide (y = z)) R; omega))
      have q2 := rw_snoc q1 (RwP_sort (ns := R ++ [z]) (fun y hy => by
        rcases List.mem_append.1 hy with g | g
        · exact nR y g
        · rw [List.mem_singleton.1 g]; exact lz) (by simp; omega))
      refine ⟨_, rfl, ?_⟩
      wp_walk using it8, vSorted_strs, va
      exact ⟨by omega, by have := q1.2; omega, fun y hy => hz y (List.mem_cons_of_mem _ hy), _, _, _, rfl, q2.1, by have := q2.2; omega⟩
    · rintro _ ⟨_, L, o8, o9, rfl, hL, lL⟩
      exact ⟨L, _, _, rfl, hL, by simpa using lL⟩
  clear hL
  rintro _ ⟨L, o8, o9, rfl, hL⟩
  have it6 : ∀ x6 x7 x8 x9 x11 x12 x13 : Option D, eComp [6] (gN 6) (iR1 true (eC (.int 100))) (tTrue) (eTup (aCons (eBin vIdx (eVar 10) (eBin vDiv (eVar 6) (eC (.int 10)))) (aCons (eBin vIdx (eVar 10) (eBin vMod (eVar 6) (eC (.int 10)))) (aNil)))) [some (tbE (gsT G)), some (.str e), some (.list (R.map .str)), some (.int st), some (.list (NM.map .str)), some (.list L), x6, x7, x8, x9, some (.str (Str.ofString "abcdefghij")), x11, x12, x13] = .ok (.list ((List.range 100).map fun k => .tuple [.str (ltK (k / 10)), .str (ltK (k % 10))])) := by
    intros
    refine eComp_map (fun k : Nat => .int (k : Nat)) (fun k => .tuple [.str (ltK (k / 10)), .str (ltK (k % 10))]) (List.range 100) (iR1_nat (n := 100) (by wp_walk) (by omega)) fun k hk => ⟨_, rfl, ?_⟩
    have hk := List.mem_range.1 hk
    have v1 := vDiv_pos (i := (k : Nat)) (j := 10) (by omega)
    have v2 := vMod_pos (i := (k : Nat)) (j := 10) (by omega)
    have v3 := ltK_at (k := k / 10) (by omega)
    have v4 := ltK_at (k := k % 10) (by omega)
    have e1 : ((k : Nat) : Int) / 10 = ((k / 10 : Nat) : Int) := by omega
    have e2 : ((k : Nat) : Int) % 10 = ((k % 10 : Nat) : Int) := by omega
    rw [e1] at v1
    rw [e2] at v2
    wp_walk using v1, v2, v3, v4
  have it78 : ∀ x6 x7 x8 x9 x11 x12 x13 : Option D, eComp [7, 8] (gT 2 (gsCons (gN 7) (gsCons (gN 8) (gsNil)))) (iVal (eComp [6] (gN 6) (iR1 true (eC (.int 100))) (tTrue) (eTup (aCons (eBin vIdx (eVar 10) (eBin vDiv (eVar 6) (eC (.int 10)))) (aCons (eBin vIdx (eVar 10) (eBin vMod (eVar 6) (eC (.int 10)))) (aNil)))))) (tTrue) (eBin vAdd (eBin vAdd (eC (.str "y")) (eVar 7)) (eVar 8)) [some (tbE (gsT G)), some (.str e), some (.list (R.map .str)), some (.int st), some (.list (NM.map .str)), some (.list L), x6, x7, x8, x9, some (.str (Str.ofString "abcdefghij")), x11, x12, x13] = .ok (.list (((List.range 100).map yK).map .str)) := by
    intros
    rw [List.map_map]
    refine eComp_map (fun k : Nat => .tuple [.str (ltK (k / 10)), .str (ltK (k % 10))]) (fun k => .str (yK k)) (List.range 100) (by wp_walk using it6) fun k hk => ⟨_, rfl, ?_⟩
    have v1 : vAdd (.str (Str.ofString "y")) (.str (ltK (k / 10))) = some (.str (Str.ofString "y" ++ ltK (k / 10))) := vAdd_str (by rw [show (Str.ofString "y").length = 1 by decide]; show 1 + 1 ≤ _; omega)
    have v2 : vAdd (.str (Str.ofString "y" ++ ltK (k / 10))) (.str (ltK (k % 10))) = some (.str (yK k)) := vAdd_str (by
      have e : (Str.ofString "y" ++ ltK (k / 10)).length = (Str.ofString "y" ++ ltK (k / 10)).cps.toList.length := by simp [Str.length]
      rw [e, str_app_list, show (Str.ofString "y").cps.toList = [121] by decide]
      show 2 + 1 ≤ _
      omega)
    wp_walk using v1, v2
  obtain ⟨MS, hMS⟩ : ∃ x : List Str, x = sortS ((List.range 100).map yK) := ⟨_, rfl⟩
  have mMS : ∀ z ∈ MS, z.length ≤ 1001 := fun z hz => by
    rw [hMS] at hz
    obtain ⟨k, _, rfl⟩ := List.mem_map.1 ((sortS_perm _).mem_iff.1 hz)
    exact yK_len k
  have lMS : MS.length = 100 := by rw [hMS, (sortS_perm _).length_eq]; simp
  have it13 : ∀ x6 x7 x8 x9 x12 x13 : Option D, eComp [13] (gN 13) (iVal (eVar 11)) (tBin vNotIn (eVar 13) (eVar 2)) (eVar 13) [some (tbE (gsT G)), some (.str e), some (.list (R.map .str)), some (.int st), some (.list (NM.map .str)), some (.list L), x6, x7, x8, x9, some (.str (Str.ofString "abcdefghij")), some (.list (MS.map .str)), x12, x13] = .ok (.list ((MS.filter fun y => !decide (y ∈ R)).map .str)) := by
    intros
    refine eComp_filter (fun y : Str => .str y) (fun y => .str y) _ MS (by wp_walk) fun y hy => ⟨_, rfl, ?_, fun _ => by wp_walk⟩
    wp_walk using vNotIn_strL
  obtain ⟨M2, hM2⟩ : ∃ x : List Str, x = MS.filter fun y => !decide (y ∈ R) := ⟨_, rfl⟩
  have lM2 : M2.length ≤ 100 := by rw [hM2]; have := List.length_filter_le (fun y => !decide (y ∈ R)) MS; omega
  have mM2 : ∀ z ∈ M2, z.length ≤ 1001 := fun z hz => by rw [hM2] at hz; exact mMS z (List.mem_filter.1 hz).1
  rw [← hM2] at it13
  obtain ⟨C1, eC1, sC1⟩ := cut_strs M2 (99 - (R.length : Nat))
  obtain ⟨C2, eC2, sC2⟩ := cut_strs M2 (100 - (R.length : Nat))
  have sl1 : vSlice (.list (M2.map .str)) none (some (99 - (R.length : Nat))) = some (.list (C1.map .str)) := by rw [← eC1]; rfl
  have sl2 : vSlice (.list (M2.map .str)) none (some (100 - (R.length : Nat))) = some (.list (C2.map .str)) := by rw [← eC2]; rfl
  have k1 := sC1.length_le
  have k2 := sC2.length_le
  have va1 : vAdd (.list (R.map .str)) (.list (C1.map .str)) = some (.list ((R ++ C1).map .str)) := by
    rw [vAdd_list (by simp; omega), List.map_append]
  have va2 : vAdd (.list (R.map .str)) (.list (C2.map .str)) = some (.list ((R ++ C2).map .str)) := by
    rw [vAdd_list (by simp; omega), List.map_append]
  have so1 := vSorted_strs ((List.range 100).map yK)
  rw [← hMS] at so1
  have q1 := rw_snoc hL (RwP_sort (ns := R ++ C1) (fun y hy => by
    rcases List.mem_append.1 hy with g | g
    · exact nR y g
    · exact mM2 y (sC1.subset g)) (by simp; omega))
  have q2 := rw_snoc q1 (RwP_sort (ns := R ++ C2) (fun y hy => by
    rcases List.mem_append.1 hy with g | g
    · exact nR y g
    · exact mM2 y (sC2.subset g)) (by simp; omega))
  wp_walk using it78, so1, it13, vlR, sl1, va1, vSorted_strs, sl2, va2
  exact ⟨by have := hL.2; omega, by have := q1.2; omega, _, rfl, q2.1, by have := q2.2; omega⟩
theorem vIndex_strs {l : List Str} {z : Str} {j : Nat} (h : l.findIdx? (fun y => decide (y = z)) = some j) : vIndex (.list (l.map .str)) (.str z) = some (.int j) := by
  show (if fine (.str z) = true ∧ fine (.list (l.map .str)) = true then ((l.map PyData.str).findIdx? fun y => PyData.eqv y (.str z)).map fun j => PyData.int (j : Nat) else none) = _
  rw [if_pos ⟨rfl, fine_strL l⟩, List.findIdx?_map]
  have : ((fun y => PyData.eqv y (.str z)) ∘ PyData.str) = fun y => decide (y = z) := by
    funext y
    exact eqv_str y z
  rw [this, h]
  rfl
def PapS (p : D) : Prop := bpS 1001 38 p ∧ szD p ≤ 100000
theorem papT {l : List D} (h : ∀ x ∈ l, bpS 1001 37 x) (hs : szDs l ≤ 90000) : PapS (.tuple l) := ⟨h, by simp only [szD]; omega⟩
theorem pap_of_rw {w : Str} {x : D} (hw : w.length ≤ 1001) (h : RwP x) : PapS (.tuple [.str w, x]) := by
  refine papT (fun y hy => ?_) (by have := h.2; simp only [szDs, szD]; omega)
  simp only [List.mem_cons, List.not_mem_nil, or_false] at hy
  rcases hy with rfl | rfl
  · exact hw
  · exact h.1
abbrev Sz := List (Str × Nat)
def lookS (S : Sz) (z : Str) : Option Nat := (S.find? fun p => decide (p.1 = z)).map (·.2)
/-- the chain that the program takes: the first grant each time -/
def gre (G : Gs) (e : Str) (S : Sz) : Nat → Str → List Str
  | 0, _ => []
  | n + 1, h => match G.find? fun p => srv e p && (decide (p.2.g = h) && decide (lookS S p.2.t = some n)) with
    | some p => p.1 :: gre G e S n p.2.t
    | none => []
def rndS (e : Str) (n : Nat) (G : Gs) (S : Sz) : Sz := G.foldl (fun S p => if srv e p = true ∧ lookS S p.2.t = some n ∧ lookS S p.2.g = none then S ++ [(p.2.g, n + 1)] else S) S
def szs (G : Gs) (e hd : Str) : Nat → Sz
  | 0 => [(hd, 0)]
  | n + 1 => rndS e n G (szs G e hd n)
def sizes (G : Gs) (e hd : Str) : Sz := szs G e hd G.length
def tpS (w : List Str) : D := .tuple (w.map .str)
abbrev RWs := List (Str × List Str)
/-- what the search keeps: k done, all beyond of depth D or D + 1 -/
structure BI (G : Gs) (e hd : Str) (S : Sz) (m k D : Nat) (R : RWs) : Prop where
  low : ∀ q ∈ R, ∀ s, lookS S q.1 = some s → m ≤ q.2.length + s
  dep : ∀ q ∈ R.drop k, q.2.length = D ∨ q.2.length = D + 1
  old : ∀ q ∈ R.take k, q.2.length ≤ D
  nd : (R.map Prod.fst).Nodup
def Srt (Q : RWs) : Prop := Q.Pairwise fun a b => a.2.length ≤ b.2.length
/-- sizes never fall by more than one along a grant -/
structure SzOk (G : Gs) (e hd : Str) (S : Sz) : Prop where
  h0 : lookS S hd = some 0
  z0 : ∀ x, lookS S x = some 0 → x = hd
  pr : ∀ x s, lookS S x = some (s + 1) → ∃ p ∈ G, srv e p = true ∧ p.2.g = x ∧ lookS S p.2.t = some s
  st : ∀ p ∈ G, srv e p = true → ∀ t, lookS S p.2.t = some t → ∃ s, lookS S p.2.g = some s ∧ s ≤ t + 1
def stepW (e x : Str) (w : List Str) (G : Gs) (R : RWs) : RWs := G.foldl (fun R p => if srv e p = true ∧ p.2.g = x ∧ p.2.t ∉ R.map Prod.fst then R ++ [(p.2.t, w ++ [p.1])] else R) R
def bfsW (G : Gs) (e : Str) : Nat → Nat → RWs → RWs
  | 0, _, R => R
  | n + 1, k, R => match R[k]? with
    | some x => bfsW G e n (k + 1) (stepW e x.1 x.2 G R)
    | none => R
theorem bfsW_some {G : Gs} {e : Str} {n k : Nat} {R : RWs} {x : Str × List Str} (h : R[k]? = some x) : bfsW G e (n + 1) k R = bfsW G e n (k + 1) (stepW e x.1 x.2 G R) := by rw [bfsW, h]
theorem bfsW_stop {G : Gs} {e : Str} {n k : Nat} {R : RWs} (h : R.length ≤ k) : bfsW G e n k R = R := by
  cases n with
  | zero => rfl
  | succ n => rw [bfsW, List.getElem?_eq_none h]
theorem stepW_cons (e x : Str) (w : List Str) (p : Str × Gr) (G : Gs) (R : RWs) : stepW e x w (p :: G) R = stepW e x w G (if srv e p = true ∧ p.2.g = x ∧ p.2.t ∉ R.map Prod.fst then R ++ [(p.2.t, w ++ [p.1])] else R) := rfl
/-- what a step adds -/
theorem stepW_new (e x : Str) (w : List Str) : ∀ (G : Gs) (R : RWs), ∃ N : RWs, stepW e x w G R = R ++ N ∧ (∀ q ∈ N, q.2.length = w.length + 1 ∧ ∃ p ∈ G, srv e p = true ∧ p.2.g = x ∧ p.2.t = q.1)
  | [], R => ⟨[], by simp [stepW], fun q hq => by cases hq⟩
  | p :: G, R => by
    rw [stepW_cons]
    split
    · rename_i hc
      obtain ⟨N, h1, h2⟩ := stepW_new e x w G (R ++ [(p.2.t, w ++ [p.1])])
      refine ⟨(p.2.t, w ++ [p.1]) :: N, by rw [h1, List.append_assoc]; rfl, fun q hq => ?_⟩
      rcases List.mem_cons.1 hq with rfl | hq
      · exact ⟨by simp, p, by simp, hc.1, hc.2.1, rfl⟩
      · obtain ⟨g1, q', g2, g3⟩ := h2 q hq
        exact ⟨g1, q', by simp [g2], g3⟩
    · obtain ⟨N, h1, h2⟩ := stepW_new e x w G R
      refine ⟨N, h1, fun q hq => ?_⟩
      obtain ⟨g1, q', g2, g3⟩ := h2 q hq
      exact ⟨g1, q', by simp [g2], g3⟩
theorem bfsW_mem {G : Gs} {e : Str} {q : Str × List Str} : ∀ (n k : Nat) (R : RWs), q ∈ R → q ∈ bfsW G e n k R
  | 0, k, R, h => h
  | n + 1, k, R, h => by
    cases hx : R[k]? with
    | some x =>
      rw [bfsW_some hx]
      obtain ⟨N, hN, _⟩ := stepW_new e x.1 x.2 G R
      exact bfsW_mem n (k + 1) _ (by rw [hN]; exact List.mem_append_left _ h)
    | none => rw [bfsW_stop (List.getElem?_eq_none_iff.1 hx)]; exact h
/-- an entry on a shortest way -/
def good (S : Sz) (m : Nat) (q : Str × List Str) : Bool := match lookS S q.1 with
  | some s => decide (q.2.length + s = m)
  | none => false
/-- the first good entry of depth D + 1, else of depth D -/
def fst2 (S : Sz) (m D : Nat) (Q : RWs) : Option (Str × List Str) := ((Q.filter fun q => good S m q && decide (q.2.length = D + 1)) ++ (Q.filter fun q => good S m q && decide (q.2.length = D))).head?
theorem bi_up {G : Gs} {e hd : Str} {S : Sz} {m k D : Nat} {R : RWs} {x : Str × List Str} (h : BI G e hd S m k D R) (hx : R[k]? = some x) (hD : x.2.length = D + 1) (hs : Srt (R.drop k)) : BI G e hd S m k (D + 1) R ∧ fst2 S m (D + 1) (R.drop k) = fst2 S m D (R.drop k) := by
  obtain ⟨hk, hxe⟩ := List.getElem?_eq_some_iff.1 hx
  have hdr : R.drop k = x :: R.drop (k + 1) := by rw [List.drop_eq_getElem_cons hk, hxe]
  have all : ∀ q ∈ R.drop k, q.2.length = D + 1 := fun q hq => by
    have hd := h.dep q hq
    rw [hdr] at hq hs
    rcases List.mem_cons.1 hq with rfl | hq
    · exact hD
    · have := (List.pairwise_cons.1 hs).1 q hq
      rcases hd with g | g <;> omega
  refine ⟨⟨h.low, fun q hq => .inl (all q hq), fun q hq => Nat.le_succ_of_le (h.old q hq), h.nd⟩, ?_⟩
  unfold fst2
  have z1 : ((R.drop k).filter fun q => good S m q && decide (q.2.length = D + 1 + 1)) = [] := List.filter_eq_nil_iff.2 fun q hq hc => by
    rw [Bool.and_eq_true, decide_eq_true_eq] at hc
    have := all q hq
    omega
  have z2 : ((R.drop k).filter fun q => good S m q && decide (q.2.length = D)) = [] := List.filter_eq_nil_iff.2 fun q hq hc => by
    rw [Bool.and_eq_true, decide_eq_true_eq] at hc
    have := all q hq
    omega
  rw [z1, z2, List.nil_append, List.append_nil]
theorem srt_step {G : Gs} {e : Str} {k D : Nat} {R : RWs} {x : Str × List Str} (hx : R[k]? = some x) (hD : x.2.length = D) (hs : Srt (R.drop k)) (hdep : ∀ q ∈ R.drop k, q.2.length = D ∨ q.2.length = D + 1) : Srt ((stepW e x.1 x.2 G R).drop (k + 1)) := by
  obtain ⟨N, hN, hNq⟩ := stepW_new e x.1 x.2 G R
  obtain ⟨hk, hxe⟩ := List.getElem?_eq_some_iff.1 hx
  have hdr : R.drop k = x :: R.drop (k + 1) := by rw [List.drop_eq_getElem_cons hk, hxe]
  rw [hN, List.drop_append_of_le_length (by omega)]
  rw [hdr] at hs hdep
  refine List.pairwise_append.2 ⟨(List.pairwise_cons.1 hs).2, ?_, fun a ha b hb => ?_⟩
  · refine List.Pairwise.imp_of_mem (R := fun _ _ => True) (fun {a b} ha hb _ => ?_) (List.pairwise_of_forall fun _ _ => trivial)
    rw [(hNq a ha).1, (hNq b hb).1]; omega
  · rw [(hNq b hb).1]
    rcases hdep a (by simp [ha]) with g | g <;> omega
theorem stepW_fst (e x : Str) (w : List Str) : ∀ (G : Gs) (R : RWs), (stepW e x w G R).map Prod.fst = stepR e x G (R.map Prod.fst)
  | [], R => rfl
  | p :: G, R => by
    rw [stepW_cons, stepR_cons, stepW_fst e x w G]
    congr 1
    split
    · rw [List.map_append]; rfl
    · rfl
theorem good_iff {S : Sz} {m : Nat} {q : Str × List Str} : good S m q = true ↔ ∃ s, lookS S q.1 = some s ∧ q.2.length + s = m := by
  unfold good
  cases h : lookS S q.1 with
  | none => simp
  | some s => simp
theorem good_len {S : Sz} {m : Nat} {q : Str × List Str} {s : Nat} (h : lookS S q.1 = some s) : good S m q = decide (q.2.length + s = m) := by
  unfold good; rw [h]
theorem gre_some {G : Gs} {e : Str} {S : Sz} {n : Nat} {h : Str} {p : Str × Gr} (hp : (G.find? fun p => srv e p && (decide (p.2.g = h) && decide (lookS S p.2.t = some n))) = some p) : gre G e S (n + 1) h = p.1 :: gre G e S n p.2.t := by
  rw [gre, hp]
theorem head_app {α : Type} {a b : List α} {x : α} (h : a.head? = some x) : (a ++ b).head? = some x := by
  cases a with
  | nil => cases h
  | cons y a => exact h
/-- the first that a step adds with a property of the hand, where no hand known has it -/
theorem stepW_first (e x : Str) (w : List Str) (c : Str → Bool) : ∀ (G : Gs) (R N : RWs), stepW e x w G R = R ++ N → (∀ q ∈ R, c q.1 = true → False) → (N.filter fun q => c q.1).head? = (G.find? fun p => srv e p && (decide (p.2.g = x) && c p.2.t)).map fun p => (p.2.t, w ++ [p.1])
  | [], R, N, h, hR => by
    have : N = [] := by
      have h : R = R ++ N := h
      exact (List.self_eq_append_right.1 h)
    rw [this]; rfl
  | p :: G, R, N, h, hR => by
    rw [stepW_cons] at h
    by_cases hc : srv e p = true ∧ p.2.g = x ∧ p.2.t ∉ R.map Prod.fst
    · rw [if_pos hc] at h
      obtain ⟨M, h1, _⟩ := stepW_new e x w G (R ++ [(p.2.t, w ++ [p.1])])
      have hN : N = (p.2.t, w ++ [p.1]) :: M := by
        rw [h1, List.append_assoc] at h
        exact (List.append_cancel_left h).symm
      subst hN
      cases hcp : c p.2.t with
      | true =>
        rw [List.filter_cons_of_pos (by exact hcp), List.find?_cons_of_pos (by simp [hc.1, hc.2.1, hcp])]
        rfl
      | false =>
        rw [List.filter_cons_of_neg (by simp [hcp]), List.find?_cons_of_neg (by simp [hcp])]
        refine stepW_first e x w c G _ M h1 fun q hq hcq => ?_
        rcases List.mem_append.1 hq with g | g
        · exact hR q g hcq
        · rw [List.mem_singleton.1 g] at hcq
          rw [hcp] at hcq; cases hcq
    · rw [if_neg hc] at h
      have : (srv e p && (decide (p.2.g = x) && c p.2.t)) = false := by
        cases h1 : srv e p with
        | false => rfl
        | true =>
          by_cases h2 : p.2.g = x
          · have h3 : p.2.t ∈ R.map Prod.fst := Classical.byContradiction fun h3 => hc ⟨h1, h2, h3⟩
            obtain ⟨q, hq, e2⟩ := List.mem_map.1 h3
            have : c p.2.t = false := Bool.eq_false_iff.2 fun h4 => hR q hq (by rw [e2]; exact h4)
            simp [this]
          · simp [h2]
      rw [List.find?_cons_of_neg (by rw [this]; simp)]
      exact stepW_first e x w c G R N h hR
/-- one step -/
theorem BI.step {G : Gs} {e hd : Str} {S : Sz} (hS : SzOk G e hd S) {m k D : Nat} {R : RWs} {x : Str × List Str} (h : BI G e hd S m k D R) (hx : R[k]? = some x) (hD : x.2.length = D) {P : List Str} {y : Str × List Str} {t : Nat}
    (hf : fst2 S m D (R.drop k) = some y) (hy : lookS S y.1 = some t) (hP : y.2 ++ gre G e S t y.1 = P) (hne : ¬ (y = x ∧ t = 0)) :
    BI G e hd S m (k + 1) D (stepW e x.1 x.2 G R) ∧ ∃ y' t', fst2 S m D ((stepW e x.1 x.2 G R).drop (k + 1)) = some y' ∧ lookS S y'.1 = some t' ∧ y'.2 ++ gre G e S t' y'.1 = P := by
  obtain ⟨N, hN, hNq⟩ := stepW_new e x.1 x.2 G R
  obtain ⟨hk, hxe⟩ := List.getElem?_eq_some_iff.1 hx
  have hdr : R.drop k = x :: R.drop (k + 1) := by rw [List.drop_eq_getElem_cons hk, hxe]
  have hxm : x ∈ R := by rw [← hxe]; exact List.getElem_mem hk
  have hdr2 : (R ++ N).drop (k + 1) = R.drop (k + 1) ++ N := by rw [List.drop_append_of_le_length (by omega)]
  have lowN : ∀ q ∈ N, ∀ s, lookS S q.1 = some s → m ≤ q.2.length + s := fun q hq s hs => by
    obtain ⟨g1, p, g2, g3, g4, g5⟩ := hNq q hq
    rw [← g5] at hs
    obtain ⟨s2, g6, g7⟩ := hS.st p g2 g3 s hs
    rw [g4] at g6
    have := h.low x hxm s2 g6
    omega
  refine ⟨⟨fun q hq => ?_, fun q hq => ?_, fun q hq => ?_, ?_⟩, ?_⟩
  · rw [hN] at hq
    rcases List.mem_append.1 hq with g | g
    · exact h.low q g
    · exact lowN q g
  · rw [hN, hdr2] at hq
    rcases List.mem_append.1 hq with g | g
    · exact h.dep q (by rw [hdr]; simp [g])
    · exact .inr (by rw [(hNq q g).1, hD])
  · rw [hN, List.take_append_of_le_length (by omega), List.take_add_one, List.getElem?_eq_getElem hk, hxe] at hq
    rcases List.mem_append.1 hq with g | g
    · exact h.old q g
    · have : q = x := by simpa using g
      rw [this]; omega
  · rw [stepW_fst]; exact stepR_nodup e x.1 G _ h.nd
  rw [hN, hdr2]
  unfold fst2 at hf ⊢
  rw [hdr] at hf
  simp only [List.filter_append]
  -- x is not of depth D + 1
  rw [List.filter_cons_of_neg (by rw [hD]; simp)] at hf
  obtain ⟨A, hA⟩ : ∃ A, A = (R.drop (k + 1)).filter fun q => good S m q && decide (q.2.length = D + 1) := ⟨_, rfl⟩
  rw [← hA] at hf ⊢
  cases A with
  | cons a A =>
    have : y = a := by
      have hf : some a = some y := hf
      cases hf; rfl
    subst this
    exact ⟨y, t, rfl, hy, hP⟩
  | nil =>
    rw [List.nil_append] at hf ⊢
    cases hg : good S m x with
    | false =>
      rw [List.filter_cons_of_neg (by rw [hg]; simp)] at hf
      have hN0 : (N.filter fun q => good S m q && decide (q.2.length = D + 1)) = [] := by
        refine List.filter_eq_nil_iff.2 fun q hq hc => ?_
        rw [Bool.and_eq_true] at hc
        obtain ⟨s, g6, g7⟩ := good_iff.1 hc.1
        obtain ⟨g1, p, g2, g3, g4, g5⟩ := hNq q hq
        rw [← g5] at g6
        obtain ⟨s2, g8, g9⟩ := hS.st p g2 g3 s g6
        rw [g4] at g8
        have := h.low x hxm s2 g8
        have hg' : ¬ x.2.length + s2 = m := by
          rw [good_len g8] at hg
          exact of_decide_eq_false hg
        omega
      rw [hN0, List.nil_append]
      exact ⟨y, t, head_app hf, hy, hP⟩
    | true =>
      rw [List.filter_cons_of_pos (by rw [hg, hD]; simp)] at hf
      have : x = y := by
        have hf : some x = some y := hf
        cases hf; rfl
      subst this
      obtain ⟨s, g1, g2⟩ := good_iff.1 hg
      rw [hy] at g1
      cases g1
      cases t with
      | zero => exact (hne ⟨rfl, rfl⟩).elim
      | succ t =>
        obtain ⟨p0, q1, q2, q3, q4⟩ := hS.pr x.1 t hy
        cases hfi : G.find? fun p => srv e p && (decide (p.2.g = x.1) && decide (lookS S p.2.t = some t)) with
        | none => exact (List.find?_eq_none.1 hfi p0 q1 (by simp [q2, q3, q4])).elim
        | some p =>
          have noR : ∀ q ∈ R, decide (lookS S q.1 = some t) = true → False := fun q hq hc => by
            have hc := of_decide_eq_true hc
            have l1 := h.low q hq t hc
            have l2 : q.2.length ≤ D + 1 := by
              rw [← List.take_append_drop k R] at hq
              rcases List.mem_append.1 hq with g | g
              · have := h.old q g; omega
              · rcases h.dep q g with g | g <;> omega
            have l3 : q.2.length = D + 1 := by omega
            have hq2 : q ∈ R.drop (k + 1) := by
              rw [← List.take_append_drop k R, hdr] at hq
              rcases List.mem_append.1 hq with g | g
              · have := h.old q g; omega
              · rcases List.mem_cons.1 g with g | g
                · rw [g] at l3; omega
                · exact g
            have : q ∈ (R.drop (k + 1)).filter fun q => good S m q && decide (q.2.length = D + 1) := List.mem_filter.2 ⟨hq2, by rw [good_len hc, l3]; simp; omega⟩
            rw [← hA] at this
            cases this
          have hfst := stepW_first e x.1 x.2 (fun z => decide (lookS S z = some t)) G R N hN noR
          rw [hfi] at hfst
          have e1 : (N.filter fun q => good S m q && decide (q.2.length = D + 1)) = N.filter fun q => decide (lookS S q.1 = some t) := by
            refine List.filter_congr fun q hq => ?_
            have l1 : q.2.length = D + 1 := by rw [(hNq q hq).1, hD]
            rw [decide_eq_true l1, Bool.and_true]
            refine Bool.eq_iff_iff.2 ?_
            rw [good_iff, decide_eq_true_eq]
            constructor
            · rintro ⟨s, k1, k2⟩
              rw [k1]; congr 1; omega
            · intro k1
              exact ⟨t, k1, by omega⟩
          rw [e1]
          have hp := List.find?_some hfi
          simp only [Bool.and_eq_true, decide_eq_true_eq] at hp
          refine ⟨(p.2.t, x.2 ++ [p.1]), t, head_app hfst, hp.2.2, ?_⟩
          rw [← hP, gre_some hfi, List.append_assoc]
          rfl
theorem bfsW_way {G : Gs} {e hd : Str} {S : Sz} (hS : SzOk G e hd S) {m : Nat} {P : List Str} : ∀ (n k D : Nat) (R : RWs) (y : Str × List Str) (t : Nat), BI G e hd S m k D R → Srt (R.drop k) → RI G e k (R.map Prod.fst) → G.length + 1 ≤ k + n → fst2 S m D (R.drop k) = some y → lookS S y.1 = some t → y.2 ++ gre G e S t y.1 = P → (hd, P) ∈ bfsW G e n k R
  | 0, k, D, R, y, t, h, hs, hr, hn, hf, hy, hP => by
    have := hr.len
    rw [List.length_map] at this
    rw [List.drop_of_length_le (by omega)] at hf
    cases hf
  | n + 1, k, D, R, y, t, h, hs, hr, hn, hf, hy, hP => by
    cases hx : R[k]? with
    | none =>
      rw [List.drop_of_length_le (List.getElem?_eq_none_iff.1 hx)] at hf
      cases hf
    | some x =>
      have hxd : x ∈ R.drop k := by
        obtain ⟨hk, hxe⟩ := List.getElem?_eq_some_iff.1 hx
        rw [List.drop_eq_getElem_cons hk, hxe]; simp
      have key : ∀ D', BI G e hd S m k D' R → x.2.length = D' → fst2 S m D' (R.drop k) = some y → (hd, P) ∈ bfsW G e (n + 1) k R := fun D' h' hD' hf' => by
        by_cases hz : y = x ∧ t = 0
        · obtain ⟨rfl, rfl⟩ := hz
          have e1 := hS.z0 _ hy
          have e2 : y.2 = P := by rw [← hP]; simp [gre]
          refine bfsW_mem (n + 1) k R ?_
          rw [← e1, ← e2]
          exact List.mem_of_getElem? hx
        · obtain ⟨b1, y', t', c1, c2, c3⟩ := h'.step hS hx hD' hf' hy hP hz
          rw [bfsW_some hx]
          have hr2 : RI G e (k + 1) ((stepW e x.1 x.2 G R).map Prod.fst) := by
            rw [stepW_fst]
            exact hr.step (by rw [List.getElem?_map, hx]; rfl)
          exact bfsW_way hS n (k + 1) D' _ y' t' b1 (srt_step hx hD' hs h'.dep) hr2 (by omega) c1 c2 c3
      rcases h.dep x hxd with g | g
      · exact key D h g hf
      · obtain ⟨u1, u2⟩ := bi_up h hx g hs
        exact key (D + 1) u1 g (by rw [u2]; exact hf)
theorem keys_some {S : Sz} {x : Str} : x ∈ S.map Prod.fst ↔ (lookS S x).isSome := by
  unfold lookS
  rw [Option.isSome_map, List.find?_isSome]
  simp only [List.mem_map, decide_eq_true_eq]
theorem lookS_mem {S : Sz} {x : Str} {s : Nat} (h : lookS S x = some s) : (x, s) ∈ S := by
  unfold lookS at h
  cases hf : S.find? fun p => decide (p.1 = x) with
  | none => rw [hf] at h; cases h
  | some p =>
    rw [hf] at h
    cases h
    have := List.find?_some hf
    simp only [decide_eq_true_eq] at this
    rw [← this]
    exact List.mem_of_find?_eq_some hf
abbrev Dn := List (Str × List Int)
/-- inside round n + 1, D done -/
structure PI (G : Gs) (e hd : Str) (n : Nat) (Dn : Gs) (S : Sz) : Prop where
  nd : (S.map Prod.fst).Nodup
  h0 : lookS S hd = some 0
  z0 : ∀ x, lookS S x = some 0 → x = hd
  pr : ∀ x s, lookS S x = some (s + 1) → ∃ p ∈ G, srv e p = true ∧ p.2.g = x ∧ lookS S p.2.t = some s
  le : ∀ x s, lookS S x = some s → s ≤ n + 1
  cp : ∀ p ∈ G, srv e p = true → ∀ s, lookS S p.2.t = some s → s < n → (lookS S p.2.g).isSome
  cn : ∀ p ∈ Dn, srv e p = true → lookS S p.2.t = some n → (lookS S p.2.g).isSome
theorem rndS_cons (e : Str) (n : Nat) (p : Str × Gr) (G : Gs) (S : Sz) : rndS e n (p :: G) S = rndS e n G (if srv e p = true ∧ lookS S p.2.t = some n ∧ lookS S p.2.g = none then S ++ [(p.2.g, n + 1)] else S) := rfl
theorem lookS_cons (p : Str × Nat) (S : Sz) (z : Str) : lookS (p :: S) z = if p.1 = z then some p.2 else lookS S z := by
  unfold lookS
  by_cases h : p.1 = z
  · rw [List.find?_cons_of_pos (by simp [h]), if_pos h]; rfl
  · rw [List.find?_cons_of_neg (by simp [h]), if_neg h]
theorem lookS_app (x : Str) (n : Nat) (z : Str) : ∀ S : Sz, lookS (S ++ [(x, n)]) z = (match lookS S z with
    | some s => some s
    | none => if x = z then some n else none)
  | [] => by rw [List.nil_append, lookS_cons]; rfl
  | p :: S => by
    rw [List.cons_append, lookS_cons, lookS_cons]
    by_cases h : p.1 = z
    · rw [if_pos h, if_pos h]
    · rw [if_neg h, if_neg h]; exact lookS_app x n z S
theorem PI.step {G : Gs} {e hd : Str} {n : Nat} {Dn : Gs} {S : Sz} {p : Str × Gr} (hp : p ∈ G) (h : PI G e hd n Dn S) : PI G e hd n (Dn ++ [p]) (if srv e p = true ∧ lookS S p.2.t = some n ∧ lookS S p.2.g = none then S ++ [(p.2.g, n + 1)] else S) := by
  by_cases hc : srv e p = true ∧ lookS S p.2.t = some n ∧ lookS S p.2.g = none
  · rw [if_pos hc]
    obtain ⟨c1, c2, c3⟩ := hc
    have old : ∀ x s, lookS S x = some s → lookS (S ++ [(p.2.g, n + 1)]) x = some s := fun x s hx => by rw [lookS_app, hx]
    have new : ∀ x s, lookS (S ++ [(p.2.g, n + 1)]) x = some s → lookS S x = some s ∨ (x = p.2.g ∧ s = n + 1) := fun x s hx => by
      rw [lookS_app] at hx
      cases hq : lookS S x with
      | some t => rw [hq] at hx; exact .inl hx
      | none =>
        rw [hq] at hx
        have hx : (if p.2.g = x then some (n + 1) else none) = some s := hx
        split at hx
        · rename_i e1
          cases hx
          exact .inr ⟨e1.symm, rfl⟩
        · cases hx
    have oldS : ∀ x, (lookS S x).isSome → (lookS (S ++ [(p.2.g, n + 1)]) x).isSome := fun x hx => by
      obtain ⟨s, hs⟩ := Option.isSome_iff_exists.1 hx
      rw [old x s hs]; rfl
    refine ⟨?_, old _ _ h.h0, fun x hx => ?_, fun x s hx => ?_, fun x s hx => ?_, fun q hq h1 s hs hl => ?_, fun q hq h1 hs => ?_⟩
    · rw [List.map_append]
      exact nodup_snoc.2 ⟨h.nd, fun hm => by rw [keys_some, c3] at hm; cases hm⟩
    · rcases new x 0 hx with g | ⟨_, g⟩
      · exact h.z0 x g
      · omega
    · rcases new x _ hx with g | ⟨g1, g2⟩
      · obtain ⟨q, q1, q2, q3, q4⟩ := h.pr x s g
        exact ⟨q, q1, q2, q3, old _ _ q4⟩
      · have : s = n := by omega
        subst this
        exact ⟨p, hp, c1, g1.symm, old _ _ c2⟩
    · rcases new x s hx with g | ⟨_, g⟩
      · exact h.le x s g
      · omega
    · rcases new _ s hs with g | ⟨_, g⟩
      · exact oldS _ (h.cp q hq h1 s g hl)
      · omega
    · rcases new _ n hs with g | ⟨_, g⟩
      · rcases List.mem_append.1 hq with hq | hq
        · exact oldS _ (h.cn q hq h1 g)
        · rw [List.mem_singleton.1 hq, lookS_app, c3]; simp
      · omega
  · rw [if_neg hc]
    refine ⟨h.nd, h.h0, h.z0, h.pr, h.le, h.cp, fun q hq h1 hs => ?_⟩
    rcases List.mem_append.1 hq with hq | hq
    · exact h.cn q hq h1 hs
    · rw [List.mem_singleton.1 hq] at h1 hs ⊢
      cases hq : lookS S p.2.g with
      | some t => rfl
      | none => exact (hc ⟨h1, hs, hq⟩).elim
theorem PI.all {G : Gs} {e hd : Str} {n : Nat} : ∀ (rest Dn : Gs) (S : Sz), Dn ++ rest = G → PI G e hd n Dn S → PI G e hd n G (rndS e n rest S)
  | [], Dn, S, hd', h => by
    rw [List.append_nil] at hd'
    subst hd'
    exact h
  | p :: rest, Dn, S, hd', h => by
    rw [rndS_cons]
    exact PI.all rest (Dn ++ [p]) _ (by rw [List.append_assoc]; exact hd') (h.step (by rw [← hd']; simp))
structure SI (G : Gs) (e hd : Str) (n : Nat) (S : Sz) : Prop where
  nd : (S.map Prod.fst).Nodup
  h0 : lookS S hd = some 0
  z0 : ∀ x, lookS S x = some 0 → x = hd
  pr : ∀ x s, lookS S x = some (s + 1) → ∃ p ∈ G, srv e p = true ∧ p.2.g = x ∧ lookS S p.2.t = some s
  le : ∀ x s, lookS S x = some s → s ≤ n
  cp : ∀ p ∈ G, srv e p = true → ∀ s, lookS S p.2.t = some s → s < n → (lookS S p.2.g).isSome
theorem szs_si (G : Gs) (e hd : Str) : ∀ n, SI G e hd n (szs G e hd n)
  | 0 => by
    have h1 : ∀ x s, lookS [(hd, 0)] x = some s → x = hd ∧ s = 0 := fun x s h => by
      rw [lookS_cons] at h
      split at h
      · rename_i g
        cases h
        exact ⟨g.symm, rfl⟩
      · cases h
    exact ⟨by simp [szs], by rw [szs, lookS_cons, if_pos rfl], fun x h => (h1 x 0 h).1, fun x s h => by have := (h1 x _ h).2; omega, fun x s h => by have := (h1 x _ h).2; omega, fun p hp _ s hs hl => by omega⟩
  | n + 1 => by
    have h := szs_si G e hd n
    have p0 : PI G e hd n [] (szs G e hd n) := ⟨h.nd, h.h0, h.z0, h.pr, fun x s hx => Nat.le_succ_of_le (h.le x s hx), h.cp, fun p hp => by cases hp⟩
    have p1 := PI.all G [] _ rfl p0
    refine ⟨p1.nd, p1.h0, p1.z0, p1.pr, p1.le, fun p hp h1 s hs hl => ?_⟩
    by_cases e1 : s = n
    · rw [e1] at hs
      exact p1.cn p hp h1 hs
    · exact p1.cp p hp h1 s hs (by omega)
theorem SI.down {G : Gs} {e hd : Str} {n : Nat} {S : Sz} (h : SI G e hd n S) : ∀ (s t : Nat), t ≤ s → ∀ x, lookS S x = some s → ∃ y, lookS S y = some t
  | 0, t, ht, x, hx => ⟨x, by rw [hx]; congr 1; omega⟩
  | s + 1, t, ht, x, hx => by
    by_cases e1 : t = s + 1
    · exact ⟨x, by rw [hx, e1]⟩
    · obtain ⟨p, _, _, _, h4⟩ := h.pr x s hx
      exact h.down s t (by omega) _ h4
theorem SI.keys {G : Gs} {e hd : Str} {n : Nat} {S : Sz} (h : SI G e hd n S) : ∀ x ∈ S.map Prod.fst, x ∈ hd :: G.map fun p => p.2.g := fun x hx => by
  obtain ⟨s, hs⟩ := Option.isSome_iff_exists.1 (keys_some.1 hx)
  cases s with
  | zero => rw [h.z0 x hs]; simp
  | succ s =>
    obtain ⟨p, h1, _, h3, _⟩ := h.pr x s hs
    exact List.mem_cons_of_mem _ (List.mem_map.2 ⟨p, h1, h3⟩)
theorem sizes_cl {G : Gs} {e hd : Str} {p : Str × Gr} (hp : p ∈ G) (h1 : srv e p = true) (h2 : (lookS (sizes G e hd) p.2.t).isSome) : (lookS (sizes G e hd) p.2.g).isSome := by
  have h := szs_si G e hd G.length
  obtain ⟨s, hs⟩ := Option.isSome_iff_exists.1 h2
  have hle := h.le _ s hs
  by_cases hl : s < G.length
  · exact h.cp p hp h1 s hs hl
  · have es : s = G.length := by omega
    have sub : ∀ t ∈ List.range (G.length + 1), t ∈ (sizes G e hd).map Prod.snd := fun t ht => by
      obtain ⟨y, hy⟩ := h.down s t (by have := List.mem_range.1 ht; omega) _ hs
      exact List.mem_map.2 ⟨_, lookS_mem hy, rfl⟩
    have len := len_le_of (List.nodup_range) sub
    rw [List.length_range, List.length_map] at len
    have pm := perm_of_sub _ _ h.nd h.keys (by simp only [List.length_cons, List.length_map]; exact len)
    exact keys_some.1 (pm.mem_iff.2 (List.mem_cons_of_mem _ (List.mem_map.2 ⟨p, hp, rfl⟩)))
theorem rnd_look (e : Str) (n : Nat) : ∀ (G : Gs) (S : Sz) (x : Str) (s : Nat), (lookS S x = some s → lookS (rndS e n G S) x = some s) ∧ (lookS (rndS e n G S) x = some s → lookS S x = some s ∨ s = n + 1)
  | [], S, x, s => ⟨id, .inl⟩
  | p :: G, S, x, s => by
    rw [rndS_cons]
    split
    · rename_i hc
      obtain ⟨h1, h2⟩ := rnd_look e n G (S ++ [(p.2.g, n + 1)]) x s
      refine ⟨fun h => h1 (by rw [lookS_app, h]), fun h => ?_⟩
      rcases h2 h with g | g
      · rw [lookS_app] at g
        cases hq : lookS S x with
        | some t => rw [hq] at g; exact .inl g
        | none =>
          rw [hq] at g
          have g : (if p.2.g = x then some (n + 1) else none) = some s := g
          split at g
          · cases g; exact .inr rfl
          · cases g
      · exact .inr g
    · exact rnd_look e n G S x s
theorem szs_st (G : Gs) (e hd : Str) : ∀ n, ∀ p ∈ G, srv e p = true → ∀ s, lookS (szs G e hd n) p.2.t = some s → s < n → ∃ s', lookS (szs G e hd n) p.2.g = some s' ∧ s' ≤ s + 1
  | 0, p, hp, h1, s, hs, hl => by omega
  | n + 1, p, hp, h1, s, hs, hl => by
    rcases (rnd_look e n G (szs G e hd n) p.2.t s).2 hs with g | g
    · by_cases hn : s < n
      · obtain ⟨s', k1, k2⟩ := szs_st G e hd n p hp h1 s g hn
        exact ⟨s', (rnd_look e n G (szs G e hd n) p.2.g s').1 k1, k2⟩
      · have si := szs_si G e hd (n + 1)
        obtain ⟨s', hs'⟩ := Option.isSome_iff_exists.1 (si.cp p hp h1 s hs hl)
        exact ⟨s', hs', by have := si.le _ _ hs'; omega⟩
    · omega
theorem sizes_ok (G : Gs) (e hd : Str) : SzOk G e hd (sizes G e hd) := by
  have si := szs_si G e hd G.length
  refine ⟨si.h0, si.z0, si.pr, fun p hp h1 t ht => ?_⟩
  obtain ⟨s', hs'⟩ := Option.isSome_iff_exists.1 (sizes_cl hp h1 (by rw [ht]; rfl))
  by_cases hl : t < G.length
  · obtain ⟨s2, k1, k2⟩ := szs_st G e hd G.length p hp h1 t ht hl
    exact ⟨s2, k1, k2⟩
  · exact ⟨s', hs', by have := si.le _ _ hs'; omega⟩
def ways (G : Gs) (e : Str) : RWs := bfsW G e (G.length + 1) 0 [(mst, [])]
theorem way_is {G : Gs} {e hd : Str} {m : Nat} (hm : lookS (sizes G e hd) mst = some m) : (hd, gre G e (sizes G e hd) m mst) ∈ ways G e := by
  refine bfsW_way (m := m) (sizes_ok G e hd) (G.length + 1) 0 0 [(mst, [])] (mst, []) m ⟨fun q hq s hs => ?_, fun q hq => ?_, fun q hq => ?_, by simp⟩ ?_ (RI.start G e) (by omega) ?_ hm (by simp)
  · rw [List.mem_singleton.1 hq] at hs ⊢
    have hs : lookS (sizes G e hd) mst = some s := hs
    rw [hm] at hs
    cases hs
    simp
  · have hq : q ∈ [(mst, ([] : List Str))] := hq
    rw [List.mem_singleton.1 hq]; exact .inl rfl
  · cases hq
  · exact List.pairwise_singleton _ _
  · have hg : good (sizes G e hd) m (mst, []) = true := good_iff.2 ⟨m, hm, by simp⟩
    unfold fst2
    show (([(mst, ([] : List Str))].filter _) ++ ([(mst, ([] : List Str))].filter _)).head? = _
    rw [List.filter_cons_of_neg (by simp), List.filter_cons_of_pos (by rw [hg]; rfl)]
    rfl
theorem bfsW_fst (G : Gs) (e : Str) : ∀ (n k : Nat) (R : RWs), (bfsW G e n k R).map Prod.fst = bfs G e n k (R.map Prod.fst)
  | 0, k, R => rfl
  | n + 1, k, R => by
    cases h : R[k]? with
    | some x =>
      have h2 : (R.map Prod.fst)[k]? = some x.1 := by rw [List.getElem?_map, h]; rfl
      rw [bfsW_some h, bfs_some h2, bfsW_fst G e n (k + 1), stepW_fst]
    | none =>
      have hk := List.getElem?_eq_none_iff.1 h
      rw [bfsW_stop hk, bfs_stop (by rw [List.length_map]; exact hk)]
theorem ways_fst (G : Gs) (e : Str) : (ways G e).map Prod.fst = reach G e := bfsW_fst G e _ _ _
def wysD (Q : RWs) : D := .list (Q.map fun q => tpS q.2)
/-- the due paper -/
theorem due_is {G : Gs} {e hd : Str} {m : Nat} (hm : lookS (sizes G e hd) mst = some m) : ∃ j, (reach G e).findIdx? (fun y => decide (y = hd)) = some j ∧ vIdx (wysD (ways G e)) (.int (j : Nat)) = some (tpS (gre G e (sizes G e hd) m mst)) := by
  have hw := way_is hm
  have nd := (reach_ri G e).nd
  have lR := (reach_ri G e).len
  have hf := ways_fst G e
  obtain ⟨j, hj, ej⟩ := List.mem_iff_getElem.1 hw
  have hjl : j < (reach G e).length := by rw [← hf, List.length_map]; exact hj
  have hje : (reach G e)[j] = hd := by
    have : ((ways G e).map Prod.fst)[j]'(by rw [List.length_map]; exact hj) = hd := by rw [List.getElem_map, ej]
    simpa [hf] using this
  refine ⟨j, ?_, ?_⟩
  · rw [List.findIdx?_eq_some_iff_getElem]
    refine ⟨hjl, by simp [hje], fun i hi => ?_⟩
    simp only [decide_eq_true_eq]
    intro hc
    have := (List.getElem_inj (h₀ := by omega) (h₁ := hjl) nd).1 (hc.trans hje.symm)
    omega
  · unfold wysD
    rw [vIdx_list (by omega) (by rw [List.length_map]; omega)]
    simp [hj, ej]
/-- without truth values -/
def bpI (m : Nat) : Nat → D → Prop
  | 0, _ => False
  | _ + 1, .none => True
  | _ + 1, .int _ => True
  | _ + 1, .str z => z.length ≤ m
  | n + 1, .tuple l => ∀ x ∈ l, bpI m n x
  | _ + 1, .bool _ => False
  | _ + 1, .list _ => False
  | _ + 1, .dict _ => False
theorem bpI_S {m : Nat} : ∀ {n : Nat} {d : D}, bpI m n d → bpS m n d
  | 0, _, h => h.elim
  | n + 1, d, h => by
    cases d with
    | str z => exact h
    | tuple l => exact fun x hx => bpI_S (h x hx)
    | none => trivial
    | int i => trivial
    | bool b => exact h.elim
    | list l => exact h.elim
    | dict l => exact h.elim
theorem bpS_mono {m m' : Nat} (hm : m ≤ m') : ∀ {n n' : Nat} {d : D}, n ≤ n' → bpS m n d → bpS m' n' d
  | 0, _, _, _, h => h.elim
  | n + 1, 0, _, hn, _ => by omega
  | n + 1, n' + 1, d, hn, h => by
    cases d with
    | str z => exact Nat.le_trans (show z.length ≤ m from h) hm
    | tuple l => exact fun x hx => bpS_mono hm (by omega) (h x hx)
    | none => trivial
    | bool b => trivial
    | int i => trivial
    | list l => exact h.elim
    | dict l => exact h.elim
theorem szD_pos (x : D) : 1 ≤ szD x := by
  cases x <;> simp [szD]
theorem szDs_len : ∀ l : List D, l.length ≤ szDs l
  | [] => Nat.le_refl _
  | x :: l => by have := szD_pos x; have := szDs_len l; simp [szDs]; omega
theorem szDs_mem {l : List D} {x : D} (h : x ∈ l) : szD x ≤ szDs l := by
  induction l with
  | nil => cases h
  | cons y l ih =>
    rcases List.mem_cons.1 h with rfl | h
    · simp [szDs]
    · have := ih h; simp [szDs]; omega
theorem bp_okS {m : Nat} : ∀ {n : Nat} {d : D}, bpS m n d → szD d ≤ 16777216 → okS n d
  | 0, _, h, _ => h.elim
  | n + 1, d, h, hs => by
    cases d with
    | str z => trivial
    | tuple l =>
      have hs : 1 + szDs l ≤ 16777216 := hs
      exact ⟨by have := szDs_len l; omega, fun x hx => bp_okS (h x hx) (by have := szDs_mem hx; omega)⟩
    | none => trivial
    | bool b => trivial
    | int i => trivial
    | list l => exact h.elim
    | dict l => exact h.elim
def lenB (v : D) (lo hi : Nat) : Bool := match v with
  | .tuple l => decide (lo ≤ l.length ∧ l.length ≤ hi)
  | _ => false
def nameB : D → Bool
  | .str z => nmB z
  | _ => false
def strOf : D → Str
  | .str z => z
  | _ => ⟨#[]⟩
def nmsOk (l : List D) : Bool := l.all nameB && decide (l.map strOf).Nodup
def nmsB (v : D) (lo hi : Nat) : Bool := lenB v lo hi && (match v with | .tuple l => nmsOk l | _ => false)
def lookG (G : Gs) (z : Str) : Option Gr := (G.find? fun p => decide (p.1 = z)).map (·.2)
def wkS (G : Gs) (e : Str) : Str → List Str → Option Str
  | h, [] => some h
  | h, z :: r => match lookG G z with
    | some x => if srv e (z, x) = true ∧ x.g = h then wkS G e x.t r else none
    | none => none
def chB (G : Gs) (e hd : Str) (v : D) : Bool := nmsB v 0 24 && (match v with | .tuple l => decide (wkS G e "master" (l.map strOf) = some hd) | _ => false)
theorem nameB_str {x : D} (h : nameB x = true) : ∃ z, x = .str z := by
  cases x with
  | str z => exact ⟨z, rfl⟩
  | _ => cases h
theorem nms_strs : ∀ {l : List D}, l.all nameB = true → l = (l.map strOf).map .str
  | [], _ => rfl
  | x :: l, h => by
    rw [List.all_cons, Bool.and_eq_true] at h
    obtain ⟨z, rfl⟩ := nameB_str h.1
    rw [List.map_cons, List.map_cons, ← nms_strs h.2]; rfl
theorem nmsB_tup {v : D} {lo hi : Nat} (h : nmsB v lo hi = true) : ∃ ns : List Str, v = .tuple (ns.map .str) ∧ lo ≤ ns.length ∧ ns.length ≤ hi ∧ ns.Nodup ∧ ∀ z ∈ ns, nmB z = true := by
  unfold nmsB at h
  rw [Bool.and_eq_true] at h
  obtain ⟨h1, h2⟩ := h
  cases v with
  | tuple l =>
    have h2 : nmsOk l = true := h2
    unfold nmsOk at h2
    rw [Bool.and_eq_true] at h2
    have e := nms_strs h2.1
    have hl : lo ≤ l.length ∧ l.length ≤ hi := of_decide_eq_true h1
    refine ⟨l.map strOf, by rw [← e], by rw [List.length_map]; exact hl.1, by rw [List.length_map]; exact hl.2, of_decide_eq_true h2.2, fun z hz => ?_⟩
    obtain ⟨x, hx, rfl⟩ := List.mem_map.1 hz
    have := List.all_eq_true.1 h2.1 x hx
    obtain ⟨y, rfl⟩ := nameB_str this
    exact this
  | _ => cases h2
theorem strT_bp {ns : List Str} {n : Nat} (h : ∀ z ∈ ns, z.length ≤ 1000) : bpI 1000 (n + 2) (.tuple (ns.map .str)) ∧ szD (.tuple (ns.map .str)) = 1 + ns.length := by
  refine ⟨fun x hx => ?_, ?_⟩
  · obtain ⟨z, hz, rfl⟩ := List.mem_map.1 hx
    exact h z hz
  · have := szDs_one PyData.str (fun _ => rfl) ns
    simp only [szD, this]
theorem ch_bp {G : Gs} {e hd : Str} {N : List Str} (h : chB G e hd (.tuple (N.map .str)) = true) (n : Nat) : bpI 1000 (n + 2) (.tuple (N.map .str)) ∧ szD (.tuple (N.map .str)) ≤ 26 := by
  unfold chB at h
  rw [Bool.and_eq_true] at h
  obtain ⟨ns, e1, _, h2, _, h3⟩ := nmsB_tup h.1
  have e1 : N = ns := by
    injection e1 with e1
    exact (List.map_inj_right fun x y h => by cases h; rfl).1 e1
  subst e1
  obtain ⟨g1, g2⟩ := strT_bp (ns := N) (n := n) fun z hz => Nat.le_trans (nm_len (h3 z hz)) (by decide)
  exact ⟨g1, by rw [g2]; omega⟩
def clP (G : Gs) (e : Str) : D := .tuple ((sortS (reach G e)).map .str)
theorem clP_bp {G : Gs} (hh : HdOk G) (hl : G.length ≤ 24) (e : Str) (n : Nat) : bpI 1000 (n + 2) (clP G e) ∧ szD (clP G e) ≤ 26 := by
  have pm := sortS_perm (reach G e)
  have ln := (reach_ri G e).len
  obtain ⟨h1, h2⟩ := strT_bp (ns := sortS (reach G e)) (n := n) fun z hz => Nat.le_trans (nm_len (reach_nm hh e z (pm.mem_iff.1 hz))) (by decide)
  refine ⟨h1, ?_⟩
  unfold clP
  rw [h2, pm.length_eq]
  omega
def digB : List Int → List Int → Prop
  | [], [] => True
  | x :: l, b :: bs => (0 ≤ x ∧ x < b) ∧ digB l bs
  | _, _ => False
theorem digB_cons {l bs : List Int} {b : Int} (h : digB l (b :: bs)) : ∃ x l', l = x :: l' ∧ 0 ≤ x ∧ x < b ∧ digB l' bs := by
  cases l with
  | nil => exact h.elim
  | cons x l => exact ⟨x, l, rfl, h.1.1, h.1.2, h.2⟩
theorem digB_nil {l : List Int} (h : digB l []) : l = [] := by
  cases l with
  | nil => rfl
  | cons x l => exact h.elim
def HN0 : List Str := [mst, "anna", "ben", "all", "m", "zz9", "hand", "h1", "h10", "h2", "make"]
theorem HN0_nm : HN0.all nmB = true := by decide +kernel
def HN1 : List Str := mst :: (List.range' 1 10).map fun k => repS "a" k
theorem repA_nm : ∀ k ∈ List.range' 1 10, nmL' (List.replicate k 97) = true := by decide +kernel
theorem HN1_nm : ∀ z ∈ HN1, nmB z = true := fun z hz => by
  rcases List.mem_cons.1 hz with rfl | hz
  · decide +kernel
  · obtain ⟨k, hk, rfl⟩ := List.mem_map.1 hz
    unfold nmB
    rw [repS_list, show (Str.ofString "a").cps.toList = [97] by decide]
    have : (List.replicate k [97]).flatten = List.replicate k 97 := by simp
    rw [this]
    exact repA_nm k hk
def hnd (c4 : Int) (c2 : Nat) : List Str := (if c4 = 1 then HN1 else HN0).take (2 + c2)
theorem hnd_nm (c4 : Int) (c2 : Nat) : ∀ z ∈ hnd c4 c2, nmB z = true := fun z hz => by
  have hz := List.mem_of_mem_take hz
  split at hz
  · exact HN1_nm z hz
  · exact List.all_eq_true.1 HN0_nm z hz
theorem strOf_map (a : List Str) : (a.map PyData.str).map strOf = a := by
  rw [List.map_map]
  exact List.map_id a
theorem chB_tup (G : Gs) (e hd : Str) (ns : List Str) : chB G e hd (.tuple (ns.map .str)) = (nmsB (.tuple (ns.map .str)) 0 24 && decide (wkS G e "master" ns = some hd)) := by
  unfold chB
  show (_ && decide (wkS G e "master" ((ns.map .str).map strOf) = some hd)) = _
  rw [strOf_map]
theorem grE_0 (x : Gr) : vIdx (grE x) (.int 0) = some (.str x.g) := rfl
theorem grE_1 (x : Gr) : vIdx (grE x) (.int 1) = some (.str x.t) := rfl
/-- a dict that has the names of a row -/
theorem keyIs_str (a b : Str) : keyIs (.str a) (.str b) = decide (a = b) := by
  show decide ((Sum.inr a : Key) = Sum.inr b) = _
  exact Bool.eq_iff_iff.2 (by simp)
theorem findP_names {zs : List Str} {z : Str} : (findP (zs.map fun z => (PyData.str z, PyData.bool true)) (.str z)).isSome = decide (z ∈ zs) := by
  unfold findP
  rw [Option.isSome_map]
  refine Bool.eq_iff_iff.2 ?_
  rw [decide_eq_true_eq, List.find?_isSome]
  constructor
  · rintro ⟨p, hp, h⟩
    obtain ⟨y, hy, rfl⟩ := List.mem_map.1 hp
    rw [keyIs_str] at h
    rw [← of_decide_eq_true h]
    exact hy
  · intro h
    exact ⟨_, List.mem_map.2 ⟨z, h, rfl⟩, by rw [keyIs_str]; simp⟩
theorem dig_list : (Str.ofString "0123456789").cps.toList = List.range' 48 10 := by decide +kernel
theorem in_dig (c : Nat) : vNotIn (.str ⟨#[c]⟩) (.str "0123456789") = some (.bool (!digC c)) := by
  show some (PyData.bool (!(decide (c ∈ (Str.ofString "0123456789").cps.toList)))) = _
  rw [dig_list]
  refine congrArg (fun b => some (PyData.bool (!b))) (Bool.eq_iff_iff.2 ?_)
  simp [digC, List.mem_range']
  constructor
  · rintro ⟨i, h1, rfl⟩; omega
  · intro h; exact ⟨c - 48, by omega, by omega⟩
theorem let_list : (Str.ofString "abcdefghijklmnopqrstuvwxyz").cps.toList = List.range' 97 26 := by decide +kernel
theorem in_let (c : Nat) : vNotIn (.str ⟨#[c]⟩) (.str "abcdefghijklmnopqrstuvwxyz") = some (.bool (!letC c)) := by
  show some (PyData.bool (!(decide (c ∈ (Str.ofString "abcdefghijklmnopqrstuvwxyz").cps.toList)))) = _
  rw [let_list]
  refine congrArg (fun b => some (PyData.bool (!b))) (Bool.eq_iff_iff.2 ?_)
  simp [letC, List.mem_range']
  constructor
  · rintro ⟨i, h1, rfl⟩; omega
  · intro h; exact ⟨c - 97, by omega, by omega⟩
theorem is_name_all (x : D) : d_is_name [x] = .ok (.bool (nameB x)) := by
  rw [d_is_name]
  refine run_eq ?_
  cases x with
  | str z =>
    show WS _ _ (fun v => v = .bool (nmL' z.cps.toList)) _ _
    obtain ⟨l, hl⟩ : ∃ l, l = z.cps.toList := ⟨_, rfl⟩
    have zl : z.length = l.length := by rw [hl]; simp [Str.length]
    have vl : vLen (.str z) = some (.int (l.length : Nat)) := by show some (PyData.int (z.length : Nat)) = _; rw [zl]
    have it : itemsD (.str z) = some (l.map fun c => .str ⟨#[c]⟩) := by rw [hl]; rfl
    rw [← hl]
    by_cases h : 1 ≤ l.length ∧ l.length ≤ 12
    · have h1 : (1 : Int) ≤ (l.length : Nat) := by omega
      have h2 : ((l.length : Nat) : Int) ≤ 12 := by omega
      cases hq : l with
      | nil => rw [hq] at h; simp at h
      | cons c r =>
        have v0 : vIdx (.str z) (.int 0) = some (.str ⟨#[c]⟩) := by
          show (L2.atI z.cps.toList ((0 : Nat) : Int)).map _ = _
          rw [← hl, hq, atI_nat' (by simp)]
          rfl
        rw [← hq]
        cases hc : letC c with
        | false =>
          wp_walk using vl, v0, in_let, hc, h1, h2
          simp [nmL', hq, hc]
        | true =>
          wp_walk using vl, v0, in_let, hc, h1, h2
          refine ws_all (fun c => .str ⟨#[c]⟩) (fun c => letC c || digC c) l (fun ρ => ∃ o, ρ = [some (.str z), o]) (by wp_walk using it) ⟨_, rfl⟩ ?_ ?_ ?_
          · rintro x hx _ ⟨o, rfl⟩
            refine ⟨_, rfl, ?_⟩
            wp_walk using in_let, in_dig
            cases letC x <;> cases digC x <;> simp
          · intro ha
            simp [nmL', ha]
          · rintro _ ⟨o, rfl⟩ ha
            wp_walk
            have : nmL' l = true := by
              unfold nmL'
              rw [ha, decide_eq_true h, hq]
              simp [hc]
            rw [this]
    · by_cases h1 : (1 : Int) ≤ (l.length : Nat)
      · have h2 : ¬ ((l.length : Nat) : Int) ≤ 12 := by omega
        wp_walk using vl, h1, h2
        simp [nmL', h]
      · wp_walk using vl, h1
        simp [nmL', h]
  | _ => wp_walk; rfl
theorem is_row_g (v : D) (lo hi : Nat) : d_is_row [v, .int lo, .int hi] = .ok (.bool (lenB v lo hi)) := by
  rw [d_is_row]
  refine run_eq ?_
  walk_at "ev"
  refine ws_back ?_ rfl
  cases v with
  | tuple l =>
    walk_at "ev"
    show _ = Res.ok (PyData.bool (decide (lo ≤ l.length ∧ l.length ≤ hi)))
    by_cases g : (lo : Int) ≤ l.length
    · by_cases g2 : (l.length : Int) ≤ hi
      · have : lo ≤ l.length ∧ l.length ≤ hi := by omega
        simp [this]
      · have : ¬ (lo ≤ l.length ∧ l.length ≤ hi) := by omega
        simp [g, g2, this]
    · have : ¬ (lo ≤ l.length ∧ l.length ≤ hi) := by omega
      simp [g, this]
  | _ => walk_at "evr"
theorem putP_names {zs : List Str} {z : Str} (h : z ∉ zs) : putP (zs.map fun z => (PyData.str z, PyData.bool true)) (.str z) (.bool true) = (zs ++ [z]).map fun z => (PyData.str z, PyData.bool true) := by
  unfold putP
  rw [if_neg]
  · rw [List.map_append]; rfl
  · intro hh
    obtain ⟨p, hp, e⟩ := List.any_eq_true.1 hh
    obtain ⟨y, hy, rfl⟩ := List.mem_map.1 hp
    rw [keyIs_str] at e
    rw [of_decide_eq_true e] at hy
    exact h hy
theorem is_names_g (v : D) (lo hi : Nat) (hh : hi ≤ 1000000) : d_is_names [v, .int lo, .int hi] = .ok (.bool (nmsB v lo hi)) := by
  rw [d_is_names]
  refine run_eq ?_
  have ir := is_row_g v lo hi
  cases h : lenB v lo hi with
  | false =>
    wp_walk using ir, h
    simp [nmsB, h]
  | true =>
    wp_walk using ir, h
    cases v with
    | tuple l =>
      have hl : lo ≤ l.length ∧ l.length ≤ hi := of_decide_eq_true h
      have e : nmsB (.tuple l) lo hi = nmsOk l := by unfold nmsB; rw [h, Bool.true_and]
      rw [e]
      refine ws_for (fun rest ρ => ∃ (a : List Str) (o : Option D), a.map .str ++ rest = l ∧ a.Nodup ∧ (∀ x ∈ a, nmB x = true) ∧ ρ = [some (.tuple l), some (.int lo), some (.int hi), some (.dict (a.map fun z => (.str z, .bool true))), o]) (by wp_walk) ⟨[], _, rfl, by simp, by simp, rfl⟩ ?_ ?_
      · rintro x rest _ ⟨a, o, ha, hn, hs, rfl⟩
        refine ⟨_, rfl, ?_⟩
        have isn := is_name_all x
        have al : a.length < 16777216 := by
          have : l.length = a.length + (rest.length + 1) := by rw [← ha]; simp
          omega
        cases hx : nameB x with
        | false =>
          wp_walk using isn, hx
          have : nmsOk l = false := by
            unfold nmsOk
            rw [Bool.and_eq_false_iff]
            left
            rw [List.all_eq_false]
            exact ⟨x, by rw [← ha]; simp, by rw [hx]; simp⟩
          rw [this]
        | true =>
          obtain ⟨z, rfl⟩ := nameB_str hx
          have vi : vInD (.str z) (.dict (a.map fun z => (.str z, .bool true))) = some (.bool (decide (z ∈ a))) := by
            rw [← findP_names]; rfl
          by_cases hz : z ∈ a
          · wp_walk using isn, hx, vi, hz
            have : nmsOk l = false := by
              unfold nmsOk
              rw [Bool.and_eq_false_iff]
              right
              refine decide_eq_false fun hd => ?_
              rw [← ha, List.map_append, strOf_map] at hd
              exact (List.nodup_append.1 hd).2.2 z hz z (by simp [strOf]) rfl
            rw [this]
          · wp_walk using isn, hx, vi, hz
            refine ⟨⟨rfl, by simpa using al⟩, ⟨a ++ [z], _, by rw [List.map_append, List.append_assoc]; exact ha, nodup_snoc.2 ⟨hn, hz⟩, fun y hy => ?_, by rw [putP_names hz]⟩⟩
            rcases List.mem_append.1 hy with g | g
            · exact hs y g
            · rw [List.mem_singleton.1 g]; exact hx
      · rintro _ ⟨a, o, ha, hn, hs, rfl⟩
        wp_walk
        have : nmsOk l = true := by
          rw [List.append_nil] at ha
          unfold nmsOk
          rw [Bool.and_eq_true]
          refine ⟨List.all_eq_true.2 fun y hy => ?_, decide_eq_true ?_⟩
          · rw [← ha] at hy
            obtain ⟨z, hz, rfl⟩ := List.mem_map.1 hy
            exact hs z hz
          · rw [← ha, strOf_map]
            exact hn
        rw [this]
    | _ => cases h
def lookKV (T : Tb) (j : Str) : Option D := (T.find? fun p => decide (p.1 = j)).map (·.2)
theorem look_gs (G : Gs) (z : Str) : lookKV (gsT G) z = (lookG G z).map grE := by
  unfold lookKV lookG gsT
  rw [List.find?_map, Option.map_map, Option.map_map]
  rfl
theorem grE_2 (x : Gr) : vIdx (grE x) (.int 2) = some (.str x.d) := rfl
theorem serves_eq (e : Str) (p : Str × Gr) : d_serves [grE p.2, .str e] = .ok (.bool (srv e p)) := by
  rw [d_serves]
  refine run_eq ?_
  unfold srv
  by_cases h : p.2.d = e
  · wp_walk using grE_2, h
    simp
  · wp_walk using grE_2, h
    simp
theorem kvE_1 (p : Str × D) : vIdx (kvE p) (.int 1) = some p.2 := rfl
theorem value_kv {T : Tb} {j : Str} {v : D} (h : lookKV T j = some v) (d : D) : d_value_of [tbE T, .str j, d] = .ok v := by
  rw [d_value_of]
  refine run_eq ?_
  wp_walk
  refine ws_find kvE (fun p => decide (p.1 = j)) T (fun ρ => ∃ o : Option D, ρ = [some (tbE T), some (.str j), some d, o]) (by wp_walk using items_tb) ⟨_, rfl⟩ ?_ ?_
  · rintro p hp _ ⟨o, rfl⟩
    refine ⟨_, rfl, fun hc hf => ?_, fun hc => ?_⟩
    · have hc := of_decide_eq_true hc
      wp_walk using kvE_0, kvE_1, hc
      unfold lookKV at h
      rw [hf] at h
      exact Option.some.inj h
    · have hc := of_decide_eq_false hc
      wp_walk using kvE_0, hc
      exact ⟨_, rfl⟩
  · rintro _ ⟨o, rfl⟩ hf
    unfold lookKV at h
    rw [hf] at h
    cases h
theorem value_kvN {T : Tb} {j : Str} (h : lookKV T j = none) (d : D) : d_value_of [tbE T, .str j, d] = .ok d := by
  rw [d_value_of]
  refine run_eq ?_
  wp_walk
  refine ws_find kvE (fun p => decide (p.1 = j)) T (fun ρ => ∃ o : Option D, ρ = [some (tbE T), some (.str j), some d, o]) (by wp_walk using items_tb) ⟨_, rfl⟩ ?_ ?_
  · rintro p hp _ ⟨o, rfl⟩
    refine ⟨_, rfl, fun hc hf => ?_, fun hc => ?_⟩
    · unfold lookKV at h
      rw [hf] at h
      cases h
    · have hc := of_decide_eq_false hc
      wp_walk using kvE_0, hc
      exact ⟨_, rfl⟩
  · rintro _ ⟨o, rfl⟩ hf
    wp_walk
theorem wkS_none {G : Gs} {e h z : Str} {r : List Str} (hz : lookG G z = none) : wkS G e h (z :: r) = none := by
  rw [wkS, hz]
theorem wkS_some {G : Gs} {e h z : Str} {r : List Str} {x : Gr} (hz : lookG G z = some x) : wkS G e h (z :: r) = if srv e (z, x) = true ∧ x.g = h then wkS G e x.t r else none := by
  rw [wkS, hz]
theorem is_chain_eq (G : Gs) (e hd : Str) (v : D) : d_is_chain [tbE (gsT G), .str hd, .str e, v] = .ok (.bool (chB G e hd v)) := by
  have ia := is_names_g v 0 24 (by decide)
  have i1 : ((0 : Nat) : Int) = 0 := rfl
  have i2 : ((24 : Nat) : Int) = 24 := rfl
  rw [i1, i2] at ia
  rw [d_is_chain]
  refine run_eq ?_
  cases ha : nmsB v 0 24 with
  | false =>
    wp_walk using ia, ha
    all_goals simp [chB, ha]
  | true =>
    obtain ⟨ns, rfl, l1, l2, nd, nn⟩ := nmsB_tup ha
    rw [chB_tup, ha, Bool.true_and]
    wp_walk using ia, ha
    refine ws_forE (fun z : Str => .str z) ns (fun rest ρ => ∃ (h : Str) (o5 o6 : Option D), ρ = [some (tbE (gsT G)), some (.str hd), some (.str e), some (.tuple (ns.map .str)), some (.str h), o5, o6] ∧ wkS G e "master" ns = wkS G e h rest) (by wp_walk) ⟨_, _, _, rfl, rfl⟩ ?_ ?_
    · rintro z rest _ ⟨h, o5, o6, rfl, hw⟩
      refine ⟨_, rfl, ?_⟩
      cases hz : lookG G z with
      | none =>
        have vo := value_kvN (T := gsT G) (j := z) (by rw [look_gs, hz]; rfl) .none
        rw [wkS_none hz] at hw
        wp_walk using vo
        rw [hw]; simp
      | some x =>
        have vo := value_kv (T := gsT G) (j := z) (v := grE x) (by rw [look_gs, hz]; rfl) .none
        have s1 := serves_eq e (z, x)
        have s1 : d_serves [grE x, .str e] = .ok (.bool (srv e (z, x))) := s1
        have inn : vIsN (grE x) .none = some (.bool false) := rfl
        rw [wkS_some hz] at hw
        cases hs : srv e (z, x) with
        | false =>
          rw [hs] at hw
          wp_walk using vo, inn, s1, hs
          rw [hw]; simp
        | true =>
          by_cases hg : x.g = h
          · rw [hs, if_pos ⟨rfl, hg⟩] at hw
            wp_walk using vo, inn, s1, hs, grE_0, hg, grE_1
            exact ⟨_, _, _, rfl, hw⟩
          · rw [hs, if_neg fun g => hg g.2] at hw
            wp_walk using vo, inn, s1, hs, grE_0, hg
            rw [hw]; simp
    · rintro _ ⟨h, o5, o6, rfl, hw⟩
      rw [hw]
      wp_walk
      show _ = PyData.bool (decide (some h = some hd))
      simp
def ascOk (l : List D) : Bool := nmsOk l && (List.range (l.length - 1)).all fun k => ltS (strOf (l.getD k .none)) (strOf (l.getD (k + 1) .none))
def ascB (v : D) (lo hi : Nat) : Bool := lenB v lo hi && (match v with | .tuple l => ascOk l | _ => false)
theorem ascB_tup {v : D} {lo hi : Nat} (h : ascB v lo hi = true) : ∃ ns : List Str, v = .tuple (ns.map .str) ∧ lo ≤ ns.length ∧ ns.length ≤ hi := by
  unfold ascB at h
  rw [Bool.and_eq_true] at h
  obtain ⟨h1, h2⟩ := h
  cases v with
  | tuple l =>
    have h2 : ascOk l = true := h2
    unfold ascOk nmsOk at h2
    rw [Bool.and_eq_true, Bool.and_eq_true] at h2
    have e := nms_strs h2.1.1
    have hl : lo ≤ l.length ∧ l.length ≤ hi := of_decide_eq_true h1
    exact ⟨l.map strOf, by rw [← e], by rw [List.length_map]; exact hl.1, by rw [List.length_map]; exact hl.2⟩
  | _ => cases h2
def clO (G : Gs) (e h : Str) (ns : List Str) : Bool := decide (Str.ofString "master" ∈ ns) && (!decide (h ∈ ns) && G.all fun p => !(srv e p && (decide (p.2.g ∈ ns) && !decide (p.2.t ∈ ns))))
def clB (G : Gs) (e h : Str) (v : D) : Bool := ascB v 1 99 && (match v with | .tuple l => clO G e h (l.map strOf) | _ => false)
theorem clB_tup {G : Gs} {e h : Str} {ns : List Str} (ha : ascB (.tuple (ns.map .str)) 1 99 = true) : clB G e h (.tuple (ns.map .str)) = clO G e h ns := by
  unfold clB
  rw [ha, Bool.true_and]
  show clO G e h ((ns.map .str).map strOf) = _
  rw [strOf_map]
theorem getD_memD {l : List D} {k : Nat} (h : k < l.length) : l.getD k .none ∈ l := by simp [List.getD, h]
theorem idxD {l : List D} {k : Nat} (h : k < l.length) : vIdx (.tuple l) (.int (k : Nat)) = some (l.getD k .none) := by
  rw [vIdx_tup (by omega) (by omega)]
  simp [List.getD, h]
theorem vRange1_pred (b : Bool) (n : Nat) (h : n ≤ 16777216) : vRange1 b (.int ((n : Int) - 1)) = some ((List.range (n - 1)).map fun i : Nat => PyData.int (i : Nat)) := by
  show (if inR ((n : Int) - 1) = true ∧ (b = true → ((n : Int) - 1).toNat ≤ sizeLine) then some (rangeD 0 ((n : Int) - 1)) else none) = _
  rw [if_pos ⟨inR_i (by omega) (by omega), fun _ => by rw [line_eq]; omega⟩]
  refine congrArg some ?_
  unfold rangeD
  rw [show ((n : Int) - 1 - 0).toNat = n - 1 by omega]
  exact List.map_congr_left fun k _ => by simp
theorem is_ascending_g (v : D) (lo hi : Nat) (hh : hi ≤ 1000000) : d_is_ascending [v, .int lo, .int hi] = .ok (.bool (ascB v lo hi)) := by
  rw [d_is_ascending]
  refine run_eq ?_
  have ir := is_names_g v lo hi hh
  cases h : nmsB v lo hi with
  | false =>
    wp_walk using ir, h
    unfold nmsB at h
    unfold ascB
    cases hl : lenB v lo hi with
    | false => rfl
    | true =>
      rw [hl] at h
      cases v with
      | tuple l =>
        have h : nmsOk l = false := h
        show _ = PyData.bool (ascOk l)
        unfold ascOk
        rw [h]; rfl
      | _ => rfl
  | true =>
    wp_walk using ir, h
    unfold nmsB at h
    obtain ⟨hl, h2⟩ := Bool.and_eq_true_iff.1 h
    cases v with
    | tuple l =>
      have h2 : nmsOk l = true := h2
      have ll : l.length ≤ hi := (of_decide_eq_true hl).2
      have e : ascB (.tuple l) lo hi = (List.range (l.length - 1)).all fun k => ltS (strOf (l.getD k .none)) (strOf (l.getD (k + 1) .none)) := by
        unfold ascB
        rw [hl, Bool.true_and]
        show ascOk l = _
        unfold ascOk
        rw [h2, Bool.true_and]
      have it : eComp [3] (gN 3) (iR1 true (eBin vSub (eUn vLen (eVar 0)) (eC (PyData.int 1)))) tTrue (eBin vLt (eBin vIdx (eVar 0) (eVar 3)) (eBin vIdx (eVar 0) (eBin vAdd (eVar 3) (eC (PyData.int 1))))) [some (PyData.tuple l), some (PyData.int (lo : Nat)), some (PyData.int (hi : Nat)), none] = .ok (.list ((List.range (l.length - 1)).map fun k => .bool (ltS (strOf (l.getD k .none)) (strOf (l.getD (k + 1) .none))))) := by
        refine eComp_map (fun i : Nat => .int (i : Nat)) (fun k => .bool (ltS (strOf (l.getD k .none)) (strOf (l.getD (k + 1) .none)))) (List.range (l.length - 1)) ?_ fun k hk => ⟨_, rfl, ?_⟩
        · wp_walk using vRange1_pred _ l.length (by omega)
        · have hk := List.mem_range.1 hk
          have i1 := idxD (l := l) (k := k) (by omega)
          have i2 := idxD (l := l) (k := k + 1) (by omega)
          have n1 : nameB (l.getD k .none) = true := List.all_eq_true.1 (Bool.and_eq_true_iff.1 h2).1 _ (getD_memD (by omega))
          have n2 : nameB (l.getD (k + 1) .none) = true := List.all_eq_true.1 (Bool.and_eq_true_iff.1 h2).1 _ (getD_memD (by omega))
          obtain ⟨z1, e1⟩ := nameB_str n1
          obtain ⟨z2, e2⟩ := nameB_str n2
          have a1 : ((k : Nat) : Int) + 1 = ((k + 1 : Nat) : Int) := by omega
          rw [e1] at i1
          rw [e2] at i2
          rw [e1, e2]
          wp_walk using i1, a1, i2
          rfl
      wp_walk using it, vAll_map
      rw [e]
    | _ => cases h2
theorem fine_strT (l : List Str) : fine (.tuple (l.map .str)) = true := pl_fine (n := 2) (pl_tup (n := 1) fun x hx => by
  obtain ⟨z, _, rfl⟩ := List.mem_map.1 hx
  rfl) (by decide)
theorem vIn_strT (i : Str) (l : List Str) : vIn (.str i) (.tuple (l.map .str)) = some (.bool (decide (i ∈ l))) := by
  show (if _ then _ else none) = _
  rw [if_pos ⟨rfl, fine_strT l⟩, inD_str]
theorem vNotIn_strT (i : Str) (l : List Str) : vNotIn (.str i) (.tuple (l.map .str)) = some (.bool (!decide (i ∈ l))) := by
  rw [vNotIn_of (vIn_strT i l)]
theorem is_closed_2_eq (G : Gs) (e h : Str) (v : D) : d_is_closed_2 [tbE (gsT G), .str h, .str e, v] = .ok (.bool (clB G e h v)) := by
  have ia := is_ascending_g v 1 99 (by decide)
  have i1 : ((1 : Nat) : Int) = 1 := rfl
  have i2 : ((99 : Nat) : Int) = 99 := rfl
  rw [i1, i2] at ia
  rw [d_is_closed_2]
  refine run_eq ?_
  cases ha : ascB v 1 99 with
  | false =>
    wp_walk using ia, ha
    all_goals simp [clB, ha]
  | true =>
    obtain ⟨ns, rfl, l1, l2⟩ := ascB_tup ha
    rw [clB_tup ha]
    have n1 := vNotIn_strT (Str.ofString "master") ns
    have n2 := vIn_strT h ns
    unfold clO
    by_cases hm : Str.ofString "master" ∈ ns
    · by_cases hh : h ∈ ns
      · wp_walk using ia, ha, n1, hm, n2, hh
        all_goals simp [hm, hh]
      · wp_walk using ia, ha, n1, hm, n2, hh
        refine ws_all (fun p : Str × Gr => kvE (p.1, grE p.2)) (fun p => !(srv e p && (decide (p.2.g ∈ ns) && !decide (p.2.t ∈ ns)))) G (fun ρ => ∃ o4 o5 : Option D, ρ = [some (tbE (gsT G)), some (.str h), some (.str e), some (.tuple (ns.map .str)), o4, o5]) (by wp_walk using items_gs) ⟨_, _, rfl⟩ ?_ ?_ ?_
        · rintro p hp _ ⟨o4, o5, rfl⟩
          have s1 := serves_eq e p
          have g1 := vIn_strT p.2.g ns
          have g2 := vNotIn_strT p.2.t ns
          refine ⟨_, rfl, ?_⟩
          cases hs : srv e p
          · wp_walk using kvE_1, s1, hs
            exact ⟨_, _, rfl⟩
          · by_cases hg : p.2.g ∈ ns
            · by_cases ht : p.2.t ∈ ns
              · wp_walk using kvE_1, s1, hs, grE_0, grE_1, g1, g2, hg, ht
                exact ⟨_, _, rfl⟩
              · wp_walk using kvE_1, s1, hs, grE_0, grE_1, g1, g2, hg, ht
            · wp_walk using kvE_1, s1, hs, grE_0, grE_1, g1, g2, hg
              exact ⟨_, _, rfl⟩
        · intro hf
          rw [hf]; simp
        · rintro _ ⟨o4, o5, rfl⟩ hf
          wp_walk
          rw [hf]; simp [hm, hh]
    · wp_walk using ia, ha, n1, hm
      all_goals simp [hm]
theorem hnd_len {c4 : Int} {c2 : Nat} (h : c2 ≤ 8) : (hnd c4 c2).length = 2 + c2 := by
  unfold hnd
  rw [List.length_take]
  split
  · rw [show HN1.length = 11 by simp [HN1]]; omega
  · rw [show HN0.length = 11 from rfl]; omega
theorem law_cell_3_eq (ns : List Int) (k : Nat) (hk : k ≤ 1000) : ∃ r : Int, d_law_cell_3 [.list (ns.map .int), .int k] = .ok (.int r) := by
  rw [d_law_cell_3]
  suffices h : ∃ v, runD 3 _ [.list (ns.map .int), .int k] = .ok v ∧ ∃ r : Int, v = .int r by
    obtain ⟨v, e, r, rfl⟩ := h
    exact ⟨r, e⟩
  refine run_ws ?_
  walk_at "ev"
  refine ws_put (by walk_at "evr") ?_
  walk_at "ev"
  refine ws_cut (fun ρ => ∃ c : Int, ρ = [some (.list (ns.map .int)), some (.int k), some (.int c)]) ?_ ?_
  · by_cases h : k < ns.length
    · refine ws_ifT (by walk_at "ev"; simp [h]) ?_
      refine ws_put (v := .int (ns.getD k 0)) (by walk_at "ev"; rw [vIdx_listI (by omega) (by omega)]; rfl) ?_
      walk_at "ev"
      exact ws_skip ⟨_, rfl⟩
    · exact ws_ifF (by walk_at "ev"; simp [h]) (ws_skip ⟨_, rfl⟩)
  rintro _ ⟨c, rfl⟩
  by_cases h : 0 ≤ c ∧ c < 1000000000000
  · refine ws_onret (v := .int ((c + 11 + 37 * k) ^ 17 / 1009)) (by walk_at "ev"; simp [h]) ?_ ⟨_, rfl⟩
    walk_at "ev"
    rw [vMul_64 (by omega) (by omega) (by omega) (by omega)]
    walk_at "ev"
    rw [vPow_nat (by decide) (by decide) (by omega)]
    walk_at "ev"
    rfl
  · refine ws_off ?_ (ws_back (v := .int c) (by walk_at "ev") ⟨_, rfl⟩)
    walk_at "ev"
    by_cases h0 : 0 ≤ c
    · simp [h0]; omega
    · simp [h0]
theorem digB_app : ∀ {l bs : List Int} {x b : Int}, digB l bs → 0 ≤ x → x < b → digB (l ++ [x]) (bs ++ [b])
  | [], [], _, _, _, h0, h1 => ⟨⟨h0, h1⟩, trivial⟩
  | _ :: _, _ :: _, _, _, h, h0, h1 => ⟨h.1, digB_app h.2 h0 h1⟩
  | [], _ :: _, _, _, h, _, _ => h.elim
  | _ :: _, [], _, _, h, _, _ => h.elim
theorem digB_len : ∀ {l bs : List Int}, digB l bs → l.length = bs.length
  | [], [], _ => rfl
  | _ :: _, _ :: _, h => congrArg (· + 1) (digB_len h.2)
  | [], _ :: _, h => h.elim
  | _ :: _, [], h => h.elim
def dn : Nat → List Nat
  | 0 => []
  | k + 1 => (k + 1) :: dn k
theorem law_digits_eq (c : Int) (bs : List Int) (hb : ∀ b ∈ bs, 0 < b ∧ b < 1000000) (hl : bs.length ≤ 1000) : ∃ l : List Int, d_law_digits [.int c, .list (bs.map .int)] = .ok (.list (l.map .int)) ∧ digB l bs := by
  rw [d_law_digits]
  suffices h : ∃ v, runD 5 _ [.int c, .list (bs.map .int)] = .ok v ∧ ∃ l : List Int, v = .list (l.map .int) ∧ digB l bs by
    obtain ⟨v, e, l, rfl, h⟩ := h
    exact ⟨l, e, h⟩
  refine run_ws ?_
  walk_at "ev"
  refine ws_putO (by walk_at "evr") rfl ?_
  walk_at "ev"
  refine ws_put (by walk_at "evr") ?_
  walk_at "ev"
  refine ws_cut (fun ρ => ∃ (l : List Int) (w : Int) (o4 : Option D), ρ = [some (.int c), some (.list (bs.map .int)), some (.list (l.map .int)), some (.int w), o4] ∧ digB l bs) ?_ ?_
  · refine ws_forE .int bs (fun rest ρ => ∃ (l dn : List Int) (w : Int) (o4 : Option D), ρ = [some (.int c), some (.list (bs.map .int)), some (.list (l.map .int)), some (.int w), o4] ∧ digB l dn ∧ dn ++ rest = bs) (iVal_list (by walk_at "ev")) ⟨[], [], c, none, rfl, trivial, rfl⟩ ?_ ?_
    · rintro b rest _ ⟨l, dn, w, o4, rfl, h1, h2⟩
      obtain ⟨b0, b1⟩ := hb b (by rw [← h2]; simp)
      have := digB_len h1
      have hdn : dn.length ≤ bs.length := by rw [← h2]; simp
      refine ⟨_, rfl, ?_⟩
      walk_at "ev"
      refine ws_seq (ws_app (ds := l.map .int) (v := .int (w % b)) rfl (by walk_at "ev"; rw [vMod_pos b0]; walk_at "ev") (by simp; omega) ?_)
      walk_at "ev"
      refine ws_put (v := .int (w / b)) (by walk_at "ev"; rw [vDiv_pos b0 (by omega)]; walk_at "ev") ?_
      walk_at "ev"
      refine ws_skip ⟨l ++ [w % b], dn ++ [b], w / b, _, by rw [List.map_append]; rfl, digB_app h1 (Int.emod_nonneg _ (by omega)) (Int.emod_lt_of_pos _ b0), by rw [List.append_assoc]; exact h2⟩
    · rintro _ ⟨l, dn, w, o4, rfl, h1, h2⟩
      rw [List.append_nil] at h2
      exact ⟨l, w, o4, rfl, h2 ▸ h1⟩
  · rintro _ ⟨l, w, o4, rfl, h⟩
    exact ws_back (by walk_at "ev") ⟨l, rfl, h⟩
theorem law_hands_eq (n s c3 c4 : Int) {c2 : Nat} (h : c2 ≤ 8) : d_law_hands [.list [.int n, .int s, .int (c2 : Nat), .int c3, .int c4]] = .ok (.list ((hnd c4 c2).map .str)) := by
  rw [d_law_hands]
  refine run_eq ?_
  have e2 : (2 : Int) + (c2 : Nat) = ((2 + c2 : Nat) : Int) := by omega
  have s0 : vSlice (.list (HN0.map .str)) none (some ((2 + c2 : Nat) : Int)) = some (.list ((HN0.take (2 + c2)).map .str)) := by
    rw [vSlice_toL (by rw [List.length_map, show HN0.length = 11 from rfl]; omega), List.map_take]
  have s1 : vSlice (.list (HN1.map .str)) none (some ((2 + c2 : Nat) : Int)) = some (.list ((HN1.take (2 + c2)).map .str)) := by
    rw [vSlice_toL (by rw [List.length_map, show HN1.length = 11 by simp [HN1]]; omega), List.map_take]
  have it : ∀ x0 x1 x2 : Option D, eComp [2] (gN 2) (iR2 true (eC (.int 1)) (eC (.int 11))) (tTrue) (eBin vMulS (eC (.str "a")) (eVar 2)) [x0, x1, x2] = .ok (.list ((List.range' 1 10).map fun k => .str (repS "a" k))) := by
    intros
    refine eComp_map (fun i : Nat => .int (i : Nat)) (fun k => .str (repS "a" k)) (List.range' 1 10) (iR2_nat (lo := 1) (hi := 11) (by wp_walk) (by wp_walk) (by omega) (by omega)) fun k hk => ⟨_, rfl, ?_⟩
    have hk := List.mem_range'.1 hk
    have v1 : vMulS (.str "a") (.int (k : Nat)) = some (.str (repS "a" k)) := by
      show (if 1 ≤ ((k : Nat) : Int) ∧ ((k : Nat) : Int) ≤ 1000 ∧ 1 ≤ (Str.ofString "a").length ∧ (Str.ofString "a").length ≤ 1000 then some (PyData.str (repS "a" ((k : Nat) : Int).toNat)) else none) = _
      rw [if_pos ⟨by omega, by omega, by decide, by decide⟩]; rfl
    wp_walk using v1
  have va : vAdd (.list [.str mst]) (.list ((List.range' 1 10).map fun k => .str (repS "a" k))) = some (.list (HN1.map .str)) := by
    rw [vAdd_list (by simp)]
    simp [HN1]
  unfold hnd
  by_cases hc : c4 = 1
  · have va : vAdd (.list [.str (Str.ofString "master")]) (.list ((List.range' 1 10).map fun k => .str (repS "a" k))) = some (.list (HN1.map .str)) := va
    wp_walk using hc, it, va, e2, s1
  · have s0 : vSlice (.list [PyData.str (Str.ofString "master"), .str (Str.ofString "anna"), .str (Str.ofString "ben"), .str (Str.ofString "all"), .str (Str.ofString "m"), .str (Str.ofString "zz9"), .str (Str.ofString "hand"), .str (Str.ofString "h1"), .str (Str.ofString "h10"), .str (Str.ofString "h2"), .str (Str.ofString "make")]) none (some ((2 + c2 : Nat) : Int)) = some (.list ((HN0.take (2 + c2)).map .str)) := s0
    wp_walk using hc, e2, s0
theorem law_asked_eq (ns : List Int) (n s c3 c4 : Int) {c2 : Nat} (h2 : c2 ≤ 8) : ∃ (hd e : Str) (st : Int), d_law_asked [.list (ns.map .int), .list [.int n, .int s, .int (c2 : Nat), .int c3, .int c4]] = .ok (.tuple [.str hd, .str e, .int st]) := by
  suffices ∃ v, d_law_asked [.list (ns.map .int), .list [.int n, .int s, .int (c2 : Nat), .int c3, .int c4]] = .ok v ∧ ∃ (hd e : Str) (st : Int), v = .tuple [.str hd, .str e, .int st] by
    obtain ⟨v, h, hd, e, st, rfl⟩ := this
    exact ⟨hd, e, st, h⟩
  have hh := law_hands_eq n s c3 c4 h2
  have hl := hnd_len (c4 := c4) h2
  generalize hnd c4 c2 = H at *
  obtain ⟨c, ec⟩ := law_cell_3_eq ns 1 (by decide)
  obtain ⟨xs, ex, hx⟩ := law_digits_eq c [12, 6, 100000] (by decide) (by decide)
  obtain ⟨d0, xs, rfl, d00, d01, hx⟩ := digB_cons hx
  obtain ⟨d1, xs, rfl, d10, d11, hx⟩ := digB_cons hx
  obtain ⟨d2, xs, rfl, d20, d21, hx⟩ := digB_cons hx
  obtain rfl := digB_nil hx
  simp only [List.map_cons, List.map_nil] at ex
  simp only [Int.cast_ofNat_Int] at ec
  have va : vAdd (.list (H.map .str)) (.list [.str "nobody"]) = some (.list ((H ++ [Str.ofString "nobody"]).map .str)) := by
    rw [vAdd_list (by rw [List.length_map]; simp; omega), List.map_append]; rfl
  obtain ⟨K, hK⟩ : ∃ K, K = H ++ [Str.ofString "nobody"] := ⟨_, rfl⟩
  have lK : K.length = 3 + c2 := by rw [hK, List.length_append, hl]; simp; omega
  rw [← hK] at va
  have vl : vLen (.list (K.map .str)) = some (.int (K.length : Nat)) := by rw [vLen_list, List.length_map]
  have md := vMod_pos (i := d0) (j := (K.length : Nat)) (by omega)
  have q0 := Int.emod_nonneg d0 (b := (K.length : Nat)) (by omega)
  have q1 := Int.emod_lt_of_pos d0 (b := (K.length : Nat)) (by omega)
  obtain ⟨z1, hz1, i1⟩ := idxH (H := K) q0 q1 (by omega)
  obtain ⟨DE, hDE⟩ : ∃ x : List Str, x = [Str.ofString "make", Str.ofString "make", Str.ofString "all", Str.ofString "mend", Str.ofString "carve", Str.ofString "never"] := ⟨_, rfl⟩
  have lDE : DE.length = 6 := by rw [hDE]; rfl
  obtain ⟨z2, hz2, i2⟩ := idxH (H := DE) d10 (by omega) (by omega)
  rw [hDE] at i2
  simp only [List.map_cons, List.map_nil] at i2
  rw [d_law_asked]
  refine run_ws ?_
  wp_walk using ec, ex, hh, va, vl, md, i1, i2
  exact ⟨_, _, _, rfl⟩
def BdOk (m k S : Nat) (x : D) : Prop := bpS (m + 1) (k + 1) x ∧ szD x ≤ S
theorem cutS_len1 {z : Str} {lo hi : Option Int} : (cutS z lo hi).length ≤ z.length := cutS_len
theorem rev_stepD {α : Type} (l : List α) : stepT l none none (-1) = l.reverse := by
  unfold stepT
  have e1 : Builtin.Slice.sliceAdjust none none (-1) (l.length : Int) = ((l.length : Int) - 1, -1) := by
    unfold Builtin.Slice.sliceAdjust
    simp
  rw [e1]
  have e2 : Builtin.Slice.slicePlaces ((l.length : Int) - 1) (-1) (-1) = l.length := by
    unfold Builtin.Slice.slicePlaces
    by_cases h : 0 < l.length
    · have : ((l.length : Int) - 1) > -1 := by omega
      simp only [show ¬ (-1 : Int) > 0 by decide, if_false, this, if_true, Int.neg_neg, Int.ediv_one]
      omega
    · have : ¬ ((l.length : Int) - 1) > -1 := by omega
      simp only [show ¬ (-1 : Int) > 0 by decide, if_false, this]
      omega
  rw [e2]
  refine List.ext_getElem? fun k => ?_
  have : ∀ L : List Nat, (∀ m ∈ L, m < l.length) → (L.filterMap fun (m : Nat) => l[(((l.length : Int) - 1) + (m : Int) * (-1)).toNat]?).map some = L.map fun m => l[l.length - 1 - m]? := by
    intro L
    induction L with
    | nil => intro _; rfl
    | cons m L ih =>
      intro h
      have hm := h m (by simp)
      have e : (((l.length : Int) - 1) + (m : Int) * (-1)).toNat = l.length - 1 - m := by omega
      have hlt : l.length - 1 - m < l.length := by omega
      rw [List.filterMap_cons, e, List.getElem?_eq_getElem hlt]
      simp only [List.map_cons, ih fun x hx => h x (by simp [hx]), List.getElem?_eq_getElem hlt]
  have hh := congrArg (fun L => L[k]?) (this (List.range l.length) fun m hm => List.mem_range.1 hm)
  simp only [List.getElem?_map] at hh
  by_cases hk : k < l.length
  · rw [List.getElem?_reverse hk]
    rw [List.getElem?_range hk] at hh
    simp only [Option.map_some] at hh
    have hlt : l.length - 1 - k < l.length := by omega
    rw [List.getElem?_eq_getElem hlt] at hh ⊢
    cases q : (List.filterMap (fun (m : Nat) => l[(((l.length : Int) - 1) + (m : Int) * (-1)).toNat]?) (List.range l.length))[k]? with
    | none => rw [q] at hh; cases hh
    | some v => rw [q] at hh; simpa using hh
  · have hL := congrArg List.length (this (List.range l.length) fun m hm => List.mem_range.1 hm)
    rw [List.length_map, List.length_map, List.length_range] at hL
    rw [List.getElem?_eq_none (by rw [hL]; omega), List.getElem?_eq_none (by rw [List.length_reverse]; omega)]
theorem szDs_app (a b : List D) : szDs (a ++ b) = szDs a + szDs b := by
  induction a with
  | nil => simp [szDs]
  | cons x a ih => simp [szDs, ih]; omega
theorem szDs_rev (l : List D) : szDs l.reverse = szDs l := by
  induction l with
  | nil => rfl
  | cons x l ih => simp [szDs_app, szDs, ih]; omega
theorem szDs_split {l : List D} {k : Nat} (h : k < l.length) : szDs l = szDs (l.take k) + (szD (l.getD k .none) + szDs (l.drop (k + 1))) := by
  have : l = l.take k ++ l.getD k .none :: l.drop (k + 1) := by
    have e : l.getD k .none = l[k] := by simp [List.getD, h]
    rw [e, ← List.drop_eq_getElem_cons h, List.take_append_drop]
  have h2 := congrArg szDs this
  rw [szDs_app] at h2
  simp only [szDs] at h2
  exact h2
theorem szDs_sub {a b : List D} (h : a.Sublist b) : szDs a ≤ szDs b := by
  induction h with
  | slnil => exact Nat.le_refl _
  | cons x h ih => simp [szDs]; omega
  | cons_cons x h ih => simp [szDs]; omega
theorem szDs_take_succ {l : List D} {k : Nat} (h : k < l.length) : szDs (l.take (k + 1)) = szDs (l.take k) + szD (l.getD k .none) := by
  have e : l.getD k .none = l[k] := by simp [List.getD, h]
  rw [List.take_succ, szDs_app, List.getElem?_eq_getElem h, e]
  simp [szDs]
theorem law_bends_eq (m : Nat) (hm : m ≤ 1000) (n : Nat) : ∀ (k : Nat) (v : D), bpI m k v → k ≤ n → szD v ≤ 100000 → ∃ L : List D, d_law_bends n [v] = .ok (.list L) ∧ L.length + 1 ≤ 7 * szD v ∧ ∀ x ∈ L, BdOk m k (2 * szD v + 10) x := by
  induction n with
  | zero => intro k v h hk; have : k = 0 := by omega
            subst this; exact h.elim
  | succ n ih =>
  intro k v h hk hs
  cases k with
  | zero => exact h.elim
  | succ k =>
  suffices hh : ∃ w, d_law_bends (n + 1) [v] = .ok w ∧ ∃ L : List D, w = .list L ∧ L.length + 1 ≤ 7 * szD v ∧ ∀ x ∈ L, BdOk m (k + 1) (2 * szD v + 10) x by
    obtain ⟨w, e, L, rfl, h⟩ := hh
    exact ⟨L, e, h⟩
  rw [d_law_bends]
  refine run_ws ?_
  cases v with
  | list l => exact h.elim
  | dict l => exact h.elim
  | bool l => exact h.elim
  | none =>
    wp_walk
    refine ⟨_, rfl, by simp [szD], fun x hx => ?_⟩
    simp only [List.mem_cons, List.not_mem_nil, or_false] at hx
    rcases hx with rfl | rfl
    · exact ⟨trivial, by simp [szD]⟩
    · exact ⟨fun y hy => (by cases hy), by simp [szD, szDs]⟩
  | int i =>
    wp_walk
    refine ⟨_, rfl, by simp [szD], fun x hx => ?_⟩
    simp only [List.mem_cons, List.not_mem_nil, or_false] at hx
    rcases hx with rfl | rfl | rfl | rfl | rfl
    · exact ⟨trivial, by simp [szD]⟩
    · exact ⟨trivial, by simp [szD]⟩
    · exact ⟨trivial, by simp [szD]⟩
    · exact ⟨trivial, by simp [szD]⟩
    · exact ⟨show (Str.ofString "1").length ≤ m + 1 by rw [show (Str.ofString "1").length = 1 by decide]; omega, by simp [szD]⟩
  | str z =>
    have hz : z.length ≤ m := h
    have va : vAdd (.str z) (.str "a") = some (.str (z ++ "a")) := vAdd_str (by rw [show (Str.ofString "a").length = 1 by decide]; omega)
    have vs : vSlice (.str z) none (some (-1)) = some (.str (cutS z none (some (-1)))) := rfl
    wp_walk using va, vs
    refine ⟨_, rfl, by simp [szD], fun x hx => ?_⟩
    simp only [List.mem_cons, List.not_mem_nil, or_false] at hx
    rcases hx with rfl | rfl | rfl | rfl | rfl | rfl
    · refine ⟨?_, by simp [szD]⟩
      show (z ++ (Str.ofString "a")).cps.size ≤ m + 1
      have : (z ++ (Str.ofString "a")).cps = z.cps ++ (Str.ofString "a").cps := rfl
      rw [this, Array.size_append]
      have e1 : z.cps.size = z.length := rfl
      have e2 : (Str.ofString "a").cps.size = 1 := by decide
      omega
    · exact ⟨show (cutS z none (some (-1))).length ≤ m + 1 by have := cutS_len1 (z := z) (lo := none) (hi := some (-1)); omega, by simp [szD]⟩
    · exact ⟨show (Str.ofString "").length ≤ m + 1 by rw [show (Str.ofString "").length = 0 by decide]; omega, by simp [szD]⟩
    · exact ⟨trivial, by simp [szD]⟩
    · exact ⟨trivial, by simp [szD]⟩
    · refine ⟨fun y hy => ?_, by simp [szD, szDs]⟩
      rw [List.mem_singleton.1 hy]
      exact Nat.le_trans hz (by omega)
  | tuple l =>
    have hl : ∀ x ∈ l, bpI m k x := h
    have hsz : 1 + szDs l ≤ 100000 := hs
    have ll := szDs_len l
    have hS : ∀ x ∈ l, bpS (m + 1) (k + 1) x := fun x hx => bpS_mono (by omega) (by omega) (bpI_S (hl x hx))
    have a1 : vAdd (.tuple l) (.tuple [.int 0]) = some (.tuple (l ++ [.int 0])) := vAdd_tup (by simp; omega)
    have s1 : vSlice (.tuple l) none (some (-1)) = some (.tuple (cutD l none (some (-1)))) := rfl
    have s2 : vSlice (.tuple l) (some (-1)) none = some (.tuple (cutD l (some (-1)) none)) := rfl
    have c1 := cutD_sub l none (some (-1))
    have c2 := cutD_sub l (some (-1)) none
    have a2 : vAdd (.tuple l) (.tuple (cutD l (some (-1)) none)) = some (.tuple (l ++ cutD l (some (-1)) none)) := vAdd_tup (by have := c2.length_le; omega)
    have s3 : vStep (.tuple l) none none (some (-1)) = some (.tuple l.reverse) := by
      show (if (-1 : Int) ≠ 0 ∧ (-1 : Int) ≠ 1 ∧ (stepT l none none (-1)).length ≤ sizeLine then some (PyData.tuple (stepT l none none (-1))) else none) = _
      rw [rev_stepD, if_pos ⟨by decide, by decide, by rw [line_eq]; simp; omega⟩]
    obtain ⟨L0, hL0, lL0, eL0⟩ : ∃ L0 : List D, L0 = [.tuple (cutD l none (some (-1))), .tuple (l ++ [.int 0]), .tuple l.reverse, .tuple (l ++ cutD l (some (-1)) none), .none] ∧ L0.length = 5 ∧ ∀ x ∈ L0, BdOk m (k + 1) (2 * szD (.tuple l) + 10) x := by
      refine ⟨_, rfl, rfl, fun x hx => ?_⟩
      simp only [List.mem_cons, List.not_mem_nil, or_false] at hx
      rcases hx with rfl | rfl | rfl | rfl | rfl
      · exact ⟨fun x hx => hS x (c1.subset hx), by have := szDs_sub c1; simp only [szD]; omega⟩
      · refine ⟨fun x hx => ?_, by simp only [szD, szDs_app, szDs]; omega⟩
        rcases List.mem_append.1 hx with g | g
        · exact hS x g
        · rw [List.mem_singleton.1 g]; trivial
      · exact ⟨fun x hx => hS x (List.mem_reverse.1 hx), by simp only [szD, szDs_rev]; omega⟩
      · refine ⟨fun x hx => ?_, by have := szDs_sub c2; simp only [szD, szDs_app]; omega⟩
        rcases List.mem_append.1 hx with g | g
        · exact hS x g
        · exact hS x (c2.subset g)
      · exact ⟨trivial, by simp [szD]⟩
    wp_walk using a1, s1, s2, a2, s3
    rw [← hL0]
    refine ws_rng l.length (fun j ρ => ∃ (L : List D) (o2 o3 : Option D), ρ = [some (.tuple l), some (.list L), o2, o3] ∧ L.length ≤ 5 + 7 * szDs (l.take j) ∧ ∀ x ∈ L, BdOk m (k + 1) (2 * szD (.tuple l) + 10) x) (iR1_nat (by wp_walk) (by omega)) ⟨L0, _, _, rfl, by simp [lL0, szDs], eL0⟩ ?_ ?_
    · rintro j hj _ ⟨L, o2, o3, rfl, hLl, hL⟩
      have sp := szDs_split hj
      have st := szDs_take_succ hj
      have t1 : vSlice (.tuple l) none (some (j : Int)) = some (.tuple (l.take j)) := vSlice_to (by omega)
      have t2 : vSlice (.tuple l) (some ((j : Int) + 1)) none = some (.tuple (l.drop (j + 1))) := vSlice_from (k := j + 1) (by omega)
      have t3 : vAdd (.tuple (l.take j)) (.tuple (l.drop (j + 1))) = some (.tuple (l.take j ++ l.drop (j + 1))) := vAdd_tup (by simp; omega)
      have ij : vIdx (.tuple l) (.int (j : Nat)) = some (l.getD j .none) := by
        rw [vIdx_tup (by omega) (by omega)]; simp [List.getD, hj]
      have xm : l.getD j .none ∈ l := by simp [List.getD, hj]
      have szj := szD_pos (l.getD j .none)
      obtain ⟨M, eM, lM, hM⟩ := ih k (l.getD j .none) (hl _ xm) (by omega) (by omega)
      have tkm : ∀ x ∈ l.take j, bpS (m + 1) (k + 1) x := fun x hx => hS x (List.mem_of_mem_take hx)
      have drm : ∀ x ∈ l.drop (j + 1), bpS (m + 1) (k + 1) x := fun x hx => hS x (List.mem_of_mem_drop hx)
      refine ⟨_, rfl, ?_⟩
      wp_walk using t1, t2, t3
      refine ⟨by omega, ?_⟩
      refine ws_for (ds := M) (fun rest ρ => ∃ (L' : List D) (o3 : Option D), ρ = [some (.tuple l), some (.list L'), some (.int (j : Nat)), o3] ∧ L'.length + rest.length ≤ L.length + 1 + M.length ∧ (∀ x ∈ rest, x ∈ M) ∧ ∀ x ∈ L', BdOk m (k + 1) (2 * szD (.tuple l) + 10) x) (by wp_walk using ij, eM) ⟨_, _, rfl, by simp, fun x hx => hx, ?_⟩ ?_ ?_
      · intro x hx
        rcases List.mem_append.1 hx with g | g
        · exact hL x g
        · rw [List.mem_singleton.1 g]
          refine ⟨fun y hy => ?_, by simp only [szD, szDs_app]; omega⟩
          rcases List.mem_append.1 hy with q | q
          · exact tkm y q
          · exact drm y q
      · rintro y rest _ ⟨L', o3, rfl, hl', hr, hL'⟩
        rw [List.length_cons] at hl'
        have t4 : vAdd (.tuple (l.take j)) (.tuple [y]) = some (.tuple (l.take j ++ [y])) := vAdd_tup (by simp; omega)
        have t5 : vAdd (.tuple (l.take j ++ [y])) (.tuple (l.drop (j + 1))) = some (.tuple (l.take j ++ [y] ++ l.drop (j + 1))) := vAdd_tup (by simp; omega)
        obtain ⟨y1, y2⟩ := hM y (hr y (by simp))
        refine ⟨_, rfl, ?_⟩
        wp_walk using t1, t2, t4, t5
        refine ⟨by omega, _, _, rfl, by simp; omega, fun x hx => hr x (by simp [hx]), fun x hx => ?_⟩
        rcases List.mem_append.1 hx with g | g
        · exact hL' x g
        · rw [List.mem_singleton.1 g]
          refine ⟨fun z hz => ?_, by simp only [szD, szDs_app, szDs]; omega⟩
          rcases List.mem_append.1 hz with q | q
          · rcases List.mem_append.1 q with q | q
            · exact tkm z q
            · rw [List.mem_singleton.1 q]; exact y1
          · exact drm z q
      · rintro _ ⟨L', o3, rfl, hl', hr, hL'⟩
        wp_walk
        exact ⟨_, _, _, rfl, by simp at hl'; omega, hL'⟩
    · rintro _ ⟨L, o2, o3, rfl, hLl, hL⟩
      wp_walk
      rw [List.take_length] at hLl
      exact ⟨L, rfl, by simp only [szD]; omega, hL⟩
def nmA (s k : Nat) : Str := if s = 0 then ⟨#[97 + k]⟩ else if s = 1 then (("some" : Str) ++ ⟨#[97 + k]⟩) ++ ("9" : Str) else if k < 12 then repS "a" (k + 1) else repS "b" (k - 11)
/-- what the law draws -/
def Drawn (G : Gs) (s n : Nat) (H : List Str) : Prop := G.map Prod.fst = (List.range n).map (nmA s) ∧ ∀ p ∈ G, p.2.g ∈ H ∧ p.2.t ∈ H
theorem gsT_len (G : Gs) : (gsT G).length = G.length := by simp [gsT]
def isLet (v : Option D) (j : Nat) : Bool := match v with
  | some (.str z) => z.cps.toList == [97 + j]
  | _ => false
theorem let_all : ((List.range 26).all fun j => isLet (vIdx (.str "abcdefghijklmnopqrstuvwxyz") (.int (j : Nat))) j) = true := by decide +kernel
theorem let_at {j : Nat} (h : j < 26) : vIdx (.str "abcdefghijklmnopqrstuvwxyz") (.int (j : Nat)) = some (.str ⟨#[97 + j]⟩) := by
  have := List.all_eq_true.1 let_all j (List.mem_range.2 h)
  unfold isLet at this
  split at this
  · rename_i z hz
    rw [hz]
    have := eq_of_beq this
    rw [str_ext (a := z) (b := ⟨#[97 + j]⟩) this]
  · cases this
theorem law_name_at_eq {s k : Nat} (hs : s ≤ 2) (hk : k < 24) : d_law_name_at [.int (s : Nat), .int (k : Nat)] = .ok (.str (nmA s k)) := by
  have la := let_at (j := k) (by omega)
  rw [d_law_name_at]
  refine run_eq ?_
  rcases (by omega : s = 0 ∨ s = 1 ∨ s = 2) with rfl | rfl | rfl
  · wp_walk using la
    rfl
  · have v1 : vAdd (.str "some") (.str ⟨#[97 + k]⟩) = some (.str (("some" : Str) ++ ⟨#[97 + k]⟩)) := vAdd_str (by rw [show (Str.ofString "some").length = 4 by decide]; show 4 + 1 ≤ _; omega)
    have v2 : vAdd (.str (("some" : Str) ++ ⟨#[97 + k]⟩)) (.str "9") = some (.str ((("some" : Str) ++ ⟨#[97 + k]⟩) ++ ("9" : Str))) := vAdd_str (by
      rw [show (Str.ofString "9").length = 1 by decide]
      have : ((Str.ofString "some") ++ (⟨#[97 + k]⟩ : Str)).length = 5 := by
        show ((Str.ofString "some").cps ++ #[97 + k]).size = 5
        rw [Array.size_append, show (Str.ofString "some").cps.size = 4 by decide]; rfl
      omega)
    wp_walk using la, v1, v2
    rfl
  · by_cases h : k < 12
    · have h' : ((k : Nat) : Int) < 12 := by omega
      have v1 : vMulS (.str "a") (.int ((k : Int) + 1)) = some (.str (repS "a" (k + 1))) := by
        show (if 1 ≤ ((k : Int) + 1) ∧ ((k : Int) + 1) ≤ 1000 ∧ 1 ≤ (Str.ofString "a").length ∧ (Str.ofString "a").length ≤ 1000 then some (PyData.str (repS "a" ((k : Int) + 1).toNat)) else none) = _
        rw [if_pos ⟨by omega, by omega, by decide, by decide⟩, show ((k : Int) + 1).toNat = k + 1 by omega]
      wp_walk using h', v1
      unfold nmA
      rw [if_neg (by decide), if_neg (by decide), if_pos h]
    · have h' : ¬ ((k : Nat) : Int) < 12 := by omega
      have v1 : vMulS (.str "b") (.int ((k : Int) - 11)) = some (.str (repS "b" (k - 11))) := by
        show (if 1 ≤ ((k : Int) - 11) ∧ ((k : Int) - 11) ≤ 1000 ∧ 1 ≤ (Str.ofString "b").length ∧ (Str.ofString "b").length ≤ 1000 then some (PyData.str (repS "b" ((k : Int) - 11).toNat)) else none) = _
        rw [if_pos ⟨by omega, by omega, by decide, by decide⟩, show ((k : Int) - 11).toNat = k - 11 by omega]
      wp_walk using h', v1
      unfold nmA
      rw [if_neg (by decide), if_neg (by decide), if_neg h]
theorem law_grants_eq (ns : List Int) {n s c2 : Nat} {c3 c4 : Int} (hn : n ≤ 24) (hs : s ≤ 2) (h2 : c2 ≤ 8) : ∃ G : Gs, d_law_grants [.list (ns.map .int), .int 2, .list [.int (n : Nat), .int (s : Nat), .int (c2 : Nat), .int c3, .int c4]] = .ok (tbE (gsT G)) ∧ Drawn G s n (hnd c4 c2) := by
  suffices ∃ v, d_law_grants [.list (ns.map .int), .int 2, .list [.int (n : Nat), .int (s : Nat), .int (c2 : Nat), .int c3, .int c4]] = .ok v ∧ ∃ G : Gs, v = tbE (gsT G) ∧ Drawn G s n (hnd c4 c2) by
    obtain ⟨v, h, G, rfl, hd⟩ := this
    exact ⟨G, h, hd⟩
  have hh := law_hands_eq (n := (n : Nat)) (s := (s : Nat)) c3 c4 h2
  have hl := hnd_len (c4 := c4) h2
  have nmH := hnd_nm c4 c2
  generalize hnd c4 c2 = H at *
  have vlH : vLen (.list (H.map .str)) = some (.int (H.length : Nat)) := by rw [vLen_list, List.length_map]
  have H0 : (0 : Int) < (H.length : Nat) := by omega
  have cells := fun k (hk : k ≤ 1000) => law_cell_3_eq ns k hk
  obtain ⟨SC, hSC⟩ : ∃ x : D, x = .list (ns.map .int) := ⟨_, rfl⟩
  simp only [← hSC] at cells ⊢
  rw [d_law_grants]
  refine run_ws ?_
  obtain ⟨HD, hHD⟩ : ∃ x : D, x = .list [.int (n : Nat), .int (s : Nat), .int (c2 : Nat), .int c3, .int c4] := ⟨_, rfl⟩
  have k0 : vIdx HD (.int 0) = some (.int (n : Nat)) := by rw [hHD]; rfl
  have k1 : vIdx HD (.int 1) = some (.int (s : Nat)) := by rw [hHD]; rfl
  have k3 : vIdx HD (.int 3) = some (.int c3) := by rw [hHD]; rfl
  rw [← hHD] at hh ⊢
  obtain ⟨DE, hDE⟩ : ∃ x : List Str, x = [Str.ofString "make", Str.ofString "all", Str.ofString "make", Str.ofString "mend", Str.ofString "make", Str.ofString "carve"] := ⟨_, rfl⟩
  have eDE : PyData.list [.str "make", .str "all", .str "make", .str "mend", .str "make", .str "carve"] = .list (DE.map .str) := by rw [hDE]; rfl
  have lDE : DE.length = 6 := by rw [hDE]; rfl
  row_walk with [hh]
  rw [eDE]
  refine ws_mid (fun ρ => ∃ (G : Gs) (o6 o7 o8 o9 : Option D), ρ = [some SC, some (.int 2), some HD, some (.list (H.map .str)), some (.list (DE.map .str)), some (.list ((gsT G).map kvE)), o6, o7, o8, o9] ∧ Drawn G s n H) ?_ ?_
  · refine ws_rng n (fun k ρ => ∃ (G : Gs) (o6 o7 o8 o9 : Option D), ρ = [some SC, some (.int 2), some HD, some (.list (H.map .str)), some (.list (DE.map .str)), some (.list ((gsT G).map kvE)), o6, o7, o8, o9] ∧ Drawn G s k H ∧ G.length = k) (iR1_nat (by wp_walk using k0) (by omega)) ⟨[], _, _, _, _, rfl, ⟨rfl, fun p hp => by cases hp⟩, rfl⟩ ?_ ?_
    · rintro k hk _ ⟨G, o6, o7, o8, o9, rfl, hD, hG⟩
      obtain ⟨c, ec⟩ := cells (2 + k) (by omega)
      have a2 : (2 : Int) + (k : Nat) = ((2 + k : Nat) : Int) := by omega
      obtain ⟨xs, ex, hx⟩ := law_digits_eq c [11, 11, 6] (by decide) (by decide)
      obtain ⟨d0, xs, rfl, d00, d01, hx⟩ := digB_cons hx
      obtain ⟨d1, xs, rfl, d10, d11, hx⟩ := digB_cons hx
      obtain ⟨d2, xs, rfl, d20, d21, hx⟩ := digB_cons hx
      obtain rfl := digB_nil hx
      simp only [List.map_cons, List.map_nil] at ex
      have md := fun i => vMod_pos (i := i) (j := (H.length : Nat)) H0
      have ml := fun i : Int => And.intro (Int.emod_nonneg i (b := (H.length : Nat)) (by omega)) (Int.emod_lt_of_pos i H0)
      have m2 := fun i => vMod_pos (i := i) (j := 2) (by omega)
      have dv := vDiv_pos (i := d0 % (H.length : Nat)) (j := 2) (by omega)
      obtain ⟨z1, hz1, i1⟩ := idxH (H := H) (ml d0).1 (ml d0).2 (by omega)
      obtain ⟨z2, hz2, i2⟩ := idxH (H := H) (ml d1).1 (ml d1).2 (by omega)
      obtain ⟨z3, hz3, i3⟩ := idxH (H := H) (ml k).1 (ml k).2 (by omega)
      obtain ⟨z4, hz4, i4⟩ := idxH (H := H) (ml (((k : Nat) : Int) + 1 + d1 % 2)).1 (ml (((k : Nat) : Int) + 1 + d1 % 2)).2 (by omega)
      obtain ⟨z5, hz5, i5⟩ := idxH (H := H) (i := d0 % (H.length : Nat) / 2) (by have := ml d0; omega) (by have := ml d0; omega) (by omega)
      obtain ⟨z6, hz6, i6⟩ := idxH (H := H) (ml (d0 % (H.length : Nat) + 1)).1 (ml (d0 % (H.length : Nat) + 1)).2 (by omega)
      obtain ⟨z7, hz7, i7⟩ := idxH (H := DE) d20 (by omega) (by omega)
      have nm := law_name_at_eq (s := s) (k := k) hs (by omega)
      refine ⟨_, rfl, ?_⟩
      have fin : ∀ (x y : Str), x ∈ H → y ∈ H → Drawn (G ++ [(nmA s k, ⟨x, y, z7⟩)]) s (k + 1) H ∧ (G ++ [(nmA s k, (⟨x, y, z7⟩ : Gr))]).length = k + 1 := fun x y hx hy => by
        refine ⟨⟨by rw [List.map_append, hD.1, List.range_succ, List.map_append]; rfl, fun p hp => ?_⟩, by rw [List.length_append, hG]; rfl⟩
        rcases List.mem_append.1 hp with g | g
        · exact hD.2 p g
        · rw [List.mem_singleton.1 g]; exact ⟨hx, hy⟩
      have app : ∀ (x y : Str), (gsT G).map kvE ++ [.tuple [.str (nmA s k), .tuple [.str x, .str y, .str z7]]] = (gsT (G ++ [(nmA s k, ⟨x, y, z7⟩)])).map kvE := fun x y => by
        unfold gsT
        rw [List.map_append, List.map_append]; rfl
      have lG : (gsT G).length = k := by rw [gsT_len, hG]
      by_cases e1 : c3 = 1
      · have e2 : ¬ (1 : Int) = 2 := by decide
        wp_walk using a2, ec, ex, vlH, md, i1, i2, k3, e1, e2, i3, m2, i4, k1, nm, i7
        obtain ⟨f1, f2⟩ := fin z3 z4 hz3 hz4
        exact ⟨by omega, _, _, _, _, _, by rw [app], f1, f2⟩
      · by_cases e2 : c3 = 2
        · wp_walk using a2, ec, ex, vlH, md, i1, i2, k3, e1, e2, dv, i5, i6, k1, nm, i7
          obtain ⟨f1, f2⟩ := fin z5 z6 hz5 hz6
          exact ⟨by omega, _, _, _, _, _, by rw [app], f1, f2⟩
        · wp_walk using a2, ec, ex, vlH, md, i1, i2, k3, e1, e2, k1, nm, i7
          obtain ⟨f1, f2⟩ := fin z1 z2 hz1 hz2
          exact ⟨by omega, _, _, _, _, _, by rw [app], f1, f2⟩
    · rintro _ ⟨G, o6, o7, o8, o9, rfl, hD, hG⟩
      exact ⟨G, _, _, _, _, rfl, hD⟩
  rintro _ ⟨G, o6, o7, o8, o9, rfl, hD⟩
  wp_walk
  exact ⟨G, rfl, hD⟩
theorem law_serves_2_eq (e : Str) (p : Str × Gr) : d_law_serves_2 [grE p.2, .str e] = .ok (.bool (srv e p)) := by
  rw [d_law_serves_2]
  refine run_eq ?_
  unfold srv
  by_cases h : p.2.d = e
  · wp_walk using grE_2, h
    simp
  · wp_walk using grE_2, h
    simp
def strIs (x : D) (w : Str) : Bool := match x with
  | .str z => decide (z = w)
  | _ => false
theorem law_word_4_eq (x : D) (w : Str) : d_law_word_4 [x, .str w] = .ok (.bool (strIs x w)) := by
  rw [d_law_word_4]
  refine run_eq ?_
  cases x <;> wp_walk <;> rfl
theorem look_mem {G : Gs} {z : Str} {x : Gr} (h : lookG G z = some x) : (z, x) ∈ G := by
  unfold lookG at h
  cases hf : G.find? fun p => decide (p.1 = z) with
  | none => rw [hf] at h; cases h
  | some p =>
    rw [hf] at h
    cases h
    have := List.find?_some hf
    simp only [decide_eq_true_eq] at this
    rw [← this]
    exact List.mem_of_find?_eq_some hf
def toldG (G : Gs) (x : D) : Gs := G.filter fun p => strIs x p.1
theorem find_filter {α : Type} (p : α → Bool) : ∀ l : List α, (l.filter p).head? = l.find? p
  | [] => rfl
  | a :: l => by
    cases h : p a with
    | true => rw [List.filter_cons_of_pos h, List.find?_cons_of_pos h]; rfl
    | false => rw [List.filter_cons_of_neg (by simp [h]), List.find?_cons_of_neg (by simp [h])]; exact find_filter p l
theorem told_head (G : Gs) (z : Str) : (toldG G (.str z)).head?.map Prod.snd = lookG G z := by
  unfold toldG lookG
  rw [find_filter]
  have : (fun p : Str × Gr => strIs (.str z) p.1) = fun p => decide (p.1 = z) := by
    funext p
    show decide (z = p.1) = _
    exact decide_eq_decide.2 eq_comm
  rw [this]
theorem told_str {G : Gs} {x : D} (h : toldG G x ≠ []) : ∃ z, x = .str z := by
  cases x with
  | str z => exact ⟨z, rfl⟩
  | _ => exact (h (List.filter_eq_nil_iff.2 fun p _ => by simp [strIs])).elim
theorem wkS_app (G : Gs) (e : Str) (b : List Str) : ∀ (a : List Str) (h : Str), wkS G e h (a ++ b) = (wkS G e h a).bind fun h' => wkS G e h' b
  | [], h => rfl
  | z :: a, h => by
    rw [List.cons_append]
    cases hz : lookG G z with
    | none => rw [wkS_none hz, wkS_none hz]; rfl
    | some x =>
      rw [wkS_some hz, wkS_some hz]
      split
      · exact wkS_app G e b a x.t
      · rfl
theorem law_is_chain_eq {G : Gs} (hG : GsOk G) (e hd : Str) (v : D) (hl : ∀ l, v = .tuple l → l.length ≤ 1000000) : d_law_is_chain [tbE (gsT G), .str hd, .str e, v] = .ok (.bool (chB G e hd v)) := by
  rw [d_law_is_chain]
  refine run_eq ?_
  cases v with
  | tuple l =>
    have ll := hl l rfl
    by_cases h24 : l.length ≤ 24
    · have g24 : ¬ (24 : Int) < (l.length : Nat) := by omega
      wp_walk using g24
      refine ws_rng l.length (fun k ρ => ∃ (h : Str) (a : List Str) (o5 o6 o7 : Option D), ρ = [some (tbE (gsT G)), some (.str hd), some (.str e), some (.tuple l), some (.str h), o5, o6, o7] ∧ l.take k = a.map .str ∧ a.Nodup ∧ (∀ z ∈ a, nmB z = true) ∧ wkS G e "master" a = some h) (iR1_nat (by wp_walk) (by omega)) ⟨_, [], _, _, _, rfl, rfl, .nil, fun z hz => (by cases hz), rfl⟩ ?_ ?_
      · rintro k hk _ ⟨h, a, o5, o6, o7, rfl, htk, nd, nn, hw⟩
        have hak : a.length = k := by
          have := congrArg List.length htk
          rw [List.length_take, List.length_map] at this
          omega
        have ix : vIdx (.tuple l) (.int (k : Nat)) = some l[k] := by
          rw [vIdx_tup (by omega) (by omega)]
          simp [hk]
        have lsplit : l = a.map .str ++ l[k] :: l.drop (k + 1) := by
          rw [← htk]
          have := List.take_append_drop k l
          rw [List.drop_eq_getElem_cons hk] at this
          exact this.symm
        have itc : ∀ x6 x7 : Option D, eComp [7] (gN 7) (iVal (eVar 0)) (tVal (eCall d_law_word_4 (aCons (eBin vIdx (eVar 3) (eVar 5)) (aCons (eBin vIdx (eVar 7) (eC (.int 0))) (aNil))))) (eBin vIdx (eVar 7) (eC (.int 1))) [some (tbE (gsT G)), some (.str hd), some (.str e), some (.tuple l), some (.str h), some (.int (k : Nat)), x6, x7] = .ok (.list ((toldG G l[k]).map fun p => grE p.2)) := by
          intros
          refine eComp_filter (fun p : Str × Gr => kvE (p.1, grE p.2)) (fun p => grE p.2) _ G (by wp_walk using items_gs) fun p hp => ⟨_, rfl, ?_, fun _ => by wp_walk using kvE_1⟩
          have wd := law_word_4_eq l[k] p.1
          wp_walk using ix, kvE_0, wd
        refine ⟨_, rfl, ?_⟩
        have hnone : ∀ b : List Str, l = b.map .str → a ++ (b.drop k) = b ∧ b.take k = a := fun b hb => by
          have h1 : (b.take k).map PyData.str = a.map .str := by rw [← htk, hb, List.map_take]
          have h2 : b.take k = a := (List.map_inj_right fun x y h => by cases h; rfl).1 h1
          exact ⟨by rw [← h2, List.take_append_drop], h2⟩
        cases ht : toldG G l[k] with
        | nil =>
          rw [ht] at itc
          wp_walk using itc
          have : chB G e hd (.tuple l) = false := by
            refine Bool.eq_false_iff.2 fun hc => ?_
            unfold chB at hc
            rw [Bool.and_eq_true] at hc
            obtain ⟨c1, c2⟩ := hc
            obtain ⟨b, hb, _⟩ := nmsB_tup c1
            have hb : l = b.map .str := by cases hb; rfl
            have c2 : decide (wkS G e "master" (l.map strOf) = some hd) = true := c2
            have hbl : b.length = l.length := by rw [hb, List.length_map]
            have hbk : l[k] = .str (b[k]'(by omega)) := by simp [hb]
            have hln : lookG G (b[k]'(by omega)) = none := by rw [← told_head, ← hbk, ht]; rfl
            rw [hb, strOf_map] at c2
            have := (hnone b hb).1
            rw [← this, wkS_app, hw, List.drop_eq_getElem_cons (by omega), Option.bind_some, wkS_none hln] at c2
            simp at c2
          rw [this]
        | cons p0 r0 =>
          obtain ⟨z, hz⟩ := told_str (G := G) (x := l[k]) (by rw [ht]; simp)
          have hlk : lookG G z = some p0.2 := by rw [← told_head, ← hz, ht]; rfl
          have hpm := look_mem hlk
          have n0 : ¬ ((r0.length + 1 : Nat) : Int) = 0 := by omega
          have n0' : ¬ ((r0.length : Int) + 1) = 0 := by omega
          have sl : vSlice (.tuple l) none (some (k : Int)) = some (.tuple (a.map .str)) := by rw [vSlice_to (by omega), htk]
          have vi := vIn_strT z a
          rw [hz] at ix
          rw [ht] at itc
          by_cases hza : z ∈ a
          · wp_walk using itc, n0, n0', ix, sl, vi, hza, Int.natCast_add, Int.natCast_one
            have : chB G e hd (.tuple l) = false := by
              refine Bool.eq_false_iff.2 fun hc => ?_
              unfold chB at hc
              rw [Bool.and_eq_true] at hc
              obtain ⟨b, hb, _, _, bn, _⟩ := nmsB_tup hc.1
              have hb : l = b.map .str := by cases hb; rfl
              have := (hnone b hb).1
              have hbl : b.length = l.length := by rw [hb, List.length_map]
              rw [← this, List.drop_eq_getElem_cons (by omega)] at bn
              have hbk : l[k] = .str (b[k]'(by omega)) := by simp [hb]
              rw [hz] at hbk
              cases hbk
              exact (List.nodup_append.1 bn).2.2 _ hza _ (List.mem_cons_self) rfl
            rw [this]
          · have s1 : d_law_serves_2 [grE p0.2, .str e] = .ok (.bool (srv e p0)) := law_serves_2_eq e p0
            have fail : ¬ (srv e p0 = true ∧ p0.2.g = h) → chB G e hd (.tuple l) = false := fun hf => by
              refine Bool.eq_false_iff.2 fun hc => ?_
              unfold chB at hc
              rw [Bool.and_eq_true] at hc
              obtain ⟨c1, c2⟩ := hc
              obtain ⟨b, hb, _⟩ := nmsB_tup c1
              have hb : l = b.map .str := by cases hb; rfl
              have c2 : decide (wkS G e "master" (l.map strOf) = some hd) = true := c2
              have hbl : b.length = l.length := by rw [hb, List.length_map]
              have hbk : l[k] = .str (b[k]'(by omega)) := by simp [hb]
              rw [hz] at hbk
              have ez : z = b[k]'(by omega) := by cases hbk; rfl
              rw [hb, strOf_map] at c2
              have := (hnone b hb).1
              rw [← this, wkS_app, hw, List.drop_eq_getElem_cons (by omega), Option.bind_some, ← ez, wkS_some hlk, if_neg (show ¬ (srv e (z, p0.2) = true ∧ p0.2.g = h) from hf)] at c2
              simp at c2
            cases hs : srv e p0 with
            | false =>
              wp_walk using itc, n0, n0', ix, sl, vi, hza, s1, hs, Int.natCast_add, Int.natCast_one
              rw [fail (by rw [hs]; simp)]
            | true =>
              by_cases hg : p0.2.g = h
              · wp_walk using itc, n0, n0', ix, sl, vi, hza, s1, hs, grE_0, grE_1, hg, Int.natCast_add, Int.natCast_one
                refine ⟨_, a ++ [z], _, _, _, rfl, ?_, nodup_snoc.2 ⟨nd, hza⟩, ?_, ?_⟩
                · rw [List.take_add_one, htk, List.getElem?_eq_getElem hk, hz, List.map_append]; rfl
                · intro y hy
                  rcases List.mem_append.1 hy with g | g
                  · exact nn y g
                  · rw [List.mem_singleton.1 g]; exact hG.2 _ hpm
                · rw [wkS_app, hw, Option.bind_some, wkS_some hlk, if_pos (show srv e (z, p0.2) = true ∧ p0.2.g = h from ⟨hs, hg⟩)]; rfl
              · wp_walk using itc, n0, n0', ix, sl, vi, hza, s1, hs, grE_0, hg, Int.natCast_add, Int.natCast_one
                rw [fail fun g => hg g.2]
      · rintro _ ⟨h, a, o5, o6, o7, rfl, htk, nd, nn, hw⟩
        rw [List.take_length] at htk
        subst htk
        wp_walk
        rw [chB_tup, hw]
        have : nmsB (.tuple (a.map .str)) 0 24 = true := by
          unfold nmsB
          rw [Bool.and_eq_true]
          refine ⟨decide_eq_true ⟨Nat.zero_le _, h24⟩, ?_⟩
          show nmsOk _ = true
          unfold nmsOk
          rw [Bool.and_eq_true, strOf_map]
          refine ⟨List.all_eq_true.2 fun y hy => ?_, decide_eq_true nd⟩
          obtain ⟨z, hz, rfl⟩ := List.mem_map.1 hy
          exact nn z hz
        rw [this]
        simp
    · have g24 : (24 : Int) < (l.length : Nat) := by omega
      wp_walk using g24
      have : nmsB (.tuple l) 0 24 = false := by
        unfold nmsB
        rw [show lenB (.tuple l) 0 24 = false from decide_eq_false fun h => h24 h.2]
        rfl
      unfold chB
      rw [this]; rfl
  | _ => wp_walk; all_goals rfl
def adjB (l : List D) : Bool := (List.range (l.length - 1)).all fun k => ltS (strOf (l.getD k .none)) (strOf (l.getD (k + 1) .none))
theorem ltS_tr {a b c : Str} (h : ltS a b = true) (h2 : ltS b c = true) : ltS a c = true := by
  unfold ltS at *
  simp only [decide_eq_true_eq] at *
  exact List.lt_trans h h2
theorem adj_lt {l : List D} (h : adjB l = true) : ∀ {j k : Nat}, j < k → k < l.length → ltS (strOf (l.getD j .none)) (strOf (l.getD k .none)) = true := by
  intro j k hjk
  induction k with
  | zero => omega
  | succ k ih =>
    intro hk
    have a := List.all_eq_true.1 h k (List.mem_range.2 (by omega))
    by_cases e : j = k
    · rw [e]; exact a
    · exact ltS_tr (ih (by omega) (by omega)) a
theorem ltS_irr (a : Str) : ltS a a = false := decide_eq_false (List.lt_irrefl _)
theorem adj_nodup {l : List D} (h : adjB l = true) : (l.map strOf).Nodup := by
  rw [List.nodup_iff_pairwise_ne]
  rw [List.pairwise_iff_getElem]
  intro i j hi hj hij e
  rw [List.length_map] at hi hj
  have := adj_lt h hij hj
  simp only [List.getElem_map] at e
  rw [show l.getD i .none = l[i] by simp [List.getD, hi], show l.getD j .none = l[j] by simp [List.getD, hj], e, ltS_irr] at this
  cases this
def ascLB (v : D) : Bool := match v with
  | .tuple l => l.all nameB && adjB l
  | _ => false
theorem ascB_ascL (v : D) (lo hi : Nat) : ascB v lo hi = (ascLB v && lenB v lo hi) := by
  unfold ascB
  cases v with
  | tuple l =>
    show (lenB (.tuple l) lo hi && ascOk l) = ((l.all nameB && adjB l) && lenB (.tuple l) lo hi)
    have : ascOk l = (l.all nameB && adjB l) := by
      unfold ascOk nmsOk
      show ((l.all nameB && decide (l.map strOf).Nodup) && adjB l) = _
      cases hj : adjB l with
      | false => simp
      | true => rw [decide_eq_true (adj_nodup hj)]; simp
    rw [this, Bool.and_comm]
  | _ => simp [ascLB, lenB]
theorem clB_len {G : Gs} {e h : Str} {ns : List Str} : clB G e h (.tuple (ns.map .str)) = (ascB (.tuple (ns.map .str)) 1 99 && clO G e h ns) := by
  unfold clB
  show (_ && clO G e h ((ns.map .str).map strOf)) = _
  rw [strOf_map]
def alnum : Str := Str.ofString "abcdefghijklmnopqrstuvwxyz" ++ Str.ofString "0123456789"
theorem in_alnum (c : Nat) : vIn (.str ⟨#[c]⟩) (.str alnum) = some (.bool (letC c || digC c)) := by
  show some (PyData.bool (decide (c ∈ alnum.cps.toList))) = _
  rw [show alnum.cps.toList = List.range' 97 26 ++ List.range' 48 10 by decide +kernel]
  refine congrArg (fun b => some (PyData.bool b)) (Bool.eq_iff_iff.2 ?_)
  simp [letC, digC, List.mem_range']
  constructor
  · rintro (⟨i, h1, rfl⟩ | ⟨i, h1, rfl⟩) <;> omega
  · rintro (h | h)
    · exact .inl ⟨c - 97, by omega, by omega⟩
    · exact .inr ⟨c - 48, by omega, by omega⟩
theorem law_is_name_4_eq (x : D) : d_law_is_name_4 [x] = .ok (.bool (nameB x)) := by
  rw [d_law_is_name_4]
  refine run_eq ?_
  cases x with
  | str z =>
    show WS _ _ (fun v => v = .bool (nmL' z.cps.toList)) _ _
    obtain ⟨l, hl⟩ : ∃ l, l = z.cps.toList := ⟨_, rfl⟩
    have zl : z.length = l.length := by rw [hl]; simp [Str.length]
    have vl : vLen (.str z) = some (.int (l.length : Nat)) := by show some (PyData.int (z.length : Nat)) = _; rw [zl]
    have it : itemsD (.str z) = some (l.map fun c => .str ⟨#[c]⟩) := by rw [hl]; rfl
    rw [← hl]
    by_cases h : 1 ≤ l.length ∧ l.length ≤ 12
    · have h1 : (1 : Int) ≤ (l.length : Nat) := by omega
      have h2 : ((l.length : Nat) : Int) ≤ 12 := by omega
      cases hq : l with
      | nil => rw [hq] at h; simp at h
      | cons c r =>
        have v0 : vIdx (.str z) (.int 0) = some (.str ⟨#[c]⟩) := by
          show (L2.atI z.cps.toList ((0 : Nat) : Int)).map _ = _
          rw [← hl, hq, atI_nat' (by simp)]
          rfl
        rw [← hq]
        cases hc : letC c with
        | false =>
          wp_walk using vl, v0, in_let, hc, h1, h2
          simp [nmL', hq, hc]
        | true =>
          have va : vAdd (.str "abcdefghijklmnopqrstuvwxyz") (.str "0123456789") = some (.str alnum) := vAdd_str (by decide)
          have itc : ∀ x2 : Option D, eComp [2] (gN 2) (iVal (eVar 0)) tTrue (eBin vIn (eVar 2) (eBin vAdd (eVar 1) (eC (.str "0123456789")))) [some (.str z), some (.str "abcdefghijklmnopqrstuvwxyz"), x2] = .ok (.list (l.map fun c => .bool (letC c || digC c))) := by
            intros
            exact eComp_map (fun c => .str ⟨#[c]⟩) (fun c => .bool (letC c || digC c)) l (by wp_walk using it) fun x hx => ⟨_, rfl, by wp_walk using va, in_alnum⟩
          wp_walk using vl, v0, in_let, hc, h1, h2, itc, vAll_map
          have : nmL' l = l.all fun c => letC c || digC c := by
            unfold nmL'
            rw [decide_eq_true h, hq]
            simp [hc]
          rw [this]
    · by_cases h1 : (1 : Int) ≤ (l.length : Nat)
      · have h2 : ¬ ((l.length : Nat) : Int) ≤ 12 := by omega
        wp_walk using vl, h1, h2
        simp [nmL', h]
      · wp_walk using vl, h1
        simp [nmL', h]
  | _ => wp_walk; rfl
theorem law_ascending_eq (v : D) (hl : ∀ l, v = .tuple l → l.length ≤ 1000000) : d_law_ascending [v] = .ok (.bool (ascLB v)) := by
  rw [d_law_ascending]
  refine run_eq ?_
  cases v with
  | tuple l =>
    have ll := hl l rfl
    have it1 : ∀ x1 x2 : Option D, eComp [1] (gN 1) (iVal (eVar 0)) tTrue (eCall d_law_is_name_4 (aCons (eVar 1) aNil)) [some (.tuple l), x1, x2] = .ok (.list (l.map fun x => .bool (nameB x))) := by
      intros
      have := eComp_map (vs := [1]) (g := gN 1) (it := iVal (eVar 0)) (e := eCall d_law_is_name_4 (aCons (eVar 1) aNil)) (id : D → D) (fun x => .bool (nameB x)) l (ρ := [some (.tuple l), ‹_›, ‹_›]) (by rw [List.map_id]; wp_walk) fun x hx => ⟨_, rfl, by wp_walk using law_is_name_4_eq, id⟩
      exact this
    cases ha : l.all nameB with
    | false =>
      wp_walk using it1, vAll_map, ha
      simp [ascLB, ha]
    | true =>
      have it : ∀ x1 x2 : Option D, eComp [2] (gN 2) (iR1 true (eBin vSub (eUn vLen (eVar 0)) (eC (PyData.int 1)))) tTrue (eBin vLt (eBin vIdx (eVar 0) (eVar 2)) (eBin vIdx (eVar 0) (eBin vAdd (eVar 2) (eC (PyData.int 1))))) [some (PyData.tuple l), x1, x2] = .ok (.list ((List.range (l.length - 1)).map fun k => .bool (ltS (strOf (l.getD k .none)) (strOf (l.getD (k + 1) .none))))) := by
        intros
        refine eComp_map (fun i : Nat => .int (i : Nat)) (fun k => .bool (ltS (strOf (l.getD k .none)) (strOf (l.getD (k + 1) .none)))) (List.range (l.length - 1)) ?_ fun k hk => ⟨_, rfl, ?_⟩
        · wp_walk using vRange1_pred _ l.length (by omega)
        · have hk := List.mem_range.1 hk
          have i1 := idxD (l := l) (k := k) (by omega)
          have i2 := idxD (l := l) (k := k + 1) (by omega)
          have n1 : nameB (l.getD k .none) = true := List.all_eq_true.1 ha _ (getD_memD (by omega))
          have n2 : nameB (l.getD (k + 1) .none) = true := List.all_eq_true.1 ha _ (getD_memD (by omega))
          obtain ⟨z1, e1⟩ := nameB_str n1
          obtain ⟨z2, e2⟩ := nameB_str n2
          have a1 : ((k : Nat) : Int) + 1 = ((k + 1 : Nat) : Int) := by omega
          rw [e1] at i1
          rw [e2] at i2
          rw [e1, e2]
          wp_walk using i1, a1, i2
          rfl
      wp_walk using it1, it, vAll_map, ha
      simp [ascLB, ha, adjB]
  | _ => wp_walk; all_goals rfl
theorem law_is_closed_eq (G : Gs) (e h : Str) (v : D) (hl : ∀ l, v = .tuple l → l.length ≤ 1000000) : d_law_is_closed [tbE (gsT G), .str h, .str e, v] = .ok (.bool (clB G e h v)) := by
  have ia := law_ascending_eq v hl
  rw [d_law_is_closed]
  refine run_eq ?_
  cases ha : ascLB v with
  | false =>
    wp_walk using ia, ha
    unfold clB
    rw [ascB_ascL, ha]
    rfl
  | true =>
    have : ∃ ns : List Str, v = .tuple (ns.map .str) := by
      unfold ascLB at ha
      cases v with
      | tuple l =>
        have ha : (l.all nameB && adjB l) = true := ha
        exact ⟨l.map strOf, by rw [← nms_strs (Bool.and_eq_true_iff.1 ha).1]⟩
      | _ => cases ha
    obtain ⟨ns, rfl⟩ := this
    have vl : vLen (.tuple (ns.map .str)) = some (.int (ns.length : Nat)) := by rw [vLen_tup, List.length_map]
    rw [clB_len, ascB_ascL, ha, Bool.true_and]
    have n1 := vNotIn_strT (Str.ofString "master") ns
    have n2 := vIn_strT h ns
    by_cases h99 : ns.length ≤ 99
    · have g99 : ¬ (99 : Int) < (ns.length : Nat) := by omega
      by_cases hm : Str.ofString "master" ∈ ns
      · have hlen : lenB (.tuple (ns.map .str)) 1 99 = true := by
          refine decide_eq_true ?_
          rw [List.length_map]
          exact ⟨List.length_pos_of_mem hm, h99⟩
        rw [hlen, Bool.true_and]
        unfold clO
        by_cases hh : h ∈ ns
        · wp_walk using ia, ha, vl, g99, n1, hm, n2, hh
          all_goals simp [hm, hh]
        · wp_walk using ia, ha, vl, g99, n1, hm, n2, hh
          refine ws_all (fun p : Str × Gr => kvE (p.1, grE p.2)) (fun p => !(srv e p && (decide (p.2.g ∈ ns) && !decide (p.2.t ∈ ns)))) G (fun ρ => ∃ o4 o5 : Option D, ρ = [some (tbE (gsT G)), some (.str h), some (.str e), some (.tuple (ns.map .str)), o4, o5]) (by wp_walk using items_gs) ⟨_, _, rfl⟩ ?_ ?_ ?_
          · rintro p hp _ ⟨o4, o5, rfl⟩
            have s1 := law_serves_2_eq e p
            have g1 := vIn_strT p.2.g ns
            have g2 := vNotIn_strT p.2.t ns
            refine ⟨_, rfl, ?_⟩
            cases hs : srv e p
            · wp_walk using kvE_1, s1, hs
              exact ⟨_, _, rfl⟩
            · by_cases hg : p.2.g ∈ ns
              · by_cases ht : p.2.t ∈ ns
                · wp_walk using kvE_1, s1, hs, grE_0, grE_1, g1, g2, hg, ht
                  exact ⟨_, _, rfl⟩
                · wp_walk using kvE_1, s1, hs, grE_0, grE_1, g1, g2, hg, ht
              · wp_walk using kvE_1, s1, hs, grE_0, grE_1, g1, g2, hg
                exact ⟨_, _, rfl⟩
          · intro hf
            rw [hf]; simp
          · rintro _ ⟨o4, o5, rfl⟩ hf
            wp_walk
            rw [hf]; simp [hm, hh]
      · wp_walk using ia, ha, vl, g99, n1, hm
        all_goals simp [clO, hm]
    · have g99 : (99 : Int) < (ns.length : Nat) := by omega
      wp_walk using ia, ha, vl, g99
      have : lenB (.tuple (ns.map .str)) 1 99 = false := by
        refine decide_eq_false fun hc => ?_
        rw [List.length_map] at hc
        exact h99 hc.2
      rw [this]; rfl
theorem len_tb (T : Tb) : vLen (tbE T) = some (.int (T.length : Nat)) := by rw [tbE, vLen_tup, List.length_map]
theorem unp_gs (i j : Nat) (p : Str × Gr) (ρ : Lo) : gT 2 (gsCons (gN i) (gsCons (gN j) gsNil)) (kvE (p.1, grE p.2)) ρ = some ((ρ.set i (some (.str p.1))).set j (some (grE p.2))) := rfl
theorem law_reach_2_x (G : Gs) (hl : G.length ≤ 24) (e : Str) : d_law_reach_2 [tbE (gsT G), .str e] = .ok (.list [.list ((reach G e).map .str), wysD (ways G e)]) := by
  rw [d_law_reach_2]
  refine run_eq ?_
  have vlG : vLen (tbE (gsT G)) = some (.int (G.length : Nat)) := by rw [len_tb, gsT_len]
  row_walk
  refine ws_mid (fun ρ => ∃ o4 o5 o6 : Option D, ρ = [some (tbE (gsT G)), some (.str e), some (.list ((reach G e).map .str)), some (wysD (ways G e)), o4, o5, o6]) ?_ ?_
  · refine ws_rng (G.length + 1) (fun k ρ => ∃ (R : RWs) (o4 o5 o6 : Option D), ρ = [some (tbE (gsT G)), some (.str e), some (.list ((R.map Prod.fst).map .str)), some (.list (R.map fun q => tpS q.2)), o4, o5, o6] ∧ (∀ w ∈ R, w.2.length ≤ k) ∧ RI G e (min k R.length) (R.map Prod.fst) ∧ bfsW G e (G.length + 1 - k) k R = ways G e) (iR1_nat (by wp_walk using vlG; rfl) (by omega)) ⟨[(mst, [])], _, _, _, rfl, by simp, .start G e, rfl⟩ ?_ ?_
    · rintro k hk _ ⟨R, o4, o5, o6, rfl, ww, hR, hb⟩
      have hRl := hR.len
      rw [List.length_map] at hRl
      have vl : vLen (.list ((R.map Prod.fst).map .str)) = some (.int (R.length : Nat)) := by rw [vLen_list, List.length_map, List.length_map]
      refine ⟨_, rfl, ?_⟩
      by_cases hc : k < R.length
      · have hc' : (k : Int) < (R.length : Nat) := by omega
        have hx : R[k]? = some R[k] := List.getElem?_eq_getElem hc
        have hx1 : (R.map Prod.fst)[k]? = some R[k].1 := by rw [List.getElem?_map, hx]; rfl
        have hwl := ww R[k] (List.getElem_mem hc)
        obtain ⟨x, hxe⟩ : ∃ x, x = R[k] := ⟨_, rfl⟩
        rw [← hxe] at hx hx1 hwl
        rw [show G.length + 1 - k = (G.length - k) + 1 by omega, bfsW_some hx] at hb
        rw [show min k R.length = k by omega] at hR
        have hR2 := hR.step hx1
        rw [← stepW_fst e x.1 x.2] at hR2
        have hR2l := hR2.len
        rw [List.length_map] at hR2l
        wp_walk using vl, hc'
        refine ws_forE (fun p : Str × Gr => kvE (p.1, grE p.2)) G (fun rest ρ => ∃ (R' : RWs) (o5 o6 : Option D), ρ = [some (tbE (gsT G)), some (.str e), some (.list ((R'.map Prod.fst).map .str)), some (.list (R'.map fun q => tpS q.2)), some (.int (k : Nat)), o5, o6] ∧ stepW e x.1 x.2 rest R' = stepW e x.1 x.2 G R ∧ R'[k]? = some x ∧ (∀ w ∈ R', w.2.length ≤ k + 1) ∧ R'.length + rest.length ≤ 60) (by wp_walk using items_gs) ⟨R, _, _, rfl, rfl, hx, fun w hw => Nat.le_succ_of_le (ww w hw), by omega⟩ ?_ ?_
        · rintro p rest _ ⟨R', o5, o6, rfl, hs, hk', ww', hl'⟩
          have s1 := law_serves_2_eq e p
          obtain ⟨hkl, hke⟩ := List.getElem?_eq_some_iff.1 hk'
          have ix : vIdx (.list ((R'.map Prod.fst).map .str)) (.int (k : Nat)) = some (.str x.1) := by
            rw [vIdx_list (by omega) (by rw [List.length_map, List.length_map]; omega)]
            simp [hkl, hke]
          have ix2 : vIdx (.list (R'.map fun q => tpS q.2)) (.int (k : Nat)) = some (tpS x.2) := by
            rw [vIdx_list (by omega) (by rw [List.length_map]; omega)]
            simp [hkl, hke]
          have va : vAdd (tpS x.2) (.tuple [.str p.1]) = some (tpS (x.2 ++ [p.1])) := by
            unfold tpS
            rw [vAdd_tup (by rw [List.length_map]; simp; omega), List.map_append]; rfl
          have ni := vNotIn_strL p.2.t (R'.map Prod.fst)
          rw [stepW_cons] at hs
          rw [List.length_cons] at hl'
          refine ⟨_, unp_gs 5 6 p _, ?_⟩
          cases h1 : srv e p with
          | false =>
            rw [if_neg (by rw [h1]; simp)] at hs
            wp_walk using s1, h1
            exact ⟨R', _, _, rfl, hs, hk', ww', by omega⟩
          | true =>
            by_cases h2 : p.2.g = x.1
            · by_cases h3 : p.2.t ∈ R'.map Prod.fst
              · rw [if_neg fun h => h.2.2 h3] at hs
                wp_walk using s1, h1, grE_0, grE_1, ix, h2, ni, h3
                exact ⟨R', _, _, rfl, hs, hk', ww', by omega⟩
              · rw [if_pos ⟨h1, h2, h3⟩] at hs
                wp_walk using s1, h1, grE_0, grE_1, ix, ix2, va, h2, ni, h3
                refine ⟨by omega, by omega, R' ++ [(p.2.t, x.2 ++ [p.1])], _, _, by rw [List.map_append, List.map_append, List.map_append]; rfl, hs, by rw [List.getElem?_append_left hkl]; exact hk', fun w hw => ?_, by rw [List.length_append]; simp; omega⟩
                rcases List.mem_append.1 hw with g | g
                · exact ww' w g
                · rw [List.mem_singleton.1 g, List.length_append]; simp; omega
            · rw [if_neg fun h => h2 h.2.1] at hs
              wp_walk using s1, h1, grE_0, grE_1, ix, h2
              exact ⟨R', _, _, rfl, hs, hk', ww', by omega⟩
        · rintro _ ⟨R', o5, o6, rfl, hs, hk', ww', hl'⟩
          have hs : R' = stepW e x.1 x.2 G R := hs
          subst hs
          wp_walk
          have hlen : R.length ≤ (stepW e x.1 x.2 G R).length := by
            obtain ⟨M, hM, _⟩ := stepW_new e x.1 x.2 G R
            rw [hM, List.length_append]; omega
          exact ⟨_, _, _, _, rfl, ww', by rw [show min (k + 1) (stepW e x.1 x.2 G R).length = k + 1 by omega]; exact hR2, by rw [show G.length + 1 - (k + 1) = G.length - k by omega]; exact hb⟩
      · have hc' : ¬ (k : Int) < (R.length : Nat) := by omega
        wp_walk using vl, hc'
        rw [bfsW_stop (by omega)] at hb
        exact ⟨R, _, _, _, rfl, fun w hw => Nat.le_succ_of_le (ww w hw), by rw [show min (k + 1) R.length = min k R.length by omega]; exact hR, by rw [bfsW_stop (by omega)]; exact hb⟩
    · rintro _ ⟨R, o4, o5, o6, rfl, ww, hR, hb⟩
      rw [show G.length + 1 - (G.length + 1) = 0 by omega] at hb
      have hb : R = ways G e := hb
      subst hb
      exact ⟨_, _, _, by rw [ways_fst]; rfl⟩
  rintro _ ⟨o4, o5, o6, rfl⟩
  wp_walk
theorem lenOf {v : D} (hv : szD v ≤ 1000000) : ∀ l, v = .tuple l → l.length ≤ 1000000 := fun l e => by
  subst e
  have := szDs_len l
  have : szD (.tuple l) = 1 + szDs l := by simp only [szD]
  omega
def rgtB (G : Gs) (e hd : Str) (p : D) : Bool := match p with
  | .tuple [a, b] => if strIs a "chain" = true then chB G e hd b else strIs a "closed" && clB G e hd b
  | _ => false
theorem law_right_19_eq {G : Gs} (hG : GsOk G) (e hd : Str) {x : D} (hx : szD x ≤ 1000000) : d_law_right_19 [tbE (gsT G), .str hd, .str e, x] = .ok (.bool (rgtB G e hd x)) := by
  have wd : ∀ x w, d_law_word_4 [x, .str w] = .ok (.bool (strIs x w)) := law_word_4_eq
  rw [d_law_right_19]
  refine run_eq ?_
  cases x with
  | tuple l =>
    match l with
    | [] => wp_walk; rfl
    | [x] => wp_walk; rfl
    | [a, b] =>
      have hb : szD b ≤ 1000000 := by
        simp only [szD, szDs] at hx
        omega
      have ic := law_is_closed_eq G e hd b (lenOf hb)
      have ih := law_is_chain_eq hG e hd b (lenOf hb)
      cases ha : strIs a "chain" with
      | true =>
        wp_walk using wd, ha, ih
        simp [rgtB, ha]
      | false =>
        cases hh : strIs a "closed" with
        | false =>
          wp_walk using wd, ha, hh
          simp [rgtB, ha, hh]
        | true =>
          wp_walk using wd, ha, hh, ic
          simp [rgtB, ha, hh]
    | _ :: _ :: _ :: r =>
      have : ¬ (((r.length + 1 + 1 + 1 : Nat) : Int) = 2) := by omega
      wp_walk using this
      rfl
  | _ => wp_walk; rfl
theorem eAnd_t {a b : DE} {ρ : Lo} {v : Res D} (h : a ρ = .ok (.bool true)) (h2 : b ρ = v) : eAnd a b ρ = v := by
  unfold eAnd; rw [h]; exact h2
theorem law_same_3_refl (n : Nat) (y : D) (h : okS n y) : d_law_same_3 n [y, y] = .ok (.bool true) := by
  induction n generalizing y with
  | zero => exact h.elim
  | succ n ih =>
  cases y with
  | none =>
    rw [d_law_same_3]
    refine run_eq ?_
    walk_at "ev"
    refine ws_off (by walk_at "ev") ?_
    refine ws_off (by walk_at "ev") ?_
    exact ws_onret (by walk_at "ev") (by walk_at "ev") rfl
  | bool b =>
    rw [d_law_same_3]
    refine run_eq ?_
    walk_at "ev"
    refine ws_off (by walk_at "ev") ?_
    refine ws_off (by walk_at "ev") ?_
    refine ws_off (by walk_at "ev") ?_
    refine ws_onret (v := .bool true) (by walk_at "ev") ?_ rfl
    simp only [eAnd, eUn, eVar, eBin, List.getElem?_cons_succ, List.getElem?_cons_zero, bind_ok, isi_bool_b, up_some, truthD, if_true, vEq_bool, decide_true]
  | int b =>
    rw [d_law_same_3]
    refine run_eq ?_
    walk_at "ev"
    refine ws_off (by walk_at "ev") ?_
    refine ws_off (by walk_at "ev") ?_
    refine ws_off (by walk_at "ev") ?_
    refine ws_off (by walk_at "ev") ?_
    refine ws_back (v := .bool true) ?_ rfl
    simp only [eAnd, eUn, eVar, eBin, List.getElem?_cons_succ, List.getElem?_cons_zero, bind_ok, isi_int_i, up_some, truthD, if_true, vEq_int, decide_true]
  | str b =>
    rw [d_law_same_3]
    refine run_eq ?_
    walk_at "ev"
    refine ws_off (by walk_at "ev") ?_
    refine ws_onret (v := .bool true) (by walk_at "ev") ?_ rfl
    simp only [eAnd, eUn, eVar, eBin, List.getElem?_cons_succ, List.getElem?_cons_zero, bind_ok, isi_str_s, up_some, truthD, if_true, vEq_str, decide_true]
  | tuple l =>
    rw [d_law_same_3]
    refine run_eq ?_
    walk_at "ev"
    refine ws_onret (v := .bool true) (by walk_at "ev") ?_ rfl
    refine eAnd_t (by walk_at "ev"; rw [decide_eq_true trivial]) ?_
    rw [eAll_comp (fun i : Nat => .int (i : Nat)) (fun _ => true) (List.range l.length) (iR1_nat (by walk_at "ev") h.1)]
    · simp
    · intro i hi
      have hi := List.mem_range.1 hi
      refine ⟨_, rfl, ?_⟩
      walk_at "ev"
      rw [vIdx_tup (by omega) (by omega)]
      simp only [Int.toNat_natCast, List.getElem?_eq_getElem hi, up_some, bind_ok]
      exact ih _ (h.2 _ (List.getElem_mem hi))
  | list l => exact h.elim
  | dict l => exact h.elim
theorem stepL_len {α : Type} (xs : List α) (lo hi : Option Int) (c : Int) : (stepL xs lo hi c).length ≤ xs.length := by
  unfold stepL
  refine Nat.le_trans (List.length_filterMap_le _ _) (sliceRange_length_le _ _ _ _ (fun hc => ?_) fun hc => ?_)
  · simp only [sliceBounds, Option.getD_some] at hc ⊢
    simp only [hc, if_true]
    constructor
    · cases lo with
      | none => simp
      | some i => dsimp only; omega
    · cases hi with
      | none => simp
      | some i => dsimp only; omega
  · simp only [sliceBounds, Option.getD_some] at hc ⊢
    simp only [hc, if_false]
    constructor
    · cases lo with
      | none => simp
      | some i => dsimp only; omega
    · cases hi with
      | none => simp
      | some i => dsimp only; omega
theorem stepL_mem {α : Type} {xs : List α} {lo hi : Option Int} {c : Int} {x : α} (h : x ∈ stepL xs lo hi c) : x ∈ xs := by
  unfold stepL at h
  obtain ⟨i, _, hi⟩ := List.mem_filterMap.1 h
  exact List.mem_of_getElem? hi
theorem law_some_eq (L : List D) (start most : Int) (hm : 0 < most) (hm2 : most < 100000) (hl : L.length ≤ 10000000) : ∃ M : List D, d_law_some_2 [.list L, .int start, .int most] = .ok (.list M) ∧ (∀ x ∈ M, x ∈ L) ∧ M.length ≤ L.length := by
  have hs : (1 : Int) + (L.length : Nat) / most ≠ 0 := by
    have := Int.ediv_nonneg (show (0 : Int) ≤ (L.length : Nat) by omega) (Int.le_of_lt hm)
    omega
  have hp : (0 : Int) < 1 + (L.length : Nat) / most := by
    have := Int.ediv_nonneg (show (0 : Int) ≤ (L.length : Nat) by omega) (Int.le_of_lt hm)
    omega
  refine ⟨stepL L (some (start % (1 + (L.length : Nat) / most))) none (1 + (L.length : Nat) / most), ?_, fun x hx => stepL_mem hx, stepL_len ..⟩
  have v1 : vDiv (.int (L.length : Nat)) (.int most) = some (.int ((L.length : Nat) / most)) := vDiv_pos hm (by omega)
  have v2 : vMod (.int start) (.int (1 + (L.length : Nat) / most)) = some (.int (start % (1 + (L.length : Nat) / most))) := vMod_pos hp
  have v3 : vStep (.list L) (some (start % (1 + (L.length : Nat) / most))) none (some (1 + (L.length : Nat) / most)) = some (.list (stepL L (some (start % (1 + (L.length : Nat) / most))) none (1 + (L.length : Nat) / most))) := if_pos ⟨hs, by rw [line_eq]; have := stepL_len L (some (start % (1 + (L.length : Nat) / most))) none (1 + (L.length : Nat) / most); omega⟩
  rw [d_law_some_2]
  refine run_eq ?_
  wp_walk using v1, v2, v3
theorem nmA_list (s k : Nat) : (nmA s k).cps.toList = if s = 0 then [97 + k] else if s = 1 then [115, 111, 109, 101, 97 + k, 57] else if k < 12 then List.replicate (k + 1) 97 else List.replicate (k - 11) 98 := by
  unfold nmA
  split
  · rfl
  · split
    · rw [str_app_list, str_app_list, show (Str.ofString "some").cps.toList = [115, 111, 109, 101] by decide, show (Str.ofString "9").cps.toList = [57] by decide]
      rfl
    · split
      · rw [repS_list, show (Str.ofString "a").cps.toList = [97] by decide]
        simp
      · rw [repS_list, show (Str.ofString "b").cps.toList = [98] by decide]
        simp
theorem nmA_nm_all : ∀ s ∈ List.range 3, ∀ k ∈ List.range 24, nmL' (if s = 0 then [97 + k] else if s = 1 then [115, 111, 109, 101, 97 + k, 57] else if k < 12 then List.replicate (k + 1) 97 else List.replicate (k - 11) 98) = true := by decide +kernel
theorem nmA_nm {s k : Nat} (hs : s ≤ 2) (hk : k < 24) : nmB (nmA s k) = true := by
  unfold nmB
  rw [nmA_list]
  exact nmA_nm_all s (List.mem_range.2 (by omega)) k (List.mem_range.2 hk)
theorem nmA_inj {s j k : Nat} (hj : j < 24) (hk : k < 24) (h : nmA s j = nmA s k) : j = k := by
  have h := congrArg (fun z : Str => z.cps.toList) h
  simp only [nmA_list] at h
  split at h
  · simpa using h
  · split at h
    · simpa using h
    · split at h <;> split at h
      · have := congrArg List.length h
        simp at this
        exact this
      · have h1 := congrArg (fun l => l.head?) h
        have : k - 11 ≠ 0 := by omega
        simp [List.head?_replicate, this] at h1
      · have h1 := congrArg (fun l => l.head?) h
        have : j - 11 ≠ 0 := by omega
        simp [List.head?_replicate, this] at h1
      · have := congrArg List.length h
        simp at this
        omega
theorem nmA_nodup (s n : Nat) (hn : n ≤ 24) : ((List.range n).map (nmA s)).Nodup := by
  refine List.pairwise_map.2 (List.Pairwise.imp_of_mem ?_ List.nodup_range)
  intro a b ha hb hab e
  have ha := List.mem_range.1 ha
  have hb := List.mem_range.1 hb
  exact hab (nmA_inj (by omega) (by omega) e)
/-- a simple paper: none, bool, int, text; or a tuple of these -/
def smB : D → Bool
  | .none => true
  | .bool _ => true
  | .int _ => true
  | .str z => decide (z.length ≤ 1001)
  | _ => false
theorem sm_bp {n : Nat} {x : D} (h : smB x = true) : bpS 1001 (n + 1) x := by
  cases x with
  | str z =>
    have h : decide (z.length ≤ 1001) = true := h
    show z.length ≤ 1001
    exact of_decide_eq_true h
  | none => trivial
  | bool b => trivial
  | int i => trivial
  | _ => cases h
theorem sm_sz {x : D} (h : smB x = true) : szD x = 1 := by
  cases x <;> first | rfl | cases h
theorem pap_at {x : D} (h : smB x = true) : PapS x := ⟨sm_bp h, by rw [sm_sz h]; omega⟩
theorem sms_sz : ∀ {l : List D}, (∀ x ∈ l, smB x = true) → szDs l = l.length
  | [], _ => rfl
  | x :: l, h => by
    rw [szDs, sm_sz (h x (by simp)), sms_sz fun y hy => h y (by simp [hy]), List.length_cons]; omega
theorem pap_sm {l : List D} (h : l.all smB = true) (hl : l.length ≤ 90000) : PapS (.tuple l) :=
  papT (fun x hx => sm_bp (List.all_eq_true.1 h x hx)) (by rw [sms_sz fun x hx => List.all_eq_true.1 h x hx]; exact hl)
theorem pap_snoc {L : List D} (h : ∀ p ∈ L, PapS p) {x : D} (hx : PapS x) : ∀ p ∈ L ++ [x], PapS p := fun p hp => by
  rcases List.mem_append.1 hp with g | g
  · exact h p g
  · rw [List.mem_singleton.1 g]; exact hx
def encP (S : Sz) : List (D × D) := S.map fun p => (.str p.1, .int (p.2 : Nat))
theorem findP_S (z : Str) : ∀ S : Sz, findP (encP S) (.str z) = (lookS S z).map fun n => PyData.int (n : Nat)
  | [] => rfl
  | p :: S => by
    have ih := findP_S z S
    rw [lookS_cons]
    unfold findP encP at *
    rw [List.map_cons]
    by_cases h : p.1 = z
    · rw [List.find?_cons_of_pos (by rw [keyIs_str]; simp [h]), if_pos h]; rfl
    · rw [List.find?_cons_of_neg (by rw [keyIs_str]; simp [h]), if_neg h]; exact ih
theorem hands_that_may_eq (G : Gs) (hl : G.length ≤ 24) (e : Str) : d_hands_that_may [tbE (gsT G), .str e] = .ok (.tuple ((sortS (reach G e)).map .str)) := by
  rw [d_hands_that_may]
  refine run_eq ?_
  row_walk
  refine ws_mid (fun ρ => ∃ o3 o4 o5 : Option D, ρ = [some (tbE (gsT G)), some (.str e), some (.list ((reach G e).map .str)), o3, o4, o5]) ?_ ?_
  · refine ws_while (fun n ρ => ∃ (k : Nat) (R : List Str) (o4 o5 : Option D), n + k = G.length + 1 ∧ RI G e k R ∧ bfs G e n k R = reach G e ∧ ρ = [some (tbE (gsT G)), some (.str e), some (.list (R.map .str)), some (.int (k : Nat)), o4, o5]) (k := G.length + 1) (by unfold wFuel; omega) ⟨0, [mst], _, _, rfl, .start G e, rfl, rfl⟩ ?_
    rintro n _ ⟨k, R, o4, o5, hnk, hR, hb, rfl⟩
    have hRl := hR.len
    have vl : vLen (.list (R.map .str)) = some (.int (R.length : Nat)) := by rw [vLen_list, List.length_map]
    refine ⟨decide (k < R.length), ?_, fun hc => ?_, fun hc => ?_⟩
    · wp_walk using vl
      simp
    · have hc := of_decide_eq_true hc
      obtain ⟨n, rfl⟩ : ∃ m, n = m + 1 := ⟨n - 1, by omega⟩
      have hx : R[k]? = some R[k] := List.getElem?_eq_getElem hc
      row_walk
      refine ws_mid (fun ρ => ∃ o4 o5 : Option D, ρ = [some (tbE (gsT G)), some (.str e), some (.list ((stepR e R[k] G R).map .str)), some (.int (k : Nat)), o4, o5]) ?_ ?_
      · refine ws_forE (fun p : Str × Gr => kvE (p.1, grE p.2)) G (fun rest ρ => ∃ (R' : List Str) (o4 o5 : Option D), ρ = [some (tbE (gsT G)), some (.str e), some (.list (R'.map .str)), some (.int (k : Nat)), o4, o5] ∧ stepR e R[k] rest R' = stepR e R[k] G R ∧ R'[k]? = some R[k] ∧ R'.length + rest.length ≤ 60) (by wp_walk using items_gs) ⟨R, _, _, rfl, rfl, hx, by omega⟩ ?_ ?_
        · rintro p rest _ ⟨R', o4, o5, rfl, hs, hk', hl'⟩
          have s1 := serves_eq e p
          obtain ⟨hkl, hke⟩ := List.getElem?_eq_some_iff.1 hk'
          have ix : vIdx (.list (R'.map .str)) (.int (k : Nat)) = some (.str R[k]) := by
            rw [vIdx_list (by omega) (by rw [List.length_map]; omega)]
            simp [hkl, hke]
          have ni := vNotIn_strL p.2.t R'
          rw [stepR_cons] at hs
          rw [List.length_cons] at hl'
          refine ⟨_, rfl, ?_⟩
          cases h1 : srv e p with
          | false =>
            rw [if_neg (by rw [h1]; simp)] at hs
            wp_walk using kvE_1, s1, h1
            exact ⟨R', _, _, rfl, hs, hk', by omega⟩
          | true =>
            by_cases h2 : p.2.g = R[k]
            · by_cases h3 : p.2.t ∈ R'
              · rw [if_neg fun h => h.2.2 h3] at hs
                wp_walk using kvE_1, s1, h1, grE_0, grE_1, ix, h2, ni, h3
                exact ⟨R', _, _, rfl, hs, hk', by omega⟩
              · rw [if_pos ⟨h1, h2, h3⟩] at hs
                wp_walk using kvE_1, s1, h1, grE_0, grE_1, ix, h2, ni, h3
                exact ⟨by omega, R' ++ [p.2.t], _, _, by rw [List.map_append]; rfl, hs, by rw [List.getElem?_append_left hkl]; exact hk', by rw [List.length_append]; simp; omega⟩
            · rw [if_neg fun h => h2 h.2.1] at hs
              wp_walk using kvE_1, s1, h1, grE_0, grE_1, ix, h2
              exact ⟨R', _, _, rfl, hs, hk', by omega⟩
        · rintro _ ⟨R', o4, o5, rfl, hs, _⟩
          exact ⟨_, _, by rw [← hs]; rfl⟩
      · rintro _ ⟨o4, o5, rfl⟩
        have ai : vAddI (.int (k : Nat)) (.int 1) = some (.int ((k + 1 : Nat) : Int)) := rfl
        wp_walk using ai
        refine ⟨n, by omega, k + 1, stepR e R[k] G R, _, _, by omega, hR.step hx, by rw [← hb, bfs_some hx], rfl⟩
    · have hc := of_decide_eq_false hc
      rw [bfs_stop (by omega)] at hb
      exact ⟨_, _, _, by rw [hb]⟩
  rintro _ ⟨o3, o4, o5, rfl⟩
  wp_walk using vSorted_strs
theorem nodup_fst {α : Type} : ∀ {l : List (Str × α)}, (l.map Prod.fst).Nodup → ∀ {p q : Str × α}, p ∈ l → q ∈ l → p.1 = q.1 → p = q
  | a :: l, h, p, q, hp, hq, e => by
    rw [List.map_cons, List.nodup_cons] at h
    rcases List.mem_cons.1 hp with rfl | hp' <;> rcases List.mem_cons.1 hq with rfl | hq'
    · rfl
    · exact (h.1 (List.mem_map.2 ⟨q, hq', e.symm⟩)).elim
    · exact (h.1 (List.mem_map.2 ⟨p, hp', e⟩)).elim
    · exact nodup_fst h.2 hp' hq' e
theorem look_of {G : Gs} (hG : GsOk G) {p : Str × Gr} (hp : p ∈ G) : lookG G p.1 = some p.2 := by
  unfold lookG
  obtain ⟨k, hk, e⟩ := List.mem_iff_getElem.1 hp
  cases hf : G.find? fun q => decide (q.1 = p.1) with
  | none => exact (List.find?_eq_none.1 hf p hp (by simp)).elim
  | some q =>
    have h1 := List.find?_some hf
    have h2 := List.mem_of_find?_eq_some hf
    simp only [decide_eq_true_eq] at h1
    have : q = p := nodup_fst hG.1 h2 hp h1
    rw [this]; rfl
inductive ToH (G : Gs) (e hd : Str) : Str → Prop
  | h : ToH G e hd hd
  | s {p : Str × Gr} : p ∈ G → srv e p = true → ToH G e hd p.2.t → ToH G e hd p.2.g
theorem rch_to {G : Gs} {e hd y : Str} (h : Rch G e y) : ToH G e hd y → ToH G e hd mst := by
  induction h with
  | m => exact id
  | s a b c ih => exact fun t => ih (.s a b t)
theorem reach_cl {G : Gs} {e : Str} {p : Str × Gr} (hp : p ∈ G) (h1 : srv e p = true) (h2 : p.2.g ∈ reach G e) : p.2.t ∈ reach G e := by
  obtain ⟨j, hj, e1⟩ := List.mem_iff_getElem.1 h2
  exact (reach_ri G e).cl j hj p.2.g (by rw [List.getElem?_eq_getElem hj, e1]) p hp h1 rfl
theorem reach_iff {G : Gs} {e : Str} {y : Str} : y ∈ reach G e ↔ Rch G e y := by
  refine ⟨(reach_ri G e).rc y, fun h => ?_⟩
  induction h with
  | m => exact (reach_ri G e).ms
  | s a b c ih => exact reach_cl a b ih
theorem sizes_to {G : Gs} {e hd : Str} : ∀ (s : Nat) (x : Str), lookS (sizes G e hd) x = some s → ToH G e hd x
  | 0, x, h => by rw [(szs_si G e hd G.length).z0 x h]; exact .h
  | s + 1, x, h => by
    obtain ⟨p, h1, h2, h3, h4⟩ := (szs_si G e hd G.length).pr x s h
    rw [← h3]
    exact .s h1 h2 (sizes_to s _ h4)
theorem sizes_iff {G : Gs} {e hd x : Str} : (lookS (sizes G e hd) x).isSome ↔ ToH G e hd x := by
  constructor
  · intro h
    obtain ⟨s, hs⟩ := Option.isSome_iff_exists.1 h
    exact sizes_to s x hs
  · intro h
    induction h with
    | h => rw [show lookS (sizes G e hd) hd = some 0 from (szs_si G e hd G.length).h0]; rfl
    | s a b c ih => exact sizes_cl a b ih
theorem to_rch {G : Gs} {e hd x : Str} (h : ToH G e hd x) : Rch G e x → Rch G e hd := by
  induction h with
  | h => exact id
  | s a b c ih => exact fun r => ih (.s a b r)
theorem mst_iff {G : Gs} {e hd : Str} : (lookS (sizes G e hd) mst).isSome ↔ hd ∈ reach G e := by
  rw [sizes_iff, reach_iff]
  exact ⟨fun h => to_rch h .m, fun h => rch_to h .h⟩
theorem rngD {m : Nat} (h : m ≤ 24) : vRange3 false (.int ((m : Int) - 1)) (.int (-1)) (.int (-1)) = some ((List.range' 0 m).map fun k : Nat => .int ((m : Int) - 1 - (k : Nat))) := by
  obtain rfl | rfl | rfl | rfl | rfl | rfl | rfl | rfl | rfl | rfl | rfl | rfl | rfl | rfl | rfl | rfl | rfl | rfl | rfl | rfl | rfl | rfl | rfl | rfl | rfl : m = 0 ∨ m = 1 ∨ m = 2 ∨ m = 3 ∨ m = 4 ∨ m = 5 ∨ m = 6 ∨ m = 7 ∨ m = 8 ∨ m = 9 ∨ m = 10 ∨ m = 11 ∨ m = 12 ∨ m = 13 ∨ m = 14 ∨ m = 15 ∨ m = 16 ∨ m = 17 ∨ m = 18 ∨ m = 19 ∨ m = 20 ∨ m = 21 ∨ m = 22 ∨ m = 23 ∨ m = 24 := by omega
  all_goals rfl
theorem lookS_none {S : Sz} {z : Str} (h : lookS S z = none) : ∀ p ∈ S, p.1 ≠ z := fun p hp e => by
  unfold lookS at h
  rw [Option.map_eq_none_iff, List.find?_eq_none] at h
  exact h p hp (by simp [e])
theorem putP_S {S : Sz} {z : Str} {n : Nat} (h : lookS S z = none) : putP (encP S) (.str z) (.int (n : Nat)) = encP (S ++ [(z, n)]) := by
  unfold putP
  rw [if_neg, encP, encP, List.map_append]; rfl
  intro hc
  rw [List.any_eq_true] at hc
  obtain ⟨q, hq, hk⟩ := hc
  obtain ⟨p, hp, rfl⟩ := List.mem_map.1 hq
  rw [keyIs_str] at hk
  exact lookS_none h p hp (of_decide_eq_true hk)
theorem sizes_len {G : Gs} {e hd : Str} {n : Nat} {S : Sz} (h : SI G e hd n S) : S.length ≤ G.length + 1 := by
  have := len_le_of h.nd h.keys
  simpa using this
theorem vEq_get (S : Sz) (z : Str) (n : Nat) : vEq (((lookS S z).map fun n : Nat => PyData.int (n : Nat)).getD .none) (.int (n : Nat)) = some (.bool (decide (lookS S z = some n))) := by
  cases lookS S z with
  | none => rfl
  | some s =>
    show vEq (.int (s : Nat)) (.int (n : Nat)) = _
    rw [vEq_int]
    refine congrArg (fun b => some (PyData.bool b)) (decide_eq_decide.2 ?_)
    simp
    omega
theorem vNinD_S (S : Sz) (z : Str) : vNinD (.str z) (.dict (encP S)) = some (.bool (!(lookS S z).isSome)) := by
  have : vNinD (.str z) (.dict (encP S)) = some (.bool (!(findP (encP S) (.str z)).isSome)) := rfl
  rw [this, findP_S, Option.isSome_map]
theorem sizes_to_hand_eq (G : Gs) (hl : G.length ≤ 24) (e hd : Str) : d_sizes_to_hand [tbE (gsT G), .str hd, .str e] = .ok (.dict (encP (sizes G e hd))) := by
  rw [d_sizes_to_hand]
  refine run_eq ?_
  have vlG : vLen (tbE (gsT G)) = some (.int (G.length : Nat)) := by rw [len_tb, gsT_len]
  row_walk
  refine ws_mid (fun ρ => ∃ o4 o5 o6 : Option D, ρ = [some (tbE (gsT G)), some (.str hd), some (.str e), some (.dict (encP (sizes G e hd))), o4, o5, o6]) ?_ ?_
  · refine ws_forE (fun i : Nat => PyData.int (i : Nat)) (List.range' 1 (G.length + 1 - 1)) (fun rest ρ => ∃ (n : Nat) (o4 o5 o6 : Option D), rest = List.range' (n + 1) (G.length - n) ∧ n ≤ G.length ∧ ρ = [some (tbE (gsT G)), some (.str hd), some (.str e), some (.dict (encP (szs G e hd n))), o4, o5, o6]) (iR2_nat (by wp_walk) (by wp_walk using vlG; rfl) (by omega) (by omega)) ⟨0, _, _, _, by simp, by omega, rfl⟩ ?_ ?_
    · rintro i rest _ ⟨n, o4, o5, o6, hr, hn, rfl⟩
      obtain ⟨m, hm⟩ : ∃ m, G.length - n = m + 1 := by
        cases hq : G.length - n with
        | zero => rw [hq] at hr; cases hr
        | succ m => exact ⟨m, rfl⟩
      rw [hm, List.range'_succ] at hr
      cases hr
      have i1 : (((n + 1 : Nat) : Int) - 1) = (n : Nat) := by omega
      refine ⟨_, rfl, ?_⟩
      row_walk
      refine ws_forE (fun p : Str × Gr => kvE (p.1, grE p.2)) G (fun rest ρ => ∃ (S : Sz) (Dn : Gs) (o5 o6 : Option D), ρ = [some (tbE (gsT G)), some (.str hd), some (.str e), some (.dict (encP S)), some (.int ((n + 1 : Nat) : Int)), o5, o6] ∧ rndS e n rest S = rndS e n G (szs G e hd n) ∧ S.length + rest.length ≤ 60) (by wp_walk using items_gs) ⟨_, [], _, _, rfl, rfl, by have := sizes_len (szs_si G e hd n); omega⟩ ?_ ?_
      · rintro p rest _ ⟨S, Dn, o5, o6, rfl, hs, hl'⟩
        have s1 := serves_eq e p
        have g1 := findP_S p.2.t S
        have g2 := vEq_get S p.2.t n
        have g3 := vNinD_S S p.2.g
        rw [rndS_cons] at hs
        rw [List.length_cons] at hl'
        refine ⟨_, rfl, ?_⟩
        cases h1 : srv e p with
        | false =>
          rw [if_neg (by rw [h1]; simp)] at hs
          wp_walk using kvE_1, s1, h1
          exact ⟨S, Dn, _, _, rfl, hs, by omega⟩
        | true =>
          by_cases h2 : lookS S p.2.t = some n
          · rw [h2] at g1 g2
            cases h3 : lookS S p.2.g with
            | some s =>
              rw [if_neg fun h => by rw [h3] at h; cases h.2.2] at hs
              rw [h3] at g3
              wp_walk using kvE_1, s1, h1, grE_0, grE_1, g1, i1, g2, g3, Option.isSome_some
              exact ⟨S, Dn, _, _, rfl, hs, by omega⟩
            | none =>
              rw [if_pos ⟨h1, h2, h3⟩] at hs
              rw [h3] at g3
              have pp := putP_S (n := n + 1) h3
              wp_walk using kvE_1, s1, h1, grE_0, grE_1, g1, i1, g2, g3, pp, Option.isSome_none
              refine ⟨⟨rfl, by unfold encP; rw [List.length_map]; omega⟩, S ++ [(p.2.g, n + 1)], Dn, _, _, rfl, hs, by rw [List.length_append]; simp; omega⟩
          · rw [if_neg fun h => h2 h.2.1] at hs
            wp_walk using kvE_1, s1, h1, grE_0, grE_1, g1, i1, g2, h2
            exact ⟨S, Dn, _, _, rfl, hs, by omega⟩
      · rintro _ ⟨S, Dn, o5, o6, rfl, hs, hl'⟩
        have hs : S = szs G e hd (n + 1) := hs
        subst hs
        wp_walk
        refine ⟨n + 1, _, _, _, ?_, by omega, rfl⟩
        rw [show G.length - (n + 1) = m by omega]
    · rintro _ ⟨n, o4, o5, o6, hr, hn, rfl⟩
      have : n = G.length := by
        cases hq : G.length - n with
        | zero => omega
        | succ m => rw [hq] at hr; cases hr
      subst this
      exact ⟨_, _, _, rfl⟩
  rintro _ ⟨o4, o5, o6, rfl⟩
  wp_walk
theorem right_report_x {G : Gs} (hG : GsOk G) (hl : G.length ≤ 24) (e hd : Str) : ∃ v, d_right_report [tbE (gsT G), .str hd, .str e] = .ok v ∧ ((hd ∉ reach G e ∧ v = .tuple [.str "closed", clP G e]) ∨ (hd ∈ reach G e ∧ ∃ m, lookS (sizes G e hd) mst = some m ∧ v = .tuple [.str "chain", .tuple ((gre G e (sizes G e hd) m mst).map .str)] ∧ chB G e hd (.tuple ((gre G e (sizes G e hd) m mst).map .str)) = true)) := by
  have sz := sizes_to_hand_eq G hl e hd
  have si := szs_si G e hd G.length
  have hm := hands_that_may_eq G hl e
  have g3 := vNinD_S (sizes G e hd) mst
  have g4 := findP_S mst (sizes G e hd)
  have im := mst_iff (G := G) (e := e) (hd := hd)
  rw [d_right_report]
  refine run_ws ?_
  cases hk : lookS (sizes G e hd) mst with
  | none =>
    rw [hk] at g3 im
    have g3 : vNinD (.str (Str.ofString "master")) (.dict (encP (sizes G e hd))) = some (.bool true) := g3
    wp_walk using sz, g3, hm
    exact .inl ⟨fun h => (by have := im.2 h; cases this), rfl⟩
  | some m =>
    rw [hk] at g3 im g4
    have g3 : vNinD (.str (Str.ofString "master")) (.dict (encP (sizes G e hd))) = some (.bool false) := g3
    have hm24 : m ≤ 24 := Nat.le_trans (si.le _ _ hk) hl
    have g4 : vGetD (.dict (encP (sizes G e hd))) (.str (Str.ofString "master")) = some (.int (m : Nat)) := g4
    have rg := rngD hm24
    row_walk with [sz]
    refine ws_ifF (by wp_walk using g3) (ws_skip ?_)
    row_walk
    generalize hS : sizes G e hd = S at *
    refine ws_mid (fun ρ => ∃ (N : List Str) (o6 o7 o8 o9 : Option D), ρ = [some (tbE (gsT G)), some (.str hd), some (.str e), some (.dict (encP S)), some (.list (N.map .str)), some (.str hd), o6, o7, o8, o9] ∧ chB G e hd (.tuple (N.map .str)) = true ∧ hd ∈ reach G e ∧ N = gre G e S m mst) ?_ ?_
    · refine ws_forE (fun k : Nat => PyData.int ((m : Int) - 1 - (k : Nat))) (List.range' 0 m) (fun rest ρ => ∃ (k : Nat) (N : List Str) (h : Str) (o6 o7 o8 o9 : Option D), rest = List.range' k (m - k) ∧ k ≤ m ∧ ρ = [some (tbE (gsT G)), some (.str hd), some (.str e), some (.dict (encP S)), some (.list (N.map .str)), some (.str h), o6, o7, o8, o9] ∧ lookS S h = some (m - k) ∧ wkS G e mst N = some h ∧ N.Nodup ∧ N.length = k ∧ (∀ z ∈ N, ∃ x s, lookG G z = some x ∧ lookS S x.g = some s ∧ m - k < s) ∧ N ++ gre G e S (m - k) h = gre G e S m mst) (by wp_walk using g4, rg) ⟨0, [], mst, _, _, _, _, by simp, by omega, rfl, hk, rfl, .nil, rfl, fun z hz => (by cases hz), by simp⟩ ?_ ?_
      · rintro i rest _ ⟨k, N, h, o6, o7, o8, o9, hr, hkm, rfl, hh, hw, nd, nl, hN, hgr⟩
        obtain ⟨j, hj⟩ : ∃ j, m - k = j + 1 := by
          cases hq : m - k with
          | zero => rw [hq] at hr; cases hr
          | succ m => exact ⟨m, rfl⟩
        rw [hj, List.range'_succ] at hr
        obtain ⟨ei, er⟩ := List.cons.inj hr
        subst er
        rw [ei]
        rw [hj] at hh
        have ej : (m : Int) - 1 - (k : Nat) = (j : Nat) := by omega
        rw [ej]
        have fol : ∀ x7 x8 x9 : Option D, eComp [8, 9] (gT 2 (gsCons (gN 8) (gsCons (gN 9) (gsNil)))) (iVal (eVar 0)) (tAndD (tVal (eCall d_serves (aCons (eVar 9) (aCons (eVar 2) (aNil))))) (tAndD (tBin vEq (eBin vIdx (eVar 9) (eC (.int 0))) (eVar 5)) (tBin vEq (eMeD vGet1D (eVar 3) (eBin vIdx (eVar 9) (eC (.int 1)))) (eVar 6)))) (eTup (aCons (eVar 8) (aCons (eBin vIdx (eVar 9) (eC (.int 1))) (aNil)))) [some (tbE (gsT G)), some (.str hd), some (.str e), some (.dict (encP S)), some (.list (N.map .str)), some (.str h), some (.int (j : Nat)), x7, x8, x9] = .ok (.list ((G.filter fun p => srv e p && (decide (p.2.g = h) && decide (lookS S p.2.t = some j))).map fun p => .tuple [.str p.1, .str p.2.t])) := by
          intros
          refine eComp_filter (fun p : Str × Gr => kvE (p.1, grE p.2)) (fun p => .tuple [.str p.1, .str p.2.t]) _ G (by wp_walk using items_gs) fun p hp => ⟨_, unp_gs 8 9 p _, ?_, fun _ => by wp_walk using grE_1⟩
          have s1 := serves_eq e p
          have q1 := findP_S p.2.t S
          have q2 := vEq_get S p.2.t j
          cases h1 : srv e p with
          | false => wp_walk using s1, h1
          | true =>
            by_cases h2 : p.2.g = h
            · wp_walk using s1, h1, grE_0, h2, grE_1, q1, q2
            · wp_walk using s1, h1, grE_0, h2
        obtain ⟨p0, hp0, z1, z2, z3⟩ : ∃ p ∈ G, srv e p = true ∧ p.2.g = h ∧ lookS S p.2.t = some j := by
          have := si.pr h j
          rw [show szs G e hd G.length = S from hS] at this
          exact this hh
        cases hF : G.filter fun p => srv e p && (decide (p.2.g = h) && decide (lookS S p.2.t = some j)) with
        | nil =>
          have := List.filter_eq_nil_iff.1 hF p0 hp0
          simp [z1, z2, z3] at this
        | cons p F =>
          have hpm : p ∈ G.filter fun p => srv e p && (decide (p.2.g = h) && decide (lookS S p.2.t = some j)) := by rw [hF]; simp
          obtain ⟨hpG, hpc⟩ := List.mem_filter.1 hpm
          simp only [Bool.and_eq_true, decide_eq_true_eq] at hpc
          obtain ⟨c1, c2, c3⟩ := hpc
          rw [hF] at fol
          have hlk : lookG G p.1 = some p.2 := look_of hG hpG
          have hfi : (G.find? fun p => srv e p && (decide (p.2.g = h) && decide (lookS S p.2.t = some j))) = some p := by rw [← find_filter, hF]; rfl
          refine ⟨_, rfl, ?_⟩
          wp_walk using fol
          have pN : p.1 ∉ N := fun hin => by
            obtain ⟨x, s, q1, q2, q3⟩ := hN p.1 hin
            rw [hlk] at q1
            cases q1
            rw [c2, hh] at q2
            cases q2
            omega
          refine ⟨by omega, k + 1, N ++ [p.1], p.2.t, _, _, _, _, by rw [show m - (k + 1) = j by omega], by omega, by rw [List.map_append]; rfl, by rw [c3, show m - (k + 1) = j by omega], ?_, nodup_snoc.2 ⟨nd, pN⟩, by rw [List.length_append, nl]; rfl, fun z hz => ?_, by rw [show m - (k + 1) = j by omega, List.append_assoc, ← hgr, hj, gre_some hfi]; rfl⟩
          · rw [wkS_app, hw, Option.bind_some, wkS_some hlk, if_pos (show srv e (p.1, p.2) = true ∧ p.2.g = h from ⟨c1, c2⟩)]; rfl
          · rcases List.mem_append.1 hz with g | g
            · obtain ⟨x, s, q1, q2, q3⟩ := hN z g
              exact ⟨x, s, q1, q2, by omega⟩
            · rw [List.mem_singleton.1 g]
              exact ⟨p.2, j + 1, hlk, by rw [c2]; exact hh, by omega⟩
      · rintro _ ⟨k, N, h, o6, o7, o8, o9, hr, hkm, rfl, hh, hw, nd, nl, hN, hgr⟩
        have : k = m := by
          cases hq : m - k with
          | zero => omega
          | succ m => rw [hq] at hr; cases hr
        subst this
        rw [Nat.sub_self] at hh
        have : h = hd := by
          have := si.z0 h
          rw [show szs G e hd G.length = S from hS] at this
          exact this hh
        subst this
        refine ⟨N, _, _, _, _, rfl, ?_, im.1 rfl, by rw [Nat.sub_self] at hgr; rw [← hgr]; simp [gre]⟩
        rw [chB_tup, show Str.ofString "master" = mst from rfl, hw, decide_eq_true rfl, Bool.and_true]
        unfold nmsB
        rw [Bool.and_eq_true]
        refine ⟨decide_eq_true ⟨Nat.zero_le _, by rw [List.length_map]; omega⟩, ?_⟩
        show nmsOk _ = true
        unfold nmsOk
        rw [Bool.and_eq_true, strOf_map]
        refine ⟨List.all_eq_true.2 fun y hy => ?_, decide_eq_true nd⟩
        obtain ⟨z, hz, rfl⟩ := List.mem_map.1 hy
        obtain ⟨x, s, q1, _⟩ := hN z hz
        exact hG.2 _ (look_mem q1)
    rintro _ ⟨N, o6, o7, o8, o9, rfl, hc, hin, hNg⟩
    subst hNg
    wp_walk
    exact .inr ⟨hin, m, rfl, rfl, hc⟩
theorem bp_pl {m : Nat} : ∀ {n : Nat} {d : D}, bpS m n d → pl n d = true
  | 0, _, h => h.elim
  | n + 1, d, h => by
    cases d with
    | str z => simp [pl, noDict, PyData.depth]
    | tuple l => exact pl_tup fun x hx => bp_pl (h x hx)
    | none => simp [pl, noDict, PyData.depth]
    | bool b => simp [pl, noDict, PyData.depth]
    | int i => simp [pl, noDict, PyData.depth]
    | list l => exact h.elim
    | dict l => exact h.elim
theorem bp_fine {m n : Nat} {d : D} (h : bpS m n d) (hn : n ≤ 60) : fine d = true := pl_fine (bp_pl h) (by omega)
/-! slices -/
def lenIs (v : D) (n : Nat) : Bool := match v with
  | .tuple l => decide (l.length = n)
  | _ => false
theorem is_row_all (v : D) (n : Nat) : d_is_row [v, .int n, .int n] = .ok (.bool (lenIs v n)) := by
  rw [d_is_row]
  refine run_eq ?_
  walk_at "ev"
  refine ws_back ?_ rfl
  cases v with
  | tuple l =>
    walk_at "ev"
    show _ = Res.ok (PyData.bool (decide (l.length = n)))
    by_cases g : (n : Int) ≤ l.length
    · by_cases g2 : (l.length : Int) ≤ n
      · have : l.length = n := by omega
        simp [this]
      · have : ¬ l.length = n := by omega
        simp [g, g2, this]
    · have : ¬ l.length = n := by omega
      simp [g, this]
  | _ => walk_at "evr"
theorem eqv_strR (x : D) (w : Str) : PyData.eqv x (.str w) = strIs x w := by
  cases x with
  | str z =>
    simp only [PyData.eqv]
    exact Bool.eq_iff_iff.2 (by simp [strIs])
  | _ => simp [PyData.eqv, strIs]
theorem vEq_strR {x : D} (h : fine x = true) (w : Str) : vEq x (.str w) = some (.bool (strIs x w)) := by
  rw [vEq_of h rfl, eqv_strR]
theorem shows_right_eq (G : Gs) (e hd : Str) {x : D} {m : Nat} (hx : bpS m 38 x) : d_shows_right [tbE (gsT G), .str hd, .str e, x] = .ok (.bool (rgtB G e hd x)) := by
  have r2 := is_row_all x 2
  simp only [Int.cast_ofNat_Int] at r2
  rw [d_shows_right]
  refine run_eq ?_
  cases x with
  | tuple l =>
    have hl : ∀ x ∈ l, bpS m 37 x := hx
    match l with
    | [] => wp_walk using r2, lenIs; rfl
    | [x] => wp_walk using r2, lenIs; rfl
    | [a, b] =>
      have f1 := vEq_strR (bp_fine (hl a (by simp)) (by decide)) "chain"
      have f2 := vEq_strR (bp_fine (hl a (by simp)) (by decide)) "closed"
      have ic := is_closed_2_eq G e hd b
      have ih := is_chain_eq G e hd b
      cases ha : strIs a "chain" with
      | true =>
        wp_walk using r2, lenIs, f1, ha, ih
        simp [rgtB, ha]
      | false =>
        cases hb : strIs a "closed" with
        | true =>
          wp_walk using r2, lenIs, f1, ha, f2, hb, ic
          simp [rgtB, ha, hb]
        | false =>
          wp_walk using r2, lenIs, f1, ha, f2, hb
          simp [rgtB, ha, hb]
    | _ :: _ :: _ :: r =>
      have : ¬ (r.length + 1 + 1 + 1 = 2) := by omega
      wp_walk using r2, lenIs, this
      rfl
  | _ => wp_walk using r2, lenIs; rfl
theorem two_bp {w : Str} {x : D} {n k : Nat} (hw : w.length ≤ 1000) (hx : bpI 1000 (n + 1) x) (hs : szD x ≤ k) : bpI 1000 (n + 2) (.tuple [.str w, x]) ∧ szD (.tuple [.str w, x]) ≤ k + 2 := by
  refine ⟨fun y hy => ?_, by simp only [szD, szDs]; omega⟩
  simp only [List.mem_cons, List.not_mem_nil, or_false] at hy
  rcases hy with rfl | rfl
  · exact hw
  · exact hx
theorem law_true (ns : List Int) : d_law_69 [.list (ns.map .int)] = .ok (.bool true) := by
  obtain ⟨c0, ec0⟩ := law_cell_3_eq ns 0 (by decide)
  obtain ⟨xs, ex, hx⟩ := law_digits_eq c0 [25, 3, 9, 3, 2] (by decide) (by decide)
  obtain ⟨n, xs, rfl, n0, n1, hx⟩ := digB_cons hx
  obtain ⟨s, xs, rfl, s0, s1, hx⟩ := digB_cons hx
  obtain ⟨c2, xs, rfl, c20, c21, hx⟩ := digB_cons hx
  obtain ⟨c3, xs, rfl, c30, c31, hx⟩ := digB_cons hx
  obtain ⟨c4, xs, rfl, c40, c41, hx⟩ := digB_cons hx
  obtain rfl := digB_nil hx
  simp only [List.map_cons, List.map_nil] at ex
  simp only [Int.cast_ofNat_Int] at ec0
  obtain ⟨n, rfl⟩ := Int.eq_ofNat_of_zero_le n0
  obtain ⟨s, rfl⟩ := Int.eq_ofNat_of_zero_le s0
  obtain ⟨c2, rfl⟩ := Int.eq_ofNat_of_zero_le c20
  obtain ⟨G, eG, hD⟩ := law_grants_eq ns (n := n) (s := s) (c2 := c2) (c3 := c3) (c4 := c4) (by omega) (by omega) (by omega)
  obtain ⟨hd, e, st, ea⟩ := law_asked_eq ns (n : Nat) (s : Nat) c3 c4 (c2 := c2) (by omega)
  have lG : G.length = n := by have := congrArg List.length hD.1; simpa using this
  have hl : G.length ≤ 24 := by omega
  have hG : GsOk G := by
    refine ⟨by rw [hD.1]; exact nmA_nodup s n (by omega), fun p hp => ?_⟩
    have : p.1 ∈ (List.range n).map (nmA s) := by rw [← hD.1]; exact List.mem_map.2 ⟨p, hp, rfl⟩
    obtain ⟨k, hk, e⟩ := List.mem_map.1 this
    have hk := List.mem_range.1 hk
    rw [← e]
    exact nmA_nm (by omega) (by omega)
  have hh : HdOk G := fun p hp => hnd_nm c4 c2 _ (hD.2 p hp).2
  clear hD
  have eW := law_reach_2_x G hl e
  obtain ⟨v, ev, hv⟩ := right_report_x hG hl e hd
  have lr := fun (x : D) (h : szD x ≤ 1000000) => law_right_19_eq hG e hd h
  have sr := fun (x : D) (h : PapS x) => shows_right_eq G e hd h.1
  have ic := fun x => is_chain_eq G e hd x
  have il := fun x => is_closed_2_eq G e hd x
  have lc := fun (x : D) (h : szD x ≤ 1000000) => law_is_chain_eq hG e hd x (lenOf h)
  have ll := fun (x : D) (h : szD x ≤ 1000000) => law_is_closed_eq G e hd x (lenOf h)
  have vi := vIn_strL hd (reach G e)
  obtain ⟨L1, eL1, pL1, lL1⟩ := law_rows_6_eq hG hh hl e st
  have sm := fun v : Bool => law_same_3_refl 60 (.bool v) trivial
  -- the due paper
  obtain ⟨dw, dr, edue, ddr, dlw⟩ : ∃ (dw : Str) (dr : D), v = .tuple [.str dw, dr] ∧ (bpI 1000 2 dr ∧ szD dr ≤ 26) ∧ dw.length ≤ 1000 := by
    rcases hv with ⟨h1, rfl⟩ | ⟨h1, m, hm, rfl, hc⟩
    · exact ⟨_, _, rfl, clP_bp hh hl e 0, by decide⟩
    · exact ⟨_, _, rfl, ch_bp hc 0, by decide⟩
  have tb := two_bp (n := 1) dlw ddr.1 ddr.2
  rw [← edue] at tb
  obtain ⟨BL, eBL, lBL, hBL⟩ := law_bends_eq 1000 (by decide) 60 3 v tb.1 (by decide) (by omega)
  obtain ⟨M2, eM2, hM2, lM2⟩ := law_some_eq BL st 60 (by decide) (by decide) (by omega)
  have papv : PapS v := ⟨bpS_mono (by decide) (by decide) (bpI_S tb.1), by omega⟩
  have okv : okS 60 v := bp_okS (bpS_mono (Nat.le_refl _) (by decide) (bpI_S tb.1)) (by omega)
  have rv := law_same_3_refl 60 v okv
  have rdr : RwP dr := ⟨bpS_mono (by decide) (by decide) (bpI_S ddr.1), by omega⟩
  have v1 : vIdx v (.int 1) = some dr := by rw [edue]; rfl
  obtain ⟨SC, hSC⟩ : ∃ x : D, x = .list (ns.map .int) := ⟨_, rfl⟩
  rw [← hSC] at ec0 eG ea ⊢
  obtain ⟨HD, hHD⟩ : ∃ x : D, x = .list [.int (n : Nat), .int (s : Nat), .int (c2 : Nat), .int c3, .int c4] := ⟨_, rfl⟩
  rw [← hHD] at ex eG ea
  have so := vSorted_strs (reach G e)
  rw [d_law_69]
  refine run_eq ?_
  row_walk with [ec0, ex, eG, ea, eW, so, unp_l2]
  refine ws_mid (fun ρ => ρ = [some SC, some HD, some (tbE (gsT G)), some (.str hd), some (.str e), some (.int st), some (.list ((reach G e).map .str)), some (wysD (ways G e)), some v, none, none, none, none, none]) ?_ ?_
  · rcases hv with ⟨h1, rfl⟩ | ⟨h1, m, hm, rfl, hc⟩
    · wp_walk using vi, h1
      rfl
    · obtain ⟨j, j1, j2⟩ := due_is hm
      have j1 := vIndex_strs j1
      wp_walk using vi, h1, j1, j2
      rfl
  rintro _ rfl
  row_walk
  refine ws_ifF (by wp_walk using ev, rv) (ws_skip ?_)
  row_walk
  refine ws_mid (fun ρ => ∃ o9 o10 : Option D, ρ = [some SC, some HD, some (tbE (gsT G)), some (.str hd), some (.str e), some (.int st), some (.list ((reach G e).map .str)), some (wysD (ways G e)), some v, o9, o10, none, none, none]) ?_ ?_
  · refine ws_forE (fun p : Str × Gr => kvE (p.1, grE p.2)) G (fun rest ρ => ∃ o9 o10 : Option D, ρ = [some SC, some HD, some (tbE (gsT G)), some (.str hd), some (.str e), some (.int st), some (.list ((reach G e).map .str)), some (wysD (ways G e)), some v, o9, o10, none, none, none]) (by wp_walk using items_gs) ⟨_, _, rfl⟩ ?_ (fun _ h => h)
    rintro p rest _ ⟨o9, o10, rfl⟩
    have q1 := serves_eq e p
    have q2 := law_serves_2_eq e p
    refine ⟨_, unp_gs 9 10 p _, ?_⟩
    wp_walk using q1, q2, sm
    exact ⟨_, _, rfl⟩
  rintro _ ⟨o9, o10, rfl⟩
  obtain ⟨L0, hL0, eL0⟩ : ∃ L0 : List D, L0 = [v, .tuple [.str (Str.ofString "chain")], .tuple [.str (Str.ofString "closed")], .tuple [], .none, .int 0, .str (Str.ofString "chain")] ∧ ((∀ p ∈ L0, PapS p) ∧ L0.length ≤ 7) := by
    refine ⟨_, rfl, fun p hp => ?_, by simp⟩
    simp only [List.mem_cons, List.not_mem_nil, or_false] at hp
    rcases hp with rfl | rfl | rfl | rfl | rfl | rfl | rfl
    · exact papv
    · exact pap_sm (by decide) (by decide)
    · exact pap_sm (by decide) (by decide)
    · exact pap_sm (by decide) (by decide)
    · exact pap_at rfl
    · exact pap_at rfl
    · exact pap_at (by decide)
  have va0 : vAdd (.list L0) (.list M2) = some (.list (L0 ++ M2)) := vAdd_list (by have := eL0.2; omega)
  rw [hL0] at va0
  have e0 : (∀ p ∈ L0 ++ M2, PapS p) ∧ (L0 ++ M2).length ≤ 1000000 := by
    refine ⟨fun p hp => ?_, by rw [List.length_append]; have := eL0.2; omega⟩
    rcases List.mem_append.1 hp with g | g
    · exact eL0.1 p g
    · obtain ⟨h1, h2⟩ := hBL p (hM2 p g)
      exact ⟨bpS_mono (by decide) (by decide) h1, by omega⟩
  rw [hL0] at e0
  simp only [List.cons_append, List.nil_append] at e0
  row_walk with [eBL, eM2, va0]
  revert e0
  generalize v :: PyData.tuple [.str (Str.ofString "chain")] :: PyData.tuple [.str (Str.ofString "closed")] :: PyData.tuple [] :: PyData.none :: PyData.int 0 :: PyData.str (Str.ofString "chain") :: M2 = PP
  intro e0
  have vaR : vAdd (.list L1) (.list [dr]) = some (.list (L1 ++ [dr])) := vAdd_list (by simp; omega)
  refine ws_mid (fun ρ => ∃ (Q : List D) (o12 : Option D), ρ = [some SC, some HD, some (tbE (gsT G)), some (.str hd), some (.str e), some (.int st), some (.list ((reach G e).map .str)), some (wysD (ways G e)), some v, o9, o10, some (.list Q), o12, none] ∧ (∀ p ∈ Q, PapS p)) ?_ ?_
  · refine ws_for (ds := L1 ++ [dr]) (fun rest ρ => (∀ p ∈ rest, RwP p) ∧ ∃ (Q : List D) (o12 : Option D), ρ = [some SC, some HD, some (tbE (gsT G)), some (.str hd), some (.str e), some (.int st), some (.list ((reach G e).map .str)), some (wysD (ways G e)), some v, o9, o10, some (.list Q), o12, none] ∧ (∀ p ∈ Q, PapS p) ∧ Q.length + 2 * rest.length ≤ 1000300) (by wp_walk using eL1, v1, vaR) ⟨fun p hp => ?_, _, _, rfl, e0.1, by have := e0.2; simp; omega⟩ ?_ ?_
    · rcases List.mem_append.1 hp with g | g
      · exact pL1 p g
      · rw [List.mem_singleton.1 g]; exact rdr
    · rintro x rest _ ⟨hp, Q, o12, rfl, hQ, lQ⟩
      have hx := hp x (by simp)
      rw [List.length_cons] at lQ
      have q1 := lc x (by have := hx.2; omega)
      have q2 := ll x (by have := hx.2; omega)
      have va : ∀ a b : D, vAdd (.list Q) (.list [a, b]) = some (.list (Q ++ [a] ++ [b])) := fun a b => by
        rw [vAdd_list (by simp; omega)]
        simp
      refine ⟨_, rfl, ?_⟩
      wp_walk using va, ic, il, q1, q2, sm
      exact ⟨fun y hy => hp y (List.mem_cons_of_mem _ hy), _, _, rfl, pap_snoc (pap_snoc hQ (pap_of_rw (by decide) hx)) (pap_of_rw (by decide) hx), by simp; omega⟩
    · rintro _ ⟨_, Q, o12, rfl, hQ, lQ⟩
      exact ⟨Q, _, rfl, hQ⟩
  rintro _ ⟨Q, o12, rfl, hQ⟩
  row_walk
  refine ws_for (ds := Q) (fun rest ρ => (∀ p ∈ rest, PapS p) ∧ ∃ o13 : Option D, ρ = [some SC, some HD, some (tbE (gsT G)), some (.str hd), some (.str e), some (.int st), some (.list ((reach G e).map .str)), some (wysD (ways G e)), some v, o9, o10, some (.list Q), o12, o13]) (by wp_walk) ⟨hQ, _, rfl⟩ ?_ (fun _ _ => by wp_walk)
  rintro x rest _ ⟨hp, o13, rfl⟩
  have q0 := hp x (by simp)
  have q1 := sr x q0
  have q2 := lr x (by have := q0.2; omega)
  refine ⟨_, rfl, ?_⟩
  wp_walk using q1, q2, sm
  exact ⟨fun y hy => hp y (List.mem_cons_of_mem _ hy), _, rfl⟩
end PL
end
namespace L_k69
open PySem PySem.Spec PyProof.Rows L2 PL
def topS (i : Nat) : Stmt := PySem.Challenge.pw_camhouse_k69_chains_and_closed.main.body.getD i (.Pass ⟨0, 0, 0, 0⟩)
section
variable {P : Program} {w : World} {K : PySem.W.Frag} {mg : Str → Option Value} {base : Heap}
abbrev s_is_name : Stmt := topS 4
abbrev N_is_name : List Str := ["value", "sign"]
theorem sc_is_name : FnScope N_is_name ["value"] (defScope s_is_name) := ⟨rfl, rfl, rfl, by decide +kernel, rfl, by decide +kernel, by decide +kernel⟩
theorem ok_is_name {f : Addr} {fd : FuncData} (hm : mg "is_name" = some (.ref f)) (F : FunD K "is_name" "is_name" (defArgs s_is_name) (defBody s_is_name) (defScope s_is_name) [] [] f fd) (z_isinstance : mg "isinstance" = none) (z_str : mg "str" = none) (z_len : mg "len" = none) (c_NAME_SIZE : KC mg K "NAME_SIZE" (.int 12)) (c_LETTERS : KC mg K "LETTERS" (.str "abcdefghijklmnopqrstuvwxyz")) (c_DIGITS : KC mg K "DIGITS" (.str "0123456789")) : Kn P w K mg base 1 "is_name" ["value"] .sh d_is_name :=
  kn_ok (O' := []) (k := 0) hm F sc_is_name (by decide) (fun _ _ _ _ _ _ us hl => match us, hl with | [_], _ => rfl) fun cdv A outer s H E hh =>
    (bj_cons (sj_if (WJ.tj (wj_or (tj_not (tj_val (EJ.to_bo (ej_isi (by rfl) z_isinstance (by rfl) z_str (by decide +kernel) (by decide) (by decide) (fun _ _ => rfl) (EJ.to_bo (ej_var (O := []) (by decide) (pv 0))))))) (wj_or1 (tj_not (tj_chain le_ok le_ok ejm_int (EJ.to_bo (ej_len (by rfl) z_len (fun _ _ => rfl) (EJ.to_bo (ej_var (O := []) (by decide) (pv 0))))) (EJ.to_bo (ej_glob c_NAME_SIZE (by rfl) (by decide))) fun _ _ _ _ _ h1 h2 h3 h4 h5 => pt_chain h1 h2 h3 h4 h5))))) (bj_cons (sj_ret ejm_bl) bj_nil) bj_nil) (bj_cons (sj_if (tj_cmp (notIn_ok hh (by rfl)) (EJ.to_bo (ej_idx (EJ.to_bo (ej_var (O := []) (by decide) (pv 0))) ejm_int)) (EJ.to_bo (ej_glob c_LETTERS (by rfl) (by decide)))) (bj_cons (sj_ret ejm_bl) bj_nil) bj_nil) (bj_cons (sj_for hh (ij_val (ej_var (O := []) (by decide) (pv 0))) (gj_name (O := []) (by decide) (pg_name (i := 1) hh.nd rfl (by first | exact .inl rfl | exact .inr rfl))) (bj_cons (sj_if (WJ.tj (wj_and (tj_cmp (notIn_ok hh (by rfl)) (EJ.to_bo (ej_var (O := []) (by decide) (pv 1))) (EJ.to_bo (ej_glob c_LETTERS (by rfl) (by decide)))) (wj_and1 (tj_cmp (notIn_ok hh (by rfl)) (EJ.to_bo (ej_var (O := []) (by decide) (pv 1))) (EJ.to_bo (ej_glob c_DIGITS (by rfl) (by decide))))))) (bj_cons (sj_ret ejm_bl) bj_nil) bj_nil) bj_nil) (by intro _; rfl)) (bj_cons (sj_ret ejm_bl) bj_nil))))

abbrev s_is_row : Stmt := topS 5
abbrev N_is_row : List Str := ["value", "least", "most"]
theorem sc_is_row : FnScope N_is_row ["value", "least", "most"] (defScope s_is_row) := ⟨rfl, rfl, rfl, by decide +kernel, rfl, by decide +kernel, by decide +kernel⟩
theorem ok_is_row {f : Addr} {fd : FuncData} (hm : mg "is_row" = some (.ref f)) (F : FunD K "is_row" "is_row" (defArgs s_is_row) (defBody s_is_row) (defScope s_is_row) [] [] f fd) (z_isinstance : mg "isinstance" = none) (z_tuple : mg "tuple" = none) (z_len : mg "len" = none) : Kn P w K mg base 1 "is_row" ["value", "least", "most"] .sh d_is_row :=
  kn_ok (O' := []) (k := 0) hm F sc_is_row (by decide) (fun _ _ _ _ _ _ us hl => match us, hl with | [_, _, _], _ => rfl) fun cdv A outer s H E hh =>
    (bj_cons (sj_ret (ej_and (ej_isi (by rfl) z_isinstance (by rfl) z_tuple (by decide +kernel) (by decide) (by decide) (fun _ _ => rfl) (EJ.to_bo (ej_var (O := []) (by decide) (pv 0)))) (ej_one (ej_chain le_ok le_ok (EJ.to_bo (ej_var (O := []) (by decide) (pv 1))) (EJ.to_bo (ej_len (by rfl) z_len (fun _ _ => rfl) (EJ.to_bo (ej_var (O := []) (by decide) (pv 0))))) (EJ.to_bo (ej_var (O := []) (by decide) (pv 2))) fun _ _ _ _ _ h1 h2 h3 h4 h5 => pe_chain h1 h2 h3 h4 h5)))) bj_nil)

abbrev s_is_names : Stmt := topS 6
abbrev N_is_names : List Str := ["value", "least", "most", "met", "name"]
theorem sc_is_names : FnScope N_is_names ["value", "least", "most"] (defScope s_is_names) := ⟨rfl, rfl, rfl, by decide +kernel, rfl, by decide +kernel, by decide +kernel⟩
theorem ok_is_names {f : Addr} {fd : FuncData} (hm : mg "is_names" = some (.ref f)) (F : FunD K "is_names" "is_names" (defArgs s_is_names) (defBody s_is_names) (defScope s_is_names) [] [] f fd) (k_is_row : Kn P w K mg base 1 "is_row" ["value", "least", "most"] .sh d_is_row) (k_is_name : Kn P w K mg base 1 "is_name" ["value"] .sh d_is_name) : Kn P w K mg base 2 "is_names" ["value", "least", "most"] .sh d_is_names :=
  kn_ok (O' := []) (k := 1) hm F sc_is_names (by decide) (fun _ _ _ _ _ _ us hl => match us, hl with | [_, _, _], _ => rfl) fun cdv A outer s H E hh =>
    (bj_cons (sj_if (tj_not (tj_val (EJ.to_bo (ej_callK k_is_row hh (by decide) (by rfl) (by rfl) (by decide) (fun _ _ => rfl) (noStars_cons (fun _ _ => rfl) (noStars_cons (fun _ _ => rfl) noStars_nil)) (aj_cons (fun _ _ => rfl) (ej_var (O := []) (by decide) (pv 0)) (aj_cons (fun _ _ => rfl) (ej_var (O := []) (by decide) (pv 1)) (aj_cons (fun _ _ => rfl) (ej_var (O := []) (by decide) (pv 2)) aj_nil))) (alen_cons (alen_cons (alen_cons alen_nil))))))) (bj_cons (sj_ret ejm_bl) bj_nil) bj_nil) (bj_cons (sj_setO (O := []) (O' := [3]) (i := 3) (by decide) ej_dict0 fun _ h => ps_set (i := 3) hh.nd rfl (by first | exact .inl rfl | exact .inr rfl) h) (bj_cons (sj_for hh (ij_val (ej_var (O := [3]) (by decide) (pv 0))) (gj_name (O := [3]) (by decide) (pg_name (i := 4) hh.nd rfl (by first | exact .inl rfl | exact .inr rfl))) (bj_cons (sj_if (WJ.tj (wj_or (tj_not (tj_val (EJ.to_bo (ej_callK k_is_name hh (by decide) (by rfl) (by rfl) (by decide) (fun _ _ => rfl) noStars_nil (aj_cons (fun _ _ => rfl) (ej_var (O := [3]) (by decide) (pv 4)) aj_nil) (alen_cons alen_nil))))) (wj_or1 (tj_cmp (inD_ok hh (by rfl)) (EJ.to_bo (ej_var (O := [3]) (by decide) (pv 4))) (ej_own (pv 3)))))) (bj_cons (sj_ret ejm_bl) bj_nil) bj_nil) (bj_cons (sj_storeD (O := [3]) (i := 3) (by decide) hh (EJ.to_bo (ej_var (O := [3]) (by decide) (pv 4))) ejm_bl (pv 3) (by rfl)) bj_nil)) (by intro _; rfl)) (bj_cons (sj_ret ejm_bl) bj_nil))))

abbrev s_is_ascending : Stmt := topS 7
abbrev N_is_ascending : List Str := ["value", "least", "most", "k"]
theorem sc_is_ascending : FnScope N_is_ascending ["value", "least", "most"] (defScope s_is_ascending) := ⟨rfl, rfl, rfl, by decide +kernel, rfl, by decide +kernel, by decide +kernel⟩
theorem ok_is_ascending {f : Addr} {fd : FuncData} (hm : mg "is_ascending" = some (.ref f)) (F : FunD K "is_ascending" "is_ascending" (defArgs s_is_ascending) (defBody s_is_ascending) (defScope s_is_ascending) [] [] f fd) (z_len : mg "len" = none) (z_range : mg "range" = none) (z_all : mg "all" = none) (k_is_names : Kn P w K mg base 2 "is_names" ["value", "least", "most"] .sh d_is_names) : Kn P w K mg base 3 "is_ascending" ["value", "least", "most"] .sh d_is_ascending :=
  kn_ok (O' := []) (k := 2) hm F sc_is_ascending (by decide) (fun _ _ _ _ _ _ us hl => match us, hl with | [_, _, _], _ => rfl) fun cdv A outer s H E hh =>
    (bj_cons (sj_if (tj_not (tj_val (EJ.to_bo (ej_callK k_is_names hh (by decide) (by rfl) (by rfl) (by decide) (fun _ _ => rfl) (noStars_cons (fun _ _ => rfl) (noStars_cons (fun _ _ => rfl) noStars_nil)) (aj_cons (fun _ _ => rfl) (ej_var (O := []) (by decide) (pv 0)) (aj_cons (fun _ _ => rfl) (ej_var (O := []) (by decide) (pv 1)) (aj_cons (fun _ _ => rfl) (ej_var (O := []) (by decide) (pv 2)) aj_nil))) (alen_cons (alen_cons (alen_cons alen_nil))))))) (bj_cons (sj_ret ejm_bl) bj_nil) bj_nil) (bj_cons (sj_ret (ej_all hh (by rfl) z_all (fun _ _ => rfl) (EJ.to_bo (ej_comp hh (own := [("k", 3)]) (ij_range1 (by rfl) z_range (fun _ _ => rfl) (EJ.to_bo (ej_sub (EJ.to_bo (ej_len (by rfl) z_len (fun _ _ => rfl) (EJ.to_bo (ej_var (O := []) (by decide) (pv 0))))) ejm_int))) (blkOk_by (N := N_is_ascending) (sc := (defScope s_is_ascending)) (by decide +kernel)) (fun s_ H_ C_ cl_ fp_ hh => (gj_name (O := []) (by decide) (pg_name (i := 3) hh.nd rfl (by first | exact .inl rfl | exact .inr rfl)))) (fun s_ H_ C_ cl_ fp_ hh => tsj_nil) (fun s_ H_ C_ cl_ fp_ hh => (ej_cmp (lt_ok hh) (EJ.to_bo (ej_idx (EJ.to_bo (ej_var (O := []) (by decide) (pv 0))) (EJ.to_bo (ej_var (O := []) (by decide) (pv 3))))) (EJ.to_bo (ej_idx (EJ.to_bo (ej_var (O := []) (by decide) (pv 0))) (EJ.to_bo (ej_add (EJ.to_bo (ej_var (O := []) (by decide) (pv 3))) ejm_int)))))) (by intro _; rfl))))) bj_nil))

abbrev s_value_of : Stmt := topS 9
abbrev N_value_of : List Str := ["table", "name", "default", "pair"]
theorem sc_value_of : FnScope N_value_of ["table", "name", "default"] (defScope s_value_of) := ⟨rfl, rfl, rfl, by decide +kernel, rfl, by decide +kernel, by decide +kernel⟩
theorem ok_value_of {f : Addr} {fd : FuncData} (hm : mg "value_of" = some (.ref f)) (F : FunD K "value_of" "value_of" (defArgs s_value_of) (defBody s_value_of) (defScope s_value_of) [.non] [] f fd) : KnD P w K mg base 1 "value_of" ["table", "name", "default"] (.none) .sh d_value_of :=
  knD_ok (O' := []) (k := 0) hm F sc_value_of (by decide) (by decide) (fun _ => .non) (fun _ _ _ _ _ _ _ us its hu hi => match us, hu, its, hi with | [_, _], _, [_], _ => ⟨_, rfl, rfl⟩) (fun _ _ _ _ _ _ _ us its hu hi => match us, hu, its, hi with | [_, _, _], _, [_], _ => ⟨_, rfl, rfl⟩) fun cdv A outer s H E hh =>
    (bj_cons (sj_for hh (ij_val (ej_var (O := []) (by decide) (pv 0))) (gj_name (O := []) (by decide) (pg_name (i := 3) hh.nd rfl (by first | exact .inl rfl | exact .inr rfl))) (bj_cons (sj_if (tj_cmp (eq_ok hh) (EJ.to_bo (ej_idx (EJ.to_bo (ej_var (O := []) (by decide) (pv 3))) ejm_int)) (EJ.to_bo (ej_var (O := []) (by decide) (pv 1)))) (bj_cons (sj_ret (ej_idx (EJ.to_bo (ej_var (O := []) (by decide) (pv 3))) ejm_int)) bj_nil) bj_nil) bj_nil) (by intro _; rfl)) (bj_cons (sj_ret (ej_var (O := []) (by decide) (pv 2))) bj_nil))

abbrev s_serves : Stmt := topS 15
abbrev N_serves : List Str := ["grant", "deed"]
theorem sc_serves : FnScope N_serves ["grant", "deed"] (defScope s_serves) := ⟨rfl, rfl, rfl, by decide +kernel, rfl, by decide +kernel, by decide +kernel⟩
theorem ok_serves {f : Addr} {fd : FuncData} (hm : mg "serves" = some (.ref f)) (F : FunD K "serves" "serves" (defArgs s_serves) (defBody s_serves) (defScope s_serves) [] [] f fd) (c_ALL_DEEDS : KC mg K "ALL_DEEDS" (.str "all")) : Kn P w K mg base 1 "serves" ["grant", "deed"] .sh d_serves :=
  kn_ok (O' := []) (k := 0) hm F sc_serves (by decide) (fun _ _ _ _ _ _ us hl => match us, hl with | [_, _], _ => rfl) fun cdv A outer s H E hh =>
    (bj_cons (sj_ret (ej_or (ej_cmp (eq_ok hh) (EJ.to_bo (ej_idx (EJ.to_bo (ej_var (O := []) (by decide) (pv 0))) ejm_int)) (EJ.to_bo (ej_var (O := []) (by decide) (pv 1)))) (ej_one (ej_cmp (eq_ok hh) (EJ.to_bo (ej_idx (EJ.to_bo (ej_var (O := []) (by decide) (pv 0))) ejm_int)) (EJ.to_bo (ej_glob c_ALL_DEEDS (by rfl) (by decide))))))) bj_nil)

abbrev s_is_chain : Stmt := topS 16
abbrev N_is_chain : List Str := ["grants", "hand", "deed", "value", "holder", "name", "grant"]
theorem sc_is_chain : FnScope N_is_chain ["grants", "hand", "deed", "value"] (defScope s_is_chain) := ⟨rfl, rfl, rfl, by decide +kernel, rfl, by decide +kernel, by decide +kernel⟩
theorem ok_is_chain {f : Addr} {fd : FuncData} (hm : mg "is_chain" = some (.ref f)) (F : FunD K "is_chain" "is_chain" (defArgs s_is_chain) (defBody s_is_chain) (defScope s_is_chain) [] [] f fd) (c_GRANTS_MOST : KC mg K "GRANTS_MOST" (.int 24)) (c_MASTER : KC mg K "MASTER" (.str "master")) (k_is_names : Kn P w K mg base 2 "is_names" ["value", "least", "most"] .sh d_is_names) (k_value_of : KnD P w K mg base 1 "value_of" ["table", "name", "default"] (.none) .sh d_value_of) (k_serves : Kn P w K mg base 1 "serves" ["grant", "deed"] .sh d_serves) : Kn P w K mg base 3 "is_chain" ["grants", "hand", "deed", "value"] .sh d_is_chain :=
  kn_ok (O' := []) (k := 2) hm F sc_is_chain (by decide) (fun _ _ _ _ _ _ us hl => match us, hl with | [_, _, _, _], _ => rfl) fun cdv A outer s H E hh =>
    (bj_cons (sj_if (tj_not (tj_val (EJ.to_bo (ej_callK k_is_names hh (by decide) (by rfl) (by rfl) (by decide) (fun _ _ => rfl) (noStars_cons (fun _ _ => rfl) (noStars_cons (fun _ _ => rfl) noStars_nil)) (aj_cons (fun _ _ => rfl) (ej_var (O := []) (by decide) (pv 3)) (aj_cons (fun _ _ => rfl) ejm_int (aj_cons (fun _ _ => rfl) (ej_glob c_GRANTS_MOST (by rfl) (by decide)) aj_nil))) (alen_cons (alen_cons (alen_cons alen_nil))))))) (bj_cons (sj_ret ejm_bl) bj_nil) bj_nil) (bj_cons (sj_set (O := []) (i := 4) (by decide) (ej_glob c_MASTER (by rfl) (by decide)) fun _ h => ps_set (i := 4) hh.nd rfl (by first | exact .inl rfl | exact .inr rfl) h) (bj_cons (sj_for hh (ij_val (ej_var (O := []) (by decide) (pv 3))) (gj_name (O := []) (by decide) (pg_name (i := 5) hh.nd rfl (by first | exact .inl rfl | exact .inr rfl))) (bj_cons (sj_set (O := []) (i := 6) (by decide) (ej_callDf k_value_of hh (by decide) (by rfl) (by rfl) (by decide) (fun _ _ => rfl) (noStars_cons (fun _ _ => rfl) noStars_nil) (aj_cons (fun _ _ => rfl) (ej_var (O := []) (by decide) (pv 0)) (aj_cons (fun _ _ => rfl) (ej_var (O := []) (by decide) (pv 5)) aj_nil)) (alen_cons (alen_cons alen_nil))) fun _ h => ps_set (i := 6) hh.nd rfl (by first | exact .inl rfl | exact .inr rfl) h) (bj_cons (sj_if (WJ.tj (wj_or (tj_cmp isN_ok (EJ.to_bo (ej_var (O := []) (by decide) (pv 6))) ejm_non) (wj_or (tj_not (tj_val (EJ.to_bo (ej_callK k_serves hh (by decide) (by rfl) (by rfl) (by decide) (fun _ _ => rfl) (noStars_cons (fun _ _ => rfl) noStars_nil) (aj_cons (fun _ _ => rfl) (ej_var (O := []) (by decide) (pv 6)) (aj_cons (fun _ _ => rfl) (ej_var (O := []) (by decide) (pv 2)) aj_nil)) (alen_cons (alen_cons alen_nil)))))) (wj_or1 (tj_cmp (ne_ok hh) (EJ.to_bo (ej_idx (EJ.to_bo (ej_var (O := []) (by decide) (pv 6))) ejm_int)) (EJ.to_bo (ej_var (O := []) (by decide) (pv 4)))))))) (bj_cons (sj_ret ejm_bl) bj_nil) bj_nil) (bj_cons (sj_set (O := []) (i := 4) (by decide) (ej_idx (EJ.to_bo (ej_var (O := []) (by decide) (pv 6))) ejm_int) fun _ h => ps_set (i := 4) hh.nd rfl (by first | exact .inl rfl | exact .inr rfl) h) bj_nil))) (by intro _; rfl)) (bj_cons (sj_ret (ej_cmp (eq_ok hh) (EJ.to_bo (ej_var (O := []) (by decide) (pv 4))) (EJ.to_bo (ej_var (O := []) (by decide) (pv 1))))) bj_nil))))

abbrev s_is_closed : Stmt := topS 17
abbrev N_is_closed : List Str := ["grants", "hand", "deed", "value", "pair", "grant"]
theorem sc_is_closed : FnScope N_is_closed ["grants", "hand", "deed", "value"] (defScope s_is_closed) := ⟨rfl, rfl, rfl, by decide +kernel, rfl, by decide +kernel, by decide +kernel⟩
theorem ok_is_closed {f : Addr} {fd : FuncData} (hm : mg "is_closed" = some (.ref f)) (F : FunD K "is_closed" "is_closed" (defArgs s_is_closed) (defBody s_is_closed) (defScope s_is_closed) [] [] f fd) (c_HANDS_MOST : KC mg K "HANDS_MOST" (.int 99)) (c_MASTER : KC mg K "MASTER" (.str "master")) (k_is_ascending : Kn P w K mg base 3 "is_ascending" ["value", "least", "most"] .sh d_is_ascending) (k_serves : Kn P w K mg base 1 "serves" ["grant", "deed"] .sh d_serves) : Kn P w K mg base 4 "is_closed" ["grants", "hand", "deed", "value"] .sh d_is_closed_2 :=
  kn_ok (O' := []) (k := 3) hm F sc_is_closed (by decide) (fun _ _ _ _ _ _ us hl => match us, hl with | [_, _, _, _], _ => rfl) fun cdv A outer s H E hh =>
    (bj_cons (sj_if (WJ.tj (wj_or (tj_not (tj_val (EJ.to_bo (ej_callK k_is_ascending hh (by decide) (by rfl) (by rfl) (by decide) (fun _ _ => rfl) (noStars_cons (fun _ _ => rfl) (noStars_cons (fun _ _ => rfl) noStars_nil)) (aj_cons (fun _ _ => rfl) (ej_var (O := []) (by decide) (pv 3)) (aj_cons (fun _ _ => rfl) ejm_int (aj_cons (fun _ _ => rfl) (ej_glob c_HANDS_MOST (by rfl) (by decide)) aj_nil))) (alen_cons (alen_cons (alen_cons alen_nil))))))) (wj_or (tj_cmp (notIn_ok hh (by rfl)) (EJ.to_bo (ej_glob c_MASTER (by rfl) (by decide))) (EJ.to_bo (ej_var (O := []) (by decide) (pv 3)))) (wj_or1 (tj_cmp (in_ok hh (by rfl)) (EJ.to_bo (ej_var (O := []) (by decide) (pv 1))) (EJ.to_bo (ej_var (O := []) (by decide) (pv 3)))))))) (bj_cons (sj_ret ejm_bl) bj_nil) bj_nil) (bj_cons (sj_for hh (ij_val (ej_var (O := []) (by decide) (pv 0))) (gj_name (O := []) (by decide) (pg_name (i := 4) hh.nd rfl (by first | exact .inl rfl | exact .inr rfl))) (bj_cons (sj_set (O := []) (i := 5) (by decide) (ej_idx (EJ.to_bo (ej_var (O := []) (by decide) (pv 4))) ejm_int) fun _ h => ps_set (i := 5) hh.nd rfl (by first | exact .inl rfl | exact .inr rfl) h) (bj_cons (sj_if (WJ.tj (wj_and (tj_val (EJ.to_bo (ej_callK k_serves hh (by decide) (by rfl) (by rfl) (by decide) (fun _ _ => rfl) (noStars_cons (fun _ _ => rfl) noStars_nil) (aj_cons (fun _ _ => rfl) (ej_var (O := []) (by decide) (pv 5)) (aj_cons (fun _ _ => rfl) (ej_var (O := []) (by decide) (pv 2)) aj_nil)) (alen_cons (alen_cons alen_nil))))) (wj_and (tj_cmp (in_ok hh (by rfl)) (EJ.to_bo (ej_idx (EJ.to_bo (ej_var (O := []) (by decide) (pv 5))) ejm_int)) (EJ.to_bo (ej_var (O := []) (by decide) (pv 3)))) (wj_and1 (tj_cmp (notIn_ok hh (by rfl)) (EJ.to_bo (ej_idx (EJ.to_bo (ej_var (O := []) (by decide) (pv 5))) ejm_int)) (EJ.to_bo (ej_var (O := []) (by decide) (pv 3)))))))) (bj_cons (sj_ret ejm_bl) bj_nil) bj_nil) bj_nil)) (by intro _; rfl)) (bj_cons (sj_ret ejm_bl) bj_nil)))

abbrev s_hands_that_may : Stmt := topS 19
abbrev N_hands_that_may : List Str := ["grants", "deed", "reached", "at", "pair", "grant"]
theorem sc_hands_that_may : FnScope N_hands_that_may ["grants", "deed"] (defScope s_hands_that_may) := ⟨rfl, rfl, rfl, by decide +kernel, rfl, by decide +kernel, by decide +kernel⟩
theorem ok_hands_that_may {f : Addr} {fd : FuncData} (hm : mg "hands_that_may" = some (.ref f)) (F : FunD K "hands_that_may" "hands_that_may" (defArgs s_hands_that_may) (defBody s_hands_that_may) (defScope s_hands_that_may) [] [] f fd) (z_len : mg "len" = none) (z_sorted : mg "sorted" = none) (z_tuple : mg "tuple" = none) (c_MASTER : KC mg K "MASTER" (.str "master")) (k_serves : Kn P w K mg base 1 "serves" ["grant", "deed"] .sh d_serves) : Kn P w K mg base 2 "hands_that_may" ["grants", "deed"] .sh d_hands_that_may :=
  kn_ok (O' := []) (k := 1) hm F sc_hands_that_may (by decide) (fun _ _ _ _ _ _ us hl => match us, hl with | [_, _], _ => rfl) fun cdv A outer s H E hh =>
    (bj_cons (sj_setO (O := []) (O' := [2]) (i := 2) (by decide) (ej_lst (aj_cons (fun _ _ => rfl) (ej_glob c_MASTER (by rfl) (by decide)) aj_nil)) fun _ h => ps_set (i := 2) hh.nd rfl (by first | exact .inl rfl | exact .inr rfl) h) (bj_cons (sj_set (O := [2]) (i := 3) (by decide) ejm_int fun _ h => ps_set (i := 3) hh.nd rfl (by first | exact .inl rfl | exact .inr rfl) h) (bj_cons (sj_while hh (tj_cmp (lt_ok hh) (EJ.to_bo (ej_var (O := [2]) (by decide) (pv 3))) (EJ.to_bo (ej_len (by rfl) z_len (fun _ _ => rfl) (ej_own (pv 2))))) (bj_cons (sj_for hh (ij_val (ej_var (O := [2]) (by decide) (pv 0))) (gj_name (O := [2]) (by decide) (pg_name (i := 4) hh.nd rfl (by first | exact .inl rfl | exact .inr rfl))) (bj_cons (sj_set (O := [2]) (i := 5) (by decide) (ej_idx (EJ.to_bo (ej_var (O := [2]) (by decide) (pv 4))) ejm_int) fun _ h => ps_set (i := 5) hh.nd rfl (by first | exact .inl rfl | exact .inr rfl) h) (bj_cons (sj_if (WJ.tj (wj_and (tj_val (EJ.to_bo (ej_callK k_serves hh (by decide) (by rfl) (by rfl) (by decide) (fun _ _ => rfl) (noStars_cons (fun _ _ => rfl) noStars_nil) (aj_cons (fun _ _ => rfl) (ej_var (O := [2]) (by decide) (pv 5)) (aj_cons (fun _ _ => rfl) (ej_var (O := [2]) (by decide) (pv 1)) aj_nil)) (alen_cons (alen_cons alen_nil))))) (wj_and (tj_cmp (eq_ok hh) (EJ.to_bo (ej_idx (EJ.to_bo (ej_var (O := [2]) (by decide) (pv 5))) ejm_int)) (EJ.to_bo (ej_idx (ej_own (pv 2)) (EJ.to_bo (ej_var (O := [2]) (by decide) (pv 3)))))) (wj_and1 (tj_cmp (notIn_ok hh (by rfl)) (EJ.to_bo (ej_idx (EJ.to_bo (ej_var (O := [2]) (by decide) (pv 5))) ejm_int)) (ej_own (pv 2))))))) (bj_cons (sj_app (O := [2]) (i := 2) (by decide) (ej_idx (EJ.to_bo (ej_var (O := [2]) (by decide) (pv 5))) ejm_int) fun _ h => ps_expr (pe_bm PySem.F.plainAttrs_list PySem.F.slot_list_append PySem.F.type_list_append mt_append (pv 2) (pa_cons h pa_nil))) bj_nil) bj_nil) bj_nil)) (by intro _; rfl)) (bj_cons (sj_augAdd (O := [2]) (i := 3) (by decide) ejm_int fun _ _ h1 h2 => ps_aug (i := 3) hh.nd rfl (by first | exact .inl rfl | exact .inr rfl) h1 h2) bj_nil))) (bj_cons (sj_ret (ej_tuple (by rfl) z_tuple (fun _ _ => rfl) (EJ.to_bo (ej_sorted hh (by rfl) z_sorted (fun _ _ => rfl) (ej_own (pv 2)))))) bj_nil))))

abbrev s_sizes_to_hand : Stmt := topS 20
abbrev N_sizes_to_hand : List Str := ["grants", "hand", "deed", "sizes", "size", "pair", "grant"]
theorem sc_sizes_to_hand : FnScope N_sizes_to_hand ["grants", "hand", "deed"] (defScope s_sizes_to_hand) := ⟨rfl, rfl, rfl, by decide +kernel, rfl, by decide +kernel, by decide +kernel⟩
theorem ok_sizes_to_hand {f : Addr} {fd : FuncData} (hm : mg "sizes_to_hand" = some (.ref f)) (F : FunD K "sizes_to_hand" "sizes_to_hand" (defArgs s_sizes_to_hand) (defBody s_sizes_to_hand) (defScope s_sizes_to_hand) [] [] f fd) (z_len : mg "len" = none) (z_range : mg "range" = none) (k_serves : Kn P w K mg base 1 "serves" ["grant", "deed"] .sh d_serves) : Kn P w K mg base 2 "sizes_to_hand" ["grants", "hand", "deed"] .sh d_sizes_to_hand :=
  kn_ok (O' := []) (k := 1) hm F sc_sizes_to_hand (by decide) (fun _ _ _ _ _ _ us hl => match us, hl with | [_, _, _], _ => rfl) fun cdv A outer s H E hh =>
    (bj_cons (sj_setO (O := []) (O' := [3]) (i := 3) (by decide) (ej_disp1 (ej_var (O := []) (by decide) (pv 1)) ejm_int) fun _ h => ps_set (i := 3) hh.nd rfl (by first | exact .inl rfl | exact .inr rfl) h) (bj_cons (sj_for hh (ij_range2 (by rfl) z_range (fun _ _ => rfl) (fun _ _ => rfl) ejm_int (EJ.to_bo (ej_add (EJ.to_bo (ej_len (by rfl) z_len (fun _ _ => rfl) (EJ.to_bo (ej_var (O := [3]) (by decide) (pv 0))))) ejm_int))) (gj_name (O := [3]) (by decide) (pg_name (i := 4) hh.nd rfl (by first | exact .inl rfl | exact .inr rfl))) (bj_cons (sj_for hh (ij_val (ej_var (O := [3]) (by decide) (pv 0))) (gj_name (O := [3]) (by decide) (pg_name (i := 5) hh.nd rfl (by first | exact .inl rfl | exact .inr rfl))) (bj_cons (sj_set (O := [3]) (i := 6) (by decide) (ej_idx (EJ.to_bo (ej_var (O := [3]) (by decide) (pv 5))) ejm_int) fun _ h => ps_set (i := 6) hh.nd rfl (by first | exact .inl rfl | exact .inr rfl) h) (bj_cons (sj_if (WJ.tj (wj_and (tj_val (EJ.to_bo (ej_callK k_serves hh (by decide) (by rfl) (by rfl) (by decide) (fun _ _ => rfl) (noStars_cons (fun _ _ => rfl) noStars_nil) (aj_cons (fun _ _ => rfl) (ej_var (O := [3]) (by decide) (pv 6)) (aj_cons (fun _ _ => rfl) (ej_var (O := [3]) (by decide) (pv 2)) aj_nil)) (alen_cons (alen_cons alen_nil))))) (wj_and (tj_cmp (eq_ok hh) (EJ.to_bo (ej_get1 hh ⟨by rfl, by rfl, by rfl, by rfl⟩ (ej_own (pv 3)) (EJ.to_bo (ej_idx (EJ.to_bo (ej_var (O := [3]) (by decide) (pv 6))) ejm_int)))) (EJ.to_bo (ej_sub (EJ.to_bo (ej_var (O := [3]) (by decide) (pv 4))) ejm_int))) (wj_and1 (tj_cmp (ninD_ok hh (by rfl)) (EJ.to_bo (ej_idx (EJ.to_bo (ej_var (O := [3]) (by decide) (pv 6))) ejm_int)) (ej_own (pv 3))))))) (bj_cons (sj_storeD (O := [3]) (i := 3) (by decide) hh (EJ.to_bo (ej_idx (EJ.to_bo (ej_var (O := [3]) (by decide) (pv 6))) ejm_int)) (ej_var (O := [3]) (by decide) (pv 4)) (pv 3) (by rfl)) bj_nil) bj_nil) bj_nil)) (by intro _; rfl)) bj_nil) (by intro _; rfl)) (BJ.drop [3] (bj_cons (sj_ret (ej_var (O := []) (by decide) (pv 3))) bj_nil))))

abbrev s_right_report : Stmt := topS 21
abbrev N_right_report : List Str := ["grants", "hand", "deed", "sizes", "names", "holder", "size", "following", "name", "grant"]
theorem sc_right_report : FnScope N_right_report ["grants", "hand", "deed"] (defScope s_right_report) := ⟨rfl, rfl, rfl, by decide +kernel, rfl, by decide +kernel, by decide +kernel⟩
theorem ok_right_report {f : Addr} {fd : FuncData} (hm : mg "right_report" = some (.ref f)) (F : FunD K "right_report" "right_report" (defArgs s_right_report) (defBody s_right_report) (defScope s_right_report) [] [] f fd) (z_range : mg "range" = none) (z_tuple : mg "tuple" = none) (c_MASTER : KC mg K "MASTER" (.str "master")) (k_sizes_to_hand : Kn P w K mg base 2 "sizes_to_hand" ["grants", "hand", "deed"] .sh d_sizes_to_hand) (k_hands_that_may : Kn P w K mg base 2 "hands_that_may" ["grants", "deed"] .sh d_hands_that_may) (k_serves : Kn P w K mg base 1 "serves" ["grant", "deed"] .sh d_serves) : Kn P w K mg base 3 "right_report" ["grants", "hand", "deed"] .sh d_right_report :=
  kn_ok (O' := []) (k := 2) hm F sc_right_report (by decide) (fun _ _ _ _ _ _ us hl => match us, hl with | [_, _, _], _ => rfl) fun cdv A outer s H E hh =>
    (bj_cons (sj_set (O := []) (i := 3) (by decide) (ej_callK k_sizes_to_hand hh (by decide) (by rfl) (by rfl) (by decide) (fun _ _ => rfl) (noStars_cons (fun _ _ => rfl) (noStars_cons (fun _ _ => rfl) noStars_nil)) (aj_cons (fun _ _ => rfl) (ej_var (O := []) (by decide) (pv 0)) (aj_cons (fun _ _ => rfl) (ej_var (O := []) (by decide) (pv 1)) (aj_cons (fun _ _ => rfl) (ej_var (O := []) (by decide) (pv 2)) aj_nil))) (alen_cons (alen_cons (alen_cons alen_nil)))) fun _ h => ps_set (i := 3) hh.nd rfl (by first | exact .inl rfl | exact .inr rfl) h) (bj_cons (sj_if (tj_cmp (ninD_ok hh (by rfl)) (EJ.to_bo (ej_glob c_MASTER (by rfl) (by decide))) (EJ.to_bo (ej_var (O := []) (by decide) (pv 3)))) (bj_cons (sj_ret (ej_tup (aj_cons (fun _ _ => rfl) (ej_str (by decide +kernel)) (aj_cons (fun _ _ => rfl) (ej_callK k_hands_that_may hh (by decide) (by rfl) (by rfl) (by decide) (fun _ _ => rfl) (noStars_cons (fun _ _ => rfl) noStars_nil) (aj_cons (fun _ _ => rfl) (ej_var (O := []) (by decide) (pv 0)) (aj_cons (fun _ _ => rfl) (ej_var (O := []) (by decide) (pv 2)) aj_nil)) (alen_cons (alen_cons alen_nil))) aj_nil)))) bj_nil) bj_nil) (bj_cons (sj_setO (O := []) (O' := [4]) (i := 4) (by decide) (ej_lst aj_nil) fun _ h => ps_set (i := 4) hh.nd rfl (by first | exact .inl rfl | exact .inr rfl) h) (bj_cons (sj_set (O := [4]) (i := 5) (by decide) (ej_glob c_MASTER (by rfl) (by decide)) fun _ h => ps_set (i := 5) hh.nd rfl (by first | exact .inl rfl | exact .inr rfl) h) (bj_cons (sj_for hh (ij_range3 (by rfl) z_range (fun _ _ => rfl) (fun _ _ => rfl) (fun _ _ => rfl) (EJ.to_bo (ej_sub (EJ.to_bo (ej_getD hh (fun _ _ => rfl) (EJ.to_bo (ej_var (O := [4]) (by decide) (pv 3))) (EJ.to_bo (ej_glob c_MASTER (by rfl) (by decide))))) ejm_int)) (EJ.to_bo (ej_neg ejm_int)) (EJ.to_bo (ej_neg ejm_int))) (gj_name (O := [4]) (by decide) (pg_name (i := 6) hh.nd rfl (by first | exact .inl rfl | exact .inr rfl))) (bj_cons (sj_setComp (O := [4]) (i := 7) (by decide) hh (own := [("name", 8), ("grant", 9)]) (ij_valB (EJ.to_bo (ej_var (O := [4]) (by decide) (pv 0)))) (blkOk_by (N := N_right_report) (sc := (defScope s_right_report)) (by decide +kernel)) (fun s_ H_ C_ cl_ fp_ hh => (gj_tup rfl (gsj_cons (gj_name (O := [4]) (by decide) (pg_name (i := 8) hh.nd rfl (by first | exact .inl rfl | exact .inr rfl))) (gsj_cons (gj_name (O := [4]) (by decide) (pg_name (i := 9) hh.nd rfl (by first | exact .inl rfl | exact .inr rfl))) gsj_nil rfl) rfl) rfl rfl)) (fun s_ H_ C_ cl_ fp_ hh => (tsj_one (WJ.tj (wj_and (tj_val (EJ.to_bo (ej_callK k_serves hh (by decide) (by rfl) (by rfl) (by decide) (fun _ _ => rfl) (noStars_cons (fun _ _ => rfl) noStars_nil) (aj_cons (fun _ _ => rfl) (ej_var (O := [4]) (by decide) (pv 9)) (aj_cons (fun _ _ => rfl) (ej_var (O := [4]) (by decide) (pv 2)) aj_nil)) (alen_cons (alen_cons alen_nil))))) (wj_and (tj_cmp (eq_ok hh) (EJ.to_bo (ej_idx (EJ.to_bo (ej_var (O := [4]) (by decide) (pv 9))) ejm_int)) (EJ.to_bo (ej_var (O := [4]) (by decide) (pv 5)))) (wj_and1 (tj_cmp (eq_ok hh) (EJ.to_bo (ej_get1 hh ⟨by rfl, by rfl, by rfl, by rfl⟩ (EJ.to_bo (ej_var (O := [4]) (by decide) (pv 3))) (EJ.to_bo (ej_idx (EJ.to_bo (ej_var (O := [4]) (by decide) (pv 9))) ejm_int)))) (EJ.to_bo (ej_var (O := [4]) (by decide) (pv 6)))))))))) (fun s_ H_ C_ cl_ fp_ hh => (ej_tup (aj_cons (fun _ _ => rfl) (ej_var (O := [4]) (by decide) (pv 8)) (aj_cons (fun _ _ => rfl) (ej_idx (EJ.to_bo (ej_var (O := [4]) (by decide) (pv 9))) ejm_int) aj_nil)))) (by intro _; rfl) rfl rfl rfl) (bj_cons (sj_unp (ej_idx (EJ.to_bo (ej_var (O := [4]) (by decide) (pv 7))) ejm_int) (gj_tup rfl (gsj_cons (gj_name (O := [4]) (by decide) (pg_name (i := 8) hh.nd rfl (by first | exact .inl rfl | exact .inr rfl))) (gsj_cons (gj_name (O := [4]) (by decide) (pg_name (i := 5) hh.nd rfl (by first | exact .inl rfl | exact .inr rfl))) gsj_nil rfl) rfl) rfl rfl) fun _ _ h1 h2 => ps_asg h1 h2) (bj_cons (sj_app (O := [4]) (i := 4) (by decide) (ej_var (O := [4]) (by decide) (pv 8)) fun _ h => ps_expr (pe_bm PySem.F.plainAttrs_list PySem.F.slot_list_append PySem.F.type_list_append mt_append (pv 4) (pa_cons h pa_nil))) bj_nil))) (by intro _; rfl)) (bj_cons (sj_ret (ej_tup (aj_cons (fun _ _ => rfl) (ej_str (by decide +kernel)) (aj_cons (fun _ _ => rfl) (ej_tuple (by rfl) z_tuple (fun _ _ => rfl) (ej_own (pv 4))) aj_nil)))) bj_nil))))))

abbrev s_shows_right : Stmt := topS 22
abbrev N_shows_right : List Str := ["grants", "hand", "deed", "paper"]
theorem sc_shows_right : FnScope N_shows_right ["grants", "hand", "deed", "paper"] (defScope s_shows_right) := ⟨rfl, rfl, rfl, by decide +kernel, rfl, by decide +kernel, by decide +kernel⟩
theorem ok_shows_right {f : Addr} {fd : FuncData} (hm : mg "shows_right" = some (.ref f)) (F : FunD K "shows_right" "shows_right" (defArgs s_shows_right) (defBody s_shows_right) (defScope s_shows_right) [] [] f fd) (k_is_row : Kn P w K mg base 1 "is_row" ["value", "least", "most"] .sh d_is_row) (k_is_chain : Kn P w K mg base 3 "is_chain" ["grants", "hand", "deed", "value"] .sh d_is_chain) (k_is_closed : Kn P w K mg base 4 "is_closed" ["grants", "hand", "deed", "value"] .sh d_is_closed_2) : Kn P w K mg base 5 "shows_right" ["grants", "hand", "deed", "paper"] .sh d_shows_right :=
  kn_ok (O' := []) (k := 4) hm F sc_shows_right (by decide) (fun _ _ _ _ _ _ us hl => match us, hl with | [_, _, _, _], _ => rfl) fun cdv A outer s H E hh =>
    (bj_cons (sj_if (tj_not (tj_val (EJ.to_bo (ej_callK k_is_row hh (by decide) (by rfl) (by rfl) (by decide) (fun _ _ => rfl) (noStars_cons (fun _ _ => rfl) (noStars_cons (fun _ _ => rfl) noStars_nil)) (aj_cons (fun _ _ => rfl) (ej_var (O := []) (by decide) (pv 3)) (aj_cons (fun _ _ => rfl) ejm_int (aj_cons (fun _ _ => rfl) ejm_int aj_nil))) (alen_cons (alen_cons (alen_cons alen_nil))))))) (bj_cons (sj_ret ejm_bl) bj_nil) bj_nil) (bj_cons (sj_if (tj_cmp (eq_ok hh) (EJ.to_bo (ej_idx (EJ.to_bo (ej_var (O := []) (by decide) (pv 3))) ejm_int)) (EJ.to_bo (ej_str (by decide +kernel)))) (bj_cons (sj_ret (ej_callK k_is_chain hh (by decide) (by rfl) (by rfl) (by decide) (fun _ _ => rfl) (noStars_cons (fun _ _ => rfl) (noStars_cons (fun _ _ => rfl) (noStars_cons (fun _ _ => rfl) noStars_nil))) (aj_cons (fun _ _ => rfl) (ej_var (O := []) (by decide) (pv 0)) (aj_cons (fun _ _ => rfl) (ej_var (O := []) (by decide) (pv 1)) (aj_cons (fun _ _ => rfl) (ej_var (O := []) (by decide) (pv 2)) (aj_cons (fun _ _ => rfl) (ej_idx (EJ.to_bo (ej_var (O := []) (by decide) (pv 3))) ejm_int) aj_nil)))) (alen_cons (alen_cons (alen_cons (alen_cons alen_nil)))))) bj_nil) bj_nil) (bj_cons (sj_ret (ej_and (ej_cmp (eq_ok hh) (EJ.to_bo (ej_idx (EJ.to_bo (ej_var (O := []) (by decide) (pv 3))) ejm_int)) (EJ.to_bo (ej_str (by decide +kernel)))) (ej_one (ej_callK k_is_closed hh (by decide) (by rfl) (by rfl) (by decide) (fun _ _ => rfl) (noStars_cons (fun _ _ => rfl) (noStars_cons (fun _ _ => rfl) (noStars_cons (fun _ _ => rfl) noStars_nil))) (aj_cons (fun _ _ => rfl) (ej_var (O := []) (by decide) (pv 0)) (aj_cons (fun _ _ => rfl) (ej_var (O := []) (by decide) (pv 1)) (aj_cons (fun _ _ => rfl) (ej_var (O := []) (by decide) (pv 2)) (aj_cons (fun _ _ => rfl) (ej_idx (EJ.to_bo (ej_var (O := []) (by decide) (pv 3))) ejm_int) aj_nil)))) (alen_cons (alen_cons (alen_cons (alen_cons alen_nil)))))))) bj_nil)))

abbrev s__law_cell : Stmt := topS 24
abbrev N__law_cell : List Str := ["script", "place", "cell"]
theorem sc__law_cell : FnScope N__law_cell ["script", "place"] (defScope s__law_cell) := ⟨rfl, rfl, rfl, by decide +kernel, rfl, by decide +kernel, by decide +kernel⟩
theorem ok__law_cell {f : Addr} {fd : FuncData} (hm : mg "_law_cell" = some (.ref f)) (F : FunD K "_law_cell" "_law_cell" (defArgs s__law_cell) (defBody s__law_cell) (defScope s__law_cell) [] [] f fd) (z_len : mg "len" = none) : Kn P w K mg base 1 "_law_cell" ["script", "place"] .sh d_law_cell_3 :=
  kn_ok (O' := []) (k := 0) hm F sc__law_cell (by decide) (fun _ _ _ _ _ _ us hl => match us, hl with | [_, _], _ => rfl) fun cdv A outer s H E hh =>
    (bj_cons (sj_set (O := []) (i := 2) (by decide) ejm_int fun _ h => ps_set (i := 2) hh.nd rfl (by first | exact .inl rfl | exact .inr rfl) h) (bj_cons (sj_if (tj_cmp (lt_ok hh) (EJ.to_bo (ej_var (O := []) (by decide) (pv 1))) (EJ.to_bo (ej_len (by rfl) z_len (fun _ _ => rfl) (EJ.to_bo (ej_var (O := []) (by decide) (pv 0)))))) (bj_cons (sj_set (O := []) (i := 2) (by decide) (ej_idx (EJ.to_bo (ej_var (O := []) (by decide) (pv 0))) (EJ.to_bo (ej_var (O := []) (by decide) (pv 1)))) fun _ h => ps_set (i := 2) hh.nd rfl (by first | exact .inl rfl | exact .inr rfl) h) bj_nil) bj_nil) (bj_cons (sj_if (tj_chain le_ok (lt_ok hh) ejm_int (EJ.to_bo (ej_var (O := []) (by decide) (pv 2))) ejm_int fun _ _ _ _ _ h1 h2 h3 h4 h5 => pt_chain h1 h2 h3 h4 h5) (bj_cons (sj_ret (ej_div (EJ.to_bo (ej_pow (EJ.to_bo (ej_add (EJ.to_bo (ej_add (EJ.to_bo (ej_var (O := []) (by decide) (pv 2))) ejm_int)) (EJ.to_bo (ej_mul ejm_int (EJ.to_bo (ej_var (O := []) (by decide) (pv 1))))))) ejm_int)) ejm_int)) bj_nil) bj_nil) (bj_cons (sj_ret (ej_var (O := []) (by decide) (pv 2))) bj_nil))))

abbrev s__law_digits : Stmt := topS 25
abbrev N__law_digits : List Str := ["cell", "bases", "found", "rest", "base"]
theorem sc__law_digits : FnScope N__law_digits ["cell", "bases"] (defScope s__law_digits) := ⟨rfl, rfl, rfl, by decide +kernel, rfl, by decide +kernel, by decide +kernel⟩
theorem ok__law_digits {f : Addr} {fd : FuncData} (hm : mg "_law_digits" = some (.ref f)) (F : FunD K "_law_digits" "_law_digits" (defArgs s__law_digits) (defBody s__law_digits) (defScope s__law_digits) [] [] f fd) (z_int : mg "int" = none) : Kn P w K mg base 1 "_law_digits" ["cell", "bases"] .fr d_law_digits :=
  kn_ok (O' := []) (k := 0) hm F sc__law_digits (by decide) (fun _ _ _ _ _ _ us hl => match us, hl with | [_, _], _ => rfl) fun cdv A outer s H E hh =>
    (bj_cons (sj_setO (O := []) (O' := [2]) (i := 2) (by decide) (ej_lst aj_nil) fun _ h => ps_set (i := 2) hh.nd rfl (by first | exact .inl rfl | exact .inr rfl) h) (bj_cons (sj_set (O := [2]) (i := 3) (by decide) (ej_var (O := [2]) (by decide) (pv 0)) fun _ h => ps_set (i := 3) hh.nd rfl (by first | exact .inl rfl | exact .inr rfl) h) (bj_cons (sj_for hh (ij_val (ej_var (O := [2]) (by decide) (pv 1))) (gj_name (O := [2]) (by decide) (pg_name (i := 4) hh.nd rfl (by first | exact .inl rfl | exact .inr rfl))) (bj_cons (sj_app (O := [2]) (i := 2) (by decide) (ej_mod (EJ.to_bo (ej_int' (by rfl) z_int (fun _ _ => rfl) (EJ.to_bo (ej_var (O := [2]) (by decide) (pv 3))))) (EJ.to_bo (ej_var (O := [2]) (by decide) (pv 4)))) fun _ h => ps_expr (pe_bm PySem.F.plainAttrs_list PySem.F.slot_list_append PySem.F.type_list_append mt_append (pv 2) (pa_cons h pa_nil))) (bj_cons (sj_set (O := [2]) (i := 3) (by decide) (ej_div (EJ.to_bo (ej_var (O := [2]) (by decide) (pv 3))) (EJ.to_bo (ej_var (O := [2]) (by decide) (pv 4)))) fun _ h => ps_set (i := 3) hh.nd rfl (by first | exact .inl rfl | exact .inr rfl) h) bj_nil)) (by intro _; rfl)) (bj_cons (sj_retO (by decide) (pv 2)) bj_nil))))

abbrev s__law_same : Stmt := topS 26
abbrev N__law_same : List Str := ["one", "other", "k"]
theorem sc__law_same : FnScope N__law_same ["one", "other"] (defScope s__law_same) := ⟨rfl, rfl, rfl, by decide +kernel, rfl, by decide +kernel, by decide +kernel⟩
theorem ok__law_same {f : Addr} {fd : FuncData} (hm : mg "_law_same" = some (.ref f)) (F : FunD K "_law_same" "_law_same" (defArgs s__law_same) (defBody s__law_same) (defScope s__law_same) [] [] f fd) (z_isinstance : mg "isinstance" = none) (z_tuple : mg "tuple" = none) (z_len : mg "len" = none) (z_range : mg "range" = none) (z_all : mg "all" = none) (z_str : mg "str" = none) (z_bool : mg "bool" = none) (z_int : mg "int" = none) : ∀ n, Kn P w K mg base (0 + n) "_law_same" ["one", "other"] .sh (d_law_same_3 n)
  | 0 => kn_bad hm F (fun _ _ _ _ _ _ us hl => match us, hl with | [_, _], _ => rfl)
  | n + 1 => kn_ok (O' := []) (k := 0 + n) hm F sc__law_same (by decide) (fun _ _ _ _ _ _ us hl => match us, hl with | [_, _], _ => rfl) fun cdv A outer s H E hh => by
    have k_rec := ok__law_same hm F z_isinstance z_tuple z_len z_range z_all z_str z_bool z_int n
    exact (bj_cons (sj_if (WJ.tj (wj_and (tj_val (EJ.to_bo (ej_isi (by rfl) z_isinstance (by rfl) z_tuple (by decide +kernel) (by decide) (by decide) (fun _ _ => rfl) (EJ.to_bo (ej_var (O := []) (by decide) (pv 0)))))) (wj_and1 (tj_val (EJ.to_bo (ej_isi (by rfl) z_isinstance (by rfl) z_tuple (by decide +kernel) (by decide) (by decide) (fun _ _ => rfl) (EJ.to_bo (ej_var (O := []) (by decide) (pv 1))))))))) (bj_cons (sj_ret (ej_and (ej_cmp (eq_ok hh) (EJ.to_bo (ej_len (by rfl) z_len (fun _ _ => rfl) (EJ.to_bo (ej_var (O := []) (by decide) (pv 0))))) (EJ.to_bo (ej_len (by rfl) z_len (fun _ _ => rfl) (EJ.to_bo (ej_var (O := []) (by decide) (pv 1)))))) (ej_one (ej_all hh (by rfl) z_all (fun _ _ => rfl) (EJ.to_bo (ej_comp hh (own := [("k", 2)]) (ij_range1 (by rfl) z_range (fun _ _ => rfl) (EJ.to_bo (ej_len (by rfl) z_len (fun _ _ => rfl) (EJ.to_bo (ej_var (O := []) (by decide) (pv 0)))))) (blkOk_by (N := N__law_same) (sc := (defScope s__law_same)) (by decide +kernel)) (fun s_ H_ C_ cl_ fp_ hh => (gj_name (O := []) (by decide) (pg_name (i := 2) hh.nd rfl (by first | exact .inl rfl | exact .inr rfl)))) (fun s_ H_ C_ cl_ fp_ hh => tsj_nil) (fun s_ H_ C_ cl_ fp_ hh => (ej_callK k_rec hh (ble_of (by omega)) (by rfl) (by rfl) (by decide) (fun _ _ => rfl) (noStars_cons (fun _ _ => rfl) noStars_nil) (aj_cons (fun _ _ => rfl) (ej_idx (EJ.to_bo (ej_var (O := []) (by decide) (pv 0))) (EJ.to_bo (ej_var (O := []) (by decide) (pv 2)))) (aj_cons (fun _ _ => rfl) (ej_idx (EJ.to_bo (ej_var (O := []) (by decide) (pv 1))) (EJ.to_bo (ej_var (O := []) (by decide) (pv 2)))) aj_nil)) (alen_cons (alen_cons alen_nil)))) (by intro _; rfl))))))) bj_nil) bj_nil) (bj_cons (sj_if (WJ.tj (wj_and (tj_val (EJ.to_bo (ej_isi (by rfl) z_isinstance (by rfl) z_str (by decide +kernel) (by decide) (by decide) (fun _ _ => rfl) (EJ.to_bo (ej_var (O := []) (by decide) (pv 0)))))) (wj_and1 (tj_val (EJ.to_bo (ej_isi (by rfl) z_isinstance (by rfl) z_str (by decide +kernel) (by decide) (by decide) (fun _ _ => rfl) (EJ.to_bo (ej_var (O := []) (by decide) (pv 1))))))))) (bj_cons (sj_ret (ej_cmp (eq_ok hh) (EJ.to_bo (ej_var (O := []) (by decide) (pv 0))) (EJ.to_bo (ej_var (O := []) (by decide) (pv 1))))) bj_nil) bj_nil) (bj_cons (sj_if (WJ.tj (wj_or (tj_cmp isN_ok (EJ.to_bo (ej_var (O := []) (by decide) (pv 0))) ejm_non) (wj_or1 (tj_cmp isN_ok (EJ.to_bo (ej_var (O := []) (by decide) (pv 1))) ejm_non)))) (bj_cons (sj_ret (ej_and (ej_cmp isN_ok (EJ.to_bo (ej_var (O := []) (by decide) (pv 0))) ejm_non) (ej_one (ej_cmp isN_ok (EJ.to_bo (ej_var (O := []) (by decide) (pv 1))) ejm_non)))) bj_nil) bj_nil) (bj_cons (sj_if (WJ.tj (wj_or (tj_val (EJ.to_bo (ej_isi (by rfl) z_isinstance (by rfl) z_bool (by decide +kernel) (by decide) (by decide) (fun _ _ => rfl) (EJ.to_bo (ej_var (O := []) (by decide) (pv 0)))))) (wj_or1 (tj_val (EJ.to_bo (ej_isi (by rfl) z_isinstance (by rfl) z_bool (by decide +kernel) (by decide) (by decide) (fun _ _ => rfl) (EJ.to_bo (ej_var (O := []) (by decide) (pv 1))))))))) (bj_cons (sj_ret (ej_and (ej_isi (by rfl) z_isinstance (by rfl) z_bool (by decide +kernel) (by decide) (by decide) (fun _ _ => rfl) (EJ.to_bo (ej_var (O := []) (by decide) (pv 0)))) (ej_and (ej_isi (by rfl) z_isinstance (by rfl) z_bool (by decide +kernel) (by decide) (by decide) (fun _ _ => rfl) (EJ.to_bo (ej_var (O := []) (by decide) (pv 1)))) (ej_one (ej_cmp (eq_ok hh) (EJ.to_bo (ej_var (O := []) (by decide) (pv 0))) (EJ.to_bo (ej_var (O := []) (by decide) (pv 1)))))))) bj_nil) bj_nil) (bj_cons (sj_ret (ej_and (ej_isi (by rfl) z_isinstance (by rfl) z_int (by decide +kernel) (by decide) (by decide) (fun _ _ => rfl) (EJ.to_bo (ej_var (O := []) (by decide) (pv 0)))) (ej_and (ej_isi (by rfl) z_isinstance (by rfl) z_int (by decide +kernel) (by decide) (by decide) (fun _ _ => rfl) (EJ.to_bo (ej_var (O := []) (by decide) (pv 1)))) (ej_one (ej_cmp (eq_ok hh) (EJ.to_bo (ej_var (O := []) (by decide) (pv 0))) (EJ.to_bo (ej_var (O := []) (by decide) (pv 1)))))))) bj_nil)))))

abbrev s__law_word : Stmt := topS 27
abbrev N__law_word : List Str := ["value", "word"]
theorem sc__law_word : FnScope N__law_word ["value", "word"] (defScope s__law_word) := ⟨rfl, rfl, rfl, by decide +kernel, rfl, by decide +kernel, by decide +kernel⟩
theorem ok__law_word {f : Addr} {fd : FuncData} (hm : mg "_law_word" = some (.ref f)) (F : FunD K "_law_word" "_law_word" (defArgs s__law_word) (defBody s__law_word) (defScope s__law_word) [] [] f fd) (z_isinstance : mg "isinstance" = none) (z_str : mg "str" = none) : Kn P w K mg base 1 "_law_word" ["value", "word"] .sh d_law_word_4 :=
  kn_ok (O' := []) (k := 0) hm F sc__law_word (by decide) (fun _ _ _ _ _ _ us hl => match us, hl with | [_, _], _ => rfl) fun cdv A outer s H E hh =>
    (bj_cons (sj_ret (ej_and (ej_isi (by rfl) z_isinstance (by rfl) z_str (by decide +kernel) (by decide) (by decide) (fun _ _ => rfl) (EJ.to_bo (ej_var (O := []) (by decide) (pv 0)))) (ej_one (ej_cmp (eq_ok hh) (EJ.to_bo (ej_var (O := []) (by decide) (pv 0))) (EJ.to_bo (ej_var (O := []) (by decide) (pv 1))))))) bj_nil)

abbrev s__law_is_name : Stmt := topS 28
abbrev N__law_is_name : List Str := ["value", "letters", "sign"]
theorem sc__law_is_name : FnScope N__law_is_name ["value"] (defScope s__law_is_name) := ⟨rfl, rfl, rfl, by decide +kernel, rfl, by decide +kernel, by decide +kernel⟩
theorem ok__law_is_name {f : Addr} {fd : FuncData} (hm : mg "_law_is_name" = some (.ref f)) (F : FunD K "_law_is_name" "_law_is_name" (defArgs s__law_is_name) (defBody s__law_is_name) (defScope s__law_is_name) [] [] f fd) (z_isinstance : mg "isinstance" = none) (z_str : mg "str" = none) (z_len : mg "len" = none) (z_all : mg "all" = none) : Kn P w K mg base 1 "_law_is_name" ["value"] .sh d_law_is_name_4 :=
  kn_ok (O' := []) (k := 0) hm F sc__law_is_name (by decide) (fun _ _ _ _ _ _ us hl => match us, hl with | [_], _ => rfl) fun cdv A outer s H E hh =>
    (bj_cons (sj_set (O := []) (i := 1) (by decide) (ej_str (by decide +kernel)) fun _ h => ps_set (i := 1) hh.nd rfl (by first | exact .inl rfl | exact .inr rfl) h) (bj_cons (sj_if (WJ.tj (wj_or (tj_not (tj_val (EJ.to_bo (ej_isi (by rfl) z_isinstance (by rfl) z_str (by decide +kernel) (by decide) (by decide) (fun _ _ => rfl) (EJ.to_bo (ej_var (O := []) (by decide) (pv 0))))))) (wj_or (tj_not (tj_chain le_ok le_ok ejm_int (EJ.to_bo (ej_len (by rfl) z_len (fun _ _ => rfl) (EJ.to_bo (ej_var (O := []) (by decide) (pv 0))))) ejm_int fun _ _ _ _ _ h1 h2 h3 h4 h5 => pt_chain h1 h2 h3 h4 h5)) (wj_or1 (tj_cmp (notIn_ok hh (by rfl)) (EJ.to_bo (ej_idx (EJ.to_bo (ej_var (O := []) (by decide) (pv 0))) ejm_int)) (EJ.to_bo (ej_var (O := []) (by decide) (pv 1)))))))) (bj_cons (sj_ret ejm_bl) bj_nil) bj_nil) (bj_cons (sj_ret (ej_all hh (by rfl) z_all (fun _ _ => rfl) (EJ.to_bo (ej_comp hh (own := [("sign", 2)]) (ij_valB (EJ.to_bo (ej_var (O := []) (by decide) (pv 0)))) (blkOk_by (N := N__law_is_name) (sc := (defScope s__law_is_name)) (by decide +kernel)) (fun s_ H_ C_ cl_ fp_ hh => (gj_name (O := []) (by decide) (pg_name (i := 2) hh.nd rfl (by first | exact .inl rfl | exact .inr rfl)))) (fun s_ H_ C_ cl_ fp_ hh => tsj_nil) (fun s_ H_ C_ cl_ fp_ hh => (ej_cmp (in_ok hh (by rfl)) (EJ.to_bo (ej_var (O := []) (by decide) (pv 2))) (EJ.to_bo (ej_add (EJ.to_bo (ej_var (O := []) (by decide) (pv 1))) (EJ.to_bo (ej_str (by decide +kernel))))))) (by intro _; rfl))))) bj_nil)))

abbrev s__law_ascending : Stmt := topS 29
abbrev N__law_ascending : List Str := ["value", "name", "k"]
theorem sc__law_ascending : FnScope N__law_ascending ["value"] (defScope s__law_ascending) := ⟨rfl, rfl, rfl, by decide +kernel, rfl, by decide +kernel, by decide +kernel⟩
theorem ok__law_ascending {f : Addr} {fd : FuncData} (hm : mg "_law_ascending" = some (.ref f)) (F : FunD K "_law_ascending" "_law_ascending" (defArgs s__law_ascending) (defBody s__law_ascending) (defScope s__law_ascending) [] [] f fd) (z_isinstance : mg "isinstance" = none) (z_tuple : mg "tuple" = none) (z_all : mg "all" = none) (z_len : mg "len" = none) (z_range : mg "range" = none) (k__law_is_name : Kn P w K mg base 1 "_law_is_name" ["value"] .sh d_law_is_name_4) : Kn P w K mg base 2 "_law_ascending" ["value"] .sh d_law_ascending :=
  kn_ok (O' := []) (k := 1) hm F sc__law_ascending (by decide) (fun _ _ _ _ _ _ us hl => match us, hl with | [_], _ => rfl) fun cdv A outer s H E hh =>
    (bj_cons (sj_if (WJ.tj (wj_or (tj_not (tj_val (EJ.to_bo (ej_isi (by rfl) z_isinstance (by rfl) z_tuple (by decide +kernel) (by decide) (by decide) (fun _ _ => rfl) (EJ.to_bo (ej_var (O := []) (by decide) (pv 0))))))) (wj_or1 (tj_not (tj_val (EJ.to_bo (ej_all hh (by rfl) z_all (fun _ _ => rfl) (EJ.to_bo (ej_comp hh (own := [("name", 1)]) (ij_valB (EJ.to_bo (ej_var (O := []) (by decide) (pv 0)))) (blkOk_by (N := N__law_ascending) (sc := (defScope s__law_ascending)) (by decide +kernel)) (fun s_ H_ C_ cl_ fp_ hh => (gj_name (O := []) (by decide) (pg_name (i := 1) hh.nd rfl (by first | exact .inl rfl | exact .inr rfl)))) (fun s_ H_ C_ cl_ fp_ hh => tsj_nil) (fun s_ H_ C_ cl_ fp_ hh => (ej_callK k__law_is_name hh (by decide) (by rfl) (by rfl) (by decide) (fun _ _ => rfl) noStars_nil (aj_cons (fun _ _ => rfl) (ej_var (O := []) (by decide) (pv 1)) aj_nil) (alen_cons alen_nil))) (by intro _; rfl)))))))))) (bj_cons (sj_ret ejm_bl) bj_nil) bj_nil) (bj_cons (sj_ret (ej_all hh (by rfl) z_all (fun _ _ => rfl) (EJ.to_bo (ej_comp hh (own := [("k", 2)]) (ij_range1 (by rfl) z_range (fun _ _ => rfl) (EJ.to_bo (ej_sub (EJ.to_bo (ej_len (by rfl) z_len (fun _ _ => rfl) (EJ.to_bo (ej_var (O := []) (by decide) (pv 0))))) ejm_int))) (blkOk_by (N := N__law_ascending) (sc := (defScope s__law_ascending)) (by decide +kernel)) (fun s_ H_ C_ cl_ fp_ hh => (gj_name (O := []) (by decide) (pg_name (i := 2) hh.nd rfl (by first | exact .inl rfl | exact .inr rfl)))) (fun s_ H_ C_ cl_ fp_ hh => tsj_nil) (fun s_ H_ C_ cl_ fp_ hh => (ej_cmp (lt_ok hh) (EJ.to_bo (ej_idx (EJ.to_bo (ej_var (O := []) (by decide) (pv 0))) (EJ.to_bo (ej_var (O := []) (by decide) (pv 2))))) (EJ.to_bo (ej_idx (EJ.to_bo (ej_var (O := []) (by decide) (pv 0))) (EJ.to_bo (ej_add (EJ.to_bo (ej_var (O := []) (by decide) (pv 2))) ejm_int)))))) (by intro _; rfl))))) bj_nil))

abbrev s__law_name_at : Stmt := topS 30
abbrev N__law_name_at : List Str := ["style", "k", "letters"]
theorem sc__law_name_at : FnScope N__law_name_at ["style", "k"] (defScope s__law_name_at) := ⟨rfl, rfl, rfl, by decide +kernel, rfl, by decide +kernel, by decide +kernel⟩
theorem ok__law_name_at {f : Addr} {fd : FuncData} (hm : mg "_law_name_at" = some (.ref f)) (F : FunD K "_law_name_at" "_law_name_at" (defArgs s__law_name_at) (defBody s__law_name_at) (defScope s__law_name_at) [] [] f fd) : Kn P w K mg base 1 "_law_name_at" ["style", "k"] .sh d_law_name_at :=
  kn_ok (O' := []) (k := 0) hm F sc__law_name_at (by decide) (fun _ _ _ _ _ _ us hl => match us, hl with | [_, _], _ => rfl) fun cdv A outer s H E hh =>
    (bj_cons (sj_set (O := []) (i := 2) (by decide) (ej_str (by decide +kernel)) fun _ h => ps_set (i := 2) hh.nd rfl (by first | exact .inl rfl | exact .inr rfl) h) (bj_cons (sj_if (tj_cmp (eq_ok hh) (EJ.to_bo (ej_var (O := []) (by decide) (pv 0))) ejm_int) (bj_cons (sj_ret (ej_idx (EJ.to_bo (ej_var (O := []) (by decide) (pv 2))) (EJ.to_bo (ej_var (O := []) (by decide) (pv 1))))) bj_nil) bj_nil) (bj_cons (sj_if (tj_cmp (eq_ok hh) (EJ.to_bo (ej_var (O := []) (by decide) (pv 0))) ejm_int) (bj_cons (sj_ret (EJ.fr_sh (ej_add (EJ.to_bo (ej_add (EJ.to_bo (ej_str (by decide +kernel))) (EJ.to_bo (ej_idx (EJ.to_bo (ej_var (O := []) (by decide) (pv 2))) (EJ.to_bo (ej_var (O := []) (by decide) (pv 1))))))) (EJ.to_bo (ej_str (by decide +kernel)))))) bj_nil) bj_nil) (bj_cons (sj_if (tj_cmp (lt_ok hh) (EJ.to_bo (ej_var (O := []) (by decide) (pv 1))) ejm_int) (bj_cons (sj_ret (ej_mulS (EJ.to_bo (ej_str (by decide +kernel))) (EJ.to_bo (ej_add (EJ.to_bo (ej_var (O := []) (by decide) (pv 1))) ejm_int)))) bj_nil) bj_nil) (bj_cons (sj_ret (ej_mulS (EJ.to_bo (ej_str (by decide +kernel))) (EJ.to_bo (ej_sub (EJ.to_bo (ej_var (O := []) (by decide) (pv 1))) ejm_int)))) bj_nil)))))

abbrev s__law_bends : Stmt := topS 31
abbrev N__law_bends : List Str := ["value", "found", "k", "other"]
theorem sc__law_bends : FnScope N__law_bends ["value"] (defScope s__law_bends) := ⟨rfl, rfl, rfl, by decide +kernel, rfl, by decide +kernel, by decide +kernel⟩
theorem ok__law_bends {f : Addr} {fd : FuncData} (hm : mg "_law_bends" = some (.ref f)) (F : FunD K "_law_bends" "_law_bends" (defArgs s__law_bends) (defBody s__law_bends) (defScope s__law_bends) [] [] f fd) (z_isinstance : mg "isinstance" = none) (z_tuple : mg "tuple" = none) (z_len : mg "len" = none) (z_range : mg "range" = none) (z_str : mg "str" = none) (z_int : mg "int" = none) : ∀ n, Kn P w K mg base (0 + n) "_law_bends" ["value"] .sh (d_law_bends n)
  | 0 => kn_bad hm F (fun _ _ _ _ _ _ us hl => match us, hl with | [_], _ => rfl)
  | n + 1 => kn_ok (O' := []) (k := 0 + n) hm F sc__law_bends (by decide) (fun _ _ _ _ _ _ us hl => match us, hl with | [_], _ => rfl) fun cdv A outer s H E hh => by
    have k_rec := ok__law_bends hm F z_isinstance z_tuple z_len z_range z_str z_int n
    exact (bj_cons (sj_if (tj_val (EJ.to_bo (ej_isi (by rfl) z_isinstance (by rfl) z_tuple (by decide +kernel) (by decide) (by decide) (fun _ _ => rfl) (EJ.to_bo (ej_var (O := []) (by decide) (pv 0)))))) (bj_cons (sj_setO (O := []) (O' := [1]) (i := 1) (by decide) (ej_lst (aj_cons (fun _ _ => rfl) (EJ.fr_sh (ej_slice (EJ.to_bo (ej_var (O := []) (by decide) (pv 0))) pj_none (pj_some (EJ.to_bo (ej_neg ejm_int))))) (aj_cons (fun _ _ => rfl) (EJ.fr_sh (ej_add (EJ.to_bo (ej_var (O := []) (by decide) (pv 0))) (ej_tup (aj_cons (fun _ _ => rfl) ejm_int aj_nil)))) (aj_cons (fun _ _ => rfl) (EJ.fr_sh (ej_step (EJ.to_bo (ej_var (O := []) (by decide) (pv 0))) pj_none pj_none (pj_some (EJ.to_bo (ej_neg ejm_int))))) (aj_cons (fun _ _ => rfl) (EJ.fr_sh (ej_add (EJ.to_bo (ej_var (O := []) (by decide) (pv 0))) (EJ.to_bo (ej_slice (EJ.to_bo (ej_var (O := []) (by decide) (pv 0))) (pj_some (EJ.to_bo (ej_neg ejm_int))) pj_none)))) (aj_cons (fun _ _ => rfl) ejm_non aj_nil)))))) fun _ h => ps_set (i := 1) hh.nd rfl (by first | exact .inl rfl | exact .inr rfl) h) (bj_cons (sj_for hh (ij_range1 (by rfl) z_range (fun _ _ => rfl) (EJ.to_bo (ej_len (by rfl) z_len (fun _ _ => rfl) (EJ.to_bo (ej_var (O := [1]) (by decide) (pv 0)))))) (gj_name (O := [1]) (by decide) (pg_name (i := 2) hh.nd rfl (by first | exact .inl rfl | exact .inr rfl))) (bj_cons (sj_app (O := [1]) (i := 1) (by decide) (EJ.fr_sh (ej_add (EJ.to_bo (ej_slice (EJ.to_bo (ej_var (O := [1]) (by decide) (pv 0))) pj_none (pj_some (EJ.to_bo (ej_var (O := [1]) (by decide) (pv 2)))))) (EJ.to_bo (ej_slice (EJ.to_bo (ej_var (O := [1]) (by decide) (pv 0))) (pj_some (EJ.to_bo (ej_add (EJ.to_bo (ej_var (O := [1]) (by decide) (pv 2))) ejm_int))) pj_none)))) fun _ h => ps_expr (pe_bm PySem.F.plainAttrs_list PySem.F.slot_list_append PySem.F.type_list_append mt_append (pv 1) (pa_cons h pa_nil))) (bj_cons (sj_for hh (ij_val (ej_callK k_rec hh (ble_of (by omega)) (by rfl) (by rfl) (by decide) (fun _ _ => rfl) noStars_nil (aj_cons (fun _ _ => rfl) (ej_idx (EJ.to_bo (ej_var (O := [1]) (by decide) (pv 0))) (EJ.to_bo (ej_var (O := [1]) (by decide) (pv 2)))) aj_nil) (alen_cons alen_nil))) (gj_name (O := [1]) (by decide) (pg_name (i := 3) hh.nd rfl (by first | exact .inl rfl | exact .inr rfl))) (bj_cons (sj_app (O := [1]) (i := 1) (by decide) (EJ.fr_sh (ej_add (EJ.to_bo (ej_add (EJ.to_bo (ej_slice (EJ.to_bo (ej_var (O := [1]) (by decide) (pv 0))) pj_none (pj_some (EJ.to_bo (ej_var (O := [1]) (by decide) (pv 2)))))) (ej_tup (aj_cons (fun _ _ => rfl) (ej_var (O := [1]) (by decide) (pv 3)) aj_nil)))) (EJ.to_bo (ej_slice (EJ.to_bo (ej_var (O := [1]) (by decide) (pv 0))) (pj_some (EJ.to_bo (ej_add (EJ.to_bo (ej_var (O := [1]) (by decide) (pv 2))) ejm_int))) pj_none)))) fun _ h => ps_expr (pe_bm PySem.F.plainAttrs_list PySem.F.slot_list_append PySem.F.type_list_append mt_append (pv 1) (pa_cons h pa_nil))) bj_nil) (by intro _; rfl)) bj_nil)) (by intro _; rfl)) (BJ.drop [1] (bj_cons (sj_ret (ej_var (O := []) (by decide) (pv 1))) bj_nil)))) bj_nil) (bj_cons (sj_if (tj_val (EJ.to_bo (ej_isi (by rfl) z_isinstance (by rfl) z_str (by decide +kernel) (by decide) (by decide) (fun _ _ => rfl) (EJ.to_bo (ej_var (O := []) (by decide) (pv 0)))))) (bj_cons (sj_ret (EJ.fr_sh (ej_lst (aj_cons (fun _ _ => rfl) (EJ.fr_sh (ej_add (EJ.to_bo (ej_var (O := []) (by decide) (pv 0))) (EJ.to_bo (ej_str (by decide +kernel))))) (aj_cons (fun _ _ => rfl) (EJ.fr_sh (ej_slice (EJ.to_bo (ej_var (O := []) (by decide) (pv 0))) pj_none (pj_some (EJ.to_bo (ej_neg ejm_int))))) (aj_cons (fun _ _ => rfl) (ej_str (by decide +kernel)) (aj_cons (fun _ _ => rfl) ejm_non (aj_cons (fun _ _ => rfl) ejm_int (aj_cons (fun _ _ => rfl) (ej_tup (aj_cons (fun _ _ => rfl) (ej_var (O := []) (by decide) (pv 0)) aj_nil)) aj_nil))))))))) bj_nil) bj_nil) (bj_cons (sj_if (tj_val (EJ.to_bo (ej_isi (by rfl) z_isinstance (by rfl) z_int (by decide +kernel) (by decide) (by decide) (fun _ _ => rfl) (EJ.to_bo (ej_var (O := []) (by decide) (pv 0)))))) (bj_cons (sj_ret (EJ.fr_sh (ej_lst (aj_cons (fun _ _ => rfl) (EJ.fr_sh (ej_add (EJ.to_bo (ej_var (O := []) (by decide) (pv 0))) ejm_int)) (aj_cons (fun _ _ => rfl) (ej_sub (EJ.to_bo (ej_var (O := []) (by decide) (pv 0))) ejm_int) (aj_cons (fun _ _ => rfl) ejm_non (aj_cons (fun _ _ => rfl) (ej_cmp (eq_ok hh) (EJ.to_bo (ej_var (O := []) (by decide) (pv 0))) ejm_int) (aj_cons (fun _ _ => rfl) (ej_str (by decide +kernel)) aj_nil)))))))) bj_nil) bj_nil) (bj_cons (sj_ret (EJ.fr_sh (ej_lst (aj_cons (fun _ _ => rfl) ejm_int (aj_cons (fun _ _ => rfl) (ej_tup aj_nil) aj_nil))))) bj_nil))))

abbrev s__law_some : Stmt := topS 32
abbrev N__law_some : List Str := ["papers", "start", "most", "step"]
theorem sc__law_some : FnScope N__law_some ["papers", "start", "most"] (defScope s__law_some) := ⟨rfl, rfl, rfl, by decide +kernel, rfl, by decide +kernel, by decide +kernel⟩
theorem ok__law_some {f : Addr} {fd : FuncData} (hm : mg "_law_some" = some (.ref f)) (F : FunD K "_law_some" "_law_some" (defArgs s__law_some) (defBody s__law_some) (defScope s__law_some) [] [] f fd) (z_len : mg "len" = none) : Kn P w K mg base 1 "_law_some" ["papers", "start", "most"] .sh d_law_some_2 :=
  kn_ok (O' := []) (k := 0) hm F sc__law_some (by decide) (fun _ _ _ _ _ _ us hl => match us, hl with | [_, _, _], _ => rfl) fun cdv A outer s H E hh =>
    (bj_cons (sj_set (O := []) (i := 3) (by decide) (EJ.fr_sh (ej_add ejm_int (EJ.to_bo (ej_div (EJ.to_bo (ej_len (by rfl) z_len (fun _ _ => rfl) (EJ.to_bo (ej_var (O := []) (by decide) (pv 0))))) (EJ.to_bo (ej_var (O := []) (by decide) (pv 2))))))) fun _ h => ps_set (i := 3) hh.nd rfl (by first | exact .inl rfl | exact .inr rfl) h) (bj_cons (sj_ret (EJ.fr_sh (ej_step (EJ.to_bo (ej_var (O := []) (by decide) (pv 0))) (pj_some (EJ.to_bo (ej_mod (EJ.to_bo (ej_var (O := []) (by decide) (pv 1))) (EJ.to_bo (ej_var (O := []) (by decide) (pv 3)))))) pj_none (pj_some (EJ.to_bo (ej_var (O := []) (by decide) (pv 3))))))) bj_nil))

abbrev s__law_hands : Stmt := topS 34
abbrev N__law_hands : List Str := ["head", "hands", "k"]
theorem sc__law_hands : FnScope N__law_hands ["head"] (defScope s__law_hands) := ⟨rfl, rfl, rfl, by decide +kernel, rfl, by decide +kernel, by decide +kernel⟩
theorem ok__law_hands {f : Addr} {fd : FuncData} (hm : mg "_law_hands" = some (.ref f)) (F : FunD K "_law_hands" "_law_hands" (defArgs s__law_hands) (defBody s__law_hands) (defScope s__law_hands) [] [] f fd) (z_range : mg "range" = none) : Kn P w K mg base 1 "_law_hands" ["head"] .sh d_law_hands :=
  kn_ok (O' := []) (k := 0) hm F sc__law_hands (by decide) (fun _ _ _ _ _ _ us hl => match us, hl with | [_], _ => rfl) fun cdv A outer s H E hh =>
    (bj_cons (sj_set (O := []) (i := 1) (by decide) (EJ.fr_sh (ej_lst (aj_cons (fun _ _ => rfl) (ej_str (by decide +kernel)) (aj_cons (fun _ _ => rfl) (ej_str (by decide +kernel)) (aj_cons (fun _ _ => rfl) (ej_str (by decide +kernel)) (aj_cons (fun _ _ => rfl) (ej_str (by decide +kernel)) (aj_cons (fun _ _ => rfl) (ej_str (by decide +kernel)) (aj_cons (fun _ _ => rfl) (ej_str (by decide +kernel)) (aj_cons (fun _ _ => rfl) (ej_str (by decide +kernel)) (aj_cons (fun _ _ => rfl) (ej_str (by decide +kernel)) (aj_cons (fun _ _ => rfl) (ej_str (by decide +kernel)) (aj_cons (fun _ _ => rfl) (ej_str (by decide +kernel)) (aj_cons (fun _ _ => rfl) (ej_str (by decide +kernel)) aj_nil))))))))))))) fun _ h => ps_set (i := 1) hh.nd rfl (by first | exact .inl rfl | exact .inr rfl) h) (bj_cons (sj_if (tj_cmp (eq_ok hh) (EJ.to_bo (ej_idx (EJ.to_bo (ej_var (O := []) (by decide) (pv 0))) ejm_int)) ejm_int) (bj_cons (sj_set (O := []) (i := 1) (by decide) (EJ.fr_sh (ej_add (EJ.to_bo (ej_lst (aj_cons (fun _ _ => rfl) (ej_str (by decide +kernel)) aj_nil))) (EJ.to_bo (ej_comp hh (own := [("k", 2)]) (ij_range2 (by rfl) z_range (fun _ _ => rfl) (fun _ _ => rfl) ejm_int ejm_int) (blkOk_by (N := N__law_hands) (sc := (defScope s__law_hands)) (by decide +kernel)) (fun s_ H_ C_ cl_ fp_ hh => (gj_name (O := []) (by decide) (pg_name (i := 2) hh.nd rfl (by first | exact .inl rfl | exact .inr rfl)))) (fun s_ H_ C_ cl_ fp_ hh => tsj_nil) (fun s_ H_ C_ cl_ fp_ hh => (ej_mulS (EJ.to_bo (ej_str (by decide +kernel))) (EJ.to_bo (ej_var (O := []) (by decide) (pv 2))))) (by intro _; rfl))))) fun _ h => ps_set (i := 1) hh.nd rfl (by first | exact .inl rfl | exact .inr rfl) h) bj_nil) bj_nil) (bj_cons (sj_ret (EJ.fr_sh (ej_slice (EJ.to_bo (ej_var (O := []) (by decide) (pv 1))) pj_none (pj_some (EJ.to_bo (ej_add ejm_int (EJ.to_bo (ej_idx (EJ.to_bo (ej_var (O := []) (by decide) (pv 0))) ejm_int)))))))) bj_nil)))

abbrev s__law_grants : Stmt := topS 33
abbrev N__law_grants : List Str := ["script", "place", "head", "hands", "deeds", "found", "k", "draw", "giver", "taker"]
theorem sc__law_grants : FnScope N__law_grants ["script", "place", "head"] (defScope s__law_grants) := ⟨rfl, rfl, rfl, by decide +kernel, rfl, by decide +kernel, by decide +kernel⟩
theorem ok__law_grants {f : Addr} {fd : FuncData} (hm : mg "_law_grants" = some (.ref f)) (F : FunD K "_law_grants" "_law_grants" (defArgs s__law_grants) (defBody s__law_grants) (defScope s__law_grants) [] [] f fd) (z_range : mg "range" = none) (z_len : mg "len" = none) (z_tuple : mg "tuple" = none) (k__law_hands : Kn P w K mg base 1 "_law_hands" ["head"] .sh d_law_hands) (k__law_cell : Kn P w K mg base 1 "_law_cell" ["script", "place"] .sh d_law_cell_3) (k__law_digits : Kn P w K mg base 1 "_law_digits" ["cell", "bases"] .fr d_law_digits) (k__law_name_at : Kn P w K mg base 1 "_law_name_at" ["style", "k"] .sh d_law_name_at) : Kn P w K mg base 2 "_law_grants" ["script", "place", "head"] .sh d_law_grants :=
  kn_ok (O' := []) (k := 1) hm F sc__law_grants (by decide) (fun _ _ _ _ _ _ us hl => match us, hl with | [_, _, _], _ => rfl) fun cdv A outer s H E hh =>
    (bj_cons (sj_set (O := []) (i := 3) (by decide) (ej_callK k__law_hands hh (by decide) (by rfl) (by rfl) (by decide) (fun _ _ => rfl) noStars_nil (aj_cons (fun _ _ => rfl) (ej_var (O := []) (by decide) (pv 2)) aj_nil) (alen_cons alen_nil)) fun _ h => ps_set (i := 3) hh.nd rfl (by first | exact .inl rfl | exact .inr rfl) h) (bj_cons (sj_set (O := []) (i := 4) (by decide) (EJ.fr_sh (ej_lst (aj_cons (fun _ _ => rfl) (ej_str (by decide +kernel)) (aj_cons (fun _ _ => rfl) (ej_str (by decide +kernel)) (aj_cons (fun _ _ => rfl) (ej_str (by decide +kernel)) (aj_cons (fun _ _ => rfl) (ej_str (by decide +kernel)) (aj_cons (fun _ _ => rfl) (ej_str (by decide +kernel)) (aj_cons (fun _ _ => rfl) (ej_str (by decide +kernel)) aj_nil)))))))) fun _ h => ps_set (i := 4) hh.nd rfl (by first | exact .inl rfl | exact .inr rfl) h) (bj_cons (sj_setO (O := []) (O' := [5]) (i := 5) (by decide) (ej_lst aj_nil) fun _ h => ps_set (i := 5) hh.nd rfl (by first | exact .inl rfl | exact .inr rfl) h) (bj_cons (sj_for hh (ij_range1 (by rfl) z_range (fun _ _ => rfl) (EJ.to_bo (ej_idx (EJ.to_bo (ej_var (O := [5]) (by decide) (pv 2))) ejm_int))) (gj_name (O := [5]) (by decide) (pg_name (i := 6) hh.nd rfl (by first | exact .inl rfl | exact .inr rfl))) (bj_cons (sj_set (O := [5]) (i := 7) (by decide) (EJ.fr_sh (ej_callK k__law_digits hh (by decide) (by rfl) (by rfl) (by decide) (fun _ _ => rfl) (noStars_cons (fun _ _ => rfl) noStars_nil) (aj_cons (fun _ _ => rfl) (ej_callK k__law_cell hh (by decide) (by rfl) (by rfl) (by decide) (fun _ _ => rfl) (noStars_cons (fun _ _ => rfl) noStars_nil) (aj_cons (fun _ _ => rfl) (ej_var (O := [5]) (by decide) (pv 0)) (aj_cons (fun _ _ => rfl) (EJ.fr_sh (ej_add (EJ.to_bo (ej_var (O := [5]) (by decide) (pv 1))) (EJ.to_bo (ej_var (O := [5]) (by decide) (pv 6))))) aj_nil)) (alen_cons (alen_cons alen_nil))) (aj_cons (fun _ _ => rfl) (EJ.fr_sh (ej_lst (aj_cons (fun _ _ => rfl) ejm_int (aj_cons (fun _ _ => rfl) ejm_int (aj_cons (fun _ _ => rfl) ejm_int aj_nil))))) aj_nil)) (alen_cons (alen_cons alen_nil)))) fun _ h => ps_set (i := 7) hh.nd rfl (by first | exact .inl rfl | exact .inr rfl) h) (bj_cons (sj_set (O := [5]) (i := 8) (by decide) (ej_idx (EJ.to_bo (ej_var (O := [5]) (by decide) (pv 3))) (EJ.to_bo (ej_mod (EJ.to_bo (ej_idx (EJ.to_bo (ej_var (O := [5]) (by decide) (pv 7))) ejm_int)) (EJ.to_bo (ej_len (by rfl) z_len (fun _ _ => rfl) (EJ.to_bo (ej_var (O := [5]) (by decide) (pv 3)))))))) fun _ h => ps_set (i := 8) hh.nd rfl (by first | exact .inl rfl | exact .inr rfl) h) (bj_cons (sj_set (O := [5]) (i := 9) (by decide) (ej_idx (EJ.to_bo (ej_var (O := [5]) (by decide) (pv 3))) (EJ.to_bo (ej_mod (EJ.to_bo (ej_idx (EJ.to_bo (ej_var (O := [5]) (by decide) (pv 7))) ejm_int)) (EJ.to_bo (ej_len (by rfl) z_len (fun _ _ => rfl) (EJ.to_bo (ej_var (O := [5]) (by decide) (pv 3)))))))) fun _ h => ps_set (i := 9) hh.nd rfl (by first | exact .inl rfl | exact .inr rfl) h) (bj_cons (sj_if (tj_cmp (eq_ok hh) (EJ.to_bo (ej_idx (EJ.to_bo (ej_var (O := [5]) (by decide) (pv 2))) ejm_int)) ejm_int) (bj_cons (sj_set (O := [5]) (i := 8) (by decide) (ej_idx (EJ.to_bo (ej_var (O := [5]) (by decide) (pv 3))) (EJ.to_bo (ej_mod (EJ.to_bo (ej_var (O := [5]) (by decide) (pv 6))) (EJ.to_bo (ej_len (by rfl) z_len (fun _ _ => rfl) (EJ.to_bo (ej_var (O := [5]) (by decide) (pv 3)))))))) fun _ h => ps_set (i := 8) hh.nd rfl (by first | exact .inl rfl | exact .inr rfl) h) (bj_cons (sj_set (O := [5]) (i := 9) (by decide) (ej_idx (EJ.to_bo (ej_var (O := [5]) (by decide) (pv 3))) (EJ.to_bo (ej_mod (EJ.to_bo (ej_add (EJ.to_bo (ej_add (EJ.to_bo (ej_var (O := [5]) (by decide) (pv 6))) ejm_int)) (EJ.to_bo (ej_mod (EJ.to_bo (ej_idx (EJ.to_bo (ej_var (O := [5]) (by decide) (pv 7))) ejm_int)) ejm_int)))) (EJ.to_bo (ej_len (by rfl) z_len (fun _ _ => rfl) (EJ.to_bo (ej_var (O := [5]) (by decide) (pv 3)))))))) fun _ h => ps_set (i := 9) hh.nd rfl (by first | exact .inl rfl | exact .inr rfl) h) bj_nil)) bj_nil) (bj_cons (sj_if (tj_cmp (eq_ok hh) (EJ.to_bo (ej_idx (EJ.to_bo (ej_var (O := [5]) (by decide) (pv 2))) ejm_int)) ejm_int) (bj_cons (sj_set (O := [5]) (i := 8) (by decide) (ej_idx (EJ.to_bo (ej_var (O := [5]) (by decide) (pv 3))) (EJ.to_bo (ej_div (EJ.to_bo (ej_mod (EJ.to_bo (ej_idx (EJ.to_bo (ej_var (O := [5]) (by decide) (pv 7))) ejm_int)) (EJ.to_bo (ej_len (by rfl) z_len (fun _ _ => rfl) (EJ.to_bo (ej_var (O := [5]) (by decide) (pv 3))))))) ejm_int))) fun _ h => ps_set (i := 8) hh.nd rfl (by first | exact .inl rfl | exact .inr rfl) h) (bj_cons (sj_set (O := [5]) (i := 9) (by decide) (ej_idx (EJ.to_bo (ej_var (O := [5]) (by decide) (pv 3))) (EJ.to_bo (ej_mod (EJ.to_bo (ej_add (EJ.to_bo (ej_mod (EJ.to_bo (ej_idx (EJ.to_bo (ej_var (O := [5]) (by decide) (pv 7))) ejm_int)) (EJ.to_bo (ej_len (by rfl) z_len (fun _ _ => rfl) (EJ.to_bo (ej_var (O := [5]) (by decide) (pv 3))))))) ejm_int)) (EJ.to_bo (ej_len (by rfl) z_len (fun _ _ => rfl) (EJ.to_bo (ej_var (O := [5]) (by decide) (pv 3)))))))) fun _ h => ps_set (i := 9) hh.nd rfl (by first | exact .inl rfl | exact .inr rfl) h) bj_nil)) bj_nil) (bj_cons (sj_app (O := [5]) (i := 5) (by decide) (ej_tup (aj_cons (fun _ _ => rfl) (ej_callK k__law_name_at hh (by decide) (by rfl) (by rfl) (by decide) (fun _ _ => rfl) (noStars_cons (fun _ _ => rfl) noStars_nil) (aj_cons (fun _ _ => rfl) (ej_idx (EJ.to_bo (ej_var (O := [5]) (by decide) (pv 2))) ejm_int) (aj_cons (fun _ _ => rfl) (ej_var (O := [5]) (by decide) (pv 6)) aj_nil)) (alen_cons (alen_cons alen_nil))) (aj_cons (fun _ _ => rfl) (ej_tup (aj_cons (fun _ _ => rfl) (ej_var (O := [5]) (by decide) (pv 8)) (aj_cons (fun _ _ => rfl) (ej_var (O := [5]) (by decide) (pv 9)) (aj_cons (fun _ _ => rfl) (ej_idx (EJ.to_bo (ej_var (O := [5]) (by decide) (pv 4))) (EJ.to_bo (ej_idx (EJ.to_bo (ej_var (O := [5]) (by decide) (pv 7))) ejm_int))) aj_nil)))) aj_nil))) fun _ h => ps_expr (pe_bm PySem.F.plainAttrs_list PySem.F.slot_list_append PySem.F.type_list_append mt_append (pv 5) (pa_cons h pa_nil))) bj_nil)))))) (by intro _; rfl)) (bj_cons (sj_ret (ej_tuple (by rfl) z_tuple (fun _ _ => rfl) (ej_own (pv 5)))) bj_nil)))))

abbrev s__law_serves : Stmt := topS 35
abbrev N__law_serves : List Str := ["grant", "deed"]
theorem sc__law_serves : FnScope N__law_serves ["grant", "deed"] (defScope s__law_serves) := ⟨rfl, rfl, rfl, by decide +kernel, rfl, by decide +kernel, by decide +kernel⟩
theorem ok__law_serves {f : Addr} {fd : FuncData} (hm : mg "_law_serves" = some (.ref f)) (F : FunD K "_law_serves" "_law_serves" (defArgs s__law_serves) (defBody s__law_serves) (defScope s__law_serves) [] [] f fd) : Kn P w K mg base 1 "_law_serves" ["grant", "deed"] .sh d_law_serves_2 :=
  kn_ok (O' := []) (k := 0) hm F sc__law_serves (by decide) (fun _ _ _ _ _ _ us hl => match us, hl with | [_, _], _ => rfl) fun cdv A outer s H E hh =>
    (bj_cons (sj_ret (ej_or (ej_cmp (eq_ok hh) (EJ.to_bo (ej_idx (EJ.to_bo (ej_var (O := []) (by decide) (pv 0))) ejm_int)) (EJ.to_bo (ej_var (O := []) (by decide) (pv 1)))) (ej_one (ej_cmp (eq_ok hh) (EJ.to_bo (ej_idx (EJ.to_bo (ej_var (O := []) (by decide) (pv 0))) ejm_int)) (EJ.to_bo (ej_str (by decide +kernel))))))) bj_nil)

abbrev s__law_reach : Stmt := topS 36
abbrev N__law_reach : List Str := ["grants", "deed", "hands", "ways", "at", "name", "grant"]
theorem sc__law_reach : FnScope N__law_reach ["grants", "deed"] (defScope s__law_reach) := ⟨rfl, rfl, rfl, by decide +kernel, rfl, by decide +kernel, by decide +kernel⟩
theorem ok__law_reach {f : Addr} {fd : FuncData} (hm : mg "_law_reach" = some (.ref f)) (F : FunD K "_law_reach" "_law_reach" (defArgs s__law_reach) (defBody s__law_reach) (defScope s__law_reach) [] [] f fd) (z_len : mg "len" = none) (z_range : mg "range" = none) (k__law_serves : Kn P w K mg base 1 "_law_serves" ["grant", "deed"] .sh d_law_serves_2) : Kn P w K mg base 2 "_law_reach" ["grants", "deed"] .sh d_law_reach_2 :=
  kn_ok (O' := []) (k := 1) hm F sc__law_reach (by decide) (fun _ _ _ _ _ _ us hl => match us, hl with | [_, _], _ => rfl) fun cdv A outer s H E hh =>
    (bj_cons (sj_setO (O := []) (O' := [2]) (i := 2) (by decide) (ej_lst (aj_cons (fun _ _ => rfl) (ej_str (by decide +kernel)) aj_nil)) fun _ h => ps_set (i := 2) hh.nd rfl (by first | exact .inl rfl | exact .inr rfl) h) (bj_cons (sj_setO (O := [2]) (O' := [3, 2]) (i := 3) (by decide) (ej_lst (aj_cons (fun _ _ => rfl) (ej_tup aj_nil) aj_nil)) fun _ h => ps_set (i := 3) hh.nd rfl (by first | exact .inl rfl | exact .inr rfl) h) (bj_cons (sj_for hh (ij_range1 (by rfl) z_range (fun _ _ => rfl) (EJ.to_bo (ej_add (EJ.to_bo (ej_len (by rfl) z_len (fun _ _ => rfl) (EJ.to_bo (ej_var (O := [3, 2]) (by decide) (pv 0))))) ejm_int))) (gj_name (O := [3, 2]) (by decide) (pg_name (i := 4) hh.nd rfl (by first | exact .inl rfl | exact .inr rfl))) (bj_cons (sj_if (tj_cmp (lt_ok hh) (EJ.to_bo (ej_var (O := [3, 2]) (by decide) (pv 4))) (EJ.to_bo (ej_len (by rfl) z_len (fun _ _ => rfl) (ej_own (pv 2))))) (bj_cons (sj_for hh (ij_val (ej_var (O := [3, 2]) (by decide) (pv 0))) (gj_tup rfl (gsj_cons (gj_name (O := [3, 2]) (by decide) (pg_name (i := 5) hh.nd rfl (by first | exact .inl rfl | exact .inr rfl))) (gsj_cons (gj_name (O := [3, 2]) (by decide) (pg_name (i := 6) hh.nd rfl (by first | exact .inl rfl | exact .inr rfl))) gsj_nil rfl) rfl) rfl rfl) (bj_cons (sj_if (WJ.tj (wj_and (tj_val (EJ.to_bo (ej_callK k__law_serves hh (by decide) (by rfl) (by rfl) (by decide) (fun _ _ => rfl) (noStars_cons (fun _ _ => rfl) noStars_nil) (aj_cons (fun _ _ => rfl) (ej_var (O := [3, 2]) (by decide) (pv 6)) (aj_cons (fun _ _ => rfl) (ej_var (O := [3, 2]) (by decide) (pv 1)) aj_nil)) (alen_cons (alen_cons alen_nil))))) (wj_and (tj_cmp (eq_ok hh) (EJ.to_bo (ej_idx (EJ.to_bo (ej_var (O := [3, 2]) (by decide) (pv 6))) ejm_int)) (EJ.to_bo (ej_idx (ej_own (pv 2)) (EJ.to_bo (ej_var (O := [3, 2]) (by decide) (pv 4)))))) (wj_and1 (tj_cmp (notIn_ok hh (by rfl)) (EJ.to_bo (ej_idx (EJ.to_bo (ej_var (O := [3, 2]) (by decide) (pv 6))) ejm_int)) (ej_own (pv 2))))))) (bj_cons (sj_app (O := [3, 2]) (i := 2) (by decide) (ej_idx (EJ.to_bo (ej_var (O := [3, 2]) (by decide) (pv 6))) ejm_int) fun _ h => ps_expr (pe_bm PySem.F.plainAttrs_list PySem.F.slot_list_append PySem.F.type_list_append mt_append (pv 2) (pa_cons h pa_nil))) (bj_cons (sj_app (O := [3, 2]) (i := 3) (by decide) (EJ.fr_sh (ej_add (EJ.to_bo (ej_idx (ej_own (pv 3)) (EJ.to_bo (ej_var (O := [3, 2]) (by decide) (pv 4))))) (ej_tup (aj_cons (fun _ _ => rfl) (ej_var (O := [3, 2]) (by decide) (pv 5)) aj_nil)))) fun _ h => ps_expr (pe_bm PySem.F.plainAttrs_list PySem.F.slot_list_append PySem.F.type_list_append mt_append (pv 3) (pa_cons h pa_nil))) bj_nil)) bj_nil) bj_nil) (by intro _; rfl)) bj_nil) bj_nil) bj_nil) (by intro _; rfl)) (BJ.drop [3, 2] (bj_cons (sj_ret (EJ.fr_sh (ej_lst (aj_cons (fun _ _ => rfl) (ej_var (O := []) (by decide) (pv 2)) (aj_cons (fun _ _ => rfl) (ej_var (O := []) (by decide) (pv 3)) aj_nil))))) bj_nil)))))

abbrev s__law_is_chain : Stmt := topS 37
abbrev N__law_is_chain : List Str := ["grants", "hand", "deed", "value", "holder", "k", "told", "pair"]
theorem sc__law_is_chain : FnScope N__law_is_chain ["grants", "hand", "deed", "value"] (defScope s__law_is_chain) := ⟨rfl, rfl, rfl, by decide +kernel, rfl, by decide +kernel, by decide +kernel⟩
theorem ok__law_is_chain {f : Addr} {fd : FuncData} (hm : mg "_law_is_chain" = some (.ref f)) (F : FunD K "_law_is_chain" "_law_is_chain" (defArgs s__law_is_chain) (defBody s__law_is_chain) (defScope s__law_is_chain) [] [] f fd) (z_isinstance : mg "isinstance" = none) (z_tuple : mg "tuple" = none) (z_len : mg "len" = none) (z_range : mg "range" = none) (k__law_word : Kn P w K mg base 1 "_law_word" ["value", "word"] .sh d_law_word_4) (k__law_serves : Kn P w K mg base 1 "_law_serves" ["grant", "deed"] .sh d_law_serves_2) : Kn P w K mg base 2 "_law_is_chain" ["grants", "hand", "deed", "value"] .sh d_law_is_chain :=
  kn_ok (O' := []) (k := 1) hm F sc__law_is_chain (by decide) (fun _ _ _ _ _ _ us hl => match us, hl with | [_, _, _, _], _ => rfl) fun cdv A outer s H E hh =>
    (bj_cons (sj_if (WJ.tj (wj_or (tj_not (tj_val (EJ.to_bo (ej_isi (by rfl) z_isinstance (by rfl) z_tuple (by decide +kernel) (by decide) (by decide) (fun _ _ => rfl) (EJ.to_bo (ej_var (O := []) (by decide) (pv 3))))))) (wj_or1 (tj_cmp gt_ok (EJ.to_bo (ej_len (by rfl) z_len (fun _ _ => rfl) (EJ.to_bo (ej_var (O := []) (by decide) (pv 3))))) ejm_int)))) (bj_cons (sj_ret ejm_bl) bj_nil) bj_nil) (bj_cons (sj_set (O := []) (i := 4) (by decide) (ej_str (by decide +kernel)) fun _ h => ps_set (i := 4) hh.nd rfl (by first | exact .inl rfl | exact .inr rfl) h) (bj_cons (sj_for hh (ij_range1 (by rfl) z_range (fun _ _ => rfl) (EJ.to_bo (ej_len (by rfl) z_len (fun _ _ => rfl) (EJ.to_bo (ej_var (O := []) (by decide) (pv 3)))))) (gj_name (O := []) (by decide) (pg_name (i := 5) hh.nd rfl (by first | exact .inl rfl | exact .inr rfl))) (bj_cons (sj_setComp (O := []) (i := 6) (by decide) hh (own := [("pair", 7)]) (ij_valB (EJ.to_bo (ej_var (O := []) (by decide) (pv 0)))) (blkOk_by (N := N__law_is_chain) (sc := (defScope s__law_is_chain)) (by decide +kernel)) (fun s_ H_ C_ cl_ fp_ hh => (gj_name (O := []) (by decide) (pg_name (i := 7) hh.nd rfl (by first | exact .inl rfl | exact .inr rfl)))) (fun s_ H_ C_ cl_ fp_ hh => (tsj_one (tj_val (EJ.to_bo (ej_callK k__law_word hh (by decide) (by rfl) (by rfl) (by decide) (fun _ _ => rfl) (noStars_cons (fun _ _ => rfl) noStars_nil) (aj_cons (fun _ _ => rfl) (ej_idx (EJ.to_bo (ej_var (O := []) (by decide) (pv 3))) (EJ.to_bo (ej_var (O := []) (by decide) (pv 5)))) (aj_cons (fun _ _ => rfl) (ej_idx (EJ.to_bo (ej_var (O := []) (by decide) (pv 7))) ejm_int) aj_nil)) (alen_cons (alen_cons alen_nil))))))) (fun s_ H_ C_ cl_ fp_ hh => (ej_idx (EJ.to_bo (ej_var (O := []) (by decide) (pv 7))) ejm_int)) (by intro _; rfl) rfl rfl rfl) (bj_cons (sj_if (WJ.tj (wj_or (tj_cmp (eq_ok hh) (EJ.to_bo (ej_len (by rfl) z_len (fun _ _ => rfl) (EJ.to_bo (ej_var (O := []) (by decide) (pv 6))))) ejm_int) (wj_or1 (tj_cmp (in_ok hh (by rfl)) (EJ.to_bo (ej_idx (EJ.to_bo (ej_var (O := []) (by decide) (pv 3))) (EJ.to_bo (ej_var (O := []) (by decide) (pv 5))))) (EJ.to_bo (ej_slice (EJ.to_bo (ej_var (O := []) (by decide) (pv 3))) pj_none (pj_some (EJ.to_bo (ej_var (O := []) (by decide) (pv 5)))))))))) (bj_cons (sj_ret ejm_bl) bj_nil) bj_nil) (bj_cons (sj_if (WJ.tj (wj_or (tj_not (tj_val (EJ.to_bo (ej_callK k__law_serves hh (by decide) (by rfl) (by rfl) (by decide) (fun _ _ => rfl) (noStars_cons (fun _ _ => rfl) noStars_nil) (aj_cons (fun _ _ => rfl) (ej_idx (EJ.to_bo (ej_var (O := []) (by decide) (pv 6))) ejm_int) (aj_cons (fun _ _ => rfl) (ej_var (O := []) (by decide) (pv 2)) aj_nil)) (alen_cons (alen_cons alen_nil)))))) (wj_or1 (tj_cmp (ne_ok hh) (EJ.to_bo (ej_idx (EJ.to_bo (ej_idx (EJ.to_bo (ej_var (O := []) (by decide) (pv 6))) ejm_int)) ejm_int)) (EJ.to_bo (ej_var (O := []) (by decide) (pv 4))))))) (bj_cons (sj_ret ejm_bl) bj_nil) bj_nil) (bj_cons (sj_set (O := []) (i := 4) (by decide) (ej_idx (EJ.to_bo (ej_idx (EJ.to_bo (ej_var (O := []) (by decide) (pv 6))) ejm_int)) ejm_int) fun _ h => ps_set (i := 4) hh.nd rfl (by first | exact .inl rfl | exact .inr rfl) h) bj_nil)))) (by intro _; rfl)) (bj_cons (sj_ret (ej_cmp (eq_ok hh) (EJ.to_bo (ej_var (O := []) (by decide) (pv 4))) (EJ.to_bo (ej_var (O := []) (by decide) (pv 1))))) bj_nil))))

abbrev s__law_is_closed : Stmt := topS 38
abbrev N__law_is_closed : List Str := ["grants", "hand", "deed", "value", "name", "grant"]
theorem sc__law_is_closed : FnScope N__law_is_closed ["grants", "hand", "deed", "value"] (defScope s__law_is_closed) := ⟨rfl, rfl, rfl, by decide +kernel, rfl, by decide +kernel, by decide +kernel⟩
theorem ok__law_is_closed {f : Addr} {fd : FuncData} (hm : mg "_law_is_closed" = some (.ref f)) (F : FunD K "_law_is_closed" "_law_is_closed" (defArgs s__law_is_closed) (defBody s__law_is_closed) (defScope s__law_is_closed) [] [] f fd) (z_len : mg "len" = none) (k__law_ascending : Kn P w K mg base 2 "_law_ascending" ["value"] .sh d_law_ascending) (k__law_serves : Kn P w K mg base 1 "_law_serves" ["grant", "deed"] .sh d_law_serves_2) : Kn P w K mg base 3 "_law_is_closed" ["grants", "hand", "deed", "value"] .sh d_law_is_closed :=
  kn_ok (O' := []) (k := 2) hm F sc__law_is_closed (by decide) (fun _ _ _ _ _ _ us hl => match us, hl with | [_, _, _, _], _ => rfl) fun cdv A outer s H E hh =>
    (bj_cons (sj_if (WJ.tj (wj_or (tj_not (tj_val (EJ.to_bo (ej_callK k__law_ascending hh (by decide) (by rfl) (by rfl) (by decide) (fun _ _ => rfl) noStars_nil (aj_cons (fun _ _ => rfl) (ej_var (O := []) (by decide) (pv 3)) aj_nil) (alen_cons alen_nil))))) (wj_or (tj_cmp gt_ok (EJ.to_bo (ej_len (by rfl) z_len (fun _ _ => rfl) (EJ.to_bo (ej_var (O := []) (by decide) (pv 3))))) ejm_int) (wj_or (tj_cmp (notIn_ok hh (by rfl)) (EJ.to_bo (ej_str (by decide +kernel))) (EJ.to_bo (ej_var (O := []) (by decide) (pv 3)))) (wj_or1 (tj_cmp (in_ok hh (by rfl)) (EJ.to_bo (ej_var (O := []) (by decide) (pv 1))) (EJ.to_bo (ej_var (O := []) (by decide) (pv 3))))))))) (bj_cons (sj_ret ejm_bl) bj_nil) bj_nil) (bj_cons (sj_for hh (ij_val (ej_var (O := []) (by decide) (pv 0))) (gj_tup rfl (gsj_cons (gj_name (O := []) (by decide) (pg_name (i := 4) hh.nd rfl (by first | exact .inl rfl | exact .inr rfl))) (gsj_cons (gj_name (O := []) (by decide) (pg_name (i := 5) hh.nd rfl (by first | exact .inl rfl | exact .inr rfl))) gsj_nil rfl) rfl) rfl rfl) (bj_cons (sj_if (WJ.tj (wj_and (tj_val (EJ.to_bo (ej_callK k__law_serves hh (by decide) (by rfl) (by rfl) (by decide) (fun _ _ => rfl) (noStars_cons (fun _ _ => rfl) noStars_nil) (aj_cons (fun _ _ => rfl) (ej_var (O := []) (by decide) (pv 5)) (aj_cons (fun _ _ => rfl) (ej_var (O := []) (by decide) (pv 2)) aj_nil)) (alen_cons (alen_cons alen_nil))))) (wj_and (tj_cmp (in_ok hh (by rfl)) (EJ.to_bo (ej_idx (EJ.to_bo (ej_var (O := []) (by decide) (pv 5))) ejm_int)) (EJ.to_bo (ej_var (O := []) (by decide) (pv 3)))) (wj_and1 (tj_cmp (notIn_ok hh (by rfl)) (EJ.to_bo (ej_idx (EJ.to_bo (ej_var (O := []) (by decide) (pv 5))) ejm_int)) (EJ.to_bo (ej_var (O := []) (by decide) (pv 3)))))))) (bj_cons (sj_ret ejm_bl) bj_nil) bj_nil) bj_nil) (by intro _; rfl)) (bj_cons (sj_ret ejm_bl) bj_nil)))

abbrev s__law_asked : Stmt := topS 39
abbrev N__law_asked : List Str := ["script", "head", "ask", "hands", "deed"]
theorem sc__law_asked : FnScope N__law_asked ["script", "head"] (defScope s__law_asked) := ⟨rfl, rfl, rfl, by decide +kernel, rfl, by decide +kernel, by decide +kernel⟩
theorem ok__law_asked {f : Addr} {fd : FuncData} (hm : mg "_law_asked" = some (.ref f)) (F : FunD K "_law_asked" "_law_asked" (defArgs s__law_asked) (defBody s__law_asked) (defScope s__law_asked) [] [] f fd) (z_len : mg "len" = none) (k__law_cell : Kn P w K mg base 1 "_law_cell" ["script", "place"] .sh d_law_cell_3) (k__law_digits : Kn P w K mg base 1 "_law_digits" ["cell", "bases"] .fr d_law_digits) (k__law_hands : Kn P w K mg base 1 "_law_hands" ["head"] .sh d_law_hands) : Kn P w K mg base 2 "_law_asked" ["script", "head"] .sh d_law_asked :=
  kn_ok (O' := []) (k := 1) hm F sc__law_asked (by decide) (fun _ _ _ _ _ _ us hl => match us, hl with | [_, _], _ => rfl) fun cdv A outer s H E hh =>
    (bj_cons (sj_set (O := []) (i := 2) (by decide) (EJ.fr_sh (ej_callK k__law_digits hh (by decide) (by rfl) (by rfl) (by decide) (fun _ _ => rfl) (noStars_cons (fun _ _ => rfl) noStars_nil) (aj_cons (fun _ _ => rfl) (ej_callK k__law_cell hh (by decide) (by rfl) (by rfl) (by decide) (fun _ _ => rfl) (noStars_cons (fun _ _ => rfl) noStars_nil) (aj_cons (fun _ _ => rfl) (ej_var (O := []) (by decide) (pv 0)) (aj_cons (fun _ _ => rfl) ejm_int aj_nil)) (alen_cons (alen_cons alen_nil))) (aj_cons (fun _ _ => rfl) (EJ.fr_sh (ej_lst (aj_cons (fun _ _ => rfl) ejm_int (aj_cons (fun _ _ => rfl) ejm_int (aj_cons (fun _ _ => rfl) ejm_int aj_nil))))) aj_nil)) (alen_cons (alen_cons alen_nil)))) fun _ h => ps_set (i := 2) hh.nd rfl (by first | exact .inl rfl | exact .inr rfl) h) (bj_cons (sj_set (O := []) (i := 3) (by decide) (EJ.fr_sh (ej_add (EJ.to_bo (ej_callK k__law_hands hh (by decide) (by rfl) (by rfl) (by decide) (fun _ _ => rfl) noStars_nil (aj_cons (fun _ _ => rfl) (ej_var (O := []) (by decide) (pv 1)) aj_nil) (alen_cons alen_nil))) (EJ.to_bo (ej_lst (aj_cons (fun _ _ => rfl) (ej_str (by decide +kernel)) aj_nil))))) fun _ h => ps_set (i := 3) hh.nd rfl (by first | exact .inl rfl | exact .inr rfl) h) (bj_cons (sj_set (O := []) (i := 4) (by decide) (ej_idx (EJ.to_bo (ej_lst (aj_cons (fun _ _ => rfl) (ej_str (by decide +kernel)) (aj_cons (fun _ _ => rfl) (ej_str (by decide +kernel)) (aj_cons (fun _ _ => rfl) (ej_str (by decide +kernel)) (aj_cons (fun _ _ => rfl) (ej_str (by decide +kernel)) (aj_cons (fun _ _ => rfl) (ej_str (by decide +kernel)) (aj_cons (fun _ _ => rfl) (ej_str (by decide +kernel)) aj_nil)))))))) (EJ.to_bo (ej_idx (EJ.to_bo (ej_var (O := []) (by decide) (pv 2))) ejm_int))) fun _ h => ps_set (i := 4) hh.nd rfl (by first | exact .inl rfl | exact .inr rfl) h) (bj_cons (sj_ret (ej_tup (aj_cons (fun _ _ => rfl) (ej_idx (EJ.to_bo (ej_var (O := []) (by decide) (pv 3))) (EJ.to_bo (ej_mod (EJ.to_bo (ej_idx (EJ.to_bo (ej_var (O := []) (by decide) (pv 2))) ejm_int)) (EJ.to_bo (ej_len (by rfl) z_len (fun _ _ => rfl) (EJ.to_bo (ej_var (O := []) (by decide) (pv 3)))))))) (aj_cons (fun _ _ => rfl) (ej_var (O := []) (by decide) (pv 4)) (aj_cons (fun _ _ => rfl) (ej_idx (EJ.to_bo (ej_var (O := []) (by decide) (pv 2))) ejm_int) aj_nil))))) bj_nil))))

abbrev s__law_right : Stmt := topS 40
abbrev N__law_right : List Str := ["grants", "hand", "deed", "paper"]
theorem sc__law_right : FnScope N__law_right ["grants", "hand", "deed", "paper"] (defScope s__law_right) := ⟨rfl, rfl, rfl, by decide +kernel, rfl, by decide +kernel, by decide +kernel⟩
theorem ok__law_right {f : Addr} {fd : FuncData} (hm : mg "_law_right" = some (.ref f)) (F : FunD K "_law_right" "_law_right" (defArgs s__law_right) (defBody s__law_right) (defScope s__law_right) [] [] f fd) (z_isinstance : mg "isinstance" = none) (z_tuple : mg "tuple" = none) (z_len : mg "len" = none) (k__law_word : Kn P w K mg base 1 "_law_word" ["value", "word"] .sh d_law_word_4) (k__law_is_chain : Kn P w K mg base 2 "_law_is_chain" ["grants", "hand", "deed", "value"] .sh d_law_is_chain) (k__law_is_closed : Kn P w K mg base 3 "_law_is_closed" ["grants", "hand", "deed", "value"] .sh d_law_is_closed) : Kn P w K mg base 4 "_law_right" ["grants", "hand", "deed", "paper"] .sh d_law_right_19 :=
  kn_ok (O' := []) (k := 3) hm F sc__law_right (by decide) (fun _ _ _ _ _ _ us hl => match us, hl with | [_, _, _, _], _ => rfl) fun cdv A outer s H E hh =>
    (bj_cons (sj_if (WJ.tj (wj_or (tj_not (tj_val (EJ.to_bo (ej_isi (by rfl) z_isinstance (by rfl) z_tuple (by decide +kernel) (by decide) (by decide) (fun _ _ => rfl) (EJ.to_bo (ej_var (O := []) (by decide) (pv 3))))))) (wj_or1 (tj_cmp (ne_ok hh) (EJ.to_bo (ej_len (by rfl) z_len (fun _ _ => rfl) (EJ.to_bo (ej_var (O := []) (by decide) (pv 3))))) ejm_int)))) (bj_cons (sj_ret ejm_bl) bj_nil) bj_nil) (bj_cons (sj_if (tj_val (EJ.to_bo (ej_callK k__law_word hh (by decide) (by rfl) (by rfl) (by decide) (fun _ _ => rfl) (noStars_cons (fun _ _ => rfl) noStars_nil) (aj_cons (fun _ _ => rfl) (ej_idx (EJ.to_bo (ej_var (O := []) (by decide) (pv 3))) ejm_int) (aj_cons (fun _ _ => rfl) (ej_str (by decide +kernel)) aj_nil)) (alen_cons (alen_cons alen_nil))))) (bj_cons (sj_ret (ej_callK k__law_is_chain hh (by decide) (by rfl) (by rfl) (by decide) (fun _ _ => rfl) (noStars_cons (fun _ _ => rfl) (noStars_cons (fun _ _ => rfl) (noStars_cons (fun _ _ => rfl) noStars_nil))) (aj_cons (fun _ _ => rfl) (ej_var (O := []) (by decide) (pv 0)) (aj_cons (fun _ _ => rfl) (ej_var (O := []) (by decide) (pv 1)) (aj_cons (fun _ _ => rfl) (ej_var (O := []) (by decide) (pv 2)) (aj_cons (fun _ _ => rfl) (ej_idx (EJ.to_bo (ej_var (O := []) (by decide) (pv 3))) ejm_int) aj_nil)))) (alen_cons (alen_cons (alen_cons (alen_cons alen_nil)))))) bj_nil) bj_nil) (bj_cons (sj_ret (ej_and (ej_callK k__law_word hh (by decide) (by rfl) (by rfl) (by decide) (fun _ _ => rfl) (noStars_cons (fun _ _ => rfl) noStars_nil) (aj_cons (fun _ _ => rfl) (ej_idx (EJ.to_bo (ej_var (O := []) (by decide) (pv 3))) ejm_int) (aj_cons (fun _ _ => rfl) (ej_str (by decide +kernel)) aj_nil)) (alen_cons (alen_cons alen_nil))) (ej_one (ej_callK k__law_is_closed hh (by decide) (by rfl) (by rfl) (by decide) (fun _ _ => rfl) (noStars_cons (fun _ _ => rfl) (noStars_cons (fun _ _ => rfl) (noStars_cons (fun _ _ => rfl) noStars_nil))) (aj_cons (fun _ _ => rfl) (ej_var (O := []) (by decide) (pv 0)) (aj_cons (fun _ _ => rfl) (ej_var (O := []) (by decide) (pv 1)) (aj_cons (fun _ _ => rfl) (ej_var (O := []) (by decide) (pv 2)) (aj_cons (fun _ _ => rfl) (ej_idx (EJ.to_bo (ej_var (O := []) (by decide) (pv 3))) ejm_int) aj_nil)))) (alen_cons (alen_cons (alen_cons (alen_cons alen_nil)))))))) bj_nil)))

abbrev s__law_rows : Stmt := topS 41
abbrev N__law_rows : List Str := ["grants", "deed", "hands", "start", "names", "found", "k", "one", "other", "hand", "letters", "many", "pair", "name"]
theorem sc__law_rows : FnScope N__law_rows ["grants", "deed", "hands", "start"] (defScope s__law_rows) := ⟨rfl, rfl, rfl, by decide +kernel, rfl, by decide +kernel, by decide +kernel⟩
theorem ok__law_rows {f : Addr} {fd : FuncData} (hm : mg "_law_rows" = some (.ref f)) (F : FunD K "_law_rows" "_law_rows" (defArgs s__law_rows) (defBody s__law_rows) (defScope s__law_rows) [] [] f fd) (z_sorted : mg "sorted" = none) (z_tuple : mg "tuple" = none) (z_len : mg "len" = none) (z_min : mg "min" = none) (z_range : mg "range" = none) : Kn P w K mg base 1 "_law_rows" ["grants", "deed", "hands", "start"] .sh d_law_rows_6 :=
  kn_ok (O' := []) (k := 0) hm F sc__law_rows (by decide) (fun _ _ _ _ _ _ us hl => match us, hl with | [_, _, _, _], _ => rfl) fun cdv A outer s H E hh =>
    (bj_cons (sj_setComp (O := []) (i := 4) (by decide) hh (own := [("pair", 12)]) (ij_valB (EJ.to_bo (ej_var (O := []) (by decide) (pv 0)))) (blkOk_by (N := N__law_rows) (sc := (defScope s__law_rows)) (by decide +kernel)) (fun s_ H_ C_ cl_ fp_ hh => (gj_name (O := []) (by decide) (pg_name (i := 12) hh.nd rfl (by first | exact .inl rfl | exact .inr rfl)))) (fun s_ H_ C_ cl_ fp_ hh => tsj_nil) (fun s_ H_ C_ cl_ fp_ hh => (ej_idx (EJ.to_bo (ej_var (O := []) (by decide) (pv 12))) ejm_int)) (by intro _; rfl) rfl rfl rfl) (bj_cons (sj_setO (O := []) (O' := [5]) (i := 5) (by decide) (ej_lst (aj_cons (fun _ _ => rfl) (ej_tup aj_nil) (aj_cons (fun _ _ => rfl) (ej_tuple (by rfl) z_tuple (fun _ _ => rfl) (EJ.to_bo (ej_var (O := []) (by decide) (pv 4)))) (aj_cons (fun _ _ => rfl) (ej_tuple (by rfl) z_tuple (fun _ _ => rfl) (EJ.to_bo (ej_sorted hh (by rfl) z_sorted (fun _ _ => rfl) (EJ.to_bo (ej_var (O := []) (by decide) (pv 2)))))) (aj_cons (fun _ _ => rfl) (ej_tup (aj_cons (fun _ _ => rfl) (ej_str (by decide +kernel)) aj_nil)) (aj_cons (fun _ _ => rfl) ejm_non (aj_cons (fun _ _ => rfl) ejm_bl (aj_cons (fun _ _ => rfl) ejm_int (aj_cons (fun _ _ => rfl) (ej_str (by decide +kernel)) (aj_cons (fun _ _ => rfl) (ej_tup (aj_cons (fun _ _ => rfl) ejm_non aj_nil)) (aj_cons (fun _ _ => rfl) (ej_tup (aj_cons (fun _ _ => rfl) (ej_str (by decide +kernel)) aj_nil)) aj_nil))))))))))) fun _ h => ps_set (i := 5) hh.nd rfl (by first | exact .inl rfl | exact .inr rfl) h) (bj_cons (sj_for hh (ij_range1 (by rfl) z_range (fun _ _ => rfl) (EJ.to_bo (ej_min2 hh (by rfl) z_min (fun _ _ => rfl) (fun _ _ => rfl) (EJ.to_bo (ej_len (by rfl) z_len (fun _ _ => rfl) (EJ.to_bo (ej_var (O := [5]) (by decide) (pv 4))))) ejm_int))) (gj_name (O := [5]) (by decide) (pg_name (i := 6) hh.nd rfl (by first | exact .inl rfl | exact .inr rfl))) (bj_cons (sj_set (O := [5]) (i := 7) (by decide) (ej_idx (EJ.to_bo (ej_var (O := [5]) (by decide) (pv 4))) (EJ.to_bo (ej_mod (EJ.to_bo (ej_add (EJ.to_bo (ej_var (O := [5]) (by decide) (pv 3))) (EJ.to_bo (ej_var (O := [5]) (by decide) (pv 6))))) (EJ.to_bo (ej_len (by rfl) z_len (fun _ _ => rfl) (EJ.to_bo (ej_var (O := [5]) (by decide) (pv 4)))))))) fun _ h => ps_set (i := 7) hh.nd rfl (by first | exact .inl rfl | exact .inr rfl) h) (bj_cons (sj_set (O := [5]) (i := 8) (by decide) (ej_idx (EJ.to_bo (ej_var (O := [5]) (by decide) (pv 4))) (EJ.to_bo (ej_mod (EJ.to_bo (ej_add (EJ.to_bo (ej_add (EJ.to_bo (ej_var (O := [5]) (by decide) (pv 3))) (EJ.to_bo (ej_mul ejm_int (EJ.to_bo (ej_var (O := [5]) (by decide) (pv 6))))))) ejm_int)) (EJ.to_bo (ej_len (by rfl) z_len (fun _ _ => rfl) (EJ.to_bo (ej_var (O := [5]) (by decide) (pv 4)))))))) fun _ h => ps_set (i := 8) hh.nd rfl (by first | exact .inl rfl | exact .inr rfl) h) (bj_cons (sj_setO (O := [5]) (O' := [5]) (i := 5) (by decide) (ej_add (ej_own (pv 5)) (EJ.to_bo (ej_lst (aj_cons (fun _ _ => rfl) (ej_tup (aj_cons (fun _ _ => rfl) (ej_var (O := [5]) (by decide) (pv 7)) aj_nil)) (aj_cons (fun _ _ => rfl) (ej_tup (aj_cons (fun _ _ => rfl) (ej_var (O := [5]) (by decide) (pv 7)) (aj_cons (fun _ _ => rfl) (ej_var (O := [5]) (by decide) (pv 8)) aj_nil))) (aj_cons (fun _ _ => rfl) (ej_tup (aj_cons (fun _ _ => rfl) (ej_var (O := [5]) (by decide) (pv 7)) (aj_cons (fun _ _ => rfl) (ej_var (O := [5]) (by decide) (pv 8)) (aj_cons (fun _ _ => rfl) (ej_var (O := [5]) (by decide) (pv 7)) aj_nil)))) (aj_cons (fun _ _ => rfl) (ej_tup (aj_cons (fun _ _ => rfl) (ej_var (O := [5]) (by decide) (pv 8)) (aj_cons (fun _ _ => rfl) (ej_var (O := [5]) (by decide) (pv 7)) (aj_cons (fun _ _ => rfl) (ej_idx (EJ.to_bo (ej_var (O := [5]) (by decide) (pv 4))) ejm_int) aj_nil)))) aj_nil))))))) fun _ h => ps_set (i := 5) hh.nd rfl (by first | exact .inl rfl | exact .inr rfl) h) bj_nil))) (by intro _; rfl)) (bj_cons (sj_for hh (ij_val (EJ.fr_sh (ej_add (EJ.to_bo (ej_var (O := [5]) (by decide) (pv 2))) (EJ.to_bo (ej_lst (aj_cons (fun _ _ => rfl) (ej_str (by decide +kernel)) aj_nil)))))) (gj_name (O := [5]) (by decide) (pg_name (i := 9) hh.nd rfl (by first | exact .inl rfl | exact .inr rfl))) (bj_cons (sj_app (O := [5]) (i := 5) (by decide) (ej_tuple (by rfl) z_tuple (fun _ _ => rfl) (EJ.to_bo (ej_sorted hh (by rfl) z_sorted (fun _ _ => rfl) (EJ.to_bo (ej_comp hh (own := [("other", 8)]) (ij_valB (EJ.to_bo (ej_var (O := [5]) (by decide) (pv 2)))) (blkOk_by (N := N__law_rows) (sc := (defScope s__law_rows)) (by decide +kernel)) (fun s_ H_ C_ cl_ fp_ hh => (gj_name (O := [5]) (by decide) (pg_name (i := 8) hh.nd rfl (by first | exact .inl rfl | exact .inr rfl)))) (fun s_ H_ C_ cl_ fp_ hh => (tsj_one (tj_cmp (ne_ok hh) (EJ.to_bo (ej_var (O := [5]) (by decide) (pv 8))) (EJ.to_bo (ej_var (O := [5]) (by decide) (pv 9)))))) (fun s_ H_ C_ cl_ fp_ hh => (ej_var (O := [5]) (by decide) (pv 8))) (by intro _; rfl)))))) fun _ h => ps_expr (pe_bm PySem.F.plainAttrs_list PySem.F.slot_list_append PySem.F.type_list_append mt_append (pv 5) (pa_cons h pa_nil))) (bj_cons (sj_app (O := [5]) (i := 5) (by decide) (ej_tuple (by rfl) z_tuple (fun _ _ => rfl) (EJ.to_bo (ej_sorted hh (by rfl) z_sorted (fun _ _ => rfl) (EJ.to_bo (ej_add (EJ.to_bo (ej_var (O := [5]) (by decide) (pv 2))) (EJ.to_bo (ej_lst (aj_cons (fun _ _ => rfl) (ej_var (O := [5]) (by decide) (pv 9)) aj_nil)))))))) fun _ h => ps_expr (pe_bm PySem.F.plainAttrs_list PySem.F.slot_list_append PySem.F.type_list_append mt_append (pv 5) (pa_cons h pa_nil))) bj_nil)) (by intro _; rfl)) (bj_cons (sj_set (O := [5]) (i := 10) (by decide) (ej_str (by decide +kernel)) fun _ h => ps_set (i := 10) hh.nd rfl (by first | exact .inl rfl | exact .inr rfl) h) (bj_cons (sj_set (O := [5]) (i := 11) (by decide) (EJ.fr_sh (ej_sorted hh (by rfl) z_sorted (fun _ _ => rfl) (EJ.to_bo (ej_comp hh (own := [("one", 7), ("other", 8)]) (ij_valB (EJ.to_bo (ej_comp hh (own := [("k", 6)]) (ij_range1 (by rfl) z_range (fun _ _ => rfl) ejm_int) (blkOk_by (N := N__law_rows) (sc := (defScope s__law_rows)) (by decide +kernel)) (fun s_ H_ C_ cl_ fp_ hh => (gj_name (O := [5]) (by decide) (pg_name (i := 6) hh.nd rfl (by first | exact .inl rfl | exact .inr rfl)))) (fun s_ H_ C_ cl_ fp_ hh => tsj_nil) (fun s_ H_ C_ cl_ fp_ hh => (ej_tup (aj_cons (fun _ _ => rfl) (ej_idx (EJ.to_bo (ej_var (O := [5]) (by decide) (pv 10))) (EJ.to_bo (ej_div (EJ.to_bo (ej_var (O := [5]) (by decide) (pv 6))) ejm_int))) (aj_cons (fun _ _ => rfl) (ej_idx (EJ.to_bo (ej_var (O := [5]) (by decide) (pv 10))) (EJ.to_bo (ej_mod (EJ.to_bo (ej_var (O := [5]) (by decide) (pv 6))) ejm_int))) aj_nil)))) (by intro _; rfl)))) (blkOk_by (N := N__law_rows) (sc := (defScope s__law_rows)) (by decide +kernel)) (fun s_ H_ C_ cl_ fp_ hh => (gj_tup rfl (gsj_cons (gj_name (O := [5]) (by decide) (pg_name (i := 7) hh.nd rfl (by first | exact .inl rfl | exact .inr rfl))) (gsj_cons (gj_name (O := [5]) (by decide) (pg_name (i := 8) hh.nd rfl (by first | exact .inl rfl | exact .inr rfl))) gsj_nil rfl) rfl) rfl rfl)) (fun s_ H_ C_ cl_ fp_ hh => tsj_nil) (fun s_ H_ C_ cl_ fp_ hh => (EJ.fr_sh (ej_add (EJ.to_bo (ej_add (EJ.to_bo (ej_str (by decide +kernel))) (EJ.to_bo (ej_var (O := [5]) (by decide) (pv 7))))) (EJ.to_bo (ej_var (O := [5]) (by decide) (pv 8)))))) (by intro _; rfl))))) fun _ h => ps_set (i := 11) hh.nd rfl (by first | exact .inl rfl | exact .inr rfl) h) (bj_cons (sj_setComp (O := [5]) (i := 11) (by decide) hh (own := [("name", 13)]) (ij_valB (EJ.to_bo (ej_var (O := [5]) (by decide) (pv 11)))) (blkOk_by (N := N__law_rows) (sc := (defScope s__law_rows)) (by decide +kernel)) (fun s_ H_ C_ cl_ fp_ hh => (gj_name (O := [5]) (by decide) (pg_name (i := 13) hh.nd rfl (by first | exact .inl rfl | exact .inr rfl)))) (fun s_ H_ C_ cl_ fp_ hh => (tsj_one (tj_cmp (notIn_ok hh (by rfl)) (EJ.to_bo (ej_var (O := [5]) (by decide) (pv 13))) (EJ.to_bo (ej_var (O := [5]) (by decide) (pv 2)))))) (fun s_ H_ C_ cl_ fp_ hh => (ej_var (O := [5]) (by decide) (pv 13))) (by intro _; rfl) rfl rfl rfl) (bj_cons (sj_app (O := [5]) (i := 5) (by decide) (ej_tuple (by rfl) z_tuple (fun _ _ => rfl) (EJ.to_bo (ej_sorted hh (by rfl) z_sorted (fun _ _ => rfl) (EJ.to_bo (ej_add (EJ.to_bo (ej_var (O := [5]) (by decide) (pv 2))) (EJ.to_bo (ej_slice (EJ.to_bo (ej_var (O := [5]) (by decide) (pv 11))) pj_none (pj_some (EJ.to_bo (ej_sub ejm_int (EJ.to_bo (ej_len (by rfl) z_len (fun _ _ => rfl) (EJ.to_bo (ej_var (O := [5]) (by decide) (pv 2))))))))))))))) fun _ h => ps_expr (pe_bm PySem.F.plainAttrs_list PySem.F.slot_list_append PySem.F.type_list_append mt_append (pv 5) (pa_cons h pa_nil))) (bj_cons (sj_app (O := [5]) (i := 5) (by decide) (ej_tuple (by rfl) z_tuple (fun _ _ => rfl) (EJ.to_bo (ej_sorted hh (by rfl) z_sorted (fun _ _ => rfl) (EJ.to_bo (ej_add (EJ.to_bo (ej_var (O := [5]) (by decide) (pv 2))) (EJ.to_bo (ej_slice (EJ.to_bo (ej_var (O := [5]) (by decide) (pv 11))) pj_none (pj_some (EJ.to_bo (ej_sub ejm_int (EJ.to_bo (ej_len (by rfl) z_len (fun _ _ => rfl) (EJ.to_bo (ej_var (O := [5]) (by decide) (pv 2))))))))))))))) fun _ h => ps_expr (pe_bm PySem.F.plainAttrs_list PySem.F.slot_list_append PySem.F.type_list_append mt_append (pv 5) (pa_cons h pa_nil))) (BJ.drop [5] (bj_cons (sj_ret (ej_var (O := []) (by decide) (pv 5))) bj_nil)))))))))))

abbrev s_law : Stmt := topS 42
abbrev N_law : List Str := ["script", "head", "grants", "hand", "deed", "start", "hands", "ways", "due", "name", "grant", "papers", "row", "paper"]
theorem sc_law : FnScope N_law ["script"] (defScope s_law) := ⟨rfl, rfl, rfl, by decide +kernel, rfl, by decide +kernel, by decide +kernel⟩
theorem ok_law {f : Addr} {fd : FuncData} (F : FunD K "law" "law" (defArgs s_law) (defBody s_law) (defScope s_law) [] [] f fd) (z_sorted : mg "sorted" = none) (z_tuple : mg "tuple" = none) (k__law_cell : Kn P w K mg base 1 "_law_cell" ["script", "place"] .sh d_law_cell_3) (k__law_digits : Kn P w K mg base 1 "_law_digits" ["cell", "bases"] .fr d_law_digits) (k__law_grants : Kn P w K mg base 2 "_law_grants" ["script", "place", "head"] .sh d_law_grants) (k__law_asked : Kn P w K mg base 2 "_law_asked" ["script", "head"] .sh d_law_asked) (k__law_reach : Kn P w K mg base 2 "_law_reach" ["grants", "deed"] .sh d_law_reach_2) (k_right_report : Kn P w K mg base 3 "right_report" ["grants", "hand", "deed"] .sh d_right_report) (k__law_same : Kn P w K mg base 60 "_law_same" ["one", "other"] .sh (d_law_same_3 60)) (k__law_serves : Kn P w K mg base 1 "_law_serves" ["grant", "deed"] .sh d_law_serves_2) (k_serves : Kn P w K mg base 1 "serves" ["grant", "deed"] .sh d_serves) (k__law_bends : Kn P w K mg base 60 "_law_bends" ["value"] .sh (d_law_bends 60)) (k__law_some : Kn P w K mg base 1 "_law_some" ["papers", "start", "most"] .sh d_law_some_2) (k__law_rows : Kn P w K mg base 1 "_law_rows" ["grants", "deed", "hands", "start"] .sh d_law_rows_6) (k__law_is_chain : Kn P w K mg base 2 "_law_is_chain" ["grants", "hand", "deed", "value"] .sh d_law_is_chain) (k_is_chain : Kn P w K mg base 3 "is_chain" ["grants", "hand", "deed", "value"] .sh d_is_chain) (k__law_is_closed : Kn P w K mg base 3 "_law_is_closed" ["grants", "hand", "deed", "value"] .sh d_law_is_closed) (k_is_closed : Kn P w K mg base 4 "is_closed" ["grants", "hand", "deed", "value"] .sh d_is_closed_2) (k__law_right : Kn P w K mg base 4 "_law_right" ["grants", "hand", "deed", "paper"] .sh d_law_right_19) (k_shows_right : Kn P w K mg base 5 "shows_right" ["grants", "hand", "deed", "paper"] .sh d_shows_right) : DefOk P w K mg base 61 f fd ["script"] .sh d_law_69 :=
  def_ok (O' := []) (k := 60) F sc_law (by decide) fun cdv A outer s H E hh =>
    (bj_cons (sj_set (O := []) (i := 1) (by decide) (EJ.fr_sh (ej_callK k__law_digits hh (by decide) (by rfl) (by rfl) (by decide) (fun _ _ => rfl) (noStars_cons (fun _ _ => rfl) noStars_nil) (aj_cons (fun _ _ => rfl) (ej_callK k__law_cell hh (by decide) (by rfl) (by rfl) (by decide) (fun _ _ => rfl) (noStars_cons (fun _ _ => rfl) noStars_nil) (aj_cons (fun _ _ => rfl) (ej_var (O := []) (by decide) (pv 0)) (aj_cons (fun _ _ => rfl) ejm_int aj_nil)) (alen_cons (alen_cons alen_nil))) (aj_cons (fun _ _ => rfl) (EJ.fr_sh (ej_lst (aj_cons (fun _ _ => rfl) ejm_int (aj_cons (fun _ _ => rfl) ejm_int (aj_cons (fun _ _ => rfl) ejm_int (aj_cons (fun _ _ => rfl) ejm_int (aj_cons (fun _ _ => rfl) ejm_int aj_nil))))))) aj_nil)) (alen_cons (alen_cons alen_nil)))) fun _ h => ps_set (i := 1) hh.nd rfl (by first | exact .inl rfl | exact .inr rfl) h) (bj_cons (sj_set (O := []) (i := 2) (by decide) (ej_callK k__law_grants hh (by decide) (by rfl) (by rfl) (by decide) (fun _ _ => rfl) (noStars_cons (fun _ _ => rfl) (noStars_cons (fun _ _ => rfl) noStars_nil)) (aj_cons (fun _ _ => rfl) (ej_var (O := []) (by decide) (pv 0)) (aj_cons (fun _ _ => rfl) ejm_int (aj_cons (fun _ _ => rfl) (ej_var (O := []) (by decide) (pv 1)) aj_nil))) (alen_cons (alen_cons (alen_cons alen_nil)))) fun _ h => ps_set (i := 2) hh.nd rfl (by first | exact .inl rfl | exact .inr rfl) h) (bj_cons (sj_unp (ej_callK k__law_asked hh (by decide) (by rfl) (by rfl) (by decide) (fun _ _ => rfl) (noStars_cons (fun _ _ => rfl) noStars_nil) (aj_cons (fun _ _ => rfl) (ej_var (O := []) (by decide) (pv 0)) (aj_cons (fun _ _ => rfl) (ej_var (O := []) (by decide) (pv 1)) aj_nil)) (alen_cons (alen_cons alen_nil))) (gj_tup rfl (gsj_cons (gj_name (O := []) (by decide) (pg_name (i := 3) hh.nd rfl (by first | exact .inl rfl | exact .inr rfl))) (gsj_cons (gj_name (O := []) (by decide) (pg_name (i := 4) hh.nd rfl (by first | exact .inl rfl | exact .inr rfl))) (gsj_cons (gj_name (O := []) (by decide) (pg_name (i := 5) hh.nd rfl (by first | exact .inl rfl | exact .inr rfl))) gsj_nil rfl) rfl) rfl) rfl rfl) fun _ _ h1 h2 => ps_asg h1 h2) (bj_cons (sj_unp (ej_callK k__law_reach hh (by decide) (by rfl) (by rfl) (by decide) (fun _ _ => rfl) (noStars_cons (fun _ _ => rfl) noStars_nil) (aj_cons (fun _ _ => rfl) (ej_var (O := []) (by decide) (pv 2)) (aj_cons (fun _ _ => rfl) (ej_var (O := []) (by decide) (pv 4)) aj_nil)) (alen_cons (alen_cons alen_nil))) (gj_lst rfl (gsj_cons (gj_name (O := []) (by decide) (pg_name (i := 6) hh.nd rfl (by first | exact .inl rfl | exact .inr rfl))) (gsj_cons (gj_name (O := []) (by decide) (pg_name (i := 7) hh.nd rfl (by first | exact .inl rfl | exact .inr rfl))) gsj_nil rfl) rfl) rfl rfl) fun _ _ h1 h2 => ps_asg h1 h2) (bj_cons (sj_set (O := []) (i := 8) (by decide) (ej_tup (aj_cons (fun _ _ => rfl) (ej_str (by decide +kernel)) (aj_cons (fun _ _ => rfl) (ej_tuple (by rfl) z_tuple (fun _ _ => rfl) (EJ.to_bo (ej_sorted hh (by rfl) z_sorted (fun _ _ => rfl) (EJ.to_bo (ej_var (O := []) (by decide) (pv 6)))))) aj_nil))) fun _ h => ps_set (i := 8) hh.nd rfl (by first | exact .inl rfl | exact .inr rfl) h) (bj_cons (sj_if (tj_cmp (in_ok hh (by rfl)) (EJ.to_bo (ej_var (O := []) (by decide) (pv 3))) (EJ.to_bo (ej_var (O := []) (by decide) (pv 6)))) (bj_cons (sj_set (O := []) (i := 8) (by decide) (ej_tup (aj_cons (fun _ _ => rfl) (ej_str (by decide +kernel)) (aj_cons (fun _ _ => rfl) (ej_idx (EJ.to_bo (ej_var (O := []) (by decide) (pv 7))) (EJ.to_bo (ej_index hh (EJ.to_bo (ej_var (O := []) (by decide) (pv 6))) (EJ.to_bo (ej_var (O := []) (by decide) (pv 3))) fun _ _ h1 h2 => pe_bm PySem.F.plainAttrs_list PySem.F.slot_list_index PySem.F.type_list_index (mt_indexD hh.u65) h1 (pa_cons h2 pa_nil)))) aj_nil))) fun _ h => ps_set (i := 8) hh.nd rfl (by first | exact .inl rfl | exact .inr rfl) h) bj_nil) bj_nil) (bj_cons (sj_if (tj_not (tj_val (EJ.to_bo (ej_callK k__law_same hh (by decide) (by rfl) (by rfl) (by decide) (fun _ _ => rfl) (noStars_cons (fun _ _ => rfl) noStars_nil) (aj_cons (fun _ _ => rfl) (ej_callK k_right_report hh (by decide) (by rfl) (by rfl) (by decide) (fun _ _ => rfl) (noStars_cons (fun _ _ => rfl) (noStars_cons (fun _ _ => rfl) noStars_nil)) (aj_cons (fun _ _ => rfl) (ej_var (O := []) (by decide) (pv 2)) (aj_cons (fun _ _ => rfl) (ej_var (O := []) (by decide) (pv 3)) (aj_cons (fun _ _ => rfl) (ej_var (O := []) (by decide) (pv 4)) aj_nil))) (alen_cons (alen_cons (alen_cons alen_nil)))) (aj_cons (fun _ _ => rfl) (ej_var (O := []) (by decide) (pv 8)) aj_nil)) (alen_cons (alen_cons alen_nil)))))) (bj_cons (sj_ret ejm_bl) bj_nil) bj_nil) (bj_cons (sj_for hh (ij_val (ej_var (O := []) (by decide) (pv 2))) (gj_tup rfl (gsj_cons (gj_name (O := []) (by decide) (pg_name (i := 9) hh.nd rfl (by first | exact .inl rfl | exact .inr rfl))) (gsj_cons (gj_name (O := []) (by decide) (pg_name (i := 10) hh.nd rfl (by first | exact .inl rfl | exact .inr rfl))) gsj_nil rfl) rfl) rfl rfl) (bj_cons (sj_if (tj_not (tj_val (EJ.to_bo (ej_callK k__law_same hh (by decide) (by rfl) (by rfl) (by decide) (fun _ _ => rfl) (noStars_cons (fun _ _ => rfl) noStars_nil) (aj_cons (fun _ _ => rfl) (ej_callK k_serves hh (by decide) (by rfl) (by rfl) (by decide) (fun _ _ => rfl) (noStars_cons (fun _ _ => rfl) noStars_nil) (aj_cons (fun _ _ => rfl) (ej_var (O := []) (by decide) (pv 10)) (aj_cons (fun _ _ => rfl) (ej_var (O := []) (by decide) (pv 4)) aj_nil)) (alen_cons (alen_cons alen_nil))) (aj_cons (fun _ _ => rfl) (ej_callK k__law_serves hh (by decide) (by rfl) (by rfl) (by decide) (fun _ _ => rfl) (noStars_cons (fun _ _ => rfl) noStars_nil) (aj_cons (fun _ _ => rfl) (ej_var (O := []) (by decide) (pv 10)) (aj_cons (fun _ _ => rfl) (ej_var (O := []) (by decide) (pv 4)) aj_nil)) (alen_cons (alen_cons alen_nil))) aj_nil)) (alen_cons (alen_cons alen_nil)))))) (bj_cons (sj_ret ejm_bl) bj_nil) bj_nil) bj_nil) (by intro _; rfl)) (bj_cons (sj_set (O := []) (i := 11) (by decide) (EJ.fr_sh (ej_add (EJ.to_bo (ej_lst (aj_cons (fun _ _ => rfl) (ej_var (O := []) (by decide) (pv 8)) (aj_cons (fun _ _ => rfl) (ej_tup (aj_cons (fun _ _ => rfl) (ej_str (by decide +kernel)) aj_nil)) (aj_cons (fun _ _ => rfl) (ej_tup (aj_cons (fun _ _ => rfl) (ej_str (by decide +kernel)) aj_nil)) (aj_cons (fun _ _ => rfl) (ej_tup aj_nil) (aj_cons (fun _ _ => rfl) ejm_non (aj_cons (fun _ _ => rfl) ejm_int (aj_cons (fun _ _ => rfl) (ej_str (by decide +kernel)) aj_nil))))))))) (EJ.to_bo (ej_callK k__law_some hh (by decide) (by rfl) (by rfl) (by decide) (fun _ _ => rfl) (noStars_cons (fun _ _ => rfl) (noStars_cons (fun _ _ => rfl) noStars_nil)) (aj_cons (fun _ _ => rfl) (ej_callK k__law_bends hh (by decide) (by rfl) (by rfl) (by decide) (fun _ _ => rfl) noStars_nil (aj_cons (fun _ _ => rfl) (ej_var (O := []) (by decide) (pv 8)) aj_nil) (alen_cons alen_nil)) (aj_cons (fun _ _ => rfl) (ej_var (O := []) (by decide) (pv 5)) (aj_cons (fun _ _ => rfl) ejm_int aj_nil))) (alen_cons (alen_cons (alen_cons alen_nil))))))) fun _ h => ps_set (i := 11) hh.nd rfl (by first | exact .inl rfl | exact .inr rfl) h) (bj_cons (sj_for hh (ij_val (EJ.fr_sh (ej_add (EJ.to_bo (ej_callK k__law_rows hh (by decide) (by rfl) (by rfl) (by decide) (fun _ _ => rfl) (noStars_cons (fun _ _ => rfl) (noStars_cons (fun _ _ => rfl) (noStars_cons (fun _ _ => rfl) noStars_nil))) (aj_cons (fun _ _ => rfl) (ej_var (O := []) (by decide) (pv 2)) (aj_cons (fun _ _ => rfl) (ej_var (O := []) (by decide) (pv 4)) (aj_cons (fun _ _ => rfl) (ej_var (O := []) (by decide) (pv 6)) (aj_cons (fun _ _ => rfl) (ej_var (O := []) (by decide) (pv 5)) aj_nil)))) (alen_cons (alen_cons (alen_cons (alen_cons alen_nil)))))) (EJ.to_bo (ej_lst (aj_cons (fun _ _ => rfl) (ej_idx (EJ.to_bo (ej_var (O := []) (by decide) (pv 8))) ejm_int) aj_nil)))))) (gj_name (O := []) (by decide) (pg_name (i := 12) hh.nd rfl (by first | exact .inl rfl | exact .inr rfl))) (bj_cons (sj_set (O := []) (i := 11) (by decide) (EJ.fr_sh (ej_add (EJ.to_bo (ej_var (O := []) (by decide) (pv 11))) (EJ.to_bo (ej_lst (aj_cons (fun _ _ => rfl) (ej_tup (aj_cons (fun _ _ => rfl) (ej_str (by decide +kernel)) (aj_cons (fun _ _ => rfl) (ej_var (O := []) (by decide) (pv 12)) aj_nil))) (aj_cons (fun _ _ => rfl) (ej_tup (aj_cons (fun _ _ => rfl) (ej_str (by decide +kernel)) (aj_cons (fun _ _ => rfl) (ej_var (O := []) (by decide) (pv 12)) aj_nil))) aj_nil)))))) fun _ h => ps_set (i := 11) hh.nd rfl (by first | exact .inl rfl | exact .inr rfl) h) (bj_cons (sj_if (tj_not (tj_val (EJ.to_bo (ej_callK k__law_same hh (by decide) (by rfl) (by rfl) (by decide) (fun _ _ => rfl) (noStars_cons (fun _ _ => rfl) noStars_nil) (aj_cons (fun _ _ => rfl) (ej_callK k_is_chain hh (by decide) (by rfl) (by rfl) (by decide) (fun _ _ => rfl) (noStars_cons (fun _ _ => rfl) (noStars_cons (fun _ _ => rfl) (noStars_cons (fun _ _ => rfl) noStars_nil))) (aj_cons (fun _ _ => rfl) (ej_var (O := []) (by decide) (pv 2)) (aj_cons (fun _ _ => rfl) (ej_var (O := []) (by decide) (pv 3)) (aj_cons (fun _ _ => rfl) (ej_var (O := []) (by decide) (pv 4)) (aj_cons (fun _ _ => rfl) (ej_var (O := []) (by decide) (pv 12)) aj_nil)))) (alen_cons (alen_cons (alen_cons (alen_cons alen_nil))))) (aj_cons (fun _ _ => rfl) (ej_callK k__law_is_chain hh (by decide) (by rfl) (by rfl) (by decide) (fun _ _ => rfl) (noStars_cons (fun _ _ => rfl) (noStars_cons (fun _ _ => rfl) (noStars_cons (fun _ _ => rfl) noStars_nil))) (aj_cons (fun _ _ => rfl) (ej_var (O := []) (by decide) (pv 2)) (aj_cons (fun _ _ => rfl) (ej_var (O := []) (by decide) (pv 3)) (aj_cons (fun _ _ => rfl) (ej_var (O := []) (by decide) (pv 4)) (aj_cons (fun _ _ => rfl) (ej_var (O := []) (by decide) (pv 12)) aj_nil)))) (alen_cons (alen_cons (alen_cons (alen_cons alen_nil))))) aj_nil)) (alen_cons (alen_cons alen_nil)))))) (bj_cons (sj_ret ejm_bl) bj_nil) bj_nil) (bj_cons (sj_if (tj_not (tj_val (EJ.to_bo (ej_callK k__law_same hh (by decide) (by rfl) (by rfl) (by decide) (fun _ _ => rfl) (noStars_cons (fun _ _ => rfl) noStars_nil) (aj_cons (fun _ _ => rfl) (ej_callK k_is_closed hh (by decide) (by rfl) (by rfl) (by decide) (fun _ _ => rfl) (noStars_cons (fun _ _ => rfl) (noStars_cons (fun _ _ => rfl) (noStars_cons (fun _ _ => rfl) noStars_nil))) (aj_cons (fun _ _ => rfl) (ej_var (O := []) (by decide) (pv 2)) (aj_cons (fun _ _ => rfl) (ej_var (O := []) (by decide) (pv 3)) (aj_cons (fun _ _ => rfl) (ej_var (O := []) (by decide) (pv 4)) (aj_cons (fun _ _ => rfl) (ej_var (O := []) (by decide) (pv 12)) aj_nil)))) (alen_cons (alen_cons (alen_cons (alen_cons alen_nil))))) (aj_cons (fun _ _ => rfl) (ej_callK k__law_is_closed hh (by decide) (by rfl) (by rfl) (by decide) (fun _ _ => rfl) (noStars_cons (fun _ _ => rfl) (noStars_cons (fun _ _ => rfl) (noStars_cons (fun _ _ => rfl) noStars_nil))) (aj_cons (fun _ _ => rfl) (ej_var (O := []) (by decide) (pv 2)) (aj_cons (fun _ _ => rfl) (ej_var (O := []) (by decide) (pv 3)) (aj_cons (fun _ _ => rfl) (ej_var (O := []) (by decide) (pv 4)) (aj_cons (fun _ _ => rfl) (ej_var (O := []) (by decide) (pv 12)) aj_nil)))) (alen_cons (alen_cons (alen_cons (alen_cons alen_nil))))) aj_nil)) (alen_cons (alen_cons alen_nil)))))) (bj_cons (sj_ret ejm_bl) bj_nil) bj_nil) bj_nil))) (by intro _; rfl)) (bj_cons (sj_for hh (ij_val (ej_var (O := []) (by decide) (pv 11))) (gj_name (O := []) (by decide) (pg_name (i := 13) hh.nd rfl (by first | exact .inl rfl | exact .inr rfl))) (bj_cons (sj_if (tj_not (tj_val (EJ.to_bo (ej_callK k__law_same hh (by decide) (by rfl) (by rfl) (by decide) (fun _ _ => rfl) (noStars_cons (fun _ _ => rfl) noStars_nil) (aj_cons (fun _ _ => rfl) (ej_callK k_shows_right hh (by decide) (by rfl) (by rfl) (by decide) (fun _ _ => rfl) (noStars_cons (fun _ _ => rfl) (noStars_cons (fun _ _ => rfl) (noStars_cons (fun _ _ => rfl) noStars_nil))) (aj_cons (fun _ _ => rfl) (ej_var (O := []) (by decide) (pv 2)) (aj_cons (fun _ _ => rfl) (ej_var (O := []) (by decide) (pv 3)) (aj_cons (fun _ _ => rfl) (ej_var (O := []) (by decide) (pv 4)) (aj_cons (fun _ _ => rfl) (ej_var (O := []) (by decide) (pv 13)) aj_nil)))) (alen_cons (alen_cons (alen_cons (alen_cons alen_nil))))) (aj_cons (fun _ _ => rfl) (ej_callK k__law_right hh (by decide) (by rfl) (by rfl) (by decide) (fun _ _ => rfl) (noStars_cons (fun _ _ => rfl) (noStars_cons (fun _ _ => rfl) (noStars_cons (fun _ _ => rfl) noStars_nil))) (aj_cons (fun _ _ => rfl) (ej_var (O := []) (by decide) (pv 2)) (aj_cons (fun _ _ => rfl) (ej_var (O := []) (by decide) (pv 3)) (aj_cons (fun _ _ => rfl) (ej_var (O := []) (by decide) (pv 4)) (aj_cons (fun _ _ => rfl) (ej_var (O := []) (by decide) (pv 13)) aj_nil)))) (alen_cons (alen_cons (alen_cons (alen_cons alen_nil))))) aj_nil)) (alen_cons (alen_cons alen_nil)))))) (bj_cons (sj_ret ejm_bl) bj_nil) bj_nil) bj_nil) (by intro _; rfl)) (bj_cons (sj_ret ejm_bl) bj_nil))))))))))))
end
def dd_is_name : He.DefD := ⟨("is_name", none), "is_name", "is_name", defArgs s_is_name, defBody s_is_name, defScope s_is_name, [], []⟩
def dd_is_row : He.DefD := ⟨("is_row", none), "is_row", "is_row", defArgs s_is_row, defBody s_is_row, defScope s_is_row, [], []⟩
def dd_is_names : He.DefD := ⟨("is_names", none), "is_names", "is_names", defArgs s_is_names, defBody s_is_names, defScope s_is_names, [], []⟩
def dd_is_ascending : He.DefD := ⟨("is_ascending", none), "is_ascending", "is_ascending", defArgs s_is_ascending, defBody s_is_ascending, defScope s_is_ascending, [], []⟩
def dd_value_of : He.DefD := ⟨("value_of", none), "value_of", "value_of", defArgs s_value_of, defBody s_value_of, defScope s_value_of, [.non], []⟩
def dd_serves : He.DefD := ⟨("serves", none), "serves", "serves", defArgs s_serves, defBody s_serves, defScope s_serves, [], []⟩
def dd_is_chain : He.DefD := ⟨("is_chain", none), "is_chain", "is_chain", defArgs s_is_chain, defBody s_is_chain, defScope s_is_chain, [], []⟩
def dd_is_closed : He.DefD := ⟨("is_closed", none), "is_closed", "is_closed", defArgs s_is_closed, defBody s_is_closed, defScope s_is_closed, [], []⟩
def dd_hands_that_may : He.DefD := ⟨("hands_that_may", none), "hands_that_may", "hands_that_may", defArgs s_hands_that_may, defBody s_hands_that_may, defScope s_hands_that_may, [], []⟩
def dd_sizes_to_hand : He.DefD := ⟨("sizes_to_hand", none), "sizes_to_hand", "sizes_to_hand", defArgs s_sizes_to_hand, defBody s_sizes_to_hand, defScope s_sizes_to_hand, [], []⟩
def dd_right_report : He.DefD := ⟨("right_report", none), "right_report", "right_report", defArgs s_right_report, defBody s_right_report, defScope s_right_report, [], []⟩
def dd_shows_right : He.DefD := ⟨("shows_right", none), "shows_right", "shows_right", defArgs s_shows_right, defBody s_shows_right, defScope s_shows_right, [], []⟩
def dd__law_cell : He.DefD := ⟨("_law_cell", none), "_law_cell", "_law_cell", defArgs s__law_cell, defBody s__law_cell, defScope s__law_cell, [], []⟩
def dd__law_digits : He.DefD := ⟨("_law_digits", none), "_law_digits", "_law_digits", defArgs s__law_digits, defBody s__law_digits, defScope s__law_digits, [], []⟩
def dd__law_same : He.DefD := ⟨("_law_same", none), "_law_same", "_law_same", defArgs s__law_same, defBody s__law_same, defScope s__law_same, [], []⟩
def dd__law_word : He.DefD := ⟨("_law_word", none), "_law_word", "_law_word", defArgs s__law_word, defBody s__law_word, defScope s__law_word, [], []⟩
def dd__law_is_name : He.DefD := ⟨("_law_is_name", none), "_law_is_name", "_law_is_name", defArgs s__law_is_name, defBody s__law_is_name, defScope s__law_is_name, [], []⟩
def dd__law_ascending : He.DefD := ⟨("_law_ascending", none), "_law_ascending", "_law_ascending", defArgs s__law_ascending, defBody s__law_ascending, defScope s__law_ascending, [], []⟩
def dd__law_name_at : He.DefD := ⟨("_law_name_at", none), "_law_name_at", "_law_name_at", defArgs s__law_name_at, defBody s__law_name_at, defScope s__law_name_at, [], []⟩
def dd__law_bends : He.DefD := ⟨("_law_bends", none), "_law_bends", "_law_bends", defArgs s__law_bends, defBody s__law_bends, defScope s__law_bends, [], []⟩
def dd__law_some : He.DefD := ⟨("_law_some", none), "_law_some", "_law_some", defArgs s__law_some, defBody s__law_some, defScope s__law_some, [], []⟩
def dd__law_hands : He.DefD := ⟨("_law_hands", none), "_law_hands", "_law_hands", defArgs s__law_hands, defBody s__law_hands, defScope s__law_hands, [], []⟩
def dd__law_grants : He.DefD := ⟨("_law_grants", none), "_law_grants", "_law_grants", defArgs s__law_grants, defBody s__law_grants, defScope s__law_grants, [], []⟩
def dd__law_serves : He.DefD := ⟨("_law_serves", none), "_law_serves", "_law_serves", defArgs s__law_serves, defBody s__law_serves, defScope s__law_serves, [], []⟩
def dd__law_reach : He.DefD := ⟨("_law_reach", none), "_law_reach", "_law_reach", defArgs s__law_reach, defBody s__law_reach, defScope s__law_reach, [], []⟩
def dd__law_is_chain : He.DefD := ⟨("_law_is_chain", none), "_law_is_chain", "_law_is_chain", defArgs s__law_is_chain, defBody s__law_is_chain, defScope s__law_is_chain, [], []⟩
def dd__law_is_closed : He.DefD := ⟨("_law_is_closed", none), "_law_is_closed", "_law_is_closed", defArgs s__law_is_closed, defBody s__law_is_closed, defScope s__law_is_closed, [], []⟩
def dd__law_asked : He.DefD := ⟨("_law_asked", none), "_law_asked", "_law_asked", defArgs s__law_asked, defBody s__law_asked, defScope s__law_asked, [], []⟩
def dd__law_right : He.DefD := ⟨("_law_right", none), "_law_right", "_law_right", defArgs s__law_right, defBody s__law_right, defScope s__law_right, [], []⟩
def dd__law_rows : He.DefD := ⟨("_law_rows", none), "_law_rows", "_law_rows", defArgs s__law_rows, defBody s__law_rows, defScope s__law_rows, [], []⟩
def dd_law : He.DefD := ⟨("law", none), "law", "law", defArgs s_law, defBody s_law, defScope s_law, [], []⟩
def fn : List He.DefD := [dd_is_name, dd_is_row, dd_is_names, dd_is_ascending, dd_value_of, dd_serves, dd_is_chain, dd_is_closed, dd_hands_that_may, dd_sizes_to_hand, dd_right_report, dd_shows_right, dd__law_cell, dd__law_digits, dd__law_same, dd__law_word, dd__law_is_name, dd__law_ascending, dd__law_name_at, dd__law_bends, dd__law_some, dd__law_hands, dd__law_grants, dd__law_serves, dd__law_reach, dd__law_is_chain, dd__law_is_closed, dd__law_asked, dd__law_right, dd__law_rows, dd_law]
def fa : List He.Fa := [.glo "is_name", .glo "is_row", .glo "is_names", .glo "is_ascending", .glo "value_of", .glo "serves", .glo "is_chain", .glo "is_closed", .glo "hands_that_may", .glo "sizes_to_hand", .glo "right_report", .glo "shows_right", .glo "_law_cell", .glo "_law_digits", .glo "_law_same", .glo "_law_word", .glo "_law_is_name", .glo "_law_ascending", .glo "_law_name_at", .glo "_law_bends", .glo "_law_some", .glo "_law_hands", .glo "_law_grants", .glo "_law_serves", .glo "_law_reach", .glo "_law_is_chain", .glo "_law_is_closed", .glo "_law_asked", .glo "_law_right", .glo "_law_rows", .glo "law", .free "isinstance", .free "str", .free "len", .free "tuple", .free "range", .free "all", .free "sorted", .free "int", .free "bool", .free "min"]
def cs : List (Str × D) := [("NAME_SIZE", (.int 12)), ("LETTERS", (.str "abcdefghijklmnopqrstuvwxyz")), ("DIGITS", (.str "0123456789")), ("ALL_DEEDS", (.str "all")), ("GRANTS_MOST", (.int 24)), ("MASTER", (.str "master")), ("HANDS_MOST", (.int 99))]
abbrev R : PySem.W.OpenRow := PySem.W.OpenLaw.row PySem.Challenge.rw_camhouse_k69_chains_and_closed
abbrev hk : PySem.W.Hook := hookP 4 fa fn cs
def ob (s : PySem.W.SharedT) : AlP := obsPG 4 fa fn cs (HandSHeadRun.getT s)
theorem ob_eq (s : PySem.W.SharedT) : ob s = hk.obs s.abs := obsPG_eq (HandSHeadRun.getT_eq s)
def loose : List Str := (["LETTERS", "DIGITS", "NAME_SIZE", "is_name", "is_row", "is_names", "is_ascending", "value_of", "GRANTS_MOST", "HANDS_MOST", "MASTER", "ALL_DEEDS", "serves", "is_chain", "is_closed", "hands_that_may", "sizes_to_hand", "right_report", "shows_right", "_law_cell", "_law_digits", "_law_same", "_law_word", "_law_is_name", "_law_ascending", "_law_name_at", "_law_bends", "_law_some", "_law_grants", "_law_hands"] : List Str) ++ (["_law_serves", "_law_reach", "_law_is_chain", "_law_is_closed", "_law_asked", "_law_right", "_law_rows"] : List Str)
theorem run (w : World) : HandSHeadRun.RunEq R (PySem.W.view R.prog [42]) hk ob 3180 loose w := by
  intro os
  kernel_rfl
theorem facts {P : Program} {w : World} {K : PySem.W.Frag} {h : Heap} {mg : Str → Option Value} (X : K.In h) (G : h.Ns mainGlobals mg) (c : SaysP fa fn cs K) : Facts P w K mg 61 d_law_69 := by
  have z_isinstance := He.free_ok X G (c.fact 31 (f := .free "isinstance") rfl)
  have z_str := He.free_ok X G (c.fact 32 (f := .free "str") rfl)
  have z_len := He.free_ok X G (c.fact 33 (f := .free "len") rfl)
  have z_tuple := He.free_ok X G (c.fact 34 (f := .free "tuple") rfl)
  have z_range := He.free_ok X G (c.fact 35 (f := .free "range") rfl)
  have z_all := He.free_ok X G (c.fact 36 (f := .free "all") rfl)
  have z_sorted := He.free_ok X G (c.fact 37 (f := .free "sorted") rfl)
  have z_int := He.free_ok X G (c.fact 38 (f := .free "int") rfl)
  have z_bool := He.free_ok X G (c.fact 39 (f := .free "bool") rfl)
  have z_min := He.free_ok X G (c.fact 40 (f := .free "min") rfl)
  have c_NAME_SIZE := c.const X G 0 (x := "NAME_SIZE") (d := (.int 12)) rfl rfl
  have c_LETTERS := c.const X G 1 (x := "LETTERS") (d := (.str "abcdefghijklmnopqrstuvwxyz")) rfl rfl
  have c_DIGITS := c.const X G 2 (x := "DIGITS") (d := (.str "0123456789")) rfl rfl
  have c_ALL_DEEDS := c.const X G 3 (x := "ALL_DEEDS") (d := (.str "all")) rfl rfl
  have c_GRANTS_MOST := c.const X G 4 (x := "GRANTS_MOST") (d := (.int 24)) rfl rfl
  have c_MASTER := c.const X G 5 (x := "MASTER") (d := (.str "master")) rfl rfl
  have c_HANDS_MOST := c.const X G 6 (x := "HANDS_MOST") (d := (.int 99)) rfl rfl
  obtain ⟨fd_0, F_0⟩ := c.def_ 0 (d := dd_is_name) rfl
  have k_is_name := fun base => ok_is_name (P := P) (w := w) (base := base) (He.glo_ok X G (c.fact 0 (f := .glo "is_name") rfl)) F_0 z_isinstance z_str z_len c_NAME_SIZE c_LETTERS c_DIGITS
  obtain ⟨fd_1, F_1⟩ := c.def_ 1 (d := dd_is_row) rfl
  have k_is_row := fun base => ok_is_row (P := P) (w := w) (base := base) (He.glo_ok X G (c.fact 1 (f := .glo "is_row") rfl)) F_1 z_isinstance z_tuple z_len
  obtain ⟨fd_2, F_2⟩ := c.def_ 2 (d := dd_is_names) rfl
  have k_is_names := fun base => ok_is_names (P := P) (w := w) (base := base) (He.glo_ok X G (c.fact 2 (f := .glo "is_names") rfl)) F_2 (k_is_row base) (k_is_name base)
  obtain ⟨fd_3, F_3⟩ := c.def_ 3 (d := dd_is_ascending) rfl
  have k_is_ascending := fun base => ok_is_ascending (P := P) (w := w) (base := base) (He.glo_ok X G (c.fact 3 (f := .glo "is_ascending") rfl)) F_3 z_len z_range z_all (k_is_names base)
  obtain ⟨fd_4, F_4⟩ := c.def_ 4 (d := dd_value_of) rfl
  have k_value_of := fun base => ok_value_of (P := P) (w := w) (base := base) (He.glo_ok X G (c.fact 4 (f := .glo "value_of") rfl)) F_4 
  obtain ⟨fd_5, F_5⟩ := c.def_ 5 (d := dd_serves) rfl
  have k_serves := fun base => ok_serves (P := P) (w := w) (base := base) (He.glo_ok X G (c.fact 5 (f := .glo "serves") rfl)) F_5 c_ALL_DEEDS
  obtain ⟨fd_6, F_6⟩ := c.def_ 6 (d := dd_is_chain) rfl
  have k_is_chain := fun base => ok_is_chain (P := P) (w := w) (base := base) (He.glo_ok X G (c.fact 6 (f := .glo "is_chain") rfl)) F_6 c_GRANTS_MOST c_MASTER (k_is_names base) (k_value_of base) (k_serves base)
  obtain ⟨fd_7, F_7⟩ := c.def_ 7 (d := dd_is_closed) rfl
  have k_is_closed := fun base => ok_is_closed (P := P) (w := w) (base := base) (He.glo_ok X G (c.fact 7 (f := .glo "is_closed") rfl)) F_7 c_HANDS_MOST c_MASTER (k_is_ascending base) (k_serves base)
  obtain ⟨fd_8, F_8⟩ := c.def_ 8 (d := dd_hands_that_may) rfl
  have k_hands_that_may := fun base => ok_hands_that_may (P := P) (w := w) (base := base) (He.glo_ok X G (c.fact 8 (f := .glo "hands_that_may") rfl)) F_8 z_len z_sorted z_tuple c_MASTER (k_serves base)
  obtain ⟨fd_9, F_9⟩ := c.def_ 9 (d := dd_sizes_to_hand) rfl
  have k_sizes_to_hand := fun base => ok_sizes_to_hand (P := P) (w := w) (base := base) (He.glo_ok X G (c.fact 9 (f := .glo "sizes_to_hand") rfl)) F_9 z_len z_range (k_serves base)
  obtain ⟨fd_10, F_10⟩ := c.def_ 10 (d := dd_right_report) rfl
  have k_right_report := fun base => ok_right_report (P := P) (w := w) (base := base) (He.glo_ok X G (c.fact 10 (f := .glo "right_report") rfl)) F_10 z_range z_tuple c_MASTER (k_sizes_to_hand base) (k_hands_that_may base) (k_serves base)
  obtain ⟨fd_11, F_11⟩ := c.def_ 11 (d := dd_shows_right) rfl
  have k_shows_right := fun base => ok_shows_right (P := P) (w := w) (base := base) (He.glo_ok X G (c.fact 11 (f := .glo "shows_right") rfl)) F_11 (k_is_row base) (k_is_chain base) (k_is_closed base)
  obtain ⟨fd_12, F_12⟩ := c.def_ 12 (d := dd__law_cell) rfl
  have k__law_cell := fun base => ok__law_cell (P := P) (w := w) (base := base) (He.glo_ok X G (c.fact 12 (f := .glo "_law_cell") rfl)) F_12 z_len
  obtain ⟨fd_13, F_13⟩ := c.def_ 13 (d := dd__law_digits) rfl
  have k__law_digits := fun base => ok__law_digits (P := P) (w := w) (base := base) (He.glo_ok X G (c.fact 13 (f := .glo "_law_digits") rfl)) F_13 z_int
  obtain ⟨fd_14, F_14⟩ := c.def_ 14 (d := dd__law_same) rfl
  have k__law_same := fun base => ok__law_same (P := P) (w := w) (base := base) (He.glo_ok X G (c.fact 14 (f := .glo "_law_same") rfl)) F_14 z_isinstance z_tuple z_len z_range z_all z_str z_bool z_int 60
  obtain ⟨fd_15, F_15⟩ := c.def_ 15 (d := dd__law_word) rfl
  have k__law_word := fun base => ok__law_word (P := P) (w := w) (base := base) (He.glo_ok X G (c.fact 15 (f := .glo "_law_word") rfl)) F_15 z_isinstance z_str
  obtain ⟨fd_16, F_16⟩ := c.def_ 16 (d := dd__law_is_name) rfl
  have k__law_is_name := fun base => ok__law_is_name (P := P) (w := w) (base := base) (He.glo_ok X G (c.fact 16 (f := .glo "_law_is_name") rfl)) F_16 z_isinstance z_str z_len z_all
  obtain ⟨fd_17, F_17⟩ := c.def_ 17 (d := dd__law_ascending) rfl
  have k__law_ascending := fun base => ok__law_ascending (P := P) (w := w) (base := base) (He.glo_ok X G (c.fact 17 (f := .glo "_law_ascending") rfl)) F_17 z_isinstance z_tuple z_all z_len z_range (k__law_is_name base)
  obtain ⟨fd_18, F_18⟩ := c.def_ 18 (d := dd__law_name_at) rfl
  have k__law_name_at := fun base => ok__law_name_at (P := P) (w := w) (base := base) (He.glo_ok X G (c.fact 18 (f := .glo "_law_name_at") rfl)) F_18 
  obtain ⟨fd_19, F_19⟩ := c.def_ 19 (d := dd__law_bends) rfl
  have k__law_bends := fun base => ok__law_bends (P := P) (w := w) (base := base) (He.glo_ok X G (c.fact 19 (f := .glo "_law_bends") rfl)) F_19 z_isinstance z_tuple z_len z_range z_str z_int 60
  obtain ⟨fd_20, F_20⟩ := c.def_ 20 (d := dd__law_some) rfl
  have k__law_some := fun base => ok__law_some (P := P) (w := w) (base := base) (He.glo_ok X G (c.fact 20 (f := .glo "_law_some") rfl)) F_20 z_len
  obtain ⟨fd_21, F_21⟩ := c.def_ 21 (d := dd__law_hands) rfl
  have k__law_hands := fun base => ok__law_hands (P := P) (w := w) (base := base) (He.glo_ok X G (c.fact 21 (f := .glo "_law_hands") rfl)) F_21 z_range
  obtain ⟨fd_22, F_22⟩ := c.def_ 22 (d := dd__law_grants) rfl
  have k__law_grants := fun base => ok__law_grants (P := P) (w := w) (base := base) (He.glo_ok X G (c.fact 22 (f := .glo "_law_grants") rfl)) F_22 z_range z_len z_tuple (k__law_hands base) (k__law_cell base) (k__law_digits base) (k__law_name_at base)
  obtain ⟨fd_23, F_23⟩ := c.def_ 23 (d := dd__law_serves) rfl
  have k__law_serves := fun base => ok__law_serves (P := P) (w := w) (base := base) (He.glo_ok X G (c.fact 23 (f := .glo "_law_serves") rfl)) F_23 
  obtain ⟨fd_24, F_24⟩ := c.def_ 24 (d := dd__law_reach) rfl
  have k__law_reach := fun base => ok__law_reach (P := P) (w := w) (base := base) (He.glo_ok X G (c.fact 24 (f := .glo "_law_reach") rfl)) F_24 z_len z_range (k__law_serves base)
  obtain ⟨fd_25, F_25⟩ := c.def_ 25 (d := dd__law_is_chain) rfl
  have k__law_is_chain := fun base => ok__law_is_chain (P := P) (w := w) (base := base) (He.glo_ok X G (c.fact 25 (f := .glo "_law_is_chain") rfl)) F_25 z_isinstance z_tuple z_len z_range (k__law_word base) (k__law_serves base)
  obtain ⟨fd_26, F_26⟩ := c.def_ 26 (d := dd__law_is_closed) rfl
  have k__law_is_closed := fun base => ok__law_is_closed (P := P) (w := w) (base := base) (He.glo_ok X G (c.fact 26 (f := .glo "_law_is_closed") rfl)) F_26 z_len (k__law_ascending base) (k__law_serves base)
  obtain ⟨fd_27, F_27⟩ := c.def_ 27 (d := dd__law_asked) rfl
  have k__law_asked := fun base => ok__law_asked (P := P) (w := w) (base := base) (He.glo_ok X G (c.fact 27 (f := .glo "_law_asked") rfl)) F_27 z_len (k__law_cell base) (k__law_digits base) (k__law_hands base)
  obtain ⟨fd_28, F_28⟩ := c.def_ 28 (d := dd__law_right) rfl
  have k__law_right := fun base => ok__law_right (P := P) (w := w) (base := base) (He.glo_ok X G (c.fact 28 (f := .glo "_law_right") rfl)) F_28 z_isinstance z_tuple z_len (k__law_word base) (k__law_is_chain base) (k__law_is_closed base)
  obtain ⟨fd_29, F_29⟩ := c.def_ 29 (d := dd__law_rows) rfl
  have k__law_rows := fun base => ok__law_rows (P := P) (w := w) (base := base) (He.glo_ok X G (c.fact 29 (f := .glo "_law_rows") rfl)) F_29 z_sorted z_tuple z_len z_min z_range
  obtain ⟨fd_30, F_30⟩ := c.def_ 30 (d := dd_law) rfl
  exact ⟨_, fd_30, He.glo_ok X G (c.fact 30 (f := .glo "law") rfl), fun s v => F_30.bindsA (ps := ["script"]) (fun _ _ _ _ _ _ us hl => match us, hl with | [_], _ => rfl) s [v] rfl, fun base => ok_law F_30 z_sorted z_tuple (k__law_cell base) (k__law_digits base) (k__law_grants base) (k__law_asked base) (k__law_reach base) (k_right_report base) (k__law_same base) (k__law_serves base) (k_serves base) (k__law_bends base) (k__law_some base) (k__law_rows base) (k__law_is_chain base) (k_is_chain base) (k__law_is_closed base) (k_is_closed base) (k__law_right base) (k_shows_right base)⟩
theorem law_true (ns : List Int) (hl : ns.length ≤ 63) : d_law_69 [.list (ns.map .int)] = .ok (.bool true) := PL.law_true ns
end L_k69
open PySem PySem.W PySem.Calls PyProof.Rows
set_option maxRecDepth 100000 in
set_option maxHeartbeats 0 in
theorem PySem.Challenge.cw_camhouse_k69_chains_and_closed_holds : PySem.Challenge.rw_camhouse_k69_chains_and_closed.Holds := by
  w_on; o_law
  refine HandSHeadRun.head_any (r := OpenLaw.row PySem.Challenge.rw_camhouse_k69_chains_and_closed) (q := view (OpenLaw.row PySem.Challenge.rw_camhouse_k69_chains_and_closed).prog [42]) (H := L_k69.hk) (ob := L_k69.ob) (M := 3180) (loose := L_k69.loose) (d := HandSHeadRun.topDef (OpenLaw.row PySem.Challenge.rw_camhouse_k69_chains_and_closed).prog 42) (kwd := []) L_k69.ob_eq
    (by kernel_rfl) (fun s => by kernel_rfl) L_k69.run (by kernel_rfl) (by kernel_rfl) (by kernel_rfl) (by rfl) (by first | assumption | decide +kernel) (by decide +kernel) ⟨rfl, rfl, rfl, rfl, rfl, by decide +kernel⟩ ?hw ?hc
  case hw => w_witness2
  case hc =>
    refine L2.walk_ofE (l := PySem.Challenge.rw_camhouse_k69_chains_and_closed) (n := 63) (k := 61) (x := "script") (CX := L2.CX0) rfl (by decide) (by kernel_rfl) ⟨rfl, by decide, by decide⟩ ?F (fun _ _ _ _ z => z)
    intro w mg fa h Y G hmg0
    obtain ⟨K, KX, c⟩ := Y
    have hmg : mg ("law" : PySem.Str) = some (.ref fa) := by
      have e : (HandSHeadRun.topDef (OpenLaw.row PySem.Challenge.rw_camhouse_k69_chains_and_closed).prog 42).name = ("law" : PySem.Str) := by kernel_rfl
      rw [← e]
      exact hmg0
    exact PL.law_end (P := (PySem.Challenge.rw_camhouse_k69_chains_and_closed).prog) (w := w) KX hmg (L_k69.facts KX G c) L_k69.law_true

