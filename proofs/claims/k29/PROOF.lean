import PyProof.Rows.All
import HandS.ForMost
import HandS.ForExc
import HandS.Walk
import HandS.Deep
import HandS.TupAny
import HandS.IsInst
import HandS.SortInts
import HandS.Wide
import HandS.Defaults
import HandS.Flow
import HandS.Conv
import HandS.Iter
import HandS.Rev
import HandS.WordsDict
import HandS.CallSlots
import HandS.Zip
import HandS.Head0
import HandS.Head1
import HandS.Head2
import HandS.HeadEnd
import HandS.HeadHook1
import HandS.HeadHook2
import HandS.ExcIs
import HandS.ExcOwn
import KE.DataMinMax
import HandS.SetFor
import HandS.Strs
import HandS.SetTxt0
import KE.SortData
import HandS.TupMul
import HandS.Style
import HandS.TryOnly
import PyProof.StrOps2
import HandS.More
import HandS.SortKw
import PySem.Challenge.RW_camhouse_k29_whole_match_or_cut
set_option Elab.async false
set_option linter.all false
set_option maxRecDepth 100000
set_option maxHeartbeats 4000000
set_option autoImplicit false
section
namespace PL
open PySem PySem.Spec PyProof.Rows L2

abbrev D := PyData
abbrev Fg := PySem.W.Frag

inductive Res (α : Type) where
  | ok (a : α) | exn (e : D) | bad
def Res.bind {α β : Type} : Res α → (α → Res β) → Res β
  | .ok a, f => f a
  | .exn e, _ => .exn e
  | .bad, _ => .bad
abbrev Lo := List (Option D)
abbrev DE := Lo → Res D
abbrev DT := Lo → Res Bool
abbrev DA := Lo → Res (List D)
inductive SRes where
  | nx (ρ : Lo) | rt (v : D) | bk (ρ : Lo) | ct (ρ : Lo) | ex (e : D) (ρ : Lo) | bad
abbrev DS := Lo → SRes

mutual
inductive Rp (K : Fg) (F : Hp) : V → D → Prop
  | non : Rp K F .non .none
  | bl (b : Bool) : Rp K F (.bl b) (.bool b)
  | int (i : Int) : Rp K F (.int i) (.int i)
  | str (x : Str) : PyData.strOk x = true → x.length ≤ sizeLine → Rp K F (.str x) (.str x)
  | lst {a : Addr} {xs : List V} {ds : List D} : SqL K F a xs → xs.length ≤ sizeLine → RpA K F xs ds → Rp K F (.ref a) (.list ds)
  | tup {a : Addr} {xs : List V} {ds : List D} : SqT K F a xs → xs.length ≤ sizeLine → RpA K F xs ds → Rp K F (.ref a) (.tuple ds)
  | dic {a : Addr} {od : Obj} {kvs : List (Key × V)} {ps : List (D × D)} : F a = some (.frz od (.dK kvs)) → kvs.length ≤ sizeLine → RpD K F kvs ps → Rp K F (.ref a) (.dict ps)
inductive RpA (K : Fg) (F : Hp) : List V → List D → Prop
  | nil : RpA K F [] []
  | cons {x : V} {xs : List V} {d : D} {ds : List D} : Rp K F x d → RpA K F xs ds → RpA K F (x :: xs) (d :: ds)
inductive RpD (K : Fg) (F : Hp) : List (Key × V) → List (D × D) → Prop
  | nil : RpD K F [] []
  | cons {k : Key} {v : V} {kvs : List (Key × V)} {dk dv : D} {ps : List (D × D)} : Rp K F (kV k) dk → Rp K F v dv → RpD K F kvs ps → RpD K F ((k, v) :: kvs) ((dk, dv) :: ps)
end

theorem seqT {K : Fg} {H H' : Hp} {a : Addr} {xs : List V} (e : Same H H') (h : SqT K H a xs) : SqT K H' a xs := by
  rcases h with (h | ⟨o, h⟩) | h
  · exact .inl (.inl (e _ _ h))
  · exact .inl (.inr ⟨o, e _ _ h⟩)
  · exact .inr h

section
variable {K : Fg} {F F' : Hp}
mutual
theorem Rp.mono (s : Same F F') : ∀ {d : D} {x : V}, Rp K F x d → Rp K F' x d
  | _, _, .non => .non
  | _, _, .bl b => .bl b
  | _, _, .int i => .int i
  | _, _, .str x h l => .str x h l
  | _, _, .lst h l r => .lst (s.seq h) l (RpA.mono s r)
  | _, _, .tup h l r => .tup (seqT s h) l (RpA.mono s r)
  | _, _, .dic h l r => .dic (s _ _ h) l (RpD.mono s r)
theorem RpA.mono (s : Same F F') : ∀ {ds : List D} {xs : List V}, RpA K F xs ds → RpA K F' xs ds
  | _, _, .nil => .nil
  | _, _, .cons h t => .cons (Rp.mono s h) (RpA.mono s t)
theorem RpD.mono (s : Same F F') : ∀ {ps : List (D × D)} {kvs : List (Key × V)}, RpD K F kvs ps → RpD K F' kvs ps
  | _, _, .nil => .nil
  | _, _, .cons h h2 t => .cons (Rp.mono s h) (Rp.mono s h2) (RpD.mono s t)
end
theorem RpA.length : ∀ {xs : List V} {ds : List D}, RpA K F xs ds → xs.length = ds.length
  | _, _, .nil => rfl
  | _, _, .cons _ t => by simp [RpA.length t]
theorem RpA.get : ∀ {xs : List V} {ds : List D} {i : Nat} {d : D}, RpA K F xs ds → ds[i]? = some d → ∃ x, xs[i]? = some x ∧ Rp K F x d
  | _, _, _, _, .nil, e => by simp at e
  | _, _, 0, _, .cons h _, e => by simp at e; subst e; exact ⟨_, rfl, h⟩
  | _, _, i + 1, _, .cons _ t, e => by
    obtain ⟨x, h1, h2⟩ := RpA.get (i := i) t (by simpa using e)
    exact ⟨x, by simpa using h1, h2⟩
theorem RpA.getV : ∀ {xs : List V} {ds : List D} {i : Nat} {x : V}, RpA K F xs ds → xs[i]? = some x → ∃ d, ds[i]? = some d ∧ Rp K F x d
  | _, _, _, _, .nil, e => by simp at e
  | _, _, 0, _, .cons h _, e => by simp at e; subst e; exact ⟨_, rfl, h⟩
  | _, _, i + 1, _, .cons _ t, e => by
    obtain ⟨x, h1, h2⟩ := RpA.getV (i := i) t (by simpa using e)
    exact ⟨x, by simpa using h1, h2⟩
theorem RpA.append : ∀ {xs ys : List V} {ds es : List D}, RpA K F xs ds → RpA K F ys es → RpA K F (xs ++ ys) (ds ++ es)
  | _, _, _, _, .nil, s => s
  | _, _, _, _, .cons r t, s => .cons r (RpA.append t s)
theorem RpA.take : ∀ {xs : List V} {ds : List D} (n : Nat), RpA K F xs ds → RpA K F (xs.take n) (ds.take n)
  | _, _, 0, _ => .nil
  | _, _, _ + 1, .nil => .nil
  | _, _, n + 1, .cons r t => .cons r (RpA.take n t)
theorem RpA.drop : ∀ {xs : List V} {ds : List D} (n : Nat), RpA K F xs ds → RpA K F (xs.drop n) (ds.drop n)
  | _, _, 0, r => r
  | _, _, _ + 1, .nil => .nil
  | _, _, n + 1, .cons _ t => RpA.drop n t
theorem RpA.set : ∀ {xs : List V} {ds : List D} {x : V} {d : D} (n : Nat), Rp K F x d → RpA K F xs ds → RpA K F (xs.set n x) (ds.set n d)
  | _, _, _, _, _, _, .nil => .nil
  | _, _, _, _, 0, h, .cons _ t => .cons h t
  | _, _, _, _, n + 1, h, .cons r t => .cons r (RpA.set n h t)
theorem RpA.rev : ∀ {xs : List V} {ds : List D}, RpA K F xs ds → RpA K F xs.reverse ds.reverse
  | _, _, .nil => .nil
  | _, _, .cons r t => by
    rw [List.reverse_cons, List.reverse_cons]
    exact (RpA.rev t).append (.cons r .nil)
/-- as the library's own relation -/
def noD : D → Bool := fun d => d.canLay0
mutual
theorem Rp.dp : ∀ {d : D} {x : V}, Rp K F x d → d.canLay0 = true → Dp K F x d
  | _, _, .non, _ => .non
  | _, _, .bl b, _ => .bl b
  | _, _, .int i, _ => .int i
  | _, _, .str x _ _, _ => .str x
  | _, _, .lst h l r, c => .lst h (RpA.dp r (by simpa [PyData.canLay0] using c))
  | _, _, .tup h l r, c => .tup h (RpA.dp r (by simpa [PyData.canLay0] using c))
  | _, _, .dic h l r, c => by simp [PyData.canLay0] at c
theorem RpA.dp : ∀ {ds : List D} {xs : List V}, RpA K F xs ds → PyData.canLayAll0 ds = true → DpAll K F xs ds
  | _, _, .nil, _ => .nil
  | _, _, .cons h t, c => by
    simp only [PyData.canLayAll0, Bool.and_eq_true] at c
    exact .cons (Rp.dp h c.1) (RpA.dp t c.2)
end
end

structure Ext (F H F' H' : Hp) : Prop where
  ff : Same F F'
  hh : Same H H'
  nw : ∀ a, F a = none → H a ≠ none → F' a = none
  fh : Same F' H'
theorem Ext.refl {F H : Hp} (h : Same F H) : Ext F H F H := ⟨.refl _, .refl _, fun _ h _ => h, h⟩
theorem Ext.trans {F H F1 H1 F2 H2 : Hp} (a : Ext F H F1 H1) (b : Ext F1 H1 F2 H2) : Ext F H F2 H2 :=
  ⟨a.ff.trans b.ff, a.hh.trans b.hh, fun c h1 h2 => b.nw c (a.nw c h1 h2) (fun z => by
    cases q : H c with
    | none => exact h2 q
    | some o => rw [a.hh _ _ q] at z; cases z), b.fh⟩
theorem same_upd' {H : Hp} {p : Addr} {o : HO} (h : H p = none) : Same H (upd H p o) := fun b x e => by rw [upd_ne (ne_of_none e h)]; exact e
theorem same_upd2 {F H : Hp} {p : Addr} {o : HO} (s : Same F H) : Same (upd F p o) (upd H p o) := fun b x e => by
  by_cases hb : b = p
  · subst hb; rw [upd_same] at e ⊢; exact e
  · rw [upd_ne hb] at e ⊢; exact s _ _ e
theorem free_of {F H : Hp} (s : Same F H) {p : Addr} (h : H p = none) : F p = none := by
  cases q : F p with
  | none => rfl
  | some o => rw [s _ _ q] at h; cases h
/-- a new object, not yet of the frozen part -/
theorem Ext.new {F H : Hp} {p : Addr} {o : HO} (s : Same F H) (h : H p = none) : Ext F H F (upd H p o) :=
  ⟨.refl _, same_upd' h, fun _ q _ => q, s.trans (same_upd' h)⟩
theorem Ext.newF {F H : Hp} {p : Addr} {o : HO} (s : Same F H) (h : H p = none) : Ext F H (upd F p o) (upd H p o) :=
  ⟨same_upd' (free_of s h), same_upd' h, fun a q1 q2 => by
    have ne : a ≠ p := fun z => by subst z; exact q2 h
    rw [upd_ne ne]; exact q1, same_upd2 s⟩
/-- an object that was laid behind H joins the frozen part -/
theorem Ext.freeze {F H F' H' : Hp} {p : Addr} {o : HO} (e : Ext F H F' H') (h : H p = none) (hp : H' p = some o) (fp : F' p = none) : Ext F H (upd F' p o) H' :=
  ⟨e.ff.trans (same_upd' fp), e.hh, fun a q1 q2 => by
    have ne : a ≠ p := fun z => by subst z; exact q2 h
    rw [upd_ne ne]; exact e.nw a q1 q2, fun b x q => by
    by_cases hb : b = p
    · subst hb; rw [upd_same] at q; rw [hp]; exact q
    · rw [upd_ne hb] at q; exact e.fh _ _ q⟩

inductive Mode | sh | bo | fr
  deriving DecidableEq
/-- what a changing object holds -/
inductive OwnO (K : Fg) (F : Hp) : HO → D → Prop
  | lst {xs : List V} {ds : List D} : xs.length ≤ sizeLine → RpA K F xs ds → OwnO K F (.lst xs) (.list ds)
  | dic {kvs : List (Key × V)} {ps : List (D × D)} : kvs.length ≤ sizeLine → RpD K F kvs ps → OwnO K F (.dK kvs) (.dict ps)
theorem OwnO.mono {K : Fg} {F F' : Hp} {o : HO} {d : D} (s : Same F F') : OwnO K F o d → OwnO K F' o d
  | .lst l r => .lst l (r.mono s)
  | .dic l r => .dic l (r.mono s)
theorem OwnO.rpF {K : Fg} {F : Hp} {a : Addr} {o : HO} {od : Obj} {d : D} (h : F a = some (.frz od o)) : OwnO K F o d → Rp K F (.ref a) d
  | .lst l r => .lst (.inl (.inr ⟨_, h⟩)) l r
  | .dic l r => .dic h l r
theorem OwnO.mu {K : Fg} {F : Hp} {o : HO} {d : D} : OwnO K F o d → Mut (some o)
  | .lst _ _ => trivial
  | .dic _ _ => trivial
/-- P at H, or behind n lockings of things that H tracks -/
def LkP : Nat → (Hp → Prop) → Hp → Prop
  | 0, P, H => P H
  | n + 1, P, H => LkP n P H ∨ ∃ d u, H d = some u ∧ Mut (some u) ∧ ∀ od, LkP n P (upd H d (.frz od u))
theorem LkP.mono {P P' : Hp → Prop} (h : ∀ H, P H → P' H) : ∀ {n : Nat} {H : Hp}, LkP n P H → LkP n P' H
  | 0, H, g => h H g
  | n + 1, H, g => g.elim (fun g => .inl (LkP.mono h g)) fun ⟨d, u, h1, h2, h3⟩ => .inr ⟨d, u, h1, h2, fun od => LkP.mono h (h3 od)⟩
theorem LkP.pure {P : Hp → Prop} : ∀ {n : Nat} {H : Hp}, P H → LkP n P H
  | 0, _, g => g
  | n + 1, _, g => .inl (LkP.pure g)
theorem LkP.inv {X : Cx} {pins : List (Addr × Obj)} {σ : L2.St} {s : Shared} {P : Hp → Prop} : ∀ {n : Nat} {H : Hp}, LkP n P H → Inv X pins σ H s → ∃ H', Inv X pins σ H' s ∧ P H'
  | 0, H, g, I => ⟨H, I, g⟩
  | n + 1, H, g, I => by
    rcases g with g | ⟨d, u, h1, h2, h3⟩
    · exact LkP.inv g I
    · obtain ⟨od, I1⟩ := I.lock h1 h2
      exact LkP.inv (h3 od) I1
def tLkE (t : TE) : TE := fun σ H Q => t σ H fun x H1 => LkP 1 (Q x) H1
theorem pe_lk {X : Cx} {e : Expr} {t : TE} (h : PE X e t) : PE X e (tLkE t) := by
  refine ⟨fun pins s σ H Q I hw => ?_⟩
  refine thn (h.run pins s σ _ _ I hw) fun v s1 ⟨x, H1, I2, r, q⟩ => ?_
  obtain ⟨H2, I3, q2⟩ := q.inv I2
  exact ⟨x, H2, I3, r, q2⟩
/-- lockings ahead of a block -/
def tLkB (n : Nat) (t : TS) : TS := fun Dn σ H => LkP n (t Dn σ) H
/-- .. behind it -/
def tLkN (n : Nat) (t : TS) : TS := fun Dn σ H => t { Dn with nx := fun σ' H' => LkP n (Dn.nx σ') H' } σ H
/-- a value that is new for sure (or no list, no dict) -/
def isMut : D → Bool
  | .list _ => true
  | .dict _ => true
  | _ => false
/-- H0: where it is new -/
def RM (m : Mode) (K : Fg) (F H0 H : Hp) (x : V) (d : D) : Prop :=
  match m with
  | .sh => Rp K F x d
  | .bo => Rp K F x d ∨ ∃ a o, x = .ref a ∧ H a = some o ∧ OwnO K F o d
  | .fr => (isMut d = false ∧ Rp K F x d) ∨ ∃ a o, x = .ref a ∧ H a = some o ∧ OwnO K F o d ∧ F a = none ∧ H0 a = none
section
variable {K : Fg} {F H0 H F' H' : Hp} {x : V} {d : D}
theorem RM.ext {m : Mode} (e : Ext F H F' H') (h : RM m K F H0 H x d) : RM m K F' H0 H' x d := by
  cases m with
  | sh => exact Rp.mono e.ff h
  | bo =>
    rcases h with h | ⟨a, o, h1, h2, h3⟩
    · exact .inl (Rp.mono e.ff h)
    · exact .inr ⟨a, o, h1, e.hh _ _ h2, h3.mono e.ff⟩
  | fr =>
    rcases h with ⟨h0, h⟩ | ⟨a, o, h1, h2, h3, h4, h5⟩
    · exact .inl ⟨h0, Rp.mono e.ff h⟩
    · exact .inr ⟨a, o, h1, e.hh _ _ h2, h3.mono e.ff, e.nw a h4 (by rw [h2]; exact fun z => nomatch z), h5⟩
theorem RM.bo_of (m : Mode) (h : RM m K F H0 H x d) : RM .bo K F H0 H x d := by
  cases m with
  | sh => exact .inl h
  | bo => exact h
  | fr =>
    rcases h with ⟨_, h⟩ | ⟨a, o, h1, h2, h3, _⟩
    · exact .inl h
    · exact .inr ⟨a, o, h1, h2, h3⟩
/-- a fresh value joins the frozen part, locked -/
theorem RM.share (e : Ext F H F' H') (h : RM .fr K F' H H' x d) : LkP 1 (fun H2 => ∃ F2, Ext F H F2 H2 ∧ Rp K F2 x d) H' := by
  rcases h with ⟨_, h⟩ | ⟨a, o, rfl, h2, h3, h4, h5⟩
  · exact .inl ⟨F', e, h⟩
  · refine .inr ⟨a, o, h2, h3.mu, fun od => ⟨upd F' a (.frz od o), ?_, (h3.mono (same_upd' h4)).rpF upd_same⟩⟩
    refine ⟨e.ff.trans (same_upd' h4), fun b x q => ?_, fun b q1 q2 => ?_, same_upd2 e.fh⟩
    · have ne : b ≠ a := fun z => by subst z; rw [h5] at q; cases q
      rw [upd_ne ne]; exact e.hh _ _ q
    · have ne : b ≠ a := fun z => by subst z; exact q2 h5
      rw [upd_ne ne]; exact e.nw b q1 q2
/-- no dict: nothing is locked -/
def notDict : D → Bool
  | .dict _ => false
  | _ => true
theorem OwnO.rpN {K : Fg} {F : Hp} {a : Addr} {o : HO} {d : D} (h : F a = some o) (hn : notDict d = true) : OwnO K F o d → Rp K F (.ref a) d
  | .lst l r => .lst (SqL.of h) l r
  | .dic l r => by cases hn
theorem RM.shareN (hn : notDict d = true) (e : Ext F H F' H') (h : RM .fr K F' H H' x d) : ∃ F2, Ext F H F2 H' ∧ Rp K F2 x d := by
  rcases h with ⟨_, h⟩ | ⟨a, o, rfl, h2, h3, h4, h5⟩
  · exact ⟨F', e, h⟩
  · exact ⟨_, e.freeze h5 h2 h4, (h3.mono (same_upd' h4)).rpN upd_same hn⟩
end

structure SR (K : Fg) (F0 H0 : Hp) (O : List Nat) (F H : Hp) (σ : L2.St) (ρ : Lo) : Prop where
  e0 : Ext F0 H0 F H
  len : σ.length = ρ.length
  sh : ∀ i v, i ∉ O → ρ[i]? = some (some v) → ∃ x, σ[i]? = some (some x) ∧ Rp K F x v
  ow : ∀ i v, i ∈ O → ρ[i]? = some (some v) → ∃ a o, σ[i]? = some (some (.ref a)) ∧ H a = some o ∧ OwnO K F o v ∧ F a = none ∧ H0 a = none
  dj : ∀ i j v w a, i ∈ O → j ∈ O → i ≠ j → ρ[i]? = some (some v) → ρ[j]? = some (some w) → σ[i]? = some (some (.ref a)) → σ[j]? = some (some (.ref a)) → False
section
variable {K : Fg} {F0 H0 F H F' H' : Hp} {O : List Nat} {σ : L2.St} {ρ : Lo}
theorem SR.sub (s : SR K F0 H0 O F H σ ρ) : Same F H := s.e0.fh
theorem SR.ext (s : SR K F0 H0 O F H σ ρ) (e : Ext F H F' H') : SR K F0 H0 O F' H' σ ρ := by
  refine ⟨s.e0.trans e, s.len, fun i v h1 h2 => ?_, fun i v h1 h2 => ?_, s.dj⟩
  · obtain ⟨x, h3, h4⟩ := s.sh i v h1 h2
    exact ⟨x, h3, h4.mono e.ff⟩
  · obtain ⟨a, o, h3, h4, h5, h6, h7⟩ := s.ow i v h1 h2
    exact ⟨a, o, h3, e.hh _ _ h4, h5.mono e.ff, e.nw a h6 (by rw [h4]; exact fun z => nomatch z), h7⟩
/-- one owned slot is shared from now on -/
theorem SR.freeze1 (i : Nat) (s : SR K F0 H0 O F H σ ρ) : LkP 1 (fun H' => ∃ F', Same F F' ∧ SR K F0 H0 (O.filter fun j => j != i) F' H' σ ρ) H := by
  by_cases hi : i ∈ O ∧ ∃ v, ρ[i]? = some (some v)
  · obtain ⟨hi, v, hv⟩ := hi
    obtain ⟨a, o, h1, h2, h3, h4, h5⟩ := s.ow i v hi hv
    refine .inr ⟨a, o, h2, h3.mu, fun od => ⟨upd F a (.frz od o), same_upd' h4, ⟨⟨s.e0.ff.trans (same_upd' h4), fun b x q => ?_, fun b q1 q2 => ?_, same_upd2 s.e0.fh⟩, s.len, fun j w h6 h7 => ?_, fun j w h6 h7 => ?_, fun j k w w' b h6 h7 => ?_⟩⟩⟩
    · have ne : b ≠ a := fun z => by subst z; rw [h5] at q; cases q
      rw [upd_ne ne]; exact s.e0.hh _ _ q
    · have ne : b ≠ a := fun z => by subst z; exact q2 h5
      rw [upd_ne ne]; exact s.e0.nw b q1 q2
    · by_cases hj : j = i
      · subst hj
        rw [hv] at h7; cases h7
        exact ⟨_, h1, (h3.mono (same_upd' h4)).rpF upd_same⟩
      · have hj' : j ∉ O := fun z => h6 (by simp [z, hj])
        obtain ⟨x, h8, h9⟩ := s.sh j w hj' h7
        exact ⟨x, h8, h9.mono (same_upd' h4)⟩
    · simp at h6
      obtain ⟨b, p, h8, h9, h10, h11, h12⟩ := s.ow j w h6.1 h7
      have ne : b ≠ a := by
        intro z
        subst z
        exact s.dj j i w v b h6.1 hi h6.2 h7 hv h8 h1
      refine ⟨b, p, h8, ?_, h10.mono (same_upd' h4), ?_, h12⟩
      · rw [upd_ne ne]; exact h9
      · rw [upd_ne ne]; exact h11
    · simp at h6 h7
      exact s.dj j k w w' b h6.1 h7.1
  · refine .inl ⟨F, .refl _, ⟨s.e0, s.len, fun j w h6 h7 => ?_, fun j w h6 h7 => ?_, fun j k w w' b h6 h7 => ?_⟩⟩
    · refine s.sh j w (fun z => ?_) h7
      by_cases hj : j = i
      · subst hj; exact hi ⟨z, w, h7⟩
      · exact h6 (by simp [z, hj])
    · simp at h6; exact s.ow j w h6.1 h7
    · simp at h6 h7
      exact s.dj j k w w' b h6.1 h7.1
theorem LkP.bind {P Q : Hp → Prop} {n : Nat} (h : ∀ H, P H → LkP n Q H) : ∀ {m : Nat} {H : Hp}, LkP m P H → LkP (m + n) Q H
  | 0, H, g => by rw [Nat.zero_add]; exact h H g
  | m + 1, H, g => by
    rw [show m + 1 + n = (m + n) + 1 by omega]
    exact g.elim (fun g => .inl (LkP.bind h g)) fun ⟨d, u, h1, h2, h3⟩ => .inr ⟨d, u, h1, h2, fun od => LkP.bind h (h3 od)⟩
theorem SR.drop (I : List Nat) : ∀ {O : List Nat} {F H : Hp}, SR K F0 H0 O F H σ ρ → LkP I.length (fun H' => ∃ F', Same F F' ∧ SR K F0 H0 (O.filter fun j => !I.contains j) F' H' σ ρ) H := by
  induction I with
  | nil =>
    intro O F H s
    have e : O.filter (fun j => !([] : List Nat).contains j) = O := List.filter_eq_self.mpr (by simp)
    exact ⟨F, .refl _, by rw [e]; exact s⟩
  | cons i I ih =>
    intro O F H s
    have := LkP.bind (fun H1 ⟨F1, e1, s1⟩ => LkP.mono (fun H2 ⟨F2, e2, s2⟩ => (⟨F2, e1.trans e2, s2⟩ : ∃ F', Same F F' ∧ SR K F0 H0 ((O.filter fun j => j != i).filter fun j => !I.contains j) F' H2 σ ρ)) (ih s1)) (s.freeze1 i)
    rw [List.length_cons, Nat.add_comm]
    refine LkP.mono (fun H2 ⟨F2, e2, s2⟩ => ⟨F2, e2, ?_⟩) this
    rw [List.filter_filter] at s2
    have : (fun j => !(i :: I).contains j) = fun a => (!I.contains a) && (a != i) := by
      funext a
      simp only [List.contains_cons, Bool.not_or, bne]
      rw [Bool.and_comm]
    rw [this]; exact s2
/-- all owned slots shared -/
theorem SR.all (s : SR K F0 H0 O F H σ ρ) : LkP O.length (fun H' => ∃ F', Same F F' ∧ SR K F0 H0 [] F' H' σ ρ) H := by
  refine LkP.mono (fun H' ⟨F', e, s'⟩ => ⟨F', e, ?_⟩) (s.drop O)
  have : O.filter (fun j => !O.contains j) = [] := by simp
  rw [this] at s'
  exact s'
/-- a shared value is stored -/
theorem SR.setS {i : Nat} {x : V} {v : D} (s : SR K F0 H0 O F H σ ρ) (hi : i ∉ O) (h : Rp K F x v) : SR K F0 H0 O F H (σ.set i (some x)) (ρ.set i (some v)) := by
  refine ⟨s.e0, by simp [s.len], fun j w h1 h2 => ?_, fun j w h1 h2 => ?_, fun j k w w' b h1 h2 h3 h4 h5 h6 h7 => ?_⟩
  · by_cases hj : j = i
    · subst hj
      have hl : j < ρ.length := by have := (List.getElem?_eq_some_iff.mp h2).1; simpa using this
      rw [List.getElem?_set_self hl] at h2; cases h2
      exact ⟨x, by rw [List.getElem?_set_self (by rw [s.len]; exact hl)], h⟩
    · rw [List.getElem?_set_ne (Ne.symm hj)] at h2 ⊢
      exact s.sh j w h1 h2
  · have hj : j ≠ i := fun z => hi (z ▸ h1)
    rw [List.getElem?_set_ne (Ne.symm hj)] at h2 ⊢
    exact s.ow j w h1 h2
  · have hj : j ≠ i := fun z => hi (z ▸ h1)
    have hk : k ≠ i := fun z => hi (z ▸ h2)
    rw [List.getElem?_set_ne (Ne.symm hj)] at h4 h6
    rw [List.getElem?_set_ne (Ne.symm hk)] at h5 h7
    exact s.dj j k w w' b h1 h2 h3 h4 h5 h6 h7
/-- a slot is forgotten -/
theorem SR.wipe1 {i : Nat} (s : SR K F0 H0 O F H σ ρ) : SR K F0 H0 O F H (σ.set i none) (ρ.set i none) := by
  have key : ∀ j w, (ρ.set i none)[j]? = some (some w) → j ≠ i := fun j w h2 z => by
    subst z
    have hl : j < ρ.length := by have := (List.getElem?_eq_some_iff.mp h2).1; simpa using this
    rw [List.getElem?_set_self hl] at h2; cases h2
  refine ⟨s.e0, by simp [s.len], fun j w h1 h2 => ?_, fun j w h1 h2 => ?_, fun j k w w' b h1 h2 h3 h4 h5 h6 h7 => ?_⟩
  · have hj := key j w h2
    rw [List.getElem?_set_ne (Ne.symm hj)] at h2 ⊢
    exact s.sh j w h1 h2
  · have hj := key j w h2
    rw [List.getElem?_set_ne (Ne.symm hj)] at h2 ⊢
    exact s.ow j w h1 h2
  · have hj := key j w h4
    have hk := key k w' h5
    rw [List.getElem?_set_ne (Ne.symm hj)] at h4 h6
    rw [List.getElem?_set_ne (Ne.symm hk)] at h5 h7
    exact s.dj j k w w' b h1 h2 h3 h4 h5 h6 h7
/-- a slot whose value is fresh becomes an owned one -/
theorem SR.setO {i : Nat} {a : Addr} {o : HO} {v : D} (s : SR K F0 H0 O F H σ ρ) (h2 : H a = some o) (h3 : OwnO K F o v) (h4 : F a = none) (h5 : H0 a = none)
    (hn : ∀ j w, j ∈ O → j ≠ i → ρ[j]? = some (some w) → σ[j]? = some (some (.ref a)) → False) : SR K F0 H0 (i :: O.filter fun j => j != i) F H (σ.set i (some (.ref a))) (ρ.set i (some v)) := by
  have hO : ∀ j, j ∈ (i :: O.filter fun j => j != i) → j ≠ i → j ∈ O := fun j h z => by
    simp [z] at h; exact h
  refine ⟨s.e0, by simp [s.len], fun j w h1 h2 => ?_, fun j w h1 h2' => ?_, fun j k w w' b h1 h2 h3 h4 h5 h6 h7 => ?_⟩
  · have hj : j ≠ i := fun z => h1 (by simp [z])
    rw [List.getElem?_set_ne (Ne.symm hj)] at h2 ⊢
    exact s.sh j w (fun z => h1 (by simp [z, hj])) h2
  · by_cases hj : j = i
    · subst hj
      have hl : j < ρ.length := by have := (List.getElem?_eq_some_iff.mp h2').1; simpa using this
      rw [List.getElem?_set_self hl] at h2'; cases h2'
      exact ⟨a, o, by rw [List.getElem?_set_self (by rw [s.len]; exact hl)], h2, h3, h4, h5⟩
    · rw [List.getElem?_set_ne (Ne.symm hj)] at h2' ⊢
      exact s.ow j w (hO j h1 hj) h2'
  · by_cases hj : j = i
    · subst hj
      have hl : j < ρ.length := by have := (List.getElem?_eq_some_iff.mp h4).1; simpa using this
      rw [List.getElem?_set_self (by rw [s.len]; exact hl)] at h6
      cases h6
      rw [List.getElem?_set_ne h3] at h5 h7
      exact hn k w' (hO k h2 (Ne.symm h3)) (Ne.symm h3) h5 h7
    · by_cases hk : k = i
      · subst hk
        have hl : k < ρ.length := by have := (List.getElem?_eq_some_iff.mp h5).1; simpa using this
        rw [List.getElem?_set_self (by rw [s.len]; exact hl)] at h7
        cases h7
        rw [List.getElem?_set_ne (Ne.symm hj)] at h4 h6
        exact hn j w (hO j h1 hj) hj h4 h6
      · rw [List.getElem?_set_ne (Ne.symm hj)] at h4 h6
        rw [List.getElem?_set_ne (Ne.symm hk)] at h5 h7
        exact s.dj j k w w' b (hO j h1 hj) (hO k h2 hk) h3 h4 h5 h6 h7
/-- the object of an owned slot is changed -/
theorem SR.mut {i : Nat} {a : Addr} {o o' : HO} {v v' : D} (s : SR K F0 H0 O F H σ ρ) (hi : i ∈ O) (hv : ρ[i]? = some (some v)) (ha : σ[i]? = some (some (.ref a))) (h2 : H a = some o) (h4 : F a = none) (h5 : H0 a = none) (h3 : OwnO K F o' v') :
    SR K F0 H0 O F (upd H a o') σ (ρ.set i (some v')) := by
  have hl : i < ρ.length := (List.getElem?_eq_some_iff.mp hv).1
  refine ⟨⟨s.e0.ff, fun b x q => ?_, s.e0.nw, fun b x q => ?_⟩, by simp [s.len], fun j w h1 h2 => ?_, fun j w h1 h2' => ?_, fun j k w w' b h1 h2 h3 h4 h5 h6 h7 => ?_⟩
  · rw [upd_ne (ne_of_none q h5)]; exact s.e0.hh _ _ q
  · rw [upd_ne (ne_of_none q h4)]; exact s.e0.fh _ _ q
  · have hj : j ≠ i := fun z => h1 (z ▸ hi)
    rw [List.getElem?_set_ne (Ne.symm hj)] at h2
    exact s.sh j w h1 h2
  · by_cases hj : j = i
    · subst hj
      rw [List.getElem?_set_self hl] at h2'; cases h2'
      exact ⟨a, o', ha, upd_same, h3, h4, h5⟩
    · rw [List.getElem?_set_ne (Ne.symm hj)] at h2'
      obtain ⟨b, p, q1, q2, q3, q4, q5⟩ := s.ow j w h1 h2'
      refine ⟨b, p, q1, ?_, q3, q4, q5⟩
      rw [upd_ne]
      · exact q2
      · intro z; subst z
        exact s.dj j i w v b h1 hi hj h2' hv q1 ha
  · have h4' : ∃ w, ρ[j]? = some (some w) := by
      by_cases hj : j = i
      · subst hj; exact ⟨v, hv⟩
      · rw [List.getElem?_set_ne (Ne.symm hj)] at h4; exact ⟨_, h4⟩
    have h5' : ∃ w, ρ[k]? = some (some w) := by
      by_cases hj : k = i
      · subst hj; exact ⟨v, hv⟩
      · rw [List.getElem?_set_ne (Ne.symm hj)] at h5; exact ⟨_, h5⟩
    obtain ⟨w1, e1⟩ := h4'
    obtain ⟨w2, e2⟩ := h5'
    exact s.dj j k w1 w2 b h1 h2 h3 e1 e2 h6 h7
end
end PL

end
section
namespace PL
open PySem PySem.Spec PyProof.Rows L2

def Res.up {α : Type} : Option α → Res α
  | some a => .ok a
  | none => .bad
/-- an exception as data: its class's name and its fields -/
def excD (c : Str) (args : List (Str × D)) : D := .dict ((.str c, .none) :: args.map fun p => (.str p.1, p.2))
def ExRp (K : Fg) (mg : Str → Option Value) (F H : Hp) (cls : Value) (dd : Option Addr) (e : D) : Prop :=
  ∃ (c : Str) (args : List (Str × D)), e = excD c args ∧ mg c = some cls ∧
    (args = [] ∧ dd = none ∨ ∃ f v d x, args = [(f, v)] ∧ dd = some d ∧ H d = some (.xd [(f, x)]) ∧ Rp K F x v)

def EPost (X : Cx) (W : WX) (m : Mode) (F H : Hp) (σ : L2.St) (r : Res D) (Q : VK) : Prop :=
  match r with
  | .ok d => ∀ F' H' x, Ext F H F' H' → RM m X.K F' H H' x d → Q x H'
  | .exn e => ∀ F' H' cls dd, Ext F H F' H' → ExRp X.K X.mg F' H' cls dd e → W cls dd σ H'
  | .bad => False
def APost (X : Cx) (W : WX) (F H : Hp) (σ : L2.St) (r : Res (List D)) (Q : List V → Hp → Prop) : Prop :=
  match r with
  | .ok ds => ∀ F' H' xs, Ext F H F' H' → RpA X.K F' xs ds → Q xs H'
  | .exn e => ∀ F' H' cls dd, Ext F H F' H' → ExRp X.K X.mg F' H' cls dd e → W cls dd σ H'
  | .bad => False
def TPost (X : Cx) (W : WX) (F H : Hp) (σ : L2.St) (r : Res Bool) (Q : Bool → Hp → Prop) : Prop :=
  match r with
  | .ok b => ∀ F' H', Ext F H F' H' → Q b H'
  | .exn e => ∀ F' H' cls dd, Ext F H F' H' → ExRp X.K X.mg F' H' cls dd e → W cls dd σ H'
  | .bad => False
def VPost (K : Fg) (m : Mode) (F H : Hp) (r : Option D) (Q : VK) : Prop :=
  match r with
  | some d => ∀ F' H' x, Ext F H F' H' → RM m K F' H H' x d → Q x H'
  | none => False

def EJ (X : Cx) (W : WX) (O : List Nat) (m : Mode) (e : Expr) (d : DE) : Prop :=
  ∃ t, PE X e t ∧ ∀ F0 H0 F H σ ρ Q, SR X.K F0 H0 O F H σ ρ → EPost X W m F H σ (d ρ) Q → t σ H Q
def AJ (X : Cx) (W : WX) (O : List Nat) (es : List Expr) (d : DA) : Prop :=
  ∃ t, PA X es t ∧ ∀ F0 H0 F H σ ρ Q, SR X.K F0 H0 O F H σ ρ → APost X W F H σ (d ρ) Q → t σ H Q
def TJ (X : Cx) (W : WX) (O : List Nat) (e : Expr) (d : DT) : Prop :=
  ∃ t, PT X e t ∧ ∀ F0 H0 F H σ ρ Q, SR X.K F0 H0 O F H σ ρ → TPost X W F H σ (d ρ) Q → t σ H Q
def WJ (X : Cx) (W : WX) (O : List Nat) (e : Expr) (d : DT) : Prop :=
  ∃ t, PW X e t ∧ ∀ F0 H0 F H σ ρ Q, SR X.K F0 H0 O F H σ ρ → TPost X W F H σ (d ρ) Q → t σ H Q
/-- what every rule may ask of the place where it stands -/
structure Here (X : Cx) (W : WX) (k : Nat) : Prop where
  hr : Room k X.A
  calm : X.calm = true
  tk : Takes X W
  nd : X.N.Nodup
  hp : PassesOwn (model X.prog X.w) X.A X.env X.xe

section
variable {X : Cx} {W : WX} {m m1 m2 : Mode} {F H F1 H1 : Hp} {σ : L2.St} {Q : VK} {r : Res D}
theorem RM.back {K : Fg} {F H0 H0' H : Hp} {x : V} {d : D} (s : Same H0' H0) (h : RM m K F H0 H x d) : RM m K F H0' H x d := by
  cases m with
  | sh => exact h
  | bo => exact h
  | fr =>
    rcases h with h | ⟨a, o, h1, h2, h3, h4, h5⟩
    · exact .inl h
    · exact .inr ⟨a, o, h1, h2, h3, h4, free_of s h5⟩
theorem EPost.ext (e : Ext F H F1 H1) (h : EPost X W m F H σ r Q) : EPost X W m F1 H1 σ r Q := by
  cases r with
  | ok d => exact fun F' H' x e' rm => h F' H' x (e.trans e') (rm.back e.hh)
  | exn c => exact fun F' H' cls dd e' rm => h F' H' cls dd (e.trans e') rm
  | bad => exact h
theorem APost.ext {r : Res (List D)} {Q : List V → Hp → Prop} (e : Ext F H F1 H1) (h : APost X W F H σ r Q) : APost X W F1 H1 σ r Q := by
  cases r with
  | ok d => exact fun F' H' x e' rm => h F' H' x (e.trans e') rm
  | exn c => exact fun F' H' cls dd e' rm => h F' H' cls dd (e.trans e') rm
  | bad => exact h
theorem TPost.ext {r : Res Bool} {Q : Bool → Hp → Prop} (e : Ext F H F1 H1) (h : TPost X W F H σ r Q) : TPost X W F1 H1 σ r Q := by
  cases r with
  | ok d => exact fun F' H' e' => h F' H' (e.trans e')
  | exn c => exact fun F' H' cls dd e' rm => h F' H' cls dd (e.trans e') rm
  | bad => exact h
theorem EPost.up {v : Option D} (h : EPost X W m F H σ (Res.up v) Q) : VPost X.K m F H v Q := by
  cases v with
  | some d => exact h
  | none => exact h
/-- the first of two steps -/
theorem EPost.bindE {f : D → Res D} {R : VK} (s : Same F H) (h : EPost X W m F H σ (r.bind f) Q) (k : ∀ a F' H' x, r = .ok a → Ext F H F' H' → RM m1 X.K F' H H' x a → EPost X W m F' H' σ (f a) Q → R x H') : EPost X W m1 F H σ r R := by
  cases r with
  | ok a => exact fun F' H' x e rm => k a F' H' x rfl e rm (EPost.ext e h)
  | exn c => exact h
  | bad => exact h
theorem EPost.bindA {ra : Res (List D)} {f : List D → Res D} {R : List V → Hp → Prop} (h : EPost X W m F H σ (ra.bind f) Q) (k : ∀ a F' H' xs, ra = .ok a → Ext F H F' H' → RpA X.K F' xs a → EPost X W m F' H' σ (f a) Q → R xs H') : APost X W F H σ ra R := by
  cases ra with
  | ok a => exact fun F' H' x e rm => k a F' H' x rfl e rm (EPost.ext e h)
  | exn c => exact h
  | bad => exact h
theorem EPost.bindT {rb : Res Bool} {f : Bool → Res D} {R : Bool → Hp → Prop} (h : EPost X W m F H σ (rb.bind f) Q) (k : ∀ b F' H', rb = .ok b → Ext F H F' H' → EPost X W m F' H' σ (f b) Q → R b H') : TPost X W F H σ rb R := by
  cases rb with
  | ok a => exact fun F' H' e => k a F' H' rfl e (EPost.ext e h)
  | exn c => exact h
  | bad => exact h
theorem TPost.bindE {f : D → Res Bool} {Q : Bool → Hp → Prop} {R : VK} (h : TPost X W F H σ (r.bind f) Q) (k : ∀ a F' H' x, r = .ok a → Ext F H F' H' → RM m1 X.K F' H H' x a → TPost X W F' H' σ (f a) Q → R x H') : EPost X W m1 F H σ r R := by
  cases r with
  | ok a => exact fun F' H' x e rm => k a F' H' x rfl e rm (TPost.ext e h)
  | exn c => exact h
  | bad => exact h
theorem TPost.bindT {rb : Res Bool} {f : Bool → Res Bool} {Q R : Bool → Hp → Prop} (h : TPost X W F H σ (rb.bind f) Q) (k : ∀ b F' H', rb = .ok b → Ext F H F' H' → TPost X W F' H' σ (f b) Q → R b H') : TPost X W F H σ rb R := by
  cases rb with
  | ok a => exact fun F' H' e => k a F' H' rfl e (TPost.ext e h)
  | exn c => exact h
  | bad => exact h
theorem APost.bindE {f : D → Res (List D)} {Q : List V → Hp → Prop} {R : VK} (h : APost X W F H σ (r.bind f) Q) (k : ∀ a F' H' x, r = .ok a → Ext F H F' H' → RM m1 X.K F' H H' x a → APost X W F' H' σ (f a) Q → R x H') : EPost X W m1 F H σ r R := by
  cases r with
  | ok a => exact fun F' H' x e rm => k a F' H' x rfl e rm (APost.ext e h)
  | exn c => exact h
  | bad => exact h
theorem APost.bindA {ra : Res (List D)} {f : List D → Res (List D)} {Q R : List V → Hp → Prop} (h : APost X W F H σ (ra.bind f) Q) (k : ∀ a F' H' xs, ra = .ok a → Ext F H F' H' → RpA X.K F' xs a → APost X W F' H' σ (f a) Q → R xs H') : APost X W F H σ ra R := by
  cases ra with
  | ok a => exact fun F' H' x e rm => k a F' H' x rfl e rm (APost.ext e h)
  | exn c => exact h
  | bad => exact h
end

section
variable {X : Cx} {W : WX} {O : List Nat} {m m1 m2 : Mode} {e a b : Expr} {d da db : DE}
theorem EJ.fr_sh (h : EJ X W O .fr e d) : EJ X W O .sh e d := by
  obtain ⟨t, p, q⟩ := h
  refine ⟨_, pe_lk p, fun F0 H0 F H σ ρ Q s po => q F0 H0 F H σ ρ _ s ?_⟩
  cases hd : d ρ with
  | ok v =>
    rw [hd] at po
    intro F' H' x e rm
    exact LkP.mono (fun H2 ⟨F2, e2, r2⟩ => po F2 H2 x e2 r2) (RM.share e rm)
  | exn c => rw [hd] at po; exact po
  | bad => rw [hd] at po; exact po
theorem EJ.to_bo (h : EJ X W O m e d) : EJ X W O .bo e d := by
  obtain ⟨t, p, q⟩ := h
  refine ⟨t, p, fun F0 H0 F H σ ρ Q s po => q F0 H0 F H σ ρ Q s ?_⟩
  cases hd : d ρ with
  | ok v => rw [hd] at po; exact fun F' H' x e rm => po F' H' x e (RM.bo_of m rm)
  | exn c => rw [hd] at po; exact po
  | bad => rw [hd] at po; exact po
/-- a shared value that is no list and no dict is as good as fresh: used for results by values -/
theorem RM.of_sh {K : Fg} {F H0 H : Hp} {x : V} {d : D} (h : Rp K F x d) (hm : isMut d = false) : RM m K F H0 H x d := by
  cases m with
  | sh => exact h
  | bo => exact .inl h
  | fr => exact .inl ⟨hm, h⟩

def eVar (i : Nat) : DE := fun ρ => match ρ[i]? with
  | some (some v) => .ok v
  | _ => .bad
def eC (v : D) : DE := fun _ => .ok v
theorem ej_var {i : Nat} {x : Str} {pos : Pos} (hi : i ∉ O) (h : PE X (.Name x pos) (tVar i)) : EJ X W O .sh (.Name x pos) (eVar i) := by
  refine ⟨_, h, fun F0 H0 F H σ ρ Q s po => ?_⟩
  unfold eVar at po
  split at po
  · rename_i v hv
    obtain ⟨y, h1, h2⟩ := s.sh i v hi hv
    exact ⟨y, h1, po F H y (.refl s.sub) h2⟩
  · exact po.elim
theorem ej_own {i : Nat} {x : Str} {pos : Pos} (h : PE X (.Name x pos) (tVar i)) : EJ X W O .bo (.Name x pos) (eVar i) := by
  refine ⟨_, h, fun F0 H0 F H σ ρ Q s po => ?_⟩
  unfold eVar at po
  split at po
  · rename_i v hv
    by_cases hi : i ∈ O
    · obtain ⟨a, o, h1, h2, h3, _, _⟩ := s.ow i v hi hv
      exact ⟨_, h1, po F H _ (.refl s.sub) (.inr ⟨a, o, rfl, h2, h3⟩)⟩
    · obtain ⟨y, h1, h2⟩ := s.sh i v hi hv
      exact ⟨y, h1, po F H y (.refl s.sub) (.inl h2)⟩
  · exact po.elim
/-- a constant, a module's constant -/
theorem ej_c {v : V} {c : D} (h : PE X e (tC v)) (r : ∀ F, Rp X.K F v c) : EJ X W O .sh e (eC c) :=
  ⟨_, h, fun F0 H0 F H σ ρ Q s po => po F H v (.refl s.sub) (r F)⟩
theorem ej_int {i : Int} {j : Nat} {pos : Pos} : EJ X W O .sh (.Constant (.int i) j pos) (eC (.int i)) := ej_c pe_int fun _ => .int i
theorem ej_bl {i : Bool} {j : Nat} {pos : Pos} : EJ X W O .sh (.Constant (.bool i) j pos) (eC (.bool i)) := ej_c pe_bl fun _ => .bl i
theorem ej_non {j : Nat} {pos : Pos} : EJ X W O .sh (.Constant .none j pos) (eC .none) := ej_c pe_non fun _ => .non
theorem ej_str {x : Str} {j : Nat} {pos : Pos} (h : (PyData.strOk x && decide (x.length ≤ sizeLine)) = true) : EJ X W O .sh (.Constant (.str x) j pos) (eC (.str x)) := by
  have h' := Bool.and_eq_true_iff.mp h
  exact ej_c pe_str fun _ => .str x h'.1 (of_decide_eq_true h'.2)

def eUn (f : D → Option D) (da : DE) : DE := fun ρ => (da ρ).bind fun x => Res.up (f x)
def eBin (f : D → D → Option D) (da db : DE) : DE := fun ρ => (da ρ).bind fun x => (db ρ).bind fun y => Res.up (f x y)
theorem ej_un {f : D → Option D} {r : V → Hp → VK → Prop} (ha : EJ X W O m1 a da) (ru : ∀ t, PE X a t → PE X e (fun σ H Q => t σ H fun x H1 => r x H1 Q))
    (hv : ∀ F Hs H x v Q, Same F H → RM m1 X.K F Hs H x v → VPost X.K m F H (f v) Q → r x H Q) : EJ X W O m e (eUn f da) := by
  obtain ⟨t, p, q⟩ := ha
  refine ⟨_, ru t p, fun F0 H0 F H σ ρ Q s po => q F0 H0 F H σ ρ _ s (EPost.bindE (m1 := m1) s.sub po fun v F' H' x _ e rm po' => ?_)⟩
  exact hv F' H H' x v Q e.fh rm po'.up
theorem ej_bin {f : D → D → Option D} {r : R2} (ha : EJ X W O m1 a da) (hb : EJ X W O m2 b db) (ru : ∀ t u, PE X a t → PE X b u → PE X e (tOp r t u))
    (hv : ∀ F Hs Hs' H x v y w Q, Same F H → RM m1 X.K F Hs H x v → RM m2 X.K F Hs' H y w → VPost X.K m F H (f v w) Q → r x y H Q) : EJ X W O m e (eBin f da db) := by
  obtain ⟨t, p, q⟩ := ha
  obtain ⟨u, p2, q2⟩ := hb
  refine ⟨_, ru t u p p2, fun F0 H0 F H σ ρ Q s po => q F0 H0 F H σ ρ _ s (EPost.bindE (m1 := m1) s.sub po fun v F' H' x _ e rm po' => ?_)⟩
  refine q2 F0 H0 F' H' σ ρ _ (s.ext e) (EPost.bindE (m1 := m2) e.fh po' fun w F2 H2 y _ e2 rm2 po2 => ?_)
  exact hv F2 H H' H2 x v y w Q e2.fh (rm.ext e2) rm2 po2.up
/-- two readings of one expression -/
theorem pe_or2 {t u : TE} (h : PE X e t) (h' : PE X e u) : PE X e (fun σ H Q => t σ H Q ∨ u σ H Q) := by
  refine ⟨fun pins s σ H Q I hw => ?_⟩
  rcases hw with hw | hw
  · exact h.run pins s σ H Q I hw
  · exact h'.run pins s σ H Q I hw
end
end PL

end
section
namespace PL
open PySem PySem.Spec PyProof.Rows L2

section
variable {K : Fg} {F Hs H : Hp} {x : V}
theorem bo_int {i : Int} (h : RM .bo K F Hs H x (.int i)) : x = .int i := by
  rcases h with h | ⟨a, o, _, _, h⟩
  · cases h; rfl
  · cases h
theorem bo_bool {i : Bool} (h : RM .bo K F Hs H x (.bool i)) : x = .bl i := by
  rcases h with h | ⟨a, o, _, _, h⟩
  · cases h; rfl
  · cases h
theorem bo_none (h : RM .bo K F Hs H x .none) : x = .non := by
  rcases h with h | ⟨a, o, _, _, h⟩
  · cases h; rfl
  · cases h
theorem bo_str {z : Str} (h : RM .bo K F Hs H x (.str z)) : x = .str z ∧ PyData.strOk z = true ∧ z.length ≤ sizeLine := by
  rcases h with h | ⟨a, o, _, _, h⟩
  · cases h with
    | str _ h1 h2 => exact ⟨rfl, h1, h2⟩
  · cases h
theorem bo_list {ds : List D} (s : Same F H) (h : RM .bo K F Hs H x (.list ds)) : ∃ a xs, x = .ref a ∧ SqL K H a xs ∧ xs.length ≤ sizeLine ∧ RpA K F xs ds := by
  rcases h with h | ⟨a, o, e, h1, h⟩
  · cases h with
    | lst h1 h2 h3 => exact ⟨_, _, rfl, s.seq h1, h2, h3⟩
  · cases h with
    | lst h2 h3 => exact ⟨_, _, e, SqL.of h1, h2, h3⟩
theorem bo_tup {ds : List D} (s : Same F H) (h : RM .bo K F Hs H x (.tuple ds)) : ∃ a xs, x = .ref a ∧ SqT K H a xs ∧ SqT K F a xs ∧ xs.length ≤ sizeLine ∧ RpA K F xs ds := by
  rcases h with h | ⟨a, o, e, h1, h⟩
  · cases h with
    | tup h1 h2 h3 => exact ⟨_, _, rfl, seqT s h1, h1, h2, h3⟩
  · cases h
theorem bo_dict {ps : List (D × D)} (s : Same F H) (h : RM .bo K F Hs H x (.dict ps)) : ∃ a kvs, x = .ref a ∧ Rd H a (.dK kvs) ∧ kvs.length ≤ sizeLine ∧ RpD K F kvs ps := by
  rcases h with h | ⟨a, o, e, h1, h⟩
  · cases h with
    | dic h1 h2 h3 => exact ⟨_, _, rfl, .inr ⟨_, s _ _ h1⟩, h2, h3⟩
  · cases h with
    | dic h2 h3 => exact ⟨_, _, e, .inl h1, h2, h3⟩
theorem rpa_ints : ∀ {ns : List Int} {xs : List V}, RpA K F xs (ns.map PyData.int) → xs = ns.map V.int
  | [], _, .nil => rfl
  | _ :: _, _, .cons h t => by
    cases h
    rw [rpa_ints t]; rfl
theorem ints_rpa : ∀ (ns : List Int), RpA K F (ns.map V.int) (ns.map PyData.int)
  | [] => .nil
  | n :: ns => .cons (.int n) (ints_rpa ns)
theorem rpa_bools : ∀ {bs : List Bool} {xs : List V}, RpA K F xs (bs.map PyData.bool) → xs = bs.map V.bl
  | [], _, .nil => rfl
  | _ :: _, _, .cons h t => by
    cases h
    rw [rpa_bools t]; rfl
theorem rpa_strs : ∀ {bs : List Str} {xs : List V}, RpA K F xs (bs.map PyData.str) → xs = bs.map V.str ∧ ∀ z ∈ bs, PyData.strOk z = true ∧ z.length ≤ sizeLine
  | [], _, .nil => ⟨rfl, by simp⟩
  | _ :: _, _, .cons h t => by
    cases h with
    | str _ h1 h2 =>
      obtain ⟨e, q⟩ := rpa_strs t
      refine ⟨by rw [e]; rfl, fun z hz => ?_⟩
      rcases List.mem_cons.mp hz with rfl | hz
      · exact ⟨h1, h2⟩
      · exact q z hz
theorem strs_rpa : ∀ (bs : List Str), (∀ z ∈ bs, PyData.strOk z = true ∧ z.length ≤ sizeLine) → RpA K F (bs.map V.str) (bs.map PyData.str)
  | [], _ => .nil
  | n :: ns, h => .cons (.str n (h n (by simp)).1 (h n (by simp)).2) (strs_rpa ns fun z hz => h z (by simp [hz]))
end

/-- all ints -/
def allInt : List D → Option (List Int)
  | [] => some []
  | .int i :: r => (allInt r).map (i :: ·)
  | _ => none
theorem allInt_some : ∀ {ds : List D} {ns : List Int}, allInt ds = some ns → ds = ns.map PyData.int
  | [], ns, h => by cases h; rfl
  | .int i :: r, ns, h => by
    unfold allInt at h
    cases q : allInt r with
    | none => rw [q] at h; cases h
    | some ms => rw [q] at h; cases h; rw [allInt_some q]; rfl
  | .none :: r, ns, h => by cases h
  | .bool _ :: r, ns, h => by cases h
  | .str _ :: r, ns, h => by cases h
  | .list _ :: r, ns, h => by cases h
  | .tuple _ :: r, ns, h => by cases h
  | .dict _ :: r, ns, h => by cases h
@[simp] theorem allInt_map : ∀ (ns : List Int), allInt (ns.map PyData.int) = some ns
  | [] => rfl
  | n :: ns => by simp [allInt, allInt_map ns]
def allBool : List D → Option (List Bool)
  | [] => some []
  | .bool i :: r => (allBool r).map (i :: ·)
  | _ => none
theorem allBool_some : ∀ {ds : List D} {ns : List Bool}, allBool ds = some ns → ds = ns.map PyData.bool
  | [], ns, h => by cases h; rfl
  | .bool i :: r, ns, h => by
    unfold allBool at h
    cases q : allBool r with
    | none => rw [q] at h; cases h
    | some ms => rw [q] at h; cases h; rw [allBool_some q]; rfl
  | .none :: r, ns, h => by cases h
  | .int _ :: r, ns, h => by cases h
  | .str _ :: r, ns, h => by cases h
  | .list _ :: r, ns, h => by cases h
  | .tuple _ :: r, ns, h => by cases h
  | .dict _ :: r, ns, h => by cases h
@[simp] theorem allBool_map : ∀ (ns : List Bool), allBool (ns.map PyData.bool) = some ns
  | [] => rfl
  | n :: ns => by simp [allBool, allBool_map ns]
def allStr : List D → Option (List Str)
  | [] => some []
  | .str i :: r => (allStr r).map (i :: ·)
  | _ => none
theorem allStr_some : ∀ {ds : List D} {ns : List Str}, allStr ds = some ns → ds = ns.map PyData.str
  | [], ns, h => by cases h; rfl
  | .str i :: r, ns, h => by
    unfold allStr at h
    cases q : allStr r with
    | none => rw [q] at h; cases h
    | some ms => rw [q] at h; cases h; rw [allStr_some q]; rfl
  | .none :: r, ns, h => by cases h
  | .int _ :: r, ns, h => by cases h
  | .bool _ :: r, ns, h => by cases h
  | .list _ :: r, ns, h => by cases h
  | .tuple _ :: r, ns, h => by cases h
  | .dict _ :: r, ns, h => by cases h
@[simp] theorem allStr_map : ∀ (ns : List Str), allStr (ns.map PyData.str) = some ns
  | [] => rfl
  | n :: ns => by simp [allStr, allStr_map ns]

def mulOk (i j : Int) : Bool := decide (i.natAbs.log2 + j.natAbs.log2 < 1000000)
def vAdd : D → D → Option D
  | .int i, .int j => some (.int (i + j))
  | .str a, .str b => if a.length + b.length ≤ sizeLine then some (.str (a ++ b)) else none
  | .list a, .list b => if a.length + b.length ≤ sizeLine then some (.list (a ++ b)) else none
  | .tuple a, .tuple b => if a.length + b.length ≤ sizeLine then some (.tuple (a ++ b)) else none
  | _, _ => none
def vSub : D → D → Option D
  | .int i, .int j => some (.int (i - j))
  | _, _ => none
def vMul : D → D → Option D
  | .int i, .int j => if mulOk i j = true then some (.int (i * j)) else none
  | _, _ => none
def vDiv : D → D → Option D
  | .int i, .int j => if 0 < j then (if j.natAbs.log2 < 9000 then some (.int (i / j)) else none) else if j < 0 ∧ j.natAbs < 1073741824 then some (.int (i.fdiv j)) else none
  | _, _ => none
def vMod : D → D → Option D
  | .int i, .int j => if 0 < j then some (.int (i % j)) else if j < 0 then some (.int (i.fmod j)) else none
  | _, _ => none
def vPow : D → D → Option D
  | .int i, .int j => if 0 ≤ j ∧ j ≤ 1000000 ∧ i.natAbs < 2 ^ 64 then some (.int (i ^ j.toNat)) else none
  | _, _ => none
def vNeg : D → Option D
  | .int i => some (.int (-i))
  | _ => none

theorem strOk_append {a b : Str} (h : PyData.strOk a = true) (h' : PyData.strOk b = true) : PyData.strOk (a ++ b) = true := by
  unfold PyData.strOk at *
  have e : (a ++ b).cps = a.cps ++ b.cps := rfl
  rw [e, Array.all_append, h, h']; rfl
theorem str_len_append (a b : Str) : (a ++ b).length = a.length + b.length := by
  show (a.cps ++ b.cps).size = _
  rw [Array.size_append]; rfl

section
variable {X : Cx} {W : WX} {O : List Nat} {m m1 m2 : Mode} {e a b : Expr} {d da db : DE} {pos : Pos}
/-- list + list, whatever the lists are -/
def rCatL (K : Fg) : R2 := fun x y H Q => ∃ l b xs zs, x = .ref l ∧ y = .ref b ∧ SqL K H l xs ∧ SqL K H b zs ∧ xs.length + zs.length ≤ sizeLine ∧ ∀ p, H p = none → Q (.ref p) (upd H p (.lst (xs ++ zs)))
theorem op_catL : OpR X (binaryOp .Add) (rCatL X.K) := by
  intro pins s σ H x y v u Q I rx ry h
  obtain ⟨l, b, xs, zs, rfl, rfl, hH, hB, hz, q⟩ := h
  cases rx
  cases ry
  obtain ⟨its, r, p1, _⟩ := I.list hH
  obtain ⟨its2, r2, p2, _⟩ := I.list hB
  obtain ⟨⟨cls, dd, data, sl⟩, ho, hc, n, hd⟩ := id p1.isList
  obtain ⟨⟨cls2, dd2, data2, sl2⟩, ho2, hc2, n2, hd2⟩ := id p2.isList
  simp only at hc hd hc2 hd2
  subst hc hd hc2 hd2
  have e : its.toArray ++ its2.toArray = (its ++ its2).toArray := by simp
  have l1 := r.length
  have l2 := r2.length
  refine PySem.concat_meets ⟨_, ho, rfl⟩ ⟨_, ho2, rfl⟩ PySem.noFill_list_add PySem.seq_list_add PySem.F.slot_list_add PySem.F.entry_list_add (PySem.F.args_list_add_2 _ _) (list_addW l b its.toArray its2.toArray n n2 dd dd2 sl sl2 (by rw [List.size_toArray, List.size_toArray]; omega)) ⟨ho, ho2, ?_⟩
  rw [e]
  exact ⟨.ref _, _, I.lnew (t' := s.toks) (r.append r2) (by rw [List.length_append]; omega), rfl, q _ I.fresh⟩
theorem ej_add (ha : EJ X W O .bo a da) (hb : EJ X W O .bo b db) : EJ X W O .fr (.BinOp a .Add b pos) (eBin vAdd da db) := by
  refine ej_bin (r := fun x y H Q => rI0 (fun i j => .int (i + j)) x y H Q ∨ (∃ i j, x = .str i ∧ y = .str j ∧ i.length + j.length ≤ sizeLine ∧ Q (.str (i ++ j)) H) ∨ rCatL X.K x y H Q ∨ rCatA X.K x y H Q) ha hb
    (fun t u h1 h2 => pe_op (op_add.or (op_add_str.or (op_catL.or op_catA))) h1 h2) fun F Hs Hs' H x v y w Q s r1 r2 po => ?_
  unfold vAdd at po
  split at po
  · cases bo_int r1; cases bo_int r2
    exact .inl ⟨_, _, rfl, rfl, po F H _ (.refl s) (RM.of_sh (.int _) rfl)⟩
  · obtain ⟨rfl, o1, l1⟩ := bo_str r1
    obtain ⟨rfl, o2, l2⟩ := bo_str r2
    split at po
    · rename_i hl
      exact .inr (.inl ⟨_, _, rfl, rfl, hl, po F H _ (.refl s) (RM.of_sh (.str _ (strOk_append o1 o2) (by rw [str_len_append]; exact hl)) rfl)⟩)
    · exact po.elim
  · obtain ⟨l, xs, rfl, h1, h2, h3⟩ := bo_list s r1
    obtain ⟨l', ys, rfl, h1', h2', h3'⟩ := bo_list s r2
    split at po
    · rename_i hl
      have hl' : xs.length + ys.length ≤ sizeLine := by rw [h3.length, h3'.length]; exact hl
      exact .inr (.inr (.inl ⟨_, _, _, _, rfl, rfl, h1, h1', hl', fun p hp => po F _ _ (.new s hp) (.inr ⟨p, _, rfl, upd_same, .lst (by rw [List.length_append]; exact hl') (h3.append h3'), free_of s hp, hp⟩)⟩))
    · exact po.elim
  · obtain ⟨l, xs, rfl, h1, g1, h2, h3⟩ := bo_tup s r1
    obtain ⟨l', ys, rfl, h1', g1', h2', h3'⟩ := bo_tup s r2
    split at po
    · rename_i hl
      have hl' : xs.length + ys.length ≤ sizeLine := by rw [h3.length, h3'.length]; exact hl
      refine .inr (.inr (.inr ⟨_, _, _, _, rfl, rfl, h1, h1', hl', fun e => ?_, fun ne e => ?_, fun ne ne' p hp => po (upd F p (.tup (xs ++ ys))) _ _ (.newF s hp) (RM.of_sh (.tup (SqT.of upd_same) (by rw [List.length_append]; exact hl') ((h3.append h3').mono (same_upd' (free_of s hp)))) rfl)⟩))
      · subst e
        cases h3
        exact po F H _ (.refl s) (RM.of_sh (.tup g1' h2' h3') rfl)
      · subst e
        cases h3'
        rw [List.append_nil] at po
        exact po F H _ (.refl s) (RM.of_sh (.tup g1 h2 h3) rfl)
    · exact po.elim
  · exact po.elim
theorem ej_sub (ha : EJ X W O .bo a da) (hb : EJ X W O .bo b db) : EJ X W O .sh (.BinOp a .Sub b pos) (eBin vSub da db) := by
  refine ej_bin ha hb (fun t u h1 h2 => pe_op op_sub h1 h2) fun F Hs Hs' H x v y w Q s r1 r2 po => ?_
  unfold vSub at po
  split at po
  · cases bo_int r1; cases bo_int r2
    exact ⟨_, _, rfl, rfl, po F H _ (.refl s) (.int _)⟩
  · exact po.elim
theorem ej_mul (ha : EJ X W O .bo a da) (hb : EJ X W O .bo b db) : EJ X W O .sh (.BinOp a .Mult b pos) (eBin vMul da db) := by
  refine ej_bin ha hb (fun t u h1 h2 => pe_op op_mulW h1 h2) fun F Hs Hs' H x v y w Q s r1 r2 po => ?_
  unfold vMul at po
  split at po
  · cases bo_int r1; cases bo_int r2
    split at po
    · rename_i hm
      exact ⟨_, _, rfl, rfl, (show CMulW _ _ from of_decide_eq_true (p := _ < 1000000) hm), po F H _ (.refl s) (.int _)⟩
    · exact po.elim
  · exact po.elim
theorem ej_div (ha : EJ X W O .bo a da) (hb : EJ X W O .bo b db) : EJ X W O .sh (.BinOp a .FloorDiv b pos) (eBin vDiv da db) := by
  refine ej_bin ha hb (fun t u h1 h2 => pe_op (op_fdivW.or op_fdivN) h1 h2) fun F Hs Hs' H x v y w Q s r1 r2 po => ?_
  unfold vDiv at po
  split at po
  · cases bo_int r1; cases bo_int r2
    split at po
    · rename_i h0
      split at po
      · rename_i h1
        exact .inl ⟨_, _, rfl, rfl, ⟨h0, h1⟩, po F H _ (.refl s) (.int _)⟩
      · exact po.elim
    · split at po
      · rename_i h1
        exact .inr ⟨_, _, rfl, rfl, ⟨by omega, h1.2⟩, po F H _ (.refl s) (.int _)⟩
      · exact po.elim
  · exact po.elim
theorem ej_mod (ha : EJ X W O .bo a da) (hb : EJ X W O .bo b db) : EJ X W O .sh (.BinOp a .Mod b pos) (eBin vMod da db) := by
  refine ej_bin ha hb (fun t u h1 h2 => pe_op (op_mod.or op_modN) h1 h2) fun F Hs Hs' H x v y w Q s r1 r2 po => ?_
  unfold vMod at po
  split at po
  · cases bo_int r1; cases bo_int r2
    split at po
    · rename_i h0
      exact .inl ⟨_, _, rfl, rfl, h0, po F H _ (.refl s) (.int _)⟩
    · split at po
      · rename_i h1
        exact .inr ⟨_, _, rfl, rfl, by omega, po F H _ (.refl s) (.int _)⟩
      · exact po.elim
  · exact po.elim
theorem ej_pow (ha : EJ X W O .bo a da) (hb : EJ X W O .bo b db) : EJ X W O .sh (.BinOp a .Pow b pos) (eBin vPow da db) := by
  refine ej_bin ha hb (fun t u h1 h2 => pe_op op_pow h1 h2) fun F Hs Hs' H x v y w Q s r1 r2 po => ?_
  unfold vPow at po
  split at po
  · cases bo_int r1; cases bo_int r2
    split at po
    · rename_i h0
      exact ⟨_, _, rfl, rfl, h0, po F H _ (.refl s) (.int _)⟩
    · exact po.elim
  · exact po.elim
theorem ej_neg (ha : EJ X W O .bo a da) : EJ X W O .sh (.UnaryOp .USub a pos) (eUn vNeg da) := by
  refine ej_un ha (fun t h1 => pe_un un_neg h1) fun F Hs H x v Q s r1 po => ?_
  unfold vNeg at po
  split at po
  · cases bo_int r1
    exact ⟨_, rfl, po F H _ (.refl s) (.int _)⟩
  · exact po.elim
end
end PL

end
section
namespace PL
open PySem PySem.Spec PyProof.Rows L2

mutual
def noDict : D → Bool
  | .dict _ => false
  | .list xs => noDicts xs
  | .tuple xs => noDicts xs
  | _ => true
def noDicts : List D → Bool
  | [] => true
  | x :: xs => noDict x && noDicts xs
end
def fine (d : D) : Bool := noDict d && decide (d.depth ≤ 64)
section
variable {K : Fg} {F Hs H : Hp}
mutual
theorem Rp.lay : ∀ {d : D} {x : V}, Rp K F x d → noDict d = true → d.canLay0 = true
  | _, _, .non, _ => by simp [PyData.canLay0]
  | _, _, .bl b, _ => by simp [PyData.canLay0]
  | _, _, .int i, _ => by simp [PyData.canLay0]
  | _, _, .str x h _, _ => by simpa [PyData.canLay0] using h
  | _, _, .lst h l r, c => by
    simp only [PyData.canLay0]
    exact RpA.lay r (by simpa [noDict] using c)
  | _, _, .tup h l r, c => by
    simp only [PyData.canLay0]
    exact RpA.lay r (by simpa [noDict] using c)
  | _, _, .dic h l r, c => by simp [noDict] at c
theorem RpA.lay : ∀ {ds : List D} {xs : List V}, RpA K F xs ds → noDicts ds = true → PyData.canLayAll0 ds = true
  | _, _, .nil, _ => by simp [PyData.canLayAll0]
  | _, _, .cons h t, c => by
    simp only [noDicts, Bool.and_eq_true] at c
    simp only [PyData.canLayAll0, Bool.and_eq_true]
    exact ⟨Rp.lay h c.1, RpA.lay t c.2⟩
end
theorem bo_lay {d : D} {x : V} (h : RM .bo K F Hs H x d) (c : noDict d = true) : d.canLay0 = true := by
  rcases h with h | ⟨a, o, _, _, h⟩
  · exact h.lay c
  · cases h with
    | lst _ r =>
      simp only [PyData.canLay0]
      exact r.lay (by simpa [noDict] using c)
    | dic _ _ => simp [noDict] at c
theorem bo_dp {d : D} {x : V} (s : Same F H) (h : RM .bo K F Hs H x d) (c : d.canLay0 = true) : Dp K H x d := by
  rcases h with h | ⟨a, o, e, h1, h⟩
  · exact (h.mono s).dp c
  · cases h with
    | lst _ r =>
      subst e
      exact .lst (SqL.of h1) ((r.mono s).dp (by simpa [PyData.canLay0] using c))
    | dic _ _ => simp [PyData.canLay0] at c
theorem bo_shaped {d : D} {x : V} (s : Same F H) (h : RM .bo K F Hs H x d) (c : fine d = true) : Dp K H x d ∧ SeqAt.shaped d = true := by
  unfold fine at c
  have c' := Bool.and_eq_true_iff.mp c
  have l := bo_lay h c'.1
  refine ⟨bo_dp s h l, ?_⟩
  unfold SeqAt.shaped
  rw [l]; exact c'.2
end

def vEq (v w : D) : Option D := if fine v = true ∧ fine w = true then some (.bool (PyData.eqv v w)) else none
def vNe (v w : D) : Option D := if fine v = true ∧ fine w = true then some (.bool (!PyData.eqv v w)) else none
def ltS (i j : Str) : Bool := decide (i.cps.toList < j.cps.toList)
def vLt : D → D → Option D
  | .int i, .int j => some (.bool (decide (i < j)))
  | .str i, .str j => some (.bool (ltS i j))
  | .tuple a, .tuple b => match allInt a, allInt b with
    | some ns, some ms => some (.bool (HT.lexLt ns ms))
    | _, _ => none
  | _, _ => none
def vLe : D → D → Option D
  | .int i, .int j => some (.bool (decide (i ≤ j)))
  | .str i, .str j => some (.bool (!ltS j i))
  | _, _ => none
def vGt : D → D → Option D
  | .int i, .int j => some (.bool (decide (j < i)))
  | .str i, .str j => some (.bool (ltS j i))
  | _, _ => none
def vGe : D → D → Option D
  | .int i, .int j => some (.bool (decide (j ≤ i)))
  | .str i, .str j => some (.bool (!ltS i j))
  | _, _ => none
def strIn (x z : Str) : Bool := match x.cps.toList with
  | [c] => decide (c ∈ z.cps.toList)
  | _ => !(Builtin.Str.occurrences z x 0 z.length 1).isEmpty
def inD (x : D) (ds : List D) : Bool := ds.any fun z => PyData.eqv z x
/-- a key of a dict -/
def keyD : D → Option Key
  | .int i => some (.inl i)
  | .str z => some (.inr z)
  | _ => none
def lookD (ps : List (D × D)) (k : D) : Option D := (ps.find? fun p => PyData.eqv p.1 k).map (·.2)
def keysOk (ps : List (D × D)) : Bool := ps.all fun p => (keyD p.1).isSome
def vIn : D → D → Option D
  | .str x, .str z => some (.bool (strIn x z))
  | x, .list ds => if fine x = true ∧ fine (.list ds) = true then some (.bool (inD x ds)) else none
  | x, .tuple ds => if fine x = true ∧ fine (.tuple ds) = true then some (.bool (inD x ds)) else none
  | _, _ => none
def vNotIn (x y : D) : Option D := (vIn x y).bind fun b => match b with
  | .bool b => some (.bool (!b))
  | _ => none
def isNoneD : D → Bool
  | .none => true
  | _ => false
def vIsN : D → D → Option D
  | x, .none => some (.bool (isNoneD x))
  | _, _ => none
def vNotN : D → D → Option D
  | x, .none => some (.bool (!isNoneD x))
  | _, _ => none

section
variable {X : Cx} {W : WX} {O : List Nat} {k : Nat} {m m1 m2 : Mode} {e a b : Expr} {d da db : DE} {pos : Pos}
theorem Here.u64 (h : Here X W k) : X.A.units + 64 < cLine := h.hr.units
theorem Here.u65 (h : Here X W k) : X.A.units + 65 < cLine := by have := h.hr.un; omega
theorem Here.u1 (h : Here X W k) : X.A.units + 1 < cLine := by have := h.hr.un; omega
theorem Here.u0 (h : Here X W k) : X.A.units < cLine := by have := h.hr.un; omega
/-- a comparison by a rule -/
def CmpOk (X : Cx) (op : CmpOp) (b : Expr) (f : D → D → Option D) : Prop := behindInMarks op b = false ∧
  ∃ r : R2, OpR X (compareOp op) r ∧ ∀ F Hs Hs' H x v y w Q, Same F H → RM .bo X.K F Hs H x v → RM .bo X.K F Hs' H y w → VPost X.K .sh F H (f v w) Q → r x y H Q
def asB : D → Option Bool
  | .bool b => some b
  | _ => none
def tBin (f : D → D → Option D) (da db : DE) : DT := fun ρ => (eBin f da db ρ).bind fun v => Res.up (asB v)
theorem ej_cmp {op : CmpOp} {f : D → D → Option D} (c : CmpOk X op b f) (ha : EJ X W O .bo a da) (hb : EJ X W O .bo b db) : EJ X W O .sh (.Compare a [op] [b] pos) (eBin f da db) := by
  obtain ⟨hm, r, ho, hv⟩ := c
  exact ej_bin ha hb (fun t u h1 h2 => pe_cmpR ho h1 h2 hm) hv
theorem TPost.up {F H : Hp} {σ : L2.St} {v : Option Bool} {Q : Bool → Hp → Prop} (h : TPost X W F H σ (Res.up v) Q) : ∃ b, v = some b ∧ ∀ F' H', Ext F H F' H' → Q b H' := by
  cases v with
  | some b => exact ⟨b, rfl, h⟩
  | none => exact h.elim
theorem tj_cmp {op : CmpOp} {f : D → D → Option D} (c : CmpOk X op b f) (ha : EJ X W O .bo a da) (hb : EJ X W O .bo b db) : TJ X W O (.Compare a [op] [b] pos) (tBin f da db) := by
  obtain ⟨hm, r, ho, hv⟩ := c
  obtain ⟨t, p, q⟩ := ha
  obtain ⟨u, p2, q2⟩ := hb
  refine ⟨_, pt_cmpR ho p p2 hm, fun F0 H0 F H σ ρ Q s po => ?_⟩
  unfold tBin eBin at po
  have po : TPost X W F H σ ((da ρ).bind fun x => ((db ρ).bind fun y => Res.up (f x y)).bind fun v => Res.up (asB v)) Q := by
    cases e : da ρ <;> rw [e] at po <;> exact po
  refine q F0 H0 F H σ ρ _ s (TPost.bindE (m1 := .bo) po fun v F' H' x _ e rm po' => ?_)
  have po' : TPost X W F' H' σ ((db ρ).bind fun y => (Res.up (f v y)).bind fun v => Res.up (asB v)) Q := by
    cases e : db ρ <;> rw [e] at po' <;> exact po'
  refine q2 F0 H0 F' H' σ ρ _ (s.ext e) (TPost.bindE (m1 := .bo) po' fun w F2 H2 y _ e2 rm2 po2 => ?_)
  refine hv F2 H H' H2 x v y w _ e2.fh (rm.ext e2) rm2 ?_
  cases ef : f v w with
  | none => rw [ef] at po2; exact po2.elim
  | some d =>
    rw [ef] at po2
    obtain ⟨b, hb, qb⟩ := TPost.up po2
    intro F' H' z e3 r3
    cases d with
    | bool c =>
      cases hb
      cases r3
      exact ⟨_, rfl, qb F' H' e3⟩
    | _ => cases hb
/-- a op b op' c -/
def eChain (f f' : D → D → Option D) (da db dc : DE) : DE := fun ρ => (da ρ).bind fun x => (db ρ).bind fun y => (Res.up ((f x y).bind asB)).bind fun k => if k = true then (dc ρ).bind fun z => Res.up (f' y z) else .ok (.bool false)
def tChainD (f f' : D → D → Option D) (da db dc : DE) : DT := fun ρ => (da ρ).bind fun x => (db ρ).bind fun y => (Res.up ((f x y).bind asB)).bind fun k => if k = true then (dc ρ).bind fun z => Res.up ((f' y z).bind asB) else .ok false
theorem ej_chain {op op' : CmpOp} {f f' : D → D → Option D} {c : Expr} {dc : DE} (k1 : CmpOk X op b f) (k2 : CmpOk X op' c f') (ha : EJ X W O .bo a da) (hb : EJ X W O .bo b db) (hc : EJ X W O .bo c dc)
    (h : ∀ (r r' : R2) (t u v : TE), OpR X (compareOp op) r → OpR X (compareOp op') r' → PE X a t → PE X b u → PE X c v → PE X e (tChain r r' t u v)) : EJ X W O .sh e (eChain f f' da db dc) := by
  obtain ⟨hm, r, ho, hv⟩ := k1
  obtain ⟨hm', r', ho', hv'⟩ := k2
  obtain ⟨t, p, q⟩ := ha
  obtain ⟨u, p2, q2⟩ := hb
  obtain ⟨v, p3, q3⟩ := hc
  refine ⟨_, h r r' t u v ho ho' p p2 p3, fun F0 H0 F H σ ρ Q s po => ?_⟩
  refine q F0 H0 F H σ ρ _ s (EPost.bindE (m1 := .bo) s.sub po fun v F' H' x _ e rm po' => ?_)
  refine q2 F0 H0 F' H' σ ρ _ (s.ext e) (EPost.bindE (m1 := .bo) e.fh po' fun w F2 H2 y _ e2 rm2 po2 => ?_)
  refine hv F2 H H' H2 x v y w _ e2.fh (rm.ext e2) rm2 ?_
  cases ef : f v w with
  | none => rw [ef] at po2; exact po2.elim
  | some d =>
    rw [ef] at po2
    intro F3 H3 z e3 r3
    cases d with
    | bool c =>
      cases r3
      refine ⟨_, rfl, ?_⟩
      have po2 : EPost X W .sh F2 H2 σ (if c = true then (dc ρ).bind fun z => Res.up (f' w z) else .ok (.bool false)) Q := po2
      cases c with
      | true =>
        rw [if_pos rfl] at po2 ⊢
        refine q3 F0 H0 F3 H3 σ ρ _ (((s.ext e).ext e2).ext e3) (EPost.bindE (m1 := .bo) e3.fh (EPost.ext e3 po2) fun z F4 H4 y' _ e4 rm4 po4 => ?_)
        exact hv' F4 H' H3 H4 y w y' z _ e4.fh ((rm2.ext e3).ext e4) rm4 po4.up
      | false =>
        rw [if_neg Bool.false_ne_true] at po2 ⊢
        exact po2 F3 H3 _ e3 (.bl _)
    | _ => exact po2.elim
theorem tj_chain {op op' : CmpOp} {f f' : D → D → Option D} {c : Expr} {dc : DE} (k1 : CmpOk X op b f) (k2 : CmpOk X op' c f') (ha : EJ X W O .bo a da) (hb : EJ X W O .bo b db) (hc : EJ X W O .bo c dc)
    (h : ∀ (r r' : R2) (t u v : TE), OpR X (compareOp op) r → OpR X (compareOp op') r' → PE X a t → PE X b u → PE X c v → PT X e (tTest (tChain r r' t u v))) : TJ X W O e (tChainD f f' da db dc) := by
  obtain ⟨hm, r, ho, hv⟩ := k1
  obtain ⟨hm', r', ho', hv'⟩ := k2
  obtain ⟨t, p, q⟩ := ha
  obtain ⟨u, p2, q2⟩ := hb
  obtain ⟨v, p3, q3⟩ := hc
  refine ⟨_, h r r' t u v ho ho' p p2 p3, fun F0 H0 F H σ ρ Q s po => ?_⟩
  refine q F0 H0 F H σ ρ _ s (TPost.bindE (m1 := .bo) po fun v F' H' x _ e rm po' => ?_)
  refine q2 F0 H0 F' H' σ ρ _ (s.ext e) (TPost.bindE (m1 := .bo) po' fun w F2 H2 y _ e2 rm2 po2 => ?_)
  refine hv F2 H H' H2 x v y w _ e2.fh (rm.ext e2) rm2 ?_
  cases ef : f v w with
  | none => rw [ef] at po2; exact po2.elim
  | some d =>
    rw [ef] at po2
    intro F3 H3 z e3 r3
    cases d with
    | bool c =>
      cases r3
      refine ⟨_, rfl, ?_⟩
      have po2 : TPost X W F2 H2 σ (if c = true then (dc ρ).bind fun z => Res.up ((f' w z).bind asB) else .ok false) Q := po2
      cases c with
      | true =>
        rw [if_pos rfl] at po2 ⊢
        refine q3 F0 H0 F3 H3 σ ρ _ (((s.ext e).ext e2).ext e3) (TPost.bindE (m1 := .bo) (TPost.ext e3 po2) fun z F4 H4 y' _ e4 rm4 po4 => ?_)
        refine hv' F4 H' H3 H4 y w y' z _ e4.fh ((rm2.ext e3).ext e4) rm4 ?_
        cases ef' : f' w z with
        | none => rw [ef'] at po4; exact po4.elim
        | some d' =>
          rw [ef'] at po4
          obtain ⟨b, hb, qb⟩ := TPost.up po4
          intro F' H' z e3 r3
          cases d' with
          | bool c =>
            cases hb
            cases r3
            exact ⟨_, rfl, qb F' H' e3⟩
          | _ => cases hb
      | false =>
        rw [if_neg Bool.false_ne_true] at po2 ⊢
        exact ⟨_, rfl, po2 F3 H3 e3⟩
    | _ => exact po2.elim

theorem eq_ok (hh : Here X W k) : CmpOk X .Eq b vEq := by
  refine ⟨nomark _, _, op_eqD hh.u64, fun F Hs Hs' H x v y w Q s r1 r2 po => ?_⟩
  unfold vEq at po
  split at po
  · rename_i hf
    obtain ⟨h1, h2⟩ := bo_shaped s r1 hf.1
    obtain ⟨h3, h4⟩ := bo_shaped s r2 hf.2
    exact ⟨v, w, h1, h3, h2, h4, po F H _ (.refl s) (.bl _)⟩
  · exact po.elim
theorem ne_ok (hh : Here X W k) : CmpOk X .NotEq b vNe := by
  refine ⟨nomark _, _, op_neD hh.u64, fun F Hs Hs' H x v y w Q s r1 r2 po => ?_⟩
  unfold vNe at po
  split at po
  · rename_i hf
    obtain ⟨h1, h2⟩ := bo_shaped s r1 hf.1
    obtain ⟨h3, h4⟩ := bo_shaped s r2 hf.2
    exact ⟨v, w, h1, h3, h2, h4, po F H _ (.refl s) (.bl _)⟩
  · exact po.elim
def rLt (K : Fg) : R2 := fun x y H Q => rI0 (fun i j => .bl (decide (i < j))) x y H Q ∨ (∃ i j, x = .str i ∧ y = .str j ∧ Q (.bl (decide (i.cps.toList < j.cps.toList))) H) ∨ rLtT K x y H Q
theorem or_lt (hh : Here X W k) : OpR X (compareOp .Lt) (rLt X.K) := op_lt.or (op_lt_str.or (op_ltT hh.u0))
theorem lt_v {F Hs Hs' H : Hp} {x y : V} {v w : D} {Q : VK} (s : Same F H) (r1 : RM .bo X.K F Hs H x v) (r2 : RM .bo X.K F Hs' H y w) (po : VPost X.K .sh F H (vLt v w) Q) : rLt X.K x y H Q := by
  unfold vLt at po
  split at po
  · cases bo_int r1; cases bo_int r2
    exact .inl ⟨_, _, rfl, rfl, po F H _ (.refl s) (.bl _)⟩
  · obtain ⟨rfl, _, _⟩ := bo_str r1
    obtain ⟨rfl, _, _⟩ := bo_str r2
    exact .inr (.inl ⟨_, _, rfl, rfl, po F H _ (.refl s) (.bl _)⟩)
  · rename_i as bs
    split at po
    · rename_i ns ms e1 e2
      rw [allInt_some e1] at r1
      rw [allInt_some e2] at r2
      obtain ⟨l, xs, rfl, h1, _, _, h3⟩ := bo_tup s r1
      obtain ⟨l', ys, rfl, h1', _, _, h3'⟩ := bo_tup s r2
      have ex := rpa_ints h3
      have ey := rpa_ints h3'
      subst ex ey
      exact .inr (.inr ⟨_, _, _, _, rfl, rfl, h1, h1', po F H _ (.refl s) (.bl _)⟩)
    · exact po.elim
  · exact po.elim
theorem lt_ok (hh : Here X W k) : CmpOk X .Lt b vLt := ⟨nomark _, _, or_lt hh, fun F Hs Hs' H x v y w Q s r1 r2 po => lt_v s r1 r2 po⟩
def rLe : R2 := fun x y H Q => rI0 (fun i j => .bl (decide (i ≤ j))) x y H Q ∨ (∃ i j, x = .str i ∧ y = .str j ∧ Q (.bl (!decide (j.cps.toList < i.cps.toList))) H)
theorem or_le : OpR X (compareOp .LtE) rLe := op_le.or op_le_str
theorem le_v {F Hs Hs' H : Hp} {x y : V} {v w : D} {Q : VK} (s : Same F H) (r1 : RM .bo X.K F Hs H x v) (r2 : RM .bo X.K F Hs' H y w) (po : VPost X.K .sh F H (vLe v w) Q) : rLe x y H Q := by
  unfold vLe at po
  split at po
  · cases bo_int r1; cases bo_int r2
    exact .inl ⟨_, _, rfl, rfl, po F H _ (.refl s) (.bl _)⟩
  · obtain ⟨rfl, _, _⟩ := bo_str r1
    obtain ⟨rfl, _, _⟩ := bo_str r2
    exact .inr ⟨_, _, rfl, rfl, po F H _ (.refl s) (.bl _)⟩
  · exact po.elim
theorem le_ok : CmpOk X .LtE b vLe := ⟨nomark _, _, or_le, fun F Hs Hs' H x v y w Q s r1 r2 po => le_v s r1 r2 po⟩
theorem gt_ok : CmpOk X .Gt b vGt := by
  refine ⟨nomark _, _, op_gt.or op_gt_str, fun F Hs Hs' H x v y w Q s r1 r2 po => ?_⟩
  unfold vGt at po
  split at po
  · cases bo_int r1; cases bo_int r2
    exact .inl ⟨_, _, rfl, rfl, po F H _ (.refl s) (.bl _)⟩
  · obtain ⟨rfl, _, _⟩ := bo_str r1
    obtain ⟨rfl, _, _⟩ := bo_str r2
    exact .inr ⟨_, _, rfl, rfl, po F H _ (.refl s) (.bl _)⟩
  · exact po.elim
theorem ge_ok : CmpOk X .GtE b vGe := by
  refine ⟨nomark _, _, op_ge.or op_ge_str, fun F Hs Hs' H x v y w Q s r1 r2 po => ?_⟩
  unfold vGe at po
  split at po
  · cases bo_int r1; cases bo_int r2
    exact .inl ⟨_, _, rfl, rfl, po F H _ (.refl s) (.bl _)⟩
  · obtain ⟨rfl, _, _⟩ := bo_str r1
    obtain ⟨rfl, _, _⟩ := bo_str r2
    exact .inr ⟨_, _, rfl, rfl, po F H _ (.refl s) (.bl _)⟩
  · exact po.elim
/-- is None, is not None -/
theorem isN_v {F Hs H : Hp} {x : V} {v : D} (r : RM .bo X.K F Hs H x v) : decide (x = .non) = isNoneD v := by
  rcases r with r | ⟨a, o, rfl, _, r⟩
  · cases r <;> rfl
  · cases r <;> rfl
theorem isN_ok : CmpOk X .Is b vIsN := by
  refine ⟨nomark _, _, op_isN, fun F Hs Hs' H x v y w Q s r1 r2 po => ?_⟩
  unfold vIsN at po
  split at po
  · cases bo_none r2
    refine ⟨rfl, ?_⟩
    rw [isN_v r1]
    exact po F H _ (.refl s) (.bl _)
  · exact po.elim
theorem notN_ok : CmpOk X .IsNot b vNotN := by
  refine ⟨nomark _, _, op_notN, fun F Hs Hs' H x v y w Q s r1 r2 po => ?_⟩
  unfold vNotN at po
  split at po
  · cases bo_none r2
    refine ⟨rfl, ?_⟩
    rw [isN_v r1]
    exact po F H _ (.refl s) (.bl _)
  · exact po.elim
/-- in, not in -/
def rInT (K : Fg) (neg : Bool) : R2 := fun x y H Q => ∃ d ds, Dp K H x d ∧ (Dp K H y (.list ds) ∨ Dp K H y (.tuple ds)) ∧ SeqAt.shaped d = true ∧ SeqAt.shaped (.list ds) = true ∧ Q (.bl (if neg then !inD d ds else inD d ds)) H
theorem op_inT (hu : X.A.units + 65 < cLine) : OpR X (compareOp .In) (rInT X.K false) := by
  intro pins s σ H x y v u Q I rx ry h
  obtain ⟨d, ds, hd, he, sd, se, q⟩ := h
  obtain ⟨as, r1⟩ := Dp.reads I d x v hd rx
  rcases he with he | he
  · obtain ⟨bs, r2⟩ := Dp.reads I (.list ds) y u he ry
    exact SeqAt.in_list_reads r2 r1 (SeqAt.canLay_of_shaped se) (SeqAt.canLay_of_shaped sd) (room_in_shaped sd hu) ⟨.bl _, H, I, rfl, q⟩
  · obtain ⟨bs, r2⟩ := Dp.reads I (.tuple ds) y u he ry
    exact SeqAt.in_tuple_reads r2 r1 (SeqAt.canLay_of_shaped se) (SeqAt.canLay_of_shaped sd) (room_in_shaped sd hu) ⟨.bl _, H, I, rfl, q⟩
theorem op_notInT (hu : X.A.units + 65 < cLine) : OpR X (compareOp .NotIn) (rInT X.K true) := by
  intro pins s σ H x y v u Q I rx ry h
  obtain ⟨d, ds, hd, he, sd, se, q⟩ := h
  obtain ⟨as, r1⟩ := Dp.reads I d x v hd rx
  rcases he with he | he
  · obtain ⟨bs, r2⟩ := Dp.reads I (.list ds) y u he ry
    exact SeqAt.notIn_list_reads r2 r1 (SeqAt.canLay_of_shaped se) (SeqAt.canLay_of_shaped sd) (room_in_shaped sd hu) ⟨.bl _, H, I, rfl, q⟩
  · obtain ⟨bs, r2⟩ := Dp.reads I (.tuple ds) y u he ry
    exact SeqAt.notIn_tuple_reads r2 r1 (SeqAt.canLay_of_shaped se) (SeqAt.canLay_of_shaped sd) (room_in_shaped sd hu) ⟨.bl _, H, I, rfl, q⟩
def rIn2 (K : Fg) (neg : Bool) : R2 := fun x y H Q => (∃ (c : Nat) (z : Str), x = .str ⟨#[c]⟩ ∧ y = .str z ∧ Q (.bl (if neg then !decide (c ∈ z.cps.toList) else decide (c ∈ z.cps.toList))) H) ∨
  (∃ i j, x = .str i ∧ y = .str j ∧ Q (.bl (if neg then !(!(Builtin.Str.occurrences j i 0 j.length 1).isEmpty) else (!(Builtin.Str.occurrences j i 0 j.length 1).isEmpty))) H) ∨ rInT K neg x y H Q
theorem or_in (hh : Here X W k) : OpR X (compareOp .In) (rIn2 X.K false) := op_in_sign.or (op_in_str.or (op_inT hh.u65))
theorem or_notIn (hh : Here X W k) : OpR X (compareOp .NotIn) (rIn2 X.K true) := op_notIn_sign.or (op_notin_str.or (op_notInT hh.u65))
theorem strIn_cases (i j : Str) : (∃ c, i = ⟨#[c]⟩ ∧ strIn i j = decide (c ∈ j.cps.toList)) ∨ strIn i j = !(Builtin.Str.occurrences j i 0 j.length 1).isEmpty := by
  unfold strIn
  split
  · rename_i c hc
    left
    refine ⟨c, ?_, rfl⟩
    obtain ⟨cs⟩ := i
    have : cs = #[c] := by apply Array.ext'; simpa using hc
    rw [this]
  · exact .inr rfl
theorem shaped_list {ds : List D} : SeqAt.shaped (.tuple ds) = true → SeqAt.shaped (.list ds) = true := fun h => by
  have e : SeqAt.shaped (.list ds) = SeqAt.shaped (.tuple ds) := by simp only [SeqAt.shaped, PyData.canLay0, PyData.depth]; rfl
  rw [e]; exact h
theorem fine_list {ds : List D} : fine (.tuple ds) = true → fine (.list ds) = true := fun h => by
  have e : fine (.list ds) = fine (.tuple ds) := by simp only [fine, noDict, PyData.depth]; rfl
  rw [e]; exact h
theorem in_v {F Hs Hs' H : Hp} {x y : V} {v w : D} {Q : VK} {b : Bool} (neg : Bool) (s : Same F H) (r1 : RM .bo X.K F Hs H x v) (r2 : RM .bo X.K F Hs' H y w) (e : vIn v w = some (.bool b)) (q : Q (.bl (if neg then !b else b)) H) : rIn2 X.K neg x y H Q := by
  unfold vIn at e
  split at e
  · rename_i i j
    obtain ⟨rfl, _, _⟩ := bo_str r1
    obtain ⟨rfl, _, _⟩ := bo_str r2
    cases e
    rcases strIn_cases i j with ⟨c, rfl, e⟩ | e
    · rw [e] at q
      exact .inl ⟨c, j, rfl, rfl, q⟩
    · rw [e] at q
      exact .inr (.inl ⟨_, _, rfl, rfl, q⟩)
  · split at e
    · rename_i hf
      cases e
      obtain ⟨h1, h2⟩ := bo_shaped s r1 hf.1
      obtain ⟨h3, h4⟩ := bo_shaped s r2 hf.2
      exact .inr (.inr ⟨_, _, h1, .inl h3, h2, h4, q⟩)
    · cases e
  · split at e
    · rename_i hf
      cases e
      obtain ⟨h1, h2⟩ := bo_shaped s r1 hf.1
      obtain ⟨h3, h4⟩ := bo_shaped s r2 hf.2
      refine .inr (.inr ⟨_, _, h1, .inr h3, h2, ?_, q⟩)
      exact shaped_list h4
    · cases e
  · cases e
theorem vIn_bool {v w d : D} (e : vIn v w = some d) : ∃ b, d = .bool b := by
  unfold vIn at e
  split at e
  · cases e; exact ⟨_, rfl⟩
  · split at e
    · cases e; exact ⟨_, rfl⟩
    · cases e
  · split at e
    · cases e; exact ⟨_, rfl⟩
    · cases e
  · cases e
theorem in_ok (hh : Here X W k) (hm : behindInMarks .In b = false) : CmpOk X .In b vIn := by
  refine ⟨hm, _, or_in hh, fun F Hs Hs' H x v y w Q s r1 r2 po => ?_⟩
  cases e : vIn v w with
  | none => rw [e] at po; exact po.elim
  | some d =>
    obtain ⟨c, rfl⟩ := vIn_bool e
    rw [e] at po
    exact in_v false s r1 r2 e (po F H _ (.refl s) (.bl _))
theorem notIn_ok (hh : Here X W k) (hm : behindInMarks .NotIn b = false) : CmpOk X .NotIn b vNotIn := by
  refine ⟨hm, _, or_notIn hh, fun F Hs Hs' H x v y w Q s r1 r2 po => ?_⟩
  unfold vNotIn at po
  cases e : vIn v w with
  | none => rw [e] at po; exact po.elim
  | some d =>
    obtain ⟨c, rfl⟩ := vIn_bool e
    rw [e] at po
    exact in_v true s r1 r2 e (po F H _ (.refl s) (.bl _))
end
end PL

end
section
namespace PL
open PySem PySem.Spec PyProof.Rows L2

/-- an argument without a star -/
def NoSt (a : Expr) : Prop := ∀ env es, starEach (a :: es) env = (false, eval a env) :: starEach es env
def PlainT (X : Cx) (a : Expr) : Prop := ∀ whole, isTrue a X.env whole = (do let v ← whole; standAt a.pos; holding [v] (truthy v))

def truthD : D → Bool
  | .none => false
  | .bool b => b
  | .int i => i != 0
  | .str z => (z.length : Int) != 0
  | .list xs => !xs.isEmpty
  | .tuple xs => !xs.isEmpty
  | .dict ps => !ps.isEmpty
theorem RpD.length {K : Fg} {F : Hp} : ∀ {kvs : List (Key × V)} {ps : List (D × D)}, RpD K F kvs ps → kvs.length = ps.length
  | _, _, .nil => rfl
  | _, _, .cons _ _ t => by simp [RpD.length t]
theorem isEmpty_len {α β : Type} {xs : List α} {ys : List β} (h : xs.length = ys.length) : xs.isEmpty = ys.isEmpty := by
  cases xs <;> cases ys <;> simp at h ⊢
def TruL (K : PySem.W.Frag) (x : V) (H : Hp) (k : Bool) : Prop := TruV K x H k ∨ ∃ (p : Addr) (od : Obj) (kvs : List (Key × V)), x = .ref p ∧ H p = some (.frz od (.dK kvs)) ∧ k = !kvs.isEmpty
section
variable {X : Cx} {a b : Expr} {rest : List Expr} {ta tb : TE} {pos : Pos}
theorem truL_ok : TruR X (fun x H Q => ∃ k, TruL X.K x H k ∧ Q k H) := by
  intro pins s σ H x v Q I rx hq
  obtain ⟨k, e | ⟨p, od, kvs, rfl, hp, rfl⟩, q⟩ := hq
  · exact tru_ok pins s σ H x v Q I rx ⟨k, e, q⟩
  · cases rx
    obtain ⟨h1, h2, h3, es, ep, vs, h4, h5, kv, hm⟩ := I.frzK hp
    obtain ⟨hz, _⟩ : kvs.length ≤ sizeLine ∧ _ := (I.hok p _ hp).2
    have e1 : kvs.length = vs.length := Paired.length kv
    have e2 : sizeLine < 2 ^ 63 := line63
    refine wpAny_truthy_dict h1 hm.dictOf (by omega) ⟨H, I.tok _, ?_⟩
    rw [isEmpty_kv kv]
    exact q
theorem pt_truL (ha : PE X a ta) (he : ∀ whole, isTrue a X.env whole = (do let v ← whole; standAt a.pos; holding [v] (truthy v))) : PT X a (fun σ H Q => ta σ H fun x H' => ∃ k, TruL X.K x H' k ∧ Q k H') :=
  ⟨fun pins s σ H Q I w => isTrue_plain (thn (ha.run pins s σ H _ I w) fun u s1 ⟨y, H1, I1, r, q⟩ => truL_ok pins s1 σ H1 y u Q I1 r q) (he _)⟩
def tOrL (K : PySem.W.Frag) (t u : TE) : TE := fun σ H Q => t σ H fun x H1 => ∃ k, TruL K x H1 k ∧ if k = true then Q x H1 else u σ H1 Q
def tAndL (K : PySem.W.Frag) (t u : TE) : TE := fun σ H Q => t σ H fun x H1 => ∃ k, TruL K x H1 k ∧ if k = true then u σ H1 Q else Q x H1
def tNotL (K : PySem.W.Frag) (t : TE) : TE := fun σ H Q => t σ H fun x H1 => ∃ k, TruL K x H1 k ∧ Q (.bl (!k)) H1
theorem pe_orL (ha : PE X a ta) (hb : PE X (.BoolOp .Or (b :: rest) pos) tb) : PE X (.BoolOp .Or (a :: b :: rest) pos) (tOrL X.K ta tb) :=
  ⟨fun pins s σ H Q I h => BoolOp_or (thn (ha.run pins s σ H _ I h) fun v s1 ⟨x, H1, I1, r1, k, e, q⟩ =>
    thn (truL_ok pins s1 σ H1 x v (fun c H2 => c = k ∧ H2 = H1) I1 r1 ⟨k, e, rfl, rfl⟩) fun c s2 ⟨H2, I2, e1, e2⟩ => by
      subst e1 e2
      cases c
      · exact hb.run pins s2 σ _ Q I2 q
      · exact ⟨x, _, I2, r1, q⟩)⟩
theorem pe_andL (ha : PE X a ta) (hb : PE X (.BoolOp .And (b :: rest) pos) tb) : PE X (.BoolOp .And (a :: b :: rest) pos) (tAndL X.K ta tb) :=
  ⟨fun pins s σ H Q I h => BoolOp_and (thn (ha.run pins s σ H _ I h) fun v s1 ⟨x, H1, I1, r1, k, e, q⟩ =>
    thn (truL_ok pins s1 σ H1 x v (fun c H2 => c = k ∧ H2 = H1) I1 r1 ⟨k, e, rfl, rfl⟩) fun c s2 ⟨H2, I2, e1, e2⟩ => by
      subst e1 e2
      cases c
      · exact ⟨x, _, I2, r1, q⟩
      · exact hb.run pins s2 σ _ Q I2 q)⟩
theorem pe_notL (ha : PE X a ta) : PE X (.UnaryOp .Not a pos) (tNotL X.K ta) :=
  ⟨fun pins s σ H Q I h => UnaryOp_ (thn (ha.run pins s σ H _ I h) fun v s1 ⟨x, H1, I1, r1, k, e, q⟩ =>
    not_of (thn (truL_ok pins s1 σ H1 x v (fun c H2 => Q (.bl (!c)) H2) I1 r1 ⟨k, e, q⟩) fun c s2 ⟨H2, I2, q2⟩ => ⟨.bl (!c), H2, I2, rfl, q2⟩))⟩
end
theorem truth_v {K : Fg} {F Hs H : Hp} {x : V} {v : D} (s : Same F H) (r : RM .bo K F Hs H x v) : TruL K x H (truthD v) := by
  cases v with
  | none => cases bo_none r; exact .inl rfl
  | bool b => cases bo_bool r; exact .inl rfl
  | int i => cases bo_int r; exact .inl rfl
  | str z => obtain ⟨rfl, _, h⟩ := bo_str r; exact .inl ⟨h, rfl⟩
  | list ds =>
    obtain ⟨a, xs, rfl, h1, _, h3⟩ := bo_list s r
    exact .inl (.inl ⟨xs, h1, by show (!ds.isEmpty) = _; rw [isEmpty_len h3.length]⟩)
  | tuple ds =>
    obtain ⟨a, xs, rfl, h1, _, _, h3⟩ := bo_tup s r
    exact .inl (.inr (.inl ⟨xs, h1, by show (!ds.isEmpty) = _; rw [isEmpty_len h3.length]⟩))
  | dict ps =>
    obtain ⟨a, kvs, rfl, h1, _, h3⟩ := bo_dict s r
    have e : truthD (.dict ps) = !kvs.isEmpty := by show (!ps.isEmpty) = _; rw [isEmpty_len h3.length]
    rcases h1 with h1 | ⟨od, h1⟩
    · exact .inl (.inr (.inr ⟨kvs, h1, e⟩))
    · exact .inr ⟨a, od, kvs, rfl, h1, e⟩
section
variable {X : Cx} {W : WX} {O : List Nat} {k : Nat} {m m1 m2 : Mode} {e a b c : Expr} {es : List Expr} {d da db : DE} {dc ta tb : DT} {das dbs : DA} {pos p : Pos}
def tVal (d : DE) : DT := fun ρ => (d ρ).bind fun v => .ok (truthD v)
theorem tj_val (h : EJ X W O .bo e d) (he : PlainT X e := by intro _; rfl) : TJ X W O e (tVal d) := by
  obtain ⟨t, p, q⟩ := h
  refine ⟨_, pt_truL p he, fun F0 H0 F H σ ρ Q s po => q F0 H0 F H σ ρ _ s (TPost.bindE (m1 := .bo) po fun v F' H' x _ e rm po' => ?_)⟩
  exact ⟨truthD v, truth_v e.fh rm, po' F' H' (.refl e.fh)⟩
def tNotD (d : DT) : DT := fun ρ => (d ρ).bind fun b => .ok (!b)
def tAndD (d d' : DT) : DT := fun ρ => (d ρ).bind fun b => if b = true then d' ρ else .ok false
def tOrD (d d' : DT) : DT := fun ρ => (d ρ).bind fun b => if b = true then .ok true else d' ρ
theorem tj_not (h : TJ X W O a ta) : TJ X W O (.UnaryOp .Not a pos) (tNotD ta) := by
  obtain ⟨t, p, q⟩ := h
  exact ⟨_, pt_not p, fun F0 H0 F H σ ρ Q s po => q F0 H0 F H σ ρ _ s (TPost.bindT po fun b F' H' _ e po' => po' F' H' (.refl e.fh))⟩
theorem wj_and1 (h : TJ X W O a ta) : WJ X W O (.BoolOp .And [a] pos) ta := by
  obtain ⟨t, p, q⟩ := h
  exact ⟨_, pw_and1 p, q⟩
theorem wj_or1 (h : TJ X W O a ta) : WJ X W O (.BoolOp .Or [a] pos) ta := by
  obtain ⟨t, p, q⟩ := h
  exact ⟨_, pw_or1 p, q⟩
theorem wj_and (h : TJ X W O a ta) (h2 : WJ X W O (.BoolOp .And (b :: es) pos) tb) : WJ X W O (.BoolOp .And (a :: b :: es) pos) (tAndD ta tb) := by
  obtain ⟨t, p, q⟩ := h
  obtain ⟨u, p2, q2⟩ := h2
  refine ⟨_, pw_and p p2, fun F0 H0 F H σ ρ Q s po => q F0 H0 F H σ ρ _ s (TPost.bindT po fun b F' H' _ e po' => ?_)⟩
  cases b with
  | true => exact q2 F0 H0 F' H' σ ρ Q (s.ext e) po'
  | false => exact po' F' H' (.refl e.fh)
theorem wj_or (h : TJ X W O a ta) (h2 : WJ X W O (.BoolOp .Or (b :: es) pos) tb) : WJ X W O (.BoolOp .Or (a :: b :: es) pos) (tOrD ta tb) := by
  obtain ⟨t, p, q⟩ := h
  obtain ⟨u, p2, q2⟩ := h2
  refine ⟨_, pw_or p p2, fun F0 H0 F H σ ρ Q s po => q F0 H0 F H σ ρ _ s (TPost.bindT po fun b F' H' _ e po' => ?_)⟩
  cases b with
  | true => exact po' F' H' (.refl e.fh)
  | false => exact q2 F0 H0 F' H' σ ρ Q (s.ext e) po'
theorem WJ.tj (h : WJ X W O e ta) : TJ X W O e ta := by
  obtain ⟨t, p, q⟩ := h
  exact ⟨t, p.pt, q⟩

def eNot (d : DE) : DE := fun ρ => (d ρ).bind fun v => .ok (.bool (!truthD v))
def eAnd (d d' : DE) : DE := fun ρ => (d ρ).bind fun v => if truthD v = true then d' ρ else .ok v
def eOr (d d' : DE) : DE := fun ρ => (d ρ).bind fun v => if truthD v = true then .ok v else d' ρ
def eIfE (t : DT) (d d' : DE) : DE := fun ρ => (t ρ).bind fun b => if b = true then d ρ else d' ρ
theorem ej_not (h : EJ X W O .bo a da) : EJ X W O .sh (.UnaryOp .Not a pos) (eNot da) := by
  obtain ⟨t, p, q⟩ := h
  refine ⟨_, pe_notL p, fun F0 H0 F H σ ρ Q s po => q F0 H0 F H σ ρ _ s (EPost.bindE (m1 := .bo) s.sub po fun v F' H' x _ e rm po' => ?_)⟩
  exact ⟨truthD v, truth_v e.fh rm, po' F' H' _ (.refl e.fh) (.bl _)⟩
theorem ej_one {op : BoolOp} (h : EJ X W O m a da) : EJ X W O m (.BoolOp op [a] pos) da := by
  obtain ⟨t, p, q⟩ := h
  exact ⟨t, pe_one p, q⟩
theorem ej_and (h : EJ X W O .sh a da) (h2 : EJ X W O .sh (.BoolOp .And (b :: es) pos) db) : EJ X W O .sh (.BoolOp .And (a :: b :: es) pos) (eAnd da db) := by
  obtain ⟨t, p, q⟩ := h
  obtain ⟨u, p2, q2⟩ := h2
  refine ⟨_, pe_andL p p2, fun F0 H0 F H σ ρ Q s po => q F0 H0 F H σ ρ _ s (EPost.bindE (m1 := .sh) s.sub po fun v F' H' x _ e rm po' => ?_)⟩
  refine ⟨truthD v, truth_v e.fh (RM.bo_of .sh (H0 := H') rm), ?_⟩
  by_cases hv : truthD v = true
  · rw [if_pos hv] at po' ⊢
    exact q2 F0 H0 F' H' σ ρ Q (s.ext e) po'
  · rw [if_neg hv] at po' ⊢
    exact po' F' H' x (.refl e.fh) rm
theorem ej_or (h : EJ X W O .sh a da) (h2 : EJ X W O .sh (.BoolOp .Or (b :: es) pos) db) : EJ X W O .sh (.BoolOp .Or (a :: b :: es) pos) (eOr da db) := by
  obtain ⟨t, p, q⟩ := h
  obtain ⟨u, p2, q2⟩ := h2
  refine ⟨_, pe_orL p p2, fun F0 H0 F H σ ρ Q s po => q F0 H0 F H σ ρ _ s (EPost.bindE (m1 := .sh) s.sub po fun v F' H' x _ e rm po' => ?_)⟩
  refine ⟨truthD v, truth_v e.fh (RM.bo_of .sh (H0 := H') rm), ?_⟩
  by_cases hv : truthD v = true
  · rw [if_pos hv] at po' ⊢
    exact po' F' H' x (.refl e.fh) rm
  · rw [if_neg hv] at po' ⊢
    exact q2 F0 H0 F' H' σ ρ Q (s.ext e) po'
theorem ej_ifE (h : TJ X W O c ta) (h1 : EJ X W O m a da) (h2 : EJ X W O m b db) : EJ X W O m (.IfExp c a b pos) (eIfE ta da db) := by
  obtain ⟨t, p, q⟩ := h
  obtain ⟨u, p1, q1⟩ := h1
  obtain ⟨v, p2, q2⟩ := h2
  refine ⟨_, pe_ifExp p p1 p2, fun F0 H0 F H σ ρ Q s po => q F0 H0 F H σ ρ _ s (EPost.bindT po fun b F' H' _ e po' => ?_)⟩
  cases b with
  | true => exact q1 F0 H0 F' H' σ ρ Q (s.ext e) po'
  | false => exact q2 F0 H0 F' H' σ ρ Q (s.ext e) po'

def aNil : DA := fun _ => .ok []
def aCons (de : DE) (d : DA) : DA := fun ρ => (de ρ).bind fun x => (d ρ).bind fun xs => .ok (x :: xs)
theorem aj_nil : AJ X W O [] aNil := ⟨_, pa_nil, fun F0 H0 F H σ ρ Q s po => po F H [] (.refl s.sub) .nil⟩
theorem aj_cons (ns : NoSt a) (h : EJ X W O .sh a da) (h2 : AJ X W O es das) : AJ X W O (a :: es) (aCons da das) := by
  obtain ⟨t, p, q⟩ := h
  obtain ⟨u, p2, q2⟩ := h2
  refine ⟨_, pa_cons p p2 (ns _ _), fun F0 H0 F H σ ρ Q s po => q F0 H0 F H σ ρ _ s (APost.bindE (m1 := .sh) po fun v F' H' x _ e rm po' => ?_)⟩
  refine q2 F0 H0 F' H' σ ρ _ (s.ext e) (APost.bindA po' fun w F2 H2 xs _ e2 rm2 po2 => ?_)
  exact po2 F2 H2 _ (.refl e2.fh) (.cons (rm.mono e2.ff) rm2)
def eTup (d : DA) : DE := fun ρ => (d ρ).bind fun xs => if xs.length ≤ sizeLine then .ok (.tuple xs) else .bad
def eLst (d : DA) : DE := fun ρ => (d ρ).bind fun xs => if xs.length ≤ sizeLine then .ok (.list xs) else .bad
theorem ej_tup {x1 : Nat} (h : AJ X W O es das) : EJ X W O m (.Tuple es x1 pos) (eTup das) := by
  obtain ⟨t, p, q⟩ := h
  refine ⟨_, pe_tup p, fun F0 H0 F H σ ρ Q s po => q F0 H0 F H σ ρ _ s (EPost.bindA po fun v F' H' xs _ e rm po' => ?_)⟩
  split at po'
  · rename_i hl
    rw [← rm.length] at hl
    exact ⟨hl, fun p hp => po' (upd F' p (.tup xs)) _ _ (.newF e.fh hp) (RM.of_sh (.tup (SqT.of upd_same) hl (rm.mono (same_upd' (free_of e.fh hp)))) rfl)⟩
  · exact po'.elim
theorem ej_lst (h : AJ X W O es das) : EJ X W O .fr (.List es pos) (eLst das) := by
  obtain ⟨t, p, q⟩ := h
  refine ⟨_, pe_lst p, fun F0 H0 F H σ ρ Q s po => q F0 H0 F H σ ρ _ s (EPost.bindA po fun v F' H' xs _ e rm po' => ?_)⟩
  split at po'
  · rename_i hl
    rw [← rm.length] at hl
    exact ⟨hl, fun p hp => po' F' _ _ (.new e.fh hp) (.inr ⟨p, _, rfl, upd_same, .lst hl rm, free_of e.fh hp, hp⟩)⟩
  · exact po'.elim

def vIdx : D → D → Option D
  | .list ds, .int i => atI ds i
  | .tuple ds, .int i => atI ds i
  | .str z, .int i => (atI z.cps.toList i).map fun c => .str ⟨#[c]⟩
  | _, _ => none
theorem atI_rp {K : Fg} {F : Hp} {xs : List V} {ds : List D} {i : Int} {d : D} (r : RpA K F xs ds) (h : atI ds i = some d) : ∃ x, atI xs i = some x ∧ Rp K F x d := by
  unfold atI at h ⊢
  rw [r.length]
  cases e : ixN ds.length i with
  | none => rw [e] at h; cases h
  | some j =>
    rw [e] at h
    exact r.get h
theorem atI_mem {α : Type} {xs : List α} {i : Int} {x : α} (h : atI xs i = some x) : x ∈ xs := by
  unfold atI at h
  cases e : ixN xs.length i with
  | none => rw [e] at h; cases h
  | some j => rw [e] at h; exact List.mem_of_getElem? h
theorem strOk_mem {z : Str} (h : PyData.strOk z = true) {c : Nat} (hc : c ∈ z.cps.toList) : c < 0x110000 := by
  unfold PyData.strOk at h
  rw [Array.all_eq_true'] at h
  have := h c (by simpa using hc)
  simpa using this
theorem strOk_one {c : Nat} (h : c < 0x110000) : PyData.strOk ⟨#[c]⟩ = true := by
  unfold PyData.strOk
  simp [h]
theorem one_le_line : (1 : Nat) ≤ sizeLine := by decide
theorem ej_idx (ha : EJ X W O .bo a da) (hb : EJ X W O .bo b db) (hs : PlainIx b := by intro _ _; rfl) : EJ X W O .sh (.Subscript a b pos) (eBin vIdx da db) := by
  refine ej_bin ha hb (fun t u h1 h2 => pe_ix ix_seq h1 h2 hs) fun F Hs Hs' H x v y w Q s r1 r2 po => ?_
  cases e : vIdx v w with
  | none => rw [e] at po; exact po.elim
  | some d =>
    rw [e] at po
    unfold vIdx at e
    split at e
    · obtain ⟨l, xs, rfl, h1, h2, h3⟩ := bo_list s r1
      cases bo_int r2
      obtain ⟨z, h4, h5⟩ := atI_rp h3 e
      exact .inl ⟨_, _, _, _, rfl, rfl, h1, h4, po F H _ (.refl s) h5⟩
    · obtain ⟨l, xs, rfl, h1, _, h2, h3⟩ := bo_tup s r1
      cases bo_int r2
      obtain ⟨z, h4, h5⟩ := atI_rp h3 e
      exact .inr (.inl ⟨_, _, _, _, rfl, rfl, h1, h4, po F H _ (.refl s) h5⟩)
    · obtain ⟨rfl, o, l⟩ := bo_str r1
      cases bo_int r2
      rename_i z i
      cases e2 : atI z.cps.toList i with
      | none => rw [e2] at e; cases e
      | some c =>
        rw [e2] at e; cases e
        exact .inr (.inr ⟨_, _, _, rfl, rfl, l, e2, po F H _ (.refl s) (.str _ (strOk_one (strOk_mem o (atI_mem e2))) one_le_line)⟩)
    · cases e
abbrev DO := Lo → Res (Option Int)
def PJ (X : Cx) (W : WX) (O : List Nat) (e : Option Expr) (d : DO) : Prop :=
  ∃ t, PO X e t ∧ ∀ F0 H0 F H σ ρ (Q : Option Int → Hp → Prop), SR X.K F0 H0 O F H σ ρ → (match d ρ with
    | .ok o => ∀ F' H', Ext F H F' H' → Q o H'
    | .exn e => ∀ F' H' cls dd, Ext F H F' H' → ExRp X.K X.mg F' H' cls dd e → W cls dd σ H'
    | .bad => False) → t σ H Q
def oNone : DO := fun _ => .ok none
def asI : D → Option Int
  | .int i => some i
  | _ => none
def oSome (d : DE) : DO := fun ρ => (d ρ).bind fun v => (Res.up (asI v)).bind fun i => .ok (some i)
theorem pj_none : PJ X W O none oNone := ⟨_, po_none, fun F0 H0 F H σ ρ Q s po => po F H (.refl s.sub)⟩
theorem pj_some (h : EJ X W O .bo e d) : PJ X W O (some e) (oSome d) := by
  obtain ⟨t, p, q⟩ := h
  refine ⟨_, po_some p, fun F0 H0 F H σ ρ Q s po => q F0 H0 F H σ ρ _ s ?_⟩
  unfold oSome at po
  cases hd : d ρ with
  | ok v =>
    rw [hd] at po
    intro F' H' x e rm
    cases v with
    | int i =>
      cases bo_int rm
      exact ⟨i, rfl, po F' H' e⟩
    | _ => exact False.elim po
  | exn c => rw [hd] at po; exact po
  | bad => rw [hd] at po; exact po
def cutD {α : Type} (xs : List α) (lo hi : Option Int) : List α := (xs.drop (HT.sIx xs.length 0 lo)).take (HT.sIx xs.length xs.length hi - HT.sIx xs.length 0 lo)
def vSlice : D → Option Int → Option Int → Option D
  | .list ds, lo, hi => some (.list (cutD ds lo hi))
  | .tuple ds, lo, hi => some (.tuple (cutD ds lo hi))
  | .str z, lo, hi => some (.str (cutS z lo hi))
  | _, _, _ => none
theorem cut_whole {α : Type} {xs : List α} {lo hi : Option Int} (h : HT.sIx xs.length 0 lo = 0) (h' : HT.sIx xs.length xs.length hi = xs.length) : cutD xs lo hi = xs := by
  unfold cutD
  rw [h, h', List.drop_zero, Nat.sub_zero]
  exact List.take_of_length_le (Nat.le_refl _)
theorem cut_rp {K : Fg} {F : Hp} {xs : List V} {ds : List D} {lo hi : Option Int} (r : RpA K F xs ds) : RpA K F (cutV xs lo hi) (cutD ds lo hi) := by
  unfold cutV cutD
  rw [r.length]
  exact (r.drop _).take _
theorem strOk_cut {z : Str} {lo hi : Option Int} (h : PyData.strOk z = true) : PyData.strOk (cutS z lo hi) = true := by
  unfold PyData.strOk cutS
  rw [Array.all_eq_true']
  intro c hc
  have hc : c ∈ (z.cps.toList.drop (HT.sIx z.length 0 lo)).take (HT.sIx z.length z.length hi - HT.sIx z.length 0 lo) := by simpa using hc
  have := strOk_mem h (List.mem_of_mem_drop (List.mem_of_mem_take hc))
  simpa using this
theorem cutS_len {z : Str} {lo hi : Option Int} : (cutS z lo hi).length ≤ z.length := by
  unfold cutS
  show (List.toArray _).size ≤ _
  rw [List.size_toArray, List.length_take, List.length_drop]
  have : z.cps.toList.length = z.length := by simp [Str.length]
  omega
def eSlice (da : DE) (dl dh : DO) : DE := fun ρ => (da ρ).bind fun x => (dl ρ).bind fun l => (dh ρ).bind fun h => Res.up (vSlice x l h)
theorem ej_slice {lo hi : Option Expr} {dl dh : DO} {p2 : Pos} (ha : EJ X W O .bo a da) (hl : PJ X W O lo dl) (hh : PJ X W O hi dh) : EJ X W O .fr (.Subscript a (.Slice lo hi none p2) pos) (eSlice da dl dh) := by
  obtain ⟨t, p, q⟩ := ha
  obtain ⟨tl, pl, ql⟩ := hl
  obtain ⟨th, ph, qh⟩ := hh
  refine ⟨_, pe_slice (sl_list.or (sl_tupA.or sl_str)) p pl ph, fun F0 H0 F H σ ρ Q s po => q F0 H0 F H σ ρ _ s (EPost.bindE (m1 := .bo) s.sub po fun v F' H' x _ e rm po' => ?_)⟩
  refine ql F0 H0 F' H' σ ρ _ (s.ext e) ?_
  cases hl : dl ρ with
  | ok l =>
    rw [hl] at po'
    intro F2 H2 e2
    refine qh F0 H0 F2 H2 σ ρ _ ((s.ext e).ext e2) ?_
    have po2 := EPost.ext e2 po'
    cases hh : dh ρ with
    | ok h =>
      rw [hh] at po2
      intro F3 H3 e3
      have po3 : EPost X W .fr F3 H3 σ (Res.up (vSlice v l h)) Q := EPost.ext e3 po2
      have rm3 := (rm.ext e2).ext e3
      have s3 := e3.fh
      unfold vSlice at po3
      split at po3
      · obtain ⟨l, xs, rfl, h1, h2, h3⟩ := bo_list s3 rm3
        exact .inl ⟨_, _, rfl, h1, fun p hp => po3 F3 _ _ (.new s3 hp) (.inr ⟨p, _, rfl, upd_same, .lst (Nat.le_trans (cutV_length _ _ _) h2) (cut_rp h3), free_of s3 hp, hp⟩)⟩
      · obtain ⟨l, xs, rfl, h1, g1, h2, h3⟩ := bo_tup s3 rm3
        refine .inr (.inl ⟨_, _, rfl, h1, fun hw => ?_, fun _ p hp => po3 (upd F3 p (.tup _)) _ _ (.newF s3 hp) (RM.of_sh (.tup (SqT.of upd_same) (Nat.le_trans (cutV_length _ _ _) h2) ((cut_rp h3).mono (same_upd' (free_of s3 hp)))) rfl)⟩)
        refine po3 F3 H3 _ (.refl s3) (RM.of_sh ?_ rfl)
        rw [h3.length] at hw
        rw [cut_whole hw.1 hw.2]
        exact .tup g1 h2 h3
      · obtain ⟨rfl, o, l⟩ := bo_str rm3
        exact .inr (.inr ⟨_, rfl, l, po3 F3 H3 _ (.refl s3) (RM.of_sh (.str _ (strOk_cut o) (Nat.le_trans cutS_len l)) rfl)⟩)
      · exact False.elim po3
    | exn c => rw [hh] at po2; exact po2
    | bad => rw [hh] at po2; exact po2
  | exn c => rw [hl] at po'; exact po'
  | bad => rw [hl] at po'; exact po'
end
end PL

end
section
namespace PL
open PySem PySem.Spec PyProof.Rows L2

theorem NoSt.one {a : Expr} (h : NoSt a) (env : PySem.Env) : starEach [a] env = (false, eval a env) :: starEach [] env := h env []
def vLen : D → Option D
  | .str z => some (.int z.length)
  | .list ds => some (.int ds.length)
  | .tuple ds => some (.int ds.length)
  | .dict ps => some (.int ps.length)
  | _ => none
def vTuple : D → Option D
  | .list ds => some (.tuple ds)
  | .tuple ds => some (.tuple ds)
  | _ => none
def vList : D → Option D
  | .list ds => some (.list ds)
  | .tuple ds => some (.list ds)
  | _ => none
def vAll : D → Option D
  | .list ds => (allBool ds).map fun bs => .bool (bs.all id)
  | _ => none
def vAny : D → Option D
  | .list ds => (allBool ds).map fun bs => .bool (bs.any id)
  | _ => none
def vSum : D → Option D
  | .list ds => (allInt ds).map fun ns => .int ns.sum
  | _ => none
def maxL : Int → List Int → Int
  | m, [] => m
  | m, x :: r => maxL (if m < x then x else m) r
def minL : Int → List Int → Int
  | m, [] => m
  | m, x :: r => minL (if x < m then x else m) r
theorem maxL_spec : ∀ (r : List Int) (m : Int), (maxL m r = m ∨ maxL m r ∈ r) ∧ m ≤ maxL m r ∧ ∀ y ∈ r, y ≤ maxL m r
  | [], m => ⟨.inl rfl, Int.le_refl _, by simp⟩
  | x :: r, m => by
    obtain ⟨h1, h2, h3⟩ := maxL_spec r (if m < x then x else m)
    unfold maxL
    refine ⟨?_, ?_, fun y hy => ?_⟩
    · rcases h1 with h1 | h1
      · rw [h1]; split
        · exact .inr (by simp)
        · exact .inl rfl
      · exact .inr (by simp [h1])
    · exact Int.le_trans (show m ≤ (if m < x then x else m) by split <;> omega) h2
    · rcases List.mem_cons.mp hy with rfl | hy
      · exact Int.le_trans (show y ≤ (if m < y then y else m) by split <;> omega) h2
      · exact h3 y hy
theorem minL_spec : ∀ (r : List Int) (m : Int), (minL m r = m ∨ minL m r ∈ r) ∧ minL m r ≤ m ∧ ∀ y ∈ r, minL m r ≤ y
  | [], m => ⟨.inl rfl, Int.le_refl _, by simp⟩
  | x :: r, m => by
    obtain ⟨h1, h2, h3⟩ := minL_spec r (if x < m then x else m)
    unfold minL
    refine ⟨?_, ?_, fun y hy => ?_⟩
    · rcases h1 with h1 | h1
      · rw [h1]; split
        · exact .inr (by simp)
        · exact .inl rfl
      · exact .inr (by simp [h1])
    · exact Int.le_trans h2 (show (if x < m then x else m) ≤ m by split <;> omega)
    · rcases List.mem_cons.mp hy with rfl | hy
      · exact Int.le_trans h2 (show (if y < m then y else m) ≤ y by split <;> omega)
      · exact h3 y hy
def maxI : List Int → Option Int
  | [] => none
  | x :: r => some (maxL x r)
def minI : List Int → Option Int
  | [] => none
  | x :: r => some (minL x r)
def vMax1 : D → Option D
  | .list ds => ((allInt ds).bind maxI).map .int
  | _ => none
def vMin1 : D → Option D
  | .list ds => ((allInt ds).bind minI).map .int
  | _ => none
def vMax2 : D → D → Option D
  | .int i, .int j => some (.int (if j > i then j else i))
  | _, _ => none
def vMin2 : D → D → Option D
  | .int i, .int j => some (.int (if j < i then j else i))
  | _, _ => none
def vAbs : D → Option D
  | .int i => some (.int (if i < 0 then -i else i))
  | _ => none
def vInt : D → Option D
  | .int i => some (.int i)
  | .bool b => some (.int (if b then 1 else 0))
  | .str z => if z.length ≤ 640 then (PySem.intText? z).map .int else none
  | _ => none
def vStr : D → Option D
  | .int i => if i.natAbs.log2 < 1920 ∧ PyData.strOk (toString i) = true ∧ (toString i : Str).length ≤ sizeLine then some (.str (toString i)) else none
  | .str z => none
  | _ => none
def vBool (d : D) : Option D := match d with
  | .int i => some (.bool (i != 0))
  | .bool b => some (.bool b)
  | _ => none
def tyD : D → String
  | .none => "NoneType"
  | .bool _ => "bool"
  | .int _ => "int"
  | .str _ => "str"
  | .list _ => "list"
  | .tuple _ => "tuple"
  | .dict _ => "dict"
def vIsi (T : String) (d : D) : Option D := (kitB (tyD d) T).map .bool
/-- sorted, ints -/
def insI (x : Int) : List Int → List Int
  | [] => [x]
  | y :: r => if x ≤ y then x :: y :: r else y :: insI x r
def sortI : List Int → List Int
  | [] => []
  | x :: r => insI x (sortI r)
theorem insI_perm (x : Int) : ∀ r : List Int, (insI x r).Perm (x :: r)
  | [] => .refl _
  | y :: r => by
    unfold insI
    split
    · exact .refl _
    · exact ((insI_perm x r).cons y).trans (.swap x y r)
theorem insI_sorted (x : Int) : ∀ r : List Int, r.Pairwise (· ≤ ·) → (insI x r).Pairwise (· ≤ ·)
  | [], _ => by simp [insI]
  | y :: r, h => by
    have h' := List.pairwise_cons.mp h
    unfold insI
    split
    · rename_i hxy
      refine List.pairwise_cons.mpr ⟨fun z hz => ?_, h⟩
      rcases List.mem_cons.mp hz with rfl | hz
      · exact hxy
      · exact Int.le_trans hxy (h'.1 z hz)
    · rename_i hxy
      refine List.pairwise_cons.mpr ⟨fun z hz => ?_, insI_sorted x r h'.2⟩
      have := (insI_perm x r).mem_iff.mp hz
      rcases List.mem_cons.mp this with rfl | hz
      · omega
      · exact h'.1 z hz
theorem sortI_perm : ∀ r : List Int, (sortI r).Perm r
  | [] => .refl _
  | x :: r => (insI_perm x _).trans ((sortI_perm r).cons x)
theorem sortI_sorted : ∀ r : List Int, (sortI r).Pairwise (· ≤ ·)
  | [] => .nil
  | x :: r => insI_sorted x _ (sortI_sorted r)
theorem sortI_eq {ns ns' : List Int} (p : ns'.Perm ns) (h : ns'.Pairwise (· ≤ ·)) : ns' = sortI ns :=
  (p.trans (sortI_perm ns).symm).eq_of_pairwise (fun x y _ _ h1 h2 => Int.le_antisymm h1 h2) h (sortI_sorted ns)

section
variable {X : Cx} {W : WX} {O : List Nat} {k : Nat} {m m1 m2 : Mode} {e a b c : Expr} {es : List Expr} {d da db : DE} {pos p : Pos}
/-- one argument, a built-in function -/
theorem ej_b1 {x : Str} {id : String} {f : D → Option D} {r : List V → Hp → VK → Prop} (hc : CallR X (.builtin id) r) (hg : Gl X x) (hm : X.mg x = none) (hv : bootBuiltins x = some (.builtin id)) (hn : x ≠ "__name__") (hd : (x == ("__debug__" : Str)) = false)
    (ns : NoSt a) (ha : EJ X W O m1 a da) (h : ∀ F Hs H x v Q, Same F H → RM m1 X.K F Hs H x v → VPost X.K m F H (f v) Q → r [x] H Q) : EJ X W O m (.Call (.Name x p) [a] [] pos) (eUn f da) :=
  ej_un ha (fun t h1 => pe_callB hc hg hm hv (pa_cons h1 pa_nil (ns _ _)) hn hd (ns _ _)) h
theorem ej_b2 {x : Str} {id : String} {f : D → D → Option D} {r : List V → Hp → VK → Prop} (hc : CallR X (.builtin id) r) (hg : Gl X x) (hm : X.mg x = none) (hv : bootBuiltins x = some (.builtin id)) (hn : x ≠ "__name__") (hd : (x == ("__debug__" : Str)) = false)
    (ns : NoSt a) (ns2 : NoSt b) (ha : EJ X W O m1 a da) (hb : EJ X W O m2 b db) (h : ∀ F Hs Hs' H x v y w Q, Same F H → RM m1 X.K F Hs H x v → RM m2 X.K F Hs' H y w → VPost X.K m F H (f v w) Q → r [x, y] H Q) : EJ X W O m (.Call (.Name x p) [a, b] [] pos) (eBin f da db) :=
  ej_bin (r := fun x y H Q => r [x, y] H Q) ha hb (fun t u h1 h2 => pe_callB hc hg hm hv (pa_cons h1 (pa_cons h2 pa_nil (ns2 _ _)) (ns _ _)) hn hd (ns _ _) (by rw [ns2]; rfl)) h
theorem ej_t1 {x : Str} {T : String} {f : D → Option D} {r : List V → Hp → VK → Prop} (hc : CallR X (.type T) r) (hg : Gl X x) (hm : X.mg x = none) (hv : bootBuiltins x = some (.type T)) (hn : x ≠ "__name__") (hd : (x == ("__debug__" : Str)) = false)
    (ns : NoSt a) (ha : EJ X W O m1 a da) (h : ∀ F Hs H x v Q, Same F H → RM m1 X.K F Hs H x v → VPost X.K m F H (f v) Q → r [x] H Q) : EJ X W O m (.Call (.Name x p) [a] [] pos) (eUn f da) :=
  ej_un ha (fun t h1 => pe_callTy hc hg hm hv (pa_cons h1 pa_nil (ns _ _)) hn hd (ns _ _)) h

/-- len of a dict, locked or not -/
theorem call_lenR {X : Cx} : CallR X (.builtin "len") (fun vs H Q => ∃ p ks, vs = [V.ref p] ∧ Rd H p (.dK ks) ∧ Q (.int ks.length) H) := by
  intro pins s σ H vs us Q I r h
  obtain ⟨p, ks, rfl, hp, q⟩ := h
  rw [Vals.ref1 r]
  exact d_len I (hp.elim (fun g => .inl g) fun g => .inr g) fun t s' I' => ⟨.int ks.length, H, I', ⟨t, rfl⟩, q⟩
theorem ej_len (hg : Gl X "len") (hm : X.mg "len" = none) (ns : NoSt a) (ha : EJ X W O .bo a da) : EJ X W O .sh (.Call (.Name "len" p) [a] [] pos) (eUn vLen da) := by
  refine ej_b1 (call_len.or call_lenR) hg hm PySem.boot_len (by decide) (by decide) ns ha fun F Hs H x v Q s r1 po => ?_
  unfold vLen at po
  split at po
  · obtain ⟨rfl, o, l⟩ := bo_str r1
    exact .inl ⟨_, _, rfl, ⟨l, rfl⟩, po F H _ (.refl s) (.int _)⟩
  · obtain ⟨l, xs, rfl, h1, h2, h3⟩ := bo_list s r1
    exact .inl ⟨_, _, rfl, .inl ⟨xs, h1, rfl⟩, by rw [h3.length]; exact po F H _ (.refl s) (.int _)⟩
  · obtain ⟨l, xs, rfl, h1, _, h2, h3⟩ := bo_tup s r1
    exact .inl ⟨_, _, rfl, .inr ⟨xs, h1, rfl⟩, by rw [h3.length]; exact po F H _ (.refl s) (.int _)⟩
  · obtain ⟨l, xs, rfl, h1, h2, h3⟩ := bo_dict s r1
    exact .inr ⟨_, _, rfl, h1, by rw [h3.length]; exact po F H _ (.refl s) (.int _)⟩
  · exact po.elim
theorem ej_tuple (hg : Gl X "tuple") (hm : X.mg "tuple" = none) (ns : NoSt a) (ha : EJ X W O .bo a da) : EJ X W O m (.Call (.Name "tuple" p) [a] [] pos) (eUn vTuple da) := by
  refine ej_un ha (fun t h1 => pe_tupleOf hg hm h1 (ns _ _)) fun F Hs H x v Q s r1 po => ?_
  unfold vTuple at po
  split at po
  · obtain ⟨l, xs, rfl, h1, h2, h3⟩ := bo_list s r1
    exact .inl ⟨_, _, rfl, h1, fun q hq => po (upd F q (.tup xs)) _ _ (.newF s hq) (RM.of_sh (.tup (SqT.of upd_same) h2 (h3.mono (same_upd' (free_of s hq)))) rfl)⟩
  · obtain ⟨l, xs, rfl, h1, g1, h2, h3⟩ := bo_tup s r1
    exact .inr ⟨_, _, rfl, h1, po F H _ (.refl s) (RM.of_sh (.tup g1 h2 h3) rfl)⟩
  · exact po.elim
theorem ej_list (hg : Gl X "list") (hm : X.mg "list" = none) (ns : NoSt a) (ha : EJ X W O .bo a da) : EJ X W O .fr (.Call (.Name "list" p) [a] [] pos) (eUn vList da) := by
  refine ej_t1 call_list_of hg hm (by decide +kernel) (by decide) (by decide) ns ha fun F Hs H x v Q s r1 po => ?_
  unfold vList at po
  split at po
  · obtain ⟨l, xs, rfl, h1, h2, h3⟩ := bo_list s r1
    exact ⟨_, _, rfl, .inl h1, fun q hq => po F _ _ (.new s hq) (.inr ⟨q, _, rfl, upd_same, .lst h2 h3, free_of s hq, hq⟩)⟩
  · obtain ⟨l, xs, rfl, h1, g1, h2, h3⟩ := bo_tup s r1
    exact ⟨_, _, rfl, .inr h1, fun q hq => po F _ _ (.new s hq) (.inr ⟨q, _, rfl, upd_same, .lst h2 h3, free_of s hq, hq⟩)⟩
  · exact po.elim
theorem ej_all (hh : Here X W k) (hg : Gl X "all") (hm : X.mg "all" = none) (ns : NoSt a) (ha : EJ X W O .bo a da) : EJ X W O .sh (.Call (.Name "all" p) [a] [] pos) (eUn vAll da) := by
  refine ej_b1 (cr_all hh.calm) hg hm (by decide +kernel) (by decide) (by decide) ns ha fun F Hs H x v Q s r1 po => ?_
  unfold vAll at po
  split at po
  · rename_i ds
    cases e : allBool ds with
    | none => rw [e] at po; exact po.elim
    | some bs =>
      rw [e] at po
      rw [allBool_some e] at r1
      obtain ⟨l, xs, rfl, h1, h2, h3⟩ := bo_list s r1
      have ex := rpa_bools h3
      subst ex
      exact ⟨_, _, rfl, h1, po F H _ (.refl s) (.bl _)⟩
  · exact po.elim
theorem ej_any (hh : Here X W k) (hg : Gl X "any") (hm : X.mg "any" = none) (ns : NoSt a) (ha : EJ X W O .bo a da) : EJ X W O .sh (.Call (.Name "any" p) [a] [] pos) (eUn vAny da) := by
  refine ej_b1 (cr_any hh.calm) hg hm (by decide +kernel) (by decide) (by decide) ns ha fun F Hs H x v Q s r1 po => ?_
  unfold vAny at po
  split at po
  · rename_i ds
    cases e : allBool ds with
    | none => rw [e] at po; exact po.elim
    | some bs =>
      rw [e] at po
      rw [allBool_some e] at r1
      obtain ⟨l, xs, rfl, h1, h2, h3⟩ := bo_list s r1
      have ex := rpa_bools h3
      subst ex
      exact ⟨_, _, rfl, h1, po F H _ (.refl s) (.bl _)⟩
  · exact po.elim
theorem ej_sum (hh : Here X W k) (hg : Gl X "sum") (hm : X.mg "sum" = none) (ns : NoSt a) (ha : EJ X W O .bo a da) : EJ X W O .sh (.Call (.Name "sum" p) [a] [] pos) (eUn vSum da) := by
  refine ej_b1 (cr_sum hh.calm) hg hm (by decide +kernel) (by decide) (by decide) ns ha fun F Hs H x v Q s r1 po => ?_
  unfold vSum at po
  split at po
  · rename_i ds
    cases e : allInt ds with
    | none => rw [e] at po; exact po.elim
    | some bs =>
      rw [e] at po
      rw [allInt_some e] at r1
      obtain ⟨l, xs, rfl, h1, h2, h3⟩ := bo_list s r1
      have ex := rpa_ints h3
      subst ex
      exact ⟨_, _, rfl, h1, po F H _ (.refl s) (.int _)⟩
  · exact po.elim
theorem ej_max1 (hh : Here X W k) (hg : Gl X "max") (hm : X.mg "max" = none) (ns : NoSt a) (ha : EJ X W O .bo a da) : EJ X W O .sh (.Call (.Name "max" p) [a] [] pos) (eUn vMax1 da) := by
  refine ej_b1 (cr_max hh.calm) hg hm (by decide +kernel) (by decide) (by decide) ns ha fun F Hs H x v Q s r1 po => ?_
  unfold vMax1 at po
  split at po
  · rename_i ds
    cases e : allInt ds with
    | none => rw [e] at po; exact po.elim
    | some bs =>
      rw [e] at po
      rw [allInt_some e] at r1
      obtain ⟨l, xs, rfl, h1, h2, h3⟩ := bo_list s r1
      have ex := rpa_ints h3
      subst ex
      cases bs with
      | nil => exact po.elim
      | cons n r =>
        refine ⟨_, _, rfl, h1, by simp, fun m hm1 hm2 => ?_⟩
        obtain ⟨q1, q2, q3⟩ := maxL_spec r n
        have em : m = maxL n r := by
          refine Int.le_antisymm ?_ (hm2 _ ?_)
          · rcases List.mem_cons.mp hm1 with rfl | hm1
            · exact q2
            · exact q3 m hm1
          · rcases q1 with q1 | q1
            · rw [q1]; simp
            · simp [q1]
        rw [em]
        exact po F H _ (.refl s) (.int _)
  · exact po.elim
theorem ej_min1 (hh : Here X W k) (hg : Gl X "min") (hm : X.mg "min" = none) (ns : NoSt a) (ha : EJ X W O .bo a da) : EJ X W O .sh (.Call (.Name "min" p) [a] [] pos) (eUn vMin1 da) := by
  refine ej_b1 (cr_min hh.calm) hg hm (by decide +kernel) (by decide) (by decide) ns ha fun F Hs H x v Q s r1 po => ?_
  unfold vMin1 at po
  split at po
  · rename_i ds
    cases e : allInt ds with
    | none => rw [e] at po; exact po.elim
    | some bs =>
      rw [e] at po
      rw [allInt_some e] at r1
      obtain ⟨l, xs, rfl, h1, h2, h3⟩ := bo_list s r1
      have ex := rpa_ints h3
      subst ex
      cases bs with
      | nil => exact po.elim
      | cons n r =>
        refine ⟨_, _, rfl, h1, by simp, fun m hm1 hm2 => ?_⟩
        obtain ⟨q1, q2, q3⟩ := minL_spec r n
        have em : m = minL n r := by
          refine Int.le_antisymm (hm2 _ ?_) ?_
          · rcases q1 with q1 | q1
            · rw [q1]; simp
            · simp [q1]
          · rcases List.mem_cons.mp hm1 with rfl | hm1
            · exact q2
            · exact q3 m hm1
        rw [em]
        exact po F H _ (.refl s) (.int _)
  · exact po.elim
theorem ej_max2 (hh : Here X W k) (hg : Gl X "max") (hm : X.mg "max" = none) (ns : NoSt a) (ns2 : NoSt b) (ha : EJ X W O .bo a da) (hb : EJ X W O .bo b db) : EJ X W O .sh (.Call (.Name "max" p) [a, b] [] pos) (eBin vMax2 da db) := by
  refine ej_b2 (call_max2 hh.calm) hg hm (by decide +kernel) (by decide) (by decide) ns ns2 ha hb fun F Hs Hs' H x v y w Q s r1 r2 po => ?_
  unfold vMax2 at po
  split at po
  · cases bo_int r1; cases bo_int r2
    exact ⟨_, _, rfl, po F H _ (.refl s) (.int _)⟩
  · exact po.elim
theorem ej_min2 (hh : Here X W k) (hg : Gl X "min") (hm : X.mg "min" = none) (ns : NoSt a) (ns2 : NoSt b) (ha : EJ X W O .bo a da) (hb : EJ X W O .bo b db) : EJ X W O .sh (.Call (.Name "min" p) [a, b] [] pos) (eBin vMin2 da db) := by
  refine ej_b2 (call_min2 hh.calm) hg hm (by decide +kernel) (by decide) (by decide) ns ns2 ha hb fun F Hs Hs' H x v y w Q s r1 r2 po => ?_
  unfold vMin2 at po
  split at po
  · cases bo_int r1; cases bo_int r2
    exact ⟨_, _, rfl, po F H _ (.refl s) (.int _)⟩
  · exact po.elim
theorem ej_abs (hg : Gl X "abs") (hm : X.mg "abs" = none) (ns : NoSt a) (ha : EJ X W O .bo a da) : EJ X W O .sh (.Call (.Name "abs" p) [a] [] pos) (eUn vAbs da) := by
  refine ej_b1 call_abs hg hm (by decide +kernel) (by decide) (by decide) ns ha fun F Hs H x v Q s r1 po => ?_
  unfold vAbs at po
  split at po
  · cases bo_int r1
    exact ⟨_, rfl, po F H _ (.refl s) (.int _)⟩
  · exact po.elim
theorem ej_int' (hg : Gl X "int") (hm : X.mg "int" = none) (ns : NoSt a) (ha : EJ X W O .bo a da) : EJ X W O .sh (.Call (.Name "int" p) [a] [] pos) (eUn vInt da) := by
  refine ej_t1 (call_int1.or call_int_str) hg hm (by decide +kernel) (by decide) (by decide) ns ha fun F Hs H x v Q s r1 po => ?_
  unfold vInt at po
  split at po
  · cases bo_int r1
    exact .inl (.inl ⟨_, rfl, po F H _ (.refl s) (.int _)⟩)
  · cases bo_bool r1
    exact .inl (.inr ⟨_, rfl, po F H _ (.refl s) (.int _)⟩)
  · obtain ⟨rfl, o, l⟩ := bo_str r1
    split at po
    · rename_i z hz
      cases e : PySem.intText? z with
      | none => rw [e] at po; exact po.elim
      | some n =>
        rw [e] at po
        exact .inr ⟨_, _, rfl, e, hz, po F H _ (.refl s) (.int _)⟩
    · exact po.elim
  · exact po.elim
theorem ej_strI (hg : Gl X "str") (hm : X.mg "str" = none) (ns : NoSt a) (ha : EJ X W O .bo a da) : EJ X W O .sh (.Call (.Name "str" p) [a] [] pos) (eUn vStr da) := by
  refine ej_t1 call_str_int hg hm (by decide +kernel) (by decide) (by decide) ns ha fun F Hs H x v Q s r1 po => ?_
  unfold vStr at po
  split at po
  · cases bo_int r1
    split at po
    · rename_i hz
      exact ⟨_, rfl, hz.1, po F H _ (.refl s) (.str _ hz.2.1 hz.2.2)⟩
    · exact po.elim
  · exact po.elim
  · exact po.elim
theorem ej_bool (hg : Gl X "bool") (hm : X.mg "bool" = none) (ns : NoSt a) (ha : EJ X W O .bo a da) : EJ X W O .sh (.Call (.Name "bool" p) [a] [] pos) (eUn vBool da) := by
  refine ej_t1 call_bool1 hg hm (by decide +kernel) (by decide) (by decide) ns ha fun F Hs H x v Q s r1 po => ?_
  unfold vBool at po
  split at po
  · cases bo_int r1
    exact .inl ⟨_, rfl, po F H _ (.refl s) (.bl _)⟩
  · cases bo_bool r1
    exact .inr ⟨_, rfl, po F H _ (.refl s) (.bl _)⟩
  · exact po.elim
/-- a value's type -/
theorem ty_v {K : Fg} {F Hs H : Hp} {x : V} {v : D} (s : Same F H) (r : RM .bo K F Hs H x v) : TyX K H x (.type (tyD v)) := by
  cases v with
  | none => cases bo_none r; exact .base .non
  | bool b => cases bo_bool r; exact .base (.bl _)
  | int i => cases bo_int r; exact .base (.int _)
  | str z => obtain ⟨rfl, _, h⟩ := bo_str r; exact .base (.str _)
  | list ds =>
    obtain ⟨a, xs, rfl, h1, _, h3⟩ := bo_list s r
    rcases h1 with (h1 | ⟨o, h1⟩) | ⟨o, its, n, h1, h2, _⟩
    · exact .base (.lst h1)
    · exact .base (.frz h1)
    · exact .kList h1 h2
  | tuple ds =>
    obtain ⟨a, xs, rfl, h1, _, _, h3⟩ := bo_tup s r
    rcases h1 with (h1 | ⟨o, h1⟩) | ⟨o, its, n, h1, h2, _⟩
    · exact .base (.tup h1)
    · exact .fTuple h1
    · exact .kTuple h1 h2
  | dict ps =>
    obtain ⟨a, kvs, rfl, h1, _, h3⟩ := bo_dict s r
    rcases h1 with h1 | ⟨od, h1⟩
    · exact .base (.dK h1)
    · exact .fDict h1
/-- isinstance(x, T), T a built-in type by its name -/
theorem ej_isi {T : Str} {Tn : String} {p2 : Pos} (hg : Gl X "isinstance") (hm : X.mg "isinstance" = none) (hgT : Gl X T) (hmT : X.mg T = none) (hv : bootBuiltins T = some (.type Tn)) (hn : T ≠ "__name__") (hd : (T == ("__debug__" : Str)) = false)
    (ns : NoSt a) (ha : EJ X W O .bo a da) : EJ X W O .sh (.Call (.Name "isinstance" p) [a, .Name T p2] [] pos) (eUn (vIsi Tn) da) := by
  refine ej_un ha (r := fun x H Q => rIsi X.K [x, .ty Tn] H Q) (fun t h1 => pe_callB call_isi hg hm (by decide +kernel) (pa_cons h1 (pa_cons (pe_bltn hgT hmT hv (show RelV (.ty Tn) (.type Tn) from rfl) hn hd) pa_nil) (ns _ _)) (by decide) (by decide) (ns _ _)) fun F Hs H x v Q s r1 po => ?_
  unfold vIsi at po
  cases e : kitB (tyD v) Tn with
  | none => rw [e] at po; exact po.elim
  | some b =>
    rw [e] at po
    exact ⟨x, .ty Tn, .type (tyD v), .type Tn, b, rfl, .ty _, ty_v s r1, kit_ty e, po F H _ (.refl s) (.bl _)⟩
end
end PL

end
section
namespace PL
open PySem PySem.Spec PyProof.Rows L2

def RPost (K : Fg) (mg : Str → Option Value) (m : Mode) (F H : Hp) (r : Res D) (Q : VK) (E : XK) : Prop :=
  match r with
  | .ok v => ∀ F' H' x, Ext F H F' H' → RM m K F' H H' x v → Q x H'
  | .exn e => ∀ F' H' cls dd, Ext F H F' H' → ExRp K mg F' H' cls dd e → E cls dd H'
  | .bad => False
def spOf (K : Fg) (mg : Str → Option Value) (n : Nat) (m : Mode) (d : List D → Res D) : Sp := fun vs H Q E =>
  vs.length = n ∧ ∃ F ds, Same F H ∧ RpA K F vs ds ∧ RPost K mg m F H (d ds) Q E
abbrev DefOk (P : Program) (w : World) (K : Fg) (mg : Str → Option Value) (base : Heap) (k : Nat) (f : Addr) (fd : FuncData) (ps : List Str) (m : Mode) (d : List D → Res D) : Prop :=
  FnOk P w K mg base (L2.CX P w) k f fd ps (spOf K mg ps.length m d)

/-- arguments without stars, as the rules ask -/
def NoStars (es : List Expr) : Prop := ∀ (env : PySem.Env) (pos : Pos), (backTo pos (starEach es env)).any (·.1) = false
theorem noStars_nil : NoStars [] := fun _ _ => rfl
theorem noStars_cons {a : Expr} {es : List Expr} (h : NoSt a) (t : NoStars es) : NoStars (a :: es) := fun env pos => by
  rw [h]
  show ((false || (backTo pos (starEach es env)).any (·.1))) = false
  rw [t env pos]; rfl
section
variable {X : Cx} {W : WX} {O : List Nat} {k j : Nat} {m m1 m2 : Mode} {e a b c : Expr} {es : List Expr} {d da db : DE} {das : DA} {pos p : Pos} {x : Str}
def eCall (f : List D → Res D) (das : DA) : DE := fun ρ => (das ρ).bind f
/-- f(a, ..): the defaults dvs fill up -/
theorem ej_callD {f : Addr} {fd : FuncData} {ps : List Str} {df : List D → Res D} {dvs : List V} {dds : List D} {ds : List Value} (F : DefOk X.prog X.w X.K X.mg X.base k f fd ps m df) (hh : Here X W j) (hk : k ≤ j) (hg : Gl X x) (hm : X.mg x = some (.ref f))
    (kp : PySem.W.keepIn X.K (.ref f) = true) (hb : Binds X.K fd ps ds) (hd : Vals dvs ds) (hr : ∀ F, RpA X.K F dvs dds) (hl : (a :: es).length + dvs.length = ps.length) (hdb : (x == ("__debug__" : Str)) = false) (ns : NoSt a) (nss : NoStars es)
    (ha : AJ X W O (a :: es) das) (hal : ∀ ρ ds, das ρ = .ok ds → ds.length = (a :: es).length) : EJ X W O m (.Call (.Name x p) (a :: es) [] pos) (eCall (fun ds => df (ds ++ dds)) das) := by
  obtain ⟨t, pa, q⟩ := ha
  refine ⟨_, pe_callSD F (hh.hr.mono hk) hg hm kp hb hd (fun σ => passAt hh.tk σ) pa hdb (ns _ _) (nss _ _), fun F0 H0 F H σ ρ Q s po => ?_⟩
  refine q F0 H0 F H σ ρ _ s (EPost.bindA po fun ds F' H' xs hds e rm po' => ?_)
  refine ⟨?_, F', ds ++ dds, e.fh, rm.append (hr F'), ?_⟩
  · rw [List.length_append, rm.length, hal ρ ds hds]; exact hl
  · have po' : EPost X W m F' H' σ (df (ds ++ dds)) Q := po'
    cases hd : df (ds ++ dds) with
    | ok v => rw [hd] at po'; exact po'
    | exn c => rw [hd] at po'; exact po'
    | bad => rw [hd] at po'; exact po'
theorem alen_nil : ∀ ρ ds, aNil ρ = .ok ds → ds.length = ([] : List Expr).length := fun _ _ h => by cases h; rfl
theorem alen_cons {das : DA} (h : ∀ ρ ds, das ρ = .ok ds → ds.length = es.length) : ∀ ρ ds, aCons da das ρ = .ok ds → ds.length = (a :: es).length := fun ρ ds q => by
  unfold aCons at q
  cases h1 : da ρ with
  | ok v =>
    rw [h1] at q
    cases h2 : das ρ with
    | ok vs =>
      rw [h2] at q
      cases q
      simp [h ρ vs h2]
    | exn c => rw [h2] at q; cases q
    | bad => rw [h2] at q; cases q
  | exn c => rw [h1] at q; cases q
  | bad => rw [h1] at q; cases q
theorem ej_call {f : Addr} {fd : FuncData} {ps : List Str} {df : List D → Res D} (F : DefOk X.prog X.w X.K X.mg X.base k f fd ps m df) (hh : Here X W j) (hk : k ≤ j) (hg : Gl X x) (hm : X.mg x = some (.ref f))
    (kp : PySem.W.keepIn X.K (.ref f) = true) (hb : Binds X.K fd ps []) (hl : (a :: es).length = ps.length) (hdb : (x == ("__debug__" : Str)) = false) (ns : NoSt a) (nss : NoStars es)
    (ha : AJ X W O (a :: es) das) (hal : ∀ ρ ds, das ρ = .ok ds → ds.length = (a :: es).length) : EJ X W O m (.Call (.Name x p) (a :: es) [] pos) (eCall df das) := by
  have h := ej_callD (dds := []) F hh hk hg hm kp hb .nil (fun _ => .nil) (by simpa using hl) hdb ns nss ha hal (p := p) (pos := pos)
  have e : (fun ds => df (ds ++ [])) = df := by funext ds; rw [List.append_nil]
  rw [e] at h
  exact h
end

def SPost (X : Cx) (W : WX) (F0 H0 F : Hp) (m : Mode) (O' OL : List Nat) (r : SRes) (Dn : Ends) : Prop :=
  match r with
  | .nx ρ' => ∀ F' H' σ', Same F F' → SR X.K F0 H0 O' F' H' σ' ρ' → Dn.nx σ' H'
  | .rt v => ∀ F' H' x, Ext F0 H0 F' H' → RM m X.K F' H0 H' x v → Dn.rt x H'
  | .bk ρ' => ∀ F' H' σ', Same F F' → SR X.K F0 H0 OL F' H' σ' ρ' → Dn.bk σ' H'
  | .ct ρ' => ∀ F' H' σ', Same F F' → SR X.K F0 H0 OL F' H' σ' ρ' → Dn.ct σ' H'
  | .ex e ρ' => ∀ O2 F' H' σ' cls dd, SR X.K F0 H0 O2 F' H' σ' ρ' → ExRp X.K X.mg F' H' cls dd e → W cls dd σ' H'
  | .bad => False
def SJ (X : Cx) (W : WX) (m : Mode) (O O' OL : List Nat) (st : Stmt) (d : DS) : Prop :=
  ∃ t, PS X st t ∧ ∀ F0 H0 F H σ ρ Dn, SR X.K F0 H0 O F H σ ρ → SPost X W F0 H0 F m O' OL (d ρ) Dn → t Dn σ H
def BJ (X : Cx) (W : WX) (m : Mode) (O O' OL : List Nat) (st : List Stmt) (d : DS) : Prop :=
  ∃ t, PSs X st t ∧ ∀ F0 H0 F H σ ρ Dn, SR X.K F0 H0 O F H σ ρ → SPost X W F0 H0 F m O' OL (d ρ) Dn → t Dn σ H

section
variable {X : Cx} {W : WX} {O O' O1 OL : List Nat} {m : Mode} {F0 H0 F H : Hp} {σ : L2.St} {ρ : Lo} {Dn : Ends}
theorem ExRp.mono {K : Fg} {mg : Str → Option Value} {F F' H : Hp} {cls : Value} {dd : Option Addr} {e : D} (s : Same F F') (h : ExRp K mg F H cls dd e) : ExRp K mg F' H cls dd e := by
  obtain ⟨c, args, h1, h2, h3⟩ := h
  refine ⟨c, args, h1, h2, ?_⟩
  rcases h3 with h3 | ⟨f, v, d, x, q1, q2, q3, q4⟩
  · exact .inl h3
  · exact .inr ⟨f, v, d, x, q1, q2, q3, q4.mono s⟩
theorem SPost.ext {F1 : Hp} {r : SRes} (e : Same F F1) (h : SPost X W F0 H0 F m O' OL r Dn) : SPost X W F0 H0 F1 m O' OL r Dn := by
  cases r with
  | nx ρ' => exact fun F' H' σ' a b => h F' H' σ' (e.trans a) b
  | bk ρ' => exact fun F' H' σ' a b => h F' H' σ' (e.trans a) b
  | ct ρ' => exact fun F' H' σ' a b => h F' H' σ' (e.trans a) b
  | rt v => exact h
  | ex c ρ' => exact h
  | bad => exact h
/-- what an expression lets out, seen from its statement -/
theorem exn_of {e : D} {m' : Mode} {Q : VK} (s : SR X.K F0 H0 O F H σ ρ) (po : SPost X W F0 H0 F m O' OL (.ex e ρ) Dn) : EPost X W m' F H σ (.exn e) Q := by
  intro F' H' cls dd ext er
  exact po O F' H' σ cls dd (s.ext ext) er
end
def sSkip : DS := fun ρ => .nx ρ
def sSeq (a b : DS) : DS := fun ρ => match a ρ with
  | .nx ρ' => b ρ'
  | r => r
def sOf (r : Res D) (ρ : Lo) (f : D → SRes) : SRes := match r with
  | .ok v => f v
  | .exn e => .ex e ρ
  | .bad => .bad
def sOfT (r : Res Bool) (ρ : Lo) (f : Bool → SRes) : SRes := match r with
  | .ok v => f v
  | .exn e => .ex e ρ
  | .bad => .bad
def sIf (c : DT) (a b : DS) : DS := fun ρ => sOfT (c ρ) ρ fun k => if k = true then a ρ else b ρ
def sSet (i : Nat) (e : DE) : DS := fun ρ => sOf (e ρ) ρ fun v => .nx (ρ.set i (some v))
/-- .. of a new list or dict that the def will change -/
def sSetO (i : Nat) (e : DE) : DS := fun ρ => sOf (e ρ) ρ fun v => if isMut v = true then .nx (ρ.set i (some v)) else .bad
def sRet (e : DE) : DS := fun ρ => sOf (e ρ) ρ fun v => .rt v
def sRetN : DS := fun _ => .rt .none
def sExpr (e : DE) : DS := fun ρ => sOf (e ρ) ρ fun _ => .nx ρ
def sBreak : DS := fun ρ => .bk ρ
def sCont : DS := fun ρ => .ct ρ
section
variable {X : Cx} {W : WX} {O O' O1 OL : List Nat} {k : Nat} {m m1 : Mode} {e : Expr} {de : DE} {dt : DT} {d da db : DS} {st : Stmt} {sts : List Stmt} {pos : Pos}
theorem bj_nil : BJ X W m O O OL [] sSkip := ⟨_, pss_nil, fun F0 H0 F H σ ρ Dn s po => po F H σ (.refl _) s⟩
theorem bj_cons (h1 : SJ X W m O O1 OL st da) (h2 : BJ X W m O1 O' OL sts db) : BJ X W m O O' OL (st :: sts) (sSeq da db) := by
  obtain ⟨t, p, q⟩ := h1
  obtain ⟨u, p2, q2⟩ := h2
  refine ⟨_, pss_cons p p2, fun F0 H0 F H σ ρ Dn s po => q F0 H0 F H σ ρ _ s ?_⟩
  unfold sSeq at po
  cases e : da ρ with
  | nx ρ' => rw [e] at po; exact fun F' H' σ' a s' => q2 F0 H0 F' H' σ' ρ' Dn s' (SPost.ext a po)
  | rt v => rw [e] at po; exact po
  | bk ρ' => rw [e] at po; exact po
  | ct ρ' => rw [e] at po; exact po
  | ex c ρ' => rw [e] at po; exact po
  | bad => rw [e] at po; exact po
theorem ps_lkN {X : Cx} {st : Stmt} {t : TS} (n : Nat) (h : PS X st t) : PS X st (tLkN n t) := by
  refine ⟨fun pins s σ H Dn I hw => thn (h.run pins s σ H _ I hw) fun f s1 q => ?_⟩
  cases f with
  | next =>
    obtain ⟨σ', H', I2, q⟩ := q
    obtain ⟨H2, I3, q2⟩ := LkP.inv q I2
    exact ⟨σ', H2, I3, q2⟩
  | brk => exact q
  | cont => exact q
  | ret v => exact q
theorem pss_lkN {X : Cx} {st : List Stmt} {t : TS} (n : Nat) (h : PSs X st t) : PSs X st (tLkN n t) := by
  refine ⟨fun pins s σ H Dn I hw => thn (h.run pins s σ H _ I hw) fun f s1 q => ?_⟩
  cases f with
  | next =>
    obtain ⟨σ', H', I2, q⟩ := q
    obtain ⟨H2, I3, q2⟩ := LkP.inv q I2
    exact ⟨σ', H2, I3, q2⟩
  | brk => exact q
  | cont => exact q
  | ret v => exact q
theorem pss_lkB {X : Cx} {st : List Stmt} {t : TS} (n : Nat) (h : PSs X st t) : PSs X st (tLkB n t) :=
  ⟨fun pins s σ H Dn I hw => by
    obtain ⟨H2, I2, q⟩ := LkP.inv (P := t Dn σ) hw I
    exact h.run pins s σ H2 Dn I2 q⟩
theorem ps_lkB {X : Cx} {st : Stmt} {t : TS} (n : Nat) (h : PS X st t) : PS X st (tLkB n t) :=
  ⟨fun pins s σ H Dn I hw => by
    obtain ⟨H2, I2, q⟩ := LkP.inv (P := t Dn σ) hw I
    exact h.run pins s σ H2 Dn I2 q⟩
/-- slots shared from here on -/
theorem BJ.drop (I : List Nat) (h : BJ X W m (O.filter fun j => !I.contains j) O' OL sts d) : BJ X W m O O' OL sts d := by
  obtain ⟨t, p, q⟩ := h
  exact ⟨_, pss_lkB I.length p, fun F0 H0 F H σ ρ Dn s po => LkP.mono (fun H' ⟨F', a, s'⟩ => q F0 H0 F' H' σ ρ Dn s' (SPost.ext a po)) (s.drop I)⟩
/-- .. behind it -/
theorem SJ.dropO (I : List Nat) (h : SJ X W m O (O'.filter fun j => !I.contains j) OL st d) (hO : O'.filter (fun j => !I.contains j) = O1) : SJ X W m O O1 OL st d := hO ▸ h
theorem SJ.outDrop (I : List Nat) (h : SJ X W m O O' OL st d) : SJ X W m O (O'.filter fun j => !I.contains j) OL st d := by
  obtain ⟨t, p, q⟩ := h
  refine ⟨_, ps_lkN I.length p, fun F0 H0 F H σ ρ Dn s po => q F0 H0 F H σ ρ _ s ?_⟩
  cases e : d ρ with
  | nx ρ' =>
    rw [e] at po
    intro F' H' σ' a s'
    exact LkP.mono (fun H2 ⟨F2, b, s2⟩ => po F2 H2 σ' (a.trans b) s2) (s'.drop I)
  | rt v => rw [e] at po; exact po
  | bk ρ' => rw [e] at po; exact po
  | ct ρ' => rw [e] at po; exact po
  | ex c ρ' => rw [e] at po; exact po
  | bad => rw [e] at po; exact po
theorem BJ.outDrop (I : List Nat) (h : BJ X W m O O' OL sts d) : BJ X W m O (O'.filter fun j => !I.contains j) OL sts d := by
  obtain ⟨t, p, q⟩ := h
  refine ⟨_, pss_lkN I.length p, fun F0 H0 F H σ ρ Dn s po => q F0 H0 F H σ ρ _ s ?_⟩
  cases e : d ρ with
  | nx ρ' =>
    rw [e] at po
    intro F' H' σ' a s'
    exact LkP.mono (fun H2 ⟨F2, b, s2⟩ => po F2 H2 σ' (a.trans b) s2) (s'.drop I)
  | rt v => rw [e] at po; exact po
  | bk ρ' => rw [e] at po; exact po
  | ct ρ' => rw [e] at po; exact po
  | ex c ρ' => rw [e] at po; exact po
  | bad => rw [e] at po; exact po
/-- code that the walk never passes: a block that does not go on has any slots behind it -/
def NoNx (d : DS) : Prop := ∀ ρ ρ', d ρ ≠ .nx ρ'
theorem BJ.any (n : NoNx d) (h : BJ X W m O O1 OL sts d) : BJ X W m O O' OL sts d := by
  obtain ⟨t, p, q⟩ := h
  refine ⟨t, p, fun F0 H0 F H σ ρ Dn s po => q F0 H0 F H σ ρ Dn s ?_⟩
  cases e : d ρ with
  | nx ρ' => exact (n ρ ρ' e).elim
  | rt v => rw [e] at po; exact po
  | bk ρ' => rw [e] at po; exact po
  | ct ρ' => rw [e] at po; exact po
  | ex c ρ' => rw [e] at po; exact po
  | bad => rw [e] at po; exact po
theorem noNx_ret {e : DE} : NoNx (sRet e) := fun ρ ρ' h => by
  unfold sRet sOf at h
  cases q : e ρ <;> rw [q] at h <;> cases h
theorem noNx_retN : NoNx sRetN := fun ρ ρ' h => by cases h
theorem noNx_break : NoNx sBreak := fun ρ ρ' h => by cases h
theorem noNx_cont : NoNx sCont := fun ρ ρ' h => by cases h
theorem noNx_seq1 (h : NoNx da) : NoNx (sSeq da db) := fun ρ ρ' q => by
  unfold sSeq at q
  cases e : da ρ with
  | nx r => exact h ρ r e
  | _ => rw [e] at q; cases q
theorem noNx_seq2 (h : NoNx db) : NoNx (sSeq da db) := fun ρ ρ' q => by
  unfold sSeq at q
  cases e : da ρ with
  | nx r => rw [e] at q; exact h r ρ' q
  | _ => rw [e] at q; cases q
theorem noNx_if {c : DT} (h1 : NoNx da) (h2 : NoNx db) : NoNx (sIf c da db) := fun ρ ρ' q => by
  unfold sIf sOfT at q
  cases e : c ρ with
  | ok b =>
    rw [e] at q
    cases b with
    | true => exact h1 ρ ρ' q
    | false => exact h2 ρ ρ' q
  | _ => rw [e] at q; cases q

theorem sOf_post {F0 H0 F H : Hp} {σ : L2.St} {ρ : Lo} {Dn : Ends} {r : Res D} {f : D → SRes} {Q : VK} (s : SR X.K F0 H0 O F H σ ρ) (po : SPost X W F0 H0 F m O' OL (sOf r ρ f) Dn)
    (k : ∀ v F' H' x, SR X.K F0 H0 O F' H' σ ρ → Ext F H F' H' → RM m1 X.K F' H H' x v → SPost X W F0 H0 F' m O' OL (f v) Dn → Q x H') : EPost X W m1 F H σ r Q := by
  cases r with
  | ok v => exact fun F' H' x e rm => k v F' H' x (s.ext e) e rm (SPost.ext e.ff po)
  | exn c => exact exn_of s po
  | bad => exact po
theorem sj_if {c : Expr} {dc : DT} {a b : List Stmt} (hc : TJ X W O c dc) (ha : BJ X W m O O' OL a da) (hb : BJ X W m O O' OL b db) : SJ X W m O O' OL (.If c a b pos) (sIf dc da db) := by
  obtain ⟨t, p, q⟩ := hc
  obtain ⟨u, p1, q1⟩ := ha
  obtain ⟨v, p2, q2⟩ := hb
  refine ⟨_, ps_if p p1 p2, fun F0 H0 F H σ ρ Dn s po => q F0 H0 F H σ ρ _ s ?_⟩
  unfold sIf at po
  cases e : dc ρ with
  | ok k =>
    rw [e] at po
    intro F' H' ex
    cases k with
    | true => exact q1 F0 H0 F' H' σ ρ Dn (s.ext ex) (SPost.ext ex.ff po)
    | false => exact q2 F0 H0 F' H' σ ρ Dn (s.ext ex) (SPost.ext ex.ff po)
  | exn c =>
    rw [e] at po
    exact exn_of (m' := .sh) (Q := fun _ _ => True) s po
  | bad => rw [e] at po; exact po
/-- name = value -/
theorem sj_set {i : Nat} (hi : i ∉ O) (he : EJ X W O .sh e de) (h : ∀ t, PE X e t → PS X st (tAsg t (gName i))) : SJ X W m O O OL st (sSet i de) := by
  obtain ⟨t, p, q⟩ := he
  refine ⟨_, h t p, fun F0 H0 F H σ ρ Dn s po => q F0 H0 F H σ ρ _ s (sOf_post (m1 := .sh) s po fun v F' H' x s' ex rm po' => ?_)⟩
  exact po' F' H' _ (.refl _) (s'.setS hi rm)
/-- name = a new list: an owned slot -/
theorem sj_setO {i : Nat} (hO : (i :: O.filter fun j => j != i) = O') (he : EJ X W O .fr e de) (h : ∀ t, PE X e t → PS X st (tAsg t (gName i))) : SJ X W m O O' OL st (sSetO i de) := by
  subst hO
  obtain ⟨t, p, q⟩ := he
  refine ⟨_, h t p, fun F0 H0 F H σ ρ Dn s po => q F0 H0 F H σ ρ _ s ?_⟩
  unfold sSetO sOf at po
  cases e : de ρ with
  | ok v =>
    rw [e] at po
    intro F' H' x ex rm
    by_cases hv : isMut v = true
    · have po : SPost X W F0 H0 F m _ OL (if isMut v = true then .nx (ρ.set i (some v)) else .bad) Dn := po
      rw [if_pos hv] at po
      rcases rm with ⟨hn, _⟩ | ⟨a, o, rfl, h2, h3, h4, h5⟩
      · rw [hv] at hn; cases hn
      · have s' := s.ext ex
        refine po F' H' _ ex.ff (s'.setO h2 h3 h4 (free_of s.e0.hh h5) fun j w hj hne hw hs => ?_)
        obtain ⟨b, ob, q1, q2, _⟩ := s.ow j w hj hw
        rw [hs] at q1
        cases q1
        rw [h5] at q2; cases q2
    · have po : SPost X W F0 H0 F m _ OL (if isMut v = true then .nx (ρ.set i (some v)) else .bad) Dn := po
      rw [if_neg hv] at po
      exact po.elim
  | exn c => rw [e] at po; exact exn_of s po
  | bad => rw [e] at po; exact po
theorem sj_ret (he : EJ X W O .sh e de) : SJ X W .sh O O' OL (.Return (some e) pos) (sRet de) := by
  obtain ⟨t, p, q⟩ := he
  refine ⟨_, ps_ret p, fun F0 H0 F H σ ρ Dn s po => q F0 H0 F H σ ρ _ s (sOf_post (m1 := .sh) s po fun v F' H' x s' ex rm po' => ?_)⟩
  exact po' F' H' x s'.e0 rm
theorem sj_retF (he : EJ X W O .fr e de) : SJ X W .fr O O' OL (.Return (some e) pos) (sRet de) := by
  obtain ⟨t, p, q⟩ := he
  refine ⟨_, ps_ret p, fun F0 H0 F H σ ρ Dn s po => q F0 H0 F H σ ρ _ s (sOf_post (m1 := .fr) s po fun v F' H' x s' ex rm po' => ?_)⟩
  exact po' F' H' x s'.e0 (rm.back s.e0.hh)
/-- return x, x an owned slot -/
theorem sj_retO {i : Nat} {x : Str} {p' : Pos} (hi : i ∈ O) (h : PE X (.Name x p') (tVar i)) : SJ X W .fr O O' OL (.Return (some (.Name x p')) pos) (sRet (eVar i)) := by
  refine ⟨_, ps_ret h, fun F0 H0 F H σ ρ Dn s po => ?_⟩
  unfold sRet sOf eVar at po
  cases hv : ρ[i]? with
  | none => rw [hv] at po; exact po.elim
  | some ov =>
    cases ov with
    | none => rw [hv] at po; exact po.elim
    | some v =>
      rw [hv] at po
      obtain ⟨a, o, h1, h2, h3, h4, h5⟩ := s.ow i v hi hv
      exact ⟨_, h1, po F H _ s.e0 (.inr ⟨a, o, rfl, h2, h3, h4, h5⟩)⟩
theorem sj_retN : SJ X W .sh O O' OL (.Return none pos) sRetN := ⟨_, ps_retN, fun F0 H0 F H σ ρ Dn s po => po F H _ s.e0 .non⟩
theorem sj_expr (he : EJ X W O .sh e de) (hs : swapsWith e none pos.line X.env = pure false := by rfl) : SJ X W m O O OL (.Expr e pos) (sExpr de) := by
  obtain ⟨t, p, q⟩ := he
  refine ⟨_, ps_expr p hs, fun F0 H0 F H σ ρ Dn s po => q F0 H0 F H σ ρ _ s (sOf_post (m1 := .sh) s po fun v F' H' x s' ex rm po' => ?_)⟩
  exact po' F' H' σ (.refl _) s'
theorem sj_pass : SJ X W m O O OL (.Pass pos) sSkip := ⟨_, ps_pass, fun F0 H0 F H σ ρ Dn s po => po F H σ (.refl _) s⟩
theorem sj_break : SJ X W m O O' O (.Break pos) sBreak := ⟨_, ps_break, fun F0 H0 F H σ ρ Dn s po => po F H σ (.refl _) s⟩
theorem sj_cont : SJ X W m O O' O (.Continue pos) sCont := ⟨_, ps_continue, fun F0 H0 F H σ ρ Dn s po => po F H σ (.refl _) s⟩
end
end PL

end
section
namespace PL
open PySem PySem.Spec PyProof.Rows L2

theorem wipe_get (σ : L2.St) : ∀ (vs : List Nat) (j : Nat), (wipe σ vs)[j]? = if j ∈ vs then (σ[j]?).map (fun _ => none) else σ[j]?
  | [], j => by simp [wipe]
  | v :: vs, j => by
    have ih := wipe_get σ vs j
    unfold wipe
    by_cases hj : j = v
    · subst hj
      rw [List.getElem?_set]
      simp only [List.mem_cons, true_or, if_true]
      by_cases hl : j < (wipe σ vs).length
      · rw [if_pos hl]
        rw [wipe_length] at hl
        rw [List.getElem?_eq_getElem hl]; rfl
      · rw [if_neg hl]
        rw [wipe_length] at hl
        rw [List.getElem?_eq_none (by omega)]; rfl
    · rw [List.getElem?_set_ne (Ne.symm hj), ih]
      simp [hj]
theorem wipe_set {σ : L2.St} {vs : List Nat} {i : Nat} {x : Option V} (h : i ∈ vs) : wipe (σ.set i x) vs = wipe σ vs := by
  apply List.ext_getElem?
  intro j
  rw [wipe_get, wipe_get]
  by_cases hj : j = i
  · subst hj
    rw [if_pos h, if_pos h, List.getElem?_set]
    by_cases hl : j < σ.length
    · simp [hl]
    · simp [hl]
  · rw [List.getElem?_set_ne (Ne.symm hj)]
theorem wipe_wipe {σ : L2.St} {vs : List Nat} : wipe (wipe σ vs) vs = wipe σ vs := by
  apply List.ext_getElem?
  intro j
  rw [wipe_get, wipe_get]
  by_cases hj : j ∈ vs
  · simp only [if_pos hj, Option.map_map]; rfl
  · simp only [if_neg hj]
def wipeD (ρ : Lo) : List Nat → Lo
  | [] => ρ
  | v :: vs => (wipeD ρ vs).set v none
theorem SR.wipe {K : Fg} {F0 H0 F H : Hp} {O : List Nat} {σ : L2.St} {ρ : Lo} (s : SR K F0 H0 O F H σ ρ) : ∀ vs : List Nat, SR K F0 H0 O F H (wipe σ vs) (wipeD ρ vs)
  | [] => s
  | v :: vs => (SR.wipe s vs).wipe1

abbrev DG := D → Lo → Option Lo
abbrev DGs := List D → Lo → Option Lo
def GJ (X : Cx) (O ts : List Nat) (tg : Expr) (g : DG) : Prop :=
  ∃ t, PG X tg t ∧ ∀ F0 H0 F H σ ρ x v Q, SR X.K F0 H0 O F H σ ρ → Rp X.K F x v → (match g v ρ with
    | some ρ' => ∀ σ', SR X.K F0 H0 O F H σ' ρ' → (∀ vs : List Nat, (∀ i ∈ ts, i ∈ vs) → wipe σ' vs = wipe σ vs) → Q σ' H
    | none => False) → t x σ H Q
def GsJ (X : Cx) (O ts : List Nat) (tgs : List Expr) (g : DGs) : Prop :=
  ∃ t, PGs X tgs t ∧ ∀ F0 H0 F H σ ρ xs ds Q, SR X.K F0 H0 O F H σ ρ → RpA X.K F xs ds → (match g ds ρ with
    | some ρ' => ∀ σ', SR X.K F0 H0 O F H σ' ρ' → (∀ vs : List Nat, (∀ i ∈ ts, i ∈ vs) → wipe σ' vs = wipe σ vs) → Q σ' H
    | none => False) → t xs σ H Q
def gN (i : Nat) : DG := fun v ρ => some (ρ.set i (some v))
def gsNil : DGs := fun ds ρ => match ds with
  | [] => some ρ
  | _ => none
def gsCons (g : DG) (gs : DGs) : DGs := fun ds ρ => match ds with
  | [] => none
  | d :: r => match g d ρ with
    | some ρ' => gs r ρ'
    | none => none
def gT (n : Nat) (gs : DGs) : DG := fun v ρ => match v with
  | .tuple ds => if ds.length = n then gs ds ρ else none
  | _ => none
section
variable {X : Cx} {W : WX} {O ts ts' : List Nat} {k : Nat} {tg : Expr} {tgs : List Expr} {g : DG} {gs : DGs} {pos : Pos}
theorem gj_name {i : Nat} (hi : i ∉ O) (h : PG X tg (gName i)) : GJ X O [i] tg (gN i) :=
  ⟨_, h, fun F0 H0 F H σ ρ x v Q s r po => po _ (s.setS hi r) fun vs hv => wipe_set (hv i (by simp))⟩
theorem gsj_nil : GsJ X O [] [] gsNil := ⟨_, pgs_nil, fun F0 H0 F H σ ρ xs ds Q s r po => by
  cases r with
  | nil => exact ⟨rfl, po σ s fun _ _ => rfl⟩
  | cons _ _ => exact po.elim⟩
theorem gsj_cons (h : GJ X O ts tg g) (h2 : GsJ X O ts' tgs gs) (hs : (assignEach (tg :: tgs) X.env).map (·.2) = assign tg X.env :: (assignEach tgs X.env).map (·.2)) : GsJ X O (ts ++ ts') (tg :: tgs) (gsCons g gs) := by
  obtain ⟨t, p, q⟩ := h
  obtain ⟨u, p2, q2⟩ := h2
  refine ⟨_, pgs_cons p p2 hs, fun F0 H0 F H σ ρ xs ds Q s r po => ?_⟩
  cases r with
  | nil => exact po.elim
  | @cons x xs d ds h1 h2 =>
    refine ⟨x, xs, rfl, q F0 H0 F H σ ρ x d _ s h1 ?_⟩
    have po : (match (match g d ρ with | some ρ' => gs ds ρ' | none => none) with
      | some ρ' => ∀ σ', SR X.K F0 H0 O F H σ' ρ' → (∀ vs : List Nat, (∀ i ∈ ts ++ ts', i ∈ vs) → wipe σ' vs = wipe σ vs) → Q σ' H
      | none => False) := po
    cases e : g d ρ with
    | none => rw [e] at po; exact po
    | some ρ1 =>
      rw [e] at po
      intro σ1 s1 w1
      refine q2 F0 H0 F H σ1 ρ1 xs ds Q s1 h2 ?_
      have po : (match gs ds ρ1 with
        | some ρ' => ∀ σ', SR X.K F0 H0 O F H σ' ρ' → (∀ vs : List Nat, (∀ i ∈ ts ++ ts', i ∈ vs) → wipe σ' vs = wipe σ vs) → Q σ' H
        | none => False) := po
      cases e2 : gs ds ρ1 with
      | none => rw [e2] at po; exact po
      | some ρ2 =>
        rw [e2] at po
        exact fun σ2 s2 w2 => po σ2 s2 fun vs hv => (w2 vs fun i hi => hv i (by simp [hi])).trans (w1 vs fun i hi => hv i (by simp [hi]))
theorem gj_tup {n j : Nat} (hc : X.calm = true) (h : GsJ X O ts tgs gs) (hn : (assignEach tgs X.env).length = n) (hst : (assignEach tgs X.env).findIdx? (·.1) = none) : GJ X O ts (.Tuple tgs j pos) (gT n gs) := by
  obtain ⟨t, p, q⟩ := h
  refine ⟨_, pg_tup hc p hn hst, fun F0 H0 F H σ ρ x v Q s r po => ?_⟩
  unfold gT at po
  cases r with
  | tup h1 h2 h3 =>
    rename_i a xs ds
    have po : (match (if ds.length = n then gs ds ρ else none) with
      | some ρ' => ∀ σ', SR X.K F0 H0 O F H σ' ρ' → (∀ vs : List Nat, (∀ i ∈ ts, i ∈ vs) → wipe σ' vs = wipe σ vs) → Q σ' H
      | none => False) := po
    by_cases hl : ds.length = n
    · rw [if_pos hl] at po
      exact ⟨_, _, rfl, seqT s.sub h1, by rw [h3.length]; exact hl, q F0 H0 F H σ ρ _ _ Q s h3 po⟩
    · rw [if_neg hl] at po; exact po.elim
  | _ => exact po.elim
end

/-- B: the part of the heap that it leans on; BF: what its values lean on -/
structure ItOk (K : Fg) (BF B : Hp) (J : It) (ds : List D) : Prop where
  go : ∀ i H2, Same B H2 → i < ds.length → J.go i H2
  stop : ∀ H2, Same B H2 → J.stop ds.length H2
  yld : ∀ i H2 x H3 F2, Same B H2 → Same BF F2 → Same F2 H2 → i < ds.length → J.yld i H2 x H3 → ∃ F3 d, Ext F2 H2 F3 H3 ∧ ds[i]? = some d ∧ Rp K F3 x d
def IPost (X : Cx) (W : WX) (bo : Bool) (F H : Hp) (σ : L2.St) (r : Res (List D)) (R : It → Hp → Prop) : Prop :=
  match r with
  | .ok ds => ∀ F' H' J, Ext F H F' H' → (bo = true → ds.length ≤ sizeLine) → ItOk X.K F' (if bo then H' else F') J ds → R J H'
  | .exn e => ∀ F' H' cls dd, Ext F H F' H' → ExRp X.K X.mg F' H' cls dd e → W cls dd σ H'
  | .bad => False
/-- bo: for a comprehension: the walked list may be an owned one, its length is within the line -/
def IJ (X : Cx) (W : WX) (O : List Nat) (bo : Bool) (tg iter : Expr) (d : DA) : Prop :=
  ∃ wi, PI X tg iter wi ∧ ∀ F0 H0 F H σ ρ R, SR X.K F0 H0 O F H σ ρ → IPost X W bo F H σ (d ρ) R → wi σ H R
def itemsD : D → Option (List D)
  | .list ds => some ds
  | .tuple ds => some ds
  | .str z => some (z.cps.toList.map fun c => .str ⟨#[c]⟩)
  | _ => none
def iVal (e : DE) : DA := fun ρ => (e ρ).bind fun v => Res.up (itemsD v)
theorem itOk_list {K : Fg} {BF B : Hp} {a : Addr} {xs : List V} {ds : List D} (h : SqL K B a xs) (r : RpA K BF xs ds) : ItOk K BF B (Itl K a) ds where
  go := fun i H2 s hi => by
    rw [← r.length] at hi
    exact ⟨xs, xs[i], s.seq h, List.getElem?_eq_getElem hi⟩
  stop := fun H2 s => ⟨xs, s.seq h, by rw [r.length]; exact Nat.le_refl _⟩
  yld := fun i H2 x H3 F2 s sf sh hi y => by
    obtain ⟨rfl, hy⟩ := y
    obtain ⟨d, h1, h2⟩ := r.getV (hy xs (s.seq h))
    exact ⟨F2, d, .refl sh, h1, h2.mono sf⟩
theorem itOk_tup {K : Fg} {BF B : Hp} {a : Addr} {xs : List V} {ds : List D} (h : SqT K B a xs) (r : RpA K BF xs ds) : ItOk K BF B (Itt K a) ds where
  go := fun i H2 s hi => by
    rw [← r.length] at hi
    exact ⟨xs, xs[i], seqT s h, List.getElem?_eq_getElem hi⟩
  stop := fun H2 s => ⟨xs, seqT s h, by rw [r.length]; exact Nat.le_refl _⟩
  yld := fun i H2 x H3 F2 s sf sh hi y => by
    obtain ⟨rfl, hy⟩ := y
    obtain ⟨d, h1, h2⟩ := r.getV (hy xs (seqT s h))
    exact ⟨F2, d, .refl sh, h1, h2.mono sf⟩
theorem itOk_str {K : Fg} {BF B : Hp} {z : Str} (h : PyData.strOk z = true) : ItOk K BF B (Its z) (z.cps.toList.map fun c => .str ⟨#[c]⟩) where
  go := fun i H2 s hi => by rw [List.length_map] at hi; exact hi
  stop := fun H2 s => by rw [List.length_map]; exact Nat.le_refl _
  yld := fun i H2 x H3 F2 s sf sh hi y => by
    obtain ⟨rfl, c, hc, rfl⟩ := y
    refine ⟨F2, .str ⟨#[c]⟩, .refl sh, ?_, .str _ (strOk_one (strOk_mem h ?_)) one_le_line⟩
    · rw [List.getElem?_map, Array.getElem?_toList, hc]; rfl
    · exact List.mem_of_getElem? (by rw [Array.getElem?_toList]; exact hc)
theorem itOk_range {K : Fg} {BF B : Hp} {lo : Int} {n : Nat} : ItOk K BF B (Itr lo n) ((List.range n).map fun i => .int (lo + (i : Nat))) where
  go := fun i H2 s hi => by rw [List.length_map, List.length_range] at hi; exact hi
  stop := fun H2 s => by rw [List.length_map, List.length_range]; exact Nat.le_refl _
  yld := fun i H2 x H3 F2 s sf sh hi y => by
    obtain ⟨rfl, rfl⟩ := y
    rw [List.length_map, List.length_range] at hi
    exact ⟨F2, _, .refl sh, by rw [List.getElem?_map, List.getElem?_range hi]; rfl, .int _⟩
theorem itOk_rangeC {K : Fg} {BF B : Hp} {lo c : Int} {n : Nat} : ItOk K BF B (Itc lo c n) ((List.range n).map fun i => .int (lo + (i : Nat) * c)) where
  go := fun i H2 s hi => by rw [List.length_map, List.length_range] at hi; exact hi
  stop := fun H2 s => by rw [List.length_map, List.length_range]; exact Nat.le_refl _
  yld := fun i H2 x H3 F2 s sf sh hi y => by
    obtain ⟨rfl, rfl⟩ := y
    rw [List.length_map, List.length_range] at hi
    exact ⟨F2, _, .refl sh, by rw [List.getElem?_map, List.getElem?_range hi]; rfl, .int _⟩
theorem itOk_zipL {K : Fg} {BF B : Hp} {a b : Addr} {xs ys : List V} {ds es : List D} (h : SqL K B a xs) (r : RpA K BF xs ds) (h' : SqL K B b ys) (r' : RpA K BF ys es) : ItOk K BF B (Itz K a b) (List.zipWith (fun d e => .tuple [d, e]) ds es) where
  go := fun i H2 s hi => by
    rw [List.length_zipWith] at hi
    have h1 : i < xs.length := by rw [r.length]; omega
    have h2 : i < ys.length := by rw [r'.length]; omega
    exact ⟨xs, ys, xs[i], ys[i], s.seq h, s.seq h', List.getElem?_eq_getElem h1, List.getElem?_eq_getElem h2⟩
  stop := fun H2 s => ⟨xs, ys, s.seq h, s.seq h', by rw [List.length_zipWith, r.length, r'.length]; omega⟩
  yld := fun i H2 x H3 F2 s sf sh hi y => by
    obtain ⟨T, x1, y1, rfl, hT, rfl, h1, h2⟩ := y
    obtain ⟨d, e1, q1⟩ := r.getV (h1 xs (s.seq h))
    obtain ⟨e, e2, q2⟩ := r'.getV (h2 ys (s.seq h'))
    have sn := same_upd' (o := .tup [x1, y1]) (free_of sh hT)
    refine ⟨_, .tuple [d, e], .newF sh hT, by rw [List.getElem?_zipWith, e1, e2], .tup (SqT.of upd_same) (by show 2 ≤ sizeLine; decide) (.cons ((q1.mono sf).mono sn) (.cons ((q2.mono sf).mono sn) .nil))⟩
theorem itOk_zipT {K : Fg} {BF B : Hp} {a b : Addr} {xs ys : List V} {ds es : List D} (h : SqT K B a xs) (r : RpA K BF xs ds) (h' : SqT K B b ys) (r' : RpA K BF ys es) : ItOk K BF B (RZ.ItzT K a b) (List.zipWith (fun d e => .tuple [d, e]) ds es) where
  go := fun i H2 s hi => by
    rw [List.length_zipWith] at hi
    have h1 : i < xs.length := by rw [r.length]; omega
    have h2 : i < ys.length := by rw [r'.length]; omega
    exact ⟨xs, ys, xs[i], ys[i], seqT s h, seqT s h', List.getElem?_eq_getElem h1, List.getElem?_eq_getElem h2⟩
  stop := fun H2 s => ⟨xs, ys, seqT s h, seqT s h', by rw [List.length_zipWith, r.length, r'.length]; omega⟩
  yld := fun i H2 x H3 F2 s sf sh hi y => by
    obtain ⟨T, x1, y1, rfl, hT, rfl, h1, h2⟩ := y
    obtain ⟨d, e1, q1⟩ := r.getV (h1 xs (seqT s h))
    obtain ⟨e, e2, q2⟩ := r'.getV (h2 ys (seqT s h'))
    have sn := same_upd' (o := .tup [x1, y1]) (free_of sh hT)
    refine ⟨_, .tuple [d, e], .newF sh hT, by rw [List.getElem?_zipWith, e1, e2], .tup (SqT.of upd_same) (by show 2 ≤ sizeLine; decide) (.cons ((q1.mono sf).mono sn) (.cons ((q2.mono sf).mono sn) .nil))⟩
theorem itOk_enum {K : Fg} {BF B : Hp} {a : Addr} {xs : List V} {ds : List D} (h : SqL K B a xs) (r : RpA K BF xs ds) : ItOk K BF B (Ite K a) (ds.zipIdx.map fun p => .tuple [.int (p.2 : Nat), p.1]) where
  go := fun i H2 s hi => by
    rw [List.length_map, List.length_zipIdx, ← r.length] at hi
    exact ⟨xs, xs[i], s.seq h, List.getElem?_eq_getElem hi⟩
  stop := fun H2 s => ⟨xs, s.seq h, by rw [List.length_map, List.length_zipIdx, r.length]; exact Nat.le_refl _⟩
  yld := fun i H2 x H3 F2 s sf sh hi y => by
    obtain ⟨T, x1, rfl, hT, rfl, h1⟩ := y
    obtain ⟨d, e1, q1⟩ := r.getV (h1 xs (s.seq h))
    have sn := same_upd' (o := .tup [.int (i : Nat), x1]) (free_of sh hT)
    refine ⟨_, .tuple [.int (i : Nat), d], .newF sh hT, ?_, .tup (SqT.of upd_same) (by show 2 ≤ sizeLine; decide) (.cons (.int _) (.cons ((q1.mono sf).mono sn) .nil))⟩
    rw [List.getElem?_map, List.getElem?_zipIdx, e1]
    simp
theorem itOk_revL {K : Fg} {BF B : Hp} {a : Addr} {xs : List V} {ds : List D} (h : SqL K B a xs) (r : RpA K BF xs ds) : ItOk K BF B (Itv K a xs.length) ds.reverse where
  go := fun i H2 s hi => by
    rw [List.length_reverse, ← r.length] at hi
    exact ⟨hi, xs, xs[xs.length - 1 - i]'(by omega), s.seq h, List.getElem?_eq_getElem _⟩
  stop := fun H2 s => by rw [List.length_reverse, r.length]; exact Nat.le_refl _
  yld := fun i H2 x H3 F2 s sf sh hi y => by
    obtain ⟨rfl, hy⟩ := y
    obtain ⟨d, h1, h2⟩ := r.getV (hy xs (s.seq h))
    refine ⟨F2, d, .refl sh, ?_, h2.mono sf⟩
    rw [List.length_reverse] at hi
    rw [List.getElem?_reverse hi, ← r.length]
    exact h1
theorem itOk_revT {K : Fg} {BF B : Hp} {a : Addr} {xs : List V} {ds : List D} (h : SqT K B a xs) (r : RpA K BF xs ds) : ItOk K BF B (RT.ItvT K a xs.length) ds.reverse where
  go := fun i H2 s hi => by
    rw [List.length_reverse, ← r.length] at hi
    exact ⟨hi, xs, xs[xs.length - 1 - i]'(by omega), seqT s h, List.getElem?_eq_getElem _⟩
  stop := fun H2 s => by rw [List.length_reverse, r.length]; exact Nat.le_refl _
  yld := fun i H2 x H3 F2 s sf sh hi y => by
    obtain ⟨rfl, hy⟩ := y
    obtain ⟨d, h1, h2⟩ := r.getV (hy xs (seqT s h))
    refine ⟨F2, d, .refl sh, ?_, h2.mono sf⟩
    rw [List.length_reverse] at hi
    rw [List.getElem?_reverse hi, ← r.length]
    exact h1
theorem pi_or {X : Cx} {tg e : Expr} {w1 w2 : TI} (h : PI X tg e w1) (h' : PI X tg e w2) : PI X tg e (fun σ H R => w1 σ H R ∨ w2 σ H R) := by
  refine ⟨fun pins s σ H R I hw => ?_⟩
  rcases hw with hw | hw
  · exact h.run pins s σ H R I hw
  · exact h'.run pins s σ H R I hw
theorem line_lt : sizeLine ≤ 4611686018427387904 := by decide
section
variable {X : Cx} {W : WX} {O : List Nat} {k : Nat} {tg e a b c : Expr} {de da db dc : DE} {pos p : Pos} {m : Mode}
theorem exn_E {F H : Hp} {σ : L2.St} {e : D} {Q : VK} {bo : Bool} {R : It → Hp → Prop} (po : IPost X W bo F H σ (.exn e) R) : EPost X W m F H σ (.exn e) Q := po
/-- a list, a tuple, a text -/
theorem ij_val (he : EJ X W O .sh e de) : IJ X W O false tg e (iVal de) := by
  obtain ⟨t, p, q⟩ := he
  refine ⟨_, pi_or (pi_list p) (pi_or (pi_tup p) (pi_str p)), fun F0 H0 F H σ ρ R s po => ?_⟩
  unfold iVal at po
  cases hd : de ρ with
  | bad => rw [hd] at po; exact po.elim
  | exn c => rw [hd] at po; exact .inl (q F0 H0 F H σ ρ _ s (by rw [hd]; exact exn_E po))
  | ok v =>
    rw [hd] at po
    cases v with
    | list ds =>
      refine .inl (q F0 H0 F H σ ρ _ s ?_)
      rw [hd]
      intro F' H' x ex rm
      cases rm with
      | lst h1 h2 h3 => exact ⟨_, rfl, ⟨_, ex.fh.seq h1⟩, po F' H' _ ex (fun _ => by rw [← h3.length]; exact h2) (itOk_list h1 h3)⟩
    | tuple ds =>
      refine .inr (.inl (q F0 H0 F H σ ρ _ s ?_))
      rw [hd]
      intro F' H' x ex rm
      cases rm with
      | tup h1 h2 h3 => exact ⟨_, rfl, ⟨_, seqT ex.fh h1⟩, po F' H' _ ex (fun _ => by rw [← h3.length]; exact h2) (itOk_tup h1 h3)⟩
    | str z =>
      refine .inr (.inr (q F0 H0 F H σ ρ _ s ?_))
      rw [hd]
      intro F' H' x ex rm
      cases rm with
      | str _ h1 h2 => exact ⟨_, rfl, po F' H' _ ex (fun _ => by rw [List.length_map]; exact h2) (itOk_str h1)⟩
    | _ => exact po.elim
/-- .. where an owned list may be walked -/
theorem ij_valB (he : EJ X W O .bo e de) : IJ X W O true tg e (iVal de) := by
  obtain ⟨t, p, q⟩ := he
  refine ⟨_, pi_or (pi_list p) (pi_or (pi_tup p) (pi_str p)), fun F0 H0 F H σ ρ R s po => ?_⟩
  unfold iVal at po
  cases hd : de ρ with
  | bad => rw [hd] at po; exact po.elim
  | exn c => rw [hd] at po; exact .inl (q F0 H0 F H σ ρ _ s (by rw [hd]; exact exn_E po))
  | ok v =>
    rw [hd] at po
    cases v with
    | list ds =>
      refine .inl (q F0 H0 F H σ ρ _ s ?_)
      rw [hd]
      intro F' H' x ex rm
      obtain ⟨l, xs, rfl, h1, h2, h3⟩ := bo_list ex.fh rm
      exact ⟨_, rfl, ⟨_, h1⟩, po F' H' _ ex (fun _ => by rw [← h3.length]; exact h2) (itOk_list h1 h3)⟩
    | tuple ds =>
      refine .inr (.inl (q F0 H0 F H σ ρ _ s ?_))
      rw [hd]
      intro F' H' x ex rm
      obtain ⟨l, xs, rfl, h1, _, h2, h3⟩ := bo_tup ex.fh rm
      exact ⟨_, rfl, ⟨_, h1⟩, po F' H' _ ex (fun _ => by rw [← h3.length]; exact h2) (itOk_tup h1 h3)⟩
    | str z =>
      refine .inr (.inr (q F0 H0 F H σ ρ _ s ?_))
      rw [hd]
      intro F' H' x ex rm
      obtain ⟨rfl, h1, h2⟩ := bo_str rm
      exact ⟨_, rfl, po F' H' _ ex (fun _ => by rw [List.length_map]; exact h2) (itOk_str h1)⟩
    | _ => exact po.elim
def inR (i : Int) : Bool := decide (-(2 ^ 62) ≤ i ∧ i < 2 ^ 62)
def rangeD (lo hi : Int) : List D := (List.range (hi - lo).toNat).map fun i => .int (lo + (i : Nat))
theorem inR_of {i : Int} (h : inR i = true) : -(2 ^ 62) ≤ i ∧ i < 2 ^ 62 := of_decide_eq_true h
theorem rangeSize_nn (i j c : Int) : ((Builtin.Range.rangeSize i j c).toNat : Int) = Builtin.Range.rangeSize i j c := by
  have hn : 0 ≤ Builtin.Range.rangeSize i j c := by
    unfold Builtin.Range.rangeSize
    split
    · split
      · have := Int.ediv_nonneg (a := j - i - 1) (b := c) (by omega) (by omega)
        omega
      · exact Int.le_refl _
    · split
      · have := Int.ediv_nonneg (a := i - j - 1) (b := -c) (by omega) (by omega)
        omega
      · exact Int.le_refl _
  omega
/-- bo: a comprehension's range has a bound -/
def vRange2 (bo : Bool) : D → D → Option (List D)
  | .int i, .int j => if inR i = true ∧ inR j = true ∧ (bo = true → (j - i).toNat ≤ sizeLine) then some (rangeD i j) else none
  | _, _ => none
def vRange1 (bo : Bool) : D → Option (List D)
  | .int j => if inR j = true ∧ (bo = true → j.toNat ≤ sizeLine) then some (rangeD 0 j) else none
  | _ => none
def vRange3 (bo : Bool) : D → D → D → Option (List D)
  | .int i, .int j, .int c => if c ≠ 0 ∧ c.natAbs < 1073741824 ∧ Builtin.Range.small i j c = true ∧ (bo = true → (Builtin.Range.rangeSize i j c).toNat ≤ sizeLine) then some ((List.range (Builtin.Range.rangeSize i j c).toNat).map fun k => .int (i + (k : Nat) * c)) else none
  | _, _, _ => none
def iR1 (bo : Bool) (d : DE) : DA := fun ρ => (d ρ).bind fun v => Res.up (vRange1 bo v)
def iR2 (bo : Bool) (d d' : DE) : DA := fun ρ => (d ρ).bind fun v => (d' ρ).bind fun w => Res.up (vRange2 bo v w)
def iR3 (bo : Bool) (d d' d'' : DE) : DA := fun ρ => (d ρ).bind fun v => (d' ρ).bind fun w => (d'' ρ).bind fun z => Res.up (vRange3 bo v w z)
theorem IPost.ext {bo : Bool} {F H F1 H1 : Hp} {σ : L2.St} {r : Res (List D)} {R : It → Hp → Prop} (e : Ext F H F1 H1) (h : IPost X W bo F H σ r R) : IPost X W bo F1 H1 σ r R := by
  cases r with
  | ok d => exact fun F' H' J e' => h F' H' J (e.trans e')
  | exn c => exact fun F' H' cls dd e' rm => h F' H' cls dd (e.trans e') rm
  | bad => exact h
theorem IPost.bindE {bo : Bool} {F H : Hp} {σ : L2.St} {r : Res D} {f : D → Res (List D)} {R : It → Hp → Prop} {Q : VK} (h : IPost X W bo F H σ (r.bind f) R) (k : ∀ a F' H' x, r = .ok a → Ext F H F' H' → RM m X.K F' H H' x a → IPost X W bo F' H' σ (f a) R → Q x H') : EPost X W m F H σ r Q := by
  cases r with
  | ok a => exact fun F' H' x e rm => k a F' H' x rfl e rm (IPost.ext e h)
  | exn c => exact h
  | bad => exact h
theorem ij_range1 {bo : Bool} (hg : Gl X "range") (hm : X.mg "range" = none) (ns : NoSt a) (ha : EJ X W O .bo a da) : IJ X W O bo tg (.Call (.Name "range" p) [a] [] pos) (iR1 bo da) := by
  obtain ⟨t, pa, q⟩ := ha
  refine ⟨_, pi_range1 hg hm (pa_cons pa pa_nil (ns _ _)) (ns _ _), fun F0 H0 F H σ ρ R s po => q F0 H0 F H σ ρ _ s (IPost.bindE (m := .bo) po fun v F' H' x _ e rm po' => ?_)⟩
  unfold vRange1 at po'
  split at po'
  · cases bo_int rm
    split at po'
    · rename_i hj
      have h1 := inR_of hj.1
      refine ⟨_, rfl, h1.1, h1.2, ?_⟩
      refine po' F' H' _ (.refl e.fh) (fun hb => ?_) ?_
      · unfold rangeD; rw [Int.sub_zero, List.length_map, List.length_range]; exact hj.2 hb
      · unfold rangeD; rw [Int.sub_zero]; exact itOk_range
    · exact po'.elim
  · exact po'.elim
theorem ij_range2 {bo : Bool} (hg : Gl X "range") (hm : X.mg "range" = none) (ns : NoSt a) (ns2 : NoSt b) (ha : EJ X W O .bo a da) (hb : EJ X W O .bo b db) : IJ X W O bo tg (.Call (.Name "range" p) [a, b] [] pos) (iR2 bo da db) := by
  obtain ⟨t, pa, q⟩ := ha
  obtain ⟨u, pb, q2⟩ := hb
  refine ⟨_, pi_range2 hg hm (pa_cons pa (pa_cons pb pa_nil (ns2 _ _)) (ns _ _)) (by rw [ns, ns2]; rfl) (ns2 _ _), fun F0 H0 F H σ ρ R s po => q F0 H0 F H σ ρ _ s (IPost.bindE (m := .bo) po fun v F' H' x _ e rm po' => ?_)⟩
  refine q2 F0 H0 F' H' σ ρ _ (s.ext e) (IPost.bindE (m := .bo) po' fun w F2 H2 y _ e2 rm2 po2 => ?_)
  unfold vRange2 at po2
  split at po2
  · cases bo_int rm; cases bo_int rm2
    split at po2
    · rename_i hj
      have h1 := inR_of hj.1
      have h2 := inR_of hj.2.1
      refine ⟨_, _, rfl, ⟨h1.1, h1.2, h2.1, h2.2⟩, po2 F2 H2 _ (.refl e2.fh) (fun hb => ?_) itOk_range⟩
      unfold rangeD
      rw [List.length_map, List.length_range]; exact hj.2.2 hb
    · exact po2.elim
  · exact po2.elim
theorem ij_range3 {bo : Bool} (hg : Gl X "range") (hm : X.mg "range" = none) (ns : NoSt a) (ns2 : NoSt b) (ns3 : NoSt c) (ha : EJ X W O .bo a da) (hb : EJ X W O .bo b db) (hc : EJ X W O .bo c dc) : IJ X W O bo tg (.Call (.Name "range" p) [a, b, c] [] pos) (iR3 bo da db dc) := by
  obtain ⟨t, pa, q⟩ := ha
  obtain ⟨u, pb, q2⟩ := hb
  obtain ⟨v, pc, q3⟩ := hc
  refine ⟨_, pi_range3 hg hm (pa_cons pa (pa_cons pb (pa_cons pc pa_nil (ns3 _ _)) (ns2 _ _)) (ns _ _)) (ns _ _) (noStars_cons ns2 (noStars_cons ns3 noStars_nil) _ _), fun F0 H0 F H σ ρ R s po => q F0 H0 F H σ ρ _ s (IPost.bindE (m := .bo) po fun v F' H' x _ e rm po' => ?_)⟩
  refine q2 F0 H0 F' H' σ ρ _ (s.ext e) (IPost.bindE (m := .bo) po' fun w F2 H2 y _ e2 rm2 po2 => ?_)
  refine q3 F0 H0 F2 H2 σ ρ _ ((s.ext e).ext e2) (IPost.bindE (m := .bo) po2 fun z F3 H3 y' _ e3 rm3 po3 => ?_)
  unfold vRange3 at po3
  split at po3
  · cases bo_int rm; cases bo_int rm2; cases bo_int rm3
    split at po3
    · rename_i hj
      refine ⟨_, _, _, _, rfl, ⟨hj.1, hj.2.1, hj.2.2.1, (rangeSize_nn _ _ _).symm⟩, po3 F3 H3 _ (.refl e3.fh) (fun hb => ?_) itOk_rangeC⟩
      rw [List.length_map, List.length_range]; exact hj.2.2.2 hb
    · exact po3.elim
  · exact po3.elim
/-- reversed(xs) -/
def vRev : D → Option (List D)
  | .list ds => some ds.reverse
  | .tuple ds => some ds.reverse
  | _ => none
def iRevD (d : DE) : DA := fun ρ => (d ρ).bind fun v => Res.up (vRev v)
theorem ij_rev {bo : Bool} (hg : Gl X "reversed") (hm : X.mg "reversed" = none) (ns : NoSt a) (ha : EJ X W O .sh a da) : IJ X W O bo tg (.Call (.Name "reversed" p) [a] [] pos) (iRevD da) := by
  obtain ⟨t, pa, q⟩ := ha
  refine ⟨_, RT.pi_revA hg hm pa (ns _ _), fun F0 H0 F H σ ρ R s po => q F0 H0 F H σ ρ _ s (IPost.bindE (m := .sh) po fun v F' H' x _ e rm po' => ?_)⟩
  have hB : ∀ {K : Fg} {J : It} {ds : List D}, ItOk K F' F' J ds → ItOk K F' (if bo = true then H' else F') J ds := fun {K J ds} h => by
    cases bo with
    | false => exact h
    | true => exact ⟨fun i H2 s => h.go i H2 (e.fh.trans s), fun H2 s => h.stop H2 (e.fh.trans s), fun i H2 x H3 F2 s => h.yld i H2 x H3 F2 (e.fh.trans s)⟩
  unfold vRev at po'
  split at po'
  · cases rm with
    | lst h1 h2 h3 => exact ⟨_, _, rfl, .inl ⟨e.fh.seq h1, po' F' H' _ (.refl e.fh) (fun _ => by rw [List.length_reverse, ← h3.length]; exact h2) (hB (itOk_revL h1 h3))⟩⟩
  · cases rm with
    | tup h1 h2 h3 => exact ⟨_, _, rfl, .inr ⟨seqT e.fh h1, po' F' H' _ (.refl e.fh) (fun _ => by rw [List.length_reverse, ← h3.length]; exact h2) (hB (itOk_revT h1 h3))⟩⟩
  · exact po'.elim
/-- zip(xs, ys): two lists or two tuples -/
def vZip : D → D → Option (List D)
  | .list ds, .list es => some (List.zipWith (fun d e => .tuple [d, e]) ds es)
  | .tuple ds, .tuple es => some (List.zipWith (fun d e => .tuple [d, e]) ds es)
  | _, _ => none
def iZipD (d d' : DE) : DA := fun ρ => (d ρ).bind fun v => (d' ρ).bind fun w => Res.up (vZip v w)
theorem ij_zip {bo : Bool} {elts : List Expr} {kk : Nat} {tpos : Pos} (hg : Gl X "zip") (hm : X.mg "zip" = none) (ns : NoSt a) (ns2 : NoSt b) (ha : EJ X W O .sh a da) (hb : EJ X W O .sh b db) : IJ X W O bo (.Tuple elts kk tpos) (.Call (.Name "zip" p) [a, b] [] pos) (iZipD da db) := by
  obtain ⟨t, pa, q⟩ := ha
  obtain ⟨u, pb, q2⟩ := hb
  refine ⟨_, RZ.pi_zipA hg hm (pa_cons pa (pa_cons pb pa_nil (ns2 _ _)) (ns _ _)) (ns _ _) (noStars_cons ns2 noStars_nil _ _), fun F0 H0 F H σ ρ R s po => q F0 H0 F H σ ρ _ s (IPost.bindE (m := .sh) po fun v F' H' x _ e rm po' => ?_)⟩
  refine q2 F0 H0 F' H' σ ρ _ (s.ext e) (IPost.bindE (m := .sh) po' fun w F2 H2 y _ e2 rm2 po2 => ?_)
  have hB : ∀ {K : Fg} {J : It} {ds : List D}, ItOk K F2 F2 J ds → ItOk K F2 (if bo = true then H2 else F2) J ds := fun {K J ds} h => by
    cases bo with
    | false => exact h
    | true => exact ⟨fun i H3 s => h.go i H3 (e2.fh.trans s), fun H3 s => h.stop H3 (e2.fh.trans s), fun i H3 x H4 F3 s => h.yld i H3 x H4 F3 (e2.fh.trans s)⟩
  have rm' : Rp X.K F2 x v := Rp.mono e2.ff rm
  unfold vZip at po2
  split at po2
  · cases rm' with
    | lst h1 h2 h3 =>
      cases rm2 with
      | lst h1' h2' h3' => exact ⟨_, _, _, _, rfl, .inl ⟨e2.fh.seq h1, e2.fh.seq h1', po2 F2 H2 _ (.refl e2.fh) (fun _ => by rw [List.length_zipWith, ← h3.length]; exact Nat.le_trans (Nat.min_le_left _ _) h2) (hB (itOk_zipL h1 h3 h1' h3'))⟩⟩
  · cases rm' with
    | tup h1 h2 h3 =>
      cases rm2 with
      | tup h1' h2' h3' => exact ⟨_, _, _, _, rfl, .inr ⟨seqT e2.fh h1, seqT e2.fh h1', po2 F2 H2 _ (.refl e2.fh) (fun _ => by rw [List.length_zipWith, ← h3.length]; exact Nat.le_trans (Nat.min_le_left _ _) h2) (hB (itOk_zipT h1 h3 h1' h3'))⟩⟩
  · exact po2.elim
/-- enumerate(xs), a list -/
def vEnum : D → Option (List D)
  | .list ds => some (ds.zipIdx.map fun p => .tuple [.int (p.2 : Nat), p.1])
  | _ => none
def iEnumD (d : DE) : DA := fun ρ => (d ρ).bind fun v => Res.up (vEnum v)
theorem ij_enum {bo : Bool} {elts : List Expr} {kk : Nat} {tpos : Pos} (hg : Gl X "enumerate") (hm : X.mg "enumerate" = none) (ns : NoSt a) (ha : EJ X W O .sh a da) : IJ X W O bo (.Tuple elts kk tpos) (.Call (.Name "enumerate" p) [a] [] pos) (iEnumD da) := by
  obtain ⟨t, pa, q⟩ := ha
  refine ⟨_, pi_enum hg hm (pa_cons pa pa_nil (ns _ _)) (ns _ _), fun F0 H0 F H σ ρ R s po => q F0 H0 F H σ ρ _ s (IPost.bindE (m := .sh) po fun v F' H' x _ e rm po' => ?_)⟩
  have hB : ∀ {K : Fg} {J : It} {ds : List D}, ItOk K F' F' J ds → ItOk K F' (if bo = true then H' else F') J ds := fun {K J ds} h => by
    cases bo with
    | false => exact h
    | true => exact ⟨fun i H2 s => h.go i H2 (e.fh.trans s), fun H2 s => h.stop H2 (e.fh.trans s), fun i H2 x H3 F2 s => h.yld i H2 x H3 F2 (e.fh.trans s)⟩
  unfold vEnum at po'
  split at po'
  · cases rm with
    | lst h1 h2 h3 => exact ⟨_, _, rfl, e.fh.seq h1, po' F' H' _ (.refl e.fh) (fun _ => by rw [List.length_map, List.length_zipIdx, ← h3.length]; exact h2) (hB (itOk_enum h1 h3))⟩
  · exact po'.elim
end

def forD (g : DG) (body : DS) : List D → Lo → SRes
  | [], ρ => .nx ρ
  | x :: xs, ρ => match g x ρ with
    | none => .bad
    | some ρ1 => match body ρ1 with
      | .nx ρ2 => forD g body xs ρ2
      | .ct ρ2 => forD g body xs ρ2
      | .bk ρ2 => .nx ρ2
      | r => r
theorem forD_cons {g : DG} {body : DS} {x : D} {xs : List D} {ρ : Lo} : forD g body (x :: xs) ρ = (match g x ρ with
    | none => .bad
    | some ρ1 => match body ρ1 with
      | .nx ρ2 => forD g body xs ρ2
      | .ct ρ2 => forD g body xs ρ2
      | .bk ρ2 => .nx ρ2
      | r => r) := rfl
def sFor (g : DG) (it : DA) (body : DS) : DS := fun ρ => match it ρ with
  | .ok ds => forD g body ds ρ
  | .exn e => .ex e ρ
  | .bad => .bad
def whileD (c : DT) (body : DS) : Nat → Lo → SRes
  | 0, _ => .bad
  | n + 1, ρ => match c ρ with
    | .ok true => match body ρ with
      | .nx ρ2 => whileD c body n ρ2
      | .ct ρ2 => whileD c body n ρ2
      | .bk ρ2 => .nx ρ2
      | r => r
    | .ok false => .nx ρ
    | .exn e => .ex e ρ
    | .bad => .bad
theorem whileD_succ {c : DT} {body : DS} {n : Nat} {ρ : Lo} : whileD c body (n + 1) ρ = (match c ρ with
    | .ok true => match body ρ with
      | .nx ρ2 => whileD c body n ρ2
      | .ct ρ2 => whileD c body n ρ2
      | .bk ρ2 => .nx ρ2
      | r => r
    | .ok false => .nx ρ
    | .exn e => .ex e ρ
    | .bad => .bad) := rfl
/-- n: more turns than the loop takes -/
def sWhile (n : Nat) (c : DT) (body : DS) : DS := whileD c body n
section
variable {X : Cx} {W : WX} {O OL ts : List Nat} {k : Nat} {m : Mode} {tg iter : Expr} {g : DG} {it : DA} {body : List Stmt} {db : DS} {dc : DT} {pos : Pos}
theorem sj_for (hh : Here X W k) (hi : IJ X W O false tg iter it) (hg : GJ X O ts tg g) (hb : BJ X W m O O O body db) (hs : ∀ x, foldedSetIterable iter X.env x = pure x) : SJ X W m O O OL (.For tg iter body [] pos) (sFor g it db) := by
  obtain ⟨wi, p1, q1⟩ := hi
  obtain ⟨tg', p2, q2⟩ := hg
  obtain ⟨tb, p3, q3⟩ := hb
  refine ⟨_, ps_for hh.hp hh.calm p1 p2 p3 hs, fun F0 H0 F H σ ρ Dn s po => q1 F0 H0 F H σ ρ _ s ?_⟩
  unfold sFor at po
  cases hd : it ρ with
  | exn c => rw [hd] at po; exact fun F' H' cls dd ext er => exn_of (m' := .sh) (Q := fun _ _ => True) s po F' H' cls dd ext er
  | bad => rw [hd] at po; exact po
  | ok ds =>
    rw [hd] at po
    intro F' H' J ext _ ok
    have po : SPost X W F0 H0 F' m O OL (forD g db ds ρ) Dn := SPost.ext ext.ff po
    refine ⟨fun i n σ1 H1 => n = ds.length - i ∧ i ≤ ds.length ∧ ∃ F1 ρ1, Same F' F1 ∧ SR X.K F0 H0 O F1 H1 σ1 ρ1 ∧ forD g db (ds.drop i) ρ1 = forD g db ds ρ, ⟨ds.length, by simp, Nat.zero_le _, F', ρ, .refl _, s.ext ext, rfl⟩, ?_⟩
    rintro i n σ1 H1 ⟨rfl, hi, F1, ρ1, sf, s1, e1⟩
    by_cases hlt : i < ds.length
    · refine .inr ⟨ok.go i H1 (sf.trans s1.sub) hlt, fun σ2 H2 => ∃ F2 ρ2, Same F' F2 ∧ SR X.K F0 H0 O F2 H2 σ2 ρ2 ∧ forD g db (ds.drop (i + 1)) ρ2 = forD g db ds ρ, fun σ2 H2 ⟨F2, ρ2, a1, a2, a3⟩ => ⟨ds.length - (i + 1), by omega, rfl, hlt, F2, ρ2, a1, a2, a3⟩, fun x H2 y => ?_⟩
      obtain ⟨F2, d, ext2, hd2, rx⟩ := ok.yld i H1 x H2 F1 (sf.trans s1.sub) sf s1.sub hlt y
      have sf2 : Same F' F2 := sf.trans ext2.ff
      have hdr : ds.drop i = d :: ds.drop (i + 1) := by
        have h0 := List.drop_eq_getElem_cons hlt
        have h1 : ds[i] = d := by rw [List.getElem?_eq_getElem hlt] at hd2; exact Option.some.inj hd2
        rw [h0, h1]
      rw [hdr] at e1
      rw [← e1, forD_cons] at po
      have e2 := e1
      rw [forD_cons] at e2
      refine q2 F0 H0 F2 H2 σ1 ρ1 x d _ (s1.ext ext2) rx ?_
      cases hg : g d ρ1 with
      | none => rw [hg] at po; exact po
      | some ρ2 =>
        rw [hg] at po e2
        intro σ2 s2 _
        refine q3 F0 H0 F2 H2 σ2 ρ2 _ s2 ?_
        cases hb : db ρ2 with
        | nx ρ3 =>
          simp only [hb] at e2
          exact fun F3 H3 σ3 a s3 => ⟨F3, ρ3, sf2.trans a, s3, e2⟩
        | ct ρ3 =>
          simp only [hb] at e2
          exact fun F3 H3 σ3 a s3 => ⟨F3, ρ3, sf2.trans a, s3, e2⟩
        | bk ρ3 => simp only [hb] at po; exact fun F3 H3 σ3 a s3 => po F3 H3 σ3 (sf2.trans a) s3
        | rt v => simp only [hb] at po; exact po
        | ex c ρ3 => simp only [hb] at po; exact fun F3 H3 σ3 cls dd s3 er => po F3 H3 σ3 cls dd s3 er
        | bad => simp only [hb] at po; exact po
    · have e : i = ds.length := by omega
      subst e
      rw [List.drop_length] at e1
      refine .inl ⟨ok.stop H1 (sf.trans s1.sub), ?_⟩
      rw [← e1] at po
      exact po F1 H1 σ1 sf s1
theorem sj_while {c : Expr} {n : Nat} (hh : Here X W k) (hc : TJ X W O c dc) (hb : BJ X W m O O O body db) : SJ X W m O O OL (.While c body [] pos) (sWhile n dc db) := by
  obtain ⟨tc, p1, q1⟩ := hc
  obtain ⟨tb, p3, q3⟩ := hb
  refine ⟨_, ps_while hh.hp p1 p3, fun F0 H0 F H σ ρ Dn s po => ?_⟩
  unfold sWhile at po
  refine ⟨fun j σ1 H1 => ∃ F1 ρ1, Same F F1 ∧ SR X.K F0 H0 O F1 H1 σ1 ρ1 ∧ whileD dc db j ρ1 = whileD dc db n ρ, ⟨n, F, ρ, .refl _, s, rfl⟩, ?_⟩
  rintro j σ1 H1 ⟨F1, ρ1, sf, s1, e1⟩
  rw [← e1] at po
  refine q1 F0 H0 F1 H1 σ1 ρ1 _ s1 ?_
  cases j with
  | zero => exact po.elim
  | succ j =>
    rw [whileD_succ] at po
    have e2 := e1
    rw [whileD_succ] at e2
    cases hcv : dc ρ1 with
    | exn c => rw [hcv] at po; exact exn_of (m' := .sh) (Q := fun _ _ => True) s1 (SPost.ext sf po)
    | bad => rw [hcv] at po; exact po
    | ok b =>
      intro F2 H2 ext
      cases b with
      | false =>
        rw [hcv] at po
        exact po F2 H2 σ1 (sf.trans ext.ff) (s1.ext ext)
      | true =>
        rw [hcv] at po e2
        refine ⟨fun σ2 H2 => ∃ F2 ρ2, Same F F2 ∧ SR X.K F0 H0 O F2 H2 σ2 ρ2 ∧ whileD dc db j ρ2 = whileD dc db n ρ, fun σ2 H2 h => ⟨j, by omega, h⟩, ?_⟩
        refine q3 F0 H0 F2 H2 σ1 ρ1 _ (s1.ext ext) ?_
        have sf2 : Same F F2 := sf.trans ext.ff
        cases hb : db ρ1 with
        | nx ρ3 =>
          simp only [hb] at e2
          exact fun F3 H3 σ3 a s3 => ⟨F3, ρ3, sf2.trans a, s3, e2⟩
        | ct ρ3 =>
          simp only [hb] at e2
          exact fun F3 H3 σ3 a s3 => ⟨F3, ρ3, sf2.trans a, s3, e2⟩
        | bk ρ3 => simp only [hb] at po; exact fun F3 H3 σ3 a s3 => po F3 H3 σ3 (sf2.trans a) s3
        | rt v => simp only [hb] at po; exact po
        | ex c ρ3 => simp only [hb] at po; exact fun F3 H3 σ3 cls dd s3 er => po F3 H3 σ3 cls dd s3 er
        | bad => simp only [hb] at po; exact po
end

def WF : WX := fun _ _ _ _ => False
theorem takes_wf {X : Cx} : Takes X WF := fun u s' ⟨_, _, _, _, _, _, _, _, _, _, _, _, _, _, _, _, w⟩ => w.elim
theorem here_blk {X : Cx} {W : WX} {k : Nat} (h : Here X W k) (s : Shared) (H : Hp) (scope : Scope) (cenv : PySem.Env) (fp : List Addr) : Here (X.blk s H scope cenv fp) WF k :=
  ⟨h.hr, h.calm, takes_wf, h.nd, PassesOwn.never⟩
def compD (g : DG) (c : DT) (e : DE) : List D → Lo → Option (List D)
  | [], _ => some []
  | x :: xs, ρ => match g x ρ with
    | none => none
    | some ρ1 => match c ρ1 with
      | .ok true => match e ρ1 with
        | .ok y => (compD g c e xs ρ).map (y :: ·)
        | _ => none
      | .ok false => compD g c e xs ρ
      | _ => none
def eComp (vs : List Nat) (g : DG) (it : DA) (c : DT) (e : DE) : DE := fun ρ => (it ρ).bind fun ds => (Res.up (compD g c e ds (wipeD ρ vs))).bind fun ys => .ok (.list ys)
def tTrue : DT := fun _ => .ok true
/-- the tests behind a comprehension's for -/
def TsJ (X : Cx) (W : WX) (O : List Nat) (es : List Expr) (d : DT) : Prop :=
  ∃ t, PTs X es t ∧ ∀ F0 H0 F H σ ρ Q, SR X.K F0 H0 O F H σ ρ → TPost X W F H σ (d ρ) Q → t σ H Q
theorem tsj_nil {X : Cx} {W : WX} {O : List Nat} : TsJ X W O [] tTrue := ⟨_, pts_nil, fun F0 H0 F H σ ρ Q s po => po F H (.refl s.sub)⟩
theorem tsj_one {X : Cx} {W : WX} {O : List Nat} {c : Expr} {d : DT} (h : TJ X W O c d) : TsJ X W O [c] d := by
  obtain ⟨t, p, q⟩ := h
  exact ⟨_, pts_one p, q⟩
section
variable {X : Cx} {W : WX} {O OL : List Nat} {k : Nat} {m : Mode} {tg iter elt : Expr} {ifs : List Expr} {g : DG} {it : DA} {dc : DT} {de : DE} {pos : Pos} {scope : Scope} {own : List (Str × Nat)}
abbrev Blk := Shared → Hp → Addr → List (Str × Addr) → List Addr → Cx
abbrev blkOf (X : Cx) (scope : Scope) : Blk := fun s H C cl fp => X.blk s H scope (compEnvC scope cl C X.env) fp
/-- one reading for all blocks -/
theorem uni_g (h : ∀ s H C cl fp, GJ (blkOf X scope s H C cl fp) O (own.map (·.2)) tg g) : ∃ t, (∀ s H C cl fp, PG (blkOf X scope s H C cl fp) tg t) ∧ ∀ F0 H0 F H σ ρ x v Q, SR X.K F0 H0 O F H σ ρ → Rp X.K F x v → (match g v ρ with
    | some ρ' => ∀ σ', SR X.K F0 H0 O F H σ' ρ' → (∀ vs : List Nat, (∀ i ∈ own.map (·.2), i ∈ vs) → wipe σ' vs = wipe σ vs) → Q σ' H
    | none => False) → t x σ H Q := by
  refine ⟨fun x σ H Q => ∀ s H' C cl fp, Classical.choose (h s H' C cl fp) x σ H Q, fun s H C cl fp => ⟨fun pins s' σ H' v u Q I r hw => ?_⟩, fun F0 H0 F H σ ρ x v Q s r po s' H' C cl fp => ?_⟩
  · exact (Classical.choose_spec (h s H C cl fp)).1.run pins s' σ H' v u Q I r (hw s H C cl fp)
  · exact (Classical.choose_spec (h s' H' C cl fp)).2 F0 H0 F H σ ρ x v Q s r po
theorem uni_t (h : ∀ s H C cl fp, TsJ (blkOf X scope s H C cl fp) WF O ifs dc) : ∃ t, (∀ s H C cl fp, PTs (blkOf X scope s H C cl fp) ifs t) ∧ ∀ F0 H0 F H σ ρ Q, SR X.K F0 H0 O F H σ ρ → TPost X WF F H σ (dc ρ) Q → t σ H Q := by
  refine ⟨fun σ H Q => ∀ s H' C cl fp, Classical.choose (h s H' C cl fp) σ H Q, fun s H C cl fp => ⟨fun pins s' σ H' Q I hw => ?_⟩, fun F0 H0 F H σ ρ Q s po s' H' C cl fp => ?_⟩
  · exact (Classical.choose_spec (h s H C cl fp)).1.run pins s' σ H' Q I (hw s H C cl fp)
  · refine (Classical.choose_spec (h s' H' C cl fp)).2 F0 H0 F H σ ρ Q s ?_
    cases e : dc ρ with
    | ok b => rw [e] at po; exact po
    | exn c => rw [e] at po; exact po
    | bad => rw [e] at po; exact po
theorem uni_e (h : ∀ s H C cl fp, EJ (blkOf X scope s H C cl fp) WF O .sh elt de) : ∃ t, (∀ s H C cl fp, PE (blkOf X scope s H C cl fp) elt t) ∧ ∀ F0 H0 F H σ ρ Q, SR X.K F0 H0 O F H σ ρ → EPost X WF .sh F H σ (de ρ) Q → t σ H Q := by
  refine ⟨fun σ H Q => ∀ s H' C cl fp, Classical.choose (h s H' C cl fp) σ H Q, fun s H C cl fp => ⟨fun pins s' σ H' Q I hw => ?_⟩, fun F0 H0 F H σ ρ Q s po s' H' C cl fp => ?_⟩
  · exact (Classical.choose_spec (h s H C cl fp)).1.run pins s' σ H' Q I (hw s H C cl fp)
  · refine (Classical.choose_spec (h s' H' C cl fp)).2 F0 H0 F H σ ρ Q s ?_
    cases e : de ρ with
    | ok b => rw [e] at po; exact po
    | exn c => rw [e] at po; exact po
    | bad => rw [e] at po; exact po
theorem compD_len {ds : List D} {ρ : Lo} : ∀ {ys : List D}, compD g dc de ds ρ = some ys → ys.length ≤ ds.length := by
  induction ds with
  | nil => intro ys h; cases h; exact Nat.le_refl _
  | cons x xs ih =>
    intro ys h
    unfold compD at h
    cases hg : g x ρ with
    | none => rw [hg] at h; cases h
    | some ρ1 =>
      simp only [hg] at h
      cases hc : dc ρ1 with
      | exn c => simp only [hc] at h; cases h
      | bad => simp only [hc] at h; cases h
      | ok b =>
        cases b with
        | false => simp only [hc] at h; have := ih h; simp; omega
        | true =>
          simp only [hc] at h
          cases he : de ρ1 with
          | exn c => simp only [he] at h; cases h
          | bad => simp only [he] at h; cases h
          | ok y =>
            simp only [he] at h
            cases hr : compD g dc de xs ρ with
            | none => rw [hr] at h; cases h
            | some zs => rw [hr] at h; cases h; have := ih hr; simp; omega
/-- the walk of a comprehension, as its rule asks it -/
theorem comp_core (hi : IJ X W O true tg iter it) {wi : TI} (q1 : ∀ F0 H0 F H σ ρ R, SR X.K F0 H0 O F H σ ρ → IPost X W true F H σ (it ρ) R → wi σ H R)
    {tgt : TG} (q2 : ∀ F0 H0 F H σ ρ x v Q, SR X.K F0 H0 O F H σ ρ → Rp X.K F x v → (match g v ρ with
    | some ρ' => ∀ σ', SR X.K F0 H0 O F H σ' ρ' → (∀ vs : List Nat, (∀ i ∈ own.map (·.2), i ∈ vs) → wipe σ' vs = wipe σ vs) → Q σ' H
    | none => False) → tgt x σ H Q) {tt : TT} (q3 : ∀ F0 H0 F H σ ρ Q, SR X.K F0 H0 O F H σ ρ → TPost X WF F H σ (dc ρ) Q → tt σ H Q)
    {te : TE} (q4 : ∀ F0 H0 F H σ ρ Q, SR X.K F0 H0 O F H σ ρ → EPost X WF .sh F H σ (de ρ) Q → te σ H Q) :
    ∀ F0 H0 F H σ ρ Q, SR X.K F0 H0 O F H σ ρ → EPost X W .fr F H σ (eComp (own.map (·.2)) g it dc de ρ) Q → tLc wi tgt tt te (own.map (·.2)) σ H Q := by
  intro F0 H0 F H σ ρ Q s po
  refine q1 F0 H0 F H σ ρ _ s ?_
  unfold eComp at po
  cases hd : it ρ with
  | exn c => rw [hd] at po; exact po
  | bad => rw [hd] at po; exact po
  | ok ds =>
    rw [hd] at po
    intro F' H' J ext hlen ok
    intro Dl hDl
    have hlen := hlen rfl
    have po : EPost X W .fr F H σ ((Res.up (compD g dc de ds (wipeD ρ (own.map (·.2))))).bind fun ys => .ok (.list ys)) Q := po
    cases hys : compD g dc de ds (wipeD ρ (own.map (·.2))) with
    | none => rw [hys] at po; exact po.elim
    | some ys =>
      rw [hys] at po
      have s' := s.ext ext
      -- D holds what is made so far; the heap without D is H1
      refine ⟨fun i n H2 => n = ds.length - i ∧ i ≤ ds.length ∧ ∃ F1 acc ds1, Ext F' H' F1 H2 ∧ H2 Dl = some (.lst acc) ∧ F1 Dl = none ∧ acc.length ≤ i ∧ RpA X.K F1 acc ds1 ∧ ∃ zs, compD g dc de (ds.drop i) (wipeD ρ (own.map (·.2))) = some zs ∧ ds1 ++ zs = ys,
        ⟨ds.length, by simp, Nat.zero_le _, F', [], [], .new ext.fh hDl, upd_same, free_of ext.fh hDl, Nat.zero_le _, .nil, ys, by simpa using hys, rfl⟩, ?_⟩
      rintro i n H2 ⟨rfl, hi', F1, acc, ds1, e1, hD, fD, hacc, racc, zs, hz, hzs⟩
      have sB : Same (if (true : Bool) = true then H' else F') H2 := e1.hh
      by_cases hlt : i < ds.length
      · refine .inr ⟨ok.go i H2 sB hlt, fun H3 => ∃ F1 acc ds1, Ext F' H' F1 H3 ∧ H3 Dl = some (.lst acc) ∧ F1 Dl = none ∧ acc.length ≤ i + 1 ∧ RpA X.K F1 acc ds1 ∧ ∃ zs, compD g dc de (ds.drop (i + 1)) (wipeD ρ (own.map (·.2))) = some zs ∧ ds1 ++ zs = ys, fun H3 h => ⟨ds.length - (i + 1), by omega, rfl, hlt, h⟩, fun x H3 y => ?_⟩
        obtain ⟨F2, d, e2, hd2, rx⟩ := ok.yld i H2 x H3 F1 sB e1.ff e1.fh hlt y
        have hdr : ds.drop i = d :: ds.drop (i + 1) := by
          have h0 := List.drop_eq_getElem_cons hlt
          have h1 : ds[i] = d := by rw [List.getElem?_eq_getElem hlt] at hd2; exact Option.some.inj hd2
          rw [h0, h1]
        rw [hdr] at hz
        unfold compD at hz
        have sw : SR X.K F0 H0 O F2 H3 (wipe σ (own.map (·.2))) (wipeD ρ (own.map (·.2))) := (s'.wipe (own.map (·.2))).ext (e1.trans e2)
        refine q2 F0 H0 F2 H3 _ _ x d _ sw rx ?_
        cases hg : g d (wipeD ρ (own.map (·.2))) with
        | none => rw [hg] at hz; cases hz
        | some ρ1 =>
          simp only [hg] at hz
          intro σ1 s1 w1
          refine ⟨(w1 _ fun i hi => hi).trans wipe_wipe, q3 F0 H0 F2 H3 σ1 ρ1 _ s1 ?_⟩
          cases hc : dc ρ1 with
          | exn c => simp only [hc] at hz; cases hz
          | bad => simp only [hc] at hz; cases hz
          | ok b =>
            intro F3 H4 e3
            have hD2 : H4 Dl = some (.lst acc) := e3.hh _ _ (e2.hh _ _ hD)
            have ne : ∀ {o : Hp} , H4 Dl ≠ none := fun {_} => by rw [hD2]; exact fun z => nomatch z
            have fD2 : F2 Dl = none := e2.nw _ fD (by rw [hD]; exact fun z => nomatch z)
            have fD3 : F3 Dl = none := e3.nw _ fD2 (by rw [e2.hh _ _ hD]; exact fun z => nomatch z)
            cases b with
            | false =>
              simp only [hc] at hz
              rw [if_neg Bool.false_ne_true]
              exact ⟨F3, acc, ds1, (e1.trans e2).trans e3, hD2, fD3, by omega, (racc.mono e2.ff).mono e3.ff, zs, hz, hzs⟩
            | true =>
              simp only [hc] at hz
              rw [if_pos rfl]
              refine q4 F0 H0 F3 H4 σ1 ρ1 _ (s1.ext e3) ?_
              cases he : de ρ1 with
              | exn c => simp only [he] at hz; cases hz
              | bad => simp only [he] at hz; cases hz
              | ok yv =>
                simp only [he] at hz
                intro F4 H5 yv' e4 ry
                have hD3 : H5 Dl = some (.lst acc) := e4.hh _ _ hD2
                have fD4 : F4 Dl = none := e4.nw _ fD3 (by rw [hD2]; exact fun z => nomatch z)
                refine ⟨acc, hD3, by have : sizeLine = 16777216 := by decide
                                     omega, ?_⟩
                cases hr : compD g dc de (ds.drop (i + 1)) (wipeD ρ (own.map (·.2))) with
                | none => rw [hr] at hz; cases hz
                | some zs2 =>
                  rw [hr] at hz
                  cases hz
                  have et := ((e1.trans e2).trans e3).trans e4
                  refine ⟨F4, acc ++ [yv'], ds1 ++ [yv], ⟨et.ff, fun b o q => ?_, et.nw, fun b o q => ?_⟩, upd_same, fD4, by simp; omega, (((racc.mono e2.ff).mono e3.ff).mono e4.ff).append (.cons ry .nil), zs2, rfl, ?_⟩
                  · rw [upd_ne (ne_of_none q hDl)]; exact et.hh _ _ q
                  · rw [upd_ne (ne_of_none q fD4)]; exact et.fh _ _ q
                  · rw [List.append_assoc]; exact hzs
      · have e : i = ds.length := by omega
        subst e
        rw [List.drop_length] at hz
        cases hz
        rw [List.append_nil] at hzs
        subst hzs
        refine .inl ⟨ok.stop H2 sB, ?_⟩
        have hDH : H Dl = none := free_of ext.hh hDl
        exact po F1 H2 _ (ext.trans e1) (.inr ⟨Dl, _, rfl, hD, .lst (by omega) racc, fD, hDH⟩)
theorem ej_comp (hh : Here X W k) (hi : IJ X W O true tg iter it) (ok : BlkOk X.N X.env.scope scope own) (hg' : ∀ s H C cl fp, Here (blkOf X scope s H C cl fp) WF k → GJ (blkOf X scope s H C cl fp) O (own.map (·.2)) tg g)
    (ht' : ∀ s H C cl fp, Here (blkOf X scope s H C cl fp) WF k → TsJ (blkOf X scope s H C cl fp) WF O ifs dc) (he' : ∀ s H C cl fp, Here (blkOf X scope s H C cl fp) WF k → EJ (blkOf X scope s H C cl fp) WF O .sh elt de) (hs : ∀ x, foldedSetIterable iter X.env x = pure x) :
    EJ X W O .fr (.ListComp elt [⟨tg, iter, ifs, 0⟩] scope pos) (eComp (own.map (·.2)) g it dc de) := by
  have hg := fun s H C cl fp => hg' s H C cl fp (here_blk hh s H _ _ fp)
  have ht := fun s H C cl fp => ht' s H C cl fp (here_blk hh s H _ _ fp)
  have he := fun s H C cl fp => he' s H C cl fp (here_blk hh s H _ _ fp)
  obtain ⟨wi, p1, q1⟩ := id hi
  obtain ⟨tgt, p2, q2⟩ := uni_g hg
  obtain ⟨tt, p3, q3⟩ := uni_t ht
  obtain ⟨te, p4, q4⟩ := uni_e he
  exact ⟨_, pe_lc hh.calm hh.nd p1 ok p2 p3 p4 hs, comp_core hi q1 q2 q3 q4⟩
theorem eComp_nd {vs : List Nat} {g : DG} {it : DA} {c : DT} {e : DE} {ρ : Lo} {v : D} (h : eComp vs g it c e ρ = .ok v) : notDict v = true := by
  unfold eComp at h
  cases h1 : it ρ with
  | ok ds =>
    rw [h1] at h
    have h : ((Res.up (compD g c e ds (wipeD ρ vs))).bind fun ys => Res.ok (PyData.list ys)) = .ok v := h
    cases h2 : compD g c e ds (wipeD ρ vs) with
    | none => rw [h2] at h; cases h
    | some ys => rw [h2] at h; cases h; rfl
  | exn c => rw [h1] at h; cases h
  | bad => rw [h1] at h; cases h
/-- name = [..] on one line -/
theorem sj_setComp {i : Nat} {y : Str} {py spos : Pos} (hO : i ∉ O) (hh : Here X W k) (hi : IJ X W O true tg iter it) (ok : BlkOk X.N X.env.scope scope own) (hg' : ∀ s H C cl fp, Here (blkOf X scope s H C cl fp) WF k → GJ (blkOf X scope s H C cl fp) O (own.map (·.2)) tg g)
    (ht' : ∀ s H C cl fp, Here (blkOf X scope s H C cl fp) WF k → TsJ (blkOf X scope s H C cl fp) WF O ifs dc) (he' : ∀ s H C cl fp, Here (blkOf X scope s H C cl fp) WF k → EJ (blkOf X scope s H C cl fp) WF O .sh elt de) (hs : ∀ x, foldedSetIterable iter X.env x = pure x)
    (hy : X.N[i]? = some y) (hyl : X.env.scope.names.lookup y = some .local) (hsw : swapsWith (.ListComp elt [⟨tg, iter, ifs, 0⟩] scope pos) (some (.Name y py)) spos.line X.env = pure true) :
    SJ X W m O O OL (.Assign [.Name y py] (.ListComp elt [⟨tg, iter, ifs, 0⟩] scope pos) spos) (sSet i (eComp (own.map (·.2)) g it dc de)) := by
  have hg := fun s H C cl fp => hg' s H C cl fp (here_blk hh s H _ _ fp)
  have ht := fun s H C cl fp => ht' s H C cl fp (here_blk hh s H _ _ fp)
  have he := fun s H C cl fp => he' s H C cl fp (here_blk hh s H _ _ fp)
  obtain ⟨wi, p1, q1⟩ := id hi
  obtain ⟨tgt, p2, q2⟩ := uni_g hg
  obtain ⟨tt, p3, q3⟩ := uni_t ht
  obtain ⟨te, p4, q4⟩ := uni_e he
  refine ⟨_, ps_setLc hh.calm hh.nd hy hyl hsw p1 ok p2 p3 p4 hs, fun F0 H0 F H σ ρ Dn s po => comp_core hi q1 q2 q3 q4 F0 H0 F H σ ρ _ s ?_⟩
  unfold sSet sOf at po
  cases e : eComp (own.map (·.2)) g it dc de ρ with
  | ok v =>
    rw [e] at po
    intro F' H' x ex rm
    obtain ⟨F2, e2, r2⟩ := RM.shareN (eComp_nd e) ex rm
    exact po F2 H' _ e2.ff ((s.ext e2).setS hO r2)
  | exn c => rw [e] at po; exact exn_of s po
  | bad => rw [e] at po; exact po
/-- .. a slot that will be changed -/
theorem sj_setCompO {i : Nat} {y : Str} {py spos : Pos} {O' : List Nat} (hO : (i :: O.filter fun j => j != i) = O') (hh : Here X W k) (hi : IJ X W O true tg iter it) (ok : BlkOk X.N X.env.scope scope own) (hg' : ∀ s H C cl fp, Here (blkOf X scope s H C cl fp) WF k → GJ (blkOf X scope s H C cl fp) O (own.map (·.2)) tg g)
    (ht' : ∀ s H C cl fp, Here (blkOf X scope s H C cl fp) WF k → TsJ (blkOf X scope s H C cl fp) WF O ifs dc) (he' : ∀ s H C cl fp, Here (blkOf X scope s H C cl fp) WF k → EJ (blkOf X scope s H C cl fp) WF O .sh elt de) (hs : ∀ x, foldedSetIterable iter X.env x = pure x)
    (hy : X.N[i]? = some y) (hyl : X.env.scope.names.lookup y = some .local) (hsw : swapsWith (.ListComp elt [⟨tg, iter, ifs, 0⟩] scope pos) (some (.Name y py)) spos.line X.env = pure true) :
    SJ X W m O O' OL (.Assign [.Name y py] (.ListComp elt [⟨tg, iter, ifs, 0⟩] scope pos) spos) (sSetO i (eComp (own.map (·.2)) g it dc de)) := by
  subst hO
  have hg := fun s H C cl fp => hg' s H C cl fp (here_blk hh s H _ _ fp)
  have ht := fun s H C cl fp => ht' s H C cl fp (here_blk hh s H _ _ fp)
  have he := fun s H C cl fp => he' s H C cl fp (here_blk hh s H _ _ fp)
  obtain ⟨wi, p1, q1⟩ := id hi
  obtain ⟨tgt, p2, q2⟩ := uni_g hg
  obtain ⟨tt, p3, q3⟩ := uni_t ht
  obtain ⟨te, p4, q4⟩ := uni_e he
  refine ⟨_, ps_setLc hh.calm hh.nd hy hyl hsw p1 ok p2 p3 p4 hs, fun F0 H0 F H σ ρ Dn s po => comp_core hi q1 q2 q3 q4 F0 H0 F H σ ρ _ s ?_⟩
  unfold sSetO sOf at po
  cases e : eComp (own.map (·.2)) g it dc de ρ with
  | ok v =>
    rw [e] at po
    intro F' H' x ex rm
    have po : SPost X W F0 H0 F m _ OL (if isMut v = true then .nx (ρ.set i (some v)) else .bad) Dn := po
    by_cases hv : isMut v = true
    · rw [if_pos hv] at po
      rcases rm with ⟨hn, _⟩ | ⟨a, o, rfl, h2, h3, h4, h5⟩
      · rw [hv] at hn; cases hn
      · have s' := s.ext ex
        refine po F' H' _ ex.ff (s'.setO h2 h3 h4 (free_of s.e0.hh h5) fun j w hj hne hw hs => ?_)
        obtain ⟨b, ob, q1, q2, _⟩ := s.ow j w hj hw
        rw [hs] at q1
        cases q1
        rw [h5] at q2; cases q2
    · rw [if_neg hv] at po; exact po.elim
  | exn c => rw [e] at po; exact exn_of s po
  | bad => rw [e] at po; exact po
end

def sApp (i : Nat) (e : DE) : DS := fun ρ => match ρ[i]? with
  | some (some (.list ds)) => sOf (e ρ) ρ fun v => if ds.length < sizeLine then .nx (ρ.set i (some (.list (ds ++ [v])))) else .bad
  | _ => .bad
/-- x[k] = e, a list's item; a dict's -/
def putD (ps : List (D × D)) (k v : D) : List (D × D) :=
  match ps with
  | [] => [(k, v)]
  | p :: r => if PyData.eqv p.1 k = true then (p.1, v) :: r else p :: putD r k v
def storeD : D → D → D → Option D
  | .list ds, .int j, v => (ixN ds.length j).map fun n => .list (ds.set n v)
  | _, _, _ => none
def sStore (i : Nat) (k e : DE) : DS := fun ρ => sOf (e ρ) ρ fun v => match ρ[i]? with
  | some (some (.list ds)) => sOf (k ρ) ρ fun kv => match storeD (.list ds) kv v with
    | some o' => .nx (ρ.set i (some o'))
    | none => .bad
  | _ => .bad
section
variable {X : Cx} {W : WX} {O OL : List Nat} {k : Nat} {m : Mode} {a b : Expr} {da db : DE} {pos p p2 : Pos} {x : Str}
theorem own_list {F0 H0 F H : Hp} {σ : L2.St} {ρ : Lo} {i : Nat} {ds : List D} (s : SR X.K F0 H0 O F H σ ρ) (hi : i ∈ O) (hv : ρ[i]? = some (some (.list ds))) :
    ∃ a xs, σ[i]? = some (some (.ref a)) ∧ H a = some (.lst xs) ∧ xs.length ≤ sizeLine ∧ RpA X.K F xs ds ∧ F a = none ∧ H0 a = none := by
  obtain ⟨a, o, h1, h2, h3, h4, h5⟩ := s.ow i _ hi hv
  cases h3 with
  | lst l r => exact ⟨a, _, h1, h2, l, r, h4, h5⟩
theorem own_dict {F0 H0 F H : Hp} {σ : L2.St} {ρ : Lo} {i : Nat} {ds : List (D × D)} (s : SR X.K F0 H0 O F H σ ρ) (hi : i ∈ O) (hv : ρ[i]? = some (some (.dict ds))) :
    ∃ a xs, σ[i]? = some (some (.ref a)) ∧ H a = some (.dK xs) ∧ xs.length ≤ sizeLine ∧ RpD X.K F xs ds ∧ F a = none ∧ H0 a = none := by
  obtain ⟨a, o, h1, h2, h3, h4, h5⟩ := s.ow i _ hi hv
  cases h3 with
  | dic l r => exact ⟨a, _, h1, h2, l, r, h4, h5⟩
/-- x.append(e), x an owned slot -/
theorem sj_app {i : Nat} {st : Stmt} (hi : i ∈ O) (ha : EJ X W O .sh a da) (h : ∀ t, PE X a t → PS X st (tDrop (tBM X.K "list" rAppend (tVar i) (tCons t tNil)))) : SJ X W m O O OL st (sApp i da) := by
  obtain ⟨t, pa, q⟩ := ha
  refine ⟨_, h t pa, fun F0 H0 F H σ ρ Dn s po => ?_⟩
  unfold sApp at po
  cases hv : ρ[i]? with
  | none => rw [hv] at po; exact po.elim
  | some ov =>
    rw [hv] at po
    cases ov with
    | none => exact po.elim
    | some v =>
      cases v with
      | list ds =>
        obtain ⟨l, xs, h1, h2, h3, h4, h5, h6⟩ := own_list s hi hv
        refine ⟨_, h1, .inl ⟨rfl, xs, SqL.of h2⟩, q F0 H0 F H σ ρ _ s (sOf_post (m1 := .sh) s po fun v F' H' x s' ex rm po' => ?_)⟩
        have po' : SPost X W F0 H0 F' m O OL (if ds.length < sizeLine then .nx (ρ.set i (some (.list (ds ++ [v])))) else .bad) Dn := po'
        by_cases hl : ds.length < sizeLine
        · rw [if_pos hl] at po'
          have hl' : xs.length < sizeLine := by rw [h4.length]; exact hl
          refine ⟨l, xs, x, rfl, rfl, ex.hh _ _ h2, hl', ?_⟩
          have r' : RpA X.K F' (xs ++ [x]) (ds ++ [v]) := (h4.mono ex.ff).append (.cons rm .nil)
          exact po' F' _ σ (.refl _) (s'.mut hi hv h1 (ex.hh _ _ h2) (ex.nw _ h5 (by rw [h2]; exact fun z => nomatch z)) h6 (.lst (by rw [List.length_append]; exact hl') r'))
        · rw [if_neg hl] at po'; exact po'.elim
      | _ => exact po.elim
/-- x[k] = e, x an owned slot -/
theorem sj_store {i : Nat} {st : Stmt} (hi : i ∈ O) (hb : EJ X W O .bo b db) (ha : EJ X W O .sh a da) (h : ∀ t u, PE X a t → PE X b u → PS X st (tAsg t (gSub (tVar i) u rSetL))) : SJ X W m O O OL st (sStore i db da) := by
  obtain ⟨t, pa, q⟩ := ha
  obtain ⟨u, pb, q2⟩ := hb
  refine ⟨_, h t u pa pb, fun F0 H0 F H σ ρ Dn s po => q F0 H0 F H σ ρ _ s (sOf_post (m1 := .sh) s po fun v F' H' x s' ex rm po' => ?_)⟩
  cases hv : ρ[i]? with
  | none => rw [hv] at po'; exact po'.elim
  | some ov =>
    rw [hv] at po'
    cases ov with
    | none => exact po'.elim
    | some o =>
      cases o with
      | list ds =>
        obtain ⟨l, xs, h1, h2, h3, h4, h5, h6⟩ := own_list s' hi hv
        refine ⟨_, h1, q2 F0 H0 F' H' σ ρ _ s' (sOf_post (m1 := .bo) s' po' fun kv F2 H2 y s2 ex2 rm2 po2 => ?_)⟩
        cases kv with
        | int j =>
          cases bo_int rm2
          have po2 : SPost X W F0 H0 F2 m O OL (match (ixN ds.length j).map fun n => PyData.list (ds.set n v) with
            | some o' => .nx (ρ.set i (some o'))
            | none => .bad) Dn := po2
          cases hn : ixN ds.length j with
          | none => rw [hn] at po2; exact po2.elim
          | some n =>
            rw [hn] at po2
            refine ⟨l, xs, j, n, rfl, rfl, ex2.hh _ _ h2, by rw [h4.length]; exact hn, ?_⟩
            have r' : RpA X.K F2 (xs.set n x) (ds.set n v) := (h4.mono ex2.ff).set n (Rp.mono ex2.ff rm)
            exact po2 F2 _ σ (.refl _) (s2.mut hi hv h1 (ex2.hh _ _ h2) (ex2.nw _ h5 (by rw [h2]; exact fun z => nomatch z)) h6 (.lst (by rw [List.length_set]; exact h3) r'))
        | _ => exact po2.elim
      | _ => exact po'.elim
end

def start (n : Nat) (ds : List D) : Lo := ds.map some ++ List.replicate (n - ds.length) none
def runD (n : Nat) (b : DS) : List D → Res D := fun ds => match b (start n ds) with
  | .nx _ => .ok .none
  | .rt v => .ok v
  | .ex e _ => .exn e
  | _ => .bad
theorem start_get {n : Nat} {ds : List D} {i : Nat} {v : D} (h : (start n ds)[i]? = some (some v)) : ds[i]? = some v := by
  unfold start at h
  by_cases hi : i < ds.length
  · rw [List.getElem?_append_left (by simpa using hi), List.getElem?_map] at h
    cases e : ds[i]? with
    | none => rw [e] at h; cases h
    | some w => rw [e] at h; cases h; rfl
  · rw [List.getElem?_append_right (by simpa using hi), List.getElem?_replicate] at h
    split at h <;> cases h
theorem def_ok {P : Program} {w : World} {K : Fg} {mg : Str → Option Value} {base : Heap} {x qual : Str} {params : Arguments} {body : List Stmt} {scope : Scope} {dvs : List V} {kws : List (Str × V)} {f : Addr} {fd : FuncData} {N ps : List Str} {k : Nat} {m : Mode} {O' : List Nat} {b : DS}
    (F : FunD K x qual params body scope dvs kws f fd) (S : FnScope N ps scope) (hN : ps.length ≤ N.length)
    (h : ∀ (cdv : Value) (A : Around) (outer : List PySem.Env) (s : Shared) (H : Hp) (E : XK), Here (cxOf (L2.CX P w) P w K mg base N qual scope f cdv A outer s H E) (fun cls d _ H => E cls d H) k →
      BJ (cxOf (L2.CX P w) P w K mg base N qual scope f cdv A outer s H E) (fun cls d _ H => E cls d H) m [] O' [] body b) :
    DefOk P w K mg base (k + 1) f fd ps m (runD N.length b) := by
  refine FunD.ok F S (fun vs H Q E hs => hs.1) fun cdv A outer s H vs Q E hr hs => ?_
  obtain ⟨hl, F1, ds, hF, hv, po⟩ := hs
  obtain ⟨t, p, q⟩ := h cdv A outer s H E ⟨hr, rfl, takes_of rfl rfl rfl rfl, S.nd, passes_of rfl⟩
  refine ⟨t, p, q F1 H F1 H _ (start N.length ds) _ ?_ ?_⟩
  · have hlen : (L2.start N vs).length = (start N.length ds).length := by
      unfold L2.start start
      rw [List.length_append, List.length_append, List.length_map, List.length_map, List.length_replicate, List.length_replicate, hv.length]
    refine ⟨.refl hF, hlen, fun i v _ h2 => ?_, fun i v h1 => (by cases h1), fun i j v w a h1 => (by cases h1)⟩
    have h3 := start_get h2
    obtain ⟨y, h4, h5⟩ := hv.get h3
    refine ⟨y, ?_, h5⟩
    unfold L2.start
    have hi : i < vs.length := (List.getElem?_eq_some_iff.mp h4).1
    rw [List.getElem?_append_left (by simpa using hi), List.getElem?_map, h4]; rfl
  · unfold runD at po
    cases hb : b (start N.length ds) with
    | nx ρ' =>
      rw [hb] at po
      exact fun F' H' σ' _ s' => po F' H' .non s'.e0 (RM.of_sh .non rfl)
    | rt v => rw [hb] at po; exact po
    | bk ρ' => rw [hb] at po; exact po.elim
    | ct ρ' => rw [hb] at po; exact po.elim
    | ex c ρ' => rw [hb] at po; exact fun _ F' H' σ' cls dd s' er => po F' H' cls dd s'.e0 er
    | bad => rw [hb] at po; exact po.elim
end PL

end
section
namespace PL
open PySem PySem.Spec PyProof.Rows L2

section
variable {X : Cx} {W : WX} {O OL ts : List Nat} {k : Nat} {m : Mode} {e a b : Expr} {de da db : DE} {das : DA} {pos p p2 : Pos} {x : Str} {st : Stmt}
/-- constants as fresh as one likes -/
theorem EJ.cF {v : V} {c : D} (h : PE X e (tC v)) (r : ∀ F, Rp X.K F v c) (hm : isMut c = false) : EJ X W O m e (eC c) :=
  ⟨_, h, fun F0 H0 F H σ ρ Q s po => po F H v (.refl s.sub) (RM.of_sh (r F) hm)⟩
theorem ejm_int {i : Int} {j : Nat} : EJ X W O m (.Constant (.int i) j pos) (eC (.int i)) := .cF pe_int (fun _ => .int i) rfl
theorem ejm_bl {i : Bool} {j : Nat} : EJ X W O m (.Constant (.bool i) j pos) (eC (.bool i)) := .cF pe_bl (fun _ => .bl i) rfl
theorem ejm_non {j : Nat} : EJ X W O m (.Constant .none j pos) (eC .none) := .cF pe_non (fun _ => .non) rfl
/-- a, b = x, y with plain local names -/
def sPar (i j : Nat) (d d' : DE) : DS := fun ρ => sOf (d ρ) ρ fun v => sOf (d' ρ) ρ fun w => .nx ((ρ.set i (some v)).set j (some w))
theorem sj_par {i j : Nat} (hi : i ∉ O) (hj : j ∉ O) (ns : NoSt a) (ns2 : NoSt b) (ha : EJ X W O .sh a da) (hb : EJ X W O .sh b db) (h : ∀ t, PA X [a, b] t → PS X st (tPar i j t)) : SJ X W m O O OL st (sPar i j da db) := by
  obtain ⟨t, pa, q⟩ := ha
  obtain ⟨u, pb, q2⟩ := hb
  refine ⟨_, h _ (pa_cons pa (pa_cons pb pa_nil (ns2 _ _)) (ns _ _)), fun F0 H0 F H σ ρ Dn s po => q F0 H0 F H σ ρ _ s (sOf_post (m1 := .sh) s po fun v F' H' x s' ex rm po' => ?_)⟩
  refine q2 F0 H0 F' H' σ ρ _ s' (sOf_post (m1 := .sh) s' po' fun w F2 H2 y s2 ex2 rm2 po2 => ?_)
  exact ⟨x, y, rfl, po2 F2 H2 _ (.refl _) ((s2.setS hi (Rp.mono ex2.ff rm)).setS hj rm2)⟩
/-- a, b, .. = value -/
def sUnp (g : DG) (d : DE) : DS := fun ρ => sOf (d ρ) ρ fun v => match g v ρ with
  | some ρ' => .nx ρ'
  | none => .bad
theorem sj_unp {tg : Expr} {g : DG} (ha : EJ X W O .sh a da) (hg : GJ X O ts tg g) (h : ∀ t u, PE X a t → PG X tg u → PS X st (tAsg t u)) : SJ X W m O O OL st (sUnp g da) := by
  obtain ⟨t, pa, q⟩ := ha
  obtain ⟨u, pb, q2⟩ := hg
  refine ⟨_, h t u pa pb, fun F0 H0 F H σ ρ Dn s po => q F0 H0 F H σ ρ _ s (sOf_post (m1 := .sh) s po fun v F' H' x s' ex rm po' => ?_)⟩
  refine q2 F0 H0 F' H' σ ρ x v _ s' rm ?_
  have po' : SPost X W F0 H0 F' m O OL (match g v ρ with | some ρ' => .nx ρ' | none => .bad) Dn := po'
  cases hg : g v ρ with
  | none => rw [hg] at po'; exact po'
  | some ρ' => rw [hg] at po'; exact fun σ' s2 _ => po' F' H' σ' (.refl _) s2
/-- x op= e, ints and texts -/
theorem ip_of {op : Operator} {r : R2} (h : OpR X (inplaceOp op) r) : PIp X op r := fun pins s σ H x y v u Q I r1 r2 q => h pins s σ H x y v u Q I r1 r2 q
def vAddI : D → D → Option D
  | .int i, .int j => some (.int (i + j))
  | .str a, .str b => if a.length + b.length ≤ sizeLine then some (.str (a ++ b)) else none
  | _, _ => none
def sAug (i : Nat) (f : D → D → Option D) (d : DE) : DS := fun ρ => match ρ[i]? with
  | some (some v) => sOf (d ρ) ρ fun w => match f v w with
    | some z => .nx (ρ.set i (some z))
    | none => .bad
  | _ => .bad
theorem sj_augR {i : Nat} {op : Operator} {f : D → D → Option D} {r : R2} (hi : i ∉ O) (ho : OpR X (inplaceOp op) r) (ha : EJ X W O .bo a da)
    (hv : ∀ F Hs Hs' H x v y w Q, Same F H → RM .bo X.K F Hs H x v → RM .bo X.K F Hs' H y w → VPost X.K .sh F H (f v w) Q → r x y H Q) (h : ∀ t u, PE X a t → PIp X op u → PS X st (tAug i t u)) : SJ X W m O O OL st (sAug i f da) := by
  obtain ⟨t, pa, q⟩ := ha
  refine ⟨_, h t r pa (ip_of ho), fun F0 H0 F H σ ρ Dn s po => ?_⟩
  unfold sAug at po
  cases hs : ρ[i]? with
  | none => rw [hs] at po; exact po.elim
  | some ov =>
    cases ov with
    | none => rw [hs] at po; exact po.elim
    | some v =>
      rw [hs] at po
      obtain ⟨x, h1, h2⟩ := s.sh i v hi hs
      refine ⟨x, h1, q F0 H0 F H σ ρ _ s (sOf_post (m1 := .bo) s po fun w F' H' y s' ex rm po' => ?_)⟩
      refine hv F' H' H' H' x v y w _ ex.fh (.inl (h2.mono ex.ff)) (RM.bo_of .bo rm) ?_
      have po' : SPost X W F0 H0 F' m O OL (match f v w with | some z => .nx (ρ.set i (some z)) | none => .bad) Dn := po'
      cases hf : f v w with
      | none => rw [hf] at po'; exact po'
      | some z => rw [hf] at po'; exact fun F2 H2 zv e2 r2 => po' F2 H2 _ e2.ff ((s'.ext e2).setS hi r2)
theorem sj_augAdd {i : Nat} (hi : i ∉ O) (ha : EJ X W O .bo a da) (h : ∀ t u, PE X a t → PIp X .Add u → PS X st (tAug i t u)) : SJ X W m O O OL st (sAug i vAddI da) := by
  refine sj_augR hi (iop_add.or iop_add_str) ha (fun F Hs Hs' H x v y w Q s r1 r2 po => ?_) h
  unfold vAddI at po
  split at po
  · cases bo_int r1; cases bo_int r2
    exact .inl ⟨_, _, rfl, rfl, po F H _ (.refl s) (.int _)⟩
  · obtain ⟨rfl, o1, l1⟩ := bo_str r1
    obtain ⟨rfl, o2, l2⟩ := bo_str r2
    split at po
    · rename_i hl
      exact .inr ⟨_, _, rfl, rfl, hl, po F H _ (.refl s) (.str _ (strOk_append o1 o2) (by rw [str_len_append]; exact hl))⟩
    · exact po.elim
  · exact po.elim
theorem sj_augSub {i : Nat} (hi : i ∉ O) (ha : EJ X W O .bo a da) (h : ∀ t u, PE X a t → PIp X .Sub u → PS X st (tAug i t u)) : SJ X W m O O OL st (sAug i vSub da) := by
  refine sj_augR hi iop_sub ha (fun F Hs Hs' H x v y w Q s r1 r2 po => ?_) h
  unfold vSub at po
  split at po
  · cases bo_int r1; cases bo_int r2
    exact ⟨_, _, rfl, rfl, po F H _ (.refl s) (.int _)⟩
  · exact po.elim
end
end PL

end
section
namespace PL
open PySem PySem.Spec PyProof.Rows L2

/-- the module's name x is a def of no default that means d -/
structure Kn (P : Program) (w : World) (K : Fg) (mg : Str → Option Value) (base : Heap) (k : Nat) (x : Str) (ps : List Str) (m : Mode) (d : List D → Res D) : Prop where
  ex : ∃ f fd, mg x = some (.ref f) ∧ PySem.W.keepIn K (.ref f) = true ∧ Binds K fd ps [] ∧ DefOk P w K mg base k f fd ps m d
section
variable {P : Program} {w : World} {K : Fg} {mg : Str → Option Value} {base : Heap} {x : Str} {ps : List Str} {m : Mode} {d : List D → Res D} {j k : Nat}
theorem Kn.mono (h : Kn P w K mg base k x ps m d) (hk : k ≤ j) : Kn P w K mg base j x ps m d := by
  obtain ⟨f, fd, h1, h2, h3, h4⟩ := h.ex
  exact ⟨f, fd, h1, h2, h3, h4.mono hk⟩
theorem kn_ok {f : Addr} {fd : FuncData} {params : Arguments} {body : List Stmt} {scope : Scope} {N : List Str} {O' : List Nat} {b : DS} (hm : mg x = some (.ref f))
    (F : FunD K x x params body scope [] [] f fd) (S : FnScope N ps scope) (hN : ps.length ≤ N.length)
    (hb : ∀ (kV doc pm : Value) (an : Option Addr) (cdv ct : Value) (us : List Value), us.length = ps.length → bindArgs (PySem.W.fnOf x x params body scope .none kV doc pm an cdv ct) ⟨us, []⟩ = pure (ps.zip us))
    (h : ∀ (cdv : Value) (A : Around) (outer : List PySem.Env) (s : Shared) (H : Hp) (E : XK), Here (cxOf (L2.CX P w) P w K mg base N x scope f cdv A outer s H E) (fun cls d _ H => E cls d H) k →
      BJ (cxOf (L2.CX P w) P w K mg base N x scope f cdv A outer s H E) (fun cls d _ H => E cls d H) m [] O' [] body b) : Kn P w K mg base (k + 1) x ps m (runD N.length b) :=
  ⟨f, fd, hm, F.kp, F.bindsN hb, def_ok F S hN h⟩
/-- a def that is never run -/
theorem kn_bad {f : Addr} {fd : FuncData} {params : Arguments} {body : List Stmt} {scope : Scope} (hm : mg x = some (.ref f)) (F : FunD K x x params body scope [] [] f fd)
    (hb : ∀ (kV doc pm : Value) (an : Option Addr) (cdv ct : Value) (us : List Value), us.length = ps.length → bindArgs (PySem.W.fnOf x x params body scope .none kV doc pm an cdv ct) ⟨us, []⟩ = pure (ps.zip us)) : Kn P w K mg base k x ps m (fun _ => .bad) :=
  ⟨f, fd, hm, F.kp, F.bindsN hb, ⟨fun _ _ _ _ h => h.1, fun _ _ _ _ _ _ _ _ _ _ _ _ _ h => by obtain ⟨_, _, _, _, _, q⟩ := h; exact q.elim⟩⟩
end
section
variable {X : Cx} {W : WX} {O : List Nat} {k j : Nat} {m : Mode} {a : Expr} {es : List Expr} {das : DA} {pos p : Pos} {x : Str} {ps : List Str} {df : List D → Res D}
theorem ej_callK (F : Kn X.prog X.w X.K X.mg X.base k x ps m df) (hh : Here X W j) (hk : Nat.ble k j = true) (hg : Gl X x) (hl : (a :: es).length = ps.length) (hdb : (x == ("__debug__" : Str)) = false) (ns : NoSt a) (nss : NoStars es)
    (ha : AJ X W O (a :: es) das) (hal : ∀ ρ ds, das ρ = .ok ds → ds.length = (a :: es).length) : EJ X W O m (.Call (.Name x p) (a :: es) [] pos) (eCall df das) := by
  obtain ⟨f, fd, h1, h2, h3, h4⟩ := F.ex
  exact ej_call h4 hh (Nat.le_of_ble_eq_true hk) hg h1 h2 h3 hl hdb ns nss ha hal
/-- a module's constant -/
def KC (mg : Str → Option Value) (K : Fg) (x : Str) (c : D) : Prop := ∃ v u, mg x = some u ∧ RelV v u ∧ ∀ F, Rp K F v c
theorem ej_glob {c : D} (h : KC X.mg X.K x c) (hg : Gl X x) (hd : (x == ("__debug__" : Str)) = false) : EJ X W O .sh (.Name x pos) (eC c) := by
  obtain ⟨v, u, h1, h2, h3⟩ := h
  exact ej_c (pe_glob hg h1 h2 hd) h3
end

mutual
def rpK (K : Fg) : Nat → Value → D → Bool
  | _, .none, .none => true
  | _, .bool b, .bool c => b == c
  | _, .int i _, .int j => decide (i = j)
  | _, .str x _, .str y => decide (x = y) && (PyData.strOk y && decide (y.length ≤ sizeLine))
  | n + 1, .ref a, .tuple ds => (match K.lookup a with
    | some ⟨.type c, _, .seq its _, _⟩ => decide (c = "tuple") && (decide (its.size ≤ sizeLine) && rpKs K n its.toList ds)
    | _ => false)
  | _, _, _ => false
def rpKs (K : Fg) : Nat → List Value → List D → Bool
  | _, [], [] => true
  | n, u :: us, d :: ds => rpK K n u d && rpKs K n us ds
  | _, _, _ => false
end
mutual
theorem rpK_ok (K : Fg) : ∀ (d : D) (n : Nat) (u : Value), rpK K n u d = true → ∃ v, RelV v u ∧ ∀ F, Rp K F v d
  | .none, n, u, h => by
    cases u with
    | none => exact ⟨.non, rfl, fun _ => .non⟩
    | _ => unfold rpK at h; cases n <;> cases h
  | .bool c, n, u, h => by
    cases u with
    | bool b =>
      have e : b = c := by unfold rpK at h; simpa using h
      subst e
      exact ⟨.bl b, rfl, fun _ => .bl b⟩
    | _ => unfold rpK at h; cases n <;> cases h
  | .int c, n, u, h => by
    cases u with
    | int i t =>
      have e : i = c := by unfold rpK at h; simpa using h
      subst e
      exact ⟨.int i, ⟨t, rfl⟩, fun _ => .int i⟩
    | _ => unfold rpK at h; cases n <;> cases h
  | .str y, n, u, h => by
    cases u with
    | str x t =>
      unfold rpK at h
      simp only [Bool.and_eq_true, decide_eq_true_eq] at h
      obtain ⟨e, h1, h2⟩ := h
      subst e
      exact ⟨.str x, ⟨t, rfl⟩, fun _ => .str x h1 h2⟩
    | _ => unfold rpK at h; cases n <;> cases h
  | .tuple ds, n, u, h => by
    cases u with
    | ref a =>
      cases n with
      | zero => unfold rpK at h; cases h
      | succ n =>
        unfold rpK at h
        cases q : K.lookup a with
        | none => rw [q] at h; cases h
        | some o =>
          obtain ⟨oc, od, dt, osl⟩ := o
          rw [q] at h
          cases oc with
          | type c =>
            cases dt with
            | seq its nn =>
              have h : (decide (c = "tuple") && (decide (its.size ≤ sizeLine) && rpKs K n its.toList ds)) = true := h
              simp only [Bool.and_eq_true, decide_eq_true_eq] at h
              obtain ⟨e, h1, h2⟩ := h
              subst e
              obtain ⟨vs, r1, r2⟩ := rpKs_ok K ds n its.toList h2
              refine ⟨.ref a, rfl, fun F => .tup (.inr ⟨_, its, nn, q, rfl, rfl, h1, r1⟩) ?_ (r2 F)⟩
              have := r1.length
              simp at this
              omega
            | _ => cases h
          | _ => cases h
    | _ => unfold rpK at h; cases n <;> cases h
  | .list ds, n, u, h => by unfold rpK at h; cases n <;> cases u <;> cases h
  | .dict ds, n, u, h => by unfold rpK at h; cases n <;> cases u <;> cases h
theorem rpKs_ok (K : Fg) : ∀ (ds : List D) (n : Nat) (us : List Value), rpKs K n us ds = true → ∃ vs, Vals vs us ∧ ∀ F, RpA K F vs ds
  | [], n, us, h => by
    cases us with
    | nil => exact ⟨[], .nil, fun _ => .nil⟩
    | cons _ _ => unfold rpKs at h; cases h
  | d :: ds, n, us, h => by
    cases us with
    | nil => unfold rpKs at h; cases h
    | cons u us =>
      unfold rpKs at h
      have h := Bool.and_eq_true_iff.mp h
      obtain ⟨v, h1, h2⟩ := rpK_ok K d n u h.1
      obtain ⟨vs, h3, h4⟩ := rpKs_ok K ds n us h.2
      exact ⟨v :: vs, .cons h1 h3, fun F => .cons (h2 F) (h4 F)⟩
end

abbrev AlP : Type := Bool × List He.FnW
def xcOk (K : Fg) (D : Addr) : Bool := decide (PySem.W.findIn K (.ref D) "__getattribute__" = some (some (.builtin "BaseException.__getattribute__"))) && (decide (PySem.W.findIn K (.ref D) "__getattr__" = some none) && (decide (PySem.W.subIn K (.ref D) (.type "BaseException") = some true) && (PySem.W.hasDictIn K D &&
  (decide (PySem.W.findIn K (.ref D) "__class__" = some (some (.builtin "object.__class__"))) && (decide (PySem.W.specialIn K (.builtin "object.__class__") "__get__" = some (some (.builtin "getset_descriptor.__get__"))) && (decide (PySem.W.takesIn K (.builtin "object.__class__") = some true) && decide (PySem.W.mroIn K D (.type "object") = some true)))))))
theorem xcOk_ok {K : Fg} {D : Addr} (h : xcOk K D = true) : ExcC K D := by
  simp only [xcOk, Bool.and_eq_true, decide_eq_true_eq] at h
  obtain ⟨a, b, c, d, e, f, g, i⟩ := h
  exact ⟨a, b, c, d, e, f, g, i⟩
/-- isinstance of an exception of the class x, of the class y -/
def xiOk (K : Fg) (x y : Str) (b : Bool) : Bool := xcOk K (He.ga K x) && decide (PySem.W.kitOne K (.ref (He.ga K x)) (.ref (He.ga K y)) = some b)
def kcOk (K : Fg) (p : Str × D) : Bool := match p.2 with
  | .dict [(.str y, .bool b)] => xiOk K p.1 y b
  | _ => (match PySem.W.nsIn K mainGlobals p.1 with
    | some (some u) => rpK K 8 u p.2
    | _ => false)
def obsP (fa : List He.Fa) (fn : List He.DefD) (cs : List (Str × D)) (K : PySem.W.Frag) : AlP := ((fa.all fun f => f.ok K) && ((fn.all fun d => d.ok K) && cs.all (kcOk K)), fn.map fun d => He.fnW K d.at_)
def valP (fn : List He.DefD) : AlP := (true, fn.map He.DefD.val)
def SaysP (fa : List He.Fa) (fn : List He.DefD) (cs : List (Str × D)) (K : PySem.W.Frag) : Prop := obsP fa fn cs K = valP fn
def obsPG (n : Nat) (fa : List He.Fa) (fn : List He.DefD) (cs : List (Str × D)) (g : Addr → Option Obj) : AlP := obsP fa fn cs (He.frG g (He.asD g n))
def hookP (n : Nat) (fa : List He.Fa) (fn : List He.DefD) (cs : List (Str × D)) : PySem.W.Hook where
  α := AlP
  obs := fun s => obsPG n fa fn cs s.heap.get?
  val := fun _ => valP fn
  says := fun _ h => ∃ K : PySem.W.Frag, K.In h ∧ SaysP fa fn cs K
  of := fun _ _ e => ⟨_, He.frG_in, e⟩
  keeps := fun _ _ _ ⟨K, hK, c⟩ k => ⟨K, PySem.W.Frag.In.keeps hK k, c⟩
theorem obsPG_eq {n : Nat} {fa : List He.Fa} {fn : List He.DefD} {cs : List (Str × D)} {g : Addr → Option Obj} {s : Shared} (h : ∀ a, g a = s.heap.get? a) : obsPG n fa fn cs g = (hookP n fa fn cs).obs s := by
  have e : g = s.heap.get? := funext h
  rw [e] <;> rfl
section
variable {fa : List He.Fa} {fn : List He.DefD} {cs : List (Str × D)} {K : PySem.W.Frag}
theorem SaysP.parts (c : SaysP fa fn cs K) : (fa.all fun f => f.ok K) = true ∧ (fn.all fun d => d.ok K) = true ∧ cs.all (kcOk K) = true := by
  have h := congrArg (fun z : AlP => z.1) c
  have h2 : ((fa.all fun f => f.ok K) && ((fn.all fun d => d.ok K) && cs.all (kcOk K))) = true := h
  have h3 := He.ba h2
  have h4 := He.ba h3.2
  exact ⟨h3.1, h4.1, h4.2⟩
theorem SaysP.fact (c : SaysP fa fn cs K) (i : Nat) {f : He.Fa} (h : fa[i]? = some f) : f.ok K = true := List.all_eq_true.mp c.parts.1 f (List.mem_of_getElem? h)
theorem SaysP.def_ (c : SaysP fa fn cs K) (i : Nat) {d : He.DefD} (h : fn[i]? = some d) : ∃ fd, FunD K d.name d.qual d.params d.body d.scope (d.dvs K) (d.kws K) (He.fAd K d.at_) fd := by
  have e : fn.map (fun d => He.fnW K d.at_) = fn.map He.DefD.val := congrArg (fun z : AlP => z.2) c
  have e2 : (fn.map fun d => He.fnW K d.at_)[i]? = (fn.map He.DefD.val)[i]? := by rw [e]
  rw [List.getElem?_map, List.getElem?_map, h] at e2
  exact He.DefD.funD (Option.some.inj e2) (List.all_eq_true.mp c.parts.2.1 d (List.mem_of_getElem? h))
theorem SaysP.const {mg : Str → Option Value} {h : Heap} (X : K.In h) (G : h.Ns mainGlobals mg) (c : SaysP fa fn cs K) (i : Nat) {x : Str} {d : D} (hi : cs[i]? = some (x, d)) (hd : noDict d = true) : KC mg K x d := by
  have e := List.all_eq_true.mp c.parts.2.2 (x, d) (List.mem_of_getElem? hi)
  unfold kcOk at e
  split at e
  · rename_i y b q
    have q : d = .dict [(.str y, .bool b)] := q
    subst q
    cases hd
  · cases q : PySem.W.nsIn K mainGlobals x with
    | none => simp only [q] at e; cases e
    | some o =>
      simp only [q] at e
      cases o with
      | none => cases e
      | some u =>
        obtain ⟨v, h1, h2⟩ := rpK_ok K d 8 u e
        exact ⟨v, u, PySem.W.mg_of X G q, h1, h2⟩
/-- isinstance of exceptions -/
def KI (mg : Str → Option Value) (K : Fg) (x y : Str) (b : Bool) : Prop := ∃ D C, mg x = some (.ref D) ∧ mg y = some (.ref C) ∧ ExcC K D ∧ PySem.W.kitOne K (.ref D) (.ref C) = some b
theorem SaysP.isx {mg : Str → Option Value} {h : Heap} (X : K.In h) (G : h.Ns mainGlobals mg) (c : SaysP fa fn cs K) (i : Nat) {x y : Str} {b : Bool} (hi : cs[i]? = some (x, .dict [(.str y, .bool b)])) (c1 : (He.Fa.glo x).ok K = true) (c2 : (He.Fa.glo y).ok K = true) : KI mg K x y b := by
  have e : xiOk K x y b = true := List.all_eq_true.mp c.parts.2.2 _ (List.mem_of_getElem? hi)
  have e := Bool.and_eq_true_iff.mp e
  exact ⟨_, _, He.glo_ok X G c1, He.glo_ok X G c2, xcOk_ok e.1, of_decide_eq_true e.2⟩
end

/-- a def that lets nothing out -/
theorem FnOk.calm {P : Program} {w : World} {K : Fg} {mg : Str → Option Value} {base : Heap} {k : Nat} {f : Addr} {fd : FuncData} {ps : List Str} {sp : Sp} (F : FnOk P w K mg base (L2.CX P w) k f fd ps sp) :
    FnOk P w K mg base CX0 k f fd ps (fun vs H Q _ => sp vs H Q fun _ _ _ => False) := by
  refine ⟨fun vs H Q E q => F.len vs H Q _ q, fun A outer s H args us vs Q E hr he hb hv hs => codeAny_mono (F.run A outer s H args us vs Q _ hr he hb hv hs) fun r s' hq => ?_⟩
  cases r with
  | error e =>
    obtain ⟨_, _, _, _, _, _, _, _, _, _, _, _, z⟩ := hq
    exact z.elim
  | ok fl => cases fl <;> exact hq
theorem law_sp {K : Fg} {mg : Str → Option Value} {d : List D → Res D} {H : Hp} {a : Addr} {ns : List Int} (hS : SqL K H a (ns.map V.int)) (hl : ns.length ≤ 63) (h : d [.list (ns.map .int)] = .ok (.bool true)) :
    spOf K mg 1 .sh d [.ref a] H (fun v _ => v = .bl true) (fun _ _ _ => False) := by
  refine ⟨rfl, H, [.list (ns.map .int)], .refl _, .cons (.lst hS ?_ (ints_rpa ns)) .nil, ?_⟩
  · rw [List.length_map]; exact Nat.le_trans hl (by decide)
  · rw [h]
    intro F' H' x e rm
    cases rm
    rfl
end PL

end
section
namespace PL
open PySem PySem.Spec PyProof.Rows L2
/-- more turns than any loop here takes -/
def wFuel : Nat := 2 ^ 4000
theorem lt_wFuel {n : Nat} (h : n < 2 ^ 4000) : n < wFuel := h
theorem ble_of {a b : Nat} (h : a ≤ b) : Nat.ble a b = true := Nat.ble_eq_true_of_le h
/-- what the head's facts come to -/
def Facts (P : Program) (w : World) (K : Fg) (mg : Str → Option Value) (k : Nat) (d : List D → Res D) : Prop :=
  ∃ (f : Addr) (fd : FuncData), mg "law" = some (.ref f) ∧ (∀ (s : Shared) (u : Value), BindsTo s fd ⟨[u], []⟩ [("script", u)]) ∧ ∀ base : Heap, DefOk P w K mg base k f fd ["script"] .sh d
theorem law_end {P : Program} {w : World} {K : Fg} {mg : Str → Option Value} {h : Heap} {k : Nat} {fa : Addr} {d : List D → Res D} (KX : K.In h) (hm : mg "law" = some (.ref fa)) (F : Facts P w K mg k d)
    (ht : ∀ ns : List Int, ns.length ≤ 63 → d [.list (ns.map .int)] = .ok (.bool true)) :
    ∃ (K : PySem.W.Frag) (fd : FuncData) (sp : Sp), K.In h ∧ (∀ (s : Shared) (u : Value), BindsTo s fd ⟨[u], []⟩ [("script", u)]) ∧
        (∀ (H : Hp) (a : Addr) (ns : List Int), ns.length ≤ 63 → Only H → SqL K H a (ns.map V.int) → sp [.ref a] H (fun v _ => v = .bl true) fun _ _ _ => False) ∧
        ∀ base : Heap, K.In base → base.Ns mainGlobals mg → FnOk P w K mg base CX0 k fa fd ["script"] sp := by
  obtain ⟨f, fd, h1, h2, h3⟩ := F
  rw [h1] at hm
  cases hm
  exact ⟨K, fd, (fun vs H Q _ => spOf K mg 1 .sh d vs H Q fun _ _ _ => False), KX, h2, fun H a ns hl _ hS => law_sp (mg := mg) hS hl (ht ns hl), fun base _ _ => FnOk.calm (h3 base)⟩
end PL

end
section
namespace PL
open PySem PySem.Spec PyProof.Rows L2
def isListD : D → Bool
  | .list _ => true
  | _ => false
/-- o.m(e) of a list -/
def eMeL (f : D → D → Option D) (da db : DE) : DE := fun ρ => (da ρ).bind fun v => if isListD v = true then (db ρ).bind fun w => Res.up (f v w) else .bad
def vIndex : D → D → Option D
  | .list ds, d => if fine d = true ∧ fine (.list ds) = true then (ds.findIdx? fun z => PyData.eqv z d).map fun j => .int (j : Nat) else none
  | _, _ => none
section
variable {X : Cx} {W : WX} {O OL : List Nat} {k j : Nat} {m m1 m2 : Mode} {e a b c o : Expr} {es : List Expr} {d da db : DE} {das : DA} {pos p : Pos} {x : Str}
theorem ej_index (hh : Here X W k) (ho : EJ X W O .bo o da) (ha : EJ X W O .bo e db) (h : ∀ t u, PE X o t → PE X e u → PE X c (tBM X.K "list" (rIndexD X.K) t (tCons u tNil))) : EJ X W O .sh c (eMeL vIndex da db) := by
  obtain ⟨t, p, q⟩ := ho
  obtain ⟨u, p2, q2⟩ := ha
  refine ⟨_, h t u p p2, fun F0 H0 F H σ ρ Q s po => q F0 H0 F H σ ρ _ s (EPost.bindE (m1 := .bo) s.sub po fun v F' H' x _ e rm po' => ?_)⟩
  by_cases hl : isListD v = true
  · rw [if_pos hl] at po'
    cases v with
    | list ds =>
      have ty : tyV X.K "list" x H' := by
        obtain ⟨l, xs, rfl, h1, _⟩ := bo_list e.fh rm
        exact .inl ⟨rfl, xs, h1⟩
      refine ⟨ty, q2 F0 H0 F' H' σ ρ _ (s.ext e) (EPost.bindE (m1 := .bo) e.fh po' fun w F2 H2 y _ e2 rm2 po2 => ?_)⟩
      have rm' := rm.ext e2
      have po2 := po2.up
      unfold vIndex at po2
      simp only at po2
      by_cases hf : fine w = true ∧ fine (.list ds) = true
      · rw [if_pos hf] at po2
        cases hj : ds.findIdx? (fun z => PyData.eqv z w) with
        | none => rw [hj] at po2; exact po2.elim
        | some j =>
          rw [hj] at po2
          obtain ⟨hjl, h1, h2⟩ := List.findIdx?_eq_some_iff_getElem.1 hj
          obtain ⟨d1, d2⟩ := bo_shaped e2.fh rm2 hf.1
          obtain ⟨d3, d4⟩ := bo_shaped e2.fh rm' hf.2
          obtain ⟨l, xs, rfl, _⟩ := bo_list e2.fh rm'
          refine ⟨l, y, w, ds, j, ds[j], rfl, rfl, d3, d1, d4, d2, List.getElem?_eq_getElem hjl, h1, fun n z hn hz => ?_, po2 F2 H2 _ (.refl e2.fh) (.int _)⟩
          have hn' : n < ds.length := Nat.lt_trans hn hjl
          rw [List.getElem?_eq_getElem hn'] at hz
          cases hz
          have := h2 n hn
          simpa using this
      · rw [if_neg hf] at po2; exact po2.elim
    | _ => cases hl
  · rw [if_neg hl] at po'; exact po'.elim
def rSumT (K : PySem.W.Frag) : List V → Hp → VK → Prop := fun vs H Q => ∃ (a : Addr) (ns : List Int), vs = [V.ref a] ∧ SqT K H a (ns.map V.int) ∧ Q (.int ns.sum) H
theorem iter_intTuple {prog : Program} {w : World} {A : Around} {E : Value → Shared → Prop} {s : Shared} {l : Addr} {xs : Array (Int × Tok)} {Q : Value → Shared → Prop} (hl : s.heap.IsTuple l (intItems xs))
    (h : ∀ s₂ : Shared, s₂ = { s with heap := s.heap.push { cls := .type "tuple_iterator", data := .fields #[.ref l, .int 0 0] } } →
      (s₂.heap.IsTupleIter s.heap.objs.size l 0 ∧ s₂.heap.IsTuple l (intItems xs)) → (∀ b ∈ [s.heap.objs.size, l], b < s₂.heap.objs.size) → l ≠ s.heap.objs.size → Q (.ref s.heap.objs.size) s₂) : wpAny (model prog w) A (pyIter (.ref l)) Q E s := by
  have lt : l < s.heap.objs.size := by
    obtain ⟨_, e, _⟩ := hl
    exact Heap.lt_size e
  refine wpAny_pyIter_tuple hl (h _ rfl ⟨⟨_, Heap.get?_push_size _ rfl, rfl, rfl⟩, hl.push _⟩ ?_ (Nat.ne_of_lt lt))
  intro b hb
  have e : (s.heap.push { cls := .type "tuple_iterator", data := .fields #[.ref l, .int 0 0] }).objs.size = s.heap.objs.size + 1 := Heap.size_push ..
  show b < (s.heap.push _).objs.size
  rw [e]
  simp only [List.mem_cons, List.not_mem_nil, or_false] at hb
  rcases hb with rfl | rfl
  · exact Nat.lt_succ_self _
  · exact Nat.lt_succ_of_lt lt
theorem cr_sumT (hc : X.calm = true) : CallR X (.builtin "sum") (rSumT X.K) := by
  intro pins s σ H vs us Q I r h
  obtain ⟨a, ns, rfl, hs, q⟩ := h
  obtain ⟨its, rv, hl, _⟩ := I.tuple hs
  rw [Vals.ref1 r]
  obtain ⟨xs, e⟩ := rv.ints.allInts.items
  have hn : numsOf (intItems xs).toList = ns := by rw [← e]; exact rv.ints.numsOf
  rw [nums_intItems] at hn
  have hl : s.heap.IsTuple a (intItems xs) := by rw [← e]; exact hl
  refine PySem.call_sum_walkG (iter_intTuple hl fun s₂ e2 st hfp hlI => ?_)
  subst e2
  refine ⟨_, _, _, _, _, _, numAt xs, rfl, Walks.tuple (A := X.A.in1) (I.ok.hd hc) _ a hlI (intItems xs), st, hfp, fun _ _ => intItems_at, fun h' tk t' hk => ?_⟩
  have hk' : ∀ b o, s.heap.get? b = some o → h'.get? b = some o := fun b o eb => hk b o (fun hm => Nat.lt_irrefl _ ((List.mem_singleton.1 hm) ▸ Heap.lt_size eb)) (Heap.get?_push_of_some _ eb)
  have e3 : preSum (numAt xs) (intItems xs).size = ns.sum := by
    rw [show (intItems xs).size = xs.size by simp [intItems], preSum_eq, List.take_of_length_le (by simp), hn]
  rw [e3]
  exact ⟨.int _, H, I.kept hk', ⟨_, rfl⟩, q⟩
def vSum2 : D → Option D
  | .list ds => (allInt ds).map fun ns => .int ns.sum
  | .tuple ds => (allInt ds).map fun ns => .int ns.sum
  | _ => none
theorem ej_sum2 (hh : Here X W k) (hg : Gl X "sum") (hm : X.mg "sum" = none) (ns : NoSt a) (ha : EJ X W O .bo a da) : EJ X W O .sh (.Call (.Name "sum" p) [a] [] pos) (eUn vSum2 da) := by
  refine ej_b1 ((cr_sum hh.calm).or (cr_sumT hh.calm)) hg hm (by decide +kernel) (by decide) (by decide) ns ha fun F Hs H x v Q s r1 po => ?_
  unfold vSum2 at po
  split at po
  · rename_i ds
    cases e : allInt ds with
    | none => rw [e] at po; exact po.elim
    | some bs =>
      rw [e] at po
      rw [allInt_some e] at r1
      obtain ⟨l, xs, rfl, h1, h2, h3⟩ := bo_list s r1
      have ex := rpa_ints h3
      subst ex
      exact .inl ⟨_, _, rfl, h1, po F H _ (.refl s) (.int _)⟩
  · rename_i ds
    cases e : allInt ds with
    | none => rw [e] at po; exact po.elim
    | some bs =>
      rw [e] at po
      rw [allInt_some e] at r1
      obtain ⟨l, xs, rfl, h1, _, h2, h3⟩ := bo_tup s r1
      have ex := rpa_ints h3
      subst ex
      exact .inr ⟨_, _, rfl, h1, po F H _ (.refl s) (.int _)⟩
  · exact po.elim
def sPopU (i : Nat) (g : DG) : DS := fun ρ => match ρ[i]? with
  | some (some (.list ds)) => (match ds[ds.length - 1]? with
    | some v => (match g v (ρ.set i (some (.list ds.dropLast))) with
      | some ρ' => .nx ρ'
      | none => .bad)
    | none => .bad)
  | _ => .bad
theorem sj_popU {i : Nat} {ts : List Nat} {tg : Expr} {g : DG} {st : Stmt} (hi : i ∈ O) (hg : GJ X O ts tg g) (h : ∀ u, PG X tg u → PS X st (tAsg (tBM0 X.K "list" rPop (tVar i)) u)) : SJ X W m O O OL st (sPopU i g) := by
  obtain ⟨u, pb, q2⟩ := hg
  refine ⟨_, h u pb, fun F0 H0 F H σ ρ Dn s po => ?_⟩
  unfold sPopU at po
  cases hv : ρ[i]? with
  | none => rw [hv] at po; exact po.elim
  | some ov =>
    rw [hv] at po
    cases ov with
    | none => exact po.elim
    | some v =>
      cases v with
      | list ds =>
        obtain ⟨l, xs, h1, h2, h3, h4, h5, h6⟩ := own_list s hi hv
        simp only at po
        cases hd : ds[ds.length - 1]? with
        | none => rw [hd] at po; exact po.elim
        | some d =>
          rw [hd] at po
          simp only at po
          obtain ⟨y, hy, ry⟩ := h4.get hd
          rw [← h4.length] at hy
          refine ⟨_, h1, .inl ⟨rfl, xs, SqL.of h2⟩, l, xs, y, rfl, rfl, h2, hy, ?_⟩
          have r' : RpA X.K F xs.dropLast ds.dropLast := by
            have e1 : xs.dropLast = xs.take (xs.length - 1) := List.dropLast_eq_take
            have e2 : ds.dropLast = ds.take (ds.length - 1) := List.dropLast_eq_take
            rw [e1, e2, h4.length]
            exact h4.take _
          have s2 := s.mut hi hv h1 h2 h5 h6 (.lst (by rw [List.length_dropLast]; omega) r')
          refine q2 F0 H0 F _ σ _ y d _ s2 ry ?_
          cases hgv : g d (ρ.set i (some (.list ds.dropLast))) with
          | none => rw [hgv] at po; exact po
          | some ρ' => rw [hgv] at po; exact fun σ' s3 _ => po F _ σ' (.refl _) s3
      | _ => exact po.elim
end
/-- the module's name x is a def whose last parameter has the default dd -/
structure KnD (P : Program) (w : World) (K : Fg) (mg : Str → Option Value) (base : Heap) (k : Nat) (x : Str) (ps : List Str) (dd : D) (m : Mode) (d : List D → Res D) : Prop where
  ex : ∃ f fd ds v, mg x = some (.ref f) ∧ PySem.W.keepIn K (.ref f) = true ∧ Binds K fd ps [] ∧ Vals [v] ds ∧ Binds K fd ps ds ∧ (∀ F, Rp K F v dd) ∧ DefOk P w K mg base k f fd ps m d
section
variable {P : Program} {w : World} {K : Fg} {mg : Str → Option Value} {base : Heap} {x : Str} {ps : List Str} {m : Mode} {d : List D → Res D} {j k : Nat} {dd : D}
theorem knD_ok {f : Addr} {fd : FuncData} {params : Arguments} {body : List Stmt} {scope : Scope} {N : List Str} {O' : List Nat} {b : DS} {v : V} (hm : mg x = some (.ref f))
    (F : FunD K x x params body scope [v] [] f fd) (S : FnScope N ps scope) (hN : ps.length ≤ N.length) (h1 : 0 < ps.length) (hv : ∀ F, Rp K F v dd)
    (hb : ∀ (T : Addr) (kV doc pm : Value) (an : Option Addr) (cdv ct : Value) (us its : List Value), us.length = ps.length - 1 → its.length = 1 →
      ∃ k, bindArgs (PySem.W.fnOf x x params body scope (.ref T) kV doc pm an cdv ct) ⟨us, []⟩ = seqItems? (.ref T) >>= k ∧ k (some its.toArray) = pure (ps.zip (us ++ its)))
    (hb0 : ∀ (T : Addr) (kV doc pm : Value) (an : Option Addr) (cdv ct : Value) (us its : List Value), us.length = ps.length → its.length = 1 →
      ∃ k, bindArgs (PySem.W.fnOf x x params body scope (.ref T) kV doc pm an cdv ct) ⟨us, []⟩ = seqItems? (.ref T) >>= k ∧ k (some its.toArray) = pure (ps.zip us))
    (h : ∀ (cdv : Value) (A : Around) (outer : List PySem.Env) (s : Shared) (H : Hp) (E : XK), Here (cxOf (L2.CX P w) P w K mg base N x scope f cdv A outer s H E) (fun cls d _ H => E cls d H) k →
      BJ (cxOf (L2.CX P w) P w K mg base N x scope f cdv A outer s H E) (fun cls d _ H => E cls d H) m [] O' [] body b) : KnD P w K mg base (k + 1) x ps dd m (runD N.length b) := by
  obtain ⟨ds, r1, b1⟩ := F.binds1 (ps := ps) (ps.length - 1) 0 (by simp) (by simp; omega) (fun T kV doc pm an cdv ct us its hu hi => by
    obtain ⟨k, e1, e2⟩ := hb T kV doc pm an cdv ct us its hu hi
    exact ⟨k, e1, by simpa using e2⟩)
  obtain ⟨ds0, r0, b0⟩ := F.binds1 (ps := ps) ps.length 1 (by simp) (by simp) (fun T kV doc pm an cdv ct us its hu hi => by
    obtain ⟨k, e1, e2⟩ := hb0 T kV doc pm an cdv ct us its hu hi
    refine ⟨k, e1, ?_⟩
    have : its.drop 1 = [] := List.drop_eq_nil_of_le (by simpa using Nat.le_of_eq hi)
    rw [this, List.append_nil]; exact e2)
  have : ds0 = [] := by cases r0; rfl
  subst this
  exact ⟨f, fd, ds, v, hm, F.kp, b0, by simpa using r1, b1, hv, def_ok F S hN h⟩
theorem KnD.full (h : KnD P w K mg base k x ps dd m d) : Kn P w K mg base k x ps m d := by
  obtain ⟨f, fd, ds, v, h1, h2, h3, h4, h5, h6, h7⟩ := h.ex
  exact ⟨f, fd, h1, h2, h3, h7⟩
end
section
variable {X : Cx} {W : WX} {O : List Nat} {k j : Nat} {m : Mode} {a : Expr} {es : List Expr} {das : DA} {pos p : Pos} {x : Str} {ps : List Str} {df : List D → Res D} {dd : D}
theorem ej_callDf (F : KnD X.prog X.w X.K X.mg X.base k x ps dd m df) (hh : Here X W j) (hk : Nat.ble k j = true) (hg : Gl X x) (hl : (a :: es).length + 1 = ps.length) (hdb : (x == ("__debug__" : Str)) = false) (ns : NoSt a) (nss : NoStars es)
    (ha : AJ X W O (a :: es) das) (hal : ∀ ρ ds, das ρ = .ok ds → ds.length = (a :: es).length) : EJ X W O m (.Call (.Name x p) (a :: es) [] pos) (eCall (fun ds => df (ds ++ [dd])) das) := by
  obtain ⟨f, fd, ds, v, h1, h2, h3, h4, h5, h6, h7⟩ := F.ex
  exact ej_callD (dvs := [v]) (dds := [dd]) h7 hh (Nat.le_of_ble_eq_true hk) hg h1 h2 h5 h4 (fun F => .cons (h6 F) .nil) hl hdb ns nss ha hal
/-- f() -/
theorem ej_callK0 (F : Kn X.prog X.w X.K X.mg X.base k x [] m df) (hh : Here X W j) (hk : Nat.ble k j = true) (hg : Gl X x) (hdb : (x == ("__debug__" : Str)) = false) :
    EJ X W O m (.Call (.Name x p) [] [] pos) (eCall df aNil) := by
  obtain ⟨f, fd, h1, h2, h3, h4⟩ := F.ex
  have pe : PE X (.Call (.Name x p) [] [] pos) (fun σ H Q => spOf X.K X.mg 0 m df [] H Q (WE W σ)) :=
    ⟨fun pins s σ H Q I h => wpAny_Call_Name_kw (ld_glob I hg h1 (PySem.W.callWith_K0 I.kIn h2 (run_fnSD (us := []) (dvs := []) (ds := []) (vs := []) h4 (hh.hr.mono (Nat.le_of_ble_eq_true hk)) h3 .nil (E := WE W) (passAt hh.tk σ) I .nil h)) hdb)⟩
  refine ⟨_, pe, fun F0 H0 F H σ ρ Q s po => ⟨rfl, F, [], s.sub, .nil, ?_⟩⟩
  have po : EPost X W m F H σ (df []) Q := po
  cases hd : df [] with
  | ok v => rw [hd] at po; exact po
  | exn c => rw [hd] at po; exact po
  | bad => rw [hd] at po; exact po
end
end PL

end
section
namespace PL
open PySem PySem.Spec PyProof.Rows L2
/-- the module's class x may be raised: an own class over ValueError without __init__ -/
def KX (mg : Str → Option Value) (K : Fg) (x : Str) : Prop := ∃ C, mg x = some (.ref C) ∧ PySem.W.excIn K C He.veBase "ValueError.__new__" = true ∧ PySem.W.keepIn K (.ref C) = true ∧ PySem.W.subIn K (.ref C) (.type "BaseException") = some true ∧ PySem.W.typeIn K (.ref C) = some (.type "type")
/-- of the classes x and y: whether except y catches x -/
def KM (mg : Str → Option Value) (K : Fg) (x y : Str) (b : Bool) : Prop := ∃ C D, mg x = some (.ref C) ∧ mg y = some (.ref D) ∧ PySem.W.exmOne K (.ref C) (.ref D) = some b
section
variable {mg : Str → Option Value} {K : Fg} {h : Heap}
theorem kx_of {x : Str} (X : K.In h) (G : h.Ns mainGlobals mg) (c1 : (He.Fa.glo x).ok K = true) (c2 : (He.Fa.exc x).ok K = true) : KX mg K x := by
  obtain ⟨a, b, c, d⟩ := He.exc_ok c2
  exact ⟨_, He.glo_ok X G c1, a, b, c, d⟩
theorem km_of {x y : Str} {b : Bool} (X : K.In h) (G : h.Ns mainGlobals mg) (c1 : (He.Fa.glo x).ok K = true) (c2 : (He.Fa.glo y).ok K = true) (c3 : (He.Fa.exm x y b).ok K = true) : KM mg K x y b :=
  ⟨_, _, He.glo_ok X G c1, He.glo_ok X G c2, He.exm_ok c3⟩
end
def sRaise (c : Str) : DS := fun ρ => .ex (excD c []) ρ
section
variable {X : Cx} {W : WX} {O O' OL : List Nat} {k : Nat} {m : Mode}
theorem sj_raise {x msg : Str} {j : Nat} {p p2 p3 pos : Pos} (hh : Here X W k) (h : KX X.mg X.K x) (hg : Gl X x) (hdb : (x == ("__debug__" : Str)) = false) : SJ X W m O O' OL (.Raise (some (.Call (.Name x p) [.Constant (.str msg) j p2] [] p3)) none pos) (sRaise x) := by
  obtain ⟨C, h1, h2, h3, h4, h5⟩ := h
  refine ⟨_, ps_raise hh.calm hh.tk (pmk_own PySem.F.excBase_ValueError h2 h1 h3 (raises_own h4 h5) hg hdb), fun F0 H0 F H σ ρ Dn s po => ?_⟩
  exact po _ F H σ (.ref C) none s ⟨x, [], rfl, h1, .inl ⟨rfl, rfl⟩⟩
end
theorem PE.never {X : Cx} {e : Expr} : PE X e (fun _ _ _ => False) := ⟨fun _ _ _ _ _ _ h => h.elim⟩
def EX (X : Cx) (i : Nat) (a : Addr) (e : Expr) (d : DE) : Prop :=
  ∃ t, PE X e t ∧ ∀ F0 H0 F H σ ρ Q, σ[i]? = some (some (.ref a)) → SR X.K F0 H0 [] F H σ ρ → EPost X WF .sh F H σ (d ρ) Q → t σ H Q
section
variable {X : Cx} {i : Nat} {ad : Addr} {a b e : Expr} {es : List Expr} {d da db : DE} {pos : Pos}
theorem ex_lift (h : EJ X WF [] .sh e d) : EX X i ad e d := by
  obtain ⟨t, p, q⟩ := h
  exact ⟨t, p, fun F0 H0 F H σ ρ Q _ s po => q F0 H0 F H σ ρ Q s po⟩
theorem ex_not (h : EX X i ad a da) : EX X i ad (.UnaryOp .Not a pos) (eNot da) := by
  obtain ⟨t, p, q⟩ := h
  refine ⟨_, pe_notL p, fun F0 H0 F H σ ρ Q hi s po => q F0 H0 F H σ ρ _ hi s (EPost.bindE (m1 := .sh) s.sub po fun v F' H' x _ e rm po' => ?_)⟩
  exact ⟨truthD v, truth_v e.fh (RM.bo_of .sh (H0 := H') rm), po' F' H' _ (.refl e.fh) (.bl _)⟩
theorem ex_one {op : BoolOp} (h : EX X i ad a da) : EX X i ad (.BoolOp op [a] pos) da := by
  obtain ⟨t, p, q⟩ := h
  exact ⟨t, pe_one p, q⟩
theorem ex_and (h : EX X i ad a da) (h2 : EX X i ad (.BoolOp .And (b :: es) pos) db) : EX X i ad (.BoolOp .And (a :: b :: es) pos) (eAnd da db) := by
  obtain ⟨t, p, q⟩ := h
  obtain ⟨u, p2, q2⟩ := h2
  refine ⟨_, pe_andL p p2, fun F0 H0 F H σ ρ Q hi s po => q F0 H0 F H σ ρ _ hi s (EPost.bindE (m1 := .sh) s.sub po fun v F' H' x _ e rm po' => ?_)⟩
  refine ⟨truthD v, truth_v e.fh (RM.bo_of .sh (H0 := H') rm), ?_⟩
  by_cases hv : truthD v = true
  · rw [if_pos hv] at po' ⊢
    exact q2 F0 H0 F' H' σ ρ Q hi (s.ext e) po'
  · rw [if_neg hv] at po' ⊢
    exact po' F' H' x (.refl e.fh) rm
theorem ex_or (h : EX X i ad a da) (h2 : EX X i ad (.BoolOp .Or (b :: es) pos) db) : EX X i ad (.BoolOp .Or (a :: b :: es) pos) (eOr da db) := by
  obtain ⟨t, p, q⟩ := h
  obtain ⟨u, p2, q2⟩ := h2
  refine ⟨_, pe_orL p p2, fun F0 H0 F H σ ρ Q hi s po => q F0 H0 F H σ ρ _ hi s (EPost.bindE (m1 := .sh) s.sub po fun v F' H' x _ e rm po' => ?_)⟩
  refine ⟨truthD v, truth_v e.fh (RM.bo_of .sh (H0 := H') rm), ?_⟩
  by_cases hv : truthD v = true
  · rw [if_pos hv] at po' ⊢
    exact po' F' H' x (.refl e.fh) rm
  · rw [if_neg hv] at po' ⊢
    exact q2 F0 H0 F' H' σ ρ Q hi (s.ext e) po'
end
/-- isinstance(n, y) of an exception of the class c -/
def eIs (l : List (Str × Bool)) (c : Str) : DE := fun _ => match l.lookup c with
  | some b => .ok (.bool b)
  | none => .bad
theorem lookup_mem {α : Type} : ∀ {l : List (Str × α)} {c : Str} {b : α}, l.lookup c = some b → (c, b) ∈ l
  | [], _, _, h => by cases h
  | (k, v) :: r, c, b, h => by
    rw [List.lookup_cons] at h
    cases q : c == k with
    | true =>
      rw [q] at h
      cases h
      rw [eq_of_beq q]
      exact List.mem_cons_self
    | false =>
      rw [q] at h
      exact List.mem_cons_of_mem _ (lookup_mem h)
theorem ex_isE {X : Cx} {i : Nat} {ad D : Addr} {oe : Obj} {pn : List (Addr × Obj)} {n y c : Str} {p p1 p2 pos : Pos} {l : List (Str × Bool)} (hl : ∀ q ∈ l, KI X.mg X.K q.1 y q.2) (hc : X.mg c = some (.ref D)) (hz : Zc (.ref D) none oe) (hf : ∃ vs, oe.data = .fields vs)
    (hg : Gl X "isinstance") (hm : X.mg "isinstance" = none) (hgy : Gl X y) (hdy : (y == ("__debug__" : Str)) = false) (pv : PE (X.suite ad ((ad, oe) :: pn)) (.Name n p1) (tVar i)) :
    EX (X.suite ad ((ad, oe) :: pn)) i ad (.Call (.Name "isinstance" p) [.Name n p1, .Name y p2] [] pos) (eIs l c) := by
  cases hb : l.lookup c with
  | none =>
    refine ⟨fun _ _ _ => False, PE.never, fun F0 H0 F H σ ρ Q hi s po => ?_⟩
    unfold eIs at po
    rw [hb] at po
    exact po.elim
  | some b =>
    obtain ⟨D', C, h1, h2, h3, h4⟩ := hl _ (lookup_mem hb)
    have h1 : X.mg c = some (.ref D') := h1
    rw [hc] at h1
    cases h1
    have hgy' : Gl (X.suite ad ((ad, oe) :: pn)) y := hgy
    refine ⟨_, pe_callB (call_isE h3 hz hf) hg hm (by decide +kernel) (pa_cons pv (pa_cons (pe_glob (v := .ref C) hgy' h2 rfl hdy) pa_nil)) (by decide) (by decide), fun F0 H0 F H σ ρ Q hi s po => ?_⟩
    unfold eIs at po
    rw [hb] at po
    refine ⟨.ref ad, hi, .ref C, .ref C, b, rfl, fun u r => r, h4, po F H _ (.refl s.sub) (.bl b)⟩
def unX : D → Option (Str × List (D × D))
  | .dict ((.str c, _) :: r) => some (c, r)
  | _ => none
/-- only a return of the suite counts -/
def onlyRt (ρ : Lo) (r : Res D) : SRes := match r with
  | .ok v => .rt v
  | _ => .bad
/-- try: body, except (the classes of tbl) as slot i: return e -/
def sTryR (i : Nat) (tbl : Str → Option Bool) (body : DS) (e : Str → DE) : DS := fun ρ => match body ρ with
  | .ex c ρ' => (match unX c with
    | some (n, []) => (match tbl n with
      | some true => if i < ρ'.length then onlyRt ρ' (e n (ρ'.set i none)) else .bad
      | some false => .ex c ρ'
      | none => .bad)
    | _ => .bad)
  | r => r
section
variable {X : Cx} {W : WX} {O O' OL : List Nat} {k : Nat}
theorem SR.setN {K : Fg} {F0 H0 F H : Hp} {σ : L2.St} {ρ : Lo} (i : Nat) (x : Option V) (s : SR K F0 H0 [] F H σ ρ) : SR K F0 H0 [] F H (σ.set i x) (ρ.set i none) := by
  refine ⟨s.e0, by simp [s.len], fun j w h1 h2 => ?_, fun j w h1 => (by cases h1), fun j k w w' b h1 => (by cases h1)⟩
  by_cases hj : j = i
  · subst hj
    have hl : j < ρ.length := by have := (List.getElem?_eq_some_iff.mp h2).1; simpa using this
    rw [List.getElem?_set_self hl] at h2; cases h2
  · rw [List.getElem?_set_ne (Ne.symm hj)] at h2 ⊢
    exact s.sh j w h1 h2
def tblD (l : List (Str × Bool)) : Str → Option Bool := fun c => l.lookup c
theorem tbl_ok {mg : Str → Option Value} {K : Fg} {x : Str} {C : Addr} {l : List (Str × Bool)} (hC : mg x = some (.ref C)) (h : ∀ q ∈ l, KM mg K q.1 x q.2) : ∀ c b, tblD l c = some b → ∃ D, mg c = some (.ref D) ∧ PySem.W.exmOne K (.ref D) (.ref C) = some b := fun c b e => by
  obtain ⟨D, C', h1, h2, h3⟩ := h _ (lookup_mem e)
  have h2 : mg x = some (.ref C') := h2
  rw [hC] at h2
  cases h2
  exact ⟨D, h1, h3⟩
/-- the reading of the suite -/
theorem sj_tryR {i : Nat} {x n : Str} {C : Addr} {body : List Stmt} {re : Expr} {np rp pos' pos : Pos} {tbl : Str → Option Bool} {db : DS} {de : Str → DE} (hh : Here X W k) (hs : X.stack = X.env :: X.outer) (hf : X.env.frame = some X.env.locals) (hi : X.N[i]? = some n) (hln : X.env.kindOf n = some .local)
    (hg : Gl X x) (hdb : (x == ("__debug__" : Str)) = false) (hC : X.mg x = some (.ref C)) (ht : ∀ c b, tbl c = some b → ∃ D, X.mg c = some (.ref D) ∧ PySem.W.exmOne X.K (.ref D) (.ref C) = some b)
    (hb : ∀ (W' : WX) (pn : List (Addr × Obj)) (xe : Value → Shared → Prop), Here (X.tr pn xe) W' k → BJ (X.tr pn xe) W' .sh O [] OL body db)
    (hsu : ∀ (a : Addr) (oe : Obj) (D : Addr) (pn : List (Addr × Obj)) (c : Str), tbl c = some true → X.mg c = some (.ref D) → Zc (.ref D) none oe → (∃ vs, oe.data = .fields vs) → EX (X.suite a ((a, oe) :: pn)) i a re (de c)) :
    SJ X W .sh O [] OL (.Try body [.ExceptHandler (some (.Name x np)) (some n) [.Return (some re) rp] pos'] [] [] pos) (sTryR i tbl db de) := by
  have here' : ∀ (W' : WX) (pn : List (Addr × Obj)) (xe : Value → Shared → Prop), Takes (X.tr pn xe) W' → PassesOwn (model X.prog X.w) X.A X.env xe → Here (X.tr pn xe) W' k := fun W' pn xe tk po => ⟨hh.hr, hh.calm, tk, hh.nd, po⟩
  let tb : WX → TS := fun W' Dn σ H => ∀ pn xe (tk : Takes (X.tr pn xe) W') (po : PassesOwn (model X.prog X.w) X.A X.env xe), Classical.choose (hb W' pn xe (here' W' pn xe tk po)) Dn σ H
  let ts : Addr → Value → Option Addr → TS := fun a cls d Dn σ H => d = none ∧ ∃ D c, cls = .ref D ∧ ∃ (h1 : tbl c = some true) (h2 : X.mg c = some (.ref D)), ∀ oe pn (hz : Zc (.ref D) none oe) (hfs : ∃ vs, oe.data = .fields vs), ∃ n, LkP n (fun H' => Classical.choose (hsu a oe D pn c h1 h2 hz hfs) σ H' Dn.rt) H
  refine ⟨_, ps_try_as (i := i) (tb := tb) (ts := ts) hs hf hh.nd hi hln ⟨hg, hdb, .inl hC⟩ hh.tk ?_ ?_, ?_⟩
  · intro W' pn xe tk po
    exact ⟨fun pins s σ H Dn I h => (Classical.choose_spec (hb W' pn xe (here' W' pn xe tk po))).1.run pins s σ H Dn I (h pn xe tk po)⟩
  · intro a oe cls d pn hz hfs
    refine ⟨fun pins s σ H Dn I h => ?_⟩
    obtain ⟨rfl, D, c, rfl, h1, h2, h3⟩ := h
    have p := (Classical.choose_spec (hsu a oe D pn c h1 h2 hz hfs)).1
    obtain ⟨n, g⟩ := h3 oe pn hz hfs
    obtain ⟨H2, I2, g2⟩ := LkP.inv g I
    exact (pss_cons (ps_ret p) pss_nil).run pins s σ H2 Dn I2 g2
  · intro F0 H0 F H σ ρ Dn s po pn xe tk po2
    refine (Classical.choose_spec (hb _ pn xe (here' _ pn xe tk po2))).2 F0 H0 F H σ ρ Dn s ?_
    unfold sTryR at po
    cases hr : db ρ with
    | nx ρ' => rw [hr] at po; exact po
    | rt v => rw [hr] at po; exact po
    | bk ρ' => rw [hr] at po; exact po
    | ct ρ' => rw [hr] at po; exact po
    | bad => rw [hr] at po; exact po
    | ex c ρ' =>
      rw [hr] at po
      intro O2 F' H' σ' cls dd s' ex
      obtain ⟨nm, args, rfl, hm, hargs⟩ := ex
      simp only [unX, excD] at po
      rcases hargs with ⟨rfl, rfl⟩ | ⟨f, v, d, xv, rfl, _⟩
      · simp only [List.map_nil] at po
        cases hn : tbl nm with
        | none => rw [hn] at po; exact po.elim
        | some b =>
          rw [hn] at po
          obtain ⟨D, hD, hx⟩ := ht nm b hn
          rw [hm] at hD
          cases hD
          refine ⟨b, hx, fun hb1 a na => ?_, fun hb0 => ?_⟩
          · subst hb1
            refine ⟨rfl, D, nm, rfl, hn, hm, fun oe pn hz hfs => ?_⟩
            have po : SPost X W F0 H0 F .sh [] OL (if i < ρ'.length then onlyRt ρ' (de nm (ρ'.set i none)) else .bad) Dn := po
            have sl : i < ρ'.length := Decidable.byContradiction fun sl => by
              rw [if_neg sl] at po
              exact po.elim
            rw [if_pos sl] at po
            rw [← s'.len] at sl
            refine ⟨_, LkP.mono (fun H2 ⟨F2, e2, s2⟩ => ?_) s'.all⟩
            refine (Classical.choose_spec (hsu a oe D pn nm hn hm hz hfs)).2 F0 H0 F2 H2 (σ'.set i (some (.ref a))) (ρ'.set i none) Dn.rt (by rw [List.getElem?_set_self sl]) (SR.setN i _ s2) ?_
            simp only [onlyRt] at po
            cases hv : de nm (ρ'.set i none) with
            | ok v =>
              rw [hv] at po
              exact fun F3 H3 y e rm => po F3 H3 y (s2.e0.trans e) rm
            | exn c => rw [hv] at po; exact po.elim
            | bad => rw [hv] at po; exact po.elim
          · subst hb0
            exact po O2 F' H' σ' _ none s' ⟨nm, [], rfl, hm, .inl ⟨rfl, rfl⟩⟩
      · simp only [List.map_cons, List.map_nil] at po
        exact po.elim
end
end PL

end
section
namespace PL
open PySem PySem.Spec PyProof.Rows L2
section
variable {prog : Program} {w : World} {A : Around} {s : Shared} {E : Value → Shared → Prop}
theorem min_list_at {l : Addr} {vs : Array Value} {x : D} {xs : List D} {as : List Addr} {Q : Value → Shared → Prop} (hh : A.handled = none) (hl : s.heap.IsList l vs) (hr : ReadsAll s.heap vs.toList (x :: xs) as) (ha : W.AlikeAll (x :: xs)) (hu : A.units + 1 + PyData.depthAll (x :: xs) < cLine)
    (h : ∀ (i : Nat) v h' tk, vs[i]? = some v → (x :: xs)[i]? = some (W.minD x xs) → (∀ b o, s.heap.get? b = some o → h'.get? b = some o) → Q v { s with heap := h', toks := tk }) :
    wpAny (model prog w) A (call (.builtin "min") [.ref l]) Q E s := by
  have hn : vs.size = xs.length + 1 := W.readsAll_len hr
  refine call_min_walkH (W.iter_listW (A := A.in1) hh hl fun s₂ e Wk st hfp hw hk => ?_)
  refine ⟨_, _, _, _, _, _, _, s.heap, _, rfl, Wk, st, hfp, by omega, hw, hk, W.cmpIn_lt (A := A.in1) hr ha (by show A.units + 1 + _ < _; exact hu), fun v s' hP m => ?_⟩
  obtain ⟨h', tk, rfl, hk'⟩ := W.moved_old e rfl m
  have e1 : vs.size - 1 = xs.length := by omega
  obtain ⟨e3, e2⟩ := W.argBest_fold W.dataLt PyData.none x xs xs.length (Nat.le_refl _)
  rw [List.take_length] at e2
  refine h _ v h' tk hP ?_ hk'
  rw [e1]
  have hlt : argBest (fun i j => W.dataLt ((x :: xs).getD i .none) ((x :: xs).getD j .none)) xs.length < (x :: xs).length := by rw [List.length_cons]; omega
  rw [List.getElem?_eq_getElem hlt]
  unfold W.minD
  rw [← e2, List.getD_eq_getElem?_getD, List.getElem?_eq_getElem hlt]
  rfl
theorem max_list_at {l : Addr} {vs : Array Value} {x : D} {xs : List D} {as : List Addr} {Q : Value → Shared → Prop} (hh : A.handled = none) (hl : s.heap.IsList l vs) (hr : ReadsAll s.heap vs.toList (x :: xs) as) (ha : W.AlikeAll (x :: xs)) (hu : A.units + 1 + PyData.depthAll (x :: xs) < cLine)
    (h : ∀ (i : Nat) v h' tk, vs[i]? = some v → (x :: xs)[i]? = some (W.maxD x xs) → (∀ b o, s.heap.get? b = some o → h'.get? b = some o) → Q v { s with heap := h', toks := tk }) :
    wpAny (model prog w) A (call (.builtin "max") [.ref l]) Q E s := by
  have hn : vs.size = xs.length + 1 := W.readsAll_len hr
  refine call_max_walkH (W.iter_listW (A := A.in1) hh hl fun s₂ e Wk st hfp hw hk => ?_)
  refine ⟨_, _, _, _, _, _, _, s.heap, _, rfl, Wk, st, hfp, by omega, hw, hk, W.cmpIn_gt (A := A.in1) hr ha (by show A.units + 1 + _ < _; exact hu), fun v s' hP m => ?_⟩
  obtain ⟨h', tk, rfl, hk'⟩ := W.moved_old e rfl m
  have e1 : vs.size - 1 = xs.length := by omega
  obtain ⟨e3, e2⟩ := W.argBest_fold (fun y a => W.dataLt a y) PyData.none x xs xs.length (Nat.le_refl _)
  rw [List.take_length] at e2
  refine h _ v h' tk hP ?_ hk'
  rw [e1]
  have hlt : argBest (fun i j => W.dataLt ((x :: xs).getD j .none) ((x :: xs).getD i .none)) xs.length < (x :: xs).length := by rw [List.length_cons]; omega
  rw [List.getElem?_eq_getElem hlt]
  unfold W.maxD
  rw [← e2, List.getD_eq_getElem?_getD, List.getElem?_eq_getElem hlt]
  rfl
end
section
variable {X : Cx}
def rExtD (g : D → List D → D) (K : Fg) : List V → Hp → VK → Prop := fun xs H Q => ∃ (a : Addr) (vs : List V) (d : D) (ds : List D), xs = [V.ref a] ∧ SqL K H a vs ∧ DpAll K H vs (d :: ds) ∧ W.AlikeAll (d :: ds) ∧ PyData.depthAll (d :: ds) ≤ 60 ∧
  ∀ (i : Nat) (v : V), vs[i]? = some v → (d :: ds)[i]? = some (g d ds) → Q v H
theorem cr_minD (hc : X.calm = true) (hu : X.A.units + 64 < cLine) : CallR X (.builtin "min") (rExtD W.minD X.K) := by
  intro pins s σ H xs us Q I r h
  obtain ⟨a, vs, d, ds, rfl, hs, hd, ha, hp, q⟩ := h
  obtain ⟨its, rv, hl, _⟩ := I.list hs
  obtain ⟨as, hr⟩ := Dp.readsAll I _ _ _ hd rv
  rw [Vals.ref1 r]
  refine min_list_at (I.ok.hd hc) hl.isList (as := as) (by simpa using hr) ha (by omega) fun i v h' tk hv hm hk => ?_
  have hv : its[i]? = some v := by simpa using hv
  have hil : i < vs.length := by
    have h1 := rv.length
    have h2 : i < its.length := (List.getElem?_eq_some_iff.mp hv).1
    omega
  obtain ⟨u, hu1, hu2⟩ := rv.get (List.getElem?_eq_getElem hil)
  rw [hv] at hu1
  cases hu1
  exact ⟨_, H, I.kept hk, hu2, q i _ (List.getElem?_eq_getElem hil) hm⟩
theorem cr_maxD (hc : X.calm = true) (hu : X.A.units + 64 < cLine) : CallR X (.builtin "max") (rExtD W.maxD X.K) := by
  intro pins s σ H xs us Q I r h
  obtain ⟨a, vs, d, ds, rfl, hs, hd, ha, hp, q⟩ := h
  obtain ⟨its, rv, hl, _⟩ := I.list hs
  obtain ⟨as, hr⟩ := Dp.readsAll I _ _ _ hd rv
  rw [Vals.ref1 r]
  refine max_list_at (I.ok.hd hc) hl.isList (as := as) (by simpa using hr) ha (by omega) fun i v h' tk hv hm hk => ?_
  have hv : its[i]? = some v := by simpa using hv
  have hil : i < vs.length := by
    have h1 := rv.length
    have h2 : i < its.length := (List.getElem?_eq_some_iff.mp hv).1
    omega
  obtain ⟨u, hu1, hu2⟩ := rv.get (List.getElem?_eq_getElem hil)
  rw [hv] at hu1
  cases hu1
  exact ⟨_, H, I.kept hk, hu2, q i _ (List.getElem?_eq_getElem hil) hm⟩
end
/-- rows of ints, all of them -/
def allRow : List D → Option (List (List Int))
  | [] => some []
  | .tuple t :: r => (allInt t).bind fun a => (allRow r).bind fun b => some (a :: b)
  | _ :: _ => none
theorem allRow_some : ∀ {l : List D} {m : List (List Int)}, allRow l = some m → l = m.map fun a => .tuple (a.map .int)
  | [], m, h => by cases h; rfl
  | x :: r, m, h => by
    cases x with
    | tuple t =>
      unfold allRow at h
      cases ea : allInt t with
      | none => rw [ea] at h; cases h
      | some a =>
        rw [ea] at h
        cases eb : allRow r with
        | none => rw [eb] at h; cases h
        | some b =>
          rw [eb] at h
          cases h
          rw [List.map_cons, ← allRow_some eb, allInt_some ea]
    | _ => cases h
theorem alikeAll_int : ∀ a b : List Int, W.alikeAll (a.map .int) (b.map .int) = true
  | [], _ => by simp [W.alikeAll]
  | _ :: _, [] => by simp [W.alikeAll]
  | x :: a, y :: b => by simp [W.alikeAll, W.alike, alikeAll_int a b]
theorem alike_rows (m : List (List Int)) : W.AlikeAll (m.map fun a => .tuple (a.map .int)) := by
  refine ⟨fun x hx y hy => ?_, fun x hx e => ?_⟩
  · obtain ⟨a, _, rfl⟩ := List.mem_map.1 hx
    obtain ⟨b, _, rfl⟩ := List.mem_map.1 hy
    simp [W.alike, alikeAll_int]
  · obtain ⟨a, _, rfl⟩ := List.mem_map.1 hx
    cases e
theorem rowsI_depthAll : ∀ l : List Int, PyData.depthAll (l.map .int) = 0
  | [] => rfl
  | a :: l => by simp [PyData.depthAll, PyData.depth, rowsI_depthAll l]
theorem rows_depth : ∀ m : List (List Int), PyData.depthAll (m.map fun a => PyData.tuple (a.map .int)) ≤ 1
  | [] => Nat.zero_le _
  | a :: m => by
    have := rows_depth m
    simp only [List.map_cons, PyData.depthAll, PyData.depth, rowsI_depthAll]
    omega
theorem canLayAll_ints : ∀ a : List Int, PyData.canLayAll0 (a.map .int) = true
  | [] => rfl
  | _ :: a => by simp [PyData.canLayAll0, PyData.canLay0, canLayAll_ints a]
theorem canLayAll_rows : ∀ m : List (List Int), PyData.canLayAll0 (m.map fun a => PyData.tuple (a.map .int)) = true
  | [] => rfl
  | a :: m => by simp [PyData.canLayAll0, PyData.canLay0, canLayAll_rows m, canLayAll_ints a]
def rowExt (g : D → List D → D) : D → Option D
  | .list (d :: ds) => (allRow (d :: ds)).bind fun _ => some (g d ds)
  | _ => none
def vMin1D (v : D) : Option D := match vMin1 v with
  | some r => some r
  | none => rowExt W.minD v
def vMax1D (v : D) : Option D := match vMax1 v with
  | some r => some r
  | none => rowExt W.maxD v
section
variable {X : Cx} {W : WX} {O : List Nat} {k : Nat} {m : Mode} {F H Hs : Hp} {a : Expr} {da : DE} {pos p : Pos}
theorem rowExt_pass {g : D → List D → D} {x : V} {v : D} {Q : VK} (s : Same F H) (r1 : RM .bo X.K F Hs H x v) (po : VPost X.K .sh F H (rowExt g v) Q) : rExtD g X.K [x] H Q := by
  unfold rowExt at po
  split at po
  · rename_i d ds
    cases e : allRow (d :: ds) with
    | none => rw [e] at po; exact po.elim
    | some rows =>
      rw [e] at po
      have er := allRow_some e
      obtain ⟨l, xs, rfl, h1, h2, h3⟩ := bo_list s r1
      refine ⟨l, xs, d, ds, rfl, h1, (h3.mono s).dp (by rw [er]; exact canLayAll_rows rows), by rw [er]; exact alike_rows rows, by have := rows_depth rows; rw [← er] at this; omega, fun i v hv hm => ?_⟩
      obtain ⟨d', h4, h5⟩ := h3.getV hv
      rw [hm] at h4
      cases h4
      exact po F H _ (.refl s) h5
  · exact po.elim
theorem ej_min1D (hh : Here X W k) (hg : Gl X "min") (hm : X.mg "min" = none) (ns : NoSt a) (ha : EJ X W O .bo a da) : EJ X W O .sh (.Call (.Name "min" p) [a] [] pos) (eUn vMin1D da) := by
  refine ej_b1 ((cr_min hh.calm).or (cr_minD hh.calm hh.u64)) hg hm (by decide +kernel) (by decide) (by decide) ns ha fun F Hs H x v Q s r1 po => ?_
  unfold vMin1D at po
  cases e0 : vMin1 v with
  | none =>
    rw [e0] at po
    exact .inr (rowExt_pass s r1 po)
  | some w =>
    rw [e0] at po
    refine .inl ?_
    unfold vMin1 at e0
    split at e0
    · rename_i ds
      cases e : allInt ds with
      | none => rw [e] at e0; cases e0
      | some bs =>
        rw [e] at e0
        rw [allInt_some e] at r1
        obtain ⟨l, xs, rfl, h1, h2, h3⟩ := bo_list s r1
        have ex := rpa_ints h3
        subst ex
        cases bs with
        | nil => cases e0
        | cons n r =>
          cases e0
          refine ⟨_, _, rfl, h1, by simp, fun m hm1 hm2 => ?_⟩
          obtain ⟨q1, q2, q3⟩ := minL_spec r n
          have em : m = minL n r := by
            refine Int.le_antisymm (hm2 _ ?_) ?_
            · rcases q1 with q1 | q1
              · rw [q1]; simp
              · simp [q1]
            · rcases List.mem_cons.mp hm1 with rfl | hm1
              · exact q2
              · exact q3 m hm1
          rw [em]
          exact po F H _ (.refl s) (.int _)
    · cases e0
theorem ej_max1D (hh : Here X W k) (hg : Gl X "max") (hm : X.mg "max" = none) (ns : NoSt a) (ha : EJ X W O .bo a da) : EJ X W O .sh (.Call (.Name "max" p) [a] [] pos) (eUn vMax1D da) := by
  refine ej_b1 ((cr_max hh.calm).or (cr_maxD hh.calm hh.u64)) hg hm (by decide +kernel) (by decide) (by decide) ns ha fun F Hs H x v Q s r1 po => ?_
  unfold vMax1D at po
  cases e0 : vMax1 v with
  | none =>
    rw [e0] at po
    exact .inr (rowExt_pass s r1 po)
  | some w =>
    rw [e0] at po
    refine .inl ?_
    unfold vMax1 at e0
    split at e0
    · rename_i ds
      cases e : allInt ds with
      | none => rw [e] at e0; cases e0
      | some bs =>
        rw [e] at e0
        rw [allInt_some e] at r1
        obtain ⟨l, xs, rfl, h1, h2, h3⟩ := bo_list s r1
        have ex := rpa_ints h3
        subst ex
        cases bs with
        | nil => cases e0
        | cons n r =>
          cases e0
          refine ⟨_, _, rfl, h1, by simp, fun m hm1 hm2 => ?_⟩
          obtain ⟨q1, q2, q3⟩ := maxL_spec r n
          have em : m = maxL n r := by
            refine Int.le_antisymm ?_ (hm2 _ ?_)
            · rcases List.mem_cons.mp hm1 with rfl | hm1
              · exact q2
              · exact q3 m hm1
            · rcases q1 with q1 | q1
              · rw [q1]; simp
              · simp [q1]
          rw [em]
          exact po F H _ (.refl s) (.int _)
    · cases e0
end
end PL

end
section
namespace PL
open PySem PySem.Spec PyProof.Rows L2
abbrev hp0 : Hp := fun _ => none
section
variable {K : Fg} {F0 H0 F H F' H' : Hp} {O : List Nat} {σ : L2.St} {ρ : Lo} {D0 : Addr} {o o' : HO}
/-- the same slots, read beside one object that no slot holds -/
theorem SR.single (s : SR K F0 H0 O F H σ ρ) (hD : H D0 = none) (e : Ext F H F' H') (h2 : H' D0 = some o) (f1 : F' D0 = none) : SR K hp0 (upd hp0 D0 o) O F' H' σ ρ := by
  refine ⟨⟨fun a p q => (nomatch q), fun a p q => ?_, fun a _ q => ?_, e.fh⟩, s.len, fun i v h1 h2 => ?_, fun i v h1 h3 => ?_, s.dj⟩
  · by_cases ha : a = D0
    · subst ha
      rw [upd_same] at q
      rw [← q]; exact h2
    · rw [upd_ne ha] at q; cases q
  · by_cases ha : a = D0
    · subst ha; exact f1
    · rw [upd_ne ha] at q; exact absurd rfl q
  · obtain ⟨x, h3, h4⟩ := s.sh i v h1 h2
    exact ⟨x, h3, h4.mono e.ff⟩
  · obtain ⟨a, p, h4, h5, h6, h7, h8⟩ := s.ow i v h1 h3
    have ha : a ≠ D0 := fun z => by rw [z, hD] at h5; cases h5
    exact ⟨a, p, h4, e.hh _ _ h5, h6.mono e.ff, e.nw a h7 (by rw [h5]; exact fun z => nomatch z), upd_ne ha⟩
theorem SR.reD (s : SR K hp0 (upd hp0 D0 o) O F H σ ρ) (f1 : F D0 = none) : SR K hp0 (upd hp0 D0 o') O F (upd H D0 o') σ ρ := by
  have no : ∀ a, (upd hp0 D0 o) a = none → a ≠ D0 := fun a h z => by rw [z, upd_same] at h; cases h
  refine ⟨⟨fun a p q => (nomatch q), fun a p q => ?_, fun a _ q => ?_, fun a p q => ?_⟩, s.len, s.sh, fun i v h1 h3 => ?_, s.dj⟩
  · by_cases ha : a = D0
    · subst ha
      rw [upd_same] at q ⊢
      exact q
    · rw [upd_ne ha] at q; cases q
  · by_cases ha : a = D0
    · subst ha; exact f1
    · rw [upd_ne ha] at q; exact absurd rfl q
  · have ha : a ≠ D0 := fun z => by rw [z, f1] at q; cases q
    rw [upd_ne ha]
    exact s.e0.fh _ _ q
  · obtain ⟨a, p, h4, h5, h6, h7, h8⟩ := s.ow i v h1 h3
    have ha := no a h8
    exact ⟨a, p, h4, by rw [upd_ne ha]; exact h5, h6, h7, upd_ne ha⟩
end
def comp2D (g : DG) (c : DT) (vs1 : List Nat) (it1 : DA) (g1 : DG) (c1 : DT) (e : DE) : List D → Lo → Option (List D)
  | [], _ => some []
  | x :: xs, ρ => match g x ρ with
    | none => none
    | some ρ1 => match c ρ1 with
      | .ok true => match it1 ρ1 with
        | .ok ds1 => match compD g1 c1 e ds1 (wipeD ρ1 vs1) with
          | some ys => (comp2D g c vs1 it1 g1 c1 e xs ρ).map (ys ++ ·)
          | none => none
        | _ => none
      | .ok false => comp2D g c vs1 it1 g1 c1 e xs ρ
      | _ => none
def eComp2 (vs vs1 : List Nat) (g : DG) (it : DA) (c : DT) (g1 : DG) (it1 : DA) (c1 : DT) (e : DE) : DE := fun ρ => (it ρ).bind fun ds => (Res.up (comp2D g c vs1 it1 g1 c1 e ds (wipeD ρ vs))).bind fun ys => if ys.length ≤ sizeLine then .ok (.list ys) else .bad
section
variable {X : Cx} {W : WX} {O OL : List Nat} {k : Nat} {m : Mode} {tg iter tg1 iter1 elt : Expr} {ifs ifs1 : List Expr} {g g1 : DG} {it it1 : DA} {dc dc1 : DT} {de : DE} {pos : Pos} {scope : Scope} {own : List (Str × Nat)} {vs1 : List Nat}
theorem uni_i (h : ∀ s H C cl fp, IJ (blkOf X scope s H C cl fp) WF O false tg1 iter1 it1) : ∃ t, (∀ s H C cl fp, PI (blkOf X scope s H C cl fp) tg1 iter1 t) ∧ ∀ F0 H0 F H σ ρ R, SR X.K F0 H0 O F H σ ρ → IPost X WF false F H σ (it1 ρ) R → t σ H R := by
  refine ⟨fun σ H R => ∀ s H' C cl fp, Classical.choose (h s H' C cl fp) σ H R, fun s H C cl fp => ⟨fun pins s' σ H' R I hw => ?_⟩, fun F0 H0 F H σ ρ R s po s' H' C cl fp => ?_⟩
  · exact (Classical.choose_spec (h s H C cl fp)).1.run pins s' σ H' R I (hw s H C cl fp)
  · refine (Classical.choose_spec (h s' H' C cl fp)).2 F0 H0 F H σ ρ R s ?_
    cases e : it1 ρ with
    | ok b => rw [e] at po; exact po
    | exn c => rw [e] at po; exact po
    | bad => rw [e] at po; exact po
theorem gj_mono {X : Cx} {O ts ts' : List Nat} {tg : Expr} {g : DG} (h : GJ X O ts tg g) (hs : ∀ i ∈ ts, i ∈ ts') : GJ X O ts' tg g := by
  obtain ⟨t, p, q⟩ := h
  refine ⟨t, p, fun F0 H0 F H σ ρ x v Q s r po => q F0 H0 F H σ ρ x v Q s r ?_⟩
  cases e : g v ρ with
  | none => rw [e] at po; exact po
  | some ρ' =>
    rw [e] at po
    exact fun σ' s' hw => po σ' s' fun vs hv => hw vs fun i hi => hv i (hs i hi)
theorem uni_g1 {ts : List Nat} (h : ∀ s H C cl fp, GJ (blkOf X scope s H C cl fp) O ts tg1 g1) : ∃ t, (∀ s H C cl fp, PG (blkOf X scope s H C cl fp) tg1 t) ∧ ∀ F0 H0 F H σ ρ x v Q, SR X.K F0 H0 O F H σ ρ → Rp X.K F x v → (match g1 v ρ with
    | some ρ' => ∀ σ', SR X.K F0 H0 O F H σ' ρ' → (∀ vs : List Nat, (∀ i ∈ ts, i ∈ vs) → wipe σ' vs = wipe σ vs) → Q σ' H
    | none => False) → t x σ H Q := by
  refine ⟨fun x σ H Q => ∀ s H' C cl fp, Classical.choose (h s H' C cl fp) x σ H Q, fun s H C cl fp => ⟨fun pins s' σ H' v u Q I r hw => ?_⟩, fun F0 H0 F H σ ρ x v Q s r po s' H' C cl fp => ?_⟩
  · exact (Classical.choose_spec (h s H C cl fp)).1.run pins s' σ H' v u Q I r (hw s H C cl fp)
  · exact (Classical.choose_spec (h s' H' C cl fp)).2 F0 H0 F H σ ρ x v Q s r po
theorem comp2_core (hi : IJ X W O true tg iter it) {wi : TI} (q1 : ∀ F0 H0 F H σ ρ R, SR X.K F0 H0 O F H σ ρ → IPost X W true F H σ (it ρ) R → wi σ H R)
    {tgt : TG} (q2 : ∀ F0 H0 F H σ ρ x v Q, SR X.K F0 H0 O F H σ ρ → Rp X.K F x v → (match g v ρ with
    | some ρ' => ∀ σ', SR X.K F0 H0 O F H σ' ρ' → (∀ vs : List Nat, (∀ i ∈ own.map (·.2), i ∈ vs) → wipe σ' vs = wipe σ vs) → Q σ' H
    | none => False) → tgt x σ H Q) {tt : TT} (q3 : ∀ F0 H0 F H σ ρ Q, SR X.K F0 H0 O F H σ ρ → TPost X WF F H σ (dc ρ) Q → tt σ H Q)
    {wi1 : TI} (q5 : ∀ F0 H0 F H σ ρ R, SR X.K F0 H0 O F H σ ρ → IPost X WF false F H σ (it1 ρ) R → wi1 σ H R)
    {tgt1 : TG} (q6 : ∀ F0 H0 F H σ ρ x v Q, SR X.K F0 H0 O F H σ ρ → Rp X.K F x v → (match g1 v ρ with
    | some ρ' => ∀ σ', SR X.K F0 H0 O F H σ' ρ' → (∀ vs : List Nat, (∀ i ∈ vs1, i ∈ vs) → wipe σ' vs = wipe σ vs) → Q σ' H
    | none => False) → tgt1 x σ H Q) {tt1 : TT} (q7 : ∀ F0 H0 F H σ ρ Q, SR X.K F0 H0 O F H σ ρ → TPost X WF F H σ (dc1 ρ) Q → tt1 σ H Q)
    {te : TE} (q4 : ∀ F0 H0 F H σ ρ Q, SR X.K F0 H0 O F H σ ρ → EPost X WF .sh F H σ (de ρ) Q → te σ H Q) :
    ∀ F0 H0 F H σ ρ Q, SR X.K F0 H0 O F H σ ρ → EPost X W .fr F H σ (eComp2 (own.map (·.2)) vs1 g it dc g1 it1 dc1 de ρ) Q → tLc2 wi tgt tt wi1 tgt1 tt1 te (own.map (·.2)) vs1 σ H Q := by
  intro F0 H0 F H σ ρ Q s po
  refine q1 F0 H0 F H σ ρ _ s ?_
  unfold eComp2 at po
  cases hd : it ρ with
  | exn c => rw [hd] at po; exact po
  | bad => rw [hd] at po; exact po
  | ok ds =>
    rw [hd] at po
    intro F' H' J ext hlen ok
    intro Dl hDl
    have hlen := hlen rfl
    have po : EPost X W .fr F H σ ((Res.up (comp2D g dc vs1 it1 g1 dc1 de ds (wipeD ρ (own.map (·.2))))).bind fun ys => if ys.length ≤ sizeLine then .ok (.list ys) else .bad) Q := po
    cases hys : comp2D g dc vs1 it1 g1 dc1 de ds (wipeD ρ (own.map (·.2))) with
    | none => rw [hys] at po; exact po.elim
    | some ys =>
      rw [hys] at po
      have po : EPost X W .fr F H σ (if ys.length ≤ sizeLine then .ok (.list ys) else .bad) Q := po
      by_cases hyl : ys.length ≤ sizeLine
      · rw [if_pos hyl] at po
        have s' := s.ext ext
        refine ⟨fun i n H2 => n = ds.length - i ∧ i ≤ ds.length ∧ ∃ F1 acc ds1, Ext F' H' F1 H2 ∧ H2 Dl = some (.lst acc) ∧ F1 Dl = none ∧ RpA X.K F1 acc ds1 ∧ ∃ zs, comp2D g dc vs1 it1 g1 dc1 de (ds.drop i) (wipeD ρ (own.map (·.2))) = some zs ∧ ds1 ++ zs = ys,
          ⟨ds.length, by simp, Nat.zero_le _, F', [], [], .new ext.fh hDl, upd_same, free_of ext.fh hDl, .nil, ys, by simpa using hys, rfl⟩, ?_⟩
        rintro i n H2 ⟨rfl, hi', F1, acc, ds1, e1, hD, fD, racc, zs, hz, hzs⟩
        have sB : Same (if (true : Bool) = true then H' else F') H2 := e1.hh
        by_cases hlt : i < ds.length
        · refine .inr ⟨ok.go i H2 sB hlt, fun H3 => ∃ F1 acc ds1, Ext F' H' F1 H3 ∧ H3 Dl = some (.lst acc) ∧ F1 Dl = none ∧ RpA X.K F1 acc ds1 ∧ ∃ zs, comp2D g dc vs1 it1 g1 dc1 de (ds.drop (i + 1)) (wipeD ρ (own.map (·.2))) = some zs ∧ ds1 ++ zs = ys, fun H3 h => ⟨ds.length - (i + 1), by omega, rfl, hlt, h⟩, fun x H3 y => ?_⟩
          obtain ⟨F2, d, e2, hd2, rx⟩ := ok.yld i H2 x H3 F1 sB e1.ff e1.fh hlt y
          have hdr : ds.drop i = d :: ds.drop (i + 1) := by
            have h0 := List.drop_eq_getElem_cons hlt
            have h1 : ds[i] = d := by rw [List.getElem?_eq_getElem hlt] at hd2; exact Option.some.inj hd2
            rw [h0, h1]
          rw [hdr] at hz
          unfold comp2D at hz
          have s2 := (s'.single hDl e1 hD fD).ext e2
          have sw := s2.wipe (own.map (·.2))
          refine q2 _ _ F2 H3 _ _ x d _ sw rx ?_
          cases hg : g d (wipeD ρ (own.map (·.2))) with
          | none => rw [hg] at hz; cases hz
          | some ρ1 =>
            simp only [hg] at hz
            intro σ1 s1 w1
            refine ⟨(w1 _ fun i hi => hi).trans wipe_wipe, q3 _ _ F2 H3 σ1 ρ1 _ s1 ?_⟩
            cases hc : dc ρ1 with
            | exn c => simp only [hc] at hz; cases hz
            | bad => simp only [hc] at hz; cases hz
            | ok b =>
              intro F3 H4 e3
              have hD2 : H4 Dl = some (.lst acc) := e3.hh _ _ (e2.hh _ _ hD)
              have fD2 : F2 Dl = none := e2.nw _ fD (by rw [hD]; exact fun z => nomatch z)
              have fD3 : F3 Dl = none := e3.nw _ fD2 (by rw [e2.hh _ _ hD]; exact fun z => nomatch z)
              cases b with
              | false =>
                simp only [hc] at hz
                rw [if_neg Bool.false_ne_true]
                exact ⟨F3, acc, ds1, (e1.trans e2).trans e3, hD2, fD3, (racc.mono e2.ff).mono e3.ff, zs, hz, hzs⟩
              | true =>
                simp only [hc] at hz
                rw [if_pos rfl]
                have s3 := s1.ext e3
                refine q5 _ _ F3 H4 σ1 ρ1 _ s3 ?_
                cases hit : it1 ρ1 with
                | exn c => simp only [hit] at hz; cases hz
                | bad => simp only [hit] at hz; cases hz
                | ok es =>
                  simp only [hit] at hz
                  intro F4 H5 J1 e4 _ ok1
                  have ok1 : ItOk X.K F4 F4 J1 es := ok1
                  cases hin : compD g1 dc1 de es (wipeD ρ1 vs1) with
                  | none => simp only [hin] at hz; cases hz
                  | some us =>
                    simp only [hin] at hz
                    cases hr : comp2D g dc vs1 it1 g1 dc1 de (ds.drop (i + 1)) (wipeD ρ (own.map (·.2))) with
                    | none => rw [hr] at hz; cases hz
                    | some rest =>
                      rw [hr] at hz
                      cases hz
                      have hD3 : H5 Dl = some (.lst acc) := e4.hh _ _ hD2
                      have fD4 : F4 Dl = none := e4.nw _ fD3 (by rw [hD2]; exact fun z => nomatch z)
                      refine ⟨fun j n H6 => n = es.length - j ∧ j ≤ es.length ∧ ∃ F5 acc dsA, Ext F' H' F5 H6 ∧ Same F4 F5 ∧ H6 Dl = some (.lst acc) ∧ F5 Dl = none ∧ RpA X.K F5 acc dsA ∧ SR X.K hp0 (upd hp0 Dl (.lst acc)) O F5 H6 σ1 ρ1 ∧ ∃ zs1, compD g1 dc1 de (es.drop j) (wipeD ρ1 vs1) = some zs1 ∧ dsA ++ (zs1 ++ rest) = ys,
                        ⟨es.length, by simp, Nat.zero_le _, F4, acc, ds1, ((e1.trans e2).trans e3).trans e4, .refl _, hD3, fD4, ((racc.mono e2.ff).mono e3.ff).mono e4.ff, s3.ext e4, us, by simpa using hin, by simpa using hzs⟩, ?_⟩
                      rintro j n H6 ⟨rfl, hj', F5, acc5, dsA, e5, sf, hD5, fD5, racc5, s5, zs1, hz1, hzs1⟩
                      have sB1 : Same F4 H6 := sf.trans e5.fh
                      by_cases hjl : j < es.length
                      · refine .inr ⟨ok1.go j H6 sB1 hjl, fun H7 => ∃ F5 acc dsA, Ext F' H' F5 H7 ∧ Same F4 F5 ∧ H7 Dl = some (.lst acc) ∧ F5 Dl = none ∧ RpA X.K F5 acc dsA ∧ SR X.K hp0 (upd hp0 Dl (.lst acc)) O F5 H7 σ1 ρ1 ∧ ∃ zs1, compD g1 dc1 de (es.drop (j + 1)) (wipeD ρ1 vs1) = some zs1 ∧ dsA ++ (zs1 ++ rest) = ys, fun H7 h => ⟨es.length - (j + 1), by omega, rfl, hjl, h⟩, fun x1 H7 y1 => ?_⟩
                        obtain ⟨F6, d1, e6, hd6, rx1⟩ := ok1.yld j H6 x1 H7 F5 sB1 sf e5.fh hjl y1
                        have hdr1 : es.drop j = d1 :: es.drop (j + 1) := by
                          have h0 := List.drop_eq_getElem_cons hjl
                          have h1 : es[j] = d1 := by rw [List.getElem?_eq_getElem hjl] at hd6; exact Option.some.inj hd6
                          rw [h0, h1]
                        rw [hdr1] at hz1
                        unfold compD at hz1
                        have s6 := s5.ext e6
                        refine q6 _ _ F6 H7 _ _ x1 d1 _ (s6.wipe vs1) rx1 ?_
                        cases hg1 : g1 d1 (wipeD ρ1 vs1) with
                        | none => rw [hg1] at hz1; cases hz1
                        | some ρ2 =>
                          simp only [hg1] at hz1
                          intro σ2 sr2 w2
                          refine ⟨(w2 _ fun i hi => hi).trans wipe_wipe, q7 _ _ F6 H7 σ2 ρ2 _ sr2 ?_⟩
                          cases hc1 : dc1 ρ2 with
                          | exn c => simp only [hc1] at hz1; cases hz1
                          | bad => simp only [hc1] at hz1; cases hz1
                          | ok b1 =>
                            intro F7 H8 e7
                            have hD6 : H7 Dl = some (.lst acc5) := e6.hh _ _ hD5
                            have hD7 : H8 Dl = some (.lst acc5) := e7.hh _ _ hD6
                            have fD6 : F6 Dl = none := e6.nw _ fD5 (by rw [hD5]; exact fun z => nomatch z)
                            have fD7 : F7 Dl = none := e7.nw _ fD6 (by rw [hD6]; exact fun z => nomatch z)
                            cases b1 with
                            | false =>
                              simp only [hc1] at hz1
                              rw [if_neg Bool.false_ne_true]
                              exact ⟨F7, acc5, dsA, (e5.trans e6).trans e7, (sf.trans e6.ff).trans e7.ff, hD7, fD7, (racc5.mono e6.ff).mono e7.ff, s6.ext e7, zs1, hz1, hzs1⟩
                            | true =>
                              simp only [hc1] at hz1
                              rw [if_pos rfl]
                              refine q4 _ _ F7 H8 σ2 ρ2 _ (sr2.ext e7) ?_
                              cases he : de ρ2 with
                              | exn c => simp only [he] at hz1; cases hz1
                              | bad => simp only [he] at hz1; cases hz1
                              | ok yv =>
                                simp only [he] at hz1
                                intro F8 H9 yv' e8 ry
                                have hD8 : H9 Dl = some (.lst acc5) := e8.hh _ _ hD7
                                have fD8 : F8 Dl = none := e8.nw _ fD7 (by rw [hD7]; exact fun z => nomatch z)
                                cases hr1 : compD g1 dc1 de (es.drop (j + 1)) (wipeD ρ1 vs1) with
                                | none => rw [hr1] at hz1; cases hz1
                                | some zs2 =>
                                  rw [hr1] at hz1
                                  cases hz1
                                  have hal : acc5.length < sizeLine := by
                                    have h1 := racc5.length
                                    have h2 := congrArg List.length hzs1
                                    simp only [List.length_append, List.length_cons] at h2
                                    omega
                                  refine ⟨acc5, hD8, hal, ?_⟩
                                  have et := ((e5.trans e6).trans e7).trans e8
                                  refine ⟨F8, acc5 ++ [yv'], dsA ++ [yv], ⟨et.ff, fun b o q => ?_, et.nw, fun b o q => ?_⟩, ((sf.trans e6.ff).trans e7.ff).trans e8.ff, upd_same, fD8, (((racc5.mono e6.ff).mono e7.ff).mono e8.ff).append (.cons ry .nil), ((s6.ext e7).ext e8).reD fD8, zs2, rfl, ?_⟩
                                  · rw [upd_ne (ne_of_none q hDl)]; exact et.hh _ _ q
                                  · rw [upd_ne (ne_of_none q fD8)]; exact et.fh _ _ q
                                  · rw [← hzs1]; simp
                      · have e : j = es.length := by omega
                        subst e
                        rw [List.drop_length] at hz1
                        cases hz1
                        exact .inl ⟨ok1.stop H6 sB1, F5, acc5, dsA, e5, hD5, fD5, racc5, rest, rfl, hzs1⟩
        · have e : i = ds.length := by omega
          subst e
          rw [List.drop_length] at hz
          cases hz
          rw [List.append_nil] at hzs
          subst hzs
          refine .inl ⟨ok.stop H2 sB, ?_⟩
          have hDH : H Dl = none := free_of ext.hh hDl
          exact po F1 H2 _ (ext.trans e1) (.inr ⟨Dl, _, rfl, hD, .lst (by rw [racc.length]; exact hyl) racc, fD, hDH⟩)
      · rw [if_neg hyl] at po
        exact po.elim
theorem ej_comp2 (hh : Here X W k) (hi : IJ X W O true tg iter it) (ok : BlkOk X.N X.env.scope scope own) (hv : ∀ i ∈ vs1, i ∈ own.map (·.2)) (hg' : ∀ s H C cl fp, Here (blkOf X scope s H C cl fp) WF k → GJ (blkOf X scope s H C cl fp) O (own.map (·.2)) tg g)
    (ht' : ∀ s H C cl fp, Here (blkOf X scope s H C cl fp) WF k → TsJ (blkOf X scope s H C cl fp) WF O ifs dc)
    (hi1' : ∀ s H C cl fp, Here (blkOf X scope s H C cl fp) WF k → IJ (blkOf X scope s H C cl fp) WF O false tg1 iter1 it1)
    (hg1' : ∀ s H C cl fp, Here (blkOf X scope s H C cl fp) WF k → GJ (blkOf X scope s H C cl fp) O vs1 tg1 g1)
    (ht1' : ∀ s H C cl fp, Here (blkOf X scope s H C cl fp) WF k → TsJ (blkOf X scope s H C cl fp) WF O ifs1 dc1)
    (he' : ∀ s H C cl fp, Here (blkOf X scope s H C cl fp) WF k → EJ (blkOf X scope s H C cl fp) WF O .sh elt de) (hs : ∀ x, foldedSetIterable iter X.env x = pure x) (hs1 : ∀ env x, foldedSetIterable iter1 env x = pure x) :
    EJ X W O .fr (.ListComp elt [⟨tg, iter, ifs, 0⟩, ⟨tg1, iter1, ifs1, 0⟩] scope pos) (eComp2 (own.map (·.2)) vs1 g it dc g1 it1 dc1 de) := by
  have hg := fun s H C cl fp => hg' s H C cl fp (here_blk hh s H _ _ fp)
  have ht := fun s H C cl fp => ht' s H C cl fp (here_blk hh s H _ _ fp)
  have hi1 := fun s H C cl fp => hi1' s H C cl fp (here_blk hh s H _ _ fp)
  have hg1 := fun s H C cl fp => hg1' s H C cl fp (here_blk hh s H _ _ fp)
  have ht1 := fun s H C cl fp => ht1' s H C cl fp (here_blk hh s H _ _ fp)
  have he := fun s H C cl fp => he' s H C cl fp (here_blk hh s H _ _ fp)
  obtain ⟨wi, p1, q1⟩ := id hi
  obtain ⟨tgt, p2, q2⟩ := uni_g hg
  obtain ⟨tt, p3, q3⟩ := uni_t ht
  obtain ⟨wi1, p5, q5⟩ := uni_i hi1
  obtain ⟨tgt1, p6, q6⟩ := uni_g1 hg1
  obtain ⟨tt1, p7, q7⟩ := uni_t ht1
  obtain ⟨te, p4, q4⟩ := uni_e he
  exact ⟨_, pe_lc2 hh.calm hh.nd p1 ok hv p2 p3 p5 p6 p7 p4 hs hs1, comp2_core hi q1 q2 q3 q5 q6 q7 q4⟩
theorem eComp2_nd {vs vs1 : List Nat} {g g1 : DG} {it it1 : DA} {c c1 : DT} {e : DE} {ρ : Lo} {v : D} (h : eComp2 vs vs1 g it c g1 it1 c1 e ρ = .ok v) : notDict v = true := by
  unfold eComp2 at h
  cases h1 : it ρ with
  | ok ds =>
    rw [h1] at h
    have h : ((Res.up (comp2D g c vs1 it1 g1 c1 e ds (wipeD ρ vs))).bind fun ys => if ys.length ≤ sizeLine then Res.ok (PyData.list ys) else .bad) = .ok v := h
    cases h2 : comp2D g c vs1 it1 g1 c1 e ds (wipeD ρ vs) with
    | none => rw [h2] at h; cases h
    | some ys =>
      rw [h2] at h
      have h : (if ys.length ≤ sizeLine then Res.ok (PyData.list ys) else .bad) = .ok v := h
      split at h
      · cases h; rfl
      · cases h
  | exn c => rw [h1] at h; cases h
  | bad => rw [h1] at h; cases h
theorem sj_setComp2 {i : Nat} {y : Str} {py spos : Pos} (hO : i ∉ O) (hh : Here X W k) (hi : IJ X W O true tg iter it) (ok : BlkOk X.N X.env.scope scope own) (hv : ∀ i ∈ vs1, i ∈ own.map (·.2)) (hg' : ∀ s H C cl fp, Here (blkOf X scope s H C cl fp) WF k → GJ (blkOf X scope s H C cl fp) O (own.map (·.2)) tg g)
    (ht' : ∀ s H C cl fp, Here (blkOf X scope s H C cl fp) WF k → TsJ (blkOf X scope s H C cl fp) WF O ifs dc)
    (hi1' : ∀ s H C cl fp, Here (blkOf X scope s H C cl fp) WF k → IJ (blkOf X scope s H C cl fp) WF O false tg1 iter1 it1)
    (hg1' : ∀ s H C cl fp, Here (blkOf X scope s H C cl fp) WF k → GJ (blkOf X scope s H C cl fp) O vs1 tg1 g1)
    (ht1' : ∀ s H C cl fp, Here (blkOf X scope s H C cl fp) WF k → TsJ (blkOf X scope s H C cl fp) WF O ifs1 dc1)
    (he' : ∀ s H C cl fp, Here (blkOf X scope s H C cl fp) WF k → EJ (blkOf X scope s H C cl fp) WF O .sh elt de) (hs : ∀ x, foldedSetIterable iter X.env x = pure x) (hs1 : ∀ env x, foldedSetIterable iter1 env x = pure x)
    (hy : X.N[i]? = some y) (hyl : X.env.scope.names.lookup y = some .local) (hsw : swapsWith (.ListComp elt [⟨tg, iter, ifs, 0⟩, ⟨tg1, iter1, ifs1, 0⟩] scope pos) (some (.Name y py)) spos.line X.env = pure true) :
    SJ X W m O O OL (.Assign [.Name y py] (.ListComp elt [⟨tg, iter, ifs, 0⟩, ⟨tg1, iter1, ifs1, 0⟩] scope pos) spos) (sSet i (eComp2 (own.map (·.2)) vs1 g it dc g1 it1 dc1 de)) := by
  have hg := fun s H C cl fp => hg' s H C cl fp (here_blk hh s H _ _ fp)
  have ht := fun s H C cl fp => ht' s H C cl fp (here_blk hh s H _ _ fp)
  have hi1 := fun s H C cl fp => hi1' s H C cl fp (here_blk hh s H _ _ fp)
  have hg1 := fun s H C cl fp => hg1' s H C cl fp (here_blk hh s H _ _ fp)
  have ht1 := fun s H C cl fp => ht1' s H C cl fp (here_blk hh s H _ _ fp)
  have he := fun s H C cl fp => he' s H C cl fp (here_blk hh s H _ _ fp)
  obtain ⟨wi, p1, q1⟩ := id hi
  obtain ⟨tgt, p2, q2⟩ := uni_g hg
  obtain ⟨tt, p3, q3⟩ := uni_t ht
  obtain ⟨wi1, p5, q5⟩ := uni_i hi1
  obtain ⟨tgt1, p6, q6⟩ := uni_g1 hg1
  obtain ⟨tt1, p7, q7⟩ := uni_t ht1
  obtain ⟨te, p4, q4⟩ := uni_e he
  refine ⟨_, ps_setLc2 hh.calm hh.nd hy hyl hsw p1 ok hv p2 p3 p5 p6 p7 p4 hs hs1, fun F0 H0 F H σ ρ Dn s po => comp2_core hi q1 q2 q3 q5 q6 q7 q4 F0 H0 F H σ ρ _ s ?_⟩
  unfold sSet sOf at po
  cases e : eComp2 (own.map (·.2)) vs1 g it dc g1 it1 dc1 de ρ with
  | ok v =>
    rw [e] at po
    intro F' H' x ex rm
    obtain ⟨F2, e2, r2⟩ := RM.shareN (eComp2_nd e) ex rm
    exact po F2 H' _ e2.ff ((s.ext e2).setS hO r2)
  | exn c => rw [e] at po; exact exn_of s po
  | bad => rw [e] at po; exact po
end
section
variable {K : Fg} {F0 H0 F H : Hp} {O : List Nat} {σ : L2.St} {ρ : Lo}
/-- an owned slot is given a shared value -/
theorem SR.setT {i : Nat} {x : V} {v : D} (s : SR K F0 H0 O F H σ ρ) (h : Rp K F x v) : SR K F0 H0 (O.filter fun j => j != i) F H (σ.set i (some x)) (ρ.set i (some v)) := by
  have ne : ∀ {j}, j ∈ (O.filter fun j => j != i) → j ≠ i ∧ j ∈ O := fun {j} hj => by
    have := List.mem_filter.1 hj
    exact ⟨by simpa using this.2, this.1⟩
  refine ⟨s.e0, by simp [s.len], fun j w h1 h2 => ?_, fun j w h1 h2 => ?_, fun j k w w' b h1 h2 h3 h4 h5 h6 h7 => ?_⟩
  · by_cases hj : j = i
    · subst hj
      have hl : j < ρ.length := by have := (List.getElem?_eq_some_iff.mp h2).1; simpa using this
      rw [List.getElem?_set_self hl] at h2; cases h2
      exact ⟨x, by rw [List.getElem?_set_self (by rw [s.len]; exact hl)], h⟩
    · rw [List.getElem?_set_ne (Ne.symm hj)] at h2 ⊢
      exact s.sh j w (fun z => h1 (List.mem_filter.2 ⟨z, by simpa using hj⟩)) h2
  · obtain ⟨hj, h1⟩ := ne h1
    rw [List.getElem?_set_ne (Ne.symm hj)] at h2 ⊢
    exact s.ow j w h1 h2
  · obtain ⟨hj, h1⟩ := ne h1
    obtain ⟨hk, h2⟩ := ne h2
    rw [List.getElem?_set_ne (Ne.symm hj)] at h4 h6
    rw [List.getElem?_set_ne (Ne.symm hk)] at h5 h7
    exact s.dj j k w w' b h1 h2 h3 h4 h5 h6 h7
end
section
variable {X : Cx} {W : WX} {O O' OL : List Nat} {m : Mode} {e : Expr} {st : Stmt} {de : DE}
theorem sj_setT {i : Nat} (hO : (O.filter fun j => j != i) = O') (he : EJ X W O .sh e de) (h : ∀ t, PE X e t → PS X st (tAsg t (gName i))) : SJ X W m O O' OL st (sSet i de) := by
  subst hO
  obtain ⟨t, p, q⟩ := he
  refine ⟨_, h t p, fun F0 H0 F H σ ρ Dn s po => q F0 H0 F H σ ρ _ s (sOf_post (m1 := .sh) s po fun v F' H' x s' ex rm po' => ?_)⟩
  exact po' F' H' _ (.refl _) (s'.setT rm)
end
end PL

end
section
namespace PL
open PySem PySem.Spec PyProof.Rows L2
/-- a set as it is made -/
abbrev nset (w : World) : Obj := { cls := .type "set", dict := none, data := .set #[] 0 (.fresh 0 0 (!w.params.followText "set-order")) }
section
variable {P : Program} {w : World} {A : Around} {E : Value → Shared → Prop} {s : Shared}
theorem setList_ints {l : Addr} {vs : Array Value} (ns : List Int) {Q : Value → Shared → Prop} (hh : A.handled = none) (hl : s.heap.IsList l vs) (hi : IntsAre vs.toList ns) (hb : ns.length + 1 < scanBound)
    (h : ∀ (h2 : Heap) (tk m : Nat), SetR w h2 s.heap.objs.size (fun j => decide (j ∈ ns)) m → m ≤ ns.length → (∀ b o, s.heap.get? b = some o → h2.get? b = some o) → Q (.ref s.heap.objs.size) { s with heap := h2, toks := tk }) :
    wpAny (model P w) A (call (.type "set") [.ref l]) Q E s := by
  have sz : vs.size = ns.length := by rw [← Array.length_toList]; exact IntsAre.length hi
  have g0 : (s.heap.push (nset w)).get? s.heap.objs.size = some (nset w) := Heap.get?_push_size _ rfl
  have ls : l < s.heap.objs.size := by obtain ⟨ol, e, _⟩ := hl; exact Heap.lt_size e
  have z1 : (s.heap.push (nset w)).objs.size = s.heap.objs.size + 1 := Heap.size_push ..
  have l1 : (s.heap.push (nset w)).IsList l vs := hl.push _
  have fl : s.heap.objs.size ∉ [(s.heap.push (nset w)).objs.size, l] := by
    rw [z1]; intro hm; simp only [List.mem_cons, List.not_mem_nil, or_false] at hm
    rcases hm with q | q
    · exact absurd q (Nat.ne_of_lt (Nat.lt_succ_self _))
    · exact absurd q (Nat.ne_of_gt ls)
  have at_ : ∀ (i : Nat) (v : Value), vs[i]? = some v → ∃ k t, ns[i]? = some k ∧ v = .int k t := fun i v hv => by
    have hn : i < ns.length := by rw [← sz]; exact (Array.getElem?_eq_some_iff.mp hv).1
    obtain ⟨t, e⟩ := IntsAre.int_at hi i v (by rw [Array.getElem?_toList]; exact hv)
    exact ⟨ns[i], t, List.getElem?_eq_getElem hn, by rw [e, List.getD_eq_getElem?_getD, List.getElem?_eq_getElem hn]; rfl⟩
  obtain ⟨mc, mt, mro⟩ := PySem.F.called_set.mro
  have made := PySem.F.called_set.made; have msub := PySem.F.called_set.sub
  refine wpAny_call (codeAny_of_tree (?_ : wpAny _ _ (callAny (.type "set") _) _ _ _))
  refine wpAny_pure ⟨Code.quiet_builtin _ (by decide +kernel), codeAny_builtin PySem.F.entry_type_call (by
    rw [Around.under_plain (weight_type_call_type "set" [.ref l] []) rfl]
    have n1 := PySem.F.called_set.notType; have n2 := PySem.F.called_set.canCreate; have n3 := PySem.F.typeCall_set_1 (.ref l)
    repeat (any_goals (first | assumption | wp_step))
    refine codeAny_mono (code_set_led1 (.ref l) (E := E) (Q₁ := fun x s1 => x = .ref s.heap.objs.size ∧ s1 = { s with heap := s.heap.push (nset w) }) ⟨rfl, rfl⟩) fun r s1 hr => ?_
    match r, hr with
    | .error e, hr => exact hr
    | .ok (.ret x), hr =>
      obtain ⟨rfl, rfl⟩ := hr
      have ty : Shared.TypeIs { s with heap := s.heap.push (nset w) } (.ref s.heap.objs.size) "set" := ⟨_, g0, rfl⟩
      have i1 := PySem.F.called_set.init.lookup; have i2 := PySem.F.called_set.init.bind (.ref s.heap.objs.size)
      repeat (any_goals (first | assumption | wp_step))
      refine codeAny_mono (codeAny_call_builtin (R := wants (fun r s2 => r = .none ∧ ∃ h2 tk m, s2 = { s with heap := h2, toks := tk } ∧ SetR w h2 s.heap.objs.size (fun j => decide (j ∈ ns)) m ∧ m ≤ ns.length ∧ (∀ b o, s.heap.get? b = some o → h2.get? b = some o)) E) PySem.F.called_set.init.plain PySem.F.entry_set_init (check_set_init_1 ty (by
        obtain ⟨ol, o1, o2, nl, o3⟩ := hl
        obtain ⟨ocls, odict, odata, oslots⟩ := ol
        simp only at o2 o3
        subst o2 o3
        have o4 : (s.heap.push (nset w)).get? l = some ⟨.type "list", odict, .seq vs nl, oslots⟩ := Heap.get?_push_of_some _ o1
        have b1 := PySem.F.sub_list_set; have b2 := PySem.F.sub_list_frozenset
        have b3 : (Value.type "list" == Value.type "dict") = false := by decide
        unfold Builtin.«set.__init__» noKeywords Builtin.Frozenset.updateFrom
        generalize hPI : pyIter = PI; wp_walk; subst hPI
        refine wpAny_pyIter_list l1 (wpAny_bind (wpAny_runValue ?_))
        have h3 : A.in1.in1.in1.handled = none := by simp [hh]
        have ne : l ≠ (s.heap.push (nset w)).objs.size := by rw [z1]; exact Nat.ne_of_lt (Nat.lt_succ_of_lt ls)
        refine set_update_ints ((Walks.list h3 _ l ne vs).toS) s.heap.objs.size fl ns sz hb at_ (vs.size - 0) 0 _ (by omega) (Nat.zero_le _) ⟨⟨_, Heap.get?_push_size _ rfl, rfl, rfl⟩, (l1.push _)⟩ ⟨0, Nat.le_refl 0, setR_new_at (Heap.get?_push_of_some _ g0)⟩ fun s3 m hm hc hS => ?_
        obtain ⟨h3, g3, d3, t3, os3⟩ := s3
        have e1 : g3 = s.gens := hm.gens
        have e2 : d3 = s.drawn := hm.drawn
        have e3 : os3 = s.os := hm.os
        subst e1 e2 e3
        show wpAny _ A.in1.in1 (pure ()) _ _ _; refine wpAny_pure ?_; show wpAny _ A.in1.in1 (ret Value.none) _ _ _
        rw [sz] at hc
        refine wpAny_pure ⟨rfl, h3, t3, m, rfl, hS, hc, fun b o e => hm.heap b o (fun hmem => ?_) (Heap.get?_push_of_some _ (Heap.get?_push_of_some _ e))⟩
        have hb0 := Heap.lt_size e
        simp only [List.mem_cons, List.not_mem_nil, or_false] at hmem
        rcases hmem with q | q
        · exact absurd q (Nat.ne_of_lt hb0)
        · rw [q, z1] at hb0; exact absurd hb0 (by simp)))) fun r2 s2 hr2 => ?_
      match r2, hr2 with
      | .error e, hr2 => exact hr2
      | .ok (.ret x), hr2 =>
        obtain ⟨rfl, h2, tk, m, rfl, q1, q2, q3⟩ := hr2
        repeat (any_goals (first | assumption | wp_step))
        exact h _ _ _ q1 q2 q3)⟩
end
def insU (x : Int) : List Int → List Int
  | [] => [x]
  | y :: r => if x < y then x :: y :: r else if x = y then y :: r else y :: insU x r
def sortU (l : List Int) : List Int := l.foldr insU []
theorem insU_mem {x k : Int} : ∀ {l : List Int}, k ∈ insU x l ↔ k = x ∨ k ∈ l
  | [] => by simp [insU]
  | y :: r => by
    unfold insU
    by_cases h : x < y
    · rw [if_pos h]; simp
    · rw [if_neg h]
      by_cases h2 : x = y
      · rw [if_pos h2]; subst h2; simp
      · rw [if_neg h2, List.mem_cons, insU_mem, List.mem_cons]
        constructor
        · rintro (h | h | h)
          · exact .inr (.inl h)
          · exact .inl h
          · exact .inr (.inr h)
        · rintro (h | h | h)
          · exact .inr (.inl h)
          · exact .inl h
          · exact .inr (.inr h)
theorem insU_lt {x : Int} : ∀ {l : List Int}, l.Pairwise (· < ·) → (insU x l).Pairwise (· < ·)
  | [], _ => by simp [insU]
  | y :: r, h => by
    obtain ⟨h1, h2⟩ := List.pairwise_cons.1 h
    unfold insU
    by_cases hx : x < y
    · rw [if_pos hx]
      refine List.pairwise_cons.2 ⟨fun k hk => ?_, h⟩
      rcases List.mem_cons.1 hk with rfl | hk
      · exact hx
      · have := h1 k hk; omega
    · rw [if_neg hx]
      by_cases h3 : x = y
      · rw [if_pos h3]; exact h
      · rw [if_neg h3]
        refine List.pairwise_cons.2 ⟨fun k hk => ?_, insU_lt h2⟩
        rcases insU_mem.1 hk with rfl | hk
        · omega
        · exact h1 k hk
theorem sortU_mem {k : Int} : ∀ {l : List Int}, k ∈ sortU l ↔ k ∈ l
  | [] => by simp [sortU]
  | x :: l => by
    have ih := sortU_mem (k := k) (l := l)
    unfold sortU at ih ⊢
    rw [List.foldr_cons, insU_mem, ih, List.mem_cons]
theorem sortU_lt : ∀ {l : List Int}, (sortU l).Pairwise (· < ·)
  | [] => List.Pairwise.nil
  | x :: l => insU_lt (l := l.foldr insU []) (sortU_lt (l := l))
theorem lt_nodup {l : List Int} (h : l.Pairwise (· < ·)) : l.Nodup := h.imp fun h e => by rw [e] at h; exact absurd h (Int.lt_irrefl _)
theorem lt_unique : ∀ {a b : List Int}, a.Pairwise (· < ·) → b.Pairwise (· < ·) → (∀ k, k ∈ a ↔ k ∈ b) → a = b
  | [], [], _, _, _ => rfl
  | [], y :: b, _, _, h => absurd ((h y).2 (by simp)) (by simp)
  | x :: a, [], _, _, h => absurd ((h x).1 (by simp)) (by simp)
  | x :: a, y :: b, ha, hb, h => by
    obtain ⟨a1, a2⟩ := List.pairwise_cons.1 ha
    obtain ⟨b1, b2⟩ := List.pairwise_cons.1 hb
    have e : x = y := by
      have h1 := (h x).1 (by simp)
      have h2 := (h y).2 (by simp)
      rcases List.mem_cons.1 h1 with h1 | h1
      · exact h1
      · rcases List.mem_cons.1 h2 with h2 | h2
        · exact h2.symm
        · have := b1 x h1; have := a1 y h2; omega
    subst e
    rw [lt_unique a2 b2 fun k => ?_]
    constructor
    · intro hk
      rcases List.mem_cons.1 ((h k).1 (by simp [hk])) with rfl | q
      · exact absurd (a1 k hk) (Int.lt_irrefl _)
      · exact q
    · intro hk
      rcases List.mem_cons.1 ((h k).2 (by simp [hk])) with rfl | q
      · exact absurd (b1 k hk) (Int.lt_irrefl _)
      · exact q
section
variable {X : Cx}
/-- set(xs) of a list or a tuple of ints -/
def rSetI (K : Fg) (w : World) : List V → Hp → VK → Prop := fun vs H Q => ∃ (a : Addr) (ns : List Int), vs = [V.ref a] ∧ (SqL K H a (ns.map V.int) ∨ SqT K H a (ns.map V.int)) ∧ ns.length + 1 < scanBound ∧
  ∀ (p : Addr), H p = none → Q (.ref p) (upd H p (SetO w p (fun j => decide (j ∈ ns)) (sortU ns).length))
theorem setR_card {w : World} {h : Heap} {a : Addr} {ns : List Int} {m : Nat} (R : SetR w h a (fun j => decide (j ∈ ns)) m) : m = (sortU ns).length := by
  obtain ⟨o, es, ep, t, _, _, _, g, nd, hm, _, _, hn, _⟩ := R
  have pm : (es.toList.map keyOf).Perm (sortU ns) := (List.perm_ext_iff_of_nodup nd (lt_nodup sortU_lt)).2 fun k => by
    rw [← hm k, sortU_mem, decide_eq_true_eq]
  have := pm.length_eq
  rw [List.length_map, Array.length_toList] at this
  omega
theorem cr_setI (hc : X.calm = true) : CallR X (.type "set") (rSetI X.K X.w) := by
  intro pins s σ H vs us Q I r h
  obtain ⟨a, ns, rfl, hs, hb, q⟩ := h
  rw [Vals.ref1 r]
  have fin : ∀ (h2 : Heap) (tk m : Nat), SetR X.w h2 s.heap.objs.size (fun j => decide (j ∈ ns)) m → m ≤ ns.length → (∀ b o, s.heap.get? b = some o → h2.get? b = some o) → ∃ (x : V) (H' : Hp), Inv X pins σ H' { s with heap := h2, toks := tk } ∧ RelV x (.ref s.heap.objs.size) ∧ Q x H' := fun h2 tk m R _ k =>
    ⟨.ref _, upd H s.heap.objs.size (SetO X.w s.heap.objs.size (fun j => decide (j ∈ ns)) m), I.laid (t' := tk) k (Nat.le_refl _) (setO_new R), rfl, by
      rw [setR_card R]
      exact q _ (I.hok.fresh (Nat.le_refl _))⟩
  rcases hs with hs | hs
  · obtain ⟨its, rv, hl, _⟩ := I.list hs
    exact setList_ints ns (I.ok.hd hc) hl.isList (by simpa using rv.ints) hb fin
  · obtain ⟨its, rv, hl, _⟩ := I.tuple hs
    exact call_set_tupI ns (I.ok.hd hc) hl (by simpa using rv.ints) hb fin
end
def vSortSet : D → Option D
  | .list ds => (allInt ds).bind fun ns => if ns.length < 4000 ∧ (sortU ns).length < 64 then some (.list ((sortU ns).map .int)) else none
  | .tuple ds => (allInt ds).bind fun ns => if ns.length < 4000 ∧ (sortU ns).length < 64 then some (.list ((sortU ns).map .int)) else none
  | _ => none
section
variable {X : Cx} {W : WX} {O : List Nat} {k : Nat} {m : Mode} {F H Hs : Hp} {a : Expr} {da : DE} {pos pos2 p p2 : Pos}
theorem rpA_ints {K : Fg} {F : Hp} : ∀ ns : List Int, RpA K F (ns.map V.int) (ns.map PyData.int)
  | [] => .nil
  | n :: ns => .cons (.int n) (rpA_ints ns)
theorem sortSet_pass {Q : VK} {l : Addr} {ns : List Int} (s : Same F H) (h : SqL X.K H l (ns.map V.int) ∨ SqT X.K H l (ns.map V.int)) (hl : ns.length < 4000) (h64 : (sortU ns).length < 64)
    (po : ∀ F' H' x, Ext F H F' H' → RM .fr X.K F' H H' x (.list ((sortU ns).map .int)) → Q x H') : rSetI X.K X.w [.ref l] H fun y H2 => rSortedSet X.w [y] H2 Q := by
  refine ⟨l, ns, rfl, h, by unfold scanBound; omega, fun p hp => ?_⟩
  refine ⟨p, _, _, rfl, upd_same, h64, fun us q h1 h2 h3 hq => ?_⟩
  have e : us = sortU ns := lt_unique h1 sortU_lt fun k => by rw [h2 k, sortU_mem, decide_eq_true_eq]
  subst e
  have hq1 : H q = none := by
    by_cases hqp : q = p
    · rw [hqp]; exact hp
    · rw [upd_ne hqp] at hq; exact hq
  have e1 : Ext F H F (upd H p (SetO X.w p (fun j => decide (j ∈ ns)) (sortU ns).length)) := .new s hp
  have e2 := e1.trans (.new (o := .lst ((sortU ns).map V.int)) e1.fh hq)
  have hsl : ((sortU ns).map V.int).length ≤ sizeLine := by
    have : sizeLine = 16777216 := by decide
    rw [List.length_map]; omega
  exact po F _ _ e2 (.inr ⟨q, _, rfl, upd_same, .lst hsl (rpA_ints _), free_of s hq1, hq1⟩)
theorem ej_sortSet (hh : Here X W k) (hgs : Gl X "sorted") (hms : X.mg "sorted" = none) (hg : Gl X "set") (hm : X.mg "set" = none) (ns : NoSt a) (ha : EJ X W O .bo a da) :
    EJ X W O .fr (.Call (.Name "sorted" p) [.Call (.Name "set" p2) [a] [] pos2] [] pos) (eUn vSortSet da) := by
  refine ej_un (r := fun x H Q => rSetI X.K X.w [x] H fun y H2 => rSortedSet X.w [y] H2 Q) ha (fun t h1 => pe_callB (cr_sortedSet hh.calm) hgs hms (by decide +kernel) (pa_cons (pe_callTy (cr_setI hh.calm) hg hm (by decide +kernel) (pa_cons h1 pa_nil (ns _ _)) (by decide) (by decide) (ns _ _)) pa_nil)) fun F Hs H x v Q s r1 po => ?_
  unfold vSortSet at po
  split at po
  · rename_i ds
    cases e : allInt ds with
    | none => rw [e] at po; exact po.elim
    | some bs =>
      rw [e] at po
      have po : VPost X.K .fr F H (if bs.length < 4000 ∧ (sortU bs).length < 64 then some (.list ((sortU bs).map .int)) else none) Q := po
      by_cases hc : bs.length < 4000 ∧ (sortU bs).length < 64
      · rw [if_pos hc] at po
        rw [allInt_some e] at r1
        obtain ⟨l, xs, rfl, h1, h2, h3⟩ := bo_list s r1
        have ex := rpa_ints h3
        subst ex
        exact sortSet_pass s (.inl h1) hc.1 hc.2 po
      · rw [if_neg hc] at po; exact po.elim
  · rename_i ds
    cases e : allInt ds with
    | none => rw [e] at po; exact po.elim
    | some bs =>
      rw [e] at po
      have po : VPost X.K .fr F H (if bs.length < 4000 ∧ (sortU bs).length < 64 then some (.list ((sortU bs).map .int)) else none) Q := po
      by_cases hc : bs.length < 4000 ∧ (sortU bs).length < 64
      · rw [if_pos hc] at po
        rw [allInt_some e] at r1
        obtain ⟨l, xs, rfl, h1, _, h2, h3⟩ := bo_tup s r1
        have ex := rpa_ints h3
        subst ex
        exact sortSet_pass s (.inr h1) hc.1 hc.2 po
      · rw [if_neg hc] at po; exact po.elim
  · exact po.elim
end
def vRep : D → D → Option D
  | .list ds, .int k => if -4611686018427387904 ≤ k ∧ k < 4611686018427387904 ∧ ds.length * k.toNat ≤ sizeLine then some (.list (List.replicate k.toNat ds).flatten) else none
  | _, _ => none
theorem rpA_rep {K : Fg} {F : Hp} {xs : List V} {ds : List D} (r : RpA K F xs ds) : ∀ n : Nat, RpA K F (List.replicate n xs).flatten (List.replicate n ds).flatten
  | 0 => .nil
  | n + 1 => by
    rw [List.replicate_succ, List.replicate_succ, List.flatten_cons, List.flatten_cons]
    exact r.append (rpA_rep r n)
section
variable {X : Cx} {W : WX} {O : List Nat} {a b : Expr} {da db : DE} {pos : Pos}
theorem ej_rep (ha : EJ X W O .fr a da) (hb : EJ X W O .bo b db) : EJ X W O .fr (.BinOp a .Mult b pos) (eBin vRep da db) := by
  refine ej_bin ha hb (fun t u h1 h2 => pe_op op_rep h1 h2) fun F Hs Hs' H x v y w Q s r1 r2 po => ?_
  unfold vRep at po
  split at po
  · rename_i ds k
    cases bo_int r2
    split at po
    · rename_i hc
      obtain ⟨c1, c2, c3⟩ := hc
      rcases r1 with ⟨hn, _⟩ | ⟨l, o, rfl, h2, h3, h4, h5⟩
      · cases hn
      · cases h3 with
        | @lst xs _ hx rx =>
          have hlen : (List.replicate k.toNat xs).flatten.length ≤ sizeLine := by
            rw [List.length_flatten, List.map_replicate, List.sum_replicate_nat, rx.length, Nat.mul_comm]
            exact c3
          refine ⟨l, k, xs, rfl, rfl, h2, by omega, by omega, by rw [rx.length]; exact c3, fun p hp => ?_⟩
          exact po F _ _ (.new s hp) (.inr ⟨p, _, rfl, upd_same, .lst hlen (rpA_rep rx _), free_of s hp, hp⟩)
    · exact po.elim
  · exact po.elim
end
end PL

end
section
namespace PL
open PySem PySem.Spec PyProof.Rows L2
def keyOf : D → Option Key
  | .int i => some (.inl i)
  | .str z => some (.inr z)
  | _ => none
def keyIs (a b : D) : Bool := match keyOf a, keyOf b with
  | some x, some y => decide (x = y)
  | _, _ => false
def findP (ps : List (D × D)) (y : D) : Option D := (ps.find? fun p => keyIs p.1 y).map (·.2)
def putP (ps : List (D × D)) (y v : D) : List (D × D) := if (ps.any fun p => keyIs p.1 y) = true then ps.map (fun p => if keyIs p.1 y then (p.1, v) else p) else ps ++ [(y, v)]
section
variable {K : Fg} {F : Hp}
theorem key_rp {k : Key} {d : D} (h : Rp K F (kV k) d) : keyOf d = some k := by
  cases k with
  | inl i =>
    have h : Rp K F (.int i) d := h
    cases h
    rfl
  | inr z =>
    have h : Rp K F (.str z) d := h
    cases h
    rfl
theorem keyIs_rp {k k' : Key} {d d' : D} (h : Rp K F (kV k) d) (h' : Rp K F (kV k') d') : keyIs d d' = decide (k = k') := by
  unfold keyIs
  rw [key_rp h, key_rp h']
theorem find_rp {k : Key} {y : D} (hy : Rp K F (kV k) y) : ∀ {kvs : List (Key × V)} {ps : List (D × D)}, RpD K F kvs ps → (∀ v, findP ps y = some v → ∃ x, valV kvs k = some x ∧ Rp K F x v) ∧ (findP ps y = none → valV kvs k = none)
  | _, _, .nil => ⟨fun v h => (by cases h), fun _ => rfl⟩
  | _, _, .cons (k := k1) (v := v1) (kvs := kvs) (dk := dk) (dv := dv) (ps := ps) h1 h2 h3 => by
    obtain ⟨i1, i2⟩ := find_rp hy h3
    have e := keyIs_rp h1 hy
    unfold findP at i1 i2 ⊢
    rw [List.find?_cons]
    by_cases hk : k1 = k
    · rw [decide_eq_true hk] at e
      rw [e]
      rw [valV_pos (p := (k1, v1)) hk]
      refine ⟨fun v h => ?_, fun h => (by cases h)⟩
      cases h
      exact ⟨_, rfl, h2⟩
    · rw [decide_eq_false hk] at e
      rw [e, valV_neg (p := (k1, v1)) hk]
      exact ⟨i1, i2⟩
theorem RpD.map_put {k : Key} {y v : D} {x : V} (hy : Rp K F (kV k) y) (hv : Rp K F x v) : ∀ {kvs : List (Key × V)} {ps : List (D × D)}, RpD K F kvs ps → RpD K F (kvs.map (fun kv => if kv.1 = k then (kv.1, x) else kv)) (ps.map (fun p => if keyIs p.1 y then (p.1, v) else p)) ∧ (kvs.any fun kv => decide (kv.1 = k)) = (ps.any fun p => keyIs p.1 y)
  | _, _, .nil => ⟨.nil, rfl⟩
  | _, _, .cons (k := k1) (v := v1) (kvs := kvs) (dk := dk) (dv := dv) (ps := ps) h1 h2 h3 => by
    obtain ⟨i1, i2⟩ := RpD.map_put hy hv h3
    have e := keyIs_rp h1 hy
    rw [List.map_cons, List.map_cons, List.any_cons, List.any_cons, i2]
    dsimp only
    rw [e]
    refine ⟨?_, rfl⟩
    by_cases hk : k1 = k
    · rw [if_pos hk, if_pos (decide_eq_true hk)]
      exact .cons h1 hv i1
    · rw [if_neg hk, if_neg (by simp [hk])]
      exact .cons h1 h2 i1
theorem RpD.app {k : Key} {y v : D} {x : V} (hy : Rp K F (kV k) y) (hv : Rp K F x v) : ∀ {kvs : List (Key × V)} {ps : List (D × D)}, RpD K F kvs ps → RpD K F (kvs ++ [(k, x)]) (ps ++ [(y, v)])
  | _, _, .nil => .cons hy hv .nil
  | _, _, .cons h1 h2 h3 => .cons h1 h2 (RpD.app hy hv h3)
theorem RpD.put {k : Key} {y v : D} {x : V} {kvs : List (Key × V)} {ps : List (D × D)} (hy : Rp K F (kV k) y) (hv : Rp K F x v) (h : RpD K F kvs ps) : RpD K F (putK kvs k x) (putP ps y v) := by
  obtain ⟨h1, h2⟩ := h.map_put hy hv
  unfold putK putP
  rw [h2]
  split
  · exact h1
  · exact h.app hy hv
theorem RpD.len : ∀ {kvs : List (Key × V)} {ps : List (D × D)}, RpD K F kvs ps → kvs.length = ps.length
  | _, _, .nil => rfl
  | _, _, .cons _ _ h => by rw [List.length_cons, List.length_cons, h.len]
theorem putK_len {kvs : List (Key × V)} {k : Key} {x : V} : (putK kvs k x).length ≤ kvs.length + 1 := by
  unfold putK
  split
  · rw [List.length_map]; omega
  · rw [List.length_append]; exact Nat.le_refl _
/-- a text or an int, as a key -/
theorem key_of_rp {y : D} {x : V} {k : Key} (h : Rp K F x y) (hk : keyOf y = some k) : x = kV k ∧ Rp K F (kV k) y := by
  cases y with
  | int i => cases hk; cases h; exact ⟨rfl, .int i⟩
  | str z => cases hk; cases h; rename_i a b; exact ⟨rfl, .str z a b⟩
  | _ => cases hk
end
section
variable {X : Cx} {W : WX} {O OL : List Nat} {k : Nat} {m : Mode} {a b e : Expr} {da db : DE} {pos : Pos}
theorem ej_dict0 : EJ X W O .fr (.Dict [] [] pos) (eC (.dict [])) :=
  ⟨_, pe_dnewK, fun F0 H0 F H σ ρ Q s po p hp => po F _ _ (.new s.sub hp) (.inr ⟨p, _, rfl, upd_same, .dic (Nat.zero_le _) .nil, free_of s.sub hp, hp⟩)⟩
def rInDk : R2 := fun y x H Q => ∃ a o, x = .ref a ∧ DGet H a y o ∧ Q (.bl o.isSome) H
def rNinDk : R2 := fun y x H Q => ∃ a o, x = .ref a ∧ DGet H a y o ∧ Q (.bl (!o.isSome)) H
theorem op_inDk (hu : X.A.units + 1 < cLine) : OpR X (compareOp .In) rInDk := by
  intro pins s σ H y x u v Q I ry rx h
  obtain ⟨a, o, rfl, g, q⟩ := h
  cases rx
  exact d_in hu I g ry fun s3 I3 => ⟨.bl o.isSome, H, I3, rfl, q⟩
theorem op_ninDk (hu : X.A.units + 1 < cLine) : OpR X (compareOp .NotIn) rNinDk := by
  intro pins s σ H y x u v Q I ry rx h
  obtain ⟨a, o, rfl, g, q⟩ := h
  cases rx
  exact d_notIn hu I g ry fun s3 I3 => ⟨.bl (!o.isSome), H, I3, rfl, q⟩
theorem dget_rd {H : Hp} {a : Addr} {kvs : List (Key × V)} {k : Key} (e : Rd H a (.dK kvs)) : DGet H a (kV k) (valV kvs k) := .inl ⟨kvs, k, e, rfl, rfl⟩
def vInD (y d : D) : Option D := match d with
  | .dict ps => (keyOf y).map fun _ => .bool (findP ps y).isSome
  | _ => none
def vNinD (y d : D) : Option D := match d with
  | .dict ps => (keyOf y).map fun _ => .bool (!(findP ps y).isSome)
  | _ => none
theorem find_some {K : Fg} {F : Hp} {kvs : List (Key × V)} {ps : List (D × D)} {y : D} {k : Key} (hy : Rp K F (kV k) y) (r : RpD K F kvs ps) : (valV kvs k).isSome = (findP ps y).isSome := by
  obtain ⟨h1, h2⟩ := find_rp hy r
  cases e : findP ps y with
  | none => rw [h2 e]; rfl
  | some v =>
    obtain ⟨x, h3, _⟩ := h1 v e
    rw [h3]; rfl
theorem bo_key {F Hs H : Hp} {x : V} {y : D} {kk : Key} (h : RM .bo X.K F Hs H x y) (hk : keyOf y = some kk) (s : Same F H) : x = kV kk ∧ Rp X.K F (kV kk) y := by
  cases y with
  | int i => cases hk; cases bo_int h; exact ⟨rfl, .int i⟩
  | str z => cases hk; obtain ⟨rfl, h1, h2⟩ := bo_str h; exact ⟨rfl, .str z h1 h2⟩
  | _ => cases hk
theorem inD_ok (hh : Here X W k) (hm : behindInMarks .In b = false) : CmpOk X .In b vInD := by
  refine ⟨hm, _, op_inDk hh.u1, fun F Hs Hs' H x v y w Q s r1 r2 po => ?_⟩
  unfold vInD at po
  split at po
  · rename_i ps
    cases hk : keyOf v with
    | none => rw [hk] at po; exact po.elim
    | some kk =>
      rw [hk] at po
      obtain ⟨a, kvs, rfl, h1, h2, h3⟩ := bo_dict s r2
      obtain ⟨rfl, ry⟩ := bo_key r1 hk s
      refine ⟨a, _, rfl, dget_rd h1, ?_⟩
      rw [find_some ry h3]
      exact po F H _ (.refl s) (.bl _)
  · exact po.elim
theorem ninD_ok (hh : Here X W k) (hm : behindInMarks .NotIn b = false) : CmpOk X .NotIn b vNinD := by
  refine ⟨hm, _, op_ninDk hh.u1, fun F Hs Hs' H x v y w Q s r1 r2 po => ?_⟩
  unfold vNinD at po
  split at po
  · rename_i ps
    cases hk : keyOf v with
    | none => rw [hk] at po; exact po.elim
    | some kk =>
      rw [hk] at po
      obtain ⟨a, kvs, rfl, h1, h2, h3⟩ := bo_dict s r2
      obtain ⟨rfl, ry⟩ := bo_key r1 hk s
      refine ⟨a, _, rfl, dget_rd h1, ?_⟩
      rw [find_some ry h3]
      exact po F H _ (.refl s) (.bl _)
  · exact po.elim
/-- d[y], there -/
def vGetD (d y : D) : Option D := match d with
  | .dict ps => findP ps y
  | _ => none
theorem ej_getD (hh : Here X W k) (hs : NoSl b) (ha : EJ X W O .bo a da) (hb : EJ X W O .bo b db) : EJ X W O .sh (.Subscript a b pos) (eBin vGetD da db) := by
  refine ej_bin (r := fun x y H Q => ∃ p v, x = .ref p ∧ DGet H p y (some v) ∧ Q v H) ha hb (fun t u h1 h2 => pe_dget hh.u1 h1 h2 hs) fun F Hs Hs' H x v y w Q s r1 r2 po => ?_
  unfold vGetD at po
  split at po
  · rename_i ps
    cases hk : keyOf w with
    | none =>
      have : findP ps w = none := by
        unfold findP
        have : (ps.find? fun p => keyIs p.1 w) = none := List.find?_eq_none.2 fun p _ => by
          unfold keyIs
          rw [hk]
          cases keyOf p.1 <;> simp
        rw [this]; rfl
      rw [this] at po
      exact po.elim
    | some kk =>
      obtain ⟨p, kvs, rfl, h1, h2, h3⟩ := bo_dict s r1
      obtain ⟨rfl, ry⟩ := bo_key r2 hk s
      cases e : findP ps w with
      | none => rw [e] at po; exact po.elim
      | some v =>
        rw [e] at po
        obtain ⟨xv, g1, g2⟩ := (find_rp ry h3).1 v e
        refine ⟨p, xv, rfl, ?_, po F H _ (.refl s) g2⟩
        rw [← g1]
        exact dget_rd h1
  · exact po.elim
/-- d[y] = e of an owned dict -/
def sStoreD (i : Nat) (k e : DE) : DS := fun ρ => sOf (e ρ) ρ fun v => match ρ[i]? with
  | some (some (.dict ps)) => sOf (k ρ) ρ fun kv => if (keyOf kv).isSome ∧ ps.length < sizeLine then .nx (ρ.set i (some (.dict (putP ps kv v)))) else .bad
  | _ => .bad
theorem sj_storeD {i : Nat} {o : Expr} {pos' : Pos} (hi : i ∈ O) (hh : Here X W k) (hb : EJ X W O .bo b db) (ha : EJ X W O .sh a da) (ho : PE X o (tVar i)) (hs : swapsWith a (some (.Subscript o b pos')) pos.line X.env = pure false) :
    SJ X W m O O OL (.Assign [.Subscript o b pos'] a pos) (sStoreD i db da) := by
  obtain ⟨t, pa, q⟩ := ha
  obtain ⟨u, pb, q2⟩ := hb
  refine ⟨_, ps_dput hh.u1 ho pb pa hs, fun F0 H0 F H σ ρ Dn s po => q F0 H0 F H σ ρ _ s (sOf_post (m1 := .sh) s po fun v F' H' x s' ex rm po' => ?_)⟩
  cases hv : ρ[i]? with
  | none => rw [hv] at po'; exact po'.elim
  | some ov =>
    rw [hv] at po'
    cases ov with
    | none => exact po'.elim
    | some o =>
      cases o with
      | dict ps =>
        obtain ⟨l, kvs, h1, h2, h3, h4, h5, h6⟩ := own_dict s' hi hv
        refine ⟨_, h1, q2 F0 H0 F' H' σ ρ _ s' (sOf_post (m1 := .bo) s' po' fun kv F2 H2 y s2 ex2 rm2 po2 => ?_)⟩
        have po2 : SPost X W F0 H0 F2 m O OL (if (keyOf kv).isSome ∧ ps.length < sizeLine then .nx (ρ.set i (some (.dict (putP ps kv v)))) else .bad) Dn := po2
        by_cases hc : (keyOf kv).isSome ∧ ps.length < sizeLine
        · rw [if_pos hc] at po2
          obtain ⟨hk, hl⟩ := hc
          obtain ⟨kk, hkk⟩ := Option.isSome_iff_exists.1 hk
          obtain ⟨rfl, ry⟩ := bo_key rm2 hkk ex2.fh
          have hl2 : kvs.length < sizeLine := by
            have := h4.len
            omega
          have h2' := ex2.hh _ _ h2
          refine ⟨l, _, rfl, DPut.k h2' hl2, ?_⟩
          have r4 : RpD X.K F2 kvs ps := h4.mono ex2.ff
          have r' : RpD X.K F2 (putK kvs kk x) (putP ps kv v) := r4.put ry (Rp.mono ex2.ff rm)
          have hlen : (putK kvs kk x).length ≤ sizeLine := by
            have := putK_len (kvs := kvs) (k := kk) (x := x)
            omega
          exact po2 F2 _ σ (.refl _) (s2.mut hi hv h1 h2' (ex2.nw _ h5 (by rw [h2]; exact fun z => nomatch z)) h6 (.dic hlen r'))
        · rw [if_neg hc] at po2
          exact po2.elim
      | _ => exact po'.elim
end
end PL

end
section
namespace PL
open PySem PySem.Spec PyProof.Rows L2
def ltT (a b : Str) : Prop := a.cps.toList < b.cps.toList
theorem str_ext {a b : Str} (h : a.cps.toList = b.cps.toList) : a = b := by
  obtain ⟨⟨a⟩⟩ := a
  obtain ⟨⟨b⟩⟩ := b
  have h : a = b := h
  rw [h]
def leT (a b : Str) : Bool := decide (a.cps.toList ≤ b.cps.toList)
theorem ltT_of {a b : Str} (h : leT a b = true) (hn : a ≠ b) : ltT a b := by
  have h := of_decide_eq_true h
  by_cases h2 : a.cps.toList < b.cps.toList
  · exact h2
  · exact absurd (str_ext (List.le_antisymm h (List.not_lt.1 h2))) hn
theorem ltT_irr {a : Str} (h : ltT a a) : False := List.lt_irrefl _ h
theorem ltT_asym {a b : Str} (h : ltT a b) (h2 : ltT b a) : False := List.lt_irrefl _ (List.lt_trans h h2)
theorem ltT_unique : ∀ {a b : List Str}, a.Pairwise ltT → b.Pairwise ltT → (∀ k, k ∈ a ↔ k ∈ b) → a = b
  | [], [], _, _, _ => rfl
  | [], y :: b, _, _, h => absurd ((h y).2 (by simp)) (by simp)
  | x :: a, [], _, _, h => absurd ((h x).1 (by simp)) (by simp)
  | x :: a, y :: b, ha, hb, h => by
    obtain ⟨a1, a2⟩ := List.pairwise_cons.1 ha
    obtain ⟨b1, b2⟩ := List.pairwise_cons.1 hb
    have e : x = y := by
      rcases List.mem_cons.1 ((h x).1 (by simp)) with h1 | h1
      · exact h1
      · rcases List.mem_cons.1 ((h y).2 (by simp)) with h2 | h2
        · exact h2.symm
        · exact (ltT_asym (b1 x h1) (a1 y h2)).elim
    subst e
    rw [ltT_unique a2 b2 fun k => ?_]
    constructor
    · intro hk
      rcases List.mem_cons.1 ((h k).1 (by simp [hk])) with rfl | q
      · exact (ltT_irr (a1 k hk)).elim
      · exact q
    · intro hk
      rcases List.mem_cons.1 ((h k).2 (by simp [hk])) with rfl | q
      · exact (ltT_irr (b1 k hk)).elim
      · exact q
theorem leT_tr (a b c : Str) (h : leT a b = true) (h2 : leT b c = true) : leT a c = true :=
  decide_eq_true (List.le_trans (of_decide_eq_true h) (of_decide_eq_true h2))
theorem leT_tot (a b : Str) : (leT a b || leT b a) = true := by
  rcases List.le_total a.cps.toList b.cps.toList with h | h
  · rw [leT, decide_eq_true h]; rfl
  · rw [Bool.or_eq_true]; exact .inr (decide_eq_true h)
theorem merge_lt {l : List Str} (h : l.Nodup) : (l.mergeSort leT).Pairwise ltT := by
  have h1 : (l.mergeSort leT).Pairwise (fun a b => leT a b = true) := List.pairwise_mergeSort leT_tr leT_tot l
  have h2 : (l.mergeSort leT).Nodup := (List.mergeSort_perm l leT).nodup_iff.2 h
  exact (h1.and h2).imp fun h => ltT_of h.1 h.2
/-- each text once -/
def onceT : List Str → List Str
  | [] => []
  | x :: r => if x ∈ onceT r then onceT r else x :: onceT r
theorem onceT_mem {k : Str} : ∀ {l : List Str}, k ∈ onceT l ↔ k ∈ l
  | [] => by simp [onceT]
  | x :: r => by
    unfold onceT
    split
    · rename_i h
      rw [onceT_mem, List.mem_cons]
      constructor
      · exact .inr
      · rintro (rfl | q)
        · exact onceT_mem.1 h
        · exact q
    · rw [List.mem_cons, onceT_mem, List.mem_cons]
theorem onceT_nodup : ∀ l : List Str, (onceT l).Nodup
  | [] => List.Pairwise.nil
  | x :: r => by
    unfold onceT
    split
    · exact onceT_nodup r
    · rename_i h
      exact List.nodup_cons.2 ⟨h, onceT_nodup r⟩
theorem onceT_len : ∀ l : List Str, (onceT l).length ≤ l.length
  | [] => Nat.le_refl _
  | x :: r => by
    have := onceT_len r
    unfold onceT
    split
    · rw [List.length_cons]; omega
    · rw [List.length_cons, List.length_cons]; omega
def sortT (l : List Str) : List Str := (onceT l).mergeSort leT
theorem sortT_lt (l : List Str) : (sortT l).Pairwise ltT := merge_lt (onceT_nodup l)
theorem sortT_mem {k : Str} {l : List Str} : k ∈ sortT l ↔ k ∈ l := by
  unfold sortT
  rw [(List.mergeSort_perm (onceT l) leT).mem_iff, onceT_mem]
theorem sortT_len (l : List Str) : (sortT l).length ≤ l.length := by
  unfold sortT
  rw [(List.mergeSort_perm (onceT l) leT).length_eq]
  exact onceT_len l
def tyOf (e : Int × Value) : Str := match e.2 with | .str k _ => k | _ => ⟨#[]⟩
/-- a set of the texts among xs -/
def SetX (P : Program) (w : World) (h : Heap) (a : Addr) (xs : List Str) : Prop :=
  ∃ (D : Froz.SD) (l : List Str), h.get? a = some (Froz.sObj "set" D) ∧ Froz.TxOk P w D l ∧ l.Nodup ∧ (∀ k, k ∈ l ↔ k ∈ xs) ∧ l.length ≤ xs.length ∧ Ris D.2.2.place.toList ∧ (w.params.followText "set-order" = true ∨ D.2.2.led = true)
section
variable {P : Program} {w : World} {A : Around} {E : Value → Shared → Prop} {s : Shared} {a : Addr}
theorem SetX.at {h h' : Heap} {xs : List Str} (R : SetX P w h a xs) (k : ∀ o, h.get? a = some o → h'.get? a = some o) : SetX P w h' a xs := by
  obtain ⟨D, l, ho, r⟩ := R
  exact ⟨D, l, k _ ho, r⟩
theorem setX_new {h : Heap} {xs : List Str} (ho : h.get? a = some (nset w)) : SetX P w h a (xs.take 0) :=
  ⟨(#[], 0, .fresh 0 0 (!w.params.followText "set-order")), [], ho, Froz.TxOk.nil rfl, List.nodup_nil, by simp, by simp, List.Pairwise.nil, by
    show _ ∨ (!w.params.followText "set-order") = true
    cases w.params.followText "set-order" <;> simp⟩
theorem tail_ris {ep : Nat} {es : Array (Int × Value)} {t : SetTable} {b : Bool} (r : Ris t.place.toList) : Ris (Froz.tailTx ep es t b).2.2.place.toList := by
  unfold Froz.tailTx
  split
  · exact relayAll_ris _ _ _
  · exact r
theorem tail_led {ep : Nat} {es : Array (Int × Value)} {t : SetTable} {b : Bool} (r : t.led = true) : (Froz.tailTx ep es t b).2.2.led = true := by
  unfold Froz.tailTx
  split
  · exact (relayAll_led _ _ _).trans r
  · exact r
theorem addTx_ris {D : Froz.SD} {h : Int} {v : Value} (r : Ris D.2.2.place.toList) : Ris (Froz.addTx h v D).2.2.place.toList := by
  have r1 := layNew_ris D.2.2 D.1 h v r
  refine tail_ris ?_
  split
  · exact r1
  · exact r1
theorem addTx_led {D : Froz.SD} {h : Int} {v : Value} (r : D.2.2.led = true) : (Froz.addTx h v D).2.2.led = true := by
  have r1 := (layNew_led D.2.2 D.1 h v).trans r
  refine tail_led ?_
  split
  · exact r1
  · exact r1
/-- a text that stands there -/
theorem add_old {D : Froz.SD} {l : List Str} {k : Str} {u : Tok} {Q : Bool → Shared → Prop} (ho : s.heap.get? a = some (Froz.sObj "set" D)) (F : Froz.TxOk P w D l) (hk : k ∈ l) (hb : l.length < scanBound)
    (h : Q false s) : wpAny (model P w) A (setAddHashed a (.str k u) (hashStr w k)) Q E s := by
  obtain ⟨es, ep, t⟩ := D
  have hel : ElemsOf (PySem.strKind P w) es.toList := F.el
  have hb0 : es.size < scanBound := by have : es.size = l.length := F.sz; omega
  have hkey : (PySem.strKind P w).is k (.str k u) = true := Froz.is_str k u
  unfold setAddHashed setAddHashedIn
  refine wpAny_holding (wpAny_bind (wpAny_setState_of ho rfl F.fit ?_)); dsimp only
  rw [byScan_of rfl hb0 hel]; simp only [↓reduceIte]
  unfold setAddByScan
  refine wpAny_bind (wpAny_bind (wpAny_rule (wpAny_bind (wpAny_setScan_of (knd := PySem.strKind P w) (k := k) hkey ho rfl F.fit hel ?_))))
  cases hfi : List.findIdx? (fun e => (PySem.strKind P w).is k e.2) es.toList with
  | some j => exact wpAny_pure (wpAny_pure h)
  | none =>
    obtain ⟨e, he, q⟩ := (F.mem k).mp hk
    have c := List.findIdx?_eq_none_iff.mp hfi e he
    rw [q] at c
    cases c
theorem add_txt {xs : List Str} {k : Str} {u : Tok} {Q : Bool → Shared → Prop} (R : SetX P w s.heap a xs) (hb : xs.length + 1 < scanBound)
    (hQ : ∀ b h', Heap.SameBut a s.heap h' → SetX P w h' a (xs ++ [k]) → Q b { s with heap := h' }) : wpAny (model P w) A (setAddHashed a (.str k u) (hashStr w k)) Q E s := by
  obtain ⟨D, l, ho, F, nd, hm, hl, r, led⟩ := R
  by_cases hk : k ∈ l
  · refine add_old ho F hk (by omega) (hQ false s.heap (Heap.SameBut.refl a s.heap) ⟨D, l, ho, F, nd, fun i => ?_, by rw [List.length_append]; omega, r, led⟩)
    rw [hm i, List.mem_append, List.mem_singleton]
    constructor
    · exact .inl
    · rintro (q | q)
      · exact q
      · rw [q]; exact (hm k).1 hk
  · refine Froz.add_x ho F hk (by omega) (hQ true _ (Heap.SameBut.update s.heap a _) ⟨_, k :: l, Froz.get_upd _ ho rfl, Froz.add_ok u F, List.nodup_cons.2 ⟨hk, nd⟩, fun i => ?_, by rw [List.length_append, List.length_cons, List.length_singleton]; omega, addTx_ris r, led.imp id addTx_led⟩)
    rw [List.mem_cons, hm i, List.mem_append, List.mem_singleton]
    exact Or.comm
theorem strs_at : ∀ {us : List Value} {ns : List Str}, StrsAre us ns → ∀ (i : Nat) (v : Value), us[i]? = some v → ∃ k t, ns[i]? = some k ∧ v = .str k t
  | _, _, .nil, _, _, h => by simp at h
  | _, _, .cons y t r, 0, v, h => ⟨y, t, rfl, (Option.some.inj h).symm⟩
  | _, _, .cons y t r, i + 1, v, h => strs_at r i v h
theorem set_update_txts {I : Addr} {fp wr : List Addr} {G : Array GenState → Array GenState → Prop} {n : Nat} {Pv : Nat → Value → Prop} {St : Nat → Shared → Prop} {R : Result → Shared → Prop}
    (W : WalksS P w A.in1 I fp wr G n Pv St) (S : Addr) (hSf : S ∉ fp) (ns : List Str) (hn : n = ns.length) (hb : ns.length + 1 < scanBound) (hval : ∀ i v, Pv i v → ∃ k t, ns[i]? = some k ∧ v = .str k t) :
    ∀ (k i : Nat) (s : Shared), n - i = k → i ≤ n → St i s → SetX P w s.heap S (ns.take i) →
      (∀ s', Moved (S :: wr) G s s' → SetX P w s'.heap S ns → R (.ok (.ret .none)) s') →
      codeAny (model P w) A (.builtin "set.update.loop" ⟨[.ref S, .ref I], []⟩) R s := by
  have hSw : S ∉ wr := fun q => hSf (W.sub _ q)
  have sub2 : ∀ b, b ∈ wr → b ∈ S :: wr := fun b q => List.mem_cons_of_mem _ q
  intro k
  induction k with
  | zero =>
    intro i s h1 h2 hst hS hR
    obtain rfl : i = n := by omega
    refine codeAny_builtin F.entry_set_update_loop ?_; rw [Around.under_plainId F.plain_set_update_loop _]
    show wpAny _ A.in1 (pyNext (.ref I) >>= _) _ _ s; refine wpAny_bind (W.done s _ _ hst fun s1 m1 => ?_)
    show wpAny _ A.in1 (ret Value.none) _ _ s1
    rw [List.take_of_length_le (by omega)] at hS
    exact wpAny_pure (hR s1 (m1.mono sub2) (hS.at fun o q => m1.heap S o hSw q))
  | succ k ih =>
    intro i s h1 h2 hst hS hR
    have hlt : i < n := by omega
    refine codeAny_builtin F.entry_set_update_loop ?_; rw [Around.under_plainId F.plain_set_update_loop _]
    show wpAny _ A.in1 (pyNext (.ref I) >>= _) _ _ s; refine wpAny_bind (W.item i s _ _ hlt hst fun v s1 hP hst1 m1 => ?_)
    obtain ⟨z, t, hz, rfl⟩ := hval i v hP
    have hS1 : SetX P w s1.heap S (ns.take i) := hS.at fun o q => m1.heap S o hSw q
    show wpAny _ A.in1 (holding [Value.str z t] (setAdd S (.str z t)) >>= _) _ _ s1
    refine wpAny_bind (wpAny_holding ?_); unfold setAdd
    refine wpAny_holding (wpAny_bind ((PySem.strKind P w).pyHash (k := z) (Froz.is_str z t) ?_))
    have tl : (ns.take i).length ≤ ns.length := by rw [List.length_take]; omega
    refine add_txt (s := { s1 with toks := s1.toks + 1 }) hS1 (by omega) fun b h' hsb hS2 => ?_
    have e2 : ns.take i ++ [z] = ns.take (i + 1) := by rw [List.take_add_one, hz]; rfl
    rw [e2] at hS2
    have oth : ∀ c o, c ≠ S → s1.heap.get? c = some o → h'.get? c = some o := fun c o q e => (hsb.2 c q).trans e
    refine wpAny_pure ⟨plainId_quiet F.plain_set_update_loop _, ih (i + 1) _ (by omega) hlt (W.frame _ s1 _ _ hst1 (Nat.le_succ _) fun c hc o e => oth c o (fun q => hSf (q ▸ hc)) e) hS2 fun s2 m2 hS3 => ?_⟩
    exact hR s2 (Moved.trans W.gtrans ((m1.mono sub2).then_heap (Nat.le_succ _) fun c o hc e => oth c o (fun q => hc (q ▸ List.mem_cons_self)) e) m2) hS3
theorem setList_txts {l : Addr} {vs : Array Value} (ns : List Str) {Q : Value → Shared → Prop} (hh : A.handled = none) (hl : s.heap.IsList l vs) (hi : StrsAre vs.toList ns) (hb : ns.length + 1 < scanBound)
    (h : ∀ (h2 : Heap) (tk : Nat), SetX P w h2 s.heap.objs.size ns → (∀ b o, s.heap.get? b = some o → h2.get? b = some o) → Q (.ref s.heap.objs.size) { s with heap := h2, toks := tk }) :
    wpAny (model P w) A (call (.type "set") [.ref l]) Q E s := by
  have sz : vs.size = ns.length := by rw [← Array.length_toList]; exact StrsAre.length hi
  have g0 : (s.heap.push (nset w)).get? s.heap.objs.size = some (nset w) := Heap.get?_push_size _ rfl
  have ls : l < s.heap.objs.size := by obtain ⟨ol, e, _⟩ := hl; exact Heap.lt_size e
  have z1 : (s.heap.push (nset w)).objs.size = s.heap.objs.size + 1 := Heap.size_push ..
  have l1 : (s.heap.push (nset w)).IsList l vs := hl.push _
  have fl : s.heap.objs.size ∉ [(s.heap.push (nset w)).objs.size, l] := by
    rw [z1]; intro hm; simp only [List.mem_cons, List.not_mem_nil, or_false] at hm
    rcases hm with q | q
    · exact absurd q (Nat.ne_of_lt (Nat.lt_succ_self _))
    · exact absurd q (Nat.ne_of_gt ls)
  have at_ : ∀ (i : Nat) (v : Value), vs[i]? = some v → ∃ k t, ns[i]? = some k ∧ v = .str k t := fun i v hv => strs_at hi i v (by rw [Array.getElem?_toList]; exact hv)
  obtain ⟨mc, mt, mro⟩ := PySem.F.called_set.mro
  have made := PySem.F.called_set.made; have msub := PySem.F.called_set.sub
  refine wpAny_call (codeAny_of_tree (?_ : wpAny _ _ (callAny (.type "set") _) _ _ _))
  refine wpAny_pure ⟨Code.quiet_builtin _ (by decide +kernel), codeAny_builtin PySem.F.entry_type_call (by
    rw [Around.under_plain (weight_type_call_type "set" [.ref l] []) rfl]
    have n1 := PySem.F.called_set.notType; have n2 := PySem.F.called_set.canCreate; have n3 := PySem.F.typeCall_set_1 (.ref l)
    repeat (any_goals (first | assumption | wp_step))
    refine codeAny_mono (code_set_led1 (.ref l) (E := E) (Q₁ := fun x s1 => x = .ref s.heap.objs.size ∧ s1 = { s with heap := s.heap.push (nset w) }) ⟨rfl, rfl⟩) fun r s1 hr => ?_
    match r, hr with
    | .error e, hr => exact hr
    | .ok (.ret x), hr =>
      obtain ⟨rfl, rfl⟩ := hr
      have ty : Shared.TypeIs { s with heap := s.heap.push (nset w) } (.ref s.heap.objs.size) "set" := ⟨_, g0, rfl⟩
      have i1 := PySem.F.called_set.init.lookup; have i2 := PySem.F.called_set.init.bind (.ref s.heap.objs.size)
      repeat (any_goals (first | assumption | wp_step))
      refine codeAny_mono (codeAny_call_builtin (R := wants (fun r s2 => r = .none ∧ ∃ h2 tk, s2 = { s with heap := h2, toks := tk } ∧ SetX P w h2 s.heap.objs.size ns ∧ (∀ b o, s.heap.get? b = some o → h2.get? b = some o)) E) PySem.F.called_set.init.plain PySem.F.entry_set_init (check_set_init_1 ty (by
        obtain ⟨ol, o1, o2, nl, o3⟩ := hl
        obtain ⟨ocls, odict, odata, oslots⟩ := ol
        simp only at o2 o3
        subst o2 o3
        have o4 : (s.heap.push (nset w)).get? l = some ⟨.type "list", odict, .seq vs nl, oslots⟩ := Heap.get?_push_of_some _ o1
        have b1 := PySem.F.sub_list_set; have b2 := PySem.F.sub_list_frozenset
        have b3 : (Value.type "list" == Value.type "dict") = false := by decide
        unfold Builtin.«set.__init__» noKeywords Builtin.Frozenset.updateFrom
        generalize hPI : pyIter = PI; wp_walk; subst hPI
        refine wpAny_pyIter_list l1 (wpAny_bind (wpAny_runValue ?_))
        have h3 : A.in1.in1.in1.handled = none := by simp [hh]
        have ne : l ≠ (s.heap.push (nset w)).objs.size := by rw [z1]; exact Nat.ne_of_lt (Nat.lt_succ_of_lt ls)
        refine set_update_txts ((Walks.list h3 _ l ne vs).toS) s.heap.objs.size fl ns sz hb at_ (vs.size - 0) 0 _ (by omega) (Nat.zero_le _) ⟨⟨_, Heap.get?_push_size _ rfl, rfl, rfl⟩, (l1.push _)⟩ (setX_new (Heap.get?_push_of_some _ g0)) fun s3 hm hS => ?_
        obtain ⟨h3, g3, d3, t3, os3⟩ := s3
        have e1 : g3 = s.gens := hm.gens
        have e2 : d3 = s.drawn := hm.drawn
        have e3 : os3 = s.os := hm.os
        subst e1 e2 e3
        show wpAny _ A.in1.in1 (pure ()) _ _ _; refine wpAny_pure ?_; show wpAny _ A.in1.in1 (ret Value.none) _ _ _
        refine wpAny_pure ⟨rfl, h3, t3, rfl, hS, fun b o e => hm.heap b o (fun hmem => ?_) (Heap.get?_push_of_some _ (Heap.get?_push_of_some _ e))⟩
        have hb0 := Heap.lt_size e
        simp only [List.mem_cons, List.not_mem_nil, or_false] at hmem
        rcases hmem with q | q
        · exact absurd q (Nat.ne_of_lt hb0)
        · rw [q, z1] at hb0; exact absurd hb0 (by simp)))) fun r2 s2 hr2 => ?_
      match r2, hr2 with
      | .error e, hr2 => exact hr2
      | .ok (.ret x), hr2 =>
        obtain ⟨rfl, h2, tk, rfl, q1, q3⟩ := hr2
        repeat (any_goals (first | assumption | wp_step))
        exact h _ _ q1 q3)⟩
end
end PL

end
section
namespace PL
open PySem PySem.Spec PyProof.Rows L2
theorem perm_of_sub {α : Type} [BEq α] [LawfulBEq α] : ∀ (l m : List α), l.Nodup → (∀ x ∈ l, x ∈ m) → m.length ≤ l.length → l.Perm m
  | [], m, _, _, h => by
    rw [List.eq_nil_of_length_eq_zero (Nat.le_zero.1 h)]
  | x :: l, m, nd, hs, h => by
    obtain ⟨n1, n2⟩ := List.nodup_cons.1 nd
    have hx := hs x (by simp)
    have p := List.perm_cons_erase hx
    have hl := p.length_eq
    rw [List.length_cons] at hl h
    refine (List.Perm.cons x (perm_of_sub l (m.erase x) n2 (fun y hy => ?_) (by omega))).trans p.symm
    exact (List.mem_erase_of_ne (fun (e : y = x) => n1 (e ▸ hy))).2 (hs y (by simp [hy]))
def txOf (v : Value) : Str := match v with | .str k _ => k | _ => ⟨#[]⟩
def IsTx (v : Value) (k : Str) : Prop := ∃ t, v = .str k t
theorem isTx_each : ∀ {vs : List Value}, (∀ v ∈ vs, ∃ k t, v = Value.str k t) → W.EachIs IsTx vs (vs.map txOf)
  | [], _ => .nil
  | v :: vs, h => by
    obtain ⟨k, t, e⟩ := h v (by simp)
    exact .cons ⟨t, by rw [e]; rfl⟩ (isTx_each fun u hu => h u (by simp [hu]))
theorem isTx_strs : ∀ {vs : List Value} {ks : List Str}, W.EachIs IsTx vs ks → StrsAre vs ks
  | _, _, .nil => .nil
  | _, _, .cons ⟨t, e⟩ r => by rw [e]; exact .cons _ t (isTx_strs r)
section
variable {P : Program} {w : World} {A : Around} {E : Value → Shared → Prop} {s : Shared} {a : Addr}
theorem sorted_setX {xs : List Str} {Q : Value → Shared → Prop} (R : SetX P w s.heap a xs) (hh : A.handled = none) (hb : xs.length < scanBound) (hu : A.units + 64 < cLine)
    (hQ : ∀ s' p (out : Array Value) (c : Nat), (∀ b o, s.heap.get? b = some o → s'.heap.get? b = some o) → s'.gens = s.gens → s'.os = s.os → s.heap.objs.size ≤ p →
      s'.heap.get? p = some (seqObj "list" out c) → StrsAre out.toList (sortT xs) → Q (.ref p) s') :
    wpAny (model P w) A (call (.builtin "sorted") [.ref a]) Q E s := by
  obtain ⟨D, l, ho, F, nd, hm, hl, ri, led⟩ := R
  have hsz : D.1.size = l.length := F.sz
  refine Calls.call_function_entry kind_sorted plain_sorted entry_sorted (args_sorted1 _) ?_
  unfold Builtin.«sorted»
  refine wpAny_bind (m := checkCount "sorted" 1 1 _) (wpAny_pure ?_)
  refine wpAny_bind (collect_set (A := A.in1) hh ⟨_, ho, rfl, rfl⟩ F.fit (by omega) ri led fun s1 vs k1 hz g1 o1 pm => ?_)
  have hvl : vs.length = l.length := by rw [pm.length_eq, List.length_map, Array.length_toList]; exact hsz
  have hT : ∀ v ∈ vs, ∃ k t, v = Value.str k t := fun v hv => by
    obtain ⟨e, he, q⟩ := List.mem_map.mp (pm.mem_iff.mp hv)
    obtain ⟨⟨k, h1, _⟩, _⟩ := F.el e he
    obtain ⟨t, h2⟩ := Value.isStrOf_shape h1
    exact ⟨k, t, q.symm.trans h2⟩
  have pl : l.Perm (vs.map txOf) := by
    refine perm_of_sub l _ nd (fun k hk => ?_) (by rw [List.length_map]; omega)
    obtain ⟨e, he, q⟩ := (F.mem k).1 hk
    obtain ⟨t, h2⟩ := Value.isStrOf_shape q
    exact List.mem_map.2 ⟨e.2, pm.mem_iff.2 (List.mem_map.2 ⟨e, he, rfl⟩), by rw [h2]; rfl⟩
  have es : (vs.map txOf).mergeSort (W.dataLe false PyData.str) = sortT xs := by
    rw [show W.dataLe false PyData.str = leT from W.dataLe_str id]
    refine ltT_unique (merge_lt (pl.nodup_iff.1 nd)) (sortT_lt xs) fun k => ?_
    rw [(List.mergeSort_perm _ _).mem_iff, ← pl.mem_iff, hm k, sortT_mem]
  have hsl : (4096 : Nat) ≤ sizeLine := by decide
  have hbl : scanBound = 4096 := rfl
  refine wpAny_bind (wpAny_newList ?_ (by omega))
  have hoL : (s1.heap.push (seqObj "list" vs.toArray 0)).get? s1.heap.objs.size = some (seqObj "list" vs.toArray 0) := Heap.get?_push_size _ rfl
  refine wpAny_bind (wpAny_holding (W.list_sort_data (enc := PyData.str) (R := IsTx) (s := { s1 with heap := s1.heap.push (seqObj "list" vs.toArray 0) }) hoL (isTx_each hT) ((isTx_each hT).mono fun v k ⟨t, e⟩ => ⟨[], by rw [e]; exact .str _ _, by simp⟩) (W.AllAlike.of fun _ _ => by simp [W.alike]) (W.Sortable.others fun b => ⟨by simp, by simp⟩) (by rw [List.length_map]; omega) (fun b _ => by rw [show (PyData.str b).depth = 0 by simp [PyData.depth]]; have := units_in1 A; omega) fun out _ eo => ?_))
  obtain ⟨c, hc⟩ := sortedHeap_at (vs := vs) (out := out.toArray) hoL
  rw [es] at eo
  refine wpAny_pure ⟨_, rfl, hQ _ s1.heap.objs.size out.toArray c (fun b u e => ?_) g1 o1 hz hc (isTx_strs eo)⟩
  have q := k1 b u e
  have hlt := Heap.lt_size q
  show (sortedHeap (s1.heap.push (seqObj "list" vs.toArray 0)) s1.heap.objs.size vs out.toArray).get? b = some u
  rw [sortedHeap_old (Nat.ne_of_lt hlt) (by rw [size_push']; exact Nat.lt_succ_of_lt hlt)]
  exact Heap.get?_push_of_some _ q
end
def SetXO (P : Program) (w : World) (a : Addr) (xs : List Str) : HO := .ext fun h => SetX P w h a xs
def rSetX (K : Fg) (P : Program) (w : World) : List V → Hp → VK → Prop := fun vs H Q => ∃ (a : Addr) (ns : List Str), vs = [V.ref a] ∧ SqL K H a (ns.map V.str) ∧ ns.length + 1 < scanBound ∧ ∀ p : Addr, H p = none → Q (.ref p) (upd H p (SetXO P w p ns))
def rSortedX (P : Program) (w : World) : List V → Hp → VK → Prop := fun vs H Q => ∃ (a : Addr) (xs : List Str), vs = [V.ref a] ∧ H a = some (SetXO P w a xs) ∧ xs.length < scanBound ∧ ∀ p : Addr, H p = none → Q (.ref p) (upd H p (.lst ((sortT xs).map V.str)))
section
variable {X : Cx}
theorem setXO_new {P P' : Program} {w w' : World} {H : Hp} {h : Heap} {a : Addr} {xs : List Str} (R : SetX P w h a xs) : ObjOk P' w' H h a (SetXO P w a xs) := by
  have ⟨D, l, ho, _⟩ := R
  exact ⟨R, ⟨_, ho⟩, fun h1 h2 p k => SetX.at p k⟩
theorem cr_setX (hc : X.calm = true) : CallR X (.type "set") (rSetX X.K X.prog X.w) := by
  intro pins s σ H vs us Q I r h
  obtain ⟨a, ns, rfl, hs, hb, q⟩ := h
  rw [Vals.ref1 r]
  obtain ⟨its, rv, hl, _⟩ := I.list hs
  refine setList_txts ns (I.ok.hd hc) hl.isList (by simpa using rv.strs) hb fun h2 tk R k => ?_
  exact ⟨.ref _, upd H s.heap.objs.size (SetXO X.prog X.w s.heap.objs.size ns), I.laid (t' := tk) k (Nat.le_refl _) (setXO_new R), rfl, q _ (I.hok.fresh (Nat.le_refl _))⟩
theorem cr_sortedX (hc : X.calm = true) (hu : X.A.units + 64 < cLine) : CallR X (.builtin "sorted") (rSortedX X.prog X.w) := by
  intro pins s σ H vs us Q I r h
  obtain ⟨a, xs, rfl, ha, hb, q⟩ := h
  have R : SetX X.prog X.w s.heap a xs := (I.hok a _ ha).1
  rw [Vals.ref1 r]
  refine sorted_setX R (I.ok.hd hc) hb hu fun s' p out c k g o hp hg hi => ?_
  have hbl : scanBound = 4096 := rfl
  have hsl : (4096 : Nat) ≤ sizeLine := by decide
  have hlen : ((sortT xs).map V.str).length ≤ sizeLine := by rw [List.length_map]; have := sortT_len xs; omega
  have hn : H p = none := I.hok.fresh hp
  have J : Inv X pins σ (upd H p (.lst ((sortT xs).map V.str))) { s with heap := s'.heap, gens := s'.gens, drawn := s'.drawn, toks := s'.toks } :=
    I.call (ch := []) (Un.laid k hp hn) (I.hok.laid k hp ⟨hlen, out.toList, c, vals_of_strs hi, hg⟩) (by rw [g]; exact I.bare) (fun _ z => nomatch z)
  have e : s' = { s with heap := s'.heap, gens := s'.gens, drawn := s'.drawn, toks := s'.toks } := by
    cases s'; cases s; cases o; rfl
  rw [e]
  exact ⟨.ref p, _, J, rfl, q p hn⟩
end
def vSortTx : D → Option D
  | .list ds => (allStr ds).bind fun ns => if ns.length < 4000 then some (.list ((sortT ns).map .str)) else none
  | _ => none
def vSortSet2 (v : D) : Option D := match vSortSet v with
  | some r => some r
  | none => vSortTx v
section
variable {X : Cx} {W : WX} {O : List Nat} {k : Nat} {m : Mode} {F H Hs : Hp} {a : Expr} {da : DE} {pos pos2 p p2 : Pos}
theorem sortTx_pass {Q : VK} {l : Addr} {ns : List Str} (s : Same F H) (h : SqL X.K H l (ns.map V.str)) (hok : ∀ z ∈ ns, PyData.strOk z = true ∧ z.length ≤ sizeLine) (hl : ns.length < 4000)
    (po : ∀ F' H' x, Ext F H F' H' → RM .fr X.K F' H H' x (.list ((sortT ns).map .str)) → Q x H') : rSetX X.K X.prog X.w [.ref l] H fun y H2 => rSortedX X.prog X.w [y] H2 Q := by
  refine ⟨l, ns, rfl, h, by unfold scanBound; omega, fun p hp => ?_⟩
  refine ⟨p, ns, rfl, upd_same, by unfold scanBound; omega, fun q hq => ?_⟩
  have hq1 : H q = none := by
    by_cases hqp : q = p
    · rw [hqp]; exact hp
    · rw [upd_ne hqp] at hq; exact hq
  have e1 : Ext F H F (upd H p (SetXO X.prog X.w p ns)) := .new s hp
  have e2 := e1.trans (.new (o := .lst ((sortT ns).map V.str)) e1.fh hq)
  have hsl : ((sortT ns).map V.str).length ≤ sizeLine := by
    have : sizeLine = 16777216 := by decide
    have := sortT_len ns
    rw [List.length_map]; omega
  exact po F _ _ e2 (.inr ⟨q, _, rfl, upd_same, .lst hsl (strs_rpa (sortT ns) fun z hz => hok z (sortT_mem.1 hz)), free_of s hq1, hq1⟩)
def rSS (X : Cx) : V → Hp → VK → Prop := fun x H Q => (rSetI X.K X.w [x] H fun y H2 => rSortedSet X.w [y] H2 Q ∨ rSortedX X.prog X.w [y] H2 Q) ∨ (rSetX X.K X.prog X.w [x] H fun y H2 => rSortedSet X.w [y] H2 Q ∨ rSortedX X.prog X.w [y] H2 Q)
theorem rSetI_mono {K : Fg} {w : World} {vs : List V} {H : Hp} {Q Q' : VK} (h : rSetI K w vs H Q) (hq : ∀ x H', Q x H' → Q' x H') : rSetI K w vs H Q' := by
  obtain ⟨a, ns, h1, h2, h3, h4⟩ := h
  exact ⟨a, ns, h1, h2, h3, fun p hp => hq _ _ (h4 p hp)⟩
theorem rSetX_mono {K : Fg} {P : Program} {w : World} {vs : List V} {H : Hp} {Q Q' : VK} (h : rSetX K P w vs H Q) (hq : ∀ x H', Q x H' → Q' x H') : rSetX K P w vs H Q' := by
  obtain ⟨a, ns, h1, h2, h3, h4⟩ := h
  exact ⟨a, ns, h1, h2, h3, fun p hp => hq _ _ (h4 p hp)⟩
theorem sortSet_v {Q : VK} {x : V} {v : D} (s : Same F H) (r1 : RM .bo X.K F Hs H x v) (po : VPost X.K .fr F H (vSortSet v) Q) : rSetI X.K X.w [x] H fun y H2 => rSortedSet X.w [y] H2 Q := by
  unfold vSortSet at po
  split at po
  · rename_i ds
    cases e : allInt ds with
    | none => rw [e] at po; exact po.elim
    | some bs =>
      rw [e] at po
      have po : VPost X.K .fr F H (if bs.length < 4000 ∧ (sortU bs).length < 64 then some (.list ((sortU bs).map .int)) else none) Q := po
      by_cases hc : bs.length < 4000 ∧ (sortU bs).length < 64
      · rw [if_pos hc] at po
        rw [allInt_some e] at r1
        obtain ⟨l, xs, rfl, h1, h2, h3⟩ := bo_list s r1
        have ex := rpa_ints h3
        subst ex
        exact sortSet_pass s (.inl h1) hc.1 hc.2 po
      · rw [if_neg hc] at po; exact po.elim
  · rename_i ds
    cases e : allInt ds with
    | none => rw [e] at po; exact po.elim
    | some bs =>
      rw [e] at po
      have po : VPost X.K .fr F H (if bs.length < 4000 ∧ (sortU bs).length < 64 then some (.list ((sortU bs).map .int)) else none) Q := po
      by_cases hc : bs.length < 4000 ∧ (sortU bs).length < 64
      · rw [if_pos hc] at po
        rw [allInt_some e] at r1
        obtain ⟨l, xs, rfl, h1, _, h2, h3⟩ := bo_tup s r1
        have ex := rpa_ints h3
        subst ex
        exact sortSet_pass s (.inr h1) hc.1 hc.2 po
      · rw [if_neg hc] at po; exact po.elim
  · exact po.elim
theorem sortTx_v {Q : VK} {x : V} {v : D} (s : Same F H) (r1 : RM .bo X.K F Hs H x v) (po : VPost X.K .fr F H (vSortTx v) Q) : rSetX X.K X.prog X.w [x] H fun y H2 => rSortedX X.prog X.w [y] H2 Q := by
  unfold vSortTx at po
  split at po
  · rename_i ds
    cases e : allStr ds with
    | none => rw [e] at po; exact po.elim
    | some bs =>
      rw [e] at po
      have po : VPost X.K .fr F H (if bs.length < 4000 then some (.list ((sortT bs).map .str)) else none) Q := po
      by_cases hc : bs.length < 4000
      · rw [if_pos hc] at po
        rw [allStr_some e] at r1
        obtain ⟨l, xs, rfl, h1, h2, h3⟩ := bo_list s r1
        obtain ⟨ex, hz⟩ := rpa_strs h3
        subst ex
        exact sortTx_pass s h1 hz hc po
      · rw [if_neg hc] at po; exact po.elim
  · exact po.elim
theorem ej_sortSet2 (hh : Here X W k) (hgs : Gl X "sorted") (hms : X.mg "sorted" = none) (hg : Gl X "set") (hm : X.mg "set" = none) (ns : NoSt a) (ha : EJ X W O .bo a da) :
    EJ X W O .fr (.Call (.Name "sorted" p) [.Call (.Name "set" p2) [a] [] pos2] [] pos) (eUn vSortSet2 da) := by
  refine ej_un (r := fun x H Q => rSS X x H Q) ha (fun t h1 => pe_callB ((cr_sortedSet hh.calm).or (cr_sortedX hh.calm hh.u64)) hgs hms (by decide +kernel) (pa_cons (pe_callTy ((cr_setI hh.calm).or (cr_setX hh.calm)) hg hm (by decide +kernel) (pa_cons h1 pa_nil (ns _ _)) (by decide) (by decide) (ns _ _)) pa_nil)) fun F Hs H x v Q s r1 po => ?_
  unfold vSortSet2 at po
  cases e : vSortSet v with
  | some w =>
    rw [e] at po
    exact .inl (rSetI_mono (sortSet_v s r1 (by rw [e]; exact po)) fun _ _ h => .inl h)
  | none =>
    rw [e] at po
    exact .inr (rSetX_mono (sortTx_v s r1 po) fun _ _ h => .inr h)
end
end PL

end
section
namespace PL
open PySem PySem.Spec PyProof.Rows L2
def dispP (zs : List Str) (xs : List D) : List (D × D) := (zs.zip xs).foldl (fun acc p => putP acc (.str p.1) p.2) []
def eDisp (zs : List Str) (d : DA) : DE := fun ρ => (d ρ).bind fun xs => if xs.length = zs.length ∧ zs.length ≤ 15 then .ok (.dict (dispP zs xs)) else .bad
section
variable {X : Cx} {W : WX} {O : List Nat} {k a : Expr} {ks : List (Option Expr)} {vs : List Expr} {da : DE} {das : DA} {pos : Pos} {zs : List Str} {z : Str}
/-- the pairs of a written dict -/
def KJ (X : Cx) (W : WX) (O : List Nat) (pos : Pos) (ks : List (Option Expr)) (vs : List Expr) (zs : List Str) (d : DA) : Prop :=
  ∃ trs, PPs X pos ks vs trs ∧ ∀ F0 H0 F H σ ρ (Q : List (V × V) → Hp → Prop), SR X.K F0 H0 O F H σ ρ → APost X W F H σ (d ρ) (fun xs H' => Q ((zs.zip xs).map fun p => (V.str p.1, p.2)) H') → tPairs trs σ H Q
theorem kj_nil : KJ X W O pos [] [] [] aNil := ⟨[], pps_nil, fun F0 H0 F H σ ρ Q s po => po F H [] (.refl s.sub) .nil⟩
theorem kj_cons (hk : EJ X W O .sh k (eC (.str z))) (h : EJ X W O .sh a da) (h2 : KJ X W O pos ks vs zs das) : KJ X W O pos (some k :: ks) (a :: vs) (z :: zs) (aCons da das) := by
  obtain ⟨t, p, q⟩ := hk
  obtain ⟨u, p2, q2⟩ := h
  obtain ⟨trs, p3, q3⟩ := h2
  refine ⟨_, pps_cons p p2 p3, fun F0 H0 F H σ ρ Q s po => ?_⟩
  show t σ H fun x H1 => u σ H1 fun y H2 => tPairs trs σ H2 fun ps H3 => Q ((x, y) :: ps) H3
  refine q F0 H0 F H σ ρ _ s fun F1 H1 x e1 rm1 => ?_
  have ex : x = V.str z := by
    have rm1 : Rp X.K F1 x (.str z) := rm1
    cases rm1
    rfl
  subst ex
  refine q2 F0 H0 F1 H1 σ ρ _ (s.ext e1) (APost.bindE (m1 := .sh) (po.ext e1) fun v F' H' y _ e rm po' => ?_)
  refine q3 F0 H0 F' H' σ ρ _ ((s.ext e1).ext e) (APost.bindA po' fun w F2 H2 xs _ e2 rm2 po2 => ?_)
  exact po2 F2 H2 (y :: xs) (.refl e2.fh) (.cons (rm.mono e2.ff) rm2)
theorem merge_rp {K : Fg} {F : Hp} : ∀ (zs : List Str) (xs : List V) (ds : List D) (kvs : List (Key × V)) (ps : List (D × D)), (∀ z ∈ zs, PyData.strOk z = true ∧ z.length ≤ sizeLine) → RpA K F xs ds → RpD K F kvs ps →
    RpD K F (mergeK kvs ((zs.zip xs).map fun p => (Sum.inr p.1, p.2))) ((zs.zip ds).foldl (fun acc p => putP acc (.str p.1) p.2) ps)
  | [], _, _, _, _, _, _, h => h
  | z :: zs, _, _, kvs, ps, hz, .nil, h => h
  | z :: zs, _, _, kvs, ps, hz, .cons (x := x) (xs := xs) (d := d) (ds := ds) h1 h2, h =>
    merge_rp zs xs ds (putK kvs (.inr z) x) (putP ps (.str z) d) (fun y hy => hz y (by simp [hy])) h2 (h.put (k := .inr z) (.str z (hz z (by simp)).1 (hz z (by simp)).2) h1)
theorem ej_disp (h : KJ X W O pos ks vs zs das) (hz : ∀ z ∈ zs, PyData.strOk z = true ∧ z.length ≤ sizeLine) (hall : ks.all (·.isSome) = true) (hl : ks.length = vs.length) (h0 : ks ≠ []) (h15 : ks.length ≤ 15) : EJ X W O .fr (.Dict ks vs pos) (eDisp zs das) := by
  obtain ⟨trs, p, q⟩ := h
  refine ⟨_, pe_disp p hall hl h0 h15, fun F0 H0 F H σ ρ Q s po => ?_⟩
  intro a ha
  have e1 : Ext F H F (upd H a (.dK [])) := .new s.sub ha
  refine q F0 H0 F (upd H a (.dK [])) σ ρ _ (s.ext e1) ?_
  have po : EPost X W .fr F H σ ((das ρ).bind fun xs => if xs.length = zs.length ∧ zs.length ≤ 15 then .ok (.dict (dispP zs xs)) else .bad) Q := po
  cases er : das ρ with
  | bad => rw [er] at po; exact po.elim
  | exn c => rw [er] at po; exact fun F2 H2 cls dd e2 rm => po F2 H2 cls dd (e1.trans e2) rm
  | ok ds =>
    rw [er] at po
    have po : EPost X W .fr F H σ (if ds.length = zs.length ∧ zs.length ≤ 15 then .ok (.dict (dispP zs ds)) else .bad) Q := po
    by_cases hc : ds.length = zs.length ∧ zs.length ≤ 15
    · rw [if_pos hc] at po
      intro F' H2 xs e2 rm
      have h2 : H2 a = some (.dK []) := e2.hh _ _ upd_same
      have fa : F a = none := free_of s.sub ha
      have fa' : F' a = none := e2.nw a fa (by rw [upd_same]; simp)
      refine ⟨h2, (zs.zip xs).map fun p => (Sum.inr p.1, p.2), by rw [List.map_map]; rfl, by rw [List.length_map, List.length_zip]; omega, ?_⟩
      have hm := merge_rp zs xs ds [] [] hz rm .nil
      have ml := length_mergeK ((zs.zip xs).map fun p => ((Sum.inr p.1 : Key), p.2)) []
      refine po F' _ (.ref a) ⟨e2.ff, fun b o hb => ?_, fun b h3 h4 => ?_, fun b o hb => ?_⟩ (.inr ⟨a, _, rfl, upd_same, .dic ?_ hm, fa', ha⟩)
      · have hne : b ≠ a := fun g => by rw [g, ha] at hb; cases hb
        rw [upd_ne hne]
        exact e2.hh _ _ (by rw [upd_ne hne]; exact hb)
      · refine e2.nw b h3 ?_
        by_cases hne : b = a
        · rw [hne, upd_same]; simp
        · rw [upd_ne hne]; exact h4
      · have hne : b ≠ a := fun g => by rw [g, fa'] at hb; cases hb
        rw [upd_ne hne]
        exact e2.fh _ _ hb
      · have : sizeLine = 16777216 := by decide
        rw [List.length_map, List.length_zip, List.length_nil] at ml
        omega
    · rw [if_neg hc] at po; exact po.elim
end
end PL

end
section
namespace PL
open PySem PySem.Spec PyProof.Rows L2
theorem tuple_mul1 (l : Addr) (items : Array Value) (n : Nat) (dd : Option Addr) (sl : Array (Option Value)) (x : Int) (u : Tok) (hx : x = 1) (c0 : (decide (x < -(2 ^ 63)) || decide (x ≥ 2 ^ 63)) = false) (c1 : (items.isEmpty || x == 1) = true) :
    Meets (Builtin.«tuple.__mul__» ⟨[.ref l, .int x u], []⟩) (fun _ R s => s.heap.get? l = some { cls := .type "tuple", dict := dd, data := .seq items n, slots := sl } ∧ R (.ok (.ret (Value.ref l))) s) :=
  .of_wp fun prog w A R s h => by
    obtain ⟨hp, g, d, tk, os⟩ := s
    obtain ⟨hl, h⟩ := h
    have f1 := AutoSeq1.idx_int
    have ty : Shared.TypeIs ⟨hp, g, d, tk, os⟩ (.ref l) "tuple" := ⟨_, hl, rfl⟩
    wp_walk using wpAny_loadPart' hl
    exact ⟨_, rfl, h⟩
def rRepT1 (K : PySem.W.Frag) : R2 := fun x y H Q => ∃ l xs, x = .ref l ∧ y = .int 1 ∧ SqT K H l xs ∧ Q (.ref l) H
section
variable {X : Cx}
theorem op_repT1 : OpR X (binaryOp .Mult) (rRepT1 X.K) := by
  intro pins s σ H x y v u Q I rx ry h
  obtain ⟨l, xs, rfl, rfl, hT, q⟩ := h
  cases rx
  obtain ⟨t, rfl⟩ := ry
  obtain ⟨its, r, ⟨⟨cls, dd, data, sl⟩, ho, hc, n, hd⟩, hs⟩ := I.tuple hT
  simp only at hc hd
  subst hc hd
  refine wpAny_binaryOp_repeat_ref (T := "tuple") (U := "int") (by decide) ⟨_, ho, rfl⟩ (fun s' => typeIs_int s' 1 t) noFill_tuple_mul F.fills_int_mul F.slot_int_rmul repeat_tuple F.slot_int_index.lookup
    (call_meets F.slot_int_rmul (typeIs_int s 1 t) F.entry_int_rmul (F.args_int_rmul_2 _ _) (int_rmul_tuple 1 t l its.toArray n dd sl)
      ⟨ho, rfl, ⟨_, ho, rfl⟩, call_meets F.slot_tuple_mul ⟨_, ho, rfl⟩ F.entry_tuple_mul (F.args_tuple_mul_2 _ _) (tuple_mul1 l its.toArray n dd sl 1 t rfl (by decide) (by simp)) ⟨ho, ?_⟩⟩)
  exact ⟨.ref l, H, I, rfl, q⟩
end
def vRepT : D → D → Option D
  | .tuple ds, .int k => if ds ≠ [] ∧ 1 ≤ k ∧ k ≤ 1000 ∧ ds.length ≤ 1000 then some (.tuple (List.replicate k.toNat ds).flatten) else none
  | _, _ => none
section
variable {X : Cx} {W : WX} {O : List Nat} {a b : Expr} {da db : DE} {pos : Pos}
theorem ej_repT (ha : EJ X W O .bo a da) (hb : EJ X W O .bo b db) : EJ X W O .sh (.BinOp a .Mult b pos) (eBin vRepT da db) := by
  refine ej_bin ha hb (fun t u h1 h2 => pe_op (op_repT1.or op_repT) h1 h2) fun F Hs Hs' H x v y w Q s r1 r2 po => ?_
  unfold vRepT at po
  split at po
  · rename_i ds k
    cases bo_int r2
    split at po
    · rename_i hc
      obtain ⟨c1, c2, c3, c4⟩ := hc
      obtain ⟨l, xs, rfl, h1, h4, h2, h3⟩ := bo_tup s r1
      by_cases hk : k = 1
      · subst hk
        refine .inl ⟨l, xs, rfl, rfl, h1, ?_⟩
        have e : (List.replicate (1 : Int).toNat ds).flatten = ds := by
          show (List.replicate 1 ds).flatten = ds
          simp
        rw [e] at po
        exact po F H _ (.refl s) (.tup h4 h2 h3)
      · refine .inr ⟨l, k, xs, rfl, rfl, h1, ?_, by omega, c3, by rw [h3.length]; exact c4, fun p hp => ?_⟩
        · intro e
          subst e
          cases h3
          exact c1 rfl
        · have hlen : (List.replicate k.toNat xs).flatten.length ≤ sizeLine := by
            rw [List.length_flatten, List.map_replicate, List.sum_replicate_nat, h3.length]
            have : sizeLine = 16777216 := by decide
            have a1 : k.toNat * ds.length ≤ 1000 * 1000 := Nat.mul_le_mul (by omega) c4
            omega
          exact po (upd F p (.tup (List.replicate k.toNat xs).flatten)) _ _ (.newF s hp) (.tup (SqT.of upd_same) hlen ((rpA_rep h3 _).mono (same_upd' (free_of s hp))))
    · exact po.elim
  · exact po.elim
end
end PL

end
section
namespace PL
open PySem PySem.Spec PyProof.Rows L2 HT
def stepT {α : Type} (xs : List α) (lo hi : Option Int) (c : Int) : List α :=
  (List.range (Builtin.Slice.slicePlaces (Builtin.Slice.sliceAdjust lo hi c (xs.length : Int)).1 (Builtin.Slice.sliceAdjust lo hi c (xs.length : Int)).2 c)).filterMap fun (m : Nat) => xs[((Builtin.Slice.sliceAdjust lo hi c (xs.length : Int)).1 + (m : Int) * c).toNat]?
def stepL {α : Type} (xs : List α) (lo hi : Option Int) (c : Int) : List α :=
  (sliceRange (sliceBounds lo hi (some c) xs.length).1 (sliceBounds lo hi (some c) xs.length).2.1 (sliceBounds lo hi (some c) xs.length).2.2).filterMap (xs[·]?)
theorem pick_vals {xs : List V} {us : List Value} (r : Vals xs us) : ∀ is : List Nat, Vals (is.filterMap (xs[·]?)) (is.filterMap (us[·]?))
  | [] => .nil
  | i :: is => by
    cases e : xs[i]? with
    | none => rw [List.filterMap_cons_none e, List.filterMap_cons_none (r.none_of e)]; exact pick_vals r is
    | some x =>
      obtain ⟨u, h1, h2⟩ := r.get e
      rw [List.filterMap_cons_some e, List.filterMap_cons_some h1]
      exact .cons h2 (pick_vals r is)
theorem pick_rp {K : Fg} {F : Hp} {xs : List V} {ds : List D} (r : RpA K F xs ds) : ∀ is : List Nat, RpA K F (is.filterMap (xs[·]?)) (is.filterMap (ds[·]?))
  | [] => .nil
  | i :: is => by
    cases e : xs[i]? with
    | none =>
      have : ds[i]? = none := by
        rw [List.getElem?_eq_none_iff] at e ⊢
        rw [← r.length]; exact e
      rw [List.filterMap_cons_none e, List.filterMap_cons_none this]; exact pick_rp r is
    | some x =>
      obtain ⟨u, h1, h2⟩ := r.getV e
      rw [List.filterMap_cons_some e, List.filterMap_cons_some h1]
      exact .cons h2 (pick_rp r is)
theorem stepT_pick {α : Type} (xs : List α) (lo hi : Option Int) (c : Int) : stepT xs lo hi c = ((List.range (Builtin.Slice.slicePlaces (Builtin.Slice.sliceAdjust lo hi c (xs.length : Int)).1 (Builtin.Slice.sliceAdjust lo hi c (xs.length : Int)).2 c)).map fun (m : Nat) => ((Builtin.Slice.sliceAdjust lo hi c (xs.length : Int)).1 + (m : Int) * c).toNat).filterMap (xs[·]?) := by
  rw [List.filterMap_map]; rfl
theorem stepT_vals {xs : List V} {us : List Value} {lo hi : Option Int} {c : Int} (r : Vals xs us) : Vals (stepT xs lo hi c) (stepT us lo hi c) := by
  rw [stepT_pick, stepT_pick, r.length]
  exact pick_vals r _
theorem stepT_rp {K : Fg} {F : Hp} {xs : List V} {ds : List D} {lo hi : Option Int} {c : Int} (r : RpA K F xs ds) : RpA K F (stepT xs lo hi c) (stepT ds lo hi c) := by
  rw [stepT_pick, stepT_pick, r.length]
  exact pick_rp r _
theorem stepL_vals {xs : List V} {us : List Value} {lo hi : Option Int} {c : Int} (r : Vals xs us) : Vals (stepL xs lo hi c) (stepL us lo hi c) := by
  unfold stepL
  rw [r.length]
  exact pick_vals r _
theorem stepL_rp {K : Fg} {F : Hp} {xs : List V} {ds : List D} {lo hi : Option Int} {c : Int} (r : RpA K F xs ds) : RpA K F (stepL xs lo hi c) (stepL ds lo hi c) := by
  unfold stepL
  rw [r.length]
  exact pick_rp r _
section
variable {prog : Program} {w : World} {A : Around} {E : Value → Shared → Prop} {s : Shared}
theorem sliceApplied_step {sl : Addr} {vl vu vs : Value} {lo hi : Option Int} {c : Int} {n : Nat} {Q : Int × Int × Nat → Shared → Prop} (hs : s.heap.IsSliceOf sl vl vu vs) (pl : IsPart vl lo) (pu : IsPart vu hi) (ps : IsPart vs (some c)) (h0 : c ≠ 0)
    (h : Q ((Builtin.Slice.sliceAdjust lo hi c (n : Int)).1, c, Builtin.Slice.slicePlaces (Builtin.Slice.sliceAdjust lo hi c (n : Int)).1 (Builtin.Slice.sliceAdjust lo hi c (n : Int)).2 c) s) : wpAny (model prog w) A (Builtin.Slice.sliceApplied (.ref sl) (pure (n : Int))) Q E s := by
  obtain ⟨os, hos, hcs, hds⟩ := id hs
  unfold Builtin.Slice.sliceApplied Builtin.Slice.sliceFields
  refine wpAny_bind (wpAny_bind (wpAny_field hos hds (x := vl) rfl (wpAny_bind (wpAny_field hos hds (x := vu) rfl (wpAny_bind (wpAny_field hos hds (x := vs) rfl (wpAny_pure ?_)))))))
  refine wpAny_bind (slicePart_ ps ?_)
  show wpAny _ _ (if (c == 0) = true then _ else _) _ _ s
  rw [if_neg (by simpa using h0)]
  refine wpAny_bind (slicePart_ pl (wpAny_bind (slicePart_ pu (wpAny_bind (wpAny_pure ?_)))))
  exact wpAny_pure h
theorem getItem_tuple_step {t sl : Addr} {items : List Value} {vl vu vs : Value} {lo hi : Option Int} {c : Int} {Q : Value → Shared → Prop} (ht : IsTup s.heap t items.toArray) (hs : s.heap.IsSliceOf sl vl vu vs) (pl : IsPart vl lo) (pu : IsPart vu hi) (ps : IsPart vs (some c))
    (h0 : c ≠ 0) (h1 : c ≠ 1) (hz : (stepT items lo hi c).length ≤ sizeLine)
    (h : Q (.ref s.heap.objs.size) { s with heap := s.heap.push { cls := .type "tuple", data := .seq (stepT items lo hi c).toArray } }) : wpAny (model prog w) A (getItem (.ref t) (.ref sl)) Q E s := by
  have htake : sizeOk (.seq (stepT items lo hi c).toArray) := by
    show (stepT items lo hi c).toArray.size ≤ sizeLine
    rw [List.size_toArray]; exact hz
  obtain ⟨os, hos, hcs, hds⟩ := id hs
  have hTs : s.TypeIs (.ref sl) "slice" := ⟨os, hos, hcs⟩
  unfold getItem
  try with_reducible refine wpAny_holding ?_
  first | refine wpAny_bind (wpAny_pure ?_) | skip
  refine wpAny_bind (wpAny_sequenceKey ht.typeIs (by decide) ?_)
  refine wpAny_bind (wpAny_callSpecial?_slot (name := Str.ofString "__getitem__") ht.typeIs PyProof.Rows.slot_tuple_getitem
    (wpAny_call_entry PyProof.Rows.slot_tuple_getitem ht.typeIs entry_tuple_getitem ?_ (args_tuple_getitem _ _)))
  show wpAny _ _ (Builtin.Tuple.tupleItemsOf (.ref t) >>= _) _ _ s
  refine wpAny_bind (tupleItemsOf_ ht ?_)
  refine wpAny_bind (wpAny_typeOf hTs ?_)
  rw [if_pos (by decide)]
  refine wpAny_bind (sliceApplied_step hs pl pu ps h0 ?_)
  have hno : ∀ (a : Int) (b : Nat), ¬ ((a == 0 && c == 1 && b == items.toArray.size) = true) := by
    intro a b q
    rw [Bool.and_eq_true, Bool.and_eq_true] at q
    exact h1 (eq_of_beq q.1.2)
  show wpAny _ _ (if ((Builtin.Slice.sliceAdjust lo hi c (items.toArray.size : Int)).1 == 0 && c == 1 && (Builtin.Slice.slicePlaces (Builtin.Slice.sliceAdjust lo hi c (items.toArray.size : Int)).1 (Builtin.Slice.sliceAdjust lo hi c (items.toArray.size : Int)).2 c) == items.toArray.size) = true then _ else _) _ _ s
  rw [if_neg (hno _ _)]
  have e : ((List.range (Builtin.Slice.slicePlaces (Builtin.Slice.sliceAdjust lo hi c (items.toArray.size : Int)).1 (Builtin.Slice.sliceAdjust lo hi c (items.toArray.size : Int)).2 c)).filterMap fun (m : Nat) => items.toArray[((Builtin.Slice.sliceAdjust lo hi c (items.toArray.size : Int)).1 + (m : Int) * c).toNat]?).toArray = (stepT items lo hi c).toArray := by
    unfold stepT
    rw [List.size_toArray]
    congr 2
    funext m
    simp
  rw [e]
  first
    | exact wpAny_bind (m := Builtin.Tuple.tupleExact _) (wpAny_newObj_type (wpAny_pure ⟨_, rfl, wpAny_pure h⟩) htake)
    | exact wpAny_bind (m := Builtin.Tuple.tupleExact _) (wpAny_newObj_type (wpAny_bind (wpAny_pure (wpAny_pure ⟨_, rfl, wpAny_pure h⟩))) htake)
end
/-- a[lo:hi:c], by values -/
def rStep (K : PySem.W.Frag) : V → Option Int → Option Int → Option Int → Hp → VK → Prop := fun x lo hi st H Q => ∃ c, st = some c ∧ c ≠ 0 ∧
  ((∃ a xs, x = .ref a ∧ SqL K H a xs ∧ (stepL xs lo hi c).length ≤ sizeLine ∧ ∀ p, H p = none → Q (.ref p) (upd H p (.lst (stepL xs lo hi c)))) ∨
   (∃ a xs, x = .ref a ∧ SqT K H a xs ∧ c ≠ 1 ∧ (stepT xs lo hi c).length ≤ sizeLine ∧ ∀ p, H p = none → Q (.ref p) (upd H p (.tup (stepT xs lo hi c)))))
def tSlS (r : V → Option Int → Option Int → Option Int → Hp → VK → Prop) (te : TE) (tl th ts : TO) : TE := fun σ H Q => te σ H fun x H1 => tl σ H1 fun l H2 => th σ H2 fun u H3 => ts σ H3 fun c H4 => r x l u c H4 Q
theorem pe_sliceS {X : Cx} {e st : Expr} {lo hi : Option Expr} {te : TE} {tl th ts : TO} {p2 pos : Pos} (he : PE X e te) (hl : PO X lo tl) (hu : PO X hi th) (hs : PO X (some st) ts) : PE X (.Subscript e (.Slice lo hi (some st) p2) pos) (tSlS (rStep X.K) te tl th ts) := by
  refine ⟨fun pins s σ H Q I h => ?_⟩
  refine Subscript_ (thn (he.run pins s σ H _ I h) fun v s1 ⟨x, H1, I1, r1, q1⟩ => ?_)
  refine wpAny_Slice (thn (hl.run pins s1 σ H1 _ I1 q1) fun vl s2 ⟨l, H2, I2, pl, q2⟩ => thn (hu.run pins s2 σ H2 _ I2 q2) fun vu s3 ⟨u, H3, I3, pu, q3⟩ => thn (hs.run pins s3 σ H3 _ I3 q3) fun vs s4 ⟨o, H4, I4, ps, q4⟩ => ?_)
  have I5 : Inv X pins σ H4 { s4 with heap := s4.heap.push { cls := .type "slice", data := .fields #[vl, vu, vs] } } := I4.kept (t' := s4.toks) fun b ob q => Heap.get?_push_of_some _ q
  obtain ⟨c, rfl, h0, q⟩ := q4
  show wpAny (model X.prog X.w) X.A (subscriptTail e (.Slice lo hi (some st) p2) v (.ref s4.heap.objs.size)) (EP X pins σ Q) X.xe { s4 with heap := s4.heap.push { cls := .type "slice", data := .fields #[vl, vu, vs] } }
  rcases q with ⟨a, xs, rfl, hx, hz, q⟩ | ⟨a, xs, rfl, hx, h1, hz, q⟩
  · cases r1
    obtain ⟨its, r, ht, hz'⟩ := I5.list hx
    refine tail_any (ops := [.ref a, .ref s4.heap.objs.size]) ht.isList.typeIs (PySem.slot_list_getitem.lookup) ?_ (by with_unfolding_all rfl)
    refine wpAny_getItem_list_slice ht.isList (Heap.IsSliceOf.new _ vl vu vs) pl pu ps (by simpa using h0) ?_ (by rw [List.size_toArray, ← r.length]; omega)
    have e : slicePick its.toArray l u (some c) = (stepL its l u c).toArray := by
      unfold slicePick stepL
      simp
    rw [e]
    exact ⟨.ref _, _, I5.laid (t' := s4.toks) (o := .lst (stepL xs l u c)) (fun b ob q => Heap.get?_push_of_some _ q) (Nat.le_refl _) ⟨hz, _, 0, stepL_vals r, Heap.get?_push_size _ rfl⟩, rfl, q _ (I5.hok.fresh (Nat.le_refl _))⟩
  · cases r1
    obtain ⟨its, r, ht, hz'⟩ := I5.tuple hx
    refine tail_any (ops := [.ref a, .ref s4.heap.objs.size]) ht.typeIs (PyProof.Rows.slot_tuple_getitem.lookup) ?_ (by with_unfolding_all rfl)
    refine getItem_tuple_step ht (Heap.IsSliceOf.new _ vl vu vs) pl pu ps h0 h1 (by rw [← (stepT_vals r).length]; exact hz) ?_
    exact ⟨.ref _, _, I5.laid (t' := s4.toks) (o := .tup (stepT xs l u c)) (fun b ob q => Heap.get?_push_of_some _ q) (Nat.le_refl _) ⟨hz, _, stepT_vals r, IsTup.new _ _⟩, rfl, q _ (I5.hok.fresh (Nat.le_refl _))⟩
def vStep : D → Option Int → Option Int → Option Int → Option D
  | .list ds, lo, hi, some c => if c ≠ 0 ∧ (stepL ds lo hi c).length ≤ sizeLine then some (.list (stepL ds lo hi c)) else none
  | .tuple ds, lo, hi, some c => if c ≠ 0 ∧ c ≠ 1 ∧ (stepT ds lo hi c).length ≤ sizeLine then some (.tuple (stepT ds lo hi c)) else none
  | _, _, _, _ => none
def eStep (da : DE) (dl dh ds : DO) : DE := fun ρ => (da ρ).bind fun x => (dl ρ).bind fun l => (dh ρ).bind fun h => (ds ρ).bind fun c => Res.up (vStep x l h c)
section
variable {X : Cx} {W : WX} {O OL : List Nat} {k : Nat} {a b : Expr} {da db : DE} {pos p : Pos}
theorem PJ.run {F0 H0 F H : Hp} {σ : L2.St} {ρ : Lo} {Q : VK} {m : Mode} {R : Option Int → Hp → Prop} {d : DO} {t : TO} {f : Option Int → Res D}
    (q : ∀ F0 H0 F H σ ρ (Q : Option Int → Hp → Prop), SR X.K F0 H0 O F H σ ρ → (match d ρ with
    | .ok o => ∀ F' H', Ext F H F' H' → Q o H'
    | .exn e => ∀ F' H' cls dd, Ext F H F' H' → ExRp X.K X.mg F' H' cls dd e → W cls dd σ H'
    | .bad => False) → t σ H Q) (s : SR X.K F0 H0 O F H σ ρ) (po : EPost X W m F H σ ((d ρ).bind f) Q) (k : ∀ o F' H', Ext F H F' H' → EPost X W m F' H' σ (f o) Q → R o H') : t σ H R := by
  refine q F0 H0 F H σ ρ R s ?_
  cases hd : d ρ with
  | ok o => rw [hd] at po; exact fun F' H' e => k o F' H' e (EPost.ext e po)
  | exn c => rw [hd] at po; exact po
  | bad => rw [hd] at po; exact po
theorem ej_step {lo hi : Option Expr} {st : Expr} {dl dh ds : DO} {p2 : Pos} (ha : EJ X W O .bo a da) (hl : PJ X W O lo dl) (hh : PJ X W O hi dh) (hs : PJ X W O (some st) ds) : EJ X W O .fr (.Subscript a (.Slice lo hi (some st) p2) pos) (eStep da dl dh ds) := by
  obtain ⟨t, p, q⟩ := ha
  obtain ⟨tl, pl, ql⟩ := hl
  obtain ⟨th, ph, qh⟩ := hh
  obtain ⟨ts, ps, qs⟩ := hs
  refine ⟨_, pe_sliceS p pl ph ps, fun F0 H0 F H σ ρ Q s po => q F0 H0 F H σ ρ _ s (EPost.bindE (m1 := .bo) s.sub po fun v F' H' x _ e rm po' => ?_)⟩
  refine PJ.run ql (s.ext e) po' fun l F2 H2 e2 po2 => ?_
  refine PJ.run qh ((s.ext e).ext e2) po2 fun h F3 H3 e3 po3 => ?_
  refine PJ.run qs (((s.ext e).ext e2).ext e3) po3 fun c F4 H4 e4 po4 => ?_
  have rm4 := ((rm.ext e2).ext e3).ext e4
  have s4 := e4.fh
  unfold vStep at po4
  split at po4
  · split at po4
    · rename_i hc
      obtain ⟨la, xs, rfl, h1, h2, h3⟩ := bo_list s4 rm4
      exact ⟨_, rfl, hc.1, .inl ⟨_, _, rfl, h1, by rw [(stepL_rp h3).length]; exact hc.2, fun p hp => po4 F4 _ _ (.new s4 hp) (.inr ⟨p, _, rfl, upd_same, .lst (by rw [(stepL_rp h3).length]; exact hc.2) (stepL_rp h3), free_of s4 hp, hp⟩)⟩⟩
    · exact False.elim po4
  · split at po4
    · rename_i hc
      obtain ⟨la, xs, rfl, h1, g1, h2, h3⟩ := bo_tup s4 rm4
      exact ⟨_, rfl, hc.1, .inr ⟨_, _, rfl, h1, hc.2.1, by rw [(stepT_rp h3).length]; exact hc.2.2, fun p hp => po4 (upd F4 p (.tup _)) _ _ (.newF s4 hp) (RM.of_sh (.tup (SqT.of upd_same) (by rw [(stepT_rp h3).length]; exact hc.2.2) ((stepT_rp h3).mono (same_upd' (free_of s4 hp)))) rfl)⟩⟩
    · exact False.elim po4
  · exact False.elim po4
end
end PL

end
section
namespace PL
open PySem PySem.Spec PyProof.Rows L2
def sTryN (tbl : Str → Option Bool) (body : DS) (e : DE) : DS := fun ρ => match body ρ with
  | .ex c ρ' => (match unX c with
    | some (n, []) => (match tbl n with
      | some true => onlyRt ρ' (e ρ')
      | some false => .ex c ρ'
      | none => .bad)
    | _ => .bad)
  | r => r
section
variable {X : Cx} {W : WX} {O O' OL : List Nat} {k : Nat}
theorem sj_tryN {x : Str} {C : Addr} {body : List Stmt} {re : Expr} {np rp pos' pos : Pos} {tbl : Str → Option Bool} {db : DS} {de : DE} (hh : Here X W k) (hs : X.stack = X.env :: X.outer) (hf : X.env.frame = some X.env.locals)
    (hg : Gl X x) (hdb : (x == ("__debug__" : Str)) = false) (hC : X.mg x = some (.ref C)) (ht : ∀ c b, tbl c = some b → ∃ D, X.mg c = some (.ref D) ∧ PySem.W.exmOne X.K (.ref D) (.ref C) = some b)
    (hb : ∀ (W' : WX) (pn : List (Addr × Obj)) (xe : Value → Shared → Prop), Here (X.tr pn xe) W' k → BJ (X.tr pn xe) W' .sh O [] OL body db)
    (hsu : ∀ (a : Addr) (oe : Obj) (pn : List (Addr × Obj)), EJ (X.suite a ((a, oe) :: pn)) WF [] .sh re de) :
    SJ X W .sh O [] OL (.Try body [.ExceptHandler (some (.Name x np)) none [.Return (some re) rp] pos'] [] [] pos) (sTryN tbl db de) := by
  have here' : ∀ (W' : WX) (pn : List (Addr × Obj)) (xe : Value → Shared → Prop), Takes (X.tr pn xe) W' → PassesOwn (model X.prog X.w) X.A X.env xe → Here (X.tr pn xe) W' k := fun W' pn xe tk po => ⟨hh.hr, hh.calm, tk, hh.nd, po⟩
  let tb : WX → TS := fun W' Dn σ H => ∀ pn xe (tk : Takes (X.tr pn xe) W') (po : PassesOwn (model X.prog X.w) X.A X.env xe), Classical.choose (hb W' pn xe (here' W' pn xe tk po)) Dn σ H
  let ts : Addr → Value → Option Addr → TS := fun a cls d Dn σ H => d = none ∧ ∀ oe pn, ∃ n, LkP n (fun H' => Classical.choose (hsu a oe pn) σ H' Dn.rt) H
  refine ⟨_, ps_try_only (tb := tb) (ts := ts) hs hf ⟨hg, hdb, .inl hC⟩ hh.tk ?_ ?_, ?_⟩
  · intro W' pn xe tk po
    exact ⟨fun pins s σ H Dn I h => (Classical.choose_spec (hb W' pn xe (here' W' pn xe tk po))).1.run pins s σ H Dn I (h pn xe tk po)⟩
  · intro a oe cls d pn hz hfs
    refine ⟨fun pins s σ H Dn I h => ?_⟩
    obtain ⟨rfl, h3⟩ := h
    have p := (Classical.choose_spec (hsu a oe pn)).1
    obtain ⟨n, g⟩ := h3 oe pn
    obtain ⟨H2, I2, g2⟩ := LkP.inv g I
    exact (pss_cons (ps_ret p) pss_nil).run pins s σ H2 Dn I2 g2
  · intro F0 H0 F H σ ρ Dn s po pn xe tk po2
    refine (Classical.choose_spec (hb _ pn xe (here' _ pn xe tk po2))).2 F0 H0 F H σ ρ Dn s ?_
    unfold sTryN at po
    cases hr : db ρ with
    | nx ρ' => rw [hr] at po; exact po
    | rt v => rw [hr] at po; exact po
    | bk ρ' => rw [hr] at po; exact po
    | ct ρ' => rw [hr] at po; exact po
    | bad => rw [hr] at po; exact po
    | ex c ρ' =>
      rw [hr] at po
      intro O2 F' H' σ' cls dd s' ex
      obtain ⟨nm, args, rfl, hm, hargs⟩ := ex
      simp only [unX, excD] at po
      rcases hargs with ⟨rfl, rfl⟩ | ⟨f, v, d, xv, rfl, _⟩
      · simp only [List.map_nil] at po
        cases hn : tbl nm with
        | none => rw [hn] at po; exact po.elim
        | some b =>
          rw [hn] at po
          obtain ⟨D, hD, hx⟩ := ht nm b hn
          rw [hm] at hD
          cases hD
          refine ⟨b, hx, fun hb1 a na => ?_, fun hb0 => ?_⟩
          · subst hb1
            refine ⟨rfl, fun oe pn => ?_⟩
            refine ⟨_, LkP.mono (fun H2 ⟨F2, e2, s2⟩ => ?_) s'.all⟩
            refine (Classical.choose_spec (hsu a oe pn)).2 F0 H0 F2 H2 σ' ρ' Dn.rt s2 ?_
            simp only [onlyRt] at po
            cases hv : de ρ' with
            | ok v =>
              rw [hv] at po
              exact fun F3 H3 y e rm => po F3 H3 y (s2.e0.trans e) rm
            | exn c => rw [hv] at po; exact po.elim
            | bad => rw [hv] at po; exact po.elim
          · subst hb0
            exact po O2 F' H' σ' _ none s' ⟨nm, [], rfl, hm, .inl ⟨rfl, rfl⟩⟩
      · simp only [List.map_cons, List.map_nil] at po
        exact po.elim
end
end PL

end
section
namespace PL
open PySem PySem.Spec PyProof.Rows L2
def repS (z : Str) (n : Nat) : Str := ⟨(List.replicate n z.cps).foldl (· ++ ·) #[]⟩
theorem repS_list (z : Str) (n : Nat) : (repS z n).cps.toList = (List.replicate n z.cps.toList).flatten := by
  have : ∀ (L : List (Array Nat)) (a : Array Nat), (L.foldl (· ++ ·) a).toList = a.toList ++ (L.map (·.toList)).flatten := by
    intro L
    induction L with
    | nil => intro a; simp
    | cons x L ih => intro a; rw [List.foldl_cons, ih]; simp
  unfold repS
  rw [this, List.map_replicate]
  simp
theorem repS_len (z : Str) (n : Nat) : (repS z n).length = n * z.length := by
  have h := congrArg List.length (repS_list z n)
  rw [List.length_flatten, List.map_replicate, List.sum_replicate_nat] at h
  simpa [Str.length] using h
theorem repS_one (z : Str) : repS z 1 = z := by
  refine str_ext ?_
  rw [repS_list]
  simp
def rMulS : R2 := fun x y H Q => ∃ z k, x = .str z ∧ y = .int k ∧ 1 ≤ k ∧ k ≤ 1000 ∧ 1 ≤ z.length ∧ z.length ≤ 1000 ∧ Q (.str (repS z k.toNat)) H
theorem op_mulS {X : Cx} : OpR X (binaryOp .Mult) rMulS := by
  intro pins s σ H x y v u Q I rx ry h
  obtain ⟨z, k, rfl, rfl, h1, h2, h3, h4, q⟩ := h
  obtain ⟨t, rfl⟩ := rx
  obtain ⟨t', rfl⟩ := ry
  have hlt : ¬ k < 1 := by omega
  have hsz : z.length * k.toNat ≤ 1000 * 1000 := Nat.mul_le_mul h4 (by omega)
  have hdiv : (1000 : Int) ≤ (2 ^ 63 - 1) / k := Int.le_ediv_of_mul_le (by omega) (by omega)
  refine PySem.P.mul_str ?_ (fun _ _ => by omega) (fun _ _ => ?_) ?_
  · rw [decide_eq_false (by omega), decide_eq_false (by omega)]; rfl
  · show decide (z.length * k.toNat > sizeLine) = false
    refine decide_eq_false ?_
    rw [show sizeLine = 16777216 by decide]
    omega
  · rw [if_neg hlt]
    by_cases hk : k = 1
    · subst hk
      rw [if_pos (by simp)]
      have : repS z (1 : Int).toNat = z := repS_one z
      rw [this] at q
      exact ⟨.str z, H, I, ⟨_, rfl⟩, q⟩
    · rw [if_neg (by simp [hk]; omega)]
      refine ⟨?_, .str _, H, I.tok _, ⟨_, rfl⟩, q⟩
      have := repS_len z k.toNat
      show (repS z k.toNat).length ≤ _
      rw [this]
      have : k.toNat * z.length ≤ 1000 * 1000 := Nat.mul_le_mul (by omega) h4
      rw [show sizeLine = 16777216 by decide]
      omega
def vMulS : D → D → Option D
  | .str z, .int k => if 1 ≤ k ∧ k ≤ 1000 ∧ 1 ≤ z.length ∧ z.length ≤ 1000 then some (.str (repS z k.toNat)) else none
  | _, _ => none
theorem strOk_rep {z : Str} (h : PyData.strOk z = true) (n : Nat) : PyData.strOk (repS z n) = true := by
  unfold PyData.strOk
  rw [Array.all_eq_true']
  intro c hc
  have hc : c ∈ (repS z n).cps.toList := by simpa using hc
  rw [repS_list] at hc
  obtain ⟨l, hl, hc⟩ := List.mem_flatten.1 hc
  rw [List.eq_of_mem_replicate hl] at hc
  simpa using strOk_mem h hc
section
variable {X : Cx} {W : WX} {O : List Nat} {a b : Expr} {da db : DE} {pos : Pos}
theorem ej_mulS (ha : EJ X W O .bo a da) (hb : EJ X W O .bo b db) : EJ X W O .sh (.BinOp a .Mult b pos) (eBin vMulS da db) := by
  refine ej_bin ha hb (fun t u h1 h2 => pe_op op_mulS h1 h2) fun F Hs Hs' H x v y w Q s r1 r2 po => ?_
  unfold vMulS at po
  split at po
  · rename_i z k
    cases bo_int r2
    obtain ⟨rfl, o, l⟩ := bo_str r1
    split at po
    · rename_i hc
      obtain ⟨c1, c2, c3, c4⟩ := hc
      refine ⟨z, k, rfl, rfl, c1, c2, c3, c4, po F H _ (.refl s) (.str _ (strOk_rep o _) ?_)⟩
      rw [repS_len]
      have : k.toNat * z.length ≤ 1000 * 1000 := Nat.mul_le_mul (by omega) c4
      rw [show sizeLine = 16777216 by decide]
      omega
    · exact po.elim
  · exact po.elim
end
end PL

end
section
namespace PL
open PySem PySem.Spec PyProof.Rows L2
def sortS (ss : List Str) : List Str := ss.mergeSort leT
theorem sortS_perm (ss : List Str) : (sortS ss).Perm ss := List.mergeSort_perm _ _
theorem sortS_le (ss : List Str) : (sortS ss).Pairwise (fun a b => leT a b = true) := List.pairwise_mergeSort leT_tr leT_tot ss
theorem leT_asym {a b : Str} (h : leT a b = true) (h2 : leT b a = true) : a = b := by
  by_cases e : a = b
  · exact e
  · exact (ltT_asym (ltT_of h e) (ltT_of h2 fun g => e g.symm)).elim
theorem sortS_unique {a ss : List Str} (hp : a.Perm ss) (hs : a.Pairwise (fun a b => leT a b = true)) : a = sortS ss :=
  (hp.trans (sortS_perm ss).symm).eq_of_pairwise (fun _ _ _ _ h1 h2 => leT_asym h1 h2) hs (sortS_le ss)
theorem strs_txOf : ∀ {vs : List Value} {ss : List Str}, StrsAre vs ss → vs.map txOf = ss
  | _, _, .nil => rfl
  | _, _, .cons k t r => by rw [List.map_cons, strs_txOf r]; rfl
section
variable {X : Cx}
/-- sorted of a list of texts, any number -/
def rSortL (K : Fg) : List V → Hp → VK → Prop := fun vs H Q => ∃ (a : Addr) (ss : List Str), vs = [V.ref a] ∧ SqL K H a (ss.map V.str) ∧ ss.length ≤ sizeLine ∧ ∀ p : Addr, H p = none → Q (.ref p) (upd H p (.lst ((sortS ss).map V.str)))
theorem cr_sortL (hu : X.A.units + 64 < cLine) : CallR X (.builtin "sorted") (rSortL X.K) := by
  intro pins s σ H vs us Q I r h
  obtain ⟨a, ss, rfl, hs, hb, q⟩ := h
  rw [Vals.ref1 r]
  obtain ⟨its, rv, hl, _⟩ := I.list hs
  have st : StrsAre its ss := by simpa using rv.strs
  have hT : ∀ v ∈ its, ∃ k t, v = Value.str k t := fun v hv => by
    obtain ⟨i, hi, e⟩ := List.mem_iff_getElem.1 hv
    obtain ⟨k, t, _, e2⟩ := strs_at st i v (by rw [List.getElem?_eq_getElem hi, e])
    exact ⟨k, t, e2⟩
  have et : its.map txOf = ss := strs_txOf st
  have hlI := hl.isList
  refine W.sorted_data (enc := PyData.str) (R := IsTx) (by simpa using hlI) (isTx_each hT) ((isTx_each hT).mono fun v k ⟨t, e⟩ => ⟨[], by rw [e]; exact .str _ _⟩) (W.AllAlike.of fun _ _ => by simp [W.alike]) (W.Sortable.others fun b => ⟨by simp, by simp⟩) (by rw [et]; exact hb) (fun b _ => by rw [show (PyData.str b).depth = 0 by simp [PyData.depth]]; omega) fun out _ eo => ?_
  rw [et, show W.dataLe false PyData.str = leT from W.dataLe_str id] at eo
  have eo : W.EachIs IsTx out (sortS ss) := eo
  have hlen : ((sortS ss).map V.str).length ≤ sizeLine := by rw [List.length_map, (sortS_perm ss).length_eq]; exact hb
  obtain ⟨c, hc⟩ := sortedAll_at s.heap its out.toArray
  have k : ∀ b o, s.heap.get? b = some o → (sortedAll s.heap its out.toArray).get? b = some o := fun b o e => sortedAll_old e
  have hp : s.heap.objs.size ≤ s.heap.objs.size + 1 := Nat.le_succ _
  have hn : H (s.heap.objs.size + 1) = none := I.hok.fresh hp
  have J : Inv X pins σ (upd H (s.heap.objs.size + 1) (.lst ((sortS ss).map V.str))) { s with heap := sortedAll s.heap its out.toArray } :=
    I.call (ch := []) (Un.laid k hp hn) (I.hok.laid k hp ⟨hlen, out, c, vals_of_strs (isTx_strs eo), hc⟩) I.bare (fun _ z => nomatch z)
  exact ⟨.ref (s.heap.objs.size + 1), _, J, rfl, q _ hn⟩
end
def keysS (ps : List (D × D)) : Option (List Str) := allStr (ps.map Prod.fst)
def vSorted : D → Option D
  | .list ds => match allInt ds with
    | some ns => some (.list ((sortI ns).map .int))
    | none => (allStr ds).bind fun ss => some (.list ((sortS ss).map .str))
  | .dict ps => (keysS ps).bind fun ss => if ss.length < 64 then some (.list ((sortS ss).map .str)) else none
  | _ => none
section
variable {X : Cx} {W : WX} {O : List Nat} {k : Nat} {m : Mode} {F H Hs : Hp} {a b c o e : Expr} {da db dd : DE} {pos p : Pos}
theorem new_list {Q : VK} {p : Addr} {xs : List V} {ds : List D} (s : Same F H) (hp : H p = none) (hl : xs.length ≤ sizeLine) (hr : RpA X.K F xs ds) (po : ∀ F' H' x, Ext F H F' H' → RM .fr X.K F' H H' x (.list ds) → Q x H') : Q (.ref p) (upd H p (.lst xs)) :=
  po F _ _ (.new s hp) (.inr ⟨p, _, rfl, upd_same, .lst hl hr, free_of s hp, hp⟩)
theorem risingS_pw : ∀ {l : List Str} {x : Str}, risingS x l = true → (∀ y ∈ l, leT x y = true) ∧ l.Pairwise (fun a b => leT a b = true)
  | [], x, h => ⟨fun y hy => (by cases hy), .nil⟩
  | z :: r, x, h => by
    rw [risingS] at h
    simp only [Bool.and_eq_true, Bool.not_eq_true'] at h
    obtain ⟨h1, h2⟩ := h
    obtain ⟨h3, h4⟩ := risingS_pw h2
    have h5 : leT x z = true := by
      unfold leT
      rw [ltCps_eq] at h1
      simp only [decide_eq_false_iff_not, decide_eq_true_eq] at h1 ⊢
      exact h1
    refine ⟨fun y hy => ?_, .cons h3 h4⟩
    rcases List.mem_cons.1 hy with rfl | hy
    · exact h5
    · exact leT_tr _ _ _ h5 (h3 y hy)
theorem sortedS_pw : ∀ {l : List Str}, sortedS l = true → l.Pairwise (fun a b => leT a b = true)
  | [], _ => .nil
  | _ :: _, h => .cons (risingS_pw h).1 (risingS_pw h).2
theorem keysS_rp {K : Fg} {F : Hp} : ∀ {kvs : List (Key × V)} {ps : List (D × D)} {ss : List Str}, RpD K F kvs ps → keysS ps = some ss → kvs.map (·.1) = ss.map Sum.inr ∧ ∀ z ∈ ss, PyData.strOk z = true ∧ z.length ≤ sizeLine
  | _, _, ss, .nil, h => by
    have h : some [] = some ss := h
    cases h
    exact ⟨rfl, fun z hz => (by cases hz)⟩
  | _, _, ss, .cons (k := k) (kvs := kvs) (dk := dk) (ps := ps) h1 h2 h3, h => by
    have h : allStr (dk :: ps.map Prod.fst) = some ss := h
    cases dk with
    | str z =>
      unfold allStr at h
      cases e : allStr (ps.map Prod.fst) with
      | none => rw [e] at h; cases h
      | some bs =>
        rw [e] at h
        cases h
        obtain ⟨g1, g2⟩ := keysS_rp h3 e
        have hk := key_rp h1
        cases hk
        have h1 : Rp K F (.str z) (.str z) := h1
        refine ⟨by rw [List.map_cons, List.map_cons, g1], fun y hy => ?_⟩
        rcases List.mem_cons.1 hy with rfl | hy
        · cases h1 with
          | str _ a b => exact ⟨a, b⟩
        · exact g2 y hy
    | _ => cases h
theorem ej_sorted (hh : Here X W k) (hg : Gl X "sorted") (hm : X.mg "sorted" = none) (ns : NoSt a) (ha : EJ X W O .bo a da) : EJ X W O .fr (.Call (.Name "sorted" p) [a] [] pos) (eUn vSorted da) := by
  refine ej_b1 ((cr_sortedI.or (cr_sortL hh.u64)).or (call_sortedD hh.calm)) hg hm (by decide +kernel) (by decide) (by decide) ns ha fun F Hs H x v Q s r1 po => ?_
  unfold vSorted at po
  split at po
  · rename_i ds
    refine .inl ?_
    split at po
    · rename_i bs e
      rw [allInt_some e] at r1
      obtain ⟨l, xs, rfl, h1, h2, h3⟩ := bo_list s r1
      have ex := rpa_ints h3
      subst ex
      refine .inl ⟨l, bs, rfl, h1, fun ns' p hp hs hn => ?_⟩
      rw [sortI_eq hp hs]
      exact new_list s hn (by rw [List.length_map, (sortI_perm bs).length_eq, ← List.length_map (f := V.int)]; exact h2) (rpA_ints _) po
    · cases e : allStr ds with
      | none => rw [e] at po; exact po.elim
      | some bs =>
        rw [e] at po
        rw [allStr_some e] at r1
        obtain ⟨l, xs, rfl, h1, h2, h3⟩ := bo_list s r1
        obtain ⟨ex, hz⟩ := rpa_strs h3
        subst ex
        rw [List.length_map] at h2
        exact .inr ⟨l, bs, rfl, h1, h2, fun p hp => new_list s hp (by rw [List.length_map, (sortS_perm bs).length_eq]; exact h2) (strs_rpa _ fun z hz' => hz z ((sortS_perm bs).mem_iff.1 hz')) po⟩
  · rename_i ps
    cases e : keysS ps with
    | none => rw [e] at po; exact po.elim
    | some bs =>
      rw [e] at po
      have po : VPost X.K .fr F H (if bs.length < 64 then some (.list ((sortS bs).map .str)) else none) Q := po
      by_cases hc : bs.length < 64
      · rw [if_pos hc] at po
        obtain ⟨l, kvs, rfl, h1, h2, h3⟩ := bo_dict s r1
        obtain ⟨g1, hz⟩ := keysS_rp h3 e
        refine .inr ⟨l, kvs, bs, rfl, h1, g1, hc, fun ys p hp hs hn => ?_⟩
        have hsl : (64 : Nat) ≤ sizeLine := by decide
        rw [sortS_unique hp (sortedS_pw hs)]
        exact new_list s hn (by rw [List.length_map, (sortS_perm bs).length_eq]; omega) (strs_rpa _ fun z hz' => hz z ((sortS_perm bs).mem_iff.1 hz')) po
      · rw [if_neg hc] at po; exact po.elim
  · exact po.elim
def isDictD : D → Bool
  | .dict _ => true
  | _ => false
def eMeD (f : D → D → Option D) (da db : DE) : DE := fun ρ => (da ρ).bind fun v => if isDictD v = true then (db ρ).bind fun w => Res.up (f v w) else .bad
def vGet1D (d y : D) : Option D := match d with
  | .dict ps => if (keyOf y).isSome then some ((findP ps y).getD .none) else none
  | _ => none
theorem ej_get1 (hh : Here X W k) (hM : M1 X a "get" p b pos) (ha : EJ X W O .bo a da) (hb : EJ X W O .bo b db) : EJ X W O .sh (.Call (.Attribute a "get" p) [b] [] pos) (eMeD vGet1D da db) := by
  obtain ⟨t, p, q⟩ := ha
  obtain ⟨u, p2, q2⟩ := hb
  refine ⟨_, pe_dget1 hh.u1 p p2 hM, fun F0 H0 F H σ ρ Q s po => q F0 H0 F H σ ρ _ s (EPost.bindE (m1 := .bo) s.sub po fun v F' H' x _ e rm po' => ?_)⟩
  by_cases hl : isDictD v = true
  · rw [if_pos hl] at po'
    cases v with
    | dict ps =>
      obtain ⟨l, kvs, rfl, h1, _⟩ := bo_dict e.fh rm
      refine ⟨l, rfl, .inl ⟨_, h1⟩, q2 F0 H0 F' H' σ ρ _ (s.ext e) (EPost.bindE (m1 := .bo) e.fh po' fun w F2 H2 y _ e2 rm2 po2 => ?_)⟩
      have rm' := rm.ext e2
      have po2 := po2.up
      unfold vGet1D at po2
      simp only at po2
      cases hk : keyOf w with
      | none => rw [hk] at po2; exact po2.elim
      | some kk =>
        rw [hk] at po2
        have po2 : VPost X.K .sh F2 H2 (some ((findP ps w).getD .none)) Q := po2
        obtain ⟨p, kvs2, ep, g1, g2, g3⟩ := bo_dict e2.fh rm'
        cases ep
        obtain ⟨rfl, ry⟩ := bo_key rm2 hk e2.fh
        refine ⟨_, dget_rd g1, ?_⟩
        obtain ⟨f1, f2⟩ := find_rp ry g3
        cases ef : findP ps w with
        | none =>
          rw [f2 ef]
          rw [ef] at po2
          exact po2 F2 H2 _ (.refl e2.fh) .non
        | some v =>
          obtain ⟨xv, f3, f4⟩ := f1 v ef
          rw [f3]
          rw [ef] at po2
          exact po2 F2 H2 _ (.refl e2.fh) f4
    | _ => cases hl
  · rw [if_neg hl] at po'; exact po'.elim
def vCountI : D → D → Option D
  | .list ds, .int i => (allInt ds).bind fun ns => some (.int (ns.count i : Nat))
  | _, _ => none
theorem ej_countI (ho : EJ X W O .bo o da) (ha : EJ X W O .bo e db) (h : ∀ t u, PE X o t → PE X e u → PE X c (tBM X.K "list" (rCntI X.K) t (tCons u tNil))) : EJ X W O .sh c (eMeL vCountI da db) := by
  obtain ⟨t, p, q⟩ := ho
  obtain ⟨u, p2, q2⟩ := ha
  refine ⟨_, h t u p p2, fun F0 H0 F H σ ρ Q s po => q F0 H0 F H σ ρ _ s (EPost.bindE (m1 := .bo) s.sub po fun v F' H' x _ e rm po' => ?_)⟩
  by_cases hl : isListD v = true
  · rw [if_pos hl] at po'
    cases v with
    | list ds =>
      have ty : tyV X.K "list" x H' := by
        obtain ⟨l, xs, rfl, h1, _⟩ := bo_list e.fh rm
        exact .inl ⟨rfl, xs, h1⟩
      refine ⟨ty, q2 F0 H0 F' H' σ ρ _ (s.ext e) (EPost.bindE (m1 := .bo) e.fh po' fun w F2 H2 y _ e2 rm2 po2 => ?_)⟩
      have rm' := rm.ext e2
      have po2 := po2.up
      cases w with
      | int i =>
        unfold vCountI at po2
        simp only at po2
        cases ei : allInt ds with
        | none => rw [ei] at po2; exact po2.elim
        | some ns =>
          rw [ei] at po2
          rw [allInt_some ei] at rm'
          obtain ⟨l, xs, rfl, h1, h2, h3⟩ := bo_list e2.fh rm'
          have ex := rpa_ints h3
          subst ex
          have ey : y = .int i := (bo_key rm2 (kk := .inl i) rfl e2.fh).1
          subst ey
          exact ⟨l, ns, i, rfl, rfl, h1, po2 F2 H2 _ (.refl e2.fh) (.int _)⟩
      | _ => exact po2.elim
    | _ => cases hl
  · rw [if_neg hl] at po'; exact po'.elim
def vDisp1 (y v : D) : Option D := if (keyOf y).isSome then some (.dict [(y, v)]) else none
theorem ej_disp1 (ha : EJ X W O .sh a da) (hb : EJ X W O .sh b db) : EJ X W O .fr (.Dict [some a] [b] pos) (eBin vDisp1 da db) := by
  obtain ⟨t, p, q⟩ := ha
  obtain ⟨u, p2, q2⟩ := hb
  refine ⟨_, pe_disp (pps_cons p p2 pps_nil) (by rfl) (by rfl) (by simp) (by simp), fun F0 H0 F H σ ρ Q s po => ?_⟩
  intro l hl
  have e1 : Ext F H F (upd H l (.dK [])) := .new s.sub hl
  refine q F0 H0 F (upd H l (.dK [])) σ ρ _ (s.ext e1) ?_
  have po : EPost X W .fr F H σ ((da ρ).bind fun v => (db ρ).bind fun w => Res.up (vDisp1 v w)) Q := po
  cases er : da ρ with
  | bad => rw [er] at po; exact po.elim
  | exn c => rw [er] at po; exact fun F2 H2 cls dd e2 rm => po F2 H2 cls dd (e1.trans e2) rm
  | ok v =>
    intro F' H' x e rm
    refine q2 F0 H0 F' H' σ ρ _ ((s.ext e1).ext e) ?_
    rw [er] at po
    have po : EPost X W .fr F H σ ((db ρ).bind fun w => Res.up (vDisp1 v w)) Q := po
    cases er2 : db ρ with
    | bad => rw [er2] at po; exact po.elim
    | exn c => rw [er2] at po; exact fun F2 H2 cls dd e2 rm => po F2 H2 cls dd (e1.trans (e.trans e2)) rm
    | ok w =>
      rw [er2] at po
      have po : EPost X W .fr F H σ (Res.up (vDisp1 v w)) Q := po
      have po2 := po.up
      unfold vDisp1 at po2
      cases hk : keyOf v with
      | none => rw [hk] at po2; exact po2.elim
      | some kk =>
        rw [hk] at po2
        have po2 : VPost X.K .fr F H (some (.dict [(v, w)])) Q := po2
        intro F2 H2 y e2 rm2
        have rm : Rp X.K F' x v := rm
        have rm2 : Rp X.K F2 y w := rm2
        obtain ⟨rfl, ry⟩ := key_of_rp rm hk
        have e3 : Ext F (upd H l (.dK [])) F2 H2 := e.trans e2
        have h2 : H2 l = some (.dK []) := e3.hh _ _ upd_same
        have fa : F l = none := free_of s.sub hl
        have fa' : F2 l = none := e3.nw l fa (by rw [upd_same]; simp)
        refine ⟨h2, [(kk, y)], rfl, by simp, ?_⟩
        have hm : RpD X.K F2 (mergeK [] [(kk, y)]) [(v, w)] := .cons (ry.mono e2.ff) rm2 .nil
        refine po2 F2 _ (.ref l) ⟨e3.ff, fun b o hb => ?_, fun b h3 h4 => ?_, fun b o hb => ?_⟩ (.inr ⟨l, _, rfl, upd_same, .dic (show 1 ≤ sizeLine by decide) hm, fa', hl⟩)
        · have hne : b ≠ l := fun g => by rw [g, hl] at hb; cases hb
          rw [upd_ne hne]
          exact e3.hh _ _ (by rw [upd_ne hne]; exact hb)
        · refine e3.nw b h3 ?_
          by_cases hne : b = l
          · rw [hne, upd_same]; simp
          · rw [upd_ne hne]; exact h4
        · have hne : b ≠ l := fun g => by rw [g, fa'] at hb; cases hb
          rw [upd_ne hne]
          exact e3.fh _ _ hb
end
end PL

end
section
namespace PL
open PySem PySem.Spec PyProof.Rows L2
def gTL (n : Nat) (gs : DGs) : DG := fun v ρ => match v with
  | .list ds => if ds.length = n then gs ds ρ else none
  | _ => none
theorem seqLm {K : Fg} {H H' : Hp} {a : Addr} {xs : List V} (e : Same H H') (h : SqL K H a xs) : SqL K H' a xs := by
  rcases h with (h | ⟨o, h⟩) | h
  · exact .inl (.inl (e _ _ h))
  · exact .inl (.inr ⟨o, e _ _ h⟩)
  · exact .inr h
section
variable {X : Cx} {W : WX} {O ts ts' : List Nat} {k : Nat} {tg : Expr} {tgs : List Expr} {g : DG} {gs : DGs} {pos : Pos}
theorem gj_lst {n j : Nat} (hc : X.calm = true) (h : GsJ X O ts tgs gs) (hn : (assignEach tgs X.env).length = n) (hst : (assignEach tgs X.env).findIdx? (·.1) = none) : GJ X O ts (.Tuple tgs j pos) (gTL n gs) := by
  obtain ⟨t, p, q⟩ := h
  refine ⟨_, pg_lst hc p hn hst, fun F0 H0 F H σ ρ x v Q s r po => ?_⟩
  unfold gTL at po
  cases r with
  | lst h1 h2 h3 =>
    rename_i a xs ds
    have po : (match (if ds.length = n then gs ds ρ else none) with
      | some ρ' => ∀ σ', SR X.K F0 H0 O F H σ' ρ' → (∀ vs : List Nat, (∀ i ∈ ts, i ∈ vs) → wipe σ' vs = wipe σ vs) → Q σ' H
      | none => False) := po
    by_cases hl : ds.length = n
    · rw [if_pos hl] at po
      exact ⟨_, _, rfl, seqLm s.sub h1, by rw [h3.length]; exact hl, q F0 H0 F H σ ρ _ _ Q s h3 po⟩
    · rw [if_neg hl] at po; exact po.elim
  | _ => exact po.elim
end
theorem unp_l2 (i j : Nat) (a b : D) (ρ : Lo) : gTL 2 (gsCons (gN i) (gsCons (gN j) gsNil)) (.list [a, b]) ρ = some ((ρ.set i (some a)).set j (some b)) := rfl
end PL

end
section
namespace PL
open PySem PySem.Spec PyProof.Rows L2
def sortSR (ss : List Str) : List Str := ss.mergeSort (W.dataLe true PyData.str)
theorem sortSR_perm (ss : List Str) : (sortSR ss).Perm ss := List.mergeSort_perm _ _
section
variable {X : Cx}
def rSortR (K : Fg) : List V → List V → Hp → VK → Prop := fun vs zs H Q => ∃ (a : Addr) (ss : List Str), vs = [V.ref a] ∧ zs = [V.bl true] ∧ SqL K H a (ss.map V.str) ∧ ss.length ≤ sizeLine ∧ ∀ p : Addr, H p = none → Q (.ref p) (upd H p (.lst ((sortSR ss).map V.str)))
theorem cr_sortR (hu : X.A.units + 64 < cLine) : CallRK X (.builtin "sorted") [Str.ofString "reverse"] (rSortR X.K) := by
  intro pins s σ H vs zs us ws Q I r r2 h
  obtain ⟨a, ss, rfl, rfl, hs, hb, q⟩ := h
  rw [Vals.ref1 r]
  have ew : ws = [Value.bool true] := by
    cases r2 with
    | cons h1 h2 =>
      cases h1
      cases h2
      rfl
  rw [ew]
  obtain ⟨its, rv, hl, _⟩ := I.list hs
  have st : StrsAre its ss := by simpa using rv.strs
  have hT : ∀ v ∈ its, ∃ k t, v = Value.str k t := fun v hv => by
    obtain ⟨i, hi, e⟩ := List.mem_iff_getElem.1 hv
    obtain ⟨k, t, _, e2⟩ := strs_at st i v (by rw [List.getElem?_eq_getElem hi, e])
    exact ⟨k, t, e2⟩
  have et : its.map txOf = ss := strs_txOf st
  have hlI := hl.isList
  refine W.sorted_rev_data (b := true) (enc := PyData.str) (R := IsTx) (by simpa using hlI) (isTx_each hT) ((isTx_each hT).mono fun v k ⟨t, e⟩ => ⟨[], by rw [e]; exact .str _ _⟩) (W.AllAlike.of fun _ _ => by simp [W.alike]) (W.Sortable.others fun b => ⟨by simp, by simp⟩) (by rw [et]; exact hb) (fun b _ => by rw [show (PyData.str b).depth = 0 by simp [PyData.depth]]; omega) fun out _ eo => ?_
  rw [et] at eo
  have eo : W.EachIs IsTx out (sortSR ss) := eo
  have hlen : ((sortSR ss).map V.str).length ≤ sizeLine := by rw [List.length_map, (sortSR_perm ss).length_eq]; exact hb
  obtain ⟨c, hc⟩ := sortedAll_at s.heap its out.toArray
  have k : ∀ b o, s.heap.get? b = some o → (sortedAll s.heap its out.toArray).get? b = some o := fun b o e => sortedAll_old e
  have hp : s.heap.objs.size ≤ s.heap.objs.size + 1 := Nat.le_succ _
  have hn : H (s.heap.objs.size + 1) = none := I.hok.fresh hp
  have J : Inv X pins σ (upd H (s.heap.objs.size + 1) (.lst ((sortSR ss).map V.str))) { s with heap := sortedAll s.heap its out.toArray } :=
    I.call (ch := []) (Un.laid k hp hn) (I.hok.laid k hp ⟨hlen, out, c, vals_of_strs (isTx_strs eo), hc⟩) I.bare (fun _ z => nomatch z)
  exact ⟨.ref (s.heap.objs.size + 1), _, J, rfl, q _ hn⟩
end
def vSortR : D → Option D
  | .list ds => (allStr ds).bind fun ss => some (.list ((sortSR ss).map .str))
  | _ => none
section
variable {X : Cx} {W : WX} {O : List Nat} {k : Nat} {m : Mode} {F H Hs : Hp} {a b c o e : Expr} {da db dd : DE} {pos p kp cp : Pos}
theorem ej_sortR (hp : ∀ t, PE X a t → PE X e (tCKw (rSortR X.K) (tCons t tNil) (tCons (fun _ H Q => Q (.bl true) H) tNil))) (ha : EJ X W O .bo a da) :
    EJ X W O .fr e (eUn vSortR da) := by
  refine ej_un (r := fun x H Q => rSortR X.K [x] [.bl true] H Q) ha (fun t h1 => hp t h1) fun F Hs H x v Q s r1 po => ?_
  unfold vSortR at po
  split at po
  · rename_i ds
    cases e : allStr ds with
    | none => rw [e] at po; exact po.elim
    | some bs =>
      rw [e] at po
      rw [allStr_some e] at r1
      obtain ⟨l, xs, rfl, h1, h2, h3⟩ := bo_list s r1
      obtain ⟨ex, hz⟩ := rpa_strs h3
      subst ex
      rw [List.length_map] at h2
      exact ⟨l, bs, rfl, rfl, h1, h2, fun p hp => new_list s hp (by rw [List.length_map, (sortSR_perm bs).length_eq]; exact h2) (strs_rpa _ fun z hz' => hz z ((sortSR_perm bs).mem_iff.1 hz')) po⟩
  · exact po.elim
end
end PL

end
section
namespace PL
open PySem PySem.Spec PyProof.Rows L2
section
variable {K : Fg} {F0 H0 F H : Hp} {O : List Nat} {σ : L2.St} {ρ : Lo}
theorem SR.move {i j : Nat} {v : D} {x : V} (s : SR K F0 H0 O F H σ ρ) (hi : i ∈ O) (hj : j ∈ O) (hv : ρ[j]? = some (some v)) (hx : σ[j]? = some (some x)) (hij : i ≠ j) : SR K F0 H0 O F H (σ.set i (some x)) ((ρ.set i (some v)).set j none) := by
  have at' : ∀ k w, ((ρ.set i (some v)).set j none)[k]? = some (some w) → k ≠ j ∧ ((k = i ∧ w = v) ∨ (k ≠ i ∧ ρ[k]? = some (some w))) := fun k w h => by
    by_cases hk : k = j
    · subst hk
      have hl := (List.getElem?_eq_some_iff.mp h).1
      rw [List.getElem?_set_self (by simpa using hl)] at h
      cases h
    · rw [List.getElem?_set_ne (Ne.symm hk)] at h
      by_cases hki : k = i
      · subst hki
        have hl := (List.getElem?_eq_some_iff.mp h).1
        rw [List.getElem?_set_self (by simpa using hl)] at h
        cases h
        exact ⟨hk, .inl ⟨rfl, rfl⟩⟩
      · rw [List.getElem?_set_ne (Ne.symm hki)] at h
        exact ⟨hk, .inr ⟨hki, h⟩⟩
  have si : ∀ k, k = i → k < σ.length → (σ.set i (some x))[k]? = some (some x) := fun k e hl => by
    subst e
    rw [List.getElem?_set_self hl]
  refine ⟨s.e0, by simp [s.len], fun k w h1 h2 => ?_, fun k w h1 h2 => ?_, fun a b w w' c h1 h2 h3 h4 h5 h6 h7 => ?_⟩
  · obtain ⟨q1, q2⟩ := at' k w h2
    rcases q2 with ⟨rfl, _⟩ | ⟨q2, q3⟩
    · exact (h1 hi).elim
    · rw [List.getElem?_set_ne (Ne.symm q2)]
      exact s.sh k w h1 q3
  · obtain ⟨q1, q2⟩ := at' k w h2
    rcases q2 with ⟨e1, e2⟩ | ⟨q2, q3⟩
    · obtain ⟨a, o, p1, p2⟩ := s.ow j v hj hv
      rw [hx] at p1
      have p1 : x = .ref a := by cases p1; rfl
      have hl : k < σ.length := by
        have := (List.getElem?_eq_some_iff.mp h2).1
        rw [s.len]; simpa using this
      rw [e2]
      exact ⟨a, o, by rw [si k e1 hl, p1], p2⟩
    · rw [List.getElem?_set_ne (Ne.symm q2)]
      exact s.ow k w h1 q3
  · obtain ⟨q1, q2⟩ := at' a w h4
    obtain ⟨q3, q4⟩ := at' b w' h5
    have hlen : ∀ k u, ((ρ.set i (some v)).set j none)[k]? = some (some u) → k < σ.length := fun k u hu => by
      have := (List.getElem?_eq_some_iff.mp hu).1
      rw [s.len]; simpa using this
    rcases q2 with ⟨e1, e2⟩ | ⟨e1, e2⟩
    · rcases q4 with ⟨e3, e4⟩ | ⟨e3, e4⟩
      · exact h3 (e1.trans e3.symm)
      · rw [si a e1 (hlen a w h4)] at h6
        rw [List.getElem?_set_ne (Ne.symm e3)] at h7
        have : x = .ref c := by cases h6; rfl
        exact s.dj j b v w' c hj h2 (Ne.symm q3) hv e4 (by rw [hx, this]) h7
    · rw [List.getElem?_set_ne (Ne.symm e1)] at h6
      rcases q4 with ⟨e3, e4⟩ | ⟨e3, e4⟩
      · rw [si b e3 (hlen b w' h5)] at h7
        have : x = .ref c := by cases h7; rfl
        exact s.dj a j w v c h1 hj q1 e2 hv h6 (by rw [hx, this])
      · rw [List.getElem?_set_ne (Ne.symm e3)] at h7
        exact s.dj a b w w' c h1 h2 h3 e2 e4 h6 h7
end
def sMove (i j : Nat) : DS := fun ρ => match ρ[j]? with
  | some (some v) => .nx ((ρ.set i (some v)).set j none)
  | _ => .bad
section
variable {X : Cx} {W : WX} {O OL : List Nat} {m : Mode} {st : Stmt}
theorem sj_move {i j : Nat} (hi : i ∈ O) (hj : j ∈ O) (hij : i ≠ j) (h : PS X st (tAsg (tVar j) (gName i))) : SJ X W m O O OL st (sMove i j) := by
  refine ⟨_, h, fun F0 H0 F H σ ρ Dn s po => ?_⟩
  unfold sMove at po
  cases hv : ρ[j]? with
  | none => rw [hv] at po; exact po.elim
  | some ov =>
    cases ov with
    | none => rw [hv] at po; exact po.elim
    | some v =>
      rw [hv] at po
      obtain ⟨a, o, hx, _⟩ := s.ow j v hj hv
      exact ⟨.ref a, hx, po F H _ (.refl _) (s.move hi hj hv hx hij)⟩
end
end PL

end
section
namespace PL
open PySem PySem.Spec PyProof.Rows L2
def vDictC : D → Option D
  | .dict ps => some (.dict ps)
  | _ => none
section
variable {X : Cx} {W : WX} {O : List Nat} {k : Nat} {m : Mode} {F H Hs : Hp} {a b c o e : Expr} {da db dd : DE} {pos p : Pos}
theorem ej_dictC (hh : Here X W k) (hg : Gl X "dict") (hm : X.mg "dict" = none) (ns : NoSt a) (ha : EJ X W O .bo a da) : EJ X W O .fr (.Call (.Name "dict" p) [a] [] pos) (eUn vDictC da) := by
  refine ej_t1 call_dictD hg hm (by decide +kernel) (by decide) (by decide) ns ha fun F Hs H x v Q s r1 po => ?_
  unfold vDictC at po
  split at po
  · rename_i ps
    obtain ⟨l, kvs, rfl, h1, h2, h3⟩ := bo_dict s r1
    exact ⟨l, kvs, rfl, h1, fun p hp => po F _ _ (.new s hp) (.inr ⟨p, _, rfl, upd_same, .dic h2 h3, free_of s hp, hp⟩)⟩
  · exact po.elim
end
end PL

end
section
namespace PL
open PySem PySem.Spec PyProof.Rows L2
section
variable {prog : Program} {w : World} {A : Around} {s : Shared} {E : Value → Shared → Prop}
theorem collect_tupL {t : Addr} {us : List Value} {Q : List Value → Shared → Prop} (ht : s.heap.IsTuple t us.toArray) (hb : us.length ≤ sizeLine)
    (q : Q us { s with heap := (s.heap.push (seqObj "list" #[] 0)).update s.heap.objs.size (Obj.mapSeq (· ++ us.toArray)) }) : wpAny (model prog w) A (collect (.ref t)) Q E s := by
  obtain ⟨ob, e1, e2, c, e3⟩ := id ht
  have e1' : (s.heap.push (seqObj "list" #[] 0)).get? t = some ob := Heap.get?_push_of_some _ e1
  have e4 : (s.heap.push (seqObj "list" #[] 0)).get? s.heap.objs.size = some (seqObj "list" #[] 0) := Heap.get?_push_size _ rfl
  unfold collect
  apply wpAny_bind; apply wpAny_runValue; refine codeAny_builtin entry_proto_collect' ?_
  show wpAny (model prog w) _ (do again (.builtin "list.__iadd__" ⟨[← newList [], .ref t], []⟩)) _ E s
  apply wpAny_bind; refine wpAny_newList ?_ (Nat.zero_le _)
  refine wpAny_pure ⟨Code.quiet_builtin _ (by decide +kernel), ?_⟩
  apply codeAny_builtin entry_list_iadd'
  show wpAny (model prog w) _ (Builtin.List.listExtendWith (.ref s.heap.objs.size) (.ref t) (.ref s.heap.objs.size)) _ E { s with heap := s.heap.push (seqObj "list" #[] 0) }
  unfold Builtin.List.listExtendWith
  apply wpAny_bind; refine wpAny_typeOf (T := "tuple") ⟨ob, e1', e2⟩ ?_
  rw [if_pos (by rw [Bool.or_eq_true]; exact .inr rfl)]
  apply wpAny_bind; refine listItems_at e1' e3 ?_
  apply wpAny_bind; refine listItems_at (xs := #[]) (n := 0) e4 rfl ?_
  rw [if_neg (by simp)]
  apply wpAny_bind
  refine listUpdate_at (xs := #[]) (n := 0) e4 rfl ?_ (Nat.zero_le _) (Nat.le_trans (by simp) (Nat.succ_le_succ hb))
  refine wpAny_pure ?_
  show wpAny (model prog w) A (load s.heap.objs.size >>= fun o => match o.data with
    | .seq xs _ => pure xs.toList
    | _ => unsupported "internal:collect") Q E { s with heap := (s.heap.push (seqObj "list" #[] 0)).update s.heap.objs.size (Obj.mapSeq (· ++ us.toArray)) }
  apply wpAny_bind; refine wpAny_load (get?_update_seq e4 _) ?_
  show wpAny (model prog w) A (pure ((#[] : Array Value) ++ us.toArray).toList) Q E _
  have e5 : ((#[] : Array Value) ++ us.toArray).toList = us := by simp
  rw [e5]
  exact wpAny_pure q
theorem sorted_tupD {β : Type} {t : Addr} {us : List Value} {bs : List β} {enc : β → PyData} {R : Value → β → Prop} {Q : Value → Shared → Prop} (ht : s.heap.IsTuple t us.toArray) (e : W.EachIs R us bs) (er : W.EachIs (fun v b => ∃ as, Reads s.heap v (enc b) as) us bs)
    (hal : W.AllAlike (bs.map enc)) (hk : W.Sortable (bs.map enc)) (hb : bs.length ≤ sizeLine) (hd : ∀ b ∈ bs, A.units + 2 + (enc b).depth < cLine)
    (q : ∀ out, out.length = bs.length → W.EachIs R out (bs.mergeSort (W.dataLe false enc)) → Q (.ref (s.heap.objs.size + 1)) { s with heap := sortedAll s.heap us (List.toArray out) }) :
    wpAny (model prog w) A (call (.builtin "sorted") [.ref t]) Q E s := by
  have el := e.length
  have hb' : us.length ≤ sizeLine := by omega
  have er' : W.EachIs (fun v b => ∃ as, Reads (W.sortingHeap (W.copyHeap s.heap us) (s.heap.objs.size + 1) us) v (enc b) as) us bs := er.mono fun _ _ ⟨as, r⟩ => ⟨as, PyProof.Rows.Reads.keeps (fun _ _ => W.sorting_copy_old) r⟩
  have S := W.SortsAt.data (prog := prog) (w := w) (A := A.in1.in1) (s := { s with heap := W.sortingHeap (W.copyHeap s.heap us) (s.heap.objs.size + 1) us }) (W.each_map (R := fun v d => ∃ as, Reads (W.sortingHeap (W.copyHeap s.heap us) (s.heap.objs.size + 1) us) v d as) enc er') hal hk (W.bound_map hd)
  have q' := q _ (by rw [W.sortVals_length false rfl]; exact el) (W.sortVals_data false e er' hal)
  have hz : ((s.heap.push (seqObj "list" #[] 0)).update s.heap.objs.size (Obj.mapSeq (· ++ us.toArray))).objs.size = s.heap.objs.size + 1 := (Heap.size_update ..).trans (size_push' ..)
  refine call_function_entry_kw kind_sorted plain_sorted entry_sorted (args_sorted1 _) ?_
  unfold Builtin.«sorted»
  apply wpAny_bind (m := checkCount "sorted" 1 1 _); refine wpAny_pure ?_
  apply wpAny_bind; refine collect_tupL ht hb' ?_
  apply wpAny_bind; refine wpAny_newList ?_ hb'
  show wpAny (model prog w) _ _ _ E { s with heap := W.copyHeap s.heap us }
  rw [hz]
  apply wpAny_bind; apply wpAny_holding
  refine wpAny_call_entry_kw slot_list_sort ⟨_, W.copyHeap_at s.heap us, rfl⟩ entry_list_sort ?_ (args_list_sort _)
  show wpAny (model prog w) A.in1.in1 (Builtin.«list.sort» ⟨[.ref (s.heap.objs.size + 1)], []⟩) _ _ { s with heap := W.copyHeap s.heap us }
  have hs : ∀ E' : Value → Shared → Prop, wpAny (model prog w) A.in1.in1 (Builtin.«list.sort» ⟨[.ref (s.heap.objs.size + 1)], []⟩) (fun f s' => f = .done (.ret .none) ∧ Q (.ref (s.heap.objs.size + 1)) s') E' { s with heap := W.copyHeap s.heap us } :=
    fun E' => W.list_sort_vals (s := { s with heap := W.copyHeap s.heap us }) (W.copyHeap_at s.heap us) S hb' ⟨rfl, q'⟩
  refine wpAny_mono (hs _) ?_ fun _ _ x => x
  rintro f s' ⟨rfl, hq⟩
  exact ⟨_, rfl, wpAny_pure ⟨_, rfl, hq⟩⟩
end

def sortZ (xs : List V) (ds : List D) : List (V × D) := (xs.zip ds).mergeSort (W.dataLe false Prod.snd)
def sortD (ds : List D) : List D := ds.mergeSort (W.dataLe false id)
theorem sortD_perm (ds : List D) : (sortD ds).Perm ds := List.mergeSort_perm _ _
theorem zip_snd : ∀ {xs : List V} {ds : List D}, xs.length = ds.length → (xs.zip ds).map Prod.snd = ds
  | [], [], _ => rfl
  | x :: xs, d :: ds, h => by rw [List.zip_cons_cons, List.map_cons, zip_snd (by simpa using h)]
theorem sortZ_snd {xs : List V} {ds : List D} (h : xs.length = ds.length) : (sortZ xs ds).map Prod.snd = sortD ds := by
  unfold sortZ sortD
  have := List.map_mergeSort (r := W.dataLe false (Prod.snd : V × D → D)) (s := W.dataLe false id) (f := Prod.snd) (l := xs.zip ds) (fun a _ b _ => rfl)
  rw [this, zip_snd h]
def zRel (v : Value) (b : V × D) : Prop := RelV b.1 v
theorem each_zip : ∀ {xs : List V} {ds : List D} {us : List Value}, Vals xs us → xs.length = ds.length → W.EachIs zRel us (xs.zip ds)
  | [], [], _, .nil, _ => .nil
  | x :: xs, d :: ds, _, .cons h r, hl => .cons h (each_zip r (by simpa using hl))
theorem reads_zip {h : Heap} : ∀ {xs : List V} {ds : List D} {us : List Value} {as : List Addr}, ReadsAll h us ds as → xs.length = ds.length → W.EachIs (fun v b => ∃ as, Reads h v (Prod.snd b) as) us (xs.zip ds)
  | [], [], _, _, .nil, _ => .nil
  | x :: xs, d :: ds, _, _, .cons h r, hl => .cons ⟨_, h⟩ (reads_zip r (by simpa using hl))
theorem each_vals : ∀ {out : List Value} {zs : List (V × D)}, W.EachIs zRel out zs → Vals (zs.map Prod.fst) out
  | _, _, .nil => .nil
  | _, _, .cons h r => .cons h (each_vals r)
section
variable {X : Cx}
/-- sorted of a list or a tuple of alike plain data -/
def rSortD (K : Fg) : List V → Hp → VK → Prop := fun vs H Q => ∃ (a : Addr) (xs : List V) (ds : List D), vs = [V.ref a] ∧ (SqL K H a xs ∨ SqT K H a xs) ∧ xs.length = ds.length ∧ xs.length ≤ sizeLine ∧ DpAll K H xs ds ∧ W.AllAlike ds ∧ W.Sortable ds ∧ (∀ d ∈ ds, d.depth ≤ 40) ∧ ∀ p : Addr, H p = none → Q (.ref p) (upd H p (.lst ((sortZ xs ds).map Prod.fst)))
theorem cr_sortD (hu : X.A.units + 64 < cLine) : CallR X (.builtin "sorted") (rSortD X.K) := by
  intro pins s σ H vs us Q I r h
  obtain ⟨a, xs, ds, rfl, hs, hl, hb, hd, ha, hk, hp, q⟩ := h
  rw [Vals.ref1 r]
  have zs := zip_snd hl
  have zl : (xs.zip ds).length = xs.length := by rw [List.length_zip]; omega
  have zb : (xs.zip ds).length ≤ sizeLine := by omega
  have zd : ∀ b ∈ xs.zip ds, X.A.units + 2 + (Prod.snd b : D).depth < cLine := fun b hb => by
    have := hp b.2 (List.of_mem_zip hb).2
    omega
  have fin : ∀ (its out : List Value), W.EachIs zRel out ((xs.zip ds).mergeSort (W.dataLe false Prod.snd)) → ∃ v H', Inv X pins σ H' { s with heap := sortedAll s.heap its (List.toArray out) } ∧ RelV v (.ref (s.heap.objs.size + 1)) ∧ Q v H' := by
    intro its out eo
    obtain ⟨c, hc⟩ := sortedAll_at s.heap its out.toArray
    have k : ∀ b o, s.heap.get? b = some o → (sortedAll s.heap its out.toArray).get? b = some o := fun b o e => sortedAll_old e
    have hp : s.heap.objs.size ≤ s.heap.objs.size + 1 := Nat.le_succ _
    have hn : H (s.heap.objs.size + 1) = none := I.hok.fresh hp
    have hlen : ((sortZ xs ds).map Prod.fst).length ≤ sizeLine := by
      rw [List.length_map]
      unfold sortZ
      rw [List.length_mergeSort]
      exact zb
    have J : Inv X pins σ (upd H (s.heap.objs.size + 1) (.lst ((sortZ xs ds).map Prod.fst))) { s with heap := sortedAll s.heap its out.toArray } :=
      I.call (ch := []) (Un.laid k hp hn) (I.hok.laid k hp ⟨hlen, out, c, each_vals eo, hc⟩) I.bare (fun _ z => nomatch z)
    exact ⟨.ref (s.heap.objs.size + 1), _, J, rfl, q _ hn⟩
  rcases hs with hs | hs
  · obtain ⟨its, rv, hlst, _⟩ := I.list hs
    obtain ⟨as, hr⟩ := Dp.readsAll I _ _ _ hd rv
    have hlI := hlst.isList
    exact W.sorted_data (enc := Prod.snd) (R := zRel) (by simpa using hlI) (each_zip rv hl) (reads_zip hr hl) (by rw [zs]; exact ha) (by rw [zs]; exact hk) zb zd fun out _ eo => fin its out eo
  · obtain ⟨its, rv, ht, _⟩ := I.tuple hs
    obtain ⟨as, hr⟩ := Dp.readsAll I _ _ _ hd rv
    exact sorted_tupD (enc := Prod.snd) (R := zRel) ht (each_zip rv hl) (reads_zip hr hl) (by rw [zs]; exact ha) (by rw [zs]; exact hk) zb zd fun out _ eo => fin its out eo
end
def rSortedDict : List V → Hp → VK → Prop := fun vs H Q => ∃ (a : Addr) (ps : List (Key × V)) (ks : List Str), vs = [.ref a] ∧ Rd H a (.dK ps) ∧ ps.map (·.1) = ks.map Sum.inr ∧ ks.length < 64 ∧ ∀ ys p, ys.Perm ks → sortedS ys = true → H p = none → Q (.ref p) (upd H p (.lst (ys.map V.str)))
def nonEmT : D → Bool
  | .tuple (_ :: _) => true
  | _ => false
def flatD : D → Bool
  | .none => false
  | .tuple _ => false
  | _ => true
def sortOk (ds : List D) : Bool := (ds.all fun a => ds.all (W.alike a)) && ((ds.all nonEmT || ds.all flatD) && (noDicts ds && ds.all fun d => decide (d.depth ≤ 40)))
theorem sortOk_of {ds : List D} (h : sortOk ds = true) : W.AllAlike ds ∧ W.Sortable ds ∧ noDicts ds = true ∧ ∀ d ∈ ds, d.depth ≤ 40 := by
  unfold sortOk at h
  simp only [Bool.and_eq_true, Bool.or_eq_true, List.all_eq_true, decide_eq_true_eq] at h
  obtain ⟨h1, h2, h3, h4⟩ := h
  refine ⟨fun a ha b hb => h1 a ha b hb, ?_, h3, h4⟩
  rcases h2 with h2 | h2
  · refine .inl fun d hd => ?_
    have := h2 d hd
    unfold nonEmT at this
    split at this
    · exact ⟨_, _, rfl⟩
    · cases this
  · refine .inr fun d hd => ?_
    have := h2 d hd
    refine ⟨fun e => ?_, fun xs e => ?_⟩ <;> (rw [e] at this; cases this)
def vSortG : D → Option D
  | .list ds => if sortOk ds = true then some (.list (sortD ds)) else none
  | .tuple ds => if sortOk ds = true then some (.list (sortD ds)) else none
  | _ => none
def vSorted3 (v : D) : Option D := match vSorted v with
  | some w => some w
  | none => vSortG v
section
variable {X : Cx} {W : WX} {O : List Nat} {k : Nat} {m : Mode} {F H Hs : Hp} {a b c o e : Expr} {da db dd : DE} {pos p : Pos}
theorem rpa_of_zip {K : Fg} : ∀ {xs : List V} {ds : List D}, RpA K F xs ds → ∀ z ∈ xs.zip ds, Rp K F z.1 z.2
  | _, _, .nil, z, hz => by cases hz
  | _, _, .cons h r, z, hz => by
    rw [List.zip_cons_cons] at hz
    rcases List.mem_cons.1 hz with rfl | hz
    · exact h
    · exact rpa_of_zip r z hz
theorem zip_rpa {K : Fg} : ∀ {zs : List (V × D)}, (∀ z ∈ zs, Rp K F z.1 z.2) → RpA K F (zs.map Prod.fst) (zs.map Prod.snd)
  | [], _ => .nil
  | z :: zs, h => .cons (h z (by simp)) (zip_rpa fun y hy => h y (by simp [hy]))
theorem sortD_new {Q : VK} {xs : List V} {ds : List D} {p : Addr} (s : Same F H) (hp : H p = none) (hb : xs.length ≤ sizeLine) (h3 : RpA X.K F xs ds) (po : VPost X.K .fr F H (some (.list (sortD ds))) Q) : Q (.ref p) (upd H p (.lst ((sortZ xs ds).map Prod.fst))) := by
  have hl := h3.length
  have r : RpA X.K F ((sortZ xs ds).map Prod.fst) (sortD ds) := by
    rw [← sortZ_snd hl]
    exact zip_rpa fun z hz => rpa_of_zip h3 z ((List.mergeSort_perm _ _).mem_iff.1 hz)
  refine new_list s hp ?_ r po
  rw [List.length_map]
  unfold sortZ
  rw [List.length_mergeSort, List.length_zip]
  omega
theorem sorted_v {Q : VK} {x : V} {v : D} (s : Same F H) (r1 : RM .bo X.K F Hs H x v) (po : VPost X.K .fr F H (vSorted v) Q) : (rSortedI X.K [x] H Q ∨ rSortL X.K [x] H Q) ∨ rSortedDict [x] H Q := by
  unfold vSorted at po
  split at po
  · rename_i ds
    refine .inl ?_
    split at po
    · rename_i bs e
      rw [allInt_some e] at r1
      obtain ⟨l, xs, rfl, h1, h2, h3⟩ := bo_list s r1
      have ex := rpa_ints h3
      subst ex
      refine .inl ⟨l, bs, rfl, h1, fun ns' p hp hs hn => ?_⟩
      rw [sortI_eq hp hs]
      exact new_list s hn (by rw [List.length_map, (sortI_perm bs).length_eq, ← List.length_map (f := V.int)]; exact h2) (rpA_ints _) po
    · cases e : allStr ds with
      | none => rw [e] at po; exact po.elim
      | some bs =>
        rw [e] at po
        rw [allStr_some e] at r1
        obtain ⟨l, xs, rfl, h1, h2, h3⟩ := bo_list s r1
        obtain ⟨ex, hz⟩ := rpa_strs h3
        subst ex
        rw [List.length_map] at h2
        exact .inr ⟨l, bs, rfl, h1, h2, fun p hp => new_list s hp (by rw [List.length_map, (sortS_perm bs).length_eq]; exact h2) (strs_rpa _ fun z hz' => hz z ((sortS_perm bs).mem_iff.1 hz')) po⟩
  · rename_i ps
    cases e : keysS ps with
    | none => rw [e] at po; exact po.elim
    | some bs =>
      rw [e] at po
      have po : VPost X.K .fr F H (if bs.length < 64 then some (.list ((sortS bs).map .str)) else none) Q := po
      by_cases hc : bs.length < 64
      · rw [if_pos hc] at po
        obtain ⟨l, kvs, rfl, h1, h2, h3⟩ := bo_dict s r1
        obtain ⟨g1, hz⟩ := keysS_rp h3 e
        refine .inr ⟨l, kvs, bs, rfl, h1, g1, hc, fun ys p hp hs hn => ?_⟩
        have hsl : (64 : Nat) ≤ sizeLine := by decide
        rw [sortS_unique hp (sortedS_pw hs)]
        exact new_list s hn (by rw [List.length_map, (sortS_perm bs).length_eq]; omega) (strs_rpa _ fun z hz' => hz z ((sortS_perm bs).mem_iff.1 hz')) po
      · rw [if_neg hc] at po; exact po.elim
  · exact po.elim
theorem ej_sorted3 (hh : Here X W k) (hg : Gl X "sorted") (hm : X.mg "sorted" = none) (ns : NoSt a) (ha : EJ X W O .bo a da) : EJ X W O .fr (.Call (.Name "sorted" p) [a] [] pos) (eUn vSorted3 da) := by
  refine ej_b1 (((cr_sortedI.or (cr_sortL hh.u64)).or (call_sortedD hh.calm)).or (cr_sortD hh.u64)) hg hm (by decide +kernel) (by decide) (by decide) ns ha fun F Hs H x v Q s r1 po => ?_
  unfold vSorted3 at po
  cases ev : vSorted v with
  | some w =>
    refine .inl ?_
    rw [ev] at po
    have po : VPost X.K .fr F H (vSorted v) Q := by rw [ev]; exact po
    exact sorted_v s r1 po
  | none =>
    refine .inr ?_
    rw [ev] at po
    have po : VPost X.K .fr F H (vSortG v) Q := po
    unfold vSortG at po
    split at po
    · rename_i ds _
      by_cases hc : sortOk ds = true
      · rw [if_pos hc] at po
        obtain ⟨h1, h2, h3, h4⟩ := sortOk_of hc
        obtain ⟨l, xs, rfl, g1, g2, g3⟩ := bo_list s r1
        exact ⟨l, xs, ds, rfl, .inl g1, g3.length, g2, (g3.mono s).dp (g3.lay h3), h1, h2, h4, fun p hp => sortD_new s hp g2 g3 po⟩
      · rw [if_neg hc] at po; exact po.elim
    · rename_i ds _
      by_cases hc : sortOk ds = true
      · rw [if_pos hc] at po
        obtain ⟨h1, h2, h3, h4⟩ := sortOk_of hc
        obtain ⟨l, xs, rfl, g1, _, g2, g3⟩ := bo_tup s r1
        exact ⟨l, xs, ds, rfl, .inr g1, g3.length, g2, (g3.mono s).dp (g3.lay h3), h1, h2, h4, fun p hp => sortD_new s hp g2 g3 po⟩
      · rw [if_neg hc] at po; exact po.elim
    · exact po.elim
end
end PL

end
section
namespace PL
open PySem PySem.Spec PyProof.Rows L2
def keysD : D → Option (List D)
  | .dict ps => some (ps.map Prod.fst)
  | _ => none
def iKeysD (e : DE) : DA := fun ρ => (e ρ).bind fun v => Res.up (keysD v)
section
variable {K : Fg} {F : Hp}
theorem RpD.key : ∀ {ps : List (D × D)} {kvs : List (Key × V)} {i : Nat} {k : Key} {v : V}, RpD K F kvs ps → kvs[i]? = some (k, v) → ∃ d, (ps.map Prod.fst)[i]? = some d ∧ Rp K F (kV k) d
  | _, _, _, _, _, .nil, h => by simp at h
  | _, _, 0, k, v, .cons h _ _, e => by
    simp only [List.getElem?_cons_zero, Option.some.injEq] at e
    cases e
    exact ⟨_, rfl, h⟩
  | _, _, i + 1, k, v, .cons _ _ t, e => by
    simp only [List.getElem?_cons_succ] at e
    obtain ⟨d, h1, h2⟩ := RpD.key t e
    exact ⟨d, by simpa using h1, h2⟩
theorem itOk_keys {BF B : Hp} {a : Addr} {od : Obj} {kvs : List (Key × V)} {ps : List (D × D)} (h : B a = some (.frz od (.dK kvs))) (r : RpD K BF kvs ps) : ItOk K BF B (Itk a od kvs) (ps.map Prod.fst) where
  go := fun i H2 s hi => by
    rw [List.length_map, ← r.len] at hi
    exact ⟨s _ _ h, hi⟩
  stop := fun H2 s => ⟨s _ _ h, by rw [List.length_map, r.len]; exact Nat.le_refl _⟩
  yld := fun i H2 x H3 F2 s s2 s3 hi hy => by
    obtain ⟨rfl, k, v, e, rfl⟩ := hy
    obtain ⟨d, h1, h2⟩ := RpD.key r e
    exact ⟨F2, d, .refl s3, h1, h2.mono s2⟩
end
section
variable {X : Cx} {W : WX} {O : List Nat} {tg e : Expr} {de : DE} {bo : Bool}
theorem ij_keys (he : EJ X W O .sh e de) : IJ X W O bo tg e (iKeysD de) := by
  obtain ⟨t, p, q⟩ := he
  refine ⟨_, pi_keys p, fun F0 H0 F H σ ρ R s po => ?_⟩
  unfold iKeysD at po
  refine q F0 H0 F H σ ρ _ s ?_
  cases hd : de ρ with
  | bad => rw [hd] at po; exact po.elim
  | exn c => rw [hd] at po; exact exn_E po
  | ok v =>
    rw [hd] at po
    cases v with
    | dict ps =>
      intro F' H' x ex rm
      cases rm with
      | @dic a od kvs _ h1 h2 h3 =>
        refine ⟨a, od, rfl, .inl ⟨kvs, ex.fh _ _ h1, ?_⟩⟩
        refine po F' H' _ ex (fun _ => by rw [List.length_map, ← h3.len]; exact h2) ?_
        cases bo with
        | true => exact itOk_keys (ex.fh _ _ h1) h3
        | false => exact itOk_keys h1 h3
    | _ => exact po.elim
end
end PL

end
section
namespace PL
open PySem
@[simp] theorem bind_ok {α β : Type} (a : α) (f : α → Res β) : (Res.ok a).bind f = f a := Eq.trans rfl rfl
@[simp] theorem bind_exn {α β : Type} (a : D) (f : α → Res β) : (Res.exn a : Res α).bind f = .exn a := Eq.trans rfl rfl
@[simp] theorem up_some {α : Type} (a : α) : Res.up (some a) = .ok a := Eq.trans rfl rfl
theorem runD_eq (n : Nat) (b : DS) (ds : List D) : runD n b ds = (match b (start n ds) with
  | .nx _ => .ok .none
  | .rt v => .ok v
  | .ex e _ => .exn e
  | _ => .bad) := rfl
/-- what a block comes to: goes on, hands back, breaks, continues -/
def WS0 (r : SRes) (N : Lo → Prop) (R : D → Prop) (B C : Lo → Prop) : Prop := match r with
  | .nx ρ => N ρ
  | .rt v => R v
  | .bk ρ => B ρ
  | .ct ρ => C ρ
  | _ => False
abbrev No : Lo → Prop := fun _ => False
theorem run0_ws {n : Nat} {b : DS} {ds : List D} {P : D → Prop} (h : WS0 (b (start n ds)) (fun _ => P .none) P No No) : ∃ v, runD n b ds = .ok v ∧ P v := by
  rw [runD_eq]
  cases e : b (start n ds) with
  | nx ρ => rw [e] at h; exact ⟨_, rfl, h⟩
  | rt v => rw [e] at h; exact ⟨_, rfl, h⟩
  | _ => rw [e] at h; exact h.elim
theorem run0_eq {n : Nat} {b : DS} {ds : List D} {v : D} (h : WS0 (b (start n ds)) (fun _ => .none = v) (fun x => x = v) No No) : runD n b ds = .ok v := by
  obtain ⟨w, h1, h2⟩ := run0_ws (P := fun x => x = v) h
  rw [h1, h2]
section
variable {a b s : DS} {ρ : Lo} {N : Lo → Prop} {R : D → Prop} {B C : Lo → Prop} {e : DE} {c : DT} {v : D} {i : Nat}
theorem w0_seq (h : WS0 (a ρ) (fun ρ' => WS0 (b ρ') N R B C) R B C) : WS0 (sSeq a b ρ) N R B C := by
  unfold sSeq
  cases e : a ρ with
  | nx ρ' => rw [e] at h; exact h
  | rt v => rw [e] at h; exact h
  | bk ρ' => rw [e] at h; exact h
  | ct ρ' => rw [e] at h; exact h
  | ex c ρ' => rw [e] at h; exact h.elim
  | bad => rw [e] at h; exact h.elim
theorem w0_skip (h : N ρ) : WS0 (sSkip ρ) N R B C := h
theorem w0_set (he : e ρ = .ok v) (h : N (ρ.set i (some v))) : WS0 (sSet i e ρ) N R B C := by
  unfold sSet; rw [he]; exact h
theorem w0_setO (he : e ρ = .ok v) (hm : isMut v = true) (h : N (ρ.set i (some v))) : WS0 (sSetO i e ρ) N R B C := by
  unfold sSetO; rw [he]
  show WS0 (if isMut v = true then .nx (ρ.set i (some v)) else .bad) N R B C
  rw [if_pos hm]; exact h
theorem w0_ret (he : e ρ = .ok v) (h : R v) : WS0 (sRet e ρ) N R B C := by
  unfold sRet; rw [he]; exact h
theorem w0_expr (he : e ρ = .ok v) (h : N ρ) : WS0 (sExpr e ρ) N R B C := by
  unfold sExpr; rw [he]; exact h
theorem w0_break (h : B ρ) : WS0 (sBreak ρ) N R B C := h
theorem w0_cont (h : C ρ) : WS0 (sCont ρ) N R B C := h
theorem w0_if {k : Bool} (hc : c ρ = .ok k) (h1 : k = true → WS0 (a ρ) N R B C) (h2 : k = false → WS0 (b ρ) N R B C) : WS0 (sIf c a b ρ) N R B C := by
  unfold sIf; rw [hc]
  cases k with
  | true => exact h1 rfl
  | false => exact h2 rfl
theorem w0_ifT (hc : c ρ = .ok true) (h1 : WS0 (a ρ) N R B C) : WS0 (sIf c a b ρ) N R B C := by unfold sIf; rw [hc]; exact h1
theorem w0_ifF (hc : c ρ = .ok false) (h1 : WS0 (b ρ) N R B C) : WS0 (sIf c a b ρ) N R B C := by unfold sIf; rw [hc]; exact h1
theorem w0_last (h : WS0 (s ρ) N R B C) : WS0 (sSeq s sSkip ρ) N R B C := by
  refine w0_seq ?_
  cases e : s ρ with
  | nx ρ' => rw [e] at h; exact h
  | rt v => rw [e] at h; exact h
  | bk ρ' => rw [e] at h; exact h
  | ct ρ' => rw [e] at h; exact h
  | ex c ρ' => rw [e] at h; exact h.elim
  | bad => rw [e] at h; exact h.elim
theorem w0_par {i j : Nat} {d d' : DE} {v w : D} (h1 : d ρ = .ok v) (h2 : d' ρ = .ok w) (h : N ((ρ.set i (some v)).set j (some w))) : WS0 (sPar i j d d' ρ) N R B C := by
  unfold sPar; rw [h1]
  show WS0 (sOf (d' ρ) ρ _) N R B C
  rw [h2]; exact h
theorem w0_unp {g : DG} {ρ' : Lo} (h1 : e ρ = .ok v) (h2 : g v ρ = some ρ') (h : N ρ') : WS0 (sUnp g e ρ) N R B C := by
  unfold sUnp; rw [h1]
  show WS0 (match g v ρ with | some ρ' => .nx ρ' | none => .bad) N R B C
  rw [h2]; exact h
theorem w0_aug {f : D → D → Option D} {x y z : D} (h1 : ρ[i]? = some (some x)) (h2 : e ρ = .ok y) (h3 : f x y = some z) (h : N (ρ.set i (some z))) : WS0 (sAug i f e ρ) N R B C := by
  unfold sAug; rw [h1]
  show WS0 (sOf (e ρ) ρ _) N R B C
  rw [h2]
  show WS0 (match f x y with | some z => .nx (ρ.set i (some z)) | none => .bad) N R B C
  rw [h3]; exact h
theorem w0_app {ds : List D} (h1 : ρ[i]? = some (some (.list ds))) (h2 : e ρ = .ok v) (h3 : ds.length < sizeLine) (h : N (ρ.set i (some (.list (ds ++ [v]))))) : WS0 (sApp i e ρ) N R B C := by
  unfold sApp; rw [h1]
  show WS0 (sOf (e ρ) ρ _) N R B C
  rw [h2]
  show WS0 (if ds.length < sizeLine then .nx (ρ.set i (some (.list (ds ++ [v])))) else .bad) N R B C
  rw [if_pos h3]; exact h
theorem w0_store {ds : List D} {k : DE} {j : Int} {n : Nat} (h1 : e ρ = .ok v) (h2 : ρ[i]? = some (some (.list ds))) (h3 : k ρ = .ok (.int j)) (h4 : L2.ixN ds.length j = some n) (h : N (ρ.set i (some (.list (ds.set n v))))) : WS0 (sStore i k e ρ) N R B C := by
  unfold sStore; rw [h1]
  show WS0 (match ρ[i]? with | some (some (.list ds)) => (sOf (k ρ) ρ fun kv => (match storeD (.list ds) kv v with | some o' => .nx (ρ.set i (some o')) | none => .bad)) | _ => .bad) N R B C
  rw [h2]
  show WS0 (sOf (k ρ) ρ fun kv => match storeD (.list ds) kv v with | some o' => .nx (ρ.set i (some o')) | none => .bad) N R B C
  rw [h3]
  show WS0 (match (L2.ixN ds.length j).map fun n => PyData.list (ds.set n v) with | some o' => .nx (ρ.set i (some o')) | none => .bad) N R B C
  rw [h4]; exact h
/-- a for: P of what is left and of the slots -/
theorem w0_for {g : DG} {it : DA} {ds : List D} (P : List D → Lo → Prop) (hi : it ρ = .ok ds) (h0 : P ds ρ) (hs : ∀ x xs ρ, P (x :: xs) ρ → ∃ ρ1, g x ρ = some ρ1 ∧ WS0 (s ρ1) (P xs) R N (P xs)) (hN : ∀ ρ, P [] ρ → N ρ) : WS0 (sFor g it s ρ) N R B C := by
  unfold sFor; rw [hi]
  show WS0 (forD g s ds ρ) N R B C
  clear hi
  induction ds generalizing ρ with
  | nil => exact hN ρ h0
  | cons x xs ih =>
    obtain ⟨ρ1, h1, h2⟩ := hs x xs ρ h0
    rw [forD_cons, h1]
    show WS0 (match s ρ1 with | .nx ρ2 => forD g s xs ρ2 | .ct ρ2 => forD g s xs ρ2 | .bk ρ2 => .nx ρ2 | r => r) N R B C
    cases hb : s ρ1 with
    | nx ρ2 => rw [hb] at h2; exact ih h2
    | ct ρ2 => rw [hb] at h2; exact ih h2
    | bk ρ2 => rw [hb] at h2; exact h2
    | rt v => rw [hb] at h2; exact h2
    | ex c ρ2 => rw [hb] at h2; exact h2.elim
    | bad => rw [hb] at h2; exact h2.elim
/-- a for over encoded items -/
theorem w0_forE {α : Type} {g : DG} {it : DA} (enc : α → D) (l : List α) (P : List α → Lo → Prop) (hi : it ρ = .ok (l.map enc)) (h0 : P l ρ) (hs : ∀ x xs ρ, P (x :: xs) ρ → ∃ ρ1, g (enc x) ρ = some ρ1 ∧ WS0 (s ρ1) (P xs) R N (P xs)) (hN : ∀ ρ, P [] ρ → N ρ) : WS0 (sFor g it s ρ) N R B C := by
  refine w0_for (fun ds ρ => ∃ l', ds = l'.map enc ∧ P l' ρ) hi ⟨l, rfl, h0⟩ (fun x xs ρ h => ?_) (fun ρ h => ?_)
  · obtain ⟨l', e, p⟩ := h
    cases l' with
    | nil => cases e
    | cons y ys =>
      cases e
      obtain ⟨ρ1, h1, h2⟩ := hs y ys ρ p
      refine ⟨ρ1, h1, ?_⟩
      cases hb : s ρ1 with
      | nx ρ2 => rw [hb] at h2; exact ⟨ys, rfl, h2⟩
      | ct ρ2 => rw [hb] at h2; exact ⟨ys, rfl, h2⟩
      | bk ρ2 => rw [hb] at h2; exact h2
      | rt v => rw [hb] at h2; exact h2
      | ex c ρ2 => rw [hb] at h2; exact h2.elim
      | bad => rw [hb] at h2; exact h2.elim
  · obtain ⟨l', e, p⟩ := h
    cases l' with
    | nil => exact hN ρ p
    | cons y ys => cases e
/-- a while: P with its measure -/
theorem w0_while {n : Nat} (P : Nat → Lo → Prop) {k : Nat} (hk : k < n) (h0 : P k ρ) (hs : ∀ k ρ, P k ρ → ∃ b, c ρ = .ok b ∧ (b = true → WS0 (s ρ) (fun ρ' => ∃ j, j < k ∧ P j ρ') R N (fun ρ' => ∃ j, j < k ∧ P j ρ')) ∧ (b = false → N ρ)) : WS0 (sWhile n c s ρ) N R B C := by
  unfold sWhile
  induction n generalizing k ρ with
  | zero => omega
  | succ n ih =>
    obtain ⟨b, h1, h2, h3⟩ := hs k ρ h0
    rw [whileD_succ, h1]
    cases b with
    | false => exact h3 rfl
    | true =>
      have h2 := h2 rfl
      show WS0 (match s ρ with | .nx ρ2 => whileD c s n ρ2 | .ct ρ2 => whileD c s n ρ2 | .bk ρ2 => .nx ρ2 | r => r) N R B C
      cases hb : s ρ with
      | nx ρ2 => rw [hb] at h2; obtain ⟨j, hj, p⟩ := h2; exact ih (by omega) p
      | ct ρ2 => rw [hb] at h2; obtain ⟨j, hj, p⟩ := h2; exact ih (by omega) p
      | bk ρ2 => rw [hb] at h2; exact h2
      | rt v => rw [hb] at h2; exact h2
      | ex c ρ2 => rw [hb] at h2; exact h2.elim
      | bad => rw [hb] at h2; exact h2.elim
end
theorem WS0.mono {r : SRes} {N N' : Lo → Prop} {R R' : D → Prop} {B B' C C' : Lo → Prop} (h : WS0 r N R B C) (hN : ∀ ρ, N ρ → N' ρ) (hR : ∀ v, R v → R' v) (hB : ∀ ρ, B ρ → B' ρ) (hC : ∀ ρ, C ρ → C' ρ) : WS0 r N' R' B' C' := by
  cases r with
  | nx ρ => exact hN _ h
  | rt v => exact hR _ h
  | bk ρ => exact hB _ h
  | ct ρ => exact hC _ h
  | ex _ _ => exact h.elim
  | bad => exact h.elim
structure WS (r : SRes) (N : Lo → Prop) (R : D → Prop) (B C : Lo → Prop) : Prop where
  go : WS0 r N R B C
theorem WS.mono {r : SRes} {N N' : Lo → Prop} {R R' : D → Prop} {B B' C C' : Lo → Prop} (h : WS r N R B C) (hN : ∀ ρ, N ρ → N' ρ) (hR : ∀ v, R v → R' v) (hB : ∀ ρ, B ρ → B' ρ) (hC : ∀ ρ, C ρ → C' ρ) : WS r N' R' B' C' := ⟨h.go.mono hN hR hB hC⟩
theorem WS0.un {r : SRes} {f : Lo → SRes} {N : Lo → Prop} {R : D → Prop} {B C : Lo → Prop} {R2 : D → Prop} {B2 C2 : Lo → Prop} (h : WS r (fun ρ' => WS (f ρ') N R B C) R2 B2 C2) : WS0 r (fun ρ' => WS0 (f ρ') N R B C) R2 B2 C2 :=
  h.go.mono (fun _ h => h.go) (fun _ h => h) (fun _ h => h) (fun _ h => h)
theorem run_ws {n : Nat} {b : DS} {ds : List D} {P : D → Prop} (h : WS (b (start n ds)) (fun _ => P .none) P No No) : ∃ v, runD n b ds = .ok v ∧ P v := run0_ws h.go
theorem run_eq {n : Nat} {b : DS} {ds : List D} {v : D} (h : WS (b (start n ds)) (fun _ => .none = v) (fun x => x = v) No No) : runD n b ds = .ok v := run0_eq h.go
section
variable {a b s : DS} {ρ : Lo} {N : Lo → Prop} {R : D → Prop} {B C : Lo → Prop} {e : DE} {c : DT} {v : D} {i : Nat}
theorem ws_seq (h : WS (a ρ) (fun ρ' => WS (b ρ') N R B C) R B C) : WS (sSeq a b ρ) N R B C := ⟨w0_seq (WS0.un h)⟩
theorem ws_skip (h : N ρ) : WS (sSkip ρ) N R B C := ⟨w0_skip h⟩
theorem ws_set (he : e ρ = .ok v) (h : N (ρ.set i (some v))) : WS (sSet i e ρ) N R B C := ⟨w0_set he h⟩
theorem ws_setO (he : e ρ = .ok v) (hm : isMut v = true) (h : N (ρ.set i (some v))) : WS (sSetO i e ρ) N R B C := ⟨w0_setO he hm h⟩
theorem ws_ret (he : e ρ = .ok v) (h : R v) : WS (sRet e ρ) N R B C := ⟨w0_ret he h⟩
theorem ws_expr (he : e ρ = .ok v) (h : N ρ) : WS (sExpr e ρ) N R B C := ⟨w0_expr he h⟩
theorem ws_break (h : B ρ) : WS (sBreak ρ) N R B C := ⟨h⟩
theorem ws_cont (h : C ρ) : WS (sCont ρ) N R B C := ⟨h⟩
theorem ws_if {k : Bool} (hc : c ρ = .ok k) (h1 : k = true → WS (a ρ) N R B C) (h2 : k = false → WS (b ρ) N R B C) : WS (sIf c a b ρ) N R B C := ⟨w0_if hc (fun h => (h1 h).go) (fun h => (h2 h).go)⟩
theorem ws_ifT (hc : c ρ = .ok true) (h1 : WS (a ρ) N R B C) : WS (sIf c a b ρ) N R B C := ⟨w0_ifT hc h1.go⟩
theorem ws_ifF (hc : c ρ = .ok false) (h1 : WS (b ρ) N R B C) : WS (sIf c a b ρ) N R B C := ⟨w0_ifF hc h1.go⟩
theorem ws_last (h : WS (s ρ) N R B C) : WS (sSeq s sSkip ρ) N R B C := ws_seq (h.mono (fun _ h => ws_skip h) (fun _ h => h) (fun _ h => h) (fun _ h => h))
/-- what holds behind the first statement -/
theorem ws_cut (M : Lo → Prop) (h : WS (a ρ) M R B C) (h2 : ∀ ρ', M ρ' → WS (b ρ') N R B C) : WS (sSeq a b ρ) N R B C := ws_seq (h.mono h2 (fun _ h => h) (fun _ h => h) (fun _ h => h))
/-- an if whose test fails, and on -/
theorem ws_off (hc : c ρ = .ok false) (h : WS (b ρ) N R B C) : WS (sSeq (sIf c a sSkip) b ρ) N R B C :=
  ws_seq (ws_ifF hc (ws_skip h))
/-- an if whose test holds -/
theorem ws_on (hc : c ρ = .ok true) (h : WS (a ρ) (fun ρ' => WS (b ρ') N R B C) R B C) : WS (sSeq (sIf c a s) b ρ) N R B C :=
  ws_seq (ws_ifT hc h)
/-- an if whose test holds and whose body hands back -/
theorem ws_onret (hc : c ρ = .ok true) (he : e ρ = .ok v) (h : R v) : WS (sSeq (sIf c (sSeq (sRet e) sSkip) s) b ρ) N R B C :=
  ws_on hc (ws_seq (ws_ret he h))
theorem ws_put (he : e ρ = .ok v) (h : WS (b (ρ.set i (some v))) N R B C) : WS (sSeq (sSet i e) b ρ) N R B C := ws_seq (ws_set he h)
theorem ws_putO (he : e ρ = .ok v) (hm : isMut v = true) (h : WS (b (ρ.set i (some v))) N R B C) : WS (sSeq (sSetO i e) b ρ) N R B C := ws_seq (ws_setO he hm h)
theorem ws_back (he : e ρ = .ok v) (h : R v) : WS (sSeq (sRet e) b ρ) N R B C := ws_seq (ws_ret he h)
theorem ws_par {i j : Nat} {d d' : DE} {v w : D} (h1 : d ρ = .ok v) (h2 : d' ρ = .ok w) (h : N ((ρ.set i (some v)).set j (some w))) : WS (sPar i j d d' ρ) N R B C := ⟨w0_par h1 h2 h⟩
theorem ws_unp {g : DG} {ρ' : Lo} (h1 : e ρ = .ok v) (h2 : g v ρ = some ρ') (h : N ρ') : WS (sUnp g e ρ) N R B C := ⟨w0_unp h1 h2 h⟩
theorem ws_aug {f : D → D → Option D} {x y z : D} (h1 : ρ[i]? = some (some x)) (h2 : e ρ = .ok y) (h3 : f x y = some z) (h : N (ρ.set i (some z))) : WS (sAug i f e ρ) N R B C := ⟨w0_aug h1 h2 h3 h⟩
theorem ws_app {ds : List D} (h1 : ρ[i]? = some (some (.list ds))) (h2 : e ρ = .ok v) (h3 : ds.length < 16777216) (h : N (ρ.set i (some (.list (ds ++ [v]))))) : WS (sApp i e ρ) N R B C := ⟨w0_app h1 h2 (by rw [show sizeLine = 16777216 by decide]; exact h3) h⟩
theorem ws_store {ds : List D} {k : DE} {j : Int} {n : Nat} (h1 : e ρ = .ok v) (h2 : ρ[i]? = some (some (.list ds))) (h3 : k ρ = .ok (.int j)) (h4 : L2.ixN ds.length j = some n) (h : N (ρ.set i (some (.list (ds.set n v))))) : WS (sStore i k e ρ) N R B C := ⟨w0_store h1 h2 h3 h4 h⟩
/-- a for: P of what is left and of the slots -/
theorem ws_for {g : DG} {it : DA} {ds : List D} (P : List D → Lo → Prop) (hi : it ρ = .ok ds) (h0 : P ds ρ) (hs : ∀ x xs ρ, P (x :: xs) ρ → ∃ ρ1, g x ρ = some ρ1 ∧ WS (s ρ1) (P xs) R N (P xs)) (hN : ∀ ρ, P [] ρ → N ρ) : WS (sFor g it s ρ) N R B C :=
  ⟨w0_for P hi h0 (fun x xs ρ p => (hs x xs ρ p).imp fun _ h => ⟨h.1, h.2.go⟩) hN⟩
/-- a for over encoded items -/
theorem ws_forE {α : Type} {g : DG} {it : DA} (enc : α → D) (l : List α) (P : List α → Lo → Prop) (hi : it ρ = .ok (l.map enc)) (h0 : P l ρ) (hs : ∀ x xs ρ, P (x :: xs) ρ → ∃ ρ1, g (enc x) ρ = some ρ1 ∧ WS (s ρ1) (P xs) R N (P xs)) (hN : ∀ ρ, P [] ρ → N ρ) : WS (sFor g it s ρ) N R B C :=
  ⟨w0_forE enc l P hi h0 (fun x xs ρ p => (hs x xs ρ p).imp fun _ h => ⟨h.1, h.2.go⟩) hN⟩
/-- a while: P with its measure -/
theorem ws_while {n : Nat} (P : Nat → Lo → Prop) {k : Nat} (hk : k < n) (h0 : P k ρ) (hs : ∀ k ρ, P k ρ → ∃ b, c ρ = .ok b ∧ (b = true → WS (s ρ) (fun ρ' => ∃ j, j < k ∧ P j ρ') R N (fun ρ' => ∃ j, j < k ∧ P j ρ')) ∧ (b = false → N ρ)) : WS (sWhile n c s ρ) N R B C :=
  ⟨w0_while P hk h0 (fun k ρ p => (hs k ρ p).imp fun _ h => ⟨h.1, fun hb => (h.2.1 hb).go, h.2.2⟩)⟩
end
theorem comp_map {α : Type} {g : DG} {e : DE} {ρ : Lo} (enc f : α → D) : ∀ (l : List α), (∀ a ∈ l, ∃ ρ1, g (enc a) ρ = some ρ1 ∧ e ρ1 = .ok (f a)) → compD g tTrue e (l.map enc) ρ = some (l.map f)
  | [], _ => rfl
  | a :: l, h => by
    obtain ⟨ρ1, h1, h2⟩ := h a (by simp)
    have ih := comp_map enc f l fun b hb => h b (by simp [hb])
    simp [compD, h1, h2, tTrue, ih]
theorem comp_filter {α : Type} {g : DG} {c : DT} {e : DE} {ρ : Lo} (enc f : α → D) (p : α → Bool) : ∀ (l : List α), (∀ a ∈ l, ∃ ρ1, g (enc a) ρ = some ρ1 ∧ c ρ1 = .ok (p a) ∧ (p a = true → e ρ1 = .ok (f a))) → compD g c e (l.map enc) ρ = some ((l.filter p).map f)
  | [], _ => rfl
  | a :: l, h => by
    obtain ⟨ρ1, h1, h2, h3⟩ := h a (by simp)
    have ih := comp_filter enc f p l fun b hb => h b (by simp [hb])
    cases hp : p a with
    | true => simp [compD, h1, h2, hp, h3 hp, ih]
    | false => simp [compD, h1, h2, hp, ih]
/-- a comprehension without a test -/
theorem eComp_map {α : Type} {vs : List Nat} {g : DG} {it : DA} {e : DE} {ρ : Lo} (enc f : α → D) (l : List α) (hi : it ρ = .ok (l.map enc)) (h : ∀ a ∈ l, ∃ ρ1, g (enc a) (wipeD ρ vs) = some ρ1 ∧ e ρ1 = .ok (f a)) : eComp vs g it tTrue e ρ = .ok (.list (l.map f)) := by
  unfold eComp
  rw [hi, bind_ok, comp_map enc f l h]; rfl
theorem eComp_filter {α : Type} {vs : List Nat} {g : DG} {it : DA} {c : DT} {e : DE} {ρ : Lo} (enc f : α → D) (p : α → Bool) (l : List α) (hi : it ρ = .ok (l.map enc)) (h : ∀ a ∈ l, ∃ ρ1, g (enc a) (wipeD ρ vs) = some ρ1 ∧ c ρ1 = .ok (p a) ∧ (p a = true → e ρ1 = .ok (f a))) : eComp vs g it c e ρ = .ok (.list ((l.filter p).map f)) := by
  unfold eComp
  rw [hi, bind_ok, comp_filter enc f p l h]; rfl
theorem mulOk_of {i j : Int} {a b : Nat} (ha : i.natAbs < 2 ^ a) (hb : j.natAbs < 2 ^ b) (h0 : 0 < a) (h1 : 0 < b) (h : a + b ≤ 1000000) : mulOk i j = true :=
  decide_eq_true (L2.wide_mul ha hb h0 h1 h)
theorem mulOk_64 {i j : Int} (h1 : -18446744073709551616 < i) (h2 : i < 18446744073709551616) (h3 : -18446744073709551616 < j) (h4 : j < 18446744073709551616) : mulOk i j = true :=
  mulOk_of (a := 64) (b := 64) (by omega) (by omega) (by decide) (by decide) (by decide)
theorem line_eq : sizeLine = 16777216 := by decide
theorem atI_nat' {α : Type} {l : List α} {k : Nat} (h : k < l.length) : L2.atI l (k : Int) = some l[k] := by
  unfold L2.atI L2.ixN
  rw [if_pos (by omega), if_pos (by omega)]
  simp
theorem atI_map {α β : Type} (f : α → β) (l : List α) (i : Int) : L2.atI (l.map f) i = (L2.atI l i).map f := by
  unfold L2.atI
  rw [List.length_map]
  cases L2.ixN l.length i with
  | none => rfl
  | some j => simp
theorem atI_getD {l : List Int} {i : Int} (h0 : 0 ≤ i) (h : i < l.length) : L2.atI l i = some (l.getD i.toNat 0) := by
  unfold L2.atI L2.ixN
  rw [if_pos h0, if_pos h]
  have : i.toNat < l.length := by omega
  simp [List.getD, this]
end PL

end
section
namespace PL
open PySem L2
theorem vMod_pos {i j : Int} (h : 0 < j) : vMod (.int i) (.int j) = some (.int (i % j)) := if_pos h
theorem log2_lt {n k : Nat} (h : n < 2 ^ k) (hk : 0 < k) : n.log2 < k := by
  by_cases h0 : n = 0
  · subst h0; simpa using hk
  · exact (Nat.log2_lt h0).2 h
theorem vDiv_pos {i j : Int} (h : 0 < j) (h2 : j < 18446744073709551616) : vDiv (.int i) (.int j) = some (.int (i / j)) := by
  show (if 0 < j then (if j.natAbs.log2 < 9000 then some (PyData.int (i / j)) else none) else _) = _
  rw [if_pos h, if_pos]
  exact Nat.lt_trans (log2_lt (k := 64) (by omega) (by decide)) (by decide)
theorem vMul_ok {i j : Int} (h : mulOk i j = true) : vMul (.int i) (.int j) = some (.int (i * j)) := if_pos h
theorem vMul_64 {i j : Int} (h1 : -18446744073709551616 < i) (h2 : i < 18446744073709551616) (h3 : -18446744073709551616 < j) (h4 : j < 18446744073709551616) : vMul (.int i) (.int j) = some (.int (i * j)) := vMul_ok (mulOk_64 h1 h2 h3 h4)
theorem vPow_nat {i j : Int} (h : 0 ≤ j) (h2 : j ≤ 1000000) (h3 : i.natAbs < 2 ^ 64) : vPow (.int i) (.int j) = some (.int (i ^ j.toNat)) := if_pos ⟨h, h2, h3⟩
theorem vPow18 : vPow (.int 10) (.int 18) = some (.int 1000000000000000000) := rfl
theorem vPow12 : vPow (.int 10) (.int 12) = some (.int 1000000000000) := rfl
theorem vAdd_int (i j : Int) : vAdd (.int i) (.int j) = some (.int (i + j)) := rfl
theorem vSub_int (i j : Int) : vSub (.int i) (.int j) = some (.int (i - j)) := rfl
theorem vNeg_int (i : Int) : vNeg (.int i) = some (.int (-i)) := rfl
theorem vAbs_int (i : Int) : vAbs (.int i) = some (.int (if i < 0 then -i else i)) := rfl
theorem vInt_int (i : Int) : vInt (.int i) = some (.int i) := rfl
theorem vInt_bool (i : Bool) : vInt (.bool i) = some (.int (if i then 1 else 0)) := rfl
theorem vLt_int (i j : Int) : vLt (.int i) (.int j) = some (.bool (decide (i < j))) := rfl
theorem vLe_int (i j : Int) : vLe (.int i) (.int j) = some (.bool (decide (i ≤ j))) := rfl
theorem vGt_int (i j : Int) : vGt (.int i) (.int j) = some (.bool (decide (j < i))) := rfl
theorem vGe_int (i j : Int) : vGe (.int i) (.int j) = some (.bool (decide (j ≤ i))) := rfl
theorem vTuple_list (l : List D) : vTuple (.list l) = some (.tuple l) := rfl
theorem vTuple_tup (l : List D) : vTuple (.tuple l) = some (.tuple l) := rfl
theorem vList_list (l : List D) : vList (.list l) = some (.list l) := rfl
theorem vList_tup (l : List D) : vList (.tuple l) = some (.list l) := rfl
theorem asB_bool (b : Bool) : asB (.bool b) = some b := rfl
theorem asI_int (b : Int) : asI (.int b) = some b := rfl
theorem vBool_bool (b : Bool) : vBool (.bool b) = some (.bool b) := rfl
theorem vBool_int (b : Int) : vBool (.int b) = some (.bool (b != 0)) := rfl
theorem truthD_bool (b : Bool) : truthD (.bool b) = b := rfl
theorem truthD_int (b : Int) : truthD (.int b) = (b != 0) := rfl
theorem truthD_tup (b : List D) : truthD (.tuple b) = !b.isEmpty := rfl
theorem truthD_list (b : List D) : truthD (.list b) = !b.isEmpty := rfl
theorem truthD_none : truthD .none = false := rfl
theorem vMax2_int (i j : Int) : vMax2 (.int i) (.int j) = some (.int (if j > i then j else i)) := rfl
theorem vMin2_int (i j : Int) : vMin2 (.int i) (.int j) = some (.int (if j < i then j else i)) := rfl
theorem mul_lit2 (j : Int) (h : j.natAbs < 2 ^ 64) : vMul (.int 2) (.int j) = some (.int (2 * j)) := vMul_ok (mulOk_of (a := 64) (b := 64) (by decide) h (by decide) (by decide) (by decide))
theorem fine_int (i : Int) : fine (.int i) = true := rfl
theorem fine_bool (i : Bool) : fine (.bool i) = true := rfl
theorem fine_str (i : Str) : fine (.str i) = true := rfl
theorem fine_none : fine .none = true := rfl
theorem vEq_int (i j : Int) : vEq (.int i) (.int j) = some (.bool (decide (i = j))) := by
  show (if _ then some (PyData.bool (PyData.eqv (.int i) (.int j))) else none) = _
  rw [if_pos ⟨rfl, rfl⟩]
  simp only [PyData.eqv, Option.some.injEq, PyData.bool.injEq]
  exact Bool.eq_iff_iff.2 (by simp)
theorem vNe_int (i j : Int) : vNe (.int i) (.int j) = some (.bool (decide (i ≠ j))) := by
  show (if _ then some (PyData.bool (!PyData.eqv (.int i) (.int j))) else none) = _
  rw [if_pos ⟨rfl, rfl⟩]
  simp only [PyData.eqv, Option.some.injEq, PyData.bool.injEq]
  exact Bool.eq_iff_iff.2 (by simp)
theorem vEq_bool (i j : Bool) : vEq (.bool i) (.bool j) = some (.bool (decide (i = j))) := by
  show (if _ then some (PyData.bool (PyData.eqv (.bool i) (.bool j))) else none) = _
  rw [if_pos ⟨rfl, rfl⟩]
  simp only [PyData.eqv, Option.some.injEq, PyData.bool.injEq]
  exact Bool.eq_iff_iff.2 (by simp)
theorem vNe_bool (i j : Bool) : vNe (.bool i) (.bool j) = some (.bool (decide (i ≠ j))) := by
  show (if _ then some (PyData.bool (!PyData.eqv (.bool i) (.bool j))) else none) = _
  rw [if_pos ⟨rfl, rfl⟩]
  simp only [PyData.eqv, Option.some.injEq, PyData.bool.injEq]
  exact Bool.eq_iff_iff.2 (by simp)
theorem vNe_str (i j : Str) : vNe (.str i) (.str j) = some (.bool (decide (i ≠ j))) := by
  show (if _ then some (PyData.bool (!PyData.eqv (.str i) (.str j))) else none) = _
  rw [if_pos ⟨rfl, rfl⟩]
  simp only [PyData.eqv, Option.some.injEq, PyData.bool.injEq]
  exact Bool.eq_iff_iff.2 (by simp)
theorem vEq_str (i j : Str) : vEq (.str i) (.str j) = some (.bool (decide (i = j))) := by
  show (if _ then some (PyData.bool (PyData.eqv (.str i) (.str j))) else none) = _
  rw [if_pos ⟨rfl, rfl⟩]
  simp only [PyData.eqv, Option.some.injEq, PyData.bool.injEq]
  exact Bool.eq_iff_iff.2 (by simp)
theorem noDicts_int : ∀ l : List Int, noDicts (l.map .int) = true
  | [] => rfl
  | _ :: l => by simp [noDicts, noDict, noDicts_int l]
theorem depthAll_int : ∀ l : List Int, PyData.depthAll (l.map .int) = 0
  | [] => rfl
  | a :: l => by simp [PyData.depthAll, PyData.depth, depthAll_int l]
theorem fine_tupI (l : List Int) : fine (.tuple (l.map .int)) = true := by
  simp [fine, noDict, noDicts_int, PyData.depth, depthAll_int]
theorem fine_listI (l : List Int) : fine (.list (l.map .int)) = true := by
  simp [fine, noDict, noDicts_int, PyData.depth, depthAll_int]
theorem eqvAll_int : ∀ l m : List Int, PyData.eqvAll (l.map .int) (m.map .int) = decide (l = m)
  | [], [] => rfl
  | [], _ :: _ => by simp [PyData.eqvAll]
  | _ :: _, [] => by simp [PyData.eqvAll]
  | a :: l, b :: m => by
    simp only [List.map_cons, PyData.eqvAll, PyData.eqv, eqvAll_int l m]
    exact Bool.eq_iff_iff.2 (by simp)
theorem vEq_tupI (l m : List Int) : vEq (.tuple (l.map .int)) (.tuple (m.map .int)) = some (.bool (decide (l = m))) := by
  show (if _ then some (PyData.bool (PyData.eqvAll _ _)) else none) = _
  rw [if_pos ⟨fine_tupI l, fine_tupI m⟩, eqvAll_int]
theorem vNe_tupI (l m : List Int) : vNe (.tuple (l.map .int)) (.tuple (m.map .int)) = some (.bool (decide (l ≠ m))) := by
  show (if _ then some (PyData.bool (!PyData.eqvAll _ _)) else none) = _
  rw [if_pos ⟨fine_tupI l, fine_tupI m⟩, eqvAll_int]
  exact congrArg (fun b => some (PyData.bool b)) (Bool.eq_iff_iff.2 (by simp))
theorem vEq_listI (l m : List Int) : vEq (.list (l.map .int)) (.list (m.map .int)) = some (.bool (decide (l = m))) := by
  show (if _ then some (PyData.bool (PyData.eqvAll _ _)) else none) = _
  rw [if_pos ⟨fine_listI l, fine_listI m⟩, eqvAll_int]
theorem vIdx_list {l : List D} {i : Int} (h0 : 0 ≤ i) (h : i < l.length) : vIdx (.list l) (.int i) = l[i.toNat]? := by
  show L2.atI l i = _
  unfold L2.atI L2.ixN
  rw [if_pos h0, if_pos h]; rfl
theorem vIdx_tup {l : List D} {i : Int} (h0 : 0 ≤ i) (h : i < l.length) : vIdx (.tuple l) (.int i) = l[i.toNat]? := vIdx_list h0 h
theorem vIdx_listI {l : List Int} {i : Int} (h0 : 0 ≤ i) (h : i < l.length) : vIdx (.list (l.map .int)) (.int i) = some (.int (l.getD i.toNat 0)) := by
  rw [vIdx_list h0 (by simpa using h)]
  have : i.toNat < l.length := by omega
  simp [List.getD, this]
theorem vIdx_tupI {l : List Int} {i : Int} (h0 : 0 ≤ i) (h : i < l.length) : vIdx (.tuple (l.map .int)) (.int i) = some (.int (l.getD i.toNat 0)) := vIdx_listI h0 h
theorem vLen_list (l : List D) : vLen (.list l) = some (.int l.length) := rfl
theorem vLen_tup (l : List D) : vLen (.tuple l) = some (.int l.length) := rfl
theorem vLen_listI (l : List Int) : vLen (.list (l.map .int)) = some (.int l.length) := by rw [vLen_list, List.length_map]
theorem vLen_tupI (l : List Int) : vLen (.tuple (l.map .int)) = some (.int l.length) := by rw [vLen_tup, List.length_map]
theorem getD_mem {l : List Int} {i : Nat} (h : i < l.length) : l.getD i 0 ∈ l := by
  simp [List.getD, h]
theorem sIx_nat {n d k : Nat} (h : k ≤ n) : HT.sIx n d (some (k : Int)) = k := by
  unfold HT.sIx
  show (if (k : Int) < 0 then _ else min (k : Int).toNat n) = k
  rw [if_neg (by omega)]; omega
theorem vSlice_to {l : List D} {k : Nat} (h : k ≤ l.length) : vSlice (.tuple l) none (some (k : Int)) = some (.tuple (l.take k)) := by
  show some (PyData.tuple ((l.drop 0).take (HT.sIx l.length l.length (some (k : Int)) - 0))) = _
  rw [sIx_nat h]; rfl
theorem vSlice_from {l : List D} {k : Nat} (h : k ≤ l.length) : vSlice (.tuple l) (some (k : Int)) none = some (.tuple (l.drop k)) := by
  show some (PyData.tuple ((l.drop (HT.sIx l.length 0 (some (k : Int)))).take (l.length - HT.sIx l.length 0 (some (k : Int))))) = _
  rw [sIx_nat h, List.take_of_length_le (by simp)]
theorem vSlice_toI {l : List Int} {k : Nat} (h : k ≤ l.length) : vSlice (.tuple (l.map .int)) none (some (k : Int)) = some (.tuple ((l.take k).map .int)) := by
  rw [vSlice_to (by simpa using h), List.map_take]
theorem vAdd_tup {a b : List D} (h : a.length + b.length ≤ 16777216) : vAdd (.tuple a) (.tuple b) = some (.tuple (a ++ b)) := if_pos (by rw [show sizeLine = 16777216 by decide]; exact h)
theorem vAdd_list {a b : List D} (h : a.length + b.length ≤ 16777216) : vAdd (.list a) (.list b) = some (.list (a ++ b)) := if_pos (by rw [show sizeLine = 16777216 by decide]; exact h)
theorem vAdd_tupI {a b : List Int} (h : a.length + b.length ≤ 16777216) : vAdd (.tuple (a.map .int)) (.tuple (b.map .int)) = some (.tuple ((a ++ b).map .int)) := by
  rw [vAdd_tup (by simpa using h), List.map_append]
theorem vSlice_fromI {l : List Int} {k : Nat} (h : k ≤ l.length) : vSlice (.tuple (l.map .int)) (some (k : Int)) none = some (.tuple ((l.drop k).map .int)) := by
  rw [vSlice_from (by simpa using h), List.map_drop]
theorem rangeD_nat (lo hi : Int) : rangeD lo hi = (List.range (hi - lo).toNat).map fun i => .int (lo + (i : Nat)) := rfl
theorem rangeD0 (n : Nat) : rangeD 0 (n : Int) = (List.range n).map fun i : Nat => PyData.int (i : Nat) := by
  simp [rangeD]
theorem inR_i {i : Int} (h : -4611686018427387904 ≤ i) (h2 : i < 4611686018427387904) : inR i = true := by
  simp [inR]; omega
theorem iR1_nat {b : Bool} {d : DE} {ρ : Lo} {n : Nat} (h : d ρ = .ok (.int n)) (hn : n ≤ 16777216) : iR1 b d ρ = .ok ((List.range n).map fun i : Nat => PyData.int (i : Nat)) := by
  unfold iR1
  rw [h, bind_ok]
  show Res.up (if inR (n : Int) = true ∧ (b = true → (n : Int).toNat ≤ sizeLine) then some (rangeD 0 n) else none) = _
  rw [if_pos ⟨inR_i (by omega) (by omega), fun _ => by rw [line_eq]; omega⟩, rangeD0]; rfl
theorem iR2_nat {b : Bool} {d d' : DE} {ρ : Lo} {lo hi : Nat} (h : d ρ = .ok (.int lo)) (h' : d' ρ = .ok (.int hi)) (hn : lo ≤ 16777216) (hn : hi ≤ 16777216) : iR2 b d d' ρ = .ok ((List.range' lo (hi - lo)).map fun i : Nat => PyData.int (i : Nat)) := by
  unfold iR2
  rw [h, bind_ok, h', bind_ok]
  show Res.up (if inR (lo : Int) = true ∧ inR (hi : Int) = true ∧ (b = true → ((hi : Int) - lo).toNat ≤ sizeLine) then some (rangeD lo hi) else none) = _
  rw [if_pos ⟨inR_i (by omega) (by omega), inR_i (by omega) (by omega), fun _ => by rw [line_eq]; omega⟩]
  rw [up_some, rangeD, List.range'_eq_map_range, List.map_map]
  have : ((hi : Int) - lo).toNat = hi - lo := by omega
  rw [this]
  congr 1
theorem eUn_ok {f : D → Option D} {e : DE} {ρ : Lo} {v w : D} (h : e ρ = .ok v) (h2 : f v = some w) : eUn f e ρ = .ok w := by
  unfold eUn; rw [h, bind_ok, h2]; rfl
theorem vAll_map {α : Type} (l : List α) (f : α → Bool) : vAll (.list (l.map fun a => .bool (f a))) = some (.bool (l.all f)) := by
  have : (l.map fun a => PyData.bool (f a)) = (l.map f).map .bool := by simp
  show (allBool _).map _ = _
  rw [this, allBool_map]; simp
theorem vAny_map {α : Type} (l : List α) (f : α → Bool) : vAny (.list (l.map fun a => .bool (f a))) = some (.bool (l.any f)) := by
  have : (l.map fun a => PyData.bool (f a)) = (l.map f).map .bool := by simp
  show (allBool _).map _ = _
  rw [this, allBool_map]; simp
theorem vSum_map {α : Type} (l : List α) (f : α → Int) : vSum2 (.list (l.map fun a => .int (f a))) = some (.int (l.map f).sum) := by
  have : (l.map fun a => PyData.int (f a)) = (l.map f).map .int := by simp
  show (allInt _).map _ = _
  rw [this, allInt_map]; simp
theorem eAll_comp {α : Type} {vs : List Nat} {g : DG} {it : DA} {e : DE} {ρ : Lo} (enc : α → D) (f : α → Bool) (l : List α) (hi : it ρ = .ok (l.map enc)) (h : ∀ a ∈ l, ∃ ρ1, g (enc a) (wipeD ρ vs) = some ρ1 ∧ e ρ1 = .ok (.bool (f a))) : eUn vAll (eComp vs g it tTrue e) ρ = .ok (.bool (l.all f)) :=
  eUn_ok (eComp_map enc (fun a => .bool (f a)) l hi h) (vAll_map l f)
theorem eAny_comp {α : Type} {vs : List Nat} {g : DG} {it : DA} {e : DE} {ρ : Lo} (enc : α → D) (f : α → Bool) (l : List α) (hi : it ρ = .ok (l.map enc)) (h : ∀ a ∈ l, ∃ ρ1, g (enc a) (wipeD ρ vs) = some ρ1 ∧ e ρ1 = .ok (.bool (f a))) : eUn vAny (eComp vs g it tTrue e) ρ = .ok (.bool (l.any f)) :=
  eUn_ok (eComp_map enc (fun a => .bool (f a)) l hi h) (vAny_map l f)
theorem eTup_comp {α : Type} {vs : List Nat} {g : DG} {it : DA} {e : DE} {ρ : Lo} (enc f : α → D) (l : List α) (hi : it ρ = .ok (l.map enc)) (h : ∀ a ∈ l, ∃ ρ1, g (enc a) (wipeD ρ vs) = some ρ1 ∧ e ρ1 = .ok (f a)) : eUn vTuple (eComp vs g it tTrue e) ρ = .ok (.tuple (l.map f)) :=
  eUn_ok (eComp_map enc f l hi h) rfl
theorem eTup_compI {α : Type} {vs : List Nat} {g : DG} {it : DA} {e : DE} {ρ : Lo} (enc : α → D) (f : α → Int) (l : List α) (hi : it ρ = .ok (l.map enc)) (h : ∀ a ∈ l, ∃ ρ1, g (enc a) (wipeD ρ vs) = some ρ1 ∧ e ρ1 = .ok (.int (f a))) : eUn vTuple (eComp vs g it tTrue e) ρ = .ok (.tuple ((l.map f).map .int)) := by
  rw [eTup_comp enc (fun a => .int (f a)) l hi h, List.map_map]; rfl
theorem sum_comp {α : Type} {vs : List Nat} {g : DG} {it : DA} {e : DE} {ρ : Lo} (enc : α → D) (f : α → Int) (l : List α) (hi : it ρ = .ok (l.map enc)) (h : ∀ a ∈ l, ∃ ρ1, g (enc a) (wipeD ρ vs) = some ρ1 ∧ e ρ1 = .ok (.int (f a))) : eUn vSum2 (eComp vs g it tTrue e) ρ = .ok (.int (l.map f).sum) :=
  eUn_ok (eComp_map enc (fun a => .int (f a)) l hi h) (vSum_map l f)
theorem kit_tuple_n : kitB "NoneType" "tuple" = some false := by decide +kernel
theorem isi_tuple_n : vIsi "tuple" .none = some (.bool false) := by show (kitB "NoneType" "tuple").map PyData.bool = _; rw [kit_tuple_n]; rfl
theorem kit_tuple_b : kitB "bool" "tuple" = some false := by decide +kernel
theorem isi_tuple_b (x : Bool) : vIsi "tuple" (.bool x) = some (.bool false) := by show (kitB "bool" "tuple").map PyData.bool = _; rw [kit_tuple_b]; rfl
theorem kit_tuple_i : kitB "int" "tuple" = some false := by decide +kernel
theorem isi_tuple_i (x : Int) : vIsi "tuple" (.int x) = some (.bool false) := by show (kitB "int" "tuple").map PyData.bool = _; rw [kit_tuple_i]; rfl
theorem kit_tuple_s : kitB "str" "tuple" = some false := by decide +kernel
theorem isi_tuple_s (x : Str) : vIsi "tuple" (.str x) = some (.bool false) := by show (kitB "str" "tuple").map PyData.bool = _; rw [kit_tuple_s]; rfl
theorem kit_tuple_l : kitB "list" "tuple" = some false := by decide +kernel
theorem isi_tuple_l (x : List D) : vIsi "tuple" (.list x) = some (.bool false) := by show (kitB "list" "tuple").map PyData.bool = _; rw [kit_tuple_l]; rfl
theorem kit_tuple_t : kitB "tuple" "tuple" = some true := by decide +kernel
theorem isi_tuple_t (x : List D) : vIsi "tuple" (.tuple x) = some (.bool true) := by show (kitB "tuple" "tuple").map PyData.bool = _; rw [kit_tuple_t]; rfl
theorem kit_tuple_d : kitB "dict" "tuple" = some false := by decide +kernel
theorem isi_tuple_d (x : List (D × D)) : vIsi "tuple" (.dict x) = some (.bool false) := by show (kitB "dict" "tuple").map PyData.bool = _; rw [kit_tuple_d]; rfl
theorem kit_bool_n : kitB "NoneType" "bool" = some false := by decide +kernel
theorem isi_bool_n : vIsi "bool" .none = some (.bool false) := by show (kitB "NoneType" "bool").map PyData.bool = _; rw [kit_bool_n]; rfl
theorem kit_bool_b : kitB "bool" "bool" = some true := by decide +kernel
theorem isi_bool_b (x : Bool) : vIsi "bool" (.bool x) = some (.bool true) := by show (kitB "bool" "bool").map PyData.bool = _; rw [kit_bool_b]; rfl
theorem kit_bool_i : kitB "int" "bool" = some false := by decide +kernel
theorem isi_bool_i (x : Int) : vIsi "bool" (.int x) = some (.bool false) := by show (kitB "int" "bool").map PyData.bool = _; rw [kit_bool_i]; rfl
theorem kit_bool_s : kitB "str" "bool" = some false := by decide +kernel
theorem isi_bool_s (x : Str) : vIsi "bool" (.str x) = some (.bool false) := by show (kitB "str" "bool").map PyData.bool = _; rw [kit_bool_s]; rfl
theorem kit_bool_l : kitB "list" "bool" = some false := by decide +kernel
theorem isi_bool_l (x : List D) : vIsi "bool" (.list x) = some (.bool false) := by show (kitB "list" "bool").map PyData.bool = _; rw [kit_bool_l]; rfl
theorem kit_bool_t : kitB "tuple" "bool" = some false := by decide +kernel
theorem isi_bool_t (x : List D) : vIsi "bool" (.tuple x) = some (.bool false) := by show (kitB "tuple" "bool").map PyData.bool = _; rw [kit_bool_t]; rfl
theorem kit_bool_d : kitB "dict" "bool" = some false := by decide +kernel
theorem isi_bool_d (x : List (D × D)) : vIsi "bool" (.dict x) = some (.bool false) := by show (kitB "dict" "bool").map PyData.bool = _; rw [kit_bool_d]; rfl
theorem kit_int_n : kitB "NoneType" "int" = some false := by decide +kernel
theorem isi_int_n : vIsi "int" .none = some (.bool false) := by show (kitB "NoneType" "int").map PyData.bool = _; rw [kit_int_n]; rfl
theorem kit_int_b : kitB "bool" "int" = some true := by decide +kernel
theorem isi_int_b (x : Bool) : vIsi "int" (.bool x) = some (.bool true) := by show (kitB "bool" "int").map PyData.bool = _; rw [kit_int_b]; rfl
theorem kit_int_i : kitB "int" "int" = some true := by decide +kernel
theorem isi_int_i (x : Int) : vIsi "int" (.int x) = some (.bool true) := by show (kitB "int" "int").map PyData.bool = _; rw [kit_int_i]; rfl
theorem kit_int_s : kitB "str" "int" = some false := by decide +kernel
theorem isi_int_s (x : Str) : vIsi "int" (.str x) = some (.bool false) := by show (kitB "str" "int").map PyData.bool = _; rw [kit_int_s]; rfl
theorem kit_int_l : kitB "list" "int" = some false := by decide +kernel
theorem isi_int_l (x : List D) : vIsi "int" (.list x) = some (.bool false) := by show (kitB "list" "int").map PyData.bool = _; rw [kit_int_l]; rfl
theorem kit_int_t : kitB "tuple" "int" = some false := by decide +kernel
theorem isi_int_t (x : List D) : vIsi "int" (.tuple x) = some (.bool false) := by show (kitB "tuple" "int").map PyData.bool = _; rw [kit_int_t]; rfl
theorem kit_int_d : kitB "dict" "int" = some false := by decide +kernel
theorem isi_int_d (x : List (D × D)) : vIsi "int" (.dict x) = some (.bool false) := by show (kitB "dict" "int").map PyData.bool = _; rw [kit_int_d]; rfl
theorem kit_str_n : kitB "NoneType" "str" = some false := by decide +kernel
theorem isi_str_n : vIsi "str" .none = some (.bool false) := by show (kitB "NoneType" "str").map PyData.bool = _; rw [kit_str_n]; rfl
theorem kit_str_b : kitB "bool" "str" = some false := by decide +kernel
theorem isi_str_b (x : Bool) : vIsi "str" (.bool x) = some (.bool false) := by show (kitB "bool" "str").map PyData.bool = _; rw [kit_str_b]; rfl
theorem kit_str_i : kitB "int" "str" = some false := by decide +kernel
theorem isi_str_i (x : Int) : vIsi "str" (.int x) = some (.bool false) := by show (kitB "int" "str").map PyData.bool = _; rw [kit_str_i]; rfl
theorem kit_str_s : kitB "str" "str" = some true := by decide +kernel
theorem isi_str_s (x : Str) : vIsi "str" (.str x) = some (.bool true) := by show (kitB "str" "str").map PyData.bool = _; rw [kit_str_s]; rfl
theorem kit_str_l : kitB "list" "str" = some false := by decide +kernel
theorem isi_str_l (x : List D) : vIsi "str" (.list x) = some (.bool false) := by show (kitB "list" "str").map PyData.bool = _; rw [kit_str_l]; rfl
theorem kit_str_t : kitB "tuple" "str" = some false := by decide +kernel
theorem isi_str_t (x : List D) : vIsi "str" (.tuple x) = some (.bool false) := by show (kitB "tuple" "str").map PyData.bool = _; rw [kit_str_t]; rfl
theorem kit_str_d : kitB "dict" "str" = some false := by decide +kernel
theorem isi_str_d (x : List (D × D)) : vIsi "str" (.dict x) = some (.bool false) := by show (kitB "dict" "str").map PyData.bool = _; rw [kit_str_d]; rfl
theorem kit_list_n : kitB "NoneType" "list" = some false := by decide +kernel
theorem isi_list_n : vIsi "list" .none = some (.bool false) := by show (kitB "NoneType" "list").map PyData.bool = _; rw [kit_list_n]; rfl
theorem kit_list_b : kitB "bool" "list" = some false := by decide +kernel
theorem isi_list_b (x : Bool) : vIsi "list" (.bool x) = some (.bool false) := by show (kitB "bool" "list").map PyData.bool = _; rw [kit_list_b]; rfl
theorem kit_list_i : kitB "int" "list" = some false := by decide +kernel
theorem isi_list_i (x : Int) : vIsi "list" (.int x) = some (.bool false) := by show (kitB "int" "list").map PyData.bool = _; rw [kit_list_i]; rfl
theorem kit_list_s : kitB "str" "list" = some false := by decide +kernel
theorem isi_list_s (x : Str) : vIsi "list" (.str x) = some (.bool false) := by show (kitB "str" "list").map PyData.bool = _; rw [kit_list_s]; rfl
theorem kit_list_l : kitB "list" "list" = some true := by decide +kernel
theorem isi_list_l (x : List D) : vIsi "list" (.list x) = some (.bool true) := by show (kitB "list" "list").map PyData.bool = _; rw [kit_list_l]; rfl
theorem kit_list_t : kitB "tuple" "list" = some false := by decide +kernel
theorem isi_list_t (x : List D) : vIsi "list" (.tuple x) = some (.bool false) := by show (kitB "tuple" "list").map PyData.bool = _; rw [kit_list_t]; rfl
theorem kit_list_d : kitB "dict" "list" = some false := by decide +kernel
theorem isi_list_d (x : List (D × D)) : vIsi "list" (.dict x) = some (.bool false) := by show (kitB "dict" "list").map PyData.bool = _; rw [kit_list_d]; rfl
theorem kit_dict_n : kitB "NoneType" "dict" = some false := by decide +kernel
theorem isi_dict_n : vIsi "dict" .none = some (.bool false) := by show (kitB "NoneType" "dict").map PyData.bool = _; rw [kit_dict_n]; rfl
theorem kit_dict_b : kitB "bool" "dict" = some false := by decide +kernel
theorem isi_dict_b (x : Bool) : vIsi "dict" (.bool x) = some (.bool false) := by show (kitB "bool" "dict").map PyData.bool = _; rw [kit_dict_b]; rfl
theorem kit_dict_i : kitB "int" "dict" = some false := by decide +kernel
theorem isi_dict_i (x : Int) : vIsi "dict" (.int x) = some (.bool false) := by show (kitB "int" "dict").map PyData.bool = _; rw [kit_dict_i]; rfl
theorem kit_dict_s : kitB "str" "dict" = some false := by decide +kernel
theorem isi_dict_s (x : Str) : vIsi "dict" (.str x) = some (.bool false) := by show (kitB "str" "dict").map PyData.bool = _; rw [kit_dict_s]; rfl
theorem kit_dict_l : kitB "list" "dict" = some false := by decide +kernel
theorem isi_dict_l (x : List D) : vIsi "dict" (.list x) = some (.bool false) := by show (kitB "list" "dict").map PyData.bool = _; rw [kit_dict_l]; rfl
theorem kit_dict_t : kitB "tuple" "dict" = some false := by decide +kernel
theorem isi_dict_t (x : List D) : vIsi "dict" (.tuple x) = some (.bool false) := by show (kitB "tuple" "dict").map PyData.bool = _; rw [kit_dict_t]; rfl
theorem kit_dict_d : kitB "dict" "dict" = some true := by decide +kernel
theorem isi_dict_d (x : List (D × D)) : vIsi "dict" (.dict x) = some (.bool true) := by show (kitB "dict" "dict").map PyData.bool = _; rw [kit_dict_d]; rfl
theorem isN_n : vIsN .none .none = some (.bool true) := rfl
theorem notN_n : vNotN .none .none = some (.bool false) := rfl
theorem isN_b (x : Bool) : vIsN (.bool x) .none = some (.bool false) := rfl
theorem notN_b (x : Bool) : vNotN (.bool x) .none = some (.bool true) := rfl
theorem isN_i (x : Int) : vIsN (.int x) .none = some (.bool false) := rfl
theorem notN_i (x : Int) : vNotN (.int x) .none = some (.bool true) := rfl
theorem isN_s (x : Str) : vIsN (.str x) .none = some (.bool false) := rfl
theorem notN_s (x : Str) : vNotN (.str x) .none = some (.bool true) := rfl
theorem isN_l (x : List D) : vIsN (.list x) .none = some (.bool false) := rfl
theorem notN_l (x : List D) : vNotN (.list x) .none = some (.bool true) := rfl
theorem isN_t (x : List D) : vIsN (.tuple x) .none = some (.bool false) := rfl
theorem notN_t (x : List D) : vNotN (.tuple x) .none = some (.bool true) := rfl
theorem isN_d (x : List (D × D)) : vIsN (.dict x) .none = some (.bool false) := rfl
theorem notN_d (x : List (D × D)) : vNotN (.dict x) .none = some (.bool true) := rfl

theorem vSum2_listI (l : List Int) : vSum2 (.list (l.map .int)) = some (.int l.sum) := by
  show (allInt _).map _ = _
  rw [allInt_map]; rfl
theorem vSum2_tupI (l : List Int) : vSum2 (.tuple (l.map .int)) = some (.int l.sum) := vSum2_listI l
def maxO (l : List Int) : Int := (maxI l).getD 0
def minO (l : List Int) : Int := (minI l).getD 0
theorem vMax1_I {l : List Int} (h : l ≠ []) : vMax1 (.list (l.map .int)) = some (.int (maxO l)) := by
  show ((allInt _).bind maxI).map _ = _
  rw [allInt_map]
  cases l with
  | nil => exact absurd rfl h
  | cons x r => rfl
theorem vMin1_I {l : List Int} (h : l ≠ []) : vMin1 (.list (l.map .int)) = some (.int (minO l)) := by
  show ((allInt _).bind minI).map _ = _
  rw [allInt_map]
  cases l with
  | nil => exact absurd rfl h
  | cons x r => rfl
theorem vMax1D_I {l : List Int} (h : l ≠ []) : vMax1D (.list (l.map .int)) = some (.int (maxO l)) := by
  unfold vMax1D
  rw [vMax1_I h]
theorem vMin1D_I {l : List Int} (h : l ≠ []) : vMin1D (.list (l.map .int)) = some (.int (minO l)) := by
  unfold vMin1D
  rw [vMin1_I h]
theorem allInt_row (t : List Int) (r : List D) : allInt (.tuple (t.map .int) :: r) = none := rfl
abbrev rwI (a : List Int) : D := .tuple (a.map .int)
theorem allRow_map : ∀ m : List (List Int), allRow (m.map rwI) = some m
  | [] => rfl
  | a :: m => by
    rw [List.map_cons, allRow, allInt_map, allRow_map m]
    rfl
/-- the least of rows is one of them -/
theorem foldMin_mem (lt : D → D → Bool) : ∀ (xs : List D) (x : D), xs.foldl (fun a y => if lt y a then y else a) x ∈ x :: xs
  | [], x => by simp
  | y :: xs, x => by
    rw [List.foldl_cons]
    have h := foldMin_mem lt xs (if lt y x then y else x)
    rcases List.mem_cons.1 h with h | h
    · rw [h]
      split <;> simp
    · simp [h]
theorem minD_mem (x : D) (xs : List D) : W.minD x xs ∈ x :: xs := foldMin_mem W.dataLt xs x
def minR (m : List (List Int)) : D := match m.map rwI with
  | [] => .none
  | x :: xs => W.minD x xs
theorem minR_mem {m : List (List Int)} (h : m ≠ []) : ∃ a ∈ m, minR m = .tuple (a.map .int) := by
  cases m with
  | nil => exact absurd rfl h
  | cons a m =>
    have h1 : minR (a :: m) ∈ (a :: m).map rwI := minD_mem (rwI a) (m.map rwI)
    obtain ⟨b, hb, e⟩ := List.mem_map.1 h1
    exact ⟨b, hb, e.symm⟩
theorem vMin1D_R {m : List (List Int)} (h : m ≠ []) : vMin1D (.list (m.map rwI)) = some (minR m) := by
  cases m with
  | nil => exact absurd rfl h
  | cons a m =>
    have h0 : vMin1 (.list ((a :: m).map rwI)) = none := by
      show ((allInt ((a :: m).map rwI)).bind minI).map PyData.int = none
      rw [List.map_cons, allInt_row]
      rfl
    unfold vMin1D
    rw [h0]
    show (allRow ((a :: m).map rwI)).bind _ = _
    rw [allRow_map]
    rfl
theorem maxO_spec {l : List Int} (h : l ≠ []) : maxO l ∈ l ∧ ∀ y ∈ l, y ≤ maxO l := by
  cases l with
  | nil => exact absurd rfl h
  | cons x r =>
    obtain ⟨h1, h2, h3⟩ := maxL_spec r x
    refine ⟨?_, fun y hy => ?_⟩
    · show maxL x r ∈ x :: r
      rcases h1 with h1 | h1
      · rw [h1]; simp
      · simp [h1]
    · rcases List.mem_cons.1 hy with rfl | hy
      · exact h2
      · exact h3 y hy
theorem minO_spec {l : List Int} (h : l ≠ []) : minO l ∈ l ∧ ∀ y ∈ l, minO l ≤ y := by
  cases l with
  | nil => exact absurd rfl h
  | cons x r =>
    obtain ⟨h1, h2, h3⟩ := minL_spec r x
    refine ⟨?_, fun y hy => ?_⟩
    · show minL x r ∈ x :: r
      rcases h1 with h1 | h1
      · rw [h1]; simp
      · simp [h1]
    · rcases List.mem_cons.1 hy with rfl | hy
      · exact h2
      · exact h3 y hy
theorem eqv_int (i j : Int) : PyData.eqv (.int i) (.int j) = decide (i = j) := by
  simp only [PyData.eqv]
  exact Bool.eq_iff_iff.2 (by simp)
theorem findIdx_int (l : List Int) (i : Int) : (l.map PyData.int).findIdx? (fun z => PyData.eqv z (.int i)) = l.findIdx? (fun z => decide (z = i)) := by
  rw [List.findIdx?_map]
  exact congrArg (fun p => l.findIdx? p) (funext fun z => eqv_int z i)
theorem vIndex_int {l : List Int} {i : Int} {j : Nat} (h : l.findIdx? (fun z => decide (z = i)) = some j) : vIndex (.list (l.map .int)) (.int i) = some (.int j) := by
  show (if _ then _ else none) = _
  rw [if_pos ⟨rfl, fine_listI l⟩, findIdx_int, h]; rfl
theorem eMeL_eq {f : D → D → Option D} {da db : DE} {ρ : Lo} {l : List D} {w v : D} (h1 : da ρ = .ok (.list l)) (h2 : db ρ = .ok w) (h3 : f (.list l) w = some v) : eMeL f da db ρ = .ok v := by
  unfold eMeL
  rw [h1, bind_ok, if_pos (show isListD (PyData.list l) = true from rfl), h2, bind_ok, h3, up_some]
theorem iVal_tup {e : DE} {ρ : Lo} {l : List D} (h : e ρ = .ok (.tuple l)) : iVal e ρ = .ok l := by
  unfold iVal; rw [h]; rfl
theorem iVal_list {e : DE} {ρ : Lo} {l : List D} (h : e ρ = .ok (.list l)) : iVal e ρ = .ok l := by
  unfold iVal; rw [h]; rfl
theorem eLen_filter {α : Type} {vs : List Nat} {g : DG} {it : DA} {c : DT} {e : DE} {ρ : Lo} (enc f : α → D) (p : α → Bool) (l : List α) (hi : it ρ = .ok (l.map enc)) (h : ∀ a ∈ l, ∃ ρ1, g (enc a) (wipeD ρ vs) = some ρ1 ∧ c ρ1 = .ok (p a) ∧ (p a = true → e ρ1 = .ok (f a))) : eUn vLen (eComp vs g it c e) ρ = .ok (.int ((l.filter p).length : Nat)) := by
  exact eUn_ok (eComp_filter enc f p l hi h) (by rw [vLen_list, List.length_map])
def mkT (xs : List D) : Res D := if xs.length ≤ sizeLine then .ok (.tuple xs) else .bad
def mkL (xs : List D) : Res D := if xs.length ≤ sizeLine then .ok (.list xs) else .bad
theorem mkT_ok {xs : List D} (h : xs.length ≤ 16777216) : mkT xs = .ok (.tuple xs) := if_pos (by rw [line_eq]; exact h)
theorem mkL_ok {xs : List D} (h : xs.length ≤ 16777216) : mkL xs = .ok (.list xs) := if_pos (by rw [line_eq]; exact h)
theorem eTup_eq (d : DA) (ρ : Lo) : eTup d ρ = (d ρ).bind mkT := Eq.trans rfl rfl
theorem eLst_eq (d : DA) (ρ : Lo) : eLst d ρ = (d ρ).bind mkL := Eq.trans rfl rfl
theorem vIdx_t0 (a : D) (l : List D) : vIdx (.tuple (a :: l)) (.int 0) = some a := by
  rw [vIdx_tup (by decide) (by simp <;> omega)]; rfl
theorem vIdx_t1 (a b : D) (l : List D) : vIdx (.tuple (a :: b :: l)) (.int 1) = some b := by
  rw [vIdx_tup (by decide) (by simp <;> omega)]; rfl
theorem vIdx_t2 (a b c : D) (l : List D) : vIdx (.tuple (a :: b :: c :: l)) (.int 2) = some c := by
  rw [vIdx_tup (by decide) (by simp <;> omega)]; rfl
theorem vIdx_t3 (a b c d : D) (l : List D) : vIdx (.tuple (a :: b :: c :: d :: l)) (.int 3) = some d := by
  rw [vIdx_tup (by decide) (by simp <;> omega)]; rfl
theorem vIdx_l0 (a : D) (l : List D) : vIdx (.list (a :: l)) (.int 0) = some a := vIdx_t0 a l
theorem vIdx_l1 (a b : D) (l : List D) : vIdx (.list (a :: b :: l)) (.int 1) = some b := vIdx_t1 a b l
theorem vIdx_l2 (a b c : D) (l : List D) : vIdx (.list (a :: b :: c :: l)) (.int 2) = some c := vIdx_t2 a b c l
theorem mkT_0 : mkT [] = .ok (.tuple []) := mkT_ok (by simp)
theorem mkL_0 : mkL [] = .ok (.list []) := mkL_ok (by simp)
theorem mkT_1 (x0 : D) : mkT [x0] = .ok (.tuple [x0]) := mkT_ok (by simp)
theorem mkL_1 (x0 : D) : mkL [x0] = .ok (.list [x0]) := mkL_ok (by simp)
theorem mkT_2 (x0 x1 : D) : mkT [x0, x1] = .ok (.tuple [x0, x1]) := mkT_ok (by simp)
theorem mkL_2 (x0 x1 : D) : mkL [x0, x1] = .ok (.list [x0, x1]) := mkL_ok (by simp)
theorem mkT_3 (x0 x1 x2 : D) : mkT [x0, x1, x2] = .ok (.tuple [x0, x1, x2]) := mkT_ok (by simp)
theorem mkL_3 (x0 x1 x2 : D) : mkL [x0, x1, x2] = .ok (.list [x0, x1, x2]) := mkL_ok (by simp)
theorem mkT_4 (x0 x1 x2 x3 : D) : mkT [x0, x1, x2, x3] = .ok (.tuple [x0, x1, x2, x3]) := mkT_ok (by simp)
theorem mkL_4 (x0 x1 x2 x3 : D) : mkL [x0, x1, x2, x3] = .ok (.list [x0, x1, x2, x3]) := mkL_ok (by simp)
theorem mkT_5 (x0 x1 x2 x3 x4 : D) : mkT [x0, x1, x2, x3, x4] = .ok (.tuple [x0, x1, x2, x3, x4]) := mkT_ok (by simp)
theorem mkL_5 (x0 x1 x2 x3 x4 : D) : mkL [x0, x1, x2, x3, x4] = .ok (.list [x0, x1, x2, x3, x4]) := mkL_ok (by simp)
theorem mkT_6 (x0 x1 x2 x3 x4 x5 : D) : mkT [x0, x1, x2, x3, x4, x5] = .ok (.tuple [x0, x1, x2, x3, x4, x5]) := mkT_ok (by simp)
theorem mkL_6 (x0 x1 x2 x3 x4 x5 : D) : mkL [x0, x1, x2, x3, x4, x5] = .ok (.list [x0, x1, x2, x3, x4, x5]) := mkL_ok (by simp)
theorem mkT_7 (x0 x1 x2 x3 x4 x5 x6 : D) : mkT [x0, x1, x2, x3, x4, x5, x6] = .ok (.tuple [x0, x1, x2, x3, x4, x5, x6]) := mkT_ok (by simp)
theorem mkL_7 (x0 x1 x2 x3 x4 x5 x6 : D) : mkL [x0, x1, x2, x3, x4, x5, x6] = .ok (.list [x0, x1, x2, x3, x4, x5, x6]) := mkL_ok (by simp)
theorem mkT_8 (x0 x1 x2 x3 x4 x5 x6 x7 : D) : mkT [x0, x1, x2, x3, x4, x5, x6, x7] = .ok (.tuple [x0, x1, x2, x3, x4, x5, x6, x7]) := mkT_ok (by simp)
theorem mkL_8 (x0 x1 x2 x3 x4 x5 x6 x7 : D) : mkL [x0, x1, x2, x3, x4, x5, x6, x7] = .ok (.list [x0, x1, x2, x3, x4, x5, x6, x7]) := mkL_ok (by simp)
theorem mkT_9 (x0 x1 x2 x3 x4 x5 x6 x7 x8 : D) : mkT [x0, x1, x2, x3, x4, x5, x6, x7, x8] = .ok (.tuple [x0, x1, x2, x3, x4, x5, x6, x7, x8]) := mkT_ok (by simp)
theorem mkL_9 (x0 x1 x2 x3 x4 x5 x6 x7 x8 : D) : mkL [x0, x1, x2, x3, x4, x5, x6, x7, x8] = .ok (.list [x0, x1, x2, x3, x4, x5, x6, x7, x8]) := mkL_ok (by simp)
theorem mkT_10 (x0 x1 x2 x3 x4 x5 x6 x7 x8 x9 : D) : mkT [x0, x1, x2, x3, x4, x5, x6, x7, x8, x9] = .ok (.tuple [x0, x1, x2, x3, x4, x5, x6, x7, x8, x9]) := mkT_ok (by simp)
theorem mkL_10 (x0 x1 x2 x3 x4 x5 x6 x7 x8 x9 : D) : mkL [x0, x1, x2, x3, x4, x5, x6, x7, x8, x9] = .ok (.list [x0, x1, x2, x3, x4, x5, x6, x7, x8, x9]) := mkL_ok (by simp)
theorem mkT_11 (x0 x1 x2 x3 x4 x5 x6 x7 x8 x9 x10 : D) : mkT [x0, x1, x2, x3, x4, x5, x6, x7, x8, x9, x10] = .ok (.tuple [x0, x1, x2, x3, x4, x5, x6, x7, x8, x9, x10]) := mkT_ok (by simp)
theorem mkL_11 (x0 x1 x2 x3 x4 x5 x6 x7 x8 x9 x10 : D) : mkL [x0, x1, x2, x3, x4, x5, x6, x7, x8, x9, x10] = .ok (.list [x0, x1, x2, x3, x4, x5, x6, x7, x8, x9, x10]) := mkL_ok (by simp)
theorem mkT_12 (x0 x1 x2 x3 x4 x5 x6 x7 x8 x9 x10 x11 : D) : mkT [x0, x1, x2, x3, x4, x5, x6, x7, x8, x9, x10, x11] = .ok (.tuple [x0, x1, x2, x3, x4, x5, x6, x7, x8, x9, x10, x11]) := mkT_ok (by simp)
theorem mkL_12 (x0 x1 x2 x3 x4 x5 x6 x7 x8 x9 x10 x11 : D) : mkL [x0, x1, x2, x3, x4, x5, x6, x7, x8, x9, x10, x11] = .ok (.list [x0, x1, x2, x3, x4, x5, x6, x7, x8, x9, x10, x11]) := mkL_ok (by simp)
theorem mkT_13 (x0 x1 x2 x3 x4 x5 x6 x7 x8 x9 x10 x11 x12 : D) : mkT [x0, x1, x2, x3, x4, x5, x6, x7, x8, x9, x10, x11, x12] = .ok (.tuple [x0, x1, x2, x3, x4, x5, x6, x7, x8, x9, x10, x11, x12]) := mkT_ok (by simp)
theorem mkL_13 (x0 x1 x2 x3 x4 x5 x6 x7 x8 x9 x10 x11 x12 : D) : mkL [x0, x1, x2, x3, x4, x5, x6, x7, x8, x9, x10, x11, x12] = .ok (.list [x0, x1, x2, x3, x4, x5, x6, x7, x8, x9, x10, x11, x12]) := mkL_ok (by simp)
theorem mkT_14 (x0 x1 x2 x3 x4 x5 x6 x7 x8 x9 x10 x11 x12 x13 : D) : mkT [x0, x1, x2, x3, x4, x5, x6, x7, x8, x9, x10, x11, x12, x13] = .ok (.tuple [x0, x1, x2, x3, x4, x5, x6, x7, x8, x9, x10, x11, x12, x13]) := mkT_ok (by simp)
theorem mkL_14 (x0 x1 x2 x3 x4 x5 x6 x7 x8 x9 x10 x11 x12 x13 : D) : mkL [x0, x1, x2, x3, x4, x5, x6, x7, x8, x9, x10, x11, x12, x13] = .ok (.list [x0, x1, x2, x3, x4, x5, x6, x7, x8, x9, x10, x11, x12, x13]) := mkL_ok (by simp)
theorem mkT_15 (x0 x1 x2 x3 x4 x5 x6 x7 x8 x9 x10 x11 x12 x13 x14 : D) : mkT [x0, x1, x2, x3, x4, x5, x6, x7, x8, x9, x10, x11, x12, x13, x14] = .ok (.tuple [x0, x1, x2, x3, x4, x5, x6, x7, x8, x9, x10, x11, x12, x13, x14]) := mkT_ok (by simp)
theorem mkL_15 (x0 x1 x2 x3 x4 x5 x6 x7 x8 x9 x10 x11 x12 x13 x14 : D) : mkL [x0, x1, x2, x3, x4, x5, x6, x7, x8, x9, x10, x11, x12, x13, x14] = .ok (.list [x0, x1, x2, x3, x4, x5, x6, x7, x8, x9, x10, x11, x12, x13, x14]) := mkL_ok (by simp)
theorem mkT_16 (x0 x1 x2 x3 x4 x5 x6 x7 x8 x9 x10 x11 x12 x13 x14 x15 : D) : mkT [x0, x1, x2, x3, x4, x5, x6, x7, x8, x9, x10, x11, x12, x13, x14, x15] = .ok (.tuple [x0, x1, x2, x3, x4, x5, x6, x7, x8, x9, x10, x11, x12, x13, x14, x15]) := mkT_ok (by simp)
theorem mkL_16 (x0 x1 x2 x3 x4 x5 x6 x7 x8 x9 x10 x11 x12 x13 x14 x15 : D) : mkL [x0, x1, x2, x3, x4, x5, x6, x7, x8, x9, x10, x11, x12, x13, x14, x15] = .ok (.list [x0, x1, x2, x3, x4, x5, x6, x7, x8, x9, x10, x11, x12, x13, x14, x15]) := mkL_ok (by simp)
theorem decI (a b : Nat) : decide ((a : Int) = (b : Int)) = decide (a = b) := Bool.eq_iff_iff.2 (by simp only [decide_eq_true_eq]; omega)
theorem natAbs_if (i : Int) : (if i < 0 then -i else i) = (i.natAbs : Nat) := by split <;> omega
theorem vMod_nat {a b : Nat} (h : 0 < b) : vMod (.int a) (.int b) = some (.int (a % b : Nat)) := vMod_pos (by omega)
theorem vDiv_nat {a b : Nat} (h : 0 < b) (h2 : b < 18446744073709551616) : vDiv (.int a) (.int b) = some (.int (a / b : Nat)) := vDiv_pos (by omega) (by omega)
theorem vMul_nat {a b : Nat} (h : a < 18446744073709551616) (h2 : b < 18446744073709551616) : vMul (.int a) (.int b) = some (.int (a * b : Nat)) := vMul_64 (by omega) (by omega) (by omega) (by omega)
/-- plain nested values, for _law_same -/
def okS : Nat → D → Prop
  | 0, _ => False
  | _ + 1, .none => True
  | _ + 1, .bool _ => True
  | _ + 1, .int _ => True
  | _ + 1, .str _ => True
  | n + 1, .tuple l => l.length ≤ 16777216 ∧ ∀ x ∈ l, okS n x
  | _ + 1, .list _ => False
  | _ + 1, .dict _ => False
theorem okS_tupI {n : Nat} (l : List Int) (h : l.length ≤ 16777216) : okS (n + 2) (.tuple (l.map .int)) := by
  refine ⟨by simpa using h, fun x hx => ?_⟩
  obtain ⟨i, _, rfl⟩ := List.mem_map.1 hx
  exact trivial
end PL

end
section
namespace PL
open PySem L2
/-- a block that raises c -/
def RX (r : SRes) (c : D) : Prop := ∃ ρ : Lo, r = .ex c ρ
theorem run_raise {n : Nat} {b : DS} {ds : List D} {c : D} (h : RX (b (start n ds)) c) : runD n b ds = .exn c := by
  obtain ⟨ρ, e⟩ := h
  rw [runD_eq, e]
section
variable {a b s : DS} {ρ : Lo} {t : DT} {e : DE} {c : D} {i : Nat} {v : D}
theorem rx_on (hc : t ρ = .ok true) (h : RX (a ρ) c) : RX (sSeq (sIf t a s) b ρ) c := by
  obtain ⟨ρ', h⟩ := h
  refine ⟨ρ', ?_⟩
  unfold sSeq sIf
  rw [hc]
  show (match a ρ with | .nx ρ' => b ρ' | r => r) = _
  rw [h]
theorem rx_off (hc : t ρ = .ok false) (h : RX (b ρ) c) : RX (sSeq (sIf t a sSkip) b ρ) c := by
  obtain ⟨ρ', h⟩ := h
  refine ⟨ρ', ?_⟩
  unfold sSeq sIf
  rw [hc]
  exact h
theorem rx_raise {x : Str} : RX (sSeq (sRaise x) b ρ) (excD x []) := ⟨ρ, rfl⟩
theorem rx_put (he : e ρ = .ok v) (h : RX (b (ρ.set i (some v))) c) : RX (sSeq (sSet i e) b ρ) c := by
  obtain ⟨ρ', h⟩ := h
  refine ⟨ρ', ?_⟩
  unfold sSeq sSet
  rw [he]
  exact h
/-- a call that raises, set -/
theorem ex_put (he : e ρ = .exn c) : sSeq (sSet i e) b ρ = .ex c ρ := by
  unfold sSeq sSet
  rw [he]; rfl
theorem rx_putx (he : e ρ = .exn c) : RX (sSeq (sSet i e) b ρ) c := ⟨ρ, ex_put he⟩
theorem rx_backx (he : e ρ = .exn c) : RX (sSeq (sRet e) b ρ) c := by
  refine ⟨ρ, ?_⟩
  unfold sSeq sRet
  rw [he]; rfl
end
section
variable {ρ ρ' : Lo} {N : Lo → Prop} {R : D → Prop} {B C : Lo → Prop} {body : DS} {i : Nat} {tbl : Str → Option Bool} {de : Str → DE} {n : Str} {v : D}
theorem ws_try_ok (h : WS (body ρ) N R B C) : WS (sTryR i tbl body de ρ) N R B C := by
  refine ⟨?_⟩
  have h := h.go
  unfold sTryR
  cases e : body ρ with
  | nx ρ' => rw [e] at h; exact h
  | rt v => rw [e] at h; exact h
  | bk ρ' => rw [e] at h; exact h
  | ct ρ' => rw [e] at h; exact h
  | ex c ρ' => rw [e] at h; exact h.elim
  | bad => rw [e] at h; exact h.elim
theorem ws_try_ex (hb : body ρ = .ex (excD n []) ρ') (ht : tbl n = some true) (hi : i < ρ'.length) (he : de n (ρ'.set i none) = .ok v) (h : R v) : WS (sTryR i tbl body de ρ) N R B C := by
  refine ⟨?_⟩
  unfold sTryR
  rw [hb]
  show WS0 (match tbl n with
    | some true => if i < ρ'.length then onlyRt ρ' (de n (ρ'.set i none)) else .bad
    | some false => .ex (excD n []) ρ'
    | none => .bad) N R B C
  rw [ht]
  show WS0 (if i < ρ'.length then onlyRt ρ' (de n (ρ'.set i none)) else .bad) N R B C
  rw [if_pos hi, he]
  exact h
end
theorem eBin_ok {f : D → D → Option D} {a b : DE} {ρ : Lo} {v w z : D} (h : a ρ = .ok v) (h1 : b ρ = .ok w) (h2 : f v w = some z) : eBin f a b ρ = .ok z := by
  unfold eBin; rw [h, bind_ok, h1, bind_ok, h2, up_some]
theorem eSlice_ok {a : DE} {lo hi : DO} {ρ : Lo} {v z : D} {i j : Option Int} (h : a ρ = .ok v) (h1 : lo ρ = .ok i) (h2 : hi ρ = .ok j) (h3 : vSlice v i j = some z) : eSlice a lo hi ρ = .ok z := by
  unfold eSlice; rw [h, bind_ok, h1, bind_ok, h2, bind_ok, h3, up_some]
theorem vSlice_toL {l : List D} {k : Nat} (h : k ≤ l.length) : vSlice (.list l) none (some (k : Int)) = some (.list (l.take k)) := by
  show some (PyData.list (cutD l none (some (k : Int)))) = _
  unfold cutD
  rw [show HT.sIx l.length 0 none = 0 from rfl, sIx_nat h, List.drop_zero, Nat.sub_zero]
theorem vSlice_fromL {l : List D} {k : Nat} (h : k ≤ l.length) : vSlice (.list l) (some (k : Int)) none = some (.list (l.drop k)) := by
  show some (PyData.list (cutD l (some (k : Int)) none)) = _
  unfold cutD
  rw [sIx_nat h, show HT.sIx l.length l.length none = l.length from rfl, List.take_of_length_le (by rw [List.length_drop]; omega)]
theorem eTo_ok {a : DE} {d : DE} {ρ : Lo} {l : List D} {k : Nat} (h : a ρ = .ok (.list l)) (h1 : d ρ = .ok (.int k)) (hk : k ≤ l.length) : eSlice a oNone (oSome d) ρ = .ok (.list (l.take k)) :=
  eSlice_ok h rfl (by unfold oSome; rw [h1, bind_ok]; rfl) (vSlice_toL hk)
theorem eFrom_ok {a : DE} {d : DE} {ρ : Lo} {l : List D} {k : Nat} (h : a ρ = .ok (.list l)) (h1 : d ρ = .ok (.int k)) (hk : k ≤ l.length) : eSlice a (oSome d) oNone ρ = .ok (.list (l.drop k)) :=
  eSlice_ok h (by unfold oSome; rw [h1, bind_ok]; rfl) rfl (vSlice_fromL hk)
theorem eTup3_ok {a b c : DE} {ρ : Lo} {x y z : D} (h : a ρ = .ok x) (h1 : b ρ = .ok y) (h2 : c ρ = .ok z) : eTup (aCons a (aCons b (aCons c aNil))) ρ = .ok (.tuple [x, y, z]) := by
  simp -implicitDefEqProofs only [eTup_eq, aCons, aNil, h, h1, h2, bind_ok, mkT_3]
theorem eTup2_ok {a b : DE} {ρ : Lo} {x y : D} (h : a ρ = .ok x) (h1 : b ρ = .ok y) : eTup (aCons a (aCons b aNil)) ρ = .ok (.tuple [x, y]) := by
  simp -implicitDefEqProofs only [eTup_eq, aCons, aNil, h, h1, bind_ok, mkT_2]
theorem ws_find {α : Type} {g : DG} {it : DA} {s : DS} {ρ : Lo} {N : Lo → Prop} {R : D → Prop} {B C : Lo → Prop} (enc : α → D) (p : α → Bool) (l : List α) (I : Lo → Prop) (hi : it ρ = .ok (l.map enc)) (h0 : I ρ)
    (hs : ∀ x ∈ l, ∀ ρ, I ρ → ∃ ρ1, g (enc x) ρ = some ρ1 ∧ (p x = true → l.find? p = some x → WS (s ρ1) No R No No) ∧ (p x = false → WS (s ρ1) I R No I))
    (hN : ∀ ρ, I ρ → l.find? p = none → N ρ) : WS (sFor g it s ρ) N R B C := by
  refine ws_forE enc l (fun rest ρ => I ρ ∧ ∃ a, a ++ rest = l ∧ ∀ i ∈ a, p i = false) hi ⟨h0, [], rfl, fun i hi => by cases hi⟩ ?_ ?_
  · rintro x rest ρ ⟨hI, a, ha, hp⟩
    obtain ⟨ρ1, h1, h2, h3⟩ := hs x (by rw [← ha]; simp) ρ hI
    refine ⟨ρ1, h1, ?_⟩
    cases h : p x with
    | true =>
      have hf : l.find? p = some x := List.find?_eq_some_iff_append.2 ⟨h, a, rest, ha.symm, fun i hi => by simp [hp i hi]⟩
      exact (h2 h hf).mono (fun _ h => h.elim) (fun _ h => h) (fun _ h => h.elim) (fun _ h => h.elim)
    | false =>
      have hq : ∀ i ∈ a ++ [x], p i = false := fun i hi => by
        rcases List.mem_append.1 hi with g | g
        · exact hp i g
        · rw [List.mem_singleton.1 g]
          exact h
      exact (h3 h).mono (fun _ h => ⟨h, a ++ [x], by rw [← ha]; simp, hq⟩) (fun _ h => h) (fun _ h => h.elim) (fun _ h => ⟨h, a ++ [x], by rw [← ha]; simp, hq⟩)
  · rintro ρ ⟨hI, a, ha, hp⟩
    refine hN ρ hI (List.find?_eq_none.2 fun i hi => ?_)
    rw [← ha, List.append_nil] at hi
    simp [hp i hi]
theorem ws_all {α : Type} {g : DG} {it : DA} {s : DS} {ρ : Lo} {N : Lo → Prop} {R : D → Prop} {B C : Lo → Prop} (enc : α → D) (ok : α → Bool) (l : List α) (I : Lo → Prop) (hi : it ρ = .ok (l.map enc)) (h0 : I ρ)
    (hs : ∀ x ∈ l, ∀ ρ, I ρ → ∃ ρ1, g (enc x) ρ = some ρ1 ∧ WS (s ρ1) (fun ρ' => ok x = true ∧ I ρ') (fun v => ok x = false ∧ v = .bool false) No (fun ρ' => ok x = true ∧ I ρ'))
    (hR : l.all ok = false → R (.bool false)) (hN : ∀ ρ, I ρ → l.all ok = true → N ρ) : WS (sFor g it s ρ) N R B C := by
  refine ws_find enc (fun x => !ok x) l I hi h0 (fun x hx ρ hI => ?_) fun ρ hI hf => hN ρ hI (List.all_eq_true.2 fun x hx => ?_)
  · obtain ⟨ρ1, h1, h2⟩ := hs x hx ρ hI
    refine ⟨ρ1, h1, fun hb _ => ?_, fun hb => ?_⟩
    · refine h2.mono (fun _ g => ?_) (fun v g => ?_) (fun _ g => g.elim) (fun _ g => ?_)
      · rw [g.1] at hb; cases hb
      · rw [g.2]
        refine hR (Bool.eq_false_iff.2 fun ha => ?_)
        rw [List.all_eq_true.1 ha x hx] at g
        cases g.1
      · rw [g.1] at hb; cases hb
    · refine h2.mono (fun _ g => g.2) (fun v g => ?_) (fun _ g => g.elim) (fun _ g => g.2)
      rw [g.1] at hb; cases hb
  · have := List.find?_eq_none.1 hf x hx
    simpa using this
def pl (n : Nat) (d : D) : Bool := noDict d && decide (d.depth ≤ n)
theorem pl_fine {n : Nat} {d : D} (h : pl n d = true) (hn : n ≤ 64) : fine d = true := by
  unfold pl at h
  obtain ⟨h1, h2⟩ := Bool.and_eq_true_iff.1 h
  have := of_decide_eq_true h2
  unfold fine
  rw [h1, Bool.true_and]
  exact decide_eq_true (by omega)
theorem pl_all {n : Nat} : ∀ {l : List D}, (∀ x ∈ l, pl n x = true) → noDicts l = true ∧ PyData.depthAll l ≤ n
  | [], _ => ⟨rfl, Nat.zero_le _⟩
  | x :: l, h => by
    obtain ⟨h1, h2⟩ := Bool.and_eq_true_iff.1 (h x (List.mem_cons_self ..))
    obtain ⟨h3, h4⟩ := pl_all (l := l) fun y hy => h y (List.mem_cons_of_mem _ hy)
    have := of_decide_eq_true h2
    refine ⟨by rw [noDicts, h1, h3]; rfl, ?_⟩
    rw [PyData.depthAll]
    omega
theorem pl_list {n : Nat} {l : List D} (h : ∀ x ∈ l, pl n x = true) : pl (n + 1) (.list l) = true := by
  obtain ⟨h1, h2⟩ := pl_all h
  unfold pl
  rw [noDict, h1, Bool.true_and, PyData.depth]
  exact decide_eq_true (by omega)
theorem pl_tup {n : Nat} {l : List D} (h : ∀ x ∈ l, pl n x = true) : pl (n + 1) (.tuple l) = true := by
  obtain ⟨h1, h2⟩ := pl_all h
  unfold pl
  rw [noDict, h1, Bool.true_and, PyData.depth]
  exact decide_eq_true (by omega)
theorem vEq_of {x y : D} (h : fine x = true) (h2 : fine y = true) : vEq x y = some (.bool (PyData.eqv x y)) := if_pos ⟨h, h2⟩
theorem vNe_of {x y : D} (h : fine x = true) (h2 : fine y = true) : vNe x y = some (.bool (!PyData.eqv x y)) := if_pos ⟨h, h2⟩
theorem vEq_nil {l : List D} (h : fine (.list l) = true) : vEq (.list l) (.list []) = some (.bool l.isEmpty) := by
  rw [vEq_of h rfl]
  cases l <;> simp [PyData.eqv, PyData.eqvAll]
theorem vNe_nil {l : List D} (h : fine (.list l) = true) : vNe (.list l) (.list []) = some (.bool (!l.isEmpty)) := by
  rw [vNe_of h rfl]
  cases l <;> simp [PyData.eqv, PyData.eqvAll]
theorem comp2_map {α β : Type} {vs1 : List Nat} {g g1 : DG} {it1 : DA} {e : DE} {ρ : Lo} (enc : α → D) (enc1 : β → D) (m : α → List β) (f : α → β → D) : ∀ (l : List α), (∀ a ∈ l, ∃ ρ1, g (enc a) ρ = some ρ1 ∧ it1 ρ1 = .ok ((m a).map enc1) ∧ ∀ b ∈ m a, ∃ ρ2, g1 (enc1 b) (wipeD ρ1 vs1) = some ρ2 ∧ e ρ2 = .ok (f a b)) → comp2D g tTrue vs1 it1 g1 tTrue e (l.map enc) ρ = some (l.flatMap fun a => (m a).map (f a))
  | [], _ => rfl
  | a :: l, h => by
    obtain ⟨ρ1, h1, h2, h3⟩ := h a (List.mem_cons_self ..)
    have ih := comp2_map enc enc1 m f l fun b hb => h b (List.mem_cons_of_mem _ hb)
    have hc := comp_map (g := g1) (e := e) (ρ := wipeD ρ1 vs1) enc1 (f a) (m a) h3
    rw [List.map_cons, comp2D, h1]
    simp only [tTrue, h2, hc, ih]
    rfl
theorem eComp2_map {α β : Type} {vs vs1 : List Nat} {g g1 : DG} {it it1 : DA} {e : DE} {ρ : Lo} (enc : α → D) (enc1 : β → D) (m : α → List β) (f : α → β → D) (l : List α) (hi : it ρ = .ok (l.map enc)) (h : ∀ a ∈ l, ∃ ρ1, g (enc a) (wipeD ρ vs) = some ρ1 ∧ it1 ρ1 = .ok ((m a).map enc1) ∧ ∀ b ∈ m a, ∃ ρ2, g1 (enc1 b) (wipeD ρ1 vs1) = some ρ2 ∧ e ρ2 = .ok (f a b)) (hl : (l.flatMap fun a => (m a).map (f a)).length ≤ 16777216) : eComp2 vs vs1 g it tTrue g1 it1 tTrue e ρ = .ok (.list (l.flatMap fun a => (m a).map (f a))) := by
  unfold eComp2
  rw [hi, bind_ok, comp2_map enc enc1 m f l h, up_some, bind_ok, if_pos (by rw [line_eq]; exact hl)]
theorem comp_ex {α : Type} {g : DG} {e : DE} {ρ : Lo} (enc : α → D) (P : α → D → Prop) : ∀ (l : List α), (∀ a ∈ l, ∃ ρ1 v, g (enc a) ρ = some ρ1 ∧ e ρ1 = .ok v ∧ P a v) → ∃ ys : List D, compD g tTrue e (l.map enc) ρ = some ys ∧ ys.length = l.length ∧ ∀ v ∈ ys, ∃ a ∈ l, P a v
  | [], _ => ⟨[], rfl, rfl, fun v hv => by cases hv⟩
  | a :: l, h => by
    obtain ⟨ρ1, v, h1, h2, h3⟩ := h a (List.mem_cons_self ..)
    obtain ⟨ys, i1, i2, i3⟩ := comp_ex enc P l fun b hb => h b (List.mem_cons_of_mem _ hb)
    refine ⟨v :: ys, ?_, by rw [List.length_cons, List.length_cons, i2], fun w hw => ?_⟩
    · rw [List.map_cons, compD, h1]
      simp only [tTrue, h2, i1]
      rfl
    · rcases List.mem_cons.1 hw with rfl | hw
      · exact ⟨a, List.mem_cons_self .., h3⟩
      · obtain ⟨b, hb, hp⟩ := i3 w hw
        exact ⟨b, List.mem_cons_of_mem _ hb, hp⟩
theorem eComp_ex {α : Type} {vs : List Nat} {g : DG} {it : DA} {e : DE} {ρ : Lo} (enc : α → D) (P : α → D → Prop) (l : List α) (hi : it ρ = .ok (l.map enc)) (h : ∀ a ∈ l, ∃ ρ1 v, g (enc a) (wipeD ρ vs) = some ρ1 ∧ e ρ1 = .ok v ∧ P a v) : ∃ ys : List D, eComp vs g it tTrue e ρ = .ok (.list ys) ∧ ys.length = l.length ∧ ∀ v ∈ ys, ∃ a ∈ l, P a v := by
  obtain ⟨ys, h1, h2, h3⟩ := comp_ex enc P l h
  exact ⟨ys, by unfold eComp; rw [hi, bind_ok, h1, up_some, bind_ok], h2, h3⟩
/-- a loop over range(n), by its counter -/
theorem ws_rng {g : DG} {it : DA} {s : DS} {ρ : Lo} {N : Lo → Prop} {R : D → Prop} {B C : Lo → Prop} (n : Nat) (P : Nat → Lo → Prop) (hi : it ρ = .ok ((List.range n).map fun i : Nat => .int (i : Nat))) (h0 : P 0 ρ) (hs : ∀ i, i < n → ∀ ρ, P i ρ → ∃ ρ1, g (.int (i : Nat)) ρ = some ρ1 ∧ WS (s ρ1) (P (i + 1)) R N (P (i + 1))) (hN : ∀ ρ, P n ρ → N ρ) : WS (sFor g it s ρ) N R B C := by
  refine ws_forE (fun i : Nat => .int (i : Nat)) (List.range n) (fun rest ρ => ∃ i, rest = List.range' i (n - i) ∧ i ≤ n ∧ P i ρ) hi ⟨0, by rw [List.range_eq_range']; rfl, by omega, h0⟩ ?_ ?_
  · rintro x xs ρ ⟨i, h1, h2, h3⟩
    have hl := congrArg List.length h1
    rw [List.length_range', List.length_cons] at hl
    have hn : n - i = xs.length + 1 := hl.symm
    rw [hn, List.range'_succ] at h1
    obtain ⟨rfl, hx⟩ := List.cons.inj h1
    have step : ∀ ρ, P (x + 1) ρ → ∃ j, xs = List.range' j (n - j) ∧ j ≤ n ∧ P j ρ := fun ρ h => ⟨x + 1, by rw [show n - (x + 1) = xs.length by omega]; exact hx, by omega, h⟩
    obtain ⟨ρ1, e, h⟩ := hs x (by omega) ρ h3
    exact ⟨ρ1, e, h.mono step (fun _ h => h) (fun _ h => h) step⟩
  · rintro ρ ⟨i, h1, h2, h3⟩
    have hl := congrArg List.length h1
    rw [List.length_range', List.length_nil] at hl
    rw [show i = n by omega] at h3
    exact hN ρ h3
end PL

end
section
namespace PL
open PySem L2
structure OkE (r : Res D) (k : D → Prop) : Prop where
  go : ∃ v, r = .ok v ∧ k v
structure OkB (r : Res Bool) (k : Bool → Prop) : Prop where
  go : ∃ v, r = .ok v ∧ k v
structure OkV (r : Option D) (k : D → Prop) : Prop where
  go : ∃ v, r = some v ∧ k v
structure OkO (r : Option Lo) (k : Lo → Prop) : Prop where
  go : ∃ v, r = some v ∧ k v
structure OkS (r : Option (Option D)) (k : D → Prop) : Prop where
  go : ∃ v, r = some (some v) ∧ k v
structure OkL (r : D) (k : List D → Prop) : Prop where
  go : ∃ v, r = .list v ∧ k v
structure OkP (r : D) (k : List (D × D) → Prop) : Prop where
  go : ∃ v, r = .dict v ∧ k v
def Go (ρ : Lo) (N : Lo → Prop) : Prop := N ρ
theorem okE_ok (v : D) (k : D → Prop) : OkE (.ok v) k = k v := propext ⟨fun h => by obtain ⟨w, e, hk⟩ := h.go; cases e; exact hk, fun h => ⟨v, rfl, h⟩⟩
theorem okB_ok (v : Bool) (k : Bool → Prop) : OkB (.ok v) k = k v := propext ⟨fun h => by obtain ⟨w, e, hk⟩ := h.go; cases e; exact hk, fun h => ⟨v, rfl, h⟩⟩
theorem okV_some (v : D) (k : D → Prop) : OkV (some v) k = k v := propext ⟨fun h => by obtain ⟨w, e, hk⟩ := h.go; cases e; exact hk, fun h => ⟨v, rfl, h⟩⟩
theorem okO_some (v : Lo) (k : Lo → Prop) : OkO (some v) k = k v := propext ⟨fun h => by obtain ⟨w, e, hk⟩ := h.go; cases e; exact hk, fun h => ⟨v, rfl, h⟩⟩
theorem okS_some (v : D) (k : D → Prop) : OkS (some (some v)) k = k v := propext ⟨fun h => by obtain ⟨w, e, hk⟩ := h.go; cases e; exact hk, fun h => ⟨v, rfl, h⟩⟩
theorem okL_list (v : List D) (k : List D → Prop) : OkL (.list v) k = k v := propext ⟨fun h => by obtain ⟨w, e, hk⟩ := h.go; cases e; exact hk, fun h => ⟨v, rfl, h⟩⟩
theorem okP_dict (v : List (D × D)) (k : List (D × D) → Prop) : OkP (.dict v) k = k v := propext ⟨fun h => by obtain ⟨w, e, hk⟩ := h.go; cases e; exact hk, fun h => ⟨v, rfl, h⟩⟩
theorem go_def (ρ : Lo) (N : Lo → Prop) : Go ρ N = N ρ := Eq.trans rfl rfl
theorem okE_ite {p : Prop} [Decidable p] (a b : Res D) (k : D → Prop) : OkE (if p then a else b) k = if p then OkE a k else OkE b k := by split <;> rfl
theorem okB_ite {p : Prop} [Decidable p] (a b : Res Bool) (k : Bool → Prop) : OkB (if p then a else b) k = if p then OkB a k else OkB b k := by split <;> rfl
theorem rbind_ite {α β : Type} {p : Prop} [Decidable p] (a b : Res α) (f : α → Res β) : (if p then a else b).bind f = if p then a.bind f else b.bind f := by split <;> rfl
section
variable {a b s : DS} {ρ : Lo} {N : Lo → Prop} {R : D → Prop} {B C : Lo → Prop} {e : DE} {c : DT} {i : Nat}
theorem wx_seq : WS (sSeq a b ρ) N R B C = WS (a ρ) (fun ρ' => WS (b ρ') N R B C) R B C := by
  refine propext ⟨fun h => ⟨?_⟩, ws_seq⟩
  have h := h.go
  unfold sSeq at h
  cases e : a ρ with
  | nx ρ' => rw [e] at h; exact ⟨h⟩
  | rt v => rw [e] at h; exact h
  | bk ρ' => rw [e] at h; exact h
  | ct ρ' => rw [e] at h; exact h
  | ex c ρ' => rw [e] at h; exact h.elim
  | bad => rw [e] at h; exact h.elim
theorem wx_skip : WS (sSkip ρ) N R B C = N ρ := propext ⟨fun h => h.go, ws_skip⟩
theorem wx_break : WS (sBreak ρ) N R B C = B ρ := propext ⟨fun h => h.go, ws_break⟩
theorem wx_cont : WS (sCont ρ) N R B C = C ρ := propext ⟨fun h => h.go, ws_cont⟩
theorem wx_retN : WS (sRetN ρ) N R B C = R .none := propext ⟨fun h => h.go, fun h => ⟨h⟩⟩
theorem wx_set : WS (sSet i e ρ) N R B C = OkE (e ρ) fun v => Go (ρ.set i (some v)) N := by
  refine propext ⟨fun h => ?_, fun h => ?_⟩
  · have h := h.go
    unfold sSet at h
    cases q : e ρ with
    | ok v => rw [q] at h; exact ⟨v, rfl, h⟩
    | exn _ => rw [q] at h; exact h.elim
    | bad => rw [q] at h; exact h.elim
  · obtain ⟨v, q, h⟩ := h.go; exact ws_set q h
theorem wx_setO : WS (sSetO i e ρ) N R B C = OkE (e ρ) fun v => isMut v = true ∧ Go (ρ.set i (some v)) N := by
  refine propext ⟨fun h => ?_, fun h => ?_⟩
  · have h := h.go
    unfold sSetO at h
    cases q : e ρ with
    | ok v =>
      rw [q] at h
      have h : WS0 (if isMut v = true then .nx (ρ.set i (some v)) else .bad) N R B C := h
      by_cases hm : isMut v = true
      · rw [if_pos hm] at h; exact ⟨v, rfl, hm, h⟩
      · rw [if_neg hm] at h; exact h.elim
    | exn _ => rw [q] at h; exact h.elim
    | bad => rw [q] at h; exact h.elim
  · obtain ⟨v, q, hm, h⟩ := h.go; exact ws_setO q hm h
theorem wx_ret : WS (sRet e ρ) N R B C = OkE (e ρ) R := by
  refine propext ⟨fun h => ?_, fun h => ?_⟩
  · have h := h.go
    unfold sRet at h
    cases q : e ρ with
    | ok v => rw [q] at h; exact ⟨v, rfl, h⟩
    | exn _ => rw [q] at h; exact h.elim
    | bad => rw [q] at h; exact h.elim
  · obtain ⟨v, q, h⟩ := h.go; exact ws_ret q h
theorem wx_expr : WS (sExpr e ρ) N R B C = OkE (e ρ) fun _ => N ρ := by
  refine propext ⟨fun h => ?_, fun h => ?_⟩
  · have h := h.go
    unfold sExpr at h
    cases q : e ρ with
    | ok v => rw [q] at h; exact ⟨v, rfl, h⟩
    | exn _ => rw [q] at h; exact h.elim
    | bad => rw [q] at h; exact h.elim
  · obtain ⟨v, q, h⟩ := h.go; exact ws_expr q h
theorem wx_if : WS (sIf c a b ρ) N R B C = OkB (c ρ) fun k => if k = true then WS (a ρ) N R B C else WS (b ρ) N R B C := by
  refine propext ⟨fun h => ?_, fun h => ?_⟩
  · have h := h.go
    unfold sIf at h
    cases q : c ρ with
    | ok v =>
      rw [q] at h
      refine ⟨v, rfl, ?_⟩
      cases v with
      | true => rw [if_pos rfl]; exact ⟨h⟩
      | false => rw [if_neg (by decide)]; exact ⟨h⟩
    | exn _ => rw [q] at h; exact h.elim
    | bad => rw [q] at h; exact h.elim
  · obtain ⟨v, q, h⟩ := h.go
    cases v with
    | true => rw [if_pos rfl] at h; exact ws_ifT q h
    | false => rw [if_neg (by decide)] at h; exact ws_ifF q h
theorem wx_par {j : Nat} {d d' : DE} (h : OkE (d ρ) fun v => OkE (d' ρ) fun w => Go ((ρ.set i (some v)).set j (some w)) N) : WS (sPar i j d d' ρ) N R B C := by
  obtain ⟨v, q, h⟩ := h.go
  obtain ⟨w, q2, h⟩ := h.go
  exact ws_par q q2 h
theorem wx_parE {j : Nat} {d d' : DE} : WS (sPar i j d d' ρ) N R B C = OkE (d ρ) fun v => OkE (d' ρ) fun w => Go ((ρ.set i (some v)).set j (some w)) N := by
  refine propext ⟨fun h => ?_, wx_par⟩
  have h := h.go
  unfold sPar at h
  cases q : d ρ with
  | ok v =>
    rw [q] at h
    have h : WS0 (sOf (d' ρ) ρ fun w => .nx ((ρ.set i (some v)).set j (some w))) N R B C := h
    refine ⟨v, rfl, ?_⟩
    cases q : d' ρ with
    | ok v => rw [q] at h; exact ⟨v, rfl, h⟩
    | exn _ => rw [q] at h; exact h.elim
    | bad => rw [q] at h; exact h.elim
  | exn _ => rw [q] at h; exact h.elim
  | bad => rw [q] at h; exact h.elim
theorem wx_unp {g : DG} : WS (sUnp g e ρ) N R B C = OkE (e ρ) fun v => OkO (g v ρ) N := by
  refine propext ⟨fun h => ?_, fun h => ?_⟩
  · have h := h.go
    unfold sUnp at h
    cases q : e ρ with
    | ok v =>
      rw [q] at h
      have h : WS0 (match g v ρ with | some ρ' => .nx ρ' | none => .bad) N R B C := h
      refine ⟨v, rfl, ?_⟩
      cases q : g v ρ with
      | some v => rw [q] at h; exact ⟨v, rfl, h⟩
      | none => rw [q] at h; exact h.elim
    | exn _ => rw [q] at h; exact h.elim
    | bad => rw [q] at h; exact h.elim
  · obtain ⟨v, q, h⟩ := h.go
    obtain ⟨w, q2, h⟩ := h.go
    exact ws_unp q q2 h
theorem wx_aug {f : D → D → Option D} : WS (sAug i f e ρ) N R B C = OkS (ρ[i]?) fun x => OkE (e ρ) fun y => OkV (f x y) fun z => Go (ρ.set i (some z)) N := by
  refine propext ⟨fun h => ?_, fun h => ?_⟩
  · have h := h.go
    unfold sAug at h
    cases q : ρ[i]? with
    | none => rw [q] at h; exact h.elim
    | some o =>
      cases o with
      | none => rw [q] at h; exact h.elim
      | some x =>
        rw [q] at h
        have h : WS0 (sOf (e ρ) ρ fun w => match f x w with | some z => .nx (ρ.set i (some z)) | none => .bad) N R B C := h
        refine ⟨x, rfl, ?_⟩
        cases q : e ρ with
        | ok v =>
          rw [q] at h
          have h : WS0 (match f x v with | some z => .nx (ρ.set i (some z)) | none => .bad) N R B C := h
          refine ⟨v, rfl, ?_⟩
          cases q : f x v with
          | some z => rw [q] at h; exact ⟨z, rfl, h⟩
          | none => rw [q] at h; exact h.elim
        | exn _ => rw [q] at h; exact h.elim
        | bad => rw [q] at h; exact h.elim
  · obtain ⟨v, q, h⟩ := h.go
    obtain ⟨w, q2, h⟩ := h.go
    obtain ⟨z, q3, h⟩ := h.go
    exact ws_aug q q2 q3 h
theorem wx_app : WS (sApp i e ρ) N R B C = OkS (ρ[i]?) fun x => OkL x fun ds => OkE (e ρ) fun v => ds.length < 16777216 ∧ Go (ρ.set i (some (.list (ds ++ [v])))) N := by
  refine propext ⟨fun h => ?_, fun h => ?_⟩
  · have h := h.go
    unfold sApp at h
    split at h
    · rename_i ds q
      refine ⟨_, q, ds, rfl, ?_⟩
      cases q : e ρ with
      | ok v =>
        rw [q] at h
        have h : WS0 (if ds.length < sizeLine then .nx (ρ.set i (some (.list (ds ++ [v])))) else .bad) N R B C := h
        refine ⟨v, rfl, ?_⟩
        by_cases hl : ds.length < sizeLine
        · rw [if_pos hl] at h; exact ⟨by rw [line_eq] at hl; exact hl, h⟩
        · rw [if_neg hl] at h; exact h.elim
      | exn _ => rw [q] at h; exact h.elim
      | bad => rw [q] at h; exact h.elim
    · exact h.elim
  · obtain ⟨v, q, h⟩ := h.go
    obtain ⟨w, q2, h⟩ := h.go
    have h := h.go
    obtain ⟨z, q3, h1, h2⟩ := h
    subst q2
    exact ws_app q q3 h1 h2
theorem wx_storeD {k : DE} : WS (sStoreD i k e ρ) N R B C = OkE (e ρ) fun v => OkS (ρ[i]?) fun x => OkP x fun ps => OkE (k ρ) fun kv => ((keyOf kv).isSome = true ∧ ps.length < 16777216) ∧ Go (ρ.set i (some (.dict (putP ps kv v)))) N := by
  refine propext ⟨fun h => ?_, fun h => ?_⟩
  · have h := h.go
    unfold sStoreD at h
    cases q : e ρ with
    | ok v =>
      rw [q] at h
      refine ⟨v, rfl, ?_⟩
      have h : WS0 (match ρ[i]? with
        | some (some (.dict ps)) => sOf (k ρ) ρ fun kv => if (keyOf kv).isSome ∧ ps.length < sizeLine then .nx (ρ.set i (some (.dict (putP ps kv v)))) else .bad
        | _ => .bad) N R B C := h
      split at h
      · rename_i ps q2
        refine ⟨_, q2, ps, rfl, ?_⟩
        cases q3 : k ρ with
        | ok kv =>
          rw [q3] at h
          have h : WS0 (if (keyOf kv).isSome ∧ ps.length < sizeLine then .nx (ρ.set i (some (.dict (putP ps kv v)))) else .bad) N R B C := h
          refine ⟨kv, rfl, ?_⟩
          by_cases hc : (keyOf kv).isSome ∧ ps.length < sizeLine
          · rw [if_pos hc] at h
            exact ⟨⟨hc.1, by have := hc.2; rw [line_eq] at this; exact this⟩, h⟩
          · rw [if_neg hc] at h; exact h.elim
        | exn _ => rw [q3] at h; exact h.elim
        | bad => rw [q3] at h; exact h.elim
      · exact h.elim
    | exn _ => rw [q] at h; exact h.elim
    | bad => rw [q] at h; exact h.elim
  · obtain ⟨v, q, h⟩ := h.go
    obtain ⟨x, q2, h2⟩ := h.go
    obtain ⟨ps, q3, h3⟩ := h2.go
    obtain ⟨kv, q4, ⟨h5, h6⟩, h7⟩ := h3.go
    subst q3
    refine ⟨?_⟩
    unfold sStoreD
    rw [q]
    show WS0 (match ρ[i]? with
    | some (some (.dict ps)) => sOf (k ρ) ρ fun kv => if (keyOf kv).isSome ∧ ps.length < sizeLine then .nx (ρ.set i (some (.dict (putP ps kv v)))) else .bad
    | _ => .bad) N R B C
    rw [q2]
    show WS0 (sOf (k ρ) ρ fun kv => if (keyOf kv).isSome ∧ ps.length < sizeLine then .nx (ρ.set i (some (.dict (putP ps kv v)))) else .bad) N R B C
    rw [q4]
    show WS0 (if (keyOf kv).isSome ∧ ps.length < sizeLine then .nx (ρ.set i (some (.dict (putP ps kv v)))) else .bad) N R B C
    rw [if_pos ⟨h5, by rw [line_eq]; exact h6⟩]
    exact h7
theorem wx_store {k : DE} : WS (sStore i k e ρ) N R B C = OkE (e ρ) fun v => OkS (ρ[i]?) fun x => OkL x fun ds => OkE (k ρ) fun kv => OkV (storeD (.list ds) kv v) fun o => Go (ρ.set i (some o)) N := by
  refine propext ⟨fun h => ?_, fun h => ?_⟩
  · have h := h.go
    unfold sStore at h
    cases q : e ρ with
    | ok v =>
      rw [q] at h
      refine ⟨v, rfl, ?_⟩
      have h : WS0 (match ρ[i]? with
        | some (some (.list ds)) => sOf (k ρ) ρ fun kv => match storeD (.list ds) kv v with
          | some o' => .nx (ρ.set i (some o'))
          | none => .bad
        | _ => .bad) N R B C := h
      split at h
      · rename_i ds q2
        refine ⟨_, q2, ds, rfl, ?_⟩
        cases q3 : k ρ with
        | ok kv =>
          rw [q3] at h
          have h : WS0 (match storeD (.list ds) kv v with
          | some o' => .nx (ρ.set i (some o'))
          | none => .bad) N R B C := h
          refine ⟨kv, rfl, ?_⟩
          cases q4 : storeD (.list ds) kv v with
          | some o => rw [q4] at h; exact ⟨o, rfl, h⟩
          | none => rw [q4] at h; exact h.elim
        | exn _ => rw [q3] at h; exact h.elim
        | bad => rw [q3] at h; exact h.elim
      · exact h.elim
    | exn _ => rw [q] at h; exact h.elim
    | bad => rw [q] at h; exact h.elim
  · obtain ⟨v, q, h⟩ := h.go
    obtain ⟨x, q2, h2⟩ := h.go
    obtain ⟨ps, q3, h3⟩ := h2.go
    obtain ⟨kv, q4, h4⟩ := h3.go
    obtain ⟨o, q5, h5⟩ := h4.go
    subst q3
    refine ⟨?_⟩
    unfold sStore
    rw [q]
    show WS0 (match ρ[i]? with
        | some (some (.list ds)) => sOf (k ρ) ρ fun kv => match storeD (.list ds) kv v with
          | some o' => .nx (ρ.set i (some o'))
          | none => .bad
        | _ => .bad) N R B C
    rw [q2]
    show WS0 (sOf (k ρ) ρ fun kv => match storeD (.list ps) kv v with
          | some o' => .nx (ρ.set i (some o'))
          | none => .bad) N R B C
    rw [q4]
    show WS0 (match storeD (.list ps) kv v with
          | some o' => .nx (ρ.set i (some o'))
          | none => .bad) N R B C
    rw [q5]
    exact h5
end
inductive Tg {α : Type} (k : α) : Type
  | mk
def rb {α β : Type} (r : Res α) (f : α → Res β) (_ : Tg f) : Res β := r.bind f
theorem rb_ok {α β : Type} (a : α) (f : α → Res β) (t : Tg f) : rb (.ok a) f t = f a := Eq.trans rfl rfl
theorem rb_exn {α β : Type} (e : D) (f : α → Res β) (t : Tg f) : rb (.exn e) f t = .exn e := Eq.trans rfl rfl
def WT (r : SRes) (N : Lo → Prop) (R : D → Prop) (B C : Lo → Prop) (_ : Tg N) (_ : Tg R) (_ : Tg B) (_ : Tg C) : Prop := WS r N R B C
def KE (r : Res D) (k : D → Prop) (_ : Tg k) : Prop := OkE r k
def KB (r : Res Bool) (k : Bool → Prop) (_ : Tg k) : Prop := OkB r k
def KV (r : Option D) (k : D → Prop) (_ : Tg k) : Prop := OkV r k
def KO (r : Option Lo) (k : Lo → Prop) (_ : Tg k) : Prop := OkO r k
def KS (r : Option (Option D)) (k : D → Prop) (_ : Tg k) : Prop := OkS r k
def KL (r : D) (k : List D → Prop) (_ : Tg k) : Prop := OkL r k
def KP (r : D) (k : List (D × D) → Prop) (_ : Tg k) : Prop := OkP r k
def KG (r : Lo) (k : Lo → Prop) (_ : Tg k) : Prop := k r
section
variable {t : Tg (fun _ : D => True)}
theorem kE_ok (v : D) (k : D → Prop) (t : Tg k) : KE (.ok v) k t = k v := okE_ok v k
theorem kB_ok (v : Bool) (k : Bool → Prop) (t : Tg k) : KB (.ok v) k t = k v := okB_ok v k
theorem kV_some (v : D) (k : D → Prop) (t : Tg k) : KV (some v) k t = k v := okV_some v k
theorem kO_some (v : Lo) (k : Lo → Prop) (t : Tg k) : KO (some v) k t = k v := okO_some v k
theorem kS_some (v : D) (k : D → Prop) (t : Tg k) : KS (some (some v)) k t = k v := okS_some v k
theorem kL_list (v : List D) (k : List D → Prop) (t : Tg k) : KL (.list v) k t = k v := okL_list v k
theorem kP_dict (v : List (D × D)) (k : List (D × D) → Prop) (t : Tg k) : KP (.dict v) k t = k v := okP_dict v k
theorem kG_def (ρ : Lo) (N : Lo → Prop) (t : Tg N) : KG ρ N t = N ρ := Eq.trans rfl rfl
theorem kE_ite {p : Prop} [Decidable p] (a b : Res D) (k : D → Prop) (t : Tg k) : KE (if p then a else b) k t = if p then KE a k t else KE b k t := by split <;> rfl
theorem kB_ite {p : Prop} [Decidable p] (a b : Res Bool) (k : Bool → Prop) (t : Tg k) : KB (if p then a else b) k t = if p then KB a k t else KB b k t := by split <;> rfl
theorem rb_ite {α β : Type} {p : Prop} [Decidable p] (a b : Res α) (f : α → Res β) (t : Tg f) : rb (if p then a else b) f t = if p then rb a f t else rb b f t := by split <;> rfl
end
theorem wt_ws (r : SRes) (N : Lo → Prop) (R : D → Prop) (B C : Lo → Prop) (tN : Tg N) (tR : Tg R) (tB : Tg B) (tC : Tg C) : WT r N R B C tN tR tB tC = WS r N R B C := Eq.trans rfl rfl
theorem ws_wtE (r : SRes) (N : Lo → Prop) (R : D → Prop) (B C : Lo → Prop) : WS r N R B C = WT r N R B C .mk .mk .mk .mk := Eq.trans rfl rfl
theorem ws_wt {r : SRes} {N : Lo → Prop} {R : D → Prop} {B C : Lo → Prop} (h : WT r N R B C .mk .mk .mk .mk) : WS r N R B C := h
section
variable {a b s : DS} {ρ : Lo} {N : Lo → Prop} {R : D → Prop} {B C : Lo → Prop} {e : DE} {c : DT} {i : Nat} {tN : Tg N} {tR : Tg R} {tB : Tg B} {tC : Tg C}
theorem tx_seq : WT (sSeq a b ρ) N R B C tN tR tB tC = WT (a ρ) (fun ρ' => WT (b ρ') N R B C tN tR tB tC) R B C .mk tR tB tC := wx_seq
theorem tx_skip : WT (sSkip ρ) N R B C tN tR tB tC = N ρ := wx_skip
theorem tx_break : WT (sBreak ρ) N R B C tN tR tB tC = B ρ := wx_break
theorem tx_cont : WT (sCont ρ) N R B C tN tR tB tC = C ρ := wx_cont
theorem tx_retN : WT (sRetN ρ) N R B C tN tR tB tC = R .none := wx_retN
theorem tx_set : WT (sSet i e ρ) N R B C tN tR tB tC = KE (e ρ) (fun v => KG (ρ.set i (some v)) N tN) .mk := wx_set
theorem tx_setO : WT (sSetO i e ρ) N R B C tN tR tB tC = KE (e ρ) (fun v => isMut v = true ∧ KG (ρ.set i (some v)) N tN) .mk := wx_setO
theorem tx_ret : WT (sRet e ρ) N R B C tN tR tB tC = KE (e ρ) R tR := wx_ret
theorem tx_expr : WT (sExpr e ρ) N R B C tN tR tB tC = KE (e ρ) (fun _ => N ρ) .mk := wx_expr
theorem tx_if : WT (sIf c a b ρ) N R B C tN tR tB tC = KB (c ρ) (fun k => if k = true then WT (a ρ) N R B C tN tR tB tC else WT (b ρ) N R B C tN tR tB tC) .mk := wx_if
theorem tx_par {j : Nat} {d d' : DE} : WT (sPar i j d d' ρ) N R B C tN tR tB tC = KE (d ρ) (fun v => KE (d' ρ) (fun w => KG ((ρ.set i (some v)).set j (some w)) N tN) .mk) .mk := wx_parE
theorem tx_unp {g : DG} : WT (sUnp g e ρ) N R B C tN tR tB tC = KE (e ρ) (fun v => KO (g v ρ) N tN) .mk := wx_unp
theorem tx_aug {f : D → D → Option D} : WT (sAug i f e ρ) N R B C tN tR tB tC = KS (ρ[i]?) (fun x => KE (e ρ) (fun y => KV (f x y) (fun z => KG (ρ.set i (some z)) N tN) .mk) .mk) .mk := wx_aug
theorem tx_app : WT (sApp i e ρ) N R B C tN tR tB tC = KS (ρ[i]?) (fun x => KL x (fun ds => KE (e ρ) (fun v => ds.length < 16777216 ∧ KG (ρ.set i (some (.list (ds ++ [v])))) N tN) .mk) .mk) .mk := wx_app
theorem tx_storeD {k : DE} : WT (sStoreD i k e ρ) N R B C tN tR tB tC = KE (e ρ) (fun v => KS (ρ[i]?) (fun x => KP x (fun ps => KE (k ρ) (fun kv => ((keyOf kv).isSome = true ∧ ps.length < 16777216) ∧ KG (ρ.set i (some (.dict (putP ps kv v)))) N tN) .mk) .mk) .mk) .mk := wx_storeD
theorem tx_store {k : DE} : WT (sStore i k e ρ) N R B C tN tR tB tC = KE (e ρ) (fun v => KS (ρ[i]?) (fun x => KL x (fun ds => KE (k ρ) (fun kv => KV (storeD (.list ds) kv v) (fun o => KG (ρ.set i (some o)) N tN) .mk) .mk) .mk) .mk) .mk := wx_store
end
section
variable (ρ : Lo)
def slotE (o : Option (Option D)) : Res D := match o with
  | some (some v) => .ok v
  | _ => .bad
theorem eVar_ap (i : Nat) : eVar i ρ = slotE (ρ[i]?) := Eq.trans rfl rfl
theorem slotE_some (v : D) : slotE (some (some v)) = .ok v := Eq.trans rfl rfl
theorem eC_ap (v : D) : eC v ρ = .ok v := Eq.trans rfl rfl
theorem eUn_ap (f : D → Option D) (d : DE) : eUn f d ρ = rb (d ρ) (fun x => Res.up (f x)) .mk := Eq.trans rfl rfl
theorem eBin_ap (f : D → D → Option D) (d d' : DE) : eBin f d d' ρ = rb (d ρ) (fun x => rb (d' ρ) (fun y => Res.up (f x y)) .mk) .mk := Eq.trans rfl rfl
theorem eMeL_ap (f : D → D → Option D) (d d' : DE) : eMeL f d d' ρ = rb (d ρ) (fun v => if isListD v = true then rb (d' ρ) (fun w => Res.up (f v w)) .mk else .bad) .mk := Eq.trans rfl rfl
theorem eCall_ap (f : List D → Res D) (d : DA) : eCall f d ρ = rb (d ρ) f .mk := Eq.trans rfl rfl
theorem aNil_ap : aNil ρ = .ok [] := Eq.trans rfl rfl
theorem aCons_ap (d : DE) (r : DA) : aCons d r ρ = rb (d ρ) (fun x => rb (r ρ) (fun xs => .ok (x :: xs)) .mk) .mk := Eq.trans rfl rfl
theorem tBin_ap (f : D → D → Option D) (d d' : DE) : tBin f d d' ρ = rb (eBin f d d' ρ) (fun v => Res.up (asB v)) .mk := Eq.trans rfl rfl
theorem tVal_ap (d : DE) : tVal d ρ = rb (d ρ) (fun v => .ok (truthD v)) .mk := Eq.trans rfl rfl
theorem tNotD_ap (d : DT) : tNotD d ρ = rb (d ρ) (fun b => .ok (!b)) .mk := Eq.trans rfl rfl
theorem tAndD_ap (d d' : DT) : tAndD d d' ρ = rb (d ρ) (fun b => if b = true then d' ρ else .ok false) .mk := Eq.trans rfl rfl
theorem tOrD_ap (d d' : DT) : tOrD d d' ρ = rb (d ρ) (fun b => if b = true then .ok true else d' ρ) .mk := Eq.trans rfl rfl
theorem tTrue_ap : tTrue ρ = .ok true := Eq.trans rfl rfl
theorem eNot_ap (d : DE) : eNot d ρ = rb (d ρ) (fun v => .ok (.bool (!truthD v))) .mk := Eq.trans rfl rfl
theorem eAnd_ap (d d' : DE) : eAnd d d' ρ = rb (d ρ) (fun v => if truthD v = true then d' ρ else .ok v) .mk := Eq.trans rfl rfl
theorem eOr_ap (d d' : DE) : eOr d d' ρ = rb (d ρ) (fun v => if truthD v = true then .ok v else d' ρ) .mk := Eq.trans rfl rfl
theorem eIfE_ap (t : DT) (d d' : DE) : eIfE t d d' ρ = rb (t ρ) (fun b => if b = true then d ρ else d' ρ) .mk := Eq.trans rfl rfl
theorem eChain_ap (f f' : D → D → Option D) (d d' d'' : DE) : eChain f f' d d' d'' ρ = rb (d ρ) (fun x => rb (d' ρ) (fun y => rb (Res.up ((f x y).bind asB)) (fun k => if k = true then rb (d'' ρ) (fun z => Res.up (f' y z)) .mk else .ok (.bool false)) .mk) .mk) .mk := by
  unfold eChain; rfl
theorem tChainD_ap (f f' : D → D → Option D) (d d' d'' : DE) : tChainD f f' d d' d'' ρ = rb (d ρ) (fun x => rb (d' ρ) (fun y => rb (Res.up ((f x y).bind asB)) (fun k => if k = true then rb (d'' ρ) (fun z => Res.up ((f' y z).bind asB)) .mk else .ok false) .mk) .mk) .mk := by
  unfold tChainD; rfl
theorem eTup_ap (d : DA) : eTup d ρ = rb (d ρ) mkT .mk := Eq.trans rfl rfl
theorem eLst_ap (d : DA) : eLst d ρ = rb (d ρ) mkL .mk := Eq.trans rfl rfl
theorem oNone_ap : oNone ρ = .ok none := Eq.trans rfl rfl
theorem oSome_ap (d : DE) : oSome d ρ = rb (d ρ) (fun v => rb (Res.up (asI v)) (fun i => .ok (some i)) .mk) .mk := Eq.trans rfl rfl
theorem eSlice_ap (d : DE) (l h : DO) : eSlice d l h ρ = rb (d ρ) (fun x => rb (l ρ) (fun i => rb (h ρ) (fun j => Res.up (vSlice x i j)) .mk) .mk) .mk := Eq.trans rfl rfl
theorem eStep_ap (d : DE) (l h s : DO) : eStep d l h s ρ = rb (d ρ) (fun x => rb (l ρ) (fun i => rb (h ρ) (fun j => rb (s ρ) (fun c => Res.up (vStep x i j c)) .mk) .mk) .mk) .mk := Eq.trans rfl rfl
theorem iVal_ap (d : DE) : iVal d ρ = rb (d ρ) (fun v => Res.up (itemsD v)) .mk := Eq.trans rfl rfl
theorem items_tup (l : List D) : itemsD (.tuple l) = some l := rfl
theorem items_list (l : List D) : itemsD (.list l) = some l := rfl
theorem iR1_ap (b : Bool) (d : DE) : iR1 b d ρ = rb (d ρ) (fun v => Res.up (vRange1 b v)) .mk := Eq.trans rfl rfl
theorem iR2_ap (b : Bool) (d d' : DE) : iR2 b d d' ρ = rb (d ρ) (fun v => rb (d' ρ) (fun w => Res.up (vRange2 b v w)) .mk) .mk := Eq.trans rfl rfl
theorem iR3_ap (b : Bool) (d d' d'' : DE) : iR3 b d d' d'' ρ = rb (d ρ) (fun v => rb (d' ρ) (fun w => rb (d'' ρ) (fun z => Res.up (vRange3 b v w z)) .mk) .mk) .mk := Eq.trans rfl rfl
theorem iRevD_ap (d : DE) : iRevD d ρ = rb (d ρ) (fun v => Res.up (vRev v)) .mk := Eq.trans rfl rfl
theorem iZipD_ap (d d' : DE) : iZipD d d' ρ = rb (d ρ) (fun v => rb (d' ρ) (fun w => Res.up (vZip v w)) .mk) .mk := Eq.trans rfl rfl
theorem iEnumD_ap (d : DE) : iEnumD d ρ = rb (d ρ) (fun v => Res.up (vEnum v)) .mk := Eq.trans rfl rfl
theorem eDisp_ap (zs : List Str) (d : DA) : eDisp zs d ρ = rb (d ρ) (fun xs => if xs.length = zs.length ∧ zs.length ≤ 15 then .ok (.dict (dispP zs xs)) else .bad) .mk := Eq.trans rfl rfl
theorem gN_ap (i : Nat) (v : D) : gN i v ρ = some (ρ.set i (some v)) := Eq.trans rfl rfl
theorem gT_ap (n : Nat) (gs : DGs) (ds : List D) (h : ds.length = n) : gT n gs (.tuple ds) ρ = gs ds ρ := if_pos h
theorem gT2_ap (i j : Nat) (a b : D) : gT 2 (gsCons (gN i) (gsCons (gN j) gsNil)) (.tuple [a, b]) ρ = some ((ρ.set i (some a)).set j (some b)) := Eq.trans rfl rfl
theorem gT3_ap (i j k : Nat) (a b c : D) : gT 3 (gsCons (gN i) (gsCons (gN j) (gsCons (gN k) gsNil))) (.tuple [a, b, c]) ρ = some (((ρ.set i (some a)).set j (some b)).set k (some c)) := Eq.trans rfl rfl
theorem gsNil_ap : gsNil [] ρ = some ρ := Eq.trans rfl rfl
theorem gsCons_ap (i : Nat) (gs : DGs) (d : D) (ds : List D) : gsCons (gN i) gs (d :: ds) ρ = gs ds (ρ.set i (some d)) := Eq.trans rfl rfl
end
theorem ite_okb {p : Prop} [Decidable p] (b : Bool) : (if p then Res.ok b else Res.ok false) = Res.ok (decide p && b) := by split <;> simp [*]
theorem ite_okB {p : Prop} [Decidable p] (b : Bool) : (if p then Res.ok (PyData.bool b) else Res.ok (.bool false)) = Res.ok (.bool (decide p && b)) := by split <;> simp [*]
theorem ite_okb' {p : Prop} [Decidable p] (b : Bool) : (if p then Res.ok true else Res.ok b) = Res.ok (decide p || b) := by split <;> simp [*]
theorem ite_okB' {p : Prop} [Decidable p] (b : Bool) : (if p then Res.ok (PyData.bool true) else Res.ok (.bool b)) = Res.ok (.bool (decide p || b)) := by split <;> simp [*]
theorem ws_tryN_ok {body : DS} {tbl : Str → Option Bool} {de : DE} {ρ : Lo} {N : Lo → Prop} {R : D → Prop} {B C : Lo → Prop} (h : WS (body ρ) N R B C) : WS (sTryN tbl body de ρ) N R B C := by
  refine ⟨?_⟩
  have h := h.go
  unfold sTryN
  cases e : body ρ with
  | nx ρ' => rw [e] at h; exact h
  | rt v => rw [e] at h; exact h
  | bk ρ' => rw [e] at h; exact h
  | ct ρ' => rw [e] at h; exact h
  | ex c ρ' => rw [e] at h; exact h.elim
  | bad => rw [e] at h; exact h.elim
theorem ws_tryN_ex {body : DS} {tbl : Str → Option Bool} {de : DE} {ρ ρ' : Lo} {N : Lo → Prop} {R : D → Prop} {B C : Lo → Prop} {n : Str} {v : D} (hb : body ρ = .ex (excD n []) ρ') (ht : tbl n = some true) (he : de ρ' = .ok v) (h : R v) : WS (sTryN tbl body de ρ) N R B C := by
  refine ⟨?_⟩
  unfold sTryN
  rw [hb]
  show WS0 (match tbl n with
    | some true => onlyRt ρ' (de ρ')
    | some false => .ex (excD n []) ρ'
    | none => .bad) N R B C
  rw [ht]
  show WS0 (onlyRt ρ' (de ρ')) N R B C
  rw [he]
  exact h
theorem ws_mid {r : SRes} {N : Lo → Prop} {R : D → Prop} {B C : Lo → Prop} (M : Lo → Prop) (h : WS r M R B C) (h2 : ∀ ρ', M ρ' → N ρ') : WS r N R B C := h.mono h2 (fun _ h => h) (fun _ h => h) (fun _ h => h)
theorem dec_ne' {α : Type} [DecidableEq α] (a b : α) : decide (a ≠ b) = !decide (a = b) := decide_not
theorem ite_dec {p : Prop} [Decidable p] (x : Res D) : (if p then x else Res.ok (PyData.bool (decide p))) = if p then x else Res.ok (.bool false) := by split <;> simp [*]
theorem ite_dec' {p : Prop} [Decidable p] (x : Res D) : (if p then Res.ok (PyData.bool (decide p)) else x) = if p then Res.ok (.bool true) else x := by split <;> simp [*]
theorem ite_b (b : Bool) (x : Res D) : (if b = true then x else Res.ok (PyData.bool b)) = if b = true then x else Res.ok (.bool false) := by cases b <;> rfl
theorem ite_b' (b : Bool) (x : Res D) : (if b = true then Res.ok (PyData.bool b) else x) = if b = true then Res.ok (.bool true) else x := by cases b <;> rfl
theorem vIdx_t4 (a b c d e : D) (l : List D) : vIdx (.tuple (a :: b :: c :: d :: e :: l)) (.int 4) = some e := by
  rw [vIdx_tup (by decide) (by simp <;> omega)]; rfl
theorem vIdx_t5 (a b c d e f : D) (l : List D) : vIdx (.tuple (a :: b :: c :: d :: e :: f :: l)) (.int 5) = some f := by
  rw [vIdx_tup (by decide) (by simp <;> omega)]; rfl
theorem vIdx_l3 (a b c d : D) (l : List D) : vIdx (.list (a :: b :: c :: d :: l)) (.int 3) = some d := vIdx_t3 a b c d l
theorem vIdx_l4 (a b c d e : D) (l : List D) : vIdx (.list (a :: b :: c :: d :: e :: l)) (.int 4) = some e := vIdx_t4 a b c d e l
theorem isMut_list (l : List D) : isMut (.list l) = true := rfl
theorem isMut_dict (l : List (D × D)) : isMut (.dict l) = true := rfl
theorem up_none' {α : Type} : Res.up (none : Option α) = .bad := rfl
end PL

end
section
namespace PL
open PySem
theorem eMeD_ap {ρ : Lo} (f : D → D → Option D) (d d' : DE) : eMeD f d d' ρ = rb (d ρ) (fun v => if isDictD v = true then rb (d' ρ) (fun w => Res.up (f v w)) .mk else .bad) .mk := Eq.trans rfl rfl
theorem vGet1D_str (ps : List (D × D)) (z : Str) : vGet1D (.dict ps) (.str z) = some ((findP ps (.str z)).getD .none) := Eq.trans rfl rfl
theorem vGet1D_int (ps : List (D × D)) (i : Int) : vGet1D (.dict ps) (.int i) = some ((findP ps (.int i)).getD .none) := Eq.trans rfl rfl
theorem vDisp1_str (z : Str) (v : D) : vDisp1 (.str z) v = some (.dict [(.str z, v)]) := Eq.trans rfl rfl
theorem vDisp1_int (i : Int) (v : D) : vDisp1 (.int i) v = some (.dict [(.int i, v)]) := Eq.trans rfl rfl
theorem vCountI_ints (ns : List Int) (i : Int) : vCountI (.list (ns.map .int)) (.int i) = some (.int (ns.count i : Nat)) := by
  show (allInt (ns.map .int)).bind _ = _
  rw [allInt_map]; rfl
theorem vSorted_ints (ns : List Int) : vSorted (.list (ns.map .int)) = some (.list ((sortI ns).map .int)) := by
  show (match allInt (ns.map .int) with
    | some ns => some (PyData.list ((sortI ns).map .int))
    | none => _) = _
  rw [allInt_map]
theorem vSorted_strs (ss : List Str) : vSorted (.list (ss.map .str)) = some (.list ((sortS ss).map .str)) := by
  cases ss with
  | nil => simp [vSorted, allInt, sortI, sortS]
  | cons z r =>
    show (match allInt (.str z :: r.map .str) with
      | some ns => some (PyData.list ((sortI ns).map .int))
      | none => (allStr (.str z :: r.map .str)).bind fun ss => some (.list ((sortS ss).map .str))) = _
    rw [show allInt (.str z :: r.map .str) = none from rfl, show allStr (.str z :: r.map .str) = some (z :: r) from allStr_map (z :: r)]
    rfl
end PL

end
section
namespace PL
open PySem
def d_is_name : List D → Res D := runD 2 (sSeq (sIf (tOrD (tNotD (tVal (eUn (vIsi "str") (eVar 0)))) (tNotD (tChainD vLe vLe (eC (.int 1)) (eUn vLen (eVar 0)) (eC (.int 12))))) (sSeq (sRet (eC (.bool false))) (sSkip)) (sSkip)) (sSeq (sIf (tBin vNotIn (eBin vIdx (eVar 0) (eC (.int 0))) (eC (.str "abcdefghijklmnopqrstuvwxyz"))) (sSeq (sRet (eC (.bool false))) (sSkip)) (sSkip)) (sSeq (sFor (gN 1) (iVal (eVar 0)) (sSeq (sIf (tAndD (tBin vNotIn (eVar 1) (eC (.str "abcdefghijklmnopqrstuvwxyz"))) (tBin vNotIn (eVar 1) (eC (.str "0123456789")))) (sSeq (sRet (eC (.bool false))) (sSkip)) (sSkip)) (sSkip))) (sSeq (sRet (eC (.bool true))) (sSkip)))))
def d_is_row : List D → Res D := runD 3 (sSeq (sRet (eAnd (eUn (vIsi "tuple") (eVar 0)) (eChain vLe vLe (eVar 1) (eUn vLen (eVar 0)) (eVar 2)))) (sSkip))
def d_is_names : List D → Res D := runD 5 (sSeq (sIf (tNotD (tVal (eCall d_is_row (aCons (eVar 0) (aCons (eVar 1) (aCons (eVar 2) (aNil))))))) (sSeq (sRet (eC (.bool false))) (sSkip)) (sSkip)) (sSeq (sSetO 3 (eC (.dict []))) (sSeq (sFor (gN 4) (iVal (eVar 0)) (sSeq (sIf (tOrD (tNotD (tVal (eCall d_is_name (aCons (eVar 4) (aNil))))) (tBin vInD (eVar 4) (eVar 3))) (sSeq (sRet (eC (.bool false))) (sSkip)) (sSkip)) (sSeq (sStoreD 3 (eVar 4) (eC (.bool true))) (sSkip)))) (sSeq (sRet (eC (.bool true))) (sSkip)))))
def d_is_ascending : List D → Res D := runD 4 (sSeq (sIf (tNotD (tVal (eCall d_is_names (aCons (eVar 0) (aCons (eVar 1) (aCons (eVar 2) (aNil))))))) (sSeq (sRet (eC (.bool false))) (sSkip)) (sSkip)) (sSeq (sRet (eUn vAll (eComp [3] (gN 3) (iR1 true (eBin vSub (eUn vLen (eVar 0)) (eC (.int 1)))) (tTrue) (eBin vLt (eBin vIdx (eVar 0) (eVar 3)) (eBin vIdx (eVar 0) (eBin vAdd (eVar 3) (eC (.int 1)))))))) (sSkip)))
def d_is_table : List D → Res D := runD 4 (sSeq (sIf (tNotD (tVal (eCall d_is_row (aCons (eVar 0) (aCons (eVar 1) (aCons (eVar 2) (aNil))))))) (sSeq (sRet (eC (.bool false))) (sSkip)) (sSkip)) (sSeq (sFor (gN 3) (iVal (eVar 0)) (sSeq (sIf (tNotD (tVal (eCall d_is_row (aCons (eVar 3) (aCons (eC (.int 2)) (aCons (eC (.int 2)) (aNil))))))) (sSeq (sRet (eC (.bool false))) (sSkip)) (sSkip)) (sSkip))) (sSeq (sRet (eCall d_is_ascending (aCons (eUn vTuple (eComp [3] (gN 3) (iVal (eVar 0)) (tTrue) (eBin vIdx (eVar 3) (eC (.int 0))))) (aCons (eVar 1) (aCons (eVar 2) (aNil)))))) (sSkip))))
def d_names_of : List D → Res D := runD 2 (sSeq (sRet (eUn vTuple (eComp [1] (gN 1) (iVal (eVar 0)) (tTrue) (eBin vIdx (eVar 1) (eC (.int 0)))))) (sSkip))
def d_value_of : List D → Res D := runD 4 (sSeq (sFor (gN 3) (iVal (eVar 0)) (sSeq (sIf (tBin vEq (eBin vIdx (eVar 3) (eC (.int 0))) (eVar 1)) (sSeq (sRet (eBin vIdx (eVar 3) (eC (.int 1)))) (sSkip)) (sSkip)) (sSkip))) (sSeq (sRet (eVar 2)) (sSkip)))
def d_holds : List D → Res D := runD 2 (sSeq (sRet (eBin vIn (eVar 1) (eCall d_names_of (aCons (eVar 0) (aNil))))) (sSkip))
def d_table_from : List D → Res D := runD 4 (sSeq (sSetO 1 (eC (.dict []))) (sSeq (sFor (gT 2 (gsCons (gN 2) (gsCons (gN 3) (gsNil)))) (iVal (eVar 0)) (sSeq (sStoreD 1 (eVar 2) (eVar 3)) (sSkip))) (sSeq (sRet (eUn vTuple (eComp [2] (gN 2) (iVal (eUn vSorted (eVar 1))) (tTrue) (eTup (aCons (eVar 2) (aCons (eBin vGetD (eVar 1) (eVar 2)) (aNil))))))) (sSkip))))
def d_part_at : List D → Res D := runD 3 (sSeq (sFor (gN 2) (iKeysD (eVar 0)) (sSeq (sIf (tBin vEq (eBin vGetD (eVar 0) (eVar 2)) (eVar 1)) (sSeq (sRet (eVar 2)) (sSkip)) (sSkip)) (sSkip))) (sSeq (sRet (eC .none)) (sSkip)))
def d_reached_from : List D → Res D := runD 8 (sSeq (sSetO 3 (eLst (aCons (eVar 2) (aNil)))) (sSeq (sSetO 4 (eC (.dict []))) (sSeq (sSet 5 (eC (.int 0))) (sSeq (sWhile wFuel (tBin vLt (eVar 5) (eUn vLen (eVar 3))) (sSeq (sSet 6 (eBin vIdx (eVar 3) (eVar 5))) (sSeq (sFor (gN 7) (iVal (eCall (fun ds => d_value_of (ds ++ [.none])) (aCons (eVar 0) (aCons (eVar 6) (aNil))))) (sSeq (sIf (tBin vNinD (eVar 7) (eVar 4)) (sSeq (sStoreD 4 (eVar 7) (eVar 6)) (sSeq (sIf (tBin vInD (eVar 7) (eVar 1)) (sSeq (sApp 3 (eBin vGetD (eVar 1) (eVar 7))) (sSkip)) (sSkip)) (sSkip))) (sSkip)) (sSkip))) (sSeq (sAug 5 vAddI (eC (.int 1))) (sSkip))))) (sSeq (sRet (eTup (aCons (eVar 3) (aCons (eVar 4) (aNil))))) (sSkip))))))
def d_free_part : List D → Res D := runD 3 (sSeq (sFor (gN 2) (iKeysD (eVar 1)) (sSeq (sIf (tBin vNinD (eVar 2) (eVar 0)) (sSeq (sRet (eVar 2)) (sSkip)) (sSkip)) (sSkip))) (sSeq (sRet (eC .none)) (sSkip)))
def d_owners_along : List D → Res D := runD 7 (sSeq (sSetO 4 (eUn vDictC (eVar 0))) (sSeq (sSet 5 (eVar 3)) (sSeq (sSet 6 (eC .none)) (sSeq (sWhile wFuel (tBin vNe (eVar 6) (eVar 2)) (sSeq (sSet 6 (eBin vGetD (eVar 1) (eVar 5))) (sSeq (sStoreD 4 (eVar 5) (eVar 6)) (sSeq (sSet 5 (eCall d_part_at (aCons (eVar 0) (aCons (eVar 6) (aNil))))) (sSkip))))) (sSeq (sRet (eVar 4)) (sSkip))))))
def d_greatest_owners : List D → Res D := runD 5 (sSeq (sSet 1 (eC (.dict []))) (sSeq (sFor (gN 2) (iVal (eCall d_names_of (aCons (eVar 0) (aNil)))) (sSeq (sSet 3 (eBin vIdx (eCall d_reached_from (aCons (eVar 0) (aCons (eVar 1) (aCons (eVar 2) (aNil))))) (eC (.int 1)))) (sSeq (sSet 4 (eCall d_free_part (aCons (eVar 1) (aCons (eVar 3) (aNil))))) (sSeq (sIf (tBin vNotN (eVar 4) (eC .none)) (sSeq (sSet 1 (eCall d_owners_along (aCons (eVar 1) (aCons (eVar 3) (aCons (eVar 2) (aCons (eVar 4) (aNil))))))) (sSkip)) (sSkip)) (sSkip))))) (sSeq (sRet (eVar 1)) (sSkip))))
def d_match_of : List D → Res D := runD 2 (sSeq (sRet (eCall d_table_from (aCons (eComp [1] (gN 1) (iKeysD (eVar 0)) (tTrue) (eTup (aCons (eBin vGetD (eVar 0) (eVar 1)) (aCons (eVar 1) (aNil))))) (aNil)))) (sSkip))
def d_matching_report : List D → Res D := runD 5 (sSeq (sSet 1 (eCall d_greatest_owners (aCons (eVar 0) (aNil)))) (sSeq (sFor (gN 2) (iVal (eCall d_names_of (aCons (eVar 0) (aNil)))) (sSeq (sIf (tBin vIsN (eCall d_part_at (aCons (eVar 1) (aCons (eVar 2) (aNil)))) (eC .none)) (sSeq (sUnp (gT 2 (gsCons (gN 3) (gsCons (gN 4) (gsNil)))) (eCall d_reached_from (aCons (eVar 0) (aCons (eVar 1) (aCons (eVar 2) (aNil)))))) (sSeq (sRet (eTup (aCons (eC (.str "cut")) (aCons (eUn vTuple (eUn vSorted (eVar 3))) (aCons (eUn vTuple (eUn vSorted (eVar 4))) (aNil)))))) (sSkip))) (sSkip)) (sSkip))) (sSeq (sRet (eTup (aCons (eC (.str "match")) (aCons (eCall d_match_of (aCons (eVar 1) (aNil))) (aNil))))) (sSkip))))
def d_is_partial : List D → Res D := runD 5 (sSeq (sIf (tNotD (tVal (eCall d_is_table (aCons (eVar 1) (aCons (eC (.int 0)) (aCons (eUn vLen (eVar 0)) (aNil))))))) (sSeq (sRet (eC (.bool false))) (sSkip)) (sSkip)) (sSeq (sSetO 2 (eLst (aNil))) (sSeq (sFor (gT 2 (gsCons (gN 3) (gsCons (gN 4) (gsNil)))) (iVal (eVar 1)) (sSeq (sIf (tOrD (tNotD (tVal (eCall d_is_name (aCons (eVar 4) (aNil))))) (tOrD (tBin vIn (eVar 4) (eVar 2)) (tBin vNotIn (eVar 4) (eCall d_value_of (aCons (eVar 0) (aCons (eVar 3) (aCons (eTup (aNil)) (aNil)))))))) (sSeq (sRet (eC (.bool false))) (sSkip)) (sSkip)) (sSeq (sApp 2 (eVar 4)) (sSkip)))) (sSeq (sRet (eC (.bool true))) (sSkip)))))
def d_is_match : List D → Res D := runD 2 (sSeq (sRet (eAnd (eCall d_is_partial (aCons (eVar 0) (aCons (eVar 1) (aNil)))) (eBin vEq (eCall d_names_of (aCons (eVar 1) (aNil))) (eCall d_names_of (aCons (eVar 0) (aNil)))))) (sSkip))
def d_is_cut : List D → Res D := runD 5 (sSeq (sIf (tOrD (tNotD (tVal (eCall d_is_ascending (aCons (eVar 1) (aCons (eC (.int 1)) (aCons (eUn vLen (eVar 0)) (aNil))))))) (tNotD (tVal (eCall d_is_ascending (aCons (eVar 2) (aCons (eC (.int 0)) (aCons (eBin vSub (eUn vLen (eVar 1)) (eC (.int 1))) (aNil)))))))) (sSeq (sRet (eC (.bool false))) (sSkip)) (sSkip)) (sSeq (sFor (gN 3) (iVal (eVar 1)) (sSeq (sIf (tNotD (tVal (eCall d_holds (aCons (eVar 0) (aCons (eVar 3) (aNil)))))) (sSeq (sRet (eC (.bool false))) (sSkip)) (sSkip)) (sSeq (sFor (gN 4) (iVal (eCall (fun ds => d_value_of (ds ++ [.none])) (aCons (eVar 0) (aCons (eVar 3) (aNil))))) (sSeq (sIf (tBin vNotIn (eVar 4) (eVar 2)) (sSeq (sRet (eC (.bool false))) (sSkip)) (sSkip)) (sSkip))) (sSkip)))) (sSeq (sRet (eC (.bool true))) (sSkip))))
def d_shows_matching : List D → Res D := runD 2 (sSeq (sIf (tAndD (tVal (eCall d_is_row (aCons (eVar 1) (aCons (eC (.int 2)) (aCons (eC (.int 2)) (aNil)))))) (tBin vEq (eBin vIdx (eVar 1) (eC (.int 0))) (eC (.str "match")))) (sSeq (sRet (eCall d_is_match (aCons (eVar 0) (aCons (eBin vIdx (eVar 1) (eC (.int 1))) (aNil))))) (sSkip)) (sSkip)) (sSeq (sIf (tAndD (tVal (eCall d_is_row (aCons (eVar 1) (aCons (eC (.int 3)) (aCons (eC (.int 3)) (aNil)))))) (tBin vEq (eBin vIdx (eVar 1) (eC (.int 0))) (eC (.str "cut")))) (sSeq (sRet (eCall d_is_cut (aCons (eVar 0) (aCons (eBin vIdx (eVar 1) (eC (.int 1))) (aCons (eBin vIdx (eVar 1) (eC (.int 2))) (aNil)))))) (sSkip)) (sSkip)) (sSeq (sRet (eC (.bool false))) (sSkip))))
def d_law_mixed : List D → Res D := runD 3 (sSeq (sSet 2 (eBin vMod (eUn vInt (eBin vAdd (eBin vMul (eVar 0) (eC (.int 48271))) (eBin vMul (eBin vAdd (eVar 1) (eC (.int 1))) (eC (.int 69621))))) (eC (.int 2147483647)))) (sSeq (sSet 2 (eBin vMod (eUn vInt (eBin vAdd (eBin vMul (eVar 2) (eVar 2)) (eVar 0))) (eC (.int 2147483629)))) (sSeq (sRet (eBin vMod (eUn vInt (eBin vDiv (eVar 2) (eC (.int 7)))) (eC (.int 997)))) (sSkip))))
def d_law_pool : List D → Res D := runD 7 (sSeq (sIf (tBin vEq (eUn vLen (eVar 0)) (eC (.int 0))) (sSeq (sRet (eComp [4] (gN 4) (iR1 true (eC (.int 200))) (tTrue) (eC (.int 0)))) (sSkip)) (sSkip)) (sSeq (sSetO 1 (eLst (aNil))) (sSeq (sFor (gN 2) (iVal (eSlice (eVar 0) oNone (oSome (eC (.int 63))))) (sSeq (sIf (tBin vGe (eVar 2) (eBin vPow (eC (.int 10)) (eC (.int 18)))) (sSeq (sSet 3 (eVar 2)) (sSeq (sFor (gN 4) (iR1 false (eC (.int 60))) (sSeq (sIf (tBin vGt (eVar 3) (eC (.int 0))) (sSeq (sApp 1 (eBin vMod (eUn vInt (eVar 3)) (eC (.int 997)))) (sSeq (sSet 3 (eBin vDiv (eVar 3) (eC (.int 997)))) (sSkip))) (sSkip)) (sSkip))) (sSkip))) (sSeq (sFor (gN 4) (iR1 false (eC (.int 4))) (sSeq (sApp 1 (eCall d_law_mixed (aCons (eBin vMod (eUn vInt (eVar 2)) (eC (.int 1000003))) (aCons (eVar 4) (aNil))))) (sSkip))) (sSkip))) (sSkip))) (sSeq (sSet 5 (eC (.int 1))) (sSeq (sFor (gN 6) (iVal (eSlice (eVar 1) oNone (oSome (eC (.int 200))))) (sSeq (sSet 5 (eBin vMod (eUn vInt (eBin vAdd (eBin vMul (eVar 5) (eC (.int 31))) (eVar 6))) (eC (.int 1000003)))) (sSkip))) (sSeq (sFor (gN 4) (iR1 false (eBin vSub (eC (.int 200)) (eUn vLen (eVar 1)))) (sSeq (sSet 5 (eBin vMod (eUn vInt (eBin vAdd (eBin vAdd (eBin vMul (eVar 5) (eC (.int 48271))) (eVar 4)) (eC (.int 1)))) (eC (.int 1000003)))) (sSeq (sApp 1 (eCall d_law_mixed (aCons (eVar 5) (aCons (eVar 4) (aNil))))) (sSkip)))) (sSeq (sRet (eVar 1)) (sSkip))))))))
def d_law_name_2 : List D → Res D := runD 6 (sSeq (sSet 1 (eC (.str "abcdefghijklmnopqrstuvwxyz"))) (sSeq (sSet 2 (eBin vAdd (eVar 1) (eC (.str "0123456789")))) (sSeq (sSet 3 (eBin vIdx (eVar 1) (eBin vMod (eUn vInt (eVar 0)) (eC (.int 26))))) (sSeq (sSet 4 (eBin vDiv (eVar 0) (eC (.int 26)))) (sSeq (sFor (gN 5) (iR1 false (eC (.int 11))) (sSeq (sIf (tBin vGt (eVar 4) (eC (.int 0))) (sSeq (sSet 4 (eBin vSub (eVar 4) (eC (.int 1)))) (sSeq (sSet 3 (eBin vAdd (eVar 3) (eBin vIdx (eVar 2) (eBin vMod (eUn vInt (eVar 4)) (eC (.int 36)))))) (sSeq (sSet 4 (eBin vDiv (eVar 4) (eC (.int 36)))) (sSkip)))) (sSkip)) (sSkip))) (sSeq (sRet (eVar 3)) (sSkip)))))))
def d_law_names_3 : List D → Res D := runD 7 (sSeq (sSetO 3 (eLst (aNil))) (sSeq (sFor (gN 4) (iR1 false (eVar 2)) (sSeq (sSet 5 (eBin vIdx (eVar 0) (eBin vAdd (eVar 1) (eVar 4)))) (sSeq (sIf (tBin vEq (eBin vMod (eUn vInt (eBin vIdx (eVar 0) (eVar 1))) (eC (.int 5))) (eC (.int 1))) (sSeq (sSet 5 (eBin vMul (eVar 5) (eBin vPow (eC (.int 10)) (eC (.int 14))))) (sSkip)) (sSkip)) (sSeq (sFor (gN 6) (iR1 false (eVar 2)) (sSeq (sIf (tBin vIn (eCall d_law_name_2 (aCons (eVar 5) (aNil))) (eVar 3)) (sSeq (sSet 5 (eBin vAdd (eVar 5) (eC (.int 1)))) (sSkip)) (sSkip)) (sSkip))) (sSeq (sApp 3 (eCall d_law_name_2 (aCons (eVar 5) (aNil)))) (sSkip)))))) (sSeq (sRet (eUn vTuple (eUn vSorted (eVar 3)))) (sSkip))))
def d_law_bit : List D → Res D := runD 3 (sSeq (sRet (eBin vEq (eBin vMod (eUn vInt (eBin vDiv (eBin vIdx (eVar 0) (eBin vAdd (eVar 1) (eBin vDiv (eVar 2) (eC (.int 9))))) (eBin vIdx (eLst (aCons (eC (.int 1)) (aCons (eC (.int 2)) (aCons (eC (.int 4)) (aCons (eC (.int 8)) (aCons (eC (.int 16)) (aCons (eC (.int 32)) (aCons (eC (.int 64)) (aCons (eC (.int 128)) (aCons (eC (.int 256)) (aNil))))))))))) (eBin vMod (eUn vInt (eVar 2)) (eC (.int 9)))))) (eC (.int 2))) (eC (.int 1)))) (sSkip))
def d_law_takes : List D → Res D := runD 6 (sSeq (sSet 5 (eCall d_law_bit (aCons (eVar 0) (aCons (eBin vAdd (eC (.int 50)) (eBin vMul (eC (.int 3)) (eVar 2))) (aCons (eVar 3) (aNil)))))) (sSeq (sIf (tBin vEq (eVar 1) (eC (.int 1))) (sSeq (sRet (eAnd (eVar 5) (eCall d_law_bit (aCons (eVar 0) (aCons (eBin vAdd (eC (.int 80)) (eBin vMul (eC (.int 3)) (eVar 2))) (aCons (eVar 3) (aNil))))))) (sSkip)) (sSkip)) (sSeq (sIf (tBin vEq (eVar 1) (eC (.int 2))) (sSeq (sIf (tBin vEq (eVar 2) (eBin vSub (eVar 4) (eC (.int 1)))) (sSeq (sRet (eBin vEq (eVar 3) (eC (.int 0)))) (sSkip)) (sSkip)) (sSeq (sRet (eOr (eBin vEq (eVar 3) (eVar 2)) (eBin vEq (eVar 3) (eBin vAdd (eVar 2) (eC (.int 1)))))) (sSkip))) (sSkip)) (sSeq (sIf (tAndD (tBin vEq (eVar 1) (eC (.int 3))) (tBin vLt (eVar 2) (eBin vAdd (eC (.int 1)) (eBin vDiv (eVar 4) (eC (.int 2)))))) (sSeq (sRet (eAnd (eVar 5) (eBin vLt (eVar 3) (eBin vDiv (eVar 4) (eC (.int 2)))))) (sSkip)) (sSkip)) (sSeq (sIf (tBin vEq (eVar 1) (eC (.int 4))) (sSeq (sRet (eOr (eBin vEq (eVar 3) (eBin vSub (eBin vSub (eVar 4) (eC (.int 1))) (eVar 2))) (eAnd (eVar 5) (eCall d_law_bit (aCons (eVar 0) (aCons (eBin vAdd (eC (.int 80)) (eBin vMul (eC (.int 3)) (eVar 2))) (aCons (eVar 3) (aNil)))))))) (sSkip)) (sSkip)) (sSeq (sIf (tBin vEq (eVar 1) (eC (.int 5))) (sSeq (sRet (eCall d_law_bit (aCons (eVar 0) (aCons (eC (.int 50)) (aCons (eVar 3) (aNil)))))) (sSkip)) (sSkip)) (sSeq (sIf (tBin vEq (eVar 1) (eC (.int 6))) (sSeq (sRet (eOr (eBin vEq (eVar 3) (eBin vSub (eBin vSub (eVar 4) (eC (.int 1))) (eVar 2))) (eVar 5))) (sSkip)) (sSkip)) (sSeq (sRet (eVar 5)) (sSkip)))))))))
def d_law_table_3 : List D → Res D := runD 10 (sSeq (sSet 4 (eCall d_law_names_3 (aCons (eVar 0) (aCons (eC (.int 4)) (aCons (eVar 1) (aNil)))))) (sSeq (sSet 5 (eC (.int 20))) (sSeq (sIf (tBin vEq (eBin vMod (eUn vInt (eBin vIdx (eVar 0) (eC (.int 1)))) (eC (.int 4))) (eC (.int 1))) (sSeq (sSet 5 (eC (.int 4))) (sSkip)) (sSkip)) (sSeq (sSet 6 (eCall d_law_names_3 (aCons (eVar 0) (aCons (eVar 5) (aCons (eVar 2) (aNil)))))) (sSeq (sSetO 7 (eLst (aNil))) (sSeq (sFor (gN 8) (iR1 false (eVar 1)) (sSeq (sApp 7 (eTup (aCons (eBin vIdx (eVar 4) (eVar 8)) (aCons (eUn vTuple (eComp [9] (gN 9) (iR1 true (eVar 2)) (tVal (eCall d_law_takes (aCons (eVar 0) (aCons (eVar 3) (aCons (eVar 8) (aCons (eVar 9) (aCons (eVar 1) (aNil)))))))) (eBin vIdx (eVar 6) (eVar 9)))) (aNil))))) (sSkip))) (sSeq (sRet (eUn vTuple (eVar 7))) (sSkip))))))))
def d_law_is_name_2 : List D → Res D := runD 2 (sSeq (sIf (tOrD (tNotD (tVal (eUn (vIsi "str") (eVar 0)))) (tNotD (tChainD vLe vLe (eC (.int 1)) (eUn vLen (eVar 0)) (eC (.int 12))))) (sSeq (sRet (eC (.bool false))) (sSkip)) (sSkip)) (sSeq (sFor (gN 1) (iVal (eVar 0)) (sSeq (sIf (tBin vNotIn (eVar 1) (eC (.str "abcdefghijklmnopqrstuvwxyz0123456789"))) (sSeq (sRet (eC (.bool false))) (sSkip)) (sSkip)) (sSkip))) (sSeq (sRet (eBin vNotIn (eBin vIdx (eVar 0) (eC (.int 0))) (eC (.str "0123456789")))) (sSkip))))
def d_law_is_names : List D → Res D := runD 2 (sSeq (sIf (tNotD (tVal (eUn (vIsi "tuple") (eVar 0)))) (sSeq (sRet (eC (.bool false))) (sSkip)) (sSkip)) (sSeq (sFor (gN 1) (iR1 false (eUn vLen (eVar 0))) (sSeq (sIf (tNotD (tVal (eCall d_law_is_name_2 (aCons (eBin vIdx (eVar 0) (eVar 1)) (aNil))))) (sSeq (sRet (eC (.bool false))) (sSkip)) (sSkip)) (sSeq (sIf (tAndD (tBin vGt (eVar 1) (eC (.int 0))) (tNotD (tBin vLt (eBin vIdx (eVar 0) (eBin vSub (eVar 1) (eC (.int 1)))) (eBin vIdx (eVar 0) (eVar 1))))) (sSeq (sRet (eC (.bool false))) (sSkip)) (sSkip)) (sSkip)))) (sSeq (sRet (eC (.bool true))) (sSkip))))
def d_law_is_partial : List D → Res D := runD 7 (sSeq (sIf (tNotD (tVal (eUn (vIsi "tuple") (eVar 1)))) (sSeq (sRet (eC (.bool false))) (sSkip)) (sSkip)) (sSeq (sSetO 2 (eLst (aNil))) (sSeq (sFor (gN 3) (iR1 false (eUn vLen (eVar 1))) (sSeq (sSet 4 (eBin vIdx (eVar 1) (eVar 3))) (sSeq (sIf (tOrD (tNotD (tVal (eUn (vIsi "tuple") (eVar 4)))) (tBin vNe (eUn vLen (eVar 4)) (eC (.int 2)))) (sSeq (sRet (eC (.bool false))) (sSkip)) (sSkip)) (sSeq (sIf (tOrD (tNotD (tVal (eCall d_law_is_name_2 (aCons (eBin vIdx (eVar 4) (eC (.int 0))) (aNil))))) (tOrD (tNotD (tVal (eCall d_law_is_name_2 (aCons (eBin vIdx (eVar 4) (eC (.int 1))) (aNil))))) (tBin vIn (eBin vIdx (eVar 4) (eC (.int 1))) (eVar 2)))) (sSeq (sRet (eC (.bool false))) (sSkip)) (sSkip)) (sSeq (sIf (tAndD (tBin vGt (eVar 3) (eC (.int 0))) (tNotD (tBin vLt (eBin vIdx (eBin vIdx (eVar 1) (eBin vSub (eVar 3) (eC (.int 1)))) (eC (.int 0))) (eBin vIdx (eVar 4) (eC (.int 0)))))) (sSeq (sRet (eC (.bool false))) (sSkip)) (sSkip)) (sSeq (sSet 5 (eComp [6] (gN 6) (iVal (eVar 0)) (tAndD (tBin vEq (eBin vIdx (eVar 6) (eC (.int 0))) (eBin vIdx (eVar 4) (eC (.int 0)))) (tBin vIn (eBin vIdx (eVar 4) (eC (.int 1))) (eBin vIdx (eVar 6) (eC (.int 1))))) (eBin vIdx (eVar 6) (eC (.int 0))))) (sSeq (sIf (tBin vNe (eUn vLen (eVar 5)) (eC (.int 1))) (sSeq (sRet (eC (.bool false))) (sSkip)) (sSkip)) (sSeq (sApp 2 (eBin vIdx (eVar 4) (eC (.int 1)))) (sSkip))))))))) (sSeq (sRet (eC (.bool true))) (sSkip)))))
def d_law_is_match : List D → Res D := runD 2 (sSeq (sRet (eAnd (eCall d_law_is_partial (aCons (eVar 0) (aCons (eVar 1) (aNil)))) (eBin vEq (eUn vLen (eVar 1)) (eUn vLen (eVar 0))))) (sSkip))
def d_law_is_cut : List D → Res D := runD 8 (sSeq (sIf (tOrD (tNotD (tVal (eCall d_law_is_names (aCons (eVar 1) (aNil))))) (tOrD (tNotD (tVal (eCall d_law_is_names (aCons (eVar 2) (aNil))))) (tNotD (tBin vLt (eUn vLen (eVar 2)) (eUn vLen (eVar 1)))))) (sSeq (sRet (eC (.bool false))) (sSkip)) (sSkip)) (sSeq (sSet 3 (eComp [7] (gN 7) (iVal (eVar 0)) (tTrue) (eBin vIdx (eVar 7) (eC (.int 0))))) (sSeq (sFor (gN 4) (iVal (eVar 1)) (sSeq (sIf (tBin vNotIn (eVar 4) (eVar 3)) (sSeq (sRet (eC (.bool false))) (sSkip)) (sSkip)) (sSkip))) (sSeq (sFor (gT 2 (gsCons (gN 4) (gsCons (gN 5) (gsNil)))) (iVal (eVar 0)) (sSeq (sFor (gN 6) (iVal (eVar 5)) (sSeq (sIf (tAndD (tBin vIn (eVar 4) (eVar 1)) (tBin vNotIn (eVar 6) (eVar 2))) (sSeq (sRet (eC (.bool false))) (sSkip)) (sSkip)) (sSkip))) (sSkip))) (sSeq (sRet (eC (.bool true))) (sSkip))))))
def d_law_takers : List D → Res D := runD 6 (sSeq (sSetO 2 (eLst (aNil))) (sSeq (sFor (gN 3) (iR1 false (eUn vLen (eVar 0))) (sSeq (sFor (gT 2 (gsCons (gN 4) (gsCons (gN 5) (gsNil)))) (iVal (eBin vIdx (eBin vIdx (eVar 0) (eVar 3)) (eC (.int 1)))) (sSeq (sIf (tBin vEq (eVar 4) (eVar 1)) (sSeq (sApp 2 (eTup (aCons (eVar 3) (aCons (eVar 5) (aNil))))) (sSkip)) (sSkip)) (sSkip))) (sSkip))) (sSeq (sRet (eVar 2)) (sSkip))))
def d_law_least_2 : List D → Res D := runD 14 (sSeq (sSet 1 (eLst (aCons (eC (.int 1)) (aCons (eC (.int 2)) (aCons (eC (.int 4)) (aCons (eC (.int 8)) (aCons (eC (.int 16)) (aCons (eC (.int 32)) (aCons (eC (.int 64)) (aCons (eC (.int 128)) (aCons (eC (.int 256)) (aNil)))))))))))) (sSeq (sSetO 2 (eComp [11] (gN 11) (iR1 true (eBin vIdx (eVar 1) (eUn vLen (eVar 0)))) (tTrue) (eC .none))) (sSeq (sStore 2 (eC (.int 0)) (eTup (aCons (eC (.int 0)) (aCons (eTup (aNil)) (aNil))))) (sSeq (sSetO 3 (eLst (aNil))) (sSeq (sFor (gT 2 (gsCons (gN 4) (gsCons (gN 5) (gsNil)))) (iVal (eVar 0)) (sSeq (sFor (gT 2 (gsCons (gN 6) (gsCons (gN 7) (gsNil)))) (iVal (eVar 5)) (sSeq (sIf (tBin vNotIn (eVar 6) (eVar 3)) (sSeq (sApp 3 (eVar 6)) (sSkip)) (sSkip)) (sSkip))) (sSkip))) (sSeq (sFor (gN 6) (iVal (eUn vSortR (eVar 3))) (sSeq (sSetO 8 (eUn vList (eVar 2))) (sSeq (sSet 9 (eCall d_law_takers (aCons (eVar 0) (aCons (eVar 6) (aNil))))) (sSeq (sFor (gN 10) (iR1 false (eUn vLen (eVar 2))) (sSeq (sIf (tBin vNotN (eBin vIdx (eVar 2) (eVar 10)) (eC .none)) (sSeq (sFor (gT 2 (gsCons (gN 11) (gsCons (gN 7) (gsNil)))) (iVal (eVar 9)) (sSeq (sIf (tBin vEq (eBin vMod (eUn vInt (eBin vDiv (eVar 10) (eBin vIdx (eVar 1) (eVar 11)))) (eC (.int 2))) (eC (.int 0))) (sSeq (sSet 12 (eBin vAdd (eBin vIdx (eBin vIdx (eVar 2) (eVar 10)) (eC (.int 0))) (eVar 7))) (sSeq (sSet 13 (eBin vIdx (eVar 8) (eBin vAdd (eVar 10) (eBin vIdx (eVar 1) (eVar 11))))) (sSeq (sIf (tOrD (tBin vIsN (eVar 13) (eC .none)) (tBin vLt (eVar 12) (eBin vIdx (eVar 13) (eC (.int 0))))) (sSeq (sStore 8 (eBin vAdd (eVar 10) (eBin vIdx (eVar 1) (eVar 11))) (eTup (aCons (eVar 12) (aCons (eBin vAdd (eBin vIdx (eBin vIdx (eVar 2) (eVar 10)) (eC (.int 1))) (eTup (aCons (eTup (aCons (eBin vIdx (eBin vIdx (eVar 0) (eVar 11)) (eC (.int 0))) (aCons (eVar 6) (aNil)))) (aNil)))) (aNil))))) (sSkip)) (sSkip)) (sSkip)))) (sSkip)) (sSkip))) (sSkip)) (sSkip)) (sSkip))) (sSeq (sMove 2 8) (sSkip)))))) (sSeq (sRet (eVar 2)) (sSkip))))))))
def d_law_free : List D → Res D := runD 5 (sSeq (sSetO 1 (eLst (aNil))) (sSeq (sFor (gT 2 (gsCons (gN 2) (gsCons (gN 3) (gsNil)))) (iVal (eVar 0)) (sSeq (sApp 1 (eTup (aCons (eVar 2) (aCons (eUn vTuple (eComp [4] (gN 4) (iVal (eVar 3)) (tTrue) (eTup (aCons (eVar 4) (aCons (eC (.int 0)) (aNil)))))) (aNil))))) (sSkip))) (sSeq (sRet (eUn vTuple (eVar 1))) (sSkip))))
def d_law_own_match : List D → Res D := runD 2 (sSeq (sSet 1 (eCall d_law_least_2 (aCons (eCall d_law_free (aCons (eVar 0) (aNil))) (aNil)))) (sSeq (sIf (tBin vIsN (eBin vIdx (eVar 1) (eUn vNeg (eC (.int 1)))) (eC .none)) (sSeq (sRet (eC .none)) (sSkip)) (sSkip)) (sSeq (sRet (eUn vTuple (eUn vSorted3 (eBin vIdx (eBin vIdx (eVar 1) (eUn vNeg (eC (.int 1)))) (eC (.int 1)))))) (sSkip))))
def d_law_own_cut : List D → Res D := runD 8 (sSeq (sFor (gN 1) (iR1 false (eBin vIdx (eLst (aCons (eC (.int 1)) (aCons (eC (.int 2)) (aCons (eC (.int 4)) (aCons (eC (.int 8)) (aCons (eC (.int 16)) (aCons (eC (.int 32)) (aCons (eC (.int 64)) (aCons (eC (.int 128)) (aCons (eC (.int 256)) (aNil))))))))))) (eUn vLen (eVar 0)))) (sSeq (sSetO 2 (eLst (aNil))) (sSeq (sSetO 3 (eLst (aNil))) (sSeq (sSet 4 (eVar 1)) (sSeq (sFor (gT 2 (gsCons (gN 5) (gsCons (gN 6) (gsNil)))) (iVal (eVar 0)) (sSeq (sIf (tBin vEq (eBin vMod (eUn vInt (eVar 4)) (eC (.int 2))) (eC (.int 1))) (sSeq (sApp 2 (eVar 5)) (sSeq (sFor (gN 7) (iVal (eVar 6)) (sSeq (sIf (tBin vNotIn (eVar 7) (eVar 3)) (sSeq (sApp 3 (eVar 7)) (sSkip)) (sSkip)) (sSkip))) (sSkip))) (sSkip)) (sSeq (sSet 4 (eBin vDiv (eVar 4) (eC (.int 2)))) (sSkip)))) (sSeq (sIf (tBin vLt (eUn vLen (eVar 3)) (eUn vLen (eVar 2))) (sSeq (sRet (eTup (aCons (eUn vTuple (eVar 2)) (aCons (eUn vTuple (eUn vSorted (eVar 3))) (aNil))))) (sSkip)) (sSkip)) (sSkip))))))) (sSeq (sRet (eC .none)) (sSkip)))
def d_law_yes : List D → Res D := runD 2 (sSeq (sRet (eAnd (eUn (vIsi "bool") (eVar 0)) (eBin vEq (eVar 0) (eVar 1)))) (sSkip))
def d_law_word_2 : List D → Res D := runD 3 (sSeq (sIf (tOrD (tNotD (tVal (eUn (vIsi "tuple") (eVar 0)))) (tBin vNe (eUn vLen (eVar 0)) (eVar 2))) (sSeq (sRet (eC (.bool false))) (sSkip)) (sSkip)) (sSeq (sRet (eAnd (eUn (vIsi "str") (eBin vIdx (eVar 0) (eC (.int 0)))) (eBin vEq (eBin vIdx (eVar 0) (eC (.int 0))) (eVar 1)))) (sSkip)))
def d_law_set_of : List D → Res D := runD 8 (sSeq (sSetO 2 (eLst (aNil))) (sSeq (sSetO 3 (eLst (aNil))) (sSeq (sSet 4 (eVar 1)) (sSeq (sFor (gT 2 (gsCons (gN 5) (gsCons (gN 6) (gsNil)))) (iVal (eVar 0)) (sSeq (sIf (tBin vEq (eBin vMod (eUn vInt (eVar 4)) (eC (.int 2))) (eC (.int 1))) (sSeq (sApp 2 (eVar 5)) (sSeq (sFor (gN 7) (iVal (eVar 6)) (sSeq (sIf (tBin vNotIn (eVar 7) (eVar 3)) (sSeq (sApp 3 (eVar 7)) (sSkip)) (sSkip)) (sSkip))) (sSkip))) (sSkip)) (sSeq (sSet 4 (eBin vDiv (eVar 4) (eC (.int 2)))) (sSkip)))) (sSeq (sRet (eTup (aCons (eUn vTuple (eVar 2)) (aCons (eUn vTuple (eUn vSorted (eVar 3))) (aNil))))) (sSkip))))))
def d_law_29 : List D → Res D := runD 9 (sSeq (sSet 1 (eCall d_law_pool (aCons (eVar 0) (aNil)))) (sSeq (sSet 2 (eCall d_law_table_3 (aCons (eVar 1) (aCons (eC (.int 8)) (aCons (eBin vAdd (eC (.int 8)) (eBin vMod (eUn vInt (eBin vIdx (eVar 1) (eC (.int 2)))) (eC (.int 17)))) (aCons (eBin vMod (eUn vInt (eBin vIdx (eVar 1) (eC (.int 3)))) (eC (.int 6))) (aNil))))))) (sSeq (sSet 3 (eCall d_law_own_match (aCons (eVar 2) (aNil)))) (sSeq (sSet 4 (eCall d_matching_report (aCons (eVar 2) (aNil)))) (sSeq (sIf (tVal (eCall d_law_word_2 (aCons (eVar 4) (aCons (eC (.str "match")) (aCons (eC (.int 2)) (aNil)))))) (sSeq (sIf (tOrD (tBin vIsN (eVar 3) (eC .none)) (tNotD (tVal (eCall d_law_is_match (aCons (eVar 2) (aCons (eBin vIdx (eVar 4) (eC (.int 1))) (aNil))))))) (sSeq (sRet (eC (.bool false))) (sSkip)) (sSkip)) (sSkip)) (sSeq (sIf (tVal (eCall d_law_word_2 (aCons (eVar 4) (aCons (eC (.str "cut")) (aCons (eC (.int 3)) (aNil)))))) (sSeq (sIf (tOrD (tBin vNotN (eVar 3) (eC .none)) (tNotD (tVal (eCall d_law_is_cut (aCons (eVar 2) (aCons (eBin vIdx (eVar 4) (eC (.int 1))) (aCons (eBin vIdx (eVar 4) (eC (.int 2))) (aNil)))))))) (sSeq (sRet (eC (.bool false))) (sSkip)) (sSkip)) (sSkip)) (sSeq (sRet (eC (.bool false))) (sSkip))) (sSkip))) (sSeq (sIf (tNotD (tVal (eCall d_law_yes (aCons (eCall d_shows_matching (aCons (eVar 2) (aCons (eVar 4) (aNil)))) (aCons (eC (.bool true)) (aNil)))))) (sSeq (sRet (eC (.bool false))) (sSkip)) (sSkip)) (sSeq (sIf (tAndD (tBin vNotN (eVar 3) (eC .none)) (tNotD (tVal (eCall d_law_yes (aCons (eCall d_shows_matching (aCons (eVar 2) (aCons (eTup (aCons (eC (.str "match")) (aCons (eVar 3) (aNil)))) (aNil)))) (aCons (eC (.bool true)) (aNil))))))) (sSeq (sRet (eC (.bool false))) (sSkip)) (sSkip)) (sSeq (sSet 5 (eC (.int 0))) (sSeq (sFor (gN 6) (iR2 false (eC (.int 1)) (eC (.int 256))) (sSeq (sUnp (gT 2 (gsCons (gN 7) (gsCons (gN 8) (gsNil)))) (eCall d_law_set_of (aCons (eVar 2) (aCons (eVar 6) (aNil))))) (sSeq (sIf (tNotD (tVal (eCall d_law_yes (aCons (eCall d_shows_matching (aCons (eVar 2) (aCons (eTup (aCons (eC (.str "cut")) (aCons (eVar 7) (aCons (eVar 8) (aNil))))) (aNil)))) (aCons (eBin vLt (eUn vLen (eVar 8)) (eUn vLen (eVar 7))) (aNil)))))) (sSeq (sRet (eC (.bool false))) (sSkip)) (sSkip)) (sSeq (sIf (tBin vLt (eUn vLen (eVar 8)) (eUn vLen (eVar 7))) (sSeq (sSet 5 (eBin vAdd (eVar 5) (eC (.int 1)))) (sSkip)) (sSkip)) (sSkip))))) (sSeq (sRet (eBin vEq (eBin vEq (eVar 5) (eC (.int 0))) (eBin vNotN (eVar 3) (eC .none)))) (sSkip)))))))))))
end PL

end
section
open PySem L2 PL
local macro_rules | `(tactic| walk_at "ev") => `(tactic| (simp -implicitDefEqProofs only [PL.eUn, PL.eBin, PL.eVar, PL.eC, PL.eCall, PL.aCons, PL.aNil, PL.bind_ok, PL.up_some, PL.vAdd_int, PL.vSub_int, PL.vMod_pos, PL.vDiv_pos, PL.vAbs_int, PL.vNeg_int, PL.vInt_int, PL.vInt_bool, PL.vEq_int, PL.vNe_int, PL.vEq_bool, PL.vNe_bool, PL.vNe_str, PL.vEq_str, PL.vLt_int, PL.vLe_int, PL.vGt_int, PL.vGe_int, PL.vPow18, PL.vPow12, PL.vLen_tup, PL.vLen_list, PL.vTuple_list, PL.vTuple_tup, PL.vList_list, PL.vList_tup, PL.vMax2_int, PL.vMin2_int, PL.vBool_bool, PL.vBool_int, PL.isi_tuple_n, PL.isi_tuple_b, PL.isi_tuple_i, PL.isi_tuple_s, PL.isi_tuple_l, PL.isi_tuple_t, PL.isi_tuple_d, PL.isi_bool_n, PL.isi_bool_b, PL.isi_bool_i, PL.isi_bool_s, PL.isi_bool_l, PL.isi_bool_t, PL.isi_bool_d, PL.isi_int_n, PL.isi_int_b, PL.isi_int_i, PL.isi_int_s, PL.isi_int_l, PL.isi_int_t, PL.isi_int_d, PL.isi_str_n, PL.isi_str_b, PL.isi_str_i, PL.isi_str_s, PL.isi_str_l, PL.isi_str_t, PL.isi_str_d, PL.isi_list_n, PL.isi_list_b, PL.isi_list_i, PL.isi_list_s, PL.isi_list_l, PL.isi_list_t, PL.isi_list_d, PL.isi_dict_n, PL.isi_dict_b, PL.isi_dict_i, PL.isi_dict_s, PL.isi_dict_l, PL.isi_dict_t, PL.isi_dict_d, PL.isN_n, PL.notN_n, PL.isN_b, PL.notN_b, PL.isN_i, PL.notN_i, PL.isN_s, PL.notN_s, PL.isN_l, PL.notN_l, PL.isN_t, PL.notN_t, PL.isN_d, PL.notN_d, PL.tBin, PL.asB_bool, PL.asI_int, PL.tVal, PL.truthD_bool, PL.truthD_int, PL.truthD_tup, PL.truthD_list, PL.truthD_none, PL.tNotD, PL.tAndD, PL.tOrD, PL.eAnd, PL.eOr, PL.eNot, PL.eIfE, PL.eChain, PL.tChainD, Option.bind_some, PL.eTup_eq, PL.eLst_eq, PL.mkT_0, PL.mkL_0, PL.mkT_1, PL.mkL_1, PL.mkT_2, PL.mkL_2, PL.mkT_3, PL.mkL_3, PL.mkT_4, PL.mkL_4, PL.mkT_5, PL.mkL_5, PL.mkT_6, PL.mkL_6, PL.mkT_7, PL.mkL_7, PL.mkT_8, PL.mkL_8, PL.mkT_9, PL.mkL_9, PL.mkT_10, PL.mkL_10, PL.mkT_11, PL.mkL_11, PL.mkT_12, PL.mkL_12, PL.mkT_13, PL.mkL_13, PL.mkT_14, PL.mkL_14, PL.mkT_15, PL.mkL_15, PL.mkT_16, PL.mkL_16, PL.vIdx_t0, PL.vIdx_t1, PL.vIdx_t2, PL.vIdx_t3, PL.vIdx_l0, PL.vIdx_l1, PL.vIdx_l2, PL.gN, PL.wipeD,
  List.getElem?_cons_succ, List.getElem?_cons_zero, PL.start, List.map_cons, List.map_nil, List.length_cons, List.length_nil, List.length_map, List.replicate, List.cons_append, List.nil_append, Nat.reduceSub, Nat.reduceAdd, List.set_cons_succ, List.set_cons_zero, Int.reduceLT, if_true, if_false, reduceIte, Bool.false_eq_true, Bool.true_eq_false, Bool.not_true, Bool.not_false, decide_eq_true_eq, Int.reduceAdd, Int.reduceSub, Int.reduceNeg]))
local macro_rules | `(tactic| walk_at "evr") => `(tactic| ((walk_at "ev") <;> rfl))
local macro_rules | `(tactic| walk_at "ret") => `(tactic| (apply PL.ws_onret; (focus (walk_at "ev"; done)); (focus (walk_at "evr"; done)); (focus rfl)))
local macro_rules | `(tactic| walk_at "off") => `(tactic| (apply PL.ws_off; (focus (walk_at "ev"; done))))
local macro_rules | `(tactic| walk_at "back") => `(tactic| (apply PL.ws_back; (focus (walk_at "evr"; done)); (focus rfl)))
local macro_rules | `(tactic| wp_walk) => `(tactic| ((simp -implicitDefEqProofs only [↓PL.ws_wtE, PL.rb_ok, ↓PL.tx_seq, ↓PL.tx_skip, ↓PL.tx_set, ↓PL.tx_setO, ↓PL.tx_ret, ↓PL.tx_retN, ↓PL.tx_expr, ↓PL.tx_break, ↓PL.tx_cont, ↓PL.tx_if, ↓PL.tx_par, ↓PL.tx_unp, ↓PL.tx_aug, ↓PL.tx_app, ↓PL.tx_storeD, ↓PL.tx_store, PL.kE_ok, PL.kB_ok, PL.kV_some, PL.kO_some, PL.kS_some, PL.kL_list, PL.kP_dict, PL.kG_def, PL.slotE_some, PL.rb_exn, ↓PL.eVar_ap, ↓PL.eC_ap, ↓PL.eUn_ap, ↓PL.eBin_ap, ↓PL.eMeL_ap, ↓PL.eMeD_ap, ↓PL.eCall_ap, ↓PL.aNil_ap, ↓PL.aCons_ap, ↓PL.tBin_ap, ↓PL.tVal_ap, ↓PL.tNotD_ap, ↓PL.tAndD_ap, ↓PL.tOrD_ap, ↓PL.tTrue_ap, ↓PL.eNot_ap, ↓PL.eAnd_ap, ↓PL.eOr_ap, ↓PL.eIfE_ap, ↓PL.eChain_ap, ↓PL.tChainD_ap, ↓PL.eTup_ap, ↓PL.eLst_ap, ↓PL.oNone_ap, ↓PL.oSome_ap, ↓PL.eSlice_ap, ↓PL.iVal_ap, ↓PL.iR1_ap, ↓PL.iR2_ap, ↓PL.iR3_ap, ↓PL.iRevD_ap, ↓PL.iZipD_ap, ↓PL.iEnumD_ap, ↓PL.eDisp_ap, ↓PL.gN_ap, PL.items_tup, PL.items_list, PL.gsNil_ap, PL.gT2_ap, PL.gT3_ap, ↓PL.eStep_ap, PL.gsCons_ap, PL.isMut_list, PL.isMut_dict, PL.isListD, PL.isDictD, PL.vGet1D_str, PL.vGet1D_int, PL.vDisp1_str, PL.vDisp1_int, true_and, and_true, ↓reduceIte, Bool.not_eq_true', decide_eq_false_iff_not, Nat.reduceEqDiff, Int.reduceEq, Int.reduceNe, ne_eq, Int.cast_ofNat_Int, Nat.reduceLT, Nat.reduceLeDiff, and_self, decide_true, decide_false, not_true_eq_false, not_false_eq_true, Bool.and_false, Bool.false_and, Bool.and_true, Bool.true_and, PL.ite_okb, PL.ite_okB, PL.ite_dec, PL.ite_dec', PL.ite_b, PL.ite_b', PL.vIdx_t4, PL.vIdx_t5, PL.vIdx_l3, PL.vIdx_l4, PL.ite_okb', PL.ite_okB', PL.up_some, PL.vAdd_int, PL.vSub_int, PL.vMod_pos, PL.vDiv_pos, PL.vAbs_int, PL.vNeg_int, PL.vInt_int, PL.vInt_bool, PL.vEq_int, PL.vNe_int, PL.vEq_bool, PL.vNe_bool, PL.vNe_str, PL.vEq_str, PL.vLt_int, PL.vLe_int, PL.vGt_int, PL.vGe_int, PL.vPow18, PL.vPow12, PL.vLen_tup, PL.vLen_list, PL.vTuple_list, PL.vTuple_tup, PL.vList_list, PL.vList_tup, PL.vMax2_int, PL.vMin2_int, PL.vBool_bool, PL.vBool_int, PL.isi_tuple_n, PL.isi_tuple_b, PL.isi_tuple_i, PL.isi_tuple_s, PL.isi_tuple_l, PL.isi_tuple_t, PL.isi_tuple_d, PL.isi_bool_n, PL.isi_bool_b, PL.isi_bool_i, PL.isi_bool_s, PL.isi_bool_l, PL.isi_bool_t, PL.isi_bool_d, PL.isi_int_n, PL.isi_int_b, PL.isi_int_i, PL.isi_int_s, PL.isi_int_l, PL.isi_int_t, PL.isi_int_d, PL.isi_str_n, PL.isi_str_b, PL.isi_str_i, PL.isi_str_s, PL.isi_str_l, PL.isi_str_t, PL.isi_str_d, PL.isi_list_n, PL.isi_list_b, PL.isi_list_i, PL.isi_list_s, PL.isi_list_l, PL.isi_list_t, PL.isi_list_d, PL.isi_dict_n, PL.isi_dict_b, PL.isi_dict_i, PL.isi_dict_s, PL.isi_dict_l, PL.isi_dict_t, PL.isi_dict_d, PL.isN_n, PL.notN_n, PL.isN_b, PL.notN_b, PL.isN_i, PL.notN_i, PL.isN_s, PL.notN_s, PL.isN_l, PL.notN_l, PL.isN_t, PL.notN_t, PL.isN_d, PL.notN_d, PL.asB_bool, PL.asI_int, PL.truthD_bool, PL.truthD_int, PL.truthD_tup, PL.truthD_list, PL.truthD_none, Option.bind_some, PL.mkT_0, PL.mkL_0, PL.mkT_1, PL.mkL_1, PL.mkT_2, PL.mkL_2, PL.mkT_3, PL.mkL_3, PL.mkT_4, PL.mkL_4, PL.mkT_5, PL.mkL_5, PL.mkT_6, PL.mkL_6, PL.mkT_7, PL.mkL_7, PL.mkT_8, PL.mkL_8, PL.mkT_9, PL.mkL_9, PL.mkT_10, PL.mkL_10, PL.mkT_11, PL.mkL_11, PL.mkT_12, PL.mkL_12, PL.mkT_13, PL.mkL_13, PL.mkT_14, PL.mkL_14, PL.mkT_15, PL.mkL_15, PL.mkT_16, PL.mkL_16, PL.vIdx_t0, PL.vIdx_t1, PL.vIdx_t2, PL.vIdx_t3, PL.vIdx_l0, PL.vIdx_l1, PL.vIdx_l2, PL.wipeD, List.getElem?_cons_succ, List.getElem?_cons_zero, PL.start, List.map_cons, List.map_nil, List.length_cons, List.length_nil, List.length_map, List.replicate, List.cons_append, List.nil_append, Nat.reduceSub, Nat.reduceAdd, List.set_cons_succ, List.set_cons_zero, Int.reduceLT, if_true, if_false, reduceIte, Bool.false_eq_true, Bool.true_eq_false, Bool.not_true, Bool.not_false, decide_eq_true_eq, Int.reduceAdd, Int.reduceSub, Int.reduceNeg, PL.bind_ok]); (try simp -implicitDefEqProofs only [↓PL.wt_ws])))
local macro_rules | `(tactic| wp_walk using $[$ts],*) => `(tactic| ((simp -implicitDefEqProofs only [$[$ts:term],*, ↓PL.ws_wtE, PL.rb_ok, ↓PL.tx_seq, ↓PL.tx_skip, ↓PL.tx_set, ↓PL.tx_setO, ↓PL.tx_ret, ↓PL.tx_retN, ↓PL.tx_expr, ↓PL.tx_break, ↓PL.tx_cont, ↓PL.tx_if, ↓PL.tx_par, ↓PL.tx_unp, ↓PL.tx_aug, ↓PL.tx_app, ↓PL.tx_storeD, ↓PL.tx_store, PL.kE_ok, PL.kB_ok, PL.kV_some, PL.kO_some, PL.kS_some, PL.kL_list, PL.kP_dict, PL.kG_def, PL.slotE_some, PL.rb_exn, ↓PL.eVar_ap, ↓PL.eC_ap, ↓PL.eUn_ap, ↓PL.eBin_ap, ↓PL.eMeL_ap, ↓PL.eMeD_ap, ↓PL.eCall_ap, ↓PL.aNil_ap, ↓PL.aCons_ap, ↓PL.tBin_ap, ↓PL.tVal_ap, ↓PL.tNotD_ap, ↓PL.tAndD_ap, ↓PL.tOrD_ap, ↓PL.tTrue_ap, ↓PL.eNot_ap, ↓PL.eAnd_ap, ↓PL.eOr_ap, ↓PL.eIfE_ap, ↓PL.eChain_ap, ↓PL.tChainD_ap, ↓PL.eTup_ap, ↓PL.eLst_ap, ↓PL.oNone_ap, ↓PL.oSome_ap, ↓PL.eSlice_ap, ↓PL.iVal_ap, ↓PL.iR1_ap, ↓PL.iR2_ap, ↓PL.iR3_ap, ↓PL.iRevD_ap, ↓PL.iZipD_ap, ↓PL.iEnumD_ap, ↓PL.eDisp_ap, ↓PL.gN_ap, PL.items_tup, PL.items_list, PL.gsNil_ap, PL.gT2_ap, PL.gT3_ap, ↓PL.eStep_ap, PL.gsCons_ap, PL.isMut_list, PL.isMut_dict, PL.isListD, PL.isDictD, PL.vGet1D_str, PL.vGet1D_int, PL.vDisp1_str, PL.vDisp1_int, true_and, and_true, ↓reduceIte, Bool.not_eq_true', decide_eq_false_iff_not, Nat.reduceEqDiff, Int.reduceEq, Int.reduceNe, ne_eq, Int.cast_ofNat_Int, Nat.reduceLT, Nat.reduceLeDiff, and_self, decide_true, decide_false, not_true_eq_false, not_false_eq_true, Bool.and_false, Bool.false_and, Bool.and_true, Bool.true_and, PL.ite_okb, PL.ite_okB, PL.ite_dec, PL.ite_dec', PL.ite_b, PL.ite_b', PL.vIdx_t4, PL.vIdx_t5, PL.vIdx_l3, PL.vIdx_l4, PL.ite_okb', PL.ite_okB', PL.up_some, PL.vAdd_int, PL.vSub_int, PL.vMod_pos, PL.vDiv_pos, PL.vAbs_int, PL.vNeg_int, PL.vInt_int, PL.vInt_bool, PL.vEq_int, PL.vNe_int, PL.vEq_bool, PL.vNe_bool, PL.vNe_str, PL.vEq_str, PL.vLt_int, PL.vLe_int, PL.vGt_int, PL.vGe_int, PL.vPow18, PL.vPow12, PL.vLen_tup, PL.vLen_list, PL.vTuple_list, PL.vTuple_tup, PL.vList_list, PL.vList_tup, PL.vMax2_int, PL.vMin2_int, PL.vBool_bool, PL.vBool_int, PL.isi_tuple_n, PL.isi_tuple_b, PL.isi_tuple_i, PL.isi_tuple_s, PL.isi_tuple_l, PL.isi_tuple_t, PL.isi_tuple_d, PL.isi_bool_n, PL.isi_bool_b, PL.isi_bool_i, PL.isi_bool_s, PL.isi_bool_l, PL.isi_bool_t, PL.isi_bool_d, PL.isi_int_n, PL.isi_int_b, PL.isi_int_i, PL.isi_int_s, PL.isi_int_l, PL.isi_int_t, PL.isi_int_d, PL.isi_str_n, PL.isi_str_b, PL.isi_str_i, PL.isi_str_s, PL.isi_str_l, PL.isi_str_t, PL.isi_str_d, PL.isi_list_n, PL.isi_list_b, PL.isi_list_i, PL.isi_list_s, PL.isi_list_l, PL.isi_list_t, PL.isi_list_d, PL.isi_dict_n, PL.isi_dict_b, PL.isi_dict_i, PL.isi_dict_s, PL.isi_dict_l, PL.isi_dict_t, PL.isi_dict_d, PL.isN_n, PL.notN_n, PL.isN_b, PL.notN_b, PL.isN_i, PL.notN_i, PL.isN_s, PL.notN_s, PL.isN_l, PL.notN_l, PL.isN_t, PL.notN_t, PL.isN_d, PL.notN_d, PL.asB_bool, PL.asI_int, PL.truthD_bool, PL.truthD_int, PL.truthD_tup, PL.truthD_list, PL.truthD_none, Option.bind_some, PL.mkT_0, PL.mkL_0, PL.mkT_1, PL.mkL_1, PL.mkT_2, PL.mkL_2, PL.mkT_3, PL.mkL_3, PL.mkT_4, PL.mkL_4, PL.mkT_5, PL.mkL_5, PL.mkT_6, PL.mkL_6, PL.mkT_7, PL.mkL_7, PL.mkT_8, PL.mkL_8, PL.mkT_9, PL.mkL_9, PL.mkT_10, PL.mkL_10, PL.mkT_11, PL.mkL_11, PL.mkT_12, PL.mkL_12, PL.mkT_13, PL.mkL_13, PL.mkT_14, PL.mkL_14, PL.mkT_15, PL.mkL_15, PL.mkT_16, PL.mkL_16, PL.vIdx_t0, PL.vIdx_t1, PL.vIdx_t2, PL.vIdx_t3, PL.vIdx_l0, PL.vIdx_l1, PL.vIdx_l2, PL.wipeD, List.getElem?_cons_succ, List.getElem?_cons_zero, PL.start, List.map_cons, List.map_nil, List.length_cons, List.length_nil, List.length_map, List.replicate, List.cons_append, List.nil_append, Nat.reduceSub, Nat.reduceAdd, List.set_cons_succ, List.set_cons_zero, Int.reduceLT, if_true, if_false, reduceIte, Bool.false_eq_true, Bool.true_eq_false, Bool.not_true, Bool.not_false, decide_eq_true_eq, Int.reduceAdd, Int.reduceSub, Int.reduceNeg, PL.bind_ok]); (try simp -implicitDefEqProofs only [↓PL.wt_ws])))
local macro_rules | `(tactic| row_walk) => `(tactic| ((simp -implicitDefEqProofs only [↓PL.ws_wtE, PL.rb_ok, ↓PL.tx_seq, ↓PL.tx_skip, ↓PL.tx_set, ↓PL.tx_setO, ↓PL.tx_ret, ↓PL.tx_retN, ↓PL.tx_expr, ↓PL.tx_break, ↓PL.tx_cont, ↓PL.tx_par, ↓PL.tx_unp, ↓PL.tx_aug, ↓PL.tx_app, ↓PL.tx_storeD, ↓PL.tx_store, PL.kE_ok, PL.kB_ok, PL.kV_some, PL.kO_some, PL.kS_some, PL.kL_list, PL.kP_dict, PL.kG_def, PL.slotE_some, PL.rb_exn, ↓PL.eVar_ap, ↓PL.eC_ap, ↓PL.eUn_ap, ↓PL.eBin_ap, ↓PL.eMeL_ap, ↓PL.eMeD_ap, ↓PL.eCall_ap, ↓PL.aNil_ap, ↓PL.aCons_ap, ↓PL.tBin_ap, ↓PL.tVal_ap, ↓PL.tNotD_ap, ↓PL.tAndD_ap, ↓PL.tOrD_ap, ↓PL.tTrue_ap, ↓PL.eNot_ap, ↓PL.eAnd_ap, ↓PL.eOr_ap, ↓PL.eIfE_ap, ↓PL.eChain_ap, ↓PL.tChainD_ap, ↓PL.eTup_ap, ↓PL.eLst_ap, ↓PL.oNone_ap, ↓PL.oSome_ap, ↓PL.eSlice_ap, ↓PL.iVal_ap, ↓PL.iR1_ap, ↓PL.iR2_ap, ↓PL.iR3_ap, ↓PL.iRevD_ap, ↓PL.iZipD_ap, ↓PL.iEnumD_ap, ↓PL.eDisp_ap, ↓PL.gN_ap, PL.items_tup, PL.items_list, PL.gsNil_ap, PL.gT2_ap, PL.gT3_ap, ↓PL.eStep_ap, PL.gsCons_ap, PL.isMut_list, PL.isMut_dict, PL.isListD, PL.isDictD, PL.vGet1D_str, PL.vGet1D_int, PL.vDisp1_str, PL.vDisp1_int, true_and, and_true, ↓reduceIte, Bool.not_eq_true', decide_eq_false_iff_not, Nat.reduceEqDiff, Int.reduceEq, Int.reduceNe, ne_eq, Int.cast_ofNat_Int, Nat.reduceLT, Nat.reduceLeDiff, and_self, decide_true, decide_false, not_true_eq_false, not_false_eq_true, Bool.and_false, Bool.false_and, Bool.and_true, Bool.true_and, PL.ite_okb, PL.ite_okB, PL.ite_dec, PL.ite_dec', PL.ite_b, PL.ite_b', PL.vIdx_t4, PL.vIdx_t5, PL.vIdx_l3, PL.vIdx_l4, PL.ite_okb', PL.ite_okB', PL.up_some, PL.vAdd_int, PL.vSub_int, PL.vMod_pos, PL.vDiv_pos, PL.vAbs_int, PL.vNeg_int, PL.vInt_int, PL.vInt_bool, PL.vEq_int, PL.vNe_int, PL.vEq_bool, PL.vNe_bool, PL.vNe_str, PL.vEq_str, PL.vLt_int, PL.vLe_int, PL.vGt_int, PL.vGe_int, PL.vPow18, PL.vPow12, PL.vLen_tup, PL.vLen_list, PL.vTuple_list, PL.vTuple_tup, PL.vList_list, PL.vList_tup, PL.vMax2_int, PL.vMin2_int, PL.vBool_bool, PL.vBool_int, PL.isi_tuple_n, PL.isi_tuple_b, PL.isi_tuple_i, PL.isi_tuple_s, PL.isi_tuple_l, PL.isi_tuple_t, PL.isi_tuple_d, PL.isi_bool_n, PL.isi_bool_b, PL.isi_bool_i, PL.isi_bool_s, PL.isi_bool_l, PL.isi_bool_t, PL.isi_bool_d, PL.isi_int_n, PL.isi_int_b, PL.isi_int_i, PL.isi_int_s, PL.isi_int_l, PL.isi_int_t, PL.isi_int_d, PL.isi_str_n, PL.isi_str_b, PL.isi_str_i, PL.isi_str_s, PL.isi_str_l, PL.isi_str_t, PL.isi_str_d, PL.isi_list_n, PL.isi_list_b, PL.isi_list_i, PL.isi_list_s, PL.isi_list_l, PL.isi_list_t, PL.isi_list_d, PL.isi_dict_n, PL.isi_dict_b, PL.isi_dict_i, PL.isi_dict_s, PL.isi_dict_l, PL.isi_dict_t, PL.isi_dict_d, PL.isN_n, PL.notN_n, PL.isN_b, PL.notN_b, PL.isN_i, PL.notN_i, PL.isN_s, PL.notN_s, PL.isN_l, PL.notN_l, PL.isN_t, PL.notN_t, PL.isN_d, PL.notN_d, PL.asB_bool, PL.asI_int, PL.truthD_bool, PL.truthD_int, PL.truthD_tup, PL.truthD_list, PL.truthD_none, Option.bind_some, PL.mkT_0, PL.mkL_0, PL.mkT_1, PL.mkL_1, PL.mkT_2, PL.mkL_2, PL.mkT_3, PL.mkL_3, PL.mkT_4, PL.mkL_4, PL.mkT_5, PL.mkL_5, PL.mkT_6, PL.mkL_6, PL.mkT_7, PL.mkL_7, PL.mkT_8, PL.mkL_8, PL.mkT_9, PL.mkL_9, PL.mkT_10, PL.mkL_10, PL.mkT_11, PL.mkL_11, PL.mkT_12, PL.mkL_12, PL.mkT_13, PL.mkL_13, PL.mkT_14, PL.mkL_14, PL.mkT_15, PL.mkL_15, PL.mkT_16, PL.mkL_16, PL.vIdx_t0, PL.vIdx_t1, PL.vIdx_t2, PL.vIdx_t3, PL.vIdx_l0, PL.vIdx_l1, PL.vIdx_l2, PL.wipeD, List.getElem?_cons_succ, List.getElem?_cons_zero, PL.start, List.map_cons, List.map_nil, List.length_cons, List.length_nil, List.length_map, List.replicate, List.cons_append, List.nil_append, Nat.reduceSub, Nat.reduceAdd, List.set_cons_succ, List.set_cons_zero, Int.reduceLT, if_true, if_false, reduceIte, Bool.false_eq_true, Bool.true_eq_false, Bool.not_true, Bool.not_false, decide_eq_true_eq, Int.reduceAdd, Int.reduceSub, Int.reduceNeg, PL.bind_ok]); (try simp -implicitDefEqProofs only [↓PL.wt_ws])))
local macro_rules | `(tactic| row_walk with [$[$ts],*]) => `(tactic| ((simp -implicitDefEqProofs only [$[$ts:term],*, ↓PL.ws_wtE, PL.rb_ok, ↓PL.tx_seq, ↓PL.tx_skip, ↓PL.tx_set, ↓PL.tx_setO, ↓PL.tx_ret, ↓PL.tx_retN, ↓PL.tx_expr, ↓PL.tx_break, ↓PL.tx_cont, ↓PL.tx_par, ↓PL.tx_unp, ↓PL.tx_aug, ↓PL.tx_app, ↓PL.tx_storeD, ↓PL.tx_store, PL.kE_ok, PL.kB_ok, PL.kV_some, PL.kO_some, PL.kS_some, PL.kL_list, PL.kP_dict, PL.kG_def, PL.slotE_some, PL.rb_exn, ↓PL.eVar_ap, ↓PL.eC_ap, ↓PL.eUn_ap, ↓PL.eBin_ap, ↓PL.eMeL_ap, ↓PL.eMeD_ap, ↓PL.eCall_ap, ↓PL.aNil_ap, ↓PL.aCons_ap, ↓PL.tBin_ap, ↓PL.tVal_ap, ↓PL.tNotD_ap, ↓PL.tAndD_ap, ↓PL.tOrD_ap, ↓PL.tTrue_ap, ↓PL.eNot_ap, ↓PL.eAnd_ap, ↓PL.eOr_ap, ↓PL.eIfE_ap, ↓PL.eChain_ap, ↓PL.tChainD_ap, ↓PL.eTup_ap, ↓PL.eLst_ap, ↓PL.oNone_ap, ↓PL.oSome_ap, ↓PL.eSlice_ap, ↓PL.iVal_ap, ↓PL.iR1_ap, ↓PL.iR2_ap, ↓PL.iR3_ap, ↓PL.iRevD_ap, ↓PL.iZipD_ap, ↓PL.iEnumD_ap, ↓PL.eDisp_ap, ↓PL.gN_ap, PL.items_tup, PL.items_list, PL.gsNil_ap, PL.gT2_ap, PL.gT3_ap, ↓PL.eStep_ap, PL.gsCons_ap, PL.isMut_list, PL.isMut_dict, PL.isListD, PL.isDictD, PL.vGet1D_str, PL.vGet1D_int, PL.vDisp1_str, PL.vDisp1_int, true_and, and_true, ↓reduceIte, Bool.not_eq_true', decide_eq_false_iff_not, Nat.reduceEqDiff, Int.reduceEq, Int.reduceNe, ne_eq, Int.cast_ofNat_Int, Nat.reduceLT, Nat.reduceLeDiff, and_self, decide_true, decide_false, not_true_eq_false, not_false_eq_true, Bool.and_false, Bool.false_and, Bool.and_true, Bool.true_and, PL.ite_okb, PL.ite_okB, PL.ite_dec, PL.ite_dec', PL.ite_b, PL.ite_b', PL.vIdx_t4, PL.vIdx_t5, PL.vIdx_l3, PL.vIdx_l4, PL.ite_okb', PL.ite_okB', PL.up_some, PL.vAdd_int, PL.vSub_int, PL.vMod_pos, PL.vDiv_pos, PL.vAbs_int, PL.vNeg_int, PL.vInt_int, PL.vInt_bool, PL.vEq_int, PL.vNe_int, PL.vEq_bool, PL.vNe_bool, PL.vNe_str, PL.vEq_str, PL.vLt_int, PL.vLe_int, PL.vGt_int, PL.vGe_int, PL.vPow18, PL.vPow12, PL.vLen_tup, PL.vLen_list, PL.vTuple_list, PL.vTuple_tup, PL.vList_list, PL.vList_tup, PL.vMax2_int, PL.vMin2_int, PL.vBool_bool, PL.vBool_int, PL.isi_tuple_n, PL.isi_tuple_b, PL.isi_tuple_i, PL.isi_tuple_s, PL.isi_tuple_l, PL.isi_tuple_t, PL.isi_tuple_d, PL.isi_bool_n, PL.isi_bool_b, PL.isi_bool_i, PL.isi_bool_s, PL.isi_bool_l, PL.isi_bool_t, PL.isi_bool_d, PL.isi_int_n, PL.isi_int_b, PL.isi_int_i, PL.isi_int_s, PL.isi_int_l, PL.isi_int_t, PL.isi_int_d, PL.isi_str_n, PL.isi_str_b, PL.isi_str_i, PL.isi_str_s, PL.isi_str_l, PL.isi_str_t, PL.isi_str_d, PL.isi_list_n, PL.isi_list_b, PL.isi_list_i, PL.isi_list_s, PL.isi_list_l, PL.isi_list_t, PL.isi_list_d, PL.isi_dict_n, PL.isi_dict_b, PL.isi_dict_i, PL.isi_dict_s, PL.isi_dict_l, PL.isi_dict_t, PL.isi_dict_d, PL.isN_n, PL.notN_n, PL.isN_b, PL.notN_b, PL.isN_i, PL.notN_i, PL.isN_s, PL.notN_s, PL.isN_l, PL.notN_l, PL.isN_t, PL.notN_t, PL.isN_d, PL.notN_d, PL.asB_bool, PL.asI_int, PL.truthD_bool, PL.truthD_int, PL.truthD_tup, PL.truthD_list, PL.truthD_none, Option.bind_some, PL.mkT_0, PL.mkL_0, PL.mkT_1, PL.mkL_1, PL.mkT_2, PL.mkL_2, PL.mkT_3, PL.mkL_3, PL.mkT_4, PL.mkL_4, PL.mkT_5, PL.mkL_5, PL.mkT_6, PL.mkL_6, PL.mkT_7, PL.mkL_7, PL.mkT_8, PL.mkL_8, PL.mkT_9, PL.mkL_9, PL.mkT_10, PL.mkL_10, PL.mkT_11, PL.mkL_11, PL.mkT_12, PL.mkL_12, PL.mkT_13, PL.mkL_13, PL.mkT_14, PL.mkL_14, PL.mkT_15, PL.mkL_15, PL.mkT_16, PL.mkL_16, PL.vIdx_t0, PL.vIdx_t1, PL.vIdx_t2, PL.vIdx_t3, PL.vIdx_l0, PL.vIdx_l1, PL.vIdx_l2, PL.wipeD, List.getElem?_cons_succ, List.getElem?_cons_zero, PL.start, List.map_cons, List.map_nil, List.length_cons, List.length_nil, List.length_map, List.replicate, List.cons_append, List.nil_append, Nat.reduceSub, Nat.reduceAdd, List.set_cons_succ, List.set_cons_zero, Int.reduceLT, if_true, if_false, reduceIte, Bool.false_eq_true, Bool.true_eq_false, Bool.not_true, Bool.not_false, decide_eq_true_eq, Int.reduceAdd, Int.reduceSub, Int.reduceNeg, PL.bind_ok]); (try simp -implicitDefEqProofs only [↓PL.wt_ws])))
namespace PL
/-- choice tables -/
abbrev CT := List (Str × List Str)
abbrev Asc (l : List Str) : Prop := l.Pairwise ltT
def digC (c : Nat) : Bool := decide (48 ≤ c ∧ c ≤ 57)
def letC (c : Nat) : Bool := decide (97 ≤ c ∧ c ≤ 122)
def nmL' (l : List Nat) : Bool := decide (1 ≤ l.length ∧ l.length ≤ 12) && (letC (l.getD 0 0) && l.all fun c => letC c || digC c)
def nmB (z : Str) : Bool := nmL' z.cps.toList
/-- count names, ascending -/
def NmRow (l : List Str) : Prop := Asc l ∧ ∀ z ∈ l, nmB z = true
/-- the parts of some rows, ascending -/
def PtsOf (S : CT) (B : List Str) : Prop := NmRow B ∧ ∀ p, p ∈ B ↔ ∃ r ∈ S, p ∈ r.2
def selR : Nat → CT → CT
  | _, [] => []
  | m, r :: T => if m % 2 = 1 then r :: selR (m / 2) T else selR (m / 2) T
def isCt (T : CT) (m : Nat) : Prop := ∀ B, PtsOf (selR m T) B → B.length < (selR m T).length
def CtOk (T : CT) : Prop := T.length ≤ 8 ∧ NmRow (T.map Prod.fst) ∧ ∀ p ∈ T, p.2.length ≤ 24 ∧ NmRow p.2
structure SOk (T : CT) (σ : Str → Str) : Prop where
  inn : ∀ r ∈ T, σ r.1 ∈ r.2
  inj : ∀ r ∈ T, ∀ s ∈ T, σ r.1 = σ s.1 → r.1 = s.1
def bpS (m : Nat) : Nat → D → Prop
  | 0, _ => False
  | _ + 1, .none => True
  | _ + 1, .bool _ => True
  | _ + 1, .int _ => True
  | _ + 1, .str z => z.length ≤ m
  | n + 1, .tuple l => ∀ x ∈ l, bpS m n x
  | _ + 1, .list _ => False
  | _ + 1, .dict _ => False
def mS (J : List Str) (σ : Str → Str) : List (Str × Str) := J.map fun j => (j, σ j)
def ppE (x : Str × Str) : D := .tuple [.str x.1, .str x.2]
def pmE (M : List (Str × Str)) : D := .tuple (M.map ppE)
theorem nmLen12 {z : Str} (h : nmB z = true) : z.length ≤ 12 := by
  have e : z.length = z.cps.toList.length := by simp [Str.length]
  have h : nmL' z.cps.toList = true := h
  unfold nmL' at h
  have := of_decide_eq_true (Bool.and_eq_true_iff.1 h).1
  omega
theorem nm_bp {n : Nat} {z : Str} (h : nmB z = true) : bpS 1001 (n + 1) (.str z) := show z.length ≤ 1001 by have := nmLen12 h; omega
theorem pm_bp {M : List (Str × Str)} (h : ∀ x ∈ M, nmB x.1 = true ∧ nmB x.2 = true) : bpS 1001 3 (pmE M) := fun x hx => by
  obtain ⟨y, hy, rfl⟩ := List.mem_map.1 hx
  intro z hz
  simp only [List.mem_cons, List.not_mem_nil, or_false] at hz
  rcases hz with rfl | rfl
  · exact nm_bp (h y hy).1
  · exact nm_bp (h y hy).2
/-- matches -/
def PM (T : CT) (M : List (Str × Str)) : Prop := Asc (M.map Prod.fst) ∧ (M.map Prod.snd).Nodup ∧ ∀ x ∈ M, ∃ r ∈ T, r.1 = x.1 ∧ x.2 ∈ r.2
def FM (T : CT) (M : List (Str × Str)) : Prop := PM T M ∧ M.map Prod.fst = T.map Prod.fst
theorem asc_nodup {l : List Str} (h : Asc l) : l.Nodup := h.imp fun h e => by rw [e] at h; exact List.lt_irrefl _ h
theorem mS_fst (J : List Str) (σ : Str → Str) : (mS J σ).map Prod.fst = J := by unfold mS; rw [List.map_map]; exact List.map_id J
theorem mS_snd (J : List Str) (σ : Str → Str) : (mS J σ).map Prod.snd = J.map σ := by unfold mS; rw [List.map_map]; rfl
theorem SOk.fm {T : CT} (hT : CtOk T) {σ : Str → Str} (h : SOk T σ) : FM T (mS (T.map Prod.fst) σ) := by
  refine ⟨⟨by rw [mS_fst]; exact hT.2.1.1, ?_, fun x hx => ?_⟩, mS_fst _ _⟩
  · rw [mS_snd, List.map_map]
    have hn := asc_nodup hT.2.1.1
    refine List.pairwise_map.2 ((List.pairwise_map.1 hn).imp_of_mem fun ha hb hne e => hne (h.inj _ ha _ hb e))
  · obtain ⟨j, hj, rfl⟩ := List.mem_map.1 hx
    obtain ⟨r, hr, rfl⟩ := List.mem_map.1 hj
    exact ⟨r, hr, rfl, h.inn r hr⟩
theorem asc_perm {l m : List Str} (h : l.Perm m) (h1 : Asc l) (h2 : Asc m) : l = m := h.eq_of_pairwise (fun a b _ _ h3 h4 => (ltT_asym h3 h4).elim) h1 h2
abbrev Tb := List (Str × D)
def ctT (T : CT) : Tb := T.map fun p => (p.1, .tuple (p.2.map .str))
def kvE (p : Str × D) : D := .tuple [.str p.1, p.2]
def tbE (T : Tb) : D := .tuple (T.map kvE)
def ctE (T : CT) : D := tbE (ctT T)
theorem items_tb (T : Tb) : itemsD (tbE T) = some (T.map kvE) := rfl
theorem ct_items (T : CT) : itemsD (ctE T) = some (T.map fun p => kvE (p.1, .tuple (p.2.map .str))) := by
  unfold ctE; rw [items_tb]; unfold ctT; rw [List.map_map]; rfl
theorem len_tb (T : Tb) : vLen (tbE T) = some (.int (T.length : Nat)) := by rw [tbE, vLen_tup, List.length_map]
theorem ct_len (T : CT) : vLen (ctE T) = some (.int (T.length : Nat)) := by
  unfold ctE; rw [len_tb]; unfold ctT; rw [List.length_map]
theorem idxD {l : List D} {k : Nat} (h : k < l.length) : vIdx (.tuple l) (.int (k : Nat)) = some (l.getD k .none) := by
  rw [vIdx_tup (by omega) (by omega)]
  simp [List.getD, h]
theorem idxM {α : Type} (f : α → D) (d : α) {l : List α} {k : Nat} (h : k < l.length) : vIdx (.list (l.map f)) (.int (k : Nat)) = some (f (l.getD k d)) := by
  rw [vIdx_list (by omega) (by simp; omega)]
  simp [List.getD, h]
theorem idxTM {α : Type} (f : α → D) (d : α) {l : List α} {k : Nat} (h : k < l.length) : vIdx (.tuple (l.map f)) (.int (k : Nat)) = some (f (l.getD k d)) := idxM f d h
theorem kvE_0 (p : Str × D) : vIdx (kvE p) (.int 0) = some (.str p.1) := rfl
theorem kvE_1 (p : Str × D) : vIdx (kvE p) (.int 1) = some p.2 := rfl
theorem in_alnum2 (c : Nat) : vNotIn (.str ⟨#[c]⟩) (.str "abcdefghijklmnopqrstuvwxyz0123456789") = some (.bool (!(letC c || digC c))) := by
  show some (PyData.bool (!(decide (c ∈ (Str.ofString "abcdefghijklmnopqrstuvwxyz0123456789").cps.toList)))) = _
  rw [show (Str.ofString "abcdefghijklmnopqrstuvwxyz0123456789").cps.toList = List.range' 97 26 ++ List.range' 48 10 by decide +kernel]
  refine congrArg (fun b => some (PyData.bool (!b))) (Bool.eq_iff_iff.2 ?_)
  simp [letC, digC, List.mem_range']
  constructor
  · rintro (⟨i, h1, rfl⟩ | ⟨i, h1, rfl⟩) <;> omega
  · rintro (h | h)
    · exact .inl ⟨c - 97, by omega, by omega⟩
    · exact .inr ⟨c - 48, by omega, by omega⟩
theorem dig_list : (Str.ofString "0123456789").cps.toList = List.range' 48 10 := by decide +kernel
theorem in_dig (c : Nat) : vNotIn (.str ⟨#[c]⟩) (.str "0123456789") = some (.bool (!digC c)) := by
  show some (PyData.bool (!(decide (c ∈ (Str.ofString "0123456789").cps.toList)))) = _
  rw [dig_list]
  refine congrArg (fun b => some (PyData.bool (!b))) (Bool.eq_iff_iff.2 ?_)
  simp [digC, List.mem_range']
  constructor
  · rintro ⟨i, h1, rfl⟩; omega
  · intro h; exact ⟨c - 48, by omega, by omega⟩
def nameB : D → Bool
  | .str z => nmB z
  | _ => false
theorem law_is_name_2_eq (x : D) : d_law_is_name_2 [x] = .ok (.bool (nameB x)) := by
  rw [d_law_is_name_2]
  refine run_eq ?_
  cases x with
  | str z =>
    show WS _ _ (fun v => v = .bool (nmL' z.cps.toList)) _ _
    obtain ⟨l, hl⟩ : ∃ l, l = z.cps.toList := ⟨_, rfl⟩
    have zl : z.length = l.length := by rw [hl]; simp [Str.length]
    have vl : vLen (.str z) = some (.int (l.length : Nat)) := by show some (PyData.int (z.length : Nat)) = _; rw [zl]
    have it : itemsD (.str z) = some (l.map fun c => .str ⟨#[c]⟩) := by rw [hl]; rfl
    rw [← hl]
    by_cases h : 1 ≤ l.length ∧ l.length ≤ 12
    · have h1 : (1 : Int) ≤ (l.length : Nat) := by omega
      have h2 : ((l.length : Nat) : Int) ≤ 12 := by omega
      have v0 : vIdx (.str z) (.int 0) = some (.str ⟨#[l.getD 0 0]⟩) := by
        show (L2.atI z.cps.toList ((0 : Nat) : Int)).map _ = _
        rw [← hl, atI_nat' (by omega)]
        simp [List.getD, show 0 < l.length by omega]
      wp_walk using vl, h1, h2
      refine ws_all (fun c => .str ⟨#[c]⟩) (fun c => letC c || digC c) l (fun ρ => ∃ o, ρ = [some (.str z), o]) (by wp_walk using it) ⟨_, rfl⟩ ?_ ?_ ?_
      · rintro c hc _ ⟨o, rfl⟩
        refine ⟨_, rfl, ?_⟩
        cases hb : letC c || digC c with
        | false => wp_walk using in_alnum2, hb
        | true =>
          wp_walk using in_alnum2, hb
          exact ⟨_, rfl⟩
      · intro ha
        simp [nmL', ha]
      · rintro _ ⟨o, rfl⟩ ha
        wp_walk using v0, in_dig
        have hm : l.getD 0 0 ∈ l := by simp [List.getD, show 0 < l.length by omega]
        have h3 := List.all_eq_true.1 ha _ hm
        have : nmL' l = letC (l.getD 0 0) := by
          unfold nmL'
          rw [ha, decide_eq_true h]
          simp
        rw [this]
        generalize l.getD 0 0 = c at h3
        refine congrArg PyData.bool ?_
        cases hl : letC c with
        | false =>
          rw [hl] at h3
          simp at h3
          simp [h3]
        | true =>
          unfold letC at hl
          have := of_decide_eq_true hl
          unfold digC
          simp
          omega
    · by_cases h1 : (1 : Int) ≤ (l.length : Nat)
      · have h2 : ¬ ((l.length : Nat) : Int) ≤ 12 := by omega
        wp_walk using vl, h1, h2
        simp [nmL', h]
      · wp_walk using vl, h1
        simp [nmL', h]
  | _ => wp_walk; rfl
theorem len_le_of {α : Type} [BEq α] [LawfulBEq α] {l m : List α} (h : l.Nodup) (hs : ∀ x ∈ l, x ∈ m) : l.length ≤ m.length := by
  refine Nat.le_of_not_lt fun hc => ?_
  have := (perm_of_sub l m h hs (by omega)).length_eq
  omega
theorem nameB_str {x : D} (h : nameB x = true) : ∃ z, x = .str z := by
  cases x with
  | str z => exact ⟨z, rfl⟩
  | _ => cases h
theorem nodup_snoc {α : Type} {l : List α} {a : α} : (l ++ [a]).Nodup ↔ l.Nodup ∧ a ∉ l := by
  rw [List.nodup_append]
  constructor
  · rintro ⟨h1, h2, h3⟩
    exact ⟨h1, fun h => h3 a h a (by simp) rfl⟩
  · rintro ⟨h1, h2⟩
    refine ⟨h1, by simp, fun x hx y hy e => ?_⟩
    rw [List.mem_singleton.1 hy] at e
    exact h2 (e ▸ hx)
theorem take_snoc {α : Type} {l : List α} {k : Nat} (d : α) (h : k < l.length) : l.take (k + 1) = l.take k ++ [l.getD k d] := by
  rw [List.take_succ, List.getElem?_eq_getElem h]
  simp [List.getD, h]
theorem fine_strL (l : List Str) : fine (.list (l.map .str)) = true := pl_fine (n := 2) (pl_list (n := 1) fun x hx => by
  obtain ⟨z, _, rfl⟩ := List.mem_map.1 hx
  rfl) (by decide)
theorem eqv_str (i j : Str) : PyData.eqv (.str i) (.str j) = decide (i = j) := by
  simp only [PyData.eqv]
  exact Bool.eq_iff_iff.2 (by simp)
theorem inD_str (i : Str) : ∀ l : List Str, inD (.str i) (l.map .str) = decide (i ∈ l)
  | [] => rfl
  | n :: l => by
    unfold inD
    rw [List.map_cons, List.any_cons]
    have := inD_str i l
    unfold inD at this
    rw [this, eqv_str]
    refine Bool.eq_iff_iff.2 ?_
    rw [Bool.or_eq_true, decide_eq_true_eq, decide_eq_true_eq, decide_eq_true_eq, List.mem_cons, @eq_comm _ n i]
theorem vIn_strL (i : Str) (l : List Str) : vIn (.str i) (.list (l.map .str)) = some (.bool (decide (i ∈ l))) := by
  show (if _ then _ else none) = _
  rw [if_pos ⟨rfl, fine_strL l⟩, inD_str]
theorem fine_strT (l : List Str) : fine (.tuple (l.map .str)) = true := pl_fine (n := 2) (pl_tup (n := 1) fun x hx => by
  obtain ⟨z, _, rfl⟩ := List.mem_map.1 hx
  rfl) (by decide)
theorem vIn_strT (i : Str) (l : List Str) : vIn (.str i) (.tuple (l.map .str)) = some (.bool (decide (i ∈ l))) := by
  show (if _ then _ else none) = _
  rw [if_pos ⟨rfl, fine_strT l⟩, inD_str]
open Classical in
noncomputable def pmB (T : CT) (v : D) : Bool := if ∃ M, v = pmE M ∧ PM T M then true else false
open Classical in
noncomputable def fmB (T : CT) (v : D) : Bool := if ∃ M, v = pmE M ∧ FM T M then true else false
theorem pmB_yes {T : CT} {v : D} (h : ∃ M, v = pmE M ∧ PM T M) : pmB T v = true := by unfold pmB; exact if_pos h
theorem pmB_no {T : CT} {v : D} (h : ¬ ∃ M, v = pmE M ∧ PM T M) : pmB T v = false := by unfold pmB; exact if_neg h
theorem fmB_yes {T : CT} {v : D} (h : ∃ M, v = pmE M ∧ FM T M) : fmB T v = true := by unfold fmB; exact if_pos h
theorem fmB_no {T : CT} {v : D} (h : ¬ ∃ M, v = pmE M ∧ FM T M) : fmB T v = false := by unfold fmB; exact if_neg h
theorem pE_inj {x y : Str × Str} (h : ppE x = ppE y) : x = y := by
  unfold ppE at h
  injection h with h
  injection h with h1 h2
  injection h1 with h1
  injection h2 with h2 _
  injection h2 with h2
  exact Prod.ext h1 h2
theorem pmE_inj {M N : List (Str × Str)} (h : pmE M = pmE N) : M = N := by
  unfold pmE at h
  injection h with h
  induction M generalizing N with
  | nil => cases N with
    | nil => rfl
    | cons y N => cases h
  | cons x M ih => cases N with
    | nil => cases h
    | cons y N =>
      rw [List.map_cons, List.map_cons] at h
      injection h with h1 h2
      rw [pE_inj h1, ih h2]
theorem ltT_tr {a b c : Str} (h : ltT a b) (h2 : ltT b c) : ltT a c := List.lt_trans h h2
theorem asc_snoc {l : List Str} {a : Str} (h : Asc l) (hl : ∀ z, l.getLast? = some z → ltT z a) : Asc (l ++ [a]) := by
  refine List.pairwise_append.2 ⟨h, List.pairwise_singleton _ _, fun x hx y hy => ?_⟩
  rw [List.mem_singleton.1 hy]
  rcases List.eq_nil_or_concat l with e | ⟨m, z, e⟩
  · rw [e] at hx; cases hx
  · have hz := hl z (by rw [e]; simp)
    rw [e] at hx h
    rw [List.concat_eq_append] at hx h
    rcases List.mem_append.1 hx with g | g
    · exact ltT_tr ((List.pairwise_append.1 h).2.2 x g z (by simp)) hz
    · rw [List.mem_singleton.1 g]; exact hz
theorem filt_len {T : CT} (h : (T.map Prod.fst).Nodup) (a b : Str) : ((T.filter fun r => decide (r.1 = a) && decide (b ∈ r.2)).length = 1 ↔ ∃ r ∈ T, r.1 = a ∧ b ∈ r.2) ∧ (T.filter fun r => decide (r.1 = a) && decide (b ∈ r.2)).length ≤ 1 := by
  induction T with
  | nil => simp
  | cons r T ih =>
    rw [List.map_cons, List.nodup_cons] at h
    obtain ⟨i1, i2⟩ := ih h.2
    by_cases hr : r.1 = a ∧ b ∈ r.2
    · have none : (T.filter fun r => decide (r.1 = a) && decide (b ∈ r.2)) = [] := List.filter_eq_nil_iff.2 fun x hx => by
        have : x.1 ≠ a := fun e => h.1 (List.mem_map.2 ⟨x, hx, by rw [e, hr.1]⟩)
        simp [this]
      rw [List.filter_cons_of_pos (by simp [hr.1, hr.2]), none]
      exact ⟨⟨fun _ => ⟨r, by simp, hr⟩, fun _ => rfl⟩, Nat.le_refl _⟩
    · rw [List.filter_cons_of_neg (by simp; exact fun e1 e2 => hr ⟨e1, e2⟩)]
      refine ⟨i1.trans ⟨fun ⟨x, hx, g⟩ => ⟨x, by simp [hx], g⟩, fun ⟨x, hx, g⟩ => ?_⟩, i2⟩
      rcases List.mem_cons.1 hx with rfl | hx
      · exact (hr g).elim
      · exact ⟨x, hx, g⟩
theorem PM.nm {T : CT} (hT : CtOk T) {M : List (Str × Str)} (h : PM T M) : ∀ x ∈ M, nmB x.1 = true ∧ nmB x.2 = true := fun x hx => by
  obtain ⟨r, hr, e1, e2⟩ := h.2.2 x hx
  exact ⟨by rw [← e1]; exact hT.2.1.2 _ (List.mem_map.2 ⟨r, hr, rfl⟩), (hT.2.2 r hr).2.2 _ e2⟩
theorem PM.len {T : CT} (hT : CtOk T) {M : List (Str × Str)} (h : PM T M) : M.length ≤ T.length := by
  have := len_le_of (m := T.map Prod.fst) (asc_nodup h.1) fun z hz => by
    obtain ⟨x, hx, rfl⟩ := List.mem_map.1 hz
    obtain ⟨r, hr, e1, _⟩ := h.2.2 x hx
    exact List.mem_map.2 ⟨r, hr, e1⟩
  simpa using this
theorem fm_iff {T : CT} (hT : CtOk T) {M : List (Str × Str)} : FM T M ↔ PM T M ∧ M.length = T.length := by
  constructor
  · rintro ⟨h1, h2⟩
    have := congrArg List.length h2
    exact ⟨h1, by simpa using this⟩
  · rintro ⟨h1, h2⟩
    refine ⟨h1, asc_perm ?_ h1.1 hT.2.1.1⟩
    refine perm_of_sub _ _ (asc_nodup h1.1) (fun z hz => ?_) (by simp [h2])
    obtain ⟨x, hx, rfl⟩ := List.mem_map.1 hz
    obtain ⟨r, hr, e1, _⟩ := h1.2.2 x hx
    exact List.mem_map.2 ⟨r, hr, e1⟩
theorem taken_eq {T : CT} (TE : D) (ci : itemsD TE = some (T.map fun p => kvE (p.1, .tuple (p.2.map .str)))) (a b : Str) (v o2 o3 o5 : Option D) : eComp [6] (gN 6) (iVal (eVar 0)) (tAndD (tBin vEq (eBin vIdx (eVar 6) (eC (.int 0))) (eBin vIdx (eVar 4) (eC (.int 0)))) (tBin vIn (eBin vIdx (eVar 4) (eC (.int 1))) (eBin vIdx (eVar 6) (eC (.int 1))))) (eBin vIdx (eVar 6) (eC (.int 0))) [some TE, v, o2, o3, some (.tuple [.str a, .str b]), o5, none] = .ok (.list ((T.filter fun r => decide (r.1 = a) && decide (b ∈ r.2)).map fun r => .str r.1)) := by
  refine eComp_filter (fun p : Str × List Str => kvE (p.1, .tuple (p.2.map .str))) (fun r => .str r.1) (fun r => decide (r.1 = a) && decide (b ∈ r.2)) T (by wp_walk using ci) fun r _ => ⟨_, rfl, ?_, fun _ => ?_⟩
  · have vi := vIn_strT b r.2
    by_cases h : r.1 = a
    · have h' : (r.1 = a) = True := eq_true h
      wp_walk using kvE_0, kvE_1, h', vi
    · wp_walk using kvE_0, kvE_1, h
  · wp_walk using kvE_0
theorem law_is_partial_eq {T : CT} (hT : CtOk T) (v : D) (hl : ∀ l, v = .tuple l → l.length ≤ 1000000) : d_law_is_partial [ctE T, v] = .ok (.bool (pmB T v)) := by
  have ci := ct_items T
  have tk := fun a b w o2 o3 o5 => taken_eq (T := T) (ctE T) ci a b w o2 o3 o5
  have hn := asc_nodup hT.2.1.1
  rw [d_law_is_partial]
  refine run_eq ?_
  generalize ctE T = TE at *
  by_cases hM : ∃ M, v = pmE M ∧ PM T M
  · rw [pmB_yes hM]
    obtain ⟨M, rfl, pm⟩ := hM
    have hlM : M.length ≤ 1000000 := by
      have := hl _ rfl
      simpa using this
    have idx : ∀ k (hk : k < M.length), vIdx (pmE M) (.int (k : Nat)) = some (.tuple [.str M[k].1, .str M[k].2]) := fun k hk => by
      unfold pmE
      rw [idxTM ppE (⟨#[]⟩, ⟨#[]⟩) hk]
      simp [List.getD, hk, ppE]
    have v0 : vIsi "tuple" (pmE M) = some (.bool true) := rfl
    have vlM : vLen (pmE M) = some (.int (M.length : Nat)) := by unfold pmE; rw [vLen_tup, List.length_map]
    generalize pmE M = ME at *
    row_walk
    refine ws_ifF (by wp_walk using v0) (ws_skip ?_)
    row_walk
    refine ws_rng M.length (fun k ρ => ∃ o3 o4 o5 : Option D, ρ = [some TE, some ME, some (.list (((M.map Prod.snd).take k).map .str)), o3, o4, o5, none]) (iR1_nat (n := M.length) (by wp_walk using vlM) (by omega)) ⟨_, _, _, rfl⟩ ?_ (fun _ ⟨_, _, _, e⟩ => by subst e; wp_walk)
    rintro k hk _ ⟨o3, o4, o5, rfl⟩
    have ik := idx k hk
    obtain ⟨n1, n2⟩ := pm.nm hT M[k] (List.getElem_mem hk)
    have l1 := law_is_name_2_eq (.str M[k].1)
    have l2 := law_is_name_2_eq (.str M[k].2)
    rw [show nameB (.str M[k].1) = true from n1] at l1
    rw [show nameB (.str M[k].2) = true from n2] at l2
    have nin : M[k].2 ∉ (M.map Prod.snd).take k := fun hc => by
      obtain ⟨j, hj, e⟩ := List.mem_iff_getElem.1 hc
      rw [List.length_take, List.length_map] at hj
      rw [List.getElem_take, List.getElem_map] at e
      have := (List.getElem_inj (xs := M.map Prod.snd) (i := j) (j := k) (h₀ := by simp; omega) (h₁ := by simpa using hk) pm.2.1).1 (by simpa using e)
      omega
    have vi := vIn_strL M[k].2 ((M.map Prod.snd).take k)
    have tk1 := fun w o2 o3 o5 => tk M[k].1 M[k].2 w o2 o3 o5
    have fl := (filt_len hn M[k].1 M[k].2).1.2 (pm.2.2 _ (List.getElem_mem hk))
    have vlf : vLen (.list ((T.filter fun r => decide (r.1 = M[k].1) && decide (M[k].2 ∈ r.2)).map fun r => PyData.str r.1)) = some (.int 1) := by
      rw [vLen_list, List.length_map, fl]; rfl
    have fin : ∃ o3' o4' o5' : Option D, [some TE, some ME, some (.list (((M.map Prod.snd).take k).map .str ++ [.str M[k].2])), some (.int (k : Nat)), some (.tuple [.str M[k].1, .str M[k].2]), some (.list ((T.filter fun r => decide (r.1 = M[k].1) && decide (M[k].2 ∈ r.2)).map fun r => PyData.str r.1)), none] = [some TE, some ME, some (.list (((M.map Prod.snd).take (k + 1)).map .str)), o3', o4', o5', none] := by
      refine ⟨some (.int (k : Nat)), some (.tuple [.str M[k].1, .str M[k].2]), some (.list ((T.filter fun r => decide (r.1 = M[k].1) && decide (M[k].2 ∈ r.2)).map fun r => PyData.str r.1)), ?_⟩
      rw [take_snoc ⟨#[]⟩ (by simpa using hk), List.map_append]
      simp [List.getD, hk]
    refine ⟨_, rfl, ?_⟩
    by_cases h0 : k = 0
    · have h0' : ¬ (0 : Int) < (k : Nat) := by omega
      wp_walk using ik, l1, l2, vi, nin, h0', tk1, vlf
      exact ⟨by rw [List.length_take]; omega, fin⟩
    · have h0' : (0 : Int) < (k : Nat) := by omega
      have e1 : ((k : Nat) : Int) - 1 = ((k - 1 : Nat) : Int) := by omega
      have ik1 := idx (k - 1) (by omega)
      have hlt : ltS M[k - 1].1 M[k].1 = true := by
        have := List.pairwise_iff_getElem.1 pm.1 (k - 1) k (by simp; omega) (by simpa using hk) (by omega)
        simp only [List.getElem_map] at this
        unfold ltS
        exact decide_eq_true this
      have vt : vLt (.str M[k - 1].1) (.str M[k].1) = some (.bool (ltS M[k - 1].1 M[k].1)) := rfl
      wp_walk using ik, l1, l2, vi, nin, h0', e1, ik1, vt, hlt, tk1, vlf
      exact ⟨by rw [List.length_take]; omega, fin⟩
  · rw [pmB_no hM]
    cases v with
    | tuple l =>
      have hll := hl l rfl
      row_walk
      refine ws_ifF (by wp_walk) (ws_skip ?_)
      row_walk
      refine ws_rng l.length (fun k ρ => ∃ (M : List (Str × Str)) (o3 o4 o5 : Option D), l.take k = M.map ppE ∧ PM T M ∧ ρ = [some TE, some (.tuple l), some (.list ((M.map Prod.snd).map .str)), o3, o4, o5, none]) (iR1_nat (n := l.length) (by wp_walk) (by omega)) ⟨[], _, _, _, rfl, ⟨.nil, .nil, fun x hx => by cases hx⟩, rfl⟩ ?_ ?_
      · rintro k hk _ ⟨M, o3, o4, o5, hM1, pm, rfl⟩
        have hMl : M.length = k := by
          have := congrArg List.length hM1
          rw [List.length_take, List.length_map] at this
          omega
        have ik := idxD (l := l) (k := k) hk
        have hts := take_snoc PyData.none hk
        obtain ⟨x, hx⟩ : ∃ x, x = l.getD k .none := ⟨_, rfl⟩
        rw [← hx] at ik hts
        refine ⟨_, rfl, ?_⟩
        cases x with
        | tuple q =>
          by_cases hq : q.length = 2
          · match q, hq with
            | [a, b], _ =>
              have l1 := law_is_name_2_eq a
              have l2 := law_is_name_2_eq b
              cases na : nameB a with
              | false => wp_walk using ik, l1, na
              | true =>
                cases nb : nameB b with
                | false => wp_walk using ik, l1, na, l2, nb
                | true =>
                  obtain ⟨a, rfl⟩ := nameB_str na
                  obtain ⟨b, rfl⟩ := nameB_str nb
                  have vi := vIn_strL b (M.map Prod.snd)
                  by_cases hb : b ∈ M.map Prod.snd
                  · have hb' : (b ∈ M.map Prod.snd) = True := eq_true hb
                    wp_walk using ik, l1, na, l2, nb, vi, hb'
                  · have hb' : (b ∈ M.map Prod.snd) = False := eq_false hb
                    have tk1 := fun w o2 o3 o5 => tk a b w o2 o3 o5
                    have fl := filt_len hn a b
                    have vlf : vLen (.list ((T.filter fun r => decide (r.1 = a) && decide (b ∈ r.2)).map fun r => PyData.str r.1)) = some (.int ((T.filter fun r => decide (r.1 = a) && decide (b ∈ r.2)).length : Nat)) := by
                      rw [vLen_list, List.length_map]
                    have tail : (∀ z, (M.map Prod.fst).getLast? = some z → ltT z a) → (T.filter fun r => decide (r.1 = a) && decide (b ∈ r.2)).length = 1 → ∃ (M' : List (Str × Str)) (o3' o4' o5' : Option D), l.take (k + 1) = M'.map ppE ∧ PM T M' ∧ [some TE, some (.tuple l), some (.list ((M.map Prod.snd).map .str ++ [.str b])), some (.int (k : Nat)), some (.tuple [.str a, .str b]), some (.list ((T.filter fun r => decide (r.1 = a) && decide (b ∈ r.2)).map fun r => PyData.str r.1)), none] = [some TE, some (.tuple l), some (.list ((M'.map Prod.snd).map .str)), o3', o4', o5', none] := fun g1 g2 => by
                      refine ⟨M ++ [(a, b)], some (.int (k : Nat)), some (.tuple [.str a, .str b]), some (.list ((T.filter fun r => decide (r.1 = a) && decide (b ∈ r.2)).map fun r => PyData.str r.1)), by rw [hts, hM1, List.map_append]; rfl, ⟨?_, ?_, fun y hy => ?_⟩, by rw [List.map_append, List.map_append]; rfl⟩
                      · rw [List.map_append]; exact asc_snoc pm.1 g1
                      · rw [List.map_append]; exact nodup_snoc.2 ⟨pm.2.1, hb⟩
                      · rcases List.mem_append.1 hy with g | g
                        · exact pm.2.2 y g
                        · rw [List.mem_singleton.1 g]; exact fl.1.1 g2
                    have endW : ∀ g1 : (∀ z, (M.map Prod.fst).getLast? = some z → ltT z a), (((T.filter fun r => decide (r.1 = a) && decide (b ∈ r.2)).length : Nat) : Int) = 1 ∨ ¬ (((T.filter fun r => decide (r.1 = a) && decide (b ∈ r.2)).length : Nat) : Int) = 1 := fun _ => Decidable.em _
                    by_cases h0 : k = 0
                    · have h0' : ¬ (0 : Int) < (k : Nat) := by omega
                      have g1 : ∀ z, (M.map Prod.fst).getLast? = some z → ltT z a := fun z hz => by
                        have : M = [] := List.eq_nil_of_length_eq_zero (by omega)
                        rw [this] at hz; cases hz
                      rcases endW g1 with hf | hf
                      · have hf' := eq_true hf
                        wp_walk using ik, l1, na, l2, nb, vi, hb', h0', tk1, vlf, hf'
                        exact ⟨by omega, tail g1 (by omega)⟩
                      · have hf' := eq_false hf
                        wp_walk using ik, l1, na, l2, nb, vi, hb', h0', tk1, vlf, hf'
                    · have h0' : (0 : Int) < (k : Nat) := by omega
                      have e1 : ((k : Nat) : Int) - 1 = ((k - 1 : Nat) : Int) := by omega
                      have ik1 := idxD (l := l) (k := k - 1) (by omega)
                      have hprev : l.getD (k - 1) .none = .tuple [.str (M[k - 1]'(by omega)).1, .str (M[k - 1]'(by omega)).2] := by
                        have := congrArg (fun m => m[k - 1]?) hM1
                        simp only [List.getElem?_take, List.getElem?_map, List.getElem?_eq_getElem (show k - 1 < M.length by omega), if_pos (show k - 1 < k by omega), Option.map_some] at this
                        simp [List.getD, this, ppE]
                      rw [hprev] at ik1
                      have vt : vLt (.str (M[k - 1]'(by omega)).1) (.str a) = some (.bool (ltS (M[k - 1]'(by omega)).1 a)) := rfl
                      cases hlt : ltS (M[k - 1]'(by omega)).1 a with
                      | false => wp_walk using ik, l1, na, l2, nb, vi, hb', h0', e1, ik1, vt, hlt
                      | true =>
                        have g1 : ∀ z, (M.map Prod.fst).getLast? = some z → ltT z a := fun z hz => by
                          rw [List.getLast?_eq_getElem?] at hz
                          simp only [List.length_map, hMl, List.getElem?_map, List.getElem?_eq_getElem (show k - 1 < M.length by omega), Option.map_some, Option.some.injEq] at hz
                          rw [← hz]
                          simpa [ltS, ltT] using hlt
                        rcases endW g1 with hf | hf
                        · have hf' := eq_true hf
                          wp_walk using ik, l1, na, l2, nb, vi, hb', h0', e1, ik1, vt, hlt, tk1, vlf, hf'
                          exact ⟨by omega, tail g1 (by omega)⟩
                        · have hf' := eq_false hf
                          wp_walk using ik, l1, na, l2, nb, vi, hb', h0', e1, ik1, vt, hlt, tk1, vlf, hf'
          · have hq' : (((q.length : Nat) : Int) = 2) = False := eq_false (by omega)
            wp_walk using ik, hq'
        | _ => wp_walk using ik
      · rintro _ ⟨M, o3, o4, o5, hM1, pm, rfl⟩
        rw [List.take_length] at hM1
        exact (hM ⟨M, by unfold pmE; rw [hM1], pm⟩).elim
    | _ => wp_walk
theorem fmB_len {T : CT} (hT : CtOk T) (v : D) (n : Nat) (hv : pmB T v = true → ∃ M, v = pmE M ∧ PM T M ∧ M.length = n) : (pmB T v && decide ((n : Int) = (T.length : Nat))) = fmB T v := by
  by_cases h : ∃ M, v = pmE M ∧ PM T M
  · obtain ⟨M, e, pm, hn⟩ := hv (pmB_yes h)
    rw [pmB_yes h, Bool.true_and]
    by_cases hl : n = T.length
    · rw [fmB_yes ⟨M, e, (fm_iff hT).2 ⟨pm, by omega⟩⟩]
      exact decide_eq_true (by omega)
    · have hno : ¬ ∃ M, v = pmE M ∧ FM T M := fun ⟨M', e', fm⟩ => by
        rw [e] at e'
        rw [← pmE_inj e'] at fm
        have := ((fm_iff hT).1 fm).2
        omega
      rw [fmB_no hno]
      exact decide_eq_false (by omega)
  · rw [pmB_no h, fmB_no fun ⟨M', e', fm⟩ => h ⟨M', e', fm.1⟩]; rfl
theorem law_is_match_eq {T : CT} (hT : CtOk T) (v : D) (hl : ∀ l, v = .tuple l → l.length ≤ 1000000) : d_law_is_match [ctE T, v] = .ok (.bool (fmB T v)) := by
  have lp := law_is_partial_eq hT v hl
  have vl := ct_len T
  by_cases h : ∃ M, v = pmE M ∧ PM T M
  · obtain ⟨M, rfl, pm⟩ := h
    have vlM : vLen (pmE M) = some (.int (M.length : Nat)) := by unfold pmE; rw [vLen_tup, List.length_map]
    have e := fmB_len hT (pmE M) M.length fun _ => ⟨M, rfl, pm, rfl⟩
    rw [← e]
    rw [pmB_yes ⟨M, rfl, pm⟩] at lp ⊢
    rw [d_law_is_match]
    refine run_eq ?_
    generalize pmE M = ME at *
    wp_walk using lp, vlM, vl
  · rw [pmB_no h] at lp
    rw [fmB_no fun ⟨M', e', fm⟩ => h ⟨M', e', fm.1⟩, d_law_is_match]
    refine run_eq ?_
    wp_walk using lp
theorem sok_bp {T : CT} (hT : CtOk T) {σ : Str → Str} (h : SOk T σ) : bpS 1001 3 (pmE (mS (T.map Prod.fst) σ)) := pm_bp ((h.fm hT).1.nm hT)
abbrev stTp (l : List Str) : D := .tuple (l.map .str)
theorem st_bp {A : List Str} (h : NmRow A) {n : Nat} : bpS 1001 (n + 2) (stTp A) := fun x hx => by
  obtain ⟨z, hz, rfl⟩ := List.mem_map.1 hx
  exact nm_bp (h.2 z hz)
theorem mt_bp {v : D} {n : Nat} (h : bpS 1001 n v) : bpS 1001 (n + 1) (.tuple [.str "match", v]) := by
  intro x hx
  simp only [List.mem_cons, List.not_mem_nil, or_false] at hx
  cases n with
  | zero => exact h.elim
  | succ n =>
    rcases hx with rfl | rfl
    · exact show (Str.ofString "match").length ≤ 1001 by decide
    · exact h
theorem ct_pbp {A B : List Str} (hA : NmRow A) (hB : NmRow B) : bpS 1001 4 (.tuple [.str "cut", stTp A, stTp B]) := by
  intro x hx
  simp only [List.mem_cons, List.not_mem_nil, or_false] at hx
  rcases hx with rfl | rfl | rfl
  · exact show (Str.ofString "cut").length ≤ 1001 by decide
  · exact st_bp hA
  · exact st_bp hB
structure CutOk (T : CT) (A B : List Str) : Prop where
  a : NmRow A
  b : NmRow B
  lt : B.length < A.length
  inT : ∀ j ∈ A, ∃ r ∈ T, r.1 = j
  cl : ∀ r ∈ T, r.1 ∈ A → ∀ p ∈ r.2, p ∈ B
theorem bpS_mono {m m' : Nat} (hm : m ≤ m') : ∀ {n n' : Nat} {d : D}, n ≤ n' → bpS m n d → bpS m' n' d
  | 0, _, _, _, h => h.elim
  | n + 1, 0, _, hn, _ => by omega
  | n + 1, n' + 1, d, hn, h => by
    cases d with
    | str z => exact Nat.le_trans (show z.length ≤ m from h) hm
    | tuple l => exact fun x hx => bpS_mono hm (by omega) (h x hx)
    | none => trivial
    | bool b => trivial
    | int i => trivial
    | list l => exact h.elim
    | dict l => exact h.elim
def strOf : D → Str
  | .str z => z
  | _ => ⟨#[]⟩
def adjB (l : List D) : Bool := (List.range (l.length - 1)).all fun k => ltS (strOf (l.getD k .none)) (strOf (l.getD (k + 1) .none))
theorem ltS_tr {a b c : Str} (h : ltS a b = true) (h2 : ltS b c = true) : ltS a c = true := by
  unfold ltS at *
  simp only [decide_eq_true_eq] at *
  exact List.lt_trans h h2
theorem adj_lt {l : List D} (h : adjB l = true) : ∀ {j k : Nat}, j < k → k < l.length → ltS (strOf (l.getD j .none)) (strOf (l.getD k .none)) = true := by
  intro j k hjk
  induction k with
  | zero => omega
  | succ k ih =>
    intro hk
    have a := List.all_eq_true.1 h k (List.mem_range.2 (by omega))
    by_cases e : j = k
    · rw [e]; exact a
    · exact ltS_tr (ih (by omega) (by omega)) a
theorem ltS_irr (a : Str) : ltS a a = false := decide_eq_false (List.lt_irrefl _)
theorem adj_nodup {l : List D} (h : adjB l = true) : (l.map strOf).Nodup := by
  rw [List.nodup_iff_pairwise_ne]
  rw [List.pairwise_iff_getElem]
  intro i j hi hj hij e
  rw [List.length_map] at hi hj
  have := adj_lt h hij hj
  simp only [List.getElem_map] at e
  rw [show l.getD i .none = l[i] by simp [List.getD, hi], show l.getD j .none = l[j] by simp [List.getD, hj], e, ltS_irr] at this
  cases this
def nmsOk (l : List D) : Bool := l.all nameB && decide (l.map strOf).Nodup
def ascOk (l : List D) : Bool := nmsOk l && (List.range (l.length - 1)).all fun k => ltS (strOf (l.getD k .none)) (strOf (l.getD (k + 1) .none))
def lenB (v : D) (lo hi : Nat) : Bool := match v with
  | .tuple l => decide (lo ≤ l.length ∧ l.length ≤ hi)
  | _ => false
def ascB (v : D) (lo hi : Nat) : Bool := lenB v lo hi && (match v with | .tuple l => ascOk l | _ => false)
def ascLB (v : D) : Bool := match v with
  | .tuple l => l.all nameB && adjB l
  | _ => false
theorem ascB_ascL (v : D) (lo hi : Nat) : ascB v lo hi = (ascLB v && lenB v lo hi) := by
  unfold ascB
  cases v with
  | tuple l =>
    show (lenB (.tuple l) lo hi && ascOk l) = ((l.all nameB && adjB l) && lenB (.tuple l) lo hi)
    have : ascOk l = (l.all nameB && adjB l) := by
      unfold ascOk nmsOk
      show ((l.all nameB && decide (l.map strOf).Nodup) && adjB l) = _
      cases hj : adjB l with
      | false => simp
      | true => rw [decide_eq_true (adj_nodup hj)]; simp
    rw [this, Bool.and_comm]
  | _ => simp [ascLB, lenB]
theorem adj_of_pw {l : List Str} (h : l.Pairwise fun a b => ltS a b = true) : adjB (l.map .str) = true := by
  refine List.all_eq_true.2 fun k hk => ?_
  have hk := List.mem_range.1 hk
  rw [List.length_map] at hk
  have := List.pairwise_iff_getElem.1 h k (k + 1) (by omega) (by omega) (by omega)
  simp only [List.getD, List.getElem?_map, List.getElem?_eq_getElem (show k < l.length by omega), List.getElem?_eq_getElem (show k + 1 < l.length by omega), Option.map_some, Option.getD_some]
  exact this
theorem asc_L {N : List Str} (h : NmRow N) : ascLB (.tuple (N.map .str)) = true := by
  show ((N.map PyData.str).all nameB && adjB (N.map .str)) = true
  rw [Bool.and_eq_true]
  refine ⟨List.all_eq_true.2 fun x hx => ?_, adj_of_pw (h.1.imp fun h => by unfold ltS; exact decide_eq_true h)⟩
  obtain ⟨z, hz, rfl⟩ := List.mem_map.1 hx
  exact h.2 z hz
theorem getD_memD {l : List D} {k : Nat} (h : k < l.length) : l.getD k .none ∈ l := by simp [List.getD, h]
/-- a dict that has the names of a row -/
theorem keyIs_str (a b : Str) : keyIs (.str a) (.str b) = decide (a = b) := by
  show decide ((Sum.inr a : Key) = Sum.inr b) = _
  exact Bool.eq_iff_iff.2 (by simp)
theorem findP_names {zs : List Str} {z : Str} : (findP (zs.map fun z => (PyData.str z, PyData.bool true)) (.str z)).isSome = decide (z ∈ zs) := by
  unfold findP
  rw [Option.isSome_map]
  refine Bool.eq_iff_iff.2 ?_
  rw [decide_eq_true_eq, List.find?_isSome]
  constructor
  · rintro ⟨p, hp, h⟩
    obtain ⟨y, hy, rfl⟩ := List.mem_map.1 hp
    rw [keyIs_str] at h
    rw [← of_decide_eq_true h]
    exact hy
  · intro h
    exact ⟨_, List.mem_map.2 ⟨z, h, rfl⟩, by rw [keyIs_str]; simp⟩
theorem let_list : (Str.ofString "abcdefghijklmnopqrstuvwxyz").cps.toList = List.range' 97 26 := by decide +kernel
theorem in_let (c : Nat) : vNotIn (.str ⟨#[c]⟩) (.str "abcdefghijklmnopqrstuvwxyz") = some (.bool (!letC c)) := by
  show some (PyData.bool (!(decide (c ∈ (Str.ofString "abcdefghijklmnopqrstuvwxyz").cps.toList)))) = _
  rw [let_list]
  refine congrArg (fun b => some (PyData.bool (!b))) (Bool.eq_iff_iff.2 ?_)
  simp [letC, List.mem_range']
  constructor
  · rintro ⟨i, h1, rfl⟩; omega
  · intro h; exact ⟨c - 97, by omega, by omega⟩
theorem is_name_all (x : D) : d_is_name [x] = .ok (.bool (nameB x)) := by
  rw [d_is_name]
  refine run_eq ?_
  cases x with
  | str z =>
    show WS _ _ (fun v => v = .bool (nmL' z.cps.toList)) _ _
    obtain ⟨l, hl⟩ : ∃ l, l = z.cps.toList := ⟨_, rfl⟩
    have zl : z.length = l.length := by rw [hl]; simp [Str.length]
    have vl : vLen (.str z) = some (.int (l.length : Nat)) := by show some (PyData.int (z.length : Nat)) = _; rw [zl]
    have it : itemsD (.str z) = some (l.map fun c => .str ⟨#[c]⟩) := by rw [hl]; rfl
    rw [← hl]
    by_cases h : 1 ≤ l.length ∧ l.length ≤ 12
    · have h1 : (1 : Int) ≤ (l.length : Nat) := by omega
      have h2 : ((l.length : Nat) : Int) ≤ 12 := by omega
      cases hq : l with
      | nil => rw [hq] at h; simp at h
      | cons c r =>
        have v0 : vIdx (.str z) (.int 0) = some (.str ⟨#[c]⟩) := by
          show (L2.atI z.cps.toList ((0 : Nat) : Int)).map _ = _
          rw [← hl, hq, atI_nat' (by simp)]
          rfl
        rw [← hq]
        cases hc : letC c with
        | false =>
          wp_walk using vl, v0, in_let, hc, h1, h2
          simp [nmL', hq, hc]
        | true =>
          wp_walk using vl, v0, in_let, hc, h1, h2
          refine ws_all (fun c => .str ⟨#[c]⟩) (fun c => letC c || digC c) l (fun ρ => ∃ o, ρ = [some (.str z), o]) (by wp_walk using it) ⟨_, rfl⟩ ?_ ?_ ?_
          · rintro x hx _ ⟨o, rfl⟩
            refine ⟨_, rfl, ?_⟩
            wp_walk using in_let, in_dig
            cases letC x <;> cases digC x <;> simp
          · intro ha
            simp [nmL', ha]
          · rintro _ ⟨o, rfl⟩ ha
            wp_walk
            have : nmL' l = true := by
              unfold nmL'
              rw [ha, decide_eq_true h, hq]
              simp [hc]
            rw [this]
    · by_cases h1 : (1 : Int) ≤ (l.length : Nat)
      · have h2 : ¬ ((l.length : Nat) : Int) ≤ 12 := by omega
        wp_walk using vl, h1, h2
        simp [nmL', h]
      · wp_walk using vl, h1
        simp [nmL', h]
  | _ => wp_walk; rfl
theorem is_row_g (v : D) (lo hi : Nat) : d_is_row [v, .int lo, .int hi] = .ok (.bool (lenB v lo hi)) := by
  rw [d_is_row]
  refine run_eq ?_
  walk_at "ev"
  refine ws_back ?_ rfl
  cases v with
  | tuple l =>
    walk_at "ev"
    show _ = Res.ok (PyData.bool (decide (lo ≤ l.length ∧ l.length ≤ hi)))
    by_cases g : (lo : Int) ≤ l.length
    · by_cases g2 : (l.length : Int) ≤ hi
      · have : lo ≤ l.length ∧ l.length ≤ hi := by omega
        simp [this]
      · have : ¬ (lo ≤ l.length ∧ l.length ≤ hi) := by omega
        simp [g, g2, this]
    · have : ¬ (lo ≤ l.length ∧ l.length ≤ hi) := by omega
      simp [g, this]
  | _ => walk_at "evr"
def nmsB (v : D) (lo hi : Nat) : Bool := lenB v lo hi && (match v with | .tuple l => nmsOk l | _ => false)
theorem putP_names {zs : List Str} {z : Str} (h : z ∉ zs) : putP (zs.map fun z => (PyData.str z, PyData.bool true)) (.str z) (.bool true) = (zs ++ [z]).map fun z => (PyData.str z, PyData.bool true) := by
  unfold putP
  rw [if_neg]
  · rw [List.map_append]; rfl
  · intro hh
    obtain ⟨p, hp, e⟩ := List.any_eq_true.1 hh
    obtain ⟨y, hy, rfl⟩ := List.mem_map.1 hp
    rw [keyIs_str] at e
    rw [of_decide_eq_true e] at hy
    exact h hy
theorem strOf_map (a : List Str) : (a.map PyData.str).map strOf = a := by
  rw [List.map_map]
  exact List.map_id a
theorem is_names_g (v : D) (lo hi : Nat) (hh : hi ≤ 1000000) : d_is_names [v, .int lo, .int hi] = .ok (.bool (nmsB v lo hi)) := by
  rw [d_is_names]
  refine run_eq ?_
  have ir := is_row_g v lo hi
  cases h : lenB v lo hi with
  | false =>
    wp_walk using ir, h
    simp [nmsB, h]
  | true =>
    wp_walk using ir, h
    cases v with
    | tuple l =>
      have hl : lo ≤ l.length ∧ l.length ≤ hi := of_decide_eq_true h
      have e : nmsB (.tuple l) lo hi = nmsOk l := by unfold nmsB; rw [h, Bool.true_and]
      rw [e]
      refine ws_for (fun rest ρ => ∃ (a : List Str) (o : Option D), a.map .str ++ rest = l ∧ a.Nodup ∧ (∀ x ∈ a, nmB x = true) ∧ ρ = [some (.tuple l), some (.int lo), some (.int hi), some (.dict (a.map fun z => (.str z, .bool true))), o]) (by wp_walk) ⟨[], _, rfl, by simp, by simp, rfl⟩ ?_ ?_
      · rintro x rest _ ⟨a, o, ha, hn, hs, rfl⟩
        refine ⟨_, rfl, ?_⟩
        have isn := is_name_all x
        have al : a.length < 16777216 := by
          have : l.length = a.length + (rest.length + 1) := by rw [← ha]; simp
          omega
        cases hx : nameB x with
        | false =>
          wp_walk using isn, hx
          have : nmsOk l = false := by
            unfold nmsOk
            rw [Bool.and_eq_false_iff]
            left
            rw [List.all_eq_false]
            exact ⟨x, by rw [← ha]; simp, by rw [hx]; simp⟩
          rw [this]
        | true =>
          obtain ⟨z, rfl⟩ := nameB_str hx
          have vi : vInD (.str z) (.dict (a.map fun z => (.str z, .bool true))) = some (.bool (decide (z ∈ a))) := by
            rw [← findP_names]; rfl
          by_cases hz : z ∈ a
          · wp_walk using isn, hx, vi, hz
            have : nmsOk l = false := by
              unfold nmsOk
              rw [Bool.and_eq_false_iff]
              right
              refine decide_eq_false fun hd => ?_
              rw [← ha, List.map_append, strOf_map] at hd
              exact (List.nodup_append.1 hd).2.2 z hz z (by simp [strOf]) rfl
            rw [this]
          · wp_walk using isn, hx, vi, hz
            refine ⟨⟨rfl, by simpa using al⟩, ⟨a ++ [z], _, by rw [List.map_append, List.append_assoc]; exact ha, nodup_snoc.2 ⟨hn, hz⟩, fun y hy => ?_, by rw [putP_names hz]⟩⟩
            rcases List.mem_append.1 hy with g | g
            · exact hs y g
            · rw [List.mem_singleton.1 g]; exact hx
      · rintro _ ⟨a, o, ha, hn, hs, rfl⟩
        wp_walk
        have : nmsOk l = true := by
          rw [List.append_nil] at ha
          unfold nmsOk
          rw [Bool.and_eq_true]
          refine ⟨List.all_eq_true.2 fun y hy => ?_, decide_eq_true ?_⟩
          · rw [← ha] at hy
            obtain ⟨z, hz, rfl⟩ := List.mem_map.1 hy
            exact hs z hz
          · rw [← ha, strOf_map]
            exact hn
        rw [this]
    | _ => cases h
theorem vRange1_pred (b : Bool) (n : Nat) (h : n ≤ 16777216) : vRange1 b (.int ((n : Int) - 1)) = some ((List.range (n - 1)).map fun i : Nat => PyData.int (i : Nat)) := by
  show (if inR ((n : Int) - 1) = true ∧ (b = true → ((n : Int) - 1).toNat ≤ sizeLine) then some (rangeD 0 ((n : Int) - 1)) else none) = _
  rw [if_pos ⟨inR_i (by omega) (by omega), fun _ => by rw [line_eq]; omega⟩]
  refine congrArg some ?_
  unfold rangeD
  rw [show ((n : Int) - 1 - 0).toNat = n - 1 by omega]
  exact List.map_congr_left fun k _ => by simp
theorem is_ascending_g (v : D) (lo hi : Nat) (hh : hi ≤ 1000000) : d_is_ascending [v, .int lo, .int hi] = .ok (.bool (ascB v lo hi)) := by
  rw [d_is_ascending]
  refine run_eq ?_
  have ir := is_names_g v lo hi hh
  cases h : nmsB v lo hi with
  | false =>
    wp_walk using ir, h
    unfold nmsB at h
    unfold ascB
    cases hl : lenB v lo hi with
    | false => rfl
    | true =>
      rw [hl] at h
      cases v with
      | tuple l =>
        have h : nmsOk l = false := h
        show _ = PyData.bool (ascOk l)
        unfold ascOk
        rw [h]; rfl
      | _ => rfl
  | true =>
    wp_walk using ir, h
    unfold nmsB at h
    obtain ⟨hl, h2⟩ := Bool.and_eq_true_iff.1 h
    cases v with
    | tuple l =>
      have h2 : nmsOk l = true := h2
      have ll : l.length ≤ hi := (of_decide_eq_true hl).2
      have e : ascB (.tuple l) lo hi = (List.range (l.length - 1)).all fun k => ltS (strOf (l.getD k .none)) (strOf (l.getD (k + 1) .none)) := by
        unfold ascB
        rw [hl, Bool.true_and]
        show ascOk l = _
        unfold ascOk
        rw [h2, Bool.true_and]
      have it : eComp [3] (gN 3) (iR1 true (eBin vSub (eUn vLen (eVar 0)) (eC (PyData.int 1)))) tTrue (eBin vLt (eBin vIdx (eVar 0) (eVar 3)) (eBin vIdx (eVar 0) (eBin vAdd (eVar 3) (eC (PyData.int 1))))) [some (PyData.tuple l), some (PyData.int (lo : Nat)), some (PyData.int (hi : Nat)), none] = .ok (.list ((List.range (l.length - 1)).map fun k => .bool (ltS (strOf (l.getD k .none)) (strOf (l.getD (k + 1) .none))))) := by
        refine eComp_map (fun i : Nat => .int (i : Nat)) (fun k => .bool (ltS (strOf (l.getD k .none)) (strOf (l.getD (k + 1) .none)))) (List.range (l.length - 1)) ?_ fun k hk => ⟨_, rfl, ?_⟩
        · wp_walk using vRange1_pred _ l.length (by omega)
        · have hk := List.mem_range.1 hk
          have i1 := idxD (l := l) (k := k) (by omega)
          have i2 := idxD (l := l) (k := k + 1) (by omega)
          have n1 : nameB (l.getD k .none) = true := List.all_eq_true.1 (Bool.and_eq_true_iff.1 h2).1 _ (getD_memD (by omega))
          have n2 : nameB (l.getD (k + 1) .none) = true := List.all_eq_true.1 (Bool.and_eq_true_iff.1 h2).1 _ (getD_memD (by omega))
          obtain ⟨z1, e1⟩ := nameB_str n1
          obtain ⟨z2, e2⟩ := nameB_str n2
          have a1 : ((k : Nat) : Int) + 1 = ((k + 1 : Nat) : Int) := by omega
          rw [e1] at i1
          rw [e2] at i2
          rw [e1, e2]
          wp_walk using i1, a1, i2
          rfl
      wp_walk using it, vAll_map
      rw [e]
    | _ => cases h2
theorem law_is_names_eq (v : D) (hl : ∀ l, v = .tuple l → l.length ≤ 1000000) : d_law_is_names [v] = .ok (.bool (ascLB v)) := by
  rw [d_law_is_names]
  refine run_eq ?_
  cases v with
  | tuple l =>
    have ll := hl l rfl
    have e0 : ascLB (.tuple l) = (l.all nameB && adjB l) := rfl
    row_walk
    refine ws_ifF (by wp_walk) (ws_skip ?_)
    row_walk
    refine ws_rng l.length (fun k ρ => (∀ i, i < k → nameB (l.getD i .none) = true) ∧ (∀ i, i + 1 < k → ltS (strOf (l.getD i .none)) (strOf (l.getD (i + 1) .none)) = true) ∧ ∃ o, ρ = [some (.tuple l), o]) (iR1_nat (n := l.length) (by wp_walk) (by omega)) ⟨by simp, by simp, _, rfl⟩ ?_ ?_
    · rintro k hk _ ⟨h1, h2, o, rfl⟩
      have i1 := idxD (l := l) (k := k) hk
      have nm := law_is_name_2_eq (l.getD k .none)
      refine ⟨_, rfl, ?_⟩
      cases hn : nameB (l.getD k .none) with
      | false =>
        wp_walk using i1, nm, hn
        have : l.all nameB = false := List.all_eq_false.2 ⟨_, getD_memD hk, by rw [hn]; decide⟩
        rw [e0, this]; rfl
      | true =>
        by_cases h0 : k = 0
        · have : ¬ (0 : Int) < (k : Nat) := by omega
          wp_walk using i1, nm, hn, this
          exact ⟨fun i hi => (by rw [show i = k by omega]; exact hn), fun i hi => by omega, _, rfl⟩
        · have h3 : (0 : Int) < (k : Nat) := by omega
          have e1 : ((k : Nat) : Int) - 1 = ((k - 1 : Nat) : Int) := by omega
          have i2 := idxD (l := l) (k := k - 1) (by omega)
          obtain ⟨z1, g1⟩ := nameB_str hn
          obtain ⟨z2, g2⟩ := nameB_str (h1 (k - 1) (by omega))
          rw [g1] at i1 nm
          rw [g2] at i2
          have vt : vLt (.str z2) (.str z1) = some (.bool (ltS z2 z1)) := rfl
          rw [g1] at hn
          cases hlt : ltS z2 z1 with
          | false =>
            wp_walk using i1, nm, hn, h3, e1, i2, vt, hlt
            have : adjB l = false := List.all_eq_false.2 ⟨k - 1, List.mem_range.2 (by omega), by rw [show k - 1 + 1 = k by omega, g1, g2]; simp [strOf, hlt]⟩
            rw [e0, this]; simp
          | true =>
            wp_walk using i1, nm, hn, h3, e1, i2, vt, hlt
            refine ⟨fun i hi => ?_, fun i hi => ?_, _, rfl⟩
            · by_cases h4 : i = k
              · rw [h4, g1]; exact hn
              · exact h1 i (by omega)
            · by_cases h4 : i + 1 = k
              · rw [show i = k - 1 by omega, show k - 1 + 1 = k by omega, g1, g2]; exact hlt
              · exact h2 i (by omega)
    · rintro _ ⟨h1, h2, o, rfl⟩
      wp_walk
      have a1 : l.all nameB = true := List.all_eq_true.2 fun x hx => by
        obtain ⟨i, hi, rfl⟩ := List.mem_iff_getElem.1 hx
        have := h1 i hi
        simpa [List.getD, hi] using this
      have a2 : adjB l = true := List.all_eq_true.2 fun k hk => h2 k (by have := List.mem_range.1 hk; omega)
      rw [e0, a1, a2]; rfl
  | _ => wp_walk; rfl
theorem ltS_T {a b : Str} (h : ltS a b = true) : ltT a b := by simpa [ltS, ltT] using h
theorem names_kv (T : Tb) : d_names_of [tbE T] = .ok (.tuple ((T.map Prod.fst).map .str)) := by
  rw [d_names_of]
  refine run_eq ?_
  refine ws_back (eUn_ok (v := .list ((T.map Prod.fst).map .str)) ?_ rfl) rfl
  rw [List.map_map]
  exact eComp_map kvE (fun p => .str p.1) T (iVal_tup (by wp_walk; rfl)) fun p _ => ⟨_, rfl, by wp_walk using kvE_0⟩
theorem names_of_ct (T : CT) : d_names_of [ctE T] = .ok (.tuple (T.map fun r => .str r.1)) := by
  have nk := names_kv (ctT T)
  rw [show (ctT T).map Prod.fst = T.map Prod.fst by unfold ctT; rw [List.map_map]; rfl, List.map_map] at nk
  exact nk
theorem row_uniq {T : CT} (hn : (T.map Prod.fst).Nodup) {r s : Str × List Str} (hr : r ∈ T) (hs : s ∈ T) (e : r.1 = s.1) : r = s := by
  obtain ⟨i, hi, rfl⟩ := List.mem_iff_getElem.1 hr
  obtain ⟨j, hj, rfl⟩ := List.mem_iff_getElem.1 hs
  have := (List.getElem_inj (xs := T.map Prod.fst) (i := i) (j := j) (h₀ := by simpa using hi) (h₁ := by simpa using hj) hn).1 (by simpa using e)
  subst this
  rfl
theorem unp_kv (i j : Nat) (p : Str × D) (ρ : Lo) : gT 2 (gsCons (gN i) (gsCons (gN j) gsNil)) (kvE p) ρ = some ((ρ.set i (some (.str p.1))).set j (some p.2)) := rfl
theorem vNotIn_of {x y : D} {b : Bool} (h : vIn x y = some (.bool b)) : vNotIn x y = some (.bool (!b)) := by
  unfold vNotIn
  rw [h]
  rfl
theorem vNotIn_strL (i : Str) (l : List Str) : vNotIn (.str i) (.list (l.map .str)) = some (.bool (!decide (i ∈ l))) := by
  rw [vNotIn_of (vIn_strL i l)]
theorem vNotIn_strT (i : Str) (l : List Str) : vNotIn (.str i) (.tuple (l.map .str)) = some (.bool (!decide (i ∈ l))) := by
  rw [vNotIn_of (vIn_strT i l)]
def lookKV (T : Tb) (j : Str) : Option D := (T.find? fun p => decide (p.1 = j)).map (·.2)
theorem lookKV_at : ∀ {T : Tb} {k : Nat} (h : k < T.length), (T.map Prod.fst).Nodup → lookKV T T[k].1 = some T[k].2
  | [], k, h, _ => by simp at h
  | p :: e, 0, _, _ => by simp [lookKV]
  | p :: e, k + 1, h, hn => by
    rw [List.map_cons, List.nodup_cons] at hn
    have hk : k < e.length := by simpa using h
    have ih := lookKV_at (T := e) (k := k) hk hn.2
    have : p.1 ≠ e[k].1 := fun q => hn.1 (by rw [q]; exact List.mem_map.2 ⟨_, List.getElem_mem _, rfl⟩)
    show lookKV (p :: e) e[k].1 = some e[k].2
    unfold lookKV at ih ⊢
    rw [List.find?_cons_of_neg (by simpa using this)]
    exact ih
theorem look_ct {T : CT} (hn : (T.map Prod.fst).Nodup) {r : Str × List Str} (hr : r ∈ T) : lookKV (ctT T) r.1 = some (.tuple (r.2.map .str)) := by
  obtain ⟨k, hk, rfl⟩ := List.mem_iff_getElem.1 hr
  have := lookKV_at (T := ctT T) (k := k) (by unfold ctT; simpa using hk) (by unfold ctT; rw [List.map_map]; exact hn)
  simpa [ctT] using this
theorem value_kv {T : Tb} {j : Str} {v : D} (h : lookKV T j = some v) (d : D) : d_value_of [tbE T, .str j, d] = .ok v := by
  rw [d_value_of]
  refine run_eq ?_
  wp_walk
  refine ws_find kvE (fun p => decide (p.1 = j)) T (fun ρ => ∃ o : Option D, ρ = [some (tbE T), some (.str j), some d, o]) (by wp_walk using items_tb) ⟨_, rfl⟩ ?_ ?_
  · rintro p hp _ ⟨o, rfl⟩
    refine ⟨_, rfl, fun hc hf => ?_, fun hc => ?_⟩
    · have hc := of_decide_eq_true hc
      wp_walk using kvE_0, kvE_1, hc
      unfold lookKV at h
      rw [hf] at h
      exact Option.some.inj h
    · have hc := of_decide_eq_false hc
      wp_walk using kvE_0, hc
      exact ⟨_, rfl⟩
  · rintro _ ⟨o, rfl⟩ hf
    unfold lookKV at h
    rw [hf] at h
    cases h
theorem value_ct {T : CT} (hn : (T.map Prod.fst).Nodup) {r : Str × List Str} (hr : r ∈ T) (d : D) : d_value_of [ctE T, .str r.1, d] = .ok (.tuple (r.2.map .str)) := value_kv (look_ct hn hr) d
theorem asc_R {v : D} (h : ascLB v = true) : ∃ N : List Str, v = stTp N ∧ NmRow N := by
  cases v with
  | tuple l =>
    have h : (l.all nameB && adjB l) = true := h
    obtain ⟨h1, h2⟩ := Bool.and_eq_true_iff.1 h
    have h1 := List.all_eq_true.1 h1
    have e : (l.map strOf).map PyData.str = l := by
      rw [List.map_map]
      refine (List.map_congr_left fun x hx => ?_).trans (List.map_id l)
      obtain ⟨z, rfl⟩ := nameB_str (h1 x hx)
      rfl
    refine ⟨l.map strOf, by rw [stTp, e], List.pairwise_iff_getElem.2 fun i j hi hj hij => ?_, fun z hz => ?_⟩
    · rw [List.length_map] at hi hj
      have := adj_lt h2 hij hj
      simp only [List.getElem_map]
      rw [show l.getD i .none = l[i] by simp [List.getD, hi], show l.getD j .none = l[j] by simp [List.getD, hj]] at this
      exact ltS_T this
    · obtain ⟨x, hx, rfl⟩ := List.mem_map.1 hz
      obtain ⟨z, e⟩ := nameB_str (h1 x hx)
      have := h1 x hx
      rw [e] at this ⊢
      exact this
  | _ => cases h
open Classical in
noncomputable def cutB (T : CT) (x y : D) : Bool := if ∃ A B, x = stTp A ∧ y = stTp B ∧ CutOk T A B then true else false
theorem cutB_yes {T : CT} {x y : D} (h : ∃ A B, x = stTp A ∧ y = stTp B ∧ CutOk T A B) : cutB T x y = true := by unfold cutB; exact if_pos h
theorem cutB_no {T : CT} {x y : D} (h : ¬ ∃ A B, x = stTp A ∧ y = stTp B ∧ CutOk T A B) : cutB T x y = false := by unfold cutB; exact if_neg h
theorem strs_inj {A B : List Str} (h : stTp A = stTp B) : A = B := by
  have h : A.map PyData.str = B.map PyData.str := by injection h
  have := congrArg (List.map strOf) h
  rw [strOf_map, strOf_map] at this
  exact this
theorem CutOk.len {T : CT} {A B : List Str} (h : CutOk T A B) : A.length ≤ T.length := by
  have := len_le_of (m := T.map Prod.fst) (asc_nodup h.a.1) fun z hz => by
    obtain ⟨r, hr, e⟩ := h.inT z hz
    exact List.mem_map.2 ⟨r, hr, e⟩
  simpa using this
theorem is_cut_eq {T : CT} (hT : CtOk T) (x y : D) : d_is_cut [ctE T, x, y] = .ok (.bool (cutB T x y)) := by
  have vl := ct_len T
  have nk := names_of_ct T
  have hn := asc_nodup hT.2.1.1
  have h8 := hT.1
  have vr := fun r (hr : r ∈ T) => value_ct hn hr .none
  have ho : ∀ j : Str, d_holds [ctE T, .str j] = .ok (.bool (decide (j ∈ T.map Prod.fst))) := fun j => by
    have vi := vIn_strT j (T.map Prod.fst)
    rw [List.map_map] at vi
    have vi : vIn (.str j) (.tuple (T.map fun r => .str r.1)) = _ := vi
    rw [d_holds]
    refine run_eq ?_
    wp_walk using nk, vi
  have a1 := is_ascending_g x 1 T.length (by omega)
  simp only [Int.cast_ofNat_Int] at a1
  rw [d_is_cut]
  refine run_eq ?_
  rw [ascB_ascL] at a1
  cases h1 : (ascLB x && lenB x 1 T.length) with
  | false =>
    rw [h1] at a1
    have e : cutB T x y = false := cutB_no fun ⟨A, B, e1, e2, h⟩ => by
      rw [e1, asc_L h.a] at h1
      have hl := h.len
      have hlt := h.lt
      have : lenB (stTp A) 1 T.length = true := decide_eq_true (by simp only [List.length_map]; omega)
      rw [this] at h1
      cases h1
    rw [e]
    wp_walk using vl, a1
  | true =>
    rw [h1] at a1
    obtain ⟨g1, g2⟩ := Bool.and_eq_true_iff.1 h1
    obtain ⟨A, rfl, hA⟩ := asc_R g1
    have g2 := of_decide_eq_true g2
    simp only [List.length_map] at g2
    have e1 : ((A.length : Nat) : Int) - 1 = ((A.length - 1 : Nat) : Int) := by omega
    have vlA : vLen (.tuple (A.map .str)) = some (.int (A.length : Nat)) := by rw [vLen_tup, List.length_map]
    have a2 := is_ascending_g y 0 (A.length - 1) (by omega)
    simp only [Int.cast_ofNat_Int] at a2
    rw [ascB_ascL] at a2
    cases h2 : (ascLB y && lenB y 0 (A.length - 1)) with
    | false =>
      rw [h2] at a2
      have e : cutB T (stTp A) y = false := cutB_no fun ⟨A', B, e1, e2, h⟩ => by
        have := strs_inj e1
        subst this
        rw [e2, asc_L h.b] at h2
        have hlt := h.lt
        have : lenB (stTp B) 0 (A.length - 1) = true := decide_eq_true (by simp only [List.length_map]; omega)
        rw [this] at h2
        cases h2
      rw [e]
      wp_walk using vl, a1, vlA, e1, a2
    | true =>
      rw [h2] at a2
      obtain ⟨g3, g4⟩ := Bool.and_eq_true_iff.1 h2
      obtain ⟨B, rfl, hB⟩ := asc_R g3
      have g4 := of_decide_eq_true g4
      simp only [List.length_map] at g4
      by_cases hc : CutOk T A B
      · rw [cutB_yes ⟨A, B, rfl, rfl, hc⟩]
        generalize ctE T = TE at *
        row_walk
        refine ws_ifF (by wp_walk using vl, a1, vlA, e1, a2) (ws_skip ?_)
        row_walk
        refine ws_forE .str A (fun rest ρ => (∀ j ∈ rest, j ∈ A) ∧ ∃ o3 o4 : Option D, ρ = [some TE, some (.tuple (A.map .str)), some (.tuple (B.map .str)), o3, o4]) (by wp_walk) ⟨fun j h => h, _, _, rfl⟩ ?_ (fun ρ ⟨_, _, _, e⟩ => by subst e; wp_walk)
        rintro j rest _ ⟨hj, o3, o4, rfl⟩
        obtain ⟨r, hr, er⟩ := hc.inT j (hj j (by simp))
        have h1 := ho j
        rw [decide_eq_true (List.mem_map.2 ⟨r, hr, er⟩)] at h1
        have v1 := vr r hr
        rw [er] at v1
        refine ⟨_, rfl, ?_⟩
        row_walk
        refine ws_ifF (by wp_walk using h1) (ws_skip ?_)
        row_walk
        refine ws_forE .str r.2 (fun rs ρ => (∀ p ∈ rs, p ∈ r.2) ∧ ∃ o4 : Option D, ρ = [some TE, some (.tuple (A.map .str)), some (.tuple (B.map .str)), some (.str j), o4]) (by wp_walk using v1) ⟨fun p h => h, _, rfl⟩ ?_ (fun ρ ⟨_, o4, e⟩ => by subst e; exact ws_skip ⟨fun i hi => hj i (by simp [hi]), _, _, rfl⟩)
        rintro p rs _ ⟨hp, o4, rfl⟩
        have vn := vNotIn_strT p B
        have hpB := hc.cl r hr (by rw [er]; exact hj j (by simp)) p (hp p (by simp))
        have hpB' : (p ∈ B) = True := eq_true hpB
        refine ⟨_, rfl, ?_⟩
        wp_walk using vn, hpB'
        exact ⟨fun q hq => hp q (by simp [hq]), _, rfl⟩
      · have e : cutB T (stTp A) (stTp B) = false := cutB_no fun ⟨A', B', e1, e2, h⟩ => by
          rw [← strs_inj e1, ← strs_inj e2] at h
          exact hc h
        rw [e]
        generalize ctE T = TE at *
        row_walk
        refine ws_ifF (by wp_walk using vl, a1, vlA, e1, a2) (ws_skip ?_)
        row_walk
        refine ws_forE .str A (fun rest ρ => (∃ a, a ++ rest = A ∧ ∀ j ∈ a, ∃ r ∈ T, r.1 = j ∧ ∀ p ∈ r.2, p ∈ B) ∧ ∃ o3 o4 : Option D, ρ = [some TE, some (.tuple (A.map .str)), some (.tuple (B.map .str)), o3, o4]) (by wp_walk) ⟨⟨[], rfl, fun j h => by cases h⟩, _, _, rfl⟩ ?_ ?_
        · rintro j rest _ ⟨⟨a, ha, hj⟩, o3, o4, rfl⟩
          have h1 := ho j
          refine ⟨_, rfl, ?_⟩
          by_cases hin : j ∈ T.map Prod.fst
          · rw [decide_eq_true hin] at h1
            obtain ⟨r, hr, er⟩ := List.mem_map.1 hin
            have v1 := vr r hr
            rw [er] at v1
            row_walk
            refine ws_ifF (by wp_walk using h1) (ws_skip ?_)
            row_walk
            refine ws_forE .str r.2 (fun rs ρ => (∃ b, b ++ rs = r.2 ∧ ∀ p ∈ b, p ∈ B) ∧ ∃ o4 : Option D, ρ = [some TE, some (.tuple (A.map .str)), some (.tuple (B.map .str)), some (.str j), o4]) (by wp_walk using v1) ⟨⟨[], rfl, fun j h => by cases h⟩, _, rfl⟩ ?_ ?_
            · rintro p rs _ ⟨⟨b, hb, hp⟩, o4, rfl⟩
              have vn := vNotIn_strT p B
              refine ⟨_, rfl, ?_⟩
              by_cases hpB : p ∈ B
              · have hpB' : (p ∈ B) = True := eq_true hpB
                wp_walk using vn, hpB'
                refine ⟨⟨b ++ [p], by rw [List.append_assoc]; exact hb, fun q hq => ?_⟩, _, rfl⟩
                rcases List.mem_append.1 hq with g | g
                · exact hp q g
                · rw [List.mem_singleton.1 g]; exact hpB
              · have hpB' : (p ∈ B) = False := eq_false hpB
                wp_walk using vn, hpB'
            · rintro _ ⟨⟨b, hb, hp⟩, o4, rfl⟩
              rw [List.append_nil] at hb
              refine ws_skip ⟨⟨a ++ [j], by rw [List.append_assoc]; exact ha, fun i hi => ?_⟩, _, _, rfl⟩
              rcases List.mem_append.1 hi with g | g
              · exact hj i g
              · rw [List.mem_singleton.1 g]; exact ⟨r, hr, er, by rw [← hb]; exact hp⟩
          · rw [decide_eq_false hin] at h1
            wp_walk using h1
        · rintro _ ⟨⟨a, ha, hj⟩, o3, o4, rfl⟩
          rw [List.append_nil] at ha
          subst ha
          refine (hc ⟨hA, hB, by omega, fun j hj' => ?_, fun r hr hrA p hp => ?_⟩).elim
          · obtain ⟨r, hr, er, _⟩ := hj j hj'
            exact ⟨r, hr, er⟩
          · obtain ⟨r', hr', er, h⟩ := hj r.1 hrA
            have := row_uniq hn hr' hr er
            subst this
            exact h p hp
theorem law_is_cut_eq {T : CT} (hT : CtOk T) (x y : D) (hx : ∀ l, x = .tuple l → l.length ≤ 1000000) (hy : ∀ l, y = .tuple l → l.length ≤ 1000000) : d_law_is_cut [ctE T, x, y] = .ok (.bool (cutB T x y)) := by
  have ci := ct_items T
  have hn := asc_nodup hT.2.1.1
  have a1 := law_is_names_eq x hx
  have a2 := law_is_names_eq y hy
  rw [d_law_is_cut]
  refine run_eq ?_
  cases h1 : ascLB x with
  | false =>
    rw [h1] at a1
    rw [cutB_no fun ⟨A, B, e1, e2, h⟩ => by rw [e1, asc_L h.a] at h1; cases h1]
    wp_walk using a1
  | true =>
    rw [h1] at a1
    obtain ⟨A, rfl, hA⟩ := asc_R h1
    cases h2 : ascLB y with
    | false =>
      rw [h2] at a2
      rw [cutB_no fun ⟨A, B, e1, e2, h⟩ => by rw [e2, asc_L h.b] at h2; cases h2]
      wp_walk using a1, a2
    | true =>
      rw [h2] at a2
      obtain ⟨B, rfl, hB⟩ := asc_R h2
      have vlA : vLen (.tuple (A.map .str)) = some (.int (A.length : Nat)) := by rw [vLen_tup, List.length_map]
      have vlB : vLen (.tuple (B.map .str)) = some (.int (B.length : Nat)) := by rw [vLen_tup, List.length_map]
      by_cases hlt : B.length < A.length
      · have hlt' : (((B.length : Nat) : Int) < (A.length : Nat)) = True := eq_true (by omega)
        generalize ctE T = TE at *
        have it : ∀ x3 x4 x5 x6 : Option D, eComp [7] (gN 7) (iVal (eVar 0)) tTrue (eBin vIdx (eVar 7) (eC (.int 0))) [some TE, some (.tuple (A.map .str)), some (.tuple (B.map .str)), x3, x4, x5, x6, none] = .ok (.list ((T.map Prod.fst).map .str)) := by
          intros
          rw [List.map_map]
          exact eComp_map (fun p : Str × List Str => kvE (p.1, .tuple (p.2.map .str))) (.str ∘ Prod.fst) T (by wp_walk using ci) fun r _ => ⟨_, rfl, by wp_walk using kvE_0; rfl⟩
        have noc : ∀ (h : ¬ CutOk T A B), cutB T (stTp A) (stTp B) = false := fun hc => cutB_no fun ⟨A', B', e1, e2, h⟩ => by
          rw [← strs_inj e1, ← strs_inj e2] at h
          exact hc h
        row_walk
        refine ws_ifF (by wp_walk using a1, a2, vlA, vlB, hlt') (ws_skip ?_)
        row_walk with [it]
        refine ws_mid (fun ρ => (∀ j ∈ A, j ∈ T.map Prod.fst) ∧ ∃ o4 : Option D, ρ = [some TE, some (.tuple (A.map .str)), some (.tuple (B.map .str)), some (.list ((T.map Prod.fst).map .str)), o4, none, none, none]) ?_ ?_
        · refine ws_forE .str A (fun rest ρ => (∃ a, a ++ rest = A ∧ ∀ j ∈ a, j ∈ T.map Prod.fst) ∧ ∃ o4 : Option D, ρ = [some TE, some (.tuple (A.map .str)), some (.tuple (B.map .str)), some (.list ((T.map Prod.fst).map .str)), o4, none, none, none]) (by wp_walk) ⟨⟨[], rfl, fun j h => by cases h⟩, _, rfl⟩ ?_ ?_
          · rintro j rest _ ⟨⟨a, ha, hj⟩, o4, rfl⟩
            have vn := vNotIn_strL j (T.map Prod.fst)
            refine ⟨_, rfl, ?_⟩
            by_cases hin : j ∈ T.map Prod.fst
            · have hin' : (j ∈ T.map Prod.fst) = True := eq_true hin
              wp_walk using vn, hin'
              refine ⟨⟨a ++ [j], by rw [List.append_assoc]; exact ha, fun i hi => ?_⟩, _, rfl⟩
              rcases List.mem_append.1 hi with g | g
              · exact hj i g
              · rw [List.mem_singleton.1 g]; exact hin
            · have hin' : (j ∈ T.map Prod.fst) = False := eq_false hin
              wp_walk using vn, hin'
              rw [noc fun h => hin (by
                obtain ⟨r, hr, e⟩ := h.inT j (by rw [← ha]; simp)
                exact List.mem_map.2 ⟨r, hr, e⟩)]
          · rintro _ ⟨⟨a, ha, hj⟩, o4, rfl⟩
            rw [List.append_nil] at ha
            subst ha
            exact ⟨hj, _, rfl⟩
        rintro _ ⟨hin, o4, rfl⟩
        row_walk
        refine ws_forE (fun p : Str × List Str => kvE (p.1, .tuple (p.2.map .str))) T (fun rest ρ => (∃ a, a ++ rest = T ∧ ∀ r ∈ a, r.1 ∈ A → ∀ p ∈ r.2, p ∈ B) ∧ ∃ o4 o5 o6 : Option D, ρ = [some TE, some (.tuple (A.map .str)), some (.tuple (B.map .str)), some (.list ((T.map Prod.fst).map .str)), o4, o5, o6, none]) (by wp_walk using ci) ⟨⟨[], rfl, fun j h => by cases h⟩, _, _, _, rfl⟩ ?_ ?_
        · rintro r rest _ ⟨⟨a, ha, hj⟩, o4, o5, o6, rfl⟩
          have vi := vIn_strT r.1 A
          refine ⟨_, unp_kv 4 5 _ _, ?_⟩
          row_walk
          refine ws_forE .str r.2 (fun rs ρ => (∃ b, b ++ rs = r.2 ∧ (r.1 ∈ A → ∀ p ∈ b, p ∈ B)) ∧ ∃ o6 : Option D, ρ = [some TE, some (.tuple (A.map .str)), some (.tuple (B.map .str)), some (.list ((T.map Prod.fst).map .str)), some (.str r.1), some (.tuple (r.2.map .str)), o6, none]) (by wp_walk) ⟨⟨[], rfl, fun _ j h => by cases h⟩, _, rfl⟩ ?_ ?_
          · rintro p rs _ ⟨⟨b, hb, hp⟩, o6, rfl⟩
            have vn := vNotIn_strT p B
            refine ⟨_, rfl, ?_⟩
            by_cases hrA : r.1 ∈ A
            · have hrA' : (r.1 ∈ A) = True := eq_true hrA
              by_cases hpB : p ∈ B
              · have hpB' : (p ∈ B) = True := eq_true hpB
                wp_walk using vi, hrA', vn, hpB'
                refine ⟨⟨b ++ [p], by rw [List.append_assoc]; exact hb, fun _ q hq => ?_⟩, _, rfl⟩
                rcases List.mem_append.1 hq with g | g
                · exact hp hrA q g
                · rw [List.mem_singleton.1 g]; exact hpB
              · have hpB' : (p ∈ B) = False := eq_false hpB
                wp_walk using vi, hrA', vn, hpB'
                rw [noc fun h => hpB (h.cl r (by rw [← ha]; simp) hrA p (by rw [← hb]; simp))]
            · have hrA' : (r.1 ∈ A) = False := eq_false hrA
              wp_walk using vi, hrA'
              exact ⟨⟨b ++ [p], by rw [List.append_assoc]; exact hb, fun h => h.elim⟩, _, rfl⟩
          · rintro _ ⟨⟨b, hb, hp⟩, o6, rfl⟩
            rw [List.append_nil] at hb
            subst hb
            refine ws_skip ⟨⟨a ++ [r], by rw [List.append_assoc]; exact ha, fun x hx => ?_⟩, _, _, _, rfl⟩
            rcases List.mem_append.1 hx with g | g
            · exact hj x g
            · rw [List.mem_singleton.1 g]; exact hp
        · rintro _ ⟨⟨a, ha, hj⟩, o4, o5, o6, rfl⟩
          rw [List.append_nil] at ha
          subst ha
          wp_walk
          rw [cutB_yes ⟨A, B, rfl, rfl, hA, hB, hlt, fun j hj' => ?_, fun r hr => hj r hr⟩]
          obtain ⟨r, hr, e⟩ := List.mem_map.1 (hin j hj')
          exact ⟨r, hr, e⟩
      · have hlt' : (((B.length : Nat) : Int) < (A.length : Nat)) = False := eq_false (by omega)
        rw [cutB_no fun ⟨A', B', e1, e2, h⟩ => by rw [← strs_inj e1, ← strs_inj e2] at h; exact hlt h.lt]
        wp_walk using a1, a2, vlA, vlB, hlt'
theorem asc_ext {l m : List Str} (h1 : Asc l) (h2 : Asc m) (h : ∀ z, z ∈ l ↔ z ∈ m) : l = m := by
  refine asc_perm (perm_of_sub l m (asc_nodup h1) (fun z hz => (h z).1 hz) ?_) h1 h2
  exact len_le_of (asc_nodup h2) fun z hz => (h z).2 hz
theorem selR_zero : ∀ T : CT, selR 0 T = []
  | [] => rfl
  | r :: T => by
    unfold selR
    rw [if_neg (by decide)]
    exact selR_zero T
theorem sub_selR {S T : CT} (h : S.Sublist T) : ∃ m, m < 2 ^ T.length ∧ selR m T = S := by
  induction h with
  | slnil => exact ⟨0, by simp, rfl⟩
  | @cons S T a h ih =>
    obtain ⟨m, h1, h2⟩ := ih
    refine ⟨2 * m, by rw [List.length_cons, Nat.pow_succ]; omega, ?_⟩
    unfold selR
    rw [if_neg (by omega), show 2 * m / 2 = m by omega]
    exact h2
  | @cons_cons S T a h ih =>
    obtain ⟨m, h1, h2⟩ := ih
    refine ⟨2 * m + 1, by rw [List.length_cons, Nat.pow_succ]; omega, ?_⟩
    unfold selR
    rw [if_pos (by omega), show (2 * m + 1) / 2 = m by omega, h2]
/-- a cut is the set of some mask -/
theorem cut_sel {T : CT} (hT : CtOk T) {A B : List Str} (h : CutOk T A B) : ∃ m, m < 2 ^ T.length ∧ 0 < m ∧ ∀ B', PtsOf (selR m T) B' → B'.length < (selR m T).length := by
  obtain ⟨m, h1, h2⟩ := sub_selR (T := T) (S := T.filter fun r => decide (r.1 ∈ A)) List.filter_sublist
  have hl : (T.filter fun r => decide (r.1 ∈ A)).length = A.length := by
    have : (T.filter fun r => decide (r.1 ∈ A)).map Prod.fst = A := by
      refine asc_ext (hT.2.1.1.sublist (List.filter_sublist.map _)) h.a.1 fun z => ?_
      rw [List.mem_map]
      constructor
      · rintro ⟨r, hr, rfl⟩
        exact of_decide_eq_true (List.mem_filter.1 hr).2
      · intro hz
        obtain ⟨r, hr, e⟩ := h.inT z hz
        exact ⟨r, List.mem_filter.2 ⟨hr, decide_eq_true (by rw [e]; exact hz)⟩, e⟩
    have := congrArg List.length this
    simpa using this
  have hlt := h.lt
  refine ⟨m, h1, ?_, fun B' hB' => ?_⟩
  · refine Nat.pos_of_ne_zero fun e => ?_
    rw [e, selR_zero] at h2
    rw [← h2] at hl
    simp at hl
    omega
  · rw [h2] at hB' ⊢
    have : B'.length ≤ B.length := len_le_of (asc_nodup hB'.1.1) fun p hp => by
      obtain ⟨r, hr, hpr⟩ := (hB'.2 p).1 hp
      obtain ⟨h3, h4⟩ := List.mem_filter.1 hr
      exact h.cl r h3 (of_decide_eq_true h4) p hpr
    omega
theorem fm_sok {T : CT} (hT : CtOk T) {M : List (Str × Str)} (h : FM T M) : ∃ σ, SOk T σ ∧ M = mS (T.map Prod.fst) σ := by
  obtain ⟨⟨h1, h2, h3⟩, h4⟩ := h
  have hn : (M.map Prod.fst).Nodup := asc_nodup h1
  refine ⟨fun j => ((M.find? fun x => decide (x.1 = j)).map (·.2)).getD ⟨#[]⟩, ?_⟩
  have hf : ∀ x ∈ M, ((M.find? fun x' => decide (x'.1 = x.1)).map (·.2)).getD ⟨#[]⟩ = x.2 := fun x hx => by
    cases e : M.find? fun x' => decide (x'.1 = x.1) with
    | none => have := List.find?_eq_none.1 e x hx; simp at this
    | some y =>
      have a1 := List.mem_of_find?_eq_some e
      have a2 := List.find?_some e
      have a2 := of_decide_eq_true a2
      obtain ⟨i, hi, rfl⟩ := List.mem_iff_getElem.1 a1
      obtain ⟨j, hj, rfl⟩ := List.mem_iff_getElem.1 hx
      have := (List.getElem_inj (xs := M.map Prod.fst) (i := i) (j := j) (h₀ := by simpa using hi) (h₁ := by simpa using hj) hn).1 (by simpa using a2)
      subst this
      rfl
  have hM : M = mS (T.map Prod.fst) fun j => ((M.find? fun x => decide (x.1 = j)).map (·.2)).getD ⟨#[]⟩ := by
    rw [← h4]
    unfold mS
    rw [List.map_map]
    refine ((List.map_congr_left fun x hx => ?_).trans (List.map_id M)).symm
    exact Prod.ext rfl (hf x hx)
  have mem : ∀ r ∈ T, ∃ x ∈ M, x.1 = r.1 := fun r hr => by
    have : r.1 ∈ M.map Prod.fst := by rw [h4]; exact List.mem_map.2 ⟨r, hr, rfl⟩
    obtain ⟨x, hx, e⟩ := List.mem_map.1 this
    exact ⟨x, hx, e⟩
  refine ⟨⟨fun r hr => ?_, fun r hr s hs e => ?_⟩, hM⟩
  · obtain ⟨x, hx, e⟩ := mem r hr
    rw [← e, hf x hx]
    obtain ⟨r', hr', e1, e2⟩ := h3 x hx
    have hnT := asc_nodup hT.2.1.1
    obtain ⟨i, hi, ei⟩ := List.mem_iff_getElem.1 hr
    obtain ⟨j, hj, ej⟩ := List.mem_iff_getElem.1 hr'
    have := (List.getElem_inj (xs := T.map Prod.fst) (i := i) (j := j) (h₀ := by simpa using hi) (h₁ := by simpa using hj) hnT).1 (by simp [ei, ej, e1, e])
    subst this
    rw [← ei, ej]; exact e2
  · obtain ⟨x, hx, ex⟩ := mem r hr
    obtain ⟨y, hy, ey⟩ := mem s hs
    rw [← ex, ← ey, hf x hx, hf y hy] at e
    obtain ⟨i, hi, rfl⟩ := List.mem_iff_getElem.1 hx
    obtain ⟨j, hj, rfl⟩ := List.mem_iff_getElem.1 hy
    have := (List.getElem_inj (xs := M.map Prod.snd) (i := i) (j := j) (h₀ := by simpa using hi) (h₁ := by simpa using hj) h2).1 (by simpa using e)
    subst this
    rw [← ex, ← ey]
abbrev Cst := List (Str × List (Str × Int))
def chC (C : Cst) : CT := C.map fun r => (r.1, r.2.map Prod.fst)
def frC (T : CT) : Cst := T.map fun p => (p.1, p.2.map fun z => (z, 0))
theorem chC_frC (T : CT) : chC (frC T) = T := by
  unfold chC frC
  rw [List.map_map]
  refine (List.map_congr_left fun p _ => ?_).trans (List.map_id T)
  have e : (p.2.map fun z => (z, (0 : Int))).map Prod.fst = p.2 := by rw [List.map_map]; exact List.map_id _
  show (p.1, (p.2.map fun z => (z, (0 : Int))).map Prod.fst) = p
  rw [e]
abbrev Trp := Nat × Str × Int
def sumT (m : List Trp) : Int := (m.map fun x => x.2.2).sum
def nmC (C : Cst) (k : Nat) : Str := (C.getD k (⟨#[]⟩, [])).1
def trE (C : Cst) (x : Trp) : D := .tuple [.str (nmC C x.1), .str x.2.1]
def enE (C : Cst) : Option (List Trp) → D
  | none => .none
  | some m => .tuple [.int (sumT m), .tuple (m.map (trE C))]
def rowK (C : Cst) (k : Nat) : List (Str × Int) := (C.getD k (⟨#[]⟩, [])).2
structure MT (C : Cst) (S : Str → Prop) (mask : Nat) (m : List Trp) : Prop where
  has : ∀ x ∈ m, (x.2.1, x.2.2) ∈ rowK C x.1
  inS : ∀ x ∈ m, S x.2.1
  ks : (m.map fun x => x.1).Nodup
  ps : (m.map fun x => x.2.1).Nodup
  bits : ∀ k, k < 8 → (k ∈ m.map (fun x => x.1) ↔ mask / 2 ^ k % 2 = 1)
theorem bits_full : ∀ n, n < 9 → ∀ k, k < 8 → ((2 ^ n - 1) / 2 ^ k % 2 = 1 ↔ k < n) := by decide +kernel
theorem chC_fst (C : Cst) : (chC C).map Prod.fst = C.map Prod.fst := by unfold chC; rw [List.map_map]; rfl
theorem fst_inj {C : Cst} (h : (C.map Prod.fst).Nodup) {i j : Nat} (hi : i < C.length) (hj : j < C.length) (e : nmC C i = nmC C j) : i = j := by
  unfold nmC at e
  have e : C[i].1 = C[j].1 := by simpa [List.getD, hi, hj] using e
  have := List.getElem_inj (xs := C.map Prod.fst) (i := i) (j := j) (h₀ := by simpa using hi) (h₁ := by simpa using hj) h
  exact this.1 (by simpa using e)
theorem fm_at {C : Cst} (hA : Asc (C.map Prod.fst)) {M : List (Str × Str)} (h : FM (chC C) M) : M.length = C.length ∧ ∀ k (hk : k < C.length), ∃ p c, M[k]? = some (nmC C k, p) ∧ (p, c) ∈ rowK C k := by
  obtain ⟨⟨h1, h2, h3⟩, h4⟩ := h
  rw [chC_fst] at h4
  have hl : M.length = C.length := by have := congrArg List.length h4; simpa using this
  refine ⟨hl, fun k hk => ?_⟩
  have hkM : k < M.length := by omega
  have e : M[k].1 = nmC C k := by
    have := congrArg (fun l => l[k]?) h4
    simp only [List.getElem?_map, List.getElem?_eq_getElem hkM, List.getElem?_eq_getElem hk, Option.map_some, Option.some.injEq] at this
    rw [this]
    simp [nmC, List.getD, hk]
  obtain ⟨r, hr, e1, e2⟩ := h3 M[k] (List.getElem_mem _)
  obtain ⟨r', hr', rfl⟩ := List.mem_map.1 hr
  obtain ⟨j, hj, ej⟩ := List.mem_iff_getElem.1 hr'
  have ejn : nmC C j = nmC C k := by
    rw [← e, ← e1, ← ej]
    simp [nmC, List.getD, hj]
  have := fst_inj (asc_nodup hA) hj hk ejn
  subst this
  obtain ⟨q, hq, eq⟩ := List.mem_map.1 e2
  refine ⟨M[j].2, q.2, ?_, ?_⟩
  · rw [List.getElem?_eq_getElem hkM, ← e]
  · have : rowK C j = r'.2 := by rw [← ej]; simp [rowK, List.getD, hj]
    rw [this, ← eq]
    exact hq
/-- a matching of all, as a match -/
def trP (C : Cst) (m : List Trp) : List (Str × Str) := m.map fun x => (nmC C x.1, x.2.1)
theorem trP_snd (C : Cst) (m : List Trp) : (trP C m).map Prod.snd = m.map fun x => x.2.1 := by unfold trP; rw [List.map_map]; rfl
theorem fm_mt {C : Cst} (h8 : C.length ≤ 8) (hA : Asc (C.map Prod.fst)) {M : List (Str × Str)} (h : FM (chC C) M) : ∃ m, MT C (fun _ => True) (2 ^ C.length - 1) m ∧ trP C m = M := by
  obtain ⟨hl, ha⟩ := fm_at hA h
  have hch : ∀ k, ∃ pc : Str × Int, k < C.length → M[k]? = some (nmC C k, pc.1) ∧ pc ∈ rowK C k := fun k => by
    by_cases hk : k < C.length
    · obtain ⟨p, c, h1, h2⟩ := ha k hk
      exact ⟨(p, c), fun _ => ⟨h1, h2⟩⟩
    · exact ⟨(⟨#[]⟩, 0), fun g => (hk g).elim⟩
  obtain ⟨f, hf⟩ := Classical.skolem.1 hch
  have e : trP C ((List.range C.length).map fun k => (k, f k)) = M := by
    unfold trP
    rw [List.map_map]
    refine List.ext_getElem? fun k => ?_
    by_cases hk : k < C.length
    · rw [(hf k hk).1, List.getElem?_map, List.getElem?_range hk]; rfl
    · rw [List.getElem?_eq_none (by simp; omega), List.getElem?_eq_none (by omega)]
  refine ⟨(List.range C.length).map fun k => (k, f k), ⟨fun x hx => ?_, fun _ _ => trivial, ?_, ?_, fun k hk => ?_⟩, e⟩
  · obtain ⟨k, hk, rfl⟩ := List.mem_map.1 hx
    exact (hf k (List.mem_range.1 hk)).2
  · rw [List.map_map]
    rw [show ((fun x : Trp => x.1) ∘ fun k => (k, f k)) = id from rfl, List.map_id]
    exact List.nodup_range
  · rw [← trP_snd C, e]
    exact h.1.2.1
  · rw [bits_full C.length (by omega) k hk, List.map_map, show ((fun x : Trp => x.1) ∘ fun k => (k, f k)) = id from rfl, List.map_id]
    exact List.mem_range
theorem frC_fst (T : CT) : (frC T).map Prod.fst = T.map Prod.fst := by unfold frC; rw [List.map_map]; rfl
def CsOk (C : Cst) : Prop := C.length ≤ 8 ∧ ∀ r ∈ C, r.2.length ≤ 24
theorem frC_ok {T : CT} (h : CtOk T) : CsOk (frC T) := ⟨by unfold frC; rw [List.length_map]; exact h.1, fun r hr => by
  obtain ⟨p, hp, rfl⟩ := List.mem_map.1 hr
  have := (h.2.2 p hp).1
  simpa using this⟩
def crE (r : List (Str × Int)) : D := tbE (r.map fun x => (x.1, .int x.2))
def csE (C : Cst) : D := tbE (C.map fun r => (r.1, crE r.2))
theorem law_free_eq {T : CT} (hT : T.length ≤ 1000) : d_law_free [ctE T] = .ok (csE (frC T)) := by
  have ci := ct_items T
  have e : csE (frC T) = .tuple (T.map fun p => kvE (p.1, crE (p.2.map fun z => (z, 0)))) := by
    unfold csE tbE frC
    rw [List.map_map, List.map_map]; rfl
  rw [e, d_law_free]
  refine run_eq ?_
  generalize ctE T = TE at *
  row_walk
  refine ws_forE (fun p : Str × List Str => kvE (p.1, .tuple (p.2.map .str))) T (fun rest ρ => ∃ (a : CT) (o2 o3 : Option D), a ++ rest = T ∧ ρ = [some TE, some (.list (a.map fun p => kvE (p.1, crE (p.2.map fun z => (z, 0))))), o2, o3, none]) (by wp_walk using ci) ⟨[], _, _, rfl, rfl⟩ ?_ ?_
  · rintro p rest _ ⟨a, o2, o3, ha, rfl⟩
    have hl : a.length < T.length := by rw [← ha]; simp
    refine ⟨_, unp_kv 2 3 _ _, ?_⟩
    have it : ∀ x1 x2 : Option D, eComp [4] (gN 4) (iVal (eVar 3)) tTrue (eTup (aCons (eVar 4) (aCons (eC (.int 0)) aNil))) [some TE, x1, x2, some (.tuple (p.2.map .str)), none] = .ok (.list (p.2.map fun z => .tuple [.str z, .int 0])) := by
      intros
      exact eComp_map .str (fun z => .tuple [.str z, .int 0]) p.2 (by wp_walk) fun z _ => ⟨_, rfl, by wp_walk⟩
    wp_walk using it
    refine ⟨by omega, a ++ [p], some (.str p.1), some (.tuple (p.2.map .str)), by rw [List.append_assoc]; exact ha, ?_⟩
    rw [List.map_append]
    refine congrArg (fun l => [some TE, some (PyData.list l), some (.str p.1), some (.tuple (p.2.map .str)), none]) ?_
    refine congrArg _ ?_
    simp only [List.map_cons, List.map_nil, kvE, crE, tbE, List.map_map]
    rfl
  · rintro _ ⟨a, o2, o3, ha, rfl⟩
    rw [List.append_nil] at ha
    subst ha
    wp_walk
/-- what is to be had for a set of joints: the old one, or one with the part p at a joint more -/
def Cand (L : List (Option (List Trp))) (p : Str) (done : List (Nat × Nat × Int)) (mask : Nat) (m : List Trp) : Prop :=
  L.getD mask none = some m ∨ ∃ d ∈ done, mask = d.1 + 2 ^ d.2.1 ∧ d.1 / 2 ^ d.2.1 % 2 = 0 ∧ ∃ m0, L.getD d.1 none = some m0 ∧ m = m0 ++ [(d.2.1, p, d.2.2)]
def BestC (L : List (Option (List Trp))) (p : Str) (done : List (Nat × Nat × Int)) (mask : Nat) : Option (List Trp) → Prop
  | none => ∀ m, ¬ Cand L p done mask m
  | some m => Cand L p done mask m ∧ ∀ m', Cand L p done mask m' → sumT m ≤ sumT m'
def BestM (C : Cst) (S : Str → Prop) (mask : Nat) : Option (List Trp) → Prop
  | none => ∀ m, ¬ MT C S mask m
  | some m => MT C S mask m ∧ ∀ m', MT C S mask m' → sumT m ≤ sumT m'
abbrev Ent := Option (List Trp)
theorem cand_mono {L : List (Option (List Trp))} {p : Str} {done : List (Nat × Nat × Int)} {mask : Nat} {m : List Trp} (d : List (Nat × Nat × Int)) (h : Cand L p done mask m) : Cand L p (done ++ d) mask m := by
  rcases h with h | ⟨x, hx, h⟩
  · exact .inl h
  · exact .inr ⟨x, List.mem_append_left _ hx, h⟩
theorem sumT_snoc (m : List Trp) (x : Trp) : sumT (m ++ [x]) = sumT m + x.2.2 := by simp [sumT]
theorem bestC_add {L : List (Option (List Trp))} {p : Str} {done : List (Nat × Nat × Int)} {mask k : Nat} {c : Int} {o : Option (List Trp)} {m0 : List Trp} (h : BestC L p done (mask + 2 ^ k) o) (hb : mask / 2 ^ k % 2 = 0) (h0 : L.getD mask none = some m0) :
    (∀ m, o = some m → sumT m ≤ sumT m0 + c → BestC L p (done ++ [(mask, k, c)]) (mask + 2 ^ k) o) ∧ ((∀ m, o = some m → sumT m0 + c ≤ sumT m) → BestC L p (done ++ [(mask, k, c)]) (mask + 2 ^ k) (some (m0 ++ [(k, p, c)]))) := by
  have back : ∀ m, Cand L p (done ++ [(mask, k, c)]) (mask + 2 ^ k) m → Cand L p done (mask + 2 ^ k) m ∨ sumT m = sumT m0 + c := fun m hm => by
    rcases hm with g | ⟨x, hx, g1, g2, m1, g3, g4⟩
    · exact .inl (.inl g)
    · rcases List.mem_append.1 hx with hx | hx
      · exact .inl (.inr ⟨x, hx, g1, g2, m1, g3, g4⟩)
      · rw [List.mem_singleton.1 hx] at g3 g4
        rw [h0] at g3
        cases g3
        exact .inr (by rw [g4, sumT_snoc])
  have hnew : Cand L p (done ++ [(mask, k, c)]) (mask + 2 ^ k) (m0 ++ [(k, p, c)]) := .inr ⟨(mask, k, c), by simp, rfl, hb, m0, h0, rfl⟩
  refine ⟨fun m e hs => ?_, fun hs => ⟨hnew, fun m' hm => ?_⟩⟩
  · subst e
    refine ⟨cand_mono _ h.1, fun m' hm => ?_⟩
    rcases back m' hm with g | g
    · exact h.2 m' g
    · omega
  · rw [sumT_snoc]
    rcases back m' hm with g | g
    · cases o with
      | none => exact (h m' g).elim
      | some m =>
        have h1 := h.2 m' g
        have h2 := hs m rfl
        show sumT m0 + c ≤ _
        omega
    · show sumT m0 + c ≤ _
      omega
/-- an entry that gives nothing new for this set -/
theorem bestC_skip {L : List (Option (List Trp))} {p : Str} {done : List (Nat × Nat × Int)} {mask : Nat} {o : Option (List Trp)} {ds : List (Nat × Nat × Int)} (h : BestC L p done mask o) (hn : ∀ d ∈ ds, mask ≠ d.1 + 2 ^ d.2.1 ∨ d.1 / 2 ^ d.2.1 % 2 = 1 ∨ L.getD d.1 none = none) : BestC L p (done ++ ds) mask o := by
  have back : ∀ m, Cand L p (done ++ ds) mask m → Cand L p done mask m := fun m hm => by
    rcases hm with g | ⟨x, hx, g1, g2, m0, g3, g4⟩
    · exact .inl g
    · rcases List.mem_append.1 hx with hx | hx
      · exact .inr ⟨x, hx, g1, g2, m0, g3, g4⟩
      · rcases hn x hx with g | g | g
        · exact (g g1).elim
        · omega
        · rw [g] at g3; cases g3
  cases o with
  | none => exact fun m hm => h m (back m hm)
  | some m => exact ⟨cand_mono ds h.1, fun m' hm => h.2 m' (back m' hm)⟩
theorem bits_nz : ∀ x, x < 256 → 0 < x → ∃ i, i < 8 ∧ x / 2 ^ i % 2 = 1 := by decide +kernel
theorem best_0 {C : Cst} {n : Nat} (hn : n ≤ 8) {mask : Nat} (hm : mask < 2 ^ n) : BestM C (fun _ => False) mask (((List.replicate (2 ^ n) none).set 0 (some [])).getD mask none) := by
  have h256 : mask < 256 := by
    have : 2 ^ n ≤ 2 ^ 8 := Nat.pow_le_pow_right (by decide) (by omega)
    omega
  by_cases h0 : mask = 0
  · subst h0
    have e : ((List.replicate (2 ^ n) (none : Option (List Trp))).set 0 (some [])).getD 0 none = some [] := by
      have := Nat.two_pow_pos n
      simp [List.getD, this]
    rw [e]
    refine ⟨⟨by simp, by simp, by simp, by simp, fun k hk => by simp⟩, fun m' h => ?_⟩
    cases m' with
    | nil => exact Int.le_refl _
    | cons x m' => exact (h.inS x (by simp)).elim
  · have e : ((List.replicate (2 ^ n) (none : Option (List Trp))).set 0 (some [])).getD mask none = none := by
      simp [List.getD, List.getElem?_set, show ¬ 0 = mask by omega, hm]
    rw [e]
    intro m h
    obtain ⟨i, hi, hb⟩ := bits_nz mask h256 (by omega)
    obtain ⟨x, hx, _⟩ := List.mem_map.1 ((h.bits i hi).2 hb)
    exact h.inS x hx
theorem perm_sumI {l m : List Int} (h : l.Perm m) : l.sum = m.sum := by
  induction h with
  | nil => rfl
  | cons x _ ih => simp [ih]
  | swap x y l => simp only [List.sum_cons]; omega
  | trans _ _ a b => exact a.trans b
theorem sumT_perm {m m' : List Trp} (p : m.Perm m') : sumT m = sumT m' := perm_sumI (p.map _)
theorem bits_setB : ((List.range 256).all fun x => (List.range 8).all fun i => (List.range 8).all fun j => (x / 2 ^ i % 2 != 0) || (((x + 2 ^ i) / 2 ^ j % 2 == 1) == (j == i || x / 2 ^ j % 2 == 1))) = true := by decide +kernel
theorem bits_set (x : Nat) (hx : x < 256) (i : Nat) (hi : i < 8) (j : Nat) (hj : j < 8) (h : x / 2 ^ i % 2 = 0) : ((x + 2 ^ i) / 2 ^ j % 2 = 1 ↔ (j = i ∨ x / 2 ^ j % 2 = 1)) := by
  have := List.all_eq_true.1 (List.all_eq_true.1 (List.all_eq_true.1 bits_setB x (List.mem_range.2 hx)) i (List.mem_range.2 hi)) j (List.mem_range.2 hj)
  rw [h] at this
  simp only [bne_self_eq_false, Bool.false_or, beq_iff_eq] at this
  have := congrArg (fun b => b = true) this
  simpa using this
theorem rowC_lt {C : Cst} {k : Nat} {x : Str × Int} (h : x ∈ rowK C k) : k < C.length := by
  unfold rowK at h
  by_cases hk : k < C.length
  · exact hk
  · simp [List.getD, List.getElem?_eq_none (show C.length ≤ k by omega)] at h
theorem MT.add {C : Cst} {S : Str → Prop} {mask : Nat} {m : List Trp} {k : Nat} {p : Str} {c : Int} (h : MT C S mask m) (hC : C.length ≤ 8) (hm : mask < 256) (hb : mask / 2 ^ k % 2 = 0) (hr : (p, c) ∈ rowK C k) (hp : ¬ S p) : MT C (fun z => S z ∨ z = p) (mask + 2 ^ k) (m ++ [(k, p, c)]) := by
  have hk := rowC_lt hr
  refine ⟨fun x hx => ?_, fun x hx => ?_, ?_, ?_, fun j hj => ?_⟩
  · rcases List.mem_append.1 hx with g | g
    · exact h.has x g
    · rw [List.mem_singleton.1 g]; exact hr
  · rcases List.mem_append.1 hx with g | g
    · exact .inl (h.inS x g)
    · rw [List.mem_singleton.1 g]; exact .inr rfl
  · rw [List.map_append]
    refine nodup_snoc.2 ⟨h.ks, fun hc => ?_⟩
    have := (h.bits k (by omega)).1 hc
    omega
  · rw [List.map_append]
    refine nodup_snoc.2 ⟨h.ps, fun hc => ?_⟩
    obtain ⟨x, hx, e⟩ := List.mem_map.1 hc
    exact hp (by have := h.inS x hx; rw [e] at this; exact this)
  · rw [bits_set mask hm k (by omega) j hj hb, List.map_append, List.mem_append, h.bits j hj]
    simp [or_comm]
theorem bits_clr : ∀ x, x < 256 → ∀ i, i < 8 → x / 2 ^ i % 2 = 1 → 2 ^ i ≤ x ∧ (x - 2 ^ i) / 2 ^ i % 2 = 0 := by decide +kernel
theorem MT.del {C : Cst} {S : Str → Prop} {mask : Nat} {m : List Trp} {k : Nat} {p : Str} {c : Int} (h : MT C (fun z => S z ∨ z = p) mask ((k, p, c) :: m)) (hC : C.length ≤ 8) (hm : mask < 256) : mask / 2 ^ k % 2 = 1 ∧ 2 ^ k ≤ mask ∧ (mask - 2 ^ k) / 2 ^ k % 2 = 0 ∧ (p, c) ∈ rowK C k ∧ MT C S (mask - 2 ^ k) m := by
  have hr := h.has _ (List.mem_cons_self ..)
  have hk := rowC_lt hr
  have hk8 : k < 8 := by simp only at hk; omega
  have hb := (h.bits k hk8).1 (by simp)
  obtain ⟨b1, b2⟩ := bits_clr mask hm k hk8 hb
  have ks := h.ks
  have ps := h.ps
  rw [List.map_cons, List.nodup_cons] at ks ps
  have tp := Nat.two_pow_pos k
  refine ⟨hb, b1, b2, hr, fun x hx => h.has x (by simp [hx]), fun x hx => ?_, ks.2, ps.2, fun j hj => ?_⟩
  · rcases h.inS x (by simp [hx]) with g | g
    · exact g
    · exact (ps.1 (List.mem_map.2 ⟨x, hx, g⟩)).elim
  · have hs := bits_set (mask - 2 ^ k) (by omega) k hk8 j hj b2
    rw [show mask - 2 ^ k + 2 ^ k = mask by omega] at hs
    have hb2 := h.bits j hj
    rw [List.map_cons, List.mem_cons] at hb2
    by_cases e : j = k
    · subst e
      constructor
      · intro hc; exact (ks.1 hc).elim
      · intro hc; omega
    · constructor
      · intro hc
        rcases hs.1 (hb2.1 (.inr hc)) with g | g
        · exact (e g).elim
        · exact g
      · intro hc
        rcases hb2.2 (hs.2 (.inr hc)) with g | g
        · exact (e g).elim
        · exact g
theorem MT.mono {C : Cst} {S S' : Str → Prop} {mask : Nat} {m : List Trp} (h : MT C S mask m) (hS : ∀ x ∈ m, S' x.2.1) : MT C S' mask m := ⟨h.has, hS, h.ks, h.ps, h.bits⟩
theorem MT.perm {C : Cst} {S : Str → Prop} {mask : Nat} {m m' : List Trp} (h : MT C S mask m) (p : m.Perm m') : MT C S mask m' :=
  ⟨fun x hx => h.has x (p.mem_iff.2 hx), fun x hx => h.inS x (p.mem_iff.2 hx), (p.map _).nodup_iff.1 h.ks, (p.map _).nodup_iff.1 h.ps, fun k hk => by rw [← h.bits k hk]; exact ((p.map _).mem_iff).symm⟩
/-- a part more -/
theorem best_step {C : Cst} {S : Str → Prop} {L : List (Option (List Trp))} {p : Str} {n : Nat} {done : List (Nat × Nat × Int)} (hC : C.length ≤ 8) (hn : n = C.length) (hp : ¬ S p) (hB : ∀ mask, mask < 2 ^ n → BestM C S mask (L.getD mask none))
    (hd : ∀ mask, mask < 2 ^ n → ∀ k c, (p, c) ∈ rowK C k → (mask, k, c) ∈ done) (hd2 : ∀ d ∈ done, d.1 < 2 ^ n ∧ (p, d.2.2) ∈ rowK C d.2.1) {mask : Nat} (hm : mask < 2 ^ n) {o : Option (List Trp)} (h : BestC L p done mask o) : BestM C (fun z => S z ∨ z = p) mask o := by
  have h256 : ∀ x, x < 2 ^ n → x < 256 := fun x hx => by
    have : 2 ^ n ≤ 2 ^ 8 := Nat.pow_le_pow_right (by decide) (by omega)
    omega
  have sound : ∀ m, Cand L p done mask m → MT C (fun z => S z ∨ z = p) mask m := fun m hc => by
    rcases hc with g | ⟨d, hx, g1, g2, m0, g3, g4⟩
    · have := hB mask hm
      rw [g] at this
      exact this.1.mono fun x hx => .inl (this.1.inS x hx)
    · obtain ⟨d1, d2⟩ := hd2 d hx
      have := hB d.1 d1
      rw [g3] at this
      rw [g1, g4]
      exact this.1.add hC (h256 _ d1) g2 d2 hp
  have all : ∀ m', MT C (fun z => S z ∨ z = p) mask m' → ∃ m, Cand L p done mask m ∧ sumT m ≤ sumT m' := fun m' hm' => by
    by_cases hx : p ∈ m'.map fun x => x.2.1
    · obtain ⟨⟨k, p', c⟩, hx', e⟩ := List.mem_map.1 hx
      clear hx
      simp only at e
      subst e
      have pm := List.perm_cons_erase hx'
      have tp := Nat.two_pow_pos k
      obtain ⟨a1, a2, a3, a4, a5⟩ := (hm'.perm pm).del hC (h256 _ hm)
      have hlt : mask - 2 ^ k < 2 ^ n := by omega
      have hb := hB _ hlt
      have e2 : mask = mask - 2 ^ k + 2 ^ k := by omega
      cases e0 : L.getD (mask - 2 ^ k) none with
      | none => rw [e0] at hb; exact (hb _ a5).elim
      | some m0 =>
        rw [e0] at hb
        refine ⟨m0 ++ [(k, p', c)], .inr ⟨(mask - 2 ^ k, k, c), hd _ hlt k c a4, e2, a3, m0, e0, rfl⟩, ?_⟩
        have h1 := hb.2 _ a5
        have h2 := sumT_perm pm
        have h3 : sumT ((k, p', c) :: m'.erase (k, p', c)) = c + sumT (m'.erase (k, p', c)) := by simp [sumT]
        rw [sumT_snoc]
        show sumT m0 + c ≤ _
        omega
    · have h1 : MT C S mask m' := hm'.mono fun x hx' => by
        rcases hm'.inS x hx' with g | g
        · exact g
        · exact (hx (List.mem_map.2 ⟨x, hx', g⟩)).elim
      have hb := hB mask hm
      cases e0 : L.getD mask none with
      | none => rw [e0] at hb; exact (hb _ h1).elim
      | some m0 =>
        rw [e0] at hb
        exact ⟨m0, .inl e0, hb.2 _ h1⟩
  cases o with
  | none =>
    intro m' hm'
    obtain ⟨m, h1, _⟩ := all m' hm'
    exact h m h1
  | some m =>
    refine ⟨sound m h.1, fun m' hm' => ?_⟩
    obtain ⟨m1, h1, h2⟩ := all m' hm'
    exact Int.le_trans (h.2 m1 h1) h2
theorem bits_lt : ∀ n, n < 9 → ∀ x, x < 2 ^ n → ∀ i, i < n → x / 2 ^ i % 2 = 0 → x + 2 ^ i < 2 ^ n := by decide +kernel
theorem cand_nil {L : List (Option (List Trp))} {p : Str} {mask : Nat} : BestC L p [] mask (L.getD mask none) := by
  cases e : L.getD mask none with
  | none =>
    rintro m (h | ⟨d, hd, _⟩)
    · rw [e] at h; cases h
    · cases hd
  | some m =>
    refine ⟨.inl e, fun m' h => ?_⟩
    rcases h with h | ⟨d, hd, _⟩
    · rw [e] at h; cases h; exact Int.le_refl _
    · cases hd
theorem cs_idx {C : Cst} {k : Nat} (h : k < C.length) : vIdx (csE C) (.int (k : Nat)) = some (kvE (nmC C k, crE (rowK C k))) := by
  unfold csE tbE
  rw [List.map_map]
  rw [idxTM (kvE ∘ fun r : Str × List (Str × Int) => (r.1, crE r.2)) (⟨#[]⟩, []) h]
  rfl
theorem cs_items (C : Cst) : itemsD (csE C) = some (C.map fun r => kvE (r.1, crE r.2)) := by
  unfold csE; rw [items_tb, List.map_map]; rfl
theorem cs_len (C : Cst) : vLen (csE C) = some (.int (C.length : Nat)) := by unfold csE; rw [len_tb, List.length_map]
def tkC (C : Cst) (p : Str) : List (Nat × Int) := (List.range C.length).flatMap fun k => ((rowK C k).filter fun x => decide (x.1 = p)).map fun x => (k, x.2)
def doneK (C : Cst) (p : Str) (k : Nat) : List (Nat × Nat × Int) := (List.range k).flatMap fun mask => (tkC C p).map fun t => (mask, t.1, t.2)
theorem doneK_succ (C : Cst) (p : Str) (k : Nat) : doneK C p (k + 1) = doneK C p k ++ (tkC C p).map fun t => (k, t.1, t.2) := by
  unfold doneK
  rw [List.range_succ, List.flatMap_append]
  simp
theorem getD_set {α : Type} (l : List α) (i j : Nat) (a d : α) (h : i < l.length) : (l.set i a).getD j d = if i = j then a else l.getD j d := by
  simp only [List.getD, List.getElem?_set]
  split
  · simp
  · rfl
theorem row_len {C : Cst} (h : CsOk C) (k : Nat) : (rowK C k).length ≤ 24 := by
  unfold rowK
  by_cases hk : k < C.length
  · have hm : C.getD k (⟨#[]⟩, []) ∈ C := by simp [List.getD, hk]
    exact h.2 _ hm
  · simp [List.getD, List.getElem?_eq_none (show C.length ≤ k by omega)]
theorem rw_items (r : List (Str × Int)) : itemsD (crE r) = some (r.map fun x => kvE (x.1, .int x.2)) := by
  unfold crE; rw [items_tb, List.map_map]; rfl
def tkrE (t : Nat × Int) : D := .tuple [.int (t.1 : Nat), .int t.2]
theorem law_takers_eq {C : Cst} (hC : CsOk C) (p : Str) : d_law_takers [csE C, .str p] = .ok (.list ((tkC C p).map tkrE)) := by
  have vl := cs_len C
  have ci := fun k (h : k < C.length) => cs_idx (C := C) h
  rw [d_law_takers]
  refine run_eq ?_
  generalize csE C = CE at *
  row_walk
  refine ws_mid (fun ρ => ∃ o3 o4 o5 : Option D, ρ = [some CE, some (.str p), some (.list ((tkC C p).map tkrE)), o3, o4, o5]) ?_ ?_
  · refine ws_rng C.length (fun k ρ => ∃ (F : List (Nat × Int)) (o3 o4 o5 : Option D), ρ = [some CE, some (.str p), some (.list (F.map tkrE)), o3, o4, o5] ∧ F.length ≤ 24 * k ∧ F = (List.range k).flatMap fun k => ((rowK C k).filter fun x => decide (x.1 = p)).map fun x => (k, x.2)) (iR1_nat (by wp_walk using vl) (by have := hC.1; omega)) ⟨[], _, _, _, rfl, by simp, by simp⟩ ?_ ?_
    · rintro k hk _ ⟨F, o3, o4, o5, rfl, hl, hF⟩
      have hi := ci k hk
      have hrl := row_len hC k
      have h8 := hC.1
      have ri := rw_items (rowK C k)
      refine ⟨_, rfl, ?_⟩
      row_walk
      refine ws_mid (fun ρ => ∃ (G : List (Nat × Int)) (o4 o5 : Option D), ρ = [some CE, some (.str p), some (.list (G.map tkrE)), some (.int (k : Nat)), o4, o5] ∧ G.length ≤ 24 * k + 24 ∧ G = F ++ ((rowK C k).filter fun x => decide (x.1 = p)).map fun x => (k, x.2)) ?_ ?_
      · refine ws_forE (fun x : Str × Int => kvE (x.1, .int x.2)) (rowK C k) (fun rest ρ => ∃ (G : List (Nat × Int)) (o4 o5 : Option D), ρ = [some CE, some (.str p), some (.list (G.map tkrE)), some (.int (k : Nat)), o4, o5] ∧ G.length + rest.length ≤ 24 * k + 24 ∧ G ++ (rest.filter fun x => decide (x.1 = p)).map (fun x => (k, x.2)) = F ++ ((rowK C k).filter fun x => decide (x.1 = p)).map fun x => (k, x.2)) (by wp_walk using hi, kvE_1, ri) ⟨F, _, _, rfl, by omega, rfl⟩ ?_ ?_
        · rintro x rest _ ⟨G, o4, o5, rfl, g1, g2⟩
          simp only [List.length_cons] at g1
          refine ⟨_, unp_kv 4 5 _ _, ?_⟩
          by_cases hx : x.1 = p
          · have hx' : (x.1 = p) = True := eq_true hx
            wp_walk using hx'
            refine ⟨by omega, G ++ [(k, x.2)], _, _, by rw [List.map_append]; rfl, by simp; omega, ?_⟩
            rw [← g2, List.filter_cons_of_pos (by simpa using hx), List.map_cons, List.append_assoc]; rfl
          · wp_walk using hx
            refine ⟨G, _, _, rfl, by omega, ?_⟩
            rw [← g2, List.filter_cons_of_neg (by simpa using hx)]
        · rintro _ ⟨G, o4, o5, rfl, g1, g2⟩
          exact ⟨G, _, _, rfl, by simpa using g1, by simpa using g2⟩
      · rintro _ ⟨G, o4, o5, rfl, g1, g2⟩
        refine ws_skip ⟨G, _, _, _, rfl, by omega, ?_⟩
        rw [g2, hF, List.range_succ, List.flatMap_append]
        simp
    · rintro _ ⟨F, o3, o4, o5, rfl, hl, hF⟩
      exact ⟨o3, o4, o5, by rw [hF]; rfl⟩
  rintro _ ⟨o3, o4, o5, rfl⟩
  wp_walk
theorem mem_tkC {C : Cst} {p : Str} {k : Nat} {c : Int} : (k, c) ∈ tkC C p ↔ (p, c) ∈ rowK C k := by
  unfold tkC
  rw [List.mem_flatMap]
  constructor
  · rintro ⟨j, hj, h⟩
    obtain ⟨x, hx, e⟩ := List.mem_map.1 h
    obtain ⟨h1, h2⟩ := List.mem_filter.1 hx
    cases e
    have h2 := of_decide_eq_true h2
    obtain ⟨y, d⟩ := x
    simp only at h2
    subst h2
    exact h1
  · intro h
    exact ⟨k, List.mem_range.2 (rowC_lt h), List.mem_map.2 ⟨(p, c), List.mem_filter.2 ⟨h, by simp⟩, rfl⟩⟩
theorem pw_at {j : Nat} (h : j < 9) : vIdx (.list [.int 1, .int 2, .int 4, .int 8, .int 16, .int 32, .int 64, .int 128, .int 256]) (.int (j : Nat)) = some (.int ((2 ^ j : Nat) : Int)) := by
  match j, h with
  | 0, _ => rfl
  | 1, _ => rfl
  | 2, _ => rfl
  | 3, _ => rfl
  | 4, _ => rfl
  | 5, _ => rfl
  | 6, _ => rfl
  | 7, _ => rfl
  | 8, _ => rfl
theorem storeD_nat {ds : List D} {k : Nat} (h : k < ds.length) (v : D) : storeD (.list ds) (.int (k : Nat)) v = some (.list (ds.set k v)) := by
  show (L2.ixN ds.length (k : Int)).map (fun n => PyData.list (ds.set n v)) = _
  unfold L2.ixN
  rw [if_pos (by omega), if_pos (by omega)]
  simp
theorem vSortR_strs (l : List Str) : vSortR (.list (l.map .str)) = some (.list ((sortSR l).map .str)) := by
  show (allStr (l.map .str)).bind _ = _
  rw [allStr_map]; rfl
theorem ws_move {i j : Nat} {ρ : Lo} {v : D} {N : Lo → Prop} {R : D → Prop} {B C : Lo → Prop} (h : ρ[j]? = some (some v)) (hN : N ((ρ.set i (some v)).set j none)) : WS (sMove i j ρ) N R B C := by
  refine ⟨?_⟩
  unfold sMove
  rw [h]
  exact hN
theorem MT.len {C : Cst} {S : Str → Prop} {mask : Nat} {m : List Trp} (h : MT C S mask m) : m.length ≤ C.length := by
  have := len_le_of (m := List.range C.length) h.ks fun k hk => by
    obtain ⟨x, hx, rfl⟩ := List.mem_map.1 hk
    exact List.mem_range.2 (rowC_lt (h.has x hx))
  simpa using this
theorem law_least_2_eq {C : Cst} (hC : CsOk C) : ∃ L : List Ent, d_law_least_2 [csE C] = .ok (.list (L.map (enE C))) ∧ L.length = 2 ^ C.length ∧ ∀ mask, mask < 2 ^ C.length → BestM C (fun _ => True) mask (L.getD mask none) := by
  suffices h : ∃ v, d_law_least_2 [csE C] = .ok v ∧ ∃ L : List Ent, v = .list (L.map (enE C)) ∧ L.length = 2 ^ C.length ∧ ∀ mask, mask < 2 ^ C.length → BestM C (fun _ => True) mask (L.getD mask none) by
    obtain ⟨v, e, L, rfl, h⟩ := h
    exact ⟨L, e, h⟩
  have vl := cs_len C
  have ci := fun k (h : k < C.length) => cs_idx (C := C) h
  have cit := cs_items C
  have etk := fun p => law_takers_eq hC p
  obtain ⟨h8, h24⟩ := hC
  have hC : CsOk C := ⟨h8, h24⟩
  have hpw : 2 ^ C.length ≤ 2 ^ 8 := Nat.pow_le_pow_right (by decide) h8
  have hpos := Nat.two_pow_pos C.length
  have pw := fun j (h : j < 9) => pw_at h
  rw [d_law_least_2]
  refine run_ws ?_
  generalize csE C = CE at *
  obtain ⟨PW, hPW⟩ : ∃ x : D, x = .list [.int 1, .int 2, .int 4, .int 8, .int 16, .int 32, .int 64, .int 128, .int 256] := ⟨_, rfl⟩
  rw [← hPW] at pw
  have pwn := pw C.length (by omega)
  row_walk
  rw [← hPW]
  obtain ⟨L0, hL0⟩ : ∃ L0 : List Ent, L0 = (List.replicate (2 ^ C.length) none).set 0 (some []) := ⟨_, rfl⟩
  have it : eComp [11] (gN 11) (iR1 true (eBin vIdx (eVar 1) (eUn vLen (eVar 0)))) tTrue (eC .none) [some CE, some PW, none, none, none, none, none, none, none, none, none, none, none, none] = .ok (.list ((List.replicate (2 ^ C.length) (none : Ent)).map (enE C))) := by
    have := eComp_map (vs := [11]) (g := gN 11) (it := iR1 true (eBin vIdx (eVar 1) (eUn vLen (eVar 0)))) (e := eC .none) (ρ := [some CE, some PW, none, none, none, none, none, none, none, none, none, none, none, none]) (fun i : Nat => .int (i : Nat)) (fun _ => .none) (List.range (2 ^ C.length)) (iR1_nat (n := 2 ^ C.length) (by wp_walk using vl, pwn) (by omega)) fun k _ => ⟨_, rfl, rfl⟩
    rw [this]
    refine congrArg (fun l => Res.ok (PyData.list l)) ?_
    rw [List.map_const', List.length_range, List.map_replicate]; rfl
  have st0 : storeD (.list ((List.replicate (2 ^ C.length) (none : Ent)).map (enE C))) (.int 0) (.tuple [.int 0, .tuple []]) = some (.list (L0.map (enE C))) := by
    have := storeD_nat (ds := (List.replicate (2 ^ C.length) (none : Ent)).map (enE C)) (k := 0) (by simpa using hpos) (.tuple [.int 0, .tuple []])
    simp only [Int.cast_ofNat_Int] at this
    rw [this, hL0, List.map_set]; rfl
  have l0 : L0.length = 2 ^ C.length := by rw [hL0]; simp
  have b0 : ∀ mask, mask < 2 ^ C.length → BestM C (fun _ => False) mask (L0.getD mask none) := fun mask hm => by
    rw [hL0]
    exact best_0 h8 hm
  clear hL0
  row_walk with [it, st0]
  -- the parts
  refine ws_mid (fun ρ => ∃ (PL : List Str) (o4 o5 o6 o7 : Option D), ρ = [some CE, some PW, some (.list (L0.map (enE C))), some (.list (PL.map .str)), o4, o5, o6, o7, none, none, none, none, none, none] ∧ PL.Nodup ∧ ∀ r ∈ C, ∀ x ∈ r.2, x.1 ∈ PL) ?_ ?_
  · refine ws_forE (fun r : Str × List (Str × Int) => kvE (r.1, crE r.2)) C (fun rest ρ => ∃ (PL : List Str) (o4 o5 o6 o7 : Option D), ρ = [some CE, some PW, some (.list (L0.map (enE C))), some (.list (PL.map .str)), o4, o5, o6, o7, none, none, none, none, none, none] ∧ PL.Nodup ∧ PL.length + 24 * rest.length ≤ 192 ∧ (∀ r ∈ rest, r ∈ C) ∧ ∀ r ∈ C, r ∈ rest ∨ ∀ x ∈ r.2, x.1 ∈ PL) (by wp_walk using cit) ⟨[], _, _, _, _, rfl, .nil, by simp; omega, fun r h => h, fun r h => .inl h⟩ ?_ ?_
    · rintro r rest _ ⟨PL, o4, o5, o6, o7, rfl, hn, hl, hr, hp⟩
      have hrC := hr r (by simp)
      have hrl := h24 r hrC
      have ri := rw_items r.2
      simp only [List.length_cons] at hl
      refine ⟨_, unp_kv 4 5 _ _, ?_⟩
      row_walk
      refine ws_mid (fun ρ => ∃ (QL : List Str) (o6 o7 : Option D), ρ = [some CE, some PW, some (.list (L0.map (enE C))), some (.list (QL.map .str)), some (.str r.1), some (crE r.2), o6, o7, none, none, none, none, none, none] ∧ QL.Nodup ∧ QL.length ≤ PL.length + r.2.length ∧ (∀ z ∈ PL, z ∈ QL) ∧ ∀ x ∈ r.2, x.1 ∈ QL) ?_ ?_
      · refine ws_forE (fun x : Str × Int => kvE (x.1, .int x.2)) r.2 (fun rs ρ => ∃ (QL : List Str) (o6 o7 : Option D), ρ = [some CE, some PW, some (.list (L0.map (enE C))), some (.list (QL.map .str)), some (.str r.1), some (crE r.2), o6, o7, none, none, none, none, none, none] ∧ QL.Nodup ∧ QL.length + rs.length ≤ PL.length + r.2.length ∧ (∀ z ∈ PL, z ∈ QL) ∧ ∀ x ∈ r.2, x ∈ rs ∨ x.1 ∈ QL) (by wp_walk using ri) ⟨PL, _, _, rfl, hn, Nat.le_refl _, fun z h => h, fun x h => .inl h⟩ ?_ ?_
        · rintro x rs _ ⟨QL, o6, o7, rfl, qn, ql, q1, q2⟩
          simp only [List.length_cons] at ql
          have vn := vNotIn_strL x.1 QL
          refine ⟨_, unp_kv 6 7 _ _, ?_⟩
          by_cases hx : x.1 ∈ QL
          · wp_walk using vn, hx
            refine ⟨QL, _, _, rfl, qn, by omega, q1, fun y hy => ?_⟩
            rcases q2 y hy with g | g
            · rcases List.mem_cons.1 g with rfl | g
              · exact .inr hx
              · exact .inl g
            · exact .inr g
          · wp_walk using vn, hx
            refine ⟨by omega, QL ++ [x.1], _, _, by rw [List.map_append]; rfl, nodup_snoc.2 ⟨qn, hx⟩, by simp; omega, fun z hz => List.mem_append_left _ (q1 z hz), fun y hy => ?_⟩
            rcases q2 y hy with g | g
            · rcases List.mem_cons.1 g with rfl | g
              · exact .inr (by simp)
              · exact .inl g
            · exact .inr (List.mem_append_left _ g)
        · rintro _ ⟨QL, o6, o7, rfl, qn, ql, q1, q2⟩
          exact ⟨QL, _, _, rfl, qn, by simpa using ql, q1, fun x hx => by
            rcases q2 x hx with g | g
            · cases g
            · exact g⟩
      · rintro _ ⟨QL, o6, o7, rfl, qn, ql, q1, q2⟩
        refine ws_skip ⟨QL, _, _, _, _, rfl, qn, by omega, fun y hy => hr y (by simp [hy]), fun y hy => ?_⟩
        rcases hp y hy with g | g
        · rcases List.mem_cons.1 g with rfl | g
          · exact .inr q2
          · exact .inl g
        · exact .inr fun x hx => q1 _ (g x hx)
    · rintro _ ⟨PL, o4, o5, o6, o7, rfl, hn, _, _, hp⟩
      exact ⟨PL, _, _, _, _, rfl, hn, fun r hr => by
        rcases hp r hr with g | g
        · cases g
        · exact g⟩
  rintro _ ⟨PL, o4, o5, o6, o7, rfl, hn, hall⟩
  have vsr := vSortR_strs PL
  have pm := sortSR_perm PL
  have hnQ : (sortSR PL).Nodup := pm.nodup_iff.2 hn
  generalize sortSR PL = Q at vsr pm hnQ
  row_walk
  refine ws_mid (fun ρ => ∃ (L : List Ent) (o6 o7 o8 o9 o10 o11 o12 o13 : Option D), ρ = [some CE, some PW, some (.list (L.map (enE C))), some (.list (PL.map .str)), o4, o5, o6, o7, o8, o9, o10, o11, o12, o13] ∧ L.length = 2 ^ C.length ∧ ∀ mask, mask < 2 ^ C.length → BestM C (fun z => z ∈ Q) mask (L.getD mask none)) ?_ ?_
  · refine ws_forE .str Q (fun rest ρ => ∃ (a : List Str) (L : List Ent) (o6 o7 o8 o9 o10 o11 o12 o13 : Option D), a ++ rest = Q ∧ ρ = [some CE, some PW, some (.list (L.map (enE C))), some (.list (PL.map .str)), o4, o5, o6, o7, o8, o9, o10, o11, o12, o13] ∧ L.length = 2 ^ C.length ∧ ∀ mask, mask < 2 ^ C.length → BestM C (fun z => z ∈ a) mask (L.getD mask none)) (by wp_walk using vsr) ⟨[], L0, _, _, _, _, _, _, _, _, rfl, rfl, l0, fun mask hm => ?_⟩ ?_ ?_
    · have := b0 mask hm
      rw [show (fun z : Str => z ∈ ([] : List Str)) = fun _ => False from funext fun z => by simp]
      exact this
    · rintro p rest _ ⟨a, L, o6, o7, o8, o9, o10, o11, o12, o13, ha, rfl, hL, hB⟩
      have hpa : p ∉ a := fun hc => by
        rw [← ha] at hnQ
        exact (List.nodup_append.1 hnQ).2.2 p hc p (by simp) rfl
      have et := etk p
      have vll : vLen (.list (L.map (enE C))) = some (.int ((2 ^ C.length : Nat) : Int)) := by rw [vLen_list, List.length_map, hL]
      refine ⟨_, rfl, ?_⟩
      row_walk with [et]
      refine ws_mid (fun ρ => ∃ (M : List Ent) (o7 o10 o11 o12 o13 : Option D), ρ = [some CE, some PW, some (.list (L.map (enE C))), some (.list (PL.map .str)), o4, o5, some (.str p), o7, some (.list (M.map (enE C))), some (.list ((tkC C p).map tkrE)), o10, o11, o12, o13] ∧ M.length = 2 ^ C.length ∧ ∀ mask, mask < 2 ^ C.length → BestC L p (doneK C p (2 ^ C.length)) mask (M.getD mask none)) ?_ ?_
      · refine ws_rng (2 ^ C.length) (fun k ρ => ∃ (M : List Ent) (o7 o10 o11 o12 o13 : Option D), ρ = [some CE, some PW, some (.list (L.map (enE C))), some (.list (PL.map .str)), o4, o5, some (.str p), o7, some (.list (M.map (enE C))), some (.list ((tkC C p).map tkrE)), o10, o11, o12, o13] ∧ M.length = 2 ^ C.length ∧ ∀ mask, mask < 2 ^ C.length → BestC L p (doneK C p k) mask (M.getD mask none)) (iR1_nat (n := 2 ^ C.length) (by wp_walk using vll) (by omega)) ⟨L, _, _, _, _, _, rfl, hL, fun mask hm => cand_nil⟩ ?_ (fun _ h => h)
        rintro k hk _ ⟨M, o7, o10, o11, o12, o13, rfl, hM, hBM⟩
        have iL := idxM (enE C) none (l := L) (k := k) (by omega)
        have hBk := hB k hk
        refine ⟨_, rfl, ?_⟩
        cases e0 : L.getD k none with
        | none =>
          rw [e0] at iL
          have iL : vIdx (.list (L.map (enE C))) (.int (k : Nat)) = some .none := iL
          wp_walk using iL
          refine ⟨M, _, _, _, _, _, rfl, hM, fun mask hm => ?_⟩
          rw [doneK_succ]
          refine bestC_skip (hBM mask hm) fun d hd => ?_
          obtain ⟨t, _, rfl⟩ := List.mem_map.1 hd
          exact .inr (.inr e0)
        | some m0 =>
          rw [e0] at iL hBk
          have hm0 := hBk.1.len
          have iL : vIdx (.list (L.map (enE C))) (.int (k : Nat)) = some (.tuple [.int (sumT m0), .tuple (m0.map (trE C))]) := iL
          row_walk
          refine ws_ifT (by wp_walk using iL) ?_
          row_walk
          refine ws_forE tkrE (tkC C p) (fun rs ρ => ∃ (b : List (Nat × Int)) (M : List Ent) (o7 o11 o12 o13 : Option D), b ++ rs = tkC C p ∧ ρ = [some CE, some PW, some (.list (L.map (enE C))), some (.list (PL.map .str)), o4, o5, some (.str p), o7, some (.list (M.map (enE C))), some (.list ((tkC C p).map tkrE)), some (.int (k : Nat)), o11, o12, o13] ∧ M.length = 2 ^ C.length ∧ ∀ mask, mask < 2 ^ C.length → BestC L p (doneK C p k ++ b.map fun t => (k, t.1, t.2)) mask (M.getD mask none)) (by wp_walk) ⟨[], M, _, _, _, _, rfl, rfl, hM, fun mask hm => by simpa using hBM mask hm⟩ ?_ ?_
          · rintro ⟨j, c⟩ rs _ ⟨b, M, o7, o11, o12, o13, hb, rfl, hM, hBM⟩
            have hjr : (p, c) ∈ rowK C j := mem_tkC.1 (by rw [← hb]; simp)
            have hj := rowC_lt hjr
            have ip := pw j (by omega)
            have dv : vDiv (.int (k : Nat)) (.int ((2 ^ j : Nat) : Int)) = some (.int ((k / 2 ^ j : Nat) : Int)) := vDiv_nat (Nat.two_pow_pos j) (by
              have : 2 ^ j ≤ 2 ^ 8 := Nat.pow_le_pow_right (by decide) (by omega)
              omega)
            have e1 : ((k / 2 ^ j : Nat) : Int) % 2 = ((k / 2 ^ j % 2 : Nat) : Int) := by omega
            refine ⟨_, rfl, ?_⟩
            have done_eq : doneK C p k ++ (b ++ [(j, c)]).map (fun t => (k, t.1, t.2)) = (doneK C p k ++ b.map fun t => (k, t.1, t.2)) ++ [(k, j, c)] := by
              rw [List.map_append, List.append_assoc]; rfl
            by_cases hbit : k / 2 ^ j % 2 = 0
            · have hbit' : ((k / 2 ^ j % 2 : Nat) : Int) = 0 := by omega
              have hlt := bits_lt C.length (by omega) k hk j hj hbit
              have e2 : ((k : Nat) : Int) + ((2 ^ j : Nat) : Int) = ((k + 2 ^ j : Nat) : Int) := by omega
              have iM := idxM (enE C) none (l := M) (k := k + 2 ^ j) (by omega)
              have icj := ci j hj
              have va : vAdd (.tuple (m0.map (trE C))) (.tuple [.tuple [.str (nmC C j), .str p]]) = some (.tuple ((m0 ++ [(j, p, c)]).map (trE C))) := by
                rw [vAdd_tup (by simp; omega), List.map_append]; rfl
              have st := storeD_nat (ds := M.map (enE C)) (k := k + 2 ^ j) (by rw [List.length_map]; omega) (.tuple [.int (sumT m0 + c), .tuple ((m0 ++ [(j, p, c)]).map (trE C))])
              have ba := bestC_add (c := c) (hBM _ hlt) hbit e0
              have other : ∀ o mask, mask < 2 ^ C.length → mask ≠ k + 2 ^ j → BestC L p (doneK C p k ++ b.map fun t => (k, t.1, t.2)) mask o → BestC L p ((doneK C p k ++ b.map fun t => (k, t.1, t.2)) ++ [(k, j, c)]) mask o := fun o mask hm hne h => bestC_skip h fun d hd => by
                rw [List.mem_singleton.1 hd]
                exact .inl hne
              have yes : BestC L p ((doneK C p k ++ b.map fun t => (k, t.1, t.2)) ++ [(k, j, c)]) (k + 2 ^ j) (some (m0 ++ [(j, p, c)])) → ∃ (b' : List (Nat × Int)) (M' : List Ent) (o7' o11' o12' o13' : Option D), b' ++ rs = tkC C p ∧ [some CE, some PW, some (.list (L.map (enE C))), some (.list (PL.map .str)), o4, o5, some (.str p), some (.int c), some (.list ((M.map (enE C)).set (k + 2 ^ j) (.tuple [.int (sumT m0 + c), .tuple ((m0 ++ [(j, p, c)]).map (trE C))]))), some (.list ((tkC C p).map tkrE)), some (.int (k : Nat)), some (.int (j : Nat)), some (.int (sumT m0 + c)), some (enE C (M.getD (k + 2 ^ j) none))] = [some CE, some PW, some (.list (L.map (enE C))), some (.list (PL.map .str)), o4, o5, some (.str p), o7', some (.list (M'.map (enE C))), some (.list ((tkC C p).map tkrE)), some (.int (k : Nat)), o11', o12', o13'] ∧ M'.length = 2 ^ C.length ∧ ∀ mask, mask < 2 ^ C.length → BestC L p (doneK C p k ++ b'.map fun t => (k, t.1, t.2)) mask (M'.getD mask none) := fun hy => by
                refine ⟨b ++ [(j, c)], M.set (k + 2 ^ j) (some (m0 ++ [(j, p, c)])), some (.int c), some (.int (j : Nat)), some (.int (sumT m0 + c)), some (enE C (M.getD (k + 2 ^ j) none)), by rw [← hb]; simp, ?_, by simpa using hM, fun mask hm => ?_⟩
                · rw [List.map_set]
                  show _ = [some CE, some PW, some (.list (L.map (enE C))), some (.list (PL.map .str)), o4, o5, some (.str p), _, some (.list ((M.map (enE C)).set (k + 2 ^ j) (.tuple [.int (sumT (m0 ++ [(j, p, c)])), .tuple ((m0 ++ [(j, p, c)]).map (trE C))]))), _, _, _, _, _]
                  rw [sumT_snoc]
                · rw [done_eq, getD_set _ _ _ _ _ (by omega)]
                  by_cases hm2 : k + 2 ^ j = mask
                  · rw [if_pos hm2, ← hm2]; exact hy
                  · rw [if_neg hm2]; exact other _ mask hm (fun g => hm2 g.symm) (hBM mask hm)
              cases eM : M.getD (k + 2 ^ j) none with
              | none =>
                rw [eM] at iM yes ba
                have iM : vIdx (.list (M.map (enE C))) (.int ((k + 2 ^ j : Nat) : Int)) = some .none := iM
                wp_walk using ip, dv, e1, hbit', iL, e2, iM, icj, kvE_0, va, st
                exact yes (ba.2 fun m e => by cases e)
              | some m1 =>
                rw [eM] at iM yes ba
                have iM : vIdx (.list (M.map (enE C))) (.int ((k + 2 ^ j : Nat) : Int)) = some (.tuple [.int (sumT m1), .tuple (m1.map (trE C))]) := iM
                by_cases hlt2 : sumT m0 + c < sumT m1
                · wp_walk using ip, dv, e1, hbit', iL, e2, iM, hlt2, icj, kvE_0, va, st
                  exact yes (ba.2 fun m e => by cases e; exact Int.le_of_lt hlt2)
                · wp_walk using ip, dv, e1, hbit', iL, e2, iM, hlt2
                  refine ⟨b ++ [(j, c)], M, _, _, _, _, by rw [← hb]; simp, rfl, hM, fun mask hm => ?_⟩
                  rw [done_eq]
                  by_cases hm2 : mask = k + 2 ^ j
                  · rw [hm2, eM]
                    exact ba.1 m1 rfl (by omega)
                  · exact other _ mask hm hm2 (hBM mask hm)
            · have hbit' : ¬ ((k / 2 ^ j % 2 : Nat) : Int) = 0 := by omega
              wp_walk using ip, dv, e1, hbit'
              refine ⟨b ++ [(j, c)], M, _, _, _, _, by rw [← hb]; simp, rfl, hM, fun mask hm => ?_⟩
              rw [done_eq]
              refine bestC_skip (hBM mask hm) fun d hd => ?_
              rw [List.mem_singleton.1 hd]
              exact .inr (.inl (show k / 2 ^ j % 2 = 1 by omega))
          · rintro _ ⟨b, M, o7, o11, o12, o13, hb, rfl, hM, hBM⟩
            rw [List.append_nil] at hb
            refine ws_skip ⟨M, _, _, _, _, _, rfl, hM, fun mask hm => ?_⟩
            rw [doneK_succ, ← hb]
            exact hBM mask hm
      rintro _ ⟨M, o7, o10, o11, o12, o13, rfl, hM, hBM⟩
      row_walk
      refine ws_move rfl ?_
      wp_walk
      refine ⟨a ++ [p], M, _, _, _, _, _, _, _, _, by rw [List.append_assoc]; exact ha, rfl, hM, fun mask hm => ?_⟩
      have := best_step h8 rfl hpa hB (fun mask hm k c hr => List.mem_flatMap.2 ⟨mask, List.mem_range.2 hm, List.mem_map.2 ⟨(k, c), mem_tkC.2 hr, rfl⟩⟩) (fun d hd => by
        obtain ⟨x, hx, h⟩ := List.mem_flatMap.1 hd
        obtain ⟨t, ht, rfl⟩ := List.mem_map.1 h
        exact ⟨List.mem_range.1 hx, mem_tkC.1 ht⟩) hm (hBM mask hm)
      rw [show (fun z : Str => z ∈ a ++ [p]) = fun z => z ∈ a ∨ z = p from funext fun z => by simp]
      exact this
    · rintro _ ⟨a, L, o6, o7, o8, o9, o10, o11, o12, o13, ha, rfl, hL, hB⟩
      rw [List.append_nil] at ha
      subst ha
      exact ⟨L, _, _, _, _, _, _, _, _, rfl, hL, hB⟩
  rintro _ ⟨L, o6, o7, o8, o9, o10, o11, o12, o13, rfl, hL, hB⟩
  wp_walk
  refine ⟨L, rfl, hL, fun mask hm => ?_⟩
  have inQ : ∀ m, MT C (fun _ => True) mask m → MT C (fun z => z ∈ Q) mask m := fun m h => h.mono fun x hx => by
    have hr := h.has x hx
    have hk := rowC_lt hr
    have hmem : C.getD x.1 (⟨#[]⟩, []) ∈ C := by simp [List.getD, hk]
    exact pm.mem_iff.2 (hall _ hmem _ hr)
  have := hB mask hm
  cases e : L.getD mask none with
  | none => rw [e] at this; exact fun m h => this m (inQ m h)
  | some m =>
    rw [e] at this
    exact ⟨this.1.mono fun _ _ => trivial, fun m' h => this.2 m' (inQ m' h)⟩
def mst : Str := Str.ofString "master"
def HN0 : List Str := [mst, "anna", "ben", "all", "m", "zz9", "hand", "h1", "h10", "h2", "make"]
def HN1 : List Str := mst :: (List.range' 1 10).map fun k => repS "a" k
def hnd (c4 : Int) (c2 : Nat) : List Str := (if c4 = 1 then HN1 else HN0).take (2 + c2)
theorem perm_range {l : List Nat} {n : Nat} (hn : n ≤ 8) (h : l.Nodup) (h2 : ∀ k ∈ l, k < n) (h3 : ∀ k, k < n → k ∈ l) : l.Perm (List.range n) := by
  refine perm_of_sub l (List.range n) h (fun k hk => List.mem_range.2 (h2 k hk)) ?_
  exact len_le_of List.nodup_range fun k hk => h3 k (List.mem_range.1 hk)
theorem mt_ks {C : Cst} (h8 : C.length ≤ 8) {m : List Trp} (h : MT C (fun _ => True) (2 ^ C.length - 1) m) : (m.map fun x => x.1).Perm (List.range C.length) := by
  refine perm_range h8 h.ks (fun k hk => ?_) fun k hk => ?_
  · obtain ⟨x, hx, rfl⟩ := List.mem_map.1 hk
    exact rowC_lt (h.has x hx)
  · exact (h.bits k (by omega)).2 ((bits_full C.length (by omega) k (by omega)).2 hk)
theorem names_range (C : Cst) : (List.range C.length).map (nmC C) = C.map Prod.fst := by
  refine List.ext_getElem (by simp) fun i h1 h2 => ?_
  simp only [List.length_map, List.length_range] at h1
  simp [nmC, List.getD, h1]
/-- no divisor between 1 and k -/
def ndB (k : Nat) : Bool := (List.range k).all fun d => decide (d < 2) || decide (k % d ≠ 0)
def pf (n k : Nat) : Bool := decide (n % k = 0) && ndB k
theorem row_mem {C : Cst} {k : Nat} (h : k < C.length) : (nmC C k, rowK C k) ∈ C := by
  have : C.getD k (⟨#[]⟩, []) ∈ C := by simp [List.getD, h]
  exact this
def sortP (M : List (Str × Str)) : List (Str × Str) := M.mergeSort (W.dataLe false ppE)
theorem pE_le {x y : Str × Str} (h : W.dataLe false ppE x y = true) (hn : x.1 ≠ y.1) : ltT x.1 y.1 := by
  have h : (!W.dataLt (ppE y) (ppE x)) = true := h
  unfold ppE at h
  rw [W.dataLt_pair (by simp [W.alike]) (by simp [W.alike])] at h
  have e : PyData.eqv (.str y.1) (.str x.1) = false := by
    simp only [PyData.eqv]
    exact beq_false_of_ne fun g => hn g.symm
  rw [e, if_neg (by decide), W.dataLt_str] at h
  simp only [Bool.not_eq_true', decide_eq_false_iff_not] at h
  exact ltT_of (by unfold leT; exact decide_eq_true (List.not_lt.1 h)) hn
theorem sortP_perm (M : List (Str × Str)) : (sortP M).Perm M := List.mergeSort_perm _ _
theorem sortP_asc {M : List (Str × Str)} (h : (M.map Prod.fst).Nodup) : Asc ((sortP M).map Prod.fst) := by
  have ht := W.sortLe_total (PyProof.Rows.listOrd PyProof.Rows.itemOrd) false (fun b => W.keyToks (ppE b))
  have hp : (sortP M).Pairwise fun a b => W.dataLe false ppE a b = true := List.pairwise_mergeSort ht.trans (fun a b => by
    rcases ht.total a b with g | g
    · rw [Bool.or_eq_true]; exact .inl g
    · rw [Bool.or_eq_true]; exact .inr g) M
  have hn : ((sortP M).map Prod.fst).Nodup := ((sortP_perm M).map _).nodup_iff.2 h
  refine List.pairwise_map.2 ?_
  have hn2 := List.pairwise_map.1 hn
  exact (List.Pairwise.and hp hn2).imp fun h => pE_le h.1 h.2
theorem trP_fst (C : Cst) (m : List Trp) : (trP C m).map Prod.fst = (m.map fun x => x.1).map (nmC C) := by unfold trP; rw [List.map_map, List.map_map]; rfl
theorem mt_fm {C : Cst} (h8 : C.length ≤ 8) (hA : Asc (C.map Prod.fst)) {m : List Trp} (h : MT C (fun _ => True) (2 ^ C.length - 1) m) : FM (chC C) (sortP (trP C m)) := by
  have pk := mt_ks h8 h
  have pf : ((trP C m).map Prod.fst).Perm (C.map Prod.fst) := by
    rw [trP_fst, ← names_range]
    exact pk.map _
  have ps := sortP_perm (trP C m)
  have hnd : ((trP C m).map Prod.fst).Nodup := pf.nodup_iff.2 (asc_nodup hA)
  have asc := sortP_asc hnd
  refine ⟨⟨asc, ?_, fun x hx => ?_⟩, ?_⟩
  · have := (ps.map Prod.snd).nodup_iff.2 (by rw [trP_snd]; exact h.ps)
    exact this
  · obtain ⟨y, hy, rfl⟩ := List.mem_map.1 (ps.mem_iff.1 hx)
    have hr := h.has y hy
    refine ⟨(nmC C y.1, (rowK C y.1).map Prod.fst), List.mem_map.2 ⟨_, row_mem (rowC_lt hr), rfl⟩, rfl, ?_⟩
    exact List.mem_map.2 ⟨_, hr, rfl⟩
  · rw [chC_fst]
    exact asc_perm ((ps.map Prod.fst).trans pf) asc hA
theorem trP_E (C : Cst) (m : List Trp) : m.map (trE C) = (trP C m).map ppE := by unfold trP; rw [List.map_map]; rfl
theorem vIdx_last {α : Type} (f : α → D) (d : α) {l : List α} (h : 0 < l.length) : vIdx (.list (l.map f)) (.int (-1)) = some (f (l.getD (l.length - 1) d)) := by
  show L2.atI (l.map f) (-1) = _
  unfold L2.atI L2.ixN
  rw [if_neg (by decide), if_pos (by simp; omega)]
  simp only [Option.bind_some, List.length_map]
  rw [show ((-1 : Int) + ((l.length : Nat) : Int)).toNat = l.length - 1 by omega]
  simp [List.getD, show l.length - 1 < l.length by omega]
theorem sortD_pE (M : List (Str × Str)) : sortD (M.map ppE) = (sortP M).map ppE := by
  exact (List.map_mergeSort (r := W.dataLe false ppE) (s := W.dataLe false id) (f := ppE) (l := M) (fun a _ b _ => rfl)).symm
theorem all_pE {M : List (Str × Str)} {f : D → Bool} (h : ∀ a b, f (ppE (a, b)) = true) : (M.map ppE).all f = true := List.all_eq_true.2 fun x hx => by
  obtain ⟨y, _, rfl⟩ := List.mem_map.1 hx
  exact h y.1 y.2
theorem noDicts_pE : ∀ M : List (Str × Str), noDicts (M.map ppE) = true
  | [] => rfl
  | x :: M => by simp [noDicts, noDict, ppE, noDicts_pE M]
theorem sortOk_pE (M : List (Str × Str)) : sortOk (M.map ppE) = true := by
  unfold sortOk
  rw [noDicts_pE, all_pE (f := nonEmT) (fun a b => rfl), all_pE (f := fun d => decide (d.depth ≤ 40)) (fun a b => by simp [ppE, PyData.depth, PyData.depthAll]), all_pE (f := fun a => (M.map ppE).all (W.alike a)) (fun a b => all_pE fun c d => by simp [ppE, W.alike, W.alikeAll])]
  rfl
theorem vSorted3_pT (M : List (Str × Str)) : vSorted3 (.tuple (M.map ppE)) = some (.list ((sortP M).map ppE)) := by
  show (if sortOk (M.map ppE) = true then some (PyData.list (sortD (M.map ppE))) else none) = _
  rw [if_pos (sortOk_pE M), sortD_pE]
theorem law_own_match_eq {T : CT} (hT : CtOk T) : (∃ M, d_law_own_match [ctE T] = .ok (pmE M) ∧ FM T M) ∨ (d_law_own_match [ctE T] = .ok .none ∧ ∀ M, ¬ FM T M) := by
  have fr := law_free_eq (T := T) (by have := hT.1; omega)
  obtain ⟨L, eL, lL, hB⟩ := law_least_2_eq (frC_ok hT)
  have lf : (frC T).length = T.length := by unfold frC; rw [List.length_map]
  have h8 : (frC T).length ≤ 8 := by rw [lf]; exact hT.1
  have hA : Asc ((frC T).map Prod.fst) := by rw [frC_fst]; exact hT.2.1.1
  have hpos := Nat.two_pow_pos (frC T).length
  have il := vIdx_last (enE (frC T)) none (l := L) (by omega)
  have hb := hB (2 ^ (frC T).length - 1) (by omega)
  rw [lL] at il
  cases e : L.getD (2 ^ (frC T).length - 1) none with
  | none =>
    rw [e] at il hb
    have il : vIdx (.list (L.map (enE (frC T)))) (.int (-1)) = some .none := il
    refine .inr ⟨?_, fun M hM => ?_⟩
    · rw [d_law_own_match]
      refine run_eq ?_
      wp_walk using fr, eL, il
    · rw [← chC_frC T] at hM
      obtain ⟨m, hm, _⟩ := fm_mt h8 hA hM
      exact hb m hm
  | some m =>
    rw [e] at il hb
    have il : vIdx (.list (L.map (enE (frC T)))) (.int (-1)) = some (.tuple [.int (sumT m), .tuple (m.map (trE (frC T)))]) := il
    have vs := vSorted3_pT (trP (frC T) m)
    rw [← trP_E] at vs
    have fm := mt_fm h8 hA hb.1
    rw [chC_frC] at fm
    refine .inl ⟨_, ?_, fm⟩
    rw [d_law_own_match]
    refine run_eq ?_
    wp_walk using fr, eL, il, vs
    rfl
def PoolOk (q : List Int) : Prop := 200 ≤ q.length ∧ q.length ≤ 5000 ∧ ∀ x ∈ q, 0 ≤ x ∧ x < 997
def mixI (n k : Int) : Int := ((((n * 48271 + (k + 1) * 69621) % 2147483647) * ((n * 48271 + (k + 1) * 69621) % 2147483647) + n) % 2147483629) / 7 % 997
theorem law_mixed_eq (n k : Int) (hn : -1000000000000 < n) (hn2 : n < 1000000000000) (hk : -1000000 < k) (hk2 : k < 1000000) : d_law_mixed [.int n, .int k] = .ok (.int (mixI n k)) := by
  have m1 : vMul (.int n) (.int 48271) = some (.int (n * 48271)) := vMul_64 (by omega) (by omega) (by decide) (by decide)
  have m2 : vMul (.int (k + 1)) (.int 69621) = some (.int ((k + 1) * 69621)) := vMul_64 (by omega) (by omega) (by decide) (by decide)
  unfold mixI
  generalize hz : (n * 48271 + (k + 1) * 69621) % 2147483647 = z
  have z0 : 0 ≤ z := by rw [← hz]; exact Int.emod_nonneg _ (by decide)
  have z1 : z < 2147483647 := by rw [← hz]; exact Int.emod_lt_of_pos _ (by decide)
  have m3 : vMul (.int z) (.int z) = some (.int (z * z)) := vMul_64 (by omega) (by omega) (by omega) (by omega)
  rw [d_law_mixed]
  refine run_eq ?_
  wp_walk using m1, m2, hz, m3
theorem mixI_hi (n k : Int) : mixI n k < 997 := Int.emod_lt_of_pos _ (by decide)
theorem mixI_lo (n k : Int) : 0 ≤ mixI n k := Int.emod_nonneg _ (by decide)
theorem pool_snoc {l : List Int} {x : Int} (h : ∀ y ∈ l, 0 ≤ y ∧ y < 997) (h0 : 0 ≤ x) (h1 : x < 997) : ∀ y ∈ l ++ [x], 0 ≤ y ∧ y < 997 := fun y hy => by
  rcases List.mem_append.1 hy with g | g
  · exact h y g
  · rw [List.mem_singleton.1 g]; exact ⟨h0, h1⟩
theorem snocI (l : List Int) (x : Int) : l.map PyData.int ++ [.int x] = (l ++ [x]).map PyData.int := by rw [List.map_append]; rfl
theorem vRange1_any (b : Bool) (i : Int) (h : i ≤ 16777216) (h0 : -16777216 ≤ i) : vRange1 b (.int i) = some ((List.range i.toNat).map fun i : Nat => PyData.int (i : Nat)) := by
  show (if inR i = true ∧ (b = true → i.toNat ≤ sizeLine) then some (rangeD 0 i) else none) = _
  rw [if_pos ⟨inR_i (by omega) (by omega), fun _ => by rw [line_eq]; omega⟩]
  refine congrArg some ?_
  unfold rangeD
  rw [show (i - 0).toNat = i.toNat by omega]
  exact List.map_congr_left fun k _ => by simp
theorem vSlice_any {l : List D} {k : Nat} : vSlice (.list l) none (some (k : Int)) = some (.list (l.take k)) := by
  by_cases h : k ≤ l.length
  · exact vSlice_toL h
  · show some (PyData.list (cutD _ _ _)) = _
    have e2 : HT.sIx l.length l.length (some (k : Int)) = l.length := by
      have : ¬ ((k : Int) < 0) := by omega
      simp [HT.sIx, this]; omega
    unfold cutD
    rw [e2, List.take_of_length_le (by omega : l.length ≤ k), show HT.sIx l.length 0 none = 0 from rfl, List.drop_zero, Nat.sub_zero, List.take_length]
theorem law_pool_eq (ns : List Int) : ∃ q : List Int, d_law_pool [.list (ns.map .int)] = .ok (.list (q.map .int)) ∧ PoolOk q := by
  rw [d_law_pool]
  suffices h : ∃ v, runD 7 _ [.list (ns.map .int)] = .ok v ∧ ∃ q : List Int, v = .list (q.map .int) ∧ PoolOk q by
    obtain ⟨v, e, q, rfl, h⟩ := h
    exact ⟨q, e, h⟩
  refine run_ws ?_
  have vl : vLen (.list (ns.map .int)) = some (.int (ns.length : Nat)) := by rw [vLen_list, List.length_map]
  obtain ⟨SC, hSC⟩ : ∃ x : D, x = .list (ns.map .int) := ⟨_, rfl⟩
  have vs : vSlice SC none (some 63) = some (.list ((ns.take 63).map .int)) := by
    rw [hSC, List.map_take]
    exact vSlice_any (k := 63)
  rw [← hSC] at vl ⊢
  row_walk
  by_cases h0 : ns.length = 0
  · have it : eComp [4] (gN 4) (iR1 true (eC (.int 200))) tTrue (eC (.int 0)) [some SC, none, none, none, none, none, none] = .ok (.list ((List.range 200).map fun _ => .int 0)) := by
      refine eComp_map (fun i : Nat => .int (i : Nat)) (fun _ => .int 0) (List.range 200) (iR1_nat (n := 200) rfl (by decide)) fun k _ => ⟨_, rfl, rfl⟩
    refine ws_ifT (by wp_walk using vl, h0) ?_
    wp_walk using it
    refine ⟨List.replicate 200 0, ?_, by simp [PoolOk]⟩
    exact congrArg PyData.list (by rw [List.map_const', List.length_range, List.map_replicate])
  have h0' : ¬ ((ns.length : Nat) : Int) = 0 := by omega
  refine ws_ifF (by wp_walk using vl, h0') (ws_skip ?_)
  row_walk
  refine ws_mid (fun ρ => ∃ (l : List Int) (o2 o3 o4 : Option D), ρ = [some SC, some (.list (l.map .int)), o2, o3, o4, none, none] ∧ l.length ≤ 3780 ∧ ∀ y ∈ l, 0 ≤ y ∧ y < 997) ?_ ?_
  · refine ws_forE .int (ns.take 63) (fun rest ρ => ∃ (l : List Int) (o2 o3 o4 : Option D), ρ = [some SC, some (.list (l.map .int)), o2, o3, o4, none, none] ∧ l.length + 60 * rest.length ≤ 3780 ∧ ∀ y ∈ l, 0 ≤ y ∧ y < 997) (by wp_walk using vs) ⟨[], _, _, _, rfl, by simp; omega, by simp⟩ ?_ ?_
    · rintro c rest _ ⟨l, o2, o3, o4, rfl, hl, hq⟩
      simp only [List.length_cons] at hl
      refine ⟨_, rfl, ?_⟩
      row_walk
      by_cases hc : 1000000000000000000 ≤ c
      · refine ws_ifT (by wp_walk using hc) ?_
        row_walk
        refine ws_rng 60 (fun k ρ => ∃ (m : List Int) (r : Int) (o4 : Option D), ρ = [some SC, some (.list (m.map .int)), some (.int c), some (.int r), o4, none, none] ∧ m.length ≤ l.length + k ∧ ∀ y ∈ m, 0 ≤ y ∧ y < 997) (iR1_nat (n := 60) rfl (by decide)) ⟨l, c, _, rfl, by omega, hq⟩ ?_ ?_
        · rintro k hk _ ⟨m, r, o4, rfl, hm, hq⟩
          refine ⟨_, rfl, ?_⟩
          by_cases hr : 0 < r
          · wp_walk using hr
            refine ⟨by omega, m ++ [r % 997], r / 997, _, by rw [snocI], by simp; omega, pool_snoc hq (Int.emod_nonneg _ (by decide)) (Int.emod_lt_of_pos _ (by decide))⟩
          · wp_walk using hr
            exact ⟨m, r, _, rfl, by omega, hq⟩
        · rintro _ ⟨m, r, o4, rfl, hm, hq⟩
          exact ws_skip ⟨m, _, _, _, rfl, by omega, hq⟩
      · refine ws_ifF (by wp_walk using hc) ?_
        row_walk
        refine ws_rng 4 (fun k ρ => ∃ (m : List Int) (o4 : Option D), ρ = [some SC, some (.list (m.map .int)), some (.int c), o3, o4, none, none] ∧ m.length ≤ l.length + k ∧ ∀ y ∈ m, 0 ≤ y ∧ y < 997) (iR1_nat (n := 4) rfl (by decide)) ⟨l, _, rfl, by omega, hq⟩ ?_ ?_
        · rintro k hk _ ⟨m, o4, rfl, hm, hq⟩
          have e1 := Int.emod_nonneg c (b := 1000003) (by decide)
          have e2 := Int.emod_lt_of_pos c (b := 1000003) (by decide)
          have mx := law_mixed_eq (c % 1000003) (k : Nat) (by omega) (by omega) (by omega) (by omega)
          refine ⟨_, rfl, ?_⟩
          wp_walk using mx
          exact ⟨by omega, m ++ [mixI (c % 1000003) (k : Nat)], _, by rw [snocI], by simp; omega, pool_snoc hq (mixI_lo _ _) (mixI_hi _ _)⟩
        · rintro _ ⟨m, o4, rfl, hm, hq⟩
          exact ws_skip ⟨m, _, _, _, rfl, by omega, hq⟩
    · rintro _ ⟨l, o2, o3, o4, rfl, hl, hq⟩
      exact ⟨l, _, _, _, rfl, by simpa using hl, hq⟩
  rintro _ ⟨l, o2, o3, o4, rfl, hl, hq⟩
  have vs2 : vSlice (.list (l.map .int)) none (some 200) = some (.list ((l.take 200).map .int)) := by
    rw [List.map_take]
    exact vSlice_any (k := 200)
  row_walk
  refine ws_mid (fun ρ => ∃ (r : Int) (o6 : Option D), ρ = [some SC, some (.list (l.map .int)), o2, o3, o4, some (.int r), o6] ∧ 0 ≤ r ∧ r < 1000003) ?_ ?_
  · refine ws_forE .int (l.take 200) (fun rest ρ => (∀ y ∈ rest, 0 ≤ y ∧ y < 997) ∧ ∃ (r : Int) (o6 : Option D), ρ = [some SC, some (.list (l.map .int)), o2, o3, o4, some (.int r), o6] ∧ 0 ≤ r ∧ r < 1000003) (by wp_walk using vs2) ⟨fun y hy => hq y (List.mem_of_mem_take hy), 1, _, rfl, by decide, by decide⟩ ?_ (fun _ h => h.2)
    rintro y rest _ ⟨hr, r, o6, rfl, r0, r1⟩
    have m1 : vMul (.int r) (.int 31) = some (.int (r * 31)) := vMul_64 (by omega) (by omega) (by decide) (by decide)
    refine ⟨_, rfl, ?_⟩
    wp_walk using m1
    exact ⟨fun z hz => hr z (by simp [hz]), _, _, rfl, Int.emod_nonneg _ (by decide), Int.emod_lt_of_pos _ (by decide)⟩
  rintro _ ⟨r, o6, rfl, r0, r1⟩
  have vll : vLen (.list (l.map .int)) = some (.int (l.length : Nat)) := by rw [vLen_list, List.length_map]
  have rg := vRange1_any false (200 - (l.length : Int)) (by omega) (by omega)
  row_walk
  refine ws_mid (fun ρ => ∃ (q : List Int) (r : Int) (o4 : Option D), ρ = [some SC, some (.list (q.map .int)), o2, o3, o4, some (.int r), o6] ∧ PoolOk q) ?_ ?_
  · refine ws_rng (200 - (l.length : Int)).toNat (fun k ρ => ∃ (q : List Int) (r : Int) (o4 : Option D), ρ = [some SC, some (.list (q.map .int)), o2, o3, o4, some (.int r), o6] ∧ q.length = l.length + k ∧ (∀ y ∈ q, 0 ≤ y ∧ y < 997) ∧ 0 ≤ r ∧ r < 1000003) (by wp_walk using vll, rg) ⟨l, r, _, rfl, by omega, hq, r0, r1⟩ ?_ ?_
    · rintro k hk _ ⟨q, r, o4, rfl, h1, h2, r0, r1⟩
      have m1 : vMul (.int r) (.int 48271) = some (.int (r * 48271)) := vMul_64 (by omega) (by omega) (by decide) (by decide)
      have e1 := Int.emod_nonneg (r * 48271 + (k : Nat) + 1) (b := 1000003) (by decide)
      have e2 := Int.emod_lt_of_pos (r * 48271 + (k : Nat) + 1) (b := 1000003) (by decide)
      have mx := law_mixed_eq ((r * 48271 + (k : Nat) + 1) % 1000003) (k : Nat) (by omega) (by omega) (by omega) (by omega)
      refine ⟨_, rfl, ?_⟩
      wp_walk using m1, mx
      exact ⟨by omega, q ++ [mixI ((r * 48271 + (k : Nat) + 1) % 1000003) (k : Nat)], _, _, by rw [snocI], by simp; omega, pool_snoc h2 (mixI_lo _ _) (mixI_hi _ _), e1, e2⟩
    · rintro _ ⟨q, r, o4, rfl, h1, h2, _, _⟩
      exact ⟨q, r, _, rfl, by omega, by omega, h2⟩
  rintro _ ⟨q, r, o4, rfl, hp⟩
  wp_walk
  exact ⟨q, rfl, hp⟩
structure SelSt (T : CT) (S : CT) (PL : List Str) : Prop where
  nd : PL.Nodup
  mem : ∀ p, p ∈ PL ↔ ∃ r ∈ S, p ∈ r.2
theorem selR_cons (m : Nat) (r : Str × List Str) (T : CT) : selR m (r :: T) = if m % 2 = 1 then r :: selR (m / 2) T else selR (m / 2) T := rfl
theorem selR_nil (m : Nat) : selR m [] = [] := rfl
theorem selR_sub : ∀ (m : Nat) (T : CT), (selR m T).Sublist T
  | _, [] => .slnil
  | m, r :: T => by
    unfold selR
    split
    · exact (selR_sub _ T).cons_cons r
    · exact (selR_sub _ T).cons r
theorem sortS_asc {l : List Str} (h : l.Nodup) : Asc (sortS l) := by
  have hn : (sortS l).Nodup := (sortS_perm l).nodup_iff.2 h
  exact (sortS_le l).imp₂ (fun a b h1 h2 => ltT_of h1 h2) hn
theorem SelSt.pts {T : CT} (hT : CtOk T) {S : CT} (hS : S.Sublist T) {PL : List Str} (h : SelSt T S PL) : PtsOf S (sortS PL) := by
  refine ⟨⟨sortS_asc h.nd, fun z hz => ?_⟩, fun p => by rw [(sortS_perm PL).mem_iff]; exact h.mem p⟩
  obtain ⟨r, hr, hp⟩ := (h.mem z).1 ((sortS_perm PL).mem_iff.1 hz)
  exact (hT.2.2 r (hS.subset hr)).2.2 z hp
theorem law_set_of_eq {T : CT} (hT : CtOk T) (mask : Nat) (hm : mask < 1000) : ∃ B, d_law_set_of [ctE T, .int (mask : Nat)] = .ok (.tuple [stTp ((selR mask T).map Prod.fst), stTp B]) ∧ PtsOf (selR mask T) B := by
  suffices h : ∃ v, d_law_set_of [ctE T, .int (mask : Nat)] = .ok v ∧ ∃ B, v = .tuple [stTp ((selR mask T).map Prod.fst), stTp B] ∧ PtsOf (selR mask T) B by
    obtain ⟨v, e, B, rfl, h⟩ := h
    exact ⟨B, e, h⟩
  have ci := ct_items T
  obtain ⟨h8, _, h24⟩ := id hT
  rw [d_law_set_of]
  refine run_ws ?_
  generalize ctE T = TE at *
  row_walk
  refine ws_mid (fun ρ => ∃ (PL : List Str) (o4 o5 o6 o7 : Option D), ρ = [some TE, some (.int (mask : Nat)), some (.list (((selR mask T).map Prod.fst).map .str)), some (.list (PL.map .str)), o4, o5, o6, o7] ∧ SelSt T (selR mask T) PL) ?_ ?_
  · refine ws_forE (fun p : Str × List Str => kvE (p.1, .tuple (p.2.map .str))) T (fun rest ρ => ∃ (S : CT) (m : Nat) (PL : List Str) (o5 o6 o7 : Option D), S ++ selR m rest = selR mask T ∧ m < 1000 ∧ (∀ r ∈ rest, r ∈ T) ∧ ρ = [some TE, some (.int (mask : Nat)), some (.list ((S.map Prod.fst).map .str)), some (.list (PL.map .str)), some (.int (m : Nat)), o5, o6, o7] ∧ SelSt T S PL ∧ S.length + rest.length ≤ 8 ∧ PL.length + 24 * rest.length ≤ 192) (by wp_walk using ci) ⟨[], mask, [], _, _, _, rfl, hm, fun r h => h, rfl, ⟨.nil, fun p => by simp⟩, by simp; omega, by simp; omega⟩ ?_ ?_
    · rintro r rest _ ⟨S, m, PL, o5, o6, o7, hS, hm1, hr, rfl, hst, hl1, hl2⟩
      have hrT := hr r (by simp)
      have hr' : ∀ x ∈ rest, x ∈ T := fun x hx => hr x (by simp [hx])
      have r24 := (h24 r hrT).1
      simp only [List.length_cons] at hl1 hl2
      have e1 : ((m : Nat) : Int) % 2 = ((m % 2 : Nat) : Int) := by omega
      have e2 : ((m : Nat) : Int) / 2 = ((m / 2 : Nat) : Int) := by omega
      refine ⟨_, unp_kv 5 6 _ _, ?_⟩
      rw [selR_cons] at hS
      by_cases hb : m % 2 = 1
      · rw [if_pos hb] at hS
        have hb' : (((m % 2 : Nat) : Int) = 1) = True := eq_true (by omega)
        row_walk
        refine ws_mid (fun ρ => ∃ (QL : List Str) (o7 : Option D), ρ = [some TE, some (.int (mask : Nat)), some (.list (((S ++ [r]).map Prod.fst).map .str)), some (.list (QL.map .str)), some (.int (m : Nat)), some (.str r.1), some (.tuple (r.2.map .str)), o7] ∧ SelSt T (S ++ [r]) QL ∧ QL.length ≤ PL.length + 24) ?_ ?_
        · refine ws_ifT (by wp_walk using e1, hb') ?_
          row_walk
          refine ⟨by omega, ?_⟩
          refine ws_forE .str r.2 (fun rs ρ => ∃ (b QL : List Str) (o7 : Option D), b ++ rs = r.2 ∧ ρ = [some TE, some (.int (mask : Nat)), some (.list (((S ++ [r]).map Prod.fst).map .str)), some (.list (QL.map .str)), some (.int (m : Nat)), some (.str r.1), some (.tuple (r.2.map .str)), o7] ∧ QL.Nodup ∧ (∀ p, p ∈ QL ↔ p ∈ PL ∨ p ∈ b) ∧ QL.length + rs.length ≤ PL.length + r.2.length) (by wp_walk) ⟨[], PL, _, rfl, by rw [List.map_append, List.map_append]; rfl, hst.nd, by simp, by omega⟩ ?_ ?_
          · rintro p rs _ ⟨b, QL, o7, hb1, rfl, qn, qm, ql⟩
            simp only [List.length_cons] at ql
            have vn := vNotIn_strL p QL
            refine ⟨_, rfl, ?_⟩
            by_cases hp : p ∈ QL
            · have hp' : (p ∈ QL) = True := eq_true hp
              wp_walk using vn, hp'
              refine ⟨b ++ [p], QL, _, by rw [List.append_assoc]; exact hb1, rfl, qn, fun q => ?_, by omega⟩
              rw [qm q, List.mem_append, List.mem_singleton]
              constructor
              · rintro (g | g)
                · exact .inl g
                · exact .inr (.inl g)
              · rintro (g | g | g)
                · exact .inl g
                · exact .inr g
                · rw [g]; exact (qm p).1 hp
            · have hp' : (p ∈ QL) = False := eq_false hp
              wp_walk using vn, hp'
              refine ⟨by omega, b ++ [p], QL ++ [p], some (.str p), by rw [List.append_assoc]; exact hb1, by rw [List.map_append (f := PyData.str) (l₁ := QL)]; rfl, nodup_snoc.2 ⟨qn, hp⟩, fun q => ?_, by simp; omega⟩
              rw [List.mem_append, List.mem_append, qm q]
              exact or_assoc
          · rintro _ ⟨b, QL, o7, hb1, rfl, qn, qm, ql⟩
            rw [List.append_nil] at hb1
            subst hb1
            refine ws_skip ⟨QL, _, rfl, ⟨qn, fun p => ?_⟩, by simp at ql; omega⟩
            rw [qm p, hst.mem p]
            constructor
            · rintro (⟨x, hx, g⟩ | g)
              · exact ⟨x, List.mem_append_left _ hx, g⟩
              · exact ⟨r, by simp, g⟩
            · rintro ⟨x, hx, g⟩
              rcases List.mem_append.1 hx with h | h
              · exact .inl ⟨x, h, g⟩
              · rw [List.mem_singleton.1 h] at g; exact .inr g
        rintro _ ⟨QL, o7, rfl, hst', hl3⟩
        wp_walk using e2
        exact ⟨S ++ [r], m / 2, QL, _, _, _, by rw [← hS, List.append_assoc]; rfl, by omega, hr', rfl, hst', by simp; omega, by omega⟩
      · rw [if_neg hb] at hS
        have hb' : (((m % 2 : Nat) : Int) = 1) = False := eq_false (by omega)
        wp_walk using e1, hb', e2
        exact ⟨S, m / 2, PL, _, _, _, hS, by omega, hr', rfl, hst, by omega, by omega⟩
    · rintro _ ⟨S, m, PL, o5, o6, o7, hS, _, _, rfl, hst, _, _⟩
      rw [selR_nil, List.append_nil] at hS
      subst hS
      exact ⟨PL, _, _, _, _, rfl, hst⟩
  rintro _ ⟨PL, o4, o5, o6, o7, rfl, hst⟩
  have vs := vSorted_strs PL
  wp_walk using vs
  exact ⟨sortS PL, rfl, hst.pts hT (selR_sub mask T)⟩
def sg36 (d : Nat) : Nat := if d < 26 then 97 + d else 22 + d
def dg36 : Nat → Nat → List Nat
  | 0, _ => []
  | f + 1, r => if r = 0 then [] else sg36 ((r - 1) % 36) :: dg36 f ((r - 1) / 36)
theorem dg36_0 (f : Nat) : dg36 f 0 = [] := by cases f <;> simp [dg36]
theorem dg36_s (f : Nat) {r : Nat} (h : r ≠ 0) : dg36 (f + 1) r = sg36 ((r - 1) % 36) :: dg36 f ((r - 1) / 36) := if_neg h
theorem dg36_z (r : Nat) : dg36 0 r = [] := rfl
def isLet (v : Option D) (j : Nat) : Bool := match v with
  | some (.str z) => z.cps.toList == [97 + j]
  | _ => false
theorem let_all : ((List.range 26).all fun j => isLet (vIdx (.str "abcdefghijklmnopqrstuvwxyz") (.int (j : Nat))) j) = true := by decide +kernel
theorem let_at {j : Nat} (h : j < 26) : vIdx (.str "abcdefghijklmnopqrstuvwxyz") (.int (j : Nat)) = some (.str ⟨#[97 + j]⟩) := by
  have := List.all_eq_true.1 let_all j (List.mem_range.2 h)
  unfold isLet at this
  split at this
  · rename_i z hz
    rw [hz]
    have := eq_of_beq this
    rw [str_ext (a := z) (b := ⟨#[97 + j]⟩) this]
  · cases this
def nmN (n : Nat) : Str := ⟨((97 + n % 26) :: dg36 11 (n / 26)).toArray⟩
theorem vAdd_str {a b : Str} (h : a.length + b.length ≤ 16777216) : vAdd (.str a) (.str b) = some (.str (a ++ b)) := if_pos (by rw [line_eq]; exact h)
theorem sg_add : vAdd (.str "abcdefghijklmnopqrstuvwxyz") (.str "0123456789") = some (.str "abcdefghijklmnopqrstuvwxyz0123456789") := by
  rw [vAdd_str (by decide +kernel)]
  exact congrArg (fun z => some (PyData.str z)) (by decide +kernel)
def isSg (v : Option D) (j : Nat) : Bool := match v with
  | some (.str z) => z.cps.toList == [sg36 j]
  | _ => false
theorem sg_all : ((List.range 36).all fun j => isSg (vIdx (.str "abcdefghijklmnopqrstuvwxyz0123456789") (.int (j : Nat))) j) = true := by decide +kernel
theorem sg_at {j : Nat} (h : j < 36) : vIdx (.str "abcdefghijklmnopqrstuvwxyz0123456789") (.int (j : Nat)) = some (.str ⟨#[sg36 j]⟩) := by
  have := List.all_eq_true.1 sg_all j (List.mem_range.2 h)
  unfold isSg at this
  split at this
  · rename_i z hz
    rw [hz]
    have := eq_of_beq this
    rw [str_ext (a := z) (b := ⟨#[sg36 j]⟩) this]
  · cases this
theorem str_snocC (l : List Nat) (c : Nat) : (⟨l.toArray⟩ : Str) ++ ⟨#[c]⟩ = ⟨(l ++ [c]).toArray⟩ := str_ext (by
  show (l.toArray ++ #[c]).toList = _
  simp)
theorem law_name_2_eq (n : Nat) : d_law_name_2 [.int (n : Nat)] = .ok (.str (nmN n)) := by
  rw [d_law_name_2]
  refine run_eq ?_
  have e1 : (n : Int) % 26 = ((n % 26 : Nat) : Int) := by omega
  have e2 : (n : Int) / 26 = ((n / 26 : Nat) : Int) := by omega
  have la := let_at (j := n % 26) (Nat.mod_lt _ (by decide))
  obtain ⟨LT, hLT⟩ : ∃ x : D, x = .str "abcdefghijklmnopqrstuvwxyz" := ⟨_, rfl⟩
  obtain ⟨SG, hSG⟩ : ∃ x : D, x = .str "abcdefghijklmnopqrstuvwxyz0123456789" := ⟨_, rfl⟩
  have sa := sg_add
  rw [← hLT] at la sa
  rw [← hSG] at sa
  rw [← hLT]
  row_walk with [e1, e2, sa, la]
  refine ws_mid (fun ρ => ∃ o5 : Option D, ρ = [some (.int (n : Nat)), some LT, some SG, some (.str (nmN n)), some (.int 0), o5] ∨ ∃ r : Int, ρ = [some (.int (n : Nat)), some LT, some SG, some (.str (nmN n)), some (.int r), o5]) ?_ ?_
  · refine ws_rng 11 (fun k ρ => ∃ (a : List Nat) (r : Nat) (o5 : Option D), ρ = [some (.int (n : Nat)), some LT, some SG, some (.str ⟨a.toArray⟩), some (.int (r : Nat)), o5] ∧ a.length ≤ k + 1 ∧ (97 + n % 26) :: dg36 11 (n / 26) = a ++ dg36 (11 - k) r) (iR1_nat (n := 11) rfl (by decide)) ⟨[97 + n % 26], n / 26, _, rfl, by simp, rfl⟩ ?_ ?_
    · rintro k hk _ ⟨a, r, o5, rfl, ha, hd⟩
      refine ⟨_, rfl, ?_⟩
      rw [show 11 - k = (11 - (k + 1)) + 1 by omega] at hd
      by_cases hr : r = 0
      · subst hr
        rw [dg36_0] at hd
        wp_walk
        exact ⟨a, 0, _, rfl, by omega, by rw [dg36_0]; exact hd⟩
      · rw [dg36_s _ hr] at hd
        have h0 : (0 : Int) < (r : Nat) := by omega
        have e3 : ((r : Nat) : Int) - 1 = ((r - 1 : Nat) : Int) := by omega
        have e4 : ((r - 1 : Nat) : Int) % 36 = (((r - 1) % 36 : Nat) : Int) := by omega
        have e5 : ((r - 1 : Nat) : Int) / 36 = (((r - 1) / 36 : Nat) : Int) := by omega
        have sg := sg_at (j := (r - 1) % 36) (Nat.mod_lt _ (by decide))
        rw [← hSG] at sg
        have va : vAdd (.str ⟨a.toArray⟩) (.str ⟨#[sg36 ((r - 1) % 36)]⟩) = some (.str ⟨(a ++ [sg36 ((r - 1) % 36)]).toArray⟩) := by
          rw [vAdd_str (by show a.toArray.size + 1 ≤ _; simp; omega), str_snocC]
        wp_walk using h0, e3, e4, e5, sg, va
        exact ⟨_, _, _, rfl, by simp; omega, by rw [hd, List.append_assoc]; rfl⟩
    · rintro _ ⟨a, r, o5, rfl, ha, hd⟩
      rw [show 11 - 11 = 0 from rfl, dg36_z, List.append_nil] at hd
      refine ⟨o5, .inr ⟨r, ?_⟩⟩
      rw [← hd]; rfl
  rintro _ ⟨o5, rfl | ⟨r, rfl⟩⟩
  · wp_walk
  · wp_walk
def bd36 : Nat → Nat
  | 0 => 1
  | f + 1 => 36 * bd36 f + 1
theorem sg36_inj {a b : Nat} (ha : a < 36) (hb : b < 36) (h : sg36 a = sg36 b) : a = b := by
  unfold sg36 at h
  split at h <;> split at h <;> omega
theorem dg36_inj : ∀ (f r s : Nat), r < bd36 f → s < bd36 f → dg36 f r = dg36 f s → r = s
  | 0, r, s, hr, hs, _ => by unfold bd36 at hr hs; omega
  | f + 1, r, s, hr, hs, h => by
    unfold bd36 at hr hs
    unfold dg36 at h
    split at h
    · split at h
      · omega
      · cases h
    · split at h
      · cases h
      · injection h with h1 h2
        have h3 := sg36_inj (Nat.mod_lt _ (by decide)) (Nat.mod_lt _ (by decide)) h1
        have h4 := dg36_inj f _ _ (by omega) (by omega) h2
        omega
theorem nmN_list (n : Nat) : (nmN n).cps.toList = (97 + n % 26) :: dg36 11 (n / 26) := by simp [nmN]
theorem nmN_inj {m n : Nat} (hm : m < 3000000000000000000) (hn : n < 3000000000000000000) (h : nmN m = nmN n) : m = n := by
  have h := congrArg (fun z : Str => z.cps.toList) h
  simp only [nmN_list] at h
  injection h with h1 h2
  have hb : bd36 11 > 130000000000000000 := by decide
  have h3 := dg36_inj 11 _ _ (by omega) (by omega) h2
  omega
theorem dg36_len : ∀ (f r : Nat), (dg36 f r).length ≤ f
  | 0, _ => by simp [dg36]
  | f + 1, r => by
    unfold dg36
    split
    · simp
    · have := dg36_len f ((r - 1) / 36)
      simp
      omega
theorem sg36_ok {d : Nat} (h : d < 36) : (letC (sg36 d) || digC (sg36 d)) = true := by
  unfold sg36 letC digC
  simp only [Bool.or_eq_true, decide_eq_true_eq]
  split <;> omega
theorem dg36_ok : ∀ (f r : Nat), ∀ c ∈ dg36 f r, (letC c || digC c) = true
  | 0, _, c, hc => by cases hc
  | f + 1, r, c, hc => by
    unfold dg36 at hc
    split at hc
    · cases hc
    · rcases List.mem_cons.1 hc with rfl | hc
      · exact sg36_ok (Nat.mod_lt _ (by decide))
      · exact dg36_ok f _ c hc
theorem nmN_ok (n : Nat) : nmB (nmN n) = true := by
  have h0 : letC (97 + n % 26) = true := by
    unfold letC
    exact decide_eq_true (by omega)
  have hl := dg36_len 11 (n / 26)
  show nmL' (nmN n).cps.toList = true
  rw [nmN_list]
  unfold nmL'
  simp only [Bool.and_eq_true, decide_eq_true_eq, List.length_cons, List.all_eq_true]
  refine ⟨by omega, h0, fun c hc => ?_⟩
  rcases List.mem_cons.1 hc with rfl | hc
  · rw [h0]; rfl
  · exact dg36_ok _ _ c hc
theorem law_names_3_eq {q : List Int} (hq : PoolOk q) (at_ count : Nat) (h1 : at_ + count ≤ 200) (h2 : 1 ≤ count ∨ at_ < 200) : ∃ N : List Str, d_law_names_3 [.list (q.map .int), .int (at_ : Nat), .int (count : Nat)] = .ok (.tuple (N.map .str)) ∧ N.length = count ∧ NmRow N := by
  obtain ⟨q1, q2, q3⟩ := hq
  obtain ⟨PO, hPO⟩ : ∃ x : D, x = .list (q.map .int) := ⟨_, rfl⟩
  have ix : ∀ k : Nat, k < 200 → ∃ m : Nat, vIdx PO (.int (k : Nat)) = some (.int (m : Nat)) ∧ m < 997 := fun k hk => by
    have hx : q.getD k 0 ∈ q := by simp [List.getD, show k < q.length by omega]
    obtain ⟨b1, b2⟩ := q3 _ hx
    refine ⟨(q.getD k 0).toNat, ?_, by omega⟩
    rw [hPO, vIdx_listI (by omega) (by omega)]
    rw [show ((k : Nat) : Int).toNat = k by omega, show ((q.getD k 0).toNat : Int) = q.getD k 0 by omega]
  rw [← hPO, d_law_names_3]
  suffices h : ∃ v, runD 7 _ [PO, .int (at_ : Nat), .int (count : Nat)] = .ok v ∧ ∃ N : List Str, v = .tuple (N.map .str) ∧ N.length = count ∧ NmRow N by
    obtain ⟨v, e, N, rfl, h⟩ := h
    exact ⟨N, e, h⟩
  refine run_ws ?_
  row_walk
  refine ws_mid (fun ρ => ∃ (F : List Str) (o4 o5 o6 : Option D), ρ = [some PO, some (.int (at_ : Nat)), some (.int (count : Nat)), some (.list (F.map .str)), o4, o5, o6] ∧ F.length = count ∧ F.Nodup ∧ ∀ z ∈ F, nmB z = true) ?_ ?_
  · refine ws_rng count (fun k ρ => ∃ (F : List Str) (o4 o5 o6 : Option D), ρ = [some PO, some (.int (at_ : Nat)), some (.int (count : Nat)), some (.list (F.map .str)), o4, o5, o6] ∧ F.length = k ∧ F.Nodup ∧ ∀ z ∈ F, nmB z = true) (iR1_nat (n := count) rfl (by omega)) ⟨[], _, _, _, rfl, rfl, .nil, by simp⟩ ?_ (fun _ h => h)
    rintro k hk _ ⟨F, o4, o5, o6, rfl, hF, hn, hb⟩
    obtain ⟨a, ia, ha⟩ := ix (at_ + k) (by omega)
    obtain ⟨b, ib, hbb⟩ := ix at_ (by omega)
    have e1 : ((at_ : Nat) : Int) + (k : Nat) = ((at_ + k : Nat) : Int) := by omega
    have v14 : vPow (.int 10) (.int 14) = some (.int 100000000000000) := rfl
    refine ⟨_, rfl, ?_⟩
    row_walk with [e1, ia]
    refine ws_mid (fun ρ => ∃ s : Nat, ρ = [some PO, some (.int (at_ : Nat)), some (.int (count : Nat)), some (.list (F.map .str)), some (.int (k : Nat)), some (.int (s : Nat)), o6] ∧ s < 100000000000000000) ?_ ?_
    · by_cases hb1 : ((b : Nat) : Int) % 5 = 1
      · have m1 : vMul (.int (a : Nat)) (.int 100000000000000) = some (.int ((a * 100000000000000 : Nat) : Int)) := by
          have := vMul_nat (a := a) (b := 100000000000000) (by omega) (by decide)
          simpa using this
        wp_walk using ib, hb1, v14, m1
        exact ⟨_, rfl, by omega⟩
      · wp_walk using ib, hb1
        exact ⟨_, rfl, by omega⟩
    rintro _ ⟨s0, rfl, hs0⟩
    row_walk
    refine ws_mid (fun ρ => ∃ (s : Nat) (o6 : Option D), ρ = [some PO, some (.int (at_ : Nat)), some (.int (count : Nat)), some (.list (F.map .str)), some (.int (k : Nat)), some (.int (s : Nat)), o6] ∧ s < 200000000000000000 ∧ nmN s ∉ F) ?_ ?_
    · refine ws_rng count (fun t ρ => ∃ (s : Nat) (o6 : Option D), ρ = [some PO, some (.int (at_ : Nat)), some (.int (count : Nat)), some (.list (F.map .str)), some (.int (k : Nat)), some (.int ((s0 + s : Nat) : Int)), o6] ∧ s ≤ t ∧ (∀ i, i < s → nmN (s0 + i) ∈ F) ∧ (s < t → nmN (s0 + s) ∉ F)) (iR1_nat (n := count) rfl (by omega)) ⟨0, _, rfl, by omega, by simp, by simp⟩ ?_ ?_
      · rintro t ht _ ⟨s, o6, rfl, h3, h4, h5⟩
        have nm := law_name_2_eq (s0 + s)
        have vi := vIn_strL (nmN (s0 + s)) F
        refine ⟨_, rfl, ?_⟩
        by_cases hi : nmN (s0 + s) ∈ F
        · have : s = t := by
            by_cases h6 : s < t
            · exact (h5 h6 hi).elim
            · omega
          have e2 : ((s0 + s : Nat) : Int) + 1 = ((s0 + (s + 1) : Nat) : Int) := by omega
          wp_walk using nm, vi, hi, e2
          refine ⟨s + 1, _, rfl, by omega, fun i h6 => ?_, by omega⟩
          by_cases h7 : i = s
          · rw [h7]; exact hi
          · exact h4 i (by omega)
        · wp_walk using nm, vi, hi
          exact ⟨s, _, rfl, by omega, h4, fun _ => hi⟩
      · rintro _ ⟨s, o6, rfl, h3, h4, h5⟩
        refine ⟨s0 + s, _, rfl, by omega, ?_⟩
        by_cases h6 : s < count
        · exact h5 h6
        · exfalso
          have hs : s = count := by omega
          have nd : ((List.range count).map fun i => nmN (s0 + i)).Nodup := by
            refine List.pairwise_map.2 (List.Pairwise.imp_of_mem ?_ List.nodup_range)
            intro a b ha hb hab e
            have ha := List.mem_range.1 ha
            have hb := List.mem_range.1 hb
            have := nmN_inj (by omega) (by omega) e
            omega
          have hsub : ∀ z ∈ (List.range count).map fun i => nmN (s0 + i), z ∈ F := fun z hz => by
            obtain ⟨i, hi, rfl⟩ := List.mem_map.1 hz
            exact h4 i (by have := List.mem_range.1 hi; omega)
          have := len_le_of nd hsub
          simp at this
          omega
    rintro _ ⟨s, o6, rfl, hs, hf⟩
    have nm := law_name_2_eq s
    wp_walk using nm
    refine ⟨by omega, F ++ [nmN s], _, _, _, by rw [List.map_append]; rfl, by simp [hF], nodup_snoc.2 ⟨hn, hf⟩, fun z hz => ?_⟩
    rcases List.mem_append.1 hz with g | g
    · exact hb z g
    · rw [List.mem_singleton.1 g]; exact nmN_ok s
  rintro _ ⟨F, o4, o5, o6, rfl, h3, h4, h5⟩
  have vs := vSorted_strs F
  wp_walk using vs
  exact ⟨sortS F, rfl, by rw [(sortS_perm F).length_eq]; exact h3, sortS_asc h4, fun z hz => h5 z ((sortS_perm F).mem_iff.1 hz)⟩
def bitB (q : List Int) (a p : Nat) : Bool := decide ((q.getD (a + p / 9) 0).toNat / 2 ^ (p % 9) % 2 = 1)
theorem pool_at {q : List Int} (hq : PoolOk q) {k : Nat} (hk : k < 200) : ∃ m : Nat, vIdx (.list (q.map .int)) (.int (k : Nat)) = some (.int (m : Nat)) ∧ m < 997 ∧ q.getD k 0 = (m : Nat) := by
  obtain ⟨q1, q2, q3⟩ := hq
  have hx : q.getD k 0 ∈ q := by simp [List.getD, show k < q.length by omega]
  obtain ⟨b1, b2⟩ := q3 _ hx
  refine ⟨(q.getD k 0).toNat, ?_, by omega, by omega⟩
  rw [vIdx_listI (by omega) (by omega)]
  rw [show ((k : Nat) : Int).toNat = k by omega, show ((q.getD k 0).toNat : Int) = q.getD k 0 by omega]
theorem law_bit_eq {q : List Int} (hq : PoolOk q) {a p : Nat} (h : a + p / 9 < 200) (hp : p < 1000) : d_law_bit [.list (q.map .int), .int (a : Nat), .int (p : Nat)] = .ok (.bool (bitB q a p)) := by
  obtain ⟨m, im, hm, e⟩ := pool_at hq h
  have e1 : ((p : Nat) : Int) / 9 = ((p / 9 : Nat) : Int) := by omega
  have e2 : ((a : Nat) : Int) + ((p / 9 : Nat) : Int) = ((a + p / 9 : Nat) : Int) := by omega
  have e3 : ((p : Nat) : Int) % 9 = ((p % 9 : Nat) : Int) := by omega
  have pw := pw_at (j := p % 9) (Nat.mod_lt _ (by decide))
  have hle : 2 ^ (p % 9) ≤ 2 ^ 8 := Nat.pow_le_pow_right (by decide) (by omega)
  have hpos : 0 < 2 ^ (p % 9) := Nat.two_pow_pos _
  have dv : vDiv (.int (m : Nat)) (.int ((2 ^ (p % 9) : Nat) : Int)) = some (.int ((m / 2 ^ (p % 9) : Nat) : Int)) := vDiv_nat hpos (by omega)
  rw [d_law_bit]
  refine run_eq ?_
  wp_walk using e1, e2, e3, im, pw, dv
  unfold bitB
  rw [e]
  exact congrArg PyData.bool (decide_eq_decide.2 (by rw [Int.toNat_natCast]; omega))
def takesB (q : List Int) (mode : Int) (k p size : Nat) : Bool :=
  if mode = 1 then bitB q (50 + 3 * k) p && bitB q (80 + 3 * k) p
  else if mode = 2 then if k + 1 = size then decide (p = 0) else decide (p = k) || decide (p = k + 1)
  else if mode = 3 ∧ k < 1 + size / 2 then bitB q (50 + 3 * k) p && decide (p < size / 2)
  else if mode = 4 then decide (p + k + 1 = size) || (bitB q (50 + 3 * k) p && bitB q (80 + 3 * k) p)
  else if mode = 5 then bitB q 50 p
  else if mode = 6 then decide (p + k + 1 = size) || bitB q (50 + 3 * k) p
  else bitB q (50 + 3 * k) p
theorem law_takes_eq {q : List Int} (hq : PoolOk q) {mode : Int} (hm : mode = 0 ∨ mode = 1 ∨ mode = 2 ∨ mode = 3 ∨ mode = 4 ∨ mode = 5 ∨ mode = 6) {k p size : Nat} (hk : k < 9) (hp : p < 25) (hs : size < 9) : d_law_takes [.list (q.map .int), .int mode, .int (k : Nat), .int (p : Nat), .int (size : Nat)] = .ok (.bool (takesB q mode k p size)) := by
  have b1 := law_bit_eq hq (a := 50 + 3 * k) (p := p) (by omega) (by omega)
  have b2 := law_bit_eq hq (a := 80 + 3 * k) (p := p) (by omega) (by omega)
  have b3 := law_bit_eq hq (a := 50) (p := p) (by omega) (by omega)
  have v1 : vMul (.int 3) (.int (k : Nat)) = some (.int ((3 * k : Nat) : Int)) := by
    have := vMul_nat (a := 3) (b := k) (by decide) (by omega)
    simpa using this
  have e1 : (50 : Int) + ((3 * k : Nat) : Int) = ((50 + 3 * k : Nat) : Int) := by omega
  have e2 : (80 : Int) + ((3 * k : Nat) : Int) = ((80 + 3 * k : Nat) : Int) := by omega
  have e3 : ((size : Nat) : Int) / 2 = ((size / 2 : Nat) : Int) := by omega
  simp only [Int.cast_ofNat_Int] at b3
  rw [d_law_takes]
  refine run_eq ?_
  generalize hb1 : bitB q (50 + 3 * k) p = x1 at b1
  generalize hb2 : bitB q (80 + 3 * k) p = x2 at b2
  generalize hb3 : bitB q 50 p = x3 at b3
  unfold takesB
  rw [hb1, hb2, hb3]
  generalize PyData.list (q.map .int) = PO at *
  rcases hm with rfl | rfl | rfl | rfl | rfl | rfl | rfl
  · wp_walk using v1, e1, b1
    simp
  · cases x1 <;> wp_walk using v1, e1, b1, e2, b2 <;> simp
  · by_cases h : k + 1 = size
    · have h' : (((k : Nat) : Int) = (size : Nat) - 1) = True := eq_true (by omega)
      wp_walk using v1, e1, b1, h'
      simp [h]
    · have h' : ¬ ((k : Nat) : Int) = (size : Nat) - 1 := by omega
      by_cases h2 : p = k
      · have h3 : (((p : Nat) : Int) = (k : Nat)) = True := eq_true (by omega)
        wp_walk using v1, e1, b1, h', h3
        simp [h, h2]
      · have h3 : ¬ ((p : Nat) : Int) = (k : Nat) := by omega
        wp_walk using v1, e1, b1, h', h3
        simp [h, h2]
        omega
  · by_cases h : k < 1 + size / 2
    · have h' : ((k : Nat) : Int) < 1 + ((size / 2 : Nat) : Int) := by omega
      cases x1 <;> wp_walk using v1, e1, b1, e3, h' <;> simp [h] <;> omega
    · have h' : ¬ ((k : Nat) : Int) < 1 + ((size / 2 : Nat) : Int) := by omega
      wp_walk using v1, e1, b1, e3, h'
      simp [h]
  · by_cases h : p + k + 1 = size
    · have h' : (((p : Nat) : Int) = (size : Nat) - 1 - (k : Nat)) = True := eq_true (by omega)
      wp_walk using v1, e1, b1, e2, b2, h'
      simp [h]
    · have h' : ¬ ((p : Nat) : Int) = (size : Nat) - 1 - (k : Nat) := by omega
      cases x1 <;> wp_walk using v1, e1, b1, e2, b2, h' <;> simp [h]
  · wp_walk using v1, e1, b1, b3
    simp
  · by_cases h : p + k + 1 = size
    · have h' : (((p : Nat) : Int) = (size : Nat) - 1 - (k : Nat)) = True := eq_true (by omega)
      wp_walk using v1, e1, b1, e2, b2, h'
      simp [h]
    · have h' : ¬ ((p : Nat) : Int) = (size : Nat) - 1 - (k : Nat) := by omega
      wp_walk using v1, e1, b1, e2, b2, h'
      simp [h]
def mkCT (J P : List Str) (t : Nat → Nat → Bool) : CT := (List.range J.length).map fun k => (J.getD k ⟨#[]⟩, ((List.range P.length).filter (t k)).map fun p => P.getD p ⟨#[]⟩)
theorem strAt {l : List Str} {k : Nat} (h : k < l.length) : vIdx (.tuple (l.map .str)) (.int (k : Nat)) = some (.str (l.getD k ⟨#[]⟩)) := by
  rw [vIdx_tup (by omega) (by simp; omega)]
  simp [List.getD, h]
theorem law_table_3_eq {q : List Int} (hq : PoolOk q) {mode : Int} (hm : mode = 0 ∨ mode = 1 ∨ mode = 2 ∨ mode = 3 ∨ mode = 4 ∨ mode = 5 ∨ mode = 6) {size wide : Nat} (hs : size < 9) (hw : wide < 25) :
    ∃ J P : List Str, d_law_table_3 [.list (q.map .int), .int (size : Nat), .int (wide : Nat), .int mode] = .ok (ctE (mkCT J P fun k p => takesB q mode k p size)) ∧ J.length = size ∧ P.length = wide ∧ NmRow J ∧ NmRow P ∧ (d_law_names_3 [.list (q.map .int), .int (if q.getD 1 0 % 4 = 1 then 4 else 20 : Nat), .int (wide : Nat)] = .ok (.tuple (P.map .str))) := by
  obtain ⟨J, eJ, lJ, oJ⟩ := law_names_3_eq hq 4 size (by omega) (by omega)
  obtain ⟨P, eP, lP, oP⟩ := law_names_3_eq hq (if q.getD 1 0 % 4 = 1 then 4 else 20 : Nat) wide (by split <;> omega) (by split <;> omega)
  refine ⟨J, P, ?_, lJ, lP, oJ, oP, eP⟩
  obtain ⟨m, im, hm1, em⟩ := pool_at hq (k := 1) (by decide)
  have lt := fun k (hk : k < 9) p (hp : p < 25) => law_takes_eq hq hm hk hp hs
  have eJ := eJ
  simp only [Int.cast_ofNat_Int] at eJ im
  rw [em] at eP
  rw [d_law_table_3]
  refine run_eq ?_
  generalize PyData.list (q.map .int) = PO at *
  row_walk with [eJ]
  refine ws_mid (fun ρ => ρ = [some PO, some (.int (size : Nat)), some (.int (wide : Nat)), some (.int mode), some (.tuple (J.map .str)), some (.int (if ((m : Nat) : Int) % 4 = 1 then 4 else 20 : Nat)), none, none, none, none]) ?_ ?_
  · by_cases h : ((m : Nat) : Int) % 4 = 1
    · wp_walk using im, h
    · wp_walk using im, h
  rintro _ rfl
  row_walk with [eP]
  refine ws_mid (fun ρ => ∃ o8 o9 : Option D, ρ = [some PO, some (.int (size : Nat)), some (.int (wide : Nat)), some (.int mode), some (.tuple (J.map .str)), some (.int (if ((m : Nat) : Int) % 4 = 1 then 4 else 20 : Nat)), some (.tuple (P.map .str)), some (.list (((ctT (mkCT J P fun k p => takesB q mode k p size))).map kvE)), o8, o9]) ?_ ?_
  · refine ws_rng size (fun k ρ => ∃ o8 o9 : Option D, ρ = [some PO, some (.int (size : Nat)), some (.int (wide : Nat)), some (.int mode), some (.tuple (J.map .str)), some (.int (if ((m : Nat) : Int) % 4 = 1 then 4 else 20 : Nat)), some (.tuple (P.map .str)), some (.list ((((ctT (mkCT J P fun k p => takesB q mode k p size))).map kvE).take k)), o8, o9]) (iR1_nat (n := size) rfl (by omega)) ⟨_, _, rfl⟩ ?_ ?_
    · rintro k hk _ ⟨o8, o9, rfl⟩
      have ij := strAt (l := J) (k := k) (by omega)
      refine ⟨_, rfl, ?_⟩
      have it : eComp [9] (gN 9) (iR1 true (eVar 2)) (tVal (eCall d_law_takes (aCons (eVar 0) (aCons (eVar 3) (aCons (eVar 8) (aCons (eVar 9) (aCons (eVar 1) aNil))))))) (eBin vIdx (eVar 6) (eVar 9)) [some PO, some (.int (size : Nat)), some (.int (wide : Nat)), some (.int mode), some (.tuple (J.map .str)), some (.int (if ((m : Nat) : Int) % 4 = 1 then 4 else 20 : Nat)), some (.tuple (P.map .str)), some (.list ((((ctT (mkCT J P fun k p => takesB q mode k p size))).map kvE).take k)), some (.int (k : Nat)), o9] = .ok (.list (((List.range wide).filter fun p => takesB q mode k p size).map fun p => .str (P.getD p ⟨#[]⟩))) := by
        refine eComp_filter (fun i : Nat => .int (i : Nat)) (fun p => .str (P.getD p ⟨#[]⟩)) (fun p => takesB q mode k p size) (List.range wide) (iR1_nat (n := wide) rfl (by omega)) fun p hp => ⟨_, rfl, ?_, fun _ => ?_⟩
        · have l1 := lt k (by omega) p (by have := List.mem_range.1 hp; omega)
          wp_walk using l1
        · have ip := strAt (l := P) (k := p) (by have := List.mem_range.1 hp; omega)
          wp_walk using ip
      wp_walk using ij, it
      refine ⟨by rw [List.length_take]; omega, some (.int (k : Nat)), o9, ?_⟩
      have hx : ((ctT (mkCT J P fun k p => takesB q mode k p size)).map kvE).take (k + 1) = ((ctT (mkCT J P fun k p => takesB q mode k p size)).map kvE).take k ++ [.tuple [.str (J.getD k ⟨#[]⟩), .tuple (((List.range wide).filter fun p => takesB q mode k p size).map fun p => .str (P.getD p ⟨#[]⟩))]] := by
        rw [List.take_succ]
        refine congrArg _ ?_
        have e1 : ((ctT (mkCT J P fun k p => takesB q mode k p size)).map kvE)[k]? = some (.tuple [.str (J.getD k ⟨#[]⟩), .tuple (((List.range wide).filter fun p => takesB q mode k p size).map fun p => .str (P.getD p ⟨#[]⟩))]) := by
          unfold ctT mkCT
          rw [List.map_map, List.map_map, List.getElem?_map, List.getElem?_range (by omega), lP]
          simp only [Option.map_some, Function.comp, kvE, List.map_map]
          rfl
        rw [e1]; rfl
      exact congrArg (fun l => [some PO, some (.int (size : Nat)), some (.int (wide : Nat)), some (.int mode), some (.tuple (J.map .str)), some (.int (if ((m : Nat) : Int) % 4 = 1 then 4 else 20 : Nat)), some (.tuple (P.map .str)), some (PyData.list l), some (.int (k : Nat)), o9]) hx.symm
    · rintro _ ⟨o8, o9, rfl⟩
      refine ⟨o8, o9, ?_⟩
      rw [List.take_of_length_le (by simp [ctT, mkCT, lJ])]
  rintro _ ⟨o8, o9, rfl⟩
  wp_walk
  rfl
def strIs (x : D) (w : Str) : Bool := match x with
  | .str z => decide (z = w)
  | _ => false
def wordB (x : D) (w : Str) (n : Nat) : Bool := match x with
  | .tuple (a :: l) => decide (l.length + 1 = n) && strIs a w
  | _ => false
theorem law_word_2_eq (x : D) (w : Str) {n : Nat} (hn : 1 ≤ n) : d_law_word_2 [x, .str w, .int (n : Nat)] = .ok (.bool (wordB x w n)) := by
  rw [d_law_word_2]
  refine run_eq ?_
  cases x with
  | tuple l =>
    cases l with
    | nil =>
      have : ¬ ((0 : Nat) : Int) = (n : Nat) := by omega
      simp only [Int.cast_ofNat_Int] at this
      wp_walk using this
      rfl
    | cons a l =>
      by_cases h : l.length + 1 = n
      · have h' : (((l.length + 1 : Nat) : Int) = (n : Nat)) = True := eq_true (by omega)
        cases a with
        | str z =>
          wp_walk using h'
          simp [wordB, h, strIs]
        | _ =>
          wp_walk using h'
          simp [wordB, h, strIs]
      · have h' : ¬ ((l.length + 1 : Nat) : Int) = (n : Nat) := by omega
        wp_walk using h'
        simp [wordB, h]
  | _ => wp_walk; rfl
theorem law_yes_eq (a b : Bool) : d_law_yes [.bool a, .bool b] = .ok (.bool (a == b)) := by
  rw [d_law_yes]
  refine run_eq ?_
  wp_walk
  cases a <;> cases b <;> rfl
abbrev OD := List (Str × Str)
def lkO (O : OD) (p : Str) : Option Str := (O.find? fun x => decide (x.1 = p)).map (·.2)
def Tight (T : CT) (O : OD) (j : Str) : Prop := ∃ A B : List Str, A.Nodup ∧ B.Nodup ∧ A.length = B.length ∧ (∀ a ∈ j :: A, ∀ r ∈ T, r.1 = a → ∀ p ∈ r.2, p ∈ B) ∧ ∀ a ∈ A, ∃ p, lkO O p = some a
def ClosedTo (T : CT) (js : List Str) (cm : OD) (k : Nat) : Prop := ∀ i, i < k → ∀ j, js[i]? = some j → ∀ r ∈ T, r.1 = j → ∀ p ∈ r.2, p ∈ cm.map Prod.fst
theorem closed_all {T : CT} {js : List Str} {cm : OD} (h : ClosedTo T js cm js.length) {a : Str} (ha : a ∈ js) {r : Str × List Str} (hr : r ∈ T) (e : r.1 = a) : ∀ p ∈ r.2, p ∈ cm.map Prod.fst := by
  obtain ⟨i, hi, ei⟩ := List.mem_iff_getElem.1 ha
  exact h i hi a (by rw [List.getElem?_eq_getElem hi, ei]) r hr e
structure OwnOk (T : CT) (O : OD) : Prop where
  nd : (O.map Prod.fst).Nodup
  inj : ∀ p q j, lkO O p = some j → lkO O q = some j → p = q
  row : ∀ p j, lkO O p = some j → ∃ r ∈ T, r.1 = j ∧ p ∈ r.2
def GrOk (T : CT) (O : OD) : Prop := OwnOk T O ∧ ∀ r ∈ T, (∃ p, lkO O p = some r.1) ∨ Tight T O r.1
def MoreO (O G : OD) : Prop := ∀ j, (∃ p, lkO O p = some j) → ∃ p, lkO G p = some j
def fpO (O cm : OD) : Option Str := (cm.find? fun x => !(lkO O x.1).isSome).map (·.1)
theorem lkO_mem {O : OD} {p j : Str} (h : lkO O p = some j) : (p, j) ∈ O := by
  unfold lkO at h
  cases e : O.find? fun x => decide (x.1 = p) with
  | none => rw [e] at h; cases h
  | some x =>
    rw [e] at h
    have h1 := List.mem_of_find?_eq_some e
    have h2 := List.find?_some e
    have h2 := of_decide_eq_true h2
    cases h
    rw [← h2]; exact h1
theorem lkO_none {O : OD} {p : Str} : lkO O p = none ↔ p ∉ O.map Prod.fst := by
  unfold lkO
  rw [Option.map_eq_none_iff, List.find?_eq_none, List.mem_map]
  constructor
  · rintro h ⟨x, hx, e⟩
    have := h x hx
    simp [e] at this
  · intro h x hx
    simp only [decide_eq_true_eq]
    exact fun e => h ⟨x, hx, e⟩
theorem mem_lkO {O : OD} (hn : (O.map Prod.fst).Nodup) {p j : Str} (h : (p, j) ∈ O) : lkO O p = some j := by
  cases e : lkO O p with
  | none => exact (lkO_none.1 e (List.mem_map.2 ⟨_, h, rfl⟩)).elim
  | some j' =>
    have h2 := lkO_mem e
    obtain ⟨a, ha, ea⟩ := List.mem_iff_getElem.1 h
    obtain ⟨b, hb, eb⟩ := List.mem_iff_getElem.1 h2
    have := (List.getElem_inj (xs := O.map Prod.fst) (i := a) (j := b) (h₀ := by simpa using ha) (h₁ := by simpa using hb) hn).1 (by simp [ea, eb])
    subst this
    rw [ea] at eb
    injection eb with _ e2
    rw [e2]
theorem fpO_some {O cm : OD} (hn : (cm.map Prod.fst).Nodup) {p : Str} (h : fpO O cm = some p) : lkO O p = none ∧ ∃ j, lkO cm p = some j := by
  unfold fpO at h
  cases e : cm.find? fun x => !(lkO O x.1).isSome with
  | none => rw [e] at h; cases h
  | some x =>
    rw [e] at h
    have h1 := List.mem_of_find?_eq_some e
    have h2 := List.find?_some e
    cases h
    exact ⟨by simpa using h2, _, mem_lkO hn h1⟩
theorem iKeysD_ap (ρ : Lo) (d : DE) : iKeysD d ρ = rb (d ρ) (fun v => Res.up (keysD v)) .mk := Eq.trans rfl rfl
def oE (O : OD) : D := .dict (O.map fun x => (.str x.1, .str x.2))
theorem keys_o (O : OD) : keysD (oE O) = some ((O.map Prod.fst).map .str) := by
  show some ((O.map fun x => (PyData.str x.1, PyData.str x.2)).map Prod.fst) = _
  rw [List.map_map, List.map_map]; rfl
def optS : Option Str → D
  | none => .none
  | some z => .str z
theorem keyIs_SS (a b : Str) : keyIs (.str a) (.str b) = decide (a = b) := keyIs_str a b
theorem findP_o (O : OD) (p : Str) : findP (O.map fun x => (PyData.str x.1, PyData.str x.2)) (.str p) = (lkO O p).map .str := by
  unfold findP lkO
  rw [List.find?_map, Option.map_map, Option.map_map]
  have : ((fun q : D × D => keyIs q.1 (.str p)) ∘ fun x : Str × Str => (PyData.str x.1, PyData.str x.2)) = fun x => decide (x.1 = p) := funext fun x => keyIs_SS x.1 p
  rw [this]; rfl
theorem vNinD_o (p : Str) (O : OD) : vNinD (.str p) (oE O) = some (.bool (!(lkO O p).isSome)) := by
  show some (PyData.bool (!(findP (O.map fun x => (PyData.str x.1, PyData.str x.2)) (.str p)).isSome)) = _
  rw [findP_o, Option.isSome_map]
theorem free_part_eq (O cm : OD) : d_free_part [oE O, oE cm] = .ok (optS (fpO O cm)) := by
  have ik := keys_o cm
  have vn := fun p => vNinD_o p O
  rw [d_free_part]
  refine run_eq ?_
  generalize oE O = OE at *
  generalize oE cm = CE at *
  row_walk
  refine ws_find (fun x : Str × Str => .str x.1) (fun x => !(lkO O x.1).isSome) cm (fun ρ => ∃ o2 : Option D, ρ = [some OE, some CE, o2]) (by wp_walk using iKeysD_ap, ik; rw [List.map_map]; rfl) ⟨_, rfl⟩ ?_ ?_
  · rintro x hx _ ⟨o2, rfl⟩
    have v1 := vn x.1
    refine ⟨_, rfl, fun hc hf => ?_, fun hc => ?_⟩
    · rw [hc] at v1
      wp_walk using v1
      unfold fpO
      rw [hf]; rfl
    · rw [hc] at v1
      wp_walk using v1
      exact ⟨_, rfl⟩
  · rintro _ ⟨o2, rfl⟩ hf
    wp_walk
    unfold fpO
    rw [hf]; rfl
structure Along (T : CT) (O : OD) (js : List Str) (p : Str) (i : Nat) (G : OD) : Prop where
  nd : (G.map Prod.fst).Nodup
  row : ∀ q j, lkO G q = some j → ∃ r ∈ T, r.1 = j ∧ q ∈ r.2
  inj : ∀ q q' j, q ≠ p → q' ≠ p → lkO G q = some j → lkO G q' = some j → q = q'
  vals : ∀ j, (∃ q, q ≠ p ∧ lkO G q = some j) ↔ ∃ q, lkO O q = some j
  low : ∀ q j i', lkO O q = some j → js[i']? = some j → i' ≤ i → lkO G q = some j ∧ q ≠ p
def OwnsMore (O G : OD) (s : Str) : Prop := ∀ j, (∃ p, lkO G p = some j) ↔ (j = s ∨ ∃ p, lkO O p = some j)
structure Rchd (T : CT) (O : OD) (s : Str) (js : List Str) (cm : OD) : Prop where
  nd : js.Nodup
  inT : ∀ j ∈ js, ∃ r ∈ T, r.1 = j
  st : js[0]? = some s
  cnd : (cm.map Prod.fst).Nodup
  crow : ∀ p j, lkO cm p = some j → j ∈ js ∧ ∃ r ∈ T, r.1 = j ∧ p ∈ r.2
  cown : ∀ p j j', lkO cm p = some j → lkO O p = some j' → j' ∈ js
  way : ∀ i j, js[i]? = some j → i = 0 ∨ ∃ p i' j', i' < i ∧ js[i']? = some j' ∧ lkO O p = some j ∧ lkO cm p = some j'
def encO (O : OD) : List (D × D) := O.map fun x => (.str x.1, .str x.2)
theorem encO_len (O : OD) : (encO O).length = O.length := by unfold encO; rw [List.length_map]
theorem oE_enc (O : OD) : oE O = .dict (encO O) := rfl
abbrev Pz := List (Int × Int)
abbrev pa (P : Pz) (i : Nat) : Int × Int := P.getD i (0, 0)
def ptO (O : OD) (j : Str) : Option Str := (O.find? fun x => decide (x.2 = j)).map (·.1)
theorem vGetD_o {O : OD} {p j : Str} (h : lkO O p = some j) : vGetD (oE O) (.str p) = some (.str j) := by
  show findP (O.map fun x => (PyData.str x.1, PyData.str x.2)) (.str p) = _
  rw [findP_o, h]; rfl
theorem part_at_eq {O : OD} (hn : (O.map Prod.fst).Nodup) (j : Str) : d_part_at [oE O, .str j] = .ok (optS (ptO O j)) := by
  have ik := keys_o O
  have vg := fun x (hx : x ∈ O) => vGetD_o (mem_lkO hn (show (x.1, x.2) ∈ O from hx))
  rw [d_part_at]
  refine run_eq ?_
  generalize oE O = OE at *
  row_walk
  refine ws_find (fun x : Str × Str => .str x.1) (fun x => decide (x.2 = j)) O (fun ρ => ∃ o2 : Option D, ρ = [some OE, some (.str j), o2]) (by wp_walk using iKeysD_ap, ik; rw [List.map_map]; rfl) ⟨_, rfl⟩ ?_ ?_
  · rintro x hx _ ⟨o2, rfl⟩
    have v1 := vg x hx
    refine ⟨_, rfl, fun hc hf => ?_, fun hc => ?_⟩
    · have hc := of_decide_eq_true hc
      have hc' : (x.2 = j) = True := eq_true hc
      wp_walk using v1, hc'
      unfold ptO
      rw [hf]; rfl
    · have hc := of_decide_eq_false hc
      wp_walk using v1, hc
      exact ⟨_, rfl⟩
  · rintro _ ⟨o2, rfl⟩ hf
    wp_walk
    unfold ptO
    rw [hf]; rfl
theorem ptO_none {O : OD} {j : Str} (h : ptO O j = none) : ∀ p, lkO O p ≠ some j := fun p e => by
  unfold ptO at h
  rw [Option.map_eq_none_iff, List.find?_eq_none] at h
  have := h _ (lkO_mem e)
  simp at this
theorem ptO_some {O : OD} (hn : (O.map Prod.fst).Nodup) {j p : Str} (h : ptO O j = some p) : lkO O p = some j := by
  unfold ptO at h
  cases e : O.find? fun x => decide (x.2 = j) with
  | none => rw [e] at h; cases h
  | some x =>
    rw [e] at h
    have h1 := List.mem_of_find?_eq_some e
    have h2 := List.find?_some e
    have h2 := of_decide_eq_true h2
    cases h
    rw [← h2]
    exact mem_lkO hn h1
def putO (O : OD) (p j : Str) : OD := if p ∈ O.map Prod.fst then O.map (fun x => if x.1 = p then (x.1, j) else x) else O ++ [(p, j)]
theorem putP_o (O : OD) (p j : Str) : putP (O.map fun x => (PyData.str x.1, PyData.str x.2)) (.str p) (.str j) = (putO O p j).map fun x => (PyData.str x.1, PyData.str x.2) := by
  have e : ((O.map fun x => (PyData.str x.1, PyData.str x.2)).any fun q => keyIs q.1 (.str p)) = decide (p ∈ O.map Prod.fst) := by
    rw [List.any_map]
    refine Bool.eq_iff_iff.2 ?_
    rw [List.any_eq_true, decide_eq_true_eq, List.mem_map]
    constructor
    · rintro ⟨x, hx, h⟩
      exact ⟨x, hx, of_decide_eq_true ((keyIs_SS x.1 p).symm.trans h)⟩
    · rintro ⟨x, hx, h⟩
      exact ⟨x, hx, (keyIs_SS x.1 p).trans (decide_eq_true h)⟩
  unfold putP putO
  rw [e]
  by_cases h : p ∈ O.map Prod.fst
  · rw [if_pos (decide_eq_true h), if_pos h, List.map_map, List.map_map]
    refine List.map_congr_left fun x _ => ?_
    simp only [Function.comp]
    rw [keyIs_SS]
    by_cases hx : x.1 = p
    · rw [if_pos (decide_eq_true hx), if_pos hx]
    · rw [if_neg (by simpa using hx), if_neg hx]
  · rw [if_neg (by simpa using h), if_neg h, List.map_append]; rfl
theorem putP_enc (O : OD) (p j : Str) : putP (encO O) (.str p) (.str j) = encO (putO O p j) := putP_o O p j
theorem vDictC_o (O : OD) : vDictC (oE O) = some (oE O) := rfl
theorem eqv_strR (x : D) (w : Str) : PyData.eqv x (.str w) = strIs x w := by
  cases x with
  | str z =>
    simp only [PyData.eqv]
    exact Bool.eq_iff_iff.2 (by simp [strIs])
  | _ => simp [PyData.eqv, strIs]
theorem vNe_strR {x : D} (h : fine x = true) (w : Str) : vNe x (.str w) = some (.bool (!strIs x w)) := by
  rw [vNe_of h (by rfl), eqv_strR]
theorem lkO_put (O : OD) (p j q : Str) : lkO (putO O p j) q = if q = p then some j else lkO O q := by
  unfold putO
  split
  · rename_i h
    unfold lkO
    induction O with
    | nil => cases h
    | cons x O ih =>
      by_cases hx : x.1 = p
      · rw [List.map_cons, if_pos hx]
        by_cases hq : q = p
        · rw [if_pos hq, List.find?_cons_of_pos (by simp [hx, hq])]; rfl
        · have : x.1 ≠ q := fun e => hq (by rw [← e, hx])
          rw [if_neg hq, List.find?_cons_of_neg (by simpa using this), List.find?_cons_of_neg (by simpa using this)]
          have hg : ∀ O : OD, (O.map fun x => if x.1 = p then (x.1, j) else x).find? (fun x => decide (x.1 = q)) = O.find? fun x => decide (x.1 = q) := fun O => by
            induction O with
            | nil => rfl
            | cons y O ih =>
              rw [List.map_cons]
              by_cases hy : y.1 = p
              · have : y.1 ≠ q := fun e => hq (by rw [← e, hy])
                rw [if_pos hy, List.find?_cons_of_neg (by simpa using this), List.find?_cons_of_neg (by simpa using this)]
                exact ih
              · rw [if_neg hy]
                by_cases hyq : y.1 = q
                · rw [List.find?_cons_of_pos (by simpa using hyq), List.find?_cons_of_pos (by simpa using hyq)]
                · rw [List.find?_cons_of_neg (by simpa using hyq), List.find?_cons_of_neg (by simpa using hyq)]
                  exact ih
          rw [hg]
      · have h' : p ∈ O.map Prod.fst := by
          rw [List.map_cons] at h
          rcases List.mem_cons.1 h with e | e
          · exact (hx e.symm).elim
          · exact e
        rw [List.map_cons, if_neg hx]
        by_cases hxq : x.1 = q
        · rw [List.find?_cons_of_pos (by simpa using hxq), List.find?_cons_of_pos (by simpa using hxq)]
          have : q ≠ p := fun e => hx (by rw [hxq, e])
          rw [if_neg this]
        · rw [List.find?_cons_of_neg (by simpa using hxq), List.find?_cons_of_neg (by simpa using hxq)]
          exact ih h'
  · rename_i h
    unfold lkO
    rw [List.find?_append]
    by_cases hq : q = p
    · rw [if_pos hq]
      have : O.find? (fun x => decide (x.1 = q)) = none := List.find?_eq_none.2 fun x hx => by
        have : x.1 ≠ q := fun e => h (List.mem_map.2 ⟨x, hx, by rw [e, hq]⟩)
        simpa using this
      rw [this]
      simp [hq]
    · rw [if_neg hq]
      cases O.find? fun x => decide (x.1 = q) with
      | none =>
        have : p ≠ q := fun e => hq e.symm
        simp [this]
      | some x => rfl
theorem putO_keys (O : OD) (p j : Str) : (putO O p j).map Prod.fst = if p ∈ O.map Prod.fst then O.map Prod.fst else O.map Prod.fst ++ [p] := by
  unfold putO
  split
  · rw [List.map_map]
    refine List.map_congr_left fun x _ => ?_
    simp only [Function.comp]
    split <;> rfl
  · rw [List.map_append]; rfl
theorem putO_nd {O : OD} (hn : (O.map Prod.fst).Nodup) (p j : Str) : ((putO O p j).map Prod.fst).Nodup := by
  rw [putO_keys]
  split
  · exact hn
  · rename_i h; exact nodup_snoc.2 ⟨hn, h⟩
theorem Along.last {T : CT} {O : OD} {js : List Str} {p : Str} {i : Nat} {G : OD} {s : Str} (h : Along T O js p i G) (hs : ∀ p, lkO O p ≠ some s) (hr : ∃ r ∈ T, r.1 = s ∧ p ∈ r.2) : OwnOk T (putO G p s) ∧ OwnsMore O (putO G p s) s := by
  have lk := lkO_put G p s
  have nos : ∀ q, q ≠ p → lkO G q ≠ some s := fun q hq e => by
    obtain ⟨q', e'⟩ := (h.vals s).1 ⟨q, hq, e⟩
    exact hs q' e'
  refine ⟨⟨putO_nd h.nd p s, fun q q' j e e' => ?_, fun q j e => ?_⟩, fun j => ⟨fun ⟨q, e⟩ => ?_, fun g => ?_⟩⟩
  · rw [lk] at e e'
    split at e
    · rename_i hq
      cases e
      split at e'
      · rename_i hq'; rw [hq, hq']
      · rename_i hq'; exact (nos q' hq' e').elim
    · rename_i hq
      split at e'
      · cases e'
        exact (nos q hq e).elim
      · rename_i hq'; exact h.inj q q' j hq hq' e e'
  · rw [lk] at e
    split at e
    · rename_i hq
      cases e
      rw [hq]; exact hr
    · exact h.row q j e
  · rw [lk] at e
    split at e
    · cases e; exact .inl rfl
    · rename_i hq; exact .inr ((h.vals j).1 ⟨q, hq, e⟩)
  · rcases g with rfl | g
    · exact ⟨p, by rw [lk, if_pos rfl]⟩
    · obtain ⟨q, hq, e⟩ := (h.vals j).2 g
      exact ⟨q, by rw [lk, if_neg hq]; exact e⟩
theorem OwnOk.len {T : CT} {O : OD} (h : OwnOk T O) : O.length ≤ T.length := by
  have hv : (O.map Prod.snd).Nodup := by
    have hp := List.pairwise_map.1 h.nd
    refine List.pairwise_map.2 (hp.imp_of_mem fun {a b} ha hb hne e => hne ?_)
    exact h.inj a.1 b.1 a.2 (mem_lkO h.nd ha) (by rw [e]; exact mem_lkO h.nd hb)
  have := len_le_of (m := T.map Prod.fst) hv fun z hz => by
    obtain ⟨x, hx, rfl⟩ := List.mem_map.1 hz
    obtain ⟨r, hr, e, _⟩ := h.row x.1 x.2 (mem_lkO h.nd hx)
    exact List.mem_map.2 ⟨r, hr, e⟩
  simpa using this
theorem Rchd.len {T : CT} {O : OD} {s : Str} {js : List Str} {cm : OD} (h : Rchd T O s js cm) : js.length ≤ T.length := by
  have := len_le_of (m := T.map Prod.fst) h.nd fun j hj => by
    obtain ⟨r, hr, e⟩ := h.inT j hj
    exact List.mem_map.2 ⟨r, hr, e⟩
  simpa using this
theorem idx_inj {l : List Str} (h : l.Nodup) {i k : Nat} {a : Str} (h1 : l[i]? = some a) (h2 : l[k]? = some a) : i = k := by
  obtain ⟨hi, e1⟩ := List.getElem?_eq_some_iff.mp h1
  obtain ⟨hk, e2⟩ := List.getElem?_eq_some_iff.mp h2
  exact (List.getElem_inj (xs := l) (i := i) (j := k) (h₀ := hi) (h₁ := hk) h).1 (by rw [e1, e2])
theorem Along.step {T : CT} {O : OD} (hO : OwnOk T O) {js : List Str} (hnd : js.Nodup) {p : Str} {i : Nat} {G : OD} (h : Along T O js p i G) {jp : Str} (hi : js[i]? = some jp) (hr : ∃ r ∈ T, r.1 = jp ∧ p ∈ r.2) {p1 : Str} {i1 : Nat} (hlt : i1 < i) (h1 : lkO O p1 = some jp) : Along T O js p1 i1 (putO G p jp) := by
  have lk := lkO_put G p jp
  obtain ⟨g1, g2⟩ := h.low p1 jp i h1 hi (Nat.le_refl _)
  refine ⟨putO_nd h.nd p jp, fun q j e => ?_, fun q q' j hq hq' e e' => ?_, fun j => ⟨fun ⟨q, hq, e⟩ => ?_, fun g => ?_⟩, fun q j i' e e' hi' => ?_⟩
  · rw [lk] at e
    split at e
    · rename_i hqp
      cases e
      rw [hqp]; exact hr
    · exact h.row q j e
  · rw [lk] at e e'
    split at e
    · rename_i hqp
      cases e
      split at e'
      · rename_i hqp'; rw [hqp, hqp']
      · rename_i hqp'; exact (hq' (h.inj q' p1 jp hqp' g2 e' g1)).elim
    · rename_i hqp
      split at e'
      · cases e'
        exact (hq (h.inj q p1 jp hqp g2 e g1)).elim
      · rename_i hqp'; exact h.inj q q' j hqp hqp' e e'
  · rw [lk] at e
    split at e
    · cases e; exact ⟨p1, h1⟩
    · rename_i hqp; exact (h.vals j).1 ⟨q, hqp, e⟩
  · obtain ⟨q, hqp, e⟩ := (h.vals j).2 g
    by_cases hq1 : q = p1
    · subst hq1
      rw [g1] at e
      cases e
      exact ⟨p, fun e => g2 e.symm, by rw [lk, if_pos rfl]⟩
    · exact ⟨q, hq1, by rw [lk, if_neg hqp]; exact e⟩
  · obtain ⟨a1, a2⟩ := h.low q j i' e e' (by omega)
    refine ⟨by rw [lk, if_neg a2]; exact a1, fun hq => ?_⟩
    subst hq
    rw [h1] at e
    cases e
    have := idx_inj hnd e' hi
    omega
theorem owners_along_eq {T : CT} {O : OD} (hO : OwnOk T O) {s : Str} (hs : ∀ p, lkO O p ≠ some s) {js : List Str} {cm : OD} (hR : Rchd T O s js cm) (hl : T.length ≤ 8) {free : Str} (hf : lkO O free = none) (hf2 : ∃ j, lkO cm free = some j) (hOl : O.length ≤ 1000) :
    ∃ G, d_owners_along [oE O, oE cm, .str s, .str free] = .ok (oE G) ∧ OwnOk T G ∧ OwnsMore O G s := by
  suffices h : ∃ v, d_owners_along [oE O, oE cm, .str s, .str free] = .ok v ∧ ∃ G, v = oE G ∧ OwnOk T G ∧ OwnsMore O G s by
    obtain ⟨v, e, G, rfl, h⟩ := h
    exact ⟨G, e, h⟩
  obtain ⟨j0, hj0⟩ := hf2
  obtain ⟨i0, hi0, e0⟩ := List.mem_iff_getElem.1 (hR.crow free j0 hj0).1
  have hjs := hR.len
  have pa := fun j => part_at_eq hO.nd j
  have cget := fun p j (h : lkO cm p = some j) => vGetD_o h
  have vdc := vDictC_o O
  have ndf : ∀ z : Str, vNe .none (.str z) = some (.bool true) := fun z => by rw [vNe_strR (x := .none) rfl]; rfl
  rw [d_owners_along]
  refine run_ws ?_
  simp only [oE_enc] at *
  obtain ⟨OE, hOE⟩ : ∃ x : D, x = .dict (encO O) := ⟨_, rfl⟩
  obtain ⟨CE, hCE⟩ : ∃ x : D, x = .dict (encO cm) := ⟨_, rfl⟩
  simp only [← hOE] at pa vdc ⊢
  simp only [← hCE] at cget ⊢
  have mo : isMut OE = true := by rw [hOE]; rfl
  have hwf : i0 + 1 < wFuel := by
    have : 100 < wFuel := by decide
    omega
  row_walk with [vdc]
  refine ⟨mo, ?_⟩
  refine ws_mid (fun ρ => ∃ (G : OD) (o5 o6 : Option D), ρ = [some OE, some CE, some (.str s), some (.str free), some (.dict (encO G)), o5, o6] ∧ OwnOk T G ∧ OwnsMore O G s) ?_ ?_
  · refine ws_while (fun k ρ => (∃ (p jp : Str) (i : Nat) (G : OD) (d6 : D), k = i + 1 ∧ lkO cm p = some jp ∧ js[i]? = some jp ∧ vNe d6 (.str s) = some (.bool true) ∧ Along T O js p i G ∧ G.length + i ≤ O.length + 8 ∧ ρ = [some OE, some CE, some (.str s), some (.str free), some (.dict (encO G)), some (.str p), some d6]) ∨ (k = 0 ∧ ∃ (G : OD) (o5 : Option D), OwnOk T G ∧ OwnsMore O G s ∧ ρ = [some OE, some CE, some (.str s), some (.str free), some (.dict (encO G)), o5, some (.str s)])) (k := i0 + 1) hwf (.inl ⟨free, j0, i0, O, .none, rfl, hj0, by rw [List.getElem?_eq_getElem hi0, e0], ndf s, ⟨hO.nd, hO.row, fun q q' j _ _ => hO.inj q q' j, fun j => ⟨fun ⟨q, _, e⟩ => ⟨q, e⟩, fun ⟨q, e⟩ => ⟨q, (fun h => by rw [h, hf] at e; cases e), e⟩⟩, fun q j i' e _ _ => ⟨e, fun h => by rw [h, hf] at e; cases e⟩⟩, by omega, by rw [hOE]⟩) ?_
    rintro k _ (⟨p, jp, i, G, d6, hk, hp, hi, h6, hA, hGl, rfl⟩ | ⟨hk, G, o5, hG, hM, rfl⟩)
    · refine ⟨true, (by wp_walk using h6), fun _ => ?_, (fun h => by cases h)⟩
      have cg := cget p jp hp
      have hr := (hR.crow p jp hp).2
      have hpe := putP_enc G p jp
      have hel := encO_len G
      have kk : (keyOf (.str p)).isSome = true := rfl
      have pj := pa jp
      have hpl : (putO G p jp).length ≤ G.length + 1 := by
        unfold putO
        split
        · rw [List.length_map]; omega
        · simp
      have ijs : i < js.length := (List.getElem?_eq_some_iff.mp hi).1
      by_cases hjs : jp = s
      · subst hjs
        obtain ⟨l1, l2⟩ := hA.last hs hr
        wp_walk using cg, hpe, pj
        exact ⟨⟨kk, by omega⟩, 0, by omega, .inr ⟨rfl, putO G p jp, _, l1, l2, rfl⟩⟩
      · rcases hR.way i jp hi with h0 | ⟨p1, i1, j1, g1, g2, g3, g4⟩
        · subst h0
          rw [hR.st] at hi
          cases hi
          exact (hjs rfl).elim
        · have hst := hA.step hO hR.nd hi hr g1 g3
          have ep : ptO O jp = some p1 := by
            cases e : ptO O jp with
            | none => exact (ptO_none e p1 g3).elim
            | some p2 => rw [hO.inj p2 p1 jp (ptO_some hO.nd e) g3]
          rw [ep] at pj
          have pj : d_part_at [OE, .str jp] = .ok (.str p1) := pj
          have vn : vNe (.str jp) (.str s) = some (.bool true) := by
            rw [vNe_strR (x := .str jp) rfl]
            simp [strIs, hjs]
          wp_walk using cg, hpe, pj
          exact ⟨⟨kk, by omega⟩, i1 + 1, by omega, .inl ⟨p1, j1, i1, putO G p jp, _, rfl, g4, g2, vn, hst, by omega, rfl⟩⟩
    · have vn : vNe (.str s) (.str s) = some (.bool false) := by
        rw [vNe_strR (x := .str s) rfl]
        simp [strIs]
      refine ⟨false, (by wp_walk using vn), (fun h => by cases h), fun _ => ⟨G, _, _, rfl, hG, hM⟩⟩
  rintro _ ⟨G, o5, o6, rfl, hG, hM⟩
  wp_walk
  exact ⟨G, rfl, hG, hM⟩
theorem getElem?_app {l : List Str} {i : Nat} {j : Str} (m : List Str) (h : l[i]? = some j) : (l ++ m)[i]? = some j := by
  have := (List.getElem?_eq_some_iff.mp h).1
  rw [List.getElem?_append_left this]; exact h
theorem key_lkO {O : OD} {p j : Str} (h : lkO O p = some j) : p ∈ O.map Prod.fst := List.mem_map.2 ⟨_, lkO_mem h, rfl⟩
theorem putO_new {O : OD} {p : Str} (h : p ∉ O.map Prod.fst) (j : Str) : putO O p j = O ++ [(p, j)] := if_neg h
theorem vInD_o (p : Str) (O : OD) : vInD (.str p) (oE O) = some (.bool (lkO O p).isSome) := by
  show some (PyData.bool (findP (O.map fun x => (PyData.str x.1, PyData.str x.2)) (.str p)).isSome) = _
  rw [findP_o, Option.isSome_map]
theorem lkO_snoc {O : OD} {p j : Str} (h : p ∉ O.map Prod.fst) (q : Str) : lkO (O ++ [(p, j)]) q = if q = p then some j else lkO O q := by
  rw [← putO_new h j, lkO_put]
/-- a part that is met for the first time -/
theorem Rchd.meet {T : CT} {O : OD} (hO : OwnOk T O) {s : Str} (hs : ∀ p, lkO O p ≠ some s) {js : List Str} {cm : OD} (h : Rchd T O s js cm) {i : Nat} {here p : Str} (hi : js[i]? = some here) (hr : ∃ r ∈ T, r.1 = here ∧ p ∈ r.2) (hp : p ∉ cm.map Prod.fst) :
    (lkO O p = none → Rchd T O s js (cm ++ [(p, here)])) ∧ ∀ j', lkO O p = some j' → Rchd T O s (js ++ [j']) (cm ++ [(p, here)]) := by
  have hmem : here ∈ js := List.mem_of_getElem? hi
  have lk := lkO_snoc (j := here) hp
  have lkn : lkO cm p = none := lkO_none.2 hp
  have cnd : ((cm ++ [(p, here)]).map Prod.fst).Nodup := by rw [List.map_append]; exact nodup_snoc.2 ⟨h.cnd, hp⟩
  have way1 : ∀ i j, js[i]? = some j → i = 0 ∨ ∃ p' i' j', i' < i ∧ js[i']? = some j' ∧ lkO O p' = some j ∧ lkO (cm ++ [(p, here)]) p' = some j' := fun i j hij => by
    rcases h.way i j hij with g | ⟨p', i', j', g1, g2, g3, g4⟩
    · exact .inl g
    · refine .inr ⟨p', i', j', g1, g2, g3, ?_⟩
      rw [lk, if_neg (fun e => by rw [e, lkn] at g4; cases g4)]
      exact g4
  refine ⟨fun hn => ⟨h.nd, h.inT, h.st, cnd, fun q j e => ?_, fun q j j' e e2 => ?_, way1⟩, fun j' hj' => ⟨?_, fun j hj => ?_, ?_, cnd, fun q j e => ?_, fun q j j2 e e2 => ?_, fun i2 j e => ?_⟩⟩
  · rw [lk] at e
    split at e
    · cases e
      rename_i hq
      rw [hq]; exact ⟨hmem, hr⟩
    · exact h.crow q j e
  · rw [lk] at e
    split at e
    · rename_i hq
      rw [hq, hn] at e2; cases e2
    · exact h.cown q j j' e e2
  · refine nodup_snoc.2 ⟨h.nd, fun hc => ?_⟩
    obtain ⟨k, hk, ek⟩ := List.mem_iff_getElem.1 hc
    have e1 : js[k]? = some j' := by rw [List.getElem?_eq_getElem hk, ek]
    rcases h.way k j' e1 with g | ⟨p', i', j2, g1, g2, g3, g4⟩
    · subst g
      rw [h.st] at e1
      cases e1
      exact hs p hj'
    · have := hO.inj p p' j' hj' g3
      subst this
      rw [lkn] at g4; cases g4
  · rcases List.mem_append.1 hj with g | g
    · exact h.inT j g
    · rw [List.mem_singleton.1 g]
      obtain ⟨r, hr, e, _⟩ := hO.row p j' hj'
      exact ⟨r, hr, e⟩
  · exact getElem?_app _ h.st
  · rw [lk] at e
    split at e
    · cases e
      rename_i hq
      rw [hq]; exact ⟨List.mem_append_left _ hmem, hr⟩
    · obtain ⟨a, b⟩ := h.crow q j e
      exact ⟨List.mem_append_left _ a, b⟩
  · rw [lk] at e
    split at e
    · rename_i hq
      rw [hq, hj'] at e2
      cases e2
      exact List.mem_append_right _ (by simp)
    · exact List.mem_append_left _ (h.cown q j j2 e e2)
  · by_cases hl : i2 < js.length
    · rw [List.getElem?_append_left hl] at e
      rcases way1 i2 j e with g | ⟨p', i', j2, g1, g2, g3, g4⟩
      · exact .inl g
      · exact .inr ⟨p', i', j2, g1, getElem?_app _ g2, g3, g4⟩
    · have hlt : i2 < (js ++ [j']).length := (List.getElem?_eq_some_iff.mp e).1
      have : i2 = js.length := by simp at hlt; omega
      subst this
      simp at e
      subst e
      have : i < js.length := (List.getElem?_eq_some_iff.mp hi).1
      refine .inr ⟨p, i, here, this, getElem?_app _ hi, hj', ?_⟩
      rw [lk, if_pos rfl]
theorem reached_from_eq {T : CT} (hT : CtOk T) {O : OD} (hO : OwnOk T O) {s : Str} (hs : ∀ p, lkO O p ≠ some s) (hsT : ∃ r ∈ T, r.1 = s) : ∃ js cm, d_reached_from [ctE T, oE O, .str s] = .ok (.tuple [.list (js.map .str), oE cm]) ∧ Rchd T O s js cm ∧ ClosedTo T js cm js.length := by
  suffices h : ∃ v, d_reached_from [ctE T, oE O, .str s] = .ok v ∧ ∃ js cm, v = .tuple [.list (js.map .str), oE cm] ∧ Rchd T O s js cm ∧ ClosedTo T js cm js.length by
    obtain ⟨v, e, js, cm, rfl, h⟩ := h
    exact ⟨js, cm, e, h⟩
  have hn := asc_nodup hT.2.1.1
  have h8 := hT.1
  have vr := fun r (hr : r ∈ T) => value_ct hn hr .none
  have oin := fun p => vInD_o p O
  have oget := fun p j (h : lkO O p = some j) => vGetD_o h
  have row24 := fun r (hr : r ∈ T) => (hT.2.2 r hr).1
  simp only [oE_enc]
  simp only [oE_enc] at oin oget
  rw [d_reached_from]
  refine run_ws ?_
  generalize ctE T = TE at *
  obtain ⟨OE, hOE⟩ : ∃ x : D, x = .dict (encO O) := ⟨_, rfl⟩
  rw [← hOE]
  simp only [← hOE] at oin oget
  row_walk
  refine ws_mid (fun ρ => ∃ (js : List Str) (cm : OD) (o5 o6 o7 : Option D), ρ = [some TE, some OE, some (.str s), some (.list (js.map .str)), some (.dict (encO cm)), o5, o6, o7] ∧ Rchd T O s js cm ∧ ClosedTo T js cm js.length) ?_ ?_
  · refine ws_while (fun k ρ => ∃ (js : List Str) (cm : OD) (at_ : Nat) (o6 o7 : Option D), k = 9 - at_ ∧ at_ ≤ js.length ∧ ρ = [some TE, some OE, some (.str s), some (.list (js.map .str)), some (.dict (encO cm)), some (.int (at_ : Nat)), o6, o7] ∧ Rchd T O s js cm ∧ ClosedTo T js cm at_ ∧ cm.length ≤ 24 * at_) (k := 9) (by decide) ⟨[s], [], 0, _, _, rfl, by simp, rfl, ?_, fun i hi => by omega, by simp⟩ ?_
    · refine ⟨by simp, fun j hj => by rw [List.mem_singleton.1 hj]; exact hsT, rfl, .nil, fun p j e => (by cases e), fun p j j' e => (by cases e), fun i j e => ?_⟩
      have := (List.getElem?_eq_some_iff.mp e).1
      simp at this
      exact .inl this
    · rintro k _ ⟨js, cm, at_, o6, o7, hk, hat, rfl, hR, hC, hcl⟩
      have vl : vLen (.list (js.map .str)) = some (.int (js.length : Nat)) := by rw [vLen_list, List.length_map]
      have hjl := hR.len
      by_cases hlt : at_ < js.length
      · have hlt' : (((at_ : Nat) : Int) < (js.length : Nat)) = True := eq_true (by omega)
        refine ⟨true, (by wp_walk using vl, hlt'), fun _ => ?_, (fun h => by cases h)⟩
        obtain ⟨here, hh⟩ : ∃ here, js[at_]? = some here := ⟨js[at_], List.getElem?_eq_getElem hlt⟩
        have ih : vIdx (.list (js.map .str)) (.int (at_ : Nat)) = some (.str here) := by
          rw [idxM PyData.str ⟨#[]⟩ hlt]
          simp [List.getD, hh]
        obtain ⟨r, hr, er⟩ := hR.inT here (List.mem_of_getElem? hh)
        have v1 := vr r hr
        rw [er] at v1
        have r24 := row24 r hr
        row_walk with [ih]
        refine ws_mid (fun ρ => ∃ (js' : List Str) (cm' : OD) (o7 : Option D), ρ = [some TE, some OE, some (.str s), some (.list (js'.map .str)), some (.dict (encO cm')), some (.int (at_ : Nat)), some (.str here), o7] ∧ at_ < js'.length ∧ Rchd T O s js' cm' ∧ ClosedTo T js' cm' (at_ + 1) ∧ cm'.length ≤ 24 * (at_ + 1)) ?_ ?_
        · refine ws_forE .str r.2 (fun rs ρ => ∃ (b : List Str) (js' : List Str) (cm' : OD) (o7 : Option D), b ++ rs = r.2 ∧ ρ = [some TE, some OE, some (.str s), some (.list (js'.map .str)), some (.dict (encO cm')), some (.int (at_ : Nat)), some (.str here), o7] ∧ js'[at_]? = some here ∧ Rchd T O s js' cm' ∧ ClosedTo T js' cm' at_ ∧ (∀ p ∈ b, p ∈ cm'.map Prod.fst) ∧ cm'.length + rs.length ≤ 24 * (at_ + 1)) (by wp_walk using v1) ⟨[], js, cm, _, rfl, rfl, hh, hR, hC, by simp, by omega⟩ ?_ ?_
          · rintro p rs _ ⟨b, js', cm', o7, hb, rfl, hh', hR', hC', hb', hcl'⟩
            have hpr : p ∈ r.2 := by rw [← hb]; simp
            simp only [List.length_cons] at hcl'
            have hjl' := hR'.len
            have vn := vNinD_o p cm'
            rw [oE_enc] at vn
            have oi := oin p
            refine ⟨_, rfl, ?_⟩
            cases ecm : lkO cm' p with
            | some jx =>
              rw [ecm] at vn
              have vn : vNinD (.str p) (.dict (encO cm')) = some (.bool false) := vn
              wp_walk using vn
              refine ⟨b ++ [p], js', cm', _, by rw [List.append_assoc]; exact hb, rfl, hh', hR', hC', fun q hq => ?_, by omega⟩
              rcases List.mem_append.1 hq with g | g
              · exact hb' q g
              · rw [List.mem_singleton.1 g]; exact key_lkO ecm
            | none =>
              rw [ecm] at vn
              have vn : vNinD (.str p) (.dict (encO cm')) = some (.bool true) := vn
              have hp : p ∉ cm'.map Prod.fst := lkO_none.1 ecm
              obtain ⟨m1, m2⟩ := hR'.meet hO hs hh' ⟨r, hr, er, hpr⟩ hp
              have hpe : putP (encO cm') (.str p) (.str here) = encO (cm' ++ [(p, here)]) := by rw [putP_enc, putO_new hp]
              have hel := encO_len cm'
              have kk : (keyOf (.str p)).isSome = true := rfl
              have hC2 : ∀ js2 : List Str, (∀ i, i < at_ → js2[i]? = js'[i]?) → ClosedTo T js2 (cm' ++ [(p, here)]) at_ := fun js2 e i hi j ej r' hr' er' q hq => by
                rw [e i hi] at ej
                rw [List.map_append]
                exact List.mem_append_left _ (hC' i hi j ej r' hr' er' q hq)
              have hb2 : ∀ q ∈ b ++ [p], q ∈ (cm' ++ [(p, here)]).map Prod.fst := fun q hq => by
                rw [List.map_append]
                rcases List.mem_append.1 hq with g | g
                · exact List.mem_append_left _ (hb' q g)
                · exact List.mem_append_right _ (by rw [List.mem_singleton.1 g]; simp)
              cases eo : lkO O p with
              | none =>
                rw [eo] at oi
                have oi : vInD (.str p) OE = some (.bool false) := oi
                wp_walk using vn, oi, hpe
                exact ⟨⟨kk, by omega⟩, b ++ [p], js', cm' ++ [(p, here)], _, by rw [List.append_assoc]; exact hb, rfl, hh', m1 eo, hC2 js' (fun _ _ => rfl), hb2, by simp; omega⟩
              | some j' =>
                rw [eo] at oi
                have oi : vInD (.str p) OE = some (.bool true) := oi
                have og := oget p j' eo
                have hlen : at_ < js'.length := (List.getElem?_eq_some_iff.mp hh').1
                wp_walk using vn, oi, og, hpe
                exact ⟨⟨kk, by omega⟩, by omega, b ++ [p], js' ++ [j'], cm' ++ [(p, here)], some (.str p), by rw [List.append_assoc]; exact hb, by rw [List.map_append]; rfl, getElem?_app _ hh', m2 j' eo, hC2 _ (fun i hi => by rw [List.getElem?_append_left (by omega)]), hb2, by simp; omega⟩
          · rintro _ ⟨b, js', cm', o7, hb, rfl, hh', hR', hC', hb', hcl'⟩
            rw [List.append_nil] at hb
            refine ⟨js', cm', _, rfl, (List.getElem?_eq_some_iff.mp hh').1, hR', fun i hi j ej r' hr' er' q hq => ?_, by simpa using hcl'⟩
            by_cases h : i < at_
            · exact hC' i h j ej r' hr' er' q hq
            · have : i = at_ := by omega
              subst this
              rw [hh'] at ej
              cases ej
              have := row_uniq hn hr' hr (by rw [er', er])
              subst this
              exact hb' q (by rw [hb]; exact hq)
        rintro _ ⟨js', cm', o7, rfl, hl', hR', hC', hcl'⟩
        have e1 : ((at_ : Nat) : Int) + 1 = ((at_ + 1 : Nat) : Int) := by omega
        have vai : vAddI (.int (at_ : Nat)) (.int 1) = some (.int ((at_ + 1 : Nat) : Int)) := by rw [← e1]; rfl
        wp_walk using vai
        exact ⟨9 - (at_ + 1), by have := hR'.len; omega, js', cm', at_ + 1, _, _, rfl, by omega, rfl, hR', hC', hcl'⟩
      · have hlt' : (((at_ : Nat) : Int) < (js.length : Nat)) = False := eq_false (by omega)
        refine ⟨false, (by wp_walk using vl, hlt'), (fun h => by cases h), fun _ => ⟨js, cm, _, _, _, rfl, hR, ?_⟩⟩
        rw [show js.length = at_ by omega]
        exact hC
  rintro _ ⟨js, cm, o5, o6, o7, rfl, hR, hC⟩
  wp_walk
  exact ⟨js, cm, rfl, hR, hC⟩
theorem fpO_none {O cm : OD} (h : fpO O cm = none) : ∀ p j, lkO cm p = some j → ∃ j', lkO O p = some j' := fun p j e => by
  unfold fpO at h
  rw [Option.map_eq_none_iff, List.find?_eq_none] at h
  have := h _ (lkO_mem e)
  simp only [Bool.not_eq_true', Bool.not_eq_false] at this
  exact Option.isSome_iff_exists.1 (by simpa using this)
theorem lkO_key {O : OD} {p : Str} (h : p ∈ O.map Prod.fst) : ∃ j, lkO O p = some j := by
  cases e : lkO O p with
  | none => exact (lkO_none.1 e h).elim
  | some j => exact ⟨j, rfl⟩
theorem Rchd.keys {T : CT} {O : OD} (hO : OwnOk T O) {s : Str} (hs : ∀ p, lkO O p ≠ some s) {js : List Str} {cm : OD} (h : Rchd T O s js cm) (ho : ∀ p j, lkO cm p = some j → ∃ j', lkO O p = some j') : cm.length + 1 = js.length ∧ ∀ a ∈ js, a = s ∨ ∃ p, lkO O p = some a := by
  obtain ⟨own, hown⟩ : ∃ own : Str → Str, ∀ p j, lkO cm p = some j → lkO O p = some (own p) := by
    have : ∀ p : Str, ∃ j' : Str, ∀ j, lkO cm p = some j → lkO O p = some j' := fun p => by
      cases e : lkO cm p with
      | none => exact ⟨⟨#[]⟩, fun j h => by cases h⟩
      | some j =>
        obtain ⟨j', h'⟩ := ho p j e
        exact ⟨j', fun _ _ => h'⟩
    exact Classical.skolem.1 this
  obtain ⟨tl, htl⟩ : ∃ tl, js = s :: tl := by
    cases js with
    | nil => have := h.st; simp at this
    | cons x tl => have := h.st; simp at this; exact ⟨tl, by rw [this]⟩
  have nd := h.nd
  rw [htl, List.nodup_cons] at nd
  have way : ∀ a ∈ tl, ∃ p, lkO O p = some a ∧ ∃ j', lkO cm p = some j' := fun a ha => by
    obtain ⟨i, hi, e⟩ := List.mem_iff_getElem.1 ha
    have e2 : js[i + 1]? = some a := by rw [htl, List.getElem?_cons_succ, List.getElem?_eq_getElem hi, e]
    rcases h.way (i + 1) a e2 with g | ⟨p, i', j', _, _, g3, g4⟩
    · omega
    · exact ⟨p, g3, j', g4⟩
  have l1 : cm.length ≤ tl.length := by
    have nd1 : ((cm.map Prod.fst).map own).Nodup := by
      refine List.pairwise_map.2 (h.cnd.imp_of_mem fun ha hb hne e => ?_)
      obtain ⟨x, hx⟩ := lkO_key ha
      obtain ⟨y, hy⟩ := lkO_key hb
      exact hne (hO.inj _ _ _ (hown _ _ hx) (by rw [e]; exact hown _ _ hy))
    have := len_le_of nd1 (m := tl) fun a ha => by
      obtain ⟨p, hp, rfl⟩ := List.mem_map.1 ha
      obtain ⟨j, hj⟩ := lkO_key hp
      have h1 := hown p j hj
      have h2 := h.cown p j _ hj h1
      rw [htl] at h2
      rcases List.mem_cons.1 h2 with g | g
      · rw [g] at h1; exact (hs p h1).elim
      · exact g
    simpa using this
  have l2 : tl.length ≤ cm.length := by
    have := len_le_of nd.2 (m := (cm.map Prod.fst).map own) fun a ha => by
      obtain ⟨p, g1, j', g2⟩ := way a ha
      have := hown p j' g2
      rw [g1] at this
      cases this
      exact List.mem_map.2 ⟨p, key_lkO g2, rfl⟩
    simpa using this
  refine ⟨by rw [htl, List.length_cons]; omega, fun a ha => ?_⟩
  rw [htl] at ha
  rcases List.mem_cons.1 ha with g | g
  · exact .inl g
  · obtain ⟨p, g1, _⟩ := way a g
    exact .inr ⟨p, g1⟩
theorem tight_of {T : CT} {O : OD} (hO : OwnOk T O) {s : Str} (hs : ∀ p, lkO O p ≠ some s) {js : List Str} {cm : OD} (h : Rchd T O s js cm) (hC : ClosedTo T js cm js.length) (hf : fpO O cm = none) : Tight T O s := by
  obtain ⟨h1, h2⟩ := h.keys hO hs (fpO_none hf)
  obtain ⟨tl, htl⟩ : ∃ tl, js = s :: tl := by
    cases js with
    | nil => have := h.st; simp at this
    | cons x tl => have := h.st; simp at this; exact ⟨tl, by rw [this]⟩
  have nd := h.nd
  rw [htl, List.nodup_cons] at nd
  refine ⟨tl, cm.map Prod.fst, nd.2, h.cnd, by rw [List.length_map]; rw [htl, List.length_cons] at h1; omega, fun a ha r hr e => closed_all hC (by rw [htl]; exact ha) hr e, fun a ha => ?_⟩
  rcases h2 a (by rw [htl]; simp [ha]) with g | g
  · rw [g] at ha; exact (nd.1 ha).elim
  · exact g
theorem Tight.mono {T : CT} {O G : OD} {j : Str} (h : Tight T O j) (hm : MoreO O G) : Tight T G j := by
  obtain ⟨A, B, h1, h2, h3, h4, h5⟩ := h
  exact ⟨A, B, h1, h2, h3, h4, fun a ha => hm a (h5 a ha)⟩
theorem greatest_owners_eq {T : CT} (hT : CtOk T) : ∃ O, d_greatest_owners [ctE T] = .ok (oE O) ∧ GrOk T O := by
  suffices h : ∃ v, d_greatest_owners [ctE T] = .ok v ∧ ∃ O, v = oE O ∧ GrOk T O by
    obtain ⟨v, e, O, rfl, h⟩ := h
    exact ⟨O, e, h⟩
  have nk := names_of_ct T
  have rf := fun O (hO : OwnOk T O) s (hs : ∀ p, lkO O p ≠ some s) hsT => reached_from_eq hT hO hs (s := s) hsT
  have hnT := asc_nodup hT.2.1.1
  rw [d_greatest_owners]
  refine run_ws ?_
  generalize ctE T = TE at *
  have e0 : PyData.dict [] = oE [] := rfl
  row_walk
  rw [e0]
  refine ws_mid (fun ρ => ∃ (O : OD) (o2 o3 o4 : Option D), ρ = [some TE, some (oE O), o2, o3, o4] ∧ GrOk T O) ?_ ?_
  · refine ws_forE (fun r : Str × List Str => .str r.1) T (fun rest ρ => ∃ (a : CT) (O : OD) (o2 o3 o4 : Option D), a ++ rest = T ∧ ρ = [some TE, some (oE O), o2, o3, o4] ∧ OwnOk T O ∧ (∀ r ∈ a, (∃ p, lkO O p = some r.1) ∨ Tight T O r.1) ∧ ∀ p j, lkO O p = some j → ∃ r ∈ a, r.1 = j) (by wp_walk using nk) ⟨[], [], _, _, _, rfl, rfl, ⟨.nil, fun p q j h => (by cases h), fun p j h => (by cases h)⟩, fun r hr => (by cases hr), fun p j h => by cases h⟩ ?_ ?_
    · rintro r rest _ ⟨a, O, o2, o3, o4, ha, rfl, hO, hA, hin⟩
      have hr : r ∈ T := by rw [← ha]; simp
      have hs : ∀ p, lkO O p ≠ some r.1 := fun p e => by
        obtain ⟨r', hr', e'⟩ := hin p r.1 e
        rw [← ha, List.map_append] at hnT
        exact (List.nodup_append.1 hnT).2.2 r.1 (List.mem_map.2 ⟨r', hr', e'⟩) r.1 (by simp) rfl
      obtain ⟨js, cm, e1, hR, hC⟩ := rf O hO r.1 hs ⟨r, hr, rfl⟩
      have fp := free_part_eq O cm
      refine ⟨_, rfl, ?_⟩
      cases ef : fpO O cm with
      | none =>
        rw [ef] at fp
        have fp : d_free_part [oE O, oE cm] = .ok .none := fp
        wp_walk using e1, fp
        refine ⟨a ++ [r], O, _, _, _, by rw [List.append_assoc]; exact ha, rfl, hO, fun x hx => ?_, fun p j h => ?_⟩
        · rcases List.mem_append.1 hx with g | g
          · exact hA x g
          · rw [List.mem_singleton.1 g]; exact .inr (tight_of hO hs hR hC ef)
        · obtain ⟨x, hx, e⟩ := hin p j h
          exact ⟨x, List.mem_append_left _ hx, e⟩
      | some free =>
        rw [ef] at fp
        have fp : d_free_part [oE O, oE cm] = .ok (.str free) := fp
        obtain ⟨f1, f2⟩ := fpO_some hR.cnd ef
        obtain ⟨G, e2, hG, hM⟩ := owners_along_eq hO hs hR hT.1 f1 f2 (by have := hO.len; have := hT.1; omega)
        have hmore : MoreO O G := fun j h => (hM j).2 (.inr h)
        wp_walk using e1, fp, e2
        refine ⟨a ++ [r], G, _, _, _, by rw [List.append_assoc]; exact ha, rfl, hG, fun x hx => ?_, fun p j h => ?_⟩
        · rcases List.mem_append.1 hx with g | g
          · rcases hA x g with g1 | g1
            · exact .inl (hmore _ g1)
            · exact .inr (g1.mono hmore)
          · rw [List.mem_singleton.1 g]; exact .inl ((hM r.1).2 (.inl rfl))
        · rcases (hM j).1 ⟨p, h⟩ with g | ⟨p', g⟩
          · exact ⟨r, by simp, g.symm⟩
          · obtain ⟨x, hx, e⟩ := hin p' j g
            exact ⟨x, List.mem_append_left _ hx, e⟩
    · rintro _ ⟨a, O, o2, o3, o4, ha, rfl, hO, hA, hin⟩
      rw [List.append_nil] at ha
      subst ha
      exact ⟨O, _, _, _, rfl, hO, hA⟩
  rintro _ ⟨O, o2, o3, o4, rfl, hO⟩
  wp_walk
  exact ⟨O, rfl, hO⟩
theorem vSorted_o {O : OD} (h : O.length < 64) : vSorted (oE O) = some (.list ((sortS (O.map Prod.fst)).map .str)) := by
  have e : keysS (encO O) = some (O.map Prod.fst) := by
    unfold keysS encO
    rw [List.map_map, show (Prod.fst ∘ fun x : Str × Str => (PyData.str x.1, PyData.str x.2)) = fun x : Str × Str => PyData.str x.1 from rfl]
    rw [show (O.map fun x : Str × Str => PyData.str x.1) = (O.map Prod.fst).map PyData.str by rw [List.map_map]; rfl]
    exact allStr_map _
  show (keysS (encO O)).bind (fun ss => if ss.length < 64 then some (PyData.list ((sortS ss).map .str)) else none) = _
  rw [e]
  show (if (O.map Prod.fst).length < 64 then some (PyData.list ((sortS (O.map Prod.fst)).map .str)) else none) = _
  rw [if_pos (by rw [List.length_map]; exact h)]
theorem table_from_eq {M : OD} (hn : (M.map Prod.fst).Nodup) (hl : M.length < 64) : d_table_from [.list (M.map ppE)] = .ok (pmE ((sortS (M.map Prod.fst)).map fun j => (j, (lkO M j).getD ⟨#[]⟩))) := by
  have vs := vSorted_o hl
  have sp := sortS_perm (M.map Prod.fst)
  have vg : ∀ j ∈ sortS (M.map Prod.fst), vGetD (oE M) (.str j) = some (.str ((lkO M j).getD ⟨#[]⟩)) := fun j hj => by
    obtain ⟨p, hp⟩ := lkO_key (sp.mem_iff.1 hj)
    rw [vGetD_o hp, hp]; rfl
  rw [d_table_from]
  refine run_eq ?_
  row_walk
  have e0 : PyData.dict [] = .dict (encO []) := rfl
  rw [e0]
  refine ws_mid (fun ρ => ∃ o2 o3 : Option D, ρ = [some (.list (M.map ppE)), some (oE M), o2, o3]) ?_ ?_
  · refine ws_forE ppE M (fun rest ρ => ∃ (a : OD) (o2 o3 : Option D), a ++ rest = M ∧ ρ = [some (.list (M.map ppE)), some (.dict (encO a)), o2, o3]) (by wp_walk) ⟨[], _, _, rfl, rfl⟩ ?_ ?_
    · rintro x rest _ ⟨a, o2, o3, ha, rfl⟩
      have hx : x.1 ∉ a.map Prod.fst := fun hc => by
        rw [← ha, List.map_append] at hn
        exact (List.nodup_append.1 hn).2.2 x.1 hc x.1 (by simp) rfl
      have hal : a.length < 64 := by
        have := congrArg List.length ha
        simp at this
        omega
      have hpe : putP (encO a) (.str x.1) (.str x.2) = encO (a ++ [x]) := by rw [putP_enc, putO_new hx]
      have hel := encO_len a
      have kk : (keyOf (.str x.1)).isSome = true := rfl
      refine ⟨[some (.list (M.map ppE)), some (.dict (encO a)), some (.str x.1), some (.str x.2)], rfl, ?_⟩
      wp_walk using hpe
      exact ⟨⟨kk, by omega⟩, a ++ [x], _, _, by rw [List.append_assoc]; exact ha, rfl⟩
    · rintro _ ⟨a, o2, o3, ha, rfl⟩
      rw [List.append_nil] at ha
      subst ha
      exact ⟨_, _, rfl⟩
  rintro _ ⟨o2, o3, rfl⟩
  have it : eComp [2] (gN 2) (iVal (eUn vSorted (eVar 1))) tTrue (eTup (aCons (eVar 2) (aCons (eBin vGetD (eVar 1) (eVar 2)) aNil))) [some (.list (M.map ppE)), some (oE M), o2, o3] = .ok (.list ((sortS (M.map Prod.fst)).map fun j => .tuple [.str j, .str ((lkO M j).getD ⟨#[]⟩)])) := by
    refine eComp_map .str (fun j => .tuple [.str j, .str ((lkO M j).getD ⟨#[]⟩)]) (sortS (M.map Prod.fst)) (by wp_walk using vs) fun j hj => ⟨_, rfl, ?_⟩
    have := vg j hj
    wp_walk using this
  wp_walk using it
  unfold pmE
  rw [List.map_map]; rfl
theorem match_of_eq {T : CT} (hT : CtOk T) {O : OD} (hO : OwnOk T O) (hall : ∀ r ∈ T, ∃ p, lkO O p = some r.1) : ∃ σ, SOk T σ ∧ d_match_of [oE O] = .ok (pmE (mS (T.map Prod.fst) σ)) := by
  obtain ⟨M, hM⟩ : ∃ M : OD, M = O.map fun x => (x.2, x.1) := ⟨_, rfl⟩
  have hol := hO.len
  have h8 := hT.1
  have Mfst : M.map Prod.fst = O.map Prod.snd := by rw [hM, List.map_map]; rfl
  have hnM : (M.map Prod.fst).Nodup := by
    rw [Mfst]
    have hp := List.pairwise_map.1 hO.nd
    refine List.pairwise_map.2 (hp.imp_of_mem fun {a b} ha hb hne e => hne ?_)
    exact hO.inj a.1 b.1 a.2 (mem_lkO hO.nd ha) (by rw [e]; exact mem_lkO hO.nd hb)
  have Mlen : M.length < 64 := by rw [hM, List.length_map]; omega
  have sw : ∀ p j, lkO O p = some j ↔ lkO M j = some p := fun p j => by
    constructor
    · intro h
      refine mem_lkO hnM ?_
      rw [hM]
      exact List.mem_map.2 ⟨_, lkO_mem h, rfl⟩
    · intro h
      have := lkO_mem h
      rw [hM] at this
      obtain ⟨x, hx, e⟩ := List.mem_map.1 this
      injection e with e1 e2
      rw [← e1, ← e2]
      exact mem_lkO hO.nd hx
  have hJ : sortS (M.map Prod.fst) = T.map Prod.fst := by
    refine asc_ext (sortS_asc hnM) hT.2.1.1 fun z => ?_
    rw [(sortS_perm _).mem_iff]
    constructor
    · intro h
      obtain ⟨p, hp⟩ := lkO_key h
      obtain ⟨r, hr, e, _⟩ := hO.row p z ((sw p z).2 hp)
      exact List.mem_map.2 ⟨r, hr, e⟩
    · intro h
      obtain ⟨r, hr, rfl⟩ := List.mem_map.1 h
      obtain ⟨p, hp⟩ := hall r hr
      exact key_lkO ((sw p r.1).1 hp)
  have tf := table_from_eq hnM Mlen
  rw [hJ] at tf
  have σval : ∀ r ∈ T, lkO O ((lkO M r.1).getD ⟨#[]⟩) = some r.1 := fun r hr => by
    obtain ⟨p, hp⟩ := hall r hr
    have := (sw p r.1).1 hp
    rw [this]
    exact hp
  refine ⟨fun j => (lkO M j).getD ⟨#[]⟩, ⟨fun r hr => ?_, fun r hr s hs e => ?_⟩, ?_⟩
  · obtain ⟨r', hr', e1, e2⟩ := hO.row _ _ (σval r hr)
    have := row_uniq (asc_nodup hT.2.1.1) hr' hr e1
    subst this
    exact e2
  · have h1 := σval r hr
    have h2 := σval s hs
    have e : (lkO M r.1).getD ⟨#[]⟩ = (lkO M s.1).getD ⟨#[]⟩ := e
    rw [e, h2] at h1
    exact (Option.some.inj h1).symm
  · have ik := keys_o O
    have vg : ∀ x ∈ O, vGetD (oE O) (.str x.1) = some (.str x.2) := fun x hx => vGetD_o (mem_lkO hO.nd hx)
    have it : eComp [1] (gN 1) (iKeysD (eVar 0)) tTrue (eTup (aCons (eBin vGetD (eVar 0) (eVar 1)) (aCons (eVar 1) aNil))) [some (oE O), none] = .ok (.list (M.map ppE)) := by
      rw [hM, List.map_map]
      refine eComp_map (fun x : Str × Str => .str x.1) (ppE ∘ fun x : Str × Str => (x.2, x.1)) O (by wp_walk using iKeysD_ap, ik; rw [List.map_map]; rfl) fun x hx => ⟨_, rfl, ?_⟩
      have := vg x hx
      wp_walk using this
      rfl
    rw [d_match_of]
    refine run_eq ?_
    wp_walk using it, tf
    rfl
theorem tight_use {T : CT} {O : OD} (hO : OwnOk T O) {s : Str} (ht : Tight T O s) {js : List Str} {cm : OD} (h : Rchd T O s js cm) : ∀ p j, lkO cm p = some j → ∃ j', lkO O p = some j' := by
  obtain ⟨A, B, h1, h2, h3, h4, h5⟩ := ht
  obtain ⟨f, hf⟩ : ∃ f : Str → Str, ∀ a ∈ A, lkO O (f a) = some a := by
    have : ∀ a : Str, ∃ p : Str, a ∈ A → lkO O p = some a := fun a => by
      by_cases ha : a ∈ A
      · obtain ⟨p, hp⟩ := h5 a ha; exact ⟨p, fun _ => hp⟩
      · exact ⟨⟨#[]⟩, fun g => (ha g).elim⟩
    exact Classical.skolem.1 this
  have fB : ∀ a ∈ A, f a ∈ B := fun a ha => by
    obtain ⟨r, hr, e1, e2⟩ := hO.row _ _ (hf a ha)
    exact h4 a (by simp [ha]) r hr e1 _ e2
  have ndf : (A.map f).Nodup := List.pairwise_map.2 (h1.imp_of_mem fun ha hb hne e => hne (by
    have x1 := hf _ ha
    have x2 := hf _ hb
    rw [e, x2] at x1
    cases x1; rfl))
  have pm : (A.map f).Perm B := perm_of_sub _ _ ndf (fun b hb => by
    obtain ⟨a, ha, rfl⟩ := List.mem_map.1 hb
    exact fB a ha) (by rw [List.length_map]; omega)
  have Bown : ∀ b ∈ B, ∃ a ∈ A, lkO O b = some a := fun b hb => by
    obtain ⟨a, ha, rfl⟩ := List.mem_map.1 (pm.mem_iff.2 hb)
    exact ⟨a, ha, hf a ha⟩
  have inA : ∀ (n i : Nat) (j : Str), i ≤ n → js[i]? = some j → j ∈ s :: A := by
    intro n
    induction n with
    | zero =>
      intro i j hi hj
      rw [show i = 0 by omega, h.st] at hj
      cases hj
      simp
    | succ n ih =>
      intro i j hi hj
      rcases h.way i j hj with g | ⟨p, i', j', g1, g2, g3, g4⟩
      · rw [g, h.st] at hj
        cases hj
        simp
      · have hj' := ih i' j' (by omega) g2
        obtain ⟨_, r, hr, e1, e2⟩ := h.crow p j' g4
        obtain ⟨a, ha, e3⟩ := Bown p (h4 j' hj' r hr e1 p e2)
        rw [g3] at e3
        cases e3
        exact List.mem_cons_of_mem _ ha
  intro p j e
  obtain ⟨hj, r, hr, e1, e2⟩ := h.crow p j e
  obtain ⟨i, hi, ei⟩ := List.mem_iff_getElem.1 hj
  have := inA i i j (Nat.le_refl _) (by rw [List.getElem?_eq_getElem hi, ei])
  obtain ⟨a, _, e3⟩ := Bown p (h4 j this r hr e1 p e2)
  exact ⟨a, e3⟩
theorem matching_report_eq {T : CT} (hT : CtOk T) : ∃ v, d_matching_report [ctE T] = .ok v ∧ ((∃ σ, SOk T σ ∧ v = .tuple [.str "match", pmE (mS (T.map Prod.fst) σ)]) ∨ ∃ A B, CutOk T A B ∧ v = .tuple [.str "cut", stTp A, stTp B]) := by
  obtain ⟨O, eO, hO, hG⟩ := greatest_owners_eq hT
  have nk := names_of_ct T
  have h8 := hT.1
  have pa := fun j => part_at_eq hO.nd j
  have mo : (∀ r ∈ T, ∃ p, lkO O p = some r.1) → ∃ σ, SOk T σ ∧ d_match_of [oE O] = .ok (pmE (mS (T.map Prod.fst) σ)) := match_of_eq hT hO
  have rf := fun s (hs : ∀ p, lkO O p ≠ some s) hsT => reached_from_eq hT hO hs (s := s) hsT
  have vso : ∀ cm : OD, cm.length < 64 → vSorted (oE cm) = some (.list ((sortS (cm.map Prod.fst)).map .str)) := fun cm h => vSorted_o h
  rw [d_matching_report]
  refine run_ws ?_
  generalize ctE T = TE at *
  generalize oE O = OE at *
  row_walk with [eO]
  refine ws_find (fun r : Str × List Str => .str r.1) (fun r => (ptO O r.1).isNone) T (fun ρ => ∃ o2 : Option D, ρ = [some TE, some OE, o2, none, none]) (by wp_walk using nk) ⟨_, rfl⟩ ?_ ?_
  · rintro r hr _ ⟨o2, rfl⟩
    have p1 := pa r.1
    refine ⟨_, rfl, fun hc hf => ?_, fun hc => ?_⟩
    · cases ep : ptO O r.1 with
      | some p => rw [ep] at hc; cases hc
      | none =>
        rw [ep] at p1
        have p1 : d_part_at [OE, .str r.1] = .ok .none := p1
        have hs := ptO_none ep
        obtain ⟨js, cm, e1, hR, hC⟩ := rf r.1 hs ⟨r, hr, rfl⟩
        have ht : Tight T O r.1 := by
          rcases hG r hr with ⟨p, g⟩ | g
          · exact (hs p g).elim
          · exact g
        obtain ⟨k1, _⟩ := hR.keys hO hs (tight_use hO ht hR)
        have hjl := hR.len
        have v1 := vSorted_strs js
        have v2 := vso cm (by omega)
        wp_walk using p1, e1, v1, v2
        refine .inr ⟨sortS js, sortS (cm.map Prod.fst), ⟨⟨sortS_asc hR.nd, fun z hz => ?_⟩, ⟨sortS_asc hR.cnd, fun z hz => ?_⟩, ?_, fun j hj => hR.inT j ((sortS_perm js).mem_iff.1 hj), fun r' hr' hj p hp => ?_⟩, rfl⟩
        · obtain ⟨r', hr', e⟩ := hR.inT z ((sortS_perm js).mem_iff.1 hz)
          rw [← e]
          exact hT.2.1.2 _ (List.mem_map.2 ⟨r', hr', rfl⟩)
        · obtain ⟨j, hj⟩ := lkO_key ((sortS_perm _).mem_iff.1 hz)
          obtain ⟨_, r', hr', e1, e2⟩ := hR.crow z j hj
          exact (hT.2.2 r' hr').2.2 z e2
        · rw [(sortS_perm js).length_eq, (sortS_perm _).length_eq, List.length_map]; omega
        · exact (sortS_perm _).mem_iff.2 (closed_all hC ((sortS_perm js).mem_iff.1 hj) hr' rfl p hp)
    · cases ep : ptO O r.1 with
      | none => rw [ep] at hc; cases hc
      | some p =>
        rw [ep] at p1
        have p1 : d_part_at [OE, .str r.1] = .ok (.str p) := p1
        wp_walk using p1
        exact ⟨_, rfl⟩
  · rintro _ ⟨o2, rfl⟩ hf
    obtain ⟨σ, hσ, e2⟩ := mo fun r hr => by
      have := List.find?_eq_none.1 hf r hr
      cases ep : ptO O r.1 with
      | none => rw [ep] at this; simp at this
      | some p => exact ⟨p, ptO_some hO.nd ep⟩
    wp_walk using e2
    exact .inl ⟨σ, hσ, rfl⟩
theorem mk_fst (J P : List Str) (t : Nat → Nat → Bool) : (mkCT J P t).map Prod.fst = J := by
  unfold mkCT
  rw [List.map_map]
  refine List.ext_getElem (by simp) fun i h1 h2 => ?_
  simp [List.getD, h2]
theorem range_sub (P : List Str) (f : Nat → Bool) : (((List.range P.length).filter f).map fun p => P.getD p ⟨#[]⟩).Sublist P := by
  have h : (List.range P.length).map (fun p => P.getD p ⟨#[]⟩) = P := by
    refine List.ext_getElem (by simp) fun i h1 h2 => ?_
    simp [List.getD, h2]
  have := (List.filter_sublist (p := f) (l := List.range P.length)).map fun p => P.getD p ⟨#[]⟩
  rw [h] at this
  exact this
theorem NmRow.sub {l m : List Str} (h : NmRow l) (hs : m.Sublist l) : NmRow m := ⟨h.1.sublist hs, fun z hz => h.2 z (hs.subset hz)⟩
theorem mk_ok {J P : List Str} (t : Nat → Nat → Bool) (h1 : J.length ≤ 8) (h2 : P.length ≤ 24) (hJ : NmRow J) (hP : NmRow P) : CtOk (mkCT J P t) := by
  refine ⟨by simp [mkCT]; exact h1, by rw [mk_fst]; exact hJ, fun p hp => ?_⟩
  obtain ⟨k, _, rfl⟩ := List.mem_map.1 hp
  have s := range_sub P (t k)
  exact ⟨Nat.le_trans s.length_le h2, hP.sub s⟩
theorem sel_cut {T : CT} (hT : CtOk T) {S : CT} (hS : S.Sublist T) {B : List Str} (hB : PtsOf S B) : cutB T (stTp (S.map Prod.fst)) (stTp B) = decide (B.length < S.length) := by
  have hA : NmRow (S.map Prod.fst) := hT.2.1.sub (hS.map _)
  by_cases h : B.length < S.length
  · rw [decide_eq_true h]
    refine cutB_yes ⟨_, _, rfl, rfl, hA, hB.1, by rw [List.length_map]; exact h, fun j hj => ?_, fun r hr hj p hp => ?_⟩
    · obtain ⟨r, hr, e⟩ := List.mem_map.1 hj
      exact ⟨r, hS.subset hr, e⟩
    · obtain ⟨r', hr', e⟩ := List.mem_map.1 hj
      have := row_uniq (asc_nodup hT.2.1.1) (hS.subset hr') hr e
      subst this
      exact (hB.2 p).2 ⟨r', hr', hp⟩
  · rw [decide_eq_false h]
    refine cutB_no fun ⟨A', B', e1, e2, hc⟩ => h ?_
    have hlt := hc.lt
    rw [← strs_inj e1, ← strs_inj e2, List.length_map] at hlt
    exact hlt
theorem bp_pl {m : Nat} : ∀ {n : Nat} {d : D}, bpS m n d → pl n d = true
  | 0, _, h => h.elim
  | n + 1, d, h => by
    cases d with
    | str z => simp [pl, noDict, PyData.depth]
    | tuple l => exact pl_tup fun x hx => bp_pl (h x hx)
    | none => simp [pl, noDict, PyData.depth]
    | bool b => simp [pl, noDict, PyData.depth]
    | int i => simp [pl, noDict, PyData.depth]
    | list l => exact h.elim
    | dict l => exact h.elim
theorem bp_fine {m n : Nat} {d : D} (h : bpS m n d) (hn : n ≤ 60) : fine d = true := pl_fine (bp_pl h) (by omega)
/-! slices -/
theorem eqvAll_str : ∀ l m : List Str, PyData.eqvAll (l.map .str) (m.map .str) = decide (l = m)
  | [], [] => rfl
  | [], _ :: _ => by simp [PyData.eqvAll]
  | _ :: _, [] => by simp [PyData.eqvAll]
  | a :: l, b :: m => by
    simp only [List.map_cons, PyData.eqvAll, PyData.eqv, eqvAll_str l m]
    exact Bool.eq_iff_iff.2 (by simp)
theorem fine_nms (l : List Str) : fine (.tuple (l.map .str)) = true := pl_fine (n := 2) (pl_tup (n := 1) fun x hx => by
  obtain ⟨z, _, rfl⟩ := List.mem_map.1 hx
  rfl) (by decide)
theorem ascOk_L (l : List D) : ascOk l = ascLB (.tuple l) := by
  have h := ascB_ascL (.tuple l) 0 l.length
  have e : lenB (.tuple l) 0 l.length = true := by show decide _ = true; exact decide_eq_true ⟨Nat.zero_le _, Nat.le_refl _⟩
  rw [e, Bool.and_true] at h
  unfold ascB at h
  rw [e, Bool.true_and] at h
  exact h
def fst0 : D → D
  | .tuple (a :: _) => a
  | _ => .none
def pairB (p : D) : Bool := lenB p 2 2
def snd1 : D → D
  | .tuple (_ :: b :: _) => b
  | _ => .none
theorem pair_of {p : D} (h : pairB p = true) : p = .tuple [fst0 p, snd1 p] := by
  cases p with
  | tuple l =>
    have := of_decide_eq_true h
    match l with
    | [] => simp at this
    | [_] => simp at this
    | [a, b] => rfl
    | _ :: _ :: _ :: r => simp at this
  | _ => cases h
def tblOk (l : List D) : Bool := l.all pairB && ascOk (l.map fst0)
def tblB (v : D) (lo hi : Nat) : Bool := lenB v lo hi && (match v with | .tuple l => tblOk l | _ => false)
theorem is_table_g (v : D) (lo hi : Nat) (hh : hi ≤ 1000000) : d_is_table [v, .int lo, .int hi] = .ok (.bool (tblB v lo hi)) := by
  rw [d_is_table]
  refine run_eq ?_
  have ir := is_row_g v lo hi
  cases h : lenB v lo hi with
  | false =>
    wp_walk using ir, h
    simp [tblB, h]
  | true =>
    wp_walk using ir, h
    cases v with
    | tuple l =>
      have hl := of_decide_eq_true h
      have e : tblB (.tuple l) lo hi = tblOk l := by unfold tblB; rw [h, Bool.true_and]
      rw [e]
      refine ws_all id pairB l (fun ρ => ∃ o, ρ = [some (.tuple l), some (.int lo), some (.int hi), o]) (by rw [List.map_id]; wp_walk) ⟨_, rfl⟩ ?_ ?_ ?_
      · rintro x hx _ ⟨o, rfl⟩
        refine ⟨_, rfl, ?_⟩
        have ir2 := is_row_g x 2 2
        simp only [Int.cast_ofNat_Int] at ir2
        wp_walk using ir2, id
        show if lenB x 2 2 = false then _ else _
        unfold pairB
        cases lenB x 2 2 <;> simp
      · intro ha
        unfold tblOk
        rw [ha]; rfl
      · rintro _ ⟨o, rfl⟩ ha
        wp_walk
        have it : eComp [3] (gN 3) (iVal (eVar 0)) tTrue (eBin vIdx (eVar 3) (eC (.int 0))) [some (.tuple l), some (.int lo), some (.int hi), o] = .ok (.list (l.map fst0)) := by
          refine eComp_map id fst0 l (by rw [List.map_id]; exact iVal_tup rfl) fun x hx => ⟨_, rfl, ?_⟩
          have := pair_of (List.all_eq_true.1 ha x hx)
          obtain ⟨a, b, hab⟩ : ∃ a b, x = .tuple [a, b] := ⟨_, _, this⟩
          subst hab
          wp_walk using id
          rfl
        have ig := is_ascending_g (.tuple (l.map fst0)) lo hi hh
        wp_walk using it, ig
        unfold ascB tblOk
        rw [ha, show lenB (.tuple (l.map fst0)) lo hi = true by show decide _ = true; rw [List.length_map]; exact decide_eq_true hl]
    | _ => cases h
theorem tblB_pm {T : CT} (hT : CtOk T) {M : List (Str × Str)} (h : PM T M) : tblB (pmE M) 0 T.length = true := by
  have hl := h.len hT
  show (decide (0 ≤ (M.map ppE).length ∧ (M.map ppE).length ≤ T.length) && tblOk (M.map ppE)) = true
  rw [decide_eq_true ⟨Nat.zero_le _, by rw [List.length_map]; exact hl⟩, Bool.true_and]
  unfold tblOk
  rw [Bool.and_eq_true]
  refine ⟨List.all_eq_true.2 fun x hx => ?_, ?_⟩
  · obtain ⟨y, _, rfl⟩ := List.mem_map.1 hx
    rfl
  · rw [ascOk_L, List.map_map]
    have := asc_L (N := M.map Prod.fst) ⟨h.1, fun z hz => by
      obtain ⟨x, hx, rfl⟩ := List.mem_map.1 hz
      exact (h.nm hT x hx).1⟩
    rw [List.map_map] at this
    exact this
theorem value_kvN {T : Tb} {j : Str} (h : lookKV T j = none) (d : D) : d_value_of [tbE T, .str j, d] = .ok d := by
  rw [d_value_of]
  refine run_eq ?_
  wp_walk
  refine ws_find kvE (fun p => decide (p.1 = j)) T (fun ρ => ∃ o : Option D, ρ = [some (tbE T), some (.str j), some d, o]) (by wp_walk using items_tb) ⟨_, rfl⟩ ?_ ?_
  · rintro p hp _ ⟨o, rfl⟩
    refine ⟨_, rfl, fun hc hf => ?_, fun hc => ?_⟩
    · unfold lookKV at h
      rw [hf] at h
      cases h
    · have hc := of_decide_eq_false hc
      wp_walk using kvE_0, hc
      exact ⟨_, rfl⟩
  · rintro _ ⟨o, rfl⟩ hf
    wp_walk
theorem value_ctN {T : CT} {j : Str} (h : j ∉ T.map Prod.fst) (d : D) : d_value_of [ctE T, .str j, d] = .ok d := by
  refine value_kvN ?_ d
  unfold lookKV ctT
  rw [Option.map_eq_none_iff, List.find?_eq_none]
  intro x hx
  obtain ⟨y, hy, rfl⟩ := List.mem_map.1 hx
  have : y.1 ≠ j := fun e => h (List.mem_map.2 ⟨y, hy, e⟩)
  simpa using this
theorem is_partial_eq {T : CT} (hT : CtOk T) (v : D) {m : Nat} (hv : bpS m 50 v) : d_is_partial [ctE T, v] = .ok (.bool (pmB T v)) := by
  have vl := ct_len T
  have hn := asc_nodup hT.2.1.1
  have h8 := hT.1
  have vr := fun r (hr : r ∈ T) => value_ct hn hr (.tuple [])
  have vrn := fun j (h : j ∉ T.map Prod.fst) => value_ctN h (.tuple [])
  have it := is_table_g v 0 T.length (by omega)
  simp only [Int.cast_ofNat_Int] at it
  have isn := is_name_all
  rw [d_is_partial]
  refine run_eq ?_
  cases h1 : tblB v 0 T.length with
  | false =>
    rw [h1] at it
    rw [pmB_no fun ⟨M, e, h⟩ => by rw [e, tblB_pm hT h] at h1; cases h1]
    wp_walk using vl, it
  | true =>
    rw [h1] at it
    cases v with
    | tuple l =>
      have hb : ∀ x ∈ l, bpS m 49 x := hv
      have hll : l.length ≤ T.length := by
        have := (Bool.and_eq_true_iff.1 h1).1
        exact (of_decide_eq_true this).2
      have hok : tblOk l = true := (Bool.and_eq_true_iff.1 h1).2
      obtain ⟨o1, o2⟩ := Bool.and_eq_true_iff.1 hok
      rw [ascOk_L] at o2
      obtain ⟨N, eN, hN⟩ := asc_R o2
      have eN : l.map fst0 = N.map .str := by injection eN
      -- every item: a name and something
      have item : ∀ x ∈ l, ∃ (z : Str) (b : D), x = .tuple [.str z, b] ∧ bpS m 48 b := fun x hx => by
        have hp := pair_of (List.all_eq_true.1 o1 x hx)
        have hm : fst0 x ∈ l.map fst0 := List.mem_map.2 ⟨x, hx, rfl⟩
        rw [eN] at hm
        obtain ⟨z, _, ez⟩ := List.mem_map.1 hm
        have hbx : ∀ y ∈ [fst0 x, snd1 x], bpS m 48 y := by
          have := hb x hx
          rw [hp] at this
          exact this
        exact ⟨z, snd1 x, by rw [ez]; exact hp, hbx _ (by simp)⟩
      generalize ctE T = TE at *
      row_walk
      refine ws_ifF (by wp_walk using vl, it) (ws_skip ?_)
      row_walk
      by_cases hM : ∃ M, PyData.tuple l = pmE M ∧ PM T M
      · rw [pmB_yes hM]
        obtain ⟨M, eM, pm⟩ := hM
        have eM : l = M.map ppE := by injection eM
        refine ws_forE ppE M (fun rest ρ => ∃ (a : List (Str × Str)) (o3 o4 : Option D), a ++ rest = M ∧ ρ = [some TE, some (.tuple l), some (.list ((a.map Prod.snd).map .str)), o3, o4]) (by rw [← eM]; wp_walk) ⟨[], _, _, rfl, rfl⟩ ?_ (fun ρ ⟨a, o3, o4, _, e⟩ => by subst e; wp_walk)
        rintro x rest _ ⟨a, o3, o4, ha, rfl⟩
        have hx : x ∈ M := by rw [← ha]; simp
        have hal : a.length ≤ T.length := by
          have := congrArg List.length ha
          have := pm.len hT
          simp at *
          omega
        obtain ⟨n1, n2⟩ := pm.nm hT x hx
        have i1 := isn (.str x.2)
        rw [show nameB (.str x.2) = true from n2] at i1
        have nin : x.2 ∉ a.map Prod.snd := fun hc => by
          have := pm.2.1
          rw [← ha, List.map_append] at this
          exact (List.nodup_append.1 this).2.2 _ hc x.2 (by simp) rfl
        have nin' : (x.2 ∈ a.map Prod.snd) = False := eq_false nin
        have vi := vIn_strL x.2 (a.map Prod.snd)
        obtain ⟨r, hr, er, hpr⟩ := pm.2.2 x hx
        have v1 := vr r hr
        rw [er] at v1
        have vn := vNotIn_strT x.2 r.2
        have hpr' : (x.2 ∈ r.2) = True := eq_true hpr
        refine ⟨[some TE, some (.tuple l), some (.list ((a.map Prod.snd).map .str)), some (.str x.1), some (.str x.2)], rfl, ?_⟩
        wp_walk using i1, vi, nin', v1, vn, hpr'
        exact ⟨by omega, a ++ [x], some (.str x.1), some (.str x.2), by rw [List.append_assoc]; exact ha, by rw [List.map_append, List.map_append]; rfl⟩
      · rw [pmB_no hM]
        refine ws_for (ds := l) (fun rest ρ => ∃ (M : List (Str × Str)) (o3 o4 : Option D), M.map ppE ++ rest = l ∧ (M.map Prod.snd).Nodup ∧ (∀ x ∈ M, ∃ r ∈ T, r.1 = x.1 ∧ x.2 ∈ r.2) ∧ ρ = [some TE, some (.tuple l), some (.list ((M.map Prod.snd).map .str)), o3, o4]) (by wp_walk) ⟨[], _, _, rfl, .nil, fun x hx => (by cases hx), rfl⟩ ?_ ?_
        · rintro x rest _ ⟨M, o3, o4, hl', hn2, hr2, rfl⟩
          have hx : x ∈ l := by rw [← hl']; simp
          obtain ⟨z, b, rfl, hbb⟩ := item x hx
          have hMl : M.length < l.length := by rw [← hl']; simp
          have i1 := isn b
          refine ⟨[some TE, some (.tuple l), some (.list ((M.map Prod.snd).map .str)), some (.str z), some b], rfl, ?_⟩
          cases nb : nameB b with
          | false =>
            rw [nb] at i1
            wp_walk using i1
          | true =>
            rw [nb] at i1
            obtain ⟨p, rfl⟩ := nameB_str nb
            have vi := vIn_strL p (M.map Prod.snd)
            by_cases hp : p ∈ M.map Prod.snd
            · have hp' : (p ∈ M.map Prod.snd) = True := eq_true hp
              wp_walk using i1, vi, hp'
            · have hp' : (p ∈ M.map Prod.snd) = False := eq_false hp
              by_cases hz : z ∈ T.map Prod.fst
              · obtain ⟨r, hr, er⟩ := List.mem_map.1 hz
                have v1 := vr r hr
                rw [er] at v1
                have vn := vNotIn_strT p r.2
                by_cases hpr : p ∈ r.2
                · have hpr' : (p ∈ r.2) = True := eq_true hpr
                  wp_walk using i1, vi, hp', v1, vn, hpr'
                  refine ⟨by omega, M ++ [(z, p)], some (.str z), some (.str p), by rw [List.map_append, List.append_assoc]; exact hl', by rw [List.map_append]; exact nodup_snoc.2 ⟨hn2, hp⟩, fun y hy => ?_, by rw [List.map_append, List.map_append]; rfl⟩
                  rcases List.mem_append.1 hy with g | g
                  · exact hr2 y g
                  · rw [List.mem_singleton.1 g]; exact ⟨r, hr, er, hpr⟩
                · have hpr' : (p ∈ r.2) = False := eq_false hpr
                  wp_walk using i1, vi, hp', v1, vn, hpr'
              · have v1 := vrn z hz
                have vn := vNotIn_strT p []
                have vn : vNotIn (.str p) (.tuple []) = some (.bool true) := by simpa using vn
                wp_walk using i1, vi, hp', v1, vn
        · rintro _ ⟨M, o3, o4, hl', hn2, hr2, rfl⟩
          rw [List.append_nil] at hl'
          refine (hM ⟨M, by unfold pmE; rw [hl'], ?_, hn2, hr2⟩).elim
          have : M.map Prod.fst = N := by
            rw [← hl', List.map_map] at eN
            have h2 := congrArg (List.map strOf) eN
            rw [strOf_map, List.map_map] at h2
            exact h2
          rw [this]
          exact hN.1
    | _ => cases h1
theorem is_match_eq {T : CT} (hT : CtOk T) (v : D) {m : Nat} (hv : bpS m 50 v) : d_is_match [ctE T, v] = .ok (.bool (fmB T v)) := by
  have ip := is_partial_eq hT v hv
  have nk := names_of_ct T
  rw [show (T.map fun r => PyData.str r.1) = (T.map Prod.fst).map .str by rw [List.map_map]; rfl] at nk
  by_cases h : ∃ M, v = pmE M ∧ PM T M
  · obtain ⟨M, rfl, pm⟩ := h
    rw [pmB_yes ⟨M, rfl, pm⟩] at ip
    have nm : d_names_of [pmE M] = .ok (.tuple ((M.map Prod.fst).map .str)) := by
      have := names_kv (M.map fun x => (x.1, PyData.str x.2))
      rw [show (M.map fun x => (x.1, PyData.str x.2)).map Prod.fst = M.map Prod.fst by rw [List.map_map]; rfl] at this
      rw [show pmE M = tbE (M.map fun x => (x.1, PyData.str x.2)) by unfold pmE tbE; rw [List.map_map]; rfl]
      exact this
    have ve : vEq (.tuple ((M.map Prod.fst).map .str)) (.tuple ((T.map Prod.fst).map .str)) = some (.bool (decide (M.map Prod.fst = T.map Prod.fst))) := by
      rw [vEq_of (fine_nms _) (fine_nms _)]
      show some (PyData.bool (PyData.eqvAll ((M.map Prod.fst).map .str) ((T.map Prod.fst).map .str))) = _
      rw [eqvAll_str]
    have e : fmB T (pmE M) = decide (M.map Prod.fst = T.map Prod.fst) := by
      by_cases hf : M.map Prod.fst = T.map Prod.fst
      · rw [fmB_yes ⟨M, rfl, pm, hf⟩, decide_eq_true hf]
      · rw [fmB_no fun ⟨M', e', fm⟩ => hf (by rw [pmE_inj e']; exact fm.2), decide_eq_false hf]
    rw [e, d_is_match]
    refine run_eq ?_
    generalize pmE M = ME at *
    wp_walk using ip, nm, nk, ve
  · rw [pmB_no h] at ip
    rw [fmB_no fun ⟨M', e', fm⟩ => h ⟨M', e', fm.1⟩, d_is_match]
    refine run_eq ?_
    wp_walk using ip
def lenIs (v : D) (n : Nat) : Bool := match v with
  | .tuple l => decide (l.length = n)
  | _ => false
theorem is_row_all (v : D) (n : Nat) : d_is_row [v, .int n, .int n] = .ok (.bool (lenIs v n)) := by
  rw [d_is_row]
  refine run_eq ?_
  walk_at "ev"
  refine ws_back ?_ rfl
  cases v with
  | tuple l =>
    walk_at "ev"
    show _ = Res.ok (PyData.bool (decide (l.length = n)))
    by_cases g : (n : Int) ≤ l.length
    · by_cases g2 : (l.length : Int) ≤ n
      · have : l.length = n := by omega
        simp [this]
      · have : ¬ l.length = n := by omega
        simp [g, g2, this]
    · have : ¬ l.length = n := by omega
      simp [g, this]
  | _ => walk_at "evr"
/-- what the papers say -/
noncomputable def shwB (T : CT) (p : D) : Bool := match p with
  | .tuple [w, a] => strIs w "match" && fmB T a
  | .tuple [w, a, b] => strIs w "cut" && cutB T a b
  | _ => false
theorem vEq_strR {x : D} (h : fine x = true) (w : Str) : vEq x (.str w) = some (.bool (strIs x w)) := by
  rw [vEq_of h rfl, eqv_strR]
theorem shows_matching_eq {T : CT} (hT : CtOk T) (p : D) {m : Nat} (hp : bpS m 50 p) : d_shows_matching [ctE T, p] = .ok (.bool (shwB T p)) := by
  have r2 := is_row_all p 2
  have r3 := is_row_all p 3
  simp only [Int.cast_ofNat_Int] at r2 r3
  have im := fun v (h : bpS m 50 v) => is_match_eq hT v h
  have ic := is_cut_eq hT
  rw [d_shows_matching]
  refine run_eq ?_
  generalize ctE T = TE at *
  cases p with
  | tuple l =>
    have hb : ∀ x ∈ l, bpS m 49 x := hp
    match l with
    | [] => wp_walk using r2, r3, lenIs; rfl
    | [a] => wp_walk using r2, r3, lenIs; rfl
    | [w, a] =>
      have f1 := vEq_strR (bp_fine (hb w (by simp)) (by decide)) "match"
      have i1 := im a (bpS_mono (Nat.le_refl _) (by decide) (hb a (by simp)))
      cases hw : strIs w "match" with
      | false =>
        wp_walk using r2, r3, lenIs, f1, hw
        simp [shwB, hw]
      | true =>
        wp_walk using r2, r3, lenIs, f1, hw, i1
        simp [shwB, hw]
    | [w, a, b] =>
      have f1 := vEq_strR (bp_fine (hb w (by simp)) (by decide)) "cut"
      have i1 := ic a b
      cases hw : strIs w "cut" with
      | false =>
        wp_walk using r2, r3, lenIs, f1, hw
        simp [shwB, hw]
      | true =>
        wp_walk using r2, r3, lenIs, f1, hw, i1
        simp [shwB, hw]
    | _ :: _ :: _ :: _ :: r =>
      have h2 : ¬ (r.length + 1 + 1 + 1 + 1 = 2) := by omega
      have h3 : ¬ (r.length + 1 + 1 + 1 + 1 = 3) := by omega
      wp_walk using r2, r3, lenIs, h2, h3
      rfl
  | _ => wp_walk using r2, r3, lenIs; rfl
theorem CutOk.noFM {T : CT} (hT : CtOk T) {A B : List Str} (h : CutOk T A B) : ∀ M, ¬ FM T M := fun M hM => by
  obtain ⟨σ, hσ, _⟩ := fm_sok hT hM
  have nd : (A.map σ).Nodup := List.pairwise_map.2 ((asc_nodup h.a.1).imp_of_mem fun ha hb hne e => by
    obtain ⟨r, hr, er⟩ := h.inT _ ha
    obtain ⟨s, hs, es⟩ := h.inT _ hb
    rw [← er, ← es] at e
    exact hne (by rw [← er, ← es]; exact hσ.inj r hr s hs e))
  have := len_le_of nd (m := B) fun p hp => by
    obtain ⟨j, hj, rfl⟩ := List.mem_map.1 hp
    obtain ⟨r, hr, er⟩ := h.inT j hj
    rw [← er]
    exact h.cl r hr (by rw [er]; exact hj) _ (hσ.inn r hr)
  have hl := h.lt
  simp at this
  omega
theorem PtsOf.uniq {S : CT} {B B' : List Str} (h : PtsOf S B) (h' : PtsOf S B') : B = B' := asc_ext h.1.1 h'.1.1 fun z => (h.2 z).trans (h'.2 z).symm
theorem law_true (ns : List Int) : d_law_29 [.list (ns.map .int)] = .ok (.bool true) := by
  obtain ⟨q, eq, hq⟩ := law_pool_eq ns
  obtain ⟨m2, i2, _, _⟩ := pool_at hq (k := 2) (by decide)
  obtain ⟨m3, i3, _, _⟩ := pool_at hq (k := 3) (by decide)
  simp only [Int.cast_ofNat_Int] at i2 i3
  have e2 : (8 : Int) + ((m2 : Nat) : Int) % 17 = ((8 + m2 % 17 : Nat) : Int) := by omega
  have e3 : ((m3 : Nat) : Int) % 6 = 0 ∨ ((m3 : Nat) : Int) % 6 = 1 ∨ ((m3 : Nat) : Int) % 6 = 2 ∨ ((m3 : Nat) : Int) % 6 = 3 ∨ ((m3 : Nat) : Int) % 6 = 4 ∨ ((m3 : Nat) : Int) % 6 = 5 ∨ ((m3 : Nat) : Int) % 6 = 6 := by omega
  obtain ⟨J, P, eT, lJ, lP, oJ, oP, _⟩ := law_table_3_eq hq e3 (size := 8) (wide := 8 + m2 % 17) (by omega) (by omega)
  have hT := mk_ok (fun k p => takesB q (((m3 : Nat) : Int) % 6) k p 8) (by omega) (by omega) oJ oP
  have lT : (mkCT J P fun k p => takesB q (((m3 : Nat) : Int) % 6) k p 8).length = 8 := by unfold mkCT; rw [List.length_map, List.length_range, lJ]
  simp only [Int.cast_ofNat_Int] at eT
  generalize mkCT J P (fun k p => takesB q (((m3 : Nat) : Int) % 6) k p 8) = T at eT hT lT
  obtain ⟨told, etold, htold⟩ := matching_report_eq hT
  have om := law_own_match_eq hT
  have sm := fun p (h : bpS 1001 50 p) => shows_matching_eq hT p h
  have lm := fun v (h : ∀ l, v = .tuple l → l.length ≤ 1000000) => law_is_match_eq hT v h
  have lc := fun x y hx hy => law_is_cut_eq hT x y hx hy
  have so := fun m (h : m < 1000) => law_set_of_eq hT m h
  have ly := law_yes_eq
  have lw : ∀ (x : D) (w : Str), d_law_word_2 [x, .str w, .int 2] = .ok (.bool (wordB x w 2)) := fun x w => law_word_2_eq x w (n := 2) (by decide)
  have lw3 : ∀ (x : D) (w : Str), d_law_word_2 [x, .str w, .int 3] = .ok (.bool (wordB x w 3)) := fun x w => law_word_2_eq x w (n := 3) (by decide)
  -- whether there is a match
  obtain ⟨OW, eOW, hOW⟩ : ∃ OW, d_law_own_match [ctE T] = .ok OW ∧ ((∃ σ, SOk T σ ∧ OW = pmE (mS (T.map Prod.fst) σ)) ∨ (OW = .none ∧ ∀ M, ¬ FM T M)) := by
    rcases om with ⟨M, eM, hM⟩ | ⟨eM, h⟩
    · obtain ⟨σ, hσ, rfl⟩ := fm_sok hT hM
      exact ⟨_, eM, .inl ⟨σ, hσ, rfl⟩⟩
    · exact ⟨_, eM, .inr ⟨rfl, h⟩⟩
  have shw : ∀ σ, SOk T σ → d_shows_matching [ctE T, .tuple [.str "match", pmE (mS (T.map Prod.fst) σ)]] = .ok (.bool true) := fun σ hσ => by
    rw [sm _ (bpS_mono (Nat.le_refl _) (by decide) (mt_bp (sok_bp hT hσ)))]
    have : shwB T (.tuple [.str "match", pmE (mS (T.map Prod.fst) σ)]) = true := by
      show (strIs (.str "match") "match" && fmB T (pmE (mS (T.map Prod.fst) σ))) = true
      rw [fmB_yes ⟨_, rfl, hσ.fm hT⟩]; rfl
    rw [this]
  have shc : ∀ A B, NmRow A → NmRow B → d_shows_matching [ctE T, .tuple [.str "cut", stTp A, stTp B]] = .ok (.bool (cutB T (stTp A) (stTp B))) := fun A B hA hB => by
    rw [sm _ (bpS_mono (Nat.le_refl _) (by decide) (ct_pbp hA hB))]
    rfl
  have mlen : ∀ σ : Str → Str, ∀ l, pmE (mS (T.map Prod.fst) σ) = .tuple l → l.length ≤ 1000000 := fun σ l hl => by
    unfold pmE mS at hl
    injection hl with hl
    rw [← hl]
    simp
    omega
  have nlen : ∀ (S A : List Str), A.length ≤ 100 → ∀ l, stTp A = .tuple l → l.length ≤ 1000000 := fun _ A h l hl => by
    injection hl with hl
    rw [← hl, List.length_map]
    omega
  have hown : ((∃ σ, SOk T σ ∧ OW = pmE (mS (T.map Prod.fst) σ)) ∧ vNotN OW .none = some (.bool true) ∧ vIsN OW .none = some (.bool false) ∧ ¬ ∃ A B, CutOk T A B) ∨ ((OW = .none ∧ ∃ A B, CutOk T A B) ∧ ∀ M, ¬ FM T M) := by
    rcases hOW with ⟨σ, hσ, rfl⟩ | ⟨rfl, h⟩
    · exact .inl ⟨⟨σ, hσ, rfl⟩, rfl, rfl, fun ⟨A, B, hc⟩ => hc.noFM hT _ (hσ.fm hT)⟩
    · refine .inr ⟨⟨rfl, ?_⟩, h⟩
      rcases htold with ⟨σ, hσ, _⟩ | ⟨A, B, hc, _⟩
      · exact (h _ (hσ.fm hT)).elim
      · exact ⟨A, B, hc⟩
  rw [d_law_29]
  refine run_eq ?_
  generalize PyData.list (ns.map .int) = SC at *
  generalize PyData.list (q.map .int) = PO at *
  obtain ⟨TE, hTE⟩ : ∃ x, x = ctE T := ⟨_, rfl⟩
  simp only [← hTE] at eT etold eOW lm lc so shw shc
  row_walk with [eq, i2, e2, i3, eT, eOW, etold]
  refine ws_mid (fun ρ => ρ = [some SC, some PO, some TE, some OW, some told, none, none, none, none]) ?_ ?_
  · rcases htold with ⟨σ, hσ, rfl⟩ | ⟨A, B, hc, rfl⟩
    · have h1 := lw (.tuple [.str "match", pmE (mS (T.map Prod.fst) σ)]) "match"
      have w1 : wordB (.tuple [.str "match", pmE (mS (T.map Prod.fst) σ)]) "match" 2 = true := by
        show (decide (1 + 1 = 2) && strIs (.str "match") "match") = true
        decide
      rw [w1] at h1
      have l1 := lm (pmE (mS (T.map Prod.fst) σ)) (mlen σ)
      rw [fmB_yes ⟨_, rfl, hσ.fm hT⟩] at l1
      rcases hown with ⟨_, n1, n2, _⟩ | ⟨_, h⟩
      · generalize pmE (mS (T.map Prod.fst) σ) = ME at *
        refine ws_ifT (by wp_walk using h1) ?_
        row_walk
        refine ws_ifF (by wp_walk using n2, l1) (ws_skip ?_)
        wp_walk
      · exact (h _ (hσ.fm hT)).elim
    · have h1 := lw (.tuple [.str "cut", stTp A, stTp B]) "match"
      have w1 : wordB (.tuple [.str "cut", stTp A, stTp B]) "match" 2 = false := rfl
      rw [w1] at h1
      have h3 := lw3 (.tuple [.str "cut", stTp A, stTp B]) "cut"
      have w3 : wordB (.tuple [.str "cut", stTp A, stTp B]) "cut" 3 = true := by
        show (decide (2 + 1 = 3) && strIs (.str "cut") "cut") = true
        decide
      rw [w3] at h3
      have hAl := hc.len
      have hlt := hc.lt
      have l1 := lc (stTp A) (stTp B) (nlen [] A (by omega)) (nlen [] B (by omega))
      rw [cutB_yes ⟨A, B, rfl, rfl, hc⟩] at l1
      rcases hown with ⟨_, _, _, h⟩ | ⟨⟨rfl, _⟩, _⟩
      · exact (h ⟨A, B, hc⟩).elim
      · generalize stTp A = AE at *
        generalize stTp B = BE at *
        refine ws_ifF (by wp_walk using h1) ?_
        row_walk
        refine ws_ifT (by wp_walk using h3) ?_
        row_walk
        refine ws_ifF (by wp_walk using l1) (ws_skip ?_)
        wp_walk
  rintro _ rfl
  have stold : d_shows_matching [TE, told] = .ok (.bool true) := by
    rcases htold with ⟨σ, hσ, rfl⟩ | ⟨A, B, hc, rfl⟩
    · exact shw σ hσ
    · rw [shc A B hc.a hc.b, cutB_yes ⟨A, B, rfl, rfl, hc⟩]
  row_walk
  refine ws_ifF (by wp_walk using stold, ly; rfl) (ws_skip ?_)
  row_walk
  refine ws_ifF ?_ (ws_skip ?_)
  · rcases hown with ⟨⟨σ, hσ, e⟩, n1, _, _⟩ | ⟨⟨rfl, _⟩, _⟩
    · have h1 := shw σ hσ
      rw [← e] at h1
      wp_walk using n1, h1, ly
      rfl
    · wp_walk
  row_walk
  refine ws_mid (fun ρ => ∃ (c : Nat) (o6 o7 o8 : Option D), (c = 0 ↔ ∀ m, 0 < m → m < 256 → ¬ isCt T m) ∧ ρ = [some SC, some PO, some TE, some OW, some told, some (.int (c : Nat)), o6, o7, o8]) ?_ ?_
  · refine ws_forE (fun i : Nat => .int (i : Nat)) (List.range' 1 255) (fun rest ρ => ∃ (k c : Nat) (o6 o7 o8 : Option D), 1 ≤ k ∧ k ≤ 256 ∧ rest = List.range' k (256 - k) ∧ (c = 0 ↔ ∀ m, 0 < m → m < k → ¬ isCt T m) ∧ ρ = [some SC, some PO, some TE, some OW, some told, some (.int (c : Nat)), o6, o7, o8]) (iR2_nat (lo := 1) (hi := 256) rfl rfl (by decide) (by decide)) ⟨1, 0, _, _, _, by decide, by decide, rfl, ⟨fun _ m h1 h2 => by omega, fun _ => rfl⟩, rfl⟩ ?_ ?_
    · rintro m rest _ ⟨k, c, o6, o7, o8, hk1, hk2, hrest, hc, rfl⟩
      have hk : k < 256 := by
        by_cases h : k = 256
        · rw [h] at hrest; cases hrest
        · omega
      rw [show 256 - k = (256 - (k + 1)) + 1 by omega, List.range'_succ] at hrest
      injection hrest with hm hrest
      subst hm
      obtain ⟨B, eB, hB⟩ := so m (by omega)
      have sc := sel_cut hT (selR_sub m T) hB
      have hA : NmRow ((selR m T).map Prod.fst) := hT.2.1.sub ((selR_sub m T).map _)
      have s1 := shc _ B hA hB.1
      rw [sc] at s1
      have isd : isCt T m ↔ B.length < (selR m T).length := ⟨fun h => h B hB, fun h B' hB' => by rw [← hB.uniq hB']; exact h⟩
      have vlA : vLen (stTp ((selR m T).map Prod.fst)) = some (.int ((selR m T).length : Nat)) := by rw [vLen_tup, List.length_map, List.length_map]
      have vlB : vLen (stTp B) = some (.int (B.length : Nat)) := by rw [vLen_tup, List.length_map]
      have e1 : ((c : Nat) : Int) + 1 = ((c + 1 : Nat) : Int) := by omega
      generalize stTp ((selR m T).map Prod.fst) = AE at *
      generalize stTp B = BE at *
      refine ⟨_, rfl, ?_⟩
      by_cases hlt : B.length < (selR m T).length
      · have hlt' : (((B.length : Nat) : Int) < ((selR m T).length : Nat)) = True := eq_true (by omega)
        rw [decide_eq_true hlt] at s1
        wp_walk using eB, s1, vlA, vlB, hlt', ly, e1
        refine ⟨m + 1, c + 1, _, _, _, by omega, by omega, hrest, ⟨fun h => by omega, fun h => (h m (by omega) (by omega) (isd.2 hlt)).elim⟩, rfl⟩
      · have hlt' : (((B.length : Nat) : Int) < ((selR m T).length : Nat)) = False := eq_false (by omega)
        rw [decide_eq_false hlt] at s1
        wp_walk using eB, s1, vlA, vlB, hlt', ly
        refine ⟨m + 1, c, _, _, _, by omega, by omega, hrest, ⟨fun h j h1 h2 => ?_, fun h => hc.2 fun j h1 h2 => h j h1 (by omega)⟩, rfl⟩
        by_cases hj : j = m
        · rw [hj, isd]; exact hlt
        · exact hc.1 h j h1 (by omega)
    · rintro _ ⟨k, c, o6, o7, o8, hk1, hk2, hrest, hc, rfl⟩
      have hk : k = 256 := by
        have := congrArg List.length hrest
        simp at this
        omega
      rw [hk] at hc
      exact ⟨c, _, _, _, hc, rfl⟩
  rintro _ ⟨c, o6, o7, o8, hc, rfl⟩
  rcases hown with ⟨⟨σ, hσ, e⟩, n1, _, hno⟩ | ⟨⟨rfl, A, B, hcut⟩, _⟩
  · have hc0 : c = 0 := hc.2 fun m _ _ h => hno (by
      obtain ⟨B, eB, hB⟩ := so m (by omega)
      refine ⟨(selR m T).map Prod.fst, B, ?_⟩
      have h1 := sel_cut hT (selR_sub m T) hB
      rw [decide_eq_true (h B hB)] at h1
      by_cases hx : ∃ A' B', stTp ((selR m T).map Prod.fst) = stTp A' ∧ stTp B = stTp B' ∧ CutOk T A' B'
      · obtain ⟨A', B', e1, e2, h2⟩ := hx
        rw [strs_inj e1, strs_inj e2]; exact h2
      · rw [cutB_no hx] at h1; cases h1)
    have hc' : (((c : Nat) : Int) = 0) = True := eq_true (by omega)
    wp_walk using n1, hc'
  · obtain ⟨m, h1, h2, h3⟩ := cut_sel hT hcut
    have hc0 : c ≠ 0 := fun e => hc.1 e m h2 (by rw [lT] at h1; omega) h3
    have hc' : (((c : Nat) : Int) = 0) = False := eq_false (by omega)
    wp_walk using hc'
end PL
end
namespace L_k29
open PySem PySem.Spec PyProof.Rows L2 PL
def topS (i : Nat) : Stmt := PySem.Challenge.pw_camhouse_k29_whole_match_or_cut.main.body.getD i (.Pass ⟨0, 0, 0, 0⟩)
section
variable {P : Program} {w : World} {K : PySem.W.Frag} {mg : Str → Option Value} {base : Heap}
abbrev s_is_name : Stmt := topS 4
abbrev N_is_name : List Str := ["value", "sign"]
theorem sc_is_name : FnScope N_is_name ["value"] (defScope s_is_name) := ⟨rfl, rfl, rfl, by decide +kernel, rfl, by decide +kernel, by decide +kernel⟩
theorem ok_is_name {f : Addr} {fd : FuncData} (hm : mg "is_name" = some (.ref f)) (F : FunD K "is_name" "is_name" (defArgs s_is_name) (defBody s_is_name) (defScope s_is_name) [] [] f fd) (z_isinstance : mg "isinstance" = none) (z_str : mg "str" = none) (z_len : mg "len" = none) (c_NAME_SIZE : KC mg K "NAME_SIZE" (.int 12)) (c_LETTERS : KC mg K "LETTERS" (.str "abcdefghijklmnopqrstuvwxyz")) (c_DIGITS : KC mg K "DIGITS" (.str "0123456789")) : Kn P w K mg base 1 "is_name" ["value"] .sh d_is_name :=
  kn_ok (O' := []) (k := 0) hm F sc_is_name (by decide) (fun _ _ _ _ _ _ us hl => match us, hl with | [_], _ => rfl) fun cdv A outer s H E hh =>
    (bj_cons (sj_if (WJ.tj (wj_or (tj_not (tj_val (EJ.to_bo (ej_isi (by rfl) z_isinstance (by rfl) z_str (by decide +kernel) (by decide) (by decide) (fun _ _ => rfl) (EJ.to_bo (ej_var (O := []) (by decide) (pv 0))))))) (wj_or1 (tj_not (tj_chain le_ok le_ok ejm_int (EJ.to_bo (ej_len (by rfl) z_len (fun _ _ => rfl) (EJ.to_bo (ej_var (O := []) (by decide) (pv 0))))) (EJ.to_bo (ej_glob c_NAME_SIZE (by rfl) (by decide))) fun _ _ _ _ _ h1 h2 h3 h4 h5 => pt_chain h1 h2 h3 h4 h5))))) (bj_cons (sj_ret ejm_bl) bj_nil) bj_nil) (bj_cons (sj_if (tj_cmp (notIn_ok hh (by rfl)) (EJ.to_bo (ej_idx (EJ.to_bo (ej_var (O := []) (by decide) (pv 0))) ejm_int)) (EJ.to_bo (ej_glob c_LETTERS (by rfl) (by decide)))) (bj_cons (sj_ret ejm_bl) bj_nil) bj_nil) (bj_cons (sj_for hh (ij_val (ej_var (O := []) (by decide) (pv 0))) (gj_name (O := []) (by decide) (pg_name (i := 1) hh.nd rfl (by first | exact .inl rfl | exact .inr rfl))) (bj_cons (sj_if (WJ.tj (wj_and (tj_cmp (notIn_ok hh (by rfl)) (EJ.to_bo (ej_var (O := []) (by decide) (pv 1))) (EJ.to_bo (ej_glob c_LETTERS (by rfl) (by decide)))) (wj_and1 (tj_cmp (notIn_ok hh (by rfl)) (EJ.to_bo (ej_var (O := []) (by decide) (pv 1))) (EJ.to_bo (ej_glob c_DIGITS (by rfl) (by decide))))))) (bj_cons (sj_ret ejm_bl) bj_nil) bj_nil) bj_nil) (by intro _; rfl)) (bj_cons (sj_ret ejm_bl) bj_nil))))

abbrev s_is_row : Stmt := topS 5
abbrev N_is_row : List Str := ["value", "least", "most"]
theorem sc_is_row : FnScope N_is_row ["value", "least", "most"] (defScope s_is_row) := ⟨rfl, rfl, rfl, by decide +kernel, rfl, by decide +kernel, by decide +kernel⟩
theorem ok_is_row {f : Addr} {fd : FuncData} (hm : mg "is_row" = some (.ref f)) (F : FunD K "is_row" "is_row" (defArgs s_is_row) (defBody s_is_row) (defScope s_is_row) [] [] f fd) (z_isinstance : mg "isinstance" = none) (z_tuple : mg "tuple" = none) (z_len : mg "len" = none) : Kn P w K mg base 1 "is_row" ["value", "least", "most"] .sh d_is_row :=
  kn_ok (O' := []) (k := 0) hm F sc_is_row (by decide) (fun _ _ _ _ _ _ us hl => match us, hl with | [_, _, _], _ => rfl) fun cdv A outer s H E hh =>
    (bj_cons (sj_ret (ej_and (ej_isi (by rfl) z_isinstance (by rfl) z_tuple (by decide +kernel) (by decide) (by decide) (fun _ _ => rfl) (EJ.to_bo (ej_var (O := []) (by decide) (pv 0)))) (ej_one (ej_chain le_ok le_ok (EJ.to_bo (ej_var (O := []) (by decide) (pv 1))) (EJ.to_bo (ej_len (by rfl) z_len (fun _ _ => rfl) (EJ.to_bo (ej_var (O := []) (by decide) (pv 0))))) (EJ.to_bo (ej_var (O := []) (by decide) (pv 2))) fun _ _ _ _ _ h1 h2 h3 h4 h5 => pe_chain h1 h2 h3 h4 h5)))) bj_nil)

abbrev s_is_names : Stmt := topS 6
abbrev N_is_names : List Str := ["value", "least", "most", "met", "name"]
theorem sc_is_names : FnScope N_is_names ["value", "least", "most"] (defScope s_is_names) := ⟨rfl, rfl, rfl, by decide +kernel, rfl, by decide +kernel, by decide +kernel⟩
theorem ok_is_names {f : Addr} {fd : FuncData} (hm : mg "is_names" = some (.ref f)) (F : FunD K "is_names" "is_names" (defArgs s_is_names) (defBody s_is_names) (defScope s_is_names) [] [] f fd) (k_is_row : Kn P w K mg base 1 "is_row" ["value", "least", "most"] .sh d_is_row) (k_is_name : Kn P w K mg base 1 "is_name" ["value"] .sh d_is_name) : Kn P w K mg base 2 "is_names" ["value", "least", "most"] .sh d_is_names :=
  kn_ok (O' := []) (k := 1) hm F sc_is_names (by decide) (fun _ _ _ _ _ _ us hl => match us, hl with | [_, _, _], _ => rfl) fun cdv A outer s H E hh =>
    (bj_cons (sj_if (tj_not (tj_val (EJ.to_bo (ej_callK k_is_row hh (by decide) (by rfl) (by rfl) (by decide) (fun _ _ => rfl) (noStars_cons (fun _ _ => rfl) (noStars_cons (fun _ _ => rfl) noStars_nil)) (aj_cons (fun _ _ => rfl) (ej_var (O := []) (by decide) (pv 0)) (aj_cons (fun _ _ => rfl) (ej_var (O := []) (by decide) (pv 1)) (aj_cons (fun _ _ => rfl) (ej_var (O := []) (by decide) (pv 2)) aj_nil))) (alen_cons (alen_cons (alen_cons alen_nil))))))) (bj_cons (sj_ret ejm_bl) bj_nil) bj_nil) (bj_cons (sj_setO (O := []) (O' := [3]) (i := 3) (by decide) ej_dict0 fun _ h => ps_set (i := 3) hh.nd rfl (by first | exact .inl rfl | exact .inr rfl) h) (bj_cons (sj_for hh (ij_val (ej_var (O := [3]) (by decide) (pv 0))) (gj_name (O := [3]) (by decide) (pg_name (i := 4) hh.nd rfl (by first | exact .inl rfl | exact .inr rfl))) (bj_cons (sj_if (WJ.tj (wj_or (tj_not (tj_val (EJ.to_bo (ej_callK k_is_name hh (by decide) (by rfl) (by rfl) (by decide) (fun _ _ => rfl) noStars_nil (aj_cons (fun _ _ => rfl) (ej_var (O := [3]) (by decide) (pv 4)) aj_nil) (alen_cons alen_nil))))) (wj_or1 (tj_cmp (inD_ok hh (by rfl)) (EJ.to_bo (ej_var (O := [3]) (by decide) (pv 4))) (ej_own (pv 3)))))) (bj_cons (sj_ret ejm_bl) bj_nil) bj_nil) (bj_cons (sj_storeD (O := [3]) (i := 3) (by decide) hh (EJ.to_bo (ej_var (O := [3]) (by decide) (pv 4))) ejm_bl (pv 3) (by rfl)) bj_nil)) (by intro _; rfl)) (bj_cons (sj_ret ejm_bl) bj_nil))))

abbrev s_is_ascending : Stmt := topS 7
abbrev N_is_ascending : List Str := ["value", "least", "most", "k"]
theorem sc_is_ascending : FnScope N_is_ascending ["value", "least", "most"] (defScope s_is_ascending) := ⟨rfl, rfl, rfl, by decide +kernel, rfl, by decide +kernel, by decide +kernel⟩
theorem ok_is_ascending {f : Addr} {fd : FuncData} (hm : mg "is_ascending" = some (.ref f)) (F : FunD K "is_ascending" "is_ascending" (defArgs s_is_ascending) (defBody s_is_ascending) (defScope s_is_ascending) [] [] f fd) (z_len : mg "len" = none) (z_range : mg "range" = none) (z_all : mg "all" = none) (k_is_names : Kn P w K mg base 2 "is_names" ["value", "least", "most"] .sh d_is_names) : Kn P w K mg base 3 "is_ascending" ["value", "least", "most"] .sh d_is_ascending :=
  kn_ok (O' := []) (k := 2) hm F sc_is_ascending (by decide) (fun _ _ _ _ _ _ us hl => match us, hl with | [_, _, _], _ => rfl) fun cdv A outer s H E hh =>
    (bj_cons (sj_if (tj_not (tj_val (EJ.to_bo (ej_callK k_is_names hh (by decide) (by rfl) (by rfl) (by decide) (fun _ _ => rfl) (noStars_cons (fun _ _ => rfl) (noStars_cons (fun _ _ => rfl) noStars_nil)) (aj_cons (fun _ _ => rfl) (ej_var (O := []) (by decide) (pv 0)) (aj_cons (fun _ _ => rfl) (ej_var (O := []) (by decide) (pv 1)) (aj_cons (fun _ _ => rfl) (ej_var (O := []) (by decide) (pv 2)) aj_nil))) (alen_cons (alen_cons (alen_cons alen_nil))))))) (bj_cons (sj_ret ejm_bl) bj_nil) bj_nil) (bj_cons (sj_ret (ej_all hh (by rfl) z_all (fun _ _ => rfl) (EJ.to_bo (ej_comp hh (own := [("k", 3)]) (ij_range1 (by rfl) z_range (fun _ _ => rfl) (EJ.to_bo (ej_sub (EJ.to_bo (ej_len (by rfl) z_len (fun _ _ => rfl) (EJ.to_bo (ej_var (O := []) (by decide) (pv 0))))) ejm_int))) (blkOk_by (N := N_is_ascending) (sc := (defScope s_is_ascending)) (by decide +kernel)) (fun s_ H_ C_ cl_ fp_ hh => (gj_name (O := []) (by decide) (pg_name (i := 3) hh.nd rfl (by first | exact .inl rfl | exact .inr rfl)))) (fun s_ H_ C_ cl_ fp_ hh => tsj_nil) (fun s_ H_ C_ cl_ fp_ hh => (ej_cmp (lt_ok hh) (EJ.to_bo (ej_idx (EJ.to_bo (ej_var (O := []) (by decide) (pv 0))) (EJ.to_bo (ej_var (O := []) (by decide) (pv 3))))) (EJ.to_bo (ej_idx (EJ.to_bo (ej_var (O := []) (by decide) (pv 0))) (EJ.to_bo (ej_add (EJ.to_bo (ej_var (O := []) (by decide) (pv 3))) ejm_int)))))) (by intro _; rfl))))) bj_nil))

abbrev s_is_table : Stmt := topS 8
abbrev N_is_table : List Str := ["value", "least", "most", "pair"]
theorem sc_is_table : FnScope N_is_table ["value", "least", "most"] (defScope s_is_table) := ⟨rfl, rfl, rfl, by decide +kernel, rfl, by decide +kernel, by decide +kernel⟩
theorem ok_is_table {f : Addr} {fd : FuncData} (hm : mg "is_table" = some (.ref f)) (F : FunD K "is_table" "is_table" (defArgs s_is_table) (defBody s_is_table) (defScope s_is_table) [] [] f fd) (z_tuple : mg "tuple" = none) (k_is_row : Kn P w K mg base 1 "is_row" ["value", "least", "most"] .sh d_is_row) (k_is_ascending : Kn P w K mg base 3 "is_ascending" ["value", "least", "most"] .sh d_is_ascending) : Kn P w K mg base 4 "is_table" ["value", "least", "most"] .sh d_is_table :=
  kn_ok (O' := []) (k := 3) hm F sc_is_table (by decide) (fun _ _ _ _ _ _ us hl => match us, hl with | [_, _, _], _ => rfl) fun cdv A outer s H E hh =>
    (bj_cons (sj_if (tj_not (tj_val (EJ.to_bo (ej_callK k_is_row hh (by decide) (by rfl) (by rfl) (by decide) (fun _ _ => rfl) (noStars_cons (fun _ _ => rfl) (noStars_cons (fun _ _ => rfl) noStars_nil)) (aj_cons (fun _ _ => rfl) (ej_var (O := []) (by decide) (pv 0)) (aj_cons (fun _ _ => rfl) (ej_var (O := []) (by decide) (pv 1)) (aj_cons (fun _ _ => rfl) (ej_var (O := []) (by decide) (pv 2)) aj_nil))) (alen_cons (alen_cons (alen_cons alen_nil))))))) (bj_cons (sj_ret ejm_bl) bj_nil) bj_nil) (bj_cons (sj_for hh (ij_val (ej_var (O := []) (by decide) (pv 0))) (gj_name (O := []) (by decide) (pg_name (i := 3) hh.nd rfl (by first | exact .inl rfl | exact .inr rfl))) (bj_cons (sj_if (tj_not (tj_val (EJ.to_bo (ej_callK k_is_row hh (by decide) (by rfl) (by rfl) (by decide) (fun _ _ => rfl) (noStars_cons (fun _ _ => rfl) (noStars_cons (fun _ _ => rfl) noStars_nil)) (aj_cons (fun _ _ => rfl) (ej_var (O := []) (by decide) (pv 3)) (aj_cons (fun _ _ => rfl) ejm_int (aj_cons (fun _ _ => rfl) ejm_int aj_nil))) (alen_cons (alen_cons (alen_cons alen_nil))))))) (bj_cons (sj_ret ejm_bl) bj_nil) bj_nil) bj_nil) (by intro _; rfl)) (bj_cons (sj_ret (ej_callK k_is_ascending hh (by decide) (by rfl) (by rfl) (by decide) (fun _ _ => rfl) (noStars_cons (fun _ _ => rfl) (noStars_cons (fun _ _ => rfl) noStars_nil)) (aj_cons (fun _ _ => rfl) (ej_tuple (by rfl) z_tuple (fun _ _ => rfl) (EJ.to_bo (ej_comp hh (own := [("pair", 3)]) (ij_valB (EJ.to_bo (ej_var (O := []) (by decide) (pv 0)))) (blkOk_by (N := N_is_table) (sc := (defScope s_is_table)) (by decide +kernel)) (fun s_ H_ C_ cl_ fp_ hh => (gj_name (O := []) (by decide) (pg_name (i := 3) hh.nd rfl (by first | exact .inl rfl | exact .inr rfl)))) (fun s_ H_ C_ cl_ fp_ hh => tsj_nil) (fun s_ H_ C_ cl_ fp_ hh => (ej_idx (EJ.to_bo (ej_var (O := []) (by decide) (pv 3))) ejm_int)) (by intro _; rfl)))) (aj_cons (fun _ _ => rfl) (ej_var (O := []) (by decide) (pv 1)) (aj_cons (fun _ _ => rfl) (ej_var (O := []) (by decide) (pv 2)) aj_nil))) (alen_cons (alen_cons (alen_cons alen_nil))))) bj_nil)))

abbrev s_names_of : Stmt := topS 10
abbrev N_names_of : List Str := ["table", "pair"]
theorem sc_names_of : FnScope N_names_of ["table"] (defScope s_names_of) := ⟨rfl, rfl, rfl, by decide +kernel, rfl, by decide +kernel, by decide +kernel⟩
theorem ok_names_of {f : Addr} {fd : FuncData} (hm : mg "names_of" = some (.ref f)) (F : FunD K "names_of" "names_of" (defArgs s_names_of) (defBody s_names_of) (defScope s_names_of) [] [] f fd) (z_tuple : mg "tuple" = none) : Kn P w K mg base 1 "names_of" ["table"] .sh d_names_of :=
  kn_ok (O' := []) (k := 0) hm F sc_names_of (by decide) (fun _ _ _ _ _ _ us hl => match us, hl with | [_], _ => rfl) fun cdv A outer s H E hh =>
    (bj_cons (sj_ret (ej_tuple (by rfl) z_tuple (fun _ _ => rfl) (EJ.to_bo (ej_comp hh (own := [("pair", 1)]) (ij_valB (EJ.to_bo (ej_var (O := []) (by decide) (pv 0)))) (blkOk_by (N := N_names_of) (sc := (defScope s_names_of)) (by decide +kernel)) (fun s_ H_ C_ cl_ fp_ hh => (gj_name (O := []) (by decide) (pg_name (i := 1) hh.nd rfl (by first | exact .inl rfl | exact .inr rfl)))) (fun s_ H_ C_ cl_ fp_ hh => tsj_nil) (fun s_ H_ C_ cl_ fp_ hh => (ej_idx (EJ.to_bo (ej_var (O := []) (by decide) (pv 1))) ejm_int)) (by intro _; rfl))))) bj_nil)

abbrev s_value_of : Stmt := topS 11
abbrev N_value_of : List Str := ["table", "name", "default", "pair"]
theorem sc_value_of : FnScope N_value_of ["table", "name", "default"] (defScope s_value_of) := ⟨rfl, rfl, rfl, by decide +kernel, rfl, by decide +kernel, by decide +kernel⟩
theorem ok_value_of {f : Addr} {fd : FuncData} (hm : mg "value_of" = some (.ref f)) (F : FunD K "value_of" "value_of" (defArgs s_value_of) (defBody s_value_of) (defScope s_value_of) [.non] [] f fd) : KnD P w K mg base 1 "value_of" ["table", "name", "default"] (.none) .sh d_value_of :=
  knD_ok (O' := []) (k := 0) hm F sc_value_of (by decide) (by decide) (fun _ => .non) (fun _ _ _ _ _ _ _ us its hu hi => match us, hu, its, hi with | [_, _], _, [_], _ => ⟨_, rfl, rfl⟩) (fun _ _ _ _ _ _ _ us its hu hi => match us, hu, its, hi with | [_, _, _], _, [_], _ => ⟨_, rfl, rfl⟩) fun cdv A outer s H E hh =>
    (bj_cons (sj_for hh (ij_val (ej_var (O := []) (by decide) (pv 0))) (gj_name (O := []) (by decide) (pg_name (i := 3) hh.nd rfl (by first | exact .inl rfl | exact .inr rfl))) (bj_cons (sj_if (tj_cmp (eq_ok hh) (EJ.to_bo (ej_idx (EJ.to_bo (ej_var (O := []) (by decide) (pv 3))) ejm_int)) (EJ.to_bo (ej_var (O := []) (by decide) (pv 1)))) (bj_cons (sj_ret (ej_idx (EJ.to_bo (ej_var (O := []) (by decide) (pv 3))) ejm_int)) bj_nil) bj_nil) bj_nil) (by intro _; rfl)) (bj_cons (sj_ret (ej_var (O := []) (by decide) (pv 2))) bj_nil))

abbrev s_holds : Stmt := topS 12
abbrev N_holds : List Str := ["table", "name"]
theorem sc_holds : FnScope N_holds ["table", "name"] (defScope s_holds) := ⟨rfl, rfl, rfl, by decide +kernel, rfl, by decide +kernel, by decide +kernel⟩
theorem ok_holds {f : Addr} {fd : FuncData} (hm : mg "holds" = some (.ref f)) (F : FunD K "holds" "holds" (defArgs s_holds) (defBody s_holds) (defScope s_holds) [] [] f fd) (k_names_of : Kn P w K mg base 1 "names_of" ["table"] .sh d_names_of) : Kn P w K mg base 2 "holds" ["table", "name"] .sh d_holds :=
  kn_ok (O' := []) (k := 1) hm F sc_holds (by decide) (fun _ _ _ _ _ _ us hl => match us, hl with | [_, _], _ => rfl) fun cdv A outer s H E hh =>
    (bj_cons (sj_ret (ej_cmp (in_ok hh (by rfl)) (EJ.to_bo (ej_var (O := []) (by decide) (pv 1))) (EJ.to_bo (ej_callK k_names_of hh (by decide) (by rfl) (by rfl) (by decide) (fun _ _ => rfl) noStars_nil (aj_cons (fun _ _ => rfl) (ej_var (O := []) (by decide) (pv 0)) aj_nil) (alen_cons alen_nil))))) bj_nil)

abbrev s_table_from : Stmt := topS 13
abbrev N_table_from : List Str := ["pairs", "kept", "name", "value"]
theorem sc_table_from : FnScope N_table_from ["pairs"] (defScope s_table_from) := ⟨rfl, rfl, rfl, by decide +kernel, rfl, by decide +kernel, by decide +kernel⟩
theorem ok_table_from {f : Addr} {fd : FuncData} (hm : mg "table_from" = some (.ref f)) (F : FunD K "table_from" "table_from" (defArgs s_table_from) (defBody s_table_from) (defScope s_table_from) [] [] f fd) (z_sorted : mg "sorted" = none) (z_tuple : mg "tuple" = none) : Kn P w K mg base 1 "table_from" ["pairs"] .sh d_table_from :=
  kn_ok (O' := []) (k := 0) hm F sc_table_from (by decide) (fun _ _ _ _ _ _ us hl => match us, hl with | [_], _ => rfl) fun cdv A outer s H E hh =>
    (bj_cons (sj_setO (O := []) (O' := [1]) (i := 1) (by decide) ej_dict0 fun _ h => ps_set (i := 1) hh.nd rfl (by first | exact .inl rfl | exact .inr rfl) h) (bj_cons (sj_for hh (ij_val (ej_var (O := [1]) (by decide) (pv 0))) (gj_tup rfl (gsj_cons (gj_name (O := [1]) (by decide) (pg_name (i := 2) hh.nd rfl (by first | exact .inl rfl | exact .inr rfl))) (gsj_cons (gj_name (O := [1]) (by decide) (pg_name (i := 3) hh.nd rfl (by first | exact .inl rfl | exact .inr rfl))) gsj_nil rfl) rfl) rfl rfl) (bj_cons (sj_storeD (O := [1]) (i := 1) (by decide) hh (EJ.to_bo (ej_var (O := [1]) (by decide) (pv 2))) (ej_var (O := [1]) (by decide) (pv 3)) (pv 1) (by rfl)) bj_nil) (by intro _; rfl)) (bj_cons (sj_ret (ej_tuple (by rfl) z_tuple (fun _ _ => rfl) (EJ.to_bo (ej_comp hh (own := [("name", 2)]) (ij_valB (EJ.to_bo (ej_sorted hh (by rfl) z_sorted (fun _ _ => rfl) (ej_own (pv 1))))) (blkOk_by (N := N_table_from) (sc := (defScope s_table_from)) (by decide +kernel)) (fun s_ H_ C_ cl_ fp_ hh => (gj_name (O := [1]) (by decide) (pg_name (i := 2) hh.nd rfl (by first | exact .inl rfl | exact .inr rfl)))) (fun s_ H_ C_ cl_ fp_ hh => tsj_nil) (fun s_ H_ C_ cl_ fp_ hh => (ej_tup (aj_cons (fun _ _ => rfl) (ej_var (O := [1]) (by decide) (pv 2)) (aj_cons (fun _ _ => rfl) (ej_getD hh (fun _ _ => rfl) (ej_own (pv 1)) (EJ.to_bo (ej_var (O := [1]) (by decide) (pv 2)))) aj_nil)))) (by intro _; rfl))))) bj_nil)))

abbrev s_part_at : Stmt := topS 15
abbrev N_part_at : List Str := ["owners", "joint", "part"]
theorem sc_part_at : FnScope N_part_at ["owners", "joint"] (defScope s_part_at) := ⟨rfl, rfl, rfl, by decide +kernel, rfl, by decide +kernel, by decide +kernel⟩
theorem ok_part_at {f : Addr} {fd : FuncData} (hm : mg "part_at" = some (.ref f)) (F : FunD K "part_at" "part_at" (defArgs s_part_at) (defBody s_part_at) (defScope s_part_at) [] [] f fd) : Kn P w K mg base 1 "part_at" ["owners", "joint"] .sh d_part_at :=
  kn_ok (O' := []) (k := 0) hm F sc_part_at (by decide) (fun _ _ _ _ _ _ us hl => match us, hl with | [_, _], _ => rfl) fun cdv A outer s H E hh =>
    (bj_cons (sj_for hh (ij_keys (ej_var (O := []) (by decide) (pv 0))) (gj_name (O := []) (by decide) (pg_name (i := 2) hh.nd rfl (by first | exact .inl rfl | exact .inr rfl))) (bj_cons (sj_if (tj_cmp (eq_ok hh) (EJ.to_bo (ej_getD hh (fun _ _ => rfl) (EJ.to_bo (ej_var (O := []) (by decide) (pv 0))) (EJ.to_bo (ej_var (O := []) (by decide) (pv 2))))) (EJ.to_bo (ej_var (O := []) (by decide) (pv 1)))) (bj_cons (sj_ret (ej_var (O := []) (by decide) (pv 2))) bj_nil) bj_nil) bj_nil) (by intro _; rfl)) (bj_cons (sj_ret ejm_non) bj_nil))

abbrev s_reached_from : Stmt := topS 16
abbrev N_reached_from : List Str := ["table", "owners", "start", "joints", "came", "at", "here", "part"]
theorem sc_reached_from : FnScope N_reached_from ["table", "owners", "start"] (defScope s_reached_from) := ⟨rfl, rfl, rfl, by decide +kernel, rfl, by decide +kernel, by decide +kernel⟩
theorem ok_reached_from {f : Addr} {fd : FuncData} (hm : mg "reached_from" = some (.ref f)) (F : FunD K "reached_from" "reached_from" (defArgs s_reached_from) (defBody s_reached_from) (defScope s_reached_from) [] [] f fd) (z_len : mg "len" = none) (k_value_of : KnD P w K mg base 1 "value_of" ["table", "name", "default"] (.none) .sh d_value_of) : Kn P w K mg base 2 "reached_from" ["table", "owners", "start"] .sh d_reached_from :=
  kn_ok (O' := []) (k := 1) hm F sc_reached_from (by decide) (fun _ _ _ _ _ _ us hl => match us, hl with | [_, _, _], _ => rfl) fun cdv A outer s H E hh =>
    (bj_cons (sj_setO (O := []) (O' := [3]) (i := 3) (by decide) (ej_lst (aj_cons (fun _ _ => rfl) (ej_var (O := []) (by decide) (pv 2)) aj_nil)) fun _ h => ps_set (i := 3) hh.nd rfl (by first | exact .inl rfl | exact .inr rfl) h) (bj_cons (sj_setO (O := [3]) (O' := [4, 3]) (i := 4) (by decide) ej_dict0 fun _ h => ps_set (i := 4) hh.nd rfl (by first | exact .inl rfl | exact .inr rfl) h) (bj_cons (sj_set (O := [4, 3]) (i := 5) (by decide) ejm_int fun _ h => ps_set (i := 5) hh.nd rfl (by first | exact .inl rfl | exact .inr rfl) h) (bj_cons (sj_while hh (tj_cmp (lt_ok hh) (EJ.to_bo (ej_var (O := [4, 3]) (by decide) (pv 5))) (EJ.to_bo (ej_len (by rfl) z_len (fun _ _ => rfl) (ej_own (pv 3))))) (bj_cons (sj_set (O := [4, 3]) (i := 6) (by decide) (ej_idx (ej_own (pv 3)) (EJ.to_bo (ej_var (O := [4, 3]) (by decide) (pv 5)))) fun _ h => ps_set (i := 6) hh.nd rfl (by first | exact .inl rfl | exact .inr rfl) h) (bj_cons (sj_for hh (ij_val (ej_callDf k_value_of hh (by decide) (by rfl) (by rfl) (by decide) (fun _ _ => rfl) (noStars_cons (fun _ _ => rfl) noStars_nil) (aj_cons (fun _ _ => rfl) (ej_var (O := [4, 3]) (by decide) (pv 0)) (aj_cons (fun _ _ => rfl) (ej_var (O := [4, 3]) (by decide) (pv 6)) aj_nil)) (alen_cons (alen_cons alen_nil)))) (gj_name (O := [4, 3]) (by decide) (pg_name (i := 7) hh.nd rfl (by first | exact .inl rfl | exact .inr rfl))) (bj_cons (sj_if (tj_cmp (ninD_ok hh (by rfl)) (EJ.to_bo (ej_var (O := [4, 3]) (by decide) (pv 7))) (ej_own (pv 4))) (bj_cons (sj_storeD (O := [4, 3]) (i := 4) (by decide) hh (EJ.to_bo (ej_var (O := [4, 3]) (by decide) (pv 7))) (ej_var (O := [4, 3]) (by decide) (pv 6)) (pv 4) (by rfl)) (bj_cons (sj_if (tj_cmp (inD_ok hh (by rfl)) (EJ.to_bo (ej_var (O := [4, 3]) (by decide) (pv 7))) (EJ.to_bo (ej_var (O := [4, 3]) (by decide) (pv 1)))) (bj_cons (sj_app (O := [4, 3]) (i := 3) (by decide) (ej_getD hh (fun _ _ => rfl) (EJ.to_bo (ej_var (O := [4, 3]) (by decide) (pv 1))) (EJ.to_bo (ej_var (O := [4, 3]) (by decide) (pv 7)))) fun _ h => ps_expr (pe_bm PySem.F.plainAttrs_list PySem.F.slot_list_append PySem.F.type_list_append mt_append (pv 3) (pa_cons h pa_nil))) bj_nil) bj_nil) bj_nil)) bj_nil) bj_nil) (by intro _; rfl)) (bj_cons (sj_augAdd (O := [4, 3]) (i := 5) (by decide) ejm_int fun _ _ h1 h2 => ps_aug (i := 5) hh.nd rfl (by first | exact .inl rfl | exact .inr rfl) h1 h2) bj_nil)))) (BJ.drop [4, 3] (bj_cons (sj_ret (ej_tup (aj_cons (fun _ _ => rfl) (ej_var (O := []) (by decide) (pv 3)) (aj_cons (fun _ _ => rfl) (ej_var (O := []) (by decide) (pv 4)) aj_nil)))) bj_nil))))))

abbrev s_free_part : Stmt := topS 17
abbrev N_free_part : List Str := ["owners", "came", "part"]
theorem sc_free_part : FnScope N_free_part ["owners", "came"] (defScope s_free_part) := ⟨rfl, rfl, rfl, by decide +kernel, rfl, by decide +kernel, by decide +kernel⟩
theorem ok_free_part {f : Addr} {fd : FuncData} (hm : mg "free_part" = some (.ref f)) (F : FunD K "free_part" "free_part" (defArgs s_free_part) (defBody s_free_part) (defScope s_free_part) [] [] f fd) : Kn P w K mg base 1 "free_part" ["owners", "came"] .sh d_free_part :=
  kn_ok (O' := []) (k := 0) hm F sc_free_part (by decide) (fun _ _ _ _ _ _ us hl => match us, hl with | [_, _], _ => rfl) fun cdv A outer s H E hh =>
    (bj_cons (sj_for hh (ij_keys (ej_var (O := []) (by decide) (pv 1))) (gj_name (O := []) (by decide) (pg_name (i := 2) hh.nd rfl (by first | exact .inl rfl | exact .inr rfl))) (bj_cons (sj_if (tj_cmp (ninD_ok hh (by rfl)) (EJ.to_bo (ej_var (O := []) (by decide) (pv 2))) (EJ.to_bo (ej_var (O := []) (by decide) (pv 0)))) (bj_cons (sj_ret (ej_var (O := []) (by decide) (pv 2))) bj_nil) bj_nil) bj_nil) (by intro _; rfl)) (bj_cons (sj_ret ejm_non) bj_nil))

abbrev s_owners_along : Stmt := topS 18
abbrev N_owners_along : List Str := ["owners", "came", "start", "free", "given", "part", "joint"]
theorem sc_owners_along : FnScope N_owners_along ["owners", "came", "start", "free"] (defScope s_owners_along) := ⟨rfl, rfl, rfl, by decide +kernel, rfl, by decide +kernel, by decide +kernel⟩
theorem ok_owners_along {f : Addr} {fd : FuncData} (hm : mg "owners_along" = some (.ref f)) (F : FunD K "owners_along" "owners_along" (defArgs s_owners_along) (defBody s_owners_along) (defScope s_owners_along) [] [] f fd) (z_dict : mg "dict" = none) (k_part_at : Kn P w K mg base 1 "part_at" ["owners", "joint"] .sh d_part_at) : Kn P w K mg base 2 "owners_along" ["owners", "came", "start", "free"] .sh d_owners_along :=
  kn_ok (O' := []) (k := 1) hm F sc_owners_along (by decide) (fun _ _ _ _ _ _ us hl => match us, hl with | [_, _, _, _], _ => rfl) fun cdv A outer s H E hh =>
    (bj_cons (sj_setO (O := []) (O' := [4]) (i := 4) (by decide) (ej_dictC hh (by rfl) z_dict (fun _ _ => rfl) (EJ.to_bo (ej_var (O := []) (by decide) (pv 0)))) fun _ h => ps_set (i := 4) hh.nd rfl (by first | exact .inl rfl | exact .inr rfl) h) (bj_cons (sj_set (O := [4]) (i := 5) (by decide) (ej_var (O := [4]) (by decide) (pv 3)) fun _ h => ps_set (i := 5) hh.nd rfl (by first | exact .inl rfl | exact .inr rfl) h) (bj_cons (sj_set (O := [4]) (i := 6) (by decide) ejm_non fun _ h => ps_set (i := 6) hh.nd rfl (by first | exact .inl rfl | exact .inr rfl) h) (bj_cons (sj_while hh (tj_cmp (ne_ok hh) (EJ.to_bo (ej_var (O := [4]) (by decide) (pv 6))) (EJ.to_bo (ej_var (O := [4]) (by decide) (pv 2)))) (bj_cons (sj_set (O := [4]) (i := 6) (by decide) (ej_getD hh (fun _ _ => rfl) (EJ.to_bo (ej_var (O := [4]) (by decide) (pv 1))) (EJ.to_bo (ej_var (O := [4]) (by decide) (pv 5)))) fun _ h => ps_set (i := 6) hh.nd rfl (by first | exact .inl rfl | exact .inr rfl) h) (bj_cons (sj_storeD (O := [4]) (i := 4) (by decide) hh (EJ.to_bo (ej_var (O := [4]) (by decide) (pv 5))) (ej_var (O := [4]) (by decide) (pv 6)) (pv 4) (by rfl)) (bj_cons (sj_set (O := [4]) (i := 5) (by decide) (ej_callK k_part_at hh (by decide) (by rfl) (by rfl) (by decide) (fun _ _ => rfl) (noStars_cons (fun _ _ => rfl) noStars_nil) (aj_cons (fun _ _ => rfl) (ej_var (O := [4]) (by decide) (pv 0)) (aj_cons (fun _ _ => rfl) (ej_var (O := [4]) (by decide) (pv 6)) aj_nil)) (alen_cons (alen_cons alen_nil))) fun _ h => ps_set (i := 5) hh.nd rfl (by first | exact .inl rfl | exact .inr rfl) h) bj_nil)))) (BJ.drop [4] (bj_cons (sj_ret (ej_var (O := []) (by decide) (pv 4))) bj_nil))))))

abbrev s_greatest_owners : Stmt := topS 19
abbrev N_greatest_owners : List Str := ["table", "owners", "joint", "came", "free"]
theorem sc_greatest_owners : FnScope N_greatest_owners ["table"] (defScope s_greatest_owners) := ⟨rfl, rfl, rfl, by decide +kernel, rfl, by decide +kernel, by decide +kernel⟩
theorem ok_greatest_owners {f : Addr} {fd : FuncData} (hm : mg "greatest_owners" = some (.ref f)) (F : FunD K "greatest_owners" "greatest_owners" (defArgs s_greatest_owners) (defBody s_greatest_owners) (defScope s_greatest_owners) [] [] f fd) (k_names_of : Kn P w K mg base 1 "names_of" ["table"] .sh d_names_of) (k_reached_from : Kn P w K mg base 2 "reached_from" ["table", "owners", "start"] .sh d_reached_from) (k_free_part : Kn P w K mg base 1 "free_part" ["owners", "came"] .sh d_free_part) (k_owners_along : Kn P w K mg base 2 "owners_along" ["owners", "came", "start", "free"] .sh d_owners_along) : Kn P w K mg base 3 "greatest_owners" ["table"] .sh d_greatest_owners :=
  kn_ok (O' := []) (k := 2) hm F sc_greatest_owners (by decide) (fun _ _ _ _ _ _ us hl => match us, hl with | [_], _ => rfl) fun cdv A outer s H E hh =>
    (bj_cons (sj_set (O := []) (i := 1) (by decide) (EJ.fr_sh ej_dict0) fun _ h => ps_set (i := 1) hh.nd rfl (by first | exact .inl rfl | exact .inr rfl) h) (bj_cons (sj_for hh (ij_val (ej_callK k_names_of hh (by decide) (by rfl) (by rfl) (by decide) (fun _ _ => rfl) noStars_nil (aj_cons (fun _ _ => rfl) (ej_var (O := []) (by decide) (pv 0)) aj_nil) (alen_cons alen_nil))) (gj_name (O := []) (by decide) (pg_name (i := 2) hh.nd rfl (by first | exact .inl rfl | exact .inr rfl))) (bj_cons (sj_set (O := []) (i := 3) (by decide) (ej_idx (EJ.to_bo (ej_callK k_reached_from hh (by decide) (by rfl) (by rfl) (by decide) (fun _ _ => rfl) (noStars_cons (fun _ _ => rfl) (noStars_cons (fun _ _ => rfl) noStars_nil)) (aj_cons (fun _ _ => rfl) (ej_var (O := []) (by decide) (pv 0)) (aj_cons (fun _ _ => rfl) (ej_var (O := []) (by decide) (pv 1)) (aj_cons (fun _ _ => rfl) (ej_var (O := []) (by decide) (pv 2)) aj_nil))) (alen_cons (alen_cons (alen_cons alen_nil))))) ejm_int) fun _ h => ps_set (i := 3) hh.nd rfl (by first | exact .inl rfl | exact .inr rfl) h) (bj_cons (sj_set (O := []) (i := 4) (by decide) (ej_callK k_free_part hh (by decide) (by rfl) (by rfl) (by decide) (fun _ _ => rfl) (noStars_cons (fun _ _ => rfl) noStars_nil) (aj_cons (fun _ _ => rfl) (ej_var (O := []) (by decide) (pv 1)) (aj_cons (fun _ _ => rfl) (ej_var (O := []) (by decide) (pv 3)) aj_nil)) (alen_cons (alen_cons alen_nil))) fun _ h => ps_set (i := 4) hh.nd rfl (by first | exact .inl rfl | exact .inr rfl) h) (bj_cons (sj_if (tj_cmp notN_ok (EJ.to_bo (ej_var (O := []) (by decide) (pv 4))) ejm_non) (bj_cons (sj_set (O := []) (i := 1) (by decide) (ej_callK k_owners_along hh (by decide) (by rfl) (by rfl) (by decide) (fun _ _ => rfl) (noStars_cons (fun _ _ => rfl) (noStars_cons (fun _ _ => rfl) (noStars_cons (fun _ _ => rfl) noStars_nil))) (aj_cons (fun _ _ => rfl) (ej_var (O := []) (by decide) (pv 1)) (aj_cons (fun _ _ => rfl) (ej_var (O := []) (by decide) (pv 3)) (aj_cons (fun _ _ => rfl) (ej_var (O := []) (by decide) (pv 2)) (aj_cons (fun _ _ => rfl) (ej_var (O := []) (by decide) (pv 4)) aj_nil)))) (alen_cons (alen_cons (alen_cons (alen_cons alen_nil))))) fun _ h => ps_set (i := 1) hh.nd rfl (by first | exact .inl rfl | exact .inr rfl) h) bj_nil) bj_nil) bj_nil))) (by intro _; rfl)) (bj_cons (sj_ret (ej_var (O := []) (by decide) (pv 1))) bj_nil)))

abbrev s_match_of : Stmt := topS 20
abbrev N_match_of : List Str := ["owners", "part"]
theorem sc_match_of : FnScope N_match_of ["owners"] (defScope s_match_of) := ⟨rfl, rfl, rfl, by decide +kernel, rfl, by decide +kernel, by decide +kernel⟩
theorem ok_match_of {f : Addr} {fd : FuncData} (hm : mg "match_of" = some (.ref f)) (F : FunD K "match_of" "match_of" (defArgs s_match_of) (defBody s_match_of) (defScope s_match_of) [] [] f fd) (k_table_from : Kn P w K mg base 1 "table_from" ["pairs"] .sh d_table_from) : Kn P w K mg base 2 "match_of" ["owners"] .sh d_match_of :=
  kn_ok (O' := []) (k := 1) hm F sc_match_of (by decide) (fun _ _ _ _ _ _ us hl => match us, hl with | [_], _ => rfl) fun cdv A outer s H E hh =>
    (bj_cons (sj_ret (ej_callK k_table_from hh (by decide) (by rfl) (by rfl) (by decide) (fun _ _ => rfl) noStars_nil (aj_cons (fun _ _ => rfl) (EJ.fr_sh (ej_comp hh (own := [("part", 1)]) (ij_keys (ej_var (O := []) (by decide) (pv 0))) (blkOk_by (N := N_match_of) (sc := (defScope s_match_of)) (by decide +kernel)) (fun s_ H_ C_ cl_ fp_ hh => (gj_name (O := []) (by decide) (pg_name (i := 1) hh.nd rfl (by first | exact .inl rfl | exact .inr rfl)))) (fun s_ H_ C_ cl_ fp_ hh => tsj_nil) (fun s_ H_ C_ cl_ fp_ hh => (ej_tup (aj_cons (fun _ _ => rfl) (ej_getD hh (fun _ _ => rfl) (EJ.to_bo (ej_var (O := []) (by decide) (pv 0))) (EJ.to_bo (ej_var (O := []) (by decide) (pv 1)))) (aj_cons (fun _ _ => rfl) (ej_var (O := []) (by decide) (pv 1)) aj_nil)))) (by intro _; rfl))) aj_nil) (alen_cons alen_nil))) bj_nil)

abbrev s_matching_report : Stmt := topS 21
abbrev N_matching_report : List Str := ["table", "owners", "joint", "joints", "came"]
theorem sc_matching_report : FnScope N_matching_report ["table"] (defScope s_matching_report) := ⟨rfl, rfl, rfl, by decide +kernel, rfl, by decide +kernel, by decide +kernel⟩
theorem ok_matching_report {f : Addr} {fd : FuncData} (hm : mg "matching_report" = some (.ref f)) (F : FunD K "matching_report" "matching_report" (defArgs s_matching_report) (defBody s_matching_report) (defScope s_matching_report) [] [] f fd) (z_sorted : mg "sorted" = none) (z_tuple : mg "tuple" = none) (k_greatest_owners : Kn P w K mg base 3 "greatest_owners" ["table"] .sh d_greatest_owners) (k_names_of : Kn P w K mg base 1 "names_of" ["table"] .sh d_names_of) (k_part_at : Kn P w K mg base 1 "part_at" ["owners", "joint"] .sh d_part_at) (k_reached_from : Kn P w K mg base 2 "reached_from" ["table", "owners", "start"] .sh d_reached_from) (k_match_of : Kn P w K mg base 2 "match_of" ["owners"] .sh d_match_of) : Kn P w K mg base 4 "matching_report" ["table"] .sh d_matching_report :=
  kn_ok (O' := []) (k := 3) hm F sc_matching_report (by decide) (fun _ _ _ _ _ _ us hl => match us, hl with | [_], _ => rfl) fun cdv A outer s H E hh =>
    (bj_cons (sj_set (O := []) (i := 1) (by decide) (ej_callK k_greatest_owners hh (by decide) (by rfl) (by rfl) (by decide) (fun _ _ => rfl) noStars_nil (aj_cons (fun _ _ => rfl) (ej_var (O := []) (by decide) (pv 0)) aj_nil) (alen_cons alen_nil)) fun _ h => ps_set (i := 1) hh.nd rfl (by first | exact .inl rfl | exact .inr rfl) h) (bj_cons (sj_for hh (ij_val (ej_callK k_names_of hh (by decide) (by rfl) (by rfl) (by decide) (fun _ _ => rfl) noStars_nil (aj_cons (fun _ _ => rfl) (ej_var (O := []) (by decide) (pv 0)) aj_nil) (alen_cons alen_nil))) (gj_name (O := []) (by decide) (pg_name (i := 2) hh.nd rfl (by first | exact .inl rfl | exact .inr rfl))) (bj_cons (sj_if (tj_cmp isN_ok (EJ.to_bo (ej_callK k_part_at hh (by decide) (by rfl) (by rfl) (by decide) (fun _ _ => rfl) (noStars_cons (fun _ _ => rfl) noStars_nil) (aj_cons (fun _ _ => rfl) (ej_var (O := []) (by decide) (pv 1)) (aj_cons (fun _ _ => rfl) (ej_var (O := []) (by decide) (pv 2)) aj_nil)) (alen_cons (alen_cons alen_nil)))) ejm_non) (bj_cons (sj_unp (ej_callK k_reached_from hh (by decide) (by rfl) (by rfl) (by decide) (fun _ _ => rfl) (noStars_cons (fun _ _ => rfl) (noStars_cons (fun _ _ => rfl) noStars_nil)) (aj_cons (fun _ _ => rfl) (ej_var (O := []) (by decide) (pv 0)) (aj_cons (fun _ _ => rfl) (ej_var (O := []) (by decide) (pv 1)) (aj_cons (fun _ _ => rfl) (ej_var (O := []) (by decide) (pv 2)) aj_nil))) (alen_cons (alen_cons (alen_cons alen_nil)))) (gj_tup rfl (gsj_cons (gj_name (O := []) (by decide) (pg_name (i := 3) hh.nd rfl (by first | exact .inl rfl | exact .inr rfl))) (gsj_cons (gj_name (O := []) (by decide) (pg_name (i := 4) hh.nd rfl (by first | exact .inl rfl | exact .inr rfl))) gsj_nil rfl) rfl) rfl rfl) fun _ _ h1 h2 => ps_asg h1 h2) (bj_cons (sj_ret (ej_tup (aj_cons (fun _ _ => rfl) (ej_str (by decide +kernel)) (aj_cons (fun _ _ => rfl) (ej_tuple (by rfl) z_tuple (fun _ _ => rfl) (EJ.to_bo (ej_sorted hh (by rfl) z_sorted (fun _ _ => rfl) (EJ.to_bo (ej_var (O := []) (by decide) (pv 3)))))) (aj_cons (fun _ _ => rfl) (ej_tuple (by rfl) z_tuple (fun _ _ => rfl) (EJ.to_bo (ej_sorted hh (by rfl) z_sorted (fun _ _ => rfl) (EJ.to_bo (ej_var (O := []) (by decide) (pv 4)))))) aj_nil))))) bj_nil)) bj_nil) bj_nil) (by intro _; rfl)) (bj_cons (sj_ret (ej_tup (aj_cons (fun _ _ => rfl) (ej_str (by decide +kernel)) (aj_cons (fun _ _ => rfl) (ej_callK k_match_of hh (by decide) (by rfl) (by rfl) (by decide) (fun _ _ => rfl) noStars_nil (aj_cons (fun _ _ => rfl) (ej_var (O := []) (by decide) (pv 1)) aj_nil) (alen_cons alen_nil)) aj_nil)))) bj_nil)))

abbrev s_is_partial : Stmt := topS 22
abbrev N_is_partial : List Str := ["table", "value", "met", "joint", "part"]
theorem sc_is_partial : FnScope N_is_partial ["table", "value"] (defScope s_is_partial) := ⟨rfl, rfl, rfl, by decide +kernel, rfl, by decide +kernel, by decide +kernel⟩
theorem ok_is_partial {f : Addr} {fd : FuncData} (hm : mg "is_partial" = some (.ref f)) (F : FunD K "is_partial" "is_partial" (defArgs s_is_partial) (defBody s_is_partial) (defScope s_is_partial) [] [] f fd) (z_len : mg "len" = none) (k_is_table : Kn P w K mg base 4 "is_table" ["value", "least", "most"] .sh d_is_table) (k_is_name : Kn P w K mg base 1 "is_name" ["value"] .sh d_is_name) (k_value_of : KnD P w K mg base 1 "value_of" ["table", "name", "default"] (.none) .sh d_value_of) : Kn P w K mg base 5 "is_partial" ["table", "value"] .sh d_is_partial :=
  kn_ok (O' := []) (k := 4) hm F sc_is_partial (by decide) (fun _ _ _ _ _ _ us hl => match us, hl with | [_, _], _ => rfl) fun cdv A outer s H E hh =>
    (bj_cons (sj_if (tj_not (tj_val (EJ.to_bo (ej_callK k_is_table hh (by decide) (by rfl) (by rfl) (by decide) (fun _ _ => rfl) (noStars_cons (fun _ _ => rfl) (noStars_cons (fun _ _ => rfl) noStars_nil)) (aj_cons (fun _ _ => rfl) (ej_var (O := []) (by decide) (pv 1)) (aj_cons (fun _ _ => rfl) ejm_int (aj_cons (fun _ _ => rfl) (ej_len (by rfl) z_len (fun _ _ => rfl) (EJ.to_bo (ej_var (O := []) (by decide) (pv 0)))) aj_nil))) (alen_cons (alen_cons (alen_cons alen_nil))))))) (bj_cons (sj_ret ejm_bl) bj_nil) bj_nil) (bj_cons (sj_setO (O := []) (O' := [2]) (i := 2) (by decide) (ej_lst aj_nil) fun _ h => ps_set (i := 2) hh.nd rfl (by first | exact .inl rfl | exact .inr rfl) h) (bj_cons (sj_for hh (ij_val (ej_var (O := [2]) (by decide) (pv 1))) (gj_tup rfl (gsj_cons (gj_name (O := [2]) (by decide) (pg_name (i := 3) hh.nd rfl (by first | exact .inl rfl | exact .inr rfl))) (gsj_cons (gj_name (O := [2]) (by decide) (pg_name (i := 4) hh.nd rfl (by first | exact .inl rfl | exact .inr rfl))) gsj_nil rfl) rfl) rfl rfl) (bj_cons (sj_if (WJ.tj (wj_or (tj_not (tj_val (EJ.to_bo (ej_callK k_is_name hh (by decide) (by rfl) (by rfl) (by decide) (fun _ _ => rfl) noStars_nil (aj_cons (fun _ _ => rfl) (ej_var (O := [2]) (by decide) (pv 4)) aj_nil) (alen_cons alen_nil))))) (wj_or (tj_cmp (in_ok hh (by rfl)) (EJ.to_bo (ej_var (O := [2]) (by decide) (pv 4))) (ej_own (pv 2))) (wj_or1 (tj_cmp (notIn_ok hh (by rfl)) (EJ.to_bo (ej_var (O := [2]) (by decide) (pv 4))) (EJ.to_bo (ej_callK k_value_of.full hh (by decide) (by rfl) (by rfl) (by decide) (fun _ _ => rfl) (noStars_cons (fun _ _ => rfl) (noStars_cons (fun _ _ => rfl) noStars_nil)) (aj_cons (fun _ _ => rfl) (ej_var (O := [2]) (by decide) (pv 0)) (aj_cons (fun _ _ => rfl) (ej_var (O := [2]) (by decide) (pv 3)) (aj_cons (fun _ _ => rfl) (ej_tup aj_nil) aj_nil))) (alen_cons (alen_cons (alen_cons alen_nil)))))))))) (bj_cons (sj_ret ejm_bl) bj_nil) bj_nil) (bj_cons (sj_app (O := [2]) (i := 2) (by decide) (ej_var (O := [2]) (by decide) (pv 4)) fun _ h => ps_expr (pe_bm PySem.F.plainAttrs_list PySem.F.slot_list_append PySem.F.type_list_append mt_append (pv 2) (pa_cons h pa_nil))) bj_nil)) (by intro _; rfl)) (bj_cons (sj_ret ejm_bl) bj_nil))))

abbrev s_is_match : Stmt := topS 23
abbrev N_is_match : List Str := ["table", "value"]
theorem sc_is_match : FnScope N_is_match ["table", "value"] (defScope s_is_match) := ⟨rfl, rfl, rfl, by decide +kernel, rfl, by decide +kernel, by decide +kernel⟩
theorem ok_is_match {f : Addr} {fd : FuncData} (hm : mg "is_match" = some (.ref f)) (F : FunD K "is_match" "is_match" (defArgs s_is_match) (defBody s_is_match) (defScope s_is_match) [] [] f fd) (k_is_partial : Kn P w K mg base 5 "is_partial" ["table", "value"] .sh d_is_partial) (k_names_of : Kn P w K mg base 1 "names_of" ["table"] .sh d_names_of) : Kn P w K mg base 6 "is_match" ["table", "value"] .sh d_is_match :=
  kn_ok (O' := []) (k := 5) hm F sc_is_match (by decide) (fun _ _ _ _ _ _ us hl => match us, hl with | [_, _], _ => rfl) fun cdv A outer s H E hh =>
    (bj_cons (sj_ret (ej_and (ej_callK k_is_partial hh (by decide) (by rfl) (by rfl) (by decide) (fun _ _ => rfl) (noStars_cons (fun _ _ => rfl) noStars_nil) (aj_cons (fun _ _ => rfl) (ej_var (O := []) (by decide) (pv 0)) (aj_cons (fun _ _ => rfl) (ej_var (O := []) (by decide) (pv 1)) aj_nil)) (alen_cons (alen_cons alen_nil))) (ej_one (ej_cmp (eq_ok hh) (EJ.to_bo (ej_callK k_names_of hh (by decide) (by rfl) (by rfl) (by decide) (fun _ _ => rfl) noStars_nil (aj_cons (fun _ _ => rfl) (ej_var (O := []) (by decide) (pv 1)) aj_nil) (alen_cons alen_nil))) (EJ.to_bo (ej_callK k_names_of hh (by decide) (by rfl) (by rfl) (by decide) (fun _ _ => rfl) noStars_nil (aj_cons (fun _ _ => rfl) (ej_var (O := []) (by decide) (pv 0)) aj_nil) (alen_cons alen_nil))))))) bj_nil)

abbrev s_is_cut : Stmt := topS 24
abbrev N_is_cut : List Str := ["table", "joints", "parts", "joint", "part"]
theorem sc_is_cut : FnScope N_is_cut ["table", "joints", "parts"] (defScope s_is_cut) := ⟨rfl, rfl, rfl, by decide +kernel, rfl, by decide +kernel, by decide +kernel⟩
theorem ok_is_cut {f : Addr} {fd : FuncData} (hm : mg "is_cut" = some (.ref f)) (F : FunD K "is_cut" "is_cut" (defArgs s_is_cut) (defBody s_is_cut) (defScope s_is_cut) [] [] f fd) (z_len : mg "len" = none) (k_is_ascending : Kn P w K mg base 3 "is_ascending" ["value", "least", "most"] .sh d_is_ascending) (k_holds : Kn P w K mg base 2 "holds" ["table", "name"] .sh d_holds) (k_value_of : KnD P w K mg base 1 "value_of" ["table", "name", "default"] (.none) .sh d_value_of) : Kn P w K mg base 4 "is_cut" ["table", "joints", "parts"] .sh d_is_cut :=
  kn_ok (O' := []) (k := 3) hm F sc_is_cut (by decide) (fun _ _ _ _ _ _ us hl => match us, hl with | [_, _, _], _ => rfl) fun cdv A outer s H E hh =>
    (bj_cons (sj_if (WJ.tj (wj_or (tj_not (tj_val (EJ.to_bo (ej_callK k_is_ascending hh (by decide) (by rfl) (by rfl) (by decide) (fun _ _ => rfl) (noStars_cons (fun _ _ => rfl) (noStars_cons (fun _ _ => rfl) noStars_nil)) (aj_cons (fun _ _ => rfl) (ej_var (O := []) (by decide) (pv 1)) (aj_cons (fun _ _ => rfl) ejm_int (aj_cons (fun _ _ => rfl) (ej_len (by rfl) z_len (fun _ _ => rfl) (EJ.to_bo (ej_var (O := []) (by decide) (pv 0)))) aj_nil))) (alen_cons (alen_cons (alen_cons alen_nil))))))) (wj_or1 (tj_not (tj_val (EJ.to_bo (ej_callK k_is_ascending hh (by decide) (by rfl) (by rfl) (by decide) (fun _ _ => rfl) (noStars_cons (fun _ _ => rfl) (noStars_cons (fun _ _ => rfl) noStars_nil)) (aj_cons (fun _ _ => rfl) (ej_var (O := []) (by decide) (pv 2)) (aj_cons (fun _ _ => rfl) ejm_int (aj_cons (fun _ _ => rfl) (ej_sub (EJ.to_bo (ej_len (by rfl) z_len (fun _ _ => rfl) (EJ.to_bo (ej_var (O := []) (by decide) (pv 1))))) ejm_int) aj_nil))) (alen_cons (alen_cons (alen_cons alen_nil)))))))))) (bj_cons (sj_ret ejm_bl) bj_nil) bj_nil) (bj_cons (sj_for hh (ij_val (ej_var (O := []) (by decide) (pv 1))) (gj_name (O := []) (by decide) (pg_name (i := 3) hh.nd rfl (by first | exact .inl rfl | exact .inr rfl))) (bj_cons (sj_if (tj_not (tj_val (EJ.to_bo (ej_callK k_holds hh (by decide) (by rfl) (by rfl) (by decide) (fun _ _ => rfl) (noStars_cons (fun _ _ => rfl) noStars_nil) (aj_cons (fun _ _ => rfl) (ej_var (O := []) (by decide) (pv 0)) (aj_cons (fun _ _ => rfl) (ej_var (O := []) (by decide) (pv 3)) aj_nil)) (alen_cons (alen_cons alen_nil)))))) (bj_cons (sj_ret ejm_bl) bj_nil) bj_nil) (bj_cons (sj_for hh (ij_val (ej_callDf k_value_of hh (by decide) (by rfl) (by rfl) (by decide) (fun _ _ => rfl) (noStars_cons (fun _ _ => rfl) noStars_nil) (aj_cons (fun _ _ => rfl) (ej_var (O := []) (by decide) (pv 0)) (aj_cons (fun _ _ => rfl) (ej_var (O := []) (by decide) (pv 3)) aj_nil)) (alen_cons (alen_cons alen_nil)))) (gj_name (O := []) (by decide) (pg_name (i := 4) hh.nd rfl (by first | exact .inl rfl | exact .inr rfl))) (bj_cons (sj_if (tj_cmp (notIn_ok hh (by rfl)) (EJ.to_bo (ej_var (O := []) (by decide) (pv 4))) (EJ.to_bo (ej_var (O := []) (by decide) (pv 2)))) (bj_cons (sj_ret ejm_bl) bj_nil) bj_nil) bj_nil) (by intro _; rfl)) bj_nil)) (by intro _; rfl)) (bj_cons (sj_ret ejm_bl) bj_nil)))

abbrev s_shows_matching : Stmt := topS 25
abbrev N_shows_matching : List Str := ["table", "paper"]
theorem sc_shows_matching : FnScope N_shows_matching ["table", "paper"] (defScope s_shows_matching) := ⟨rfl, rfl, rfl, by decide +kernel, rfl, by decide +kernel, by decide +kernel⟩
theorem ok_shows_matching {f : Addr} {fd : FuncData} (hm : mg "shows_matching" = some (.ref f)) (F : FunD K "shows_matching" "shows_matching" (defArgs s_shows_matching) (defBody s_shows_matching) (defScope s_shows_matching) [] [] f fd) (k_is_row : Kn P w K mg base 1 "is_row" ["value", "least", "most"] .sh d_is_row) (k_is_match : Kn P w K mg base 6 "is_match" ["table", "value"] .sh d_is_match) (k_is_cut : Kn P w K mg base 4 "is_cut" ["table", "joints", "parts"] .sh d_is_cut) : Kn P w K mg base 7 "shows_matching" ["table", "paper"] .sh d_shows_matching :=
  kn_ok (O' := []) (k := 6) hm F sc_shows_matching (by decide) (fun _ _ _ _ _ _ us hl => match us, hl with | [_, _], _ => rfl) fun cdv A outer s H E hh =>
    (bj_cons (sj_if (WJ.tj (wj_and (tj_val (EJ.to_bo (ej_callK k_is_row hh (by decide) (by rfl) (by rfl) (by decide) (fun _ _ => rfl) (noStars_cons (fun _ _ => rfl) (noStars_cons (fun _ _ => rfl) noStars_nil)) (aj_cons (fun _ _ => rfl) (ej_var (O := []) (by decide) (pv 1)) (aj_cons (fun _ _ => rfl) ejm_int (aj_cons (fun _ _ => rfl) ejm_int aj_nil))) (alen_cons (alen_cons (alen_cons alen_nil)))))) (wj_and1 (tj_cmp (eq_ok hh) (EJ.to_bo (ej_idx (EJ.to_bo (ej_var (O := []) (by decide) (pv 1))) ejm_int)) (EJ.to_bo (ej_str (by decide +kernel))))))) (bj_cons (sj_ret (ej_callK k_is_match hh (by decide) (by rfl) (by rfl) (by decide) (fun _ _ => rfl) (noStars_cons (fun _ _ => rfl) noStars_nil) (aj_cons (fun _ _ => rfl) (ej_var (O := []) (by decide) (pv 0)) (aj_cons (fun _ _ => rfl) (ej_idx (EJ.to_bo (ej_var (O := []) (by decide) (pv 1))) ejm_int) aj_nil)) (alen_cons (alen_cons alen_nil)))) bj_nil) bj_nil) (bj_cons (sj_if (WJ.tj (wj_and (tj_val (EJ.to_bo (ej_callK k_is_row hh (by decide) (by rfl) (by rfl) (by decide) (fun _ _ => rfl) (noStars_cons (fun _ _ => rfl) (noStars_cons (fun _ _ => rfl) noStars_nil)) (aj_cons (fun _ _ => rfl) (ej_var (O := []) (by decide) (pv 1)) (aj_cons (fun _ _ => rfl) ejm_int (aj_cons (fun _ _ => rfl) ejm_int aj_nil))) (alen_cons (alen_cons (alen_cons alen_nil)))))) (wj_and1 (tj_cmp (eq_ok hh) (EJ.to_bo (ej_idx (EJ.to_bo (ej_var (O := []) (by decide) (pv 1))) ejm_int)) (EJ.to_bo (ej_str (by decide +kernel))))))) (bj_cons (sj_ret (ej_callK k_is_cut hh (by decide) (by rfl) (by rfl) (by decide) (fun _ _ => rfl) (noStars_cons (fun _ _ => rfl) (noStars_cons (fun _ _ => rfl) noStars_nil)) (aj_cons (fun _ _ => rfl) (ej_var (O := []) (by decide) (pv 0)) (aj_cons (fun _ _ => rfl) (ej_idx (EJ.to_bo (ej_var (O := []) (by decide) (pv 1))) ejm_int) (aj_cons (fun _ _ => rfl) (ej_idx (EJ.to_bo (ej_var (O := []) (by decide) (pv 1))) ejm_int) aj_nil))) (alen_cons (alen_cons (alen_cons alen_nil))))) bj_nil) bj_nil) (bj_cons (sj_ret ejm_bl) bj_nil)))

abbrev s__law_mixed : Stmt := topS 27
abbrev N__law_mixed : List Str := ["number", "k", "told"]
theorem sc__law_mixed : FnScope N__law_mixed ["number", "k"] (defScope s__law_mixed) := ⟨rfl, rfl, rfl, by decide +kernel, rfl, by decide +kernel, by decide +kernel⟩
theorem ok__law_mixed {f : Addr} {fd : FuncData} (hm : mg "_law_mixed" = some (.ref f)) (F : FunD K "_law_mixed" "_law_mixed" (defArgs s__law_mixed) (defBody s__law_mixed) (defScope s__law_mixed) [] [] f fd) (z_int : mg "int" = none) : Kn P w K mg base 1 "_law_mixed" ["number", "k"] .sh d_law_mixed :=
  kn_ok (O' := []) (k := 0) hm F sc__law_mixed (by decide) (fun _ _ _ _ _ _ us hl => match us, hl with | [_, _], _ => rfl) fun cdv A outer s H E hh =>
    (bj_cons (sj_set (O := []) (i := 2) (by decide) (ej_mod (EJ.to_bo (ej_int' (by rfl) z_int (fun _ _ => rfl) (EJ.to_bo (ej_add (EJ.to_bo (ej_mul (EJ.to_bo (ej_var (O := []) (by decide) (pv 0))) ejm_int)) (EJ.to_bo (ej_mul (EJ.to_bo (ej_add (EJ.to_bo (ej_var (O := []) (by decide) (pv 1))) ejm_int)) ejm_int)))))) ejm_int) fun _ h => ps_set (i := 2) hh.nd rfl (by first | exact .inl rfl | exact .inr rfl) h) (bj_cons (sj_set (O := []) (i := 2) (by decide) (ej_mod (EJ.to_bo (ej_int' (by rfl) z_int (fun _ _ => rfl) (EJ.to_bo (ej_add (EJ.to_bo (ej_mul (EJ.to_bo (ej_var (O := []) (by decide) (pv 2))) (EJ.to_bo (ej_var (O := []) (by decide) (pv 2))))) (EJ.to_bo (ej_var (O := []) (by decide) (pv 0))))))) ejm_int) fun _ h => ps_set (i := 2) hh.nd rfl (by first | exact .inl rfl | exact .inr rfl) h) (bj_cons (sj_ret (ej_mod (EJ.to_bo (ej_int' (by rfl) z_int (fun _ _ => rfl) (EJ.to_bo (ej_div (EJ.to_bo (ej_var (O := []) (by decide) (pv 2))) ejm_int)))) ejm_int)) bj_nil)))

abbrev s__law_pool : Stmt := topS 28
abbrev N__law_pool : List Str := ["script", "found", "cell", "rest", "k", "last", "number"]
theorem sc__law_pool : FnScope N__law_pool ["script"] (defScope s__law_pool) := ⟨rfl, rfl, rfl, by decide +kernel, rfl, by decide +kernel, by decide +kernel⟩
theorem ok__law_pool {f : Addr} {fd : FuncData} (hm : mg "_law_pool" = some (.ref f)) (F : FunD K "_law_pool" "_law_pool" (defArgs s__law_pool) (defBody s__law_pool) (defScope s__law_pool) [] [] f fd) (z_len : mg "len" = none) (z_range : mg "range" = none) (z_int : mg "int" = none) (k__law_mixed : Kn P w K mg base 1 "_law_mixed" ["number", "k"] .sh d_law_mixed) : Kn P w K mg base 2 "_law_pool" ["script"] .sh d_law_pool :=
  kn_ok (O' := []) (k := 1) hm F sc__law_pool (by decide) (fun _ _ _ _ _ _ us hl => match us, hl with | [_], _ => rfl) fun cdv A outer s H E hh =>
    (bj_cons (sj_if (tj_cmp (eq_ok hh) (EJ.to_bo (ej_len (by rfl) z_len (fun _ _ => rfl) (EJ.to_bo (ej_var (O := []) (by decide) (pv 0))))) ejm_int) (bj_cons (sj_ret (EJ.fr_sh (ej_comp hh (own := [("k", 4)]) (ij_range1 (by rfl) z_range (fun _ _ => rfl) ejm_int) (blkOk_by (N := N__law_pool) (sc := (defScope s__law_pool)) (by decide +kernel)) (fun s_ H_ C_ cl_ fp_ hh => (gj_name (O := []) (by decide) (pg_name (i := 4) hh.nd rfl (by first | exact .inl rfl | exact .inr rfl)))) (fun s_ H_ C_ cl_ fp_ hh => tsj_nil) (fun s_ H_ C_ cl_ fp_ hh => ejm_int) (by intro _; rfl)))) bj_nil) bj_nil) (bj_cons (sj_setO (O := []) (O' := [1]) (i := 1) (by decide) (ej_lst aj_nil) fun _ h => ps_set (i := 1) hh.nd rfl (by first | exact .inl rfl | exact .inr rfl) h) (bj_cons (sj_for hh (ij_val (EJ.fr_sh (ej_slice (EJ.to_bo (ej_var (O := [1]) (by decide) (pv 0))) pj_none (pj_some ejm_int)))) (gj_name (O := [1]) (by decide) (pg_name (i := 2) hh.nd rfl (by first | exact .inl rfl | exact .inr rfl))) (bj_cons (sj_if (tj_cmp ge_ok (EJ.to_bo (ej_var (O := [1]) (by decide) (pv 2))) (EJ.to_bo (ej_pow ejm_int ejm_int))) (bj_cons (sj_set (O := [1]) (i := 3) (by decide) (ej_var (O := [1]) (by decide) (pv 2)) fun _ h => ps_set (i := 3) hh.nd rfl (by first | exact .inl rfl | exact .inr rfl) h) (bj_cons (sj_for hh (ij_range1 (by rfl) z_range (fun _ _ => rfl) ejm_int) (gj_name (O := [1]) (by decide) (pg_name (i := 4) hh.nd rfl (by first | exact .inl rfl | exact .inr rfl))) (bj_cons (sj_if (tj_cmp gt_ok (EJ.to_bo (ej_var (O := [1]) (by decide) (pv 3))) ejm_int) (bj_cons (sj_app (O := [1]) (i := 1) (by decide) (ej_mod (EJ.to_bo (ej_int' (by rfl) z_int (fun _ _ => rfl) (EJ.to_bo (ej_var (O := [1]) (by decide) (pv 3))))) ejm_int) fun _ h => ps_expr (pe_bm PySem.F.plainAttrs_list PySem.F.slot_list_append PySem.F.type_list_append mt_append (pv 1) (pa_cons h pa_nil))) (bj_cons (sj_set (O := [1]) (i := 3) (by decide) (ej_div (EJ.to_bo (ej_var (O := [1]) (by decide) (pv 3))) ejm_int) fun _ h => ps_set (i := 3) hh.nd rfl (by first | exact .inl rfl | exact .inr rfl) h) bj_nil)) bj_nil) bj_nil) (by intro _; rfl)) bj_nil)) (bj_cons (sj_for hh (ij_range1 (by rfl) z_range (fun _ _ => rfl) ejm_int) (gj_name (O := [1]) (by decide) (pg_name (i := 4) hh.nd rfl (by first | exact .inl rfl | exact .inr rfl))) (bj_cons (sj_app (O := [1]) (i := 1) (by decide) (ej_callK k__law_mixed hh (by decide) (by rfl) (by rfl) (by decide) (fun _ _ => rfl) (noStars_cons (fun _ _ => rfl) noStars_nil) (aj_cons (fun _ _ => rfl) (ej_mod (EJ.to_bo (ej_int' (by rfl) z_int (fun _ _ => rfl) (EJ.to_bo (ej_var (O := [1]) (by decide) (pv 2))))) ejm_int) (aj_cons (fun _ _ => rfl) (ej_var (O := [1]) (by decide) (pv 4)) aj_nil)) (alen_cons (alen_cons alen_nil))) fun _ h => ps_expr (pe_bm PySem.F.plainAttrs_list PySem.F.slot_list_append PySem.F.type_list_append mt_append (pv 1) (pa_cons h pa_nil))) bj_nil) (by intro _; rfl)) bj_nil)) bj_nil) (by intro _; rfl)) (bj_cons (sj_set (O := [1]) (i := 5) (by decide) ejm_int fun _ h => ps_set (i := 5) hh.nd rfl (by first | exact .inl rfl | exact .inr rfl) h) (bj_cons (sj_for hh (ij_val (EJ.fr_sh (ej_slice (ej_own (pv 1)) pj_none (pj_some ejm_int)))) (gj_name (O := [1]) (by decide) (pg_name (i := 6) hh.nd rfl (by first | exact .inl rfl | exact .inr rfl))) (bj_cons (sj_set (O := [1]) (i := 5) (by decide) (ej_mod (EJ.to_bo (ej_int' (by rfl) z_int (fun _ _ => rfl) (EJ.to_bo (ej_add (EJ.to_bo (ej_mul (EJ.to_bo (ej_var (O := [1]) (by decide) (pv 5))) ejm_int)) (EJ.to_bo (ej_var (O := [1]) (by decide) (pv 6))))))) ejm_int) fun _ h => ps_set (i := 5) hh.nd rfl (by first | exact .inl rfl | exact .inr rfl) h) bj_nil) (by intro _; rfl)) (bj_cons (sj_for hh (ij_range1 (by rfl) z_range (fun _ _ => rfl) (EJ.to_bo (ej_sub ejm_int (EJ.to_bo (ej_len (by rfl) z_len (fun _ _ => rfl) (ej_own (pv 1))))))) (gj_name (O := [1]) (by decide) (pg_name (i := 4) hh.nd rfl (by first | exact .inl rfl | exact .inr rfl))) (bj_cons (sj_set (O := [1]) (i := 5) (by decide) (ej_mod (EJ.to_bo (ej_int' (by rfl) z_int (fun _ _ => rfl) (EJ.to_bo (ej_add (EJ.to_bo (ej_add (EJ.to_bo (ej_mul (EJ.to_bo (ej_var (O := [1]) (by decide) (pv 5))) ejm_int)) (EJ.to_bo (ej_var (O := [1]) (by decide) (pv 4))))) ejm_int)))) ejm_int) fun _ h => ps_set (i := 5) hh.nd rfl (by first | exact .inl rfl | exact .inr rfl) h) (bj_cons (sj_app (O := [1]) (i := 1) (by decide) (ej_callK k__law_mixed hh (by decide) (by rfl) (by rfl) (by decide) (fun _ _ => rfl) (noStars_cons (fun _ _ => rfl) noStars_nil) (aj_cons (fun _ _ => rfl) (ej_var (O := [1]) (by decide) (pv 5)) (aj_cons (fun _ _ => rfl) (ej_var (O := [1]) (by decide) (pv 4)) aj_nil)) (alen_cons (alen_cons alen_nil))) fun _ h => ps_expr (pe_bm PySem.F.plainAttrs_list PySem.F.slot_list_append PySem.F.type_list_append mt_append (pv 1) (pa_cons h pa_nil))) bj_nil)) (by intro _; rfl)) (BJ.drop [1] (bj_cons (sj_ret (ej_var (O := []) (by decide) (pv 1))) bj_nil))))))))

abbrev s__law_name : Stmt := topS 29
abbrev N__law_name : List Str := ["number", "letters", "signs", "name", "rest", "k"]
theorem sc__law_name : FnScope N__law_name ["number"] (defScope s__law_name) := ⟨rfl, rfl, rfl, by decide +kernel, rfl, by decide +kernel, by decide +kernel⟩
theorem ok__law_name {f : Addr} {fd : FuncData} (hm : mg "_law_name" = some (.ref f)) (F : FunD K "_law_name" "_law_name" (defArgs s__law_name) (defBody s__law_name) (defScope s__law_name) [] [] f fd) (z_int : mg "int" = none) (z_range : mg "range" = none) : Kn P w K mg base 1 "_law_name" ["number"] .sh d_law_name_2 :=
  kn_ok (O' := []) (k := 0) hm F sc__law_name (by decide) (fun _ _ _ _ _ _ us hl => match us, hl with | [_], _ => rfl) fun cdv A outer s H E hh =>
    (bj_cons (sj_set (O := []) (i := 1) (by decide) (ej_str (by decide +kernel)) fun _ h => ps_set (i := 1) hh.nd rfl (by first | exact .inl rfl | exact .inr rfl) h) (bj_cons (sj_set (O := []) (i := 2) (by decide) (EJ.fr_sh (ej_add (EJ.to_bo (ej_var (O := []) (by decide) (pv 1))) (EJ.to_bo (ej_str (by decide +kernel))))) fun _ h => ps_set (i := 2) hh.nd rfl (by first | exact .inl rfl | exact .inr rfl) h) (bj_cons (sj_set (O := []) (i := 3) (by decide) (ej_idx (EJ.to_bo (ej_var (O := []) (by decide) (pv 1))) (EJ.to_bo (ej_mod (EJ.to_bo (ej_int' (by rfl) z_int (fun _ _ => rfl) (EJ.to_bo (ej_var (O := []) (by decide) (pv 0))))) ejm_int))) fun _ h => ps_set (i := 3) hh.nd rfl (by first | exact .inl rfl | exact .inr rfl) h) (bj_cons (sj_set (O := []) (i := 4) (by decide) (ej_div (EJ.to_bo (ej_var (O := []) (by decide) (pv 0))) ejm_int) fun _ h => ps_set (i := 4) hh.nd rfl (by first | exact .inl rfl | exact .inr rfl) h) (bj_cons (sj_for hh (ij_range1 (by rfl) z_range (fun _ _ => rfl) ejm_int) (gj_name (O := []) (by decide) (pg_name (i := 5) hh.nd rfl (by first | exact .inl rfl | exact .inr rfl))) (bj_cons (sj_if (tj_cmp gt_ok (EJ.to_bo (ej_var (O := []) (by decide) (pv 4))) ejm_int) (bj_cons (sj_set (O := []) (i := 4) (by decide) (ej_sub (EJ.to_bo (ej_var (O := []) (by decide) (pv 4))) ejm_int) fun _ h => ps_set (i := 4) hh.nd rfl (by first | exact .inl rfl | exact .inr rfl) h) (bj_cons (sj_set (O := []) (i := 3) (by decide) (EJ.fr_sh (ej_add (EJ.to_bo (ej_var (O := []) (by decide) (pv 3))) (EJ.to_bo (ej_idx (EJ.to_bo (ej_var (O := []) (by decide) (pv 2))) (EJ.to_bo (ej_mod (EJ.to_bo (ej_int' (by rfl) z_int (fun _ _ => rfl) (EJ.to_bo (ej_var (O := []) (by decide) (pv 4))))) ejm_int)))))) fun _ h => ps_set (i := 3) hh.nd rfl (by first | exact .inl rfl | exact .inr rfl) h) (bj_cons (sj_set (O := []) (i := 4) (by decide) (ej_div (EJ.to_bo (ej_var (O := []) (by decide) (pv 4))) ejm_int) fun _ h => ps_set (i := 4) hh.nd rfl (by first | exact .inl rfl | exact .inr rfl) h) bj_nil))) bj_nil) bj_nil) (by intro _; rfl)) (bj_cons (sj_ret (ej_var (O := []) (by decide) (pv 3))) bj_nil))))))

abbrev s__law_names : Stmt := topS 30
abbrev N__law_names : List Str := ["pool", "at", "count", "found", "k", "number", "t"]
theorem sc__law_names : FnScope N__law_names ["pool", "at", "count"] (defScope s__law_names) := ⟨rfl, rfl, rfl, by decide +kernel, rfl, by decide +kernel, by decide +kernel⟩
theorem ok__law_names {f : Addr} {fd : FuncData} (hm : mg "_law_names" = some (.ref f)) (F : FunD K "_law_names" "_law_names" (defArgs s__law_names) (defBody s__law_names) (defScope s__law_names) [] [] f fd) (z_range : mg "range" = none) (z_int : mg "int" = none) (z_sorted : mg "sorted" = none) (z_tuple : mg "tuple" = none) (k__law_name : Kn P w K mg base 1 "_law_name" ["number"] .sh d_law_name_2) : Kn P w K mg base 2 "_law_names" ["pool", "at", "count"] .sh d_law_names_3 :=
  kn_ok (O' := []) (k := 1) hm F sc__law_names (by decide) (fun _ _ _ _ _ _ us hl => match us, hl with | [_, _, _], _ => rfl) fun cdv A outer s H E hh =>
    (bj_cons (sj_setO (O := []) (O' := [3]) (i := 3) (by decide) (ej_lst aj_nil) fun _ h => ps_set (i := 3) hh.nd rfl (by first | exact .inl rfl | exact .inr rfl) h) (bj_cons (sj_for hh (ij_range1 (by rfl) z_range (fun _ _ => rfl) (EJ.to_bo (ej_var (O := [3]) (by decide) (pv 2)))) (gj_name (O := [3]) (by decide) (pg_name (i := 4) hh.nd rfl (by first | exact .inl rfl | exact .inr rfl))) (bj_cons (sj_set (O := [3]) (i := 5) (by decide) (ej_idx (EJ.to_bo (ej_var (O := [3]) (by decide) (pv 0))) (EJ.to_bo (ej_add (EJ.to_bo (ej_var (O := [3]) (by decide) (pv 1))) (EJ.to_bo (ej_var (O := [3]) (by decide) (pv 4)))))) fun _ h => ps_set (i := 5) hh.nd rfl (by first | exact .inl rfl | exact .inr rfl) h) (bj_cons (sj_if (tj_cmp (eq_ok hh) (EJ.to_bo (ej_mod (EJ.to_bo (ej_int' (by rfl) z_int (fun _ _ => rfl) (EJ.to_bo (ej_idx (EJ.to_bo (ej_var (O := [3]) (by decide) (pv 0))) (EJ.to_bo (ej_var (O := [3]) (by decide) (pv 1))))))) ejm_int)) ejm_int) (bj_cons (sj_set (O := [3]) (i := 5) (by decide) (ej_mul (EJ.to_bo (ej_var (O := [3]) (by decide) (pv 5))) (EJ.to_bo (ej_pow ejm_int ejm_int))) fun _ h => ps_set (i := 5) hh.nd rfl (by first | exact .inl rfl | exact .inr rfl) h) bj_nil) bj_nil) (bj_cons (sj_for hh (ij_range1 (by rfl) z_range (fun _ _ => rfl) (EJ.to_bo (ej_var (O := [3]) (by decide) (pv 2)))) (gj_name (O := [3]) (by decide) (pg_name (i := 6) hh.nd rfl (by first | exact .inl rfl | exact .inr rfl))) (bj_cons (sj_if (tj_cmp (in_ok hh (by rfl)) (EJ.to_bo (ej_callK k__law_name hh (by decide) (by rfl) (by rfl) (by decide) (fun _ _ => rfl) noStars_nil (aj_cons (fun _ _ => rfl) (ej_var (O := [3]) (by decide) (pv 5)) aj_nil) (alen_cons alen_nil))) (ej_own (pv 3))) (bj_cons (sj_set (O := [3]) (i := 5) (by decide) (EJ.fr_sh (ej_add (EJ.to_bo (ej_var (O := [3]) (by decide) (pv 5))) ejm_int)) fun _ h => ps_set (i := 5) hh.nd rfl (by first | exact .inl rfl | exact .inr rfl) h) bj_nil) bj_nil) bj_nil) (by intro _; rfl)) (bj_cons (sj_app (O := [3]) (i := 3) (by decide) (ej_callK k__law_name hh (by decide) (by rfl) (by rfl) (by decide) (fun _ _ => rfl) noStars_nil (aj_cons (fun _ _ => rfl) (ej_var (O := [3]) (by decide) (pv 5)) aj_nil) (alen_cons alen_nil)) fun _ h => ps_expr (pe_bm PySem.F.plainAttrs_list PySem.F.slot_list_append PySem.F.type_list_append mt_append (pv 3) (pa_cons h pa_nil))) bj_nil)))) (by intro _; rfl)) (bj_cons (sj_ret (ej_tuple (by rfl) z_tuple (fun _ _ => rfl) (EJ.to_bo (ej_sorted hh (by rfl) z_sorted (fun _ _ => rfl) (ej_own (pv 3)))))) bj_nil)))

abbrev s__law_bit : Stmt := topS 31
abbrev N__law_bit : List Str := ["pool", "at", "p"]
theorem sc__law_bit : FnScope N__law_bit ["pool", "at", "p"] (defScope s__law_bit) := ⟨rfl, rfl, rfl, by decide +kernel, rfl, by decide +kernel, by decide +kernel⟩
theorem ok__law_bit {f : Addr} {fd : FuncData} (hm : mg "_law_bit" = some (.ref f)) (F : FunD K "_law_bit" "_law_bit" (defArgs s__law_bit) (defBody s__law_bit) (defScope s__law_bit) [] [] f fd) (z_int : mg "int" = none) : Kn P w K mg base 1 "_law_bit" ["pool", "at", "p"] .sh d_law_bit :=
  kn_ok (O' := []) (k := 0) hm F sc__law_bit (by decide) (fun _ _ _ _ _ _ us hl => match us, hl with | [_, _, _], _ => rfl) fun cdv A outer s H E hh =>
    (bj_cons (sj_ret (ej_cmp (eq_ok hh) (EJ.to_bo (ej_mod (EJ.to_bo (ej_int' (by rfl) z_int (fun _ _ => rfl) (EJ.to_bo (ej_div (EJ.to_bo (ej_idx (EJ.to_bo (ej_var (O := []) (by decide) (pv 0))) (EJ.to_bo (ej_add (EJ.to_bo (ej_var (O := []) (by decide) (pv 1))) (EJ.to_bo (ej_div (EJ.to_bo (ej_var (O := []) (by decide) (pv 2))) ejm_int)))))) (EJ.to_bo (ej_idx (EJ.to_bo (ej_lst (aj_cons (fun _ _ => rfl) ejm_int (aj_cons (fun _ _ => rfl) ejm_int (aj_cons (fun _ _ => rfl) ejm_int (aj_cons (fun _ _ => rfl) ejm_int (aj_cons (fun _ _ => rfl) ejm_int (aj_cons (fun _ _ => rfl) ejm_int (aj_cons (fun _ _ => rfl) ejm_int (aj_cons (fun _ _ => rfl) ejm_int (aj_cons (fun _ _ => rfl) ejm_int aj_nil))))))))))) (EJ.to_bo (ej_mod (EJ.to_bo (ej_int' (by rfl) z_int (fun _ _ => rfl) (EJ.to_bo (ej_var (O := []) (by decide) (pv 2))))) ejm_int)))))))) ejm_int)) ejm_int)) bj_nil)

abbrev s__law_takes : Stmt := topS 32
abbrev N__law_takes : List Str := ["pool", "mode", "k", "p", "size", "half"]
theorem sc__law_takes : FnScope N__law_takes ["pool", "mode", "k", "p", "size"] (defScope s__law_takes) := ⟨rfl, rfl, rfl, by decide +kernel, rfl, by decide +kernel, by decide +kernel⟩
theorem ok__law_takes {f : Addr} {fd : FuncData} (hm : mg "_law_takes" = some (.ref f)) (F : FunD K "_law_takes" "_law_takes" (defArgs s__law_takes) (defBody s__law_takes) (defScope s__law_takes) [] [] f fd) (k__law_bit : Kn P w K mg base 1 "_law_bit" ["pool", "at", "p"] .sh d_law_bit) : Kn P w K mg base 2 "_law_takes" ["pool", "mode", "k", "p", "size"] .sh d_law_takes :=
  kn_ok (O' := []) (k := 1) hm F sc__law_takes (by decide) (fun _ _ _ _ _ _ us hl => match us, hl with | [_, _, _, _, _], _ => rfl) fun cdv A outer s H E hh =>
    (bj_cons (sj_set (O := []) (i := 5) (by decide) (ej_callK k__law_bit hh (by decide) (by rfl) (by rfl) (by decide) (fun _ _ => rfl) (noStars_cons (fun _ _ => rfl) (noStars_cons (fun _ _ => rfl) noStars_nil)) (aj_cons (fun _ _ => rfl) (ej_var (O := []) (by decide) (pv 0)) (aj_cons (fun _ _ => rfl) (EJ.fr_sh (ej_add ejm_int (EJ.to_bo (ej_mul ejm_int (EJ.to_bo (ej_var (O := []) (by decide) (pv 2))))))) (aj_cons (fun _ _ => rfl) (ej_var (O := []) (by decide) (pv 3)) aj_nil))) (alen_cons (alen_cons (alen_cons alen_nil)))) fun _ h => ps_set (i := 5) hh.nd rfl (by first | exact .inl rfl | exact .inr rfl) h) (bj_cons (sj_if (tj_cmp (eq_ok hh) (EJ.to_bo (ej_var (O := []) (by decide) (pv 1))) ejm_int) (bj_cons (sj_ret (ej_and (ej_var (O := []) (by decide) (pv 5)) (ej_one (ej_callK k__law_bit hh (by decide) (by rfl) (by rfl) (by decide) (fun _ _ => rfl) (noStars_cons (fun _ _ => rfl) (noStars_cons (fun _ _ => rfl) noStars_nil)) (aj_cons (fun _ _ => rfl) (ej_var (O := []) (by decide) (pv 0)) (aj_cons (fun _ _ => rfl) (EJ.fr_sh (ej_add ejm_int (EJ.to_bo (ej_mul ejm_int (EJ.to_bo (ej_var (O := []) (by decide) (pv 2))))))) (aj_cons (fun _ _ => rfl) (ej_var (O := []) (by decide) (pv 3)) aj_nil))) (alen_cons (alen_cons (alen_cons alen_nil))))))) bj_nil) bj_nil) (bj_cons (sj_if (tj_cmp (eq_ok hh) (EJ.to_bo (ej_var (O := []) (by decide) (pv 1))) ejm_int) (bj_cons (sj_if (tj_cmp (eq_ok hh) (EJ.to_bo (ej_var (O := []) (by decide) (pv 2))) (EJ.to_bo (ej_sub (EJ.to_bo (ej_var (O := []) (by decide) (pv 4))) ejm_int))) (bj_cons (sj_ret (ej_cmp (eq_ok hh) (EJ.to_bo (ej_var (O := []) (by decide) (pv 3))) ejm_int)) bj_nil) bj_nil) (bj_cons (sj_ret (ej_or (ej_cmp (eq_ok hh) (EJ.to_bo (ej_var (O := []) (by decide) (pv 3))) (EJ.to_bo (ej_var (O := []) (by decide) (pv 2)))) (ej_one (ej_cmp (eq_ok hh) (EJ.to_bo (ej_var (O := []) (by decide) (pv 3))) (EJ.to_bo (ej_add (EJ.to_bo (ej_var (O := []) (by decide) (pv 2))) ejm_int)))))) bj_nil)) bj_nil) (bj_cons (sj_if (WJ.tj (wj_and (tj_cmp (eq_ok hh) (EJ.to_bo (ej_var (O := []) (by decide) (pv 1))) ejm_int) (wj_and1 (tj_cmp (lt_ok hh) (EJ.to_bo (ej_var (O := []) (by decide) (pv 2))) (EJ.to_bo (ej_add ejm_int (EJ.to_bo (ej_div (EJ.to_bo (ej_var (O := []) (by decide) (pv 4))) ejm_int)))))))) (bj_cons (sj_ret (ej_and (ej_var (O := []) (by decide) (pv 5)) (ej_one (ej_cmp (lt_ok hh) (EJ.to_bo (ej_var (O := []) (by decide) (pv 3))) (EJ.to_bo (ej_div (EJ.to_bo (ej_var (O := []) (by decide) (pv 4))) ejm_int)))))) bj_nil) bj_nil) (bj_cons (sj_if (tj_cmp (eq_ok hh) (EJ.to_bo (ej_var (O := []) (by decide) (pv 1))) ejm_int) (bj_cons (sj_ret (ej_or (ej_cmp (eq_ok hh) (EJ.to_bo (ej_var (O := []) (by decide) (pv 3))) (EJ.to_bo (ej_sub (EJ.to_bo (ej_sub (EJ.to_bo (ej_var (O := []) (by decide) (pv 4))) ejm_int)) (EJ.to_bo (ej_var (O := []) (by decide) (pv 2)))))) (ej_one (ej_and (ej_var (O := []) (by decide) (pv 5)) (ej_one (ej_callK k__law_bit hh (by decide) (by rfl) (by rfl) (by decide) (fun _ _ => rfl) (noStars_cons (fun _ _ => rfl) (noStars_cons (fun _ _ => rfl) noStars_nil)) (aj_cons (fun _ _ => rfl) (ej_var (O := []) (by decide) (pv 0)) (aj_cons (fun _ _ => rfl) (EJ.fr_sh (ej_add ejm_int (EJ.to_bo (ej_mul ejm_int (EJ.to_bo (ej_var (O := []) (by decide) (pv 2))))))) (aj_cons (fun _ _ => rfl) (ej_var (O := []) (by decide) (pv 3)) aj_nil))) (alen_cons (alen_cons (alen_cons alen_nil))))))))) bj_nil) bj_nil) (bj_cons (sj_if (tj_cmp (eq_ok hh) (EJ.to_bo (ej_var (O := []) (by decide) (pv 1))) ejm_int) (bj_cons (sj_ret (ej_callK k__law_bit hh (by decide) (by rfl) (by rfl) (by decide) (fun _ _ => rfl) (noStars_cons (fun _ _ => rfl) (noStars_cons (fun _ _ => rfl) noStars_nil)) (aj_cons (fun _ _ => rfl) (ej_var (O := []) (by decide) (pv 0)) (aj_cons (fun _ _ => rfl) ejm_int (aj_cons (fun _ _ => rfl) (ej_var (O := []) (by decide) (pv 3)) aj_nil))) (alen_cons (alen_cons (alen_cons alen_nil))))) bj_nil) bj_nil) (bj_cons (sj_if (tj_cmp (eq_ok hh) (EJ.to_bo (ej_var (O := []) (by decide) (pv 1))) ejm_int) (bj_cons (sj_ret (ej_or (ej_cmp (eq_ok hh) (EJ.to_bo (ej_var (O := []) (by decide) (pv 3))) (EJ.to_bo (ej_sub (EJ.to_bo (ej_sub (EJ.to_bo (ej_var (O := []) (by decide) (pv 4))) ejm_int)) (EJ.to_bo (ej_var (O := []) (by decide) (pv 2)))))) (ej_one (ej_var (O := []) (by decide) (pv 5))))) bj_nil) bj_nil) (bj_cons (sj_ret (ej_var (O := []) (by decide) (pv 5))) bj_nil))))))))

abbrev s__law_table : Stmt := topS 33
abbrev N__law_table : List Str := ["pool", "size", "wide", "mode", "joints", "first", "parts", "found", "k", "p"]
theorem sc__law_table : FnScope N__law_table ["pool", "size", "wide", "mode"] (defScope s__law_table) := ⟨rfl, rfl, rfl, by decide +kernel, rfl, by decide +kernel, by decide +kernel⟩
theorem ok__law_table {f : Addr} {fd : FuncData} (hm : mg "_law_table" = some (.ref f)) (F : FunD K "_law_table" "_law_table" (defArgs s__law_table) (defBody s__law_table) (defScope s__law_table) [] [] f fd) (z_int : mg "int" = none) (z_range : mg "range" = none) (z_tuple : mg "tuple" = none) (k__law_names : Kn P w K mg base 2 "_law_names" ["pool", "at", "count"] .sh d_law_names_3) (k__law_takes : Kn P w K mg base 2 "_law_takes" ["pool", "mode", "k", "p", "size"] .sh d_law_takes) : Kn P w K mg base 3 "_law_table" ["pool", "size", "wide", "mode"] .sh d_law_table_3 :=
  kn_ok (O' := []) (k := 2) hm F sc__law_table (by decide) (fun _ _ _ _ _ _ us hl => match us, hl with | [_, _, _, _], _ => rfl) fun cdv A outer s H E hh =>
    (bj_cons (sj_set (O := []) (i := 4) (by decide) (ej_callK k__law_names hh (by decide) (by rfl) (by rfl) (by decide) (fun _ _ => rfl) (noStars_cons (fun _ _ => rfl) (noStars_cons (fun _ _ => rfl) noStars_nil)) (aj_cons (fun _ _ => rfl) (ej_var (O := []) (by decide) (pv 0)) (aj_cons (fun _ _ => rfl) ejm_int (aj_cons (fun _ _ => rfl) (ej_var (O := []) (by decide) (pv 1)) aj_nil))) (alen_cons (alen_cons (alen_cons alen_nil)))) fun _ h => ps_set (i := 4) hh.nd rfl (by first | exact .inl rfl | exact .inr rfl) h) (bj_cons (sj_set (O := []) (i := 5) (by decide) ejm_int fun _ h => ps_set (i := 5) hh.nd rfl (by first | exact .inl rfl | exact .inr rfl) h) (bj_cons (sj_if (tj_cmp (eq_ok hh) (EJ.to_bo (ej_mod (EJ.to_bo (ej_int' (by rfl) z_int (fun _ _ => rfl) (EJ.to_bo (ej_idx (EJ.to_bo (ej_var (O := []) (by decide) (pv 0))) ejm_int)))) ejm_int)) ejm_int) (bj_cons (sj_set (O := []) (i := 5) (by decide) ejm_int fun _ h => ps_set (i := 5) hh.nd rfl (by first | exact .inl rfl | exact .inr rfl) h) bj_nil) bj_nil) (bj_cons (sj_set (O := []) (i := 6) (by decide) (ej_callK k__law_names hh (by decide) (by rfl) (by rfl) (by decide) (fun _ _ => rfl) (noStars_cons (fun _ _ => rfl) (noStars_cons (fun _ _ => rfl) noStars_nil)) (aj_cons (fun _ _ => rfl) (ej_var (O := []) (by decide) (pv 0)) (aj_cons (fun _ _ => rfl) (ej_var (O := []) (by decide) (pv 5)) (aj_cons (fun _ _ => rfl) (ej_var (O := []) (by decide) (pv 2)) aj_nil))) (alen_cons (alen_cons (alen_cons alen_nil)))) fun _ h => ps_set (i := 6) hh.nd rfl (by first | exact .inl rfl | exact .inr rfl) h) (bj_cons (sj_setO (O := []) (O' := [7]) (i := 7) (by decide) (ej_lst aj_nil) fun _ h => ps_set (i := 7) hh.nd rfl (by first | exact .inl rfl | exact .inr rfl) h) (bj_cons (sj_for hh (ij_range1 (by rfl) z_range (fun _ _ => rfl) (EJ.to_bo (ej_var (O := [7]) (by decide) (pv 1)))) (gj_name (O := [7]) (by decide) (pg_name (i := 8) hh.nd rfl (by first | exact .inl rfl | exact .inr rfl))) (bj_cons (sj_app (O := [7]) (i := 7) (by decide) (ej_tup (aj_cons (fun _ _ => rfl) (ej_idx (EJ.to_bo (ej_var (O := [7]) (by decide) (pv 4))) (EJ.to_bo (ej_var (O := [7]) (by decide) (pv 8)))) (aj_cons (fun _ _ => rfl) (ej_tuple (by rfl) z_tuple (fun _ _ => rfl) (EJ.to_bo (ej_comp hh (own := [("p", 9)]) (ij_range1 (by rfl) z_range (fun _ _ => rfl) (EJ.to_bo (ej_var (O := [7]) (by decide) (pv 2)))) (blkOk_by (N := N__law_table) (sc := (defScope s__law_table)) (by decide +kernel)) (fun s_ H_ C_ cl_ fp_ hh => (gj_name (O := [7]) (by decide) (pg_name (i := 9) hh.nd rfl (by first | exact .inl rfl | exact .inr rfl)))) (fun s_ H_ C_ cl_ fp_ hh => (tsj_one (tj_val (EJ.to_bo (ej_callK k__law_takes hh (by decide) (by rfl) (by rfl) (by decide) (fun _ _ => rfl) (noStars_cons (fun _ _ => rfl) (noStars_cons (fun _ _ => rfl) (noStars_cons (fun _ _ => rfl) (noStars_cons (fun _ _ => rfl) noStars_nil)))) (aj_cons (fun _ _ => rfl) (ej_var (O := [7]) (by decide) (pv 0)) (aj_cons (fun _ _ => rfl) (ej_var (O := [7]) (by decide) (pv 3)) (aj_cons (fun _ _ => rfl) (ej_var (O := [7]) (by decide) (pv 8)) (aj_cons (fun _ _ => rfl) (ej_var (O := [7]) (by decide) (pv 9)) (aj_cons (fun _ _ => rfl) (ej_var (O := [7]) (by decide) (pv 1)) aj_nil))))) (alen_cons (alen_cons (alen_cons (alen_cons (alen_cons alen_nil)))))))))) (fun s_ H_ C_ cl_ fp_ hh => (ej_idx (EJ.to_bo (ej_var (O := [7]) (by decide) (pv 6))) (EJ.to_bo (ej_var (O := [7]) (by decide) (pv 9))))) (by intro _; rfl)))) aj_nil))) fun _ h => ps_expr (pe_bm PySem.F.plainAttrs_list PySem.F.slot_list_append PySem.F.type_list_append mt_append (pv 7) (pa_cons h pa_nil))) bj_nil) (by intro _; rfl)) (bj_cons (sj_ret (ej_tuple (by rfl) z_tuple (fun _ _ => rfl) (ej_own (pv 7)))) bj_nil)))))))

abbrev s__law_is_name : Stmt := topS 34
abbrev N__law_is_name : List Str := ["value", "sign"]
theorem sc__law_is_name : FnScope N__law_is_name ["value"] (defScope s__law_is_name) := ⟨rfl, rfl, rfl, by decide +kernel, rfl, by decide +kernel, by decide +kernel⟩
theorem ok__law_is_name {f : Addr} {fd : FuncData} (hm : mg "_law_is_name" = some (.ref f)) (F : FunD K "_law_is_name" "_law_is_name" (defArgs s__law_is_name) (defBody s__law_is_name) (defScope s__law_is_name) [] [] f fd) (z_isinstance : mg "isinstance" = none) (z_str : mg "str" = none) (z_len : mg "len" = none) : Kn P w K mg base 1 "_law_is_name" ["value"] .sh d_law_is_name_2 :=
  kn_ok (O' := []) (k := 0) hm F sc__law_is_name (by decide) (fun _ _ _ _ _ _ us hl => match us, hl with | [_], _ => rfl) fun cdv A outer s H E hh =>
    (bj_cons (sj_if (WJ.tj (wj_or (tj_not (tj_val (EJ.to_bo (ej_isi (by rfl) z_isinstance (by rfl) z_str (by decide +kernel) (by decide) (by decide) (fun _ _ => rfl) (EJ.to_bo (ej_var (O := []) (by decide) (pv 0))))))) (wj_or1 (tj_not (tj_chain le_ok le_ok ejm_int (EJ.to_bo (ej_len (by rfl) z_len (fun _ _ => rfl) (EJ.to_bo (ej_var (O := []) (by decide) (pv 0))))) ejm_int fun _ _ _ _ _ h1 h2 h3 h4 h5 => pt_chain h1 h2 h3 h4 h5))))) (bj_cons (sj_ret ejm_bl) bj_nil) bj_nil) (bj_cons (sj_for hh (ij_val (ej_var (O := []) (by decide) (pv 0))) (gj_name (O := []) (by decide) (pg_name (i := 1) hh.nd rfl (by first | exact .inl rfl | exact .inr rfl))) (bj_cons (sj_if (tj_cmp (notIn_ok hh (by rfl)) (EJ.to_bo (ej_var (O := []) (by decide) (pv 1))) (EJ.to_bo (ej_str (by decide +kernel)))) (bj_cons (sj_ret ejm_bl) bj_nil) bj_nil) bj_nil) (by intro _; rfl)) (bj_cons (sj_ret (ej_cmp (notIn_ok hh (by rfl)) (EJ.to_bo (ej_idx (EJ.to_bo (ej_var (O := []) (by decide) (pv 0))) ejm_int)) (EJ.to_bo (ej_str (by decide +kernel))))) bj_nil)))

abbrev s__law_is_names : Stmt := topS 35
abbrev N__law_is_names : List Str := ["value", "k"]
theorem sc__law_is_names : FnScope N__law_is_names ["value"] (defScope s__law_is_names) := ⟨rfl, rfl, rfl, by decide +kernel, rfl, by decide +kernel, by decide +kernel⟩
theorem ok__law_is_names {f : Addr} {fd : FuncData} (hm : mg "_law_is_names" = some (.ref f)) (F : FunD K "_law_is_names" "_law_is_names" (defArgs s__law_is_names) (defBody s__law_is_names) (defScope s__law_is_names) [] [] f fd) (z_isinstance : mg "isinstance" = none) (z_tuple : mg "tuple" = none) (z_len : mg "len" = none) (z_range : mg "range" = none) (k__law_is_name : Kn P w K mg base 1 "_law_is_name" ["value"] .sh d_law_is_name_2) : Kn P w K mg base 2 "_law_is_names" ["value"] .sh d_law_is_names :=
  kn_ok (O' := []) (k := 1) hm F sc__law_is_names (by decide) (fun _ _ _ _ _ _ us hl => match us, hl with | [_], _ => rfl) fun cdv A outer s H E hh =>
    (bj_cons (sj_if (tj_not (tj_val (EJ.to_bo (ej_isi (by rfl) z_isinstance (by rfl) z_tuple (by decide +kernel) (by decide) (by decide) (fun _ _ => rfl) (EJ.to_bo (ej_var (O := []) (by decide) (pv 0))))))) (bj_cons (sj_ret ejm_bl) bj_nil) bj_nil) (bj_cons (sj_for hh (ij_range1 (by rfl) z_range (fun _ _ => rfl) (EJ.to_bo (ej_len (by rfl) z_len (fun _ _ => rfl) (EJ.to_bo (ej_var (O := []) (by decide) (pv 0)))))) (gj_name (O := []) (by decide) (pg_name (i := 1) hh.nd rfl (by first | exact .inl rfl | exact .inr rfl))) (bj_cons (sj_if (tj_not (tj_val (EJ.to_bo (ej_callK k__law_is_name hh (by decide) (by rfl) (by rfl) (by decide) (fun _ _ => rfl) noStars_nil (aj_cons (fun _ _ => rfl) (ej_idx (EJ.to_bo (ej_var (O := []) (by decide) (pv 0))) (EJ.to_bo (ej_var (O := []) (by decide) (pv 1)))) aj_nil) (alen_cons alen_nil))))) (bj_cons (sj_ret ejm_bl) bj_nil) bj_nil) (bj_cons (sj_if (WJ.tj (wj_and (tj_cmp gt_ok (EJ.to_bo (ej_var (O := []) (by decide) (pv 1))) ejm_int) (wj_and1 (tj_not (tj_cmp (lt_ok hh) (EJ.to_bo (ej_idx (EJ.to_bo (ej_var (O := []) (by decide) (pv 0))) (EJ.to_bo (ej_sub (EJ.to_bo (ej_var (O := []) (by decide) (pv 1))) ejm_int)))) (EJ.to_bo (ej_idx (EJ.to_bo (ej_var (O := []) (by decide) (pv 0))) (EJ.to_bo (ej_var (O := []) (by decide) (pv 1)))))))))) (bj_cons (sj_ret ejm_bl) bj_nil) bj_nil) bj_nil)) (by intro _; rfl)) (bj_cons (sj_ret ejm_bl) bj_nil)))

abbrev s__law_is_partial : Stmt := topS 36
abbrev N__law_is_partial : List Str := ["table", "value", "used", "k", "pair", "taken", "row"]
theorem sc__law_is_partial : FnScope N__law_is_partial ["table", "value"] (defScope s__law_is_partial) := ⟨rfl, rfl, rfl, by decide +kernel, rfl, by decide +kernel, by decide +kernel⟩
theorem ok__law_is_partial {f : Addr} {fd : FuncData} (hm : mg "_law_is_partial" = some (.ref f)) (F : FunD K "_law_is_partial" "_law_is_partial" (defArgs s__law_is_partial) (defBody s__law_is_partial) (defScope s__law_is_partial) [] [] f fd) (z_isinstance : mg "isinstance" = none) (z_tuple : mg "tuple" = none) (z_len : mg "len" = none) (z_range : mg "range" = none) (k__law_is_name : Kn P w K mg base 1 "_law_is_name" ["value"] .sh d_law_is_name_2) : Kn P w K mg base 2 "_law_is_partial" ["table", "value"] .sh d_law_is_partial :=
  kn_ok (O' := []) (k := 1) hm F sc__law_is_partial (by decide) (fun _ _ _ _ _ _ us hl => match us, hl with | [_, _], _ => rfl) fun cdv A outer s H E hh =>
    (bj_cons (sj_if (tj_not (tj_val (EJ.to_bo (ej_isi (by rfl) z_isinstance (by rfl) z_tuple (by decide +kernel) (by decide) (by decide) (fun _ _ => rfl) (EJ.to_bo (ej_var (O := []) (by decide) (pv 1))))))) (bj_cons (sj_ret ejm_bl) bj_nil) bj_nil) (bj_cons (sj_setO (O := []) (O' := [2]) (i := 2) (by decide) (ej_lst aj_nil) fun _ h => ps_set (i := 2) hh.nd rfl (by first | exact .inl rfl | exact .inr rfl) h) (bj_cons (sj_for hh (ij_range1 (by rfl) z_range (fun _ _ => rfl) (EJ.to_bo (ej_len (by rfl) z_len (fun _ _ => rfl) (EJ.to_bo (ej_var (O := [2]) (by decide) (pv 1)))))) (gj_name (O := [2]) (by decide) (pg_name (i := 3) hh.nd rfl (by first | exact .inl rfl | exact .inr rfl))) (bj_cons (sj_set (O := [2]) (i := 4) (by decide) (ej_idx (EJ.to_bo (ej_var (O := [2]) (by decide) (pv 1))) (EJ.to_bo (ej_var (O := [2]) (by decide) (pv 3)))) fun _ h => ps_set (i := 4) hh.nd rfl (by first | exact .inl rfl | exact .inr rfl) h) (bj_cons (sj_if (WJ.tj (wj_or (tj_not (tj_val (EJ.to_bo (ej_isi (by rfl) z_isinstance (by rfl) z_tuple (by decide +kernel) (by decide) (by decide) (fun _ _ => rfl) (EJ.to_bo (ej_var (O := [2]) (by decide) (pv 4))))))) (wj_or1 (tj_cmp (ne_ok hh) (EJ.to_bo (ej_len (by rfl) z_len (fun _ _ => rfl) (EJ.to_bo (ej_var (O := [2]) (by decide) (pv 4))))) ejm_int)))) (bj_cons (sj_ret ejm_bl) bj_nil) bj_nil) (bj_cons (sj_if (WJ.tj (wj_or (tj_not (tj_val (EJ.to_bo (ej_callK k__law_is_name hh (by decide) (by rfl) (by rfl) (by decide) (fun _ _ => rfl) noStars_nil (aj_cons (fun _ _ => rfl) (ej_idx (EJ.to_bo (ej_var (O := [2]) (by decide) (pv 4))) ejm_int) aj_nil) (alen_cons alen_nil))))) (wj_or (tj_not (tj_val (EJ.to_bo (ej_callK k__law_is_name hh (by decide) (by rfl) (by rfl) (by decide) (fun _ _ => rfl) noStars_nil (aj_cons (fun _ _ => rfl) (ej_idx (EJ.to_bo (ej_var (O := [2]) (by decide) (pv 4))) ejm_int) aj_nil) (alen_cons alen_nil))))) (wj_or1 (tj_cmp (in_ok hh (by rfl)) (EJ.to_bo (ej_idx (EJ.to_bo (ej_var (O := [2]) (by decide) (pv 4))) ejm_int)) (ej_own (pv 2))))))) (bj_cons (sj_ret ejm_bl) bj_nil) bj_nil) (bj_cons (sj_if (WJ.tj (wj_and (tj_cmp gt_ok (EJ.to_bo (ej_var (O := [2]) (by decide) (pv 3))) ejm_int) (wj_and1 (tj_not (tj_cmp (lt_ok hh) (EJ.to_bo (ej_idx (EJ.to_bo (ej_idx (EJ.to_bo (ej_var (O := [2]) (by decide) (pv 1))) (EJ.to_bo (ej_sub (EJ.to_bo (ej_var (O := [2]) (by decide) (pv 3))) ejm_int)))) ejm_int)) (EJ.to_bo (ej_idx (EJ.to_bo (ej_var (O := [2]) (by decide) (pv 4))) ejm_int))))))) (bj_cons (sj_ret ejm_bl) bj_nil) bj_nil) (bj_cons (sj_setComp (O := [2]) (i := 5) (by decide) hh (own := [("row", 6)]) (ij_valB (EJ.to_bo (ej_var (O := [2]) (by decide) (pv 0)))) (blkOk_by (N := N__law_is_partial) (sc := (defScope s__law_is_partial)) (by decide +kernel)) (fun s_ H_ C_ cl_ fp_ hh => (gj_name (O := [2]) (by decide) (pg_name (i := 6) hh.nd rfl (by first | exact .inl rfl | exact .inr rfl)))) (fun s_ H_ C_ cl_ fp_ hh => (tsj_one (WJ.tj (wj_and (tj_cmp (eq_ok hh) (EJ.to_bo (ej_idx (EJ.to_bo (ej_var (O := [2]) (by decide) (pv 6))) ejm_int)) (EJ.to_bo (ej_idx (EJ.to_bo (ej_var (O := [2]) (by decide) (pv 4))) ejm_int))) (wj_and1 (tj_cmp (in_ok hh (by rfl)) (EJ.to_bo (ej_idx (EJ.to_bo (ej_var (O := [2]) (by decide) (pv 4))) ejm_int)) (EJ.to_bo (ej_idx (EJ.to_bo (ej_var (O := [2]) (by decide) (pv 6))) ejm_int)))))))) (fun s_ H_ C_ cl_ fp_ hh => (ej_idx (EJ.to_bo (ej_var (O := [2]) (by decide) (pv 6))) ejm_int)) (by intro _; rfl) rfl rfl rfl) (bj_cons (sj_if (tj_cmp (ne_ok hh) (EJ.to_bo (ej_len (by rfl) z_len (fun _ _ => rfl) (EJ.to_bo (ej_var (O := [2]) (by decide) (pv 5))))) ejm_int) (bj_cons (sj_ret ejm_bl) bj_nil) bj_nil) (bj_cons (sj_app (O := [2]) (i := 2) (by decide) (ej_idx (EJ.to_bo (ej_var (O := [2]) (by decide) (pv 4))) ejm_int) fun _ h => ps_expr (pe_bm PySem.F.plainAttrs_list PySem.F.slot_list_append PySem.F.type_list_append mt_append (pv 2) (pa_cons h pa_nil))) bj_nil))))))) (by intro _; rfl)) (bj_cons (sj_ret ejm_bl) bj_nil))))

abbrev s__law_is_match : Stmt := topS 37
abbrev N__law_is_match : List Str := ["table", "value"]
theorem sc__law_is_match : FnScope N__law_is_match ["table", "value"] (defScope s__law_is_match) := ⟨rfl, rfl, rfl, by decide +kernel, rfl, by decide +kernel, by decide +kernel⟩
theorem ok__law_is_match {f : Addr} {fd : FuncData} (hm : mg "_law_is_match" = some (.ref f)) (F : FunD K "_law_is_match" "_law_is_match" (defArgs s__law_is_match) (defBody s__law_is_match) (defScope s__law_is_match) [] [] f fd) (z_len : mg "len" = none) (k__law_is_partial : Kn P w K mg base 2 "_law_is_partial" ["table", "value"] .sh d_law_is_partial) : Kn P w K mg base 3 "_law_is_match" ["table", "value"] .sh d_law_is_match :=
  kn_ok (O' := []) (k := 2) hm F sc__law_is_match (by decide) (fun _ _ _ _ _ _ us hl => match us, hl with | [_, _], _ => rfl) fun cdv A outer s H E hh =>
    (bj_cons (sj_ret (ej_and (ej_callK k__law_is_partial hh (by decide) (by rfl) (by rfl) (by decide) (fun _ _ => rfl) (noStars_cons (fun _ _ => rfl) noStars_nil) (aj_cons (fun _ _ => rfl) (ej_var (O := []) (by decide) (pv 0)) (aj_cons (fun _ _ => rfl) (ej_var (O := []) (by decide) (pv 1)) aj_nil)) (alen_cons (alen_cons alen_nil))) (ej_one (ej_cmp (eq_ok hh) (EJ.to_bo (ej_len (by rfl) z_len (fun _ _ => rfl) (EJ.to_bo (ej_var (O := []) (by decide) (pv 1))))) (EJ.to_bo (ej_len (by rfl) z_len (fun _ _ => rfl) (EJ.to_bo (ej_var (O := []) (by decide) (pv 0))))))))) bj_nil)

abbrev s__law_is_cut : Stmt := topS 38
abbrev N__law_is_cut : List Str := ["table", "joints", "parts", "known", "joint", "choice", "part", "row"]
theorem sc__law_is_cut : FnScope N__law_is_cut ["table", "joints", "parts"] (defScope s__law_is_cut) := ⟨rfl, rfl, rfl, by decide +kernel, rfl, by decide +kernel, by decide +kernel⟩
theorem ok__law_is_cut {f : Addr} {fd : FuncData} (hm : mg "_law_is_cut" = some (.ref f)) (F : FunD K "_law_is_cut" "_law_is_cut" (defArgs s__law_is_cut) (defBody s__law_is_cut) (defScope s__law_is_cut) [] [] f fd) (z_len : mg "len" = none) (k__law_is_names : Kn P w K mg base 2 "_law_is_names" ["value"] .sh d_law_is_names) : Kn P w K mg base 3 "_law_is_cut" ["table", "joints", "parts"] .sh d_law_is_cut :=
  kn_ok (O' := []) (k := 2) hm F sc__law_is_cut (by decide) (fun _ _ _ _ _ _ us hl => match us, hl with | [_, _, _], _ => rfl) fun cdv A outer s H E hh =>
    (bj_cons (sj_if (WJ.tj (wj_or (tj_not (tj_val (EJ.to_bo (ej_callK k__law_is_names hh (by decide) (by rfl) (by rfl) (by decide) (fun _ _ => rfl) noStars_nil (aj_cons (fun _ _ => rfl) (ej_var (O := []) (by decide) (pv 1)) aj_nil) (alen_cons alen_nil))))) (wj_or (tj_not (tj_val (EJ.to_bo (ej_callK k__law_is_names hh (by decide) (by rfl) (by rfl) (by decide) (fun _ _ => rfl) noStars_nil (aj_cons (fun _ _ => rfl) (ej_var (O := []) (by decide) (pv 2)) aj_nil) (alen_cons alen_nil))))) (wj_or1 (tj_not (tj_cmp (lt_ok hh) (EJ.to_bo (ej_len (by rfl) z_len (fun _ _ => rfl) (EJ.to_bo (ej_var (O := []) (by decide) (pv 2))))) (EJ.to_bo (ej_len (by rfl) z_len (fun _ _ => rfl) (EJ.to_bo (ej_var (O := []) (by decide) (pv 1))))))))))) (bj_cons (sj_ret ejm_bl) bj_nil) bj_nil) (bj_cons (sj_setComp (O := []) (i := 3) (by decide) hh (own := [("row", 7)]) (ij_valB (EJ.to_bo (ej_var (O := []) (by decide) (pv 0)))) (blkOk_by (N := N__law_is_cut) (sc := (defScope s__law_is_cut)) (by decide +kernel)) (fun s_ H_ C_ cl_ fp_ hh => (gj_name (O := []) (by decide) (pg_name (i := 7) hh.nd rfl (by first | exact .inl rfl | exact .inr rfl)))) (fun s_ H_ C_ cl_ fp_ hh => tsj_nil) (fun s_ H_ C_ cl_ fp_ hh => (ej_idx (EJ.to_bo (ej_var (O := []) (by decide) (pv 7))) ejm_int)) (by intro _; rfl) rfl rfl rfl) (bj_cons (sj_for hh (ij_val (ej_var (O := []) (by decide) (pv 1))) (gj_name (O := []) (by decide) (pg_name (i := 4) hh.nd rfl (by first | exact .inl rfl | exact .inr rfl))) (bj_cons (sj_if (tj_cmp (notIn_ok hh (by rfl)) (EJ.to_bo (ej_var (O := []) (by decide) (pv 4))) (EJ.to_bo (ej_var (O := []) (by decide) (pv 3)))) (bj_cons (sj_ret ejm_bl) bj_nil) bj_nil) bj_nil) (by intro _; rfl)) (bj_cons (sj_for hh (ij_val (ej_var (O := []) (by decide) (pv 0))) (gj_tup rfl (gsj_cons (gj_name (O := []) (by decide) (pg_name (i := 4) hh.nd rfl (by first | exact .inl rfl | exact .inr rfl))) (gsj_cons (gj_name (O := []) (by decide) (pg_name (i := 5) hh.nd rfl (by first | exact .inl rfl | exact .inr rfl))) gsj_nil rfl) rfl) rfl rfl) (bj_cons (sj_for hh (ij_val (ej_var (O := []) (by decide) (pv 5))) (gj_name (O := []) (by decide) (pg_name (i := 6) hh.nd rfl (by first | exact .inl rfl | exact .inr rfl))) (bj_cons (sj_if (WJ.tj (wj_and (tj_cmp (in_ok hh (by rfl)) (EJ.to_bo (ej_var (O := []) (by decide) (pv 4))) (EJ.to_bo (ej_var (O := []) (by decide) (pv 1)))) (wj_and1 (tj_cmp (notIn_ok hh (by rfl)) (EJ.to_bo (ej_var (O := []) (by decide) (pv 6))) (EJ.to_bo (ej_var (O := []) (by decide) (pv 2))))))) (bj_cons (sj_ret ejm_bl) bj_nil) bj_nil) bj_nil) (by intro _; rfl)) bj_nil) (by intro _; rfl)) (bj_cons (sj_ret ejm_bl) bj_nil)))))

abbrev s__law_takers : Stmt := topS 39
abbrev N__law_takers : List Str := ["costs", "part", "found", "k", "other", "cost"]
theorem sc__law_takers : FnScope N__law_takers ["costs", "part"] (defScope s__law_takers) := ⟨rfl, rfl, rfl, by decide +kernel, rfl, by decide +kernel, by decide +kernel⟩
theorem ok__law_takers {f : Addr} {fd : FuncData} (hm : mg "_law_takers" = some (.ref f)) (F : FunD K "_law_takers" "_law_takers" (defArgs s__law_takers) (defBody s__law_takers) (defScope s__law_takers) [] [] f fd) (z_len : mg "len" = none) (z_range : mg "range" = none) : Kn P w K mg base 1 "_law_takers" ["costs", "part"] .sh d_law_takers :=
  kn_ok (O' := []) (k := 0) hm F sc__law_takers (by decide) (fun _ _ _ _ _ _ us hl => match us, hl with | [_, _], _ => rfl) fun cdv A outer s H E hh =>
    (bj_cons (sj_setO (O := []) (O' := [2]) (i := 2) (by decide) (ej_lst aj_nil) fun _ h => ps_set (i := 2) hh.nd rfl (by first | exact .inl rfl | exact .inr rfl) h) (bj_cons (sj_for hh (ij_range1 (by rfl) z_range (fun _ _ => rfl) (EJ.to_bo (ej_len (by rfl) z_len (fun _ _ => rfl) (EJ.to_bo (ej_var (O := [2]) (by decide) (pv 0)))))) (gj_name (O := [2]) (by decide) (pg_name (i := 3) hh.nd rfl (by first | exact .inl rfl | exact .inr rfl))) (bj_cons (sj_for hh (ij_val (ej_idx (EJ.to_bo (ej_idx (EJ.to_bo (ej_var (O := [2]) (by decide) (pv 0))) (EJ.to_bo (ej_var (O := [2]) (by decide) (pv 3))))) ejm_int)) (gj_tup rfl (gsj_cons (gj_name (O := [2]) (by decide) (pg_name (i := 4) hh.nd rfl (by first | exact .inl rfl | exact .inr rfl))) (gsj_cons (gj_name (O := [2]) (by decide) (pg_name (i := 5) hh.nd rfl (by first | exact .inl rfl | exact .inr rfl))) gsj_nil rfl) rfl) rfl rfl) (bj_cons (sj_if (tj_cmp (eq_ok hh) (EJ.to_bo (ej_var (O := [2]) (by decide) (pv 4))) (EJ.to_bo (ej_var (O := [2]) (by decide) (pv 1)))) (bj_cons (sj_app (O := [2]) (i := 2) (by decide) (ej_tup (aj_cons (fun _ _ => rfl) (ej_var (O := [2]) (by decide) (pv 3)) (aj_cons (fun _ _ => rfl) (ej_var (O := [2]) (by decide) (pv 5)) aj_nil))) fun _ h => ps_expr (pe_bm PySem.F.plainAttrs_list PySem.F.slot_list_append PySem.F.type_list_append mt_append (pv 2) (pa_cons h pa_nil))) bj_nil) bj_nil) bj_nil) (by intro _; rfl)) bj_nil) (by intro _; rfl)) (BJ.drop [2] (bj_cons (sj_ret (ej_var (O := []) (by decide) (pv 2))) bj_nil))))

abbrev s__law_least : Stmt := topS 40
abbrev N__law_least : List Str := ["costs", "powers", "least", "parts", "joint", "row", "part", "cost", "later", "takers", "mask", "k", "total", "other"]
theorem sc__law_least : FnScope N__law_least ["costs"] (defScope s__law_least) := ⟨rfl, rfl, rfl, by decide +kernel, rfl, by decide +kernel, by decide +kernel⟩
theorem ok__law_least {f : Addr} {fd : FuncData} (hm : mg "_law_least" = some (.ref f)) (F : FunD K "_law_least" "_law_least" (defArgs s__law_least) (defBody s__law_least) (defScope s__law_least) [] [] f fd) (z_len : mg "len" = none) (z_range : mg "range" = none) (z_sorted : mg "sorted" = none) (z_list : mg "list" = none) (z_int : mg "int" = none) (k__law_takers : Kn P w K mg base 1 "_law_takers" ["costs", "part"] .sh d_law_takers) : Kn P w K mg base 2 "_law_least" ["costs"] .sh d_law_least_2 :=
  kn_ok (O' := []) (k := 1) hm F sc__law_least (by decide) (fun _ _ _ _ _ _ us hl => match us, hl with | [_], _ => rfl) fun cdv A outer s H E hh =>
    (bj_cons (sj_set (O := []) (i := 1) (by decide) (EJ.fr_sh (ej_lst (aj_cons (fun _ _ => rfl) ejm_int (aj_cons (fun _ _ => rfl) ejm_int (aj_cons (fun _ _ => rfl) ejm_int (aj_cons (fun _ _ => rfl) ejm_int (aj_cons (fun _ _ => rfl) ejm_int (aj_cons (fun _ _ => rfl) ejm_int (aj_cons (fun _ _ => rfl) ejm_int (aj_cons (fun _ _ => rfl) ejm_int (aj_cons (fun _ _ => rfl) ejm_int aj_nil))))))))))) fun _ h => ps_set (i := 1) hh.nd rfl (by first | exact .inl rfl | exact .inr rfl) h) (bj_cons (sj_setCompO (O := []) (O' := [2]) (i := 2) (by decide) hh (own := [("k", 11)]) (ij_range1 (by rfl) z_range (fun _ _ => rfl) (EJ.to_bo (ej_idx (EJ.to_bo (ej_var (O := []) (by decide) (pv 1))) (EJ.to_bo (ej_len (by rfl) z_len (fun _ _ => rfl) (EJ.to_bo (ej_var (O := []) (by decide) (pv 0)))))))) (blkOk_by (N := N__law_least) (sc := (defScope s__law_least)) (by decide +kernel)) (fun s_ H_ C_ cl_ fp_ hh => (gj_name (O := []) (by decide) (pg_name (i := 11) hh.nd rfl (by first | exact .inl rfl | exact .inr rfl)))) (fun s_ H_ C_ cl_ fp_ hh => tsj_nil) (fun s_ H_ C_ cl_ fp_ hh => ejm_non) (by intro _; rfl) rfl rfl rfl) (bj_cons (sj_store (O := [2]) (i := 2) (by decide) ejm_int (ej_tup (aj_cons (fun _ _ => rfl) ejm_int (aj_cons (fun _ _ => rfl) (ej_tup aj_nil) aj_nil))) fun _ _ h1 h2 => ps_asg h1 (pg_sub (pv 2) h2 set_list)) (bj_cons (sj_setO (O := [2]) (O' := [3, 2]) (i := 3) (by decide) (ej_lst aj_nil) fun _ h => ps_set (i := 3) hh.nd rfl (by first | exact .inl rfl | exact .inr rfl) h) (bj_cons (sj_for hh (ij_val (ej_var (O := [3, 2]) (by decide) (pv 0))) (gj_tup rfl (gsj_cons (gj_name (O := [3, 2]) (by decide) (pg_name (i := 4) hh.nd rfl (by first | exact .inl rfl | exact .inr rfl))) (gsj_cons (gj_name (O := [3, 2]) (by decide) (pg_name (i := 5) hh.nd rfl (by first | exact .inl rfl | exact .inr rfl))) gsj_nil rfl) rfl) rfl rfl) (bj_cons (sj_for hh (ij_val (ej_var (O := [3, 2]) (by decide) (pv 5))) (gj_tup rfl (gsj_cons (gj_name (O := [3, 2]) (by decide) (pg_name (i := 6) hh.nd rfl (by first | exact .inl rfl | exact .inr rfl))) (gsj_cons (gj_name (O := [3, 2]) (by decide) (pg_name (i := 7) hh.nd rfl (by first | exact .inl rfl | exact .inr rfl))) gsj_nil rfl) rfl) rfl rfl) (bj_cons (sj_if (tj_cmp (notIn_ok hh (by rfl)) (EJ.to_bo (ej_var (O := [3, 2]) (by decide) (pv 6))) (ej_own (pv 3))) (bj_cons (sj_app (O := [3, 2]) (i := 3) (by decide) (ej_var (O := [3, 2]) (by decide) (pv 6)) fun _ h => ps_expr (pe_bm PySem.F.plainAttrs_list PySem.F.slot_list_append PySem.F.type_list_append mt_append (pv 3) (pa_cons h pa_nil))) bj_nil) bj_nil) bj_nil) (by intro _; rfl)) bj_nil) (by intro _; rfl)) (bj_cons (sj_for hh (ij_val (EJ.fr_sh (ej_sortR (fun _ h => pe_callBK (cr_sortR hh.u64) (by rfl) z_sorted (by decide +kernel) (pa_cons h pa_nil) (pk_cons pe_bl pk_nil)) (ej_own (pv 3))))) (gj_name (O := [3, 2]) (by decide) (pg_name (i := 6) hh.nd rfl (by first | exact .inl rfl | exact .inr rfl))) (BJ.outDrop [8] (bj_cons (sj_setO (O := [3, 2]) (O' := [8, 3, 2]) (i := 8) (by decide) (ej_list (by rfl) z_list (fun _ _ => rfl) (ej_own (pv 2))) fun _ h => ps_set (i := 8) hh.nd rfl (by first | exact .inl rfl | exact .inr rfl) h) (bj_cons (sj_set (O := [8, 3, 2]) (i := 9) (by decide) (ej_callK k__law_takers hh (by decide) (by rfl) (by rfl) (by decide) (fun _ _ => rfl) (noStars_cons (fun _ _ => rfl) noStars_nil) (aj_cons (fun _ _ => rfl) (ej_var (O := [8, 3, 2]) (by decide) (pv 0)) (aj_cons (fun _ _ => rfl) (ej_var (O := [8, 3, 2]) (by decide) (pv 6)) aj_nil)) (alen_cons (alen_cons alen_nil))) fun _ h => ps_set (i := 9) hh.nd rfl (by first | exact .inl rfl | exact .inr rfl) h) (bj_cons (sj_for hh (ij_range1 (by rfl) z_range (fun _ _ => rfl) (EJ.to_bo (ej_len (by rfl) z_len (fun _ _ => rfl) (ej_own (pv 2))))) (gj_name (O := [8, 3, 2]) (by decide) (pg_name (i := 10) hh.nd rfl (by first | exact .inl rfl | exact .inr rfl))) (bj_cons (sj_if (tj_cmp notN_ok (EJ.to_bo (ej_idx (ej_own (pv 2)) (EJ.to_bo (ej_var (O := [8, 3, 2]) (by decide) (pv 10))))) ejm_non) (bj_cons (sj_for hh (ij_val (ej_var (O := [8, 3, 2]) (by decide) (pv 9))) (gj_tup rfl (gsj_cons (gj_name (O := [8, 3, 2]) (by decide) (pg_name (i := 11) hh.nd rfl (by first | exact .inl rfl | exact .inr rfl))) (gsj_cons (gj_name (O := [8, 3, 2]) (by decide) (pg_name (i := 7) hh.nd rfl (by first | exact .inl rfl | exact .inr rfl))) gsj_nil rfl) rfl) rfl rfl) (bj_cons (sj_if (tj_cmp (eq_ok hh) (EJ.to_bo (ej_mod (EJ.to_bo (ej_int' (by rfl) z_int (fun _ _ => rfl) (EJ.to_bo (ej_div (EJ.to_bo (ej_var (O := [8, 3, 2]) (by decide) (pv 10))) (EJ.to_bo (ej_idx (EJ.to_bo (ej_var (O := [8, 3, 2]) (by decide) (pv 1))) (EJ.to_bo (ej_var (O := [8, 3, 2]) (by decide) (pv 11))))))))) ejm_int)) ejm_int) (bj_cons (sj_set (O := [8, 3, 2]) (i := 12) (by decide) (EJ.fr_sh (ej_add (EJ.to_bo (ej_idx (EJ.to_bo (ej_idx (ej_own (pv 2)) (EJ.to_bo (ej_var (O := [8, 3, 2]) (by decide) (pv 10))))) ejm_int)) (EJ.to_bo (ej_var (O := [8, 3, 2]) (by decide) (pv 7))))) fun _ h => ps_set (i := 12) hh.nd rfl (by first | exact .inl rfl | exact .inr rfl) h) (bj_cons (sj_set (O := [8, 3, 2]) (i := 13) (by decide) (ej_idx (ej_own (pv 8)) (EJ.to_bo (ej_add (EJ.to_bo (ej_var (O := [8, 3, 2]) (by decide) (pv 10))) (EJ.to_bo (ej_idx (EJ.to_bo (ej_var (O := [8, 3, 2]) (by decide) (pv 1))) (EJ.to_bo (ej_var (O := [8, 3, 2]) (by decide) (pv 11)))))))) fun _ h => ps_set (i := 13) hh.nd rfl (by first | exact .inl rfl | exact .inr rfl) h) (bj_cons (sj_if (WJ.tj (wj_or (tj_cmp isN_ok (EJ.to_bo (ej_var (O := [8, 3, 2]) (by decide) (pv 13))) ejm_non) (wj_or1 (tj_cmp (lt_ok hh) (EJ.to_bo (ej_var (O := [8, 3, 2]) (by decide) (pv 12))) (EJ.to_bo (ej_idx (EJ.to_bo (ej_var (O := [8, 3, 2]) (by decide) (pv 13))) ejm_int)))))) (bj_cons (sj_store (O := [8, 3, 2]) (i := 8) (by decide) (EJ.to_bo (ej_add (EJ.to_bo (ej_var (O := [8, 3, 2]) (by decide) (pv 10))) (EJ.to_bo (ej_idx (EJ.to_bo (ej_var (O := [8, 3, 2]) (by decide) (pv 1))) (EJ.to_bo (ej_var (O := [8, 3, 2]) (by decide) (pv 11))))))) (ej_tup (aj_cons (fun _ _ => rfl) (ej_var (O := [8, 3, 2]) (by decide) (pv 12)) (aj_cons (fun _ _ => rfl) (EJ.fr_sh (ej_add (EJ.to_bo (ej_idx (EJ.to_bo (ej_idx (ej_own (pv 2)) (EJ.to_bo (ej_var (O := [8, 3, 2]) (by decide) (pv 10))))) ejm_int)) (ej_tup (aj_cons (fun _ _ => rfl) (ej_tup (aj_cons (fun _ _ => rfl) (ej_idx (EJ.to_bo (ej_idx (EJ.to_bo (ej_var (O := [8, 3, 2]) (by decide) (pv 0))) (EJ.to_bo (ej_var (O := [8, 3, 2]) (by decide) (pv 11))))) ejm_int) (aj_cons (fun _ _ => rfl) (ej_var (O := [8, 3, 2]) (by decide) (pv 6)) aj_nil))) aj_nil)))) aj_nil))) fun _ _ h1 h2 => ps_asg h1 (pg_sub (pv 8) h2 set_list)) bj_nil) bj_nil) bj_nil))) bj_nil) bj_nil) (by intro _; rfl)) bj_nil) bj_nil) bj_nil) (by intro _; rfl)) (bj_cons (sj_move (O := [8, 3, 2]) (i := 2) (j := 8) (by decide) (by decide) (by decide) (ps_set (i := 2) hh.nd rfl (by first | exact .inl rfl | exact .inr rfl) (pv 8))) bj_nil))))) (by intro _; rfl)) (BJ.drop [2] (bj_cons (sj_ret (ej_var (O := [3]) (by decide) (pv 2))) bj_nil))))))))

abbrev s__law_free : Stmt := topS 41
abbrev N__law_free : List Str := ["table", "found", "joint", "choice", "part"]
theorem sc__law_free : FnScope N__law_free ["table"] (defScope s__law_free) := ⟨rfl, rfl, rfl, by decide +kernel, rfl, by decide +kernel, by decide +kernel⟩
theorem ok__law_free {f : Addr} {fd : FuncData} (hm : mg "_law_free" = some (.ref f)) (F : FunD K "_law_free" "_law_free" (defArgs s__law_free) (defBody s__law_free) (defScope s__law_free) [] [] f fd) (z_tuple : mg "tuple" = none) : Kn P w K mg base 1 "_law_free" ["table"] .sh d_law_free :=
  kn_ok (O' := []) (k := 0) hm F sc__law_free (by decide) (fun _ _ _ _ _ _ us hl => match us, hl with | [_], _ => rfl) fun cdv A outer s H E hh =>
    (bj_cons (sj_setO (O := []) (O' := [1]) (i := 1) (by decide) (ej_lst aj_nil) fun _ h => ps_set (i := 1) hh.nd rfl (by first | exact .inl rfl | exact .inr rfl) h) (bj_cons (sj_for hh (ij_val (ej_var (O := [1]) (by decide) (pv 0))) (gj_tup rfl (gsj_cons (gj_name (O := [1]) (by decide) (pg_name (i := 2) hh.nd rfl (by first | exact .inl rfl | exact .inr rfl))) (gsj_cons (gj_name (O := [1]) (by decide) (pg_name (i := 3) hh.nd rfl (by first | exact .inl rfl | exact .inr rfl))) gsj_nil rfl) rfl) rfl rfl) (bj_cons (sj_app (O := [1]) (i := 1) (by decide) (ej_tup (aj_cons (fun _ _ => rfl) (ej_var (O := [1]) (by decide) (pv 2)) (aj_cons (fun _ _ => rfl) (ej_tuple (by rfl) z_tuple (fun _ _ => rfl) (EJ.to_bo (ej_comp hh (own := [("part", 4)]) (ij_valB (EJ.to_bo (ej_var (O := [1]) (by decide) (pv 3)))) (blkOk_by (N := N__law_free) (sc := (defScope s__law_free)) (by decide +kernel)) (fun s_ H_ C_ cl_ fp_ hh => (gj_name (O := [1]) (by decide) (pg_name (i := 4) hh.nd rfl (by first | exact .inl rfl | exact .inr rfl)))) (fun s_ H_ C_ cl_ fp_ hh => tsj_nil) (fun s_ H_ C_ cl_ fp_ hh => (ej_tup (aj_cons (fun _ _ => rfl) (ej_var (O := [1]) (by decide) (pv 4)) (aj_cons (fun _ _ => rfl) ejm_int aj_nil)))) (by intro _; rfl)))) aj_nil))) fun _ h => ps_expr (pe_bm PySem.F.plainAttrs_list PySem.F.slot_list_append PySem.F.type_list_append mt_append (pv 1) (pa_cons h pa_nil))) bj_nil) (by intro _; rfl)) (bj_cons (sj_ret (ej_tuple (by rfl) z_tuple (fun _ _ => rfl) (ej_own (pv 1)))) bj_nil)))

abbrev s__law_own_match : Stmt := topS 42
abbrev N__law_own_match : List Str := ["table", "told"]
theorem sc__law_own_match : FnScope N__law_own_match ["table"] (defScope s__law_own_match) := ⟨rfl, rfl, rfl, by decide +kernel, rfl, by decide +kernel, by decide +kernel⟩
theorem ok__law_own_match {f : Addr} {fd : FuncData} (hm : mg "_law_own_match" = some (.ref f)) (F : FunD K "_law_own_match" "_law_own_match" (defArgs s__law_own_match) (defBody s__law_own_match) (defScope s__law_own_match) [] [] f fd) (z_sorted : mg "sorted" = none) (z_tuple : mg "tuple" = none) (k__law_free : Kn P w K mg base 1 "_law_free" ["table"] .sh d_law_free) (k__law_least : Kn P w K mg base 2 "_law_least" ["costs"] .sh d_law_least_2) : Kn P w K mg base 3 "_law_own_match" ["table"] .sh d_law_own_match :=
  kn_ok (O' := []) (k := 2) hm F sc__law_own_match (by decide) (fun _ _ _ _ _ _ us hl => match us, hl with | [_], _ => rfl) fun cdv A outer s H E hh =>
    (bj_cons (sj_set (O := []) (i := 1) (by decide) (ej_callK k__law_least hh (by decide) (by rfl) (by rfl) (by decide) (fun _ _ => rfl) noStars_nil (aj_cons (fun _ _ => rfl) (ej_callK k__law_free hh (by decide) (by rfl) (by rfl) (by decide) (fun _ _ => rfl) noStars_nil (aj_cons (fun _ _ => rfl) (ej_var (O := []) (by decide) (pv 0)) aj_nil) (alen_cons alen_nil)) aj_nil) (alen_cons alen_nil)) fun _ h => ps_set (i := 1) hh.nd rfl (by first | exact .inl rfl | exact .inr rfl) h) (bj_cons (sj_if (tj_cmp isN_ok (EJ.to_bo (ej_idx (EJ.to_bo (ej_var (O := []) (by decide) (pv 1))) (EJ.to_bo (ej_neg ejm_int)))) ejm_non) (bj_cons (sj_ret ejm_non) bj_nil) bj_nil) (bj_cons (sj_ret (ej_tuple (by rfl) z_tuple (fun _ _ => rfl) (EJ.to_bo (ej_sorted3 hh (by rfl) z_sorted (fun _ _ => rfl) (EJ.to_bo (ej_idx (EJ.to_bo (ej_idx (EJ.to_bo (ej_var (O := []) (by decide) (pv 1))) (EJ.to_bo (ej_neg ejm_int)))) ejm_int)))))) bj_nil)))

abbrev s__law_own_cut : Stmt := topS 43
abbrev N__law_own_cut : List Str := ["table", "mask", "joints", "parts", "rest", "joint", "choice", "part"]
theorem sc__law_own_cut : FnScope N__law_own_cut ["table"] (defScope s__law_own_cut) := ⟨rfl, rfl, rfl, by decide +kernel, rfl, by decide +kernel, by decide +kernel⟩
theorem ok__law_own_cut {f : Addr} {fd : FuncData} (hm : mg "_law_own_cut" = some (.ref f)) (F : FunD K "_law_own_cut" "_law_own_cut" (defArgs s__law_own_cut) (defBody s__law_own_cut) (defScope s__law_own_cut) [] [] f fd) (z_len : mg "len" = none) (z_range : mg "range" = none) (z_int : mg "int" = none) (z_sorted : mg "sorted" = none) (z_tuple : mg "tuple" = none) : Kn P w K mg base 1 "_law_own_cut" ["table"] .sh d_law_own_cut :=
  kn_ok (O' := []) (k := 0) hm F sc__law_own_cut (by decide) (fun _ _ _ _ _ _ us hl => match us, hl with | [_], _ => rfl) fun cdv A outer s H E hh =>
    (bj_cons (sj_for hh (ij_range1 (by rfl) z_range (fun _ _ => rfl) (EJ.to_bo (ej_idx (EJ.to_bo (ej_lst (aj_cons (fun _ _ => rfl) ejm_int (aj_cons (fun _ _ => rfl) ejm_int (aj_cons (fun _ _ => rfl) ejm_int (aj_cons (fun _ _ => rfl) ejm_int (aj_cons (fun _ _ => rfl) ejm_int (aj_cons (fun _ _ => rfl) ejm_int (aj_cons (fun _ _ => rfl) ejm_int (aj_cons (fun _ _ => rfl) ejm_int (aj_cons (fun _ _ => rfl) ejm_int aj_nil))))))))))) (EJ.to_bo (ej_len (by rfl) z_len (fun _ _ => rfl) (EJ.to_bo (ej_var (O := []) (by decide) (pv 0)))))))) (gj_name (O := []) (by decide) (pg_name (i := 1) hh.nd rfl (by first | exact .inl rfl | exact .inr rfl))) (BJ.outDrop [3, 2] (bj_cons (sj_setO (O := []) (O' := [2]) (i := 2) (by decide) (ej_lst aj_nil) fun _ h => ps_set (i := 2) hh.nd rfl (by first | exact .inl rfl | exact .inr rfl) h) (bj_cons (sj_setO (O := [2]) (O' := [3, 2]) (i := 3) (by decide) (ej_lst aj_nil) fun _ h => ps_set (i := 3) hh.nd rfl (by first | exact .inl rfl | exact .inr rfl) h) (bj_cons (sj_set (O := [3, 2]) (i := 4) (by decide) (ej_var (O := [3, 2]) (by decide) (pv 1)) fun _ h => ps_set (i := 4) hh.nd rfl (by first | exact .inl rfl | exact .inr rfl) h) (bj_cons (sj_for hh (ij_val (ej_var (O := [3, 2]) (by decide) (pv 0))) (gj_tup rfl (gsj_cons (gj_name (O := [3, 2]) (by decide) (pg_name (i := 5) hh.nd rfl (by first | exact .inl rfl | exact .inr rfl))) (gsj_cons (gj_name (O := [3, 2]) (by decide) (pg_name (i := 6) hh.nd rfl (by first | exact .inl rfl | exact .inr rfl))) gsj_nil rfl) rfl) rfl rfl) (bj_cons (sj_if (tj_cmp (eq_ok hh) (EJ.to_bo (ej_mod (EJ.to_bo (ej_int' (by rfl) z_int (fun _ _ => rfl) (EJ.to_bo (ej_var (O := [3, 2]) (by decide) (pv 4))))) ejm_int)) ejm_int) (bj_cons (sj_app (O := [3, 2]) (i := 2) (by decide) (ej_var (O := [3, 2]) (by decide) (pv 5)) fun _ h => ps_expr (pe_bm PySem.F.plainAttrs_list PySem.F.slot_list_append PySem.F.type_list_append mt_append (pv 2) (pa_cons h pa_nil))) (bj_cons (sj_for hh (ij_val (ej_var (O := [3, 2]) (by decide) (pv 6))) (gj_name (O := [3, 2]) (by decide) (pg_name (i := 7) hh.nd rfl (by first | exact .inl rfl | exact .inr rfl))) (bj_cons (sj_if (tj_cmp (notIn_ok hh (by rfl)) (EJ.to_bo (ej_var (O := [3, 2]) (by decide) (pv 7))) (ej_own (pv 3))) (bj_cons (sj_app (O := [3, 2]) (i := 3) (by decide) (ej_var (O := [3, 2]) (by decide) (pv 7)) fun _ h => ps_expr (pe_bm PySem.F.plainAttrs_list PySem.F.slot_list_append PySem.F.type_list_append mt_append (pv 3) (pa_cons h pa_nil))) bj_nil) bj_nil) bj_nil) (by intro _; rfl)) bj_nil)) bj_nil) (bj_cons (sj_set (O := [3, 2]) (i := 4) (by decide) (ej_div (EJ.to_bo (ej_var (O := [3, 2]) (by decide) (pv 4))) ejm_int) fun _ h => ps_set (i := 4) hh.nd rfl (by first | exact .inl rfl | exact .inr rfl) h) bj_nil)) (by intro _; rfl)) (bj_cons (sj_if (tj_cmp (lt_ok hh) (EJ.to_bo (ej_len (by rfl) z_len (fun _ _ => rfl) (ej_own (pv 3)))) (EJ.to_bo (ej_len (by rfl) z_len (fun _ _ => rfl) (ej_own (pv 2))))) (bj_cons (sj_ret (ej_tup (aj_cons (fun _ _ => rfl) (ej_tuple (by rfl) z_tuple (fun _ _ => rfl) (ej_own (pv 2))) (aj_cons (fun _ _ => rfl) (ej_tuple (by rfl) z_tuple (fun _ _ => rfl) (EJ.to_bo (ej_sorted hh (by rfl) z_sorted (fun _ _ => rfl) (ej_own (pv 3))))) aj_nil)))) bj_nil) bj_nil) bj_nil)))))) (by intro _; rfl)) (bj_cons (sj_ret ejm_non) bj_nil))

abbrev s__law_yes : Stmt := topS 44
abbrev N__law_yes : List Str := ["actual", "due"]
theorem sc__law_yes : FnScope N__law_yes ["actual", "due"] (defScope s__law_yes) := ⟨rfl, rfl, rfl, by decide +kernel, rfl, by decide +kernel, by decide +kernel⟩
theorem ok__law_yes {f : Addr} {fd : FuncData} (hm : mg "_law_yes" = some (.ref f)) (F : FunD K "_law_yes" "_law_yes" (defArgs s__law_yes) (defBody s__law_yes) (defScope s__law_yes) [] [] f fd) (z_isinstance : mg "isinstance" = none) (z_bool : mg "bool" = none) : Kn P w K mg base 1 "_law_yes" ["actual", "due"] .sh d_law_yes :=
  kn_ok (O' := []) (k := 0) hm F sc__law_yes (by decide) (fun _ _ _ _ _ _ us hl => match us, hl with | [_, _], _ => rfl) fun cdv A outer s H E hh =>
    (bj_cons (sj_ret (ej_and (ej_isi (by rfl) z_isinstance (by rfl) z_bool (by decide +kernel) (by decide) (by decide) (fun _ _ => rfl) (EJ.to_bo (ej_var (O := []) (by decide) (pv 0)))) (ej_one (ej_cmp (eq_ok hh) (EJ.to_bo (ej_var (O := []) (by decide) (pv 0))) (EJ.to_bo (ej_var (O := []) (by decide) (pv 1))))))) bj_nil)

abbrev s__law_word : Stmt := topS 45
abbrev N__law_word : List Str := ["paper", "word", "size"]
theorem sc__law_word : FnScope N__law_word ["paper", "word", "size"] (defScope s__law_word) := ⟨rfl, rfl, rfl, by decide +kernel, rfl, by decide +kernel, by decide +kernel⟩
theorem ok__law_word {f : Addr} {fd : FuncData} (hm : mg "_law_word" = some (.ref f)) (F : FunD K "_law_word" "_law_word" (defArgs s__law_word) (defBody s__law_word) (defScope s__law_word) [] [] f fd) (z_isinstance : mg "isinstance" = none) (z_tuple : mg "tuple" = none) (z_len : mg "len" = none) (z_str : mg "str" = none) : Kn P w K mg base 1 "_law_word" ["paper", "word", "size"] .sh d_law_word_2 :=
  kn_ok (O' := []) (k := 0) hm F sc__law_word (by decide) (fun _ _ _ _ _ _ us hl => match us, hl with | [_, _, _], _ => rfl) fun cdv A outer s H E hh =>
    (bj_cons (sj_if (WJ.tj (wj_or (tj_not (tj_val (EJ.to_bo (ej_isi (by rfl) z_isinstance (by rfl) z_tuple (by decide +kernel) (by decide) (by decide) (fun _ _ => rfl) (EJ.to_bo (ej_var (O := []) (by decide) (pv 0))))))) (wj_or1 (tj_cmp (ne_ok hh) (EJ.to_bo (ej_len (by rfl) z_len (fun _ _ => rfl) (EJ.to_bo (ej_var (O := []) (by decide) (pv 0))))) (EJ.to_bo (ej_var (O := []) (by decide) (pv 2))))))) (bj_cons (sj_ret ejm_bl) bj_nil) bj_nil) (bj_cons (sj_ret (ej_and (ej_isi (by rfl) z_isinstance (by rfl) z_str (by decide +kernel) (by decide) (by decide) (fun _ _ => rfl) (EJ.to_bo (ej_idx (EJ.to_bo (ej_var (O := []) (by decide) (pv 0))) ejm_int))) (ej_one (ej_cmp (eq_ok hh) (EJ.to_bo (ej_idx (EJ.to_bo (ej_var (O := []) (by decide) (pv 0))) ejm_int)) (EJ.to_bo (ej_var (O := []) (by decide) (pv 1))))))) bj_nil))

abbrev s__law_set_of : Stmt := topS 46
abbrev N__law_set_of : List Str := ["table", "mask", "joints", "parts", "rest", "joint", "choice", "part"]
theorem sc__law_set_of : FnScope N__law_set_of ["table", "mask"] (defScope s__law_set_of) := ⟨rfl, rfl, rfl, by decide +kernel, rfl, by decide +kernel, by decide +kernel⟩
theorem ok__law_set_of {f : Addr} {fd : FuncData} (hm : mg "_law_set_of" = some (.ref f)) (F : FunD K "_law_set_of" "_law_set_of" (defArgs s__law_set_of) (defBody s__law_set_of) (defScope s__law_set_of) [] [] f fd) (z_int : mg "int" = none) (z_sorted : mg "sorted" = none) (z_tuple : mg "tuple" = none) : Kn P w K mg base 1 "_law_set_of" ["table", "mask"] .sh d_law_set_of :=
  kn_ok (O' := []) (k := 0) hm F sc__law_set_of (by decide) (fun _ _ _ _ _ _ us hl => match us, hl with | [_, _], _ => rfl) fun cdv A outer s H E hh =>
    (bj_cons (sj_setO (O := []) (O' := [2]) (i := 2) (by decide) (ej_lst aj_nil) fun _ h => ps_set (i := 2) hh.nd rfl (by first | exact .inl rfl | exact .inr rfl) h) (bj_cons (sj_setO (O := [2]) (O' := [3, 2]) (i := 3) (by decide) (ej_lst aj_nil) fun _ h => ps_set (i := 3) hh.nd rfl (by first | exact .inl rfl | exact .inr rfl) h) (bj_cons (sj_set (O := [3, 2]) (i := 4) (by decide) (ej_var (O := [3, 2]) (by decide) (pv 1)) fun _ h => ps_set (i := 4) hh.nd rfl (by first | exact .inl rfl | exact .inr rfl) h) (bj_cons (sj_for hh (ij_val (ej_var (O := [3, 2]) (by decide) (pv 0))) (gj_tup rfl (gsj_cons (gj_name (O := [3, 2]) (by decide) (pg_name (i := 5) hh.nd rfl (by first | exact .inl rfl | exact .inr rfl))) (gsj_cons (gj_name (O := [3, 2]) (by decide) (pg_name (i := 6) hh.nd rfl (by first | exact .inl rfl | exact .inr rfl))) gsj_nil rfl) rfl) rfl rfl) (bj_cons (sj_if (tj_cmp (eq_ok hh) (EJ.to_bo (ej_mod (EJ.to_bo (ej_int' (by rfl) z_int (fun _ _ => rfl) (EJ.to_bo (ej_var (O := [3, 2]) (by decide) (pv 4))))) ejm_int)) ejm_int) (bj_cons (sj_app (O := [3, 2]) (i := 2) (by decide) (ej_var (O := [3, 2]) (by decide) (pv 5)) fun _ h => ps_expr (pe_bm PySem.F.plainAttrs_list PySem.F.slot_list_append PySem.F.type_list_append mt_append (pv 2) (pa_cons h pa_nil))) (bj_cons (sj_for hh (ij_val (ej_var (O := [3, 2]) (by decide) (pv 6))) (gj_name (O := [3, 2]) (by decide) (pg_name (i := 7) hh.nd rfl (by first | exact .inl rfl | exact .inr rfl))) (bj_cons (sj_if (tj_cmp (notIn_ok hh (by rfl)) (EJ.to_bo (ej_var (O := [3, 2]) (by decide) (pv 7))) (ej_own (pv 3))) (bj_cons (sj_app (O := [3, 2]) (i := 3) (by decide) (ej_var (O := [3, 2]) (by decide) (pv 7)) fun _ h => ps_expr (pe_bm PySem.F.plainAttrs_list PySem.F.slot_list_append PySem.F.type_list_append mt_append (pv 3) (pa_cons h pa_nil))) bj_nil) bj_nil) bj_nil) (by intro _; rfl)) bj_nil)) bj_nil) (bj_cons (sj_set (O := [3, 2]) (i := 4) (by decide) (ej_div (EJ.to_bo (ej_var (O := [3, 2]) (by decide) (pv 4))) ejm_int) fun _ h => ps_set (i := 4) hh.nd rfl (by first | exact .inl rfl | exact .inr rfl) h) bj_nil)) (by intro _; rfl)) (bj_cons (sj_ret (ej_tup (aj_cons (fun _ _ => rfl) (ej_tuple (by rfl) z_tuple (fun _ _ => rfl) (ej_own (pv 2))) (aj_cons (fun _ _ => rfl) (ej_tuple (by rfl) z_tuple (fun _ _ => rfl) (EJ.to_bo (ej_sorted hh (by rfl) z_sorted (fun _ _ => rfl) (ej_own (pv 3))))) aj_nil)))) bj_nil)))))

abbrev s_law : Stmt := topS 47
abbrev N_law : List Str := ["script", "pool", "table", "own", "told", "cuts", "mask", "joints", "parts"]
theorem sc_law : FnScope N_law ["script"] (defScope s_law) := ⟨rfl, rfl, rfl, by decide +kernel, rfl, by decide +kernel, by decide +kernel⟩
theorem ok_law {f : Addr} {fd : FuncData} (F : FunD K "law" "law" (defArgs s_law) (defBody s_law) (defScope s_law) [] [] f fd) (z_int : mg "int" = none) (z_range : mg "range" = none) (z_len : mg "len" = none) (k__law_pool : Kn P w K mg base 2 "_law_pool" ["script"] .sh d_law_pool) (k__law_table : Kn P w K mg base 3 "_law_table" ["pool", "size", "wide", "mode"] .sh d_law_table_3) (k__law_own_match : Kn P w K mg base 3 "_law_own_match" ["table"] .sh d_law_own_match) (k_matching_report : Kn P w K mg base 4 "matching_report" ["table"] .sh d_matching_report) (k__law_word : Kn P w K mg base 1 "_law_word" ["paper", "word", "size"] .sh d_law_word_2) (k__law_is_match : Kn P w K mg base 3 "_law_is_match" ["table", "value"] .sh d_law_is_match) (k__law_is_cut : Kn P w K mg base 3 "_law_is_cut" ["table", "joints", "parts"] .sh d_law_is_cut) (k_shows_matching : Kn P w K mg base 7 "shows_matching" ["table", "paper"] .sh d_shows_matching) (k__law_yes : Kn P w K mg base 1 "_law_yes" ["actual", "due"] .sh d_law_yes) (k__law_set_of : Kn P w K mg base 1 "_law_set_of" ["table", "mask"] .sh d_law_set_of) : DefOk P w K mg base 8 f fd ["script"] .sh d_law_29 :=
  def_ok (O' := []) (k := 7) F sc_law (by decide) fun cdv A outer s H E hh =>
    (bj_cons (sj_set (O := []) (i := 1) (by decide) (ej_callK k__law_pool hh (by decide) (by rfl) (by rfl) (by decide) (fun _ _ => rfl) noStars_nil (aj_cons (fun _ _ => rfl) (ej_var (O := []) (by decide) (pv 0)) aj_nil) (alen_cons alen_nil)) fun _ h => ps_set (i := 1) hh.nd rfl (by first | exact .inl rfl | exact .inr rfl) h) (bj_cons (sj_set (O := []) (i := 2) (by decide) (ej_callK k__law_table hh (by decide) (by rfl) (by rfl) (by decide) (fun _ _ => rfl) (noStars_cons (fun _ _ => rfl) (noStars_cons (fun _ _ => rfl) (noStars_cons (fun _ _ => rfl) noStars_nil))) (aj_cons (fun _ _ => rfl) (ej_var (O := []) (by decide) (pv 1)) (aj_cons (fun _ _ => rfl) ejm_int (aj_cons (fun _ _ => rfl) (EJ.fr_sh (ej_add ejm_int (EJ.to_bo (ej_mod (EJ.to_bo (ej_int' (by rfl) z_int (fun _ _ => rfl) (EJ.to_bo (ej_idx (EJ.to_bo (ej_var (O := []) (by decide) (pv 1))) ejm_int)))) ejm_int)))) (aj_cons (fun _ _ => rfl) (ej_mod (EJ.to_bo (ej_int' (by rfl) z_int (fun _ _ => rfl) (EJ.to_bo (ej_idx (EJ.to_bo (ej_var (O := []) (by decide) (pv 1))) ejm_int)))) ejm_int) aj_nil)))) (alen_cons (alen_cons (alen_cons (alen_cons alen_nil))))) fun _ h => ps_set (i := 2) hh.nd rfl (by first | exact .inl rfl | exact .inr rfl) h) (bj_cons (sj_set (O := []) (i := 3) (by decide) (ej_callK k__law_own_match hh (by decide) (by rfl) (by rfl) (by decide) (fun _ _ => rfl) noStars_nil (aj_cons (fun _ _ => rfl) (ej_var (O := []) (by decide) (pv 2)) aj_nil) (alen_cons alen_nil)) fun _ h => ps_set (i := 3) hh.nd rfl (by first | exact .inl rfl | exact .inr rfl) h) (bj_cons (sj_set (O := []) (i := 4) (by decide) (ej_callK k_matching_report hh (by decide) (by rfl) (by rfl) (by decide) (fun _ _ => rfl) noStars_nil (aj_cons (fun _ _ => rfl) (ej_var (O := []) (by decide) (pv 2)) aj_nil) (alen_cons alen_nil)) fun _ h => ps_set (i := 4) hh.nd rfl (by first | exact .inl rfl | exact .inr rfl) h) (bj_cons (sj_if (tj_val (EJ.to_bo (ej_callK k__law_word hh (by decide) (by rfl) (by rfl) (by decide) (fun _ _ => rfl) (noStars_cons (fun _ _ => rfl) (noStars_cons (fun _ _ => rfl) noStars_nil)) (aj_cons (fun _ _ => rfl) (ej_var (O := []) (by decide) (pv 4)) (aj_cons (fun _ _ => rfl) (ej_str (by decide +kernel)) (aj_cons (fun _ _ => rfl) ejm_int aj_nil))) (alen_cons (alen_cons (alen_cons alen_nil)))))) (bj_cons (sj_if (WJ.tj (wj_or (tj_cmp isN_ok (EJ.to_bo (ej_var (O := []) (by decide) (pv 3))) ejm_non) (wj_or1 (tj_not (tj_val (EJ.to_bo (ej_callK k__law_is_match hh (by decide) (by rfl) (by rfl) (by decide) (fun _ _ => rfl) (noStars_cons (fun _ _ => rfl) noStars_nil) (aj_cons (fun _ _ => rfl) (ej_var (O := []) (by decide) (pv 2)) (aj_cons (fun _ _ => rfl) (ej_idx (EJ.to_bo (ej_var (O := []) (by decide) (pv 4))) ejm_int) aj_nil)) (alen_cons (alen_cons alen_nil))))))))) (bj_cons (sj_ret ejm_bl) bj_nil) bj_nil) bj_nil) (bj_cons (sj_if (tj_val (EJ.to_bo (ej_callK k__law_word hh (by decide) (by rfl) (by rfl) (by decide) (fun _ _ => rfl) (noStars_cons (fun _ _ => rfl) (noStars_cons (fun _ _ => rfl) noStars_nil)) (aj_cons (fun _ _ => rfl) (ej_var (O := []) (by decide) (pv 4)) (aj_cons (fun _ _ => rfl) (ej_str (by decide +kernel)) (aj_cons (fun _ _ => rfl) ejm_int aj_nil))) (alen_cons (alen_cons (alen_cons alen_nil)))))) (bj_cons (sj_if (WJ.tj (wj_or (tj_cmp notN_ok (EJ.to_bo (ej_var (O := []) (by decide) (pv 3))) ejm_non) (wj_or1 (tj_not (tj_val (EJ.to_bo (ej_callK k__law_is_cut hh (by decide) (by rfl) (by rfl) (by decide) (fun _ _ => rfl) (noStars_cons (fun _ _ => rfl) (noStars_cons (fun _ _ => rfl) noStars_nil)) (aj_cons (fun _ _ => rfl) (ej_var (O := []) (by decide) (pv 2)) (aj_cons (fun _ _ => rfl) (ej_idx (EJ.to_bo (ej_var (O := []) (by decide) (pv 4))) ejm_int) (aj_cons (fun _ _ => rfl) (ej_idx (EJ.to_bo (ej_var (O := []) (by decide) (pv 4))) ejm_int) aj_nil))) (alen_cons (alen_cons (alen_cons alen_nil)))))))))) (bj_cons (sj_ret ejm_bl) bj_nil) bj_nil) bj_nil) (bj_cons (sj_ret ejm_bl) bj_nil)) bj_nil)) (bj_cons (sj_if (tj_not (tj_val (EJ.to_bo (ej_callK k__law_yes hh (by decide) (by rfl) (by rfl) (by decide) (fun _ _ => rfl) (noStars_cons (fun _ _ => rfl) noStars_nil) (aj_cons (fun _ _ => rfl) (ej_callK k_shows_matching hh (by decide) (by rfl) (by rfl) (by decide) (fun _ _ => rfl) (noStars_cons (fun _ _ => rfl) noStars_nil) (aj_cons (fun _ _ => rfl) (ej_var (O := []) (by decide) (pv 2)) (aj_cons (fun _ _ => rfl) (ej_var (O := []) (by decide) (pv 4)) aj_nil)) (alen_cons (alen_cons alen_nil))) (aj_cons (fun _ _ => rfl) ejm_bl aj_nil)) (alen_cons (alen_cons alen_nil)))))) (bj_cons (sj_ret ejm_bl) bj_nil) bj_nil) (bj_cons (sj_if (WJ.tj (wj_and (tj_cmp notN_ok (EJ.to_bo (ej_var (O := []) (by decide) (pv 3))) ejm_non) (wj_and1 (tj_not (tj_val (EJ.to_bo (ej_callK k__law_yes hh (by decide) (by rfl) (by rfl) (by decide) (fun _ _ => rfl) (noStars_cons (fun _ _ => rfl) noStars_nil) (aj_cons (fun _ _ => rfl) (ej_callK k_shows_matching hh (by decide) (by rfl) (by rfl) (by decide) (fun _ _ => rfl) (noStars_cons (fun _ _ => rfl) noStars_nil) (aj_cons (fun _ _ => rfl) (ej_var (O := []) (by decide) (pv 2)) (aj_cons (fun _ _ => rfl) (ej_tup (aj_cons (fun _ _ => rfl) (ej_str (by decide +kernel)) (aj_cons (fun _ _ => rfl) (ej_var (O := []) (by decide) (pv 3)) aj_nil))) aj_nil)) (alen_cons (alen_cons alen_nil))) (aj_cons (fun _ _ => rfl) ejm_bl aj_nil)) (alen_cons (alen_cons alen_nil))))))))) (bj_cons (sj_ret ejm_bl) bj_nil) bj_nil) (bj_cons (sj_set (O := []) (i := 5) (by decide) ejm_int fun _ h => ps_set (i := 5) hh.nd rfl (by first | exact .inl rfl | exact .inr rfl) h) (bj_cons (sj_for hh (ij_range2 (by rfl) z_range (fun _ _ => rfl) (fun _ _ => rfl) ejm_int ejm_int) (gj_name (O := []) (by decide) (pg_name (i := 6) hh.nd rfl (by first | exact .inl rfl | exact .inr rfl))) (bj_cons (sj_unp (ej_callK k__law_set_of hh (by decide) (by rfl) (by rfl) (by decide) (fun _ _ => rfl) (noStars_cons (fun _ _ => rfl) noStars_nil) (aj_cons (fun _ _ => rfl) (ej_var (O := []) (by decide) (pv 2)) (aj_cons (fun _ _ => rfl) (ej_var (O := []) (by decide) (pv 6)) aj_nil)) (alen_cons (alen_cons alen_nil))) (gj_tup rfl (gsj_cons (gj_name (O := []) (by decide) (pg_name (i := 7) hh.nd rfl (by first | exact .inl rfl | exact .inr rfl))) (gsj_cons (gj_name (O := []) (by decide) (pg_name (i := 8) hh.nd rfl (by first | exact .inl rfl | exact .inr rfl))) gsj_nil rfl) rfl) rfl rfl) fun _ _ h1 h2 => ps_asg h1 h2) (bj_cons (sj_if (tj_not (tj_val (EJ.to_bo (ej_callK k__law_yes hh (by decide) (by rfl) (by rfl) (by decide) (fun _ _ => rfl) (noStars_cons (fun _ _ => rfl) noStars_nil) (aj_cons (fun _ _ => rfl) (ej_callK k_shows_matching hh (by decide) (by rfl) (by rfl) (by decide) (fun _ _ => rfl) (noStars_cons (fun _ _ => rfl) noStars_nil) (aj_cons (fun _ _ => rfl) (ej_var (O := []) (by decide) (pv 2)) (aj_cons (fun _ _ => rfl) (ej_tup (aj_cons (fun _ _ => rfl) (ej_str (by decide +kernel)) (aj_cons (fun _ _ => rfl) (ej_var (O := []) (by decide) (pv 7)) (aj_cons (fun _ _ => rfl) (ej_var (O := []) (by decide) (pv 8)) aj_nil)))) aj_nil)) (alen_cons (alen_cons alen_nil))) (aj_cons (fun _ _ => rfl) (ej_cmp (lt_ok hh) (EJ.to_bo (ej_len (by rfl) z_len (fun _ _ => rfl) (EJ.to_bo (ej_var (O := []) (by decide) (pv 8))))) (EJ.to_bo (ej_len (by rfl) z_len (fun _ _ => rfl) (EJ.to_bo (ej_var (O := []) (by decide) (pv 7)))))) aj_nil)) (alen_cons (alen_cons alen_nil)))))) (bj_cons (sj_ret ejm_bl) bj_nil) bj_nil) (bj_cons (sj_if (tj_cmp (lt_ok hh) (EJ.to_bo (ej_len (by rfl) z_len (fun _ _ => rfl) (EJ.to_bo (ej_var (O := []) (by decide) (pv 8))))) (EJ.to_bo (ej_len (by rfl) z_len (fun _ _ => rfl) (EJ.to_bo (ej_var (O := []) (by decide) (pv 7)))))) (bj_cons (sj_set (O := []) (i := 5) (by decide) (EJ.fr_sh (ej_add (EJ.to_bo (ej_var (O := []) (by decide) (pv 5))) ejm_int)) fun _ h => ps_set (i := 5) hh.nd rfl (by first | exact .inl rfl | exact .inr rfl) h) bj_nil) bj_nil) bj_nil))) (by intro _; rfl)) (bj_cons (sj_ret (ej_cmp (eq_ok hh) (EJ.to_bo (ej_cmp (eq_ok hh) (EJ.to_bo (ej_var (O := []) (by decide) (pv 5))) ejm_int)) (EJ.to_bo (ej_cmp notN_ok (EJ.to_bo (ej_var (O := []) (by decide) (pv 3))) ejm_non)))) bj_nil))))))))))
end
def dd_is_name : He.DefD := ⟨("is_name", none), "is_name", "is_name", defArgs s_is_name, defBody s_is_name, defScope s_is_name, [], []⟩
def dd_is_row : He.DefD := ⟨("is_row", none), "is_row", "is_row", defArgs s_is_row, defBody s_is_row, defScope s_is_row, [], []⟩
def dd_is_names : He.DefD := ⟨("is_names", none), "is_names", "is_names", defArgs s_is_names, defBody s_is_names, defScope s_is_names, [], []⟩
def dd_is_ascending : He.DefD := ⟨("is_ascending", none), "is_ascending", "is_ascending", defArgs s_is_ascending, defBody s_is_ascending, defScope s_is_ascending, [], []⟩
def dd_is_table : He.DefD := ⟨("is_table", none), "is_table", "is_table", defArgs s_is_table, defBody s_is_table, defScope s_is_table, [], []⟩
def dd_names_of : He.DefD := ⟨("names_of", none), "names_of", "names_of", defArgs s_names_of, defBody s_names_of, defScope s_names_of, [], []⟩
def dd_value_of : He.DefD := ⟨("value_of", none), "value_of", "value_of", defArgs s_value_of, defBody s_value_of, defScope s_value_of, [.non], []⟩
def dd_holds : He.DefD := ⟨("holds", none), "holds", "holds", defArgs s_holds, defBody s_holds, defScope s_holds, [], []⟩
def dd_table_from : He.DefD := ⟨("table_from", none), "table_from", "table_from", defArgs s_table_from, defBody s_table_from, defScope s_table_from, [], []⟩
def dd_part_at : He.DefD := ⟨("part_at", none), "part_at", "part_at", defArgs s_part_at, defBody s_part_at, defScope s_part_at, [], []⟩
def dd_reached_from : He.DefD := ⟨("reached_from", none), "reached_from", "reached_from", defArgs s_reached_from, defBody s_reached_from, defScope s_reached_from, [], []⟩
def dd_free_part : He.DefD := ⟨("free_part", none), "free_part", "free_part", defArgs s_free_part, defBody s_free_part, defScope s_free_part, [], []⟩
def dd_owners_along : He.DefD := ⟨("owners_along", none), "owners_along", "owners_along", defArgs s_owners_along, defBody s_owners_along, defScope s_owners_along, [], []⟩
def dd_greatest_owners : He.DefD := ⟨("greatest_owners", none), "greatest_owners", "greatest_owners", defArgs s_greatest_owners, defBody s_greatest_owners, defScope s_greatest_owners, [], []⟩
def dd_match_of : He.DefD := ⟨("match_of", none), "match_of", "match_of", defArgs s_match_of, defBody s_match_of, defScope s_match_of, [], []⟩
def dd_matching_report : He.DefD := ⟨("matching_report", none), "matching_report", "matching_report", defArgs s_matching_report, defBody s_matching_report, defScope s_matching_report, [], []⟩
def dd_is_partial : He.DefD := ⟨("is_partial", none), "is_partial", "is_partial", defArgs s_is_partial, defBody s_is_partial, defScope s_is_partial, [], []⟩
def dd_is_match : He.DefD := ⟨("is_match", none), "is_match", "is_match", defArgs s_is_match, defBody s_is_match, defScope s_is_match, [], []⟩
def dd_is_cut : He.DefD := ⟨("is_cut", none), "is_cut", "is_cut", defArgs s_is_cut, defBody s_is_cut, defScope s_is_cut, [], []⟩
def dd_shows_matching : He.DefD := ⟨("shows_matching", none), "shows_matching", "shows_matching", defArgs s_shows_matching, defBody s_shows_matching, defScope s_shows_matching, [], []⟩
def dd__law_mixed : He.DefD := ⟨("_law_mixed", none), "_law_mixed", "_law_mixed", defArgs s__law_mixed, defBody s__law_mixed, defScope s__law_mixed, [], []⟩
def dd__law_pool : He.DefD := ⟨("_law_pool", none), "_law_pool", "_law_pool", defArgs s__law_pool, defBody s__law_pool, defScope s__law_pool, [], []⟩
def dd__law_name : He.DefD := ⟨("_law_name", none), "_law_name", "_law_name", defArgs s__law_name, defBody s__law_name, defScope s__law_name, [], []⟩
def dd__law_names : He.DefD := ⟨("_law_names", none), "_law_names", "_law_names", defArgs s__law_names, defBody s__law_names, defScope s__law_names, [], []⟩
def dd__law_bit : He.DefD := ⟨("_law_bit", none), "_law_bit", "_law_bit", defArgs s__law_bit, defBody s__law_bit, defScope s__law_bit, [], []⟩
def dd__law_takes : He.DefD := ⟨("_law_takes", none), "_law_takes", "_law_takes", defArgs s__law_takes, defBody s__law_takes, defScope s__law_takes, [], []⟩
def dd__law_table : He.DefD := ⟨("_law_table", none), "_law_table", "_law_table", defArgs s__law_table, defBody s__law_table, defScope s__law_table, [], []⟩
def dd__law_is_name : He.DefD := ⟨("_law_is_name", none), "_law_is_name", "_law_is_name", defArgs s__law_is_name, defBody s__law_is_name, defScope s__law_is_name, [], []⟩
def dd__law_is_names : He.DefD := ⟨("_law_is_names", none), "_law_is_names", "_law_is_names", defArgs s__law_is_names, defBody s__law_is_names, defScope s__law_is_names, [], []⟩
def dd__law_is_partial : He.DefD := ⟨("_law_is_partial", none), "_law_is_partial", "_law_is_partial", defArgs s__law_is_partial, defBody s__law_is_partial, defScope s__law_is_partial, [], []⟩
def dd__law_is_match : He.DefD := ⟨("_law_is_match", none), "_law_is_match", "_law_is_match", defArgs s__law_is_match, defBody s__law_is_match, defScope s__law_is_match, [], []⟩
def dd__law_is_cut : He.DefD := ⟨("_law_is_cut", none), "_law_is_cut", "_law_is_cut", defArgs s__law_is_cut, defBody s__law_is_cut, defScope s__law_is_cut, [], []⟩
def dd__law_takers : He.DefD := ⟨("_law_takers", none), "_law_takers", "_law_takers", defArgs s__law_takers, defBody s__law_takers, defScope s__law_takers, [], []⟩
def dd__law_least : He.DefD := ⟨("_law_least", none), "_law_least", "_law_least", defArgs s__law_least, defBody s__law_least, defScope s__law_least, [], []⟩
def dd__law_free : He.DefD := ⟨("_law_free", none), "_law_free", "_law_free", defArgs s__law_free, defBody s__law_free, defScope s__law_free, [], []⟩
def dd__law_own_match : He.DefD := ⟨("_law_own_match", none), "_law_own_match", "_law_own_match", defArgs s__law_own_match, defBody s__law_own_match, defScope s__law_own_match, [], []⟩
def dd__law_yes : He.DefD := ⟨("_law_yes", none), "_law_yes", "_law_yes", defArgs s__law_yes, defBody s__law_yes, defScope s__law_yes, [], []⟩
def dd__law_word : He.DefD := ⟨("_law_word", none), "_law_word", "_law_word", defArgs s__law_word, defBody s__law_word, defScope s__law_word, [], []⟩
def dd__law_set_of : He.DefD := ⟨("_law_set_of", none), "_law_set_of", "_law_set_of", defArgs s__law_set_of, defBody s__law_set_of, defScope s__law_set_of, [], []⟩
def dd_law : He.DefD := ⟨("law", none), "law", "law", defArgs s_law, defBody s_law, defScope s_law, [], []⟩
def fn : List He.DefD := [dd_is_name, dd_is_row, dd_is_names, dd_is_ascending, dd_is_table, dd_names_of, dd_value_of, dd_holds, dd_table_from, dd_part_at, dd_reached_from, dd_free_part, dd_owners_along, dd_greatest_owners, dd_match_of, dd_matching_report, dd_is_partial, dd_is_match, dd_is_cut, dd_shows_matching, dd__law_mixed, dd__law_pool, dd__law_name, dd__law_names, dd__law_bit, dd__law_takes, dd__law_table, dd__law_is_name, dd__law_is_names, dd__law_is_partial, dd__law_is_match, dd__law_is_cut, dd__law_takers, dd__law_least, dd__law_free, dd__law_own_match, dd__law_yes, dd__law_word, dd__law_set_of, dd_law]
def fa : List He.Fa := [.glo "is_name", .glo "is_row", .glo "is_names", .glo "is_ascending", .glo "is_table", .glo "names_of", .glo "value_of", .glo "holds", .glo "table_from", .glo "part_at", .glo "reached_from", .glo "free_part", .glo "owners_along", .glo "greatest_owners", .glo "match_of", .glo "matching_report", .glo "is_partial", .glo "is_match", .glo "is_cut", .glo "shows_matching", .glo "_law_mixed", .glo "_law_pool", .glo "_law_name", .glo "_law_names", .glo "_law_bit", .glo "_law_takes", .glo "_law_table", .glo "_law_is_name", .glo "_law_is_names", .glo "_law_is_partial", .glo "_law_is_match", .glo "_law_is_cut", .glo "_law_takers", .glo "_law_least", .glo "_law_free", .glo "_law_own_match", .glo "_law_yes", .glo "_law_word", .glo "_law_set_of", .glo "law", .free "isinstance", .free "str", .free "len", .free "tuple", .free "range", .free "all", .free "sorted", .free "dict", .free "int", .free "list", .free "bool"]
def cs : List (Str × D) := [("NAME_SIZE", (.int 12)), ("LETTERS", (.str "abcdefghijklmnopqrstuvwxyz")), ("DIGITS", (.str "0123456789"))]
abbrev R : PySem.W.OpenRow := PySem.W.OpenLaw.row PySem.Challenge.rw_camhouse_k29_whole_match_or_cut
abbrev hk : PySem.W.Hook := hookP 4 fa fn cs
def ob (s : PySem.W.SharedT) : AlP := obsPG 4 fa fn cs (HandSHeadRun.getT s)
theorem ob_eq (s : PySem.W.SharedT) : ob s = hk.obs s.abs := obsPG_eq (HandSHeadRun.getT_eq s)
def loose : List Str := (["LETTERS", "DIGITS", "NAME_SIZE", "is_name", "is_row", "is_names", "is_ascending", "is_table", "names_of", "value_of", "holds", "table_from", "part_at", "reached_from", "free_part", "owners_along", "greatest_owners", "match_of", "matching_report", "is_partial", "is_match", "is_cut", "shows_matching", "_law_mixed", "_law_pool", "_law_name", "_law_names", "_law_bit", "_law_takes", "_law_table"] : List Str) ++ (["_law_is_name", "_law_is_names", "_law_is_partial", "_law_is_match", "_law_is_cut", "_law_takers", "_law_least", "_law_free", "_law_own_match", "_law_own_cut", "_law_yes", "_law_word", "_law_set_of"] : List Str)
theorem run (w : World) : HandSHeadRun.RunEq R (PySem.W.view R.prog [47]) hk ob 3480 loose w := by
  intro os
  kernel_rfl
theorem facts {P : Program} {w : World} {K : PySem.W.Frag} {h : Heap} {mg : Str → Option Value} (X : K.In h) (G : h.Ns mainGlobals mg) (c : SaysP fa fn cs K) : Facts P w K mg 8 d_law_29 := by
  have z_isinstance := He.free_ok X G (c.fact 40 (f := .free "isinstance") rfl)
  have z_str := He.free_ok X G (c.fact 41 (f := .free "str") rfl)
  have z_len := He.free_ok X G (c.fact 42 (f := .free "len") rfl)
  have z_tuple := He.free_ok X G (c.fact 43 (f := .free "tuple") rfl)
  have z_range := He.free_ok X G (c.fact 44 (f := .free "range") rfl)
  have z_all := He.free_ok X G (c.fact 45 (f := .free "all") rfl)
  have z_sorted := He.free_ok X G (c.fact 46 (f := .free "sorted") rfl)
  have z_dict := He.free_ok X G (c.fact 47 (f := .free "dict") rfl)
  have z_int := He.free_ok X G (c.fact 48 (f := .free "int") rfl)
  have z_list := He.free_ok X G (c.fact 49 (f := .free "list") rfl)
  have z_bool := He.free_ok X G (c.fact 50 (f := .free "bool") rfl)
  have c_NAME_SIZE := c.const X G 0 (x := "NAME_SIZE") (d := (.int 12)) rfl rfl
  have c_LETTERS := c.const X G 1 (x := "LETTERS") (d := (.str "abcdefghijklmnopqrstuvwxyz")) rfl rfl
  have c_DIGITS := c.const X G 2 (x := "DIGITS") (d := (.str "0123456789")) rfl rfl
  obtain ⟨fd_0, F_0⟩ := c.def_ 0 (d := dd_is_name) rfl
  have k_is_name := fun base => ok_is_name (P := P) (w := w) (base := base) (He.glo_ok X G (c.fact 0 (f := .glo "is_name") rfl)) F_0 z_isinstance z_str z_len c_NAME_SIZE c_LETTERS c_DIGITS
  obtain ⟨fd_1, F_1⟩ := c.def_ 1 (d := dd_is_row) rfl
  have k_is_row := fun base => ok_is_row (P := P) (w := w) (base := base) (He.glo_ok X G (c.fact 1 (f := .glo "is_row") rfl)) F_1 z_isinstance z_tuple z_len
  obtain ⟨fd_2, F_2⟩ := c.def_ 2 (d := dd_is_names) rfl
  have k_is_names := fun base => ok_is_names (P := P) (w := w) (base := base) (He.glo_ok X G (c.fact 2 (f := .glo "is_names") rfl)) F_2 (k_is_row base) (k_is_name base)
  obtain ⟨fd_3, F_3⟩ := c.def_ 3 (d := dd_is_ascending) rfl
  have k_is_ascending := fun base => ok_is_ascending (P := P) (w := w) (base := base) (He.glo_ok X G (c.fact 3 (f := .glo "is_ascending") rfl)) F_3 z_len z_range z_all (k_is_names base)
  obtain ⟨fd_4, F_4⟩ := c.def_ 4 (d := dd_is_table) rfl
  have k_is_table := fun base => ok_is_table (P := P) (w := w) (base := base) (He.glo_ok X G (c.fact 4 (f := .glo "is_table") rfl)) F_4 z_tuple (k_is_row base) (k_is_ascending base)
  obtain ⟨fd_5, F_5⟩ := c.def_ 5 (d := dd_names_of) rfl
  have k_names_of := fun base => ok_names_of (P := P) (w := w) (base := base) (He.glo_ok X G (c.fact 5 (f := .glo "names_of") rfl)) F_5 z_tuple
  obtain ⟨fd_6, F_6⟩ := c.def_ 6 (d := dd_value_of) rfl
  have k_value_of := fun base => ok_value_of (P := P) (w := w) (base := base) (He.glo_ok X G (c.fact 6 (f := .glo "value_of") rfl)) F_6 
  obtain ⟨fd_7, F_7⟩ := c.def_ 7 (d := dd_holds) rfl
  have k_holds := fun base => ok_holds (P := P) (w := w) (base := base) (He.glo_ok X G (c.fact 7 (f := .glo "holds") rfl)) F_7 (k_names_of base)
  obtain ⟨fd_8, F_8⟩ := c.def_ 8 (d := dd_table_from) rfl
  have k_table_from := fun base => ok_table_from (P := P) (w := w) (base := base) (He.glo_ok X G (c.fact 8 (f := .glo "table_from") rfl)) F_8 z_sorted z_tuple
  obtain ⟨fd_9, F_9⟩ := c.def_ 9 (d := dd_part_at) rfl
  have k_part_at := fun base => ok_part_at (P := P) (w := w) (base := base) (He.glo_ok X G (c.fact 9 (f := .glo "part_at") rfl)) F_9 
  obtain ⟨fd_10, F_10⟩ := c.def_ 10 (d := dd_reached_from) rfl
  have k_reached_from := fun base => ok_reached_from (P := P) (w := w) (base := base) (He.glo_ok X G (c.fact 10 (f := .glo "reached_from") rfl)) F_10 z_len (k_value_of base)
  obtain ⟨fd_11, F_11⟩ := c.def_ 11 (d := dd_free_part) rfl
  have k_free_part := fun base => ok_free_part (P := P) (w := w) (base := base) (He.glo_ok X G (c.fact 11 (f := .glo "free_part") rfl)) F_11 
  obtain ⟨fd_12, F_12⟩ := c.def_ 12 (d := dd_owners_along) rfl
  have k_owners_along := fun base => ok_owners_along (P := P) (w := w) (base := base) (He.glo_ok X G (c.fact 12 (f := .glo "owners_along") rfl)) F_12 z_dict (k_part_at base)
  obtain ⟨fd_13, F_13⟩ := c.def_ 13 (d := dd_greatest_owners) rfl
  have k_greatest_owners := fun base => ok_greatest_owners (P := P) (w := w) (base := base) (He.glo_ok X G (c.fact 13 (f := .glo "greatest_owners") rfl)) F_13 (k_names_of base) (k_reached_from base) (k_free_part base) (k_owners_along base)
  obtain ⟨fd_14, F_14⟩ := c.def_ 14 (d := dd_match_of) rfl
  have k_match_of := fun base => ok_match_of (P := P) (w := w) (base := base) (He.glo_ok X G (c.fact 14 (f := .glo "match_of") rfl)) F_14 (k_table_from base)
  obtain ⟨fd_15, F_15⟩ := c.def_ 15 (d := dd_matching_report) rfl
  have k_matching_report := fun base => ok_matching_report (P := P) (w := w) (base := base) (He.glo_ok X G (c.fact 15 (f := .glo "matching_report") rfl)) F_15 z_sorted z_tuple (k_greatest_owners base) (k_names_of base) (k_part_at base) (k_reached_from base) (k_match_of base)
  obtain ⟨fd_16, F_16⟩ := c.def_ 16 (d := dd_is_partial) rfl
  have k_is_partial := fun base => ok_is_partial (P := P) (w := w) (base := base) (He.glo_ok X G (c.fact 16 (f := .glo "is_partial") rfl)) F_16 z_len (k_is_table base) (k_is_name base) (k_value_of base)
  obtain ⟨fd_17, F_17⟩ := c.def_ 17 (d := dd_is_match) rfl
  have k_is_match := fun base => ok_is_match (P := P) (w := w) (base := base) (He.glo_ok X G (c.fact 17 (f := .glo "is_match") rfl)) F_17 (k_is_partial base) (k_names_of base)
  obtain ⟨fd_18, F_18⟩ := c.def_ 18 (d := dd_is_cut) rfl
  have k_is_cut := fun base => ok_is_cut (P := P) (w := w) (base := base) (He.glo_ok X G (c.fact 18 (f := .glo "is_cut") rfl)) F_18 z_len (k_is_ascending base) (k_holds base) (k_value_of base)
  obtain ⟨fd_19, F_19⟩ := c.def_ 19 (d := dd_shows_matching) rfl
  have k_shows_matching := fun base => ok_shows_matching (P := P) (w := w) (base := base) (He.glo_ok X G (c.fact 19 (f := .glo "shows_matching") rfl)) F_19 (k_is_row base) (k_is_match base) (k_is_cut base)
  obtain ⟨fd_20, F_20⟩ := c.def_ 20 (d := dd__law_mixed) rfl
  have k__law_mixed := fun base => ok__law_mixed (P := P) (w := w) (base := base) (He.glo_ok X G (c.fact 20 (f := .glo "_law_mixed") rfl)) F_20 z_int
  obtain ⟨fd_21, F_21⟩ := c.def_ 21 (d := dd__law_pool) rfl
  have k__law_pool := fun base => ok__law_pool (P := P) (w := w) (base := base) (He.glo_ok X G (c.fact 21 (f := .glo "_law_pool") rfl)) F_21 z_len z_range z_int (k__law_mixed base)
  obtain ⟨fd_22, F_22⟩ := c.def_ 22 (d := dd__law_name) rfl
  have k__law_name := fun base => ok__law_name (P := P) (w := w) (base := base) (He.glo_ok X G (c.fact 22 (f := .glo "_law_name") rfl)) F_22 z_int z_range
  obtain ⟨fd_23, F_23⟩ := c.def_ 23 (d := dd__law_names) rfl
  have k__law_names := fun base => ok__law_names (P := P) (w := w) (base := base) (He.glo_ok X G (c.fact 23 (f := .glo "_law_names") rfl)) F_23 z_range z_int z_sorted z_tuple (k__law_name base)
  obtain ⟨fd_24, F_24⟩ := c.def_ 24 (d := dd__law_bit) rfl
  have k__law_bit := fun base => ok__law_bit (P := P) (w := w) (base := base) (He.glo_ok X G (c.fact 24 (f := .glo "_law_bit") rfl)) F_24 z_int
  obtain ⟨fd_25, F_25⟩ := c.def_ 25 (d := dd__law_takes) rfl
  have k__law_takes := fun base => ok__law_takes (P := P) (w := w) (base := base) (He.glo_ok X G (c.fact 25 (f := .glo "_law_takes") rfl)) F_25 (k__law_bit base)
  obtain ⟨fd_26, F_26⟩ := c.def_ 26 (d := dd__law_table) rfl
  have k__law_table := fun base => ok__law_table (P := P) (w := w) (base := base) (He.glo_ok X G (c.fact 26 (f := .glo "_law_table") rfl)) F_26 z_int z_range z_tuple (k__law_names base) (k__law_takes base)
  obtain ⟨fd_27, F_27⟩ := c.def_ 27 (d := dd__law_is_name) rfl
  have k__law_is_name := fun base => ok__law_is_name (P := P) (w := w) (base := base) (He.glo_ok X G (c.fact 27 (f := .glo "_law_is_name") rfl)) F_27 z_isinstance z_str z_len
  obtain ⟨fd_28, F_28⟩ := c.def_ 28 (d := dd__law_is_names) rfl
  have k__law_is_names := fun base => ok__law_is_names (P := P) (w := w) (base := base) (He.glo_ok X G (c.fact 28 (f := .glo "_law_is_names") rfl)) F_28 z_isinstance z_tuple z_len z_range (k__law_is_name base)
  obtain ⟨fd_29, F_29⟩ := c.def_ 29 (d := dd__law_is_partial) rfl
  have k__law_is_partial := fun base => ok__law_is_partial (P := P) (w := w) (base := base) (He.glo_ok X G (c.fact 29 (f := .glo "_law_is_partial") rfl)) F_29 z_isinstance z_tuple z_len z_range (k__law_is_name base)
  obtain ⟨fd_30, F_30⟩ := c.def_ 30 (d := dd__law_is_match) rfl
  have k__law_is_match := fun base => ok__law_is_match (P := P) (w := w) (base := base) (He.glo_ok X G (c.fact 30 (f := .glo "_law_is_match") rfl)) F_30 z_len (k__law_is_partial base)
  obtain ⟨fd_31, F_31⟩ := c.def_ 31 (d := dd__law_is_cut) rfl
  have k__law_is_cut := fun base => ok__law_is_cut (P := P) (w := w) (base := base) (He.glo_ok X G (c.fact 31 (f := .glo "_law_is_cut") rfl)) F_31 z_len (k__law_is_names base)
  obtain ⟨fd_32, F_32⟩ := c.def_ 32 (d := dd__law_takers) rfl
  have k__law_takers := fun base => ok__law_takers (P := P) (w := w) (base := base) (He.glo_ok X G (c.fact 32 (f := .glo "_law_takers") rfl)) F_32 z_len z_range
  obtain ⟨fd_33, F_33⟩ := c.def_ 33 (d := dd__law_least) rfl
  have k__law_least := fun base => ok__law_least (P := P) (w := w) (base := base) (He.glo_ok X G (c.fact 33 (f := .glo "_law_least") rfl)) F_33 z_len z_range z_sorted z_list z_int (k__law_takers base)
  obtain ⟨fd_34, F_34⟩ := c.def_ 34 (d := dd__law_free) rfl
  have k__law_free := fun base => ok__law_free (P := P) (w := w) (base := base) (He.glo_ok X G (c.fact 34 (f := .glo "_law_free") rfl)) F_34 z_tuple
  obtain ⟨fd_35, F_35⟩ := c.def_ 35 (d := dd__law_own_match) rfl
  have k__law_own_match := fun base => ok__law_own_match (P := P) (w := w) (base := base) (He.glo_ok X G (c.fact 35 (f := .glo "_law_own_match") rfl)) F_35 z_sorted z_tuple (k__law_free base) (k__law_least base)
  obtain ⟨fd_36, F_36⟩ := c.def_ 36 (d := dd__law_yes) rfl
  have k__law_yes := fun base => ok__law_yes (P := P) (w := w) (base := base) (He.glo_ok X G (c.fact 36 (f := .glo "_law_yes") rfl)) F_36 z_isinstance z_bool
  obtain ⟨fd_37, F_37⟩ := c.def_ 37 (d := dd__law_word) rfl
  have k__law_word := fun base => ok__law_word (P := P) (w := w) (base := base) (He.glo_ok X G (c.fact 37 (f := .glo "_law_word") rfl)) F_37 z_isinstance z_tuple z_len z_str
  obtain ⟨fd_38, F_38⟩ := c.def_ 38 (d := dd__law_set_of) rfl
  have k__law_set_of := fun base => ok__law_set_of (P := P) (w := w) (base := base) (He.glo_ok X G (c.fact 38 (f := .glo "_law_set_of") rfl)) F_38 z_int z_sorted z_tuple
  obtain ⟨fd_39, F_39⟩ := c.def_ 39 (d := dd_law) rfl
  exact ⟨_, fd_39, He.glo_ok X G (c.fact 39 (f := .glo "law") rfl), fun s v => F_39.bindsA (ps := ["script"]) (fun _ _ _ _ _ _ us hl => match us, hl with | [_], _ => rfl) s [v] rfl, fun base => ok_law F_39 z_int z_range z_len (k__law_pool base) (k__law_table base) (k__law_own_match base) (k_matching_report base) (k__law_word base) (k__law_is_match base) (k__law_is_cut base) (k_shows_matching base) (k__law_yes base) (k__law_set_of base)⟩
theorem law_true (ns : List Int) (hl : ns.length ≤ 63) : d_law_29 [.list (ns.map .int)] = .ok (.bool true) := PL.law_true ns
end L_k29
open PySem PySem.W PySem.Calls PyProof.Rows
set_option maxRecDepth 100000 in
set_option maxHeartbeats 0 in
theorem PySem.Challenge.cw_camhouse_k29_whole_match_or_cut_holds : PySem.Challenge.rw_camhouse_k29_whole_match_or_cut.Holds := by
  w_on; o_law
  refine HandSHeadRun.head_any (r := OpenLaw.row PySem.Challenge.rw_camhouse_k29_whole_match_or_cut) (q := view (OpenLaw.row PySem.Challenge.rw_camhouse_k29_whole_match_or_cut).prog [47]) (H := L_k29.hk) (ob := L_k29.ob) (M := 3480) (loose := L_k29.loose) (d := HandSHeadRun.topDef (OpenLaw.row PySem.Challenge.rw_camhouse_k29_whole_match_or_cut).prog 47) (kwd := []) L_k29.ob_eq
    (by kernel_rfl) (fun s => by kernel_rfl) L_k29.run (by kernel_rfl) (by kernel_rfl) (by kernel_rfl) (by rfl) (by first | assumption | decide +kernel) (by decide +kernel) ⟨rfl, rfl, rfl, rfl, rfl, by decide +kernel⟩ ?hw ?hc
  case hw => w_witness2
  case hc =>
    refine L2.walk_ofE (l := PySem.Challenge.rw_camhouse_k29_whole_match_or_cut) (n := 63) (k := 8) (x := "script") (CX := L2.CX0) rfl (by decide) (by kernel_rfl) ⟨rfl, by decide, by decide⟩ ?F (fun _ _ _ _ z => z)
    intro w mg fa h Y G hmg0
    obtain ⟨K, KX, c⟩ := Y
    have hmg : mg ("law" : PySem.Str) = some (.ref fa) := by
      have e : (HandSHeadRun.topDef (OpenLaw.row PySem.Challenge.rw_camhouse_k29_whole_match_or_cut).prog 47).name = ("law" : PySem.Str) := by kernel_rfl
      rw [← e]
      exact hmg0
    exact PL.law_end (P := (PySem.Challenge.rw_camhouse_k29_whole_match_or_cut).prog) (w := w) KX hmg (L_k29.facts KX G c) L_k29.law_true

