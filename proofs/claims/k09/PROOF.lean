import PyProof.Rows.All
import Wide.All
import OpenK.AllK
import Wide.FinOn
import HandS.ForMost
import HandS.Walk
import HandS.IsInst
import HandS.Wide
import HandS.EndBits
import HandS.Rev
import HandS.TupAny
import HandS.Deep
import HandS.Style
import HandS.NoneIn
import HandS.Zip
import HandS.Conv
import HandS.Flt
import KE.GoesMore
import PySem.Challenge.RW_cornersight_k09_corners_and_walls
set_option Elab.async false
set_option linter.all false
set_option maxRecDepth 100000
/-! PD: a pure data semantics over the hand layer. Python data is PyData; own lists are slots whose list nobody else holds. -/
namespace PD
open PySem L2
abbrev D := PyData
abbrev DSt := List (Option D)
abbrev SE := DSt → Option (D × DSt)
abbrev SA := DSt → Option (List D × DSt)
inductive Out where
  | nx (s : DSt) | bk (s : DSt) | ct (s : DSt) | rt (d : D) (s : DSt)
abbrev SS := DSt → Option Out

end PD
namespace L2
open PySem
abbrev DD := PyData
/-! ### heaps -/
theorem SqT.same {K : PySem.W.Frag} {H H' : Hp} {a : Addr} {xs : List V} (e : Same H H') (h : SqT K H a xs) : SqT K H' a xs := by
  rcases h with (h | ⟨o, h⟩) | h
  · exact .inl (.inl (e _ _ h))
  · exact .inl (.inr ⟨o, e _ _ h⟩)
  · exact .inr h
mutual
theorem Dp.mono {K : PySem.W.Frag} {H H' : Hp} (e : Same H H') : ∀ {v : V} {d : DD}, Dp K H v d → Dp K H' v d
  | _, _, .non => .non
  | _, _, .bl b => .bl b
  | _, _, .int i => .int i
  | _, _, .str x => .str x
  | _, _, .lst h a => .lst (e.seq h) (DpAll.mono e a)
  | _, _, .tup h a => .tup (SqT.same e h) (DpAll.mono e a)
theorem DpAll.mono {K : PySem.W.Frag} {H H' : Hp} (e : Same H H') : ∀ {v : List V} {d : List DD}, DpAll K H v d → DpAll K H' v d
  | _, _, .nil => .nil
  | _, _, .cons h a => .cons (Dp.mono e h) (DpAll.mono e a)
end
theorem DpAll.len {K : PySem.W.Frag} {H : Hp} : ∀ {v : List V} {d : List DD}, DpAll K H v d → v.length = d.length
  | _, _, .nil => rfl
  | _, _, .cons _ a => congrArg (· + 1) (DpAll.len a)
theorem DpAll.get {K : PySem.W.Frag} {H : Hp} : ∀ {vs : List V} {ds : List DD} {i : Nat} {d : DD}, DpAll K H vs ds → ds[i]? = some d → ∃ v, vs[i]? = some v ∧ Dp K H v d
  | _, _, _, _, .nil, e => by simp at e
  | _, _, 0, _, .cons h _, e => by simp at e; subst e; exact ⟨_, rfl, h⟩
  | _, _, i + 1, _, .cons _ a, e => by simpa using DpAll.get (i := i) a (by simpa using e)
theorem DpAll.getV {K : PySem.W.Frag} {H : Hp} : ∀ {vs : List V} {ds : List DD} {i : Nat} {v : V}, DpAll K H vs ds → vs[i]? = some v → ∃ d, ds[i]? = some d ∧ Dp K H v d
  | _, _, _, _, .nil, e => by simp at e
  | _, _, 0, _, .cons h _, e => by simp at e; subst e; exact ⟨_, rfl, h⟩
  | _, _, i + 1, _, .cons _ a, e => by simpa using DpAll.getV (i := i) a (by simpa using e)
theorem DpAll.app {K : PySem.W.Frag} {H : Hp} : ∀ {vs us : List V} {ds es : List DD}, DpAll K H vs ds → DpAll K H us es → DpAll K H (vs ++ us) (ds ++ es)
  | _, _, _, _, .nil, h => h
  | _, _, _, _, .cons h a, b => .cons h (DpAll.app a b)
theorem DpAll.take {K : PySem.W.Frag} {H : Hp} : ∀ {vs : List V} {ds : List DD} (n : Nat), DpAll K H vs ds → DpAll K H (vs.take n) (ds.take n)
  | _, _, 0, _ => .nil
  | _, _, _ + 1, .nil => .nil
  | _, _, n + 1, .cons h a => .cons h (DpAll.take n a)
theorem DpAll.drop {K : PySem.W.Frag} {H : Hp} : ∀ {vs : List V} {ds : List DD} (n : Nat), DpAll K H vs ds → DpAll K H (vs.drop n) (ds.drop n)
  | _, _, 0, h => h
  | _, _, _ + 1, .nil => .nil
  | _, _, n + 1, .cons _ a => DpAll.drop n a
theorem DpAll.set {K : PySem.W.Frag} {H : Hp} {v : V} {d : DD} (h : Dp K H v d) : ∀ {vs : List V} {ds : List DD} (n : Nat), DpAll K H vs ds → DpAll K H (vs.set n v) (ds.set n d)
  | _, _, _, .nil => .nil
  | _, _, 0, .cons _ a => .cons h a
  | _, _, n + 1, .cons q a => .cons q (DpAll.set h n a)
theorem DpAll.rev {K : PySem.W.Frag} {H : Hp} : ∀ {vs : List V} {ds : List DD}, DpAll K H vs ds → DpAll K H vs.reverse ds.reverse
  | _, _, .nil => .nil
  | _, _, .cons h a => by
    rw [List.reverse_cons, List.reverse_cons]
    exact DpAll.app (DpAll.rev a) (.cons h .nil)
theorem DpAll.rep {K : PySem.W.Frag} {H : Hp} {vs : List V} {ds : List DD} (h : DpAll K H vs ds) : ∀ k : Nat, DpAll K H (List.replicate k vs).flatten (List.replicate k ds).flatten
  | 0 => .nil
  | k + 1 => by
    rw [List.replicate_succ, List.replicate_succ, List.flatten_cons, List.flatten_cons]
    exact h.app (DpAll.rep h k)
theorem Dp.int_inv {K : PySem.W.Frag} {H : Hp} {v : V} {i : Int} (h : Dp K H v (.int i)) : v = .int i := by cases h; rfl
theorem Dp.bl_inv {K : PySem.W.Frag} {H : Hp} {v : V} {b : Bool} (h : Dp K H v (.bool b)) : v = .bl b := by cases h; rfl
theorem Dp.str_inv {K : PySem.W.Frag} {H : Hp} {v : V} {b : Str} (h : Dp K H v (.str b)) : v = .str b := by cases h; rfl
theorem Dp.lst_inv {K : PySem.W.Frag} {H : Hp} {v : V} {ds : List DD} (h : Dp K H v (.list ds)) : ∃ a xs, v = .ref a ∧ SqL K H a xs ∧ DpAll K H xs ds := by
  cases h with
  | lst h a => exact ⟨_, _, rfl, h, a⟩
theorem Dp.tup_inv {K : PySem.W.Frag} {H : Hp} {v : V} {ds : List DD} (h : Dp K H v (.tuple ds)) : ∃ a xs, v = .ref a ∧ SqT K H a xs ∧ DpAll K H xs ds := by
  cases h with
  | tup h a => exact ⟨_, _, rfl, h, a⟩

end L2
namespace PD
open PySem L2
/-- the value of a flat datum -/
def fv : D → Option V
  | .none => some .non
  | .bool b => some (.bl b)
  | .int i => some (.int i)
  | .str x => some (.str x)
  | _ => none
theorem fv_dp {K : PySem.W.Frag} {H : Hp} {d : D} {v : V} (h : fv d = some v) : Dp K H v d := by
  cases d with
  | none => cases h; exact .non
  | bool b => cases h; exact .bl b
  | int b => cases h; exact .int b
  | str b => cases h; exact .str b
  | list _ => cases h
  | tuple _ => cases h
  | dict _ => cases h
theorem dp_fv {K : PySem.W.Frag} {H : Hp} {d : D} {v w : V} (h : fv d = some v) (q : Dp K H w d) : w = v := by
  cases q with
  | non => cases h; rfl
  | bl b => cases h; rfl
  | int b => cases h; rfl
  | str b => cases h; rfl
  | lst _ _ => cases h
  | tup _ _ => cases h

def del (H : Hp) (p : Addr) : Hp := fun a => if a = p then none else H a
theorem del_same (H : Hp) (p : Addr) : Same (del H p) H := fun b o h => by
  unfold del at h
  split at h
  · cases h
  · exact h
theorem del_ne {H : Hp} {p a : Addr} (h : a ≠ p) : del H p a = H a := if_neg h
theorem del_self {H : Hp} {p : Addr} : del H p p = none := if_pos rfl
theorem del_upd {H : Hp} {p : Addr} {o : HO} (h : H p = none) : del (upd H p o) p = H := by
  funext a
  unfold del upd
  split
  · rename_i e; rw [e, h]
  · rfl
theorem same_upd {H : Hp} {p : Addr} {o : HO} (h : H p = none) : Same H (upd H p o) := fun b x e => by
  rw [upd_ne (ne_of_none e h)]
  exact e

structure Fr where
  P : Nat → Addr
  B : Hp
  S : Addr → Bool
/-- what is not to be seen as data -/
def hid (F : Fr) (O : List Nat) (a : Addr) : Prop := (∃ i, i ∈ O ∧ F.P i = a) ∨ ((F.B a).isSome = true ∧ F.S a = false)
open Classical in
noncomputable def frz (F : Fr) (O : List Nat) (H : Hp) : Hp := fun a => if hid F O a then none else H a
theorem frz_at {F : Fr} {O : List Nat} {H : Hp} {a : Addr} (h : ¬ hid F O a) : frz F O H a = H a := if_neg h
theorem frz_none {F : Fr} {O : List Nat} {H : Hp} {a : Addr} (h : hid F O a) : frz F O H a = none := if_pos h
theorem frz_some {F : Fr} {O : List Nat} {H : Hp} {a : Addr} {o : HO} (h : frz F O H a = some o) : ¬ hid F O a ∧ H a = some o := by
  unfold frz at h
  split at h
  · cases h
  · rename_i q; exact ⟨q, h⟩
theorem frz_same {F : Fr} {O : List Nat} {H : Hp} : Same (frz F O H) H := fun a o h => (frz_some h).2
theorem frz_mono {F : Fr} {O : List Nat} {H H' : Hp} (e : Same H H') : Same (frz F O H) (frz F O H') := fun a o h => by
  obtain ⟨n, q⟩ := frz_some h
  rw [frz_at n]
  exact e a o q
theorem frz_less {F : Fr} {O O' : List Nat} {H : Hp} (h : ∀ i, i ∈ O' → i ∈ O) : Same (frz F O H) (frz F O' H) := fun a o q => by
  obtain ⟨n, q⟩ := frz_some q
  rw [frz_at]
  · exact q
  · rintro (⟨i, hi, e⟩ | z)
    · exact n (.inl ⟨i, h i hi, e⟩)
    · exact n (.inr z)

structure Rep (K : PySem.W.Frag) (O : List Nat) (F : Fr) (t : DSt) (σ : St) (H : Hp) : Prop where
  len : t.length = σ.length
  val : ∀ i d, i ∉ O → t[i]? = some (some d) → ∃ v, σ[i]? = some (some v) ∧ Dp K (frz F O H) v d
  own : ∀ i, i ∈ O → ∃ ds vs, t[i]? = some (some (.list ds)) ∧ σ[i]? = some (some (.ref (F.P i))) ∧ H (F.P i) = some (.lst vs) ∧ DpAll K (frz F O H) vs ds
  inj : ∀ i j, i ∈ O → j ∈ O → F.P i = F.P j → i = j
  keep : ∀ a o, F.B a = some o → H a = some o
  nb : ∀ i, i ∈ O → F.B (F.P i) = none
section
variable {K : PySem.W.Frag} {O : List Nat} {F : Fr} {t t' : DSt} {σ : St} {H H' : Hp}
theorem Rep.mono (r : Rep K O F t σ H) (e : Same H H') : Rep K O F t σ H' where
  len := r.len
  val := fun i d hi h => by
    obtain ⟨v, h1, h2⟩ := r.val i d hi h
    exact ⟨v, h1, h2.mono (frz_mono e)⟩
  own := fun i hi => by
    obtain ⟨ds, vs, h1, h2, h3, h4⟩ := r.own i hi
    exact ⟨ds, vs, h1, h2, e _ _ h3, h4.mono (frz_mono e)⟩
  inj := r.inj
  keep := fun a o h => e _ _ (r.keep a o h)
  nb := r.nb
/-- a fresh address is not hidden -/
theorem Rep.fresh (r : Rep K O F t σ H) {p : Addr} (h : H p = none) : ¬ hid F O p := by
  rintro (⟨i, hi, e⟩ | ⟨z, _⟩)
  · obtain ⟨_, _, _, _, q, _⟩ := r.own i hi
    rw [e, h] at q; cases q
  · cases q : F.B p with
    | none => rw [q] at z; cases z
    | some o =>
      have := r.keep p o q
      rw [h] at this; cases this
end

/-! ### expressions -/
noncomputable def tD (K : PySem.W.Frag) (O : List Nat) (f : SE) : TE := fun σ H Q => ∃ F t d t', Rep K O F t σ H ∧ f t = some (d, t') ∧
  ∀ v H', Rep K O F t' σ H' → Same (frz F O H) (frz F O H') → Dp K (frz F O H') v d → Q v H'
/-- a list that is new -/
noncomputable def tF (K : PySem.W.Frag) (O : List Nat) (f : SE) : TE := fun σ H Q => ∃ F t ds t', Rep K O F t σ H ∧ f t = some (.list ds, t') ∧
  ∀ p vs H', Rep K O F t' σ (del H' p) → Same (frz F O H) (frz F O (del H' p)) → H' p = some (.lst vs) → DpAll K (frz F O (del H' p)) vs ds → Q (.ref p) H'
noncomputable def tDA (K : PySem.W.Frag) (O : List Nat) (f : SA) : TA := fun σ H Q => ∃ F t d t', Rep K O F t σ H ∧ f t = some (d, t') ∧
  ∀ v H', Rep K O F t' σ H' → Same (frz F O H) (frz F O H') → DpAll K (frz F O H') v d → Q v H'
abbrev RE (X : Cx) (O : List Nat) (e : Expr) (f : SE) : Prop := PE X e (tD X.K O f)
abbrev RF (X : Cx) (O : List Nat) (e : Expr) (f : SE) : Prop := PE X e (tF X.K O f)
abbrev RA (X : Cx) (O : List Nat) (e : List Expr) (f : SA) : Prop := PA X e (tDA X.K O f)

theorem PE.imp {X : Cx} {e : Expr} {t t' : TE} (h : PE X e t) (i : ∀ σ H Q, t' σ H Q → t σ H Q) : PE X e t' := ⟨fun pins s σ H Q I q => h.run pins s σ H Q I (i _ _ _ q)⟩
theorem PA.imp {X : Cx} {e : List Expr} {t t' : TA} (h : PA X e t) (i : ∀ σ H Q, t' σ H Q → t σ H Q) : PA X e t' := ⟨fun pos pins s σ H Q I q => h.run pos pins s σ H Q I (i _ _ _ q)⟩
theorem PT.imp {X : Cx} {e : Expr} {t t' : TT} (h : PT X e t) (i : ∀ σ H Q, t' σ H Q → t σ H Q) : PT X e t' := ⟨fun pins s σ H Q I q => h.run pins s σ H Q I (i _ _ _ q)⟩
theorem PS.imp {X : Cx} {e : Stmt} {t t' : TS} (h : PS X e t) (i : ∀ E σ H, t' E σ H → t E σ H) : PS X e t' := ⟨fun pins s σ H E I q => h.run pins s σ H E I (i _ _ _ q)⟩
theorem PSs.imp {X : Cx} {e : List Stmt} {t t' : TS} (h : PSs X e t) (i : ∀ E σ H, t' E σ H → t E σ H) : PSs X e t' := ⟨fun pins s σ H E I q => h.run pins s σ H E I (i _ _ _ q)⟩

section
variable {X : Cx} {O : List Nat}
/-- from a fresh list to data -/
theorem rf {e : Expr} {f : SE} (h : RF X O e f) : RE X O e (fun t => (f t).bind fun r => match r.1 with | .list ds => some (.list ds, r.2) | _ => none) := by
  refine PE.imp h fun σ H Q q => ?_
  obtain ⟨F, t, d, t', r, e, q⟩ := q
  obtain ⟨⟨y1, y2⟩, z, e⟩ := Option.bind_eq_some_iff.mp e
  · cases y1 with
    | list ds =>
      cases e
      refine ⟨F, t, ds, _, r, z, fun p vs H' r' s' hp hd => ?_⟩
      have r2 := r'.mono (del_same H' p)
      refine q _ _ r2 (s'.trans (frz_mono (del_same H' p))) (.lst (xs := vs) (.inl (.inl ?_)) (hd.mono (frz_mono (del_same H' p))))
      rw [frz_at (r'.fresh del_self)]
      exact hp
    | _ => cases e
theorem rf' {e : Expr} {f : SE} (h : RF X O e f) (hf : ∀ t r, f t = some r → ∃ ds, r.1 = .list ds) : RE X O e f := by
  refine PE.imp (rf h) fun σ H Q q => ?_
  obtain ⟨F, t, d, t', r, e, q⟩ := q
  refine ⟨F, t, d, t', r, ?_, q⟩
  obtain ⟨ds, hds⟩ := hf t _ e
  dsimp only at hds
  subst hds
  show (f t).bind _ = _
  rw [e]
  rfl

/-! #### constants, names -/
def sC (d : D) : SE := fun t => some (d, t)
def sV (i : Nat) : SE := fun t => match t[i]? with | some (some d) => some (d, t) | _ => none
theorem rC {e : Expr} {d : D} {v : V} (hv : fv d = some v) (h : PE X e (tC v)) : RE X O e (sC d) := by
  refine PE.imp h fun σ H Q q => ?_
  obtain ⟨F, t, d', t', r, e, q⟩ := q
  cases e
  exact q v H r (Same.refl _) (fv_dp hv)
theorem r_int {i j pos} : RE X O (.Constant (.int i) j pos) (sC (.int i)) := rC rfl pe_int
theorem r_bl {b j pos} : RE X O (.Constant (.bool b) j pos) (sC (.bool b)) := rC rfl pe_bl
theorem r_non {j pos} : RE X O (.Constant .none j pos) (sC .none) := rC rfl pe_non
theorem r_str {x j pos} : RE X O (.Constant (.str x) j pos) (sC (.str x)) := rC rfl pe_str
theorem r_v (i : Nat) {x : Str} {pos : Pos} (hO : i ∉ O := by decide) (hN : X.N[i]? = some x := by rfl) (hv : Vis X.env.scope x := by first | exact Or.inl rfl | exact Or.inr (Or.inl rfl) | exact Or.inr (Or.inr rfl))
    (hd : (x == ("__debug__" : Str)) = false := by decide) (hcd : (x == ("__classdict__" : Str)) = false := by decide) : RE X O (.Name x pos) (sV i) := by
  refine PE.imp (pe_var hN hv hd hcd) fun σ H Q q => ?_
  obtain ⟨F, t, d', t', r, e, q⟩ := q
  unfold sV at e
  split at e
  · rename_i d hd
    cases e
    obtain ⟨v, h1, h2⟩ := r.val i _ hO hd
    exact ⟨v, h1, q v H r (Same.refl _) h2⟩
  · cases e

/-! #### argument lists -/
def sNil : SA := fun t => some ([], t)
def sCons (f : SE) (g : SA) : SA := fun t => (f t).bind fun r => (g r.2).bind fun q => some (r.1 :: q.1, q.2)
theorem ra_nil : RA X O [] sNil := by
  refine PA.imp pa_nil fun σ H Q q => ?_
  obtain ⟨F, t, d', t', r, e, q⟩ := q
  cases e
  exact q [] H r (Same.refl _) .nil
theorem ra_cons {e : Expr} {es : List Expr} {f : SE} {g : SA} (he : RE X O e f) (hes : RA X O es g) (hs : starEach (e :: es) X.env = (false, eval e X.env) :: starEach es X.env := by rfl) : RA X O (e :: es) (sCons f g) := by
  refine PA.imp (pa_cons he hes hs) fun σ H Q q => ?_
  obtain ⟨F, t, d', t', r, e, q⟩ := q
  unfold sCons at e
  obtain ⟨⟨d1, t1⟩, z1, e⟩ := Option.bind_eq_some_iff.mp e
  obtain ⟨⟨d2, t2⟩, z2, e⟩ := Option.bind_eq_some_iff.mp e
  · · cases e
      refine ⟨F, t, d1, t1, r, z1, fun v H1 r1 s1 p1 => ?_⟩
      refine ⟨F, t1, d2, t2, r1, z2, fun vs H2 r2 s2 p2 => ?_⟩
      exact q _ H2 r2 (s1.trans s2) (.cons (p1.mono s2) p2)
/-- a display of a tuple, of a list -/
def sTup (f : SA) : SE := fun t => (f t).bind fun r => if r.1.length ≤ sizeLine then some (.tuple r.1, r.2) else none
def sLst (f : SA) : SE := fun t => (f t).bind fun r => if r.1.length ≤ sizeLine then some (.list r.1, r.2) else none
theorem r_tup {es : List Expr} {f : SA} {x1 pos} (h : RA X O es f) : RE X O (.Tuple es x1 pos) (sTup f) := by
  refine PE.imp (pe_tup h) fun σ H Q q => ?_
  obtain ⟨F, t, d', t', r, e, q⟩ := q
  unfold sTup at e
  obtain ⟨⟨ds, t1⟩, z1, e⟩ := Option.bind_eq_some_iff.mp e
  · split at e
    · rename_i hl
      cases e
      refine ⟨F, t, ds, _, r, z1, fun vs H1 r1 s1 p1 => ⟨by rw [p1.len]; exact hl, fun p hp => ?_⟩⟩
      have s2 : Same H1 (upd H1 p (.tup vs)) := same_upd hp
      refine q _ _ (r1.mono s2) (s1.trans (frz_mono s2)) (.tup (xs := vs) (.inl (.inl ?_)) (p1.mono (frz_mono s2)))
      rw [frz_at (r1.fresh hp), upd_same]
    · cases e
theorem r_lst {es : List Expr} {f : SA} {pos} (h : RA X O es f) : RF X O (.List es pos) (sLst f) := by
  refine PE.imp (pe_lst h) fun σ H Q q => ?_
  obtain ⟨F, t, d2, t', r, e, q⟩ := q
  unfold sLst at e
  obtain ⟨⟨ds, t1⟩, z1, e⟩ := Option.bind_eq_some_iff.mp e
  · split at e
    · rename_i hl
      cases e
      refine ⟨F, t, ds, _, r, z1, fun vs H1 r1 s1 p1 => ⟨by rw [p1.len]; exact hl, fun p hp => ?_⟩⟩
      exact q p vs _ (by rw [del_upd hp]; exact r1) (by rw [del_upd hp]; exact s1) upd_same (by rw [del_upd hp]; exact p1)
    · cases e
end
end PD

namespace PD
open PySem L2
section
variable {X : Cx} {O : List Nat}

/-! ### two operands -/
def bin (g : D → D → Option D) (f1 f2 : SE) : SE := fun t => (f1 t).bind fun r1 => (f2 r1.2).bind fun r2 => (g r1.1 r2.1).bind fun d => some (d, r2.2)
/-- an operation by values keeps g over data -/
def ValOp (K : PySem.W.Frag) (r : R2) (g : D → D → Option D) : Prop := ∀ O F t σ H x y d1 d2 d (Q : VK), Rep K O F t σ H → Dp K (frz F O H) x d1 → Dp K (frz F O H) y d2 → g d1 d2 = some d →
  (∀ v H', Same H H' → Dp K (frz F O H') v d → Q v H') → r x y H Q
theorem bin_run {K : PySem.W.Frag} {r : R2} {g : D → D → Option D} (hv : ValOp K r g) {f1 f2 : SE} {σ : L2.St} {H : Hp} {Q : VK} (q : tD K O (bin g f1 f2) σ H Q) : tOp r (tD K O f1) (tD K O f2) σ H Q := by
  obtain ⟨F, t, d, t', rp, e, q⟩ := q
  obtain ⟨⟨d1, t1⟩, z1, e⟩ := Option.bind_eq_some_iff.mp e
  obtain ⟨⟨d2, t2⟩, z2, e⟩ := Option.bind_eq_some_iff.mp e
  obtain ⟨d3, z3, e⟩ := Option.bind_eq_some_iff.mp e
  cases e
  refine ⟨F, t, d1, t1, rp, z1, fun x H1 r1 s1 p1 => ?_⟩
  refine ⟨F, t1, d2, t2, r1, z2, fun y H2 r2 s2 p2 => ?_⟩
  exact hv O F t2 σ H2 x y d1 d2 d Q r2 (p1.mono s2) p2 z3 fun v H' s3 p3 => q v H' (r2.mono s3) ((s1.trans s2).trans (frz_mono s3)) p3
theorem r_bop {op : Operator} {r : R2} {g : D → D → Option D} {a b : Expr} {f1 f2 : SE} {pos : Pos} (ho : OpR X (binaryOp op) r) (hv : ValOp X.K r g) (ha : RE X O a f1) (hb : RE X O b f2) : RE X O (.BinOp a op b pos) (bin g f1 f2) :=
  PE.imp (pe_op ho ha hb) fun _ _ _ q => bin_run hv q
theorem r_cop {op : CmpOp} {r : R2} {g : D → D → Option D} {a b : Expr} {f1 f2 : SE} {pos : Pos} (ho : OpR X (compareOp op) r) (hv : ValOp X.K r g) (ha : RE X O a f1) (hb : RE X O b f2) (hm : behindInMarks op b = false := by first | exact nomark _ | rfl) : RE X O (.Compare a [op] [b] pos) (bin g f1 f2) :=
  PE.imp (pe_cmpR ho ha hb hm) fun _ _ _ q => bin_run hv q
theorem r_ixop {r : R2} {g : D → D → Option D} {a b : Expr} {f1 f2 : SE} {pos : Pos} (ho : IxR X r) (hv : ValOp X.K r g) (ha : RE X O a f1) (hb : RE X O b f2) (hs : PlainIx b := by intro _ _; rfl) : RE X O (.Subscript a b pos) (bin g f1 f2) :=
  PE.imp (pe_ix ho ha hb hs) fun _ _ _ q => bin_run hv q
theorem ValOp.or {K : PySem.W.Frag} {r r' : R2} {g g' : D → D → Option D} (h : ValOp K r g) (h' : ValOp K r' g') : ValOp K (fun x y H Q => r x y H Q ∨ r' x y H Q) (fun a b => (g a b).or (g' a b)) := by
  intro O F t σ H x y d1 d2 d Q rp p1 p2 e q
  cases z : g d1 d2 with
  | none =>
    simp only [z, Option.none_or] at e
    exact .inr (h' O F t σ H x y d1 d2 d Q rp p1 p2 e q)
  | some w =>
    simp only [z, Option.some_or] at e
    cases e
    exact .inl (h O F t σ H x y d1 d2 d Q rp p1 p2 z q)
/-- int operations -/
def iop (C : Int → Int → Bool) (g : Int → Int → D) : D → D → Option D
  | .int i, .int j => if C i j = true then some (g i j) else none
  | _, _ => none
theorem v_int {K : PySem.W.Frag} {C : Int → Int → Prop} {C' : Int → Int → Bool} {g : Int → Int → V} {g' : Int → Int → D} (hC : ∀ i j, C' i j = true → C i j) (hg : ∀ i j, fv (g' i j) = some (g i j)) : ValOp K (rI C g) (iop C' g') := by
  intro O F t σ H x y d1 d2 d Q rp p1 p2 e q
  unfold iop at e
  split at e
  · rename_i i j
    split at e
    · rename_i hc
      cases e
      exact ⟨i, j, p1.int_inv, p2.int_inv, hC i j hc, q _ H (Same.refl _) (fv_dp (hg i j))⟩
    · cases e
  · cases e
theorem v_int0 {K : PySem.W.Frag} {g : Int → Int → V} {g' : Int → Int → D} (hg : ∀ i j, fv (g' i j) = some (g i j)) : ValOp K (rI0 g) (iop (fun _ _ => true) g') := by
  intro O F t σ H x y d1 d2 d Q rp p1 p2 e q
  unfold iop at e
  split at e
  · rename_i i j
    rw [if_pos rfl] at e
    cases e
    exact ⟨i, j, p1.int_inv, p2.int_inv, q _ H (Same.refl _) (fv_dp (hg i j))⟩
  · cases e

/-- products: what the machine takes -/
def mulOk (i j : Int) : Bool := decide (i.natAbs.log2 + j.natAbs.log2 < 134000000)
theorem mulOk_ok {i j : Int} (h : mulOk i j = true) : PySem.IntMulOk i j := by
  have b : ∀ x : Int, Builtin.Int.intBits x ≤ x.natAbs.log2 + 1 := fun x => by
    unfold Builtin.Int.intBits
    split <;> omega
  have h1 := b i
  have h2 := b j
  have h3 : i.natAbs.log2 + j.natAbs.log2 < 134000000 := of_decide_eq_true h
  have e : bitsLine = 134217728 := by decide
  unfold PySem.IntMulOk
  intro z
  rw [Bool.and_eq_true] at z
  have z2 := z.2
  unfold Builtin.Int.intTooBig at z2
  have z3 := of_decide_eq_true z2
  rw [e] at z3
  omega
theorem op_mulQ : OpR X (binaryOp .Mult) (rI (fun i j => mulOk i j = true) fun i j => .int (i * j)) := opI fun _ _ _ _ _ _ _ hc q => PyProof.Rows.mul_int q (mulOk_ok hc)
def divOk (i j : Int) : Bool := decide (j ≠ 0) && decide (j.natAbs.log2 < 9000)
theorem op_fdivQ : OpR X (binaryOp .FloorDiv) (rI (fun i j => divOk i j = true) fun i j => .int (i.fdiv j)) := opI fun i j _ _ _ _ _ hc q => by
  have hc' := Bool.and_eq_true_iff.mp hc
  exact PyProof.Rows.floordiv_int (of_decide_eq_true hc'.1) q (.inl (PyProof.noPylong_of_log2 (of_decide_eq_true hc'.2)))
/-- list + list, wherever they stand -/
def rCatQ (K : PySem.W.Frag) : R2 := fun x y H Q => ∃ l b xs zs, x = .ref l ∧ y = .ref b ∧ SqL K H l xs ∧ SqL K H b zs ∧ xs.length + zs.length ≤ sizeLine ∧ ∀ p, H p = none → Q (.ref p) (upd H p (.lst (xs ++ zs)))
theorem op_catQ : OpR X (binaryOp .Add) (rCatQ X.K) := by
  intro pins s σ H x y v u Q I rx ry h
  obtain ⟨l, b, xs, zs, rfl, rfl, hH, hB, hz, q⟩ := h
  cases rx
  cases ry
  obtain ⟨its, r, ⟨⟨oc, od, odt, osl⟩, n, e, h1, h2, h3⟩, z⟩ := I.list hH
  obtain ⟨its2, r2, ⟨⟨oc2, od2, odt2, osl2⟩, n2, e2, g1, g2, g3⟩, z2⟩ := I.list hB
  simp only at h1 h2 h3 g1 g2 g3
  subst h1 h2 h3 g1 g2 g3
  have hl := r.length
  have hl2 := r2.length
  have ea : its.toArray ++ its2.toArray = (its ++ its2).toArray := by simp
  refine PySem.concat_meets ⟨_, e, rfl⟩ ⟨_, e2, rfl⟩ noFill_list_add seq_list_add F.slot_list_add F.entry_list_add (F.args_list_add_2 _ _)
    (PyProof.Rows.list_addW l b its.toArray its2.toArray n n2 none none osl osl2 (by rw [List.size_toArray, List.size_toArray]; omega)) ⟨e, e2, ?_⟩
  rw [ea]
  exact ⟨.ref _, _, I.lnew (t' := s.toks) (r.append r2) (by rw [List.length_append]; omega), rfl, q _ I.fresh⟩
def catD : D → D → Option D
  | .list a, .list b => if a.length + b.length ≤ sizeLine then some (.list (a ++ b)) else none
  | _, _ => none
theorem v_cat {K : PySem.W.Frag} : ValOp K (rCatQ K) catD := by
  intro O F t σ H x y d1 d2 d Q rp p1 p2 e q
  unfold catD at e
  split at e
  · split at e
    · rename_i a b hl
      cases e
      obtain ⟨p, xs, rfl, h1, q1⟩ := p1.lst_inv
      obtain ⟨p', ys, rfl, h2, q2⟩ := p2.lst_inv
      refine ⟨p, p', xs, ys, rfl, rfl, frz_same.seq h1, frz_same.seq h2, by rw [q1.len, q2.len]; exact hl, fun r hr => ?_⟩
      have s2 : Same H (upd H r (.lst (xs ++ ys))) := PD.same_upd hr
      refine q _ _ s2 (.lst (xs := xs ++ ys) (.inl (.inl ?_)) ((q1.app q2).mono (frz_mono s2)))
      rw [frz_at (rp.fresh hr), upd_same]
    · cases e
  · cases e

theorem ValOp.congr {K : PySem.W.Frag} {r : R2} {g g' : D → D → Option D} (h : ValOp K r g) (e : ∀ a b, g' a b = g a b) : ValOp K r g' :=
  fun O F t σ H x y d1 d2 d Q rp p1 p2 z q => h O F t σ H x y d1 d2 d Q rp p1 p2 ((e d1 d2).symm.trans z) q
def sadd : D → D → Option D
  | .str a, .str b => if a.length + b.length ≤ sizeLine then some (.str (a ++ b)) else none
  | _, _ => none
theorem v_sadd {K : PySem.W.Frag} : ValOp K (fun x y H Q => ∃ i j, x = .str i ∧ y = .str j ∧ i.length + j.length ≤ sizeLine ∧ Q (.str (i ++ j)) H) sadd := by
  intro O F t σ H x y d1 d2 d Q rp p1 p2 e q
  unfold sadd at e
  split at e
  · split at e
    · rename_i a b hl
      cases e
      exact ⟨a, b, p1.str_inv, p2.str_inv, hl, q _ H (Same.refl _) (.str _)⟩
    · cases e
  · cases e
def tcat : D → D → Option D
  | .tuple a, .tuple b => if a.length + b.length ≤ sizeLine then some (.tuple (a ++ b)) else none
  | _, _ => none
theorem v_tcat {K : PySem.W.Frag} : ValOp K (rCatA K) tcat := by
  intro O F t σ H x y d1 d2 d Q rp p1 p2 e q
  unfold tcat at e
  split at e
  · split at e
    · rename_i a b hl
      cases e
      obtain ⟨p, xs, rfl, h1, q1⟩ := p1.tup_inv
      obtain ⟨p', ys, rfl, h2, q2⟩ := p2.tup_inv
      refine ⟨p, p', xs, ys, rfl, rfl, SqT.same frz_same h1, SqT.same frz_same h2, by rw [q1.len, q2.len]; exact hl, ?_⟩
      refine ⟨fun hx => ?_, fun hx hy => ?_, fun hx hy r hr => ?_⟩
      · subst hx
        cases q1
        exact q _ H (Same.refl _) (.tup h2 q2)
      · subst hy
        cases q2
        rw [List.append_nil] at q
        exact q _ H (Same.refl _) (.tup h1 q1)
      · have s2 : Same H (upd H r (.tup (xs ++ ys))) := PD.same_upd hr
        refine q _ _ s2 (.tup (xs := xs ++ ys) (.inl (.inl ?_)) ((q1.app q2).mono (frz_mono s2)))
        rw [frz_at (rp.fresh hr), upd_same]
    · cases e
  · cases e
def addD : D → D → Option D
  | .int i, .int j => some (.int (i + j))
  | .str a, .str b => if a.length + b.length ≤ sizeLine then some (.str (a ++ b)) else none
  | .list a, .list b => if a.length + b.length ≤ sizeLine then some (.list (a ++ b)) else none
  | .tuple a, .tuple b => if a.length + b.length ≤ sizeLine then some (.tuple (a ++ b)) else none
  | _, _ => none

theorem r_add {a b : Expr} {f1 f2 : SE} {pos : Pos} (ha : RE X O a f1) (hb : RE X O b f2) : RE X O (.BinOp a .Add b pos) (bin addD f1 f2) :=
  r_bop (op_add.or (op_add_str.or (op_catQ.or op_catA))) (((v_int0 (g' := fun i j => .int (i + j)) fun _ _ => rfl).or (v_sadd.or (v_cat.or v_tcat))).congr fun a b => by cases a <;> cases b <;> first | rfl | simp [addD, iop, sadd, catD, tcat]) ha hb
def subD : D → D → Option D | .int i, .int j => some (.int (i - j)) | _, _ => none
def mulD : D → D → Option D | .int i, .int j => if mulOk i j = true then some (.int (i * j)) else none | _, _ => none
def fdivD : D → D → Option D | .int i, .int j => if divOk i j = true then some (.int (i.fdiv j)) else none | _, _ => none
def modD : D → D → Option D | .int i, .int j => if (decide (j ≠ 0)) = true then some (.int (i.fmod j)) else none | _, _ => none
def powOk (i j : Int) : Bool := decide (0 ≤ j) && decide (j ≤ 1000000) && decide (i.natAbs < 2 ^ 64)
def powD : D → D → Option D | .int i, .int j => if powOk i j = true then some (.int (i ^ j.toNat)) else none | _, _ => none
def ltD : D → D → Option D | .int i, .int j => some (.bool (decide (i < j))) | _, _ => none
def leD : D → D → Option D | .int i, .int j => some (.bool (decide (i ≤ j))) | _, _ => none
def gtD : D → D → Option D | .int i, .int j => some (.bool (decide (j < i))) | _, _ => none
def geD : D → D → Option D | .int i, .int j => some (.bool (decide (j ≤ i))) | _, _ => none
section
variable {a b : Expr} {f1 f2 : SE} {pos : Pos}
theorem r_sub (ha : RE X O a f1) (hb : RE X O b f2) : RE X O (.BinOp a .Sub b pos) (bin subD f1 f2) :=
  r_bop op_sub ((v_int0 (g' := fun i j => .int (i - j)) fun _ _ => rfl).congr fun a b => by cases a <;> cases b <;> rfl) ha hb
theorem r_mul (ha : RE X O a f1) (hb : RE X O b f2) : RE X O (.BinOp a .Mult b pos) (bin mulD f1 f2) :=
  r_bop op_mulQ ((v_int (g' := fun i j => .int (i * j)) (fun _ _ h => h) fun _ _ => rfl).congr fun a b => by cases a <;> cases b <;> rfl) ha hb
theorem r_fdiv (ha : RE X O a f1) (hb : RE X O b f2) : RE X O (.BinOp a .FloorDiv b pos) (bin fdivD f1 f2) :=
  r_bop op_fdivQ ((v_int (g' := fun i j => .int (i.fdiv j)) (fun _ _ h => h) fun _ _ => rfl).congr fun a b => by cases a <;> cases b <;> rfl) ha hb
theorem r_mod (ha : RE X O a f1) (hb : RE X O b f2) : RE X O (.BinOp a .Mod b pos) (bin modD f1 f2) :=
  r_bop op_modN ((v_int (C' := fun _ j => decide (j ≠ 0)) (g' := fun i j => .int (i.fmod j)) (fun _ _ h => of_decide_eq_true h) fun _ _ => rfl).congr fun a b => by cases a <;> cases b <;> rfl) ha hb
theorem r_pow (ha : RE X O a f1) (hb : RE X O b f2) : RE X O (.BinOp a .Pow b pos) (bin powD f1 f2) :=
  r_bop op_pow ((v_int (C' := powOk) (g' := fun i j => .int (i ^ j.toNat)) (fun _ _ h => by
    have h1 := Bool.and_eq_true_iff.mp h
    have h2 := Bool.and_eq_true_iff.mp h1.1
    exact ⟨of_decide_eq_true h2.1, of_decide_eq_true h2.2, of_decide_eq_true h1.2⟩) fun _ _ => rfl).congr fun a b => by cases a <;> cases b <;> rfl) ha hb
theorem r_lt (ha : RE X O a f1) (hb : RE X O b f2) : RE X O (.Compare a [.Lt] [b] pos) (bin ltD f1 f2) :=
  r_cop op_lt ((v_int0 (g' := fun i j => .bool (decide (i < j))) fun _ _ => rfl).congr fun a b => by cases a <;> cases b <;> rfl) ha hb
theorem r_le (ha : RE X O a f1) (hb : RE X O b f2) : RE X O (.Compare a [.LtE] [b] pos) (bin leD f1 f2) :=
  r_cop op_le ((v_int0 (g' := fun i j => .bool (decide (i ≤ j))) fun _ _ => rfl).congr fun a b => by cases a <;> cases b <;> rfl) ha hb
theorem r_gt (ha : RE X O a f1) (hb : RE X O b f2) : RE X O (.Compare a [.Gt] [b] pos) (bin gtD f1 f2) :=
  r_cop op_gt ((v_int0 (g' := fun i j => .bool (decide (j < i))) fun _ _ => rfl).congr fun a b => by cases a <;> cases b <;> rfl) ha hb
theorem r_ge (ha : RE X O a f1) (hb : RE X O b f2) : RE X O (.Compare a [.GtE] [b] pos) (bin geD f1 f2) :=
  r_cop op_ge ((v_int0 (g' := fun i j => .bool (decide (j ≤ i))) fun _ _ => rfl).congr fun a b => by cases a <;> cases b <;> rfl) ha hb
/-- == and != of data -/
def eqD (a b : D) : Option D := if SeqAt.shaped a = true ∧ SeqAt.shaped b = true then some (.bool (PyData.eqv a b)) else none
def neD (a b : D) : Option D := if SeqAt.shaped a = true ∧ SeqAt.shaped b = true then some (.bool (!PyData.eqv a b)) else none
theorem v_eq {K : PySem.W.Frag} : ValOp K (rEqD K) eqD := by
  intro O F t σ H x y d1 d2 d Q rp p1 p2 e q
  unfold eqD at e
  split at e
  · rename_i h
    cases e
    exact ⟨d1, d2, p1.mono frz_same, p2.mono frz_same, h.1, h.2, q _ H (Same.refl _) (.bl _)⟩
  · cases e
theorem v_ne {K : PySem.W.Frag} : ValOp K (rNeD K) neD := by
  intro O F t σ H x y d1 d2 d Q rp p1 p2 e q
  unfold neD at e
  split at e
  · rename_i h
    cases e
    exact ⟨d1, d2, p1.mono frz_same, p2.mono frz_same, h.1, h.2, q _ H (Same.refl _) (.bl _)⟩
  · cases e
theorem r_eq {k : Nat} (hr : Room k X.A) (ha : RE X O a f1) (hb : RE X O b f2) : RE X O (.Compare a [.Eq] [b] pos) (bin eqD f1 f2) := r_cop (op_eqD hr.units) v_eq ha hb
theorem r_ne {k : Nat} (hr : Room k X.A) (ha : RE X O a f1) (hb : RE X O b f2) : RE X O (.Compare a [.NotEq] [b] pos) (bin neD f1 f2) := r_cop (op_neD hr.units) v_ne ha hb
/-- is None, is not None -/
def isN : D → D → Option D | .none, .none => some (.bool true) | _, .none => some (.bool false) | _, _ => none
def notN : D → D → Option D | .none, .none => some (.bool false) | _, .none => some (.bool true) | _, _ => none
theorem Dp.non_iff {K : PySem.W.Frag} {H : Hp} {v : V} {d : D} (h : Dp K H v d) : (v = .non ↔ d = .none) := by
  cases h <;> simp
theorem v_isN {K : PySem.W.Frag} : ValOp K (fun x y H Q => y = .non ∧ Q (.bl (decide (x = .non))) H) isN := by
  intro O F t σ H x y d1 d2 d Q rp p1 p2 e q
  have h1 := Dp.non_iff p1
  have h2 := Dp.non_iff p2
  cases d2 with
  | none =>
    refine ⟨h2.mpr rfl, ?_⟩
    have e2 : d = .bool (decide (x = .non)) := by
      cases d1 <;> cases e <;> simp_all
    subst e2
    exact q _ H (Same.refl _) (.bl _)
  | _ => cases d1 <;> cases e
theorem v_notN {K : PySem.W.Frag} : ValOp K (fun x y H Q => y = .non ∧ Q (.bl (!decide (x = .non))) H) notN := by
  intro O F t σ H x y d1 d2 d Q rp p1 p2 e q
  have h1 := Dp.non_iff p1
  have h2 := Dp.non_iff p2
  cases d2 with
  | none =>
    refine ⟨h2.mpr rfl, ?_⟩
    have e2 : d = .bool (!decide (x = .non)) := by
      cases d1 <;> cases e <;> simp_all
    subst e2
    exact q _ H (Same.refl _) (.bl _)
  | _ => cases d1 <;> cases e
theorem r_is (ha : RE X O a f1) (hb : RE X O b f2) : RE X O (.Compare a [.Is] [b] pos) (bin isN f1 f2) := r_cop op_isN v_isN ha hb
theorem r_isnot (ha : RE X O a f1) (hb : RE X O b f2) : RE X O (.Compare a [.IsNot] [b] pos) (bin notN f1 f2) := r_cop op_notN v_notN ha hb
/-- x in list -/
def inD : D → D → Option D
  | d, .list ds => if SeqAt.shaped d = true ∧ SeqAt.shaped (.list ds) = true then some (.bool (ds.any fun z => PyData.eqv z d)) else none
  | _, _ => none
def notinD : D → D → Option D
  | d, .list ds => if SeqAt.shaped d = true ∧ SeqAt.shaped (.list ds) = true then some (.bool (!ds.any fun z => PyData.eqv z d)) else none
  | _, _ => none
theorem v_in {K : PySem.W.Frag} : ValOp K (rInD K) inD := by
  intro O F t σ H x y d1 d2 d Q rp p1 p2 e q
  unfold inD at e
  split at e
  · split at e
    · rename_i h
      cases e
      exact ⟨_, _, p1.mono frz_same, p2.mono frz_same, h.1, h.2, q _ H (Same.refl _) (.bl _)⟩
    · cases e
  · cases e
theorem v_notin {K : PySem.W.Frag} : ValOp K (rNotInD K) notinD := by
  intro O F t σ H x y d1 d2 d Q rp p1 p2 e q
  unfold notinD at e
  split at e
  · split at e
    · rename_i h
      cases e
      exact ⟨_, _, p1.mono frz_same, p2.mono frz_same, h.1, h.2, q _ H (Same.refl _) (.bl _)⟩
    · cases e
  · cases e
/-- an item -/
def ixD : D → D → Option D
  | .list ds, .int i => atI ds i
  | .tuple ds, .int i => atI ds i
  | .str z, .int i => if z.length ≤ sizeLine then (atI z.cps.toList i).map fun c => .str ⟨#[c]⟩ else none
  | _, _ => none
theorem atI_dp {K : PySem.W.Frag} {H : Hp} {vs : List V} {ds : List D} {i : Int} {d : D} (h : DpAll K H vs ds) (e : atI ds i = some d) : ∃ v, atI vs i = some v ∧ Dp K H v d := by
  unfold atI at e ⊢
  rw [h.len]
  cases z : ixN ds.length i with
  | none => rw [z] at e; cases e
  | some j =>
    rw [z] at e
    exact h.get e
theorem v_ix {K : PySem.W.Frag} : ValOp K (rIx K) ixD := by
  intro O F t σ H x y d1 d2 d Q rp p1 p2 e q
  unfold ixD at e
  split at e
  · obtain ⟨p, xs, rfl, h1, q1⟩ := p1.lst_inv
    obtain ⟨v, h2, h3⟩ := atI_dp q1 e
    exact .inl ⟨p, xs, _, v, rfl, p2.int_inv, frz_same.seq h1, h2, q v H (Same.refl _) h3⟩
  · obtain ⟨p, xs, rfl, h1, q1⟩ := p1.tup_inv
    obtain ⟨v, h2, h3⟩ := atI_dp q1 e
    exact .inr (.inl ⟨p, xs, _, v, rfl, p2.int_inv, SqT.same frz_same h1, h2, q v H (Same.refl _) h3⟩)
  · split at e
    · rename_i hz
      obtain ⟨c, h2, e⟩ := Option.map_eq_some_iff.mp e
      subst e
      exact .inr (.inr ⟨_, _, c, p1.str_inv, p2.int_inv, hz, h2, q _ H (Same.refl _) (.str _)⟩)
    · cases e
  · cases e
theorem r_ix (ha : RE X O a f1) (hb : RE X O b f2) (hs : PlainIx b := by intro _ _; rfl) : RE X O (.Subscript a b pos) (bin ixD f1 f2) := r_ixop ix_seq v_ix ha hb hs
end
/-! ### one operand -/
def un (g : D → Option D) (f : SE) : SE := fun t => (f t).bind fun r => (g r.1).bind fun d => some (d, r.2)
def ValUn (K : PySem.W.Frag) (r : V → Hp → VK → Prop) (g : D → Option D) : Prop := ∀ O F t σ H x d1 d (Q : VK), Rep K O F t σ H → Dp K (frz F O H) x d1 → g d1 = some d →
  (∀ v H', Same H H' → Dp K (frz F O H') v d → Q v H') → r x H Q
theorem un_run {K : PySem.W.Frag} {r : V → Hp → VK → Prop} {g : D → Option D} (hv : ValUn K r g) {f1 : SE} {σ : L2.St} {H : Hp} {Q : VK} (q : tD K O (un g f1) σ H Q) : tUn r (tD K O f1) σ H Q := by
  obtain ⟨F, t, d, t', rp, e, q⟩ := q
  obtain ⟨⟨d1, t1⟩, z1, e⟩ := Option.bind_eq_some_iff.mp e
  obtain ⟨d3, z3, e⟩ := Option.bind_eq_some_iff.mp e
  cases e
  refine ⟨F, t, d1, t1, rp, z1, fun x H1 r1 s1 p1 => ?_⟩
  exact hv O F t1 σ H1 x d1 d Q r1 p1 z3 fun v H' s3 p3 => q v H' (r1.mono s3) (s1.trans (frz_mono s3)) p3
def negD : D → Option D | .int i => some (.int (-i)) | _ => none
theorem r_neg {a : Expr} {f : SE} {pos : Pos} (ha : RE X O a f) : RE X O (.UnaryOp .USub a pos) (un negD f) :=
  PE.imp (pe_un un_neg ha) fun _ _ _ q => un_run (fun O F t σ H x d1 d Q rp p e q => by
    cases d1 <;> cases e
    exact ⟨_, p.int_inv, q _ H (Same.refl _) (.int _)⟩) q
def notD : D → Option D | .bool b => some (.bool (!b)) | _ => none
theorem r_not {a : Expr} {f : SE} {pos : Pos} (ha : RE X O a f) : RE X O (.UnaryOp .Not a pos) (un notD f) :=
  PE.imp (pe_not ha) fun _ _ _ q => un_run (r := fun x H Q => ∃ c, x = .bl c ∧ Q (.bl (!c)) H) (fun O F t σ H x d1 d Q rp p e q => by
    cases d1 <;> cases e
    exact ⟨_, p.bl_inv, q _ H (Same.refl _) (.bl _)⟩) q

/-! ### tests -/
abbrev SB := DSt → Option (Bool × DSt)
noncomputable def tDT (K : PySem.W.Frag) (O : List Nat) (f : SB) : TT := fun σ H Q => ∃ F t b t', Rep K O F t σ H ∧ f t = some (b, t') ∧
  ∀ H', Rep K O F t' σ H' → Same (frz F O H) (frz F O H') → Q b H'
abbrev RT (X : Cx) (O : List Nat) (e : Expr) (f : SB) : Prop := PT X e (tDT X.K O f)
def truD : D → Option Bool
  | .none => some false
  | .bool b => some b
  | .int i => some (i != 0)
  | .str y => if y.length ≤ sizeLine then some ((y.length : Int) != 0) else none
  | .list ds => some (!ds.isEmpty)
  | .tuple ds => some (!ds.isEmpty)
  | .dict _ => none
def tru (f : SE) : SB := fun t => (f t).bind fun r => (truD r.1).bind fun b => some (b, r.2)
theorem DpAll.isE {K : PySem.W.Frag} {H : Hp} {v : List V} {d : List D} (h : DpAll K H v d) : d.isEmpty = v.isEmpty := by cases h <;> rfl
theorem truV_of {K : PySem.W.Frag} {G H : Hp} {v : V} {d : D} {b : Bool} (s : Same G H) (p : Dp K G v d) (e : truD d = some b) : TruV K v H b := by
  cases p with
  | non => cases e; exact rfl
  | bl b => cases e; exact rfl
  | int b => cases e; exact rfl
  | str b =>
    unfold truD at e
    dsimp only at e
    split at e
    · rename_i h; cases e; exact ⟨h, rfl⟩
    · cases e
  | lst h a => cases e; exact .inl ⟨_, s.seq h, by rw [DpAll.isE a]⟩
  | tup h a => cases e; exact .inr (.inl ⟨_, SqT.same s h, by rw [DpAll.isE a]⟩)
theorem rt_val {a : Expr} {f : SE} (ha : RE X O a f) (he : ∀ whole, isTrue a X.env whole = (do let v ← whole; standAt a.pos; holding [v] (truthy v)) := by intro _; rfl) : RT X O a (tru f) := by
  refine PT.imp (pt_truth ha he) fun σ H Q q => ?_
  obtain ⟨F, t, d, t', rp, e, q⟩ := q
  obtain ⟨⟨d1, t1⟩, z1, e⟩ := Option.bind_eq_some_iff.mp e
  obtain ⟨d3, z3, e⟩ := Option.bind_eq_some_iff.mp e
  cases e
  exact ⟨F, t, d1, t1, rp, z1, fun x H1 r1 s1 p1 => ⟨d, truV_of frz_same p1 z3, q H1 r1 s1⟩⟩
/-- a comparison's test -/
theorem rt_cop {op : CmpOp} {r : R2} {g : D → D → Option D} {a b : Expr} {f1 f2 : SE} {pos : Pos} (ho : OpR X (compareOp op) r) (hv : ValOp X.K r g) (ha : RE X O a f1) (hb : RE X O b f2) (hg : ∀ a b d, g a b = some d → ∃ k, d = .bool k) (hm : behindInMarks op b = false := by first | exact nomark _ | rfl) :
    RT X O (.Compare a [op] [b] pos) (tru (bin g f1 f2)) := by
  refine PT.imp (pt_cmpR ho ha hb hm) fun σ H Q q => ?_
  obtain ⟨F, t, d, t', rp, e, q⟩ := q
  obtain ⟨⟨d1, t1⟩, z1, e⟩ := Option.bind_eq_some_iff.mp e
  obtain ⟨d3, z3, e⟩ := Option.bind_eq_some_iff.mp e
  cases e
  refine bin_run hv ⟨F, t, d1, t1, rp, z1, fun x H1 r1 s1 p1 => ?_⟩
  have z1' := z1
  obtain ⟨⟨y1, y2⟩, w1, z1'⟩ := Option.bind_eq_some_iff.mp z1'
  obtain ⟨⟨y3, y4⟩, w2, z1'⟩ := Option.bind_eq_some_iff.mp z1'
  obtain ⟨y5, w3, z1'⟩ := Option.bind_eq_some_iff.mp z1'
  cases z1'
  obtain ⟨k, rfl⟩ := hg _ _ _ w3
  cases z3
  exact ⟨d, p1.bl_inv, q H1 r1 s1⟩
def tand (f g : SB) : SB := fun t => (f t).bind fun r => match r.1 with | true => g r.2 | false => some (false, r.2)
def tor (f g : SB) : SB := fun t => (f t).bind fun r => match r.1 with | true => some (true, r.2) | false => g r.2
def tnot (f : SB) : SB := fun t => (f t).bind fun r => some (!r.1, r.2)
abbrev RW (X : Cx) (O : List Nat) (e : Expr) (f : SB) : Prop := PW X e (tDT X.K O f)
theorem PW.imp {X : Cx} {e : Expr} {t t' : TT} (h : PW X e t) (i : ∀ σ H Q, t' σ H Q → t σ H Q) : PW X e t' := ⟨fun wh pins s σ H Q I q => h.run wh pins s σ H Q I (i _ _ _ q)⟩
theorem rw_and1 {a : Expr} {f : SB} {pos : Pos} (h : RT X O a f) : RW X O (.BoolOp .And [a] pos) f := pw_and1 h
theorem rw_or1 {a : Expr} {f : SB} {pos : Pos} (h : RT X O a f) : RW X O (.BoolOp .Or [a] pos) f := pw_or1 h
theorem rw_and {a b : Expr} {rest : List Expr} {f g : SB} {pos : Pos} (ha : RT X O a f) (hb : RW X O (.BoolOp .And (b :: rest) pos) g) : RW X O (.BoolOp .And (a :: b :: rest) pos) (tand f g) := by
  refine PW.imp (pw_and ha hb) fun σ H Q q => ?_
  obtain ⟨F, t, d, t', rp, e, q⟩ := q
  obtain ⟨⟨d1, t1⟩, z1, e⟩ := Option.bind_eq_some_iff.mp e
  refine ⟨F, t, d1, t1, rp, z1, fun H1 r1 s1 => ?_⟩
  cases d1 with
  | true => exact iteT ⟨F, t1, d, t', r1, e, fun H2 r2 s2 => q H2 r2 (s1.trans s2)⟩
  | false => cases e; exact iteF (q H1 r1 s1)
theorem rw_or {a b : Expr} {rest : List Expr} {f g : SB} {pos : Pos} (ha : RT X O a f) (hb : RW X O (.BoolOp .Or (b :: rest) pos) g) : RW X O (.BoolOp .Or (a :: b :: rest) pos) (tor f g) := by
  refine PW.imp (pw_or ha hb) fun σ H Q q => ?_
  obtain ⟨F, t, d, t', rp, e, q⟩ := q
  obtain ⟨⟨d1, t1⟩, z1, e⟩ := Option.bind_eq_some_iff.mp e
  refine ⟨F, t, d1, t1, rp, z1, fun H1 r1 s1 => ?_⟩
  cases d1 with
  | false => exact iteF ⟨F, t1, d, t', r1, e, fun H2 r2 s2 => q H2 r2 (s1.trans s2)⟩
  | true => cases e; exact iteT (q H1 r1 s1)
theorem rt_w {a : Expr} {f : SB} (h : RW X O a f) : RT X O a f := h.pt
theorem rt_not {a : Expr} {f : SB} {pos : Pos} (h : RT X O a f) : RT X O (.UnaryOp .Not a pos) (tnot f) := by
  refine PT.imp (pt_not h) fun σ H Q q => ?_
  obtain ⟨F, t, d, t', rp, e, q⟩ := q
  obtain ⟨⟨d1, t1⟩, z1, e⟩ := Option.bind_eq_some_iff.mp e
  cases e
  exact ⟨F, t, d1, t1, rp, z1, fun H1 r1 s1 => q H1 r1 s1⟩
/-- a if t else b -/
def sIf (c : SB) (f g : SE) : SE := fun t => (c t).bind fun r => match r.1 with | true => f r.2 | false => g r.2
theorem r_ifexp {c a b : Expr} {fc : SB} {f g : SE} {pos : Pos} (hc : RT X O c fc) (ha : RE X O a f) (hb : RE X O b g) : RE X O (.IfExp c a b pos) (sIf fc f g) := by
  refine PE.imp (pe_ifExp hc ha hb) fun σ H Q q => ?_
  obtain ⟨F, t, d, t', rp, e, q⟩ := q
  obtain ⟨⟨d1, t1⟩, z1, e⟩ := Option.bind_eq_some_iff.mp e
  refine ⟨F, t, d1, t1, rp, z1, fun H1 r1 s1 => ?_⟩
  cases d1 with
  | true => exact iteT ⟨F, t1, d, t', r1, e, fun v H2 r2 s2 p2 => q v H2 r2 (s1.trans s2) p2⟩
  | false => exact iteF ⟨F, t1, d, t', r1, e, fun v H2 r2 s2 p2 => q v H2 r2 (s1.trans s2) p2⟩
/-- and, or as values (bools) -/
def vand (f g : SE) : SE := fun t => (f t).bind fun r => match r.1 with | .bool true => g r.2 | .bool false => some (.bool false, r.2) | _ => none
def vor (f g : SE) : SE := fun t => (f t).bind fun r => match r.1 with | .bool true => some (.bool true, r.2) | .bool false => g r.2 | _ => none
theorem r_one {op} {a : Expr} {f : SE} {pos : Pos} (h : RE X O a f) : RE X O (.BoolOp op [a] pos) f := pe_one h
theorem r_and {a b : Expr} {rest : List Expr} {f g : SE} {pos : Pos} (ha : RE X O a f) (hb : RE X O (.BoolOp .And (b :: rest) pos) g) : RE X O (.BoolOp .And (a :: b :: rest) pos) (vand f g) := by
  refine PE.imp (pe_and ha hb) fun σ H Q q => ?_
  obtain ⟨F, t, d, t', rp, e, q⟩ := q
  obtain ⟨⟨d1, t1⟩, z1, e⟩ := Option.bind_eq_some_iff.mp e
  refine ⟨F, t, d1, t1, rp, z1, fun v H1 r1 s1 p1 => ?_⟩
  cases d1 with
  | bool k =>
    refine ⟨k, p1.bl_inv, ?_⟩
    cases k with
    | true => exact iteT ⟨F, t1, d, t', r1, e, fun v H2 r2 s2 p2 => q v H2 r2 (s1.trans s2) p2⟩
    | false => cases e; exact iteF (q _ H1 r1 s1 (.bl _))
  | _ => cases e
theorem r_or {a b : Expr} {rest : List Expr} {f g : SE} {pos : Pos} (ha : RE X O a f) (hb : RE X O (.BoolOp .Or (b :: rest) pos) g) : RE X O (.BoolOp .Or (a :: b :: rest) pos) (vor f g) := by
  refine PE.imp (pe_or ha hb) fun σ H Q q => ?_
  obtain ⟨F, t, d, t', rp, e, q⟩ := q
  obtain ⟨⟨d1, t1⟩, z1, e⟩ := Option.bind_eq_some_iff.mp e
  refine ⟨F, t, d1, t1, rp, z1, fun v H1 r1 s1 p1 => ?_⟩
  cases d1 with
  | bool k =>
    refine ⟨k, p1.bl_inv, ?_⟩
    cases k with
    | false => exact iteF ⟨F, t1, d, t', r1, e, fun v H2 r2 s2 p2 => q v H2 r2 (s1.trans s2) p2⟩
    | true => cases e; exact iteT (q _ H1 r1 s1 (.bl _))
  | _ => cases e
end
end PD

namespace PD
open PySem L2
section
variable {X : Cx} {O : List Nat}
/-! ### calls of built-ins -/
def callD (g : List D → Option D) (fs : SA) : SE := fun t => (fs t).bind fun r => (g r.1).bind fun d => some (d, r.2)
def ValCall (K : PySem.W.Frag) (r : List V → Hp → VK → Prop) (g : List D → Option D) : Prop := ∀ O F t σ H vs ds d (Q : VK), Rep K O F t σ H → DpAll K (frz F O H) vs ds → g ds = some d →
  (∀ v H', Same H H' → Dp K (frz F O H') v d → Q v H') → r vs H Q
/-- .. that give a new list -/
def FreshCall (K : PySem.W.Frag) (r : List V → Hp → VK → Prop) (g : List D → Option D) : Prop := ∀ O F t σ H vs ds es (Q : VK), Rep K O F t σ H → DpAll K (frz F O H) vs ds → g ds = some (.list es) →
  (∀ p us, H p = none → DpAll K (frz F O H) us es → Q (.ref p) (upd H p (.lst us))) → r vs H Q
theorem call_run {K : PySem.W.Frag} {r : List V → Hp → VK → Prop} {g : List D → Option D} (hv : ValCall K r g) {fs : SA} {σ : L2.St} {H : Hp} {Q : VK} (q : tD K O (callD g fs) σ H Q) : tCB r (tDA K O fs) σ H Q := by
  obtain ⟨F, t, d, t', rp, e, q⟩ := q
  obtain ⟨⟨d1, t1⟩, z1, e⟩ := Option.bind_eq_some_iff.mp e
  obtain ⟨d3, z3, e⟩ := Option.bind_eq_some_iff.mp e
  cases e
  refine ⟨F, t, d1, t1, rp, z1, fun x H1 r1 s1 p1 => ?_⟩
  exact hv O F t1 σ H1 x d1 d Q r1 p1 z3 fun v H' s3 p3 => q v H' (r1.mono s3) (s1.trans (frz_mono s3)) p3
theorem callF_run {K : PySem.W.Frag} {r : List V → Hp → VK → Prop} {g : List D → Option D} (hv : FreshCall K r g) {fs : SA} {σ : L2.St} {H : Hp} {Q : VK} (q : tF K O (callD g fs) σ H Q) : tCB r (tDA K O fs) σ H Q := by
  obtain ⟨F, t, d, t', rp, e, q⟩ := q
  obtain ⟨⟨d1, t1⟩, z1, e⟩ := Option.bind_eq_some_iff.mp e
  obtain ⟨d3, z3, e⟩ := Option.bind_eq_some_iff.mp e
  cases e
  refine ⟨F, t, d1, t1, rp, z1, fun x H1 r1 s1 p1 => ?_⟩
  exact hv O F t1 σ H1 x d1 d Q r1 p1 z3 fun p us hp hu => q p us _ (by rw [del_upd hp]; exact r1) (by rw [del_upd hp]; exact s1) upd_same (by rw [del_upd hp]; exact hu)
theorem FreshCall.val {K : PySem.W.Frag} {r : List V → Hp → VK → Prop} {g : List D → Option D} (h : FreshCall K r g) (hl : ∀ ds d, g ds = some d → ∃ es, d = .list es) : ValCall K r g := by
  intro O F t σ H vs ds d Q rp p e q
  obtain ⟨es, rfl⟩ := hl _ _ e
  refine h O F t σ H vs ds es Q rp p e fun a us ha hu => ?_
  have s2 : Same H (upd H a (.lst us)) := PD.same_upd ha
  refine q _ _ s2 (.lst (xs := us) (.inl (.inl ?_)) (hu.mono (frz_mono s2)))
  rw [frz_at (rp.fresh ha), upd_same]
section
variable {id T : String} {r : List V → Hp → VK → Prop} {g : List D → Option D} {x : Str} {e : Expr} {es : List Expr} {fs : SA} {p pos : Pos}
theorem r_callB (hc : CallR X (.builtin id) r) (hv : ValCall X.K r g) (hm : X.mg x = none) (ha : RA X O (e :: es) fs) (hg : Gl X x := by rfl) (hb : bootBuiltins x = some (.builtin id) := by decide +kernel) (hn : x ≠ "__name__" := by decide) (hdb : (x == ("__debug__" : Str)) = false := by decide)
    (he : starEach (e :: es) X.env = (false, eval e X.env) :: starEach es X.env := by rfl) (hpl : (backTo pos (starEach es X.env)).any (·.1) = false := by rfl) : RE X O (.Call (.Name x p) (e :: es) [] pos) (callD g fs) :=
  PE.imp (pe_callB hc hg hm hb ha hn hdb he hpl) fun _ _ _ q => call_run hv q
theorem r_callTy (hc : CallR X (.type T) r) (hv : ValCall X.K r g) (hm : X.mg x = none) (ha : RA X O (e :: es) fs) (hg : Gl X x := by rfl) (hb : bootBuiltins x = some (.type T) := by decide +kernel) (hn : x ≠ "__name__" := by decide) (hdb : (x == ("__debug__" : Str)) = false := by decide)
    (he : starEach (e :: es) X.env = (false, eval e X.env) :: starEach es X.env := by rfl) (hpl : (backTo pos (starEach es X.env)).any (·.1) = false := by rfl) : RE X O (.Call (.Name x p) (e :: es) [] pos) (callD g fs) :=
  PE.imp (pe_callTy hc hg hm hb ha hn hdb he hpl) fun _ _ _ q => call_run hv q
theorem rf_callB (hc : CallR X (.builtin id) r) (hv : FreshCall X.K r g) (hm : X.mg x = none) (ha : RA X O (e :: es) fs) (hg : Gl X x := by rfl) (hb : bootBuiltins x = some (.builtin id) := by decide +kernel) (hn : x ≠ "__name__" := by decide) (hdb : (x == ("__debug__" : Str)) = false := by decide)
    (he : starEach (e :: es) X.env = (false, eval e X.env) :: starEach es X.env := by rfl) (hpl : (backTo pos (starEach es X.env)).any (·.1) = false := by rfl) : RF X O (.Call (.Name x p) (e :: es) [] pos) (callD g fs) :=
  PE.imp (pe_callB hc hg hm hb ha hn hdb he hpl) fun _ _ _ q => callF_run hv q
theorem rf_callTy (hc : CallR X (.type T) r) (hv : FreshCall X.K r g) (hm : X.mg x = none) (ha : RA X O (e :: es) fs) (hg : Gl X x := by rfl) (hb : bootBuiltins x = some (.type T) := by decide +kernel) (hn : x ≠ "__name__" := by decide) (hdb : (x == ("__debug__" : Str)) = false := by decide)
    (he : starEach (e :: es) X.env = (false, eval e X.env) :: starEach es X.env := by rfl) (hpl : (backTo pos (starEach es X.env)).any (·.1) = false := by rfl) : RF X O (.Call (.Name x p) (e :: es) [] pos) (callD g fs) :=
  PE.imp (pe_callTy hc hg hm hb ha hn hdb he hpl) fun _ _ _ q => callF_run hv q
end
theorem DpAll.one {K : PySem.W.Frag} {H : Hp} {vs : List V} {d : D} (h : DpAll K H vs [d]) : ∃ v, vs = [v] ∧ Dp K H v d := by
  cases h with
  | cons h a => cases a; exact ⟨_, rfl, h⟩
theorem DpAll.two {K : PySem.W.Frag} {H : Hp} {vs : List V} {d d' : D} (h : DpAll K H vs [d, d']) : ∃ v w, vs = [v, w] ∧ Dp K H v d ∧ Dp K H w d' := by
  cases h with
  | cons h a => cases a with | cons h' a => cases a; exact ⟨_, _, rfl, h, h'⟩
theorem DpAll.ints {K : PySem.W.Frag} {H : Hp} : ∀ {vs : List V} {ns : List Int}, DpAll K H vs (ns.map .int) → vs = ns.map V.int
  | _, [], .nil => rfl
  | _, _ :: _, .cons h a => by rw [h.int_inv, DpAll.ints a]; rfl
theorem DpAll.bools {K : PySem.W.Frag} {H : Hp} : ∀ {vs : List V} {ns : List Bool}, DpAll K H vs (ns.map .bool) → vs = ns.map V.bl
  | _, [], .nil => rfl
  | _, _ :: _, .cons h a => by rw [h.bl_inv, DpAll.bools a]; rfl

def lenD : List D → Option D
  | [.list ds] => some (.int ds.length)
  | [.tuple ds] => some (.int ds.length)
  | [.str z] => if z.length ≤ sizeLine then some (.int z.length) else none
  | _ => none
theorem v_len {K : PySem.W.Frag} : ValCall K (fun xs H Q => ∃ x n, xs = [x] ∧ LenV K x H n ∧ Q (.int n) H) lenD := by
  intro O F t σ H vs ds d Q rp p e q
  unfold lenD at e
  split at e
  · cases e
    obtain ⟨v, rfl, w0⟩ := DpAll.one p
    obtain ⟨a, xs, rfl, h1, q1⟩ := w0.lst_inv
    exact ⟨_, _, rfl, .inl ⟨xs, frz_same.seq h1, q1.len.symm⟩, q _ H (Same.refl _) (.int _)⟩
  · cases e
    obtain ⟨v, rfl, w0⟩ := DpAll.one p
    obtain ⟨a, xs, rfl, h1, q1⟩ := w0.tup_inv
    exact ⟨_, _, rfl, .inr ⟨xs, SqT.same frz_same h1, q1.len.symm⟩, q _ H (Same.refl _) (.int _)⟩
  · split at e
    · rename_i hz
      cases e
      obtain ⟨v, rfl, w0⟩ := DpAll.one p
      have := w0.str_inv
      subst this
      exact ⟨_, _, rfl, ⟨hz, rfl⟩, q _ H (Same.refl _) (.int _)⟩
    · cases e
  · cases e
section
variable {a b : Expr} {es : List Expr} {f : SE} {fs : SA} {p pos : Pos}
theorem r_len (hm : X.mg "len" = none) (ha : RA X O (a :: es) fs) (hg : Gl X "len" := by rfl) (he : starEach (a :: es) X.env = (false, eval a X.env) :: starEach es X.env := by rfl) (hpl : (backTo pos (starEach es X.env)).any (·.1) = false := by rfl) : RE X O (.Call (.Name "len" p) (a :: es) [] pos) (callD lenD fs) :=
  r_callB call_len v_len hm ha hg (hb := PySem.boot_len) (he := he) (hpl := hpl)
def absD : List D → Option D | [.int i] => some (.int (if i < 0 then -i else i)) | _ => none
theorem r_abs (hm : X.mg "abs" = none) (ha : RA X O (a :: es) fs) (hg : Gl X "abs" := by rfl) (he : starEach (a :: es) X.env = (false, eval a X.env) :: starEach es X.env := by rfl) (hpl : (backTo pos (starEach es X.env)).any (·.1) = false := by rfl) : RE X O (.Call (.Name "abs" p) (a :: es) [] pos) (callD absD fs) :=
  r_callB (g := absD) call_abs (fun O F t σ H vs ds d Q rp p e q => by
    unfold absD at e
    split at e
    · cases e
      obtain ⟨v, rfl, w0⟩ := DpAll.one p
      exact ⟨_, by rw [w0.int_inv], q _ H (Same.refl _) (.int _)⟩
    · cases e) hm ha hg (hb := by decide +kernel) (he := he) (hpl := hpl)
def intD : List D → Option D | [.int i] => some (.int i) | [.bool b] => some (.int (if b then 1 else 0)) | _ => none
theorem r_intc (hm : X.mg "int" = none) (ha : RA X O (a :: es) fs) (hg : Gl X "int" := by rfl) (he : starEach (a :: es) X.env = (false, eval a X.env) :: starEach es X.env := by rfl) (hpl : (backTo pos (starEach es X.env)).any (·.1) = false := by rfl) : RE X O (.Call (.Name "int" p) (a :: es) [] pos) (callD intD fs) :=
  r_callTy (g := intD) call_int1 (fun O F t σ H vs ds d Q rp p e q => by
    unfold intD at e
    split at e
    · cases e
      obtain ⟨v, rfl, w0⟩ := DpAll.one p
      exact .inl ⟨_, by rw [w0.int_inv], q _ H (Same.refl _) (.int _)⟩
    · cases e
      obtain ⟨v, rfl, w0⟩ := DpAll.one p
      exact .inr ⟨_, by rw [w0.bl_inv], q _ H (Same.refl _) (.int _)⟩
    · cases e) hm ha hg (hb := by decide +kernel) (he := he) (hpl := hpl)
def max2 : List D → Option D | [.int i, .int j] => some (.int (if j > i then j else i)) | _ => none
def min2 : List D → Option D | [.int i, .int j] => some (.int (if j < i then j else i)) | _ => none
theorem r_max2 (hm : X.mg "max" = none) (hc : X.calm = true) (ha : RA X O (a :: es) fs) (hg : Gl X "max" := by rfl) (he : starEach (a :: es) X.env = (false, eval a X.env) :: starEach es X.env := by rfl) (hpl : (backTo pos (starEach es X.env)).any (·.1) = false := by rfl) : RE X O (.Call (.Name "max" p) (a :: es) [] pos) (callD max2 fs) :=
  r_callB (g := max2) (call_max2 hc) (fun O F t σ H vs ds d Q rp p e q => by
    unfold max2 at e
    split at e
    · cases e
      obtain ⟨v, w, rfl, p1, p2⟩ := DpAll.two p
      exact ⟨_, _, by rw [p1.int_inv, p2.int_inv], q _ H (Same.refl _) (.int _)⟩
    · cases e) hm ha hg (hb := by decide +kernel) (he := he) (hpl := hpl)
theorem r_min2 (hm : X.mg "min" = none) (hc : X.calm = true) (ha : RA X O (a :: es) fs) (hg : Gl X "min" := by rfl) (he : starEach (a :: es) X.env = (false, eval a X.env) :: starEach es X.env := by rfl) (hpl : (backTo pos (starEach es X.env)).any (·.1) = false := by rfl) : RE X O (.Call (.Name "min" p) (a :: es) [] pos) (callD min2 fs) :=
  r_callB (g := min2) (call_min2 hc) (fun O F t σ H vs ds d Q rp p e q => by
    unfold min2 at e
    split at e
    · cases e
      obtain ⟨v, w, rfl, p1, p2⟩ := DpAll.two p
      exact ⟨_, _, by rw [p1.int_inv, p2.int_inv], q _ H (Same.refl _) (.int _)⟩
    · cases e) hm ha hg (hb := by decide +kernel) (he := he) (hpl := hpl)
def divmodD : List D → Option D | [.int i, .int j] => if (decide (0 < j) && decide (j < 1073741824)) = true then some (.tuple [.int (i / j), .int (i % j)]) else none | _ => none
theorem r_divmod (hm : X.mg "divmod" = none) (ha : RA X O (a :: es) fs) (hg : Gl X "divmod" := by rfl) (he : starEach (a :: es) X.env = (false, eval a X.env) :: starEach es X.env := by rfl) (hpl : (backTo pos (starEach es X.env)).any (·.1) = false := by rfl) : RE X O (.Call (.Name "divmod" p) (a :: es) [] pos) (callD divmodD fs) :=
  r_callB (g := divmodD) call_divmod (fun O F t σ H vs ds d Q rp p e q => by
    unfold divmodD at e
    split at e
    · split at e
      · rename_i hc
        have hc' := Bool.and_eq_true_iff.mp hc
        cases e
        obtain ⟨v, w, rfl, p1, p2⟩ := DpAll.two p
        refine ⟨_, _, by rw [p1.int_inv, p2.int_inv], ⟨of_decide_eq_true hc'.1, of_decide_eq_true hc'.2⟩, fun a ha => ?_⟩
        refine q _ _ (PD.same_upd ha) (.tup (.inl (.inl ?_)) (.cons (.int _) (.cons (.int _) .nil)))
        rw [frz_at (rp.fresh ha), upd_same]
      · cases e
    · cases e) hm ha hg (hb := by decide +kernel) (he := he) (hpl := hpl)
/-- all, any of a list of bools; sum of a list of ints -/
def boolsD : List D → Option (List Bool) | [] => some [] | .bool b :: r => (boolsD r).map (b :: ·) | _ => none
def intsD : List D → Option (List Int) | [] => some [] | .int b :: r => (intsD r).map (b :: ·) | _ => none
theorem boolsD_eq : ∀ {ds : List D} {bs : List Bool}, boolsD ds = some bs → ds = bs.map .bool
  | [], _, e => by cases e; rfl
  | .bool b :: r, _, e => by
    obtain ⟨y, h1, h2⟩ := Option.map_eq_some_iff.mp (show (boolsD r).map (b :: ·) = _ from e)
    subst h2
    rw [boolsD_eq h1]; rfl
  | .none :: _, _, e => by cases e
  | .int _ :: _, _, e => by cases e
  | .str _ :: _, _, e => by cases e
  | .list _ :: _, _, e => by cases e
  | .tuple _ :: _, _, e => by cases e
  | .dict _ :: _, _, e => by cases e
theorem intsD_eq : ∀ {ds : List D} {bs : List Int}, intsD ds = some bs → ds = bs.map .int
  | [], _, e => by cases e; rfl
  | .int b :: r, _, e => by
    obtain ⟨y, h1, h2⟩ := Option.map_eq_some_iff.mp (show (intsD r).map (b :: ·) = _ from e)
    subst h2
    rw [intsD_eq h1]; rfl
  | .none :: _, _, e => by cases e
  | .bool _ :: _, _, e => by cases e
  | .str _ :: _, _, e => by cases e
  | .list _ :: _, _, e => by cases e
  | .tuple _ :: _, _, e => by cases e
  | .dict _ :: _, _, e => by cases e
theorem boolsD_map : ∀ bs : List Bool, boolsD (bs.map .bool) = some bs
  | [] => rfl
  | b :: r => by show (boolsD (r.map .bool)).map (b :: ·) = _; rw [boolsD_map r]; rfl
theorem intsD_map : ∀ bs : List Int, intsD (bs.map .int) = some bs
  | [] => rfl
  | b :: r => by show (intsD (r.map .int)).map (b :: ·) = _; rw [intsD_map r]; rfl
def allD : List D → Option D | [.list ds] => (boolsD ds).map fun bs => .bool (bs.all fun x => x) | _ => none
def anyD : List D → Option D | [.list ds] => (boolsD ds).map fun bs => .bool (bs.any fun x => x) | _ => none
def sumD : List D → Option D | [.list ds] => (intsD ds).map fun bs => .int bs.sum | _ => none
theorem r_all (hm : X.mg "all" = none) (hc : X.calm = true) (ha : RA X O (a :: es) fs) (hg : Gl X "all" := by rfl) (he : starEach (a :: es) X.env = (false, eval a X.env) :: starEach es X.env := by rfl) (hpl : (backTo pos (starEach es X.env)).any (·.1) = false := by rfl) : RE X O (.Call (.Name "all" p) (a :: es) [] pos) (callD allD fs) :=
  r_callB (g := allD) (cr_all hc) (fun O F t σ H vs ds d Q rp p e q => by
    unfold allD at e
    split at e
    · obtain ⟨bs, h1, h2⟩ := Option.map_eq_some_iff.mp e
      subst h2
      have := boolsD_eq h1
      subst this
      obtain ⟨v, rfl, w0⟩ := DpAll.one p
      obtain ⟨a, xs, rfl, h1, q1⟩ := w0.lst_inv
      have := DpAll.bools q1
      subst this
      exact ⟨_, bs, rfl, frz_same.seq h1, q _ H (Same.refl _) (.bl _)⟩
    · cases e) hm ha hg (hb := by decide +kernel) (he := he) (hpl := hpl)
theorem r_any (hm : X.mg "any" = none) (hc : X.calm = true) (ha : RA X O (a :: es) fs) (hg : Gl X "any" := by rfl) (he : starEach (a :: es) X.env = (false, eval a X.env) :: starEach es X.env := by rfl) (hpl : (backTo pos (starEach es X.env)).any (·.1) = false := by rfl) : RE X O (.Call (.Name "any" p) (a :: es) [] pos) (callD anyD fs) :=
  r_callB (g := anyD) (cr_any hc) (fun O F t σ H vs ds d Q rp p e q => by
    unfold anyD at e
    split at e
    · obtain ⟨bs, h1, h2⟩ := Option.map_eq_some_iff.mp e
      subst h2
      have := boolsD_eq h1
      subst this
      obtain ⟨v, rfl, w0⟩ := DpAll.one p
      obtain ⟨a, xs, rfl, h1, q1⟩ := w0.lst_inv
      have := DpAll.bools q1
      subst this
      exact ⟨_, bs, rfl, frz_same.seq h1, q _ H (Same.refl _) (.bl _)⟩
    · cases e) hm ha hg (hb := by decide +kernel) (he := he) (hpl := hpl)
theorem r_sum (hm : X.mg "sum" = none) (hc : X.calm = true) (ha : RA X O (a :: es) fs) (hg : Gl X "sum" := by rfl) (he : starEach (a :: es) X.env = (false, eval a X.env) :: starEach es X.env := by rfl) (hpl : (backTo pos (starEach es X.env)).any (·.1) = false := by rfl) : RE X O (.Call (.Name "sum" p) (a :: es) [] pos) (callD sumD fs) :=
  r_callB (g := sumD) (cr_sum hc) (fun O F t σ H vs ds d Q rp p e q => by
    unfold sumD at e
    split at e
    · obtain ⟨bs, h1, h2⟩ := Option.map_eq_some_iff.mp e
      subst h2
      have := intsD_eq h1
      subst this
      obtain ⟨v, rfl, w0⟩ := DpAll.one p
      obtain ⟨a, xs, rfl, h1, q1⟩ := w0.lst_inv
      have := DpAll.ints q1
      subst this
      exact ⟨_, bs, rfl, frz_same.seq h1, q _ H (Same.refl _) (.int _)⟩
    · cases e) hm ha hg (hb := by decide +kernel) (he := he) (hpl := hpl)
/-- list(x), tuple(x) -/
def listD : List D → Option D | [.list ds] => some (.list ds) | [.tuple ds] => some (.list ds) | _ => none
def tupleD : List D → Option D | [.list ds] => some (.tuple ds) | [.tuple ds] => some (.tuple ds) | _ => none
theorem f_list {K : PySem.W.Frag} : FreshCall K (fun xs H Q => ∃ p ys, xs = [.ref p] ∧ (SqL K H p ys ∨ SqT K H p ys) ∧ ∀ l, H l = none → Q (.ref l) (upd H l (.lst ys))) listD := by
  intro O F t σ H vs ds es Q rp p e q
  unfold listD at e
  split at e
  · cases e
    obtain ⟨v, rfl, w0⟩ := DpAll.one p
    obtain ⟨a, xs, rfl, h1, q1⟩ := w0.lst_inv
    exact ⟨a, xs, rfl, .inl (frz_same.seq h1), fun l hl => q l xs hl q1⟩
  · cases e
    obtain ⟨v, rfl, w0⟩ := DpAll.one p
    obtain ⟨a, xs, rfl, h1, q1⟩ := w0.tup_inv
    exact ⟨a, xs, rfl, .inr (SqT.same frz_same h1), fun l hl => q l xs hl q1⟩
  · cases e
theorem rf_list (hm : X.mg "list" = none) (ha : RA X O (a :: es) fs) (hg : Gl X "list" := by rfl) (he : starEach (a :: es) X.env = (false, eval a X.env) :: starEach es X.env := by rfl) (hpl : (backTo pos (starEach es X.env)).any (·.1) = false := by rfl) : RF X O (.Call (.Name "list" p) (a :: es) [] pos) (callD listD fs) :=
  rf_callTy call_list_of f_list hm ha hg (hb := by decide +kernel) (he := he) (hpl := hpl)
theorem r_list (hm : X.mg "list" = none) (ha : RA X O (a :: es) fs) (hg : Gl X "list" := by rfl) (he : starEach (a :: es) X.env = (false, eval a X.env) :: starEach es X.env := by rfl) (hpl : (backTo pos (starEach es X.env)).any (·.1) = false := by rfl) : RE X O (.Call (.Name "list" p) (a :: es) [] pos) (callD listD fs) :=
  r_callTy call_list_of (f_list.val fun ds d e => by
    unfold listD at e
    split at e <;> first | (cases e; exact ⟨_, rfl⟩) | cases e) hm ha hg (hb := by decide +kernel) (he := he) (hpl := hpl)
theorem r_tuple (hm : X.mg "tuple" = none) (ha : RA X O (a :: es) fs) (hg : Gl X "tuple" := by rfl) (he : starEach (a :: es) X.env = (false, eval a X.env) :: starEach es X.env := by rfl) (hpl : (backTo pos (starEach es X.env)).any (·.1) = false := by rfl) : RE X O (.Call (.Name "tuple" p) (a :: es) [] pos) (callD tupleD fs) :=
  r_callTy (g := tupleD) call_tuple_of (fun O F t σ H vs ds d Q rp p e q => by
    unfold tupleD at e
    split at e
    · cases e
      obtain ⟨v, rfl, w0⟩ := DpAll.one p
      obtain ⟨a, xs, rfl, h1, q1⟩ := w0.lst_inv
      refine ⟨a, xs, rfl, .inl ⟨frz_same.seq h1, fun l hl => ?_⟩⟩
      have s2 : Same H (upd H l (.tup xs)) := PD.same_upd hl
      refine q _ _ s2 (.tup (xs := xs) (.inl (.inl ?_)) (q1.mono (frz_mono s2)))
      rw [frz_at (rp.fresh hl), upd_same]
    · cases e
      obtain ⟨v, rfl, w0⟩ := DpAll.one p
      obtain ⟨a, xs, rfl, h1, q1⟩ := w0.tup_inv
      exact ⟨a, xs, rfl, .inr ⟨SqT.same frz_same h1, q _ H (Same.refl _) (.tup h1 q1)⟩⟩
    · cases e) hm ha hg (hb := by decide +kernel) (he := he) (hpl := hpl)
end
/-! ### new lists by operators -/
def repD (d1 d2 : D) : Option D := match d1, d2 with
  | .list ds, .int k => if (decide (-(2 ^ 63) ≤ k) && decide (k < 2 ^ 63) && decide (ds.length * k.toNat ≤ sizeLine)) = true then some (.list (List.replicate k.toNat ds).flatten) else none
  | _, _ => none
/-- an object that is kept and not seen -/
def Fr.pin (F : Fr) (p : Addr) (o : HO) : Fr := ⟨F.P, upd F.B p o, fun a => F.S a && decide (a ≠ p)⟩
theorem hid_pin {F : Fr} {p : Addr} {o : HO} {O : List Nat} (a : Addr) : hid (F.pin p o) O a ↔ hid F O a ∨ a = p := by
  constructor
  · rintro (h | ⟨h1, h2⟩)
    · exact .inl (.inl h)
    · by_cases e : a = p
      · exact .inr e
      · refine .inl (.inr ⟨?_, ?_⟩)
        · have : (upd F.B p o a).isSome = true := h1
          rw [upd_ne e] at this; exact this
        · have : (F.S a && decide (a ≠ p)) = false := h2
          simpa [e] using this
  · rintro ((h | ⟨h1, h2⟩) | e)
    · exact .inl h
    · refine .inr ⟨?_, ?_⟩
      · show (upd F.B p o a).isSome = true
        by_cases e : a = p
        · rw [e, upd_same]; rfl
        · rw [upd_ne e]; exact h1
      · show (F.S a && decide (a ≠ p)) = false
        rw [h2]; rfl
    · refine .inr ⟨?_, ?_⟩
      · show (upd F.B p o a).isSome = true
        rw [e, upd_same]; rfl
      · show (F.S a && decide (a ≠ p)) = false
        simp [e]
theorem frz_pin {F : Fr} {p : Addr} {o : HO} {O : List Nat} (H2 : Hp) : frz (F.pin p o) O H2 = frz F O (del H2 p) := by
  funext a
  by_cases e : a = p
  · rw [frz_none ((hid_pin a).mpr (.inr e))]
    by_cases h : hid F O a
    · rw [frz_none h]
    · rw [frz_at h, e, del_self]
  · by_cases h : hid F O a
    · rw [frz_none h, frz_none ((hid_pin a).mpr (.inl h))]
    · rw [frz_at h, frz_at (fun z => ((hid_pin a).mp z).elim h e), del_ne e]
theorem Rep.nB {K : PySem.W.Frag} {F : Fr} {t : DSt} {σ : L2.St} {H : Hp} {p : Addr} (r : Rep K O F t σ H) (h : H p = none) : F.B p = none := by
  cases q : F.B p with
  | none => rfl
  | some o => have := r.keep p o q; rw [h] at this; cases this
theorem Rep.nP {K : PySem.W.Frag} {F : Fr} {t : DSt} {σ : L2.St} {H : Hp} {p : Addr} (r : Rep K O F t σ H) (h : H p = none) : ∀ i, i ∈ O → F.P i ≠ p := fun i hi z => by
  obtain ⟨_, _, _, _, h2, _⟩ := r.own i hi
  rw [z, h] at h2; cases h2
theorem Rep.pin {K : PySem.W.Frag} {F : Fr} {t : DSt} {σ : L2.St} {H : Hp} {p : Addr} {o : HO} (h2 : H p = some o) (r : Rep K O F t σ (del H p)) : Rep K O (F.pin p o) t σ H := by
  have hO := r.nP del_self
  refine ⟨r.len, fun i d hi h => ?_, fun i hi => ?_, r.inj, fun a u h => ?_, fun i hi => ?_⟩
  · obtain ⟨v, h1, h3⟩ := r.val i d hi h
    exact ⟨v, h1, by rw [frz_pin]; exact h3⟩
  · obtain ⟨es, us, h1, h3, h4, h5⟩ := r.own i hi
    exact ⟨es, us, h1, h3, del_same _ _ _ _ h4, by rw [frz_pin]; exact h5⟩
  · have h : upd F.B p o a = some u := h
    by_cases e : a = p
    · rw [e, upd_same] at h; cases h; rw [e]; exact h2
    · rw [upd_ne e] at h
      exact del_same _ _ _ _ (r.keep a u h)
  · show upd F.B p o (F.P i) = none
    rw [upd_ne (hO i hi)]
    exact r.nb i hi
theorem Rep.unpin {K : PySem.W.Frag} {F : Fr} {t : DSt} {σ : L2.St} {H : Hp} {p : Addr} {o : HO} (nF : F.B p = none) (hO : ∀ i, i ∈ O → F.P i ≠ p) (r : Rep K O (F.pin p o) t σ H) : H p = some o ∧ Rep K O F t σ (del H p) := by
  have hp2 : H p = some o := r.keep p _ (show upd F.B p o p = _ from upd_same)
  refine ⟨hp2, r.len, fun i d hi h => ?_, fun i hi => ?_, r.inj, fun a u h => ?_, fun i hi => ?_⟩
  · obtain ⟨v, h1, h3⟩ := r.val i d hi h
    exact ⟨v, h1, by rw [← frz_pin (o := o)]; exact h3⟩
  · obtain ⟨es, us, h1, h3, h4, h5⟩ := r.own i hi
    exact ⟨es, us, h1, h3, by rw [del_ne (hO i hi)]; exact h4, by rw [← frz_pin (o := o)]; exact h5⟩
  · have e : a ≠ p := fun z => by rw [z, nF] at h; cases h
    rw [del_ne e]
    exact r.keep a u (by show upd F.B p o a = _; rw [upd_ne e]; exact h)
  · have h3 : upd F.B p o (F.P i) = none := r.nb i hi
    rw [upd_ne (hO i hi)] at h3
    exact h3
theorem repD_inv {d1 d2 d : D} (h : repD d1 d2 = some d) : ∃ ds k, d1 = .list ds ∧ d2 = .int k ∧ d = .list (List.replicate k.toNat ds).flatten ∧ -(2 ^ 63) ≤ k ∧ k < 2 ^ 63 ∧ ds.length * k.toNat ≤ sizeLine := by
  unfold repD at h
  split at h
  · split at h
    · rename_i hc
      cases h
      have hc1 := Bool.and_eq_true_iff.mp hc
      have hc2 := Bool.and_eq_true_iff.mp hc1.1
      exact ⟨_, _, rfl, rfl, rfl, of_decide_eq_true hc2.1, of_decide_eq_true hc2.2, of_decide_eq_true hc1.2⟩
    · cases h
  · cases h
theorem catD_inv {d1 d2 d : D} (h : catD d1 d2 = some d) : ∃ a b, d1 = .list a ∧ d2 = .list b ∧ d = .list (a ++ b) ∧ a.length + b.length ≤ sizeLine := by
  unfold catD at h
  split at h
  · split at h
    · rename_i hc
      cases h
      exact ⟨_, _, rfl, rfl, rfl, hc⟩
    · cases h
  · cases h
/-- [..] * n -/
theorem rf_rep {a b : Expr} {f1 f2 : SE} {pos : Pos} (ha : RF X O a f1) (hb : RE X O b f2) : RF X O (.BinOp a .Mult b pos) (bin repD f1 f2) := by
  refine PE.imp (pe_op op_rep ha hb) fun σ H Q q => ?_
  obtain ⟨F, t, ds, t', rp, e, q⟩ := q
  obtain ⟨⟨d1, t1⟩, z1, e⟩ := Option.bind_eq_some_iff.mp e
  obtain ⟨⟨d2, t2⟩, z2, e⟩ := Option.bind_eq_some_iff.mp e
  obtain ⟨d3, z3, e⟩ := Option.bind_eq_some_iff.mp e
  cases e
  obtain ⟨es, k, e1, e2, e3, k1, k2, k3⟩ := repD_inv z3
  dsimp only at e1 e2
  subst e1 e2
  cases e3
  refine ⟨F, t, es, t1, rp, z1, fun p vs H1 r1 s1 hp hd => ?_⟩
  refine ⟨F.pin p (.lst vs), t1, _, t2, r1.pin hp, z2, fun v H2 r2 s2 p2 => ?_⟩
  obtain ⟨hp2, r3⟩ := r2.unpin (r1.nB del_self) (r1.nP del_self)
  rw [frz_pin, frz_pin] at s2
  refine ⟨p, k, vs, rfl, p2.int_inv, hp2, k1, k2, by rw [hd.len]; exact k3, fun w hw => ?_⟩
  have s5 : Same (del H2 p) H2 := del_same H2 p
  exact q w (List.replicate k.toNat vs).flatten _ (by rw [del_upd hw]; exact r3.mono s5) (by rw [del_upd hw]; exact (s1.trans s2).trans (frz_mono s5)) upd_same (by rw [del_upd hw]; exact (hd.mono (s2.trans (frz_mono s5))).rep _)
theorem rf_cat {a b : Expr} {f1 f2 : SE} {pos : Pos} (ha : RE X O a f1) (hb : RE X O b f2) : RF X O (.BinOp a .Add b pos) (bin catD f1 f2) := by
  refine PE.imp (pe_op op_catQ ha hb) fun σ H Q q => ?_
  obtain ⟨F, t, ds, t', rp, e, q⟩ := q
  obtain ⟨⟨d1, t1⟩, z1, e⟩ := Option.bind_eq_some_iff.mp e
  obtain ⟨⟨d2, t2⟩, z2, e⟩ := Option.bind_eq_some_iff.mp e
  obtain ⟨d3, z3, e⟩ := Option.bind_eq_some_iff.mp e
  cases e
  obtain ⟨es, k, e1, e2, e3, hl⟩ := catD_inv z3
  dsimp only at e1 e2
  subst e1 e2
  cases e3
  refine ⟨F, t, _, t1, rp, z1, fun x H1 r1 s1 p1 => ⟨F, t1, _, t2, r1, z2, fun y H2 r2 s2 p2 => ?_⟩⟩
  obtain ⟨p, xs, rfl, h1, q1⟩ := (p1.mono s2).lst_inv
  obtain ⟨p', ys, rfl, h2, q2⟩ := p2.lst_inv
  refine ⟨p, p', xs, ys, rfl, rfl, frz_same.seq h1, frz_same.seq h2, by rw [q1.len, q2.len]; exact hl, fun w hw => ?_⟩
  exact q w _ _ (by rw [del_upd hw]; exact r2) (by rw [del_upd hw]; exact s1.trans s2) upd_same (by rw [del_upd hw]; exact q1.app q2)
end
end PD

namespace PD
open PySem L2
section
variable {X : Cx} {O : List Nat}
/-! ### slices -/
abbrev SO := DSt → Option (Option Int × DSt)
noncomputable def tDO (K : PySem.W.Frag) (O : List Nat) (f : SO) : TO := fun σ H Q => ∃ F t o t', Rep K O F t σ H ∧ f t = some (o, t') ∧ ∀ H', Rep K O F t' σ H' → Same (frz F O H) (frz F O H') → Q o H'
theorem PO.imp {X : Cx} {e : Option Expr} {t t' : TO} (h : PO X e t) (i : ∀ σ H Q, t' σ H Q → t σ H Q) : PO X e t' := ⟨fun pins s σ H Q I q => h.run pins s σ H Q I (i _ _ _ q)⟩
def oNone : SO := fun t => some (none, t)
def oSome (f : SE) : SO := fun t => (f t).bind fun r => match r.1 with | .int i => some (some i, r.2) | _ => none
abbrev RO (X : Cx) (O : List Nat) (e : Option Expr) (f : SO) : Prop := PO X e (tDO X.K O f)
theorem ro_none : RO X O none oNone := PO.imp po_none fun σ H Q q => by
  obtain ⟨F, t, d, t', rp, e, q⟩ := q
  cases e
  exact q H rp (Same.refl _)
theorem ro_some {e : Expr} {f : SE} (h : RE X O e f) : RO X O (some e) (oSome f) := PO.imp (po_some h) fun σ H Q q => by
  obtain ⟨F, t, d, t', rp, e, q⟩ := q
  obtain ⟨⟨d1, t1⟩, z1, e⟩ := Option.bind_eq_some_iff.mp e
  refine ⟨F, t, d1, t1, rp, z1, fun v H1 r1 s1 p1 => ?_⟩
  cases d1 with
  | int i => cases e; exact ⟨i, p1.int_inv, q H1 r1 s1⟩
  | _ => cases e
def cut {α : Type} (xs : List α) (lo hi : Option Int) : List α := (xs.drop (HT.sIx xs.length 0 lo)).take (HT.sIx xs.length xs.length hi - HT.sIx xs.length 0 lo)
theorem DpAll.cut {K : PySem.W.Frag} {H : Hp} {vs : List V} {ds : List D} (h : DpAll K H vs ds) (lo hi : Option Int) : DpAll K H (cutV vs lo hi) (cut ds lo hi) := by
  unfold cutV PD.cut
  rw [h.len]
  exact (h.drop _).take _
def sliceD (d : D) (lo hi : Option Int) : Option D := match d with
  | .list ds => some (.list (cut ds lo hi))
  | .tuple ds => some (.tuple (cut ds lo hi))
  | .str z => if z.length ≤ sizeLine then some (.str (cutS z lo hi)) else none
  | _ => none
def sSl (f : SE) (l h : SO) : SE := fun t => (f t).bind fun r => (l r.2).bind fun r1 => (h r1.2).bind fun r2 => (sliceD r.1 r1.1 r2.1).bind fun d => some (d, r2.2)
theorem r_slice {e : Expr} {lo hi : Option Expr} {f : SE} {l h : SO} {p2 pos : Pos} (he : RE X O e f) (hl : RO X O lo l) (hh : RO X O hi h) : RE X O (.Subscript e (.Slice lo hi none p2) pos) (sSl f l h) := by
  refine PE.imp (pe_slice (sl_list.or (sl_tupA.or sl_str)) he hl hh) fun σ H Q q => ?_
  obtain ⟨F, t, d, t', rp, e, q⟩ := q
  obtain ⟨⟨d1, t1⟩, z1, e⟩ := Option.bind_eq_some_iff.mp e
  obtain ⟨⟨o1, t2⟩, z2, e⟩ := Option.bind_eq_some_iff.mp e
  obtain ⟨⟨o2, t3⟩, z3, e⟩ := Option.bind_eq_some_iff.mp e
  obtain ⟨d4, z4, e⟩ := Option.bind_eq_some_iff.mp e
  cases e
  refine ⟨F, t, d1, t1, rp, z1, fun v H1 r1 s1 p1 => ⟨F, t1, o1, t2, r1, z2, fun H2 r2 s2 => ⟨F, t2, o2, t3, r2, z3, fun H3 r3 s3 => ?_⟩⟩⟩
  have s4 := (s1.trans s2).trans s3
  have p3 := p1.mono (s2.trans s3)
  dsimp only at z4
  cases d1 with
  | list ds =>
    cases z4
    obtain ⟨p, xs, rfl, h1, q1⟩ := p3.lst_inv
    refine .inl ⟨p, xs, rfl, frz_same.seq h1, fun w hw => ?_⟩
    have s5 : Same H3 (upd H3 w (.lst (cutV xs o1 o2))) := PD.same_upd hw
    refine q _ _ (r3.mono s5) (s4.trans (frz_mono s5)) (.lst (.inl (.inl ?_)) ((DpAll.cut q1 o1 o2).mono (frz_mono s5)))
    rw [frz_at (r3.fresh hw), upd_same]
  | tuple ds =>
    cases z4
    obtain ⟨p, xs, rfl, h1, q1⟩ := p3.tup_inv
    refine .inr (.inl ⟨p, xs, rfl, SqT.same frz_same h1, fun hw => ?_, fun _ w hw => ?_⟩)
    · refine q _ _ r3 s4 (.tup h1 ?_)
      have : cut ds o1 o2 = ds := by
        unfold cut
        rw [← q1.len, hw.1, hw.2, List.drop_zero, Nat.sub_zero, q1.len, List.take_length]
      rw [this]
      exact q1
    · have s5 : Same H3 (upd H3 w (.tup (cutV xs o1 o2))) := PD.same_upd hw
      refine q _ _ (r3.mono s5) (s4.trans (frz_mono s5)) (.tup (.inl (.inl ?_)) ((DpAll.cut q1 o1 o2).mono (frz_mono s5)))
      rw [frz_at (r3.fresh hw), upd_same]
  | str z =>
    unfold sliceD at z4
    dsimp only at z4
    split at z4
    · rename_i hz
      cases z4
      exact .inr (.inr ⟨z, p3.str_inv, hz, q _ _ r3 s4 (.str _)⟩)
    · cases z4
  | _ => cases z4
theorem rf_slice {e : Expr} {lo hi : Option Expr} {f : SE} {l h : SO} {p2 pos : Pos} (he : RE X O e f) (hl : RO X O lo l) (hh : RO X O hi h) : RF X O (.Subscript e (.Slice lo hi none p2) pos) (sSl f l h) := by
  refine PE.imp (pe_slice sl_list he hl hh) fun σ H Q q => ?_
  obtain ⟨F, t, d, t', rp, e, q⟩ := q
  obtain ⟨⟨d1, t1⟩, z1, e⟩ := Option.bind_eq_some_iff.mp e
  obtain ⟨⟨o1, t2⟩, z2, e⟩ := Option.bind_eq_some_iff.mp e
  obtain ⟨⟨o2, t3⟩, z3, e⟩ := Option.bind_eq_some_iff.mp e
  obtain ⟨d4, z4, e⟩ := Option.bind_eq_some_iff.mp e
  cases e
  refine ⟨F, t, d1, t1, rp, z1, fun v H1 r1 s1 p1 => ⟨F, t1, o1, t2, r1, z2, fun H2 r2 s2 => ⟨F, t2, o2, t3, r2, z3, fun H3 r3 s3 => ?_⟩⟩⟩
  have s4 := (s1.trans s2).trans s3
  have p3 := p1.mono (s2.trans s3)
  dsimp only at z4
  cases d1 with
  | list ds =>
    cases z4
    obtain ⟨p, xs, rfl, h1, q1⟩ := p3.lst_inv
    refine ⟨p, xs, rfl, frz_same.seq h1, fun w hw => ?_⟩
    exact q w _ _ (by rw [del_upd hw]; exact r3) (by rw [del_upd hw]; exact s4) upd_same (by rw [del_upd hw]; exact DpAll.cut q1 o1 o2)
  | tuple ds => cases z4
  | str z =>
    unfold sliceD at z4
    dsimp only at z4
    split at z4 <;> cases z4
  | _ => cases z4

/-! ### isinstance -/
def tyD : D → String
  | .none => "NoneType" | .bool _ => "bool" | .int _ => "int" | .str _ => "str" | .list _ => "list" | .tuple _ => "tuple" | .dict _ => "dict"
theorem tyX_of {K : PySem.W.Frag} {G H : Hp} {v : V} {d : D} (s : Same G H) (p : Dp K G v d) : TyX K H v (.type (tyD d)) := by
  cases p with
  | non => exact .base .non
  | bl b => exact .base (.bl b)
  | int b => exact .base (.int b)
  | str b => exact .base (.str b)
  | lst h a =>
    rcases h with (h | ⟨o, h⟩) | ⟨o, its, n, h1, h2, _⟩
    · exact .base (.lst (s _ _ h))
    · exact .base (.frz (s _ _ h))
    · exact .kList h1 h2
  | tup h a =>
    rcases h with (h | ⟨o, h⟩) | ⟨o, its, n, h1, h2, _⟩
    · exact .base (.tup (s _ _ h))
    · exact .fTuple (s _ _ h)
    · exact .kTuple h1 h2
def isiD (T : String) (d : D) : Option D := (kitB (tyD d) T).map .bool
theorem r_isi {a : Expr} {f : SE} {T : String} {x : Str} {p p2 pos : Pos} (hm : X.mg "isinstance" = none) (hmT : X.mg x = none) (ha : RE X O a f) (hg : Gl X "isinstance" := by rfl) (hgT : Gl X x := by rfl) (hbT : bootBuiltins x = some (.type T) := by decide +kernel) (hn : x ≠ "__name__" := by decide) (hdT : (x == ("__debug__" : Str)) = false := by decide)
    (he : starEach [a, .Name x p2] X.env = (false, eval a X.env) :: starEach [.Name x p2] X.env := by rfl) (he2 : starEach [.Name x p2] X.env = (false, eval (.Name x p2) X.env) :: starEach [] X.env := by rfl) (hpl : (backTo pos (starEach [.Name x p2] X.env)).any (·.1) = false := by rfl) :
    RE X O (.Call (.Name "isinstance" p) [a, .Name x p2] [] pos) (un (isiD T) f) := by
  refine PE.imp (pe_callB call_isi hg hm (by decide +kernel) (pa_cons ha (pa_cons (pe_bltn (v := .ty T) hgT hmT hbT rfl hn hdT) pa_nil he2) he) (he := he) (hpl := hpl)) fun σ H Q q => ?_
  obtain ⟨F, t, d, t', rp, e, q⟩ := q
  obtain ⟨⟨d1, t1⟩, z1, e⟩ := Option.bind_eq_some_iff.mp e
  obtain ⟨d4, z4, e⟩ := Option.bind_eq_some_iff.mp e
  cases e
  obtain ⟨b, h1, h2⟩ := Option.map_eq_some_iff.mp z4
  subst h2
  exact ⟨F, t, d1, t1, rp, z1, fun v H1 r1 s1 p1 => ⟨v, .ty T, _, _, b, rfl, .ty T, tyX_of frz_same p1, kit_ty h1, q _ H1 r1 s1 (.bl b)⟩⟩
def isi2 (T T' : String) (d : D) : Option D := (kitB (tyD d) T).bind fun b => match b with | true => some (.bool true) | false => (kitB (tyD d) T').map .bool
theorem r_isi2 {a : Expr} {f : SE} {T T' : String} {x x' : Str} {p p2 p3 p4 pos : Pos} {k : Nat} (hm : X.mg "isinstance" = none) (hmT : X.mg x = none) (hmT' : X.mg x' = none) (ha : RE X O a f) (hg : Gl X "isinstance" := by rfl) (hgT : Gl X x := by rfl) (hbT : bootBuiltins x = some (.type T) := by decide +kernel) (hn : x ≠ "__name__" := by decide) (hdT : (x == ("__debug__" : Str)) = false := by decide)
    (hgT' : Gl X x' := by rfl) (hbT' : bootBuiltins x' = some (.type T') := by decide +kernel) (hn' : x' ≠ "__name__" := by decide) (hdT' : (x' == ("__debug__" : Str)) = false := by decide)
    (he : starEach [a, .Tuple [.Name x p2, .Name x' p3] k p4] X.env = (false, eval a X.env) :: starEach [.Tuple [.Name x p2, .Name x' p3] k p4] X.env := by rfl) (he2 : starEach [.Tuple [.Name x p2, .Name x' p3] k p4] X.env = (false, eval (.Tuple [.Name x p2, .Name x' p3] k p4) X.env) :: starEach [] X.env := by rfl)
    (he3 : starEach [.Name x p2, .Name x' p3] X.env = (false, eval (.Name x p2) X.env) :: starEach [.Name x' p3] X.env := by rfl) (he4 : starEach [.Name x' p3] X.env = (false, eval (.Name x' p3) X.env) :: starEach [] X.env := by rfl)
    (hpl : (backTo pos (starEach [.Tuple [.Name x p2, .Name x' p3] k p4] X.env)).any (·.1) = false := by rfl) :
    RE X O (.Call (.Name "isinstance" p) [a, .Tuple [.Name x p2, .Name x' p3] k p4] [] pos) (un (isi2 T T') f) := by
  refine PE.imp (pe_callB call_isiT hg hm (by decide +kernel) (pa_cons ha (pa_cons (pe_tup (pa_cons (pe_bltn (v := .ty T) hgT hmT hbT rfl hn hdT) (pa_cons (pe_bltn (v := .ty T') hgT' hmT' hbT' rfl hn' hdT') pa_nil he4) he3)) pa_nil he2) he) (he := he) (hpl := hpl)) fun σ H Q q => ?_
  obtain ⟨F, t, d, t', rp, e, q⟩ := q
  obtain ⟨⟨d1, t1⟩, z1, e⟩ := Option.bind_eq_some_iff.mp e
  obtain ⟨d4, z4, e⟩ := Option.bind_eq_some_iff.mp e
  cases e
  obtain ⟨b, h1, h2⟩ := Option.bind_eq_some_iff.mp z4
  refine ⟨F, t, d1, t1, rp, z1, fun v H1 r1 s1 p1 => ⟨(by decide : 2 ≤ sizeLine), fun tp htp => ?_⟩⟩
  have s2 : Same H1 (upd H1 tp (.tup [.ty T, .ty T'])) := PD.same_upd htp
  cases b with
  | true =>
    cases h2
    exact ⟨v, tp, _, _, _, true, rfl, upd_same, .cons (.ty T) (.cons (.ty T') .nil), tyX_of (frz_same.trans s2) p1, kitAny_cons (kit_ty h1) (fun z => nomatch z) (fun _ => rfl), q _ _ (r1.mono s2) (s1.trans (frz_mono s2)) (.bl _)⟩
  | false =>
    obtain ⟨c, h3, h4⟩ := Option.map_eq_some_iff.mp h2
    subst h4
    refine ⟨v, tp, _, _, _, c, rfl, upd_same, .cons (.ty T) (.cons (.ty T') .nil), tyX_of (frz_same.trans s2) p1, kitAny_cons (kit_ty h1) (fun _ => kitAny_cons (kit_ty h3) (fun z => ?_) (fun z => z)) (fun z => nomatch z), q _ _ (r1.mono s2) (s1.trans (frz_mono s2)) (.bl _)⟩
    rw [z]; exact kitAny_nil

/-! ### own slots -/
theorem Rep.setOwn {K : PySem.W.Frag} {F : Fr} {t : DSt} {σ : L2.St} {H : Hp} {i : Nat} {vs : List V} {ds : List D} (r : Rep K O F t σ H) (hi : i ∈ O) (h : DpAll K (frz F O H) vs ds) :
    Rep K O F (t.set i (some (.list ds))) σ (upd H (F.P i) (.lst vs)) ∧ frz F O (upd H (F.P i) (.lst vs)) = frz F O H := by
  have hf : frz F O (upd H (F.P i) (.lst vs)) = frz F O H := by
    funext a
    by_cases q : hid F O a
    · rw [frz_none q, frz_none q]
    · rw [frz_at q, frz_at q, upd_ne]
      rintro rfl
      exact q (.inl ⟨i, hi, rfl⟩)
  have hil : i < t.length := by
    obtain ⟨_, _, h1, _⟩ := r.own i hi
    exact (List.getElem?_eq_some_iff.mp h1).1
  refine ⟨⟨by rw [List.length_set]; exact r.len, fun j d hj e => ?_, fun j hj => ?_, r.inj, fun a o e => ?_, r.nb⟩, hf⟩
  · have : j ≠ i := fun z => hj (z ▸ hi)
    rw [List.getElem?_set_ne (Ne.symm this)] at e
    rw [hf]
    exact r.val j d hj e
  · rw [hf]
    by_cases e : j = i
    · subst e
      obtain ⟨_, _, _, h2, _⟩ := r.own j hj
      exact ⟨ds, vs, by rw [List.getElem?_set_self hil], h2, upd_same, h⟩
    · obtain ⟨es, us, h1, h2, h3, h4⟩ := r.own j hj
      exact ⟨es, us, by rw [List.getElem?_set_ne (Ne.symm e)]; exact h1, h2, by rw [upd_ne (fun z => e (r.inj _ _ hj hi z))]; exact h3, h4⟩
  · rw [upd_ne (fun z => by rw [z, r.nb i hi] at e; cases e)]
    exact r.keep a o e
/-- the name of an own slot, read at its address -/
theorem Rep.getOwn {K : PySem.W.Frag} {F : Fr} {t : DSt} {σ : L2.St} {H : Hp} {i : Nat} {c : List D} (r : Rep K O F t σ H) (hi : i ∈ O) (e : t[i]? = some (some (.list c))) : σ[i]? = some (some (.ref (F.P i))) ∧ ∃ vs, H (F.P i) = some (.lst vs) ∧ DpAll K (frz F O H) vs c := by
  obtain ⟨ds, vs, h1, h2, h3, h4⟩ := r.own i hi
  rw [h1] at e
  cases e
  exact ⟨h2, vs, h3, h4⟩
def ownL (t : DSt) (i : Nat) : Option (List D) := match t[i]? with | some (some (.list c)) => some c | _ => none
theorem ownL_eq {t : DSt} {i : Nat} {c : List D} (h : ownL t i = some c) : t[i]? = some (some (.list c)) := by
  unfold ownL at h
  split at h
  · rename_i e; cases h; exact e
  · cases h
section
variable {i : Nat} {x : Str} {pv1 p pos : Pos}
def lenO (i : Nat) : SE := fun t => (ownL t i).bind fun c => some (.int c.length, t)
theorem r_lenO (i : Nat) (hm : X.mg "len" = none) (hi : i ∈ O := by decide) (hN : X.N[i]? = some x := by rfl) (hv : Vis X.env.scope x := by first | exact Or.inl rfl | exact Or.inr (Or.inl rfl) | exact Or.inr (Or.inr rfl)) (hd : (x == ("__debug__" : Str)) = false := by decide) (hcd : (x == ("__classdict__" : Str)) = false := by decide)
    (hg : Gl X "len" := by rfl) (he : starEach [.Name x pv1] X.env = (false, eval (.Name x pv1) X.env) :: starEach [] X.env := by rfl) : RE X O (.Call (.Name "len" p) [.Name x pv1] [] pos) (lenO i) := by
  refine PE.imp (pe_callB call_len_seq hg hm PySem.boot_len (pa_cons (pe_var hN hv hd hcd) pa_nil he) (he := he)) fun σ H Q q => ?_
  obtain ⟨F, t, d, t', rp, e, q⟩ := q
  obtain ⟨c, z1, e⟩ := Option.bind_eq_some_iff.mp e
  cases e
  obtain ⟨h1, vs, h2, h3⟩ := rp.getOwn hi (ownL_eq z1)
  refine ⟨_, h1, _, vs, rfl, .inl (.inl (.inl h2)), ?_⟩
  rw [h3.len]
  exact q _ H rp (Same.refl _) (.int _)
def ixO (i : Nat) (f : SE) : SE := fun t => (f t).bind fun r => (ownL r.2 i).bind fun c => match r.1 with | .int k => (atI c k).bind fun d => some (d, r.2) | _ => none
theorem r_ixO (i : Nat) {b : Expr} {f : SE} (hb : RE X O b f) (hi : i ∈ O := by decide) (hN : X.N[i]? = some x := by rfl) (hv : Vis X.env.scope x := by first | exact Or.inl rfl | exact Or.inr (Or.inl rfl) | exact Or.inr (Or.inr rfl)) (hd : (x == ("__debug__" : Str)) = false := by decide) (hcd : (x == ("__classdict__" : Str)) = false := by decide)
    (hs : PlainIx b := by intro _ _; rfl) : RE X O (.Subscript (.Name x pv1) b pos) (ixO i f) := by
  refine PE.imp (pe_ix ix_list (pe_var hN hv hd hcd) hb hs) fun σ H Q q => ?_
  obtain ⟨F, t, d, t', rp, e, q⟩ := q
  obtain ⟨⟨d1, t1⟩, z1, e⟩ := Option.bind_eq_some_iff.mp e
  obtain ⟨c, z2, e⟩ := Option.bind_eq_some_iff.mp e
  dsimp only at e z2
  cases d1 with
  | int k =>
    obtain ⟨d3, z3, e⟩ := Option.bind_eq_some_iff.mp e
    cases e
    obtain ⟨es, us, w1, w2, _⟩ := rp.own i hi
    refine ⟨_, w2, F, t, _, _, rp, z1, fun v H1 r1 s1 p1 => ?_⟩
    obtain ⟨h1, vs, h2, h3⟩ := r1.getOwn hi (ownL_eq z2)
    obtain ⟨u, h4, h5⟩ := atI_dp h3 z3
    exact ⟨_, vs, k, u, rfl, p1.int_inv, .inl (.inl h2), h4, q u H1 r1 s1 h5⟩
  | _ => cases e
/-- the truth of an own list -/
def truO (i : Nat) : SB := fun t => (ownL t i).bind fun c => some (!c.isEmpty, t)
theorem rt_own (i : Nat) (hi : i ∈ O := by decide) (hN : X.N[i]? = some x := by rfl) (hv : Vis X.env.scope x := by first | exact Or.inl rfl | exact Or.inr (Or.inl rfl) | exact Or.inr (Or.inr rfl)) (hd : (x == ("__debug__" : Str)) = false := by decide) (hcd : (x == ("__classdict__" : Str)) = false := by decide)
    (he : ∀ whole, isTrue (.Name x pv1) X.env whole = (do let v ← whole; standAt (Expr.Name x pv1).pos; holding [v] (truthy v)) := by intro _; rfl) : RT X O (.Name x pv1) (truO i) := by
  refine PT.imp (pt_truth (pe_var hN hv hd hcd) he) fun σ H Q q => ?_
  obtain ⟨F, t, d, t', rp, e, q⟩ := q
  obtain ⟨c, z1, e⟩ := Option.bind_eq_some_iff.mp e
  cases e
  obtain ⟨h1, vs, h2, h3⟩ := rp.getOwn hi (ownL_eq z1)
  exact ⟨_, h1, _, .inl ⟨vs, .inl (.inl h2), by rw [DpAll.isE h3]⟩, q H rp (Same.refl _)⟩
/-- a method of an own list -/
def methO (i : Nat) (g : List D → List D → Option (D × List D)) (fs : SA) : SE := fun t => (fs t).bind fun r => (ownL r.2 i).bind fun c => (g c r.1).bind fun w => some (w.1, r.2.set i (some (.list w.2)))
def ValMeth (K : PySem.W.Frag) (r : V → List V → Hp → VK → Prop) (g : List D → List D → Option (D × List D)) : Prop := ∀ O F t σ H p xs vs c ds d c' (Q : VK), Rep K O F t σ H → H p = some (.lst xs) → DpAll K (frz F O H) xs c → DpAll K (frz F O H) vs ds → g c ds = some (d, c') →
  (∀ v xs', DpAll K (frz F O H) xs' c' → Dp K (frz F O H) v d → Q v (upd H p (.lst xs'))) → r (.ref p) vs H Q
theorem r_methO (i : Nat) {name : Str} {r : V → List V → Hp → VK → Prop} {g : List D → List D → Option (D × List D)} {e : Expr} {es : List Expr} {fs : SA} {apos : Pos} (hv : ValMeth X.K r g)
    (hpe : PE X (.Call (.Attribute (.Name x pv1) name apos) (e :: es) [] pos) (tBM X.K "list" r (tVar i) (tDA X.K O fs))) (hi : i ∈ O := by decide) : RE X O (.Call (.Attribute (.Name x pv1) name apos) (e :: es) [] pos) (methO i g fs) := by
  refine PE.imp hpe fun σ H Q q => ?_
  obtain ⟨F, t, d, t', rp, e, q⟩ := q
  obtain ⟨⟨d1, t1⟩, z1, e⟩ := Option.bind_eq_some_iff.mp e
  obtain ⟨c, z2, e⟩ := Option.bind_eq_some_iff.mp e
  obtain ⟨⟨w1, w2⟩, z3, e⟩ := Option.bind_eq_some_iff.mp e
  cases e
  obtain ⟨es, us, y1, y2, y3, _⟩ := rp.own i hi
  refine ⟨_, y2, .inl ⟨rfl, us, .inl (.inl y3)⟩, F, t, d1, t1, rp, z1, fun v H1 r1 s1 p1 => ?_⟩
  obtain ⟨h1, vs, h2, h3⟩ := r1.getOwn hi (ownL_eq z2)
  refine hv O F t1 σ H1 _ vs v c d1 _ _ Q r1 h2 h3 p1 z3 fun u xs' hx hu => ?_
  obtain ⟨r2, e2⟩ := r1.setOwn hi hx
  exact q u _ r2 (by rw [e2]; exact s1) (by rw [e2]; exact hu)
theorem r_methO0 (i : Nat) {name : Str} {r : V → List V → Hp → VK → Prop} {g : List D → List D → Option (D × List D)} {apos : Pos} (hv : ValMeth X.K r g)
    (hpe : PE X (.Call (.Attribute (.Name x pv1) name apos) [] [] pos) (tBM0 X.K "list" r (tVar i))) (hi : i ∈ O := by decide) : RE X O (.Call (.Attribute (.Name x pv1) name apos) [] [] pos) (methO i g sNil) := by
  refine PE.imp hpe fun σ H Q q => ?_
  obtain ⟨F, t, d, t', rp, e, q⟩ := q
  obtain ⟨⟨d1, t1⟩, z1, e⟩ := Option.bind_eq_some_iff.mp e
  cases z1
  obtain ⟨c, z2, e⟩ := Option.bind_eq_some_iff.mp e
  obtain ⟨⟨w1, w2⟩, z3, e⟩ := Option.bind_eq_some_iff.mp e
  cases e
  obtain ⟨h1, vs, h2, h3⟩ := rp.getOwn hi (ownL_eq z2)
  refine ⟨_, h1, .inl ⟨rfl, vs, .inl (.inl h2)⟩, ?_⟩
  refine hv O F t σ H _ vs [] c [] _ _ Q rp h2 h3 .nil z3 fun u xs' hx hu => ?_
  obtain ⟨r2, e2⟩ := rp.setOwn hi hx
  exact q u _ r2 (by rw [e2]; exact Same.refl _) (by rw [e2]; exact hu)
def appD (c : List D) : List D → Option (D × List D) | [d] => if c.length < sizeLine then some (.none, c ++ [d]) else none | _ => none
theorem v_append {K : PySem.W.Frag} : ValMeth K rAppend appD := by
  intro O F t σ H p xs vs c ds d c' Q rp hp hx hv e q
  unfold appD at e
  split at e
  · split at e
    · rename_i hl
      cases e
      obtain ⟨v, rfl, w0⟩ := DpAll.one hv
      exact ⟨p, xs, v, rfl, rfl, hp, by rw [hx.len]; exact hl, q _ _ (hx.app (.cons w0 .nil)) .non⟩
    · cases e
  · cases e
theorem getLast_get {α : Type} {l : List α} {x : α} (h : l.getLast? = some x) : l[l.length - 1]? = some x := by rw [← List.getLast?_eq_getElem?]; exact h
theorem DpAll.dropLast {K : PySem.W.Frag} {H : Hp} {vs : List V} {ds : List D} (h : DpAll K H vs ds) : DpAll K H vs.dropLast ds.dropLast := by
  rw [List.dropLast_eq_take, List.dropLast_eq_take, h.len]
  exact h.take _
theorem DpAll.eraseIdx {K : PySem.W.Frag} {H : Hp} : ∀ {vs : List V} {ds : List D} (k : Nat), DpAll K H vs ds → DpAll K H (vs.eraseIdx k) (ds.eraseIdx k)
  | _, _, _, .nil => .nil
  | _, _, 0, .cons _ a => a
  | _, _, k + 1, .cons h a => .cons h (DpAll.eraseIdx k a)
def popD (c : List D) : List D → Option (D × List D) | [] => (c.getLast?).bind fun d => some (d, c.dropLast) | _ => none
theorem v_pop {K : PySem.W.Frag} : ValMeth K rPop popD := by
  intro O F t σ H p xs vs c ds d c' Q rp hp hx hv e q
  unfold popD at e
  split at e
  · obtain ⟨w, z1, e⟩ := Option.bind_eq_some_iff.mp e
    cases e
    cases hv
    obtain ⟨v, h1, h2⟩ := hx.get (getLast_get z1)
    exact ⟨p, xs, v, rfl, rfl, hp, by rw [hx.len]; exact h1, q _ _ (DpAll.dropLast hx) h2⟩
  · cases e
def popAtD (c : List D) : List D → Option (D × List D)
  | [.int i] => if (decide (-(2 ^ 63) ≤ i) && decide (i < 2 ^ 63)) = true then (seqIndex? i c.length).bind fun k => (c[k]?).bind fun d => some (d, c.eraseIdx k) else none
  | _ => none
theorem v_popAt {K : PySem.W.Frag} : ValMeth K rPopAt popAtD := by
  intro O F t σ H p xs vs c ds d c' Q rp hp hx hv e q
  unfold popAtD at e
  split at e
  · split at e
    · rename_i hc
      have hc' := Bool.and_eq_true_iff.mp hc
      obtain ⟨k, z1, e⟩ := Option.bind_eq_some_iff.mp e
      obtain ⟨w, z2, e⟩ := Option.bind_eq_some_iff.mp e
      cases e
      obtain ⟨v, rfl, w0⟩ := DpAll.one hv
      obtain ⟨u, h1, h2⟩ := hx.get z2
      exact ⟨p, xs, _, k, u, rfl, by rw [w0.int_inv], hp, of_decide_eq_true hc'.1, of_decide_eq_true hc'.2, by rw [hx.len]; exact z1, h1, q _ _ (DpAll.eraseIdx k hx) h2⟩
    · cases e
  · cases e
def revD (c : List D) : List D → Option (D × List D) | [] => some (.none, c.reverse) | _ => none
theorem v_reverse {K : PySem.W.Frag} : ValMeth K rReverse revD := by
  intro O F t σ H p xs vs c ds d c' Q rp hp hx hv e q
  unfold revD at e
  split at e
  · cases e
    cases hv
    exact ⟨p, xs, rfl, rfl, hp, q _ _ hx.rev .non⟩
  · cases e
def clearD (c : List D) : List D → Option (D × List D) | [] => some (.none, []) | _ => none
theorem v_clear {K : PySem.W.Frag} : ValMeth K rClear clearD := by
  intro O F t σ H p xs vs c ds d c' Q rp hp hx hv e q
  unfold clearD at e
  split at e
  · cases e
    cases hv
    exact ⟨p, xs, rfl, rfl, hp, q _ _ .nil .non⟩
  · cases e
end
end
end PD

namespace PD
open PySem L2
section
variable {X : Cx} {O : List Nat}
/-! ### targets -/
abbrev SG := D → DSt → Option DSt
abbrev SGs := List D → DSt → Option DSt
def Out2 (ws : List Nat) (σ σ' : L2.St) : Prop := σ'.length = σ.length ∧ ∀ j, j ∉ ws → σ'[j]? = σ[j]?
noncomputable def tG (K : PySem.W.Frag) (O ws : List Nat) (g : SG) : TG := fun v σ H Q => ∃ F t d t', Rep K O F t σ H ∧ Dp K (frz F O H) v d ∧ g d t = some t' ∧
  ∀ σ' H', Rep K O F t' σ' H' → Same (frz F O H) (frz F O H') → Out2 ws σ σ' → Q σ' H'
noncomputable def tGs (K : PySem.W.Frag) (O ws : List Nat) (g : SGs) : TGs := fun v σ H Q => ∃ F t d t', Rep K O F t σ H ∧ DpAll K (frz F O H) v d ∧ g d t = some t' ∧
  ∀ σ' H', Rep K O F t' σ' H' → Same (frz F O H) (frz F O H') → Out2 ws σ σ' → Q σ' H'
theorem PG.imp {X : Cx} {e : Expr} {t t' : TG} (h : PG X e t) (i : ∀ v σ H Q, t' v σ H Q → t v σ H Q) : PG X e t' := ⟨fun pins s σ H v u Q I r q => h.run pins s σ H v u Q I r (i _ _ _ _ q)⟩
theorem PGs.imp {X : Cx} {e : List Expr} {t t' : TGs} (h : PGs X e t) (i : ∀ v σ H Q, t' v σ H Q → t v σ H Q) : PGs X e t' := ⟨fun pins s σ H v u Q I r q => h.run pins s σ H v u Q I r (i _ _ _ _ q)⟩
abbrev RG (X : Cx) (O ws : List Nat) (e : Expr) (g : SG) : Prop := PG X e (tG X.K O ws g)
abbrev RGs (X : Cx) (O ws : List Nat) (e : List Expr) (g : SGs) : Prop := PGs X e (tGs X.K O ws g)
theorem Rep.set {K : PySem.W.Frag} {F : Fr} {t : DSt} {σ : L2.St} {H : Hp} {i : Nat} {v : V} {d : D} (r : Rep K O F t σ H) (hi : i ∉ O) (h : Dp K (frz F O H) v d) : Rep K O F (t.set i (some d)) (σ.set i (some v)) H := by
  refine ⟨by rw [List.length_set, List.length_set]; exact r.len, fun j e hj h1 => ?_, fun j hj => ?_, r.inj, r.keep, r.nb⟩
  · by_cases z : j = i
    · subst z
      have hl : j < t.length := by
        have := (List.getElem?_eq_some_iff.mp h1).1
        rwa [List.length_set] at this
      rw [List.getElem?_set_self hl] at h1
      cases h1
      exact ⟨v, by rw [List.getElem?_set_self (by rw [← r.len]; exact hl)], h⟩
    · rw [List.getElem?_set_ne (Ne.symm z)] at h1
      rw [List.getElem?_set_ne (Ne.symm z)]
      exact r.val j e hj h1
  · obtain ⟨ds, vs, h1, h2, h3, h4⟩ := r.own j hj
    have z : j ≠ i := fun z => hi (z ▸ hj)
    exact ⟨ds, vs, by rw [List.getElem?_set_ne (Ne.symm z)]; exact h1, by rw [List.getElem?_set_ne (Ne.symm z)]; exact h2, h3, h4⟩
def gN (i : Nat) : SG := fun d t => some (t.set i (some d))
theorem rg_name (i : Nat) {x : Str} {pos : Pos} (hN : X.N.Nodup) (hO : i ∉ O := by decide) (hi : X.N[i]? = some x := by rfl) (hx : Loc X.env.scope x := by first | exact Or.inl rfl | exact Or.inr rfl) (hf : X.fn x = true ∨ X.env.scope.names.lookup x = some .local := by first | exact .inl rfl | exact .inr rfl | assumption) : RG X O [i] (.Name x pos) (gN i) :=
  PG.imp (pg_name hN hi hx hf) fun v σ H Q q => by
    obtain ⟨F, t, d, t', rp, p, e, q⟩ := q
    cases e
    exact q _ H (rp.set hO p) (Same.refl _) ⟨List.length_set, fun j hj => List.getElem?_set_ne (fun z => hj (by simp [z]))⟩
def gsNil : SGs := fun ds t => match ds with | [] => some t | _ => none
def gsCons (g : SG) (gs : SGs) : SGs := fun ds t => match ds with | d :: r => (g d t).bind fun t1 => gs r t1 | [] => none
theorem rgs_nil : RGs X O [] [] gsNil := PGs.imp pgs_nil fun v σ H Q q => by
  obtain ⟨F, t, d, t', rp, p, e, q⟩ := q
  cases p with
  | nil => cases e; exact ⟨rfl, q σ H rp (Same.refl _) ⟨rfl, fun _ _ => rfl⟩⟩
  | cons _ _ => cases e
theorem rgs_cons {ws ws' : List Nat} {e : Expr} {es : List Expr} {g : SG} {gs : SGs} (h1 : RG X O ws e g) (h2 : RGs X O ws' es gs) (hs : (assignEach (e :: es) X.env).map (·.2) = assign e X.env :: (assignEach es X.env).map (·.2) := by rfl) : RGs X O (ws ++ ws') (e :: es) (gsCons g gs) :=
  PGs.imp (pgs_cons h1 h2 hs) fun v σ H Q q => by
    obtain ⟨F, t, d, t', rp, p, e, q⟩ := q
    cases p with
    | nil => cases e
    | cons p ps =>
      obtain ⟨t1, z1, e⟩ := Option.bind_eq_some_iff.mp e
      refine ⟨_, _, rfl, F, t, _, t1, rp, p, z1, fun σ1 H1 r1 s1 o1 => ?_⟩
      refine ⟨F, t1, _, t', r1, ps.mono s1, e, fun σ2 H2 r2 s2 o2 => ?_⟩
      exact q σ2 H2 r2 (s1.trans s2) ⟨o2.1.trans o1.1, fun j hj => (o2.2 j fun z => hj (List.mem_append_right _ z)).trans (o1.2 j fun z => hj (List.mem_append_left _ z))⟩
def gT (gs : SGs) (n : Nat) : SG := fun d t => match d with | .tuple ds => if ds.length = n then gs ds t else none | _ => none
theorem rg_tup {ws : List Nat} {es : List Expr} {k : Nat} {gs : SGs} {n : Nat} {pos : Pos} (hc : X.calm = true) (h : RGs X O ws es gs) (hn : (assignEach es X.env).length = n := by rfl) (hst : (assignEach es X.env).findIdx? (·.1) = none := by rfl) : RG X O ws (.Tuple es k pos) (gT gs n) :=
  PG.imp (pg_tup hc h hn hst) fun v σ H Q q => by
    obtain ⟨F, t, d, t', rp, p, e, q⟩ := q
    cases d with
    | tuple ds =>
      unfold gT at e
      dsimp only at e
      split at e
      · rename_i hl
        obtain ⟨a, xs, rfl, h1, q1⟩ := p.tup_inv
        exact ⟨a, xs, rfl, SqT.same frz_same h1, by rw [q1.len]; exact hl, F, t, ds, t', rp, q1, e, q⟩
      · cases e
    | _ => cases e
/-- own[k] = .. -/
def gO (i : Nat) (f : SE) : SG := fun d t => (f t).bind fun r => (ownL r.2 i).bind fun c => match r.1 with | .int k => (ixN c.length k).bind fun j => some (r.2.set i (some (.list (c.set j d)))) | _ => none
theorem rg_own (i : Nat) {x : Str} {b : Expr} {f : SE} {pv1 pos : Pos} (hb : RE X O b f) (hi : i ∈ O := by decide) (hN : X.N[i]? = some x := by rfl) (hv : Vis X.env.scope x := by first | exact Or.inl rfl | exact Or.inr (Or.inl rfl) | exact Or.inr (Or.inr rfl)) (hd : (x == ("__debug__" : Str)) = false := by decide) (hcd : (x == ("__classdict__" : Str)) = false := by decide)
    (ha : ∀ v, assign (.Subscript (.Name x pv1) b pos) X.env v = (do
      let ov ← holding [v] (eval (.Name x pv1) X.env)
      let iv ← holding [v, ov] (eval b X.env)
      standAt pos
      holding [v, ov, iv] (setItem ov iv v)
      release [v, ov, iv] []) := by intro _; rfl) : RG X O [] (.Subscript (.Name x pv1) b pos) (gO i f) :=
  PG.imp (pg_sub (pe_var hN hv hd hcd) hb set_list ha) fun v σ H Q q => by
    obtain ⟨F, t, d, t', rp, p, e, q⟩ := q
    obtain ⟨⟨d1, t1⟩, z1, e⟩ := Option.bind_eq_some_iff.mp e
    obtain ⟨c, z2, e⟩ := Option.bind_eq_some_iff.mp e
    dsimp only at e z2
    cases d1 with
    | int k =>
      obtain ⟨j, z3, e⟩ := Option.bind_eq_some_iff.mp e
      cases e
      obtain ⟨es, us, w1, w2, _⟩ := rp.own i hi
      refine ⟨_, w2, F, t, _, _, rp, z1, fun y H1 r1 s1 p1 => ?_⟩
      obtain ⟨h1, vs, h2, h3⟩ := r1.getOwn hi (ownL_eq z2)
      refine ⟨_, vs, k, j, rfl, p1.int_inv, h2, by rw [h3.len]; exact z3, ?_⟩
      obtain ⟨r2, e2⟩ := r1.setOwn hi (h3.set (p.mono s1) j)
      exact q _ _ r2 (by rw [e2]; exact s1) ⟨rfl, fun _ _ => rfl⟩
    | _ => cases e

/-! ### statements -/
def Le (io : List Nat) (F F' : Fr) : Prop := F'.B = F.B ∧ F'.S = F.S ∧ ∀ i, i ∈ io → F'.P i = F.P i
theorem Le.refl {io : List Nat} {F : Fr} : Le io F F := ⟨rfl, rfl, fun _ _ => rfl⟩
theorem Le.trans {io : List Nat} {F F' F'' : Fr} (a : Le io F F') (b : Le io F' F'') : Le io F F'' := ⟨b.1.trans a.1, b.2.1.trans a.2.1, fun i hi => (b.2.2 i hi).trans (a.2.2 i hi)⟩
/-- what a statement leaves; fr: a return hands out a new list -/
def Post (K : PySem.W.Frag) (io : List Nat) (fr : Bool) (OL O' : List Nat) (F : Fr) (E : Ends) : Out → Prop
  | .nx t' => ∀ F' σ' H', Le io F F' → Rep K O' F' t' σ' H' → E.nx σ' H'
  | .bk t' => ∀ F' σ' H', Le io F F' → Rep K OL F' t' σ' H' → E.bk σ' H'
  | .ct t' => ∀ F' σ' H', Le io F F' → Rep K OL F' t' σ' H' → E.ct σ' H'
  | .rt d t' => match fr with
    | false => ∀ F' v σ' H', Le io F F' → Rep K io F' t' σ' H' → Dp K (frz F' io H') v d → E.rt v H'
    | true => ∃ ds, d = .list ds ∧ ∀ F' p vs σ' H', Le io F F' → Rep K io F' t' σ' (del H' p) → H' p = some (.lst vs) → DpAll K (frz F' io (del H' p)) vs ds → E.rt (.ref p) H'
noncomputable def tS (K : PySem.W.Frag) (io : List Nat) (fr : Bool) (OL O O' : List Nat) (f : SS) : TS := fun E σ H => ∃ F t o, Rep K O F t σ H ∧ f t = some o ∧ Post K io fr OL O' F E o
theorem Post.mono {K : PySem.W.Frag} {io : List Nat} {fr : Bool} {OL O' : List Nat} {F F' : Fr} {E : Ends} {o : Out} (l : Le io F F') (h : Post K io fr OL O' F E o) : Post K io fr OL O' F' E o := by
  cases o with
  | nx t => exact fun F2 σ H l2 r => h F2 σ H (l.trans l2) r
  | bk t => exact fun F2 σ H l2 r => h F2 σ H (l.trans l2) r
  | ct t => exact fun F2 σ H l2 r => h F2 σ H (l.trans l2) r
  | rt d t =>
    cases fr with
    | false => exact fun F2 v σ H l2 r => h F2 v σ H (l.trans l2) r
    | true =>
      obtain ⟨ds, e, h⟩ := h
      exact ⟨ds, e, fun F2 p vs σ H l2 r => h F2 p vs σ H (l.trans l2) r⟩
variable {io OL : List Nat} {fr : Bool}
abbrev RS (X : Cx) (io : List Nat) (fr : Bool) (OL O O' : List Nat) (st : Stmt) (f : SS) : Prop := PS X st (tS X.K io fr OL O O' f)
abbrev RSs (X : Cx) (io : List Nat) (fr : Bool) (OL O O' : List Nat) (st : List Stmt) (f : SS) : Prop := PSs X st (tS X.K io fr OL O O' f)
/-- fewer own slots -/
theorem Rep.less {K : PySem.W.Frag} {F : Fr} {t : DSt} {σ : L2.St} {H : Hp} {O' : List Nat} (r : Rep K O F t σ H) (h : ∀ i, i ∈ O' → i ∈ O) : Rep K O' F t σ H := by
  refine ⟨r.len, fun i d hi e => ?_, fun i hi => ?_, fun i j hi hj => r.inj i j (h i hi) (h j hj), r.keep, fun i hi => r.nb i (h i hi)⟩
  · by_cases z : i ∈ O
    · obtain ⟨ds, vs, h1, h2, h3, h4⟩ := r.own i z
      rw [h1] at e
      cases e
      refine ⟨_, h2, .lst (xs := vs) (.inl (.inl ?_)) (h4.mono (frz_less h))⟩
      rw [frz_at]
      · exact h3
      · rintro (⟨j, hj, e⟩ | ⟨e, _⟩)
        · exact hi (r.inj _ _ (h j hj) z e ▸ hj)
        · rw [r.nb i z] at e; cases e
    · obtain ⟨v, h1, h2⟩ := r.val i d z e
      exact ⟨v, h1, h2.mono (frz_less h)⟩
  · obtain ⟨ds, vs, h1, h2, h3, h4⟩ := r.own i (h i hi)
    exact ⟨ds, vs, h1, h2, h3, h4.mono (frz_less h)⟩
theorem rs_pre {st : Stmt} {f : SS} {O1 O' : List Nat} (h : RS X io fr OL O1 O' st f) (hs : ∀ i, i ∈ O1 → i ∈ O := by decide) : RS X io fr OL O O' st f :=
  PS.imp h fun E σ H q => by
    obtain ⟨F, t, o, r, e, q⟩ := q
    exact ⟨F, t, o, r.less hs, e, q⟩
theorem rss_pre {st : List Stmt} {f : SS} {O1 O' : List Nat} (h : RSs X io fr OL O1 O' st f) (hs : ∀ i, i ∈ O1 → i ∈ O := by decide) : RSs X io fr OL O O' st f :=
  PSs.imp h fun E σ H q => by
    obtain ⟨F, t, o, r, e, q⟩ := q
    exact ⟨F, t, o, r.less hs, e, q⟩
theorem Post.less {K : PySem.W.Frag} {O1 O2 : List Nat} {F : Fr} {E : Ends} {o : Out} (hs : ∀ i, i ∈ O2 → i ∈ O1) (h : Post K io fr OL O2 F E o) : Post K io fr OL O1 F E o := by
  cases o with
  | nx t => exact fun F2 σ H l2 r => h F2 σ H l2 (r.less hs)
  | _ => exact h
theorem rss_post {st : List Stmt} {f : SS} {O1 O2 : List Nat} (h : RSs X io fr OL O O1 st f) (hs : ∀ i, i ∈ O2 → i ∈ O1 := by decide) : RSs X io fr OL O O2 st f :=
  PSs.imp h fun E σ H q => by
    obtain ⟨F, t, o, r, e, q⟩ := q
    exact ⟨F, t, o, r, e, q.less hs⟩
def kNil : SS := fun t => some (.nx t)
def kSeq (f g : SS) : SS := fun t => (f t).bind fun o => match o with | .nx t1 => g t1 | .bk t1 => some (.bk t1) | .ct t1 => some (.ct t1) | .rt d t1 => some (.rt d t1)
theorem rss_nil : RSs X io fr OL O O [] kNil := PSs.imp pss_nil fun E σ H q => by
  obtain ⟨F, t, o, r, e, q⟩ := q
  cases e
  exact q F σ H .refl r
theorem rss_cons {st : Stmt} {sts : List Stmt} {f g : SS} {O1 O2 : List Nat} (h1 : RS X io fr OL O O1 st f) (h2 : RSs X io fr OL O1 O2 sts g) : RSs X io fr OL O O2 (st :: sts) (kSeq f g) := PSs.imp (pss_cons h1 h2) fun E σ H q => by
  obtain ⟨F, t, o, r, e, q⟩ := q
  obtain ⟨o1, z1, e⟩ := Option.bind_eq_some_iff.mp e
  refine ⟨F, t, o1, r, z1, ?_⟩
  cases o1 with
  | nx t1 => exact fun F1 σ1 H1 l1 r1 => ⟨F1, t1, o, r1, e, q.mono l1⟩
  | bk t1 => cases e; exact q
  | ct t1 => cases e; exact q
  | rt d t1 => cases e; exact q
theorem rss_one {st : Stmt} {f : SS} {O1 : List Nat} (h1 : RS X io fr OL O O1 st f) : RSs X io fr OL O O1 [st] f := pss_one h1
theorem rs_pass {pos : Pos} : RS X io fr OL O O (.Pass pos) kNil := PS.imp ps_pass fun E σ H q => by
  obtain ⟨F, t, o, r, e, q⟩ := q
  cases e
  exact q F σ H .refl r
def kBk : SS := fun t => some (.bk t)
def kCt : SS := fun t => some (.ct t)
theorem rs_break {pos : Pos} (hs : ∀ i, i ∈ OL → i ∈ O := by decide) : RS X io fr OL O O (.Break pos) kBk := PS.imp ps_break fun E σ H q => by
  obtain ⟨F, t, o, r, e, q⟩ := q
  cases e
  exact q F σ H .refl (r.less hs)
theorem rs_continue {pos : Pos} (hs : ∀ i, i ∈ OL → i ∈ O := by decide) : RS X io fr OL O O (.Continue pos) kCt := PS.imp ps_continue fun E σ H q => by
  obtain ⟨F, t, o, r, e, q⟩ := q
  cases e
  exact q F σ H .refl (r.less hs)
/-- a statement the data never comes to -/
def kNever : SS := fun _ => none
theorem rs_never {st : Stmt} {O1 : List Nat} : RS X io fr OL O O1 st kNever := PS.imp ps_never fun E σ H q => by
  obtain ⟨F, t, o, r, e, q⟩ := q
  cases e
def kDrop (f : SE) : SS := fun t => (f t).bind fun r => some (.nx r.2)
theorem rs_expr {e : Expr} {f : SE} {pos : Pos} (he : RE X O e f) (hs : swapsWith e none pos.line X.env = pure false := by rfl) : RS X io fr OL O O (.Expr e pos) (kDrop f) := PS.imp (ps_expr he hs) fun E σ H q => by
  obtain ⟨F, t, o, r, e, q⟩ := q
  obtain ⟨⟨d1, t1⟩, z1, e⟩ := Option.bind_eq_some_iff.mp e
  cases e
  exact ⟨F, t, d1, t1, r, z1, fun v H1 r1 s1 p1 => q F σ H1 .refl r1⟩
def kSet (i : Nat) (f : SE) : SS := fun t => (f t).bind fun r => some (.nx (r.2.set i (some r.1)))
theorem rs_set (i : Nat) {x : Str} {e : Expr} {f : SE} {pos' pos : Pos} (hN : X.N.Nodup) (he : RE X O e f) (hO : i ∉ O := by decide) (hi : X.N[i]? = some x := by rfl) (hx : Loc X.env.scope x := by first | exact Or.inl rfl | exact Or.inr rfl) (hs : swapsWith e (some (.Name x pos')) pos.line X.env = pure false := by rfl)
    (hf : X.fn x = true ∨ X.env.scope.names.lookup x = some .local := by first | exact .inl rfl | exact .inr rfl | assumption) : RS X io fr OL O O (.Assign [.Name x pos'] e pos) (kSet i f) := PS.imp (ps_set hN hi hx he hs hf) fun E σ H q => by
  obtain ⟨F, t, o, r, e, q⟩ := q
  obtain ⟨⟨d1, t1⟩, z1, e⟩ := Option.bind_eq_some_iff.mp e
  cases e
  exact ⟨F, t, d1, t1, r, z1, fun v H1 r1 s1 p1 => q F _ H1 .refl (r1.set hO p1)⟩
/-- a new list comes to a slot of its own -/
theorem Rep.newOwn {K : PySem.W.Frag} {F : Fr} {t : DSt} {σ : L2.St} {H : Hp} {i : Nat} {p : Addr} {vs : List V} {ds : List D} (r : Rep K O F t σ (del H p)) (hi : i ∉ O) (hil : i < t.length) (hp : H p = some (.lst vs)) (h : DpAll K (frz F O (del H p)) vs ds) :
    Rep K (i :: O) ⟨fun j => if j = i then p else F.P j, F.B, F.S⟩ (t.set i (some (.list ds))) (σ.set i (some (.ref p))) H := by
  have hO : ∀ j, j ∈ O → j ≠ i := fun j hj z => hi (z ▸ hj)
  have nB := r.nB (p := p) del_self
  have nP := r.nP (p := p) del_self
  have hidE : ∀ a, hid ⟨fun j => if j = i then p else F.P j, F.B, F.S⟩ (i :: O) a ↔ hid F O a ∨ a = p := fun a => by
    constructor
    · rintro (⟨j, hj, e⟩ | h)
      · dsimp only at e
        by_cases z : j = i
        · rw [if_pos z] at e; exact .inr e.symm
        · rw [if_neg z] at e
          exact .inl (.inl ⟨j, (List.mem_cons.mp hj).resolve_left z, e⟩)
      · exact .inl (.inr h)
    · rintro ((⟨j, hj, e⟩ | h) | e)
      · exact .inl ⟨j, List.mem_cons_of_mem _ hj, by dsimp only; rw [if_neg (hO j hj)]; exact e⟩
      · exact .inr h
      · exact .inl ⟨i, List.mem_cons_self, by dsimp only; rw [if_pos rfl]; exact e.symm⟩
  have hf : frz ⟨fun j => if j = i then p else F.P j, F.B, F.S⟩ (i :: O) H = frz F O (del H p) := by
    funext a
    by_cases e : a = p
    · rw [frz_none ((hidE a).mpr (.inr e))]
      by_cases q : hid F O a
      · rw [frz_none q]
      · rw [frz_at q, e, del_self]
    · by_cases q : hid F O a
      · rw [frz_none q, frz_none ((hidE a).mpr (.inl q))]
      · rw [frz_at q, frz_at (fun z => ((hidE a).mp z).elim q e), del_ne e]
  refine ⟨by rw [List.length_set, List.length_set]; exact r.len, fun j d hj e => ?_, fun j hj => ?_, fun j k hj hk e => ?_, fun a o e => del_same _ _ _ _ (r.keep a o e), fun j hj => ?_⟩
  · have z : j ≠ i := fun z => hj (z ▸ List.mem_cons_self)
    rw [List.getElem?_set_ne (Ne.symm z)] at e
    rw [List.getElem?_set_ne (Ne.symm z), hf]
    exact r.val j d (fun q => hj (List.mem_cons_of_mem _ q)) e
  · rw [hf]
    by_cases z : j = i
    · subst z
      refine ⟨ds, vs, by rw [List.getElem?_set_self hil], ?_, ?_, h⟩
      · rw [List.getElem?_set_self (by rw [← r.len]; exact hil)]
        dsimp only
        rw [if_pos rfl]
      · dsimp only
        rw [if_pos rfl]; exact hp
    · obtain ⟨es, us, h1, h2, h3, h4⟩ := r.own j ((List.mem_cons.mp hj).resolve_left z)
      refine ⟨es, us, by rw [List.getElem?_set_ne (Ne.symm z)]; exact h1, ?_, ?_, h4⟩
      · rw [List.getElem?_set_ne (Ne.symm z)]
        dsimp only
        rw [if_neg z]; exact h2
      · dsimp only
        rw [if_neg z]; exact del_same _ _ _ _ h3
  · dsimp only at e
    by_cases zj : j = i
    · by_cases zk : k = i
      · rw [zj, zk]
      · rw [if_pos zj, if_neg zk] at e
        exact absurd e.symm (nP k ((List.mem_cons.mp hk).resolve_left zk))
    · by_cases zk : k = i
      · rw [if_neg zj, if_pos zk] at e
        exact absurd e (nP j ((List.mem_cons.mp hj).resolve_left zj))
      · rw [if_neg zj, if_neg zk] at e
        exact r.inj _ _ ((List.mem_cons.mp hj).resolve_left zj) ((List.mem_cons.mp hk).resolve_left zk) e
  · dsimp only
    by_cases z : j = i
    · rw [if_pos z]; exact nB
    · rw [if_neg z]; exact r.nb j ((List.mem_cons.mp hj).resolve_left z)
def kOwn (i : Nat) (f : SE) : SS := fun t => (f t).bind fun r => match r.1 with | .list ds => if i < r.2.length then some (.nx (r.2.set i (some (.list ds)))) else none | _ => none
theorem own_run {te : TE} {K : PySem.W.Frag} {i : Nat} {f : SE} {E : Ends} {σ : L2.St} {H : Hp} (hO : i ∉ O) (hio : i ∉ io) (hte : ∀ σ H Q, tF K O f σ H Q → te σ H Q) (q : tS K io fr OL O (i :: O) (kOwn i f) E σ H) : tAsg te (gName i) E σ H := by
  obtain ⟨F, t, o, r, e, q⟩ := q
  obtain ⟨⟨d1, t1⟩, z1, e⟩ := Option.bind_eq_some_iff.mp e
  dsimp only at e
  cases d1 with
  | list ds =>
    dsimp only at e
    split at e
    · rename_i hl
      cases e
      refine hte _ _ _ ⟨F, t, ds, t1, r, z1, fun p vs H1 r1 s1 hp hd => ?_⟩
      refine q ⟨fun j => if j = i then p else F.P j, F.B, F.S⟩ _ H1 ⟨rfl, rfl, fun j hj => ?_⟩ (r1.newOwn hO hl hp hd)
      dsimp only
      rw [if_neg]
      rintro rfl
      exact hio hj
    · cases e
  | _ => cases e
theorem rs_own (i : Nat) {x : Str} {e : Expr} {f : SE} {pos' pos : Pos} (hN : X.N.Nodup) (he : RF X O e f) (hO : i ∉ O := by decide) (hio : i ∉ io := by decide) (hi : X.N[i]? = some x := by rfl) (hx : Loc X.env.scope x := by first | exact Or.inl rfl | exact Or.inr rfl) (hs : swapsWith e (some (.Name x pos')) pos.line X.env = pure false := by rfl)
    (hf : X.fn x = true ∨ X.env.scope.names.lookup x = some .local := by first | exact .inl rfl | exact .inr rfl | assumption) : RS X io fr OL O (i :: O) (.Assign [.Name x pos'] e pos) (kOwn i f) := PS.imp (ps_set hN hi hx he hs hf) fun E σ H q => own_run hO hio (fun _ _ _ h => h) q
def kAsg (f : SE) (g : SG) : SS := fun t => (f t).bind fun r => (g r.1 r.2).bind fun t' => some (.nx t')
theorem rs_asg {ws : List Nat} {tg e : Expr} {f : SE} {g : SG} {pos : Pos} (he : RE X O e f) (hg : RG X O ws tg g) (hs : swapsWithSole [tg] e pos.line X.env = pure false := by rfl) (hw : swappedStores [tg] e X.env = pure none := by rfl) (h1 : (assignEach [tg] X.env).map (·.2) = [assign tg X.env] := by rfl) :
    RS X io fr OL O O (.Assign [tg] e pos) (kAsg f g) := PS.imp (ps_asg he hg hs hw h1) fun E σ H q => by
  obtain ⟨F, t, o, r, e, q⟩ := q
  obtain ⟨⟨d1, t1⟩, z1, e⟩ := Option.bind_eq_some_iff.mp e
  obtain ⟨t2, z2, e⟩ := Option.bind_eq_some_iff.mp e
  cases e
  exact ⟨F, t, d1, t1, r, z1, fun v H1 r1 s1 p1 => ⟨F, t1, d1, t2, r1, p1, z2, fun σ2 H2 r2 s2 _ => q F σ2 H2 .refl r2⟩⟩
def kPar (i j : Nat) (fs : SA) : SS := fun t => (fs t).bind fun r => match r.1 with | [d, e] => some (.nx ((r.2.set i (some d)).set j (some e))) | _ => none
theorem rs_par (i j : Nat) {x y : Str} {a b : Expr} {fs : SA} {px py pt : Pos} {kt k2 pt2} {pos : Pos} (hN : X.N.Nodup) (ha : RA X O [a, b] fs) (hOi : i ∉ O := by decide) (hOj : j ∉ O := by decide) (hc : X.calm = true := by rfl) (hi : X.N[i]? = some x := by rfl) (hj : X.N[j]? = some y := by rfl) (hij : i ≠ j := by decide)
    (hx : X.env.scope.names.lookup x = some .local := by rfl) (hy : X.env.scope.names.lookup y = some .local := by rfl)
    (hw : swappedStores [.Tuple [.Name x px, .Name y py] kt pt] (.Tuple [a, b] k2 pt2) X.env = pure (some [x, y]) := by rfl)
    (hs : swapsWithSole [.Tuple [.Name x px, .Name y py] kt pt] (.Tuple [a, b] k2 pt2) pos.line X.env = pure false := by rfl) :
    RS X io fr OL O O (.Assign [.Tuple [.Name x px, .Name y py] kt pt] (.Tuple [a, b] k2 pt2) pos) (kPar i j fs) := PS.imp (ps_par hc hN hi hj hij hx hy ha hw hs) fun E σ H q => by
  obtain ⟨F, t, o, r, e, q⟩ := q
  obtain ⟨⟨d1, t1⟩, z1, e⟩ := Option.bind_eq_some_iff.mp e
  dsimp only at e
  refine ⟨F, t, d1, t1, r, z1, fun v H1 r1 s1 p1 => ?_⟩
  match d1, e, p1 with
  | [d, e'], rfl, p1 =>
    obtain ⟨v1, v2, rfl, w1, w2⟩ := DpAll.two p1
    exact ⟨v1, v2, rfl, q F _ H1 .refl ((r1.set hOi w1).set hOj w2)⟩
def kIf (c : SB) (f g : SS) : SS := fun t => (c t).bind fun r => match r.1 with | true => f r.2 | false => g r.2
theorem rs_if {c : Expr} {a b : List Stmt} {fc : SB} {f g : SS} {O' : List Nat} {pos : Pos} (hc : RT X O c fc) (ha : RSs X io fr OL O O' a f) (hb : RSs X io fr OL O O' b g) : RS X io fr OL O O' (.If c a b pos) (kIf fc f g) := PS.imp (ps_if hc ha hb) fun E σ H q => by
  obtain ⟨F, t, o, r, e, q⟩ := q
  obtain ⟨⟨d1, t1⟩, z1, e⟩ := Option.bind_eq_some_iff.mp e
  refine ⟨F, t, d1, t1, r, z1, fun H1 r1 s1 => ?_⟩
  cases d1 with
  | true => exact iteT ⟨F, t1, o, r1, e, q⟩
  | false => exact iteF ⟨F, t1, o, r1, e, q⟩
def kRet (f : SE) : SS := fun t => (f t).bind fun r => some (.rt r.1 r.2)
theorem rs_ret {e : Expr} {f : SE} {O' : List Nat} {pos : Pos} (he : RE X O e f) (hs : ∀ i, i ∈ io → i ∈ O := by decide) : RS X io false OL O O' (.Return (some e) pos) (kRet f) := PS.imp (ps_ret he) fun E σ H q => by
  obtain ⟨F, t, o, r, e, q⟩ := q
  obtain ⟨⟨d1, t1⟩, z1, e⟩ := Option.bind_eq_some_iff.mp e
  cases e
  exact ⟨F, t, d1, t1, r, z1, fun v H1 r1 s1 p1 => q F v σ H1 .refl (r1.less hs) (p1.mono (frz_less hs))⟩
theorem rs_retF {e : Expr} {f : SE} {O' : List Nat} {pos : Pos} (he : RF X O e f) (hs : ∀ i, i ∈ io → i ∈ O := by decide) : RS X io true OL O O' (.Return (some e) pos) (kRet f) := PS.imp (ps_ret he) fun E σ H q => by
  obtain ⟨F, t, o, r, e, q⟩ := q
  obtain ⟨⟨d1, t1⟩, z1, e⟩ := Option.bind_eq_some_iff.mp e
  cases e
  obtain ⟨ds, e, q⟩ := q
  dsimp only at e
  subst e
  exact ⟨F, t, ds, t1, r, z1, fun p vs H1 r1 s1 hp hd => q F p vs σ H1 .refl (r1.less hs) hp (hd.mono (frz_less hs))⟩
def kRetN : SS := fun t => some (.rt .none t)
theorem rs_retN {O' : List Nat} {pos : Pos} (hs : ∀ i, i ∈ io → i ∈ O := by decide) : RS X io false OL O O' (.Return none pos) kRetN := PS.imp ps_retN fun E σ H q => by
  obtain ⟨F, t, o, r, e, q⟩ := q
  cases e
  exact q F _ σ H .refl (r.less hs) .non
/-- a slot is forgotten, its list set free -/
theorem Rep.drop {K : PySem.W.Frag} {F : Fr} {t : DSt} {σ : L2.St} {H : Hp} {i : Nat} (r : Rep K (i :: O) F t σ H) (hi : i ∉ O) : Rep K O F (t.set i none) σ (del H (F.P i)) ∧ frz F O (del H (F.P i)) = frz F (i :: O) H := by
  have hf : frz F O (del H (F.P i)) = frz F (i :: O) H := by
    funext a
    by_cases e : a = F.P i
    · rw [frz_none (O := i :: O) (.inl ⟨i, List.mem_cons_self, e.symm⟩)]
      by_cases q : hid F O a
      · rw [frz_none q]
      · rw [frz_at q, e, del_self]
    · by_cases q : hid F O a
      · rw [frz_none q, frz_none]
        rcases q with ⟨j, hj, z⟩ | q
        · exact .inl ⟨j, List.mem_cons_of_mem _ hj, z⟩
        · exact .inr q
      · rw [frz_at q, frz_at, del_ne e]
        rintro (⟨j, hj, z⟩ | z)
        · rcases List.mem_cons.mp hj with y | y
          · exact e (y ▸ z.symm)
          · exact q (.inl ⟨j, y, z⟩)
        · exact q (.inr z)
  refine ⟨⟨by rw [List.length_set]; exact r.len, fun j d hj e => ?_, fun j hj => ?_, fun j k hj hk => r.inj j k (List.mem_cons_of_mem _ hj) (List.mem_cons_of_mem _ hk), fun a o e => ?_, fun j hj => r.nb j (List.mem_cons_of_mem _ hj)⟩, hf⟩
  · by_cases z : j = i
    · subst z
      have hl : j < t.length := by
        have := (List.getElem?_eq_some_iff.mp e).1
        rwa [List.length_set] at this
      rw [List.getElem?_set_self hl] at e
      cases e
    · rw [List.getElem?_set_ne (Ne.symm z)] at e
      rw [hf]
      exact r.val j d (fun q => (List.mem_cons.mp q).elim z hj) e
  · have z : j ≠ i := fun z => hi (z ▸ hj)
    obtain ⟨ds, vs, h1, h2, h3, h4⟩ := r.own j (List.mem_cons_of_mem _ hj)
    refine ⟨ds, vs, by rw [List.getElem?_set_ne (Ne.symm z)]; exact h1, h2, ?_, by rw [hf]; exact h4⟩
    rw [del_ne (fun e => z (r.inj _ _ (List.mem_cons_of_mem _ hj) List.mem_cons_self e))]
    exact h3
  · rw [del_ne (fun z => by rw [z, r.nb i List.mem_cons_self] at e; cases e)]
    exact r.keep a o e
def kRetO (i : Nat) : SS := fun t => (ownL t i).bind fun c => some (.rt (.list c) (t.set i none))
theorem rs_retO (i : Nat) {x : Str} {O1 O' : List Nat} {pos pos' : Pos} (hO1 : ∀ j, j ∈ i :: O1 → j ∈ O := by decide) (hi : i ∉ O1 := by decide) (hs : ∀ j, j ∈ io → j ∈ O1 := by decide) (hN : X.N[i]? = some x := by rfl) (hv : Vis X.env.scope x := by first | exact Or.inl rfl | exact Or.inr (Or.inl rfl) | exact Or.inr (Or.inr rfl)) (hd : (x == ("__debug__" : Str)) = false := by decide) (hcd : (x == ("__classdict__" : Str)) = false := by decide) :
    RS X io true OL O O' (.Return (some (.Name x pos')) pos) (kRetO i) := PS.imp (ps_ret (pe_var hN hv hd hcd)) fun E σ H q => by
  obtain ⟨F, t, o, r, e, q⟩ := q
  obtain ⟨c, z1, e⟩ := Option.bind_eq_some_iff.mp e
  cases e
  have r1 := r.less hO1
  obtain ⟨h1, vs, h2, h3⟩ := r1.getOwn List.mem_cons_self (ownL_eq z1)
  obtain ⟨r2, e2⟩ := r1.drop hi
  obtain ⟨ds, e, q⟩ := q
  cases e
  exact ⟨_, h1, q F _ vs σ H .refl (r2.less hs) h2 (by rw [← e2] at h3; exact h3.mono (frz_less hs))⟩
end
end PD

namespace PD
open PySem L2
/-! ### what is walked -/
section
variable {X : Cx} {O : List Nat}
/-- the data of a walk, while what G holds stands -/
def WkD (K : PySem.W.Frag) (G : Hp) (J : It) (ds : List D) : Prop := ∃ (Gd : Hp → Prop) (Y : Nat → Hp → V → Hp → Prop), Walk J ds.length Gd Y ∧ (∀ H, Same G H → Gd H) ∧
  ∀ i x H H', i < ds.length → Same G H → Y i H x H' → Same H H' ∧ ∀ O F t σ d, ds[i]? = some d → Rep K O F t σ H → Same G (frz F O H) → Dp K (frz F O H') x d
noncomputable def tI (K : PySem.W.Frag) (O : List Nat) (f : SA) : TI := fun σ H R => ∃ F t ds t', Rep K O F t σ H ∧ f t = some (ds, t') ∧ ∀ J H', Rep K O F t' σ H' → Same (frz F O H) (frz F O H') → WkD K (frz F O H') J ds → R J H'
theorem PI.imp {X : Cx} {tg e : Expr} {t t' : TI} (h : PI X tg e t) (i : ∀ σ H Q, t' σ H Q → t σ H Q) : PI X tg e t' := ⟨fun pins s σ H Q I q => h.run pins s σ H Q I (i _ _ _ q)⟩
abbrev RI (X : Cx) (O : List Nat) (tg e : Expr) (f : SA) : Prop := PI X tg e (tI X.K O f)
variable {tg : Expr}
theorem wk_list {K : PySem.W.Frag} {G : Hp} {a : Addr} {xs : List V} {ds : List D} (h : SqL K G a xs) (p : DpAll K G xs ds) : WkD K G (Itl K a) ds := by
  refine ⟨_, YAt xs, ?_, fun H s => s.seq h, fun i x H H' hi s y => ?_⟩
  · rw [← p.len]; exact walk_list
  · obtain ⟨rfl, y⟩ := y
    refine ⟨Same.refl _, fun O F t σ d e r s2 => ?_⟩
    obtain ⟨d', h1, h2⟩ := p.getV y
    rw [e] at h1; cases h1
    exact h2.mono s2
theorem wk_tup {K : PySem.W.Frag} {G : Hp} {a : Addr} {xs : List V} {ds : List D} (h : SqT K G a xs) (p : DpAll K G xs ds) : WkD K G (Itt K a) ds := by
  refine ⟨_, YAt xs, ?_, fun H s => SqT.same s h, fun i x H H' hi s y => ?_⟩
  · rw [← p.len]; exact walk_tup
  · obtain ⟨rfl, y⟩ := y
    refine ⟨Same.refl _, fun O F t σ d e r s2 => ?_⟩
    obtain ⟨d', h1, h2⟩ := p.getV y
    rw [e] at h1; cases h1
    exact h2.mono s2
/-- over a list, over a tuple -/
def wL (f : SE) : SA := fun t => (f t).bind fun r => match r.1 with | .list ds => some (ds, r.2) | _ => none
def wT (f : SE) : SA := fun t => (f t).bind fun r => match r.1 with | .tuple ds => some (ds, r.2) | _ => none
theorem ri_list {e : Expr} {f : SE} (h : RE X O e f) : RI X O tg e (wL f) := PI.imp (pi_list h) fun σ H R q => by
  obtain ⟨F, t, d, t', r, e, q⟩ := q
  obtain ⟨⟨d1, t1⟩, z1, e⟩ := Option.bind_eq_some_iff.mp e
  refine ⟨F, t, d1, t1, r, z1, fun v H1 r1 s1 p1 => ?_⟩
  cases d1 with
  | list ds =>
    cases e
    obtain ⟨a, xs, rfl, h1, q1⟩ := p1.lst_inv
    exact ⟨a, rfl, ⟨xs, frz_same.seq h1⟩, q _ H1 r1 s1 (wk_list h1 q1)⟩
  | _ => cases e
theorem ri_tup {e : Expr} {f : SE} (h : RE X O e f) : RI X O tg e (wT f) := PI.imp (pi_tup h) fun σ H R q => by
  obtain ⟨F, t, d, t', r, e, q⟩ := q
  obtain ⟨⟨d1, t1⟩, z1, e⟩ := Option.bind_eq_some_iff.mp e
  refine ⟨F, t, d1, t1, r, z1, fun v H1 r1 s1 p1 => ?_⟩
  cases d1 with
  | tuple ds =>
    cases e
    obtain ⟨a, xs, rfl, h1, q1⟩ := p1.tup_inv
    exact ⟨a, rfl, ⟨xs, SqT.same frz_same h1⟩, q _ H1 r1 s1 (wk_tup h1 q1)⟩
  | _ => cases e
/-- over a list or a tuple: whichever it is -/
def iSeq (K : PySem.W.Frag) (tl : TE) : TI := fun σ H R => tl σ H fun x H1 => ∃ a, x = .ref a ∧ (((∃ xs, SqL K H1 a xs) ∧ R (Itl K a) H1) ∨ ((∃ xs, SqT K H1 a xs) ∧ R (Itt K a) H1))
theorem pi_seq {l : Expr} {tl : TE} (hl : PE X l tl) : PI X tg l (iSeq X.K tl) := by
  refine ⟨fun pins s σ H R I h => ?_⟩
  refine thn (hl.run pins s σ H _ I h) fun v s1 ⟨x, H1, I1, r1, q1⟩ => ?_
  obtain ⟨a, e, ⟨⟨xs, hq⟩, q⟩ | ⟨⟨xs, hq⟩, q⟩⟩ := q1
  · subst e
    cases r1
    obtain ⟨its, rv, p, hz⟩ := I1.list hq
    refine PySem.wpAny_pyIter_list p.isList ?_
    refine ⟨s1.heap.objs.size, [s1.heap.objs.size], _, _, H1, rfl, I1.kept (t' := s1.toks) fun b o e => Heap.get?_push_of_some _ e, turn_list a _, ⟨_, Heap.get?_push_size _ rfl, rfl, rfl⟩, fun b hb => ?_, q⟩
    have e : b = s1.heap.objs.size := by simpa using hb
    subst e
    exact I1.fpOk (Nat.le_refl _) (I1.hok.fresh (Nat.le_refl _))
  · subst e
    cases r1
    obtain ⟨its, rv, p, hz⟩ := I1.tuple hq
    refine PySem.wpAny_pyIter_tuple (show s1.heap.IsTuple a its.toArray from p) ?_
    refine ⟨s1.heap.objs.size, [s1.heap.objs.size], _, _, H1, rfl, I1.kept (t' := s1.toks) fun b o e => Heap.get?_push_of_some _ e, turn_tuple a _, ⟨_, Heap.get?_push_size _ rfl, rfl, rfl⟩, fun b hb => ?_, q⟩
    have e : b = s1.heap.objs.size := by simpa using hb
    subst e
    exact I1.fpOk (Nat.le_refl _) (I1.hok.fresh (Nat.le_refl _))
def seqD : D → Option (List D) | .list ds => some ds | .tuple ds => some ds | _ => none
def wS (f : SE) : SA := fun t => (f t).bind fun r => (seqD r.1).bind fun ds => some (ds, r.2)
theorem ri_seq {e : Expr} {f : SE} (h : RE X O e f) : RI X O tg e (wS f) := PI.imp (pi_seq h) fun σ H R q => by
  obtain ⟨F, t, d, t', r, e, q⟩ := q
  obtain ⟨⟨d1, t1⟩, z1, e⟩ := Option.bind_eq_some_iff.mp e
  obtain ⟨ds, z2, e⟩ := Option.bind_eq_some_iff.mp e
  cases e
  refine ⟨F, t, d1, t1, r, z1, fun v H1 r1 s1 p1 => ?_⟩
  dsimp only at z2
  cases d1 with
  | list ds =>
    cases z2
    obtain ⟨a, xs, rfl, h1, q1⟩ := p1.lst_inv
    exact ⟨a, rfl, .inl ⟨⟨xs, frz_same.seq h1⟩, q _ H1 r1 s1 (wk_list h1 q1)⟩⟩
  | tuple ds =>
    cases z2
    obtain ⟨a, xs, rfl, h1, q1⟩ := p1.tup_inv
    exact ⟨a, rfl, .inr ⟨⟨xs, SqT.same frz_same h1⟩, q _ H1 r1 s1 (wk_tup h1 q1)⟩⟩
  | _ => cases z2
/-- range -/
def rng (lo : Int) (n : Nat) : List D := (List.range n).map fun i => .int (lo + (i : Nat))
theorem rng_len (lo : Int) (n : Nat) : (rng lo n).length = n := by unfold rng; rw [List.length_map, List.length_range]
theorem wk_range {K : PySem.W.Frag} {G : Hp} {lo : Int} {n : Nat} : WkD K G (Itr lo n) (rng lo n) := by
  refine ⟨fun _ => True, YFn fun i => .int (lo + (i : Nat)), ?_, fun _ _ => trivial, fun i x H H' hi s y => ?_⟩
  · rw [rng_len]; exact walk_range
  · obtain ⟨rfl, rfl⟩ := y
    refine ⟨Same.refl _, fun O F t σ d e r s2 => ?_⟩
    rw [rng_len] at hi
    have : d = .int (lo + (i : Nat)) := by
      unfold rng at e
      rw [List.getElem?_map, List.getElem?_range hi] at e
      cases e; rfl
    subst this
    exact .int _
def small62 (i : Int) : Bool := decide (-(2 ^ 62) ≤ i) && decide (i < 2 ^ 62)
theorem small62_ok {i : Int} (h : small62 i = true) : -(2 ^ 62) ≤ i ∧ i < 2 ^ 62 := by
  have h := Bool.and_eq_true_iff.mp h
  exact ⟨of_decide_eq_true h.1, of_decide_eq_true h.2⟩
def rng1 : List D → Option (List D)
  | [.int j] => if small62 j = true then some (rng 0 j.toNat) else none
  | _ => none
def rng2 : List D → Option (List D)
  | [.int i, .int j] => if (small62 i && small62 j) = true then some (rng i (j - i).toNat) else none
  | _ => none
def wR1 (fs : SA) : SA := fun t => (fs t).bind fun r => (rng1 r.1).bind fun ds => some (ds, r.2)
def wR2 (fs : SA) : SA := fun t => (fs t).bind fun r => (rng2 r.1).bind fun ds => some (ds, r.2)
theorem ri_range1 {a : Expr} {fs : SA} {p pos : Pos} (hm : X.mg "range" = none) (ha : RA X O [a] fs) (hg : Gl X "range" := by rfl) (hs : starEach [a] X.env = [(false, eval a X.env)] := by rfl) : RI X O tg (.Call (.Name "range" p) [a] [] pos) (wR1 fs) := PI.imp (pi_range1 hg hm ha hs) fun σ H R q => by
  obtain ⟨F, t, d, t', r, e, q⟩ := q
  obtain ⟨⟨d1, t1⟩, z1, e⟩ := Option.bind_eq_some_iff.mp e
  obtain ⟨ds, z2, e⟩ := Option.bind_eq_some_iff.mp e
  cases e
  refine ⟨F, t, d1, t1, r, z1, fun v H1 r1 s1 p1 => ?_⟩
  unfold rng1 at z2
  split at z2
  · split at z2
    · rename_i h1 h2
      cases z2
      dsimp only at h1
      subst h1
      obtain ⟨w, rfl, w0⟩ := DpAll.one p1
      obtain ⟨k1, k2⟩ := small62_ok h2
      exact ⟨_, by rw [w0.int_inv], k1, k2, q _ H1 r1 s1 wk_range⟩
    · cases z2
  · cases z2
theorem ri_range2 {a b : Expr} {fs : SA} {p pos : Pos} (hm : X.mg "range" = none) (ha : RA X O [a, b] fs) (hg : Gl X "range" := by rfl) (hs : starEach [a, b] X.env = [(false, eval a X.env), (false, eval b X.env)] := by rfl) (hs2 : starEach [b] X.env = [(false, eval b X.env)] := by rfl) : RI X O tg (.Call (.Name "range" p) [a, b] [] pos) (wR2 fs) := PI.imp (pi_range2 hg hm ha hs hs2) fun σ H R q => by
  obtain ⟨F, t, d, t', r, e, q⟩ := q
  obtain ⟨⟨d1, t1⟩, z1, e⟩ := Option.bind_eq_some_iff.mp e
  obtain ⟨ds, z2, e⟩ := Option.bind_eq_some_iff.mp e
  cases e
  refine ⟨F, t, d1, t1, r, z1, fun v H1 r1 s1 p1 => ?_⟩
  unfold rng2 at z2
  split at z2
  · split at z2
    · rename_i h1 h2
      cases z2
      dsimp only at h1
      subst h1
      obtain ⟨w, w', rfl, w0, w1⟩ := DpAll.two p1
      have h2' := Bool.and_eq_true_iff.mp h2
      obtain ⟨k1, k2⟩ := small62_ok h2'.1
      obtain ⟨k3, k4⟩ := small62_ok h2'.2
      exact ⟨_, _, by rw [w0.int_inv, w1.int_inv], ⟨k1, k2, k3, k4⟩, q _ H1 r1 s1 wk_range⟩
    · cases z2
  · cases z2
/-- new pairs -/
theorem wk_pair {K : PySem.W.Frag} {G : Hp} {J : It} {Gd : Hp → Prop} {n : Nat} {f g : Nat → Option V} {ds es : List D} (hn : (ds.zip es).length = n) (w : Walk J n Gd (YPair f g)) (hG : ∀ H, Same G H → Gd H)
    (hf : ∀ i d x, ds[i]? = some d → f i = some x → Dp K G x d) (hg : ∀ i d x, es[i]? = some d → g i = some x → Dp K G x d) : WkD K G J ((ds.zip es).map fun p => .tuple [p.1, p.2]) := by
  refine ⟨Gd, YPair f g, by rw [List.length_map, hn]; exact w, hG, fun i v H H' hi s y => ?_⟩
  obtain ⟨T, x, y, rfl, hT, rfl, e1, e2⟩ := y
  have s3 : Same H (upd H T (.tup [x, y])) := PD.same_upd hT
  refine ⟨s3, fun O F t σ d e r s2 => ?_⟩
  rw [List.getElem?_map] at e
  obtain ⟨⟨d1, d2⟩, h1, h2⟩ := Option.map_eq_some_iff.mp e
  subst h2
  have h1' := List.getElem?_zip_eq_some.mp h1
  refine .tup (xs := [x, y]) (.inl (.inl ?_)) (.cons ((hf i _ _ h1'.1 e1).mono (s2.trans (frz_mono s3))) (.cons ((hg i _ _ h1'.2 e2).mono (s2.trans (frz_mono s3))) .nil))
  rw [frz_at (r.fresh hT), upd_same]
def enumL (ds : List D) : List D := (((List.range ds.length).map fun i => PyData.int (i : Nat)).zip ds).map fun p => .tuple [p.1, p.2]
def wE (fs : SA) : SA := fun t => (fs t).bind fun r => match r.1 with | [.list ds] => some (enumL ds, r.2) | _ => none
theorem ri_enum {a : Expr} {fs : SA} {p pos tpos : Pos} {elts : List Expr} {kk : Nat} (hm : X.mg "enumerate" = none) (ha : RA X O [a] fs) (hg : Gl X "enumerate" := by rfl) (hs : starEach [a] X.env = [(false, eval a X.env)] := by rfl) :
    RI X O (.Tuple elts kk tpos) (.Call (.Name "enumerate" p) [a] [] pos) (wE fs) := PI.imp (pi_enum hg hm ha hs) fun σ H R q => by
  obtain ⟨F, t, d, t', r, e, q⟩ := q
  obtain ⟨⟨d1, t1⟩, z1, e⟩ := Option.bind_eq_some_iff.mp e
  refine ⟨F, t, d1, t1, r, z1, fun v H1 r1 s1 p1 => ?_⟩
  match d1, e, p1 with
  | [.list ds], rfl, p1 =>
    obtain ⟨w, rfl, w0⟩ := DpAll.one p1
    obtain ⟨a, xs, rfl, h1, q1⟩ := w0.lst_inv
    refine ⟨a, xs, rfl, frz_same.seq h1, q _ H1 r1 s1 (wk_pair (n := xs.length) ?_ walk_enum (fun H s => s.seq h1) (fun i d x e1 e2 => ?_) fun i d x e1 e2 => ?_)⟩
    · rw [List.length_zip, List.length_map, List.length_range, q1.len, Nat.min_self]
    · cases e2
      rw [List.getElem?_map] at e1
      obtain ⟨k, h1, h2⟩ := Option.map_eq_some_iff.mp e1
      subst h2
      have hk := List.getElem?_eq_some_iff.mp h1
      obtain ⟨hk1, hk2⟩ := hk
      rw [List.getElem_range] at hk2
      subst hk2
      exact .int _
    · obtain ⟨d', h1, h2⟩ := q1.getV e2
      rw [e1] at h1; cases h1
      exact h2
def zipL (ds es : List D) : List D := (ds.zip es).map fun p => .tuple [p.1, p.2]
def wZ (fs : SA) : SA := fun t => (fs t).bind fun r => match r.1 with | [.list ds, .list es] => some (zipL ds es, r.2) | [.tuple ds, .tuple es] => some (zipL ds es, r.2) | _ => none
theorem walk_zipT {K : PySem.W.Frag} {a b : Addr} {xs ys : List V} {n : Nat} (hn : n = min xs.length ys.length) : Walk (RZ.ItzT K a b) n (fun H => SqT K H a xs ∧ SqT K H b ys) (YPair (fun i => xs[i]?) (fun i => ys[i]?)) := by
  subst hn
  refine ⟨fun i _ hi q => ?_, fun _ q => ⟨xs, ys, q.1, q.2, by omega⟩, fun i H v H' _ q y => ?_⟩
  · have h1 : i < xs.length := by omega
    have h2 : i < ys.length := by omega
    exact ⟨xs, ys, xs[i], ys[i], q.1, q.2, by simp [h1], by simp [h2]⟩
  · obtain ⟨T, x, z, h1, h2, h3, h4, h5⟩ := y
    exact ⟨T, x, z, h1, h2, h3, h4 xs q.1, h5 ys q.2⟩
theorem ri_zip {a b : Expr} {fs : SA} {p pos tpos : Pos} {elts : List Expr} {kk : Nat} (hm : X.mg "zip" = none) (ha : RA X O [a, b] fs) (hg : Gl X "zip" := by rfl) (hs : starEach [a, b] X.env = (false, eval a X.env) :: starEach [b] X.env := by rfl) (hpl : (backTo pos (starEach [b] X.env)).any (·.1) = false := by rfl) :
    RI X O (.Tuple elts kk tpos) (.Call (.Name "zip" p) [a, b] [] pos) (wZ fs) := PI.imp (RZ.pi_zipA hg hm ha hs hpl) fun σ H R q => by
  obtain ⟨F, t, d, t', r, e, q⟩ := q
  obtain ⟨⟨d1, t1⟩, z1, e⟩ := Option.bind_eq_some_iff.mp e
  refine ⟨F, t, d1, t1, r, z1, fun v H1 r1 s1 p1 => ?_⟩
  match d1, e, p1 with
  | [.list ds, .list es], rfl, p1 =>
    obtain ⟨w, w', rfl, w0, w1⟩ := DpAll.two p1
    obtain ⟨a, xs, rfl, h1, q1⟩ := w0.lst_inv
    obtain ⟨b, ys, rfl, h2, q2⟩ := w1.lst_inv
    refine ⟨a, b, xs, ys, rfl, .inl ⟨frz_same.seq h1, frz_same.seq h2, q _ H1 r1 s1 (wk_pair (ds := ds) (es := es) (n := min xs.length ys.length) ?_ (walk_zip rfl) (fun H s => ⟨s.seq h1, s.seq h2⟩) (fun i d x e1 e2 => ?_) fun i d x e1 e2 => ?_)⟩⟩
    · rw [List.length_zip, q1.len, q2.len]
    · obtain ⟨d', h1, h2⟩ := q1.getV e2
      rw [e1] at h1; cases h1
      exact h2
    · obtain ⟨d', h1, h2⟩ := q2.getV e2
      rw [e1] at h1; cases h1
      exact h2
  | [.tuple ds, .tuple es], rfl, p1 =>
    obtain ⟨w, w', rfl, w0, w1⟩ := DpAll.two p1
    obtain ⟨a, xs, rfl, h1, q1⟩ := w0.tup_inv
    obtain ⟨b, ys, rfl, h2, q2⟩ := w1.tup_inv
    refine ⟨a, b, xs, ys, rfl, .inr ⟨SqT.same frz_same h1, SqT.same frz_same h2, q _ H1 r1 s1 (wk_pair (ds := ds) (es := es) (n := min xs.length ys.length) ?_ (walk_zipT rfl) (fun H s => ⟨SqT.same s h1, SqT.same s h2⟩) (fun i d x e1 e2 => ?_) fun i d x e1 e2 => ?_)⟩⟩
    · rw [List.length_zip, q1.len, q2.len]
    · obtain ⟨d', h1, h2⟩ := q1.getV e2
      rw [e1] at h1; cases h1
      exact h2
    · obtain ⟨d', h1, h2⟩ := q2.getV e2
      rw [e1] at h1; cases h1
      exact h2
end
end PD

namespace PD
open PySem L2
section
variable {X : Cx} {O : List Nat} {io OL : List Nat} {fr : Bool}
/-! ### more is kept -/
/-- what G holds is kept as well, and seen -/
def Fr.more (F : Fr) (G : Hp) : Fr := ⟨F.P, fun a => (F.B a).or (G a), fun a => !(F.B a).isSome || F.S a⟩
/-- the base is the old one again -/
def Fr.back (F F' : Fr) : Fr := ⟨F'.P, F.B, F.S⟩
theorem hid_more {F F' : Fr} {G : Hp} {O : List Nat} (hB : F'.B = (F.more G).B) (hS : F'.S = (F.more G).S) (a : Addr) : hid F' O a ↔ hid (F.back F') O a := by
  have e : ((F'.B a).isSome = true ∧ F'.S a = false) ↔ ((F.B a).isSome = true ∧ F.S a = false) := by
    rw [hB, hS]
    show (((F.B a).or (G a)).isSome = true ∧ (!(F.B a).isSome || F.S a) = false) ↔ _
    cases F.B a <;> simp
  constructor
  · rintro (h | h)
    · exact .inl h
    · exact .inr (e.mp h)
  · rintro (h | h)
    · exact .inl h
    · exact .inr (e.mpr h)
theorem frz_more {F F' : Fr} {G : Hp} {O : List Nat} (hB : F'.B = (F.more G).B) (hS : F'.S = (F.more G).S) (H : Hp) : frz F' O H = frz (F.back F') O H := by
  funext a
  by_cases q : hid F' O a
  · rw [frz_none q, frz_none ((hid_more hB hS a).mp q)]
  · rw [frz_at q, frz_at (fun z => q ((hid_more hB hS a).mpr z))]
theorem Rep.back {K : PySem.W.Frag} {F F' : Fr} {G : Hp} {t : DSt} {σ : L2.St} {H : Hp} (hB : F'.B = (F.more G).B) (hS : F'.S = (F.more G).S) (r : Rep K O F' t σ H) : Rep K O (F.back F') t σ H := by
  have bB : ∀ a o, F.B a = some o → F'.B a = some o := fun a o e => by
    rw [hB]
    show (F.B a).or (G a) = some o
    rw [e]; rfl
  refine ⟨r.len, fun i d hi e => ?_, fun i hi => ?_, r.inj, fun a o e => r.keep a o (bB a o e), fun i hi => ?_⟩
  · rw [← frz_more hB hS]; exact r.val i d hi e
  · rw [← frz_more hB hS]; exact r.own i hi
  · show F.B (F'.P i) = none
    cases q : F.B (F'.P i) with
    | none => rfl
    | some o => have := bB _ _ q; rw [r.nb i hi] at this; cases this
theorem Rep.more {K : PySem.W.Frag} {F : Fr} {t : DSt} {σ : L2.St} {H : Hp} (r : Rep K O F t σ H) : Rep K O (F.more (frz F O H)) t σ H := by
  have hf : frz (F.more (frz F O H)) O H = frz F O H := frz_more (F := F) (F' := F.more (frz F O H)) rfl rfl H
  refine ⟨r.len, fun i d hi e => ?_, fun i hi => ?_, r.inj, fun a o e => ?_, fun i hi => ?_⟩
  · rw [hf]; exact r.val i d hi e
  · rw [hf]; exact r.own i hi
  · have e : (F.B a).or (frz F O H a) = some o := e
    cases q : F.B a with
    | some u => rw [q] at e; cases e; exact r.keep a _ q
    | none => rw [q] at e; exact frz_same a o e
  · show (F.B (F.P i)).or (frz F O H (F.P i)) = none
    rw [r.nb i hi, frz_none (.inl ⟨i, hi, rfl⟩)]; rfl
theorem Rep.sees {K : PySem.W.Frag} {F F' : Fr} {G : Hp} {O' : List Nat} {t : DSt} {σ : L2.St} {H : Hp} (hG : ∀ a o, G a = some o → F.B a = none ∨ (F.B a = some o ∧ F.S a = true)) (hB : F'.B = (F.more G).B) (hS : F'.S = (F.more G).S) (r : Rep K O' F' t σ H) : Same G (frz F' O' H) := fun a o e => by
  have hb : F'.B a = some o := by
    rw [hB]
    show (F.B a).or (G a) = some o
    rcases hG a o e with q | ⟨q, _⟩
    · rw [q]; exact e
    · rw [q]; rfl
  have hs : F'.S a = true := by
    rw [hS]
    show (!(F.B a).isSome || F.S a) = true
    rcases hG a o e with q | ⟨q, q2⟩
    · rw [q]; rfl
    · rw [q2]; simp
  rw [frz_at]
  · exact r.keep a o hb
  · rintro (⟨i, hi, z⟩ | ⟨_, z⟩)
    · have := r.nb i hi
      rw [z, hb] at this; cases this
    · rw [hs] at z; cases z
theorem frz_seen {K : PySem.W.Frag} {F : Fr} {t : DSt} {σ : L2.St} {H : Hp} (r : Rep K O F t σ H) : ∀ a o, frz F O H a = some o → F.B a = none ∨ (F.B a = some o ∧ F.S a = true) := fun a o e => by
  obtain ⟨n, q⟩ := frz_some e
  cases z : F.B a with
  | none => exact .inl rfl
  | some u =>
    have := r.keep a u z
    rw [q] at this
    cases this
    refine .inr ⟨rfl, ?_⟩
    cases y : F.S a with
    | true => rfl
    | false => exact absurd (.inr ⟨by rw [z]; rfl, y⟩) n

/-! ### for -/
def forD (g : SG) (fb : SS) : List D → DSt → Option Out
  | [], t => some (.nx t)
  | d :: ds, t => (g d t).bind fun t1 => (fb t1).bind fun o => match o with
    | .nx t2 => forD g fb ds t2
    | .ct t2 => forD g fb ds t2
    | .bk t2 => some (.nx t2)
    | .rt d t2 => some (.rt d t2)
def kFor (w : SA) (g : SG) (fb : SS) : SS := fun t => (w t).bind fun r => forD g fb r.1 r.2
theorem Post.back {K : PySem.W.Frag} {F F1 : Fr} {G : Hp} {E : Ends} {O' : List Nat} {d : D} {t : DSt} (h : Post K io fr OL O' F E (.rt d t)) (l : Le io (F.more G) F1) : ∀ {OL2 O2 : List Nat} {E2 : Ends}, E2.rt = E.rt → Post K io fr OL2 O2 F1 E2 (.rt d t) := fun {OL2 O2 E2} he => by
  cases fr with
  | false =>
    intro F' v σ' H' l2 r p
    have l3 := l.trans l2
    rw [he]
    refine h (F.back F') v σ' H' ⟨rfl, rfl, fun i hi => ?_⟩ (r.back (G := G) l3.1 l3.2.1) (by rw [← frz_more (G := G) l3.1 l3.2.1]; exact p)
    exact (l3.2.2 i hi)
  | true =>
    obtain ⟨ds, e, h⟩ := h
    refine ⟨ds, e, fun F' p vs σ' H' l2 r hp hd => ?_⟩
    have l3 := l.trans l2
    rw [he]
    refine h (F.back F') p vs σ' H' ⟨rfl, rfl, fun i hi => ?_⟩ (r.back (G := G) l3.1 l3.2.1) hp (by rw [← frz_more (G := G) l3.1 l3.2.1]; exact hd)
    exact (l3.2.2 i hi)
theorem rs_for {ws : List Nat} {tg iter : Expr} {body : List Stmt} {w : SA} {g : SG} {fb : SS} {pos : Pos} (hc : X.calm = true) (hp : PassesOwn (model X.prog X.w) X.A X.env X.xe) (hi : RI X O tg iter w) (hg : RG X O ws tg g) (hb : RSs X io fr O O O body fb)
    (hs : ∀ x, foldedSetIterable iter X.env x = pure x := by intro _; rfl) : RS X io fr OL O O (.For tg iter body [] pos) (kFor w g fb) := by
  refine PS.imp (ps_for hp hc hi hg hb hs) fun E σ H q => ?_
  obtain ⟨F, t, o, r, e, q⟩ := q
  obtain ⟨⟨ds, t1⟩, z1, e⟩ := Option.bind_eq_some_iff.mp e
  refine ⟨F, t, ds, t1, r, z1, fun J H1 r1 s1 wk => ?_⟩
  obtain ⟨Gd, Y, wk, hG, hY⟩ := wk
  dsimp only at e
  have hgs := frz_seen r1
  refine for_it wk (fun i σ H => ∃ F' t', Le io (F.more (frz F O H1)) F' ∧ Rep X.K O F' t' σ H ∧ forD g fb (ds.drop i) t' = some o) ⟨F.more (frz F O H1), t1, .refl, r1.more, e⟩ (fun i σ H _ ⟨F', t', l, r', _⟩ => hG H ((r'.sees hgs l.1 l.2.1).trans frz_same)) (fun i x σ2 H2 H3 hi ⟨F', t', l, r', e'⟩ y => ?_) fun σ2 H2 ⟨F', t', l, r', e'⟩ => ?_
  · have sG := r'.sees hgs l.1 l.2.1
    obtain ⟨s3, hd⟩ := hY i x H2 H3 hi (sG.trans frz_same) y
    have ei : ds[i]? = some ds[i] := List.getElem?_eq_getElem hi
    have hx := hd O F' t' σ2 _ ei r' sG
    have e2 : ds.drop i = ds[i] :: ds.drop (i + 1) := List.drop_eq_getElem_cons hi
    rw [e2] at e'
    obtain ⟨t2, z2, e'⟩ := Option.bind_eq_some_iff.mp (show ((g ds[i] t').bind fun t1 => (fb t1).bind fun o => match o with
      | .nx t2 => forD g fb (ds.drop (i + 1)) t2
      | .ct t2 => forD g fb (ds.drop (i + 1)) t2
      | .bk t2 => some (.nx t2)
      | .rt d t2 => some (.rt d t2)) = some o from e')
    obtain ⟨o2, z3, e'⟩ := Option.bind_eq_some_iff.mp e'
    refine ⟨F', t', _, t2, r'.mono s3, hx, z2, fun σ4 H4 r4 s4 _ => ⟨F', t2, o2, r4, z3, ?_⟩⟩
    cases o2 with
    | nx t5 => exact fun F5 σ5 H5 l5 r5 => ⟨F5, t5, l.trans l5, r5, e'⟩
    | ct t5 => exact fun F5 σ5 H5 l5 r5 => ⟨F5, t5, l.trans l5, r5, e'⟩
    | bk t5 =>
      cases e'
      intro F5 σ5 H5 l5 r5
      have l6 := l.trans l5
      exact q (F.back F5) σ5 H5 ⟨rfl, rfl, fun i hi => l6.2.2 i hi⟩ (r5.back l6.1 l6.2.1)
    | rt d t5 =>
      cases e'
      exact q.back l rfl
  · rw [List.drop_length] at e'
    cases e'
    exact q (F.back F') σ2 H2 ⟨rfl, rfl, fun i hi => l.2.2 i hi⟩ (r'.back l.1 l.2.1)

/-! ### while: as many turns as the fuel -/
def whileD (c : SB) (fb : SS) : Nat → DSt → Option Out
  | 0, _ => none
  | n + 1, t => (c t).bind fun r => match r.1 with
    | false => some (.nx r.2)
    | true => (fb r.2).bind fun o => match o with
      | .nx t2 => whileD c fb n t2
      | .ct t2 => whileD c fb n t2
      | .bk t2 => some (.nx t2)
      | .rt d t2 => some (.rt d t2)
def kWhile (fuel : DSt → Nat) (c : SB) (fb : SS) : SS := fun t => whileD c fb (fuel t) t
theorem rs_while {c : Expr} {body : List Stmt} {fc : SB} {fb : SS} {pos : Pos} (fuel : DSt → Nat) (hp : PassesOwn (model X.prog X.w) X.A X.env X.xe) (hc : RT X O c fc) (hb : RSs X io fr O O O body fb) : RS X io fr OL O O (.While c body [] pos) (kWhile fuel fc fb) := by
  refine PS.imp (ps_while hp hc hb) fun E σ H q => ?_
  obtain ⟨F, t, o, r, e, q⟩ := q
  refine ⟨fun m σ H => ∃ F' t', Le io F F' ∧ Rep X.K O F' t' σ H ∧ whileD fc fb m t' = some o, ⟨fuel t, F, t, .refl, r, e⟩, ?_⟩
  rintro m σ2 H2 ⟨F', t', l, r', e'⟩
  cases m with
  | zero => cases e'
  | succ m =>
    obtain ⟨⟨b, t2⟩, z1, e'⟩ := Option.bind_eq_some_iff.mp (show ((fc t').bind fun r => match r.1 with
      | false => some (.nx r.2)
      | true => (fb r.2).bind fun o => match o with
        | .nx t2 => whileD fc fb m t2
        | .ct t2 => whileD fc fb m t2
        | .bk t2 => some (.nx t2)
        | .rt d t2 => some (.rt d t2)) = some o from e')
    refine ⟨F', t', b, t2, r', z1, fun H3 r3 s3 => ?_⟩
    cases b with
    | false =>
      cases e'
      exact iteF (q F' σ2 H3 l r3)
    | true =>
      obtain ⟨o2, z3, e'⟩ := Option.bind_eq_some_iff.mp e'
      refine iteT ⟨fun σ' H' => ∃ F'' t'', Le io F F'' ∧ Rep X.K O F'' t'' σ' H' ∧ whileD fc fb m t'' = some o, fun σ' H' h => ⟨m, Nat.lt_succ_self m, h⟩, F', t2, o2, r3, z3, ?_⟩
      cases o2 with
      | nx t5 => exact fun F5 σ5 H5 l5 r5 => ⟨F5, t5, l.trans l5, r5, e'⟩
      | ct t5 => exact fun F5 σ5 H5 l5 r5 => ⟨F5, t5, l.trans l5, r5, e'⟩
      | bk t5 => cases e'; exact fun F5 σ5 H5 l5 r5 => q F5 σ5 H5 (l.trans l5) r5
      | rt d t5 =>
        cases e'
        have q := q.mono l
        cases fr with
        | false => exact q
        | true => exact q

/-! ### comprehensions -/
def wipeD (t : DSt) : List Nat → DSt
  | [] => t
  | v :: vs => (wipeD t vs).set v none
def unwipe (t0 t : DSt) : List Nat → DSt
  | [] => t
  | v :: vs => (unwipe t0 t vs).set v (t0[v]?.getD none)
theorem wipeD_len (t : DSt) : ∀ vs, (wipeD t vs).length = t.length
  | [] => rfl
  | v :: vs => by unfold wipeD; rw [List.length_set, wipeD_len t vs]
theorem unwipe_len (t0 t : DSt) : ∀ vs, (unwipe t0 t vs).length = t.length
  | [] => rfl
  | v :: vs => by unfold unwipe; rw [List.length_set, unwipe_len t0 t vs]
theorem wipeD_some {t : DSt} {i : Nat} {d : D} : ∀ {vs : List Nat}, (wipeD t vs)[i]? = some (some d) → t[i]? = some (some d) ∧ i ∉ vs
  | [], h => ⟨h, by simp⟩
  | v :: vs, h => by
    unfold wipeD at h
    by_cases e : i = v
    · subst e
      have hl := (List.getElem?_eq_some_iff.mp h).1
      rw [List.length_set] at hl
      rw [List.getElem?_set_self hl] at h
      cases h
    · rw [List.getElem?_set_ne (Ne.symm e)] at h
      obtain ⟨h1, h2⟩ := wipeD_some h
      exact ⟨h1, by simp [e, h2]⟩
theorem wipeD_out {t : DSt} {i : Nat} : ∀ {vs : List Nat}, i ∉ vs → (wipeD t vs)[i]? = t[i]?
  | [], _ => rfl
  | v :: vs, h => by
    unfold wipeD
    have h' : i ≠ v ∧ i ∉ vs := by simpa using h
    rw [List.getElem?_set_ne (Ne.symm h'.1)]
    exact wipeD_out h'.2
theorem unwipe_out {t0 t : DSt} {i : Nat} : ∀ {vs : List Nat}, i ∉ vs → (unwipe t0 t vs)[i]? = t[i]?
  | [], _ => rfl
  | v :: vs, h => by
    unfold unwipe
    have h' : i ≠ v ∧ i ∉ vs := by simpa using h
    rw [List.getElem?_set_ne (Ne.symm h'.1)]
    exact unwipe_out h'.2
theorem unwipe_in {t0 t : DSt} (hl : t.length = t0.length) {i : Nat} {d : D} : ∀ {vs : List Nat}, i ∈ vs → (unwipe t0 t vs)[i]? = some (some d) → t0[i]? = some (some d)
  | v :: vs, h, e => by
    unfold unwipe at e
    by_cases z : i = v
    · subst z
      have hl2 := (List.getElem?_eq_some_iff.mp e).1
      rw [List.length_set] at hl2
      rw [List.getElem?_set_self hl2] at e
      cases y : t0[i]? with
      | none => rw [y] at e; cases e
      | some w => rw [y] at e; exact e
    · rw [List.getElem?_set_ne (Ne.symm z)] at e
      exact unwipe_in hl ((List.mem_cons.mp h).resolve_left z) e
theorem wipe_eq {σ σ' : L2.St} (hl : σ'.length = σ.length) : ∀ {vs : List Nat}, (∀ j, j ∉ vs → σ'[j]? = σ[j]?) → wipe σ' vs = wipe σ vs := fun {vs} h => by
  apply List.ext_getElem?
  intro i
  by_cases e : i ∈ vs
  · have key : ∀ (τ : L2.St) (vs : List Nat), i ∈ vs → (wipe τ vs)[i]? = if i < τ.length then some none else none := by
      intro τ vs
      induction vs with
      | nil => intro h; cases h
      | cons v vs ih =>
        intro h
        unfold wipe
        by_cases z : i = v
        · subst z
          by_cases hl : i < τ.length
          · rw [List.getElem?_set_self (by rw [wipe_length]; exact hl), if_pos hl]
          · rw [if_neg hl, List.getElem?_eq_none_iff]
            rw [List.length_set, wipe_length]; omega
        · rw [List.getElem?_set_ne (Ne.symm z)]
          exact ih ((List.mem_cons.mp h).resolve_left z)
    rw [key σ' vs e, key σ vs e, hl]
  · rw [wipe_out e, wipe_out e, h i e]
def compD (vs : List Nat) (g : SG) (ft : SB) (fe : SE) : List D → DSt → List D → Option (List D × DSt)
  | [], t, acc => some (acc, t)
  | d :: ds, t, acc => (g d t).bind fun t1 => (ft t1).bind fun r => match r.1 with
    | false => compD vs g ft fe ds (wipeD r.2 vs) acc
    | true => (fe r.2).bind fun y => if acc.length < sizeLine then compD vs g ft fe ds (wipeD y.2 vs) (acc ++ [y.1]) else none
def sLc (w : SA) (vs : List Nat) (g : SG) (ft : SB) (fe : SE) : SE := fun t => (w t).bind fun r => (compD vs g ft fe r.1 (wipeD r.2 vs) []).bind fun q => some (.list q.1, unwipe r.2 q.2 vs)
theorem Rep.wipe {K : PySem.W.Frag} {F : Fr} {t : DSt} {σ : L2.St} {H : Hp} (r : Rep K O F t σ H) {vs : List Nat} (hv : ∀ i, i ∈ vs → i ∉ O) : Rep K O F (wipeD t vs) (L2.wipe σ vs) H := by
  refine ⟨by rw [wipeD_len, wipe_length]; exact r.len, fun i d hi e => ?_, fun i hi => ?_, r.inj, r.keep, r.nb⟩
  · obtain ⟨h1, h2⟩ := wipeD_some e
    obtain ⟨v, h3, h4⟩ := r.val i d hi h1
    exact ⟨v, by rw [wipe_out h2]; exact h3, h4⟩
  · have : i ∉ vs := fun z => hv i z hi
    rw [wipeD_out this, wipe_out this]
    exact r.own i hi
def tYesD : SB := fun t => some (true, t)
theorem del_upd' {H : Hp} {p : Addr} {o : HO} : del (upd H p o) p = del H p := by
  funext a
  unfold del upd
  split <;> rfl
theorem Rep.unwipe {K : PySem.W.Frag} {F : Fr} {t0 t : DSt} {σ : L2.St} {H1 H : Hp} {vs : List Nat} (hv : ∀ i, i ∈ vs → i ∉ O) (r1 : Rep K O F t0 σ H1) (s : Same (frz F O H1) (frz F O H)) (r : Rep K O F t (L2.wipe σ vs) H) : Rep K O F (PD.unwipe t0 t vs) σ H := by
  have hl : t.length = t0.length := by
    have h1 := r.len
    have h2 := r1.len
    rw [wipe_length] at h1
    omega
  refine ⟨by rw [unwipe_len, hl]; exact r1.len, fun i d hi e => ?_, fun i hi => ?_, r.inj, r.keep, r.nb⟩
  · by_cases z : i ∈ vs
    · obtain ⟨v, h1, h2⟩ := r1.val i d hi (unwipe_in hl z e)
      exact ⟨v, h1, h2.mono s⟩
    · rw [unwipe_out z] at e
      obtain ⟨v, h1, h2⟩ := r.val i d hi e
      rw [wipe_out z] at h1
      exact ⟨v, h1, h2⟩
  · have z : i ∉ vs := fun z => hv i z hi
    have := r.own i hi
    rw [wipe_out z] at this
    rw [unwipe_out z]
    exact this
theorem lc_run {vs ws : List Nat} {w : SA} {g : SG} {ft : SB} {fe : SE} {K : PySem.W.Frag} {σ : L2.St} {H : Hp} {Q : VK} (hv : ∀ i, i ∈ vs → i ∉ O) (hw : ∀ i, i ∈ ws → i ∈ vs) (q : tF K O (sLc w vs g ft fe) σ H Q) : tLc (tI K O w) (tG K O ws g) (tDT K O ft) (tD K O fe) vs σ H Q := by
  obtain ⟨F, t, es, t', r, e, q⟩ := q
  obtain ⟨⟨ds, t1⟩, z1, e⟩ := Option.bind_eq_some_iff.mp e
  obtain ⟨⟨acc, t2⟩, z2, e⟩ := Option.bind_eq_some_iff.mp e
  cases e
  dsimp only at z2 q
  refine ⟨F, t, ds, t1, r, z1, fun J H1 r1 s1 wk Dd hD => ?_⟩
  obtain ⟨Gd, Y, wk, hG, hY⟩ := wk
  have nB := r1.nB hD
  have nP := r1.nP hD
  -- the invariant: what is left to be made gives acc
  refine lc_it wk (fun i H => ∃ ti ai us, Rep K O F ti (wipe σ vs) (del H Dd) ∧ Same (frz F O H1) (frz F O (del H Dd)) ∧ H Dd = some (.lst us) ∧ DpAll K (frz F O (del H Dd)) us ai ∧ compD vs g ft fe (ds.drop i) ti ai = some (acc, t2)) ?_ (fun i H _ ⟨ti, ai, us, ri, si, _⟩ => hG H (si.trans (frz_same.trans (del_same H Dd)))) (fun i x H2 H3 hi ⟨ti, ai, us, ri, si, hDi, pi, ei⟩ y => ?_) fun H2 ⟨ti, ai, us, ri, si, hDi, pi, ei⟩ => ?_
  · refine ⟨wipeD t1 vs, [], [], ?_, ?_, upd_same, .nil, z2⟩
    · rw [del_upd hD]; exact r1.wipe hv
    · rw [del_upd hD]; exact Same.refl _
  · have sG : Same (frz F O H1) H2 := si.trans (frz_same.trans (del_same H2 Dd))
    obtain ⟨s3, hd⟩ := hY i x H2 H3 hi sG y
    have e1 : ds[i]? = some ds[i] := List.getElem?_eq_getElem hi
    have e2 : ds.drop i = ds[i] :: ds.drop (i + 1) := List.drop_eq_getElem_cons hi
    rw [e2] at ei
    obtain ⟨t3, y1, ei⟩ := Option.bind_eq_some_iff.mp (show ((g ds[i] ti).bind fun t1 => (ft t1).bind fun r => match r.1 with
      | false => compD vs g ft fe (ds.drop (i + 1)) (wipeD r.2 vs) ai
      | true => (fe r.2).bind fun y => if ai.length < sizeLine then compD vs g ft fe (ds.drop (i + 1)) (wipeD y.2 vs) (ai ++ [y.1]) else none) = some (acc, t2) from ei)
    obtain ⟨⟨b, t4⟩, y2, ei⟩ := Option.bind_eq_some_iff.mp ei
    have rp : Rep K O (F.pin Dd (.lst us)) ti (wipe σ vs) H2 := ri.pin hDi
    have hx := hd O _ ti _ _ e1 rp (by rw [frz_pin]; exact si)
    have rp3 := rp.mono s3
    refine ⟨F.pin Dd (.lst us), ti, _, t3, rp3, hx, y1, fun σ4 H4 r4 s4 o4 => ?_⟩
    have hσ : wipe σ4 vs = wipe σ vs := by
      rw [wipe_eq o4.1 fun j hj => o4.2 j fun z => hj (hw j z)]
      exact wipe_eq (wipe_length σ vs) fun j hj => wipe_out hj
    refine ⟨hσ, F.pin Dd (.lst us), t3, b, t4, r4, y2, fun H5 r5 s5 => ?_⟩
    have nP3 : ∀ i, i ∈ O → F.P i ≠ Dd := nP
    have s23 : Same (frz F O (del H2 Dd)) (frz F O (del H3 Dd)) := by
      have := frz_mono (F := F.pin Dd (.lst us)) (O := O) s3
      rw [frz_pin, frz_pin] at this
      exact this
    rw [frz_pin, frz_pin] at s4 s5
    cases b with
    | false =>
      refine iteF ?_
      obtain ⟨h5, r6⟩ := r5.unpin nB nP
      have r7 := r6.wipe hv
      rw [hσ] at r7
      have s7 := (s23.trans s4).trans s5
      exact ⟨_, ai, us, r7, si.trans s7, h5, pi.mono s7, ei⟩
    | true =>
      refine iteT ?_
      obtain ⟨⟨y5, t6⟩, y3, ei⟩ := Option.bind_eq_some_iff.mp ei
      dsimp only at ei
      split at ei
      · rename_i hl
        refine ⟨F.pin Dd (.lst us), t4, y5, t6, r5, y3, fun v H6 r6 s6 p6 => ?_⟩
        obtain ⟨h6, r7⟩ := r6.unpin nB nP
        rw [frz_pin] at p6
        rw [frz_pin, frz_pin] at s6
        have r8 := r7.wipe hv
        rw [hσ] at r8
        have s8 := ((s23.trans s4).trans s5).trans s6
        refine ⟨us, h6, by rw [pi.len]; exact hl, _, _, us ++ [v], ?_, ?_, upd_same, ?_, ei⟩
        · rw [del_upd']; exact r8
        · rw [del_upd']; exact si.trans s8
        · rw [del_upd']; exact (pi.mono s8).app (.cons p6 .nil)
      · cases ei
  · rw [List.drop_length] at ei
    cases ei
    exact q Dd us H2 (Rep.unwipe hv r1 si ri) (s1.trans si) hDi pi
section
variable {elt tg iter : Expr} {ifs : List Expr} {scope : Scope} {own : List (Str × Nat)} {pos : Pos} {ws : List Nat} {w : SA} {g : SG} {ft : SB} {fe : SE}
theorem rf_lc (hN : X.N.Nodup) (hi : RI X O tg iter w) (ok : BlkOk X.N X.env.scope scope own)
    (hg : ∀ (s : Shared) (H : Hp) (C : Addr) (cl : List (Str × Addr)) (fp : List Addr), RG (X.blk s H scope (compEnvC scope cl C X.env) fp) O ws tg g) (ht : ∀ (s : Shared) (H : Hp) (C : Addr) (cl : List (Str × Addr)) (fp : List Addr), PTs (X.blk s H scope (compEnvC scope cl C X.env) fp) ifs (tDT X.K O ft))
    (he : ∀ (s : Shared) (H : Hp) (C : Addr) (cl : List (Str × Addr)) (fp : List Addr), RE (X.blk s H scope (compEnvC scope cl C X.env) fp) O elt fe) (hc : X.calm = true := by rfl) (hv : ∀ i, i ∈ own.map (·.2) → i ∉ O := by decide) (hw : ∀ i, i ∈ ws → i ∈ own.map (·.2) := by decide) (hs : ∀ x, foldedSetIterable iter X.env x = pure x := by intro _; rfl) :
    RF X O (.ListComp elt [⟨tg, iter, ifs, 0⟩] scope pos) (sLc w (own.map (·.2)) g ft fe) :=
  PE.imp (pe_lc hc hN hi ok hg ht he hs) fun _ _ _ q => lc_run hv hw q
theorem r_lc (hN : X.N.Nodup) (hi : RI X O tg iter w) (ok : BlkOk X.N X.env.scope scope own)
    (hg : ∀ (s : Shared) (H : Hp) (C : Addr) (cl : List (Str × Addr)) (fp : List Addr), RG (X.blk s H scope (compEnvC scope cl C X.env) fp) O ws tg g) (ht : ∀ (s : Shared) (H : Hp) (C : Addr) (cl : List (Str × Addr)) (fp : List Addr), PTs (X.blk s H scope (compEnvC scope cl C X.env) fp) ifs (tDT X.K O ft))
    (he : ∀ (s : Shared) (H : Hp) (C : Addr) (cl : List (Str × Addr)) (fp : List Addr), RE (X.blk s H scope (compEnvC scope cl C X.env) fp) O elt fe) (hc : X.calm = true := by rfl) (hv : ∀ i, i ∈ own.map (·.2) → i ∉ O := by decide) (hw : ∀ i, i ∈ ws → i ∈ own.map (·.2) := by decide) (hs : ∀ x, foldedSetIterable iter X.env x = pure x := by intro _; rfl) :
    RE X O (.ListComp elt [⟨tg, iter, ifs, 0⟩] scope pos) (sLc w (own.map (·.2)) g ft fe) :=
  rf' (rf_lc hN hi ok hg ht he hc hv hw hs) fun t r e => by
    obtain ⟨y, _, e⟩ := Option.bind_eq_some_iff.mp e
    obtain ⟨y2, _, e⟩ := Option.bind_eq_some_iff.mp e
    cases e
    exact ⟨_, rfl⟩
theorem rts_nil : PTs X [] (tDT X.K O tYesD) := ⟨fun pins s σ H Q I h => by
  obtain ⟨F, t, b, t', r, e, q⟩ := h
  cases e
  exact pts_nil.run pins s σ H Q I (q H r (Same.refl _))⟩
theorem rts_one {c : Expr} {f : SB} (h : RT X O c f) : PTs X [c] (tDT X.K O f) := pts_one h
/-- y = [..] -/
theorem rs_setLc (i : Nat) {y : Str} {py spos : Pos} (hN : X.N.Nodup) (hi : RI X O tg iter w) (ok : BlkOk X.N X.env.scope scope own)
    (hg : ∀ (s : Shared) (H : Hp) (C : Addr) (cl : List (Str × Addr)) (fp : List Addr), RG (X.blk s H scope (compEnvC scope cl C X.env) fp) O ws tg g) (ht : ∀ (s : Shared) (H : Hp) (C : Addr) (cl : List (Str × Addr)) (fp : List Addr), PTs (X.blk s H scope (compEnvC scope cl C X.env) fp) ifs (tDT X.K O ft))
    (he : ∀ (s : Shared) (H : Hp) (C : Addr) (cl : List (Str × Addr)) (fp : List Addr), RE (X.blk s H scope (compEnvC scope cl C X.env) fp) O elt fe) (hsw : swapsWith (.ListComp elt [⟨tg, iter, ifs, 0⟩] scope pos) (some (.Name y py)) spos.line X.env = pure true) (hO : i ∉ O := by decide) (hy : X.N[i]? = some y := by rfl) (hyl : X.env.scope.names.lookup y = some .local := by rfl) (hc : X.calm = true := by rfl) (hv : ∀ i, i ∈ own.map (·.2) → i ∉ O := by decide) (hw : ∀ i, i ∈ ws → i ∈ own.map (·.2) := by decide) (hs : ∀ x, foldedSetIterable iter X.env x = pure x := by intro _; rfl) :
    RS X io fr OL O O (.Assign [.Name y py] (.ListComp elt [⟨tg, iter, ifs, 0⟩] scope pos) spos) (kSet i (sLc w (own.map (·.2)) g ft fe)) :=
  PS.imp (ps_setLc hc hN hy hyl hsw hi ok hg ht he hs) fun E σ H q => by
    obtain ⟨F, t, o, r, e, q⟩ := q
    obtain ⟨⟨d1, t1⟩, z1, e⟩ := Option.bind_eq_some_iff.mp e
    cases e
    have z1' := z1
    obtain ⟨y1, _, z1'⟩ := Option.bind_eq_some_iff.mp z1'
    obtain ⟨y2, _, z1'⟩ := Option.bind_eq_some_iff.mp z1'
    cases z1'
    refine lc_run hv hw ⟨F, t, _, _, r, z1, fun p vs H1 r1 s1 hp hd => ?_⟩
    have s2 := del_same H1 p
    refine q F _ H1 .refl ((r1.mono s2).set hO (.lst (xs := vs) (.inl (.inl ?_)) (hd.mono (frz_mono s2))))
    rw [frz_at (r1.fresh del_self)]
    exact hp
theorem rs_ownLc (i : Nat) {y : Str} {py spos : Pos} (hN : X.N.Nodup) (hi : RI X O tg iter w) (ok : BlkOk X.N X.env.scope scope own)
    (hg : ∀ (s : Shared) (H : Hp) (C : Addr) (cl : List (Str × Addr)) (fp : List Addr), RG (X.blk s H scope (compEnvC scope cl C X.env) fp) O ws tg g) (ht : ∀ (s : Shared) (H : Hp) (C : Addr) (cl : List (Str × Addr)) (fp : List Addr), PTs (X.blk s H scope (compEnvC scope cl C X.env) fp) ifs (tDT X.K O ft))
    (he : ∀ (s : Shared) (H : Hp) (C : Addr) (cl : List (Str × Addr)) (fp : List Addr), RE (X.blk s H scope (compEnvC scope cl C X.env) fp) O elt fe) (hsw : swapsWith (.ListComp elt [⟨tg, iter, ifs, 0⟩] scope pos) (some (.Name y py)) spos.line X.env = pure true) (hO : i ∉ O := by decide) (hio : i ∉ io := by decide) (hy : X.N[i]? = some y := by rfl) (hyl : X.env.scope.names.lookup y = some .local := by rfl) (hc : X.calm = true := by rfl) (hv : ∀ i, i ∈ own.map (·.2) → i ∉ O := by decide) (hw : ∀ i, i ∈ ws → i ∈ own.map (·.2) := by decide) (hs : ∀ x, foldedSetIterable iter X.env x = pure x := by intro _; rfl) :
    RS X io fr OL O (i :: O) (.Assign [.Name y py] (.ListComp elt [⟨tg, iter, ifs, 0⟩] scope pos) spos) (kOwn i (sLc w (own.map (·.2)) g ft fe)) :=
  PS.imp (ps_setLc hc hN hy hyl hsw hi ok hg ht he hs) fun E σ H q => own_run hO hio (fun _ _ _ h => lc_run hv hw h) q
end
end
end PD

namespace PD
open PySem L2
open PyProof.Rows (envOfC)
/-! ### what defs promise over data -/
def lim (S : Addr → Bool) (H : Hp) : Hp := fun a => if S a = true then H a else none
def glu (S : Addr → Bool) (H H' : Hp) : Hp := fun a => if (H a).isSome = true ∧ S a = false then none else H' a
/-- data in, data out; nothing that stood is changed -/
def spP (K : PySem.W.Frag) (n : Nat) (f : List D → Option D) : Sp := fun vs H Q _ => vs.length = n ∧ ∃ S ds d, DpAll K (lim S H) vs ds ∧ f ds = some d ∧ ∀ v H', Same H H' → Dp K (glu S H H') v d → Q v H'
/-- a new list out -/
def spF (K : PySem.W.Frag) (n : Nat) (f : List D → Option D) : Sp := fun vs H Q _ => vs.length = n ∧ ∃ S ds es, DpAll K (lim S H) vs ds ∧ f ds = some (.list es) ∧ ∀ p us H', H p = none → Same H (del H' p) → H' p = some (.lst us) → DpAll K (glu S H (del H' p)) us es → Q (.ref p) H'
/-- the first argument is a list that is changed -/
def spI (K : PySem.W.Frag) (n : Nat) (f : List D → List D → Option (D × List D)) : Sp := fun vs H Q _ => vs.length = n ∧ ∃ S p vr bs c ds d c', vs = .ref p :: vr ∧ S p = false ∧ H p = some (.lst bs) ∧ DpAll K (lim S H) bs c ∧ DpAll K (lim S H) vr ds ∧ f c ds = some (d, c') ∧
  ∀ v bs' H', Same (del H p) H' → H' p = some (.lst bs') → DpAll K (glu S H H') bs' c' → Dp K (glu S H H') v d → Q v H'
/-- .. and a new list comes out -/
def spIF (K : PySem.W.Frag) (n : Nat) (f : List D → List D → Option (D × List D)) : Sp := fun vs H Q _ => vs.length = n ∧ ∃ S p vr bs c ds es c', vs = .ref p :: vr ∧ S p = false ∧ H p = some (.lst bs) ∧ DpAll K (lim S H) bs c ∧ DpAll K (lim S H) vr ds ∧ f c ds = some (.list es, c') ∧
  ∀ q us bs' H', H q = none → Same (del H p) (del H' q) → H' p = some (.lst bs') → DpAll K (glu S H (del H' q)) bs' c' → H' q = some (.lst us) → DpAll K (glu S H (del H' q)) us es → Q (.ref q) H'

structure Cal (P : Program) (w : World) (K : PySem.W.Frag) (mg : Str → Option Value) (base : Heap) (k : Nat) (x : Str) (ps : List Str) (sp : Sp) : Prop where
  ex : ∃ f fd, FnOk P w K mg base CX0 k f fd ps sp ∧ mg x = some (.ref f) ∧ PySem.W.keepIn K (.ref f) = true ∧ Binds K fd ps []
abbrev CalX (X : Cx) (k : Nat) (x : Str) (ps : List Str) (sp : Sp) : Prop := Cal X.prog X.w X.K X.mg X.base k x ps sp

def ini (n : Nat) (ds : List D) : DSt := ds.map some ++ List.replicate (n - ds.length) none
def outP : Out → Option D | .nx _ => some .none | .rt d _ => some d | .bk _ => none | .ct _ => none
def outI : Out → Option (D × List D) | .nx t => (ownL t 0).map fun c' => (.none, c') | .rt d t => (ownL t 0).map fun c' => (d, c') | .bk _ => none | .ct _ => none
def runP (n : Nat) (g : SS) (ds : List D) : Option D := (g (ini n ds)).bind outP
def runI (n : Nat) (g : SS) (c : List D) (ds : List D) : Option (D × List D) := (g (ini n (.list c :: ds))).bind outI
section
variable {K : PySem.W.Frag}
theorem _root_.L2.DpAll.getO {K : PySem.W.Frag} {H : Hp} {vs : List V} {ds : List D} {N : List Str} (h : DpAll K H vs ds) {i : Nat} {d : D} (e : (ini N.length ds)[i]? = some (some d)) : ∃ v, (L2.start N vs)[i]? = some (some v) ∧ Dp K H v d := by
  unfold ini at e
  by_cases hi : i < ds.length
  · rw [List.getElem?_append_left (by rw [List.length_map]; exact hi), List.getElem?_map] at e
    obtain ⟨d', h1, h2⟩ := Option.map_eq_some_iff.mp e
    cases h2
    obtain ⟨v, h3, h4⟩ := h.get h1
    refine ⟨v, ?_, h4⟩
    unfold L2.start
    rw [List.getElem?_append_left (by rw [List.length_map, h.len]; exact hi), List.getElem?_map, h3]
    rfl
  · rw [List.getElem?_append_right (by rw [List.length_map]; omega), List.getElem?_replicate] at e
    split at e <;> cases e
theorem ini_len {H : Hp} {vs : List V} {ds : List D} {N : List Str} (h : DpAll K H vs ds) : (ini N.length ds).length = (L2.start N vs).length := by
  unfold ini L2.start
  rw [List.length_append, List.length_append, List.length_map, List.length_map, List.length_replicate, List.length_replicate, h.len]
variable {P : Program} {w : World} {mg : Str → Option Value} {base : Heap} {x : Str} {st : Stmt} {f : Addr} {fd : FuncData} {N ps : List Str} {k : Nat} {g : SS} {O' : List Nat}
theorem frz0 {F : Fr} {H H' : Hp} {S : Addr → Bool} (hB : F.B = H) (hS : F.S = S) : frz F [] H' = glu S H H' := by
  funext a
  unfold glu
  by_cases q : (H a).isSome = true ∧ S a = false
  · rw [if_pos q, frz_none]
    exact .inr (by rw [hB, hS]; exact q)
  · rw [if_neg q, frz_at]
    rintro (⟨i, hi, _⟩ | z)
    · cases hi
    · rw [hB, hS] at z; exact q z
theorem glu_lim {H : Hp} {S : Addr → Bool} : glu S H H = lim S H := by
  funext a
  unfold glu lim
  cases S a with
  | true => rw [if_pos rfl, if_neg (fun z => by cases z.2)]
  | false =>
    rw [if_neg (show ¬ false = true by decide)]
    cases q : H a with
    | none => simp
    | some o => simp
abbrev cx0 (P : Program) (w : World) (K : PySem.W.Frag) (mg : Str → Option Value) (base : Heap) (N : List Str) (x : Str) (st : Stmt) (f : Addr) (cdv : Value) (A : Around) (outer : List Env) (s : Shared) (H : Hp) (E : XK) : Cx := (cxOf CX0 P w K mg base N x (defScope st) f cdv A outer s H E).nox
theorem fnk_P (F : Fun K x x st f fd) (S : FnScope N ps (defScope st))
    (body : ∀ (cdv : Value) (A : Around) (outer : List Env) (s : Shared) (H : Hp) (E : XK), Room k (A.deeper (envOfC x (defScope st) s.heap.objs.size f cdv)) → RSs (cx0 P w K mg base N x st f cdv A outer s H E) [] false [] [] O' (defBody st) g) :
    FnOk P w K mg base CX0 (k + 1) f fd ps (spP K ps.length (runP N.length g)) := by
  refine F.ok S (fun vs H Q E h => h.1) (fun cdv A outer s H vs Q E hr h => ?_)
  obtain ⟨hl, Sv, ds, d, hd, e, q⟩ := h
  refine ⟨_, body cdv A outer s H E hr, ?_⟩
  unfold runP at e
  cases z : g (ini N.length ds) with
  | none => rw [z] at e; cases e
  | some o =>
    rw [z] at e
    have e : outP o = some _ := e
    have hf : frz ⟨fun _ => 0, H, Sv⟩ [] H = lim Sv H := by rw [frz0 (H := H) (S := Sv) rfl rfl, glu_lim]
    refine ⟨⟨fun _ => 0, H, Sv⟩, ini N.length ds, o, ⟨ini_len hd, fun i d hi h => ?_, fun i hi => (nomatch hi), fun i j hi => (nomatch hi), fun a o h => h, fun i hi => (nomatch hi)⟩, z, ?_⟩
    · show ∃ v, _ ∧ Dp K (frz ⟨fun _ => 0, H, Sv⟩ [] H) v d
      rw [hf]
      exact hd.getO h
    · cases o with
      | nx t =>
        cases e
        intro F' σ' H' l r
        exact q .non H' (fun a o h => r.keep a o (by rw [l.1]; exact h)) .non
      | rt d' t =>
        cases e
        intro F' v σ' H' l r p
        exact q v H' (fun a o h => r.keep a o (by rw [l.1]; exact h)) (by rw [← frz0 l.1 l.2.1]; exact p)
      | bk t => cases e
      | ct t => cases e
theorem fn_P (F : Fun K x x st f fd) (S : FnScope N ps (defScope st)) (hm : mg x = some (.ref f)) (hb : Binds K fd ps [])
    (body : ∀ (cdv : Value) (A : Around) (outer : List Env) (s : Shared) (H : Hp) (E : XK), Room k (A.deeper (envOfC x (defScope st) s.heap.objs.size f cdv)) → RSs (cx0 P w K mg base N x st f cdv A outer s H E) [] false [] [] O' (defBody st) g) :
    Cal P w K mg base (k + 1) x ps (spP K ps.length (runP N.length g)) := ⟨f, fd, fnk_P F S body, hm, F.kp, hb⟩
theorem fn_F (F : Fun K x x st f fd) (S : FnScope N ps (defScope st)) (hm : mg x = some (.ref f)) (hb : Binds K fd ps [])
    (body : ∀ (cdv : Value) (A : Around) (outer : List Env) (s : Shared) (H : Hp) (E : XK), Room k (A.deeper (envOfC x (defScope st) s.heap.objs.size f cdv)) → RSs (cx0 P w K mg base N x st f cdv A outer s H E) [] true [] [] O' (defBody st) g) :
    Cal P w K mg base (k + 1) x ps (spF K ps.length (runP N.length g)) := by
  refine ⟨f, fd, F.ok S (fun vs H Q E h => h.1) (fun cdv A outer s H vs Q E hr h => ?_), hm, F.kp, hb⟩
  obtain ⟨hl, Sv, ds, d, hd, e, q⟩ := h
  refine ⟨_, body cdv A outer s H E hr, ?_⟩
  unfold runP at e
  cases z : g (ini N.length ds) with
  | none => rw [z] at e; cases e
  | some o =>
    rw [z] at e
    have e : outP o = some _ := e
    have hf : frz ⟨fun _ => 0, H, Sv⟩ [] H = lim Sv H := by rw [frz0 (H := H) (S := Sv) rfl rfl, glu_lim]
    refine ⟨⟨fun _ => 0, H, Sv⟩, ini N.length ds, o, ⟨ini_len hd, fun i d hi h => ?_, fun i hi => (nomatch hi), fun i j hi => (nomatch hi), fun a o h => h, fun i hi => (nomatch hi)⟩, z, ?_⟩
    · show ∃ v, _ ∧ Dp K (frz ⟨fun _ => 0, H, Sv⟩ [] H) v d
      rw [hf]
      exact hd.getO h
    · cases o with
      | nx t => cases e
      | rt d' t =>
        cases e
        refine ⟨d, rfl, fun F' p vs σ' H' l r hp hd => ?_⟩
        have k1 : Same H (del H' p) := fun a o h => r.keep a o (by rw [l.1]; exact h)
        refine q p vs H' ?_ k1 hp (by rw [← frz0 l.1 l.2.1]; exact hd)
        cases y : H p with
        | none => rfl
        | some o => have := k1 p o y; rw [del_self] at this; cases this
      | bk t => cases e
      | ct t => cases e
theorem frzI {F : Fr} {H H' : Hp} {S : Addr → Bool} {p : Addr} (hB : F.B = del H p) (hS : F.S = S) (hP : F.P 0 = p) (hp : (H p).isSome = true) (hSp : S p = false) : frz F [0] H' = glu S H H' := by
  funext a
  unfold glu
  by_cases q : (H a).isSome = true ∧ S a = false
  · rw [if_pos q, frz_none]
    by_cases e : a = p
    · exact .inl ⟨0, by simp, by rw [hP, e]⟩
    · exact .inr (by rw [hB, hS, del_ne e]; exact q)
  · rw [if_neg q, frz_at]
    rintro (⟨i, hi, z⟩ | z)
    · have : i = 0 := by simpa using hi
      subst this
      rw [hP] at z
      subst z
      exact q ⟨hp, hSp⟩
    · rw [hB, hS] at z
      by_cases e : a = p
      · rw [e, del_self] at z; cases z.1
      · rw [del_ne e] at z; exact q z
theorem rep_io {H : Hp} {Sv : Addr → Bool} {p : Addr} {vr bs : List V} {c ds : List D} (hSp : Sv p = false) (hp : H p = some (.lst bs)) (hc : DpAll K (lim Sv H) bs c) (hd : DpAll K (lim Sv H) vr ds) (hn : 0 < N.length) :
    Rep K [0] ⟨fun _ => p, del H p, Sv⟩ (ini N.length (.list c :: ds)) (L2.start N (.ref p :: vr)) H := by
  have hf : frz ⟨fun _ => p, del H p, Sv⟩ [0] H = lim Sv H := by rw [frzI (H := H) (S := Sv) (p := p) rfl rfl rfl (by rw [hp]; rfl) hSp, glu_lim]
  have hl := hd.len
  refine ⟨?_, fun i d hi h => ?_, fun i hi => ?_, fun i j hi hj _ => ?_, fun a o h => del_same _ _ _ _ h, fun i hi => del_self⟩
  · unfold ini L2.start
    simp only [List.length_append, List.length_map, List.length_replicate, List.length_cons, hl]
  · rw [hf]
    have hi0 : i ≠ 0 := by simpa using hi
    obtain ⟨j, rfl⟩ : ∃ j, i = j + 1 := ⟨i - 1, by omega⟩
    have h2 : (ini (N.length - 1) ds)[j]? = some (some d) := by
      unfold ini at h ⊢
      rw [List.map_cons, List.cons_append, List.getElem?_cons_succ] at h
      rw [show N.length - 1 - ds.length = N.length - (ds.length + 1) by omega]
      exact h
    have h3 : N.length - 1 = (N.drop 1).length := by rw [List.length_drop]
    rw [h3] at h2
    obtain ⟨v, h4, h5⟩ := hd.getO (N := N.drop 1) h2
    refine ⟨v, ?_, h5⟩
    unfold L2.start at h4 ⊢
    rw [List.map_cons, List.cons_append, List.getElem?_cons_succ]
    rw [List.length_drop] at h4
    rw [List.length_cons, show N.length - (vr.length + 1) = N.length - 1 - vr.length by omega]
    exact h4
  · have : i = 0 := by simpa using hi
    subst this
    rw [hf]
    exact ⟨c, bs, rfl, rfl, hp, hc⟩
  · have h1 : i = 0 := by simpa using hi
    have h2 : j = 0 := by simpa using hj
    rw [h1, h2]
theorem fn_I (F : Fun K x x st f fd) (S : FnScope N ps (defScope st)) (hm : mg x = some (.ref f)) (hb : Binds K fd ps []) (hn : 0 < N.length)
    (body : ∀ (cdv : Value) (A : Around) (outer : List Env) (s : Shared) (H : Hp) (E : XK), Room k (A.deeper (envOfC x (defScope st) s.heap.objs.size f cdv)) → RSs (cx0 P w K mg base N x st f cdv A outer s H E) [0] false [0] [0] [0] (defBody st) g) :
    Cal P w K mg base (k + 1) x ps (spI K ps.length (runI N.length g)) := by
  refine ⟨f, fd, F.ok S (fun vs H Q E h => h.1) (fun cdv A outer s H vs Q E hr h => ?_), hm, F.kp, hb⟩
  obtain ⟨hl, Sv, p, vr, bs, c, ds, d, c', rfl, hSp, hp, hc, hd, e, q⟩ := h
  refine ⟨_, body cdv A outer s H E hr, ?_⟩
  unfold runI at e
  cases z : g (ini N.length (.list c :: ds)) with
  | none => rw [z] at e; cases e
  | some o =>
    rw [z] at e
    have e : outI o = some _ := e
    refine ⟨⟨fun _ => p, del H p, Sv⟩, ini N.length (.list c :: ds), o, rep_io hSp hp hc hd hn, z, ?_⟩
    have fin : ∀ (F' : Fr) (v : V) (σ' : L2.St) (H' : Hp) (t : DSt), Le [0] ⟨fun _ => p, del H p, Sv⟩ F' → Rep K [0] F' t σ' H' → ownL t 0 = some c' → Dp K (frz F' [0] H') v d → Q v H' := fun F' v σ' H' t l r ho pv => by
      have hP : F'.P 0 = p := l.2.2 0 (by simp)
      have hf : frz F' [0] H' = glu Sv H H' := frzI l.1 l.2.1 hP (by rw [hp]; rfl) hSp
      obtain ⟨_, bs', h1, h2⟩ := r.getOwn (i := 0) (by simp) (ownL_eq ho)
      rw [hP] at h1
      rw [hf] at h2 pv
      exact q v bs' H' (fun a o h => r.keep a o (by rw [l.1]; exact h)) h1 h2 pv
    cases o with
    | nx t =>
      obtain ⟨y, h1, h2⟩ := Option.map_eq_some_iff.mp e
      cases h2
      exact fun F' σ' H' l r => fin F' _ σ' H' t l r h1 .non
    | rt d' t =>
      obtain ⟨y, h1, h2⟩ := Option.map_eq_some_iff.mp e
      cases h2
      exact fun F' v σ' H' l r p => fin F' v σ' H' t l r h1 p
    | bk t => cases e
    | ct t => cases e
theorem fn_IF (F : Fun K x x st f fd) (S : FnScope N ps (defScope st)) (hm : mg x = some (.ref f)) (hb : Binds K fd ps []) (hn : 0 < N.length)
    (body : ∀ (cdv : Value) (A : Around) (outer : List Env) (s : Shared) (H : Hp) (E : XK), Room k (A.deeper (envOfC x (defScope st) s.heap.objs.size f cdv)) → RSs (cx0 P w K mg base N x st f cdv A outer s H E) [0] true [0] [0] [0] (defBody st) g) :
    Cal P w K mg base (k + 1) x ps (spIF K ps.length (runI N.length g)) := by
  refine ⟨f, fd, F.ok S (fun vs H Q E h => h.1) (fun cdv A outer s H vs Q E hr h => ?_), hm, F.kp, hb⟩
  obtain ⟨hl, Sv, p, vr, bs, c, ds, es, c', rfl, hSp, hp, hc, hd, e, q⟩ := h
  refine ⟨_, body cdv A outer s H E hr, ?_⟩
  unfold runI at e
  cases z : g (ini N.length (.list c :: ds)) with
  | none => rw [z] at e; cases e
  | some o =>
    rw [z] at e
    have e : outI o = some _ := e
    refine ⟨⟨fun _ => p, del H p, Sv⟩, ini N.length (.list c :: ds), o, rep_io hSp hp hc hd hn, z, ?_⟩
    cases o with
    | nx t =>
      obtain ⟨y, h1, h2⟩ := Option.map_eq_some_iff.mp e
      cases h2
    | rt d' t =>
      obtain ⟨y, h1, h2⟩ := Option.map_eq_some_iff.mp e
      cases h2
      refine ⟨es, rfl, fun F' a vs σ' H' l r hpa hda => ?_⟩
      have hP : F'.P 0 = p := l.2.2 0 (by simp)
      have hf : frz F' [0] (del H' a) = glu Sv H (del H' a) := frzI l.1 l.2.1 hP (by rw [hp]; rfl) hSp
      obtain ⟨_, bs', h3, h4⟩ := r.getOwn (i := 0) (by simp) (ownL_eq h1)
      rw [hP] at h3
      rw [hf] at h4 hda
      have k1 : Same (del H p) (del H' a) := fun b o h => r.keep b o (by rw [l.1]; exact h)
      have hap : a ≠ p := fun e => by rw [e, del_self] at h3; cases h3
      refine q a vs bs' H' ?_ k1 (del_same _ _ _ _ h3) h4 hpa hda
      cases y : H a with
      | none => rfl
      | some o =>
        have := k1 a o (by rw [del_ne hap]; exact y)
        rw [del_self] at this; cases this
    | bk t => cases e
    | ct t => cases e
end

/-! ### calls -/
section
variable {X : Cx} {O : List Nat} {k j : Nat} {x : Str} {ps : List Str} {n : Nat} {e : Expr} {es : List Expr} {fs : SA} {p pos : Pos}
open Classical in
noncomputable def see (G : Hp) : Addr → Bool := fun a => (G a).isSome
theorem lim_see {F : Fr} {H : Hp} : lim (see (frz F O H)) H = frz F O H := by
  funext a
  unfold lim see
  cases q : frz F O H a with
  | none => simp
  | some o => simp [frz_same a o q]
theorem glu_see {K : PySem.W.Frag} {F : Fr} {t : DSt} {σ : L2.St} {H H' : Hp} (r : Rep K O F t σ H) : glu (see (frz F O H)) H H' = frz F O H' := by
  funext a
  unfold glu see
  by_cases q : hid F O a
  · rw [frz_none q, frz_none q]
    cases z : H a with
    | none => exact absurd q (r.fresh z)
    | some o => simp
  · rw [frz_at q, frz_at q]
    cases z : H a with
    | none => simp
    | some o => simp
theorem sNil_len (t : DSt) (r : List D × DSt) (h : sNil t = some r) : r.1.length = 0 := by cases h; rfl
theorem sCons_len {f : SE} {g : SA} {n : Nat} (h : ∀ t r, g t = some r → r.1.length = n) (t : DSt) (r : List D × DSt) (e : sCons f g t = some r) : r.1.length = n + 1 := by
  obtain ⟨y, _, e⟩ := Option.bind_eq_some_iff.mp e
  obtain ⟨y2, h2, e⟩ := Option.bind_eq_some_iff.mp e
  cases e
  rw [List.length_cons, h _ _ h2]
theorem r_callP {f : List D → Option D} (c : CalX X k x ps (spP X.K n f)) (hr : Room j X.A) (hk : k ≤ j) (ha : RA X O (e :: es) fs) (hn : ∀ t r, fs t = some r → r.1.length = n) (hg : Gl X x := by rfl) (hdb : (x == ("__debug__" : Str)) = false := by decide) (he : starEach (e :: es) X.env = (false, eval e X.env) :: starEach es X.env := by rfl) (hpl : (backTo pos (starEach es X.env)).any (·.1) = false := by rfl) :
    RE X O (.Call (.Name x p) (e :: es) [] pos) (callD f fs) := by
  obtain ⟨fa, fd, hF, hm, kp, hb⟩ := c.ex
  refine PE.imp (pe_call hF (hr.mono hk) hg hm kp hb .nil pass0 ha hdb he hpl) fun σ H Q q => ?_
  obtain ⟨F, t, d, t', rp, e, q⟩ := q
  obtain ⟨⟨d1, t1⟩, z1, e⟩ := Option.bind_eq_some_iff.mp e
  obtain ⟨d3, z3, e⟩ := Option.bind_eq_some_iff.mp e
  cases e
  refine ⟨F, t, d1, t1, rp, z1, fun vs H1 r1 s1 p1 => ?_⟩
  simp only [List.append_nil, List.cons_append, List.nil_append]
  refine ⟨by rw [p1.len]; exact hn t _ z1, see (frz F O H1), d1, d, by rw [lim_see]; exact p1, z3, fun v H' s pv => ?_⟩
  rw [glu_see r1] at pv
  exact q v H' (r1.mono s) (s1.trans (frz_mono s)) pv
theorem rf_callP {f : List D → Option D} (c : CalX X k x ps (spF X.K n f)) (hr : Room j X.A) (hk : k ≤ j) (ha : RA X O (e :: es) fs) (hn : ∀ t r, fs t = some r → r.1.length = n) (hg : Gl X x := by rfl) (hdb : (x == ("__debug__" : Str)) = false := by decide) (he : starEach (e :: es) X.env = (false, eval e X.env) :: starEach es X.env := by rfl) (hpl : (backTo pos (starEach es X.env)).any (·.1) = false := by rfl) :
    RF X O (.Call (.Name x p) (e :: es) [] pos) (callD f fs) := by
  obtain ⟨fa, fd, hF, hm, kp, hb⟩ := c.ex
  refine PE.imp (pe_call hF (hr.mono hk) hg hm kp hb .nil pass0 ha hdb he hpl) fun σ H Q q => ?_
  obtain ⟨F, t, ds, t', rp, e, q⟩ := q
  obtain ⟨⟨d1, t1⟩, z1, e⟩ := Option.bind_eq_some_iff.mp e
  obtain ⟨d3, z3, e⟩ := Option.bind_eq_some_iff.mp e
  cases e
  refine ⟨F, t, d1, t1, rp, z1, fun vs H1 r1 s1 p1 => ?_⟩
  simp only [List.append_nil, List.cons_append, List.nil_append]
  refine ⟨by rw [p1.len]; exact hn t _ z1, see (frz F O H1), d1, ds, by rw [lim_see]; exact p1, z3, fun a us H' ha s hp pv => ?_⟩
  rw [glu_see r1] at pv
  exact q a us H' (r1.mono s) (s1.trans (frz_mono s)) hp pv
/-- the first argument an own list, which is changed -/
def callI (i : Nat) (f : List D → List D → Option (D × List D)) (fs : SA) : SE := fun t => (fs t).bind fun r => (ownL r.2 i).bind fun c => (f c r.1).bind fun y => some (y.1, r.2.set i (some (.list y.2)))
theorem r_callI (i : Nat) {f : List D → List D → Option (D × List D)} {y : Str} {py : Pos} (c : CalX X k x ps (spI X.K (n + 1) f)) (hr : Room j X.A) (hk : k ≤ j) (ha : RA X O es fs) (hn : ∀ t r, fs t = some r → r.1.length = n) (hi : i ∈ O := by decide) (hN : X.N[i]? = some y := by rfl) (hv : Vis X.env.scope y := by first | exact Or.inl rfl | exact Or.inr (Or.inl rfl) | exact Or.inr (Or.inr rfl)) (hd : (y == ("__debug__" : Str)) = false := by decide) (hcd : (y == ("__classdict__" : Str)) = false := by decide)
    (hg : Gl X x := by rfl) (hdb : (x == ("__debug__" : Str)) = false := by decide) (he : starEach (.Name y py :: es) X.env = (false, eval (.Name y py) X.env) :: starEach es X.env := by rfl) (hpl : (backTo pos (starEach es X.env)).any (·.1) = false := by rfl) :
    RE X O (.Call (.Name x p) (.Name y py :: es) [] pos) (callI i f fs) := by
  obtain ⟨fa, fd, hF, hm, kp, hb⟩ := c.ex
  refine PE.imp (pe_call hF (hr.mono hk) hg hm kp hb .nil pass0 (pa_cons (pe_var hN hv hd hcd) ha he) hdb he hpl) fun σ H Q q => ?_
  obtain ⟨F, t, d, t', rp, e, q⟩ := q
  obtain ⟨⟨d1, t1⟩, z1, e⟩ := Option.bind_eq_some_iff.mp e
  obtain ⟨c1, z2, e⟩ := Option.bind_eq_some_iff.mp e
  obtain ⟨⟨d3, c3⟩, z3, e⟩ := Option.bind_eq_some_iff.mp e
  cases e
  dsimp only at z2 z3 q
  obtain ⟨_, _, _, w2, _⟩ := rp.own i hi
  refine ⟨_, w2, F, t, d1, t1, rp, z1, fun vs H1 r1 s1 p1 => ?_⟩
  obtain ⟨_, bs, h2, h3⟩ := r1.getOwn hi (ownL_eq z2)
  have hidp : hid F O (F.P i) := .inl ⟨i, hi, rfl⟩
  simp only [List.append_nil, List.cons_append, List.nil_append]
  refine ⟨by rw [List.length_cons, p1.len, hn t _ z1], see (frz F O H1), F.P i, vs, bs, c1, d1, d3, c3, rfl, ?_, h2, by rw [lim_see]; exact h3, by rw [lim_see]; exact p1, z3, fun v bs' H' s hp hb' pv => ?_⟩
  · unfold see
    rw [frz_none hidp]; rfl
  · rw [glu_see r1] at hb' pv
    have sU : Same H1 (upd H' (F.P i) (.lst bs)) := fun a o h => by
      by_cases e : a = F.P i
      · rw [e, h2] at h; cases h; rw [e, upd_same]
      · rw [upd_ne e]; exact s a o (by rw [del_ne e]; exact h)
    have fU : frz F O (upd H' (F.P i) (.lst bs)) = frz F O H' := by
      funext a
      by_cases q : hid F O a
      · rw [frz_none q, frz_none q]
      · rw [frz_at q, frz_at q, upd_ne]
        rintro rfl
        exact q hidp
    obtain ⟨r3, e3⟩ := (r1.mono sU).setOwn hi (by rw [fU]; exact hb')
    have eU : upd (upd H' (F.P i) (.lst bs)) (F.P i) (.lst bs') = H' := by
      rw [upd_upd]
      funext a
      by_cases e : a = F.P i
      · rw [e, upd_same, hp]
      · rw [upd_ne e]
    rw [eU] at r3
    exact q v H' r3 (s1.trans (by rw [← fU]; exact frz_mono sU)) pv
theorem rf_callI (i : Nat) {f : List D → List D → Option (D × List D)} {y : Str} {py : Pos} (c : CalX X k x ps (spIF X.K (n + 1) f)) (hr : Room j X.A) (hk : k ≤ j) (ha : RA X O es fs) (hn : ∀ t r, fs t = some r → r.1.length = n) (hi : i ∈ O := by decide) (hN : X.N[i]? = some y := by rfl) (hv : Vis X.env.scope y := by first | exact Or.inl rfl | exact Or.inr (Or.inl rfl) | exact Or.inr (Or.inr rfl)) (hd : (y == ("__debug__" : Str)) = false := by decide) (hcd : (y == ("__classdict__" : Str)) = false := by decide)
    (hg : Gl X x := by rfl) (hdb : (x == ("__debug__" : Str)) = false := by decide) (he : starEach (.Name y py :: es) X.env = (false, eval (.Name y py) X.env) :: starEach es X.env := by rfl) (hpl : (backTo pos (starEach es X.env)).any (·.1) = false := by rfl) :
    RF X O (.Call (.Name x p) (.Name y py :: es) [] pos) (callI i f fs) := by
  obtain ⟨fa, fd, hF, hm, kp, hb⟩ := c.ex
  refine PE.imp (pe_call hF (hr.mono hk) hg hm kp hb .nil pass0 (pa_cons (pe_var hN hv hd hcd) ha he) hdb he hpl) fun σ H Q q => ?_
  obtain ⟨F, t, d, t', rp, e, q⟩ := q
  obtain ⟨⟨d1, t1⟩, z1, e⟩ := Option.bind_eq_some_iff.mp e
  obtain ⟨c1, z2, e⟩ := Option.bind_eq_some_iff.mp e
  obtain ⟨⟨d3, c3⟩, z3, e⟩ := Option.bind_eq_some_iff.mp e
  cases e
  dsimp only at z2 z3 q
  obtain ⟨_, _, _, w2, _⟩ := rp.own i hi
  refine ⟨_, w2, F, t, d1, t1, rp, z1, fun vs H1 r1 s1 p1 => ?_⟩
  obtain ⟨_, bs, h2, h3⟩ := r1.getOwn hi (ownL_eq z2)
  have hidp : hid F O (F.P i) := .inl ⟨i, hi, rfl⟩
  simp only [List.append_nil, List.cons_append, List.nil_append]
  refine ⟨by rw [List.length_cons, p1.len, hn t _ z1], see (frz F O H1), F.P i, vs, bs, c1, d1, d, c3, rfl, ?_, h2, by rw [lim_see]; exact h3, by rw [lim_see]; exact p1, z3, fun a us bs' H' ha s hp hb' hpa pv => ?_⟩
  · unfold see
    rw [frz_none hidp]; rfl
  · rw [glu_see r1] at hb' pv
    have hap : F.P i ≠ a := fun e => by rw [← e, h2] at ha; cases ha
    have sU : Same H1 (upd (del H' a) (F.P i) (.lst bs)) := fun b o h => by
      by_cases e : b = F.P i
      · rw [e, h2] at h; cases h; rw [e, upd_same]
      · rw [upd_ne e]; exact s b o (by rw [del_ne e]; exact h)
    have fU : frz F O (upd (del H' a) (F.P i) (.lst bs)) = frz F O (del H' a) := by
      funext b
      by_cases q : hid F O b
      · rw [frz_none q, frz_none q]
      · rw [frz_at q, frz_at q, upd_ne]
        rintro rfl
        exact q hidp
    obtain ⟨r3, e3⟩ := (r1.mono sU).setOwn hi (by rw [fU]; exact hb')
    have eU : upd (upd (del H' a) (F.P i) (.lst bs)) (F.P i) (.lst bs') = del H' a := by
      rw [upd_upd]
      funext b
      by_cases e : b = F.P i
      · rw [e, upd_same, del_ne hap, hp]
      · rw [upd_ne e]
    rw [eU] at r3
    exact q a us H' r3 (s1.trans (by rw [← fU]; exact frz_mono sU)) hpa pv
end
end PD

namespace PD
open PySem L2
section
variable {X : Cx} {O : List Nat} {io OL : List Nat} {fr : Bool} {a b : Expr} {f1 f2 : SE} {pos : Pos}
/-! ### short forms for the printed terms -/
theorem r_lstE {es : List Expr} {f : SA} {pos} (h : RA X O es f) : RE X O (.List es pos) (sLst f) := rf' (r_lst h) fun t r e => by
  obtain ⟨y, _, e⟩ := Option.bind_eq_some_iff.mp e
  split at e
  · cases e; exact ⟨_, rfl⟩
  · cases e
theorem r_repE (ha : RF X O a f1) (hb : RE X O b f2) : RE X O (.BinOp a .Mult b pos) (bin repD f1 f2) := rf' (rf_rep ha hb) fun t r e => by
  obtain ⟨y, _, e⟩ := Option.bind_eq_some_iff.mp e
  obtain ⟨y2, _, e⟩ := Option.bind_eq_some_iff.mp e
  obtain ⟨y3, h3, e⟩ := Option.bind_eq_some_iff.mp e
  obtain ⟨es, k, _, _, e3, _⟩ := repD_inv h3
  cases e
  exact ⟨_, e3⟩
theorem r_callF {k j : Nat} {x : Str} {ps : List Str} {n : Nat} {e : Expr} {es : List Expr} {fs : SA} {p pos : Pos} {f : List D → Option D} (c : CalX X k x ps (spF X.K n f)) (hr : Room j X.A) (hk : k ≤ j) (ha : RA X O (e :: es) fs) (hn : ∀ t r, fs t = some r → r.1.length = n) (hg : Gl X x := by rfl) (hdb : (x == ("__debug__" : Str)) = false := by decide) (he : starEach (e :: es) X.env = (false, eval e X.env) :: starEach es X.env := by rfl) (hpl : (backTo pos (starEach es X.env)).any (·.1) = false := by rfl) :
    RE X O (.Call (.Name x p) (e :: es) [] pos) (fun t => (callD f fs t).bind fun r => match r.1 with | .list ds => some (.list ds, r.2) | _ => none) := rf (rf_callP c hr hk ha hn hg hdb he hpl)
theorem ltD_b (a b d : D) (h : ltD a b = some d) : ∃ k, d = .bool k := by cases a <;> cases b <;> first | (cases h; exact ⟨_, rfl⟩) | cases h
theorem leD_b (a b d : D) (h : leD a b = some d) : ∃ k, d = .bool k := by cases a <;> cases b <;> first | (cases h; exact ⟨_, rfl⟩) | cases h
theorem gtD_b (a b d : D) (h : gtD a b = some d) : ∃ k, d = .bool k := by cases a <;> cases b <;> first | (cases h; exact ⟨_, rfl⟩) | cases h
theorem geD_b (a b d : D) (h : geD a b = some d) : ∃ k, d = .bool k := by cases a <;> cases b <;> first | (cases h; exact ⟨_, rfl⟩) | cases h
theorem eqD_b (a b d : D) (h : eqD a b = some d) : ∃ k, d = .bool k := by unfold eqD at h; split at h <;> first | (cases h; exact ⟨_, rfl⟩) | cases h
theorem neD_b (a b d : D) (h : neD a b = some d) : ∃ k, d = .bool k := by unfold neD at h; split at h <;> first | (cases h; exact ⟨_, rfl⟩) | cases h
theorem isN_b (a b d : D) (h : isN a b = some d) : ∃ k, d = .bool k := by cases a <;> cases b <;> first | (cases h; exact ⟨_, rfl⟩) | cases h
theorem notN_b (a b d : D) (h : notN a b = some d) : ∃ k, d = .bool k := by cases a <;> cases b <;> first | (cases h; exact ⟨_, rfl⟩) | cases h
theorem inD_b (a b d : D) (h : inD a b = some d) : ∃ k, d = .bool k := by
  unfold inD at h
  split at h
  · split at h <;> first | (cases h; exact ⟨_, rfl⟩) | cases h
  · cases h
theorem notinD_b (a b d : D) (h : notinD a b = some d) : ∃ k, d = .bool k := by
  unfold notinD at h
  split at h
  · split at h <;> first | (cases h; exact ⟨_, rfl⟩) | cases h
  · cases h
theorem vI0 {K : PySem.W.Frag} {g : Int → Int → Bool} {g' : D → D → Option D} (h : ∀ a b, g' a b = iop (fun _ _ => true) (fun i j => .bool (g i j)) a b) : ValOp K (rI0 fun i j => .bl (g i j)) g' := (v_int0 (g' := fun i j => .bool (g i j)) fun _ _ => rfl).congr h
theorem rt_lt (ha : RE X O a f1) (hb : RE X O b f2) : RT X O (.Compare a [.Lt] [b] pos) (tru (bin ltD f1 f2)) := rt_cop op_lt (vI0 fun a b => by cases a <;> cases b <;> rfl) ha hb ltD_b
theorem rt_le (ha : RE X O a f1) (hb : RE X O b f2) : RT X O (.Compare a [.LtE] [b] pos) (tru (bin leD f1 f2)) := rt_cop op_le (vI0 fun a b => by cases a <;> cases b <;> rfl) ha hb leD_b
theorem rt_gt (ha : RE X O a f1) (hb : RE X O b f2) : RT X O (.Compare a [.Gt] [b] pos) (tru (bin gtD f1 f2)) := rt_cop op_gt (vI0 fun a b => by cases a <;> cases b <;> rfl) ha hb gtD_b
theorem rt_ge (ha : RE X O a f1) (hb : RE X O b f2) : RT X O (.Compare a [.GtE] [b] pos) (tru (bin geD f1 f2)) := rt_cop op_ge (vI0 fun a b => by cases a <;> cases b <;> rfl) ha hb geD_b
theorem rt_eq {k : Nat} (hr : Room k X.A) (ha : RE X O a f1) (hb : RE X O b f2) : RT X O (.Compare a [.Eq] [b] pos) (tru (bin eqD f1 f2)) := rt_cop (op_eqD hr.units) v_eq ha hb eqD_b
theorem rt_ne {k : Nat} (hr : Room k X.A) (ha : RE X O a f1) (hb : RE X O b f2) : RT X O (.Compare a [.NotEq] [b] pos) (tru (bin neD f1 f2)) := rt_cop (op_neD hr.units) v_ne ha hb neD_b
theorem rt_is (ha : RE X O a f1) (hb : RE X O b f2) : RT X O (.Compare a [.Is] [b] pos) (tru (bin isN f1 f2)) := rt_cop op_isN v_isN ha hb isN_b
theorem rt_isnot (ha : RE X O a f1) (hb : RE X O b f2) : RT X O (.Compare a [.IsNot] [b] pos) (tru (bin notN f1 f2)) := rt_cop op_notN v_notN ha hb notN_b
theorem room65 {k : Nat} {A : Around} (hr : Room (k + 1) A) : A.units + 65 < cLine := by
  have := hr.un
  omega
theorem r_in {k : Nat} (hr : Room (k + 1) X.A) (ha : RE X O a f1) (hb : RE X O b f2) (hm : behindInMarks .In b = false := by rfl) : RE X O (.Compare a [.In] [b] pos) (bin inD f1 f2) := r_cop (op_inD (room65 hr)) v_in ha hb hm
theorem r_notin {k : Nat} (hr : Room (k + 1) X.A) (ha : RE X O a f1) (hb : RE X O b f2) (hm : behindInMarks .NotIn b = false := by rfl) : RE X O (.Compare a [.NotIn] [b] pos) (bin notinD f1 f2) := r_cop (op_notInD (room65 hr)) v_notin ha hb hm
theorem rt_in {k : Nat} (hr : Room (k + 1) X.A) (ha : RE X O a f1) (hb : RE X O b f2) (hm : behindInMarks .In b = false := by rfl) : RT X O (.Compare a [.In] [b] pos) (tru (bin inD f1 f2)) := rt_cop (op_inD (room65 hr)) v_in ha hb inD_b hm
theorem rt_notin {k : Nat} (hr : Room (k + 1) X.A) (ha : RE X O a f1) (hb : RE X O b f2) (hm : behindInMarks .NotIn b = false := by rfl) : RT X O (.Compare a [.NotIn] [b] pos) (tru (bin notinD f1 f2)) := rt_cop (op_notInD (room65 hr)) v_notin ha hb notinD_b hm
/-! ### a recursion: nothing is promised at no fuel -/
theorem cal_none {P : Program} {w : World} {K : PySem.W.Frag} {mg : Str → Option Value} {base : Heap} {x : Str} {st : Stmt} {f : Addr} {fd : FuncData} {ps : List Str} (F : Fun K x x st f fd) (hm : mg x = some (.ref f)) (hb : Binds K fd ps []) (k : Nat) : Cal P w K mg base k x ps (spP K ps.length fun _ => none) :=
  ⟨f, fd, ⟨fun vs H Q E h => h.1, fun A outer s H args us vs Q E hr e0 hbi hv h => by
    obtain ⟨_, _, _, _, _, e, _⟩ := h
    cases e⟩, hm, F.kp, hb⟩
theorem Cal.mono {P : Program} {w : World} {K : PySem.W.Frag} {mg : Str → Option Value} {base : Heap} {x : Str} {ps : List Str} {sp : Sp} {k k' : Nat} (c : Cal P w K mg base k x ps sp) (h : k ≤ k') : Cal P w K mg base k' x ps sp := by
  obtain ⟨f, fd, hF, h1, h2, h3⟩ := c.ex
  exact ⟨f, fd, hF.mono h, h1, h2, h3⟩
/-- a def as it stands behind the top -/
def At (K : PySem.W.Frag) (mg : Str → Option Value) (x : Str) (st : Stmt) (ps : List Str) : Prop := ∃ f fd, Fun K x x st f fd ∧ mg x = some (.ref f) ∧ Binds K fd ps []
theorem at_mk {K : PySem.W.Frag} {h : Heap} {mg : Str → Option Value} {x : Str} {st : Stmt} {ps : List Str} {f1 : Addr} {od1 an1 : Option Addr} {sl1 : Array (Option Value)} {oc1 kV1 dc1 pm1 cd1 ct1 : Value} (X : K.In h) (G : h.Ns mainGlobals mg)
    (hb : ∀ (kV doc pm : Value) (an : Option Addr) (cdv ct : Value) (us : List Value), us.length = ps.length → bindArgs (PySem.W.fnOf x x (defArgs st) (defBody st) (defScope st) .none kV doc pm an cdv ct) ⟨us, []⟩ = pure (ps.zip us))
    (a1 : PySem.W.nsIn K mainGlobals x = some (some (.ref f1))) (l1 : K.lookup f1 = some ⟨oc1, od1, .func (PySem.W.fnOf x x (defArgs st) (defBody st) (defScope st) .none kV1 dc1 pm1 an1 cd1 ct1), sl1⟩) (c1 : PySem.W.codeIn K cd1 x = true) (k1 : PySem.W.keepIn K (.ref f1) = true) : At K mg x st ps := by
  have F1 := fun_mk (st := st) l1 c1 k1
  exact ⟨f1, _, F1, PySem.W.mg_of X G a1, F1.binds hb⟩
/-- a new list as a value -/
def nl (f : SE) : SE := fun t => (f t).bind fun r => match r.1 with | .list ds => some (.list ds, r.2) | _ => none
def kPar3 (i j l : Nat) (fs : SA) : SS := fun t => (fs t).bind fun r => match r.1 with | [d, e, g] => some (.nx (((r.2.set i (some d)).set j (some e)).set l (some g))) | _ => none
theorem rs_par3 (i j l : Nat) {x y z : Str} {a b c : Expr} {fs : SA} {px py pz pt pos : Pos} {kt k2 pt2} (hN : X.N.Nodup) (ha : RA X O [a, b, c] fs) (hOi : i ∉ O := by decide) (hOj : j ∉ O := by decide) (hOl : l ∉ O := by decide) (hc : X.calm = true := by rfl) (hi : X.N[i]? = some x := by rfl) (hj : X.N[j]? = some y := by rfl) (hl : X.N[l]? = some z := by rfl) (hij : i ≠ j := by decide) (hil : i ≠ l := by decide) (hjl : j ≠ l := by decide)
    (hx : X.env.scope.names.lookup x = some .local := by rfl) (hy : X.env.scope.names.lookup y = some .local := by rfl) (hz : X.env.scope.names.lookup z = some .local := by rfl)
    (hw : swappedStores [.Tuple [.Name x px, .Name y py, .Name z pz] kt pt] (.Tuple [a, b, c] k2 pt2) X.env = pure (some [x, y, z]) := by rfl)
    (hs : swapsWithSole [.Tuple [.Name x px, .Name y py, .Name z pz] kt pt] (.Tuple [a, b, c] k2 pt2) pos.line X.env = pure false := by rfl) :
    RS X io fr OL O O (.Assign [.Tuple [.Name x px, .Name y py, .Name z pz] kt pt] (.Tuple [a, b, c] k2 pt2) pos) (kPar3 i j l fs) := PS.imp (ps_par3 hc hN hi hj hl hij hil hjl hx hy hz ha hw hs) fun E σ H q => by
  obtain ⟨F, t, o, r, e, q⟩ := q
  obtain ⟨⟨d1, t1⟩, z1, e⟩ := Option.bind_eq_some_iff.mp e
  dsimp only at e
  refine ⟨F, t, d1, t1, r, z1, fun v H1 r1 s1 p1 => ?_⟩
  match d1, e, p1 with
  | [d, e', g], rfl, p1 =>
    cases p1 with
    | cons w0 p1 =>
      obtain ⟨v1, v2, rfl, w1, w2⟩ := DpAll.two p1
      exact ⟨_, v1, v2, rfl, q F _ H1 .refl (((r1.set hOi w0).set hOj w1).set hOl w2)⟩
def kAug (g : D → D → Option D) (i : Nat) (f : SE) : SS := fun t => match t[i]? with | some (some d) => (f t).bind fun r => (g d r.1).bind fun y => some (.nx (r.2.set i (some y))) | _ => none
theorem aug_run {K : PySem.W.Frag} {g : D → D → Option D} {h : Int → Int → Int} (hg : ∀ a b d, g a b = some d → ∃ i j, a = .int i ∧ b = .int j ∧ d = .int (h i j)) {i : Nat} {f : SE} (hO : i ∉ O) {E : Ends} {σ : L2.St} {H : Hp} (q : tS K io fr OL O O (kAug g i f) E σ H) : tAug i (tD K O f) (ipI h) E σ H := by
  obtain ⟨F, t, o, r, e, q⟩ := q
  unfold kAug at e
  split at e
  · rename_i d hd
    obtain ⟨⟨d1, t1⟩, z1, e⟩ := Option.bind_eq_some_iff.mp e
    obtain ⟨y, z2, e⟩ := Option.bind_eq_some_iff.mp e
    cases e
    obtain ⟨a, b, rfl, e2, rfl⟩ := hg _ _ _ z2
    dsimp only at e2
    subst e2
    obtain ⟨v, h1, h2⟩ := r.val i _ hO hd
    exact ⟨v, h1, F, t, _, t1, r, z1, fun w H1 r1 s1 p1 => ⟨a, b, h2.int_inv, p1.int_inv, q F _ H1 .refl (r1.set hO (.int _))⟩⟩
  · cases e
def iaddD : D → D → Option D | .int i, .int j => some (.int (i + j)) | _, _ => none
theorem rs_aug_add (i : Nat) {x : Str} {e : Expr} {f : SE} {pos' pos : Pos} (hN : X.N.Nodup) (he : RE X O e f) (hO : i ∉ O := by decide) (hi : X.N[i]? = some x := by rfl) (hx : Loc X.env.scope x := by first | exact Or.inl rfl | exact Or.inr rfl) (hf : X.fn x = true ∨ X.env.scope.names.lookup x = some .local := by first | exact .inl rfl | exact .inr rfl | assumption) :
    RS X io fr OL O O (.AugAssign (.Name x pos') .Add e pos) (kAug iaddD i f) := PS.imp (ps_aug hN hi hx he ip_add hf) fun E σ H q => aug_run (fun a b d h => by cases a <;> cases b <;> cases h <;> exact ⟨_, _, rfl, rfl, rfl⟩) hO q
theorem rs_aug_sub (i : Nat) {x : Str} {e : Expr} {f : SE} {pos' pos : Pos} (hN : X.N.Nodup) (he : RE X O e f) (hO : i ∉ O := by decide) (hi : X.N[i]? = some x := by rfl) (hx : Loc X.env.scope x := by first | exact Or.inl rfl | exact Or.inr rfl) (hf : X.fn x = true ∨ X.env.scope.names.lookup x = some .local := by first | exact .inl rfl | exact .inr rfl | assumption) :
    RS X io fr OL O O (.AugAssign (.Name x pos') .Sub e pos) (kAug subD i f) := PS.imp (ps_aug hN hi hx he ip_sub hf) fun E σ H q => aug_run (fun a b d h => by cases a <;> cases b <;> cases h <;> exact ⟨_, _, rfl, rfl, rfl⟩) hO q
def listrevD : D → Option D | .list ds => some (.list ds.reverse) | _ => none
end
end PD

set_option maxHeartbeats 1000000
namespace PDR
open PySem PySem.Spec PyProof.Rows RT
section
variable {prog : Program} {w : World} {A : Around} {E : Value → Shared → Prop} {s : Shared}
theorem ext_rev {R : Result → Shared → Prop} {it l : Addr} {items : Array Value} (hh : A.handled = none) (hit : s.heap.IsRevIter it l ((items.size : Int) - 1)) (hl : s.heap.IsList l items) (hne : l ≠ it) (hn : items.size ≤ sizeLine) (S : Addr) (hSi : S ≠ it) (hSl : S ≠ l) (res : Value) (c₀ : Nat) (hS : s.heap.get? S = some { cls := .type "list", data := .seq #[] c₀ })
    (hR : ∀ h' tk acc' c', (∀ b o, b ≠ S → b ≠ it → s.heap.get? b = some o → h'.get? b = some o) → h'.get? S = some { cls := .type "list", dict := none, data := .seq acc' c', slots := #[] } → ItemsOf (fun i v => items[items.size - 1 - i]? = some v) acc' items.size → R (.ok (.ret res)) { s with heap := h', toks := tk }) :
    wpAny (model prog w) A.in1 (Builtin.List.listExtendWith (.ref S) (.ref it) res)
      (fun fin s' => match fin with | .done f => R (.ok f) s' | .again c' => c'.quiet = true ∧ codeAny (model prog w) A c' R s') (fun e s' => R (.error e) s') s := by
  have W := (Walks.listRev (prog := prog) (w := w) (A := A.in1) hh it l hne items).toS
  have hSf : S ∉ [it, l] := by simp only [List.mem_cons, List.not_mem_nil, or_false, not_or]; exact ⟨hSi, hSl⟩
  have hT : s.TypeIs (.ref it) "list_reverseiterator" := hit.typeIs
  have h1 : Builtin.List.listSameRef (.ref S) (.ref it) = false := by simp [Builtin.List.listSameRef, hSi]
  unfold Builtin.List.listExtendWith
  refine wpAny_bind (wpAny_typeOf hT ?_)
  rw [if_neg (by rw [h1]; decide)]
  refine wpAny_bind (wpAny_pyIter_revIter hit ?_)
  refine wpAny_bind (wpAny_holding ?_)
  unfold Builtin.List.listLengthHint
  refine wpAny_bind (wpAny_specialOf hT nolen_lri ?_)
  show wpAny _ A.in1 (specialOf (Value.ref it) (Str.ofString "__length_hint__") >>= _) _ _ _
  refine wpAny_bind (wpAny_specialOf hT hint_lri ?_)
  generalize hid : ("list_reverseiterator.__length_hint__" : String) = id0
  wp_delta
  rw [show splitId id0 = some ("list_reverseiterator", "__length_hint__") from by subst hid; decide +kernel]
  subst hid
  refine wpAny_bind (wpAny_isInstance (b := true) hT (by rw [isSubtype_type]; kernel_rfl) ?_)
  refine wpAny_pure ?_
  rw [if_neg (by decide)]
  have e0 : ((items.size : Nat) : Int) - 1 - ((0 : Nat) : Int) = (items.size : Int) - 1 := by omega
  refine wpAny_pure ⟨plainId_quiet F.plain_extend_loop _, codeAny_extend_loopS W hn _ hSf _ items.size 0 _ _ _ rfl (Nat.zero_le _) ⟨Nat.zero_le _, by rw [e0]; exact hit, hl⟩ hS (ItemsOf.nil _) fun s' acc' c' hm hS' hacc => ?_⟩
  rw [Moved.eq_with hm]
  refine hR s'.heap s'.toks acc' c' (fun b o hb hb2 e => hm.heap b o (fun hmem => ?_) e) hS' hacc
  rcases List.mem_cons.mp hmem with e' | hmem
  · exact hb e'
  · exact hb2 (List.mem_singleton.mp hmem)
theorem init_rev {R : Result → Shared → Prop} {it l : Addr} {items : Array Value} (hh : A.handled = none) (hit : s.heap.IsRevIter it l ((items.size : Int) - 1)) (hl : s.heap.IsList l items) (hne : l ≠ it) (hn : items.size ≤ sizeLine) (S : Addr) (hSi : S ≠ it) (hSl : S ≠ l) (hS : s.heap.get? S = some { cls := .type "list", data := .seq #[] })
    (hR : ∀ h' tk acc' c', (∀ b o, b ≠ S → b ≠ it → s.heap.get? b = some o → h'.get? b = some o) → h'.get? S = some { cls := .type "list", dict := none, data := .seq acc' c', slots := #[] } → ItemsOf (fun i v => items[items.size - 1 - i]? = some v) acc' items.size → R (.ok (.ret .none)) { s with heap := h', toks := tk }) :
    wpAny (model prog w) A.in1 (Builtin.«list.__init__» ⟨[.ref S, .ref it], []⟩)
      (fun fin s' => match fin with | .done f => R (.ok f) s' | .again c' => c'.quiet = true ∧ codeAny (model prog w) A c' R s') (fun e s' => R (.error e) s') s := by
  show wpAny _ _ (do let old ← Builtin.List.listItems (.ref S); Builtin.List.listUpdate (.ref S) (fun _ => #[]); letGo old.toList.reverse; Builtin.List.listExtendWith (.ref S) (.ref it) .none) _ _ s
  refine wpAny_bind ?_
  unfold Builtin.List.listItems
  refine wpAny_bind (wpAny_seqItems hS rfl (wpAny_pure ?_))
  show wpAny _ _ (updateSeq S (fun _ => #[]) >>= fun _ => letGo (#[] : Array Value).toList.reverse >>= fun _ => Builtin.List.listExtendWith (.ref S) (.ref it) .none) _ _ s
  refine wpAny_bind (wpAny_updateSeq hS rfl ?_)
  have hS₂ := Heap.get?_update_self (Obj.mapSeq (fun _ => (#[] : Array Value))) hS rfl
  have oth : ∀ b o, b ≠ S → s.heap.get? b = some o → (s.heap.update S (Obj.mapSeq (fun _ => (#[] : Array Value)))).get? b = some o :=
    fun b o hb e => (Heap.get?_update_other _ _ (Ne.symm hb)).trans e
  refine wpAny_bind (wpAny_letGo ?_)
  refine ext_rev hh (hit.at fun o e => oth _ _ hSi.symm e) (let ⟨o, ho, r⟩ := hl; ⟨o, oth _ _ hSl.symm ho, r⟩) hne hn S hSi hSl .none _ hS₂ (fun h' tk acc' c' hk hS' hacc => ?_)
  exact hR h' tk acc' c' (fun b o hb hb2 e => hk b o hb hb2 (oth b o hb e)) hS' hacc
theorem call_list_rev {it l : Addr} {items : Array Value} {Q : Value → Shared → Prop} (hh : A.handled = none) (hit : s.heap.IsRevIter it l ((items.size : Int) - 1)) (hl : s.heap.IsList l items) (hne : l ≠ it) (hn : items.size ≤ sizeLine)
    (hQ : ∀ h' tk acc' c', (∀ b o, b ≠ it → s.heap.get? b = some o → h'.get? b = some o) → h'.get? s.heap.objs.size = some { cls := .type "list", dict := none, data := .seq acc' c', slots := #[] } → ItemsOf (fun i v => items[items.size - 1 - i]? = some v) acc' items.size → Q (.ref s.heap.objs.size) { s with heap := h', toks := tk }) :
    wpAny (model prog w) A (call (.type "list") [.ref it]) Q E s := by
  refine callType_codes (Q₁ := fun obj s₁ => obj = .ref s.heap.objs.size ∧ s₁ = { s with heap := s.heap.push { cls := .type "list", data := .seq #[] } }) PySem.F.called_list (PySem.F.typeCall_list_1 _) PySem.F.entry_list_init
    (code_list_new _ ⟨rfl, rfl⟩) fun obj s₁ h₁ => ?_
  obtain ⟨rfl, rfl⟩ := h₁
  have hS : (s.heap.push { cls := .type "list", data := .seq #[] }).get? s.heap.objs.size = some { cls := .type "list", data := .seq #[] } := Heap.get?_push_size _ rfl
  obtain ⟨oi, hoi, _⟩ := id hit
  obtain ⟨ol, hol, _⟩ := id hl
  refine ⟨⟨_, hS, rfl⟩, PySem.F.args_list_init_2 _ _, init_rev (A := A.in1) hh (hit.at fun o e => Heap.get?_push_of_some _ e) (hl.push _) hne hn _ (Nat.ne_of_gt (Heap.lt_size hoi)) (Nat.ne_of_gt (Heap.lt_size hol)) hS (fun h' tk acc' c' hk hS' hacc => ?_)⟩
  exact ⟨rfl, hQ h' tk acc' c' (fun b o hb e => hk b o (Nat.ne_of_lt (Heap.lt_size e)) hb (Heap.get?_push_of_some _ e)) hS' hacc⟩
end
end PDR
namespace PD
open PySem L2
section
variable {X : Cx} {O : List Nat}
def tLstRev (K : PySem.W.Frag) (te : TE) : TE := fun σ H Q => te σ H fun v H1 => ∃ (a : Addr) (xs : List V), v = .ref a ∧ SqL K H1 a xs ∧ ∀ q, H1 q = none → Q (.ref q) (upd H1 q (.lst xs.reverse))
theorem pe_lstRev {e : Expr} {te : TE} {p p2 pos pos2 : Pos} (hc : X.calm = true) (hg : Gl X "list") (hm : X.mg "list" = none) (hg2 : Gl X "reversed") (hm2 : X.mg "reversed" = none) (he : PE X e te)
    (hs : starEach [e] X.env = (false, eval e X.env) :: starEach [] X.env := by rfl)
    (hs2 : starEach [.Call (.Name "reversed" p2) [e] [] pos2] X.env = (false, eval (.Call (.Name "reversed" p2) [e] [] pos2) X.env) :: starEach [] X.env := by rfl) :
    PE X (.Call (.Name "list" p) [.Call (.Name "reversed" p2) [e] [] pos2] [] pos) (tLstRev X.K te) := by
  refine ⟨fun pins s σ H Q I h => ?_⟩
  refine PyProof.Rows.Call_ (ld_blt I hg hm PyProof.Rows.boot_list (PyProof.Rows.callWith_type1 (PyProof.Rows.args_cons (PyProof.Rows.Call_ (ld_blt I hg2 hm2 PyProof.Rows.boot_reversed (PyProof.Rows.callWith_type1 (PyProof.Rows.args_cons (thn (he.run pins s σ H _ I h) fun u s1 ⟨v, H1, I1, r1, q1⟩ => PyProof.Rows.args_nil ?_) hs) hs rfl))) hs2) hs2 rfl))
  obtain ⟨a, xs, ev, hq, q⟩ := q1
  subst ev
  obtain rfl : u = Value.ref a := r1
  obtain ⟨its, rv, p', hz⟩ := I1.list hq
  refine PySem.call_reversed_list p'.isList (PyProof.Rows.args_nil ?_)
  have k0 : ∀ b o, s1.heap.get? b = some o → (s1.heap.push (revObj a ((its.toArray.size : Int) - 1))).get? b = some o := fun b o e => Heap.get?_push_of_some _ e
  have I2 : Inv X pins σ H1 { s1 with heap := s1.heap.push (revObj a ((its.toArray.size : Int) - 1)) } := I1.kept (t' := s1.toks) k0
  obtain ⟨f0, f1, f2, f3, f4, f5⟩ := I1.fpOk (H' := H1) (b := s1.heap.objs.size) (Nat.le_refl _) (I1.hok.fresh (Nat.le_refl _))
  have hl := p'.isList
  obtain ⟨ol, hol, _⟩ := id hl
  have hne : a ≠ s1.heap.objs.size := Nat.ne_of_lt (Heap.lt_size hol)
  have hn : its.toArray.size ≤ sizeLine := by rw [List.size_toArray, ← rv.length]; exact hz
  refine PDR.call_list_rev (s := { s1 with heap := s1.heap.push (revObj a ((its.toArray.size : Int) - 1)) }) (I1.ok.hd hc) ⟨_, Heap.get?_push_size _ rfl, rfl, rfl⟩ (hl.push _) hne hn fun h' tk acc c' hk hS hi => ?_
  let q0 := (s1.heap.push (revObj a ((its.toArray.size : Int) - 1))).objs.size
  have hq0 : H1 q0 = none := I2.hok.fresh (Nat.le_refl _)
  have hlt : ∀ b o, (s1.heap.push (revObj a ((its.toArray.size : Int) - 1))).get? b = some o → b ≠ q0 := fun b o e => Nat.ne_of_lt (Heap.lt_size e)
  have nit : ∀ b u, H1 b = some u → b ≠ s1.heap.objs.size := fun b u e z => by rw [z, f0] at e; cases e
  have hok : HOk X.prog X.w (upd H1 q0 (.lst xs.reverse)) h' := fun b u e => by
    by_cases hb : b = q0
    · subst hb
      rw [upd_same] at e
      cases e
      refine ⟨by rw [List.length_reverse]; exact hz, acc.toList, c', _root_.RT.vals_rev rv hi, ?_⟩
      rw [Array.toArray_toList]
      exact hS
    · rw [upd_ne hb] at e
      refine (I2.hok b u e).stay (fun c v hc q => hk c v ?_ q) (fun c q => by rw [upd_ne (ne_of_none q hq0)]; exact q) fun c zs q => by rw [upd_ne (ne_of_none q hq0)]; exact q
      rcases hc with z | z
      · rw [z]; exact nit b u e
      · exact nit c _ z
  have I3 : Inv X pins σ (upd H1 q0 (.lst xs.reverse)) { s1 with heap := h', gens := s1.gens, drawn := s1.drawn, toks := tk } := by
    refine Inv.step (s := { s1 with heap := s1.heap.push (revObj a ((its.toArray.size : Int) - 1)) }) (h' := h') (t' := tk) (g' := s1.gens) (d' := s1.drawn) (ch := [s1.heap.objs.size]) I2 (fun b hb => ?_) (fun b o _ _ hc e _ => hk b o (fun z => hc (by simp [z])) e) (fun b o _ _ hc e _ => ⟨o.slots, hk b o (fun z => hc (by simp [z])) e⟩) (fun b o _ e n => by rw [upd_ne (hlt b o e)]; exact n)
      (fun b o hc e => ⟨o, hk b o (fun z => hc (by simp [z])) e⟩) (fun c _ e => by rw [upd_ne (ne_of_none e hq0)]; exact e) (fun c _ _ e => by rw [upd_ne (ne_of_none e hq0)]; exact e) (fun b ps e => ⟨#[], by rw [upd_ne (ne_of_none e hq0), e]; simp⟩) (fun m hm => ?_) hok I1.bare
    · have e : b = s1.heap.objs.size := by simpa using hb
      subst e
      exact ⟨f3, f1, f4, f5⟩
    · obtain ⟨o, es, ep, ho, r⟩ := hm
      exact ⟨o, es, ep, hk _ o (Ne.symm f1) ho, r⟩
  exact ⟨.ref q0, _, I3, rfl, q q0 hq0⟩
theorem rf_listrev {e : Expr} {f : SE} {p p2 pos pos2 : Pos} (hm : X.mg "list" = none) (hm2 : X.mg "reversed" = none) (he : RE X O e f) (hc : X.calm = true := by rfl) (hg : Gl X "list" := by rfl) (hg2 : Gl X "reversed" := by rfl)
    (hs : starEach [e] X.env = (false, eval e X.env) :: starEach [] X.env := by rfl)
    (hs2 : starEach [.Call (.Name "reversed" p2) [e] [] pos2] X.env = (false, eval (.Call (.Name "reversed" p2) [e] [] pos2) X.env) :: starEach [] X.env := by rfl) :
    RF X O (.Call (.Name "list" p) [.Call (.Name "reversed" p2) [e] [] pos2] [] pos) (un listrevD f) := by
  refine PE.imp (pe_lstRev hc hg hm hg2 hm2 he hs hs2) fun σ H Q q => ?_
  obtain ⟨F, t, ds, t', r, e, q⟩ := q
  obtain ⟨⟨d1, t1⟩, z1, e⟩ := Option.bind_eq_some_iff.mp e
  obtain ⟨d3, z3, e⟩ := Option.bind_eq_some_iff.mp e
  cases e
  refine ⟨F, t, d1, t1, r, z1, fun v H1 r1 s1 p1 => ?_⟩
  dsimp only at z3
  cases d1 with
  | list es =>
    cases z3
    obtain ⟨a, xs, rfl, h1, q1⟩ := p1.lst_inv
    refine ⟨a, xs, rfl, frz_same.seq h1, fun w hw => ?_⟩
    exact q w _ _ (by rw [del_upd hw]; exact r1) (by rw [del_upd hw]; exact s1) upd_same (by rw [del_upd hw]; exact q1.rev)
  | _ => cases z3
theorem r_listrev {e : Expr} {f : SE} {p p2 pos pos2 : Pos} (hm : X.mg "list" = none) (hm2 : X.mg "reversed" = none) (he : RE X O e f) (hc : X.calm = true := by rfl) (hg : Gl X "list" := by rfl) (hg2 : Gl X "reversed" := by rfl)
    (hs : starEach [e] X.env = (false, eval e X.env) :: starEach [] X.env := by rfl)
    (hs2 : starEach [.Call (.Name "reversed" p2) [e] [] pos2] X.env = (false, eval (.Call (.Name "reversed" p2) [e] [] pos2) X.env) :: starEach [] X.env := by rfl) :
    RE X O (.Call (.Name "list" p) [.Call (.Name "reversed" p2) [e] [] pos2] [] pos) (un listrevD f) :=
  rf' (rf_listrev hm hm2 he hc hg hg2 hs hs2) fun t r e => by
    obtain ⟨y, _, e⟩ := Option.bind_eq_some_iff.mp e
    obtain ⟨y2, h2, e⟩ := Option.bind_eq_some_iff.mp e
    cases e
    cases hy : y.1 with
    | list ds => rw [hy] at h2; cases h2; exact ⟨_, rfl⟩
    | _ => rw [hy] at h2; cases h2
end
/-- fuel: the size of an int in a slot -/
def fuelI (i : Nat) : DSt → Nat := fun t => match t[i]? with | some (some (.int b)) => b.natAbs + 1 | _ => 0
/-! ### the end of a law -/
theorem binds_law {K : PySem.W.Frag} {x y : Str} {st : Stmt} {f : Addr} {fd : FuncData} (F : Fun K x x st f fd)
    (h : ∀ (kV doc pm : Value) (an : Option Addr) (cdv ct : Value) (us : List Value), us.length = [y].length → bindArgs (PySem.W.fnOf x x (defArgs st) (defBody st) (defScope st) .none kV doc pm an cdv ct) ⟨us, []⟩ = pure ([y].zip us)) : ∀ (s : Shared) (u : Value), BindsTo s fd ⟨[u], []⟩ [(y, u)] := fun s u => by
  obtain ⟨oc, od, kV, doc, pm, an, cdv, ct, osl, rfl, lk, hcd⟩ := F.ex
  exact .of_eq (h kV doc pm an cdv ct [u] rfl)
theorem dpAll_ints {K : PySem.W.Frag} {H : Hp} : ∀ ns : List Int, DpAll K H (ns.map V.int) (ns.map PyData.int)
  | [] => .nil
  | n :: r => .cons (.int n) (dpAll_ints r)
theorem law_sp {K : PySem.W.Frag} {f : List D → Option D} {H : Hp} {a : Addr} {ns : List Int} (h : f [.list (ns.map .int)] = some (.bool true)) (hS : SqL K H a (ns.map V.int)) : spP K 1 f [.ref a] H (fun v _ => v = .bl true) fun _ _ _ => False := by
  refine ⟨rfl, fun _ => true, [.list (ns.map .int)], .bool true, .cons (.lst (xs := ns.map V.int) ?_ (dpAll_ints ns)) .nil, h, fun v H' _ p => p.bl_inv⟩
  have : lim (fun _ => true) H = H := by funext a; rfl
  rw [this]; exact hS
end PD

set_option maxHeartbeats 1000000
namespace PD
open PySem L2
section
variable {X : Cx} {O : List Nat} {a b c : Expr} {es : List Expr} {fs : SA} {f1 f2 f3 : SE} {p pos : Pos}
theorem DpAll.three {K : PySem.W.Frag} {H : Hp} {vs : List V} {d d' d'' : D} (h : DpAll K H vs [d, d', d'']) : ∃ v w u, vs = [v, w, u] ∧ Dp K H v d ∧ Dp K H w d' ∧ Dp K H u d'' := by
  cases h with
  | cons h1 h => obtain ⟨v, w, rfl, h2, h3⟩ := DpAll.two h; exact ⟨_, _, _, rfl, h1, h2, h3⟩
def mx2 (i j : Int) : Int := if i < j then j else i
def mn2 (i j : Int) : Int := if j < i then j else i
def max3 : List D → Option D | [.int i, .int j, .int k] => some (.int (mx2 (mx2 i j) k)) | _ => none
def min3 : List D → Option D | [.int i, .int j, .int k] => some (.int (mn2 (mn2 i j) k)) | _ => none
theorem nuMax2_i (i j : Int) : nuMax2 (.int i) (.int j) = some (.int (mx2 i j)) := by
  show some (if decide (i < j) = true then V.int j else V.int i) = _
  unfold mx2
  by_cases h : i < j
  · rw [if_pos (decide_eq_true h), if_pos h]
  · rw [if_neg (by simpa using h), if_neg h]
theorem nuMin2_i (i j : Int) : nuMin2 (.int i) (.int j) = some (.int (mn2 i j)) := by
  show some (if decide (j < i) = true then V.int j else V.int i) = _
  unfold mn2
  by_cases h : j < i
  · rw [if_pos (decide_eq_true h), if_pos h]
  · rw [if_neg (by simpa using h), if_neg h]
theorem r_max3 (hm : X.mg "max" = none) (hc : X.calm = true) (ha : RA X O (a :: es) fs) (hg : Gl X "max" := by rfl) (he : starEach (a :: es) X.env = (false, eval a X.env) :: starEach es X.env := by rfl) (hpl : (backTo pos (starEach es X.env)).any (·.1) = false := by rfl) : RE X O (.Call (.Name "max" p) (a :: es) [] pos) (callD max3 fs) :=
  r_callB (g := max3) (call_max3Nu hc) (fun O F t σ H vs ds d Q rp p e q => by
    unfold max3 at e
    split at e
    · cases e
      obtain ⟨v, w, u, rfl, p1, p2, p3⟩ := DpAll.three p
      refine ⟨v, w, u, _, rfl, ?_, q _ H (Same.refl _) (.int _)⟩
      rw [p1.int_inv, p2.int_inv, p3.int_inv]
      unfold nuMax3
      rw [nuMax2_i]
      exact nuMax2_i _ _
    · cases e) hm ha hg (hb := by decide +kernel) (he := he) (hpl := hpl)
theorem r_min3 (hm : X.mg "min" = none) (hc : X.calm = true) (ha : RA X O (a :: es) fs) (hg : Gl X "min" := by rfl) (he : starEach (a :: es) X.env = (false, eval a X.env) :: starEach es X.env := by rfl) (hpl : (backTo pos (starEach es X.env)).any (·.1) = false := by rfl) : RE X O (.Call (.Name "min" p) (a :: es) [] pos) (callD min3 fs) :=
  r_callB (g := min3) (call_min3Nu hc) (fun O F t σ H vs ds d Q rp p e q => by
    unfold min3 at e
    split at e
    · cases e
      obtain ⟨v, w, u, rfl, p1, p2, p3⟩ := DpAll.three p
      refine ⟨v, w, u, _, rfl, ?_, q _ H (Same.refl _) (.int _)⟩
      rw [p1.int_inv, p2.int_inv, p3.int_inv]
      unfold nuMin3
      rw [nuMin2_i]
      exact nuMin2_i _ _
    · cases e) hm ha hg (hb := by decide +kernel) (he := he) (hpl := hpl)
/-! ### a < b < c -/
def chn (g g' : D → D → Option D) (f1 f2 f3 : SE) : SE := fun t => (f1 t).bind fun r1 => (f2 r1.2).bind fun r2 => (g r1.1 r2.1).bind fun d => match d with
  | .bool true => (f3 r2.2).bind fun r3 => (g' r2.1 r3.1).bind fun e => some (e, r3.2)
  | .bool false => some (.bool false, r2.2)
  | _ => none
theorem chn_run {K : PySem.W.Frag} {r r' : R2} {g g' : D → D → Option D} (hv : ValOp K r g) (hv' : ValOp K r' g') {σ : L2.St} {H : Hp} {Q : VK} (q : tD K O (chn g g' f1 f2 f3) σ H Q) : tChain r r' (tD K O f1) (tD K O f2) (tD K O f3) σ H Q := by
  obtain ⟨F, t, d, t', rp, e, q⟩ := q
  obtain ⟨⟨d1, t1⟩, z1, e⟩ := Option.bind_eq_some_iff.mp e
  obtain ⟨⟨d2, t2⟩, z2, e⟩ := Option.bind_eq_some_iff.mp e
  obtain ⟨d3, z3, e⟩ := Option.bind_eq_some_iff.mp e
  refine ⟨F, t, d1, t1, rp, z1, fun x H1 r1 s1 p1 => ?_⟩
  refine ⟨F, t1, d2, t2, r1, z2, fun y H2 r2 s2 p2 => ?_⟩
  refine hv O F t2 σ H2 x y d1 d2 d3 _ r2 (p1.mono s2) p2 z3 fun v H' s3 p3 => ?_
  split at e
  · obtain ⟨⟨d4, t4⟩, z4, e⟩ := Option.bind_eq_some_iff.mp e
    obtain ⟨d5, z5, e⟩ := Option.bind_eq_some_iff.mp e
    cases e
    refine ⟨true, p3.bl_inv, ?_⟩
    rw [if_pos rfl]
    refine ⟨F, t2, d4, t4, r2.mono s3, z4, fun w H4 r4 s4 p4 => ?_⟩
    exact hv' O F t4 σ H4 y w d2 d4 d Q r4 ((p2.mono (frz_mono s3)).mono s4) p4 z5 fun v H5 s5 p5 => q v H5 (r4.mono s5) ((((s1.trans s2).trans (frz_mono s3)).trans s4).trans (frz_mono s5)) p5
  · cases e
    refine ⟨false, p3.bl_inv, ?_⟩
    rw [if_neg (by decide)]
    exact q _ H' (r2.mono s3) ((s1.trans s2).trans (frz_mono s3)) (.bl false)
  · cases e
theorem r_chain {op op' : CmpOp} {r r' : R2} {g g' : D → D → Option D} (ho : OpR X (compareOp op) r) (ho' : OpR X (compareOp op') r') (hv : ValOp X.K r g) (hv' : ValOp X.K r' g') (ha : RE X O a f1) (hb : RE X O b f2) (hc : RE X O c f3)
    (hm : lastMarks [op, op'] [b, c] = false := by with_unfolding_all rfl) : RE X O (.Compare a [op, op'] [b, c] pos) (chn g g' f1 f2 f3) := PE.imp (pe_chain ho ho' ha hb hc hm) fun _ _ _ q => chn_run hv hv' q
theorem rt_chain {op op' : CmpOp} {r r' : R2} {g g' : D → D → Option D} (ho : OpR X (compareOp op) r) (ho' : OpR X (compareOp op') r') (hv : ValOp X.K r g) (hv' : ValOp X.K r' g') (hg' : ∀ a b d, g' a b = some d → ∃ k, d = .bool k) (ha : RE X O a f1) (hb : RE X O b f2) (hc : RE X O c f3)
    (hm : lastMarks [op, op'] [b, c] = false := by with_unfolding_all rfl) : RT X O (.Compare a [op, op'] [b, c] pos) (tru (chn g g' f1 f2 f3)) := by
  refine PT.imp (pt_chain ho ho' ha hb hc hm) fun σ H Q q => ?_
  obtain ⟨F, t, d, t', rp, e, q⟩ := q
  obtain ⟨⟨d1, t1⟩, z1, e⟩ := Option.bind_eq_some_iff.mp e
  obtain ⟨d3, z3, e⟩ := Option.bind_eq_some_iff.mp e
  cases e
  refine chn_run hv hv' ⟨F, t, d1, t1, rp, z1, fun x H1 r1 s1 p1 => ?_⟩
  have z1' := z1
  obtain ⟨⟨y1, y2⟩, w1, z1'⟩ := Option.bind_eq_some_iff.mp z1'
  obtain ⟨⟨y3, y4⟩, w2, z1'⟩ := Option.bind_eq_some_iff.mp z1'
  obtain ⟨y5, w3, z1'⟩ := Option.bind_eq_some_iff.mp z1'
  split at z1'
  · obtain ⟨⟨y6, y7⟩, w6, z1'⟩ := Option.bind_eq_some_iff.mp z1'
    obtain ⟨y8, w8, z1'⟩ := Option.bind_eq_some_iff.mp z1'
    cases z1'
    obtain ⟨k, rfl⟩ := hg' _ _ _ w8
    cases z3
    exact ⟨d, p1.bl_inv, q H1 r1 s1⟩
  · cases z1'
    cases z3
    exact ⟨_, p1.bl_inv, q H1 r1 s1⟩
  · cases z1'
theorem vLt {K : PySem.W.Frag} : ValOp K (rI0 fun i j => .bl (decide (i < j))) ltD := vI0 fun a b => by cases a <;> cases b <;> rfl
theorem vLe {K : PySem.W.Frag} : ValOp K (rI0 fun i j => .bl (decide (i ≤ j))) leD := vI0 fun a b => by cases a <;> cases b <;> rfl
theorem vGt {K : PySem.W.Frag} : ValOp K (rI0 fun i j => .bl (decide (j < i))) gtD := vI0 fun a b => by cases a <;> cases b <;> rfl
theorem vGe {K : PySem.W.Frag} : ValOp K (rI0 fun i j => .bl (decide (j ≤ i))) geD := vI0 fun a b => by cases a <;> cases b <;> rfl
end
end PD

set_option maxHeartbeats 2000000
namespace PD
open PySem L2
section
variable {X : Cx} {O : List Nat} {a b c : Expr} {es : List Expr} {fs : SA} {f1 f2 f3 : SE} {p pos : Pos} {tg : Expr}
/-! ### range downwards -/
def rngC (lo : Int) (n : Nat) : List D := (List.range n).map fun i => .int (lo + (i : Nat) * (-1))
theorem rngC_len (lo : Int) (n : Nat) : (rngC lo n).length = n := by unfold rngC; rw [List.length_map, List.length_range]
theorem wk_rangeC {K : PySem.W.Frag} {G : Hp} {lo : Int} {n : Nat} : WkD K G (Itc lo (-1) n) (rngC lo n) := by
  refine ⟨fun _ => True, YFn fun i => .int (lo + (i : Nat) * (-1)), ?_, fun _ _ => trivial, fun i x H H' hi s y => ?_⟩
  · rw [rngC_len]; exact walk_rangeC
  · obtain ⟨rfl, rfl⟩ := y
    refine ⟨Same.refl _, fun O F t σ d e r s2 => ?_⟩
    rw [rngC_len] at hi
    have : d = .int (lo + (i : Nat) * (-1)) := by
      unfold rngC at e
      rw [List.getElem?_map, List.getElem?_range hi] at e
      cases e; rfl
    subst this
    exact .int _
def rng3 : List D → Option (List D)
  | [.int i, .int j, .int (-1)] => if (small62 i && small62 j) = true then some (rngC i (i - j).toNat) else none
  | _ => none
def wR3 (fs : SA) : SA := fun t => (fs t).bind fun r => (rng3 r.1).bind fun ds => some (ds, r.2)
theorem ri_range3 (hm : X.mg "range" = none) (ha : RA X O [a, b, c] fs) (hg : Gl X "range" := by rfl) (hs : starEach [a, b, c] X.env = (false, eval a X.env) :: starEach [b, c] X.env := by rfl) (hpl : (backTo pos (starEach [b, c] X.env)).any (·.1) = false := by rfl) :
    RI X O tg (.Call (.Name "range" p) [a, b, c] [] pos) (wR3 fs) := by
  refine PI.imp (pi_range3 hg hm ha hs hpl) fun σ H R q => ?_
  obtain ⟨F, t, d, t', r, e, q⟩ := q
  obtain ⟨⟨d1, t1⟩, z1, e⟩ := Option.bind_eq_some_iff.mp e
  obtain ⟨ds, z2, e⟩ := Option.bind_eq_some_iff.mp e
  cases e
  refine ⟨F, t, d1, t1, r, z1, fun v H1 r1 s1 p1 => ?_⟩
  unfold rng3 at z2
  split at z2
  · split at z2
    · rename_i h1 h2
      cases z2
      dsimp only at h1
      subst h1
      obtain ⟨w, w', w'', rfl, w0, w1, w2⟩ := DpAll.three p1
      have h2' := Bool.and_eq_true_iff.mp h2
      obtain ⟨k1, k2⟩ := small62_ok h2'.1
      obtain ⟨k3, k4⟩ := small62_ok h2'.2
      exact ⟨_, _, _, _, by rw [w0.int_inv, w1.int_inv, w2.int_inv], RgC.neg k1 k2 k3 k4, q _ H1 r1 s1 wk_rangeC⟩
    · cases z2
  · cases z2
/-! ### min, max of a list -/
def lmin : List Int → Option Int
  | [] => none
  | [x] => some x
  | x :: r => (lmin r).map fun m => if x < m then x else m
def lmax : List Int → Option Int
  | [] => none
  | [x] => some x
  | x :: r => (lmax r).map fun m => if m < x then x else m
theorem lmin_ok : ∀ {ns : List Int} {m : Int}, lmin ns = some m → m ∈ ns ∧ ∀ y, y ∈ ns → m ≤ y
  | [], _, e => by cases e
  | [x], _, e => by
    cases e
    exact ⟨List.mem_singleton.mpr rfl, fun y hy => by rw [List.mem_singleton.mp hy]; exact Int.le_refl _⟩
  | x :: z :: r, m, e => by
    obtain ⟨k, h1, h2⟩ := Option.map_eq_some_iff.mp (show (lmin (z :: r)).map (fun m => if x < m then x else m) = some m from e)
    obtain ⟨i1, i2⟩ := lmin_ok h1
    subst h2
    split
    · rename_i hx
      exact ⟨List.mem_cons_self, fun y hy => by
        rcases List.mem_cons.mp hy with q | q
        · rw [q]; exact Int.le_refl _
        · have := i2 y q; omega⟩
    · rename_i hx
      exact ⟨List.mem_cons_of_mem _ i1, fun y hy => by
        rcases List.mem_cons.mp hy with q | q
        · rw [q]; omega
        · exact i2 y q⟩
theorem lmax_ok : ∀ {ns : List Int} {m : Int}, lmax ns = some m → m ∈ ns ∧ ∀ y, y ∈ ns → y ≤ m
  | [], _, e => by cases e
  | [x], _, e => by
    cases e
    exact ⟨List.mem_singleton.mpr rfl, fun y hy => by rw [List.mem_singleton.mp hy]; exact Int.le_refl _⟩
  | x :: z :: r, m, e => by
    obtain ⟨k, h1, h2⟩ := Option.map_eq_some_iff.mp (show (lmax (z :: r)).map (fun m => if m < x then x else m) = some m from e)
    obtain ⟨i1, i2⟩ := lmax_ok h1
    subst h2
    split
    · rename_i hx
      exact ⟨List.mem_cons_self, fun y hy => by
        rcases List.mem_cons.mp hy with q | q
        · rw [q]; exact Int.le_refl _
        · have := i2 y q; omega⟩
    · rename_i hx
      exact ⟨List.mem_cons_of_mem _ i1, fun y hy => by
        rcases List.mem_cons.mp hy with q | q
        · rw [q]; omega
        · exact i2 y q⟩
def minL : List D → Option D | [.list ds] => (intsD ds).bind fun ns => (lmin ns).map .int | _ => none
def maxL : List D → Option D | [.list ds] => (intsD ds).bind fun ns => (lmax ns).map .int | _ => none
theorem r_minL (hm : X.mg "min" = none) (hc : X.calm = true) (ha : RA X O (a :: es) fs) (hg : Gl X "min" := by rfl) (he : starEach (a :: es) X.env = (false, eval a X.env) :: starEach es X.env := by rfl) (hpl : (backTo pos (starEach es X.env)).any (·.1) = false := by rfl) : RE X O (.Call (.Name "min" p) (a :: es) [] pos) (callD minL fs) :=
  r_callB (g := minL) (cr_min hc) (fun O F t σ H vs ds d Q rp p e q => by
    unfold minL at e
    split at e
    · obtain ⟨ns, h1, e⟩ := Option.bind_eq_some_iff.mp e
      obtain ⟨m, h2, h3⟩ := Option.map_eq_some_iff.mp e
      subst h3
      have := intsD_eq h1
      subst this
      obtain ⟨v, rfl, w0⟩ := DpAll.one p
      obtain ⟨a, xs, rfl, g1, q1⟩ := w0.lst_inv
      have := DpAll.ints q1
      subst this
      obtain ⟨i1, i2⟩ := lmin_ok h2
      refine ⟨_, ns, rfl, frz_same.seq g1, List.length_pos_of_mem i1, fun k k1 k2 => ?_⟩
      have : k = m := Int.le_antisymm (k2 m i1) (i2 k k1)
      subst this
      exact q _ H (Same.refl _) (.int _)
    · cases e) hm ha hg (hb := by decide +kernel) (he := he) (hpl := hpl)
theorem r_maxL (hm : X.mg "max" = none) (hc : X.calm = true) (ha : RA X O (a :: es) fs) (hg : Gl X "max" := by rfl) (he : starEach (a :: es) X.env = (false, eval a X.env) :: starEach es X.env := by rfl) (hpl : (backTo pos (starEach es X.env)).any (·.1) = false := by rfl) : RE X O (.Call (.Name "max" p) (a :: es) [] pos) (callD maxL fs) :=
  r_callB (g := maxL) (cr_max hc) (fun O F t σ H vs ds d Q rp p e q => by
    unfold maxL at e
    split at e
    · obtain ⟨ns, h1, e⟩ := Option.bind_eq_some_iff.mp e
      obtain ⟨m, h2, h3⟩ := Option.map_eq_some_iff.mp e
      subst h3
      have := intsD_eq h1
      subst this
      obtain ⟨v, rfl, w0⟩ := DpAll.one p
      obtain ⟨a, xs, rfl, g1, q1⟩ := w0.lst_inv
      have := DpAll.ints q1
      subst this
      obtain ⟨i1, i2⟩ := lmax_ok h2
      refine ⟨_, ns, rfl, frz_same.seq g1, List.length_pos_of_mem i1, fun k k1 k2 => ?_⟩
      have : k = m := Int.le_antisymm (i2 k k1) (k2 m i1)
      subst this
      exact q _ H (Same.refl _) (.int _)
    · cases e) hm ha hg (hb := by decide +kernel) (he := he) (hpl := hpl)
/-! ### int of a text -/
def intS : List D → Option D | [.str z] => if z.length ≤ 640 then (PySem.intText? z).map .int else none | _ => none
theorem r_intS (hm : X.mg "int" = none) (ha : RA X O (a :: es) fs) (hg : Gl X "int" := by rfl) (he : starEach (a :: es) X.env = (false, eval a X.env) :: starEach es X.env := by rfl) (hpl : (backTo pos (starEach es X.env)).any (·.1) = false := by rfl) : RE X O (.Call (.Name "int" p) (a :: es) [] pos) (callD intS fs) :=
  r_callTy (g := intS) call_int_str (fun O F t σ H vs ds d Q rp p e q => by
    unfold intS at e
    split at e
    · split at e
      · rename_i hz
        obtain ⟨n, h1, h2⟩ := Option.map_eq_some_iff.mp e
        subst h2
        obtain ⟨v, rfl, w0⟩ := DpAll.one p
        exact ⟨_, n, by rw [w0.str_inv], h1, hz, q _ H (Same.refl _) (.int _)⟩
      · cases e
    · cases e) hm ha hg (hb := by decide +kernel) (he := he) (hpl := hpl)
/-! ### s.split(t) -/
def splitD : D → D → Option D | .str z, .str y => if ((y.length == 0) = false ∧ z.length + 2 ≤ sizeLine) then some (.list ((Txt.split z y).map .str)) else none | _, _ => none
theorem dpAll_strs {K : PySem.W.Frag} {H : Hp} : ∀ ys : List Str, DpAll K H (ys.map V.str) (ys.map PyData.str)
  | [] => .nil
  | y :: r => .cons (.str y) (dpAll_strs r)
def rSpl : V → List V → Hp → VK → Prop := fun x xs H Q => ∃ a b, x = .str a ∧ xs = [.str b] ∧ (b.length == 0) = false ∧ a.length + 2 ≤ sizeLine ∧ ∀ p, H p = none → Q (.ref p) (upd H p (.lst ((Txt.split a b).map V.str)))
theorem mt_spl : MtR X "str.split" rSpl := mt_split
theorem rf_split {e : Expr} (h : PE X e (tBM X.K "str" rSpl (tD X.K O f1) (tDA X.K O (sCons f2 sNil)))) : RF X O e (bin splitD f1 f2) := by
  refine PE.imp h fun σ H Q q => ?_
  obtain ⟨F, t, es, t', r, e, q⟩ := q
  obtain ⟨⟨d1, t1⟩, z1, e⟩ := Option.bind_eq_some_iff.mp e
  obtain ⟨⟨d2, t2⟩, z2, e⟩ := Option.bind_eq_some_iff.mp e
  obtain ⟨d3, z3, e⟩ := Option.bind_eq_some_iff.mp e
  cases e
  refine ⟨F, t, d1, t1, r, z1, fun v H1 r1 s1 p1 => ?_⟩
  dsimp only at z2 z3
  cases d1 with
  | str z =>
    have ev := p1.str_inv
    subst ev
    refine ⟨rfl, F, t1, [d2], t2, r1, by show (f2 t1).bind _ = _; rw [z2]; rfl, fun us H2 r2 s2 p2 => ?_⟩
    obtain ⟨u, rfl, p3⟩ := DpAll.one p2
    cases d2 with
    | str y =>
      have eu := p3.str_inv
      subst eu
      simp only [splitD] at z3
      split at z3
      · rename_i hz
        cases z3
        refine ⟨z, y, rfl, rfl, hz.1, hz.2, fun p hp => ?_⟩
        exact q p _ _ (by rw [del_upd hp]; exact r2) (by rw [del_upd hp]; exact s1.trans s2) upd_same (by rw [del_upd hp]; exact dpAll_strs _)
      · cases z3
    | _ => cases z3
  | _ => cases z3
theorem splitD_l {a b d : D} (h : splitD a b = some d) : ∃ ds, d = .list ds := by
  unfold splitD at h
  split at h
  · split at h
    · cases h; exact ⟨_, rfl⟩
    · cases h
  · cases h
theorem r_split {e : Expr} (h : PE X e (tBM X.K "str" rSpl (tD X.K O f1) (tDA X.K O (sCons f2 sNil)))) : RE X O e (bin splitD f1 f2) :=
  rf' (rf_split h) fun t r e => by
    obtain ⟨⟨d1, t1⟩, z1, e⟩ := Option.bind_eq_some_iff.mp e
    obtain ⟨⟨d2, t2⟩, z2, e⟩ := Option.bind_eq_some_iff.mp e
    obtain ⟨d3, z3, e⟩ := Option.bind_eq_some_iff.mp e
    cases e
    exact splitD_l z3
/-! ### a look at own lists, with a flat answer -/
def flatD : D → Bool
  | .none => true
  | .bool _ => true
  | .int _ => true
  | .str _ => true
  | _ => false
theorem flat_dp {K : PySem.W.Frag} {H H' : Hp} {v : V} {d : D} (h : flatD d = true) (q : Dp K H v d) : Dp K H' v d := by
  cases q with
  | non => exact .non
  | bl b => exact .bl b
  | int i => exact .int i
  | str x => exact .str x
  | lst _ _ => cases h
  | tup _ _ => cases h
open Classical in
theorem peek_core {K : PySem.W.Frag} {F : Fr} {t : DSt} {σ : L2.St} {H : Hp} (r : Rep K O F t σ H) : ∃ F1 : Fr, Rep K [] F1 t σ H ∧ ∀ t1 H', Rep K [] F1 t1 σ H' → Same (frz F1 [] H) (frz F1 [] H') → Rep K O F t σ H' ∧ Same (frz F O H) (frz F O H') := by
  let ow : Addr → Prop := fun a => ∃ i, i ∈ O ∧ F.P i = a
  let F1 : Fr := ⟨F.P, fun a => if ow a then H a else F.B a, fun a => if ow a then true else F.S a⟩
  have hid1 : ∀ a, hid F1 [] a → hid F O a := by
    rintro a (⟨i, hi, _⟩ | ⟨z1, z2⟩)
    · cases hi
    · by_cases ho : ow a
      · exact .inl ho
      · right
        have e1 : F1.B a = F.B a := if_neg ho
        have e2 : F1.S a = F.S a := if_neg ho
        rw [e1] at z1
        rw [e2] at z2
        exact ⟨z1, z2⟩
  have own1 : ∀ a, ow a → ¬ hid F1 [] a := by
    rintro a ho (⟨i, hi, _⟩ | ⟨z1, z2⟩)
    · cases hi
    · have e2 : F1.S a = true := if_pos ho
      rw [e2] at z2
      cases z2
  have up : ∀ H2, Same (frz F O H2) (frz F1 [] H2) := fun H2 a o h => by
    obtain ⟨n, q⟩ := frz_some h
    rw [frz_at (fun z => n (hid1 a z))]
    exact q
  refine ⟨F1, ⟨r.len, fun i d _ e => ?_, fun i hi => (nomatch hi), fun i j hi => (nomatch hi), fun a o e => ?_, fun i hi => (nomatch hi)⟩, fun t1 H' r1 s1 => ?_⟩
  · by_cases hi : i ∈ O
    · obtain ⟨ds, vs, h1, h2, h3, h4⟩ := r.own i hi
      rw [h1] at e
      cases e
      refine ⟨_, h2, .lst (xs := vs) (.inl (.inl ?_)) (h4.mono (up H))⟩
      rw [frz_at (own1 _ ⟨i, hi, rfl⟩)]
      exact h3
    · obtain ⟨v, h1, h2⟩ := r.val i d hi e
      exact ⟨v, h1, h2.mono (up H)⟩
  · by_cases ho : ow a
    · have e1 : F1.B a = H a := if_pos ho
      rw [e1] at e
      exact e
    · have e1 : F1.B a = F.B a := if_neg ho
      rw [e1] at e
      exact r.keep a o e
  · have sm : Same (frz F O H) (frz F O H') := fun a o h => by
      obtain ⟨n, q⟩ := frz_some h
      have h2 := s1 a o (up H a o h)
      rw [frz_at n]
      exact (frz_some h2).2
    refine ⟨⟨r.len, fun i d hi e => ?_, fun i hi => ?_, r.inj, fun a o e => ?_, r.nb⟩, sm⟩
    · obtain ⟨v, h1, h2⟩ := r.val i d hi e
      exact ⟨v, h1, h2.mono sm⟩
    · obtain ⟨ds, vs, h1, h2, h3, h4⟩ := r.own i hi
      refine ⟨ds, vs, h1, h2, r1.keep (F.P i) _ ?_, h4.mono sm⟩
      have e1 : F1.B (F.P i) = H (F.P i) := if_pos ⟨i, hi, rfl⟩
      rw [e1]
      exact h3
    · refine r1.keep a o ?_
      have ho : ¬ ow a := by
        rintro ⟨i, hi, z⟩
        have := r.nb i hi
        rw [z, e] at this
        cases this
      have e1 : F1.B a = F.B a := if_neg ho
      rw [e1]
      exact e
def peek (f : SE) : SE := fun t => (f t).bind fun r => if flatD r.1 = true then some (r.1, t) else none
theorem r_peek {e : Expr} {f : SE} (h : RE X [] e f) : RE X O e (peek f) := by
  refine PE.imp h fun σ H Q q => ?_
  obtain ⟨F, t, d, t', r, e, q⟩ := q
  obtain ⟨⟨d1, t1⟩, z1, e⟩ := Option.bind_eq_some_iff.mp e
  dsimp only at e
  split at e
  · rename_i hf
    cases e
    obtain ⟨F1, r1, back⟩ := peek_core r
    refine ⟨F1, t, d, t1, r1, z1, fun v H' r2 s2 p2 => ?_⟩
    obtain ⟨r3, s3⟩ := back t1 H' r2 s2
    exact q v H' r3 s3 (flat_dp hf p2)
  · cases e
def peekT (f : SB) : SB := fun t => (f t).bind fun r => some (r.1, t)
theorem rt_peek {e : Expr} {f : SB} (h : RT X [] e f) : RT X O e (peekT f) := by
  refine PT.imp h fun σ H Q q => ?_
  obtain ⟨F, t, d, t', r, e, q⟩ := q
  obtain ⟨⟨d1, t1⟩, z1, e⟩ := Option.bind_eq_some_iff.mp e
  cases e
  obtain ⟨F1, r1, back⟩ := peek_core r
  refine ⟨F1, t, _, t1, r1, z1, fun H' r2 s2 => ?_⟩
  obtain ⟨r3, s3⟩ := back t1 H' r2 s2
  exact q H' r3 s3
end
/-- fuel: by the length of a list in a slot -/
def fuelSq (i : Nat) : DSt → Nat := fun t => match t[i]? with | some (some (.list ds)) => (ds.length + 2) * (ds.length + 2) | _ => 0
/-- the body of a def's first loop -/
def forBody (st : Stmt) : List Stmt := match defBody st with | .For _ _ b _ _ :: _ => b | _ => []
end PD

namespace PD
open PySem L2 PySem.Spec PyProof.Rows
open AutoSeq1 (wpAny_loadPart')
/-! ### enumerate of a tuple -/
set_option maxHeartbeats 2000000 in
theorem enum_newT (l : Addr) (items : Array Value) (n : Nat) (dct : Option Addr) (sl : Array (Option Value)) :
    Meets (Builtin.«enumerate.__new__» ⟨[.type "enumerate", .ref l], []⟩) (fun _ R s => s.heap.get? l = some { cls := .type "tuple", dict := dct, data := .seq items n, slots := sl } ∧
      R (.ok (.ret (.ref (s.heap.push { cls := .type "tuple_iterator", data := .fields #[.ref l, .int 0 0] }).objs.size)))
        { s with heap := (s.heap.push { cls := .type "tuple_iterator", data := .fields #[.ref l, .int 0 0] }).push { cls := .type "enumerate", data := .fields #[.none, .bool false, .ref s.heap.objs.size, rawInt 0, .none, .none] } }) :=
  .of_wp fun prog w A R s h => by
    obtain ⟨hp, g, d, tk, os⟩ := s; obtain ⟨hl, h⟩ := h
    have hsub := sub_enumerate
    have hL : Heap.IsTuple (Shared.heap ⟨hp, g, d, tk, os⟩) l items := ⟨_, hl, rfl, n, rfl⟩
    wp_walk using wpAny_loadPart' hl
    refine wpAny_stack_any fun st => wpAny_pure ?_
    split
    · rename_i c _ _ _ _ _
      cases (c == Value.type "enumerate")
      · wp_walk using wpAny_loadPart' hl, wpAny_pyIter_tuple hL
        exact ⟨_, rfl, h⟩
      · wp_walk using wpAny_loadPart' hl, wpAny_pyIter_tuple hL
        exact ⟨_, rfl, h⟩
    · wp_walk using wpAny_loadPart' hl, wpAny_pyIter_tuple hL
      exact ⟨_, rfl, h⟩
theorem call_enumT {prog : Program} {w : World} {A : Around} {E : Value → Shared → Prop} {s : Shared} {l : Addr} {items : Array Value} {Q : Value → Shared → Prop} (hL : s.heap.IsTuple l items)
    (h : ∀ h', IsEnum h' (s.heap.objs.size + 1) s.heap.objs.size 0 .none → h'.IsTupleIter s.heap.objs.size l 0 → (∀ b o, s.heap.get? b = some o → h'.get? b = some o) → Q (.ref (s.heap.objs.size + 1)) { s with heap := h' }) :
    wpAny (model prog w) A (call (.type "enumerate") [.ref l]) Q E s := by
  obtain ⟨⟨c, dct, dt, sl⟩, hl, hc, n, hd⟩ := hL
  obtain rfl : c = .type "tuple" := hc
  obtain rfl : dt = .seq items n := hd
  refine callType_new F.called_enumerate (by decide) (F.typeCall_enumerate_1 _) (F.newCall_enumerate_1 _) (fun obj => F.args_object_init_2 obj _) F.entry_enumerate_new (enum_newT l items n dct sl) ⟨hl, ?_⟩
  have hz : (s.heap.push { cls := .type "tuple_iterator", data := .fields #[.ref l, .int 0 0] }).objs.size = s.heap.objs.size + 1 := Heap.size_push ..
  have he := Heap.get?_push_size (s.heap.push { cls := .type "tuple_iterator", data := .fields #[.ref l, .int 0 0] })
      (o := { cls := .type "enumerate", data := .fields #[.none, .bool false, .ref s.heap.objs.size, rawInt 0, .none, .none] }) rfl
  show _ ∧ _
  rw [hz] at he ⊢
  exact ⟨⟨_, he, rfl⟩, h _ he ⟨_, Heap.get?_push_of_some _ (Heap.get?_push_size _ rfl), rfl, rfl⟩ fun b o x => Heap.get?_push_of_some _ (Heap.get?_push_of_some _ x)⟩
/-- the tuple at a, each item in a new pair -/
def ItE (K : PySem.W.Frag) (a : Addr) : It :=
  ⟨fun i H => ∃ (xs : List V) (x : V), SqT K H a xs ∧ xs[i]? = some x, fun i H v H' => ∃ T x, v = .ref T ∧ H T = none ∧ H' = upd H T (.tup [.int (i : Nat), x]) ∧ ∀ xs, SqT K H a xs → xs[i]? = some x, fun i H => ∃ xs : List V, SqT K H a xs ∧ xs.length = i⟩
theorem turn_enumT {P : Program} {w : World} {K : PySem.W.Frag} {elts : List Expr} {kk : Nat} {tpos : Pos} (a e it : Addr) :
    Turn P w K (.Tuple elts kk tpos) (ItE K a) [e, it] e (fun i h => (∃ old, IsEnum h e it ((i : Nat) : Int) old) ∧ h.IsTupleIter it a i ∧ e ≠ it ∧ a ≠ it ∧ a ≠ e) where
  mem := by simp
  obj := fun i h st b hb => by
    obtain ⟨⟨old, he⟩, ⟨o, ho, hc, hd⟩, _⟩ := st
    have e' : b = e ∨ b = it := by simpa using hb
    rcases e' with z | z
    · rw [z]; exact ⟨_, he, fun v q => nomatch q⟩
    · rw [z]; exact ⟨o, ho, fun v q => by rw [hd] at q; cases q⟩
  keep := fun i h h' st k => let ⟨⟨old, he⟩, hi, hne⟩ := st; ⟨⟨old, k e (by simp) _ he⟩, hi.at fun o q => k it (by simp) o q, hne⟩
  item := by
    intro X hP hw hK hc i pins s σ H E I hf st hg
    subst hP hw hK
    obtain ⟨⟨old, he⟩, hit, hne, hai, hae⟩ := st
    obtain ⟨xs, x, hq, hx⟩ := hg
    obtain ⟨its, rv, p, hz⟩ := I.tuple hq
    obtain ⟨u, hu, ru⟩ := rv.get hx
    have hel : e < s.heap.objs.size := Heap.lt_size he
    have hil : it < s.heap.objs.size := by obtain ⟨_, q, _⟩ := hit; exact Heap.lt_size q
    have hsz : i < its.toArray.size := by
      have := (List.getElem?_eq_some_iff.mp hu).1
      simpa using this
    refine wpAny_pyNext_enum_itemD (Draws.tuple (A := X.A.in1) (I.ok.hd hc) it a hai its.toArray) he ⟨hit, p⟩ hsz hne (by simp; exact ⟨hne, Ne.symm hae⟩) fun y h' tk hy ho hit' hT hsz2 hk => ?_
    have hyu : y = u := by
      have e1 : its.toArray[i]? = some u := by simpa using hu
      rw [e1] at hy
      exact (Option.some.inj hy).symm
    subst hyu
    refine ⟨_, rfl, wpAny_letOwnedTupleGo_enum (s := { s with heap := h', toks := tk + 1 }) ho fun h'' he' sb => ?_⟩
    have hT2 : h''.get? s.heap.objs.size = some { cls := .type "tuple", data := .seq #[.int i tk, y] } := (sb.2 _ (Nat.ne_of_gt hel)).trans hT
    have new : ObjOk X.prog X.w (upd H s.heap.objs.size (.tup [.int (i : Nat), x])) h'' s.heap.objs.size (.tup [.int (i : Nat), x]) :=
      ⟨by show 2 ≤ sizeLine; decide, [.int i tk, y], .cons ⟨_, rfl⟩ (.cons ru .nil), ⟨_, hT2, rfl, _, rfl⟩⟩
    have I1 : Inv X pins σ (upd H s.heap.objs.size (.tup [.int (i : Nat), x])) { s with heap := h'', toks := tk + 1 } :=
      I.turnedNew (ch := [e, it]) (fun b ob hb q => (sb.2 b (fun z => hb (by simp [z]))).trans (hk b ob (fun z => hb (by simp [z])) (fun z => hb (by simp [z])) q)) hf (Nat.le_refl _) new
    refine ⟨.ref s.heap.objs.size, _, I1, rfl, ⟨_, x, rfl, I.hok.fresh (Nat.le_refl _), rfl, fun ys hy => by rw [I.tuple_inj hy hq]; exact hx⟩, ⟨⟨y, ?_⟩, hit'.1.at fun o q => (sb.2 it (Ne.symm hne)).trans q, hne, hai, hae⟩, fun b hb => ?_⟩
    · have e1 : ((i + 1 : Nat) : Int) = (i : Int) + 1 := by omega
      rw [e1]; exact he'
    · have hb' : b < s.heap.objs.size := by
        have e' : b = e ∨ b = it := by simpa using hb
        rcases e' with z | z
        · rw [z]; exact hel
        · rw [z]; exact hil
      rw [upd_ne (Nat.ne_of_lt hb')]
      exact (hf b hb).1
  done := by
    intro X hP hw hK hc i pins s σ H E I hf st hg
    subst hP hw hK
    obtain ⟨⟨old, he⟩, hit, hne, hai, hae⟩ := st
    obtain ⟨xs, hq, hx⟩ := hg
    obtain ⟨its, rv, p, hz⟩ := I.tuple hq
    obtain ⟨f0, f1, f2, f3, f4, f5⟩ := hf it (by simp)
    have hl := rv.length
    have hn : its.toArray.size = i := by simp; omega
    refine wpAny_pyNext_enum_endD (Draws.tuple (A := X.A.in1) (I.ok.hd hc) it a hai its.toArray) he ⟨by rw [hn]; exact hit, p⟩ fun h' eb => ⟨rfl, I.turned (t' := s.toks) (fun b o hb q => eb b o hb q) f0 f1 f3 f4 f5⟩
  self := fun A i s Q E st h => let ⟨⟨_, he⟩, _⟩ := st; wpAny_pyIter_enum he h
theorem walk_enumT {K : PySem.W.Frag} {a : Addr} {xs : List V} : Walk (ItE K a) xs.length (fun H => SqT K H a xs) (YPair (fun i => some (.int (i : Nat))) (fun i => xs[i]?)) := by
  refine ⟨fun i _ hi q => ⟨xs, xs[i], q, by simp [hi]⟩, fun _ q => ⟨xs, q, rfl⟩, fun i H v H' _ q y => ?_⟩
  obtain ⟨T, x, h1, h2, h3, h4⟩ := y
  exact ⟨T, .int (i : Nat), x, h1, h2, h3, rfl, h4 xs q⟩
def iEnumQ (K : PySem.W.Frag) (ta : TA) : TI := fun σ H R => ta σ H fun vs H1 => ∃ a, vs = [.ref a] ∧ ((∃ xs, SqL K H1 a xs ∧ R (Ite K a) H1) ∨ ∃ xs, SqT K H1 a xs ∧ R (ItE K a) H1)
theorem pi_enumQ {X : Cx} {e : Expr} {ta : TA} {p pos tpos : Pos} {elts : List Expr} {kk : Nat} (hg : Gl X "enumerate") (hm : X.mg "enumerate" = none) (ha : PA X [e] ta) (hs : starEach [e] X.env = [(false, eval e X.env)] := by rfl) :
    PI X (.Tuple elts kk tpos) (.Call (.Name "enumerate" p) [e] [] pos) (iEnumQ X.K ta) := by
  refine ⟨fun pins s σ H R I h => ?_⟩
  refine Call_ (ld_blt I hg hm boot_enumerate (PyProof.Rows.callWith_type1 (thn (ha.run pos pins s σ H _ I h) fun us s1 ⟨vs, H1, I1, r1, q1⟩ => ?_) hs rfl))
  obtain ⟨a, ex, q⟩ := q1
  subst ex
  cases r1 with
  | cons r rr =>
    cases rr
    cases r
    have new : ∀ b ∈ [s1.heap.objs.size + 1, s1.heap.objs.size], s1.heap.objs.size ≤ b := fun b hb => by
      have e' : b = s1.heap.objs.size + 1 ∨ b = s1.heap.objs.size := by simpa using hb
      rcases e' with z | z
      · rw [z]; exact Nat.le_add_right _ _
      · rw [z]; exact Nat.le_refl _
    rcases q with ⟨xs, hq, q⟩ | ⟨xs, hq, q⟩
    · obtain ⟨its, rv, p', hz⟩ := I1.list hq
      refine call_enumerate_list p'.isList fun h' he hit hsz hk => wpAny_pyIter_enum he ?_
      exact ⟨s1.heap.objs.size + 1, [s1.heap.objs.size + 1, s1.heap.objs.size], _, _, H1, rfl, I1.kept (t' := s1.toks) hk, turn_enum a (s1.heap.objs.size + 1) s1.heap.objs.size, ⟨⟨.none, he⟩, hit, Nat.succ_ne_self _⟩, fun b hb => I1.fpOk (new b hb) (I1.hok.fresh (new b hb)), q⟩
    · obtain ⟨its, rv, p', hz⟩ := I1.tuple hq
      have hal : a < s1.heap.objs.size := by
        obtain ⟨o, ho, _⟩ := id p'
        exact Heap.lt_size ho
      refine call_enumT p' fun h' he hit hk => wpAny_pyIter_enum he ?_
      exact ⟨s1.heap.objs.size + 1, [s1.heap.objs.size + 1, s1.heap.objs.size], _, _, H1, rfl, I1.kept (t' := s1.toks) hk, turn_enumT a (s1.heap.objs.size + 1) s1.heap.objs.size, ⟨⟨.none, he⟩, hit, Nat.succ_ne_self _, Nat.ne_of_lt hal, Nat.ne_of_lt (Nat.lt_succ_of_lt hal)⟩, fun b hb => I1.fpOk (new b hb) (I1.hok.fresh (new b hb)), q⟩
section
variable {X : Cx} {O : List Nat}
theorem enum_lo {K : PySem.W.Frag} {G : Hp} {n i : Nat} {d : D} {x : V} (e1 : ((List.range n).map fun i => PyData.int (i : Nat))[i]? = some d) (e2 : some (V.int (i : Nat)) = some x) : Dp K G x d := by
  cases e2
  rw [List.getElem?_map] at e1
  obtain ⟨k, h1, h2⟩ := Option.map_eq_some_iff.mp e1
  subst h2
  obtain ⟨hk1, hk2⟩ := List.getElem?_eq_some_iff.mp h1
  rw [List.getElem_range] at hk2
  subst hk2
  exact .int _
def wEQ (fs : SA) : SA := fun t => (fs t).bind fun r => match r.1 with | [.list ds] => some (enumL ds, r.2) | [.tuple ds] => some (enumL ds, r.2) | _ => none
theorem ri_enumQ {a : Expr} {fs : SA} {p pos tpos : Pos} {elts : List Expr} {kk : Nat} (hm : X.mg "enumerate" = none) (ha : RA X O [a] fs) (hg : Gl X "enumerate" := by rfl) (hs : starEach [a] X.env = [(false, eval a X.env)] := by rfl) :
    RI X O (.Tuple elts kk tpos) (.Call (.Name "enumerate" p) [a] [] pos) (wEQ fs) := PI.imp (pi_enumQ hg hm ha hs) fun σ H R q => by
  obtain ⟨F, t, d, t', r, e, q⟩ := q
  obtain ⟨⟨d1, t1⟩, z1, e⟩ := Option.bind_eq_some_iff.mp e
  refine ⟨F, t, d1, t1, r, z1, fun v H1 r1 s1 p1 => ?_⟩
  match d1, e, p1 with
  | [.list ds], rfl, p1 =>
    obtain ⟨w, rfl, w0⟩ := DpAll.one p1
    obtain ⟨a, xs, rfl, h1, q1⟩ := w0.lst_inv
    refine ⟨a, rfl, .inl ⟨xs, frz_same.seq h1, q _ H1 r1 s1 (wk_pair (n := xs.length) ?_ walk_enum (fun H s => s.seq h1) (fun i d x e1 e2 => enum_lo e1 e2) fun i d x e1 e2 => ?_)⟩⟩
    · rw [List.length_zip, List.length_map, List.length_range, q1.len, Nat.min_self]
    · obtain ⟨d', h1, h2⟩ := q1.getV e2
      rw [e1] at h1; cases h1
      exact h2
  | [.tuple ds], rfl, p1 =>
    obtain ⟨w, rfl, w0⟩ := DpAll.one p1
    obtain ⟨a, xs, rfl, h1, q1⟩ := w0.tup_inv
    refine ⟨a, rfl, .inr ⟨xs, SqT.same frz_same h1, q _ H1 r1 s1 (wk_pair (n := xs.length) ?_ walk_enumT (fun H s => SqT.same s h1) (fun i d x e1 e2 => enum_lo e1 e2) fun i d x e1 e2 => ?_)⟩⟩
    · rw [List.length_zip, List.length_map, List.length_range, q1.len, Nat.min_self]
    · obtain ⟨d', h1, h2⟩ := q1.getV e2
      rw [e1] at h1; cases h1
      exact h2
end
/-! ### own.extend(a new list) -/
def extO (i : Nat) (f : SE) : SE := fun t => (f t).bind fun r => match r.1 with
  | .list ds => (ownL r.2 i).bind fun c => if c.length + ds.length ≤ sizeLine then some (.none, r.2.set i (some (.list (c ++ ds)))) else none
  | _ => none
theorem r_extO {X : Cx} {O : List Nat} (i : Nat) {x name : Str} {e : Expr} {f : SE} {apos pv1 pos : Pos}
    (hpe : PE X (.Call (.Attribute (.Name x pv1) name apos) [e] [] pos) (tBM X.K "list" rExtend (tVar i) (tCons (tF X.K O f) tNil))) (hi : i ∈ O := by decide) : RE X O (.Call (.Attribute (.Name x pv1) name apos) [e] [] pos) (extO i f) := by
  refine PE.imp hpe fun σ H Q q => ?_
  obtain ⟨F, t, d, t', rp, e, q⟩ := q
  obtain ⟨⟨d1, t1⟩, z1, e⟩ := Option.bind_eq_some_iff.mp e
  cases d1 with
  | list ds =>
    obtain ⟨c, z2, e⟩ := Option.bind_eq_some_iff.mp (show (ownL t1 i).bind (fun c => if c.length + ds.length ≤ sizeLine then some (.none, t1.set i (some (.list (c ++ ds)))) else none) = some (d, t') from e)
    split at e
    · rename_i hl
      cases e
      obtain ⟨es, us, y1, y2, y3, _⟩ := rp.own i hi
      refine ⟨_, y2, .inl ⟨rfl, us, .inl (.inl y3)⟩, F, t, ds, t1, rp, z1, fun p vs H1 r1 s1 hp hd => ?_⟩
      obtain ⟨h1, xs, h2, h3⟩ := r1.getOwn hi (ownL_eq z2)
      have h2' := del_same H1 p _ _ h2
      have m : Same (frz F O (del H1 p)) (frz F O H1) := frz_mono (del_same H1 p)
      refine ⟨_, p, xs, vs, rfl, rfl, h2', hp, by rw [h3.len, hd.len]; exact hl, ?_⟩
      have r2 := r1.mono (del_same H1 p)
      obtain ⟨r3, e3⟩ := r2.setOwn hi ((h3.mono m).app (hd.mono m))
      exact q _ _ r3 (by rw [e3]; exact s1.trans m) .non
    · cases e
  | none => cases e
  | bool _ => cases e
  | int _ => cases e
  | str _ => cases e
  | tuple _ => cases e
  | dict _ => cases e
/-! ### str of a list or a tuple: where no repr is under way -/
theorem call_str_data {X : Cx} (hg : X.A.guards = some []) (hu : X.A.units + 64 < cLine) : CallR X (.type "str") (fun xs H Q => ∃ a d, xs = [.ref a] ∧ Dp X.K H (.ref a) d ∧ d.showable = true ∧ d.hasDict = false ∧ d.depth ≤ 16 ∧ d.shown.length ≤ sizeLine ∧ Q (.str d.shown) H) := by
  intro pins s σ H xs us Q I r h
  obtain ⟨a, d, rfl, hd, h1, h2, h3, h4, q⟩ := h
  obtain ⟨u, rfl, r1⟩ := vals1 r
  obtain ⟨as, rd⟩ := Dp.reads I d _ _ hd r1
  cases r1
  refine str_of_reads rd h1 (fun z => by rw [h2] at z; cases z) hg (by omega) (fun b o e => e) (fun h' u tk hk => ?_) h4
  exact ⟨.str _, H, I.kept (t' := tk) hk, ⟨_, rfl⟩, q⟩
def canStr (d : D) : Prop := d.showable = true ∧ d.hasDict = false ∧ d.depth ≤ 16 ∧ d.shown.length ≤ sizeLine
instance (d : D) : Decidable (canStr d) := by unfold canStr; infer_instance
def strD : List D → Option D
  | [.list ds] => if canStr (.list ds) then some (.str (PyData.shown (.list ds))) else none
  | [.tuple ds] => if canStr (.tuple ds) then some (.str (PyData.shown (.tuple ds))) else none
  | _ => none
section
variable {X : Cx} {O : List Nat} {p pos : Pos} {a : Expr} {es : List Expr} {fs : SA}
theorem r_strD (hgd : X.A.guards = some []) (hu : X.A.units + 64 < cLine) (hm : X.mg "str" = none) (ha : RA X O (a :: es) fs) (hg : Gl X "str" := by rfl) (he : starEach (a :: es) X.env = (false, eval a X.env) :: starEach es X.env := by rfl) (hpl : (backTo pos (starEach es X.env)).any (·.1) = false := by rfl) : RE X O (.Call (.Name "str" p) (a :: es) [] pos) (callD strD fs) :=
  r_callTy (g := strD) (call_str_data hgd hu) (fun O F t σ H vs ds d Q rp p e q => by
    unfold strD at e
    split at e
    · split at e
      · rename_i hz
        cases e
        obtain ⟨v, rfl, w0⟩ := DpAll.one p
        obtain ⟨a, xs, rfl, _, _⟩ := w0.lst_inv
        exact ⟨a, _, rfl, w0.mono frz_same, hz.1, hz.2.1, hz.2.2.1, hz.2.2.2, q _ H (Same.refl _) (.str _)⟩
      · cases e
    · split at e
      · rename_i hz
        cases e
        obtain ⟨v, rfl, w0⟩ := DpAll.one p
        obtain ⟨a, xs, rfl, _, _⟩ := w0.tup_inv
        exact ⟨a, _, rfl, w0.mono frz_same, hz.1, hz.2.1, hz.2.2.1, hz.2.2.2, q _ H (Same.refl _) (.str _)⟩
      · cases e
    · cases e) hm ha hg (hb := by decide +kernel) (he := he) (hpl := hpl)
end
/-! ### texts compared -/
def neS : D → D → Option D | .str a, .str b => some (.bool (!decide (a = b))) | _, _ => none
theorem neS_b (a b d : D) (h : neS a b = some d) : ∃ k, d = .bool k := by
  unfold neS at h
  split at h
  · cases h; exact ⟨_, rfl⟩
  · cases h
theorem v_neS {K : PySem.W.Frag} : ValOp K rNe neS := by
  intro O F t σ H x y d1 d2 d Q rp p1 p2 e q
  unfold neS at e
  split at e
  · cases e
    rw [p1.str_inv, p2.str_inv]
    rename_i a b
    refine ⟨rfl, ?_⟩
    have : decide (V.str a = V.str b) = decide (a = b) := by
      by_cases h : a = b
      · subst h; simp
      · rw [decide_eq_false h, decide_eq_false fun z => h (by cases z; rfl)]
    rw [this]
    exact q _ H (Same.refl _) (.bl _)
  · cases e
section
variable {X : Cx} {O : List Nat} {a b : Expr} {f1 f2 : SE} {pos : Pos}
theorem rt_neS (ha : RE X O a f1) (hb : RE X O b f2) : RT X O (.Compare a [.NotEq] [b] pos) (tru (bin neS f1 f2)) := rt_cop op_ne v_neS ha hb neS_b
end
end PD

namespace PD
open PySem L2 PySem.Spec PyProof.Rows
/-! ### a def's body at one place of the stack -/
theorem fn_at {P : Program} {w : World} {K : PySem.W.Frag} {mg : Str → Option Value} {base : Heap} {k : Nat} {x qual : Str} {st : Stmt} {f : Addr} {fd : FuncData} {N ps : List Str} (F : Fun K x qual st f fd) (S : FnScope N ps (defScope st))
    {A : Around} {outer : List Env} {s : Shared} {H : Hp} {args : Args} {us : List Value} {vs : List V} {Q : VK} {E : XK} (hr : Room (k + 1) A) (e0 : Env0 P w K mg base A outer s H) (hb : BindsTo s fd args (ps.zip us)) (r : Vals vs us) (hl : vs.length = ps.length)
    (hbody : ∀ cdv : Value, Room k (A.deeper (envOfC qual (defScope st) s.heap.objs.size f cdv)) → ∃ t, PSs (cxOf CX0 P w K mg base N qual (defScope st) f cdv A outer s H E).nox (defBody st) t ∧ t { nx := fun _ H' => Q .non H', rt := Q } (L2.start N vs) H) :
    codeAny (model P w) A (.call (.ref f) args) (CR CX0 outer P w H s Q E) s := by
  obtain ⟨oc, od, kV, doc, pm, an, cdv, ct, osl, rfl, lk, hcd⟩ := F.ex
  have KX : K.In s.heap := e0.mod.kin.keeps fun b o e => (e0.bs b o e).1
  obtain ⟨t, ht0, hq⟩ := hbody cdv (hr.deeper _)
  have ht := ht0.nox
  refine codeAny_call_function hr.depth (KX _ _ lk) rfl S.co S.gen rfl (PySem.W.codeRec_of KX hcd) (hb _ _ _ _ ?_)
  refine wpAny_newFunctionEnv_cells S.kind (fun ⟨n, v⟩ hy => ?_) fun env he s1 x => ?_
  · rcases S.par n (List.of_mem_zip hy).1 with q | q
    · exact .inl q
    · exact .inr ⟨q, PySem.W.cellsFrom_some _ _ _ (.inl q)⟩
  subst he
  refine ⟨(e0.mod.nolimit.keeps fun b o e => (e0.bs b o e).1).keeps x.toInCall.keep, codeAny_func ?_⟩
  refine wpAny_mono (ht.run [] s1 (L2.start N vs) H _ (inv_start S hr.hd e0 hl r x) hq) (fun fl s' hs => ?_) fun e s' hs => hs
  match fl, hs with
  | .ret u, ⟨v, σ', H', J, rv, q⟩ => exact ⟨v, H', J.os, J.bare, J.base, J.hok, rv, q⟩
  | .next, ⟨σ', H', J, q⟩ => exact ⟨V.non, H', J.os, J.bare, J.base, J.hok, rfl, q⟩
  | .brk, ⟨_, _, _, q⟩ => exact False.elim q
  | .cont, ⟨_, _, _, q⟩ => exact False.elim q
/-! ### the law's def, called where no repr is under way -/
theorem law_at {P : Program} {w : World} {K : PySem.W.Frag} {mg mb : Str → Option Value} {fa a : Addr} {s₁ : Shared} {vs : List Value} {ns : List Int}
    (KX : K.In s₁.heap) (hns : s₁.heap.Ns mainGlobals mg) (hb : s₁.heap.Ns builtinsNs mb) (hbb : ∀ x : Str, x ≠ "__name__" → mb x = bootBuiltins x) (hlim : s₁.heap.NoLimit) (hg : s₁.gens = #[])
    (ha : s₁.heap.get? a = some { cls := .type "list", data := .seq vs.toArray }) (hi : IntsAre vs ns) (hl : ns.length ≤ sizeLine)
    (R : ∀ (base : Heap) (H : Hp), K.In base → base.Ns mainGlobals mg → SqL K H a (ns.map V.int) → Env0 P w K mg base callerA [] s₁ H →
      codeAny (model P w) callerA (.call (.ref fa) ⟨[.ref a], []⟩) (CR CX0 [] P w H s₁ (fun v _ => v = .bl true) fun _ _ _ => False) s₁) :
    codeAny (model P w) callerA (.call (.ref fa) ⟨[.ref a], []⟩) (fun r s' => r = .ok (.ret (.bool true)) ∧ OldK s₁.heap s'.heap ∧ s'.os = s₁.os ∧ AllBare s'.gens) s₁ := by
  have rv := vals_ints hi
  have lenV := hi.length
  -- H tracks the script alone, or nothing
  have core : ∀ H : Hp, Only H → SqL K H a (ns.map V.int) → HOk P w H s₁.heap → (∀ b, H b ≠ none → b = a ∧ K.lookup a = none) →
      codeAny (model P w) callerA (.call (.ref fa) ⟨[.ref a], []⟩) (fun r s' => r = .ok (.ret (.bool true)) ∧ OldK s₁.heap s'.heap ∧ s'.os = s₁.os ∧ AllBare s'.gens) s₁ := by
    intro H hO hS hok hA
    have free : ∀ {b : Addr} {o : Obj}, s₁.heap.get? b = some o → (b = a → K.lookup a = none → False) → (hidT s₁.heap H).get? b = some o := fun {b o} e no => hidT_get e (by
      cases q : H b with
      | none => rfl
      | some u =>
        obtain ⟨e1, e2⟩ := hA b (by rw [q]; simp)
        exact (no e1 e2).elim)
    have dct : ∀ {b : Addr} {m : Str → Option Value}, s₁.heap.Ns b m → (hidT s₁.heap H).Ns b m := fun {b m} ⟨o, es, ep, e, d, r⟩ => ⟨o, es, ep, free e (fun z _ => by
      rw [z, ha] at e
      cases e
      have d' : Data.seq vs.toArray _ = Data.dict es ep := d
      cases d'), d, r⟩
    have hKb : K.In (hidT s₁.heap H) := fun b o e => free (KX b o e) fun z n => by rw [z, n] at e; cases e
    obtain ⟨mc, h1, h2⟩ := hlim
    refine codeAny_mono (R (hidT s₁.heap H) H hKb (dct hns) hS ⟨rfl, ⟨hKb, dct hns, ⟨mb, dct hb, hbb⟩, ⟨mc, dct h1, h2⟩⟩, fun b o e => of_hidT e, Nat.le_of_eq (hidT_size _ _), trivial, fun b hb => (nomatch (show b ∈ ([] : List Addr) from hb)), hok, .of_eq hg⟩) fun r s' h => ?_
    match r, h with
    | .ok (.ret u), ⟨v, H', os, bare, un, hok', r', q⟩ =>
      obtain rfl : v = .bl true := q
      obtain rfl : u = Value.bool true := r'
      refine ⟨rfl, OldK.of_keep fun b o e => ?_, os, bare⟩
      cases q : H b with
      | none => exact un.keep b o e q (fun z => (nomatch (show b ∈ ([] : List Addr) from z))) (by simp)
      | some u =>
        rcases hO b with z | ⟨ob, xs, z⟩
        · rw [q] at z; cases z
        · obtain ⟨e1, _⟩ := hok b _ z
          obtain ⟨e2, _⟩ := hok' b _ (un.frzs b ob _ z)
          rw [e] at e1; cases e1
          exact e2
    | .error e, h => exact h.elim
  cases hk : K.lookup a with
  | some o =>
    have e := KX a o hk
    rw [ha] at e
    cases e
    exact core (fun _ => none) (fun _ => .inl rfl) (.inr ⟨_, vs.toArray, _, hk, rfl, rfl, rfl, by rw [List.size_toArray, lenV]; exact hl, by simpa using rv⟩) (fun b u z => (nomatch (show (none : Option HO) = some u from z))) fun b z => absurd rfl z
  | none =>
    refine core (fun b => if b = a then some (.frz { cls := .type "list", data := .seq vs.toArray } (.lst (ns.map V.int))) else none) (fun b => ?_) (.inl (.inr ⟨{ cls := .type "list", data := .seq vs.toArray }, if_pos rfl⟩)) (fun b u z => ?_) fun b z => ?_
    · by_cases hb : b = a
      · exact .inr ⟨_, _, if_pos hb⟩
      · exact .inl (if_neg hb)
    · by_cases hb : b = a
      · have z' := (if_pos hb).symm.trans z
        cases z'
        subst hb
        exact ⟨ha, by rw [List.length_map]; exact hl, vs, _, rv, ha⟩
      · have z' := (if_neg hb).symm.trans z
        cases z'
    · by_cases hb : b = a
      · exact ⟨hb, hk⟩
      · exact absurd (if_neg hb) z
theorem walk_at {l : PySem.W.OpenLaw} {n : Nat} {q : Program} {loose : List Str} {XP : (Str → Option Value) → Heap → Prop} {YP : World → Heap → Prop} {d : DefRec} {K : Params → PySem.W.Frag}
    (hn : l.most = some n) (hn2 : n ≤ sizeLine) (hdf : d.params.defaults = []) (hY : ∀ (w : World) (h : Heap), YP w h → (K w.params).In h)
    (F : ∀ (w : World) (mg : Str → Option Value) (fa : Addr) (h : Heap), (K w.params).In h → h.Ns mainGlobals mg → mg d.name = some (.ref fa) →
      ∀ (base : Heap) (H : Hp) (s : Shared) (a : Addr) (ns : List Int), (K w.params).In base → base.Ns mainGlobals mg → ns.length ≤ n → (∀ z ∈ ns, Builtin.Int.intBits z ≤ 1048576) → SqL (K w.params) H a (ns.map V.int) → Env0 l.prog w (K w.params) mg base callerA [] s H →
        codeAny (model l.prog w) callerA (.call (.ref fa) ⟨[.ref a], []⟩) (CR CX0 [] l.prog w H s (fun v _ => v = .bl true) fun _ _ _ => False) s) :
    PySem.W.WalkO q loose XP YP l.row.toRowW d [] (fun f vs => PySem.call f vs) := by
  refine Att.attach_callB hn hdf fun w s₀ s₁ mg mb fa o pm cd doc a vs ns G Y ho hd hcd hmg hobj hints hlen hbits hg => ?_
  exact law_at (hY w _ Y) G.T.g G.T.b G.T.builtins G.T.nolimit hg hobj hints (Nat.le_trans hlen hn2) fun base H h1 h2 h3 h4 => F w mg fa _ (hY w _ Y) G.T.g hmg base H s₁ a ns h1 h2 hlen hbits h3 h4
end PD

namespace PD
open PySem L2
/-! ### running from the left, step by step: what follows stands as a closed word -/
def c_ret (t : DSt) : D → Option (D × DSt) := fun d => some (d, t)
def c_retL (t : DSt) : List D → Option (List D × DSt) := fun d => some (d, t)
def c_retB (t : DSt) : Bool → Option (Bool × DSt) := fun d => some (d, t)
def c_sCons2 (d : D) : List D × DSt → Option (List D × DSt) := fun q => some (d :: q.1, q.2)
def c_sCons1 (g : SA) : D × DSt → Option (List D × DSt) := fun r => (g r.2).bind (c_sCons2 r.1)
def c_tup : List D × DSt → Option (D × DSt) := fun r => if r.1.length ≤ sizeLine then some (.tuple r.1, r.2) else none
def c_lst : List D × DSt → Option (D × DSt) := fun r => if r.1.length ≤ sizeLine then some (.list r.1, r.2) else none
def c_bin2 (g : D → D → Option D) (d : D) : D × DSt → Option (D × DSt) := fun r2 => (g d r2.1).bind (c_ret r2.2)
def c_bin1 (g : D → D → Option D) (f2 : SE) : D × DSt → Option (D × DSt) := fun r1 => (f2 r1.2).bind (c_bin2 g r1.1)
def c_un (g : D → Option D) : D × DSt → Option (D × DSt) := fun r => (g r.1).bind (c_ret r.2)
def c_call (g : List D → Option D) : List D × DSt → Option (D × DSt) := fun r => (g r.1).bind (c_ret r.2)
def c_callI3 (i : Nat) (t : DSt) : D × List D → Option (D × DSt) := fun y => some (y.1, t.set i (some (.list y.2)))
def c_callI2 (i : Nat) (f : List D → List D → Option (D × List D)) (ds : List D) (t : DSt) : List D → Option (D × DSt) := fun c => (f c ds).bind (c_callI3 i t)
def c_callI (i : Nat) (f : List D → List D → Option (D × List D)) : List D × DSt → Option (D × DSt) := fun r => (ownL r.2 i).bind (c_callI2 i f r.1 r.2)
def c_tru : D × DSt → Option (Bool × DSt) := fun r => (truD r.1).bind (c_retB r.2)
def c_and (g : SB) : Bool × DSt → Option (Bool × DSt) := fun r => match r.1 with | true => g r.2 | false => some (false, r.2)
def c_or (g : SB) : Bool × DSt → Option (Bool × DSt) := fun r => match r.1 with | true => some (true, r.2) | false => g r.2
def c_not : Bool × DSt → Option (Bool × DSt) := fun r => some (!r.1, r.2)
def c_vand (g : SE) : D × DSt → Option (D × DSt) := fun r => match r.1 with | .bool true => g r.2 | .bool false => some (.bool false, r.2) | _ => none
def c_vor (g : SE) : D × DSt → Option (D × DSt) := fun r => match r.1 with | .bool true => some (.bool true, r.2) | .bool false => g r.2 | _ => none
def c_sif (f g : SE) : Bool × DSt → Option (D × DSt) := fun r => match r.1 with | true => f r.2 | false => g r.2
def c_nl : D × DSt → Option (D × DSt) := fun r => match r.1 with | .list ds => some (.list ds, r.2) | _ => none
def c_lenO (t : DSt) : List D → Option (D × DSt) := fun c => some (.int c.length, t)
def c_truO (t : DSt) : List D → Option (Bool × DSt) := fun c => some (!c.isEmpty, t)
def c_ixO2 (d : D) (t : DSt) : List D → Option (D × DSt) := fun c => match d with | .int k => (atI c k).bind fun d => some (d, t) | _ => none
def c_ixO (i : Nat) : D × DSt → Option (D × DSt) := fun r => (ownL r.2 i).bind (c_ixO2 r.1 r.2)
def c_meth3 (i : Nat) (t : DSt) : D × List D → Option (D × DSt) := fun w => some (w.1, t.set i (some (.list w.2)))
def c_meth2 (i : Nat) (g : List D → List D → Option (D × List D)) (ds : List D) (t : DSt) : List D → Option (D × DSt) := fun c => (g c ds).bind (c_meth3 i t)
def c_meth (i : Nat) (g : List D → List D → Option (D × List D)) : List D × DSt → Option (D × DSt) := fun r => (ownL r.2 i).bind (c_meth2 i g r.1 r.2)
def c_sl3 (d : D) (o : Option Int) : Option Int × DSt → Option (D × DSt) := fun r2 => (sliceD d o r2.1).bind (c_ret r2.2)
def c_sl2 (h : SO) (d : D) : Option Int × DSt → Option (D × DSt) := fun r1 => (h r1.2).bind (c_sl3 d r1.1)
def c_sl (l h : SO) : D × DSt → Option (D × DSt) := fun r => (l r.2).bind (c_sl2 h r.1)
def c_os : D × DSt → Option (Option Int × DSt) := fun r => match r.1 with | .int i => some (some i, r.2) | _ => none
def c_wS : D × DSt → Option (List D × DSt) := fun r => (seqD r.1).bind (c_retL r.2)
def c_wR1 : List D × DSt → Option (List D × DSt) := fun r => (rng1 r.1).bind (c_retL r.2)
def c_wR2 : List D × DSt → Option (List D × DSt) := fun r => (rng2 r.1).bind (c_retL r.2)
def c_wE : List D × DSt → Option (List D × DSt) := fun r => match r.1 with | [.list ds] => some (enumL ds, r.2) | _ => none
def c_wZ : List D × DSt → Option (List D × DSt) := fun r => match r.1 with | [.list ds, .list es] => some (zipL ds es, r.2) | [.tuple ds, .tuple es] => some (zipL ds es, r.2) | _ => none
def c_lc2 (t : DSt) (vs : List Nat) : List D × DSt → Option (D × DSt) := fun q => some (.list q.1, unwipe t q.2 vs)
def c_lc (vs : List Nat) (g : SG) (ft : SB) (fe : SE) : List D × DSt → Option (D × DSt) := fun r => (compD vs g ft fe r.1 (wipeD r.2 vs) []).bind (c_lc2 r.2 vs)
def c_seq (g : SS) : Out → Option Out := fun o => match o with | .nx t1 => g t1 | .bk t1 => some (.bk t1) | .ct t1 => some (.ct t1) | .rt d t1 => some (.rt d t1)
def c_drop : D × DSt → Option Out := fun r => some (.nx r.2)
def c_set (i : Nat) : D × DSt → Option Out := fun r => some (.nx (r.2.set i (some r.1)))
def c_own (i : Nat) : D × DSt → Option Out := fun r => match r.1 with | .list ds => if i < r.2.length then some (.nx (r.2.set i (some (.list ds)))) else none | _ => none
def c_nx : DSt → Option Out := fun t => some (.nx t)
def c_asg (g : SG) : D × DSt → Option Out := fun r => (g r.1 r.2).bind c_nx
def c_par (i j : Nat) : List D × DSt → Option Out := fun r => match r.1 with | [d, e] => some (.nx ((r.2.set i (some d)).set j (some e))) | _ => none
def c_par3 (i j l : Nat) : List D × DSt → Option Out := fun r => match r.1 with | [d, e, g] => some (.nx (((r.2.set i (some d)).set j (some e)).set l (some g))) | _ => none
def c_if (f g : SS) : Bool × DSt → Option Out := fun r => match r.1 with | true => f r.2 | false => g r.2
def c_rt : D × DSt → Option Out := fun r => some (.rt r.1 r.2)
def c_rto (i : Nat) (t : DSt) : List D → Option Out := fun c => some (.rt (.list c) (t.set i none))
def c_for (g : SG) (fb : SS) : List D × DSt → Option Out := fun r => forD g fb r.1 r.2
def c_gO3 (i : Nat) (d : D) (t : DSt) (c : List D) : Nat → Option DSt := fun j => some (t.set i (some (.list (c.set j d))))
def c_gO2 (i : Nat) (d : D) (k : D) (t : DSt) : List D → Option DSt := fun c => match k with | .int k => (ixN c.length k).bind (c_gO3 i d t c) | _ => none
def c_gO (i : Nat) (d : D) : D × DSt → Option DSt := fun r => (ownL r.2 i).bind (c_gO2 i d r.1 r.2)
theorem sCons_e (f : SE) (g : SA) (t : DSt) : sCons f g t = (f t).bind (c_sCons1 g) := rfl
theorem sTup_e (f : SA) (t : DSt) : sTup f t = (f t).bind c_tup := rfl
theorem sLst_e (f : SA) (t : DSt) : sLst f t = (f t).bind c_lst := rfl
theorem bin_e (g : D → D → Option D) (f1 f2 : SE) (t : DSt) : bin g f1 f2 t = (f1 t).bind (c_bin1 g f2) := rfl
theorem un_e (g : D → Option D) (f : SE) (t : DSt) : un g f t = (f t).bind (c_un g) := rfl
theorem callD_e (g : List D → Option D) (fs : SA) (t : DSt) : callD g fs t = (fs t).bind (c_call g) := rfl
theorem callI_e (i : Nat) (f : List D → List D → Option (D × List D)) (fs : SA) (t : DSt) : callI i f fs t = (fs t).bind (c_callI i f) := rfl
theorem tru_e (f : SE) (t : DSt) : tru f t = (f t).bind c_tru := rfl
theorem tand_e (f g : SB) (t : DSt) : tand f g t = (f t).bind (c_and g) := rfl
theorem tor_e (f g : SB) (t : DSt) : tor f g t = (f t).bind (c_or g) := rfl
theorem tnot_e (f : SB) (t : DSt) : tnot f t = (f t).bind c_not := rfl
theorem vand_e (f g : SE) (t : DSt) : vand f g t = (f t).bind (c_vand g) := rfl
theorem vor_e (f g : SE) (t : DSt) : vor f g t = (f t).bind (c_vor g) := rfl
theorem sIf_e (c : SB) (f g : SE) (t : DSt) : sIf c f g t = (c t).bind (c_sif f g) := rfl
theorem nl_e (f : SE) (t : DSt) : nl f t = (f t).bind c_nl := rfl
theorem lenO_e (i : Nat) (t : DSt) : lenO i t = (ownL t i).bind (c_lenO t) := rfl
theorem truO_e (i : Nat) (t : DSt) : truO i t = (ownL t i).bind (c_truO t) := rfl
theorem ixO_e (i : Nat) (f : SE) (t : DSt) : ixO i f t = (f t).bind (c_ixO i) := rfl
theorem methO_e (i : Nat) (g : List D → List D → Option (D × List D)) (fs : SA) (t : DSt) : methO i g fs t = (fs t).bind (c_meth i g) := rfl
theorem sSl_e (f : SE) (l h : SO) (t : DSt) : sSl f l h t = (f t).bind (c_sl l h) := rfl
theorem oSome_e (f : SE) (t : DSt) : oSome f t = (f t).bind c_os := rfl
theorem wS_e (f : SE) (t : DSt) : wS f t = (f t).bind c_wS := rfl
theorem wR1_e (fs : SA) (t : DSt) : wR1 fs t = (fs t).bind c_wR1 := rfl
theorem wR2_e (fs : SA) (t : DSt) : wR2 fs t = (fs t).bind c_wR2 := rfl
theorem wE_e (fs : SA) (t : DSt) : wE fs t = (fs t).bind c_wE := rfl
theorem wZ_e (fs : SA) (t : DSt) : wZ fs t = (fs t).bind c_wZ := rfl
theorem sLc_e (w : SA) (vs : List Nat) (g : SG) (ft : SB) (fe : SE) (t : DSt) : sLc w vs g ft fe t = (w t).bind (c_lc vs g ft fe) := rfl
theorem kSeq_e (f g : SS) (t : DSt) : kSeq f g t = (f t).bind (c_seq g) := rfl
theorem kDrop_e (f : SE) (t : DSt) : kDrop f t = (f t).bind c_drop := rfl
theorem kSet_e (i : Nat) (f : SE) (t : DSt) : kSet i f t = (f t).bind (c_set i) := rfl
theorem kOwn_e (i : Nat) (f : SE) (t : DSt) : kOwn i f t = (f t).bind (c_own i) := rfl
theorem kAsg_e (f : SE) (g : SG) (t : DSt) : kAsg f g t = (f t).bind (c_asg g) := rfl
theorem kPar_e (i j : Nat) (fs : SA) (t : DSt) : kPar i j fs t = (fs t).bind (c_par i j) := rfl
theorem kPar3_e (i j l : Nat) (fs : SA) (t : DSt) : kPar3 i j l fs t = (fs t).bind (c_par3 i j l) := rfl
theorem kIf_e (c : SB) (f g : SS) (t : DSt) : kIf c f g t = (c t).bind (c_if f g) := rfl
theorem kRet_e (f : SE) (t : DSt) : kRet f t = (f t).bind c_rt := rfl
theorem kRetO_e (i : Nat) (t : DSt) : kRetO i t = (ownL t i).bind (c_rto i t) := rfl
theorem kFor_e (w : SA) (g : SG) (fb : SS) (t : DSt) : kFor w g fb t = (w t).bind (c_for g fb) := rfl
theorem kWhile_e (fuel : DSt → Nat) (c : SB) (fb : SS) (t : DSt) : kWhile fuel c fb t = whileD c fb (fuel t) t := rfl
theorem c_ret_e (t : DSt) (d : D) : c_ret t d = some (d, t) := rfl
theorem c_retL_e (t : DSt) (d : List D) : c_retL t d = some (d, t) := rfl
theorem c_retB_e (t : DSt) (d : Bool) : c_retB t d = some (d, t) := rfl
theorem c_sCons2_e (d : D) (ds : List D) (t : DSt) : c_sCons2 d (ds, t) = some (d :: ds, t) := rfl
theorem c_sCons1_e (g : SA) (d : D) (t : DSt) : c_sCons1 g (d, t) = (g t).bind (c_sCons2 d) := rfl
theorem c_tup_e (ds : List D) (t : DSt) : c_tup (ds, t) = if ds.length ≤ sizeLine then some (.tuple ds, t) else none := rfl
theorem c_lst_e (ds : List D) (t : DSt) : c_lst (ds, t) = if ds.length ≤ sizeLine then some (.list ds, t) else none := rfl
theorem c_bin2_e (g : D → D → Option D) (d e : D) (t : DSt) : c_bin2 g d (e, t) = (g d e).bind (c_ret t) := rfl
theorem c_bin1_e (g : D → D → Option D) (f2 : SE) (d : D) (t : DSt) : c_bin1 g f2 (d, t) = (f2 t).bind (c_bin2 g d) := rfl
theorem c_un_e (g : D → Option D) (d : D) (t : DSt) : c_un g (d, t) = (g d).bind (c_ret t) := rfl
theorem c_call_e (g : List D → Option D) (d : List D) (t : DSt) : c_call g (d, t) = (g d).bind (c_ret t) := rfl
theorem c_callI3_e (i : Nat) (t : DSt) (d : D) (c : List D) : c_callI3 i t (d, c) = some (d, t.set i (some (.list c))) := rfl
theorem c_callI2_e (i : Nat) (f : List D → List D → Option (D × List D)) (ds : List D) (t : DSt) (c : List D) : c_callI2 i f ds t c = (f c ds).bind (c_callI3 i t) := rfl
theorem c_callI_e (i : Nat) (f : List D → List D → Option (D × List D)) (ds : List D) (t : DSt) : c_callI i f (ds, t) = (ownL t i).bind (c_callI2 i f ds t) := rfl
theorem c_tru_e (d : D) (t : DSt) : c_tru (d, t) = (truD d).bind (c_retB t) := rfl
theorem c_and_t (g : SB) (t : DSt) : c_and g (true, t) = g t := rfl
theorem c_and_f (g : SB) (t : DSt) : c_and g (false, t) = some (false, t) := rfl
theorem c_or_t (g : SB) (t : DSt) : c_or g (true, t) = some (true, t) := rfl
theorem c_or_f (g : SB) (t : DSt) : c_or g (false, t) = g t := rfl
theorem c_not_e (b : Bool) (t : DSt) : c_not (b, t) = some (!b, t) := rfl
theorem c_vand_t (g : SE) (t : DSt) : c_vand g (.bool true, t) = g t := rfl
theorem c_vand_f (g : SE) (t : DSt) : c_vand g (.bool false, t) = some (.bool false, t) := rfl
theorem c_vor_t (g : SE) (t : DSt) : c_vor g (.bool true, t) = some (.bool true, t) := rfl
theorem c_vor_f (g : SE) (t : DSt) : c_vor g (.bool false, t) = g t := rfl
theorem c_sif_t (f g : SE) (t : DSt) : c_sif f g (true, t) = f t := rfl
theorem c_sif_f (f g : SE) (t : DSt) : c_sif f g (false, t) = g t := rfl
theorem c_nl_e (ds : List D) (t : DSt) : c_nl (.list ds, t) = some (.list ds, t) := rfl
theorem c_lenO_e (t : DSt) (c : List D) : c_lenO t c = some (.int c.length, t) := rfl
theorem c_truO_e (t : DSt) (c : List D) : c_truO t c = some (!c.isEmpty, t) := rfl
theorem c_ixO2_e (k : Int) (t : DSt) (c : List D) : c_ixO2 (.int k) t c = (atI c k).bind (c_ret t) := rfl
theorem c_ixO_e (i : Nat) (d : D) (t : DSt) : c_ixO i (d, t) = (ownL t i).bind (c_ixO2 d t) := rfl
theorem c_meth3_e (i : Nat) (t : DSt) (d : D) (c : List D) : c_meth3 i t (d, c) = some (d, t.set i (some (.list c))) := rfl
theorem c_meth2_e (i : Nat) (g : List D → List D → Option (D × List D)) (ds : List D) (t : DSt) (c : List D) : c_meth2 i g ds t c = (g c ds).bind (c_meth3 i t) := rfl
theorem c_meth_e (i : Nat) (g : List D → List D → Option (D × List D)) (ds : List D) (t : DSt) : c_meth i g (ds, t) = (ownL t i).bind (c_meth2 i g ds t) := rfl
theorem c_sl3_e (d : D) (o o2 : Option Int) (t : DSt) : c_sl3 d o (o2, t) = (sliceD d o o2).bind (c_ret t) := rfl
theorem c_sl2_e (h : SO) (d : D) (o : Option Int) (t : DSt) : c_sl2 h d (o, t) = (h t).bind (c_sl3 d o) := rfl
theorem c_sl_e (l h : SO) (d : D) (t : DSt) : c_sl l h (d, t) = (l t).bind (c_sl2 h d) := rfl
theorem c_os_e (i : Int) (t : DSt) : c_os (.int i, t) = some (some i, t) := rfl
theorem c_wS_e (d : D) (t : DSt) : c_wS (d, t) = (seqD d).bind (c_retL t) := rfl
theorem c_wR1_e (ds : List D) (t : DSt) : c_wR1 (ds, t) = (rng1 ds).bind (c_retL t) := rfl
theorem c_wR2_e (ds : List D) (t : DSt) : c_wR2 (ds, t) = (rng2 ds).bind (c_retL t) := rfl
theorem c_wE_e (ds : List D) (t : DSt) : c_wE ([.list ds], t) = some (enumL ds, t) := rfl
theorem c_wZ_l (ds es : List D) (t : DSt) : c_wZ ([.list ds, .list es], t) = some (zipL ds es, t) := rfl
theorem c_wZ_t (ds es : List D) (t : DSt) : c_wZ ([.tuple ds, .tuple es], t) = some (zipL ds es, t) := rfl
theorem c_lc2_e (t : DSt) (vs : List Nat) (acc : List D) (t' : DSt) : c_lc2 t vs (acc, t') = some (.list acc, unwipe t t' vs) := rfl
theorem c_lc_e (vs : List Nat) (g : SG) (ft : SB) (fe : SE) (ds : List D) (t : DSt) : c_lc vs g ft fe (ds, t) = (compD vs g ft fe ds (wipeD t vs) []).bind (c_lc2 t vs) := rfl
theorem c_seq_nx (g : SS) (t : DSt) : c_seq g (.nx t) = g t := rfl
theorem c_seq_bk (g : SS) (t : DSt) : c_seq g (.bk t) = some (.bk t) := rfl
theorem c_seq_ct (g : SS) (t : DSt) : c_seq g (.ct t) = some (.ct t) := rfl
theorem c_seq_rt (g : SS) (d : D) (t : DSt) : c_seq g (.rt d t) = some (.rt d t) := rfl
theorem c_drop_e (d : D) (t : DSt) : c_drop (d, t) = some (.nx t) := rfl
theorem c_set_e (i : Nat) (d : D) (t : DSt) : c_set i (d, t) = some (.nx (t.set i (some d))) := rfl
theorem c_own_e (i : Nat) (ds : List D) (t : DSt) : c_own i (.list ds, t) = if i < t.length then some (.nx (t.set i (some (.list ds)))) else none := rfl
theorem c_nx_e (t : DSt) : c_nx t = some (.nx t) := rfl
theorem c_asg_e (g : SG) (d : D) (t : DSt) : c_asg g (d, t) = (g d t).bind c_nx := rfl
theorem c_par_e (i j : Nat) (d e : D) (t : DSt) : c_par i j ([d, e], t) = some (.nx ((t.set i (some d)).set j (some e))) := rfl
theorem c_par3_e (i j l : Nat) (d e g : D) (t : DSt) : c_par3 i j l ([d, e, g], t) = some (.nx (((t.set i (some d)).set j (some e)).set l (some g))) := rfl
theorem c_if_t (f g : SS) (t : DSt) : c_if f g (true, t) = f t := rfl
theorem c_if_f (f g : SS) (t : DSt) : c_if f g (false, t) = g t := rfl
theorem c_rt_e (d : D) (t : DSt) : c_rt (d, t) = some (.rt d t) := rfl
theorem c_rto_e (i : Nat) (t : DSt) (c : List D) : c_rto i t c = some (.rt (.list c) (t.set i none)) := rfl
theorem c_for_e (g : SG) (fb : SS) (ds : List D) (t : DSt) : c_for g fb (ds, t) = forD g fb ds t := rfl
theorem c_gO3_e (i : Nat) (d : D) (t : DSt) (c : List D) (j : Nat) : c_gO3 i d t c j = some (t.set i (some (.list (c.set j d)))) := rfl
theorem c_gO2_e (i : Nat) (d : D) (k : Int) (t : DSt) (c : List D) : c_gO2 i d (.int k) t c = (ixN c.length k).bind (c_gO3 i d t c) := rfl
theorem c_gO_e (i : Nat) (d e : D) (t : DSt) : c_gO i d (e, t) = (ownL t i).bind (c_gO2 i d e t) := rfl
theorem gO_e (i : Nat) (f : SE) (d : D) (t : DSt) : gO i f d t = (f t).bind (c_gO i d) := rfl
theorem gN_e (i : Nat) (d : D) (t : DSt) : gN i d t = some (t.set i (some d)) := rfl
theorem gsNil_e (t : DSt) : gsNil [] t = some t := rfl
theorem gsCons_e (g : SG) (gs : SGs) (d : D) (r : List D) (t : DSt) : gsCons g gs (d :: r) t = (g d t).bind (gs r) := rfl
theorem gT_e (gs : SGs) (n : Nat) (ds : List D) (t : DSt) : gT gs n (.tuple ds) t = if ds.length = n then gs ds t else none := rfl
theorem sNil_e (t : DSt) : sNil t = some ([], t) := rfl
theorem sC_e (d : D) (t : DSt) : sC d t = some (d, t) := rfl
theorem oNone_e (t : DSt) : oNone t = some (none, t) := rfl
theorem tYesD_e (t : DSt) : tYesD t = some (true, t) := rfl
theorem kNil_e (t : DSt) : kNil t = some (.nx t) := rfl
theorem kRetN_e (t : DSt) : kRetN t = some (.rt .none t) := rfl
theorem kBk_e (t : DSt) : kBk t = some (.bk t) := rfl
theorem kCt_e (t : DSt) : kCt t = some (.ct t) := rfl
theorem kNever_e (t : DSt) : kNever t = none := rfl
theorem runP_e (n : Nat) (g : SS) (ds : List D) : runP n g ds = (g (ini n ds)).bind outP := rfl
theorem runI_e (n : Nat) (g : SS) (c ds : List D) : runI n g c ds = (g (ini n (.list c :: ds))).bind outI := rfl
theorem outP_nx (t : DSt) : outP (.nx t) = some .none := rfl
theorem outP_rt (d : D) (t : DSt) : outP (.rt d t) = some d := rfl
theorem outI_nx (t : DSt) : outI (.nx t) = (ownL t 0).map fun c' => (.none, c') := rfl
theorem outI_rt (d : D) (t : DSt) : outI (.rt d t) = (ownL t 0).map fun c' => (d, c') := rfl
theorem sV_e (i : Nat) (t : DSt) (d : D) (h : t[i]? = some (some d)) : sV i t = some (d, t) := by unfold sV; rw [h]
theorem ownL_e (t : DSt) (i : Nat) (c : List D) (h : t[i]? = some (some (.list c))) : ownL t i = some c := by unfold ownL; rw [h]
def c_f2 (g : SG) (fb : SS) (ds : List D) : Out → Option Out := fun o => match o with | .nx t2 => forD g fb ds t2 | .ct t2 => forD g fb ds t2 | .bk t2 => some (.nx t2) | .rt d t2 => some (.rt d t2)
def c_f1 (g : SG) (fb : SS) (ds : List D) : DSt → Option Out := fun t1 => (fb t1).bind (c_f2 g fb ds)
theorem forD_nil (g : SG) (fb : SS) (t : DSt) : forD g fb [] t = some (.nx t) := rfl
theorem forD_cons (g : SG) (fb : SS) (d : D) (ds : List D) (t : DSt) : forD g fb (d :: ds) t = (g d t).bind (c_f1 g fb ds) := rfl
theorem c_f1_e (g : SG) (fb : SS) (ds : List D) (t : DSt) : c_f1 g fb ds t = (fb t).bind (c_f2 g fb ds) := rfl
theorem c_f2_nx (g : SG) (fb : SS) (ds : List D) (t : DSt) : c_f2 g fb ds (.nx t) = forD g fb ds t := rfl
theorem c_f2_ct (g : SG) (fb : SS) (ds : List D) (t : DSt) : c_f2 g fb ds (.ct t) = forD g fb ds t := rfl
theorem c_f2_bk (g : SG) (fb : SS) (ds : List D) (t : DSt) : c_f2 g fb ds (.bk t) = some (.nx t) := rfl
theorem c_f2_rt (g : SG) (fb : SS) (ds : List D) (d : D) (t : DSt) : c_f2 g fb ds (.rt d t) = some (.rt d t) := rfl
/-! ### sizes -/
def Sz (n : Nat) (i : Int) : Prop := i.natAbs < 2 ^ n
theorem Sz.mono {n m : Nat} {i : Int} (h : Sz n i) (hm : n ≤ m) : Sz m i := Nat.lt_of_lt_of_le h (Nat.pow_le_pow_right (by decide) hm)
theorem Sz.mul {n m : Nat} {i j : Int} (h : Sz n i) (h' : Sz m j) : Sz (n + m) (i * j) := by
  unfold Sz at *
  rw [Int.natAbs_mul, Nat.pow_add]
  exact Nat.mul_lt_mul'' h h'
theorem Sz.max {n m : Nat} {i j : Int} (h : Sz n i) (h' : Sz m j) : Sz (Nat.max n m) i ∧ Sz (Nat.max n m) j := ⟨h.mono (Nat.le_max_left n m), h'.mono (Nat.le_max_right n m)⟩
theorem Sz.add {n m : Nat} {i j : Int} (h : Sz n i) (h' : Sz m j) : Sz (Nat.max n m + 1) (i + j) := by
  obtain ⟨h1, h2⟩ := h.max h'
  unfold Sz at *
  rw [Nat.pow_succ]
  have := Int.natAbs_add_le i j
  omega
theorem Sz.neg {n : Nat} {i : Int} (h : Sz n i) : Sz n (-i) := by
  unfold Sz at *
  rw [Int.natAbs_neg]; exact h
theorem Sz.sub {n m : Nat} {i j : Int} (h : Sz n i) (h' : Sz m j) : Sz (Nat.max n m + 1) (i - j) := by
  rw [Int.sub_eq_add_neg]; exact h.add h'.neg
theorem Sz.lit {n : Nat} {i : Int} (h : i.natAbs < 2 ^ n) : Sz n i := h
theorem Sz.zero {n : Nat} : Sz n 0 := Nat.pow_pos (by decide)
theorem Sz.of_le {n : Nat} {i j : Int} (h : Sz n j) (h' : i.natAbs ≤ j.natAbs) : Sz n i := Nat.lt_of_le_of_lt h' h
theorem log2_lt {n m : Nat} (hn : 0 < n) (h : m < 2 ^ n) : m.log2 < n := PySem.Flt.log2_lt_of hn h
theorem mulOk_sz {n m : Nat} {i j : Int} (h : Sz n i) (h' : Sz m j) (hs : n + m ≤ 134000000 - 2) : mulOk i j = true := by
  have h1 := log2_lt (Nat.succ_pos n) (Nat.lt_of_lt_of_le h (Nat.pow_le_pow_right (by decide) (Nat.le_succ n)))
  have h2 := log2_lt (Nat.succ_pos m) (Nat.lt_of_lt_of_le h' (Nat.pow_le_pow_right (by decide) (Nat.le_succ m)))
  unfold mulOk
  exact decide_eq_true (by omega)
theorem divOk_sz {n : Nat} {i j : Int} (h : Sz n j) (hj : j ≠ 0) (hs : n ≤ 8999) : divOk i j = true := by
  have h1 := log2_lt (Nat.succ_pos n) (Nat.lt_of_lt_of_le h (Nat.pow_le_pow_right (by decide) (Nat.le_succ n)))
  unfold divOk
  rw [decide_eq_true hj, decide_eq_true (show j.natAbs.log2 < 9000 by omega)]; rfl
theorem Sz.fmod {n : Nat} {i j : Int} (h : Sz n j) (hj : 0 < j) : Sz n (i.fmod j) := by
  unfold Sz at *
  have h1 := Int.emod_lt_of_pos i hj
  have h2 := Int.emod_nonneg i (show j ≠ 0 by omega)
  rw [Int.fmod_eq_emod_of_nonneg i (by omega)]
  omega
theorem Sz.emod {n : Nat} {i j : Int} (h : Sz n j) (hj : 0 < j) : Sz n (i % j) := by
  unfold Sz at *
  have h1 := Int.emod_lt_of_pos i hj
  have h2 := Int.emod_nonneg i (show j ≠ 0 by omega)
  omega
theorem mulD_i {i j : Int} (h : mulOk i j = true) : mulD (.int i) (.int j) = some (.int (i * j)) := if_pos h
theorem fdivD_i {i j : Int} (h : divOk i j = true) : fdivD (.int i) (.int j) = some (.int (i.fdiv j)) := if_pos h
theorem modD_i {i j : Int} (h : j ≠ 0) : modD (.int i) (.int j) = some (.int (i.fmod j)) := if_pos (decide_eq_true h)
theorem powD_i {i j : Int} (h : powOk i j = true) : powD (.int i) (.int j) = some (.int (i ^ j.toNat)) := if_pos h
theorem addD_i {i j : Int} : addD (.int i) (.int j) = some (.int (i + j)) := rfl
theorem divmodD_i {i j : Int} (h : 0 < j) (h' : j < 1073741824) : divmodD [.int i, .int j] = some (.tuple [.int (i / j), .int (i % j)]) := if_pos (by simp [h, h'])
theorem eqD_i {i j : Int} : eqD (.int i) (.int j) = some (.bool (i == j)) := by
  unfold eqD
  rw [if_pos ⟨by rfl, by rfl⟩]
  rfl
theorem neD_i {i j : Int} : neD (.int i) (.int j) = some (.bool (!(i == j))) := by
  unfold neD
  rw [if_pos ⟨by rfl, by rfl⟩]
  rfl
theorem seqD_list {ds : List D} : seqD (.list ds) = some ds := rfl
theorem seqD_tuple {ds : List D} : seqD (.tuple ds) = some ds := rfl
theorem ixD_l {ds : List D} {i : Int} : ixD (.list ds) (.int i) = atI ds i := rfl
theorem ixD_t {ds : List D} {i : Int} : ixD (.tuple ds) (.int i) = atI ds i := rfl
theorem truD_n : truD .none = some false := rfl
theorem truD_b {b : Bool} : truD (.bool b) = some b := rfl
theorem truD_i {i : Int} : truD (.int i) = some (i != 0) := rfl
theorem truD_l {ds : List D} : truD (.list ds) = some (!ds.isEmpty) := rfl
theorem truD_t {ds : List D} : truD (.tuple ds) = some (!ds.isEmpty) := rfl
theorem sliceD_l {ds : List D} {lo hi : Option Int} : sliceD (.list ds) lo hi = some (.list (cut ds lo hi)) := rfl
theorem sliceD_t {ds : List D} {lo hi : Option Int} : sliceD (.tuple ds) lo hi = some (.tuple (cut ds lo hi)) := rfl
theorem subD_i {i j : Int} : subD (.int i) (.int j) = some (.int (i - j)) := rfl
theorem negD_i {i : Int} : negD (.int i) = some (.int (-i)) := rfl
theorem notD_b {b : Bool} : notD (.bool b) = some (.bool (!b)) := rfl
theorem ltD_i {i j : Int} : ltD (.int i) (.int j) = some (.bool (decide (i < j))) := rfl
theorem leD_i {i j : Int} : leD (.int i) (.int j) = some (.bool (decide (i ≤ j))) := rfl
theorem gtD_i {i j : Int} : gtD (.int i) (.int j) = some (.bool (decide (j < i))) := rfl
theorem geD_i {i j : Int} : geD (.int i) (.int j) = some (.bool (decide (j ≤ i))) := rfl
theorem absD_i {i : Int} : absD [.int i] = some (.int (if i < 0 then -i else i)) := rfl
theorem intD_i {i : Int} : intD [.int i] = some (.int i) := rfl
theorem intD_b {b : Bool} : intD [.bool b] = some (.int (if b then 1 else 0)) := rfl
theorem max2_i {i j : Int} : max2 [.int i, .int j] = some (.int (if j > i then j else i)) := rfl
theorem min2_i {i j : Int} : min2 [.int i, .int j] = some (.int (if j < i then j else i)) := rfl
theorem lenD_l {ds : List D} : lenD [.list ds] = some (.int ds.length) := rfl
theorem lenD_t {ds : List D} : lenD [.tuple ds] = some (.int ds.length) := rfl
theorem listD_l {ds : List D} : listD [.list ds] = some (.list ds) := rfl
theorem listD_t {ds : List D} : listD [.tuple ds] = some (.list ds) := rfl
theorem tupleD_l {ds : List D} : tupleD [.list ds] = some (.tuple ds) := rfl
theorem tupleD_t {ds : List D} : tupleD [.tuple ds] = some (.tuple ds) := rfl
theorem listrevD_l {ds : List D} : listrevD (.list ds) = some (.list ds.reverse) := rfl
theorem iaddD_i {i j : Int} : iaddD (.int i) (.int j) = some (.int (i + j)) := rfl
theorem isN_none : isN .none .none = some (.bool true) := rfl
theorem isN_bool {b : Bool} : isN (.bool b) .none = some (.bool false) := rfl
theorem isN_int {b : Int} : isN (.int b) .none = some (.bool false) := rfl
theorem isN_str {b : Str} : isN (.str b) .none = some (.bool false) := rfl
theorem isN_list {b : List D} : isN (.list b) .none = some (.bool false) := rfl
theorem isN_tuple {b : List D} : isN (.tuple b) .none = some (.bool false) := rfl
theorem notN_none : notN .none .none = some (.bool false) := rfl
theorem notN_bool {b : Bool} : notN (.bool b) .none = some (.bool true) := rfl
theorem notN_int {b : Int} : notN (.int b) .none = some (.bool true) := rfl
theorem notN_str {b : Str} : notN (.str b) .none = some (.bool true) := rfl
theorem notN_list {b : List D} : notN (.list b) .none = some (.bool true) := rfl
theorem notN_tuple {b : List D} : notN (.tuple b) .none = some (.bool true) := rfl
theorem eqD_b2 {a b : Bool} : eqD (.bool a) (.bool b) = some (.bool (a == b)) := by
  unfold eqD
  rw [if_pos ⟨by rfl, by rfl⟩]
  rfl
theorem neD_b2 {a b : Bool} : neD (.bool a) (.bool b) = some (.bool (!(a == b))) := by
  unfold neD
  rw [if_pos ⟨by rfl, by rfl⟩]
  rfl
theorem addD_l {a b : List D} (h : a.length + b.length ≤ sizeLine) : addD (.list a) (.list b) = some (.list (a ++ b)) := if_pos h
theorem appD_l {c : List D} {d : D} (h : c.length < sizeLine) : appD c [d] = some (.none, c ++ [d]) := if_pos h
theorem rng1_i {j : Int} (h : 0 ≤ j) (h' : j ≤ 1000000) : rng1 [.int j] = some (rng 0 j.toNat) := by
  show (if small62 j = true then _ else _) = _
  rw [if_pos]
  unfold small62
  rw [decide_eq_true (show -(2 ^ 62) ≤ j by omega), decide_eq_true (show j < 2 ^ 62 by omega)]; rfl
theorem rng2_i {i j : Int} (h : -1000000 ≤ i) (h' : i ≤ 1000000) (h2 : -1000000 ≤ j) (h3 : j ≤ 1000000) : rng2 [.int i, .int j] = some (rng i (j - i).toNat) := by
  show (if (small62 i && small62 j) = true then _ else _) = _
  rw [if_pos]
  unfold small62
  rw [decide_eq_true (show -(2 ^ 62) ≤ j by omega), decide_eq_true (show j < 2 ^ 62 by omega), decide_eq_true (show -(2 ^ 62) ≤ i by omega), decide_eq_true (show i < 2 ^ 62 by omega)]; rfl
theorem rng_get {lo : Int} {n j : Nat} {d : D} (h : (rng lo n)[j]? = some d) : j < n ∧ d = .int (lo + (j : Nat)) := by
  unfold rng at h
  rw [List.getElem?_map] at h
  obtain ⟨k, h1, h2⟩ := Option.map_eq_some_iff.mp h
  obtain ⟨h3, h4⟩ := List.getElem?_eq_some_iff.mp h1
  rw [List.getElem_range] at h4
  rw [List.length_range] at h3
  subst h4
  exact ⟨h3, h2.symm⟩
theorem ixN_m1 {n : Nat} (h : 0 < n) : ixN n (-1) = some (n - 1) := by
  unfold ixN
  rw [if_neg (by omega), if_pos (by omega)]
  congr 1
  omega
theorem catD_l {a b : List D} (h : a.length + b.length ≤ sizeLine) : catD (.list a) (.list b) = some (.list (a ++ b)) := if_pos h
theorem repD_l {a : List D} {k : Int} (h1 : -(2 ^ 63) ≤ k) (h2 : k < 2 ^ 63) (h : a.length * k.toNat ≤ sizeLine) : repD (.list a) (.int k) = some (.list (List.replicate k.toNat a).flatten) := if_pos (by rw [decide_eq_true h1, decide_eq_true h2, decide_eq_true h]; rfl)
theorem ix0 {α : Type} {a : α} {r : List α} : atI (a :: r) 0 = some a := atI_nat (j := 0) rfl
theorem ix1 {α : Type} {a b : α} {r : List α} : atI (a :: b :: r) 1 = some b := atI_nat (j := 1) rfl
theorem ix2 {α : Type} {a b c : α} {r : List α} : atI (a :: b :: c :: r) 2 = some c := atI_nat (j := 2) rfl
theorem ix3 {α : Type} {a b c d : α} {r : List α} : atI (a :: b :: c :: d :: r) 3 = some d := atI_nat (j := 3) rfl
theorem ix4 {α : Type} {a b c d e : α} {r : List α} : atI (a :: b :: c :: d :: e :: r) 4 = some e := atI_nat (j := 4) rfl
theorem ix5 {α : Type} {a b c d e f : α} {r : List α} : atI (a :: b :: c :: d :: e :: f :: r) 5 = some f := atI_nat (j := 5) rfl
theorem ixm1 {α : Type} {a : α} {r : List α} : atI (r ++ [a]) (-1) = some a := atI_last r a
theorem ixN30 : ixN 3 0 = some 0 := rfl
theorem ixN31 : ixN 3 1 = some 1 := rfl
theorem ixN32 : ixN 3 2 = some 2 := rfl
theorem le_size {n : Nat} (h : n ≤ 1000000) : (n ≤ sizeLine) = True := by
  rw [sizeLine_eq]; exact eq_true (by omega)
/-! ### what is wanted of a run -/
def Wp {α : Type} (x : Option α) (Q : α → Prop) : Prop := ∃ a, x = some a ∧ Q a
theorem wp_some {α : Type} {a : α} {Q : α → Prop} (h : Q a) : Wp (some a) Q := ⟨a, rfl, h⟩
theorem wp_bind {α β : Type} {x : Option α} {f : α → Option β} {Q : β → Prop} {R : α → Prop} (h : Wp x R) (hf : ∀ a, R a → Wp (f a) Q) : Wp (x.bind f) Q := by
  obtain ⟨a, rfl, r⟩ := h
  exact hf a r
theorem Wp.mono {α : Type} {x : Option α} {Q R : α → Prop} (h : Wp x Q) (hr : ∀ a, Q a → R a) : Wp x R := by
  obtain ⟨a, e, q⟩ := h
  exact ⟨a, e, hr a q⟩
theorem Wp.eq {α : Type} {x : Option α} {a : α} (h : Wp x (· = a)) : x = some a := by
  obtain ⟨b, e, rfl⟩ := h
  exact e
/-- a for loop by an invariant: no turn leaves it -/
theorem wp_for {g : SG} {fb : SS} {Q : Out → Prop} (I : Nat → DSt → Prop) : ∀ (ds : List D) (i : Nat) (t : DSt), I i t →
    (∀ j d t, ds[j]? = some d → I (i + j) t → Wp ((g d t).bind fb) fun o => ∃ t', (o = .nx t' ∨ o = .ct t') ∧ I (i + j + 1) t') → (∀ t, I (i + ds.length) t → Q (.nx t)) → Wp (forD g fb ds t) Q
  | [], i, t, h, _, hq => wp_some (hq t h)
  | d :: ds, i, t, h, hs, hq => by
    have h1 := hs 0 d t rfl h
    obtain ⟨o, e, t', ho, hi⟩ := h1
    obtain ⟨t1, e1, e2⟩ := Option.bind_eq_some_iff.mp e
    have : forD g fb (d :: ds) t = forD g fb ds t' := by
      show ((g d t).bind fun t1 => (fb t1).bind _) = _
      rw [e1, Option.bind_some, e2, Option.bind_some]
      rcases ho with rfl | rfl <;> rfl
    rw [this]
    refine wp_for I ds (i + 1) t' hi (fun j d t hj ht => ?_) fun t ht => hq t ?_
    · have := hs (j + 1) d t (by simpa using hj) (by rw [show i + (j + 1) = i + 1 + j by omega]; exact ht)
      rw [show i + (j + 1) + 1 = i + 1 + j + 1 by omega] at this
      exact this
    · rw [List.length_cons, show i + (ds.length + 1) = i + 1 + ds.length by omega]; exact ht
end PD

namespace PD
open PySem L2
theorem max3_i {i j k : Int} : max3 [.int i, .int j, .int k] = some (.int (mx2 (mx2 i j) k)) := rfl
theorem min3_i {i j k : Int} : min3 [.int i, .int j, .int k] = some (.int (mn2 (mn2 i j) k)) := rfl
def c_ch4 (t : DSt) : D → Option (D × DSt) := fun e => some (e, t)
def c_ch3 (g' : D → D → Option D) (d2 : D) : D × DSt → Option (D × DSt) := fun r3 => (g' d2 r3.1).bind (c_ret r3.2)
def c_ch2 (g' : D → D → Option D) (f3 : SE) (r2 : D × DSt) : D → Option (D × DSt) := fun d => match d with
  | .bool true => (f3 r2.2).bind (c_ch3 g' r2.1)
  | .bool false => some (.bool false, r2.2)
  | _ => none
def c_ch1 (g g' : D → D → Option D) (f3 : SE) (d1 : D) : D × DSt → Option (D × DSt) := fun r2 => (g d1 r2.1).bind (c_ch2 g' f3 r2)
def c_ch0 (g g' : D → D → Option D) (f2 f3 : SE) : D × DSt → Option (D × DSt) := fun r1 => (f2 r1.2).bind (c_ch1 g g' f3 r1.1)
theorem chn_e (g g' : D → D → Option D) (f1 f2 f3 : SE) (t : DSt) : chn g g' f1 f2 f3 t = (f1 t).bind (c_ch0 g g' f2 f3) := rfl
theorem c_ch0_e (g g' : D → D → Option D) (f2 f3 : SE) (d : D) (t : DSt) : c_ch0 g g' f2 f3 (d, t) = (f2 t).bind (c_ch1 g g' f3 d) := rfl
theorem c_ch1_e (g g' : D → D → Option D) (f3 : SE) (d e : D) (t : DSt) : c_ch1 g g' f3 d (e, t) = (g d e).bind (c_ch2 g' f3 (e, t)) := rfl
theorem c_ch2_t (g' : D → D → Option D) (f3 : SE) (e : D) (t : DSt) : c_ch2 g' f3 (e, t) (.bool true) = (f3 t).bind (c_ch3 g' e) := rfl
theorem c_ch2_f (g' : D → D → Option D) (f3 : SE) (e : D) (t : DSt) : c_ch2 g' f3 (e, t) (.bool false) = some (.bool false, t) := rfl
theorem c_ch3_e (g' : D → D → Option D) (d e : D) (t : DSt) : c_ch3 g' d (e, t) = (g' d e).bind (c_ret t) := rfl
end PD

namespace PD
open PySem L2
/-! ### comprehensions, step by step -/
def c_cp2 (vs : List Nat) (g : SG) (ft : SB) (fe : SE) (ds acc : List D) : D × DSt → Option (List D × DSt) := fun y => if acc.length < sizeLine then compD vs g ft fe ds (wipeD y.2 vs) (acc ++ [y.1]) else none
def c_cp1 (vs : List Nat) (g : SG) (ft : SB) (fe : SE) (ds acc : List D) : Bool × DSt → Option (List D × DSt) := fun r => match r.1 with
  | false => compD vs g ft fe ds (wipeD r.2 vs) acc
  | true => (fe r.2).bind (c_cp2 vs g ft fe ds acc)
def c_cp0 (vs : List Nat) (g : SG) (ft : SB) (fe : SE) (ds acc : List D) : DSt → Option (List D × DSt) := fun t1 => (ft t1).bind (c_cp1 vs g ft fe ds acc)
theorem compD_nil (vs : List Nat) (g : SG) (ft : SB) (fe : SE) (t : DSt) (acc : List D) : compD vs g ft fe [] t acc = some (acc, t) := rfl
theorem compD_cons (vs : List Nat) (g : SG) (ft : SB) (fe : SE) (d : D) (ds : List D) (t : DSt) (acc : List D) : compD vs g ft fe (d :: ds) t acc = (g d t).bind (c_cp0 vs g ft fe ds acc) := rfl
theorem c_cp0_e (vs : List Nat) (g : SG) (ft : SB) (fe : SE) (ds acc : List D) (t : DSt) : c_cp0 vs g ft fe ds acc t = (ft t).bind (c_cp1 vs g ft fe ds acc) := rfl
theorem c_cp1_t (vs : List Nat) (g : SG) (ft : SB) (fe : SE) (ds acc : List D) (t : DSt) : c_cp1 vs g ft fe ds acc (true, t) = (fe t).bind (c_cp2 vs g ft fe ds acc) := rfl
theorem c_cp1_f (vs : List Nat) (g : SG) (ft : SB) (fe : SE) (ds acc : List D) (t : DSt) : c_cp1 vs g ft fe ds acc (false, t) = compD vs g ft fe ds (wipeD t vs) acc := rfl
theorem c_cp2_e (vs : List Nat) (g : SG) (ft : SB) (fe : SE) (ds acc : List D) (d : D) (t : DSt) (h : acc.length < sizeLine) : c_cp2 vs g ft fe ds acc (d, t) = compD vs g ft fe ds (wipeD t vs) (acc ++ [d]) := if_pos h
theorem lt_size {n : Nat} (h : n < 1000000) : n < sizeLine := by rw [sizeLine_eq]; omega
/-- a comprehension by an invariant: each turn keeps one value, or none -/
def c_k2 : D × DSt → Option (Option D × DSt) := fun y => some (some y.1, y.2)
def c_k1 (fe : SE) : Bool × DSt → Option (Option D × DSt) := fun r => match r.1 with
  | false => some (none, r.2)
  | true => (fe r.2).bind c_k2
def c_k0 (ft : SB) (fe : SE) : DSt → Option (Option D × DSt) := fun t1 => (ft t1).bind (c_k1 fe)
theorem c_k0_e (ft : SB) (fe : SE) (t : DSt) : c_k0 ft fe t = (ft t).bind (c_k1 fe) := rfl
theorem c_k1_t (fe : SE) (t : DSt) : c_k1 fe (true, t) = (fe t).bind c_k2 := rfl
theorem c_k1_f (fe : SE) (t : DSt) : c_k1 fe (false, t) = some (none, t) := rfl
theorem c_k2_e (d : D) (t : DSt) : c_k2 (d, t) = some (some d, t) := rfl
theorem wp_comp {vs : List Nat} {g : SG} {ft : SB} {fe : SE} {Q : List D × DSt → Prop} (I : Nat → DSt → List D → Prop) : ∀ (ds : List D) (i : Nat) (t : DSt) (acc : List D), I i t acc → acc.length + ds.length < sizeLine →
    (∀ j d t acc, ds[j]? = some d → I (i + j) t acc → Wp ((g d t).bind (c_k0 ft fe)) fun r => I (i + j + 1) (wipeD r.2 vs) (acc ++ r.1.toList)) → (∀ t acc, I (i + ds.length) t acc → Q (acc, t)) → Wp (compD vs g ft fe ds t acc) Q
  | [], i, t, acc, h, _, _, hq => wp_some (hq t acc h)
  | d :: ds, i, t, acc, h, hl, hs, hq => by
    obtain ⟨⟨o, t'⟩, e, hi⟩ := hs 0 d t acc rfl h
    rw [List.length_cons] at hl
    have hl' : acc.length < sizeLine := by omega
    obtain ⟨t1, e1, e2⟩ := Option.bind_eq_some_iff.mp e
    obtain ⟨⟨b, t2⟩, e3, e4⟩ := Option.bind_eq_some_iff.mp e2
    have key : compD vs g ft fe (d :: ds) t acc = compD vs g ft fe ds (wipeD t' vs) (acc ++ o.toList) := by
      rw [compD_cons, e1, Option.bind_some, c_cp0_e, e3, Option.bind_some]
      cases b with
      | false =>
        rw [c_k1_f] at e4
        cases e4
        rw [c_cp1_f, Option.toList_none, List.append_nil]
      | true =>
        rw [c_k1_t] at e4
        obtain ⟨⟨y, t3⟩, e5, e6⟩ := Option.bind_eq_some_iff.mp e4
        rw [c_k2_e] at e6
        cases e6
        rw [c_cp1_t, e5, Option.bind_some, c_cp2_e _ _ _ _ _ _ _ _ hl', Option.toList_some]
    rw [key]
    refine wp_comp I ds (i + 1) (wipeD t' vs) _ hi ?_ (fun j d t acc hj ht => ?_) fun t acc ht => hq t acc ?_
    · rw [List.length_append]
      cases o <;> simp <;> omega
    · have := hs (j + 1) d t acc (by simpa using hj) (by rw [show i + (j + 1) = i + 1 + j by omega]; exact ht)
      rw [show i + (j + 1) + 1 = i + 1 + j + 1 by omega] at this
      exact this
    · rw [List.length_cons, show i + (ds.length + 1) = i + 1 + ds.length by omega]; exact ht
theorem rng_len' (lo : Int) (n : Nat) : (rng lo n).length = n := by unfold rng; rw [List.length_map, List.length_range]
theorem rng_0 : rng 0 0 = [] := rfl
theorem rng_2 : rng 0 2 = [.int 0, .int 1] := rfl
theorem rng_3 : rng 0 3 = [.int 0, .int 1, .int 2] := rfl
theorem rng_4 : rng 0 4 = [.int 0, .int 1, .int 2, .int 3] := rfl
theorem sz_ite {n : Nat} {c : Prop} [Decidable c] {i j : Int} (h : Sz n i) (h' : Sz n j) : Sz n (if c then i else j) := by split <;> assumption
end PD

set_option maxHeartbeats 2000000
namespace PD
open PySem L2
/-! ### points: three numbers in lowest terms, by two fractions -/
def g3 (x y w : Int) : Nat := Int.gcd (Int.gcd x y) w
def s3 (x y w : Int) : Int := if w < 0 then -(g3 x y w : Int) else (g3 x y w : Int)
def nrm (x y w : Int) : D := .tuple [.int (x.fdiv (s3 x y w)), .int (y.fdiv (s3 x y w)), .int (w.fdiv (s3 x y w))]
theorem g3_mul (k x y w : Int) : g3 (k * x) (k * y) (k * w) = k.natAbs * g3 x y w := by
  unfold g3
  rw [Int.gcd_mul_left, Int.natCast_mul]
  have : ∀ (a : Int) (n : Nat), Int.gcd (((k.natAbs : Nat) : Int) * a) (k * w) = k.natAbs * Int.gcd a w := by
    intro a n
    rw [show Int.gcd (((k.natAbs : Nat) : Int) * a) (k * w) = Int.gcd (k * a) (k * w) by unfold Int.gcd; rw [Int.natAbs_mul, Int.natAbs_natCast, Int.natAbs_mul k a]]
    exact Int.gcd_mul_left ..
  exact this _ 0
theorem g3_pos {x y w : Int} (hw : w ≠ 0) : 0 < g3 x y w := Nat.pos_of_ne_zero (Int.gcd_ne_zero_right hw)
theorem g3_dvd (x y w : Int) : (g3 x y w : Int) ∣ x ∧ (g3 x y w : Int) ∣ y ∧ (g3 x y w : Int) ∣ w := by
  have h1 : (g3 x y w : Int) ∣ (Int.gcd x y : Int) := Int.gcd_dvd_left _ _
  exact ⟨Int.dvd_trans h1 (Int.gcd_dvd_left _ _), Int.dvd_trans h1 (Int.gcd_dvd_right _ _), Int.gcd_dvd_right _ _⟩
theorem s3_ne {x y w : Int} (hw : w ≠ 0) : s3 x y w ≠ 0 := by
  have := g3_pos (x := x) (y := y) hw
  unfold s3
  split <;> omega
theorem s3_dvd (x y w : Int) : s3 x y w ∣ x ∧ s3 x y w ∣ y ∧ s3 x y w ∣ w := by
  obtain ⟨h1, h2, h3⟩ := g3_dvd x y w
  unfold s3
  split
  · exact ⟨Int.neg_dvd.mpr h1, Int.neg_dvd.mpr h2, Int.neg_dvd.mpr h3⟩
  · exact ⟨h1, h2, h3⟩
theorem s3_mul {k : Int} (x y : Int) {w : Int} (hk : k ≠ 0) (hw : w ≠ 0) : s3 (k * x) (k * y) (k * w) = k * s3 x y w := by
  unfold s3
  rw [g3_mul, Int.natCast_mul]
  rcases Int.lt_or_gt_of_ne hk with h | h <;> rcases Int.lt_or_gt_of_ne hw with h' | h'
  · have := Int.mul_pos_of_neg_of_neg h h'
    rw [if_neg (by omega), if_pos h', show ((k.natAbs : Nat) : Int) = -k by omega]; grind
  · have := Int.mul_neg_of_neg_of_pos h h'
    rw [if_pos (by omega), if_neg (by omega), show ((k.natAbs : Nat) : Int) = -k by omega]; grind
  · have := Int.mul_neg_of_pos_of_neg h h'
    rw [if_pos (by omega), if_pos h', show ((k.natAbs : Nat) : Int) = k by omega]; grind
  · have := Int.mul_pos h h'
    rw [if_neg (by omega), if_neg (by omega), show ((k.natAbs : Nat) : Int) = k by omega]
theorem nrm_mul {k x y w : Int} (hk : k ≠ 0) (hw : w ≠ 0) : nrm (k * x) (k * y) (k * w) = nrm x y w := by
  unfold nrm
  rw [s3_mul x y hk hw]
  obtain ⟨h1, h2, h3⟩ := s3_dvd x y w
  have hs := s3_ne (x := x) (y := y) hw
  have e : ∀ z, s3 x y w ∣ z → (k * z).fdiv (k * s3 x y w) = z.fdiv (s3 x y w) := by
    rintro z ⟨q, hq⟩
    rw [hq, ← Int.mul_assoc, Int.mul_fdiv_cancel_left _ (Int.mul_ne_zero hk hs), Int.mul_fdiv_cancel_left _ hs]
  rw [e x h1, e y h2, e w h3]
theorem nrm_same {x y w x' y' w' : Int} (hw : w ≠ 0) (hw' : w' ≠ 0) (h1 : x * w' = x' * w) (h2 : y * w' = y' * w) : nrm x y w = nrm x' y' w' := by
  rw [← nrm_mul (x := x) (y := y) hw' hw, ← nrm_mul (x := x') (y := y') hw hw']
  rw [show w' * x = w * x' by grind, show w' * y = w * y' by grind, Int.mul_comm w' w]
/-- of two fractions -/
def pX (p q : Rat) : Int := (p.num * q.den).fdiv (s3 (p.num * q.den) (q.num * p.den) (p.den * q.den))
def pY (p q : Rat) : Int := (q.num * p.den).fdiv (s3 (p.num * q.den) (q.num * p.den) (p.den * q.den))
def pW (p q : Rat) : Int := (p.den * q.den : Int).fdiv (s3 (p.num * q.den) (q.num * p.den) (p.den * q.den))
def pD (p q : Rat) : D := .tuple [.int (pX p q), .int (pY p q), .int (pW p q)]
theorem nrm_eq {x y w : Int} (hw : w ≠ 0) : nrm x y w = pD (Rat.divInt x w) (Rat.divInt y w) := by
  have h : ∀ t : Int, t * (Rat.divInt t w).den = (Rat.divInt t w).num * w := by
    intro t
    have := Rat.num_divInt_den (Rat.divInt t w)
    have h2 : Rat.divInt (Rat.divInt t w).num (Rat.divInt t w).den = Rat.divInt t w := this
    have hd : ((Rat.divInt t w).den : Int) ≠ 0 := by have := (Rat.divInt t w).den_pos; omega
    rw [Rat.divInt_eq_divInt_iff hd hw] at h2
    exact h2.symm
  have d1 : ((Rat.divInt x w).den : Int) ≠ 0 := by have := (Rat.divInt x w).den_pos; omega
  have d2 : ((Rat.divInt y w).den : Int) ≠ 0 := by have := (Rat.divInt y w).den_pos; omega
  show nrm x y w = nrm _ _ _
  refine nrm_same hw (Int.mul_ne_zero d1 d2) ?_ ?_
  · have := h x; grind
  · have := h y; grind
theorem den_ne (p : Rat) : (p.den : Int) ≠ 0 := by have := p.den_pos; omega
theorem pW_pos (p q : Rat) : 0 < pW p q := by
  have hp := p.den_pos
  have hq := q.den_pos
  have hw : (0 : Int) < (p.den : Int) * (q.den : Int) := Int.mul_pos (by omega) (by omega)
  unfold pW
  obtain ⟨_, _, k, hk⟩ := s3_dvd (p.num * q.den) (q.num * p.den) (p.den * q.den)
  have hs : 0 < s3 (p.num * q.den) (q.num * p.den) (p.den * q.den) := by
    have := g3_pos (x := p.num * q.den) (y := q.num * p.den) (w := (p.den * q.den : Int)) (by omega)
    unfold s3; rw [if_neg (by omega)]; omega
  generalize s3 (p.num * q.den) (q.num * p.den) (p.den * q.den) = s at *
  rw [hk, Int.mul_fdiv_cancel_left _ (by omega)]
  rw [hk] at hw
  rcases Int.lt_or_le 0 k with h | h
  · exact h
  · have := Int.mul_le_mul_of_nonneg_left h (show (0 : Int) ≤ s by omega)
    omega
theorem pXW (p q : Rat) : pX p q * (p.den : Int) = p.num * pW p q ∧ pY p q * (q.den : Int) = q.num * pW p q := by
  obtain ⟨⟨a, ha⟩, ⟨b, hb⟩, ⟨c, hc⟩⟩ := s3_dvd (p.num * q.den) (q.num * p.den) (p.den * q.den)
  have hs := s3_ne (x := p.num * q.den) (y := q.num * p.den) (w := (p.den * q.den : Int)) (Int.mul_ne_zero (den_ne p) (den_ne q))
  have dp := den_ne p
  have dq := den_ne q
  unfold pX pY pW
  generalize s3 (p.num * q.den) (q.num * p.den) (p.den * q.den) = s at *
  rw [ha, hb, hc, Int.mul_fdiv_cancel_left _ hs, Int.mul_fdiv_cancel_left _ hs, Int.mul_fdiv_cancel_left _ hs]
  constructor
  · refine Int.eq_of_mul_eq_mul_left hs ?_
    refine Int.eq_of_mul_eq_mul_left dq ?_
    grind
  · refine Int.eq_of_mul_eq_mul_left hs ?_
    refine Int.eq_of_mul_eq_mul_left dp ?_
    grind
theorem pW_ne (p q : Rat) : pW p q ≠ 0 := by have := pW_pos p q; omega
theorem den_r (p : Rat) : (p.den : Rat) ≠ 0 := by
  have := p.den_pos
  intro h
  have : p.den = 0 := by exact_mod_cast h
  omega
theorem num_r (p : Rat) : (p.num : Rat) = p * (p.den : Rat) := by
  have h := Rat.num_divInt_den p
  rw [Rat.divInt_eq_div, Rat.intCast_natCast] at h
  have h3 := den_r p
  grind
theorem pW_r (p q : Rat) : ((pW p q : Int) : Rat) ≠ 0 := by
  have := pW_ne p q
  intro h
  exact this (by exact_mod_cast h)
theorem pX_r (p q : Rat) : ((pX p q : Int) : Rat) = p * ((pW p q : Int) : Rat) := by
  have h := congrArg (fun z : Int => (z : Rat)) (pXW p q).1
  simp only [Rat.intCast_mul, Rat.intCast_natCast] at h
  have h2 := num_r p
  have h3 := den_r p
  grind
theorem pY_r (p q : Rat) : ((pY p q : Int) : Rat) = q * ((pW p q : Int) : Rat) := by
  have h := congrArg (fun z : Int => (z : Rat)) (pXW p q).2
  simp only [Rat.intCast_mul, Rat.intCast_natCast] at h
  have h2 := num_r q
  have h3 := den_r q
  grind
theorem Sz.addn {n : Nat} {i j : Int} (h : Sz n i) (h' : Sz n j) : Sz (n + 1) (i + j) := (h.add h').mono (by rw [show Nat.max n n = n from Nat.max_self n]; exact Nat.le_refl _)
theorem Sz.subn {n : Nat} {i j : Int} (h : Sz n i) (h' : Sz n j) : Sz (n + 1) (i - j) := (h.sub h').mono (by rw [show Nat.max n n = n from Nat.max_self n]; exact Nat.le_refl _)
/-! ### sizes -/
def PZ (n : Nat) (p q : Rat) : Prop := Sz n (pX p q) ∧ Sz n (pY p q) ∧ Sz n (pW p q)
theorem fdiv_abs {x s : Int} (hs : s ≠ 0) (h : s ∣ x) : (x.fdiv s).natAbs ≤ x.natAbs := by
  obtain ⟨k, rfl⟩ := h
  rw [Int.mul_fdiv_cancel_left _ hs, Int.natAbs_mul]
  exact Nat.le_mul_of_pos_left _ (by omega)
theorem PZ.of {n : Nat} {x y w : Int} (hw : w ≠ 0) (h1 : Sz n x) (h2 : Sz n y) (h3 : Sz n w) : PZ n (Rat.divInt x w) (Rat.divInt y w) := by
  have e := nrm_eq (x := x) (y := y) hw
  unfold nrm pD at e
  injection e with e
  injection e with e1 e
  injection e with e2 e
  injection e with e3 e
  injection e1 with e1
  injection e2 with e2
  injection e3 with e3
  obtain ⟨d1, d2, d3⟩ := s3_dvd x y w
  have hs := s3_ne (x := x) (y := y) hw
  refine ⟨?_, ?_, ?_⟩
  · rw [← e1]; exact h1.of_le (fdiv_abs hs d1)
  · rw [← e2]; exact h2.of_le (fdiv_abs hs d2)
  · rw [← e3]; exact h3.of_le (fdiv_abs hs d3)
theorem PZ.mono {n m : Nat} {p q : Rat} (h : PZ n p q) (hm : n ≤ m) : PZ m p q := ⟨h.1.mono hm, h.2.1.mono hm, h.2.2.mono hm⟩
theorem pt0 (p q : Rat) : ixD (pD p q) (.int 0) = some (.int (pX p q)) := ix0
theorem pt1 (p q : Rat) : ixD (pD p q) (.int 1) = some (.int (pY p q)) := ix1
theorem pt2 (p q : Rat) : ixD (pD p q) (.int 2) = some (.int (pW p q)) := ix2
/-- a fraction, worked out -/
theorem div_r (a b : Int) : Rat.divInt a b = (a : Rat) / (b : Rat) := Rat.divInt_eq_div a b
theorem fr_den (r : Rat) : ((r.den : Int) : Rat) = (r.den : Rat) := Rat.intCast_natCast _
/-- the sign of a whole number is that of its fraction -/
theorem cast_lt {a b : Int} : ((a : Rat) < (b : Rat)) ↔ a < b := Rat.intCast_lt_intCast
end PD

set_option maxHeartbeats 4000000
namespace W
open PySem L2 PD
def topS (i : Nat) : Stmt := PySem.Challenge.pw_cornersight_k09_corners_and_walls.main.body.getD i (.Pass ⟨0, 0, 0, 0⟩)
abbrev s_sides_of : Stmt := topS 1
abbrev N_sides_of : List Str := ["ring", "at", "corner"]
theorem sc_sides_of : FnScope N_sides_of ["ring"] (defScope s_sides_of) := ⟨rfl, rfl, rfl, by decide +kernel, rfl, by decide +kernel, by decide +kernel⟩
abbrev s_rings_of : Stmt := topS 2
abbrev N_rings_of : List Str := ["room"]
theorem sc_rings_of : FnScope N_rings_of ["room"] (defScope s_rings_of) := ⟨rfl, rfl, rfl, by decide +kernel, rfl, by decide +kernel, by decide +kernel⟩
abbrev s_walls_of : Stmt := topS 4
abbrev N_walls_of : List Str := ["room", "found", "ring"]
theorem sc_walls_of : FnScope N_walls_of ["room"] (defScope s_walls_of) := ⟨rfl, rfl, rfl, by decide +kernel, rfl, by decide +kernel, by decide +kernel⟩
abbrev s_corners_of : Stmt := topS 3
abbrev N_corners_of : List Str := ["room", "corner", "further"]
theorem sc_corners_of : FnScope N_corners_of ["room"] (defScope s_corners_of) := ⟨rfl, rfl, rfl, by decide +kernel, rfl, by decide +kernel, by decide +kernel⟩
abbrev s__law_box : Stmt := topS 6
abbrev N__law_box : List Str := ["_law_script", "_law_k", "_law_cell"]
theorem sc__law_box : FnScope N__law_box ["_law_script", "_law_k"] (defScope s__law_box) := ⟨rfl, rfl, rfl, by decide +kernel, rfl, by decide +kernel, by decide +kernel⟩
abbrev s__law_take : Stmt := topS 7
abbrev N__law_take : List Str := ["_law_box_here", "_law_many", "_law_once", "_law_found"]
theorem sc__law_take : FnScope N__law_take ["_law_box_here", "_law_many"] (defScope s__law_take) := ⟨rfl, rfl, rfl, by decide +kernel, rfl, by decide +kernel, by decide +kernel⟩
abbrev s__law_folded : Stmt := topS 8
abbrev N__law_folded : List Str := ["_law_script", "_law_many", "_law_cells", "_law_k", "_law_cell"]
theorem sc__law_folded : FnScope N__law_folded ["_law_script", "_law_many"] (defScope s__law_folded) := ⟨rfl, rfl, rfl, by decide +kernel, rfl, by decide +kernel, by decide +kernel⟩
abbrev s__law_trimmed : Stmt := topS 9
abbrev N__law_trimmed : List Str := ["_law_points", "_law_found", "_law_k", "_law_a", "_law_b", "_law_c"]
theorem sc__law_trimmed : FnScope N__law_trimmed ["_law_points"] (defScope s__law_trimmed) := ⟨rfl, rfl, rfl, by decide +kernel, rfl, by decide +kernel, by decide +kernel⟩
abbrev s__law_columns : Stmt := topS 10
abbrev N__law_columns : List Str := ["_law_box_here", "_law_many", "_law_most", "_law_tops", "_law_lows", "_law_ring", "_law_cells", "_law_k", "_law_row"]
theorem sc__law_columns : FnScope N__law_columns ["_law_box_here", "_law_many", "_law_most"] (defScope s__law_columns) := ⟨rfl, rfl, rfl, by decide +kernel, rfl, by decide +kernel, by decide +kernel⟩
abbrev s__law_shape : Stmt := topS 11
abbrev N__law_shape : List Str := ["_law_k", "_law_some", "_law_word"]
theorem sc__law_shape : FnScope N__law_shape ["_law_k"] (defScope s__law_shape) := ⟨rfl, rfl, rfl, by decide +kernel, rfl, by decide +kernel, by decide +kernel⟩
abbrev s__law_pillar : Stmt := topS 12
abbrev N__law_pillar : List Str := ["_law_box_here", "_law_cell", "_law_some", "_law_found", "_law_word"]
theorem sc__law_pillar : FnScope N__law_pillar ["_law_box_here", "_law_cell"] (defScope s__law_pillar) := ⟨rfl, rfl, rfl, by decide +kernel, rfl, by decide +kernel, by decide +kernel⟩
abbrev s__law_pillars : Stmt := topS 13
abbrev N__law_pillars : List Str := ["_law_box_here", "_law_cells", "_law_most", "_law_found", "_law_left", "_law_k", "_law_ring", "_law_one"]
theorem sc__law_pillars : FnScope N__law_pillars ["_law_box_here", "_law_cells", "_law_most"] (defScope s__law_pillars) := ⟨rfl, rfl, rfl, by decide +kernel, rfl, by decide +kernel, by decide +kernel⟩
abbrev s__law_moved : Stmt := topS 14
abbrev N__law_moved : List Str := ["_law_box_here", "_law_rings", "_law_slant", "_law_quarter", "_law_made", "_law_ring", "_law_move", "_law_k", "_law_found", "_law_some", "_law_turn", "_law_low", "_law_high", "_law_at", "_law_x", "_law_y", "_law_point"]
theorem sc__law_moved : FnScope N__law_moved ["_law_box_here", "_law_rings", "_law_slant"] (defScope s__law_moved) := ⟨rfl, rfl, rfl, by decide +kernel, rfl, by decide +kernel, by decide +kernel⟩
abbrev s__law_room : Stmt := topS 15
abbrev N__law_room : List Str := ["_law_box_here", "_law_most", "_law_slant", "_law_times", "_law_ring", "_law_cells", "_law_rings", "_law_x", "_law_y"]
theorem sc__law_room : FnScope N__law_room ["_law_box_here", "_law_most"] (defScope s__law_room) := ⟨rfl, rfl, rfl, by decide +kernel, rfl, by decide +kernel, by decide +kernel⟩
abbrev s__law_alike : Stmt := topS 16
abbrev N__law_alike : List Str := ["_law_found", "_law_due", "_law_one", "_law_other"]
theorem sc__law_alike : FnScope N__law_alike ["_law_found", "_law_due"] (defScope s__law_alike) := ⟨rfl, rfl, rfl, by decide +kernel, rfl, by decide +kernel, by decide +kernel⟩
abbrev s__law_boxes : Stmt := topS 17
abbrev N__law_boxes : List Str := ["_law_script", "_law_many", "_law_cells", "_law_k"]
theorem sc__law_boxes : FnScope N__law_boxes ["_law_script", "_law_many"] (defScope s__law_boxes) := ⟨rfl, rfl, rfl, by decide +kernel, rfl, by decide +kernel, by decide +kernel⟩
abbrev s_law : Stmt := topS 18
abbrev N_law : List Str := ["_law_script", "_law_box_here", "_law_room_here", "_law_written", "_law_corners", "_law_shuts", "_law_ring", "_law_turn", "_law_k"]
theorem sc_law : FnScope N_law ["_law_script"] (defScope s_law) := ⟨rfl, rfl, rfl, by decide +kernel, rfl, by decide +kernel, by decide +kernel⟩
structure Tx (K : PySem.W.Frag) (mg : Str → Option Value) : Prop where
  z_abs : mg "abs" = none
  z_all : mg "all" = none
  z_bool : mg "bool" = none
  z_divmod : mg "divmod" = none
  z_enumerate : mg "enumerate" = none
  z_int : mg "int" = none
  z_isinstance : mg "isinstance" = none
  z_len : mg "len" = none
  z_list : mg "list" = none
  z_max : mg "max" = none
  z_min : mg "min" = none
  z_range : mg "range" = none
  z_str : mg "str" = none
  z_sum : mg "sum" = none
  z_tuple : mg "tuple" = none
  z_zip : mg "zip" = none
  f_sides_of : At K mg "sides_of" s_sides_of ["ring"]
  f_rings_of : At K mg "rings_of" s_rings_of ["room"]
  f_walls_of : At K mg "walls_of" s_walls_of ["room"]
  f_corners_of : At K mg "corners_of" s_corners_of ["room"]
  f__law_box : At K mg "_law_box" s__law_box ["_law_script", "_law_k"]
  f__law_take : At K mg "_law_take" s__law_take ["_law_box_here", "_law_many"]
  f__law_folded : At K mg "_law_folded" s__law_folded ["_law_script", "_law_many"]
  f__law_trimmed : At K mg "_law_trimmed" s__law_trimmed ["_law_points"]
  f__law_columns : At K mg "_law_columns" s__law_columns ["_law_box_here", "_law_many", "_law_most"]
  f__law_shape : At K mg "_law_shape" s__law_shape ["_law_k"]
  f__law_pillar : At K mg "_law_pillar" s__law_pillar ["_law_box_here", "_law_cell"]
  f__law_pillars : At K mg "_law_pillars" s__law_pillars ["_law_box_here", "_law_cells", "_law_most"]
  f__law_moved : At K mg "_law_moved" s__law_moved ["_law_box_here", "_law_rings", "_law_slant"]
  f__law_room : At K mg "_law_room" s__law_room ["_law_box_here", "_law_most"]
  f__law_alike : At K mg "_law_alike" s__law_alike ["_law_found", "_law_due"]
  f__law_boxes : At K mg "_law_boxes" s__law_boxes ["_law_script", "_law_many"]
  f_law : At K mg "law" s_law ["_law_script"]
section
variable {P : Program} {w : World} {K : PySem.W.Frag} {mg : Str → Option Value} {base : Heap}
def m_sides_of : SS := (kRet (sLc (wEQ (sCons (sV 0) sNil)) [1, 2] (gT (gsCons (gN 1) (gsCons (gN 2) gsNil)) 2) tYesD (sTup (sCons (sV 2) (sCons (bin ixD (sV 0) (bin modD (bin addD (sV 1) (sC (.int 1))) (callD lenD (sCons (sV 0) sNil)))) sNil)))))
def e_sides_of : List D → Option D := runP 3 m_sides_of
theorem ok_sides_of (T : Tx K mg) : Cal P w K mg base 1 "sides_of" ["ring"] (spF K 1 e_sides_of) := by
  obtain ⟨f, fd, F, hm, hb⟩ := T.f_sides_of
  have nd := sc_sides_of.nd
  exact fn_F (O' := []) F sc_sides_of hm hb fun cdv A outer s H E hr =>
     (rss_one (rs_retF (rf_lc (own := [("at", 1), ("corner", 2)]) nd (ri_enumQ T.z_enumerate (ra_cons (r_v 0) ra_nil)) (blkOk_by (N := N_sides_of) (sc := defScope s_sides_of) (by decide +kernel)) (fun _ _ _ _ _ => (rg_tup rfl (rgs_cons (rg_name 1 nd) (rgs_cons (rg_name 2 nd) rgs_nil)))) (fun _ _ _ _ _ => rts_nil) (fun _ _ _ _ _ => (r_tup (ra_cons (r_v 2) (ra_cons (r_ix (r_v 0) (r_mod (r_add (r_v 1) r_int) (r_len T.z_len (ra_cons (r_v 0) ra_nil)))) ra_nil)))))))
def m_rings_of : SS := (kRet (bin addD (sLst (sCons (bin ixD (sV 0) (sC (.int 0))) sNil)) (callD listD (sCons (bin ixD (sV 0) (sC (.int 1))) sNil))))
def e_rings_of : List D → Option D := runP 1 m_rings_of
theorem ok_rings_of (T : Tx K mg) : Cal P w K mg base 1 "rings_of" ["room"] (spP K 1 e_rings_of) := by
  obtain ⟨f, fd, F, hm, hb⟩ := T.f_rings_of
  have nd := sc_rings_of.nd
  exact fn_P (O' := []) F sc_rings_of hm hb fun cdv A outer s H E hr =>
     (rss_one (rs_ret (r_add (r_lstE (ra_cons (r_ix (r_v 0) r_int) ra_nil)) (r_list T.z_list (ra_cons (r_ix (r_v 0) r_int) ra_nil)))))
def m_walls_of : SS := (kSeq (kOwn 1 (sLst sNil))
  (kSeq (kFor (wS (callD e_rings_of (sCons (sV 0) sNil))) (gN 2) (kDrop (extO 1 (callD e_sides_of (sCons (sV 2) sNil)))))
  (kRet (callD tupleD (sCons (sV 1) sNil)))))
def e_walls_of : List D → Option D := runP 3 m_walls_of
theorem ok_walls_of (T : Tx K mg) : Cal P w K mg base 2 "walls_of" ["room"] (spP K 1 e_walls_of) := by
  obtain ⟨f, fd, F, hm, hb⟩ := T.f_walls_of
  have c_rings_of := ok_rings_of (P := P) (w := w) (base := base) T
  have c_sides_of := ok_sides_of (P := P) (w := w) (base := base) T
  have nd := sc_walls_of.nd
  exact fn_P (O' := []) F sc_walls_of hm hb fun cdv A outer s H E hr =>
     (rss_cons (rs_own 1 nd (r_lst ra_nil))
      (rss_cons (rs_for rfl PassesOwn.never (ri_seq (r_callP c_rings_of hr (by decide) (ra_cons (r_v 0) ra_nil) (sCons_len sNil_len))) (rg_name 2 nd) (rss_one (rs_expr (r_extO 1 (pe_bm PySem.F.plainAttrs_list PySem.F.slot_list_extend PySem.F.type_list_extend mt_extend (pv 1) (pa_cons (rf_callP c_sides_of hr (by decide) (ra_cons (r_v 2) ra_nil) (sCons_len sNil_len)) pa_nil))))))
      (rss_one (rs_pre (O1 := []) (rs_ret (r_tuple T.z_tuple (ra_cons (r_v 1) ra_nil)))))))
def m_corners_of : SS := (kRet (callD tupleD (sCons (sLc (wS (callD e_walls_of (sCons (sV 0) sNil))) [1, 2] (gT (gsCons (gN 1) (gsCons (gN 2) gsNil)) 2) tYesD (sV 1)) sNil)))
def e_corners_of : List D → Option D := runP 3 m_corners_of
theorem ok_corners_of (T : Tx K mg) : Cal P w K mg base 3 "corners_of" ["room"] (spP K 1 e_corners_of) := by
  obtain ⟨f, fd, F, hm, hb⟩ := T.f_corners_of
  have c_walls_of := ok_walls_of (P := P) (w := w) (base := base) T
  have nd := sc_corners_of.nd
  exact fn_P (O' := []) F sc_corners_of hm hb fun cdv A outer s H E hr =>
     (rss_one (rs_ret (r_tuple T.z_tuple (ra_cons (r_lc (own := [("corner", 1), ("further", 2)]) nd (ri_seq (r_callP c_walls_of hr (by decide) (ra_cons (r_v 0) ra_nil) (sCons_len sNil_len))) (blkOk_by (N := N_corners_of) (sc := defScope s_corners_of) (by decide +kernel)) (fun _ _ _ _ _ => (rg_tup rfl (rgs_cons (rg_name 1 nd) (rgs_cons (rg_name 2 nd) rgs_nil)))) (fun _ _ _ _ _ => rts_nil) (fun _ _ _ _ _ => (r_v 1))) ra_nil))))
def m__law_box : SS := (kSeq (kSet 2 (bin ixD (bin addD (sV 0) (bin repD (sLst (sCons (sC (.int 0)) sNil)) (bin addD (sV 1) (sC (.int 1))))) (sV 1)))
  (kRet (sLst (sCons (bin mulD (callD absD (sCons (sV 2) sNil)) (callD intD (sCons (bin geD (callD absD (sCons (sV 2) sNil)) (bin powD (sC (.int 10)) (sC (.int 18)))) sNil))) (sCons (bin modD (bin mulD (bin addD (bin addD (bin modD (sV 2) (sC (.int 2147483647))) (bin mulD (sC (.int 7919)) (sV 1))) (sC (.int 11))) (sC (.int 48271))) (sC (.int 2147483629))) (sCons (sC (.int 0)) sNil))))))
def e__law_box : List D → Option D := runP 3 m__law_box
theorem ok__law_box (T : Tx K mg) : Cal P w K mg base 1 "_law_box" ["_law_script", "_law_k"] (spF K 2 e__law_box) := by
  obtain ⟨f, fd, F, hm, hb⟩ := T.f__law_box
  have nd := sc__law_box.nd
  exact fn_F (O' := []) F sc__law_box hm hb fun cdv A outer s H E hr =>
     (rss_cons (rs_set 2 nd (r_ix (r_add (r_v 0) (r_repE (r_lst (ra_cons r_int ra_nil)) (r_add (r_v 1) r_int))) (r_v 1)))
      (rss_one (rs_retF (r_lst (ra_cons (r_mul (r_abs T.z_abs (ra_cons (r_v 2) ra_nil)) (r_intc T.z_int (ra_cons (r_ge (r_abs T.z_abs (ra_cons (r_v 2) ra_nil)) (r_pow r_int r_int)) ra_nil))) (ra_cons (r_mod (r_mul (r_add (r_add (r_mod (r_v 2) r_int) (r_mul r_int (r_v 1))) r_int) r_int) r_int) (ra_cons r_int ra_nil)))))))
def m__law_take : SS := (kSeq (kIf (tru (bin gtD (ixO 0 (sC (.int 0))) (sC (.int 0)))) (kSeq (kAsg (callD divmodD (sCons (ixO 0 (sC (.int 0))) (sCons (sV 1) sNil))) (gT (gsCons (gO 0 (sC (.int 0))) (gsCons (gN 3) gsNil)) 2))
  (kRet (sV 3))) kNil)
  (kSeq (kAsg (bin addD (ixO 0 (sC (.int 2))) (sC (.int 1))) (gO 0 (sC (.int 2))))
  (kSeq (kSet 2 (bin modD (bin mulD (bin addD (ixO 0 (sC (.int 1))) (bin mulD (sC (.int 39373)) (ixO 0 (sC (.int 2))))) (bin addD (sC (.int 48271)) (ixO 0 (sC (.int 2))))) (sC (.int 2147483647))))
  (kSeq (kAsg (bin modD (bin addD (bin mulD (sV 2) (bin addD (bin modD (sV 2) (sC (.int 40009))) (sC (.int 7)))) (ixO 0 (sC (.int 2)))) (sC (.int 2147483629))) (gO 0 (sC (.int 1))))
  (kRet (bin modD (bin fdivD (bin modD (bin mulD (ixO 0 (sC (.int 1))) (bin addD (bin modD (ixO 0 (sC (.int 1))) (sC (.int 1009))) (sC (.int 3)))) (sC (.int 998244353))) (sC (.int 7))) (sV 1)))))))
def e__law_take : List D → List D → Option (D × List D) := runI 4 m__law_take
theorem ok__law_take (T : Tx K mg) : Cal P w K mg base 1 "_law_take" ["_law_box_here", "_law_many"] (spI K 2 e__law_take) := by
  obtain ⟨f, fd, F, hm, hb⟩ := T.f__law_take
  have nd := sc__law_take.nd
  exact fn_I F sc__law_take hm hb (by decide) fun cdv A outer s H E hr =>
     (rss_cons (rs_if (O' := [0]) (rt_gt (r_ixO 0 r_int) r_int) (rss_cons (rs_asg (r_divmod T.z_divmod (ra_cons (r_ixO 0 r_int) (ra_cons (r_v 1) ra_nil))) (rg_tup rfl (rgs_cons (rg_own 0 r_int) (rgs_cons (rg_name 3 nd) rgs_nil))))
      (rss_one (rs_ret (r_v 3)))) rss_nil)
      (rss_cons (rs_asg (r_add (r_ixO 0 r_int) r_int) (rg_own 0 r_int))
      (rss_cons (rs_set 2 nd (r_mod (r_mul (r_add (r_ixO 0 r_int) (r_mul r_int (r_ixO 0 r_int))) (r_add r_int (r_ixO 0 r_int))) r_int))
      (rss_cons (rs_asg (r_mod (r_add (r_mul (r_v 2) (r_add (r_mod (r_v 2) r_int) r_int)) (r_ixO 0 r_int)) r_int) (rg_own 0 r_int))
      (rss_one (rs_ret (r_mod (r_fdiv (r_mod (r_mul (r_ixO 0 r_int) (r_add (r_mod (r_ixO 0 r_int) r_int) r_int)) r_int) r_int) (r_v 1))))))))
def m__law_folded : SS := (kSeq (kOwn 2 (callD listD (sCons (sSl (sV 0) oNone (oSome (sV 1))) sNil)))
  (kSeq (kFor (wE (sCons (sSl (sV 0) (oSome (sV 1)) (oSome (sC (.int 63)))) sNil)) (gT (gsCons (gN 3) (gsCons (gN 4) gsNil)) 2) (kAsg (bin addD (ixO 2 (bin modD (sV 3) (sV 1))) (bin mulD (sV 4) (bin addD (sV 3) (sC (.int 2))))) (gO 2 (bin modD (sV 3) (sV 1)))))
  (kRet (sV 2))))
def e__law_folded : List D → Option D := runP 5 m__law_folded
theorem ok__law_folded (T : Tx K mg) : Cal P w K mg base 1 "_law_folded" ["_law_script", "_law_many"] (spP K 2 e__law_folded) := by
  obtain ⟨f, fd, F, hm, hb⟩ := T.f__law_folded
  have nd := sc__law_folded.nd
  exact fn_P (O' := []) F sc__law_folded hm hb fun cdv A outer s H E hr =>
     (rss_cons (rs_own 2 nd (rf_list T.z_list (ra_cons (r_slice (r_v 0) ro_none (ro_some (r_v 1))) ra_nil)))
      (rss_cons (rs_for rfl PassesOwn.never (ri_enum T.z_enumerate (ra_cons (r_slice (r_v 0) (ro_some (r_v 1)) (ro_some r_int)) ra_nil)) (rg_tup rfl (rgs_cons (rg_name 3 nd) (rgs_cons (rg_name 4 nd) rgs_nil))) (rss_one (rs_asg (r_add (r_ixO 2 (r_mod (r_v 3) (r_v 1))) (r_mul (r_v 4) (r_add (r_v 3) r_int))) (rg_own 2 (r_mod (r_v 3) (r_v 1))))))
      (rss_one (rs_pre (O1 := []) (rs_ret (r_v 2))))))
def m__law_trimmed : SS := (kSeq (kOwn 1 (callD listD (sCons (sV 0) sNil)))
  (kSeq (kSet 2 (sC (.int 0)))
  (kSeq (kWhile (fuelSq 1) (tru (bin ltD (sV 2) (lenO 1))) (kSeq (kPar3 3 4 5 (sCons (ixO 1 (bin subD (sV 2) (sC (.int 1)))) (sCons (ixO 1 (sV 2)) (sCons (ixO 1 (bin modD (bin addD (sV 2) (sC (.int 1))) (lenO 1))) sNil))))
  (kIf (tru (bin eqD (bin mulD (bin subD (bin ixD (sV 4) (sC (.int 0))) (bin ixD (sV 3) (sC (.int 0)))) (bin subD (bin ixD (sV 5) (sC (.int 1))) (bin ixD (sV 4) (sC (.int 1))))) (bin mulD (bin subD (bin ixD (sV 4) (sC (.int 1))) (bin ixD (sV 3) (sC (.int 1)))) (bin subD (bin ixD (sV 5) (sC (.int 0))) (bin ixD (sV 4) (sC (.int 0))))))) (kSeq (kDrop (methO 1 popAtD (sCons (sV 2) sNil)))
  (kSet 2 (sC (.int 0)))) (kSet 2 (bin addD (sV 2) (sC (.int 1)))))))
  (kRet (sV 1)))))
def e__law_trimmed : List D → Option D := runP 6 m__law_trimmed
theorem ok__law_trimmed (T : Tx K mg) : Cal P w K mg base 1 "_law_trimmed" ["_law_points"] (spP K 1 e__law_trimmed) := by
  obtain ⟨f, fd, F, hm, hb⟩ := T.f__law_trimmed
  have nd := sc__law_trimmed.nd
  exact fn_P (O' := []) F sc__law_trimmed hm hb fun cdv A outer s H E hr =>
     (rss_cons (rs_own 1 nd (rf_list T.z_list (ra_cons (r_v 0) ra_nil)))
      (rss_cons (rs_set 2 nd r_int)
      (rss_cons (rs_while (fuelSq 1) PassesOwn.never (rt_lt (r_v 2) (r_lenO 1 T.z_len)) (rss_cons (rs_par3 3 4 5 nd (ra_cons (r_ixO 1 (r_sub (r_v 2) r_int)) (ra_cons (r_ixO 1 (r_v 2)) (ra_cons (r_ixO 1 (r_mod (r_add (r_v 2) r_int) (r_lenO 1 T.z_len))) ra_nil))))
      (rss_one (rs_if (O' := [1]) (rt_eq hr (r_mul (r_sub (r_ix (r_v 4) r_int) (r_ix (r_v 3) r_int)) (r_sub (r_ix (r_v 5) r_int) (r_ix (r_v 4) r_int))) (r_mul (r_sub (r_ix (r_v 4) r_int) (r_ix (r_v 3) r_int)) (r_sub (r_ix (r_v 5) r_int) (r_ix (r_v 4) r_int)))) (rss_cons (rs_expr (r_methO 1 v_popAt (pe_bm PySem.F.plainAttrs_list PySem.F.slot_list_pop PySem.F.type_list_pop mt_popAt (pv 1) (ra_cons (r_v 2) ra_nil))))
      (rss_one (rs_set 2 nd r_int))) (rss_one (rs_set 2 nd (r_add (r_v 2) r_int)))))))
      (rss_one (rs_pre (O1 := []) (rs_ret (r_v 1)))))))
def b__law_columns_0 : SS := (kSeq (kSet 5 (bin addD (sV 5) (sLst (sCons (sTup (sCons (sV 7) (sCons (bin ixD (sV 4) (sV 7)) sNil))) (sCons (sTup (sCons (bin addD (sV 7) (sC (.int 1))) (sCons (bin ixD (sV 4) (sV 7)) sNil))) sNil)))))
  (kSet 6 (bin addD (sV 6) (sLc (wR2 (sCons (bin ixD (sV 4) (sV 7)) (sCons (bin ixD (sV 3) (sV 7)) sNil))) [8] (gN 8) tYesD (sTup (sCons (sV 7) (sCons (sV 8) sNil)))))))
def b__law_columns_1 : SS := (kSet 5 (bin addD (sV 5) (sLst (sCons (sTup (sCons (bin addD (sV 7) (sC (.int 1))) (sCons (bin ixD (sV 3) (sV 7)) sNil))) (sCons (sTup (sCons (sV 7) (sCons (bin ixD (sV 3) (sV 7)) sNil))) sNil)))))
def t__law_columns_49 : SS := (kSeq (kFor (wR3 (sCons (bin subD (sV 1) (sC (.int 1))) (sCons (un negD (sC (.int 1))) (sCons (un negD (sC (.int 1))) sNil)))) (gN 7) b__law_columns_1)
  (kRet (sTup (sCons (callD e__law_trimmed (sCons (sV 5) sNil)) (sCons (sV 6) sNil)))))
def t__law_columns_44 : SS := (kSeq (kSet 5 (sLst sNil))
  (kSeq (kSet 6 (sLst sNil))
  (kSeq (kFor (wR1 (sCons (sV 1) sNil)) (gN 7) b__law_columns_0)
  t__law_columns_49)))
def m__law_columns : SS := (kSeq (kSet 3 (sLc (wR1 (sCons (sV 1) sNil)) [7] (gN 7) tYesD (bin addD (sC (.int 1)) (callI 0 e__law_take (sCons (sV 2) sNil)))))
  (kSeq (kSet 4 (sLc (wR1 (sCons (sV 1) sNil)) [7] (gN 7) tYesD (bin subD (sC (.int 0)) (callI 0 e__law_take (sCons (sV 2) sNil)))))
  t__law_columns_44))
def e__law_columns : List D → List D → Option (D × List D) := runI 9 m__law_columns
theorem ok__law_columns (T : Tx K mg) : Cal P w K mg base 2 "_law_columns" ["_law_box_here", "_law_many", "_law_most"] (spI K 3 e__law_columns) := by
  obtain ⟨f, fd, F, hm, hb⟩ := T.f__law_columns
  have c__law_take := ok__law_take (P := P) (w := w) (base := base) T
  have c__law_trimmed := ok__law_trimmed (P := P) (w := w) (base := base) T
  have nd := sc__law_columns.nd
  exact fn_I F sc__law_columns hm hb (by decide) fun cdv A outer s H E hr =>
     (rss_cons (rs_setLc 3 (own := [("_law_k", 7)]) nd (ri_range1 T.z_range (ra_cons (r_v 1) ra_nil)) (blkOk_by (N := N__law_columns) (sc := defScope s__law_columns) (by decide +kernel)) (fun _ _ _ _ _ => (rg_name 7 nd)) (fun _ _ _ _ _ => rts_nil) (fun _ _ _ _ _ => (r_add r_int (r_callI 0 c__law_take hr (by decide) (ra_cons (r_v 2) ra_nil) (sCons_len sNil_len)))) (sw_true rfl rfl rfl (by decide +kernel)))
      (rss_cons (rs_setLc 4 (own := [("_law_k", 7)]) nd (ri_range1 T.z_range (ra_cons (r_v 1) ra_nil)) (blkOk_by (N := N__law_columns) (sc := defScope s__law_columns) (by decide +kernel)) (fun _ _ _ _ _ => (rg_name 7 nd)) (fun _ _ _ _ _ => rts_nil) (fun _ _ _ _ _ => (r_sub r_int (r_callI 0 c__law_take hr (by decide) (ra_cons (r_v 2) ra_nil) (sCons_len sNil_len)))) (sw_true rfl rfl rfl (by decide +kernel)))
      (rss_cons (rs_set 5 nd (r_lstE ra_nil))
      (rss_cons (rs_set 6 nd (r_lstE ra_nil))
      (rss_cons (rs_for rfl PassesOwn.never (ri_range1 T.z_range (ra_cons (r_v 1) ra_nil)) (rg_name 7 nd) (rss_cons (rs_set 5 nd (r_add (r_v 5) (r_lstE (ra_cons (r_tup (ra_cons (r_v 7) (ra_cons (r_ix (r_v 4) (r_v 7)) ra_nil))) (ra_cons (r_tup (ra_cons (r_add (r_v 7) r_int) (ra_cons (r_ix (r_v 4) (r_v 7)) ra_nil))) ra_nil)))))
      (rss_one (rs_set 6 nd (r_add (r_v 6) (r_lc (own := [("_law_row", 8)]) nd (ri_range2 T.z_range (ra_cons (r_ix (r_v 4) (r_v 7)) (ra_cons (r_ix (r_v 3) (r_v 7)) ra_nil))) (blkOk_by (N := N__law_columns) (sc := defScope s__law_columns) (by decide +kernel)) (fun _ _ _ _ _ => (rg_name 8 nd)) (fun _ _ _ _ _ => rts_nil) (fun _ _ _ _ _ => (r_tup (ra_cons (r_v 7) (ra_cons (r_v 8) ra_nil))))))))))
      (rss_cons (rs_for rfl PassesOwn.never (ri_range3 T.z_range (ra_cons (r_sub (r_v 1) r_int) (ra_cons (r_neg r_int) (ra_cons (r_neg r_int) ra_nil)))) (rg_name 7 nd) (rss_one (rs_set 5 nd (r_add (r_v 5) (r_lstE (ra_cons (r_tup (ra_cons (r_add (r_v 7) r_int) (ra_cons (r_ix (r_v 3) (r_v 7)) ra_nil))) (ra_cons (r_tup (ra_cons (r_v 7) (ra_cons (r_ix (r_v 3) (r_v 7)) ra_nil))) ra_nil)))))))
      (rss_one (rs_ret (r_tup (ra_cons (r_callP c__law_trimmed hr (by decide) (ra_cons (r_v 5) ra_nil) (sCons_len sNil_len)) (ra_cons (r_v 6) ra_nil)))))))))))
def m__law_shape : SS := (kSeq (kSet 1 (sLst (sCons (sC (.str "00 30 02")) (sCons (sC (.str "00 41 13")) (sCons (sC (.str "00 40 32 13")) (sCons (sC (.str "00 40 11 04")) (sCons (sC (.str "00 21 40 24")) (sCons (sC (.str "00 21 40 32 44 23 04 12")) sNil))))))))
  (kSeq (kSet 1 (bin addD (sV 1) (sLst (sCons (sC (.str "00 40 44 14 12 22 23 33 31 01")) (sCons (sC (.str "00 60 63 51 43 31 23 11 03")) (sCons (sC (.str "00 30 31 11 13 03")) sNil))))))
  (kSeq (kSet 1 (bin addD (sV 1) (sLst (sCons (sC (.str "10 20 21 31 32 22 23 13 12 02 01 11")) (sCons (sC (.str "00 50 53 43 41 11 13 03")) (sCons (sC (.str "10 30 41 43 34 14 03 01")) sNil))))))
  (kSeq (kSet 1 (bin addD (sV 1) (sLst (sCons (sC (.str "00 60 64 34 32 24 04")) (sCons (sC (.str "02 20 42 62 64 22 24 04")) sNil)))))
  (kRet (sLc (wS (bin splitD (bin ixD (sV 1) (sV 0)) (sC (.str " ")))) [2] (gN 2) tYesD (sTup (sCons (callD intS (sCons (bin ixD (sV 2) (sC (.int 0))) sNil)) (sCons (callD intS (sCons (bin ixD (sV 2) (sC (.int 1))) sNil)) sNil)))))))))
def e__law_shape : List D → Option D := runP 3 m__law_shape
theorem ok__law_shape (T : Tx K mg) : Cal P w K mg base 1 "_law_shape" ["_law_k"] (spP K 1 e__law_shape) := by
  obtain ⟨f, fd, F, hm, hb⟩ := T.f__law_shape
  have nd := sc__law_shape.nd
  exact fn_P (O' := []) F sc__law_shape hm hb fun cdv A outer s H E hr =>
     (rss_cons (rs_set 1 nd (r_lstE (ra_cons r_str (ra_cons r_str (ra_cons r_str (ra_cons r_str (ra_cons r_str (ra_cons r_str ra_nil))))))))
      (rss_cons (rs_set 1 nd (r_add (r_v 1) (r_lstE (ra_cons r_str (ra_cons r_str (ra_cons r_str ra_nil))))))
      (rss_cons (rs_set 1 nd (r_add (r_v 1) (r_lstE (ra_cons r_str (ra_cons r_str (ra_cons r_str ra_nil))))))
      (rss_cons (rs_set 1 nd (r_add (r_v 1) (r_lstE (ra_cons r_str (ra_cons r_str ra_nil)))))
      (rss_one (rs_ret (r_lc (own := [("_law_word", 2)]) nd (ri_seq (r_split (pe_bm PySem.F.plainAttrs_str PySem.F.slot_str_split PySem.F.type_str_split mt_spl (r_ix (r_v 1) (r_v 0)) (ra_cons r_str ra_nil)))) (blkOk_by (N := N__law_shape) (sc := defScope s__law_shape) (by decide +kernel)) (fun _ _ _ _ _ => (rg_name 2 nd)) (fun _ _ _ _ _ => rts_nil) (fun _ _ _ _ _ => (r_tup (ra_cons (r_intS T.z_int (ra_cons (r_ix (r_v 2) r_int) ra_nil)) (ra_cons (r_intS T.z_int (ra_cons (r_ix (r_v 2) r_int) ra_nil)) ra_nil)))))))))))
def b__law_pillar_0 : SS := (kDrop (methO 3 appD (sCons (sTup (sCons (bin addD (bin mulD (sC (.int 4)) (bin ixD (sV 1) (sC (.int 0)))) (callD intS (sCons (bin ixD (sV 4) (sC (.int 0))) sNil))) (sCons (bin addD (bin mulD (sC (.int 4)) (bin ixD (sV 1) (sC (.int 1)))) (callD intS (sCons (bin ixD (sV 4) (sC (.int 1))) sNil))) sNil))) sNil)))
def m__law_pillar : SS := (kSeq (kSet 2 (sLst (sCons (sC (.str "11 31 13")) (sCons (sC (.str "11 32 23")) (sCons (sC (.str "11 31 33 13")) (sCons (sC (.str "21 32 23 12")) (sCons (sC (.str "12 31 33")) (sCons (sC (.str "11 32 33 23")) sNil))))))))
  (kSeq (kSet 2 (bin addD (sV 2) (sLst (sCons (sC (.str "11 31 22 23")) (sCons (sC (.str "21 22 12")) sNil)))))
  (kSeq (kOwn 3 (sLst sNil))
  (kSeq (kFor (wS (bin splitD (bin ixD (sV 2) (callI 0 e__law_take (sCons (sC (.int 8)) sNil))) (sC (.str " ")))) (gN 4) b__law_pillar_0)
  (kRet (sV 3))))))
def e__law_pillar : List D → List D → Option (D × List D) := runI 5 m__law_pillar
theorem ok__law_pillar (T : Tx K mg) : Cal P w K mg base 2 "_law_pillar" ["_law_box_here", "_law_cell"] (spI K 2 e__law_pillar) := by
  obtain ⟨f, fd, F, hm, hb⟩ := T.f__law_pillar
  have c__law_take := ok__law_take (P := P) (w := w) (base := base) T
  have nd := sc__law_pillar.nd
  exact fn_I F sc__law_pillar hm hb (by decide) fun cdv A outer s H E hr =>
     (rss_cons (rs_set 2 nd (r_lstE (ra_cons r_str (ra_cons r_str (ra_cons r_str (ra_cons r_str (ra_cons r_str (ra_cons r_str ra_nil))))))))
      (rss_cons (rs_set 2 nd (r_add (r_v 2) (r_lstE (ra_cons r_str (ra_cons r_str ra_nil)))))
      (rss_cons (rs_own 3 nd (r_lst ra_nil))
      (rss_cons (rs_for rfl PassesOwn.never (ri_seq (r_split (pe_bm PySem.F.plainAttrs_str PySem.F.slot_str_split PySem.F.type_str_split mt_spl (r_ix (r_v 2) (r_callI 0 c__law_take hr (by decide) (ra_cons r_int ra_nil) (sCons_len sNil_len))) (ra_cons r_str ra_nil)))) (rg_name 4 nd) (rss_one (rs_expr (r_methO 3 v_append (pe_bm PySem.F.plainAttrs_list PySem.F.slot_list_append PySem.F.type_list_append mt_append (pv 3) (ra_cons (r_tup (ra_cons (r_add (r_mul r_int (r_ix (r_v 1) r_int)) (r_intS T.z_int (ra_cons (r_ix (r_v 4) r_int) ra_nil))) (ra_cons (r_add (r_mul r_int (r_ix (r_v 1) r_int)) (r_intS T.z_int (ra_cons (r_ix (r_v 4) r_int) ra_nil))) ra_nil))) ra_nil))))))
      (rss_one (rs_pre (O1 := [0]) (rs_ret (r_v 3))))))))
def b__law_pillars_0 : SS := (kIf (peekT (tru (bin neD (sV 4) (sLst sNil)))) (kSeq (kSet 6 (callI 0 e__law_pillar (sCons (methO 4 popAtD (sCons (callI 0 e__law_take (sCons (lenO 4) sNil)) sNil)) sNil)))
  (kIf (peekT (tru (bin leD (bin addD (callD lenD (sCons (sV 6) sNil)) (callD sumD (sCons (sLc (wS (sV 3)) [7] (gN 7) tYesD (callD lenD (sCons (sV 7) sNil))) sNil))) (sV 2)))) (kDrop (methO 3 appD (sCons (sV 6) sNil))) kNil)) kNil)
def m__law_pillars : SS := (kSeq (kOwn 3 (sLst sNil))
  (kSeq (kOwn 4 (callD listD (sCons (sV 1) sNil)))
  (kSeq (kFor (wR1 (sCons (callI 0 e__law_take (sCons (sC (.int 5)) sNil)) sNil)) (gN 5) b__law_pillars_0)
  (kRet (sV 3)))))
def e__law_pillars : List D → List D → Option (D × List D) := runI 8 m__law_pillars
theorem ok__law_pillars (T : Tx K mg) : Cal P w K mg base 3 "_law_pillars" ["_law_box_here", "_law_cells", "_law_most"] (spI K 3 e__law_pillars) := by
  obtain ⟨f, fd, F, hm, hb⟩ := T.f__law_pillars
  have c__law_take := ok__law_take (P := P) (w := w) (base := base) T
  have c__law_pillar := ok__law_pillar (P := P) (w := w) (base := base) T
  have nd := sc__law_pillars.nd
  exact fn_I F sc__law_pillars hm hb (by decide) fun cdv A outer s H E hr =>
     (rss_cons (rs_own 3 nd (r_lst ra_nil))
      (rss_cons (rs_own 4 nd (rf_list T.z_list (ra_cons (r_v 1) ra_nil)))
      (rss_cons (rs_for rfl PassesOwn.never (ri_range1 T.z_range (ra_cons (r_callI 0 c__law_take hr (by decide) (ra_cons r_int ra_nil) (sCons_len sNil_len)) ra_nil)) (rg_name 5 nd) (rss_one (rs_if (O' := [4, 3, 0]) (rt_peek (rt_ne hr (r_v 4) (r_lstE ra_nil))) (rss_cons (rs_set 6 nd (r_callI 0 c__law_pillar hr (by decide) (ra_cons (r_methO 4 v_popAt (pe_bm PySem.F.plainAttrs_list PySem.F.slot_list_pop PySem.F.type_list_pop mt_popAt (pv 4) (ra_cons (r_callI 0 c__law_take hr (by decide) (ra_cons (r_lenO 4 T.z_len) ra_nil) (sCons_len sNil_len)) ra_nil))) ra_nil) (sCons_len sNil_len)))
      (rss_one (rs_if (O' := [4, 3, 0]) (rt_peek (rt_le (r_add (r_len T.z_len (ra_cons (r_v 6) ra_nil)) (r_sum T.z_sum rfl (ra_cons (r_lc (own := [("_law_one", 7)]) nd (ri_seq (r_v 3)) (blkOk_by (N := N__law_pillars) (sc := defScope s__law_pillars) (by decide +kernel)) (fun _ _ _ _ _ => (rg_name 7 nd)) (fun _ _ _ _ _ => rts_nil) (fun _ _ _ _ _ => (r_len T.z_len (ra_cons (r_v 7) ra_nil)))) ra_nil))) (r_v 2))) (rss_one (rs_expr (r_methO 3 v_append (pe_bm PySem.F.plainAttrs_list PySem.F.slot_list_append PySem.F.type_list_append mt_append (pv 3) (ra_cons (r_v 6) ra_nil))))) rss_nil))) rss_nil)))
      (rss_one (rs_pre (O1 := [4, 0]) (rs_ret (r_v 3)))))))
def b__law_moved_0 : SS := (kSet 9 (sLc (wS (sV 9)) [14, 15] (gT (gsCons (gN 14) (gsCons (gN 15) gsNil)) 2) tYesD (sTup (sCons (bin subD (sC (.int 0)) (sV 15)) (sCons (sV 14) sNil)))))
def b__law_moved_1 : SS := (kSeq (kSet 9 (sLc (wS (sV 5)) [14, 15] (gT (gsCons (gN 14) (gsCons (gN 15) gsNil)) 2) tYesD (sTup (sCons (bin addD (sV 14) (bin mulD (sV 2) (sV 15))) (sCons (sV 15) sNil)))))
  (kSeq (kFor (wR1 (sCons (sV 3) sNil)) (gN 10) b__law_moved_0)
  (kDrop (methO 4 appD (sCons (sV 9) sNil)))))
def b__law_moved_2 : SS := (kSeq (kPar 11 12 (sCons (callD minL (sCons (sLc (wS (ixO 4 (sC (.int 0)))) [16] (gN 16) tYesD (bin ixD (sV 16) (sV 7))) sNil)) (sCons (callD maxL (sCons (sLc (wS (ixO 4 (sC (.int 0)))) [16] (gN 16) tYesD (bin ixD (sV 16) (sV 7))) sNil)) sNil)))
  (kDrop (methO 6 appD (sCons (bin subD (bin subD (callI 0 e__law_take (sCons (sC (.int 21)) sNil)) (sC (.int 10))) (bin fdivD (bin addD (sV 11) (sV 12)) (sC (.int 2)))) sNil))))
def b__law_moved_3 : SS := (kSeq (kSet 13 (callI 0 e__law_take (sCons (callD lenD (sCons (sV 5) sNil)) sNil)))
  (kDrop (methO 8 appD (sCons (callD tupleD (sCons (sLc (wS (bin addD (sSl (sV 5) (oSome (sV 13)) oNone) (sSl (sV 5) oNone (oSome (sV 13))))) [14, 15] (gT (gsCons (gN 14) (gsCons (gN 15) gsNil)) 2) tYesD (sTup (sCons (bin addD (sV 14) (ixO 6 (sC (.int 0)))) (sCons (bin addD (sV 15) (ixO 6 (sC (.int 1)))) (sCons (sC (.int 1)) sNil))))) sNil)) sNil))))
def t__law_moved_86 : SS := (kSeq (kOwn 8 (sLst sNil))
  (kSeq (kFor (wS (sV 4)) (gN 5) b__law_moved_3)
  (kRet (sTup (sCons (bin ixD (sV 8) (sC (.int 0))) (sCons (callD tupleD (sCons (sSl (sV 8) (oSome (sC (.int 1))) oNone) sNil)) sNil))))))
def t__law_moved_82 : SS := (kSeq (kOwn 6 (sLst sNil))
  (kSeq (kFor (wR1 (sCons (sC (.int 2)) sNil)) (gN 7) b__law_moved_2)
  t__law_moved_86))
def m__law_moved : SS := (kSeq (kSet 3 (callI 0 e__law_take (sCons (sC (.int 4)) sNil)))
  (kSeq (kOwn 4 (sLst sNil))
  (kSeq (kFor (wS (sV 1)) (gN 5) b__law_moved_1)
  t__law_moved_82)))
def e__law_moved : List D → List D → Option (D × List D) := runI 17 m__law_moved
theorem ok__law_moved (T : Tx K mg) : Cal P w K mg base 2 "_law_moved" ["_law_box_here", "_law_rings", "_law_slant"] (spI K 3 e__law_moved) := by
  obtain ⟨f, fd, F, hm, hb⟩ := T.f__law_moved
  have c__law_take := ok__law_take (P := P) (w := w) (base := base) T
  have nd := sc__law_moved.nd
  exact fn_I F sc__law_moved hm hb (by decide) fun cdv A outer s H E hr =>
     (rss_cons (rs_set 3 nd (r_callI 0 c__law_take hr (by decide) (ra_cons r_int ra_nil) (sCons_len sNil_len)))
      (rss_cons (rs_own 4 nd (r_lst ra_nil))
      (rss_cons (rs_for rfl PassesOwn.never (ri_seq (r_v 1)) (rg_name 5 nd) (rss_cons (rs_setLc 9 (own := [("_law_x", 14), ("_law_y", 15)]) nd (ri_seq (r_v 5)) (blkOk_by (N := N__law_moved) (sc := defScope s__law_moved) (by decide +kernel)) (fun _ _ _ _ _ => (rg_tup rfl (rgs_cons (rg_name 14 nd) (rgs_cons (rg_name 15 nd) rgs_nil)))) (fun _ _ _ _ _ => rts_nil) (fun _ _ _ _ _ => (r_tup (ra_cons (r_add (r_v 14) (r_mul (r_v 2) (r_v 15))) (ra_cons (r_v 15) ra_nil)))) (sw_true rfl rfl rfl (by decide +kernel)))
      (rss_cons (rs_for rfl PassesOwn.never (ri_range1 T.z_range (ra_cons (r_v 3) ra_nil)) (rg_name 10 nd) (rss_one (rs_setLc 9 (own := [("_law_x", 14), ("_law_y", 15)]) nd (ri_seq (r_v 9)) (blkOk_by (N := N__law_moved) (sc := defScope s__law_moved) (by decide +kernel)) (fun _ _ _ _ _ => (rg_tup rfl (rgs_cons (rg_name 14 nd) (rgs_cons (rg_name 15 nd) rgs_nil)))) (fun _ _ _ _ _ => rts_nil) (fun _ _ _ _ _ => (r_tup (ra_cons (r_sub r_int (r_v 15)) (ra_cons (r_v 14) ra_nil)))) (sw_true rfl rfl rfl (by decide +kernel)))))
      (rss_one (rs_expr (r_methO 4 v_append (pe_bm PySem.F.plainAttrs_list PySem.F.slot_list_append PySem.F.type_list_append mt_append (pv 4) (ra_cons (r_v 9) ra_nil))))))))
      (rss_cons (rs_own 6 nd (r_lst ra_nil))
      (rss_cons (rs_for rfl PassesOwn.never (ri_range1 T.z_range (ra_cons r_int ra_nil)) (rg_name 7 nd) (rss_cons (rs_par 11 12 nd (ra_cons (r_minL T.z_min rfl (ra_cons (r_lc (own := [("_law_point", 16)]) nd (ri_seq (r_ixO 4 r_int)) (blkOk_by (N := N__law_moved) (sc := defScope s__law_moved) (by decide +kernel)) (fun _ _ _ _ _ => (rg_name 16 nd)) (fun _ _ _ _ _ => rts_nil) (fun _ _ _ _ _ => (r_ix (r_v 16) (r_v 7)))) ra_nil)) (ra_cons (r_maxL T.z_max rfl (ra_cons (r_lc (own := [("_law_point", 16)]) nd (ri_seq (r_ixO 4 r_int)) (blkOk_by (N := N__law_moved) (sc := defScope s__law_moved) (by decide +kernel)) (fun _ _ _ _ _ => (rg_name 16 nd)) (fun _ _ _ _ _ => rts_nil) (fun _ _ _ _ _ => (r_ix (r_v 16) (r_v 7)))) ra_nil)) ra_nil)))
      (rss_one (rs_expr (r_methO 6 v_append (pe_bm PySem.F.plainAttrs_list PySem.F.slot_list_append PySem.F.type_list_append mt_append (pv 6) (ra_cons (r_sub (r_sub (r_callI 0 c__law_take hr (by decide) (ra_cons r_int ra_nil) (sCons_len sNil_len)) r_int) (r_fdiv (r_add (r_v 11) (r_v 12)) r_int)) ra_nil)))))))
      (rss_cons (rs_own 8 nd (r_lst ra_nil))
      (rss_cons (rs_pre (O1 := [8, 6, 0]) (rs_for rfl PassesOwn.never (ri_seq (r_v 4)) (rg_name 5 nd) (rss_cons (rs_set 13 nd (r_callI 0 c__law_take hr (by decide) (ra_cons (r_len T.z_len (ra_cons (r_v 5) ra_nil)) ra_nil) (sCons_len sNil_len)))
      (rss_one (rs_expr (r_methO 8 v_append (pe_bm PySem.F.plainAttrs_list PySem.F.slot_list_append PySem.F.type_list_append mt_append (pv 8) (ra_cons (r_tuple T.z_tuple (ra_cons (r_lc (own := [("_law_x", 14), ("_law_y", 15)]) nd (ri_seq (r_add (r_slice (r_v 5) (ro_some (r_v 13)) ro_none) (r_slice (r_v 5) ro_none (ro_some (r_v 13))))) (blkOk_by (N := N__law_moved) (sc := defScope s__law_moved) (by decide +kernel)) (fun _ _ _ _ _ => (rg_tup rfl (rgs_cons (rg_name 14 nd) (rgs_cons (rg_name 15 nd) rgs_nil)))) (fun _ _ _ _ _ => rts_nil) (fun _ _ _ _ _ => (r_tup (ra_cons (r_add (r_v 14) (r_ixO 6 r_int)) (ra_cons (r_add (r_v 15) (r_ixO 6 r_int)) (ra_cons r_int ra_nil)))))) ra_nil)) ra_nil))))))))
      (rss_one (rs_pre (O1 := [6, 0]) (rs_ret (r_tup (ra_cons (r_ix (r_v 8) r_int) (ra_cons (r_tuple T.z_tuple (ra_cons (r_slice (r_v 8) (ro_some r_int) ro_none) ra_nil)) ra_nil)))))))))))))
def t__law_room_96 : SS := (kSeq (kSet 6 (bin addD (sLst (sCons (sLc (wS (sV 4)) [7, 8] (gT (gsCons (gN 7) (gsCons (gN 8) gsNil)) 2) tYesD (sTup (sCons (bin mulD (sC (.int 4)) (sV 7)) (sCons (bin mulD (sC (.int 4)) (sV 8)) sNil)))) sNil)) (callI 0 e__law_pillars (sCons (sV 5) (sCons (bin subD (callD min2 (sCons (sV 1) (sCons (sC (.int 20)) sNil))) (callD lenD (sCons (sV 4) sNil))) sNil)))))
  (kRet (callI 0 e__law_moved (sCons (sV 6) (sCons (sV 2) sNil)))))
def t__law_room_100 : SS := (kSeq (kIf (tru (bin gtD (callD lenD (sCons (sV 4) sNil)) (sV 1))) (kSet 4 (sLst (sCons (sTup (sCons (sC (.int 0)) (sCons (sC (.int 0)) sNil))) (sCons (sTup (sCons (sC (.int 3)) (sCons (sC (.int 0)) sNil))) (sCons (sTup (sCons (sC (.int 1)) (sCons (sC (.int 2)) sNil))) sNil))))) kNil)
  (kSeq (kSet 3 (bin addD (sC (.int 1)) (callI 0 e__law_take (sCons (sC (.int 4)) sNil))))
  (kRet (callI 0 e__law_moved (sCons (sLst (sCons (sLc (wS (sV 4)) [7, 8] (gT (gsCons (gN 7) (gsCons (gN 8) gsNil)) 2) tYesD (sTup (sCons (bin mulD (sV 3) (sV 7)) (sCons (bin mulD (sV 3) (sV 8)) sNil)))) sNil)) (sCons (sV 2) sNil))))))
def m__law_room : SS := (kSeq (kSet 2 (bin ixD (sLst (sCons (sC (.int 0)) (sCons (sC (.int 0)) (sCons (sC (.int 0)) (sCons (sC (.int 1)) (sCons (un negD (sC (.int 1))) sNil)))))) (callI 0 e__law_take (sCons (sC (.int 5)) sNil))))
  (kSeq (kIf (tru (bin gtD (callI 0 e__law_take (sCons (sC (.int 3)) sNil)) (sC (.int 0)))) (kSeq (kAsg (callI 0 e__law_columns (sCons (bin addD (sC (.int 1)) (callI 0 e__law_take (sCons (sC (.int 4)) sNil))) (sCons (bin addD (sC (.int 1)) (callI 0 e__law_take (sCons (sC (.int 3)) sNil))) sNil))) (gT (gsCons (gN 4) (gsCons (gN 5) gsNil)) 2))
  (kIf (tand (tru (bin leD (callD lenD (sCons (sV 4) sNil)) (sV 1))) (tru (bin eqD (callI 0 e__law_take (sCons (sC (.int 2)) sNil)) (sC (.int 0))))) t__law_room_96 kNil)) (kSet 4 (callD e__law_shape (sCons (callI 0 e__law_take (sCons (sC (.int 14)) sNil)) sNil))))
  t__law_room_100))
def e__law_room : List D → List D → Option (D × List D) := runI 9 m__law_room
theorem ok__law_room (T : Tx K mg) : Cal P w K mg base 4 "_law_room" ["_law_box_here", "_law_most"] (spI K 2 e__law_room) := by
  obtain ⟨f, fd, F, hm, hb⟩ := T.f__law_room
  have c__law_take := ok__law_take (P := P) (w := w) (base := base) T
  have c__law_columns := ok__law_columns (P := P) (w := w) (base := base) T
  have c__law_pillars := ok__law_pillars (P := P) (w := w) (base := base) T
  have c__law_moved := ok__law_moved (P := P) (w := w) (base := base) T
  have c__law_shape := ok__law_shape (P := P) (w := w) (base := base) T
  have nd := sc__law_room.nd
  exact fn_I F sc__law_room hm hb (by decide) fun cdv A outer s H E hr =>
     (rss_cons (rs_set 2 nd (r_ix (r_lstE (ra_cons r_int (ra_cons r_int (ra_cons r_int (ra_cons r_int (ra_cons (r_neg r_int) ra_nil)))))) (r_callI 0 c__law_take hr (by decide) (ra_cons r_int ra_nil) (sCons_len sNil_len))))
      (rss_cons (rs_if (O' := [0]) (rt_gt (r_callI 0 c__law_take hr (by decide) (ra_cons r_int ra_nil) (sCons_len sNil_len)) r_int) (rss_cons (rs_asg (r_callI 0 c__law_columns hr (by decide) (ra_cons (r_add r_int (r_callI 0 c__law_take hr (by decide) (ra_cons r_int ra_nil) (sCons_len sNil_len))) (ra_cons (r_add r_int (r_callI 0 c__law_take hr (by decide) (ra_cons r_int ra_nil) (sCons_len sNil_len))) ra_nil)) (sCons_len (sCons_len sNil_len))) (rg_tup rfl (rgs_cons (rg_name 4 nd) (rgs_cons (rg_name 5 nd) rgs_nil))))
      (rss_one (rs_if (O' := [0]) (rt_w (rw_and (rt_le (r_len T.z_len (ra_cons (r_v 4) ra_nil)) (r_v 1)) (rw_and1 (rt_eq hr (r_callI 0 c__law_take hr (by decide) (ra_cons r_int ra_nil) (sCons_len sNil_len)) r_int)))) (rss_cons (rs_set 6 nd (r_add (r_lstE (ra_cons (r_lc (own := [("_law_x", 7), ("_law_y", 8)]) nd (ri_seq (r_v 4)) (blkOk_by (N := N__law_room) (sc := defScope s__law_room) (by decide +kernel)) (fun _ _ _ _ _ => (rg_tup rfl (rgs_cons (rg_name 7 nd) (rgs_cons (rg_name 8 nd) rgs_nil)))) (fun _ _ _ _ _ => rts_nil) (fun _ _ _ _ _ => (r_tup (ra_cons (r_mul r_int (r_v 7)) (ra_cons (r_mul r_int (r_v 8)) ra_nil))))) ra_nil)) (r_callI 0 c__law_pillars hr (by decide) (ra_cons (r_v 5) (ra_cons (r_sub (r_min2 T.z_min rfl (ra_cons (r_v 1) (ra_cons r_int ra_nil))) (r_len T.z_len (ra_cons (r_v 4) ra_nil))) ra_nil)) (sCons_len (sCons_len sNil_len)))))
      (rss_one (rs_ret (r_callI 0 c__law_moved hr (by decide) (ra_cons (r_v 6) (ra_cons (r_v 2) ra_nil)) (sCons_len (sCons_len sNil_len)))))) rss_nil))) (rss_one (rs_set 4 nd (r_callP c__law_shape hr (by decide) (ra_cons (r_callI 0 c__law_take hr (by decide) (ra_cons r_int ra_nil) (sCons_len sNil_len)) ra_nil) (sCons_len sNil_len)))))
      (rss_cons (rs_if (O' := [0]) (rt_gt (r_len T.z_len (ra_cons (r_v 4) ra_nil)) (r_v 1)) (rss_one (rs_set 4 nd (r_lstE (ra_cons (r_tup (ra_cons r_int (ra_cons r_int ra_nil))) (ra_cons (r_tup (ra_cons r_int (ra_cons r_int ra_nil))) (ra_cons (r_tup (ra_cons r_int (ra_cons r_int ra_nil))) ra_nil)))))) rss_nil)
      (rss_cons (rs_set 3 nd (r_add r_int (r_callI 0 c__law_take hr (by decide) (ra_cons r_int ra_nil) (sCons_len sNil_len))))
      (rss_one (rs_ret (r_callI 0 c__law_moved hr (by decide) (ra_cons (r_lstE (ra_cons (r_lc (own := [("_law_x", 7), ("_law_y", 8)]) nd (ri_seq (r_v 4)) (blkOk_by (N := N__law_room) (sc := defScope s__law_room) (by decide +kernel)) (fun _ _ _ _ _ => (rg_tup rfl (rgs_cons (rg_name 7 nd) (rgs_cons (rg_name 8 nd) rgs_nil)))) (fun _ _ _ _ _ => rts_nil) (fun _ _ _ _ _ => (r_tup (ra_cons (r_mul (r_v 3) (r_v 7)) (ra_cons (r_mul (r_v 3) (r_v 8)) ra_nil))))) ra_nil)) (ra_cons (r_v 2) ra_nil)) (sCons_len (sCons_len sNil_len)))))))))
def m__law_alike (e_self : List D → Option D) : SS := (kSeq (kIf (tru (un (isi2 "list" "tuple") (sV 1))) (kSeq (kIf (tor (tnot (tru (un (isi2 "list" "tuple") (sV 0)))) (tru (bin neD (un (isiD "list") (sV 0)) (un (isiD "list") (sV 1))))) (kRet (sC (.bool false))) kNil)
  (kRet (vand (bin eqD (callD lenD (sCons (sV 0) sNil)) (callD lenD (sCons (sV 1) sNil))) (callD allD (sCons (sLc (wZ (sCons (sV 0) (sCons (sV 1) sNil))) [2, 3] (gT (gsCons (gN 2) (gsCons (gN 3) gsNil)) 2) tYesD (callD e_self (sCons (sV 2) (sCons (sV 3) sNil)))) sNil))))) kNil)
  (kSeq (kIf (tor (tru (bin isN (sV 1) (sC .none))) (tru (un (isiD "str") (sV 1)))) (kRet (vand (bin eqD (sV 0) (sV 1)) (bin eqD (un (isiD "str") (sV 0)) (un (isiD "str") (sV 1))))) kNil)
  (kRet (vand (un (isiD "int") (sV 0)) (vand (bin eqD (un (isiD "bool") (sV 0)) (un (isiD "bool") (sV 1))) (bin eqD (sV 0) (sV 1)))))))
def e__law_alike : Nat → List D → Option D
  | 0 => fun _ => none
  | m + 1 => runP 4 (m__law_alike (e__law_alike m))
theorem okr__law_alike (T : Tx K mg) : ∀ m, Cal P w K mg base (m + 1) "_law_alike" ["_law_found", "_law_due"] (spP K 2 (e__law_alike m)) := by
  obtain ⟨f, fd, F, hm, hb⟩ := T.f__law_alike
  intro m
  induction m with
  | zero => exact cal_none F hm hb _
  | succ m ih =>
    have c__law_alike := ih
    have nd := sc__law_alike.nd
    exact fn_P (O' := []) F sc__law_alike hm hb fun cdv A outer s H E hr =>
     (rss_cons (rs_if (O' := []) (rt_val (r_isi2 T.z_isinstance T.z_list T.z_tuple (r_v 1))) (rss_cons (rs_if (O' := []) (rt_w (rw_or (rt_not (rt_val (r_isi2 T.z_isinstance T.z_list T.z_tuple (r_v 0)))) (rw_or1 (rt_ne hr (r_isi T.z_isinstance T.z_list (r_v 0)) (r_isi T.z_isinstance T.z_list (r_v 1)))))) (rss_one (rs_ret r_bl)) rss_nil)
      (rss_one (rs_ret (r_and (r_eq hr (r_len T.z_len (ra_cons (r_v 0) ra_nil)) (r_len T.z_len (ra_cons (r_v 1) ra_nil))) (r_one (r_all T.z_all rfl (ra_cons (r_lc (own := [("_law_one", 2), ("_law_other", 3)]) nd (ri_zip T.z_zip (ra_cons (r_v 0) (ra_cons (r_v 1) ra_nil))) (blkOk_by (N := N__law_alike) (sc := defScope s__law_alike) (by decide +kernel)) (fun _ _ _ _ _ => (rg_tup rfl (rgs_cons (rg_name 2 nd) (rgs_cons (rg_name 3 nd) rgs_nil)))) (fun _ _ _ _ _ => rts_nil) (fun _ _ _ _ _ => (r_callP c__law_alike hr (by omega) (ra_cons (r_v 2) (ra_cons (r_v 3) ra_nil)) (sCons_len (sCons_len sNil_len))))) ra_nil))))))) rss_nil)
      (rss_cons (rs_if (O' := []) (rt_w (rw_or (rt_is (r_v 1) r_non) (rw_or1 (rt_val (r_isi T.z_isinstance T.z_str (r_v 1)))))) (rss_one (rs_ret (r_and (r_eq hr (r_v 0) (r_v 1)) (r_one (r_eq hr (r_isi T.z_isinstance T.z_str (r_v 0)) (r_isi T.z_isinstance T.z_str (r_v 1))))))) rss_nil)
      (rss_one (rs_ret (r_and (r_isi T.z_isinstance T.z_int (r_v 0)) (r_and (r_eq hr (r_isi T.z_isinstance T.z_bool (r_v 0)) (r_isi T.z_isinstance T.z_bool (r_v 1))) (r_one (r_eq hr (r_v 0) (r_v 1)))))))))
theorem ok__law_alike (T : Tx K mg) : Cal P w K mg base 7 "_law_alike" ["_law_found", "_law_due"] (spP K 2 (e__law_alike 6)) := okr__law_alike T 6
def t_law_128 : SS := (kIf (tor (tru (bin neS (callD strD (sCons (sV 2) sNil)) (sV 3))) (tru (bin neD (callD lenD (sCons (callD e_corners_of (sCons (sV 2) sNil)) sNil)) (callD lenD (sCons (callD e_walls_of (sCons (sV 2) sNil)) sNil))))) (kRet (sC (.bool false))) kNil)
def t_law_125 : SS := (kSeq (kFor (wR1 (sCons (sC (.int 2)) sNil)) (gN 7) (kIf (peekT (tor (tnot (tru (callD (e__law_alike 6) (sCons (callD e_corners_of (sCons (sV 2) sNil)) (sCons (callD tupleD (sCons (sV 4) sNil)) sNil))))) (tnot (tru (callD (e__law_alike 6) (sCons (callD e_walls_of (sCons (sV 2) sNil)) (sCons (callD tupleD (sCons (sV 5) sNil)) sNil))))))) (kRet (sC (.bool false))) kNil))
  t_law_128)
def t_law_118 : SS := (kSeq (kSet 3 (callD strD (sCons (sV 2) sNil)))
  (kSeq (kOwn 4 (sLst sNil))
  (kSeq (kOwn 5 (sLst sNil))
  (kSeq (kFor (wS (bin addD (sTup (sCons (bin ixD (sV 2) (sC (.int 0))) sNil)) (bin ixD (sV 2) (sC (.int 1))))) (gN 6) (kFor (wR1 (sCons (callD lenD (sCons (sV 6) sNil)) sNil)) (gN 8) (kSeq (kDrop (methO 4 appD (sCons (bin ixD (sV 6) (sV 8)) sNil)))
  (kDrop (methO 5 appD (sCons (sTup (sCons (bin ixD (sV 6) (sV 8)) (sCons (sIf (tru (bin ltD (bin addD (sV 8) (sC (.int 1))) (callD lenD (sCons (sV 6) sNil)))) (bin ixD (sV 6) (bin addD (sV 8) (sC (.int 1)))) (bin ixD (sV 6) (sC (.int 0)))) sNil))) sNil))))))
  t_law_125))))
def b_law : SS := (kSeq (kSet 2 (callI 1 e__law_room (sCons (sC (.int 20)) sNil)))
  t_law_118)
theorem okb_law (T : Tx K mg) {f : Addr} (cdv : Value) (A : Around) (outer : List Env) (s : Shared) (H : Hp) (E : XK) (hr : Room 7 (A.deeper (PyProof.Rows.envOfC "law" (defScope s_law) s.heap.objs.size f cdv))) (hgd : A.guards = some []) : RSs (cx0 P w K mg base N_law "law" s_law f cdv A outer s H E) [] false [1] [1] [5, 4, 1] (forBody s_law) b_law := by
  have c__law_room := ok__law_room (P := P) (w := w) (base := base) T
  have c__law_alike := ok__law_alike (P := P) (w := w) (base := base) T
  have c_corners_of := ok_corners_of (P := P) (w := w) (base := base) T
  have c_walls_of := ok_walls_of (P := P) (w := w) (base := base) T
  have nd := sc_law.nd
  exact (rss_cons (rs_set 2 nd (r_callI 1 c__law_room hr (by decide) (ra_cons r_int ra_nil) (sCons_len sNil_len)))
      (rss_cons (rs_set 3 nd (r_strD hgd hr.units T.z_str (ra_cons (r_v 2) ra_nil)))
      (rss_cons (rs_own 4 nd (r_lst ra_nil))
      (rss_cons (rs_own 5 nd (r_lst ra_nil))
      (rss_cons (rs_for rfl PassesOwn.never (ri_seq (r_add (r_tup (ra_cons (r_ix (r_v 2) r_int) ra_nil)) (r_ix (r_v 2) r_int))) (rg_name 6 nd) (rss_one (rs_for rfl PassesOwn.never (ri_range1 T.z_range (ra_cons (r_len T.z_len (ra_cons (r_v 6) ra_nil)) ra_nil)) (rg_name 8 nd) (rss_cons (rs_expr (r_methO 4 v_append (pe_bm PySem.F.plainAttrs_list PySem.F.slot_list_append PySem.F.type_list_append mt_append (pv 4) (ra_cons (r_ix (r_v 6) (r_v 8)) ra_nil))))
      (rss_one (rs_expr (r_methO 5 v_append (pe_bm PySem.F.plainAttrs_list PySem.F.slot_list_append PySem.F.type_list_append mt_append (pv 5) (ra_cons (r_tup (ra_cons (r_ix (r_v 6) (r_v 8)) (ra_cons (r_ifexp (rt_lt (r_add (r_v 8) r_int) (r_len T.z_len (ra_cons (r_v 6) ra_nil))) (r_ix (r_v 6) (r_add (r_v 8) r_int)) (r_ix (r_v 6) r_int)) ra_nil))) ra_nil)))))))))
      (rss_cons (rs_for rfl PassesOwn.never (ri_range1 T.z_range (ra_cons r_int ra_nil)) (rg_name 7 nd) (rss_one (rs_if (O' := [5, 4, 1]) (rt_peek (rt_w (rw_or (rt_not (rt_val (r_callP c__law_alike hr (by decide) (ra_cons (r_callP c_corners_of hr (by decide) (ra_cons (r_v 2) ra_nil) (sCons_len sNil_len)) (ra_cons (r_tuple T.z_tuple (ra_cons (r_v 4) ra_nil)) ra_nil)) (sCons_len (sCons_len sNil_len))))) (rw_or1 (rt_not (rt_val (r_callP c__law_alike hr (by decide) (ra_cons (r_callP c_walls_of hr (by decide) (ra_cons (r_v 2) ra_nil) (sCons_len sNil_len)) (ra_cons (r_tuple T.z_tuple (ra_cons (r_v 5) ra_nil)) ra_nil)) (sCons_len (sCons_len sNil_len))))))))) (rss_one (rs_ret r_bl)) rss_nil)))
      (rss_one (rs_if (O' := [5, 4, 1]) (rt_w (rw_or (rt_neS (r_strD hgd hr.units T.z_str (ra_cons (r_v 2) ra_nil)) (r_v 3)) (rw_or1 (rt_ne hr (r_len T.z_len (ra_cons (r_callP c_corners_of hr (by decide) (ra_cons (r_v 2) ra_nil) (sCons_len sNil_len)) ra_nil)) (r_len T.z_len (ra_cons (r_callP c_walls_of hr (by decide) (ra_cons (r_v 2) ra_nil) (sCons_len sNil_len)) ra_nil)))))) (rss_one (rs_ret r_bl)) rss_nil))))))))
end
theorem tx_mk {K : PySem.W.Frag} {h : Heap} {mg : Str → Option Value} (X : K.In h) (G : h.Ns mainGlobals mg)
    {f0 : Addr} {od0 an0 : Option Addr} {sl0 : Array (Option Value)} {oc0 kV0 dc0 pm0 cd0 ct0 : Value}
    {f1 : Addr} {od1 an1 : Option Addr} {sl1 : Array (Option Value)} {oc1 kV1 dc1 pm1 cd1 ct1 : Value}
    {f2 : Addr} {od2 an2 : Option Addr} {sl2 : Array (Option Value)} {oc2 kV2 dc2 pm2 cd2 ct2 : Value}
    {f3 : Addr} {od3 an3 : Option Addr} {sl3 : Array (Option Value)} {oc3 kV3 dc3 pm3 cd3 ct3 : Value}
    {f4 : Addr} {od4 an4 : Option Addr} {sl4 : Array (Option Value)} {oc4 kV4 dc4 pm4 cd4 ct4 : Value}
    {f5 : Addr} {od5 an5 : Option Addr} {sl5 : Array (Option Value)} {oc5 kV5 dc5 pm5 cd5 ct5 : Value}
    {f6 : Addr} {od6 an6 : Option Addr} {sl6 : Array (Option Value)} {oc6 kV6 dc6 pm6 cd6 ct6 : Value}
    {f7 : Addr} {od7 an7 : Option Addr} {sl7 : Array (Option Value)} {oc7 kV7 dc7 pm7 cd7 ct7 : Value}
    {f8 : Addr} {od8 an8 : Option Addr} {sl8 : Array (Option Value)} {oc8 kV8 dc8 pm8 cd8 ct8 : Value}
    {f9 : Addr} {od9 an9 : Option Addr} {sl9 : Array (Option Value)} {oc9 kV9 dc9 pm9 cd9 ct9 : Value}
    {f10 : Addr} {od10 an10 : Option Addr} {sl10 : Array (Option Value)} {oc10 kV10 dc10 pm10 cd10 ct10 : Value}
    {f11 : Addr} {od11 an11 : Option Addr} {sl11 : Array (Option Value)} {oc11 kV11 dc11 pm11 cd11 ct11 : Value}
    {f12 : Addr} {od12 an12 : Option Addr} {sl12 : Array (Option Value)} {oc12 kV12 dc12 pm12 cd12 ct12 : Value}
    {f13 : Addr} {od13 an13 : Option Addr} {sl13 : Array (Option Value)} {oc13 kV13 dc13 pm13 cd13 ct13 : Value}
    {f14 : Addr} {od14 an14 : Option Addr} {sl14 : Array (Option Value)} {oc14 kV14 dc14 pm14 cd14 ct14 : Value}
    {f15 : Addr} {od15 an15 : Option Addr} {sl15 : Array (Option Value)} {oc15 kV15 dc15 pm15 cd15 ct15 : Value}
    {f16 : Addr} {od16 an16 : Option Addr} {sl16 : Array (Option Value)} {oc16 kV16 dc16 pm16 cd16 ct16 : Value}
    (a0 : PySem.W.nsIn K mainGlobals "sides_of" = some (some (.ref f0))) (l0 : K.lookup f0 = some ⟨oc0, od0, .func (PySem.W.fnOf "sides_of" "sides_of" (defArgs s_sides_of) (defBody s_sides_of) (defScope s_sides_of) .none kV0 dc0 pm0 an0 cd0 ct0), sl0⟩) (c0 : PySem.W.codeIn K cd0 "sides_of" = true) (k0 : PySem.W.keepIn K (.ref f0) = true)
    (a1 : PySem.W.nsIn K mainGlobals "rings_of" = some (some (.ref f1))) (l1 : K.lookup f1 = some ⟨oc1, od1, .func (PySem.W.fnOf "rings_of" "rings_of" (defArgs s_rings_of) (defBody s_rings_of) (defScope s_rings_of) .none kV1 dc1 pm1 an1 cd1 ct1), sl1⟩) (c1 : PySem.W.codeIn K cd1 "rings_of" = true) (k1 : PySem.W.keepIn K (.ref f1) = true)
    (a2 : PySem.W.nsIn K mainGlobals "walls_of" = some (some (.ref f2))) (l2 : K.lookup f2 = some ⟨oc2, od2, .func (PySem.W.fnOf "walls_of" "walls_of" (defArgs s_walls_of) (defBody s_walls_of) (defScope s_walls_of) .none kV2 dc2 pm2 an2 cd2 ct2), sl2⟩) (c2 : PySem.W.codeIn K cd2 "walls_of" = true) (k2 : PySem.W.keepIn K (.ref f2) = true)
    (a3 : PySem.W.nsIn K mainGlobals "corners_of" = some (some (.ref f3))) (l3 : K.lookup f3 = some ⟨oc3, od3, .func (PySem.W.fnOf "corners_of" "corners_of" (defArgs s_corners_of) (defBody s_corners_of) (defScope s_corners_of) .none kV3 dc3 pm3 an3 cd3 ct3), sl3⟩) (c3 : PySem.W.codeIn K cd3 "corners_of" = true) (k3 : PySem.W.keepIn K (.ref f3) = true)
    (a4 : PySem.W.nsIn K mainGlobals "_law_box" = some (some (.ref f4))) (l4 : K.lookup f4 = some ⟨oc4, od4, .func (PySem.W.fnOf "_law_box" "_law_box" (defArgs s__law_box) (defBody s__law_box) (defScope s__law_box) .none kV4 dc4 pm4 an4 cd4 ct4), sl4⟩) (c4 : PySem.W.codeIn K cd4 "_law_box" = true) (k4 : PySem.W.keepIn K (.ref f4) = true)
    (a5 : PySem.W.nsIn K mainGlobals "_law_take" = some (some (.ref f5))) (l5 : K.lookup f5 = some ⟨oc5, od5, .func (PySem.W.fnOf "_law_take" "_law_take" (defArgs s__law_take) (defBody s__law_take) (defScope s__law_take) .none kV5 dc5 pm5 an5 cd5 ct5), sl5⟩) (c5 : PySem.W.codeIn K cd5 "_law_take" = true) (k5 : PySem.W.keepIn K (.ref f5) = true)
    (a6 : PySem.W.nsIn K mainGlobals "_law_folded" = some (some (.ref f6))) (l6 : K.lookup f6 = some ⟨oc6, od6, .func (PySem.W.fnOf "_law_folded" "_law_folded" (defArgs s__law_folded) (defBody s__law_folded) (defScope s__law_folded) .none kV6 dc6 pm6 an6 cd6 ct6), sl6⟩) (c6 : PySem.W.codeIn K cd6 "_law_folded" = true) (k6 : PySem.W.keepIn K (.ref f6) = true)
    (a7 : PySem.W.nsIn K mainGlobals "_law_trimmed" = some (some (.ref f7))) (l7 : K.lookup f7 = some ⟨oc7, od7, .func (PySem.W.fnOf "_law_trimmed" "_law_trimmed" (defArgs s__law_trimmed) (defBody s__law_trimmed) (defScope s__law_trimmed) .none kV7 dc7 pm7 an7 cd7 ct7), sl7⟩) (c7 : PySem.W.codeIn K cd7 "_law_trimmed" = true) (k7 : PySem.W.keepIn K (.ref f7) = true)
    (a8 : PySem.W.nsIn K mainGlobals "_law_columns" = some (some (.ref f8))) (l8 : K.lookup f8 = some ⟨oc8, od8, .func (PySem.W.fnOf "_law_columns" "_law_columns" (defArgs s__law_columns) (defBody s__law_columns) (defScope s__law_columns) .none kV8 dc8 pm8 an8 cd8 ct8), sl8⟩) (c8 : PySem.W.codeIn K cd8 "_law_columns" = true) (k8 : PySem.W.keepIn K (.ref f8) = true)
    (a9 : PySem.W.nsIn K mainGlobals "_law_shape" = some (some (.ref f9))) (l9 : K.lookup f9 = some ⟨oc9, od9, .func (PySem.W.fnOf "_law_shape" "_law_shape" (defArgs s__law_shape) (defBody s__law_shape) (defScope s__law_shape) .none kV9 dc9 pm9 an9 cd9 ct9), sl9⟩) (c9 : PySem.W.codeIn K cd9 "_law_shape" = true) (k9 : PySem.W.keepIn K (.ref f9) = true)
    (a10 : PySem.W.nsIn K mainGlobals "_law_pillar" = some (some (.ref f10))) (l10 : K.lookup f10 = some ⟨oc10, od10, .func (PySem.W.fnOf "_law_pillar" "_law_pillar" (defArgs s__law_pillar) (defBody s__law_pillar) (defScope s__law_pillar) .none kV10 dc10 pm10 an10 cd10 ct10), sl10⟩) (c10 : PySem.W.codeIn K cd10 "_law_pillar" = true) (k10 : PySem.W.keepIn K (.ref f10) = true)
    (a11 : PySem.W.nsIn K mainGlobals "_law_pillars" = some (some (.ref f11))) (l11 : K.lookup f11 = some ⟨oc11, od11, .func (PySem.W.fnOf "_law_pillars" "_law_pillars" (defArgs s__law_pillars) (defBody s__law_pillars) (defScope s__law_pillars) .none kV11 dc11 pm11 an11 cd11 ct11), sl11⟩) (c11 : PySem.W.codeIn K cd11 "_law_pillars" = true) (k11 : PySem.W.keepIn K (.ref f11) = true)
    (a12 : PySem.W.nsIn K mainGlobals "_law_moved" = some (some (.ref f12))) (l12 : K.lookup f12 = some ⟨oc12, od12, .func (PySem.W.fnOf "_law_moved" "_law_moved" (defArgs s__law_moved) (defBody s__law_moved) (defScope s__law_moved) .none kV12 dc12 pm12 an12 cd12 ct12), sl12⟩) (c12 : PySem.W.codeIn K cd12 "_law_moved" = true) (k12 : PySem.W.keepIn K (.ref f12) = true)
    (a13 : PySem.W.nsIn K mainGlobals "_law_room" = some (some (.ref f13))) (l13 : K.lookup f13 = some ⟨oc13, od13, .func (PySem.W.fnOf "_law_room" "_law_room" (defArgs s__law_room) (defBody s__law_room) (defScope s__law_room) .none kV13 dc13 pm13 an13 cd13 ct13), sl13⟩) (c13 : PySem.W.codeIn K cd13 "_law_room" = true) (k13 : PySem.W.keepIn K (.ref f13) = true)
    (a14 : PySem.W.nsIn K mainGlobals "_law_alike" = some (some (.ref f14))) (l14 : K.lookup f14 = some ⟨oc14, od14, .func (PySem.W.fnOf "_law_alike" "_law_alike" (defArgs s__law_alike) (defBody s__law_alike) (defScope s__law_alike) .none kV14 dc14 pm14 an14 cd14 ct14), sl14⟩) (c14 : PySem.W.codeIn K cd14 "_law_alike" = true) (k14 : PySem.W.keepIn K (.ref f14) = true)
    (a15 : PySem.W.nsIn K mainGlobals "_law_boxes" = some (some (.ref f15))) (l15 : K.lookup f15 = some ⟨oc15, od15, .func (PySem.W.fnOf "_law_boxes" "_law_boxes" (defArgs s__law_boxes) (defBody s__law_boxes) (defScope s__law_boxes) .none kV15 dc15 pm15 an15 cd15 ct15), sl15⟩) (c15 : PySem.W.codeIn K cd15 "_law_boxes" = true) (k15 : PySem.W.keepIn K (.ref f15) = true)
    (a16 : PySem.W.nsIn K mainGlobals "law" = some (some (.ref f16))) (l16 : K.lookup f16 = some ⟨oc16, od16, .func (PySem.W.fnOf "law" "law" (defArgs s_law) (defBody s_law) (defScope s_law) .none kV16 dc16 pm16 an16 cd16 ct16), sl16⟩) (c16 : PySem.W.codeIn K cd16 "law" = true) (k16 : PySem.W.keepIn K (.ref f16) = true)
    (z_abs : PySem.W.nsIn K mainGlobals "abs" = some none)
    (z_all : PySem.W.nsIn K mainGlobals "all" = some none)
    (z_bool : PySem.W.nsIn K mainGlobals "bool" = some none)
    (z_divmod : PySem.W.nsIn K mainGlobals "divmod" = some none)
    (z_enumerate : PySem.W.nsIn K mainGlobals "enumerate" = some none)
    (z_int : PySem.W.nsIn K mainGlobals "int" = some none)
    (z_isinstance : PySem.W.nsIn K mainGlobals "isinstance" = some none)
    (z_len : PySem.W.nsIn K mainGlobals "len" = some none)
    (z_list : PySem.W.nsIn K mainGlobals "list" = some none)
    (z_max : PySem.W.nsIn K mainGlobals "max" = some none)
    (z_min : PySem.W.nsIn K mainGlobals "min" = some none)
    (z_range : PySem.W.nsIn K mainGlobals "range" = some none)
    (z_str : PySem.W.nsIn K mainGlobals "str" = some none)
    (z_sum : PySem.W.nsIn K mainGlobals "sum" = some none)
    (z_tuple : PySem.W.nsIn K mainGlobals "tuple" = some none)
    (z_zip : PySem.W.nsIn K mainGlobals "zip" = some none)
    : Tx K mg := ⟨PySem.W.mg_none_of X G z_abs, PySem.W.mg_none_of X G z_all, PySem.W.mg_none_of X G z_bool, PySem.W.mg_none_of X G z_divmod, PySem.W.mg_none_of X G z_enumerate, PySem.W.mg_none_of X G z_int, PySem.W.mg_none_of X G z_isinstance, PySem.W.mg_none_of X G z_len, PySem.W.mg_none_of X G z_list, PySem.W.mg_none_of X G z_max, PySem.W.mg_none_of X G z_min, PySem.W.mg_none_of X G z_range, PySem.W.mg_none_of X G z_str, PySem.W.mg_none_of X G z_sum, PySem.W.mg_none_of X G z_tuple, PySem.W.mg_none_of X G z_zip, at_mk X G (fun _ _ _ _ _ _ us hl => match us, hl with | [_], _ => rfl) a0 l0 c0 k0, at_mk X G (fun _ _ _ _ _ _ us hl => match us, hl with | [_], _ => rfl) a1 l1 c1 k1, at_mk X G (fun _ _ _ _ _ _ us hl => match us, hl with | [_], _ => rfl) a2 l2 c2 k2, at_mk X G (fun _ _ _ _ _ _ us hl => match us, hl with | [_], _ => rfl) a3 l3 c3 k3, at_mk X G (fun _ _ _ _ _ _ us hl => match us, hl with | [_, _], _ => rfl) a4 l4 c4 k4, at_mk X G (fun _ _ _ _ _ _ us hl => match us, hl with | [_, _], _ => rfl) a5 l5 c5 k5, at_mk X G (fun _ _ _ _ _ _ us hl => match us, hl with | [_, _], _ => rfl) a6 l6 c6 k6, at_mk X G (fun _ _ _ _ _ _ us hl => match us, hl with | [_], _ => rfl) a7 l7 c7 k7, at_mk X G (fun _ _ _ _ _ _ us hl => match us, hl with | [_, _, _], _ => rfl) a8 l8 c8 k8, at_mk X G (fun _ _ _ _ _ _ us hl => match us, hl with | [_], _ => rfl) a9 l9 c9 k9, at_mk X G (fun _ _ _ _ _ _ us hl => match us, hl with | [_, _], _ => rfl) a10 l10 c10 k10, at_mk X G (fun _ _ _ _ _ _ us hl => match us, hl with | [_, _, _], _ => rfl) a11 l11 c11 k11, at_mk X G (fun _ _ _ _ _ _ us hl => match us, hl with | [_, _, _], _ => rfl) a12 l12 c12 k12, at_mk X G (fun _ _ _ _ _ _ us hl => match us, hl with | [_, _], _ => rfl) a13 l13 c13 k13, at_mk X G (fun _ _ _ _ _ _ us hl => match us, hl with | [_, _], _ => rfl) a14 l14 c14 k14, at_mk X G (fun _ _ _ _ _ _ us hl => match us, hl with | [_, _], _ => rfl) a15 l15 c15 k15, at_mk X G (fun _ _ _ _ _ _ us hl => match us, hl with | [_], _ => rfl) a16 l16 c16 k16⟩
end W

set_option maxHeartbeats 2000000

namespace W
open PySem L2 PD
def BIG : Nat := 2000000
theorem flat_one {α : Type} (x : α) : ∀ n : Nat, (List.replicate n [x]).flatten = List.replicate n x
  | 0 => rfl
  | n + 1 => by rw [List.replicate_succ, List.flatten_cons, flat_one x n, List.replicate_succ]; rfl
def BoxOk (n : Nat) (c : List D) : Prop := ∃ a b k : Int, c = [.int a, .int b, .int k] ∧ 0 ≤ a ∧ 0 ≤ b ∧ b < 2147483648 ∧ 0 ≤ k ∧ k ≤ n
theorem take_sp {n : Nat} {c : List D} {m : Int} (h : BoxOk n c) (hn : n ≤ 1000000) (h0 : 0 < m) (h1 : m < 1073741824) : Wp (e__law_take c [.int m]) fun r => ∃ x, r.1 = .int x ∧ 0 ≤ x ∧ x < m ∧ BoxOk (n + 1) r.2 := by
  obtain ⟨a, b, k, rfl, ha, hb, hb2, hk, hk2⟩ := h
  by_cases hp : 0 < a
  · have hd : decide (0 < a) = true := decide_eq_true hp
    simp -implicitDefEqProofs (disch := (first | assumption | (refine' PD.mulOk_sz ?a ?b ?c; (case a => (repeat' (first | assumption | exact PD.Sz.fmod (PD.Sz.lit (n := 64) (by decide)) (by decide) | exact PD.Sz.lit (n := 64) (by decide) | apply PD.Sz.mul | apply PD.Sz.add | apply PD.Sz.sub | apply PD.Sz.neg))); (case b => (repeat' (first | assumption | exact PD.Sz.fmod (PD.Sz.lit (n := 64) (by decide)) (by decide) | exact PD.Sz.lit (n := 64) (by decide) | apply PD.Sz.mul | apply PD.Sz.add | apply PD.Sz.sub | apply PD.Sz.neg))); (case c => decide)) | (exact PD.divOk_sz (PD.Sz.lit (n := 64) (by decide)) (by decide) (by decide)) | omega | (apply PD.lt_size; (first | decide | omega)))) only [PD.compD_nil, PD.compD_cons, PD.c_cp0_e, PD.c_cp1_t, PD.c_cp1_f, PD.c_cp2_e, PD.c_k0_e, PD.c_k1_t, PD.c_k1_f, PD.c_k2_e, PD.forD_nil, PD.forD_cons, PD.c_f1_e, PD.c_f2_nx, PD.c_f2_ct, PD.c_f2_bk, PD.c_f2_rt, ↓Option.bind_some, ↓reduceIte, PD.sCons_e, PD.sTup_e, PD.sLst_e, PD.bin_e, PD.un_e, PD.callD_e, PD.callI_e, PD.tru_e, PD.tand_e, PD.tor_e, PD.tnot_e, PD.vand_e, PD.vor_e, PD.sIf_e, PD.nl_e, PD.lenO_e, PD.truO_e, PD.ixO_e, PD.methO_e, PD.sSl_e, PD.oSome_e, PD.wS_e, PD.wR1_e, PD.wR2_e, PD.wE_e, PD.wZ_e, PD.sLc_e, PD.kSeq_e, PD.kDrop_e, PD.kSet_e, PD.kOwn_e, PD.kAsg_e, PD.kPar_e, PD.kPar3_e, PD.kIf_e, PD.kRet_e, PD.kRetO_e, PD.kFor_e, PD.kWhile_e, PD.c_ret_e, PD.c_retL_e, PD.c_retB_e, PD.c_sCons2_e, PD.c_sCons1_e, PD.c_tup_e, PD.c_lst_e, PD.c_bin2_e, PD.c_bin1_e, PD.c_un_e, PD.c_call_e, PD.c_callI3_e, PD.c_callI2_e, PD.c_callI_e, PD.c_tru_e, PD.c_and_t, PD.c_and_f, PD.c_or_t, PD.c_or_f, PD.c_not_e, PD.c_vand_t, PD.c_vand_f, PD.c_vor_t, PD.c_vor_f, PD.c_sif_t, PD.c_sif_f, PD.c_nl_e, PD.c_lenO_e, PD.c_truO_e, PD.c_ixO2_e, PD.c_ixO_e, PD.c_meth3_e, PD.c_meth2_e, PD.c_meth_e, PD.c_sl3_e, PD.c_sl2_e, PD.c_sl_e, PD.c_os_e, PD.c_wS_e, PD.c_wR1_e, PD.c_wR2_e, PD.c_wE_e, PD.c_wZ_l, PD.c_wZ_t, PD.c_lc2_e, PD.c_lc_e, PD.c_seq_nx, PD.c_seq_bk, PD.c_seq_ct, PD.c_seq_rt, PD.c_drop_e, PD.c_set_e, PD.c_own_e, PD.c_nx_e, PD.c_asg_e, PD.c_par_e, PD.c_par3_e, PD.c_if_t, PD.c_if_f, PD.c_rt_e, PD.c_rto_e, PD.c_for_e, PD.c_gO3_e, PD.c_gO2_e, PD.c_gO_e, PD.gO_e, PD.gN_e, PD.gsNil_e, PD.gsCons_e, PD.gT_e, PD.sNil_e, PD.sC_e, PD.oNone_e, PD.tYesD_e, PD.kNil_e, PD.kRetN_e, PD.kBk_e, PD.kCt_e, PD.kNever_e, PD.runP_e, PD.runI_e, PD.outP_nx, PD.outP_rt, PD.outI_nx, PD.outI_rt, PD.sV, PD.ownL, PD.ini, List.map_cons, List.map_nil, List.length_cons, List.length_nil, Nat.reduceSub, Nat.reduceAdd, Nat.sub_self, Nat.zero_add, List.replicate_succ, List.replicate_zero, List.append_nil, List.cons_append, List.nil_append, List.getElem?_cons_zero, List.getElem?_cons_succ, List.getElem?_nil, List.set_cons_zero, List.set_cons_succ, Option.bind_none, Option.bind_assoc, Option.map_some, PD.seqD_list, PD.seqD_tuple, PD.wipeD, PD.unwipe, PD.rng1_i, PD.appD_l, PD.ixD_l, PD.ixD_t, PD.truD_n, PD.truD_b, PD.truD_i, PD.truD_l, PD.truD_t, PD.sliceD_l, PD.sliceD_t, PD.subD_i, PD.negD_i, PD.notD_b, PD.ltD_i, PD.leD_i, PD.gtD_i, PD.geD_i, PD.absD_i, PD.intD_i, PD.intD_b, PD.max2_i, PD.min2_i, PD.max3_i, PD.min3_i, PD.chn_e, PD.c_ch0_e, PD.c_ch1_e, PD.c_ch2_t, PD.c_ch2_f, PD.c_ch3_e, PD.lenD_l, PD.lenD_t, PD.listD_l, PD.listD_t, PD.tupleD_l, PD.tupleD_t, PD.listrevD_l, PD.iaddD_i, PD.addD_i, PD.mulD_i, PD.fdivD_i, PD.modD_i, PD.divmodD_i, PD.eqD_i, PD.neD_i, PD.isN_none, PD.isN_bool, PD.isN_int, PD.isN_str, PD.isN_list, PD.isN_tuple, PD.notN_none, PD.notN_bool, PD.notN_int, PD.notN_str, PD.notN_list, PD.notN_tuple, PD.eqD_b2, PD.neD_b2, PD.ix0, PD.ix1, PD.ix2, PD.ix3, PD.ix4, PD.ix5, PD.ixm1, PD.ixN30, PD.ixN31, PD.ixN32, Bool.false_eq_true, Bool.not_true, Bool.not_false, reduceCtorEq, decide_true, decide_false, Nat.reduceLT, Nat.reduceLeDiff, Nat.reduceEqDiff, Int.reduceLT, Int.reduceLE, Int.reduceToNat, Int.reduceNeg, Option.getD_some, Option.getD_none, and_self, and_true, true_and, PD.le_size, beq_self_eq_true, Bool.true_beq, Bool.false_beq, e__law_take, m__law_take, hd]
    exact wp_some ⟨_, rfl, Int.emod_nonneg a (by omega), Int.emod_lt_of_pos a h0, _, _, _, rfl, Int.ediv_nonneg ha (by omega), hb, hb2, hk, by omega⟩
  · have hd : decide (0 < a) = false := decide_eq_false hp
    have sb : Sz 64 b := Sz.lit (by omega)
    have sk : Sz 64 k := Sz.lit (by omega)
    simp -implicitDefEqProofs (disch := (first | assumption | (refine' PD.mulOk_sz ?a ?b ?c; (case a => (repeat' (first | assumption | exact PD.Sz.fmod (PD.Sz.lit (n := 64) (by decide)) (by decide) | exact PD.Sz.lit (n := 64) (by decide) | apply PD.Sz.mul | apply PD.Sz.add | apply PD.Sz.sub | apply PD.Sz.neg))); (case b => (repeat' (first | assumption | exact PD.Sz.fmod (PD.Sz.lit (n := 64) (by decide)) (by decide) | exact PD.Sz.lit (n := 64) (by decide) | apply PD.Sz.mul | apply PD.Sz.add | apply PD.Sz.sub | apply PD.Sz.neg))); (case c => decide)) | (exact PD.divOk_sz (PD.Sz.lit (n := 64) (by decide)) (by decide) (by decide)) | omega | (apply PD.lt_size; (first | decide | omega)))) only [PD.compD_nil, PD.compD_cons, PD.c_cp0_e, PD.c_cp1_t, PD.c_cp1_f, PD.c_cp2_e, PD.c_k0_e, PD.c_k1_t, PD.c_k1_f, PD.c_k2_e, PD.forD_nil, PD.forD_cons, PD.c_f1_e, PD.c_f2_nx, PD.c_f2_ct, PD.c_f2_bk, PD.c_f2_rt, ↓Option.bind_some, ↓reduceIte, PD.sCons_e, PD.sTup_e, PD.sLst_e, PD.bin_e, PD.un_e, PD.callD_e, PD.callI_e, PD.tru_e, PD.tand_e, PD.tor_e, PD.tnot_e, PD.vand_e, PD.vor_e, PD.sIf_e, PD.nl_e, PD.lenO_e, PD.truO_e, PD.ixO_e, PD.methO_e, PD.sSl_e, PD.oSome_e, PD.wS_e, PD.wR1_e, PD.wR2_e, PD.wE_e, PD.wZ_e, PD.sLc_e, PD.kSeq_e, PD.kDrop_e, PD.kSet_e, PD.kOwn_e, PD.kAsg_e, PD.kPar_e, PD.kPar3_e, PD.kIf_e, PD.kRet_e, PD.kRetO_e, PD.kFor_e, PD.kWhile_e, PD.c_ret_e, PD.c_retL_e, PD.c_retB_e, PD.c_sCons2_e, PD.c_sCons1_e, PD.c_tup_e, PD.c_lst_e, PD.c_bin2_e, PD.c_bin1_e, PD.c_un_e, PD.c_call_e, PD.c_callI3_e, PD.c_callI2_e, PD.c_callI_e, PD.c_tru_e, PD.c_and_t, PD.c_and_f, PD.c_or_t, PD.c_or_f, PD.c_not_e, PD.c_vand_t, PD.c_vand_f, PD.c_vor_t, PD.c_vor_f, PD.c_sif_t, PD.c_sif_f, PD.c_nl_e, PD.c_lenO_e, PD.c_truO_e, PD.c_ixO2_e, PD.c_ixO_e, PD.c_meth3_e, PD.c_meth2_e, PD.c_meth_e, PD.c_sl3_e, PD.c_sl2_e, PD.c_sl_e, PD.c_os_e, PD.c_wS_e, PD.c_wR1_e, PD.c_wR2_e, PD.c_wE_e, PD.c_wZ_l, PD.c_wZ_t, PD.c_lc2_e, PD.c_lc_e, PD.c_seq_nx, PD.c_seq_bk, PD.c_seq_ct, PD.c_seq_rt, PD.c_drop_e, PD.c_set_e, PD.c_own_e, PD.c_nx_e, PD.c_asg_e, PD.c_par_e, PD.c_par3_e, PD.c_if_t, PD.c_if_f, PD.c_rt_e, PD.c_rto_e, PD.c_for_e, PD.c_gO3_e, PD.c_gO2_e, PD.c_gO_e, PD.gO_e, PD.gN_e, PD.gsNil_e, PD.gsCons_e, PD.gT_e, PD.sNil_e, PD.sC_e, PD.oNone_e, PD.tYesD_e, PD.kNil_e, PD.kRetN_e, PD.kBk_e, PD.kCt_e, PD.kNever_e, PD.runP_e, PD.runI_e, PD.outP_nx, PD.outP_rt, PD.outI_nx, PD.outI_rt, PD.sV, PD.ownL, PD.ini, List.map_cons, List.map_nil, List.length_cons, List.length_nil, Nat.reduceSub, Nat.reduceAdd, Nat.sub_self, Nat.zero_add, List.replicate_succ, List.replicate_zero, List.append_nil, List.cons_append, List.nil_append, List.getElem?_cons_zero, List.getElem?_cons_succ, List.getElem?_nil, List.set_cons_zero, List.set_cons_succ, Option.bind_none, Option.bind_assoc, Option.map_some, PD.seqD_list, PD.seqD_tuple, PD.wipeD, PD.unwipe, PD.rng1_i, PD.appD_l, PD.ixD_l, PD.ixD_t, PD.truD_n, PD.truD_b, PD.truD_i, PD.truD_l, PD.truD_t, PD.sliceD_l, PD.sliceD_t, PD.subD_i, PD.negD_i, PD.notD_b, PD.ltD_i, PD.leD_i, PD.gtD_i, PD.geD_i, PD.absD_i, PD.intD_i, PD.intD_b, PD.max2_i, PD.min2_i, PD.max3_i, PD.min3_i, PD.chn_e, PD.c_ch0_e, PD.c_ch1_e, PD.c_ch2_t, PD.c_ch2_f, PD.c_ch3_e, PD.lenD_l, PD.lenD_t, PD.listD_l, PD.listD_t, PD.tupleD_l, PD.tupleD_t, PD.listrevD_l, PD.iaddD_i, PD.addD_i, PD.mulD_i, PD.fdivD_i, PD.modD_i, PD.divmodD_i, PD.eqD_i, PD.neD_i, PD.isN_none, PD.isN_bool, PD.isN_int, PD.isN_str, PD.isN_list, PD.isN_tuple, PD.notN_none, PD.notN_bool, PD.notN_int, PD.notN_str, PD.notN_list, PD.notN_tuple, PD.eqD_b2, PD.neD_b2, PD.ix0, PD.ix1, PD.ix2, PD.ix3, PD.ix4, PD.ix5, PD.ixm1, PD.ixN30, PD.ixN31, PD.ixN32, Bool.false_eq_true, Bool.not_true, Bool.not_false, reduceCtorEq, decide_true, decide_false, Nat.reduceLT, Nat.reduceLeDiff, Nat.reduceEqDiff, Int.reduceLT, Int.reduceLE, Int.reduceToNat, Int.reduceNeg, Option.getD_some, Option.getD_none, and_self, and_true, true_and, PD.le_size, beq_self_eq_true, Bool.true_beq, Bool.false_beq, e__law_take, m__law_take, hd]
    refine wp_some ⟨_, rfl, ?_, ?_, _, _, _, rfl, ha, ?_, ?_, by omega, by omega⟩
    · rw [Int.fmod_eq_emod_of_nonneg _ (by omega)]; exact Int.emod_nonneg _ (by omega)
    · rw [Int.fmod_eq_emod_of_nonneg _ (by omega)]; exact Int.emod_lt_of_pos _ h0
    · rw [Int.fmod_eq_emod_of_nonneg _ (by omega)]; exact Int.emod_nonneg _ (by omega)
    · rw [Int.fmod_eq_emod_of_nonneg _ (by omega)]
      have := Int.emod_lt_of_pos ((((b + 39373 * (k + 1)) * (48271 + (k + 1))).fmod 2147483647 * ((((b + 39373 * (k + 1)) * (48271 + (k + 1))).fmod 2147483647).fmod 40009 + 7) + (k + 1))) (show (0 : Int) < 2147483629 by decide)
      omega
end W

set_option maxHeartbeats 2000000

namespace W
open PySem L2 PD
/-! ### the box -/
theorem box_cell {cs : List Int} {j : Nat} (hs : ∀ c, c ∈ cs → Sz BIG c) : ∃ c : Int, atI (cs.map PyData.int ++ (List.replicate ((j : Int) + 1).toNat [PyData.int 0]).flatten) (j : Int) = some (.int c) ∧ Sz BIG c := by
  by_cases h : j < cs.length
  · refine ⟨cs[j], atI_nat ?_, hs _ (List.getElem_mem h)⟩
    rw [List.getElem?_append_left (by rw [List.length_map]; exact h), List.getElem?_map, List.getElem?_eq_getElem h]; rfl
  · refine ⟨0, atI_nat ?_, Sz.zero⟩
    rw [List.getElem?_append_right (by rw [List.length_map]; omega), List.length_map, flat_one, List.getElem?_replicate]
    rw [if_pos (by omega)]
theorem box_rep {j : Nat} (hk2 : (j : Int) ≤ 1000) : repD (.list [.int 0]) (.int ((j : Int) + 1)) = some (.list (List.replicate ((j : Int) + 1).toNat [PyData.int 0]).flatten) := repD_l (by omega) (by omega) (by rw [sizeLine_eq, List.length_singleton]; omega)
theorem box_cat {cs : List Int} {j : Nat} (hl : cs.length ≤ 1000) (hk2 : (j : Int) ≤ 1000) : addD (.list (cs.map PyData.int)) (.list (List.replicate ((j : Int) + 1).toNat [PyData.int 0]).flatten) = some (.list (cs.map PyData.int ++ (List.replicate ((j : Int) + 1).toNat [PyData.int 0]).flatten)) := addD_l (by rw [List.length_map, flat_one, List.length_replicate, sizeLine_eq]; omega)
theorem box_mul {c : Int} (hcs : Sz BIG c) (b : Bool) : mulD (.int (if c < 0 then -c else c)) (.int (if b then 1 else 0)) = some (.int ((if c < 0 then -c else c) * (if b then 1 else 0))) := by
  have sa : Sz BIG (if c < 0 then -c else c) := by
    split
    · exact hcs.neg
    · exact hcs
  exact mulD_i (mulOk_sz sa (m := 64) (Sz.lit (by cases b <;> decide)) (by unfold BIG; decide))
theorem pow1018 : powOk 10 18 = true := by decide
theorem box_sp {cs : List Int} {k : Int} (hk : 0 ≤ k) (hk2 : k ≤ 1000) (hl : cs.length ≤ 1000) (hs : ∀ c, c ∈ cs → Sz BIG c) : Wp (e__law_box [.list (cs.map .int), .int k]) fun r => ∃ c, r = .list c ∧ BoxOk 0 c := by
  obtain ⟨j, rfl⟩ : ∃ j : Nat, k = (j : Int) := ⟨k.toNat, by omega⟩
  obtain ⟨c, hc, hcs⟩ := box_cell (j := j) hs
  have hrep := box_rep hk2
  have hcat := box_cat hl hk2
  have hmul := box_mul hcs
  have sj : Sz 64 (j : Int) := Sz.lit (by omega)
  simp -implicitDefEqProofs (disch := (first | assumption | (refine' PD.mulOk_sz ?a ?b ?c; (case a => (repeat' (first | assumption | exact PD.Sz.fmod (PD.Sz.lit (n := 64) (by decide)) (by decide) | exact PD.Sz.lit (n := 64) (by decide) | apply PD.Sz.mul | apply PD.Sz.add | apply PD.Sz.sub | apply PD.Sz.neg))); (case b => (repeat' (first | assumption | exact PD.Sz.fmod (PD.Sz.lit (n := 64) (by decide)) (by decide) | exact PD.Sz.lit (n := 64) (by decide) | apply PD.Sz.mul | apply PD.Sz.add | apply PD.Sz.sub | apply PD.Sz.neg))); (case c => decide)) | (exact PD.divOk_sz (PD.Sz.lit (n := 64) (by decide)) (by decide) (by decide)) | omega | (apply PD.lt_size; (first | decide | omega)))) only [PD.compD_nil, PD.compD_cons, PD.c_cp0_e, PD.c_cp1_t, PD.c_cp1_f, PD.c_cp2_e, PD.c_k0_e, PD.c_k1_t, PD.c_k1_f, PD.c_k2_e, PD.forD_nil, PD.forD_cons, PD.c_f1_e, PD.c_f2_nx, PD.c_f2_ct, PD.c_f2_bk, PD.c_f2_rt, ↓Option.bind_some, ↓reduceIte, PD.sCons_e, PD.sTup_e, PD.sLst_e, PD.bin_e, PD.un_e, PD.callD_e, PD.callI_e, PD.tru_e, PD.tand_e, PD.tor_e, PD.tnot_e, PD.vand_e, PD.vor_e, PD.sIf_e, PD.nl_e, PD.lenO_e, PD.truO_e, PD.ixO_e, PD.methO_e, PD.sSl_e, PD.oSome_e, PD.wS_e, PD.wR1_e, PD.wR2_e, PD.wE_e, PD.wZ_e, PD.sLc_e, PD.kSeq_e, PD.kDrop_e, PD.kSet_e, PD.kOwn_e, PD.kAsg_e, PD.kPar_e, PD.kPar3_e, PD.kIf_e, PD.kRet_e, PD.kRetO_e, PD.kFor_e, PD.kWhile_e, PD.c_ret_e, PD.c_retL_e, PD.c_retB_e, PD.c_sCons2_e, PD.c_sCons1_e, PD.c_tup_e, PD.c_lst_e, PD.c_bin2_e, PD.c_bin1_e, PD.c_un_e, PD.c_call_e, PD.c_callI3_e, PD.c_callI2_e, PD.c_callI_e, PD.c_tru_e, PD.c_and_t, PD.c_and_f, PD.c_or_t, PD.c_or_f, PD.c_not_e, PD.c_vand_t, PD.c_vand_f, PD.c_vor_t, PD.c_vor_f, PD.c_sif_t, PD.c_sif_f, PD.c_nl_e, PD.c_lenO_e, PD.c_truO_e, PD.c_ixO2_e, PD.c_ixO_e, PD.c_meth3_e, PD.c_meth2_e, PD.c_meth_e, PD.c_sl3_e, PD.c_sl2_e, PD.c_sl_e, PD.c_os_e, PD.c_wS_e, PD.c_wR1_e, PD.c_wR2_e, PD.c_wE_e, PD.c_wZ_l, PD.c_wZ_t, PD.c_lc2_e, PD.c_lc_e, PD.c_seq_nx, PD.c_seq_bk, PD.c_seq_ct, PD.c_seq_rt, PD.c_drop_e, PD.c_set_e, PD.c_own_e, PD.c_nx_e, PD.c_asg_e, PD.c_par_e, PD.c_par3_e, PD.c_if_t, PD.c_if_f, PD.c_rt_e, PD.c_rto_e, PD.c_for_e, PD.c_gO3_e, PD.c_gO2_e, PD.c_gO_e, PD.gO_e, PD.gN_e, PD.gsNil_e, PD.gsCons_e, PD.gT_e, PD.sNil_e, PD.sC_e, PD.oNone_e, PD.tYesD_e, PD.kNil_e, PD.kRetN_e, PD.kBk_e, PD.kCt_e, PD.kNever_e, PD.runP_e, PD.runI_e, PD.outP_nx, PD.outP_rt, PD.outI_nx, PD.outI_rt, PD.sV, PD.ownL, PD.ini, List.map_cons, List.map_nil, List.length_cons, List.length_nil, Nat.reduceSub, Nat.reduceAdd, Nat.sub_self, Nat.zero_add, List.replicate_succ, List.replicate_zero, List.append_nil, List.cons_append, List.nil_append, List.getElem?_cons_zero, List.getElem?_cons_succ, List.getElem?_nil, List.set_cons_zero, List.set_cons_succ, Option.bind_none, Option.bind_assoc, Option.map_some, PD.seqD_list, PD.seqD_tuple, PD.wipeD, PD.unwipe, PD.rng1_i, PD.appD_l, PD.ixD_l, PD.ixD_t, PD.truD_n, PD.truD_b, PD.truD_i, PD.truD_l, PD.truD_t, PD.sliceD_l, PD.sliceD_t, PD.subD_i, PD.negD_i, PD.notD_b, PD.ltD_i, PD.leD_i, PD.gtD_i, PD.geD_i, PD.absD_i, PD.intD_i, PD.intD_b, PD.max2_i, PD.min2_i, PD.max3_i, PD.min3_i, PD.chn_e, PD.c_ch0_e, PD.c_ch1_e, PD.c_ch2_t, PD.c_ch2_f, PD.c_ch3_e, PD.lenD_l, PD.lenD_t, PD.listD_l, PD.listD_t, PD.tupleD_l, PD.tupleD_t, PD.listrevD_l, PD.iaddD_i, PD.addD_i, PD.mulD_i, PD.fdivD_i, PD.modD_i, PD.divmodD_i, PD.eqD_i, PD.neD_i, PD.isN_none, PD.isN_bool, PD.isN_int, PD.isN_str, PD.isN_list, PD.isN_tuple, PD.notN_none, PD.notN_bool, PD.notN_int, PD.notN_str, PD.notN_list, PD.notN_tuple, PD.eqD_b2, PD.neD_b2, PD.ix0, PD.ix1, PD.ix2, PD.ix3, PD.ix4, PD.ix5, PD.ixm1, PD.ixN30, PD.ixN31, PD.ixN32, Bool.false_eq_true, Bool.not_true, Bool.not_false, reduceCtorEq, decide_true, decide_false, Nat.reduceLT, Nat.reduceLeDiff, Nat.reduceEqDiff, Int.reduceLT, Int.reduceLE, Int.reduceToNat, Int.reduceNeg, Option.getD_some, Option.getD_none, and_self, and_true, true_and, PD.le_size, beq_self_eq_true, Bool.true_beq, Bool.false_beq, e__law_box, m__law_box, hrep, hcat, hc, powD_i pow1018, hmul]
  refine wp_some ⟨_, rfl, _, _, _, rfl, ?_, ?_, ?_, by omega, by omega⟩
  · refine Int.mul_nonneg (by split <;> omega) (by split <;> omega)
  · rw [Int.fmod_eq_emod_of_nonneg _ (by omega)]; exact Int.emod_nonneg _ (by omega)
  · rw [Int.fmod_eq_emod_of_nonneg _ (by omega)]
    have := Int.emod_lt_of_pos ((c.fmod 2147483647 + 7919 * (j : Int) + 11) * 48271) (show (0 : Int) < 2147483629 by decide)
    omega
end W

set_option maxHeartbeats 2000000
namespace W
open PySem L2 PD
/-! ### the script folded -/
def BIT : Nat := 1048576
theorem sz_bits {z : Int} (h : Builtin.Int.intBits z ≤ 1048576) : Sz BIT z := by
  unfold Sz
  have h1 : z.natAbs.log2 + 1 ≤ BIT ∨ z.natAbs = 0 := by
    unfold Builtin.Int.intBits at h
    unfold BIT
    split at h
    · rename_i q
      have : z = 0 := by simpa using q
      right; omega
    · left; omega
  rcases h1 with h1 | h1
  · exact Nat.lt_of_lt_of_le Nat.lt_log2_self (Nat.pow_le_pow_right (by decide) h1)
  · rw [h1]; exact Nat.pow_pos (by decide)
theorem cut_map {α β : Type} (f : α → β) (l : List α) (lo hi : Option Int) : cut (l.map f) lo hi = (cut l lo hi).map f := by
  unfold cut
  rw [List.length_map, List.map_take, List.map_drop]
theorem cut_mem {α : Type} {l : List α} {lo hi : Option Int} {x : α} (h : x ∈ cut l lo hi) : x ∈ l := List.mem_of_mem_drop (List.mem_of_mem_take h)
theorem cut_to {α : Type} (l : List α) (k : Nat) : cut l none (some (k : Int)) = l.take k := by
  unfold cut
  rw [HT.sIx_none, HT.sIx_nat, List.drop_zero, Nat.sub_zero]
  by_cases h : k ≤ l.length
  · rw [Nat.min_eq_left h]
  · rw [Nat.min_eq_right (by omega), List.take_length, List.take_of_length_le (by omega)]
theorem cut_few {α : Type} (l : List α) (k : Nat) (hi : Option Int) (h : l.length ≤ k) : cut l (some (k : Int)) hi = [] := by
  unfold cut
  rw [HT.sIx_nat, Nat.min_eq_right h, List.drop_length, List.take_nil]
theorem cut_len {α : Type} (l : List α) (lo hi : Option Int) : (cut l lo hi).length ≤ l.length := by
  unfold cut
  rw [List.length_take, List.length_drop]
  omega
theorem enumL_get {ds : List D} {j : Nat} {d : D} (h : (enumL ds)[j]? = some d) : ∃ e, ds[j]? = some e ∧ d = .tuple [.int (j : Nat), e] := by
  unfold enumL at h
  rw [List.getElem?_map] at h
  obtain ⟨⟨a, b⟩, h1, h2⟩ := Option.map_eq_some_iff.mp h
  have h3 := List.getElem?_zip_eq_some.mp h1
  obtain ⟨k, h4, h5⟩ := Option.map_eq_some_iff.mp (by rw [← List.getElem?_map]; exact h3.1)
  obtain ⟨h6, h7⟩ := List.getElem?_eq_some_iff.mp h4
  rw [List.getElem_range] at h7
  subst h7
  dsimp only at h5
  subst h5
  exact ⟨b, h3.2, h2.symm⟩
theorem atI_ints {cs : List Int} {j : Nat} (h : j < cs.length) : atI (cs.map PyData.int) (j : Int) = some (.int cs[j]) := atI_nat (by rw [List.getElem?_map, List.getElem?_eq_getElem h]; rfl)
theorem ixN_nat {n j : Nat} (h : j < n) : ixN n (j : Int) = some j := by
  unfold ixN
  rw [if_pos (by omega), if_pos (by omega)]
  simp
def BAS : Nat := 1048600
theorem fold_turn {sc : D} {cs : List Int} {j : Nat} {z : Int} {m : Nat} {x y : Option D} (hl : cs.length = m) (hm : 0 < m) (hm2 : m ≤ 1000) (hj : j < 100) (hz : Sz BIT z) (hc : ∀ c, c ∈ cs → Sz (BAS + j) c) :
    Wp ((gT (gsCons (gN 3) (gsCons (gN 4) gsNil)) 2 (.tuple [.int (j : Nat), .int z]) [some sc, some (.int m), some (.list (cs.map .int)), x, y]).bind (kAsg (bin addD (ixO 2 (bin modD (sV 3) (sV 1))) (bin mulD (sV 4) (bin addD (sV 3) (sC (.int 2))))) (gO 2 (bin modD (sV 3) (sV 1)))))
      fun o => ∃ t', (o = .nx t' ∨ o = .ct t') ∧ ∃ (cs' : List Int) (x y : Option D), t' = [some sc, some (.int m), some (.list (cs'.map .int)), x, y] ∧ cs'.length = m ∧ ∀ c, c ∈ cs' → Sz (BAS + (j + 1)) c := by
  have hm0 : (m : Int) ≠ 0 := by omega
  have e : ((j : Int).fmod (m : Int)) = ((j % m : Nat) : Int) := by rw [Int.fmod_eq_emod_of_nonneg _ (by omega), Int.natCast_emod]
  have hjm : j % m < m := Nat.mod_lt _ hm
  have h1 := atI_ints (cs := cs) (j := j % m) (by omega)
  have h2 := ixN_nat (n := m) (j := j % m) hjm
  have m1 : mulOk z ((j : Int) + 2) = true := mulOk_sz hz (m := 64) (Sz.lit (by omega)) (by unfold BIT; decide)
  have hlm : (cs.map PyData.int).length = m := by rw [List.length_map]; exact hl
  simp -implicitDefEqProofs (disch := (first | assumption | (refine' PD.mulOk_sz ?a ?b ?c; (case a => (repeat' (first | assumption | exact PD.Sz.fmod (PD.Sz.lit (n := 64) (by decide)) (by decide) | exact PD.Sz.lit (n := 64) (by decide) | apply PD.Sz.mul | apply PD.Sz.add | apply PD.Sz.sub | apply PD.Sz.neg))); (case b => (repeat' (first | assumption | exact PD.Sz.fmod (PD.Sz.lit (n := 64) (by decide)) (by decide) | exact PD.Sz.lit (n := 64) (by decide) | apply PD.Sz.mul | apply PD.Sz.add | apply PD.Sz.sub | apply PD.Sz.neg))); (case c => decide)) | (exact PD.divOk_sz (PD.Sz.lit (n := 64) (by decide)) (by decide) (by decide)) | omega | (apply PD.lt_size; (first | decide | omega)))) only [PD.compD_nil, PD.compD_cons, PD.c_cp0_e, PD.c_cp1_t, PD.c_cp1_f, PD.c_cp2_e, PD.c_k0_e, PD.c_k1_t, PD.c_k1_f, PD.c_k2_e, PD.forD_nil, PD.forD_cons, PD.c_f1_e, PD.c_f2_nx, PD.c_f2_ct, PD.c_f2_bk, PD.c_f2_rt, ↓Option.bind_some, ↓reduceIte, PD.sCons_e, PD.sTup_e, PD.sLst_e, PD.bin_e, PD.un_e, PD.callD_e, PD.callI_e, PD.tru_e, PD.tand_e, PD.tor_e, PD.tnot_e, PD.vand_e, PD.vor_e, PD.sIf_e, PD.nl_e, PD.lenO_e, PD.truO_e, PD.ixO_e, PD.methO_e, PD.sSl_e, PD.oSome_e, PD.wS_e, PD.wR1_e, PD.wR2_e, PD.wE_e, PD.wZ_e, PD.sLc_e, PD.kSeq_e, PD.kDrop_e, PD.kSet_e, PD.kOwn_e, PD.kAsg_e, PD.kPar_e, PD.kPar3_e, PD.kIf_e, PD.kRet_e, PD.kRetO_e, PD.kFor_e, PD.kWhile_e, PD.c_ret_e, PD.c_retL_e, PD.c_retB_e, PD.c_sCons2_e, PD.c_sCons1_e, PD.c_tup_e, PD.c_lst_e, PD.c_bin2_e, PD.c_bin1_e, PD.c_un_e, PD.c_call_e, PD.c_callI3_e, PD.c_callI2_e, PD.c_callI_e, PD.c_tru_e, PD.c_and_t, PD.c_and_f, PD.c_or_t, PD.c_or_f, PD.c_not_e, PD.c_vand_t, PD.c_vand_f, PD.c_vor_t, PD.c_vor_f, PD.c_sif_t, PD.c_sif_f, PD.c_nl_e, PD.c_lenO_e, PD.c_truO_e, PD.c_ixO2_e, PD.c_ixO_e, PD.c_meth3_e, PD.c_meth2_e, PD.c_meth_e, PD.c_sl3_e, PD.c_sl2_e, PD.c_sl_e, PD.c_os_e, PD.c_wS_e, PD.c_wR1_e, PD.c_wR2_e, PD.c_wE_e, PD.c_wZ_l, PD.c_wZ_t, PD.c_lc2_e, PD.c_lc_e, PD.c_seq_nx, PD.c_seq_bk, PD.c_seq_ct, PD.c_seq_rt, PD.c_drop_e, PD.c_set_e, PD.c_own_e, PD.c_nx_e, PD.c_asg_e, PD.c_par_e, PD.c_par3_e, PD.c_if_t, PD.c_if_f, PD.c_rt_e, PD.c_rto_e, PD.c_for_e, PD.c_gO3_e, PD.c_gO2_e, PD.c_gO_e, PD.gO_e, PD.gN_e, PD.gsNil_e, PD.gsCons_e, PD.gT_e, PD.sNil_e, PD.sC_e, PD.oNone_e, PD.tYesD_e, PD.kNil_e, PD.kRetN_e, PD.kBk_e, PD.kCt_e, PD.kNever_e, PD.runP_e, PD.runI_e, PD.outP_nx, PD.outP_rt, PD.outI_nx, PD.outI_rt, PD.sV, PD.ownL, PD.ini, List.map_cons, List.map_nil, List.length_cons, List.length_nil, Nat.reduceSub, Nat.reduceAdd, Nat.sub_self, Nat.zero_add, List.replicate_succ, List.replicate_zero, List.append_nil, List.cons_append, List.nil_append, List.getElem?_cons_zero, List.getElem?_cons_succ, List.getElem?_nil, List.set_cons_zero, List.set_cons_succ, Option.bind_none, Option.bind_assoc, Option.map_some, PD.seqD_list, PD.seqD_tuple, PD.wipeD, PD.unwipe, PD.rng1_i, PD.appD_l, PD.ixD_l, PD.ixD_t, PD.truD_n, PD.truD_b, PD.truD_i, PD.truD_l, PD.truD_t, PD.sliceD_l, PD.sliceD_t, PD.subD_i, PD.negD_i, PD.notD_b, PD.ltD_i, PD.leD_i, PD.gtD_i, PD.geD_i, PD.absD_i, PD.intD_i, PD.intD_b, PD.max2_i, PD.min2_i, PD.max3_i, PD.min3_i, PD.chn_e, PD.c_ch0_e, PD.c_ch1_e, PD.c_ch2_t, PD.c_ch2_f, PD.c_ch3_e, PD.lenD_l, PD.lenD_t, PD.listD_l, PD.listD_t, PD.tupleD_l, PD.tupleD_t, PD.listrevD_l, PD.iaddD_i, PD.addD_i, PD.mulD_i, PD.fdivD_i, PD.modD_i, PD.divmodD_i, PD.eqD_i, PD.neD_i, PD.isN_none, PD.isN_bool, PD.isN_int, PD.isN_str, PD.isN_list, PD.isN_tuple, PD.notN_none, PD.notN_bool, PD.notN_int, PD.notN_str, PD.notN_list, PD.notN_tuple, PD.eqD_b2, PD.neD_b2, PD.ix0, PD.ix1, PD.ix2, PD.ix3, PD.ix4, PD.ix5, PD.ixm1, PD.ixN30, PD.ixN31, PD.ixN32, Bool.false_eq_true, Bool.not_true, Bool.not_false, reduceCtorEq, decide_true, decide_false, Nat.reduceLT, Nat.reduceLeDiff, Nat.reduceEqDiff, Int.reduceLT, Int.reduceLE, Int.reduceToNat, Int.reduceNeg, Option.getD_some, Option.getD_none, and_self, and_true, true_and, PD.le_size, beq_self_eq_true, Bool.true_beq, Bool.false_beq, e, h1, m1, hlm, h2]
  refine wp_some ⟨_, .inl rfl, cs.set (j % m) (cs[j % m]'(by omega) + z * ((j : Int) + 2)), some (.int j), some (.int z), ?_, by rw [List.length_set]; exact hl, fun c hcm => ?_⟩
  · rw [List.map_set]
  · rcases List.mem_or_eq_of_mem_set hcm with h | h
    · exact (hc c h).mono (by omega)
    · rw [h]
      have a1 := hc _ (List.getElem_mem (show j % m < cs.length by omega))
      have a2 : Sz (BIT + 10) (z * ((j : Int) + 2)) := hz.mul (m := 10) (Sz.lit (by omega))
      refine (a1.add a2).mono ?_
      have : Nat.max (BAS + j) (BIT + 10) = BAS + j := Nat.max_eq_left (by unfold BAS BIT; omega)
      rw [this]; omega
theorem folded_sp {ns : List Int} {m : Nat} (hm : 0 < m) (hm2 : m ≤ 63) (hl : ns.length ≤ 63) (hs : ∀ z ∈ ns, Builtin.Int.intBits z ≤ 1048576) : Wp (e__law_folded [.list (ns.map .int), .int m]) fun r => ∃ cs : List Int, r = .list (cs.map .int) ∧ cs.length ≤ m ∧ ∀ c, c ∈ cs → Sz BIG c := by
  have c1 : cut (ns.map PyData.int) none (some (m : Int)) = (ns.take m).map .int := by rw [cut_map, cut_to]
  have c2 : cut (ns.map PyData.int) (some (m : Int)) (some 63) = (cut ns (some (m : Int)) (some 63)).map .int := cut_map _ _ _ _
  have h0 : ∀ c, c ∈ ns.take m → Sz (BAS + 0) c := fun c h => (sz_bits (hs c (List.mem_of_mem_take h))).mono (by unfold BIT BAS; decide)
  simp -implicitDefEqProofs (disch := (first | assumption | (refine' PD.mulOk_sz ?a ?b ?c; (case a => (repeat' (first | assumption | exact PD.Sz.fmod (PD.Sz.lit (n := 64) (by decide)) (by decide) | exact PD.Sz.lit (n := 64) (by decide) | apply PD.Sz.mul | apply PD.Sz.add | apply PD.Sz.sub | apply PD.Sz.neg))); (case b => (repeat' (first | assumption | exact PD.Sz.fmod (PD.Sz.lit (n := 64) (by decide)) (by decide) | exact PD.Sz.lit (n := 64) (by decide) | apply PD.Sz.mul | apply PD.Sz.add | apply PD.Sz.sub | apply PD.Sz.neg))); (case c => decide)) | (exact PD.divOk_sz (PD.Sz.lit (n := 64) (by decide)) (by decide) (by decide)) | omega | (apply PD.lt_size; (first | decide | omega)))) only [PD.compD_nil, PD.compD_cons, PD.c_cp0_e, PD.c_cp1_t, PD.c_cp1_f, PD.c_cp2_e, PD.c_k0_e, PD.c_k1_t, PD.c_k1_f, PD.c_k2_e, PD.forD_nil, PD.forD_cons, PD.c_f1_e, PD.c_f2_nx, PD.c_f2_ct, PD.c_f2_bk, PD.c_f2_rt, ↓Option.bind_some, ↓reduceIte, PD.sCons_e, PD.sTup_e, PD.sLst_e, PD.bin_e, PD.un_e, PD.callD_e, PD.callI_e, PD.tru_e, PD.tand_e, PD.tor_e, PD.tnot_e, PD.vand_e, PD.vor_e, PD.sIf_e, PD.nl_e, PD.lenO_e, PD.truO_e, PD.ixO_e, PD.methO_e, PD.sSl_e, PD.oSome_e, PD.wS_e, PD.wR1_e, PD.wR2_e, PD.wE_e, PD.wZ_e, PD.sLc_e, PD.kSeq_e, PD.kDrop_e, PD.kSet_e, PD.kOwn_e, PD.kAsg_e, PD.kPar_e, PD.kPar3_e, PD.kIf_e, PD.kRet_e, PD.kRetO_e, PD.kFor_e, PD.kWhile_e, PD.c_ret_e, PD.c_retL_e, PD.c_retB_e, PD.c_sCons2_e, PD.c_sCons1_e, PD.c_tup_e, PD.c_lst_e, PD.c_bin2_e, PD.c_bin1_e, PD.c_un_e, PD.c_call_e, PD.c_callI3_e, PD.c_callI2_e, PD.c_callI_e, PD.c_tru_e, PD.c_and_t, PD.c_and_f, PD.c_or_t, PD.c_or_f, PD.c_not_e, PD.c_vand_t, PD.c_vand_f, PD.c_vor_t, PD.c_vor_f, PD.c_sif_t, PD.c_sif_f, PD.c_nl_e, PD.c_lenO_e, PD.c_truO_e, PD.c_ixO2_e, PD.c_ixO_e, PD.c_meth3_e, PD.c_meth2_e, PD.c_meth_e, PD.c_sl3_e, PD.c_sl2_e, PD.c_sl_e, PD.c_os_e, PD.c_wS_e, PD.c_wR1_e, PD.c_wR2_e, PD.c_wE_e, PD.c_wZ_l, PD.c_wZ_t, PD.c_lc2_e, PD.c_lc_e, PD.c_seq_nx, PD.c_seq_bk, PD.c_seq_ct, PD.c_seq_rt, PD.c_drop_e, PD.c_set_e, PD.c_own_e, PD.c_nx_e, PD.c_asg_e, PD.c_par_e, PD.c_par3_e, PD.c_if_t, PD.c_if_f, PD.c_rt_e, PD.c_rto_e, PD.c_for_e, PD.c_gO3_e, PD.c_gO2_e, PD.c_gO_e, PD.gO_e, PD.gN_e, PD.gsNil_e, PD.gsCons_e, PD.gT_e, PD.sNil_e, PD.sC_e, PD.oNone_e, PD.tYesD_e, PD.kNil_e, PD.kRetN_e, PD.kBk_e, PD.kCt_e, PD.kNever_e, PD.runP_e, PD.runI_e, PD.outP_nx, PD.outP_rt, PD.outI_nx, PD.outI_rt, PD.sV, PD.ownL, PD.ini, List.map_cons, List.map_nil, List.length_cons, List.length_nil, Nat.reduceSub, Nat.reduceAdd, Nat.sub_self, Nat.zero_add, List.replicate_succ, List.replicate_zero, List.append_nil, List.cons_append, List.nil_append, List.getElem?_cons_zero, List.getElem?_cons_succ, List.getElem?_nil, List.set_cons_zero, List.set_cons_succ, Option.bind_none, Option.bind_assoc, Option.map_some, PD.seqD_list, PD.seqD_tuple, PD.wipeD, PD.unwipe, PD.rng1_i, PD.appD_l, PD.ixD_l, PD.ixD_t, PD.truD_n, PD.truD_b, PD.truD_i, PD.truD_l, PD.truD_t, PD.sliceD_l, PD.sliceD_t, PD.subD_i, PD.negD_i, PD.notD_b, PD.ltD_i, PD.leD_i, PD.gtD_i, PD.geD_i, PD.absD_i, PD.intD_i, PD.intD_b, PD.max2_i, PD.min2_i, PD.max3_i, PD.min3_i, PD.chn_e, PD.c_ch0_e, PD.c_ch1_e, PD.c_ch2_t, PD.c_ch2_f, PD.c_ch3_e, PD.lenD_l, PD.lenD_t, PD.listD_l, PD.listD_t, PD.tupleD_l, PD.tupleD_t, PD.listrevD_l, PD.iaddD_i, PD.addD_i, PD.mulD_i, PD.fdivD_i, PD.modD_i, PD.divmodD_i, PD.eqD_i, PD.neD_i, PD.isN_none, PD.isN_bool, PD.isN_int, PD.isN_str, PD.isN_list, PD.isN_tuple, PD.notN_none, PD.notN_bool, PD.notN_int, PD.notN_str, PD.notN_list, PD.notN_tuple, PD.eqD_b2, PD.neD_b2, PD.ix0, PD.ix1, PD.ix2, PD.ix3, PD.ix4, PD.ix5, PD.ixm1, PD.ixN30, PD.ixN31, PD.ixN32, Bool.false_eq_true, Bool.not_true, Bool.not_false, reduceCtorEq, decide_true, decide_false, Nat.reduceLT, Nat.reduceLeDiff, Nat.reduceEqDiff, Int.reduceLT, Int.reduceLE, Int.reduceToNat, Int.reduceNeg, Option.getD_some, Option.getD_none, and_self, and_true, true_and, PD.le_size, beq_self_eq_true, Bool.true_beq, Bool.false_beq, e__law_folded, m__law_folded, c1, c2]
  by_cases hfew : ns.length ≤ m
  · rw [cut_few ns m _ hfew]
    have : enumL (List.map PyData.int []) = [] := rfl
    rw [this, forD]
    simp -implicitDefEqProofs (disch := (first | assumption | (refine' PD.mulOk_sz ?a ?b ?c; (case a => (repeat' (first | assumption | exact PD.Sz.fmod (PD.Sz.lit (n := 64) (by decide)) (by decide) | exact PD.Sz.lit (n := 64) (by decide) | apply PD.Sz.mul | apply PD.Sz.add | apply PD.Sz.sub | apply PD.Sz.neg))); (case b => (repeat' (first | assumption | exact PD.Sz.fmod (PD.Sz.lit (n := 64) (by decide)) (by decide) | exact PD.Sz.lit (n := 64) (by decide) | apply PD.Sz.mul | apply PD.Sz.add | apply PD.Sz.sub | apply PD.Sz.neg))); (case c => decide)) | (exact PD.divOk_sz (PD.Sz.lit (n := 64) (by decide)) (by decide) (by decide)) | omega | (apply PD.lt_size; (first | decide | omega)))) only [PD.compD_nil, PD.compD_cons, PD.c_cp0_e, PD.c_cp1_t, PD.c_cp1_f, PD.c_cp2_e, PD.c_k0_e, PD.c_k1_t, PD.c_k1_f, PD.c_k2_e, PD.forD_nil, PD.forD_cons, PD.c_f1_e, PD.c_f2_nx, PD.c_f2_ct, PD.c_f2_bk, PD.c_f2_rt, ↓Option.bind_some, ↓reduceIte, PD.sCons_e, PD.sTup_e, PD.sLst_e, PD.bin_e, PD.un_e, PD.callD_e, PD.callI_e, PD.tru_e, PD.tand_e, PD.tor_e, PD.tnot_e, PD.vand_e, PD.vor_e, PD.sIf_e, PD.nl_e, PD.lenO_e, PD.truO_e, PD.ixO_e, PD.methO_e, PD.sSl_e, PD.oSome_e, PD.wS_e, PD.wR1_e, PD.wR2_e, PD.wE_e, PD.wZ_e, PD.sLc_e, PD.kSeq_e, PD.kDrop_e, PD.kSet_e, PD.kOwn_e, PD.kAsg_e, PD.kPar_e, PD.kPar3_e, PD.kIf_e, PD.kRet_e, PD.kRetO_e, PD.kFor_e, PD.kWhile_e, PD.c_ret_e, PD.c_retL_e, PD.c_retB_e, PD.c_sCons2_e, PD.c_sCons1_e, PD.c_tup_e, PD.c_lst_e, PD.c_bin2_e, PD.c_bin1_e, PD.c_un_e, PD.c_call_e, PD.c_callI3_e, PD.c_callI2_e, PD.c_callI_e, PD.c_tru_e, PD.c_and_t, PD.c_and_f, PD.c_or_t, PD.c_or_f, PD.c_not_e, PD.c_vand_t, PD.c_vand_f, PD.c_vor_t, PD.c_vor_f, PD.c_sif_t, PD.c_sif_f, PD.c_nl_e, PD.c_lenO_e, PD.c_truO_e, PD.c_ixO2_e, PD.c_ixO_e, PD.c_meth3_e, PD.c_meth2_e, PD.c_meth_e, PD.c_sl3_e, PD.c_sl2_e, PD.c_sl_e, PD.c_os_e, PD.c_wS_e, PD.c_wR1_e, PD.c_wR2_e, PD.c_wE_e, PD.c_wZ_l, PD.c_wZ_t, PD.c_lc2_e, PD.c_lc_e, PD.c_seq_nx, PD.c_seq_bk, PD.c_seq_ct, PD.c_seq_rt, PD.c_drop_e, PD.c_set_e, PD.c_own_e, PD.c_nx_e, PD.c_asg_e, PD.c_par_e, PD.c_par3_e, PD.c_if_t, PD.c_if_f, PD.c_rt_e, PD.c_rto_e, PD.c_for_e, PD.c_gO3_e, PD.c_gO2_e, PD.c_gO_e, PD.gO_e, PD.gN_e, PD.gsNil_e, PD.gsCons_e, PD.gT_e, PD.sNil_e, PD.sC_e, PD.oNone_e, PD.tYesD_e, PD.kNil_e, PD.kRetN_e, PD.kBk_e, PD.kCt_e, PD.kNever_e, PD.runP_e, PD.runI_e, PD.outP_nx, PD.outP_rt, PD.outI_nx, PD.outI_rt, PD.sV, PD.ownL, PD.ini, List.map_cons, List.map_nil, List.length_cons, List.length_nil, Nat.reduceSub, Nat.reduceAdd, Nat.sub_self, Nat.zero_add, List.replicate_succ, List.replicate_zero, List.append_nil, List.cons_append, List.nil_append, List.getElem?_cons_zero, List.getElem?_cons_succ, List.getElem?_nil, List.set_cons_zero, List.set_cons_succ, Option.bind_none, Option.bind_assoc, Option.map_some, PD.seqD_list, PD.seqD_tuple, PD.wipeD, PD.unwipe, PD.rng1_i, PD.appD_l, PD.ixD_l, PD.ixD_t, PD.truD_n, PD.truD_b, PD.truD_i, PD.truD_l, PD.truD_t, PD.sliceD_l, PD.sliceD_t, PD.subD_i, PD.negD_i, PD.notD_b, PD.ltD_i, PD.leD_i, PD.gtD_i, PD.geD_i, PD.absD_i, PD.intD_i, PD.intD_b, PD.max2_i, PD.min2_i, PD.max3_i, PD.min3_i, PD.chn_e, PD.c_ch0_e, PD.c_ch1_e, PD.c_ch2_t, PD.c_ch2_f, PD.c_ch3_e, PD.lenD_l, PD.lenD_t, PD.listD_l, PD.listD_t, PD.tupleD_l, PD.tupleD_t, PD.listrevD_l, PD.iaddD_i, PD.addD_i, PD.mulD_i, PD.fdivD_i, PD.modD_i, PD.divmodD_i, PD.eqD_i, PD.neD_i, PD.isN_none, PD.isN_bool, PD.isN_int, PD.isN_str, PD.isN_list, PD.isN_tuple, PD.notN_none, PD.notN_bool, PD.notN_int, PD.notN_str, PD.notN_list, PD.notN_tuple, PD.eqD_b2, PD.neD_b2, PD.ix0, PD.ix1, PD.ix2, PD.ix3, PD.ix4, PD.ix5, PD.ixm1, PD.ixN30, PD.ixN31, PD.ixN32, Bool.false_eq_true, Bool.not_true, Bool.not_false, reduceCtorEq, decide_true, decide_false, Nat.reduceLT, Nat.reduceLeDiff, Nat.reduceEqDiff, Int.reduceLT, Int.reduceLE, Int.reduceToNat, Int.reduceNeg, Option.getD_some, Option.getD_none, and_self, and_true, true_and, PD.le_size, beq_self_eq_true, Bool.true_beq, Bool.false_beq]
    refine wp_some ⟨ns.take m, rfl, by rw [List.length_take]; omega, fun c h => (h0 c h).mono (by unfold BAS BIG; decide)⟩
  · refine wp_bind (wp_for (fun j t => ∃ (cs : List Int) (x y : Option D), t = [some (.list (ns.map .int)), some (.int m), some (.list (cs.map .int)), x, y] ∧ cs.length = m ∧ ∀ c, c ∈ cs → Sz (BAS + j) c) _ 0 _ ⟨ns.take m, none, none, rfl, by rw [List.length_take]; omega, h0⟩ (fun j d t hj ht => ?_) (Q := fun o => ∃ (cs : List Int) (x y : Option D), o = .nx [some (.list (ns.map .int)), some (.int m), some (.list (cs.map .int)), x, y] ∧ cs.length = m ∧ ∀ c, c ∈ cs → Sz BIG c) fun t ht => ?_) fun o ho => ?_
    · obtain ⟨cs, x, y, rfl, hcl, hcs⟩ := ht
      rw [Nat.zero_add] at hcs ⊢
      obtain ⟨e, h1, rfl⟩ := enumL_get hj
      rw [List.getElem?_map] at h1
      obtain ⟨z, h2, rfl⟩ := Option.map_eq_some_iff.mp h1
      have hz := cut_mem (List.mem_of_getElem? h2)
      have hjl : j < 100 := by
        have := (List.getElem?_eq_some_iff.mp h2).1
        have := cut_len ns (some (m : Int)) (some 63)
        omega
      exact fold_turn hcl hm (by omega) hjl (sz_bits (hs z hz)) hcs
    · obtain ⟨cs, x, y, rfl, hcl, hcs⟩ := ht
      refine ⟨cs, x, y, rfl, hcl, fun c h => (hcs c h).mono ?_⟩
      have : (enumL ((cut ns (some (m : Int)) (some 63)).map PyData.int)).length ≤ 63 := by
        unfold enumL
        rw [List.length_map, List.length_zip, List.length_map, List.length_range, List.length_map]
        have := cut_len ns (some (m : Int)) (some 63)
        omega
      unfold BAS BIG
      omega
    · obtain ⟨cs, x, y, rfl, hcl, hcs⟩ := ho
      simp -implicitDefEqProofs (disch := (first | assumption | (refine' PD.mulOk_sz ?a ?b ?c; (case a => (repeat' (first | assumption | exact PD.Sz.fmod (PD.Sz.lit (n := 64) (by decide)) (by decide) | exact PD.Sz.lit (n := 64) (by decide) | apply PD.Sz.mul | apply PD.Sz.add | apply PD.Sz.sub | apply PD.Sz.neg))); (case b => (repeat' (first | assumption | exact PD.Sz.fmod (PD.Sz.lit (n := 64) (by decide)) (by decide) | exact PD.Sz.lit (n := 64) (by decide) | apply PD.Sz.mul | apply PD.Sz.add | apply PD.Sz.sub | apply PD.Sz.neg))); (case c => decide)) | (exact PD.divOk_sz (PD.Sz.lit (n := 64) (by decide)) (by decide) (by decide)) | omega | (apply PD.lt_size; (first | decide | omega)))) only [PD.compD_nil, PD.compD_cons, PD.c_cp0_e, PD.c_cp1_t, PD.c_cp1_f, PD.c_cp2_e, PD.c_k0_e, PD.c_k1_t, PD.c_k1_f, PD.c_k2_e, PD.forD_nil, PD.forD_cons, PD.c_f1_e, PD.c_f2_nx, PD.c_f2_ct, PD.c_f2_bk, PD.c_f2_rt, ↓Option.bind_some, ↓reduceIte, PD.sCons_e, PD.sTup_e, PD.sLst_e, PD.bin_e, PD.un_e, PD.callD_e, PD.callI_e, PD.tru_e, PD.tand_e, PD.tor_e, PD.tnot_e, PD.vand_e, PD.vor_e, PD.sIf_e, PD.nl_e, PD.lenO_e, PD.truO_e, PD.ixO_e, PD.methO_e, PD.sSl_e, PD.oSome_e, PD.wS_e, PD.wR1_e, PD.wR2_e, PD.wE_e, PD.wZ_e, PD.sLc_e, PD.kSeq_e, PD.kDrop_e, PD.kSet_e, PD.kOwn_e, PD.kAsg_e, PD.kPar_e, PD.kPar3_e, PD.kIf_e, PD.kRet_e, PD.kRetO_e, PD.kFor_e, PD.kWhile_e, PD.c_ret_e, PD.c_retL_e, PD.c_retB_e, PD.c_sCons2_e, PD.c_sCons1_e, PD.c_tup_e, PD.c_lst_e, PD.c_bin2_e, PD.c_bin1_e, PD.c_un_e, PD.c_call_e, PD.c_callI3_e, PD.c_callI2_e, PD.c_callI_e, PD.c_tru_e, PD.c_and_t, PD.c_and_f, PD.c_or_t, PD.c_or_f, PD.c_not_e, PD.c_vand_t, PD.c_vand_f, PD.c_vor_t, PD.c_vor_f, PD.c_sif_t, PD.c_sif_f, PD.c_nl_e, PD.c_lenO_e, PD.c_truO_e, PD.c_ixO2_e, PD.c_ixO_e, PD.c_meth3_e, PD.c_meth2_e, PD.c_meth_e, PD.c_sl3_e, PD.c_sl2_e, PD.c_sl_e, PD.c_os_e, PD.c_wS_e, PD.c_wR1_e, PD.c_wR2_e, PD.c_wE_e, PD.c_wZ_l, PD.c_wZ_t, PD.c_lc2_e, PD.c_lc_e, PD.c_seq_nx, PD.c_seq_bk, PD.c_seq_ct, PD.c_seq_rt, PD.c_drop_e, PD.c_set_e, PD.c_own_e, PD.c_nx_e, PD.c_asg_e, PD.c_par_e, PD.c_par3_e, PD.c_if_t, PD.c_if_f, PD.c_rt_e, PD.c_rto_e, PD.c_for_e, PD.c_gO3_e, PD.c_gO2_e, PD.c_gO_e, PD.gO_e, PD.gN_e, PD.gsNil_e, PD.gsCons_e, PD.gT_e, PD.sNil_e, PD.sC_e, PD.oNone_e, PD.tYesD_e, PD.kNil_e, PD.kRetN_e, PD.kBk_e, PD.kCt_e, PD.kNever_e, PD.runP_e, PD.runI_e, PD.outP_nx, PD.outP_rt, PD.outI_nx, PD.outI_rt, PD.sV, PD.ownL, PD.ini, List.map_cons, List.map_nil, List.length_cons, List.length_nil, Nat.reduceSub, Nat.reduceAdd, Nat.sub_self, Nat.zero_add, List.replicate_succ, List.replicate_zero, List.append_nil, List.cons_append, List.nil_append, List.getElem?_cons_zero, List.getElem?_cons_succ, List.getElem?_nil, List.set_cons_zero, List.set_cons_succ, Option.bind_none, Option.bind_assoc, Option.map_some, PD.seqD_list, PD.seqD_tuple, PD.wipeD, PD.unwipe, PD.rng1_i, PD.appD_l, PD.ixD_l, PD.ixD_t, PD.truD_n, PD.truD_b, PD.truD_i, PD.truD_l, PD.truD_t, PD.sliceD_l, PD.sliceD_t, PD.subD_i, PD.negD_i, PD.notD_b, PD.ltD_i, PD.leD_i, PD.gtD_i, PD.geD_i, PD.absD_i, PD.intD_i, PD.intD_b, PD.max2_i, PD.min2_i, PD.max3_i, PD.min3_i, PD.chn_e, PD.c_ch0_e, PD.c_ch1_e, PD.c_ch2_t, PD.c_ch2_f, PD.c_ch3_e, PD.lenD_l, PD.lenD_t, PD.listD_l, PD.listD_t, PD.tupleD_l, PD.tupleD_t, PD.listrevD_l, PD.iaddD_i, PD.addD_i, PD.mulD_i, PD.fdivD_i, PD.modD_i, PD.divmodD_i, PD.eqD_i, PD.neD_i, PD.isN_none, PD.isN_bool, PD.isN_int, PD.isN_str, PD.isN_list, PD.isN_tuple, PD.notN_none, PD.notN_bool, PD.notN_int, PD.notN_str, PD.notN_list, PD.notN_tuple, PD.eqD_b2, PD.neD_b2, PD.ix0, PD.ix1, PD.ix2, PD.ix3, PD.ix4, PD.ix5, PD.ixm1, PD.ixN30, PD.ixN31, PD.ixN32, Bool.false_eq_true, Bool.not_true, Bool.not_false, reduceCtorEq, decide_true, decide_false, Nat.reduceLT, Nat.reduceLeDiff, Nat.reduceEqDiff, Int.reduceLT, Int.reduceLE, Int.reduceToNat, Int.reduceNeg, Option.getD_some, Option.getD_none, and_self, and_true, true_and, PD.le_size, beq_self_eq_true, Bool.true_beq, Bool.false_beq]
      exact wp_some ⟨cs, rfl, by omega, hcs⟩
end W

set_option maxHeartbeats 2000000
namespace W
open PySem L2 PD
/-! ### draws -/
theorem BoxOk.mono {n m : Nat} {c : List D} (h : BoxOk n c) (hm : n ≤ m) : BoxOk m c := by
  obtain ⟨a, b, k, h1, h2, h3, h4, h5, h6⟩ := h
  exact ⟨a, b, k, h1, h2, h3, h4, h5, by omega⟩
theorem draw {n : Nat} {c : List D} {m : Int} (h : BoxOk n c) (hn : n ≤ 1000000) (h0 : 0 < m) (h1 : m < 1073741824) : Wp (e__law_take c [.int m]) fun r => ∃ v c', r = (.int v, c') ∧ 0 ≤ v ∧ v < m ∧ BoxOk (n + 1) c' := by
  refine (take_sp h hn h0 h1).mono fun r ⟨x, hx, h2, h3, h4⟩ => ?_
  obtain ⟨d, c'⟩ := r
  exact ⟨x, c', by rw [← hx], h2, h3, h4⟩
end W

set_option maxHeartbeats 4000000
namespace W
open PySem L2 PD
/-! ### the boxes: a new list of new lists -/
theorem pe_lcR {X : Cx} {O : List Nat} {elt tg iter : Expr} {ifs : List Expr} {scope : Scope} {own : List (Str × Nat)} {pos : Pos} {w : SA} {g : SG} {ft : SB} {fe : SE} {ws : List Nat} (hN : X.N.Nodup) (hi : RI X O tg iter w) (ok : BlkOk X.N X.env.scope scope own)
    (hg : ∀ (s : Shared) (H : Hp) (C : Addr) (cl : List (Str × Addr)) (fp : List Addr), RG (X.blk s H scope (compEnvC scope cl C X.env) fp) O ws tg g) (ht : ∀ (s : Shared) (H : Hp) (C : Addr) (cl : List (Str × Addr)) (fp : List Addr), PTs (X.blk s H scope (compEnvC scope cl C X.env) fp) ifs (tDT X.K O ft))
    (he : ∀ (s : Shared) (H : Hp) (C : Addr) (cl : List (Str × Addr)) (fp : List Addr), RF (X.blk s H scope (compEnvC scope cl C X.env) fp) O elt fe) (hc : X.calm = true := by rfl) (hs : ∀ x, foldedSetIterable iter X.env x = pure x := by intro _; rfl) :
    PE X (.ListComp elt [⟨tg, iter, ifs, 0⟩] scope pos) (tLc (tI X.K O w) (tG X.K O ws g) (tDT X.K O ft) (tF X.K O fe) (own.map (·.2))) := pe_lc hc hN hi ok hg ht he hs
def FH (H : Hp) : Fr := ⟨fun _ => 0, H, fun _ => true⟩
theorem frzFH (H H' : Hp) : frz (FH H) [] H' = H' := by
  funext a
  refine frz_at ?_
  rintro (⟨i, hi, _⟩ | ⟨_, z⟩)
  · cases hi
  · cases z
theorem limT (H : Hp) : lim (fun _ => true) H = H := by funext a; rfl
theorem gluT (H H' : Hp) : glu (fun _ => true) H H' = H' := by
  funext a
  unfold glu
  rw [if_neg (by rintro ⟨_, z⟩; cases z)]
theorem repFH {K : PySem.W.Frag} {H : Hp} {t : DSt} {σ : L2.St} (hl : t.length = σ.length) (hv : ∀ (i : Nat) (d : D), t[i]? = some (some d) → ∃ v, σ[i]? = some (some v) ∧ Dp K H v d) : Rep K [] (FH H) t σ H :=
  ⟨hl, fun i d _ e => by rw [frzFH]; exact hv i d e, fun i hi => (nomatch hi), fun i j hi => (nomatch hi), fun a o e => e, fun i hi => (nomatch hi)⟩
theorem sameFH {K : PySem.W.Frag} {H H' : Hp} {t : DSt} {σ : L2.St} (r : Rep K [] (FH H) t σ H') : Same H H' := fun a o e => r.keep a o e
def isBox (H : Hp) (q : Addr) (c : List Int) : Prop := BoxOk 0 (c.map .int) ∧ H q = some (.lst (c.map V.int))
def spBX (K : PySem.W.Frag) : Sp := fun vs H Q _ => ∃ (a : Addr) (ns : List Int), vs = [.ref a, .int 8] ∧ SqL K H a (ns.map V.int) ∧ ns.length ≤ 63 ∧ (∀ z ∈ ns, Builtin.Int.intBits z ≤ 1048576) ∧
  ∀ (p : Addr) (qs : List Addr) (H' : Hp), H p = none → (p :: qs).Nodup → (∀ q ∈ qs, H q = none) → H' p = some (.lst (qs.map V.ref)) → (∀ q ∈ qs, ∃ c, isBox H' q c) → Same H H' → Q (.ref p) H'
theorem box_ints {n : Nat} {c : List D} (h : BoxOk n c) : ∃ ns : List Int, c = ns.map .int := by
  obtain ⟨a, b, k, h1, _⟩ := h
  exact ⟨[a, b, k], h1⟩
section
variable {P : Program} {w : World} {K : PySem.W.Frag} {mg : Str → Option Value} {base : Heap}
theorem boxes_ok (T : Tx K mg) : ∃ f fd, FnOk P w K mg base CX0 2 f fd ["_law_script", "_law_many"] (spBX K) ∧ mg "_law_boxes" = some (.ref f) ∧ PySem.W.keepIn K (.ref f) = true ∧ Binds K fd ["_law_script", "_law_many"] [] := by
  obtain ⟨f, fd, F, hm, hb⟩ := T.f__law_boxes
  have c1 := ok__law_folded (P := P) (w := w) (base := base) T
  have c2 := ok__law_box (P := P) (w := w) (base := base) T
  have nd := sc__law_boxes.nd
  obtain ⟨f1, fd1, G1, m1, kp1, b1⟩ := c1.ex
  refine ⟨f, fd, F.ok sc__law_boxes (fun vs H Q E h => by obtain ⟨a, ns, rfl, _⟩ := h; rfl) (fun cdv A outer s H vs Q E hr h => ?_), hm, F.kp, hb⟩
  obtain ⟨a, ns, rfl, hs, hl, hbt, q⟩ := h
  refine ⟨_, pss_cons (ps_set nd (i := 2) rfl (by first | exact Or.inl rfl | exact Or.inr rfl) (pe_call G1 (hr.mono (by decide)) rfl m1 kp1 b1 .nil pass0 (pa_cons (pv 0) (pa_cons (pv 1) pa_nil))))
    (pss_one (ps_ret (pe_lcR (O := []) (own := [("_law_k", 3)]) nd (ri_range1 T.z_range (ra_cons (r_max2 T.z_max rfl (ra_cons r_int (ra_cons (r_len T.z_len (ra_cons (r_v 2) ra_nil)) ra_nil))) ra_nil)) (blkOk_by (N := N__law_boxes) (sc := defScope s__law_boxes) (by decide +kernel)) (fun _ _ _ _ _ => rg_name 3 nd) (fun _ _ _ _ _ => rts_nil) (fun _ _ _ _ _ => rf_callP c2 hr (by decide) (ra_cons (r_v 2) (ra_cons (r_v 3) ra_nil)) (sCons_len (sCons_len sNil_len)))))), ?_⟩
  obtain ⟨_, ef, cs, rfl, hcl, hcs⟩ := folded_sp (m := 8) (by decide) (by decide) hl hbt
  refine ⟨_, rfl, _, rfl, rfl, fun _ => true, [.list (ns.map .int), .int 8], .list (cs.map .int), ?_, ef, fun v H1 s1 pv => ?_⟩
  · rw [limT]
    exact .cons (.lst hs (dpAll_ints ns)) (.cons (.int 8) .nil)
  rw [gluT] at pv
  obtain ⟨l, xs, rfl, hl1, dx⟩ := pv.lst_inv
  have ex := DpAll.ints dx
  subst ex
  have hcl' : cs.length ≤ 8 := by omega
  have hm0 : 0 ≤ (if ((cs.map PyData.int).length : Int) > 1 then ((cs.map PyData.int).length : Int) else 1) := by split <;> omega
  have hm1 : (if ((cs.map PyData.int).length : Int) > 1 then ((cs.map PyData.int).length : Int) else 1) ≤ 100 := by
    rw [List.length_map]
    split <;> omega
  generalize hM : (if ((cs.map PyData.int).length : Int) > 1 then ((cs.map PyData.int).length : Int) else 1) = M at *
  let t : DSt := [none, some (.int 8), some (.list (cs.map .int)), none]
  let σ : L2.St := [some (.ref a), some (.int 8), some (.ref l), none]
  have rep0 : ∀ H2, Same H1 H2 → Rep K [] (FH H2) t σ H2 := fun H2 s2 => repFH rfl fun i d e => by
    match i, e with
    | 0, e => cases e
    | 1, e => cases e; exact ⟨_, rfl, .int 8⟩
    | 2, e => cases e; exact ⟨_, rfl, Dp.mono s2 pv⟩
    | 3, e => cases e
    | n + 4, e => cases e
  refine ⟨FH H1, t, rng 0 M.toNat, t, rep0 H1 (Same.refl _), ?_, fun J H2 r2 s2 wk Dd hD => ?_⟩
  · show wR1 _ [none, some (.int 8), some (.list (cs.map .int)), none] = _
    simp -implicitDefEqProofs (disch := (first | assumption | (refine' PD.mulOk_sz ?a ?b ?c; (case a => (repeat' (first | assumption | exact PD.Sz.fmod (PD.Sz.lit (n := 64) (by decide)) (by decide) | exact PD.Sz.lit (n := 64) (by decide) | apply PD.Sz.mul | apply PD.Sz.add | apply PD.Sz.sub | apply PD.Sz.neg))); (case b => (repeat' (first | assumption | exact PD.Sz.fmod (PD.Sz.lit (n := 64) (by decide)) (by decide) | exact PD.Sz.lit (n := 64) (by decide) | apply PD.Sz.mul | apply PD.Sz.add | apply PD.Sz.sub | apply PD.Sz.neg))); (case c => decide)) | (exact PD.divOk_sz (PD.Sz.lit (n := 64) (by decide)) (by decide) (by decide)) | omega | (apply PD.lt_size; (first | decide | omega)))) only [PD.compD_nil, PD.compD_cons, PD.c_cp0_e, PD.c_cp1_t, PD.c_cp1_f, PD.c_cp2_e, PD.c_k0_e, PD.c_k1_t, PD.c_k1_f, PD.c_k2_e, PD.forD_nil, PD.forD_cons, PD.c_f1_e, PD.c_f2_nx, PD.c_f2_ct, PD.c_f2_bk, PD.c_f2_rt, ↓Option.bind_some, ↓reduceIte, PD.sCons_e, PD.sTup_e, PD.sLst_e, PD.bin_e, PD.un_e, PD.callD_e, PD.callI_e, PD.tru_e, PD.tand_e, PD.tor_e, PD.tnot_e, PD.vand_e, PD.vor_e, PD.sIf_e, PD.nl_e, PD.lenO_e, PD.truO_e, PD.ixO_e, PD.methO_e, PD.sSl_e, PD.oSome_e, PD.wS_e, PD.wR1_e, PD.wR2_e, PD.wE_e, PD.wZ_e, PD.sLc_e, PD.kSeq_e, PD.kDrop_e, PD.kSet_e, PD.kOwn_e, PD.kAsg_e, PD.kPar_e, PD.kPar3_e, PD.kIf_e, PD.kRet_e, PD.kRetO_e, PD.kFor_e, PD.kWhile_e, PD.c_ret_e, PD.c_retL_e, PD.c_retB_e, PD.c_sCons2_e, PD.c_sCons1_e, PD.c_tup_e, PD.c_lst_e, PD.c_bin2_e, PD.c_bin1_e, PD.c_un_e, PD.c_call_e, PD.c_callI3_e, PD.c_callI2_e, PD.c_callI_e, PD.c_tru_e, PD.c_and_t, PD.c_and_f, PD.c_or_t, PD.c_or_f, PD.c_not_e, PD.c_vand_t, PD.c_vand_f, PD.c_vor_t, PD.c_vor_f, PD.c_sif_t, PD.c_sif_f, PD.c_nl_e, PD.c_lenO_e, PD.c_truO_e, PD.c_ixO2_e, PD.c_ixO_e, PD.c_meth3_e, PD.c_meth2_e, PD.c_meth_e, PD.c_sl3_e, PD.c_sl2_e, PD.c_sl_e, PD.c_os_e, PD.c_wS_e, PD.c_wR1_e, PD.c_wR2_e, PD.c_wE_e, PD.c_wZ_l, PD.c_wZ_t, PD.c_lc2_e, PD.c_lc_e, PD.c_seq_nx, PD.c_seq_bk, PD.c_seq_ct, PD.c_seq_rt, PD.c_drop_e, PD.c_set_e, PD.c_own_e, PD.c_nx_e, PD.c_asg_e, PD.c_par_e, PD.c_par3_e, PD.c_if_t, PD.c_if_f, PD.c_rt_e, PD.c_rto_e, PD.c_for_e, PD.c_gO3_e, PD.c_gO2_e, PD.c_gO_e, PD.gO_e, PD.gN_e, PD.gsNil_e, PD.gsCons_e, PD.gT_e, PD.sNil_e, PD.sC_e, PD.oNone_e, PD.tYesD_e, PD.kNil_e, PD.kRetN_e, PD.kBk_e, PD.kCt_e, PD.kNever_e, PD.runP_e, PD.runI_e, PD.outP_nx, PD.outP_rt, PD.outI_nx, PD.outI_rt, PD.sV, PD.ownL, PD.ini, List.map_cons, List.map_nil, List.length_cons, List.length_nil, Nat.reduceSub, Nat.reduceAdd, Nat.sub_self, Nat.zero_add, List.replicate_succ, List.replicate_zero, List.append_nil, List.cons_append, List.nil_append, List.getElem?_cons_zero, List.getElem?_cons_succ, List.getElem?_nil, List.set_cons_zero, List.set_cons_succ, Option.bind_none, Option.bind_assoc, Option.map_some, PD.seqD_list, PD.seqD_tuple, PD.wipeD, PD.unwipe, PD.rng1_i, PD.appD_l, PD.ixD_l, PD.ixD_t, PD.truD_n, PD.truD_b, PD.truD_i, PD.truD_l, PD.truD_t, PD.sliceD_l, PD.sliceD_t, PD.subD_i, PD.negD_i, PD.notD_b, PD.ltD_i, PD.leD_i, PD.gtD_i, PD.geD_i, PD.absD_i, PD.intD_i, PD.intD_b, PD.max2_i, PD.min2_i, PD.max3_i, PD.min3_i, PD.chn_e, PD.c_ch0_e, PD.c_ch1_e, PD.c_ch2_t, PD.c_ch2_f, PD.c_ch3_e, PD.lenD_l, PD.lenD_t, PD.listD_l, PD.listD_t, PD.tupleD_l, PD.tupleD_t, PD.listrevD_l, PD.iaddD_i, PD.addD_i, PD.mulD_i, PD.fdivD_i, PD.modD_i, PD.divmodD_i, PD.eqD_i, PD.neD_i, PD.isN_none, PD.isN_bool, PD.isN_int, PD.isN_str, PD.isN_list, PD.isN_tuple, PD.notN_none, PD.notN_bool, PD.notN_int, PD.notN_str, PD.notN_list, PD.notN_tuple, PD.eqD_b2, PD.neD_b2, PD.ix0, PD.ix1, PD.ix2, PD.ix3, PD.ix4, PD.ix5, PD.ixm1, PD.ixN30, PD.ixN31, PD.ixN32, Bool.false_eq_true, Bool.not_true, Bool.not_false, reduceCtorEq, decide_true, decide_false, Nat.reduceLT, Nat.reduceLeDiff, Nat.reduceEqDiff, Int.reduceLT, Int.reduceLE, Int.reduceToNat, Int.reduceNeg, Option.getD_some, Option.getD_none, and_self, and_true, true_and, PD.le_size, beq_self_eq_true, Bool.true_beq, Bool.false_beq, hM]
    rfl
  rw [frzFH] at wk
  have s12 := sameFH r2
  obtain ⟨Gd, Y, wk, hG, hY⟩ := wk
  refine lc_it wk (fun i Hc => ∃ qs : List Addr, qs.length = i ∧ Hc Dd = some (.lst (qs.map V.ref)) ∧ (Dd :: qs).Nodup ∧ (∀ q ∈ qs, H2 q = none) ∧ (∀ q ∈ qs, ∃ c, isBox Hc q c) ∧ Same H2 Hc) ?_ (fun i Hc _ ⟨qs, _, _, _, _, _, s3⟩ => hG Hc s3) (fun i x Hc H3 hi ⟨qs, e1, e2, e3, e4, e5, e6⟩ y => ?_) fun Hc ⟨qs, e1, e2, e3, e4, e5, e6⟩ => ?_
  · exact ⟨[], rfl, upd_same, by simp, fun q hq => (nomatch hq), fun q hq => (nomatch hq), PD.same_upd hD⟩
  · rw [rng_len'] at hi
    obtain ⟨s3, hd⟩ := hY i x Hc H3 (by rw [rng_len']; exact hi) e6 y
    have ed : (rng 0 M.toNat)[i]? = some (.int (0 + (i : Nat))) := by
      unfold rng
      rw [List.getElem?_map, List.getElem?_range hi]
      rfl
    have hx := hd [] (FH Hc) t σ _ ed (rep0 Hc (s12.trans e6)) (by rw [frzFH]; exact e6)
    rw [frzFH] at hx
    have hw0 : L2.wipe σ [3] = σ := rfl
    refine ⟨FH H3, t, .int (0 + (i : Nat)), _, rep0 H3 ((s12.trans e6).trans s3), by rw [frzFH]; exact hx, rfl, fun σ4 H4 r4 s4 o4 => ?_⟩
    rw [frzFH, frzFH] at s4
    have hσ : L2.wipe σ4 [3] = L2.wipe σ [3] := PD.wipe_eq o4.1 fun j hj => o4.2 j hj
    refine ⟨hσ, FH H3, _, true, _, r4, rfl, fun H5 r5 s5 => ?_⟩
    rw [frzFH, frzFH] at s5
    refine iteT ?_
    obtain ⟨_, eb, c, rfl, hbx⟩ := box_sp (cs := cs) (k := 0 + (i : Nat)) (by omega) (by omega) (by omega) hcs
    obtain ⟨ks, rfl⟩ := box_ints hbx
    refine ⟨FH H3, _, ks.map .int, t.set 3 (some (.int (0 + (i : Nat)))), r5, ?_, fun p vs H6 r6 s6 hp6 dp6 => ?_⟩
    · show callD e__law_box _ _ = _
      simp -implicitDefEqProofs (disch := (first | assumption | (refine' PD.mulOk_sz ?a ?b ?c; (case a => (repeat' (first | assumption | exact PD.Sz.fmod (PD.Sz.lit (n := 64) (by decide)) (by decide) | exact PD.Sz.lit (n := 64) (by decide) | apply PD.Sz.mul | apply PD.Sz.add | apply PD.Sz.sub | apply PD.Sz.neg))); (case b => (repeat' (first | assumption | exact PD.Sz.fmod (PD.Sz.lit (n := 64) (by decide)) (by decide) | exact PD.Sz.lit (n := 64) (by decide) | apply PD.Sz.mul | apply PD.Sz.add | apply PD.Sz.sub | apply PD.Sz.neg))); (case c => decide)) | (exact PD.divOk_sz (PD.Sz.lit (n := 64) (by decide)) (by decide) (by decide)) | omega | (apply PD.lt_size; (first | decide | omega)))) only [PD.compD_nil, PD.compD_cons, PD.c_cp0_e, PD.c_cp1_t, PD.c_cp1_f, PD.c_cp2_e, PD.c_k0_e, PD.c_k1_t, PD.c_k1_f, PD.c_k2_e, PD.forD_nil, PD.forD_cons, PD.c_f1_e, PD.c_f2_nx, PD.c_f2_ct, PD.c_f2_bk, PD.c_f2_rt, ↓Option.bind_some, ↓reduceIte, PD.sCons_e, PD.sTup_e, PD.sLst_e, PD.bin_e, PD.un_e, PD.callD_e, PD.callI_e, PD.tru_e, PD.tand_e, PD.tor_e, PD.tnot_e, PD.vand_e, PD.vor_e, PD.sIf_e, PD.nl_e, PD.lenO_e, PD.truO_e, PD.ixO_e, PD.methO_e, PD.sSl_e, PD.oSome_e, PD.wS_e, PD.wR1_e, PD.wR2_e, PD.wE_e, PD.wZ_e, PD.sLc_e, PD.kSeq_e, PD.kDrop_e, PD.kSet_e, PD.kOwn_e, PD.kAsg_e, PD.kPar_e, PD.kPar3_e, PD.kIf_e, PD.kRet_e, PD.kRetO_e, PD.kFor_e, PD.kWhile_e, PD.c_ret_e, PD.c_retL_e, PD.c_retB_e, PD.c_sCons2_e, PD.c_sCons1_e, PD.c_tup_e, PD.c_lst_e, PD.c_bin2_e, PD.c_bin1_e, PD.c_un_e, PD.c_call_e, PD.c_callI3_e, PD.c_callI2_e, PD.c_callI_e, PD.c_tru_e, PD.c_and_t, PD.c_and_f, PD.c_or_t, PD.c_or_f, PD.c_not_e, PD.c_vand_t, PD.c_vand_f, PD.c_vor_t, PD.c_vor_f, PD.c_sif_t, PD.c_sif_f, PD.c_nl_e, PD.c_lenO_e, PD.c_truO_e, PD.c_ixO2_e, PD.c_ixO_e, PD.c_meth3_e, PD.c_meth2_e, PD.c_meth_e, PD.c_sl3_e, PD.c_sl2_e, PD.c_sl_e, PD.c_os_e, PD.c_wS_e, PD.c_wR1_e, PD.c_wR2_e, PD.c_wE_e, PD.c_wZ_l, PD.c_wZ_t, PD.c_lc2_e, PD.c_lc_e, PD.c_seq_nx, PD.c_seq_bk, PD.c_seq_ct, PD.c_seq_rt, PD.c_drop_e, PD.c_set_e, PD.c_own_e, PD.c_nx_e, PD.c_asg_e, PD.c_par_e, PD.c_par3_e, PD.c_if_t, PD.c_if_f, PD.c_rt_e, PD.c_rto_e, PD.c_for_e, PD.c_gO3_e, PD.c_gO2_e, PD.c_gO_e, PD.gO_e, PD.gN_e, PD.gsNil_e, PD.gsCons_e, PD.gT_e, PD.sNil_e, PD.sC_e, PD.oNone_e, PD.tYesD_e, PD.kNil_e, PD.kRetN_e, PD.kBk_e, PD.kCt_e, PD.kNever_e, PD.runP_e, PD.runI_e, PD.outP_nx, PD.outP_rt, PD.outI_nx, PD.outI_rt, PD.sV, PD.ownL, PD.ini, List.map_cons, List.map_nil, List.length_cons, List.length_nil, Nat.reduceSub, Nat.reduceAdd, Nat.sub_self, Nat.zero_add, List.replicate_succ, List.replicate_zero, List.append_nil, List.cons_append, List.nil_append, List.getElem?_cons_zero, List.getElem?_cons_succ, List.getElem?_nil, List.set_cons_zero, List.set_cons_succ, Option.bind_none, Option.bind_assoc, Option.map_some, PD.seqD_list, PD.seqD_tuple, PD.wipeD, PD.unwipe, PD.rng1_i, PD.appD_l, PD.ixD_l, PD.ixD_t, PD.truD_n, PD.truD_b, PD.truD_i, PD.truD_l, PD.truD_t, PD.sliceD_l, PD.sliceD_t, PD.subD_i, PD.negD_i, PD.notD_b, PD.ltD_i, PD.leD_i, PD.gtD_i, PD.geD_i, PD.absD_i, PD.intD_i, PD.intD_b, PD.max2_i, PD.min2_i, PD.max3_i, PD.min3_i, PD.chn_e, PD.c_ch0_e, PD.c_ch1_e, PD.c_ch2_t, PD.c_ch2_f, PD.c_ch3_e, PD.lenD_l, PD.lenD_t, PD.listD_l, PD.listD_t, PD.tupleD_l, PD.tupleD_t, PD.listrevD_l, PD.iaddD_i, PD.addD_i, PD.mulD_i, PD.fdivD_i, PD.modD_i, PD.divmodD_i, PD.eqD_i, PD.neD_i, PD.isN_none, PD.isN_bool, PD.isN_int, PD.isN_str, PD.isN_list, PD.isN_tuple, PD.notN_none, PD.notN_bool, PD.notN_int, PD.notN_str, PD.notN_list, PD.notN_tuple, PD.eqD_b2, PD.neD_b2, PD.ix0, PD.ix1, PD.ix2, PD.ix3, PD.ix4, PD.ix5, PD.ixm1, PD.ixN30, PD.ixN31, PD.ixN32, Bool.false_eq_true, Bool.not_true, Bool.not_false, reduceCtorEq, decide_true, decide_false, Nat.reduceLT, Nat.reduceLeDiff, Nat.reduceEqDiff, Int.reduceLT, Int.reduceLE, Int.reduceToNat, Int.reduceNeg, Option.getD_some, Option.getD_none, and_self, and_true, true_and, PD.le_size, beq_self_eq_true, Bool.true_beq, Bool.false_beq, t, eb]
    have k6 : Same H3 (del H6 p) := sameFH r6
    rw [frzFH] at dp6
    have ev := DpAll.ints dp6
    subst ev
    have hp3 : H3 p = none := by
      cases z : H3 p with
      | none => rfl
      | some o =>
        have := k6 p o z
        rw [del_self] at this
        cases this
    have hpc : Hc p = none := by
      cases z : Hc p with
      | none => rfl
      | some o =>
        have := s3 p o z
        rw [hp3] at this
        cases this
    have kc : ∀ b o, Hc b = some o → H6 b = some o := fun b o z => del_same _ _ _ _ (k6 b o (s3 b o z))
    have nep : ∀ b o, Hc b = some o → b ≠ p := fun b o z q => by rw [q, hpc] at z; cases z
    have hpD : Dd ≠ p := nep _ _ e2
    have hpq : ∀ q ∈ qs, q ≠ p := fun q hq => by
      obtain ⟨c, _, z⟩ := e5 q hq
      exact nep _ _ z
    have hdq : ∀ q ∈ qs, q ≠ Dd := fun q hq z => (List.nodup_cons.mp e3).1 (z ▸ hq)
    refine ⟨qs.map V.ref, kc _ _ e2, by rw [List.length_map, e1]; exact lt_size (by omega), qs ++ [p], by rw [List.length_append, e1]; rfl, ?_, ?_, fun q hq => ?_, fun q hq => ?_, fun b o z => ?_⟩
    · rw [upd_same, List.map_append]; rfl
    · rw [List.nodup_cons] at e3 ⊢
      refine ⟨fun z => ?_, ?_⟩
      · rcases List.mem_append.mp z with z | z
        · exact e3.1 z
        · exact hpD (List.mem_singleton.mp z)
      · rw [List.nodup_append]
        refine ⟨e3.2, by simp, fun u hu v hv z => ?_⟩
        rw [List.mem_singleton.mp hv] at z
        exact hpq u hu z
    · rcases List.mem_append.mp hq with z | z
      · exact e4 q z
      · rw [List.mem_singleton.mp z]
        cases z2 : H2 p with
        | none => rfl
        | some o =>
          have := e6 p o z2
          rw [hpc] at this
          cases this
    · rcases List.mem_append.mp hq with z | z
      · obtain ⟨c, g1, g2⟩ := e5 q z
        exact ⟨c, g1, by rw [upd_ne (hdq q z)]; exact kc _ _ g2⟩
      · rw [List.mem_singleton.mp z]
        exact ⟨ks, hbx, by rw [upd_ne (Ne.symm hpD)]; exact hp6⟩
    · have hb : b ≠ Dd := fun z2 => by rw [z2, hD] at z; cases z
      rw [upd_ne hb]
      exact kc _ _ (e6 _ _ z)
  · have h0 : ∀ b, H2 b = none → H b = none := fun b z => by
      cases z2 : H b with
      | none => rfl
      | some o =>
        have := s12 b o (s1 b o z2)
        rw [z] at this
        cases this
    exact q Dd qs Hc (h0 _ hD) e3 (fun q hq => h0 _ (e4 q hq)) e2 e5 (s1.trans (s12.trans e6))
end
end W

set_option maxHeartbeats 4000000
namespace W
open PySem L2 PD
/-! ### the law: a walk over new boxes -/
def tBox (c : List D) : DSt := [none, some (.list c), none, none, none, none, none, none, none]
def BodyOk : Prop := ∀ c, BoxOk 0 c → ∃ t' : DSt, b_law (tBox c) = some (.nx t') ∧ t'.length = 9
theorem repBox {K : PySem.W.Frag} {H : Hp} {q : Addr} {c : List Int} {σ : L2.St} (hl : σ.length = 9) (hσ : σ[1]? = some (some (.ref q))) (h : H q = some (.lst (c.map V.int))) : Rep K [1] ⟨fun _ => q, del H q, fun _ => true⟩ (tBox (c.map .int)) σ H := by
  refine ⟨hl.symm, fun i d hi e => ?_, fun i hi => ?_, fun i j hi hj _ => ?_, fun a o e => del_same _ _ _ _ e, fun i hi => del_self⟩
  · match i, hi, e with
    | 0, _, e => cases e
    | 1, hi, _ => exact absurd (List.mem_singleton.mpr rfl) hi
    | 2, _, e => cases e
    | 3, _, e => cases e
    | 4, _, e => cases e
    | 5, _, e => cases e
    | 6, _, e => cases e
    | 7, _, e => cases e
    | 8, _, e => cases e
    | n + 9, _, e => cases e
  · have := List.mem_singleton.mp hi
    subst this
    exact ⟨_, _, rfl, hσ, h, dpAll_ints c⟩
  · rw [List.mem_singleton.mp hi, List.mem_singleton.mp hj]
section
variable {P : Program} {w : World} {K : PySem.W.Frag} {mg : Str → Option Value} {base : Heap}
theorem law_run (hbody : BodyOk) (T : Tx K mg) {fa : Addr} (hfa : mg "law" = some (.ref fa)) {H : Hp} {s : Shared} {a : Addr} {ns : List Int} (hl : ns.length ≤ 63) (hbt : ∀ z ∈ ns, Builtin.Int.intBits z ≤ 1048576) (hs : SqL K H a (ns.map V.int)) (e0 : Env0 P w K mg base PySem.callerA [] s H) :
    codeAny (model P w) PySem.callerA (.call (.ref fa) ⟨[.ref a], []⟩) (CR CX0 [] P w H s (fun v _ => v = .bl true) fun _ _ _ => False) s := by
  obtain ⟨f, fd, F, hm, hb⟩ := T.f_law
  have e := hfa.symm.trans hm
  cases e
  have nd := sc_law.nd
  obtain ⟨f1, fd1, G1, m1, kp1, b1⟩ := boxes_ok (P := P) (w := w) (base := base) T
  refine fn_at (k := 7) (us := [.ref a]) (vs := [.ref a]) F sc_law ⟨rfl, by decide, by decide⟩ e0 (binds_law F (fun _ _ _ _ _ _ us hl => match us, hl with | [_], _ => rfl) s (.ref a)) (.cons rfl .nil) rfl fun cdv hr => ?_
  refine ⟨_, pss_cons (ps_for PassesOwn.never rfl (pi_list (pe_call G1 (hr.mono (by decide)) rfl m1 kp1 b1 .nil pass0 (pa_cons (pv 0) (pa_cons pe_int pa_nil)))) (pg_name (i := 1) nd rfl (by first | exact Or.inl rfl | exact Or.inr rfl)) (okb_law T cdv _ _ s H _ hr rfl))
    (pss_one (ps_ret pe_bl)), ?_⟩
  refine ⟨_, rfl, a, ns, rfl, hs, hl, hbt, fun p qs H1 hp hn hq hp1 hbx s1 => ?_⟩
  refine ⟨p, rfl, ⟨_, .inl (.inl hp1)⟩, ?_⟩
  refine for_it (walk_list (xs := qs.map V.ref)) (fun i σ Hc => σ.length = 9 ∧ Hc p = some (.lst (qs.map V.ref)) ∧ (∀ q ∈ qs.drop i, ∃ c, isBox Hc q c)) ⟨rfl, hp1, hbx⟩ (fun i σ Hc _ z => .inl (.inl z.2.1)) (fun i x σ Hc H3 hi ⟨e1, e2, e3⟩ y => ?_) fun σ Hc _ => rfl
  obtain ⟨rfl, hx⟩ := y
  rw [List.length_map] at hi
  rw [List.getElem?_map, List.getElem?_eq_getElem hi] at hx
  cases hx
  have hd : qs.drop i = qs[i] :: qs.drop (i + 1) := List.drop_eq_getElem_cons hi
  obtain ⟨c, hc, hqc⟩ := e3 qs[i] (by rw [hd]; exact List.mem_cons_self)
  obtain ⟨t', et, lt⟩ := hbody _ hc
  refine ⟨_, _, _, repBox (c := c) (q := qs[i]) (by rw [List.length_set]; exact e1) ?_ hqc, et, fun F5 σ5 H5 l5 r5 => ⟨?_, ?_, fun q' hq' => ?_⟩⟩
  · rw [List.getElem?_set_self (by rw [e1]; decide)]
  · rw [← r5.len, lt]
  · refine r5.keep _ _ ?_
    rw [l5.1, show (Fr.mk (fun _ => qs[i]) (del H3 qs[i]) fun _ => true).B = del H3 qs[i] from rfl, del_ne]
    · exact e2
    · intro z
      exact (List.nodup_cons.mp hn).1 (z ▸ List.getElem_mem hi)
  · have hm : q' ∈ qs.drop i := by rw [hd]; exact List.mem_cons_of_mem _ hq'
    obtain ⟨c', g1, g2⟩ := e3 q' hm
    refine ⟨c', g1, r5.keep _ _ ?_⟩
    rw [l5.1, show (Fr.mk (fun _ => qs[i]) (del H3 qs[i]) fun _ => true).B = del H3 qs[i] from rfl, del_ne]
    · exact g2
    · intro z
      have n2 : (qs.drop i).Nodup := (List.nodup_cons.mp hn).2.sublist (List.drop_sublist _ _)
      rw [hd] at n2
      exact (List.nodup_cons.mp n2).1 (z ▸ hq')
end
end W

set_option maxHeartbeats 2000000
namespace W
open PySem L2 PD
/-! ### areas of rings of whole points, plain -/
abbrev IP := Int × Int
def icr (a p : IP) : Int := a.1 * p.2 - p.1 * a.2
def iwalk (a : IP) : List IP → Int
  | [] => 0
  | p :: r => icr a p + iwalk p r
def iend (a : IP) : List IP → IP
  | [] => a
  | p :: r => iend p r
def sar : List IP → Int
  | [] => 0
  | p :: r => icr (iend p r) p + iwalk p r
theorem iend_app (a : IP) : ∀ l m : List IP, iend a (l ++ m) = iend (iend a l) m
  | [], m => rfl
  | p :: l, m => iend_app p l m
theorem iwalk_app (a : IP) : ∀ l m : List IP, iwalk a (l ++ m) = iwalk a l + iwalk (iend a l) m
  | [], m => by show iwalk a m = 0 + iwalk a m; omega
  | p :: l, m => by
    show icr a p + iwalk p (l ++ m) = icr a p + iwalk p l + iwalk (iend p l) m
    rw [iwalk_app p l m]
    omega
theorem sar_walk {ps : List IP} (h : ps ≠ []) (a : IP) : sar ps = iwalk (iend a ps) ps := by
  cases ps with
  | nil => exact absurd rfl h
  | cons p r => rfl
theorem sar_rot (xs ys : List IP) : sar (ys ++ xs) = sar (xs ++ ys) := by
  cases xs with
  | nil => rw [List.append_nil, List.nil_append]
  | cons x xr =>
    cases ys with
    | nil => rw [List.append_nil, List.nil_append]
    | cons y yr =>
      rw [sar_walk (by simp) x, sar_walk (ps := x :: xr ++ y :: yr) (by simp) x, iend_app, iend_app, iwalk_app, iwalk_app]
      exact Int.add_comm (iwalk (iend x xr) (y :: yr)) (iwalk (iend y yr) (x :: xr))
def aff (a b c d e f : Int) (p : IP) : IP := (a * p.1 + b * p.2 + e, c * p.1 + d * p.2 + f)
theorem iend_map (f : IP → IP) (a : IP) : ∀ l : List IP, iend (f a) (l.map f) = f (iend a l)
  | [] => rfl
  | p :: r => iend_map f p r
def lin (a b c d : Int) (p : IP) : IP := (a * p.1 + b * p.2, c * p.1 + d * p.2)
theorem iwalk_aff (a b c d e f : Int) : ∀ (o : IP) (l : List IP), iwalk (aff a b c d e f o) (l.map (aff a b c d e f)) = (a * d - b * c) * iwalk o l + (icr (e, f) (lin a b c d (iend o l)) - icr (e, f) (lin a b c d o))
  | o, [] => by
    show (0 : Int) = (a * d - b * c) * 0 + (icr (e, f) (lin a b c d o) - icr (e, f) (lin a b c d o))
    grind
  | o, p :: r => by
    have h := iwalk_aff a b c d e f p r
    show icr (aff a b c d e f o) (aff a b c d e f p) + iwalk (aff a b c d e f p) (r.map (aff a b c d e f)) = (a * d - b * c) * (icr o p + iwalk p r) + (icr (e, f) (lin a b c d (iend p r)) - icr (e, f) (lin a b c d o))
    rw [h]
    unfold icr aff lin
    grind
theorem sar_aff (a b c d e f : Int) (ps : List IP) : sar (ps.map (aff a b c d e f)) = (a * d - b * c) * sar ps := by
  cases ps with
  | nil => show (0 : Int) = (a * d - b * c) * 0; grind
  | cons p r =>
    show icr (iend (aff a b c d e f p) (r.map (aff a b c d e f))) (aff a b c d e f p) + iwalk (aff a b c d e f p) (r.map (aff a b c d e f)) = (a * d - b * c) * (icr (iend p r) p + iwalk p r)
    rw [iend_map, iwalk_aff]
    unfold icr aff lin
    grind
/-- a point on the way from its neighbour to its neighbour may go -/
theorem sar_drop1 (b : IP) (m : List IP) (h : ∀ a c, m.head? = some c → a = iend b m → (b.1 - a.1) * (c.2 - b.2) = (b.2 - a.2) * (c.1 - b.1)) : sar (b :: m) = sar m := by
  cases m with
  | nil => show icr b b + 0 = 0; unfold icr; grind
  | cons c r =>
    have h := h (iend c r) c rfl rfl
    show icr (iend c r) b + (icr b c + iwalk c r) = icr (iend c r) c + iwalk c r
    unfold icr
    grind
def isum (zs : List Int) : Int := zs.foldr (· + ·) 0
theorem isum_cons (z : Int) (zs : List Int) : isum (z :: zs) = z + isum zs := rfl
theorem isum_app : ∀ l m : List Int, isum (l ++ m) = isum l + isum m
  | [], m => by show isum m = 0 + isum m; omega
  | a :: l, m => by
    have := isum_app l m
    show a + isum (l ++ m) = a + isum l + isum m
    omega
def iparts (a : IP) : List IP → List Int
  | [] => []
  | p :: r => icr a p :: iparts p r
theorem iparts_sum : ∀ (a : IP) (l : List IP), isum (iparts a l) = iwalk a l
  | _, [] => rfl
  | a, p :: r => by show icr a p + isum (iparts p r) = icr a p + iwalk p r; rw [iparts_sum p r]
theorem iparts_len : ∀ (a : IP) (l : List IP), (iparts a l).length = l.length
  | _, [] => rfl
  | a, p :: r => by show (iparts p r).length + 1 = r.length + 1; rw [iparts_len p r]
/-- all points within b -/
def Bd (b : Nat) (ps : List IP) : Prop := ∀ p ∈ ps, p.1.natAbs ≤ b ∧ p.2.natAbs ≤ b
end W

set_option maxHeartbeats 2000000
namespace W
open PySem L2 PD
theorem comp_pure {α : Type} {vs : List Nat} {g : SG} {ft : SB} {fe : SE} (dat out : α → D) (t : DSt) : ∀ (xs : List α) (acc : List D), acc.length + xs.length < 1000000 → (∀ x, x ∈ xs → Wp ((g (dat x) t).bind (c_k0 ft fe)) fun r => r.1 = some (out x) ∧ wipeD r.2 vs = t) → compD vs g ft fe (xs.map dat) t acc = some (acc ++ xs.map out, t)
  | [], acc, _, _ => by rw [List.map_nil, List.map_nil, List.append_nil]; rfl
  | x :: xs, acc, hl, h => by
    have hx := h x List.mem_cons_self
    rw [List.length_cons] at hl
    have ih := comp_pure (vs := vs) (g := g) (ft := ft) (fe := fe) dat out t xs (acc ++ [out x]) (by rw [List.length_append, List.length_singleton]; omega) fun y hy => h y (List.mem_cons_of_mem _ hy)
    rw [List.map_cons, compD_cons]
    have key : ∀ (ds : List D), (g (dat x) t).bind (c_cp0 vs g ft fe ds acc) = compD vs g ft fe ds t (acc ++ [out x]) := fun ds => by
      obtain ⟨⟨o, t'⟩, e1, e2, e3⟩ := hx
      dsimp only at e2 e3
      subst e2
      obtain ⟨t1, z1, z2⟩ := Option.bind_eq_some_iff.mp e1
      rw [z1, Option.bind_some, c_cp0_e]
      rw [c_k0_e] at z2
      obtain ⟨⟨b, t2⟩, z3, z4⟩ := Option.bind_eq_some_iff.mp z2
      rw [z3, Option.bind_some]
      cases b with
      | false => rw [c_k1_f] at z4; cases z4
      | true =>
        rw [c_k1_t] at z4
        obtain ⟨⟨y, t3⟩, z5, z6⟩ := Option.bind_eq_some_iff.mp z4
        rw [c_k2_e] at z6
        cases z6
        rw [c_cp1_t, z5, Option.bind_some, c_cp2_e _ _ _ _ _ _ _ _ (by rw [sizeLine_eq]; omega), e3]
    rw [key, ih, List.map_cons, List.append_assoc]
    rfl
def pt2 (p : IP) : D := .tuple [.int p.1, .int p.2]
def pt3 (p : IP) : D := .tuple [.int p.1, .int p.2, .int 1]
def ringD (ps : List IP) : D := .tuple (ps.map pt3)
def ring2 (ps : List IP) : D := .list (ps.map pt2)
def roomD (o : List IP) (qs : List (List IP)) : D := .tuple [ringD o, .tuple (qs.map ringD)]
theorem sumD_i (zs : List Int) : sumD [.list (zs.map .int)] = some (.int (isum zs)) := by
  show (intsD (zs.map .int)).map _ = _
  rw [intsD_map]; rfl
abbrev BP (p : IP) : Prop := p.1.natAbs ≤ 100000 ∧ p.2.natAbs ≤ 100000
theorem BP.s1 {p : IP} (h : BP p) : Sz 20 p.1 := Sz.lit (by have := h.1; omega)
theorem BP.s2 {p : IP} (h : BP p) : Sz 20 p.2 := Sz.lit (by have := h.2; omega)
theorem icr_sz {a p : IP} (h : BP a) (h' : BP p) : Sz 64 (icr a p) := by
  have : Sz 41 (icr a p) := (h.s1.mul h'.s2).sub (h'.s1.mul h.s2)
  exact this.mono (by decide)
theorem isum_le (B : Nat) : ∀ zs : List Int, (∀ z ∈ zs, z.natAbs ≤ B) → (isum zs).natAbs ≤ zs.length * B
  | [], _ => by show (0 : Int).natAbs ≤ _; omega
  | z :: zs, h => by
    have h1 := h z List.mem_cons_self
    have h2 := isum_le B zs fun y hy => h y (List.mem_cons_of_mem _ hy)
    rw [isum_cons, List.length_cons, Nat.add_mul]
    omega
structure RingOk (ps : List IP) : Prop where
  ne : ps ≠ []
  len : ps.length ≤ 100
  bd : ∀ p ∈ ps, BP p
theorem iparts_bd : ∀ (l : List IP) (a : IP), BP a → (∀ p ∈ l, BP p) → ∀ z ∈ iparts a l, z.natAbs ≤ 20000000000
  | [], _, _, _, z, hz => nomatch hz
  | p :: r, a, ha, hp, z, hz => by
    have hp1 := hp p List.mem_cons_self
    rcases List.mem_cons.mp hz with rfl | hz
    · unfold icr
      have h1 : (a.1 * p.2).natAbs ≤ 100000 * 100000 := by rw [Int.natAbs_mul]; exact Nat.mul_le_mul ha.1 hp1.2
      have h2 : (p.1 * a.2).natAbs ≤ 100000 * 100000 := by rw [Int.natAbs_mul]; exact Nat.mul_le_mul hp1.1 ha.2
      generalize a.1 * p.2 = u at *
      generalize p.1 * a.2 = v at *
      omega
    · exact iparts_bd r p hp1 (fun q hq => hp q (List.mem_cons_of_mem _ hq)) z hz
theorem sar_bd {ps : List IP} (h : RingOk ps) : (sar ps).natAbs ≤ 2000000000000 := by
  obtain ⟨b, a, rfl⟩ : ∃ b a, ps = b ++ [a] := ⟨ps.dropLast, ps.getLast h.ne, (List.dropLast_concat_getLast h.ne).symm⟩
  have hlast : iend a (b ++ [a]) = a := by rw [iend_app]; rfl
  rw [sar_walk (by simp) a, hlast, ← iparts_sum]
  have := isum_le _ _ (iparts_bd (b ++ [a]) a (h.bd a (by simp)) h.bd)
  rw [iparts_len] at this
  have hl := h.len
  have : (b ++ [a]).length * 20000000000 ≤ 100 * 20000000000 := Nat.mul_le_mul_right _ hl
  omega
def rar (o : List IP) (qs : List (List IP)) : Int := sar o - isum (qs.map sar)
structure RoomOk (o : List IP) (qs : List (List IP)) : Prop where
  o : RingOk o
  q : ∀ q ∈ qs, RingOk q
  len : qs.length ≤ 10
def prs (a : IP) : List IP → List (IP × IP)
  | [] => []
  | p :: r => (a, p) :: prs p r
theorem prs_len : ∀ (l : List IP) (a : IP), (prs a l).length = l.length
  | [], _ => rfl
  | p :: r, a => by show (prs p r).length + 1 = r.length + 1; rw [prs_len r p]
theorem prs_get : ∀ (l : List IP) (a : IP) (k : Nat) (h : k < l.length), (prs a l)[k]? = some ((a :: l)[k]'(by rw [List.length_cons]; omega), l[k])
  | p :: r, a, 0, h => rfl
  | p :: r, a, k + 1, h => by
    have := prs_get r p k (by simpa using h)
    show (prs p r)[k]? = _
    rw [this]; rfl
theorem prs_sum : ∀ (l : List IP) (a : IP), isum ((prs a l).map fun x => icr x.1 x.2) = iwalk a l
  | [], _ => rfl
  | p :: r, a => by show icr a p + isum ((prs p r).map fun x => icr x.1 x.2) = icr a p + iwalk p r; rw [prs_sum r p]
def prD (x : IP × IP) : D := .tuple [pt3 x.1, pt3 x.2]
theorem atI_map {ps : List IP} {k : Nat} (h : k < ps.length) (f : IP → D) : atI (ps.map f) (k : Int) = some (f ps[k]) := atI_nat (by rw [List.getElem?_map, List.getElem?_eq_getElem h]; rfl)
theorem cut_from {α : Type} (l : List α) (k : Nat) : cut l (some (k : Int)) none = l.drop k := by
  unfold cut
  rw [HT.sIx_none, HT.sIx_nat]
  by_cases h : k ≤ l.length
  · rw [Nat.min_eq_left h, List.take_of_length_le (by rw [List.length_drop]; omega)]
  · rw [Nat.min_eq_right (by omega), List.drop_length, List.drop_eq_nil_of_le (by omega), List.take_nil]
theorem addD_t {a b : List D} (h : a.length + b.length ≤ 1000000) : addD (.tuple a) (.tuple b) = some (.tuple (a ++ b)) := if_pos (by rw [sizeLine_eq]; omega)
def f1 (p : IP) : IP := (0 - p.2, p.1)
theorem sar_f1 (ps : List IP) : sar (ps.map f1) = sar ps := by
  have := sar_aff 0 (-1) 1 0 0 0 ps
  rw [show ps.map f1 = ps.map (aff 0 (-1) 1 0 0 0) from List.map_congr_left fun p _ => by unfold f1 aff; congr 1 <;> omega, this]
  omega
theorem lmax_some : ∀ ns : List Int, ns ≠ [] → ∃ m, lmax ns = some m
  | [], h => absurd rfl h
  | [x], _ => ⟨x, rfl⟩
  | x :: y :: r, _ => by
    obtain ⟨m, e⟩ := lmax_some (y :: r) (by simp)
    exact ⟨_, by show (lmax (y :: r)).map _ = _; rw [e]; rfl⟩
end W

set_option maxHeartbeats 2000000
namespace W
open PySem L2 PD
/-! ### a ring trimmed -/
def trC : SB := (tru (bin ltD (sV 2) (lenO 1)))
def trI : SS := (kIf (tru (bin eqD (bin mulD (bin subD (bin ixD (sV 4) (sC (.int 0))) (bin ixD (sV 3) (sC (.int 0)))) (bin subD (bin ixD (sV 5) (sC (.int 1))) (bin ixD (sV 4) (sC (.int 1))))) (bin mulD (bin subD (bin ixD (sV 4) (sC (.int 1))) (bin ixD (sV 3) (sC (.int 1)))) (bin subD (bin ixD (sV 5) (sC (.int 0))) (bin ixD (sV 4) (sC (.int 0))))))) (kSeq (kDrop (methO 1 popAtD (sCons (sV 2) sNil)))
  (kSet 2 (sC (.int 0)))) (kSet 2 (bin addD (sV 2) (sC (.int 1)))))
def trB : SS := (kSeq (kPar3 3 4 5 (sCons (ixO 1 (bin subD (sV 2) (sC (.int 1)))) (sCons (ixO 1 (sV 2)) (sCons (ixO 1 (bin modD (bin addD (sV 2) (sC (.int 1))) (lenO 1))) sNil))))
  trI)
theorem at_prev (u v : List IP) (b : IP) : atI ((u ++ b :: v).map pt2) ((u.length : Int) - 1) = some (pt2 (iend b (v ++ u))) := by
  rcases List.eq_nil_or_concat u with rfl | ⟨u, a, rfl⟩
  · rw [List.nil_append, List.append_nil, show ((([] : List IP).length : Int) - 1) = -1 from rfl]
    rcases List.eq_nil_or_concat v with rfl | ⟨v, a, rfl⟩
    · exact ixm1 (r := [])
    · rw [List.concat_eq_append, show b :: (v ++ [a]) = (b :: v) ++ [a] from rfl, List.map_append, iend_app]
      exact ixm1
  · rw [List.concat_eq_append, List.length_append, List.length_singleton, ← List.append_assoc, iend_app, show (((u.length + 1 : Nat) : Int) - 1) = ((u.length : Nat) : Int) by omega]
    refine atI_nat ?_
    rw [List.getElem?_map, List.append_assoc, List.getElem?_append_right (by omega), Nat.sub_self]
    rfl
theorem at_next (u v : List IP) (b : IP) : atI ((u ++ b :: v).map pt2) (((u.length : Int) + 1).fmod ((u ++ b :: v).length : Int)) = some (pt2 ((v ++ u).headD b)) := by
  rw [Int.fmod_eq_emod_of_nonneg _ (by omega)]
  cases v with
  | nil =>
    have : ((u.length : Int) + 1) % ((u ++ [b]).length : Int) = ((0 : Nat) : Int) := by
      rw [List.length_append, List.length_singleton, show ((u.length : Int) + 1) = ((u.length + 1 : Nat) : Int) by omega, Int.emod_self]; rfl
    rw [this, List.nil_append]
    refine atI_nat ?_
    cases u with
    | nil => rfl
    | cons c u => rfl
  | cons c v =>
    have : ((u.length : Int) + 1) % ((u ++ b :: c :: v).length : Int) = ((u.length + 1 : Nat) : Int) := by
      rw [Int.emod_eq_of_lt (by omega) (by rw [List.length_append, List.length_cons, List.length_cons]; omega)]; omega
    rw [this]
    refine atI_nat ?_
    rw [List.getElem?_map, List.getElem?_append_right (by omega), show u.length + 1 - u.length = 1 by omega]
    rfl
theorem at_here (u v : List IP) (b : IP) : atI ((u ++ b :: v).map pt2) (u.length : Int) = some (pt2 b) := by
  refine atI_nat ?_
  rw [List.getElem?_map, List.getElem?_append_right (by omega), Nat.sub_self]
  rfl
theorem sar_pop {u v : List IP} {b : IP} (h : (b.1 - (iend b (v ++ u)).1) * (((v ++ u).headD b).2 - b.2) = (b.2 - (iend b (v ++ u)).2) * (((v ++ u).headD b).1 - b.1)) : sar (u ++ v) = sar (u ++ b :: v) := by
  rw [sar_rot (b :: v) u, sar_rot v u]
  show sar (v ++ u) = sar (b :: (v ++ u))
  refine (sar_drop1 b (v ++ u) fun a c hc ha => ?_).symm
  subst ha
  have : (v ++ u).headD b = c := by
    cases hm : v ++ u with
    | nil => rw [hm] at hc; cases hc
    | cons x r => rw [hm] at hc; cases hc; rfl
  rw [this] at h
  exact h
theorem pop_at (u v : List IP) (b : IP) (hl : (u ++ b :: v).length ≤ 100) : popAtD ((u ++ b :: v).map pt2) [.int (u.length : Int)] = some (pt2 b, (u ++ v).map pt2) := by
  rw [List.length_append, List.length_cons] at hl
  unfold popAtD
  dsimp only
  rw [if_pos (by rw [Bool.and_eq_true, decide_eq_true_eq, decide_eq_true_eq]; constructor <;> omega)]
  have e : seqIndex? (u.length : Int) ((u ++ b :: v).map pt2).length = some u.length := by
    rw [List.length_map, List.length_append, List.length_cons]
    unfold seqIndex?
    simp
    omega
  rw [e, Option.bind_some, List.getElem?_map, List.getElem?_append_right (by omega), Nat.sub_self]
  show some (pt2 b, ((u ++ b :: v).map pt2).eraseIdx u.length) = _
  congr 2
  rw [List.map_append, List.map_cons, List.eraseIdx_append_of_length_le (by rw [List.length_map]; omega), List.length_map, Nat.sub_self, List.map_append]
  rfl
theorem tr_loop (P : Option D) : ∀ (n : Nat) (l : List IP) (k : Nat) (x y z : Option D), k ≤ l.length → (∀ p ∈ l, BP p) → l.length ≤ 100 → l.length * (l.length + 1) + (l.length - k) < n →
    ∃ l' k' x' y' z', whileD trC trB n [P, some (.list (l.map pt2)), some (.int (k : Int)), x, y, z] = some (.nx [P, some (.list (l'.map pt2)), some (.int k'), x', y', z']) ∧ sar l' = sar l ∧ l'.Sublist l := by
  intro n
  induction n with
  | zero => intro l k x y z _ _ _ h; omega
  | succ n ih =>
    intro l k x y z hk hb hl hn
    have hc : trC [P, some (.list (l.map pt2)), some (.int (k : Int)), x, y, z] = some (decide ((k : Int) < (l.length : Int)), [P, some (.list (l.map pt2)), some (.int (k : Int)), x, y, z]) := by
      simp -implicitDefEqProofs (disch := (first | assumption | (refine' PD.mulOk_sz ?a ?b ?c; (case a => (repeat' (first | assumption | exact PD.Sz.fmod (PD.Sz.lit (n := 64) (by decide)) (by decide) | exact PD.Sz.lit (n := 64) (by decide) | apply PD.Sz.mul | apply PD.Sz.add | apply PD.Sz.sub | apply PD.Sz.neg))); (case b => (repeat' (first | assumption | exact PD.Sz.fmod (PD.Sz.lit (n := 64) (by decide)) (by decide) | exact PD.Sz.lit (n := 64) (by decide) | apply PD.Sz.mul | apply PD.Sz.add | apply PD.Sz.sub | apply PD.Sz.neg))); (case c => decide)) | (exact PD.divOk_sz (PD.Sz.lit (n := 64) (by decide)) (by decide) (by decide)) | omega | (apply PD.lt_size; (first | decide | omega)))) only [PD.compD_nil, PD.compD_cons, PD.c_cp0_e, PD.c_cp1_t, PD.c_cp1_f, PD.c_cp2_e, PD.c_k0_e, PD.c_k1_t, PD.c_k1_f, PD.c_k2_e, PD.forD_nil, PD.forD_cons, PD.c_f1_e, PD.c_f2_nx, PD.c_f2_ct, PD.c_f2_bk, PD.c_f2_rt, ↓Option.bind_some, ↓reduceIte, PD.sCons_e, PD.sTup_e, PD.sLst_e, PD.bin_e, PD.un_e, PD.callD_e, PD.callI_e, PD.tru_e, PD.tand_e, PD.tor_e, PD.tnot_e, PD.vand_e, PD.vor_e, PD.sIf_e, PD.nl_e, PD.lenO_e, PD.truO_e, PD.ixO_e, PD.methO_e, PD.sSl_e, PD.oSome_e, PD.wS_e, PD.wR1_e, PD.wR2_e, PD.wE_e, PD.wZ_e, PD.sLc_e, PD.kSeq_e, PD.kDrop_e, PD.kSet_e, PD.kOwn_e, PD.kAsg_e, PD.kPar_e, PD.kPar3_e, PD.kIf_e, PD.kRet_e, PD.kRetO_e, PD.kFor_e, PD.kWhile_e, PD.c_ret_e, PD.c_retL_e, PD.c_retB_e, PD.c_sCons2_e, PD.c_sCons1_e, PD.c_tup_e, PD.c_lst_e, PD.c_bin2_e, PD.c_bin1_e, PD.c_un_e, PD.c_call_e, PD.c_callI3_e, PD.c_callI2_e, PD.c_callI_e, PD.c_tru_e, PD.c_and_t, PD.c_and_f, PD.c_or_t, PD.c_or_f, PD.c_not_e, PD.c_vand_t, PD.c_vand_f, PD.c_vor_t, PD.c_vor_f, PD.c_sif_t, PD.c_sif_f, PD.c_nl_e, PD.c_lenO_e, PD.c_truO_e, PD.c_ixO2_e, PD.c_ixO_e, PD.c_meth3_e, PD.c_meth2_e, PD.c_meth_e, PD.c_sl3_e, PD.c_sl2_e, PD.c_sl_e, PD.c_os_e, PD.c_wS_e, PD.c_wR1_e, PD.c_wR2_e, PD.c_wE_e, PD.c_wZ_l, PD.c_wZ_t, PD.c_lc2_e, PD.c_lc_e, PD.c_seq_nx, PD.c_seq_bk, PD.c_seq_ct, PD.c_seq_rt, PD.c_drop_e, PD.c_set_e, PD.c_own_e, PD.c_nx_e, PD.c_asg_e, PD.c_par_e, PD.c_par3_e, PD.c_if_t, PD.c_if_f, PD.c_rt_e, PD.c_rto_e, PD.c_for_e, PD.c_gO3_e, PD.c_gO2_e, PD.c_gO_e, PD.gO_e, PD.gN_e, PD.gsNil_e, PD.gsCons_e, PD.gT_e, PD.sNil_e, PD.sC_e, PD.oNone_e, PD.tYesD_e, PD.kNil_e, PD.kRetN_e, PD.kBk_e, PD.kCt_e, PD.kNever_e, PD.runP_e, PD.runI_e, PD.outP_nx, PD.outP_rt, PD.outI_nx, PD.outI_rt, PD.sV, PD.ownL, PD.ini, List.map_cons, List.map_nil, List.length_cons, List.length_nil, Nat.reduceSub, Nat.reduceAdd, Nat.sub_self, Nat.zero_add, List.replicate_succ, List.replicate_zero, List.append_nil, List.cons_append, List.nil_append, List.getElem?_cons_zero, List.getElem?_cons_succ, List.getElem?_nil, List.set_cons_zero, List.set_cons_succ, Option.bind_none, Option.bind_assoc, Option.map_some, PD.seqD_list, PD.seqD_tuple, PD.wipeD, PD.unwipe, PD.rng1_i, PD.appD_l, PD.ixD_l, PD.ixD_t, PD.truD_n, PD.truD_b, PD.truD_i, PD.truD_l, PD.truD_t, PD.sliceD_l, PD.sliceD_t, PD.subD_i, PD.negD_i, PD.notD_b, PD.ltD_i, PD.leD_i, PD.gtD_i, PD.geD_i, PD.absD_i, PD.intD_i, PD.intD_b, PD.max2_i, PD.min2_i, PD.max3_i, PD.min3_i, PD.chn_e, PD.c_ch0_e, PD.c_ch1_e, PD.c_ch2_t, PD.c_ch2_f, PD.c_ch3_e, PD.lenD_l, PD.lenD_t, PD.listD_l, PD.listD_t, PD.tupleD_l, PD.tupleD_t, PD.listrevD_l, PD.iaddD_i, PD.addD_i, PD.mulD_i, PD.fdivD_i, PD.modD_i, PD.divmodD_i, PD.eqD_i, PD.neD_i, PD.isN_none, PD.isN_bool, PD.isN_int, PD.isN_str, PD.isN_list, PD.isN_tuple, PD.notN_none, PD.notN_bool, PD.notN_int, PD.notN_str, PD.notN_list, PD.notN_tuple, PD.eqD_b2, PD.neD_b2, PD.ix0, PD.ix1, PD.ix2, PD.ix3, PD.ix4, PD.ix5, PD.ixm1, PD.ixN30, PD.ixN31, PD.ixN32, Bool.false_eq_true, Bool.not_true, Bool.not_false, reduceCtorEq, decide_true, decide_false, Nat.reduceLT, Nat.reduceLeDiff, Nat.reduceEqDiff, Int.reduceLT, Int.reduceLE, Int.reduceToNat, Int.reduceNeg, Option.getD_some, Option.getD_none, and_self, and_true, true_and, PD.le_size, beq_self_eq_true, Bool.true_beq, Bool.false_beq, trC, List.length_map]
    by_cases hlt : k < l.length
    · obtain ⟨u, b, v, rfl, rfl⟩ : ∃ u b v, l = u ++ b :: v ∧ k = u.length := ⟨l.take k, l[k], l.drop (k + 1), by rw [← List.drop_eq_getElem_cons hlt, List.take_append_drop], by rw [List.length_take]; omega⟩
      have hlen : (u ++ b :: v).length = u.length + (v.length + 1) := by rw [List.length_append, List.length_cons]
      have hprev := at_prev u v b
      have hnext := at_next u v b
      have hhere := at_here u v b
      have hb1 : BP b := hb b (by simp)
      have hmem : ∀ q, q ∈ v ++ u → BP q := fun q hq => hb q (by
        rcases List.mem_append.mp hq with h | h
        · exact List.mem_append.mpr (.inr (List.mem_cons_of_mem _ h))
        · exact List.mem_append.mpr (.inl h))
      have hend : ∀ (m : List IP) (a : IP), BP a → (∀ q ∈ m, BP q) → BP (iend a m) := by
        intro m
        induction m with
        | nil => intro a ha _; exact ha
        | cons q m ih2 => intro a _ hq; exact ih2 q (hq q List.mem_cons_self) fun r hr => hq r (List.mem_cons_of_mem _ hr)
      have ha1 : BP (iend b (v ++ u)) := hend _ b hb1 hmem
      have hc1 : BP ((v ++ u).headD b) := by
        cases hm : v ++ u with
        | nil => exact hb1
        | cons c r => exact hmem c (by rw [hm]; exact List.mem_cons_self)
      have hpop := pop_at u v b hl
      have hsar := @sar_pop u v b
      generalize iend b (v ++ u) = a at *
      generalize (v ++ u).headD b = c at *
      have m1 : mulOk (b.1 - a.1) (c.2 - b.2) = true := mulOk_sz (hb1.s1.sub ha1.s1) (hc1.s2.sub hb1.s2) (by decide)
      have m2 : mulOk (b.2 - a.2) (c.1 - b.1) = true := mulOk_sz (hb1.s2.sub ha1.s2) (hc1.s1.sub hb1.s1) (by decide)
      obtain ⟨L, hL⟩ : ∃ L, L = (u ++ b :: v).map pt2 := ⟨_, rfl⟩
      have hLl : L.length = (u ++ b :: v).length := by rw [hL, List.length_map]
      have hz : ((u ++ b :: v).length : Int) ≠ 0 := by omega
      rw [whileD, hc, decide_eq_true (by omega), Option.bind_some]
      dsimp only
      rw [← hL] at hprev hnext hhere hpop ⊢
      by_cases ht : (b.1 - a.1) * (c.2 - b.2) = (b.2 - a.2) * (c.1 - b.1)
      · have hs := hsar ht
        have hbody : trB [P, some (.list L), some (.int (u.length : Int)), x, y, z] = some (.nx [P, some (.list ((u ++ v).map pt2)), some (.int 0), some (pt2 a), some (pt2 b), some (pt2 c)]) := by
          have hbq : ((b.1 - a.1) * (c.2 - b.2) == (b.2 - a.2) * (c.1 - b.1)) = true := by rw [ht]; exact beq_self_eq_true _
          simp -implicitDefEqProofs (disch := (first | assumption | (refine' PD.mulOk_sz ?a ?b ?c; (case a => (repeat' (first | assumption | exact PD.Sz.fmod (PD.Sz.lit (n := 64) (by decide)) (by decide) | exact PD.Sz.lit (n := 64) (by decide) | apply PD.Sz.mul | apply PD.Sz.add | apply PD.Sz.sub | apply PD.Sz.neg))); (case b => (repeat' (first | assumption | exact PD.Sz.fmod (PD.Sz.lit (n := 64) (by decide)) (by decide) | exact PD.Sz.lit (n := 64) (by decide) | apply PD.Sz.mul | apply PD.Sz.add | apply PD.Sz.sub | apply PD.Sz.neg))); (case c => decide)) | (exact PD.divOk_sz (PD.Sz.lit (n := 64) (by decide)) (by decide) (by decide)) | omega | (apply PD.lt_size; (first | decide | omega)))) only [PD.compD_nil, PD.compD_cons, PD.c_cp0_e, PD.c_cp1_t, PD.c_cp1_f, PD.c_cp2_e, PD.c_k0_e, PD.c_k1_t, PD.c_k1_f, PD.c_k2_e, PD.forD_nil, PD.forD_cons, PD.c_f1_e, PD.c_f2_nx, PD.c_f2_ct, PD.c_f2_bk, PD.c_f2_rt, ↓Option.bind_some, ↓reduceIte, PD.sCons_e, PD.sTup_e, PD.sLst_e, PD.bin_e, PD.un_e, PD.callD_e, PD.callI_e, PD.tru_e, PD.tand_e, PD.tor_e, PD.tnot_e, PD.vand_e, PD.vor_e, PD.sIf_e, PD.nl_e, PD.lenO_e, PD.truO_e, PD.ixO_e, PD.methO_e, PD.sSl_e, PD.oSome_e, PD.wS_e, PD.wR1_e, PD.wR2_e, PD.wE_e, PD.wZ_e, PD.sLc_e, PD.kSeq_e, PD.kDrop_e, PD.kSet_e, PD.kOwn_e, PD.kAsg_e, PD.kPar_e, PD.kPar3_e, PD.kIf_e, PD.kRet_e, PD.kRetO_e, PD.kFor_e, PD.kWhile_e, PD.c_ret_e, PD.c_retL_e, PD.c_retB_e, PD.c_sCons2_e, PD.c_sCons1_e, PD.c_tup_e, PD.c_lst_e, PD.c_bin2_e, PD.c_bin1_e, PD.c_un_e, PD.c_call_e, PD.c_callI3_e, PD.c_callI2_e, PD.c_callI_e, PD.c_tru_e, PD.c_and_t, PD.c_and_f, PD.c_or_t, PD.c_or_f, PD.c_not_e, PD.c_vand_t, PD.c_vand_f, PD.c_vor_t, PD.c_vor_f, PD.c_sif_t, PD.c_sif_f, PD.c_nl_e, PD.c_lenO_e, PD.c_truO_e, PD.c_ixO2_e, PD.c_ixO_e, PD.c_meth3_e, PD.c_meth2_e, PD.c_meth_e, PD.c_sl3_e, PD.c_sl2_e, PD.c_sl_e, PD.c_os_e, PD.c_wS_e, PD.c_wR1_e, PD.c_wR2_e, PD.c_wE_e, PD.c_wZ_l, PD.c_wZ_t, PD.c_lc2_e, PD.c_lc_e, PD.c_seq_nx, PD.c_seq_bk, PD.c_seq_ct, PD.c_seq_rt, PD.c_drop_e, PD.c_set_e, PD.c_own_e, PD.c_nx_e, PD.c_asg_e, PD.c_par_e, PD.c_par3_e, PD.c_if_t, PD.c_if_f, PD.c_rt_e, PD.c_rto_e, PD.c_for_e, PD.c_gO3_e, PD.c_gO2_e, PD.c_gO_e, PD.gO_e, PD.gN_e, PD.gsNil_e, PD.gsCons_e, PD.gT_e, PD.sNil_e, PD.sC_e, PD.oNone_e, PD.tYesD_e, PD.kNil_e, PD.kRetN_e, PD.kBk_e, PD.kCt_e, PD.kNever_e, PD.runP_e, PD.runI_e, PD.outP_nx, PD.outP_rt, PD.outI_nx, PD.outI_rt, PD.sV, PD.ownL, PD.ini, List.map_cons, List.map_nil, List.length_cons, List.length_nil, Nat.reduceSub, Nat.reduceAdd, Nat.sub_self, Nat.zero_add, List.replicate_succ, List.replicate_zero, List.append_nil, List.cons_append, List.nil_append, List.getElem?_cons_zero, List.getElem?_cons_succ, List.getElem?_nil, List.set_cons_zero, List.set_cons_succ, Option.bind_none, Option.bind_assoc, Option.map_some, PD.seqD_list, PD.seqD_tuple, PD.wipeD, PD.unwipe, PD.rng1_i, PD.appD_l, PD.ixD_l, PD.ixD_t, PD.truD_n, PD.truD_b, PD.truD_i, PD.truD_l, PD.truD_t, PD.sliceD_l, PD.sliceD_t, PD.subD_i, PD.negD_i, PD.notD_b, PD.ltD_i, PD.leD_i, PD.gtD_i, PD.geD_i, PD.absD_i, PD.intD_i, PD.intD_b, PD.max2_i, PD.min2_i, PD.max3_i, PD.min3_i, PD.chn_e, PD.c_ch0_e, PD.c_ch1_e, PD.c_ch2_t, PD.c_ch2_f, PD.c_ch3_e, PD.lenD_l, PD.lenD_t, PD.listD_l, PD.listD_t, PD.tupleD_l, PD.tupleD_t, PD.listrevD_l, PD.iaddD_i, PD.addD_i, PD.mulD_i, PD.fdivD_i, PD.modD_i, PD.divmodD_i, PD.eqD_i, PD.neD_i, PD.isN_none, PD.isN_bool, PD.isN_int, PD.isN_str, PD.isN_list, PD.isN_tuple, PD.notN_none, PD.notN_bool, PD.notN_int, PD.notN_str, PD.notN_list, PD.notN_tuple, PD.eqD_b2, PD.neD_b2, PD.ix0, PD.ix1, PD.ix2, PD.ix3, PD.ix4, PD.ix5, PD.ixm1, PD.ixN30, PD.ixN31, PD.ixN32, Bool.false_eq_true, Bool.not_true, Bool.not_false, reduceCtorEq, decide_true, decide_false, Nat.reduceLT, Nat.reduceLeDiff, Nat.reduceEqDiff, Int.reduceLT, Int.reduceLE, Int.reduceToNat, Int.reduceNeg, Option.getD_some, Option.getD_none, and_self, and_true, true_and, PD.le_size, beq_self_eq_true, Bool.true_beq, Bool.false_beq, trB, trI, hprev, hnext, hhere, hLl, hpop, pt2, mulD_i m1, mulD_i m2, hbq]
        have hl2 : (u ++ v).length = u.length + v.length := List.length_append
        obtain ⟨l', k', x', y', z', e, e1, e2⟩ := ih (u ++ v) 0 (some (pt2 a)) (some (pt2 b)) (some (pt2 c)) (by omega) (fun p hp => hmem p (by
          rcases List.mem_append.mp hp with h | h
          · exact List.mem_append.mpr (.inr h)
          · exact List.mem_append.mpr (.inl h))) (by omega) (by
            rw [hlen] at hn
            rw [hl2]
            obtain ⟨N, hN⟩ : ∃ N, N = u.length + v.length := ⟨_, rfl⟩
            rw [← hN]
            rw [show u.length + (v.length + 1) = N + 1 by omega] at hn
            have h1 : (N + 1) * (N + 1 + 1) = N * (N + 1) + 2 * N + 2 := by grind
            omega)
        refine ⟨l', k', x', y', z', ?_, e1.trans hs, e2.trans (List.Sublist.append_left (List.sublist_cons_self _ _) _)⟩
        rw [hbody, Option.bind_some]
        exact e
      · have hbody : trB [P, some (.list L), some (.int (u.length : Int)), x, y, z] = some (.nx [P, some (.list L), some (.int ((u.length : Int) + 1)), some (pt2 a), some (pt2 b), some (pt2 c)]) := by
          have hbq : ((b.1 - a.1) * (c.2 - b.2) == (b.2 - a.2) * (c.1 - b.1)) = false := by rw [beq_eq_false_iff_ne]; exact ht
          simp -implicitDefEqProofs (disch := (first | assumption | (refine' PD.mulOk_sz ?a ?b ?c; (case a => (repeat' (first | assumption | exact PD.Sz.fmod (PD.Sz.lit (n := 64) (by decide)) (by decide) | exact PD.Sz.lit (n := 64) (by decide) | apply PD.Sz.mul | apply PD.Sz.add | apply PD.Sz.sub | apply PD.Sz.neg))); (case b => (repeat' (first | assumption | exact PD.Sz.fmod (PD.Sz.lit (n := 64) (by decide)) (by decide) | exact PD.Sz.lit (n := 64) (by decide) | apply PD.Sz.mul | apply PD.Sz.add | apply PD.Sz.sub | apply PD.Sz.neg))); (case c => decide)) | (exact PD.divOk_sz (PD.Sz.lit (n := 64) (by decide)) (by decide) (by decide)) | omega | (apply PD.lt_size; (first | decide | omega)))) only [PD.compD_nil, PD.compD_cons, PD.c_cp0_e, PD.c_cp1_t, PD.c_cp1_f, PD.c_cp2_e, PD.c_k0_e, PD.c_k1_t, PD.c_k1_f, PD.c_k2_e, PD.forD_nil, PD.forD_cons, PD.c_f1_e, PD.c_f2_nx, PD.c_f2_ct, PD.c_f2_bk, PD.c_f2_rt, ↓Option.bind_some, ↓reduceIte, PD.sCons_e, PD.sTup_e, PD.sLst_e, PD.bin_e, PD.un_e, PD.callD_e, PD.callI_e, PD.tru_e, PD.tand_e, PD.tor_e, PD.tnot_e, PD.vand_e, PD.vor_e, PD.sIf_e, PD.nl_e, PD.lenO_e, PD.truO_e, PD.ixO_e, PD.methO_e, PD.sSl_e, PD.oSome_e, PD.wS_e, PD.wR1_e, PD.wR2_e, PD.wE_e, PD.wZ_e, PD.sLc_e, PD.kSeq_e, PD.kDrop_e, PD.kSet_e, PD.kOwn_e, PD.kAsg_e, PD.kPar_e, PD.kPar3_e, PD.kIf_e, PD.kRet_e, PD.kRetO_e, PD.kFor_e, PD.kWhile_e, PD.c_ret_e, PD.c_retL_e, PD.c_retB_e, PD.c_sCons2_e, PD.c_sCons1_e, PD.c_tup_e, PD.c_lst_e, PD.c_bin2_e, PD.c_bin1_e, PD.c_un_e, PD.c_call_e, PD.c_callI3_e, PD.c_callI2_e, PD.c_callI_e, PD.c_tru_e, PD.c_and_t, PD.c_and_f, PD.c_or_t, PD.c_or_f, PD.c_not_e, PD.c_vand_t, PD.c_vand_f, PD.c_vor_t, PD.c_vor_f, PD.c_sif_t, PD.c_sif_f, PD.c_nl_e, PD.c_lenO_e, PD.c_truO_e, PD.c_ixO2_e, PD.c_ixO_e, PD.c_meth3_e, PD.c_meth2_e, PD.c_meth_e, PD.c_sl3_e, PD.c_sl2_e, PD.c_sl_e, PD.c_os_e, PD.c_wS_e, PD.c_wR1_e, PD.c_wR2_e, PD.c_wE_e, PD.c_wZ_l, PD.c_wZ_t, PD.c_lc2_e, PD.c_lc_e, PD.c_seq_nx, PD.c_seq_bk, PD.c_seq_ct, PD.c_seq_rt, PD.c_drop_e, PD.c_set_e, PD.c_own_e, PD.c_nx_e, PD.c_asg_e, PD.c_par_e, PD.c_par3_e, PD.c_if_t, PD.c_if_f, PD.c_rt_e, PD.c_rto_e, PD.c_for_e, PD.c_gO3_e, PD.c_gO2_e, PD.c_gO_e, PD.gO_e, PD.gN_e, PD.gsNil_e, PD.gsCons_e, PD.gT_e, PD.sNil_e, PD.sC_e, PD.oNone_e, PD.tYesD_e, PD.kNil_e, PD.kRetN_e, PD.kBk_e, PD.kCt_e, PD.kNever_e, PD.runP_e, PD.runI_e, PD.outP_nx, PD.outP_rt, PD.outI_nx, PD.outI_rt, PD.sV, PD.ownL, PD.ini, List.map_cons, List.map_nil, List.length_cons, List.length_nil, Nat.reduceSub, Nat.reduceAdd, Nat.sub_self, Nat.zero_add, List.replicate_succ, List.replicate_zero, List.append_nil, List.cons_append, List.nil_append, List.getElem?_cons_zero, List.getElem?_cons_succ, List.getElem?_nil, List.set_cons_zero, List.set_cons_succ, Option.bind_none, Option.bind_assoc, Option.map_some, PD.seqD_list, PD.seqD_tuple, PD.wipeD, PD.unwipe, PD.rng1_i, PD.appD_l, PD.ixD_l, PD.ixD_t, PD.truD_n, PD.truD_b, PD.truD_i, PD.truD_l, PD.truD_t, PD.sliceD_l, PD.sliceD_t, PD.subD_i, PD.negD_i, PD.notD_b, PD.ltD_i, PD.leD_i, PD.gtD_i, PD.geD_i, PD.absD_i, PD.intD_i, PD.intD_b, PD.max2_i, PD.min2_i, PD.max3_i, PD.min3_i, PD.chn_e, PD.c_ch0_e, PD.c_ch1_e, PD.c_ch2_t, PD.c_ch2_f, PD.c_ch3_e, PD.lenD_l, PD.lenD_t, PD.listD_l, PD.listD_t, PD.tupleD_l, PD.tupleD_t, PD.listrevD_l, PD.iaddD_i, PD.addD_i, PD.mulD_i, PD.fdivD_i, PD.modD_i, PD.divmodD_i, PD.eqD_i, PD.neD_i, PD.isN_none, PD.isN_bool, PD.isN_int, PD.isN_str, PD.isN_list, PD.isN_tuple, PD.notN_none, PD.notN_bool, PD.notN_int, PD.notN_str, PD.notN_list, PD.notN_tuple, PD.eqD_b2, PD.neD_b2, PD.ix0, PD.ix1, PD.ix2, PD.ix3, PD.ix4, PD.ix5, PD.ixm1, PD.ixN30, PD.ixN31, PD.ixN32, Bool.false_eq_true, Bool.not_true, Bool.not_false, reduceCtorEq, decide_true, decide_false, Nat.reduceLT, Nat.reduceLeDiff, Nat.reduceEqDiff, Int.reduceLT, Int.reduceLE, Int.reduceToNat, Int.reduceNeg, Option.getD_some, Option.getD_none, and_self, and_true, true_and, PD.le_size, beq_self_eq_true, Bool.true_beq, Bool.false_beq, trB, trI, hprev, hnext, hhere, hLl, pt2, mulD_i m1, mulD_i m2, hbq]
        obtain ⟨l', k', x', y', z', e, e1, e2⟩ := ih (u ++ b :: v) (u.length + 1) (some (pt2 a)) (some (pt2 b)) (some (pt2 c)) (by omega) hb hl (by omega)
        refine ⟨l', k', x', y', z', ?_, e1, e2⟩
        rw [hbody, Option.bind_some]
        rw [← hL] at e
        exact e
    · refine ⟨l, k, x, y, z, ?_, rfl, List.Sublist.refl _⟩
      rw [whileD, hc, decide_eq_false (by omega), Option.bind_some]
theorem trimmed_sp {l : List IP} (hb : ∀ p ∈ l, BP p) (hl : l.length ≤ 100) : ∃ l', e__law_trimmed [ring2 l] = some (ring2 l') ∧ sar l' = sar l ∧ l'.Sublist l := by
  obtain ⟨l', k', x', y', z', e, e1, e2⟩ := tr_loop (some (ring2 l)) ((l.length + 2) * (l.length + 2)) l 0 none none none (by omega) hb hl (by
    rw [Nat.add_mul, Nat.mul_add, Nat.mul_add, Nat.mul_add]; omega)
  refine ⟨l', ?_, e1, e2⟩
  unfold trC trB trI at e
  unfold ring2 at e ⊢
  have hf : fuelSq 1 [some (.list (l.map pt2)), some (.list (l.map pt2)), some (.int 0), none, none, none] = (l.length + 2) * (l.length + 2) := by
    show ((l.map pt2).length + 2) * ((l.map pt2).length + 2) = _
    rw [List.length_map]
  have e : whileD _ _ _ _ = _ := e
  rw [show ((0 : Nat) : Int) = 0 from rfl] at e
  simp -implicitDefEqProofs (disch := (first | assumption | (refine' PD.mulOk_sz ?a ?b ?c; (case a => (repeat' (first | assumption | exact PD.Sz.fmod (PD.Sz.lit (n := 64) (by decide)) (by decide) | exact PD.Sz.lit (n := 64) (by decide) | apply PD.Sz.mul | apply PD.Sz.add | apply PD.Sz.sub | apply PD.Sz.neg))); (case b => (repeat' (first | assumption | exact PD.Sz.fmod (PD.Sz.lit (n := 64) (by decide)) (by decide) | exact PD.Sz.lit (n := 64) (by decide) | apply PD.Sz.mul | apply PD.Sz.add | apply PD.Sz.sub | apply PD.Sz.neg))); (case c => decide)) | (exact PD.divOk_sz (PD.Sz.lit (n := 64) (by decide)) (by decide) (by decide)) | omega | (apply PD.lt_size; (first | decide | omega)))) only [PD.compD_nil, PD.compD_cons, PD.c_cp0_e, PD.c_cp1_t, PD.c_cp1_f, PD.c_cp2_e, PD.c_k0_e, PD.c_k1_t, PD.c_k1_f, PD.c_k2_e, PD.forD_nil, PD.forD_cons, PD.c_f1_e, PD.c_f2_nx, PD.c_f2_ct, PD.c_f2_bk, PD.c_f2_rt, ↓Option.bind_some, ↓reduceIte, PD.sCons_e, PD.sTup_e, PD.sLst_e, PD.bin_e, PD.un_e, PD.callD_e, PD.callI_e, PD.tru_e, PD.tand_e, PD.tor_e, PD.tnot_e, PD.vand_e, PD.vor_e, PD.sIf_e, PD.nl_e, PD.lenO_e, PD.truO_e, PD.ixO_e, PD.methO_e, PD.sSl_e, PD.oSome_e, PD.wS_e, PD.wR1_e, PD.wR2_e, PD.wE_e, PD.wZ_e, PD.sLc_e, PD.kSeq_e, PD.kDrop_e, PD.kSet_e, PD.kOwn_e, PD.kAsg_e, PD.kPar_e, PD.kPar3_e, PD.kIf_e, PD.kRet_e, PD.kRetO_e, PD.kFor_e, PD.kWhile_e, PD.c_ret_e, PD.c_retL_e, PD.c_retB_e, PD.c_sCons2_e, PD.c_sCons1_e, PD.c_tup_e, PD.c_lst_e, PD.c_bin2_e, PD.c_bin1_e, PD.c_un_e, PD.c_call_e, PD.c_callI3_e, PD.c_callI2_e, PD.c_callI_e, PD.c_tru_e, PD.c_and_t, PD.c_and_f, PD.c_or_t, PD.c_or_f, PD.c_not_e, PD.c_vand_t, PD.c_vand_f, PD.c_vor_t, PD.c_vor_f, PD.c_sif_t, PD.c_sif_f, PD.c_nl_e, PD.c_lenO_e, PD.c_truO_e, PD.c_ixO2_e, PD.c_ixO_e, PD.c_meth3_e, PD.c_meth2_e, PD.c_meth_e, PD.c_sl3_e, PD.c_sl2_e, PD.c_sl_e, PD.c_os_e, PD.c_wS_e, PD.c_wR1_e, PD.c_wR2_e, PD.c_wE_e, PD.c_wZ_l, PD.c_wZ_t, PD.c_lc2_e, PD.c_lc_e, PD.c_seq_nx, PD.c_seq_bk, PD.c_seq_ct, PD.c_seq_rt, PD.c_drop_e, PD.c_set_e, PD.c_own_e, PD.c_nx_e, PD.c_asg_e, PD.c_par_e, PD.c_par3_e, PD.c_if_t, PD.c_if_f, PD.c_rt_e, PD.c_rto_e, PD.c_for_e, PD.c_gO3_e, PD.c_gO2_e, PD.c_gO_e, PD.gO_e, PD.gN_e, PD.gsNil_e, PD.gsCons_e, PD.gT_e, PD.sNil_e, PD.sC_e, PD.oNone_e, PD.tYesD_e, PD.kNil_e, PD.kRetN_e, PD.kBk_e, PD.kCt_e, PD.kNever_e, PD.runP_e, PD.runI_e, PD.outP_nx, PD.outP_rt, PD.outI_nx, PD.outI_rt, PD.sV, PD.ownL, PD.ini, List.map_cons, List.map_nil, List.length_cons, List.length_nil, Nat.reduceSub, Nat.reduceAdd, Nat.sub_self, Nat.zero_add, List.replicate_succ, List.replicate_zero, List.append_nil, List.cons_append, List.nil_append, List.getElem?_cons_zero, List.getElem?_cons_succ, List.getElem?_nil, List.set_cons_zero, List.set_cons_succ, Option.bind_none, Option.bind_assoc, Option.map_some, PD.seqD_list, PD.seqD_tuple, PD.wipeD, PD.unwipe, PD.rng1_i, PD.appD_l, PD.ixD_l, PD.ixD_t, PD.truD_n, PD.truD_b, PD.truD_i, PD.truD_l, PD.truD_t, PD.sliceD_l, PD.sliceD_t, PD.subD_i, PD.negD_i, PD.notD_b, PD.ltD_i, PD.leD_i, PD.gtD_i, PD.geD_i, PD.absD_i, PD.intD_i, PD.intD_b, PD.max2_i, PD.min2_i, PD.max3_i, PD.min3_i, PD.chn_e, PD.c_ch0_e, PD.c_ch1_e, PD.c_ch2_t, PD.c_ch2_f, PD.c_ch3_e, PD.lenD_l, PD.lenD_t, PD.listD_l, PD.listD_t, PD.tupleD_l, PD.tupleD_t, PD.listrevD_l, PD.iaddD_i, PD.addD_i, PD.mulD_i, PD.fdivD_i, PD.modD_i, PD.divmodD_i, PD.eqD_i, PD.neD_i, PD.isN_none, PD.isN_bool, PD.isN_int, PD.isN_str, PD.isN_list, PD.isN_tuple, PD.notN_none, PD.notN_bool, PD.notN_int, PD.notN_str, PD.notN_list, PD.notN_tuple, PD.eqD_b2, PD.neD_b2, PD.ix0, PD.ix1, PD.ix2, PD.ix3, PD.ix4, PD.ix5, PD.ixm1, PD.ixN30, PD.ixN31, PD.ixN32, Bool.false_eq_true, Bool.not_true, Bool.not_false, reduceCtorEq, decide_true, decide_false, Nat.reduceLT, Nat.reduceLeDiff, Nat.reduceEqDiff, Int.reduceLT, Int.reduceLE, Int.reduceToNat, Int.reduceNeg, Option.getD_some, Option.getD_none, and_self, and_true, true_and, PD.le_size, beq_self_eq_true, Bool.true_beq, Bool.false_beq, e__law_trimmed, m__law_trimmed, hf, e]
end W

set_option maxHeartbeats 2000000
namespace W
open PySem L2 PD
/-! ### columns -/
theorem rng3_i {i : Int} (h : -1000000 ≤ i) (h' : i ≤ 1000000) : rng3 [.int i, .int (-1), .int (-1)] = some (rngC i (i - (-1)).toNat) := by
  show (if (small62 i && small62 (-1)) = true then _ else _) = _
  rw [if_pos]
  unfold small62
  rw [decide_eq_true (show -(2 ^ 62) ≤ i by omega), decide_eq_true (show i < 2 ^ 62 by omega)]; rfl
theorem rngC_get {lo : Int} {n j : Nat} {d : D} (h : (rngC lo n)[j]? = some d) : j < n ∧ d = .int (lo + (j : Nat) * (-1)) := by
  unfold rngC at h
  rw [List.getElem?_map] at h
  obtain ⟨k, h1, h2⟩ := Option.map_eq_some_iff.mp h
  obtain ⟨h3, h4⟩ := List.getElem?_eq_some_iff.mp h1
  rw [List.getElem_range] at h4
  rw [List.length_range] at h3
  subst h4
  exact ⟨h3, h2.symm⟩
def cSt (c : List D) (M Q : Int) (ts ls : Option D) (R C : Option D) (k : Option D) : DSt := [some (.list c), some (.int M), some (.int Q), ts, ls, R, C, k, none]
/-- numbers drawn one by one -/
theorem draws {n M : Nat} {Q : Int} {c : List D} {ts ls : Option D} {fe : SE} (lo hi : Int) (hn : n + M ≤ 100000) (hM : M ≤ 100)
    (hfe : ∀ (m : Nat) (c : List D) (k : Option D), BoxOk m c → m ≤ 100000 → Wp (fe (cSt c M Q ts ls none none k)) fun r => ∃ z c', r = (.int z, cSt c' M Q ts ls none none k) ∧ lo ≤ z ∧ z ≤ hi ∧ BoxOk (m + 1) c') (hc : BoxOk n c) :
    Wp (compD [7] (gN 7) tYesD fe (rng 0 M) (cSt c M Q ts ls none none none) []) fun r => ∃ (zs : List Int) (c' : List D), r = (zs.map .int, cSt c' M Q ts ls none none none) ∧ zs.length = M ∧ (∀ z ∈ zs, lo ≤ z ∧ z ≤ hi) ∧ BoxOk (n + M) c' := by
  refine wp_comp (fun i t acc => ∃ (zs : List Int) (c' : List D), t = cSt c' M Q ts ls none none none ∧ acc = zs.map .int ∧ zs.length = i ∧ (∀ z ∈ zs, lo ≤ z ∧ z ≤ hi) ∧ BoxOk (n + i) c') _ 0 _ _ ⟨[], c, rfl, rfl, rfl, fun z hz => (nomatch hz), hc⟩ (by rw [rng_len', sizeLine_eq, List.length_nil]; omega) (fun j d t acc hj hi => ?_) fun t acc hi => ?_
  · obtain ⟨zs, c', rfl, rfl, h1, h2, h3⟩ := hi
    obtain ⟨hj1, rfl⟩ := rng_get hj
    rw [Nat.zero_add] at h1 h3
    obtain ⟨⟨_, _⟩, e, z, c2, e2, hz1, hz2, hb⟩ := hfe (n + j) c' (some (.int (0 + (j : Nat)))) h3 (by omega)
    cases e2
    have hg : gN 7 (.int (0 + (j : Nat))) (cSt c' M Q ts ls none none none) = some (cSt c' M Q ts ls none none (some (.int (0 + (j : Nat))))) := rfl
    rw [hg, Option.bind_some, c_k0_e, tYesD_e, Option.bind_some, c_k1_t, e, Option.bind_some, c_k2_e]
    refine wp_some ⟨zs ++ [z], c2, rfl, ?_, ?_, fun y hy => ?_, ?_⟩
    · rw [List.map_append]; rfl
    · rw [List.length_append, h1, List.length_singleton]; omega
    · rcases List.mem_append.mp hy with hy | hy
      · exact h2 y hy
      · rw [List.mem_singleton.mp hy]; exact ⟨hz1, hz2⟩
    · rw [show n + (0 + j + 1) = n + j + 1 by omega]; exact hb
  · obtain ⟨zs, c', rfl, rfl, h1, h2, h3⟩ := hi
    rw [rng_len', Nat.zero_add] at h1 h3
    exact ⟨zs, c', rfl, h1, h2, h3⟩
def bot (ls : List Int) (i : Nat) : List IP := (List.range i).flatMap fun (k : Nat) => [((k : Int), ls.getD k 0), ((k : Int) + 1, ls.getD k 0)]
def cel (ls ts : List Int) (i : Nat) : List IP := (List.range i).flatMap fun (k : Nat) => (List.range (ts.getD k 0 - ls.getD k 0).toNat).map fun (r : Nat) => ((k : Int), ls.getD k 0 + (r : Int))
def top (ts : List Int) (M i : Nat) : List IP := (List.range i).flatMap fun (k : Nat) => [(((M : Int) - 1 - (k : Int)) + 1, ts.getD (M - 1 - k) 0), ((M : Int) - 1 - (k : Int), ts.getD (M - 1 - k) 0)]
theorem bot_succ (ls : List Int) (i : Nat) : bot ls (i + 1) = bot ls i ++ [((i : Int), ls.getD i 0), ((i : Int) + 1, ls.getD i 0)] := by
  unfold bot; rw [List.range_succ, List.flatMap_append, List.flatMap_singleton]
theorem cel_succ (ls ts : List Int) (i : Nat) : cel ls ts (i + 1) = cel ls ts i ++ (List.range (ts.getD i 0 - ls.getD i 0).toNat).map fun (r : Nat) => ((i : Int), ls.getD i 0 + (r : Int)) := by
  unfold cel; rw [List.range_succ, List.flatMap_append, List.flatMap_singleton]
theorem top_succ (ts : List Int) (M i : Nat) : top ts M (i + 1) = top ts M i ++ [(((M : Int) - 1 - (i : Int)) + 1, ts.getD (M - 1 - i) 0), ((M : Int) - 1 - (i : Int), ts.getD (M - 1 - i) 0)] := by
  unfold top; rw [List.range_succ, List.flatMap_append, List.flatMap_singleton]
theorem bot_len (ls : List Int) : ∀ i, (bot ls i).length = 2 * i
  | 0 => rfl
  | i + 1 => by rw [bot_succ, List.length_append, bot_len ls i]; show _ + 2 = _; omega
theorem top_len (ts : List Int) (M : Nat) : ∀ i, (top ts M i).length = 2 * i
  | 0 => rfl
  | i + 1 => by rw [top_succ, List.length_append, top_len ts M i]; show _ + 2 = _; omega
structure Cols (ls ts : List Int) (M : Nat) : Prop where
  l1 : ls.length = M
  l2 : ts.length = M
  m : M ≤ 4
  bl : ∀ z ∈ ls, -2 ≤ z ∧ z ≤ 0
  bt : ∀ z ∈ ts, 1 ≤ z ∧ z ≤ 3
theorem Cols.getl {ls ts : List Int} {M k : Nat} (h : Cols ls ts M) (hk : k < M) : atI (ls.map PyData.int) (k : Int) = some (.int (ls.getD k 0)) ∧ -2 ≤ ls.getD k 0 ∧ ls.getD k 0 ≤ 0 := by
  have h1 : k < ls.length := by rw [h.l1]; exact hk
  have e : ls.getD k 0 = ls[k] := by rw [List.getD_eq_getElem?_getD, List.getElem?_eq_getElem h1]; rfl
  rw [e]
  exact ⟨atI_nat (by rw [List.getElem?_map, List.getElem?_eq_getElem h1]; rfl), h.bl _ (List.getElem_mem h1)⟩
theorem Cols.gett {ls ts : List Int} {M k : Nat} (h : Cols ls ts M) (hk : k < M) : atI (ts.map PyData.int) (k : Int) = some (.int (ts.getD k 0)) ∧ 1 ≤ ts.getD k 0 ∧ ts.getD k 0 ≤ 3 := by
  have h1 : k < ts.length := by rw [h.l2]; exact hk
  have e : ts.getD k 0 = ts[k] := by rw [List.getD_eq_getElem?_getD, List.getElem?_eq_getElem h1]; rfl
  rw [e]
  exact ⟨atI_nat (by rw [List.getElem?_map, List.getElem?_eq_getElem h1]; rfl), h.bt _ (List.getElem_mem h1)⟩
theorem cel_len {ls ts : List Int} {M : Nat} (h : Cols ls ts M) : ∀ i, i ≤ M → (cel ls ts i).length ≤ 10 * i
  | 0, _ => Nat.zero_le _
  | i + 1, hi => by
    have h1 := cel_len h i (by omega)
    have h2 := (h.getl (k := i) (by omega)).2
    have h3 := (h.gett (k := i) (by omega)).2
    rw [cel_succ, List.length_append, List.length_map, List.length_range]
    omega
theorem col_loop1 {c : List D} {Q : Int} {ls ts : List Int} {M : Nat} (h : Cols ls ts M) : ∃ k, forD (gN 7) b__law_columns_0 (rng 0 M) (cSt c M Q (some (.list (ts.map .int))) (some (.list (ls.map .int))) (some (.list [])) (some (.list [])) none) = some (.nx (cSt c M Q (some (.list (ts.map .int))) (some (.list (ls.map .int))) (some (.list ((bot ls M).map pt2))) (some (.list ((cel ls ts M).map pt2))) k)) := by
  have key := wp_for (g := gN 7) (fb := b__law_columns_0) (Q := fun o => ∃ k, o = .nx (cSt c M Q (some (.list (ts.map .int))) (some (.list (ls.map .int))) (some (.list ((bot ls M).map pt2))) (some (.list ((cel ls ts M).map pt2))) k)) (fun i t => ∃ k, t = cSt c M Q (some (.list (ts.map .int))) (some (.list (ls.map .int))) (some (.list ((bot ls i).map pt2))) (some (.list ((cel ls ts i).map pt2))) k) (rng 0 M) 0 (cSt c M Q (some (.list (ts.map .int))) (some (.list (ls.map .int))) (some (.list [])) (some (.list [])) none) ⟨none, rfl⟩ (fun j d t hj hi => ?_) fun t hi => ?_
  · obtain ⟨o, e, k, rfl⟩ := key
    exact ⟨k, e⟩
  · obtain ⟨k, rfl⟩ := hi
    obtain ⟨hj1, rfl⟩ := rng_get hj
    rw [Nat.zero_add]
    have hM := h.m
    obtain ⟨g1, g2, g3⟩ := h.getl hj1
    obtain ⟨g4, g5, g6⟩ := h.gett hj1
    have e0 : (0 + (j : Int)) = (j : Int) := by omega
    rw [e0]
    have hb := bot_len ls j
    have hc := cel_len h j (by omega)
    have a1 : addD (.list ((bot ls j).map pt2)) (.list [.tuple [.int (j : Int), .int (ls.getD j 0)], .tuple [.int ((j : Int) + 1), .int (ls.getD j 0)]]) = some (.list ((bot ls (j + 1)).map pt2)) := by
      rw [addD_l (by rw [List.length_map, hb, sizeLine_eq]; show _ + 2 ≤ _; omega), bot_succ, List.map_append]; rfl
    have a2 : addD (.list ((cel ls ts j).map pt2)) (.list ((List.range (ts.getD j 0 - ls.getD j 0).toNat).map fun (r : Nat) => .tuple [.int (j : Int), .int (ls.getD j 0 + (r : Int))])) = some (.list ((cel ls ts (j + 1)).map pt2)) := by
      rw [addD_l (by rw [List.length_map, List.length_map, List.length_range, sizeLine_eq]; omega), cel_succ, List.map_append, List.map_map]; rfl
    have r2 : rng2 [.int (ls.getD j 0), .int (ts.getD j 0)] = some ((List.range (ts.getD j 0 - ls.getD j 0).toNat).map fun (r : Nat) => PyData.int (ls.getD j 0 + (r : Int))) := by
      rw [rng2_i (by omega) (by omega) (by omega) (by omega)]; rfl
    have cc : ∀ x y : Option D, compD [8] (gN 8) tYesD (sTup (sCons (sV 7) (sCons (sV 8) sNil))) ((List.range (ts.getD j 0 - ls.getD j 0).toNat).map fun (r : Nat) => PyData.int (ls.getD j 0 + (r : Int))) [some (.list c), some (.int (M : Int)), some (.int Q), some (.list (ts.map .int)), some (.list (ls.map .int)), x, y, some (.int (j : Int)), none] [] = some ((List.range (ts.getD j 0 - ls.getD j 0).toNat).map fun (r : Nat) => .tuple [.int (j : Int), .int (ls.getD j 0 + (r : Int))], [some (.list c), some (.int (M : Int)), some (.int Q), some (.list (ts.map .int)), some (.list (ls.map .int)), x, y, some (.int (j : Int)), none]) := fun x y =>
      comp_pure (fun (r : Nat) => PyData.int (ls.getD j 0 + (r : Int))) (fun (r : Nat) => .tuple [.int (j : Int), .int (ls.getD j 0 + (r : Int))]) _ _ [] (by rw [List.length_nil, List.length_range]; omega) fun r _ => by
        simp -implicitDefEqProofs (disch := (first | assumption | (refine' PD.mulOk_sz ?a ?b ?c; (case a => (repeat' (first | assumption | exact PD.Sz.fmod (PD.Sz.lit (n := 64) (by decide)) (by decide) | exact PD.Sz.lit (n := 64) (by decide) | apply PD.Sz.mul | apply PD.Sz.add | apply PD.Sz.sub | apply PD.Sz.neg))); (case b => (repeat' (first | assumption | exact PD.Sz.fmod (PD.Sz.lit (n := 64) (by decide)) (by decide) | exact PD.Sz.lit (n := 64) (by decide) | apply PD.Sz.mul | apply PD.Sz.add | apply PD.Sz.sub | apply PD.Sz.neg))); (case c => decide)) | (exact PD.divOk_sz (PD.Sz.lit (n := 64) (by decide)) (by decide) (by decide)) | omega | (apply PD.lt_size; (first | decide | omega)))) only [PD.compD_nil, PD.compD_cons, PD.c_cp0_e, PD.c_cp1_t, PD.c_cp1_f, PD.c_cp2_e, PD.c_k0_e, PD.c_k1_t, PD.c_k1_f, PD.c_k2_e, PD.forD_nil, PD.forD_cons, PD.c_f1_e, PD.c_f2_nx, PD.c_f2_ct, PD.c_f2_bk, PD.c_f2_rt, ↓Option.bind_some, ↓reduceIte, PD.sCons_e, PD.sTup_e, PD.sLst_e, PD.bin_e, PD.un_e, PD.callD_e, PD.callI_e, PD.tru_e, PD.tand_e, PD.tor_e, PD.tnot_e, PD.vand_e, PD.vor_e, PD.sIf_e, PD.nl_e, PD.lenO_e, PD.truO_e, PD.ixO_e, PD.methO_e, PD.sSl_e, PD.oSome_e, PD.wS_e, PD.wR1_e, PD.wR2_e, PD.wE_e, PD.wZ_e, PD.sLc_e, PD.kSeq_e, PD.kDrop_e, PD.kSet_e, PD.kOwn_e, PD.kAsg_e, PD.kPar_e, PD.kPar3_e, PD.kIf_e, PD.kRet_e, PD.kRetO_e, PD.kFor_e, PD.kWhile_e, PD.c_ret_e, PD.c_retL_e, PD.c_retB_e, PD.c_sCons2_e, PD.c_sCons1_e, PD.c_tup_e, PD.c_lst_e, PD.c_bin2_e, PD.c_bin1_e, PD.c_un_e, PD.c_call_e, PD.c_callI3_e, PD.c_callI2_e, PD.c_callI_e, PD.c_tru_e, PD.c_and_t, PD.c_and_f, PD.c_or_t, PD.c_or_f, PD.c_not_e, PD.c_vand_t, PD.c_vand_f, PD.c_vor_t, PD.c_vor_f, PD.c_sif_t, PD.c_sif_f, PD.c_nl_e, PD.c_lenO_e, PD.c_truO_e, PD.c_ixO2_e, PD.c_ixO_e, PD.c_meth3_e, PD.c_meth2_e, PD.c_meth_e, PD.c_sl3_e, PD.c_sl2_e, PD.c_sl_e, PD.c_os_e, PD.c_wS_e, PD.c_wR1_e, PD.c_wR2_e, PD.c_wE_e, PD.c_wZ_l, PD.c_wZ_t, PD.c_lc2_e, PD.c_lc_e, PD.c_seq_nx, PD.c_seq_bk, PD.c_seq_ct, PD.c_seq_rt, PD.c_drop_e, PD.c_set_e, PD.c_own_e, PD.c_nx_e, PD.c_asg_e, PD.c_par_e, PD.c_par3_e, PD.c_if_t, PD.c_if_f, PD.c_rt_e, PD.c_rto_e, PD.c_for_e, PD.c_gO3_e, PD.c_gO2_e, PD.c_gO_e, PD.gO_e, PD.gN_e, PD.gsNil_e, PD.gsCons_e, PD.gT_e, PD.sNil_e, PD.sC_e, PD.oNone_e, PD.tYesD_e, PD.kNil_e, PD.kRetN_e, PD.kBk_e, PD.kCt_e, PD.kNever_e, PD.runP_e, PD.runI_e, PD.outP_nx, PD.outP_rt, PD.outI_nx, PD.outI_rt, PD.sV, PD.ownL, PD.ini, List.map_cons, List.map_nil, List.length_cons, List.length_nil, Nat.reduceSub, Nat.reduceAdd, Nat.sub_self, Nat.zero_add, List.replicate_succ, List.replicate_zero, List.append_nil, List.cons_append, List.nil_append, List.getElem?_cons_zero, List.getElem?_cons_succ, List.getElem?_nil, List.set_cons_zero, List.set_cons_succ, Option.bind_none, Option.bind_assoc, Option.map_some, PD.seqD_list, PD.seqD_tuple, PD.wipeD, PD.unwipe, PD.rng1_i, PD.appD_l, PD.ixD_l, PD.ixD_t, PD.truD_n, PD.truD_b, PD.truD_i, PD.truD_l, PD.truD_t, PD.sliceD_l, PD.sliceD_t, PD.subD_i, PD.negD_i, PD.notD_b, PD.ltD_i, PD.leD_i, PD.gtD_i, PD.geD_i, PD.absD_i, PD.intD_i, PD.intD_b, PD.max2_i, PD.min2_i, PD.max3_i, PD.min3_i, PD.chn_e, PD.c_ch0_e, PD.c_ch1_e, PD.c_ch2_t, PD.c_ch2_f, PD.c_ch3_e, PD.lenD_l, PD.lenD_t, PD.listD_l, PD.listD_t, PD.tupleD_l, PD.tupleD_t, PD.listrevD_l, PD.iaddD_i, PD.addD_i, PD.mulD_i, PD.fdivD_i, PD.modD_i, PD.divmodD_i, PD.eqD_i, PD.neD_i, PD.isN_none, PD.isN_bool, PD.isN_int, PD.isN_str, PD.isN_list, PD.isN_tuple, PD.notN_none, PD.notN_bool, PD.notN_int, PD.notN_str, PD.notN_list, PD.notN_tuple, PD.eqD_b2, PD.neD_b2, PD.ix0, PD.ix1, PD.ix2, PD.ix3, PD.ix4, PD.ix5, PD.ixm1, PD.ixN30, PD.ixN31, PD.ixN32, Bool.false_eq_true, Bool.not_true, Bool.not_false, reduceCtorEq, decide_true, decide_false, Nat.reduceLT, Nat.reduceLeDiff, Nat.reduceEqDiff, Int.reduceLT, Int.reduceLE, Int.reduceToNat, Int.reduceNeg, Option.getD_some, Option.getD_none, and_self, and_true, true_and, PD.le_size, beq_self_eq_true, Bool.true_beq, Bool.false_beq]
        exact wp_some ⟨rfl, rfl⟩
    unfold cSt
    simp -implicitDefEqProofs (disch := (first | assumption | (refine' PD.mulOk_sz ?a ?b ?c; (case a => (repeat' (first | assumption | exact PD.Sz.fmod (PD.Sz.lit (n := 64) (by decide)) (by decide) | exact PD.Sz.lit (n := 64) (by decide) | apply PD.Sz.mul | apply PD.Sz.add | apply PD.Sz.sub | apply PD.Sz.neg))); (case b => (repeat' (first | assumption | exact PD.Sz.fmod (PD.Sz.lit (n := 64) (by decide)) (by decide) | exact PD.Sz.lit (n := 64) (by decide) | apply PD.Sz.mul | apply PD.Sz.add | apply PD.Sz.sub | apply PD.Sz.neg))); (case c => decide)) | (exact PD.divOk_sz (PD.Sz.lit (n := 64) (by decide)) (by decide) (by decide)) | omega | (apply PD.lt_size; (first | decide | omega)))) only [PD.compD_nil, PD.compD_cons, PD.c_cp0_e, PD.c_cp1_t, PD.c_cp1_f, PD.c_cp2_e, PD.c_k0_e, PD.c_k1_t, PD.c_k1_f, PD.c_k2_e, PD.forD_nil, PD.forD_cons, PD.c_f1_e, PD.c_f2_nx, PD.c_f2_ct, PD.c_f2_bk, PD.c_f2_rt, ↓Option.bind_some, ↓reduceIte, PD.sCons_e, PD.sTup_e, PD.sLst_e, PD.bin_e, PD.un_e, PD.callD_e, PD.callI_e, PD.tru_e, PD.tand_e, PD.tor_e, PD.tnot_e, PD.vand_e, PD.vor_e, PD.sIf_e, PD.nl_e, PD.lenO_e, PD.truO_e, PD.ixO_e, PD.methO_e, PD.sSl_e, PD.oSome_e, PD.wS_e, PD.wR1_e, PD.wR2_e, PD.wE_e, PD.wZ_e, PD.sLc_e, PD.kSeq_e, PD.kDrop_e, PD.kSet_e, PD.kOwn_e, PD.kAsg_e, PD.kPar_e, PD.kPar3_e, PD.kIf_e, PD.kRet_e, PD.kRetO_e, PD.kFor_e, PD.kWhile_e, PD.c_ret_e, PD.c_retL_e, PD.c_retB_e, PD.c_sCons2_e, PD.c_sCons1_e, PD.c_tup_e, PD.c_lst_e, PD.c_bin2_e, PD.c_bin1_e, PD.c_un_e, PD.c_call_e, PD.c_callI3_e, PD.c_callI2_e, PD.c_callI_e, PD.c_tru_e, PD.c_and_t, PD.c_and_f, PD.c_or_t, PD.c_or_f, PD.c_not_e, PD.c_vand_t, PD.c_vand_f, PD.c_vor_t, PD.c_vor_f, PD.c_sif_t, PD.c_sif_f, PD.c_nl_e, PD.c_lenO_e, PD.c_truO_e, PD.c_ixO2_e, PD.c_ixO_e, PD.c_meth3_e, PD.c_meth2_e, PD.c_meth_e, PD.c_sl3_e, PD.c_sl2_e, PD.c_sl_e, PD.c_os_e, PD.c_wS_e, PD.c_wR1_e, PD.c_wR2_e, PD.c_wE_e, PD.c_wZ_l, PD.c_wZ_t, PD.c_lc2_e, PD.c_lc_e, PD.c_seq_nx, PD.c_seq_bk, PD.c_seq_ct, PD.c_seq_rt, PD.c_drop_e, PD.c_set_e, PD.c_own_e, PD.c_nx_e, PD.c_asg_e, PD.c_par_e, PD.c_par3_e, PD.c_if_t, PD.c_if_f, PD.c_rt_e, PD.c_rto_e, PD.c_for_e, PD.c_gO3_e, PD.c_gO2_e, PD.c_gO_e, PD.gO_e, PD.gN_e, PD.gsNil_e, PD.gsCons_e, PD.gT_e, PD.sNil_e, PD.sC_e, PD.oNone_e, PD.tYesD_e, PD.kNil_e, PD.kRetN_e, PD.kBk_e, PD.kCt_e, PD.kNever_e, PD.runP_e, PD.runI_e, PD.outP_nx, PD.outP_rt, PD.outI_nx, PD.outI_rt, PD.sV, PD.ownL, PD.ini, List.map_cons, List.map_nil, List.length_cons, List.length_nil, Nat.reduceSub, Nat.reduceAdd, Nat.sub_self, Nat.zero_add, List.replicate_succ, List.replicate_zero, List.append_nil, List.cons_append, List.nil_append, List.getElem?_cons_zero, List.getElem?_cons_succ, List.getElem?_nil, List.set_cons_zero, List.set_cons_succ, Option.bind_none, Option.bind_assoc, Option.map_some, PD.seqD_list, PD.seqD_tuple, PD.wipeD, PD.unwipe, PD.rng1_i, PD.appD_l, PD.ixD_l, PD.ixD_t, PD.truD_n, PD.truD_b, PD.truD_i, PD.truD_l, PD.truD_t, PD.sliceD_l, PD.sliceD_t, PD.subD_i, PD.negD_i, PD.notD_b, PD.ltD_i, PD.leD_i, PD.gtD_i, PD.geD_i, PD.absD_i, PD.intD_i, PD.intD_b, PD.max2_i, PD.min2_i, PD.max3_i, PD.min3_i, PD.chn_e, PD.c_ch0_e, PD.c_ch1_e, PD.c_ch2_t, PD.c_ch2_f, PD.c_ch3_e, PD.lenD_l, PD.lenD_t, PD.listD_l, PD.listD_t, PD.tupleD_l, PD.tupleD_t, PD.listrevD_l, PD.iaddD_i, PD.addD_i, PD.mulD_i, PD.fdivD_i, PD.modD_i, PD.divmodD_i, PD.eqD_i, PD.neD_i, PD.isN_none, PD.isN_bool, PD.isN_int, PD.isN_str, PD.isN_list, PD.isN_tuple, PD.notN_none, PD.notN_bool, PD.notN_int, PD.notN_str, PD.notN_list, PD.notN_tuple, PD.eqD_b2, PD.neD_b2, PD.ix0, PD.ix1, PD.ix2, PD.ix3, PD.ix4, PD.ix5, PD.ixm1, PD.ixN30, PD.ixN31, PD.ixN32, Bool.false_eq_true, Bool.not_true, Bool.not_false, reduceCtorEq, decide_true, decide_false, Nat.reduceLT, Nat.reduceLeDiff, Nat.reduceEqDiff, Int.reduceLT, Int.reduceLE, Int.reduceToNat, Int.reduceNeg, Option.getD_some, Option.getD_none, and_self, and_true, true_and, PD.le_size, beq_self_eq_true, Bool.true_beq, Bool.false_beq, b__law_columns_0, g1, g4, a1, r2, cc, a2]
    exact wp_some ⟨_, .inl rfl, _, rfl⟩
  · obtain ⟨k, rfl⟩ := hi
    rw [rng_len', Nat.zero_add]
    exact ⟨k, rfl⟩
theorem col_loop2 {c : List D} {Q : Int} {ls ts : List Int} {M : Nat} {C k0 : Option D} (h : Cols ls ts M) : ∃ k, forD (gN 7) b__law_columns_1 (rngC ((M : Int) - 1) M) (cSt c M Q (some (.list (ts.map .int))) (some (.list (ls.map .int))) (some (.list ((bot ls M).map pt2))) C k0) = some (.nx (cSt c M Q (some (.list (ts.map .int))) (some (.list (ls.map .int))) (some (.list ((bot ls M ++ top ts M M).map pt2))) C k)) := by
  have key := wp_for (g := gN 7) (fb := b__law_columns_1) (Q := fun o => ∃ k, o = .nx (cSt c M Q (some (.list (ts.map .int))) (some (.list (ls.map .int))) (some (.list ((bot ls M ++ top ts M M).map pt2))) C k)) (fun i t => ∃ k, t = cSt c M Q (some (.list (ts.map .int))) (some (.list (ls.map .int))) (some (.list ((bot ls M ++ top ts M i).map pt2))) C k) (rngC ((M : Int) - 1) M) 0 (cSt c M Q (some (.list (ts.map .int))) (some (.list (ls.map .int))) (some (.list ((bot ls M).map pt2))) C k0) ⟨k0, by rw [show top ts M 0 = [] from rfl, List.append_nil]⟩ (fun j d t hj hi => ?_) fun t hi => ?_
  · obtain ⟨o, e, k, rfl⟩ := key
    exact ⟨k, e⟩
  · obtain ⟨k, rfl⟩ := hi
    obtain ⟨hj1, rfl⟩ := rngC_get hj
    rw [Nat.zero_add]
    have hM := h.m
    obtain ⟨g4, g5, g6⟩ := h.gett (k := M - 1 - j) (by omega)
    have e0 : ((M : Int) - 1 + (j : Int) * (-1)) = (M : Int) - 1 - (j : Int) := by omega
    rw [show ((M - 1 - j : Nat) : Int) = (M : Int) - 1 - (j : Int) by omega] at g4
    rw [e0]
    have hb := bot_len ls M
    have hc := top_len ts M j
    have a1 : addD (.list ((bot ls M ++ top ts M j).map pt2)) (.list [.tuple [.int ((M : Int) - 1 - (j : Int) + 1), .int (ts.getD (M - 1 - j) 0)], .tuple [.int ((M : Int) - 1 - (j : Int)), .int (ts.getD (M - 1 - j) 0)]]) = some (.list ((bot ls M ++ top ts M (j + 1)).map pt2)) := by
      rw [addD_l (by rw [List.length_map, List.length_append, hb, hc, sizeLine_eq]; show _ + 2 ≤ _; omega), top_succ, ← List.append_assoc, List.map_append (l₂ := [_, _])]; rfl
    unfold cSt
    simp -implicitDefEqProofs (disch := (first | assumption | (refine' PD.mulOk_sz ?a ?b ?c; (case a => (repeat' (first | assumption | exact PD.Sz.fmod (PD.Sz.lit (n := 64) (by decide)) (by decide) | exact PD.Sz.lit (n := 64) (by decide) | apply PD.Sz.mul | apply PD.Sz.add | apply PD.Sz.sub | apply PD.Sz.neg))); (case b => (repeat' (first | assumption | exact PD.Sz.fmod (PD.Sz.lit (n := 64) (by decide)) (by decide) | exact PD.Sz.lit (n := 64) (by decide) | apply PD.Sz.mul | apply PD.Sz.add | apply PD.Sz.sub | apply PD.Sz.neg))); (case c => decide)) | (exact PD.divOk_sz (PD.Sz.lit (n := 64) (by decide)) (by decide) (by decide)) | omega | (apply PD.lt_size; (first | decide | omega)))) only [PD.compD_nil, PD.compD_cons, PD.c_cp0_e, PD.c_cp1_t, PD.c_cp1_f, PD.c_cp2_e, PD.c_k0_e, PD.c_k1_t, PD.c_k1_f, PD.c_k2_e, PD.forD_nil, PD.forD_cons, PD.c_f1_e, PD.c_f2_nx, PD.c_f2_ct, PD.c_f2_bk, PD.c_f2_rt, ↓Option.bind_some, ↓reduceIte, PD.sCons_e, PD.sTup_e, PD.sLst_e, PD.bin_e, PD.un_e, PD.callD_e, PD.callI_e, PD.tru_e, PD.tand_e, PD.tor_e, PD.tnot_e, PD.vand_e, PD.vor_e, PD.sIf_e, PD.nl_e, PD.lenO_e, PD.truO_e, PD.ixO_e, PD.methO_e, PD.sSl_e, PD.oSome_e, PD.wS_e, PD.wR1_e, PD.wR2_e, PD.wE_e, PD.wZ_e, PD.sLc_e, PD.kSeq_e, PD.kDrop_e, PD.kSet_e, PD.kOwn_e, PD.kAsg_e, PD.kPar_e, PD.kPar3_e, PD.kIf_e, PD.kRet_e, PD.kRetO_e, PD.kFor_e, PD.kWhile_e, PD.c_ret_e, PD.c_retL_e, PD.c_retB_e, PD.c_sCons2_e, PD.c_sCons1_e, PD.c_tup_e, PD.c_lst_e, PD.c_bin2_e, PD.c_bin1_e, PD.c_un_e, PD.c_call_e, PD.c_callI3_e, PD.c_callI2_e, PD.c_callI_e, PD.c_tru_e, PD.c_and_t, PD.c_and_f, PD.c_or_t, PD.c_or_f, PD.c_not_e, PD.c_vand_t, PD.c_vand_f, PD.c_vor_t, PD.c_vor_f, PD.c_sif_t, PD.c_sif_f, PD.c_nl_e, PD.c_lenO_e, PD.c_truO_e, PD.c_ixO2_e, PD.c_ixO_e, PD.c_meth3_e, PD.c_meth2_e, PD.c_meth_e, PD.c_sl3_e, PD.c_sl2_e, PD.c_sl_e, PD.c_os_e, PD.c_wS_e, PD.c_wR1_e, PD.c_wR2_e, PD.c_wE_e, PD.c_wZ_l, PD.c_wZ_t, PD.c_lc2_e, PD.c_lc_e, PD.c_seq_nx, PD.c_seq_bk, PD.c_seq_ct, PD.c_seq_rt, PD.c_drop_e, PD.c_set_e, PD.c_own_e, PD.c_nx_e, PD.c_asg_e, PD.c_par_e, PD.c_par3_e, PD.c_if_t, PD.c_if_f, PD.c_rt_e, PD.c_rto_e, PD.c_for_e, PD.c_gO3_e, PD.c_gO2_e, PD.c_gO_e, PD.gO_e, PD.gN_e, PD.gsNil_e, PD.gsCons_e, PD.gT_e, PD.sNil_e, PD.sC_e, PD.oNone_e, PD.tYesD_e, PD.kNil_e, PD.kRetN_e, PD.kBk_e, PD.kCt_e, PD.kNever_e, PD.runP_e, PD.runI_e, PD.outP_nx, PD.outP_rt, PD.outI_nx, PD.outI_rt, PD.sV, PD.ownL, PD.ini, List.map_cons, List.map_nil, List.length_cons, List.length_nil, Nat.reduceSub, Nat.reduceAdd, Nat.sub_self, Nat.zero_add, List.replicate_succ, List.replicate_zero, List.append_nil, List.cons_append, List.nil_append, List.getElem?_cons_zero, List.getElem?_cons_succ, List.getElem?_nil, List.set_cons_zero, List.set_cons_succ, Option.bind_none, Option.bind_assoc, Option.map_some, PD.seqD_list, PD.seqD_tuple, PD.wipeD, PD.unwipe, PD.rng1_i, PD.appD_l, PD.ixD_l, PD.ixD_t, PD.truD_n, PD.truD_b, PD.truD_i, PD.truD_l, PD.truD_t, PD.sliceD_l, PD.sliceD_t, PD.subD_i, PD.negD_i, PD.notD_b, PD.ltD_i, PD.leD_i, PD.gtD_i, PD.geD_i, PD.absD_i, PD.intD_i, PD.intD_b, PD.max2_i, PD.min2_i, PD.max3_i, PD.min3_i, PD.chn_e, PD.c_ch0_e, PD.c_ch1_e, PD.c_ch2_t, PD.c_ch2_f, PD.c_ch3_e, PD.lenD_l, PD.lenD_t, PD.listD_l, PD.listD_t, PD.tupleD_l, PD.tupleD_t, PD.listrevD_l, PD.iaddD_i, PD.addD_i, PD.mulD_i, PD.fdivD_i, PD.modD_i, PD.divmodD_i, PD.eqD_i, PD.neD_i, PD.isN_none, PD.isN_bool, PD.isN_int, PD.isN_str, PD.isN_list, PD.isN_tuple, PD.notN_none, PD.notN_bool, PD.notN_int, PD.notN_str, PD.notN_list, PD.notN_tuple, PD.eqD_b2, PD.neD_b2, PD.ix0, PD.ix1, PD.ix2, PD.ix3, PD.ix4, PD.ix5, PD.ixm1, PD.ixN30, PD.ixN31, PD.ixN32, Bool.false_eq_true, Bool.not_true, Bool.not_false, reduceCtorEq, decide_true, decide_false, Nat.reduceLT, Nat.reduceLeDiff, Nat.reduceEqDiff, Int.reduceLT, Int.reduceLE, Int.reduceToNat, Int.reduceNeg, Option.getD_some, Option.getD_none, and_self, and_true, true_and, PD.le_size, beq_self_eq_true, Bool.true_beq, Bool.false_beq, b__law_columns_1, g4, a1]
    exact wp_some ⟨_, .inl rfl, _, rfl⟩
  · obtain ⟨k, rfl⟩ := hi
    rw [rngC_len, Nat.zero_add]
    exact ⟨k, rfl⟩
end W

set_option maxHeartbeats 2000000
namespace W
open PySem L2 PD
theorem list1 {l : List Int} (h : l.length = 1) : ∃ a, l = [a] := by
  match l, h with
  | [a], _ => exact ⟨a, rfl⟩
theorem list2 {l : List Int} (h : l.length = 2) : ∃ a b, l = [a, b] := by
  match l, h with
  | [a, b], _ => exact ⟨a, b, rfl⟩
theorem list3 {l : List Int} (h : l.length = 3) : ∃ a b c, l = [a, b, c] := by
  match l, h with
  | [a, b, c], _ => exact ⟨a, b, c, rfl⟩
theorem list4 {l : List Int} (h : l.length = 4) : ∃ a b c d, l = [a, b, c, d] := by
  match l, h with
  | [a, b, c, d], _ => exact ⟨a, b, c, d, rfl⟩
theorem cel_sum {ls ts : List Int} {M : Nat} (h : Cols ls ts M) : ∀ i, i ≤ M → ((cel ls ts i).length : Int) = isum ((List.range i).map fun (k : Nat) => ts.getD k 0 - ls.getD k 0)
  | 0, _ => rfl
  | i + 1, hi => by
    have h1 := cel_sum h i (by omega)
    have h2 := (h.getl (k := i) (by omega)).2
    have h3 := (h.gett (k := i) (by omega)).2
    rw [cel_succ, List.length_append, List.length_map, List.length_range, List.range_succ, List.map_append, isum_app, ← h1]
    show _ = _ + (ts.getD i 0 - ls.getD i 0 + 0)
    omega
theorem col_area {ls ts : List Int} {M : Nat} (h : Cols ls ts M) (h1 : 1 ≤ M) : sar (bot ls M ++ top ts M M) = 2 * ((cel ls ts M).length : Int) := by
  rw [cel_sum h M (Nat.le_refl _)]
  have hM : M = 1 ∨ M = 2 ∨ M = 3 ∨ M = 4 := by have := h.m; omega
  have e1 := h.l1
  have e2 := h.l2
  rcases hM with rfl | rfl | rfl | rfl
  · obtain ⟨a, rfl⟩ := list1 e1
    obtain ⟨p, rfl⟩ := list1 e2
    show sar [((0 : Int), a), ((1 : Int), a), ((1 : Int), p), ((0 : Int), p)] = 2 * (p - a + 0)
    simp only [sar, iwalk, iend, icr]
    omega
  · obtain ⟨a, b, rfl⟩ := list2 e1
    obtain ⟨p, q, rfl⟩ := list2 e2
    show sar [((0 : Int), a), ((1 : Int), a), ((1 : Int), b), ((2 : Int), b), ((2 : Int), q), ((1 : Int), q), ((1 : Int), p), ((0 : Int), p)] = 2 * (p - a + (q - b + 0))
    simp only [sar, iwalk, iend, icr]
    omega
  · obtain ⟨a, b, c, rfl⟩ := list3 e1
    obtain ⟨p, q, r, rfl⟩ := list3 e2
    show sar [((0 : Int), a), ((1 : Int), a), ((1 : Int), b), ((2 : Int), b), ((2 : Int), c), ((3 : Int), c), ((3 : Int), r), ((2 : Int), r), ((2 : Int), q), ((1 : Int), q), ((1 : Int), p), ((0 : Int), p)] = 2 * (p - a + (q - b + (r - c + 0)))
    simp only [sar, iwalk, iend, icr]
    omega
  · obtain ⟨a, b, c, d, rfl⟩ := list4 e1
    obtain ⟨p, q, r, s, rfl⟩ := list4 e2
    show sar [((0 : Int), a), ((1 : Int), a), ((1 : Int), b), ((2 : Int), b), ((2 : Int), c), ((3 : Int), c), ((3 : Int), d), ((4 : Int), d), ((4 : Int), s), ((3 : Int), s), ((3 : Int), r), ((2 : Int), r), ((2 : Int), q), ((1 : Int), q), ((1 : Int), p), ((0 : Int), p)] = 2 * (p - a + (q - b + (r - c + (s - d + 0))))
    simp only [sar, iwalk, iend, icr]
    omega
theorem bot_bd {ls ts : List Int} {M : Nat} (h : Cols ls ts M) : Bd 4 (bot ls M) := fun p hp => by
  obtain ⟨k, hk, hp⟩ := List.mem_flatMap.mp hp
  have hk := List.mem_range.mp hk
  have hm := h.m
  have hg := (h.getl hk).2
  rcases List.mem_cons.mp hp with rfl | hp
  · dsimp only; omega
  · rw [List.mem_singleton.mp hp]; dsimp only; omega
theorem top_bd {ls ts : List Int} {M : Nat} (h : Cols ls ts M) : Bd 4 (top ts M M) := fun p hp => by
  obtain ⟨k, hk, hp⟩ := List.mem_flatMap.mp hp
  have hk := List.mem_range.mp hk
  have hm := h.m
  have hg := (h.gett (k := M - 1 - k) (by omega)).2
  rcases List.mem_cons.mp hp with rfl | hp
  · dsimp only; omega
  · rw [List.mem_singleton.mp hp]; dsimp only; omega
theorem cel_bd {ls ts : List Int} {M : Nat} (h : Cols ls ts M) : Bd 4 (cel ls ts M) := fun p hp => by
  obtain ⟨k, hk, hp⟩ := List.mem_flatMap.mp hp
  have hk := List.mem_range.mp hk
  have hm := h.m
  have hg := (h.getl hk).2
  have hg2 := (h.gett hk).2
  obtain ⟨r, hr, rfl⟩ := List.mem_map.mp hp
  have hr := List.mem_range.mp hr
  dsimp only
  omega
theorem cel_pos {ls ts : List Int} {M : Nat} (h : Cols ls ts M) (h1 : 1 ≤ M) : 1 ≤ (cel ls ts M).length := by
  have : (cel ls ts 1).length ≤ (cel ls ts M).length := by
    obtain ⟨j, rfl⟩ : ∃ j, M = 1 + j := ⟨M - 1, by omega⟩
    unfold cel
    rw [List.range_add, List.flatMap_append, List.length_append]
    omega
  have h2 := (h.getl (k := 0) (by omega)).2
  have h3 := (h.gett (k := 0) (by omega)).2
  have e : (cel ls ts 1).length = (ts.getD 0 0 - ls.getD 0 0).toNat := by
    rw [cel_succ, List.length_append, List.length_map, List.length_range]
    show 0 + _ = _
    omega
  omega
theorem Bd.app {b : Nat} {l m : List IP} (h : Bd b l) (h' : Bd b m) : Bd b (l ++ m) := fun p hp => by
  rcases List.mem_append.mp hp with hp | hp
  · exact h p hp
  · exact h' p hp
theorem Bd.bp {b : Nat} {l : List IP} (h : Bd b l) (hb : b ≤ 100000) : ∀ p ∈ l, BP p := fun p hp => by
  have := h p hp
  exact ⟨by omega, by omega⟩
theorem columns_sp {n : Nat} {c : List D} {M : Nat} {Q : Int} (hc : BoxOk n c) (hn : n ≤ 10000) (h1 : 1 ≤ M) (h4 : M ≤ 4) (q1 : 1 ≤ Q) (q3 : Q ≤ 3) :
    Wp (e__law_columns c [.int (M : Int), .int Q]) fun r => ∃ (ring cells : List IP) (c' : List D), r = (.tuple [ring2 ring, ring2 cells], c') ∧ BoxOk (n + 8) c' ∧ sar ring = 2 * (cells.length : Int) ∧ 1 ≤ cells.length ∧ cells.length ≤ 40 ∧ ring.length ≤ 16 ∧ Bd 4 ring ∧ Bd 4 cells := by
  obtain ⟨_, d1, ts, c1, rfl, lt, bt, hc1⟩ := draws (n := n) (M := M) (Q := Q) (c := c) (ts := none) (ls := none) (fe := (bin addD (sC (.int 1)) (callI 0 e__law_take (sCons (sV 2) sNil)))) 1 3 (by omega) (by omega) (fun m c k hm hm2 => by
    obtain ⟨_, e, v, c', rfl, hv1, hv2, hb⟩ := draw hm (by omega) (show 0 < Q by omega) (by omega)
    unfold cSt
    simp -implicitDefEqProofs (disch := (first | assumption | (refine' PD.mulOk_sz ?a ?b ?c; (case a => (repeat' (first | assumption | exact PD.Sz.fmod (PD.Sz.lit (n := 64) (by decide)) (by decide) | exact PD.Sz.lit (n := 64) (by decide) | apply PD.Sz.mul | apply PD.Sz.add | apply PD.Sz.sub | apply PD.Sz.neg))); (case b => (repeat' (first | assumption | exact PD.Sz.fmod (PD.Sz.lit (n := 64) (by decide)) (by decide) | exact PD.Sz.lit (n := 64) (by decide) | apply PD.Sz.mul | apply PD.Sz.add | apply PD.Sz.sub | apply PD.Sz.neg))); (case c => decide)) | (exact PD.divOk_sz (PD.Sz.lit (n := 64) (by decide)) (by decide) (by decide)) | omega | (apply PD.lt_size; (first | decide | omega)))) only [PD.compD_nil, PD.compD_cons, PD.c_cp0_e, PD.c_cp1_t, PD.c_cp1_f, PD.c_cp2_e, PD.c_k0_e, PD.c_k1_t, PD.c_k1_f, PD.c_k2_e, PD.forD_nil, PD.forD_cons, PD.c_f1_e, PD.c_f2_nx, PD.c_f2_ct, PD.c_f2_bk, PD.c_f2_rt, ↓Option.bind_some, ↓reduceIte, PD.sCons_e, PD.sTup_e, PD.sLst_e, PD.bin_e, PD.un_e, PD.callD_e, PD.callI_e, PD.tru_e, PD.tand_e, PD.tor_e, PD.tnot_e, PD.vand_e, PD.vor_e, PD.sIf_e, PD.nl_e, PD.lenO_e, PD.truO_e, PD.ixO_e, PD.methO_e, PD.sSl_e, PD.oSome_e, PD.wS_e, PD.wR1_e, PD.wR2_e, PD.wE_e, PD.wZ_e, PD.sLc_e, PD.kSeq_e, PD.kDrop_e, PD.kSet_e, PD.kOwn_e, PD.kAsg_e, PD.kPar_e, PD.kPar3_e, PD.kIf_e, PD.kRet_e, PD.kRetO_e, PD.kFor_e, PD.kWhile_e, PD.c_ret_e, PD.c_retL_e, PD.c_retB_e, PD.c_sCons2_e, PD.c_sCons1_e, PD.c_tup_e, PD.c_lst_e, PD.c_bin2_e, PD.c_bin1_e, PD.c_un_e, PD.c_call_e, PD.c_callI3_e, PD.c_callI2_e, PD.c_callI_e, PD.c_tru_e, PD.c_and_t, PD.c_and_f, PD.c_or_t, PD.c_or_f, PD.c_not_e, PD.c_vand_t, PD.c_vand_f, PD.c_vor_t, PD.c_vor_f, PD.c_sif_t, PD.c_sif_f, PD.c_nl_e, PD.c_lenO_e, PD.c_truO_e, PD.c_ixO2_e, PD.c_ixO_e, PD.c_meth3_e, PD.c_meth2_e, PD.c_meth_e, PD.c_sl3_e, PD.c_sl2_e, PD.c_sl_e, PD.c_os_e, PD.c_wS_e, PD.c_wR1_e, PD.c_wR2_e, PD.c_wE_e, PD.c_wZ_l, PD.c_wZ_t, PD.c_lc2_e, PD.c_lc_e, PD.c_seq_nx, PD.c_seq_bk, PD.c_seq_ct, PD.c_seq_rt, PD.c_drop_e, PD.c_set_e, PD.c_own_e, PD.c_nx_e, PD.c_asg_e, PD.c_par_e, PD.c_par3_e, PD.c_if_t, PD.c_if_f, PD.c_rt_e, PD.c_rto_e, PD.c_for_e, PD.c_gO3_e, PD.c_gO2_e, PD.c_gO_e, PD.gO_e, PD.gN_e, PD.gsNil_e, PD.gsCons_e, PD.gT_e, PD.sNil_e, PD.sC_e, PD.oNone_e, PD.tYesD_e, PD.kNil_e, PD.kRetN_e, PD.kBk_e, PD.kCt_e, PD.kNever_e, PD.runP_e, PD.runI_e, PD.outP_nx, PD.outP_rt, PD.outI_nx, PD.outI_rt, PD.sV, PD.ownL, PD.ini, List.map_cons, List.map_nil, List.length_cons, List.length_nil, Nat.reduceSub, Nat.reduceAdd, Nat.sub_self, Nat.zero_add, List.replicate_succ, List.replicate_zero, List.append_nil, List.cons_append, List.nil_append, List.getElem?_cons_zero, List.getElem?_cons_succ, List.getElem?_nil, List.set_cons_zero, List.set_cons_succ, Option.bind_none, Option.bind_assoc, Option.map_some, PD.seqD_list, PD.seqD_tuple, PD.wipeD, PD.unwipe, PD.rng1_i, PD.appD_l, PD.ixD_l, PD.ixD_t, PD.truD_n, PD.truD_b, PD.truD_i, PD.truD_l, PD.truD_t, PD.sliceD_l, PD.sliceD_t, PD.subD_i, PD.negD_i, PD.notD_b, PD.ltD_i, PD.leD_i, PD.gtD_i, PD.geD_i, PD.absD_i, PD.intD_i, PD.intD_b, PD.max2_i, PD.min2_i, PD.max3_i, PD.min3_i, PD.chn_e, PD.c_ch0_e, PD.c_ch1_e, PD.c_ch2_t, PD.c_ch2_f, PD.c_ch3_e, PD.lenD_l, PD.lenD_t, PD.listD_l, PD.listD_t, PD.tupleD_l, PD.tupleD_t, PD.listrevD_l, PD.iaddD_i, PD.addD_i, PD.mulD_i, PD.fdivD_i, PD.modD_i, PD.divmodD_i, PD.eqD_i, PD.neD_i, PD.isN_none, PD.isN_bool, PD.isN_int, PD.isN_str, PD.isN_list, PD.isN_tuple, PD.notN_none, PD.notN_bool, PD.notN_int, PD.notN_str, PD.notN_list, PD.notN_tuple, PD.eqD_b2, PD.neD_b2, PD.ix0, PD.ix1, PD.ix2, PD.ix3, PD.ix4, PD.ix5, PD.ixm1, PD.ixN30, PD.ixN31, PD.ixN32, Bool.false_eq_true, Bool.not_true, Bool.not_false, reduceCtorEq, decide_true, decide_false, Nat.reduceLT, Nat.reduceLeDiff, Nat.reduceEqDiff, Int.reduceLT, Int.reduceLE, Int.reduceToNat, Int.reduceNeg, Option.getD_some, Option.getD_none, and_self, and_true, true_and, PD.le_size, beq_self_eq_true, Bool.true_beq, Bool.false_beq, e]
    exact wp_some ⟨_, _, rfl, by omega, by omega, hb⟩) hc
  obtain ⟨_, d2, ls, c2, rfl, ll, bl, hc2⟩ := draws (n := n + M) (M := M) (Q := Q) (c := c1) (ts := some (.list (ts.map .int))) (ls := none) (fe := (bin subD (sC (.int 0)) (callI 0 e__law_take (sCons (sV 2) sNil)))) (-2) 0 (by omega) (by omega) (fun m c k hm hm2 => by
    obtain ⟨_, e, v, c', rfl, hv1, hv2, hb⟩ := draw hm (by omega) (show 0 < Q by omega) (by omega)
    unfold cSt
    simp -implicitDefEqProofs (disch := (first | assumption | (refine' PD.mulOk_sz ?a ?b ?c; (case a => (repeat' (first | assumption | exact PD.Sz.fmod (PD.Sz.lit (n := 64) (by decide)) (by decide) | exact PD.Sz.lit (n := 64) (by decide) | apply PD.Sz.mul | apply PD.Sz.add | apply PD.Sz.sub | apply PD.Sz.neg))); (case b => (repeat' (first | assumption | exact PD.Sz.fmod (PD.Sz.lit (n := 64) (by decide)) (by decide) | exact PD.Sz.lit (n := 64) (by decide) | apply PD.Sz.mul | apply PD.Sz.add | apply PD.Sz.sub | apply PD.Sz.neg))); (case c => decide)) | (exact PD.divOk_sz (PD.Sz.lit (n := 64) (by decide)) (by decide) (by decide)) | omega | (apply PD.lt_size; (first | decide | omega)))) only [PD.compD_nil, PD.compD_cons, PD.c_cp0_e, PD.c_cp1_t, PD.c_cp1_f, PD.c_cp2_e, PD.c_k0_e, PD.c_k1_t, PD.c_k1_f, PD.c_k2_e, PD.forD_nil, PD.forD_cons, PD.c_f1_e, PD.c_f2_nx, PD.c_f2_ct, PD.c_f2_bk, PD.c_f2_rt, ↓Option.bind_some, ↓reduceIte, PD.sCons_e, PD.sTup_e, PD.sLst_e, PD.bin_e, PD.un_e, PD.callD_e, PD.callI_e, PD.tru_e, PD.tand_e, PD.tor_e, PD.tnot_e, PD.vand_e, PD.vor_e, PD.sIf_e, PD.nl_e, PD.lenO_e, PD.truO_e, PD.ixO_e, PD.methO_e, PD.sSl_e, PD.oSome_e, PD.wS_e, PD.wR1_e, PD.wR2_e, PD.wE_e, PD.wZ_e, PD.sLc_e, PD.kSeq_e, PD.kDrop_e, PD.kSet_e, PD.kOwn_e, PD.kAsg_e, PD.kPar_e, PD.kPar3_e, PD.kIf_e, PD.kRet_e, PD.kRetO_e, PD.kFor_e, PD.kWhile_e, PD.c_ret_e, PD.c_retL_e, PD.c_retB_e, PD.c_sCons2_e, PD.c_sCons1_e, PD.c_tup_e, PD.c_lst_e, PD.c_bin2_e, PD.c_bin1_e, PD.c_un_e, PD.c_call_e, PD.c_callI3_e, PD.c_callI2_e, PD.c_callI_e, PD.c_tru_e, PD.c_and_t, PD.c_and_f, PD.c_or_t, PD.c_or_f, PD.c_not_e, PD.c_vand_t, PD.c_vand_f, PD.c_vor_t, PD.c_vor_f, PD.c_sif_t, PD.c_sif_f, PD.c_nl_e, PD.c_lenO_e, PD.c_truO_e, PD.c_ixO2_e, PD.c_ixO_e, PD.c_meth3_e, PD.c_meth2_e, PD.c_meth_e, PD.c_sl3_e, PD.c_sl2_e, PD.c_sl_e, PD.c_os_e, PD.c_wS_e, PD.c_wR1_e, PD.c_wR2_e, PD.c_wE_e, PD.c_wZ_l, PD.c_wZ_t, PD.c_lc2_e, PD.c_lc_e, PD.c_seq_nx, PD.c_seq_bk, PD.c_seq_ct, PD.c_seq_rt, PD.c_drop_e, PD.c_set_e, PD.c_own_e, PD.c_nx_e, PD.c_asg_e, PD.c_par_e, PD.c_par3_e, PD.c_if_t, PD.c_if_f, PD.c_rt_e, PD.c_rto_e, PD.c_for_e, PD.c_gO3_e, PD.c_gO2_e, PD.c_gO_e, PD.gO_e, PD.gN_e, PD.gsNil_e, PD.gsCons_e, PD.gT_e, PD.sNil_e, PD.sC_e, PD.oNone_e, PD.tYesD_e, PD.kNil_e, PD.kRetN_e, PD.kBk_e, PD.kCt_e, PD.kNever_e, PD.runP_e, PD.runI_e, PD.outP_nx, PD.outP_rt, PD.outI_nx, PD.outI_rt, PD.sV, PD.ownL, PD.ini, List.map_cons, List.map_nil, List.length_cons, List.length_nil, Nat.reduceSub, Nat.reduceAdd, Nat.sub_self, Nat.zero_add, List.replicate_succ, List.replicate_zero, List.append_nil, List.cons_append, List.nil_append, List.getElem?_cons_zero, List.getElem?_cons_succ, List.getElem?_nil, List.set_cons_zero, List.set_cons_succ, Option.bind_none, Option.bind_assoc, Option.map_some, PD.seqD_list, PD.seqD_tuple, PD.wipeD, PD.unwipe, PD.rng1_i, PD.appD_l, PD.ixD_l, PD.ixD_t, PD.truD_n, PD.truD_b, PD.truD_i, PD.truD_l, PD.truD_t, PD.sliceD_l, PD.sliceD_t, PD.subD_i, PD.negD_i, PD.notD_b, PD.ltD_i, PD.leD_i, PD.gtD_i, PD.geD_i, PD.absD_i, PD.intD_i, PD.intD_b, PD.max2_i, PD.min2_i, PD.max3_i, PD.min3_i, PD.chn_e, PD.c_ch0_e, PD.c_ch1_e, PD.c_ch2_t, PD.c_ch2_f, PD.c_ch3_e, PD.lenD_l, PD.lenD_t, PD.listD_l, PD.listD_t, PD.tupleD_l, PD.tupleD_t, PD.listrevD_l, PD.iaddD_i, PD.addD_i, PD.mulD_i, PD.fdivD_i, PD.modD_i, PD.divmodD_i, PD.eqD_i, PD.neD_i, PD.isN_none, PD.isN_bool, PD.isN_int, PD.isN_str, PD.isN_list, PD.isN_tuple, PD.notN_none, PD.notN_bool, PD.notN_int, PD.notN_str, PD.notN_list, PD.notN_tuple, PD.eqD_b2, PD.neD_b2, PD.ix0, PD.ix1, PD.ix2, PD.ix3, PD.ix4, PD.ix5, PD.ixm1, PD.ixN30, PD.ixN31, PD.ixN32, Bool.false_eq_true, Bool.not_true, Bool.not_false, reduceCtorEq, decide_true, decide_false, Nat.reduceLT, Nat.reduceLeDiff, Nat.reduceEqDiff, Int.reduceLT, Int.reduceLE, Int.reduceToNat, Int.reduceNeg, Option.getD_some, Option.getD_none, and_self, and_true, true_and, PD.le_size, beq_self_eq_true, Bool.true_beq, Bool.false_beq, e]
    exact wp_some ⟨_, _, rfl, by omega, by omega, hb⟩) hc1
  have hco : Cols ls ts M := ⟨ll, lt, h4, bl, bt⟩
  obtain ⟨k1, l1⟩ := col_loop1 (c := c2) (Q := Q) hco
  obtain ⟨k2, l2⟩ := col_loop2 (c := c2) (Q := Q) (C := some (.list ((cel ls ts M).map pt2))) (k0 := k1) hco
  have hbd : Bd 4 (bot ls M ++ top ts M M) := (bot_bd hco).app (top_bd hco)
  have hlen : (bot ls M ++ top ts M M).length ≤ 16 := by rw [List.length_append, bot_len, top_len]; omega
  obtain ⟨ring, e3, hs, hsub⟩ := trimmed_sp (l := bot ls M ++ top ts M M) (hbd.bp (by decide)) (by omega)
  have hto : ((M : Int)).toNat = M := Int.toNat_natCast M
  have hto2 : ((M : Int) - 1 - (-1)).toNat = M := by omega
  have r3 : rng3 [.int ((M : Int) - 1), .int (-1), .int (-1)] = some (rngC ((M : Int) - 1) M) := by rw [rng3_i (by omega) (by omega), hto2]
  have hcl := cel_len hco M (Nat.le_refl _)
  unfold cSt at d1 d2 l1 l2
  unfold ring2 at e3
  simp -implicitDefEqProofs (disch := (first | assumption | (refine' PD.mulOk_sz ?a ?b ?c; (case a => (repeat' (first | assumption | exact PD.Sz.fmod (PD.Sz.lit (n := 64) (by decide)) (by decide) | exact PD.Sz.lit (n := 64) (by decide) | apply PD.Sz.mul | apply PD.Sz.add | apply PD.Sz.sub | apply PD.Sz.neg))); (case b => (repeat' (first | assumption | exact PD.Sz.fmod (PD.Sz.lit (n := 64) (by decide)) (by decide) | exact PD.Sz.lit (n := 64) (by decide) | apply PD.Sz.mul | apply PD.Sz.add | apply PD.Sz.sub | apply PD.Sz.neg))); (case c => decide)) | (exact PD.divOk_sz (PD.Sz.lit (n := 64) (by decide)) (by decide) (by decide)) | omega | (apply PD.lt_size; (first | decide | omega)))) only [PD.compD_nil, PD.compD_cons, PD.c_cp0_e, PD.c_cp1_t, PD.c_cp1_f, PD.c_cp2_e, PD.c_k0_e, PD.c_k1_t, PD.c_k1_f, PD.c_k2_e, PD.forD_nil, PD.forD_cons, PD.c_f1_e, PD.c_f2_nx, PD.c_f2_ct, PD.c_f2_bk, PD.c_f2_rt, ↓Option.bind_some, ↓reduceIte, PD.sCons_e, PD.sTup_e, PD.sLst_e, PD.bin_e, PD.un_e, PD.callD_e, PD.callI_e, PD.tru_e, PD.tand_e, PD.tor_e, PD.tnot_e, PD.vand_e, PD.vor_e, PD.sIf_e, PD.nl_e, PD.lenO_e, PD.truO_e, PD.ixO_e, PD.methO_e, PD.sSl_e, PD.oSome_e, PD.wS_e, PD.wR1_e, PD.wR2_e, PD.wE_e, PD.wZ_e, PD.sLc_e, PD.kSeq_e, PD.kDrop_e, PD.kSet_e, PD.kOwn_e, PD.kAsg_e, PD.kPar_e, PD.kPar3_e, PD.kIf_e, PD.kRet_e, PD.kRetO_e, PD.kFor_e, PD.kWhile_e, PD.c_ret_e, PD.c_retL_e, PD.c_retB_e, PD.c_sCons2_e, PD.c_sCons1_e, PD.c_tup_e, PD.c_lst_e, PD.c_bin2_e, PD.c_bin1_e, PD.c_un_e, PD.c_call_e, PD.c_callI3_e, PD.c_callI2_e, PD.c_callI_e, PD.c_tru_e, PD.c_and_t, PD.c_and_f, PD.c_or_t, PD.c_or_f, PD.c_not_e, PD.c_vand_t, PD.c_vand_f, PD.c_vor_t, PD.c_vor_f, PD.c_sif_t, PD.c_sif_f, PD.c_nl_e, PD.c_lenO_e, PD.c_truO_e, PD.c_ixO2_e, PD.c_ixO_e, PD.c_meth3_e, PD.c_meth2_e, PD.c_meth_e, PD.c_sl3_e, PD.c_sl2_e, PD.c_sl_e, PD.c_os_e, PD.c_wS_e, PD.c_wR1_e, PD.c_wR2_e, PD.c_wE_e, PD.c_wZ_l, PD.c_wZ_t, PD.c_lc2_e, PD.c_lc_e, PD.c_seq_nx, PD.c_seq_bk, PD.c_seq_ct, PD.c_seq_rt, PD.c_drop_e, PD.c_set_e, PD.c_own_e, PD.c_nx_e, PD.c_asg_e, PD.c_par_e, PD.c_par3_e, PD.c_if_t, PD.c_if_f, PD.c_rt_e, PD.c_rto_e, PD.c_for_e, PD.c_gO3_e, PD.c_gO2_e, PD.c_gO_e, PD.gO_e, PD.gN_e, PD.gsNil_e, PD.gsCons_e, PD.gT_e, PD.sNil_e, PD.sC_e, PD.oNone_e, PD.tYesD_e, PD.kNil_e, PD.kRetN_e, PD.kBk_e, PD.kCt_e, PD.kNever_e, PD.runP_e, PD.runI_e, PD.outP_nx, PD.outP_rt, PD.outI_nx, PD.outI_rt, PD.sV, PD.ownL, PD.ini, List.map_cons, List.map_nil, List.length_cons, List.length_nil, Nat.reduceSub, Nat.reduceAdd, Nat.sub_self, Nat.zero_add, List.replicate_succ, List.replicate_zero, List.append_nil, List.cons_append, List.nil_append, List.getElem?_cons_zero, List.getElem?_cons_succ, List.getElem?_nil, List.set_cons_zero, List.set_cons_succ, Option.bind_none, Option.bind_assoc, Option.map_some, PD.seqD_list, PD.seqD_tuple, PD.wipeD, PD.unwipe, PD.rng1_i, PD.appD_l, PD.ixD_l, PD.ixD_t, PD.truD_n, PD.truD_b, PD.truD_i, PD.truD_l, PD.truD_t, PD.sliceD_l, PD.sliceD_t, PD.subD_i, PD.negD_i, PD.notD_b, PD.ltD_i, PD.leD_i, PD.gtD_i, PD.geD_i, PD.absD_i, PD.intD_i, PD.intD_b, PD.max2_i, PD.min2_i, PD.max3_i, PD.min3_i, PD.chn_e, PD.c_ch0_e, PD.c_ch1_e, PD.c_ch2_t, PD.c_ch2_f, PD.c_ch3_e, PD.lenD_l, PD.lenD_t, PD.listD_l, PD.listD_t, PD.tupleD_l, PD.tupleD_t, PD.listrevD_l, PD.iaddD_i, PD.addD_i, PD.mulD_i, PD.fdivD_i, PD.modD_i, PD.divmodD_i, PD.eqD_i, PD.neD_i, PD.isN_none, PD.isN_bool, PD.isN_int, PD.isN_str, PD.isN_list, PD.isN_tuple, PD.notN_none, PD.notN_bool, PD.notN_int, PD.notN_str, PD.notN_list, PD.notN_tuple, PD.eqD_b2, PD.neD_b2, PD.ix0, PD.ix1, PD.ix2, PD.ix3, PD.ix4, PD.ix5, PD.ixm1, PD.ixN30, PD.ixN31, PD.ixN32, Bool.false_eq_true, Bool.not_true, Bool.not_false, reduceCtorEq, decide_true, decide_false, Nat.reduceLT, Nat.reduceLeDiff, Nat.reduceEqDiff, Int.reduceLT, Int.reduceLE, Int.reduceToNat, Int.reduceNeg, Option.getD_some, Option.getD_none, and_self, and_true, true_and, PD.le_size, beq_self_eq_true, Bool.true_beq, Bool.false_beq, e__law_columns, m__law_columns, hto, d1, d2, t__law_columns_44, l1, t__law_columns_49, wR3, r3, l2, e3]
  exact wp_some ⟨ring, cel ls ts M, c2, rfl, hc2.mono (by omega), hs.trans (col_area hco h1), cel_pos hco h1, by omega, Nat.le_trans hsub.length_le hlen, fun p hp => hbd p (hsub.subset hp), cel_bd hco⟩
end W

set_option maxHeartbeats 2000000
namespace W
open PySem L2 PD
/-! ### shapes and pillars, read by running -/
def rdP : D → Option IP
  | .tuple [.int a, .int b] => some (a, b)
  | _ => none
def rdL : List D → Option (List IP)
  | [] => some []
  | d :: r => (rdP d).bind fun p => (rdL r).map fun l => p :: l
def rd : Option D → Option (List IP)
  | some (.list ds) => rdL ds
  | _ => none
theorem rdP_ok {d : D} {p : IP} (h : rdP d = some p) : d = pt2 p := by
  unfold rdP at h
  split at h
  · cases h; rfl
  · cases h
theorem rdL_ok : ∀ {ds : List D} {ps : List IP}, rdL ds = some ps → ds = ps.map pt2
  | [], ps, h => by cases h; rfl
  | d :: r, ps, h => by
    obtain ⟨p, h1, h2⟩ := Option.bind_eq_some_iff.mp (show (rdP d).bind _ = _ from h)
    obtain ⟨l, h3, rfl⟩ := Option.map_eq_some_iff.mp h2
    rw [List.map_cons, ← rdL_ok h3, ← rdP_ok h1]
theorem rd_ok {x : Option D} {ps : List IP} (h : rd x = some ps) : x = some (ring2 ps) := by
  unfold rd at h
  split at h
  · rw [rdL_ok h]; rfl
  · cases h
def chkS : Option (List IP) → Bool
  | some ps => decide (1 ≤ sar ps) && decide (ps.length ≤ 12) && ps.all fun p => decide (p.1.natAbs ≤ 6) && decide (p.2.natAbs ≤ 6)
  | none => false
theorem shapes : ((List.range 14).all fun k => chkS (rd (e__law_shape [.int (k : Int)]))) = true := by decide +kernel
theorem shape_sp {k : Nat} (h : k < 14) : ∃ ps, e__law_shape [.int (k : Int)] = some (ring2 ps) ∧ 1 ≤ sar ps ∧ ps.length ≤ 12 ∧ Bd 6 ps := by
  have := List.all_eq_true.mp shapes k (List.mem_range.mpr h)
  unfold chkS at this
  split at this
  · rename_i ps hp
    rw [Bool.and_eq_true, Bool.and_eq_true, decide_eq_true_eq, decide_eq_true_eq] at this
    refine ⟨ps, rd_ok hp, this.1.1, this.1.2, fun p hm => ?_⟩
    have := List.all_eq_true.mp this.2 p hm
    rw [Bool.and_eq_true, decide_eq_true_eq, decide_eq_true_eq] at this
    exact this
  · cases this
def pilT : List D := [.str "11 31 13", .str "11 32 23", .str "11 31 33 13", .str "21 32 23 12", .str "12 31 33", .str "11 32 33 23", .str "11 31 22 23", .str "21 22 12"]
def rdI : Option D → Option Int
  | some (.int i) => some i
  | _ => none
theorem rdI_ok {x : Option D} {i : Int} (h : rdI x = some i) : x = some (.int i) := by
  unfold rdI at h
  split at h
  · cases h; rfl
  · cases h
def wd (d : D) : Option IP := (rdI ((ixD d (.int 0)).bind fun e => intS [e])).bind fun x => (rdI ((ixD d (.int 1)).bind fun e => intS [e])).map fun y => (x, y)
def wds : List D → Option (List IP)
  | [] => some []
  | d :: r => (wd d).bind fun p => (wds r).map fun l => p :: l
def rdW : Option D → Option (List D × List IP)
  | some (.list ds) => (wds ds).map fun ps => (ds, ps)
  | _ => none
def chkW : Option (List D × List IP) → Bool
  | some (_, ps) => decide (1 ≤ sar ps) && decide (sar ps ≤ 8) && decide (ps.length ≤ 4) && ps.all fun p => decide (p.1.natAbs ≤ 3) && decide (p.2.natAbs ≤ 3)
  | none => false
theorem pils : ((List.range 8).all fun k => chkW (rdW ((atI pilT (k : Int)).bind fun d => splitD d (.str " ")))) = true := by decide +kernel
theorem pil_words {k : Nat} (h : k < 8) : ∃ d ds ps, atI pilT (k : Int) = some d ∧ splitD d (.str " ") = some (.list ds) ∧ wds ds = some ps ∧ 1 ≤ sar ps ∧ sar ps ≤ 8 ∧ ps.length ≤ 4 ∧ Bd 3 ps := by
  have := List.all_eq_true.mp pils k (List.mem_range.mpr h)
  unfold chkW at this
  split at this
  · rename_i ds ps hp
    rw [Bool.and_eq_true, Bool.and_eq_true, Bool.and_eq_true, decide_eq_true_eq, decide_eq_true_eq, decide_eq_true_eq] at this
    unfold rdW at hp
    split at hp
    · rename_i es he
      obtain ⟨qs, h1, h2⟩ := Option.map_eq_some_iff.mp hp
      cases h2
      obtain ⟨d, h3, h4⟩ := Option.bind_eq_some_iff.mp he
      refine ⟨d, _, _, h3, h4, h1, this.1.1.1, this.1.1.2, this.1.2, fun p hm => ?_⟩
      have := List.all_eq_true.mp this.2 p hm
      rw [Bool.and_eq_true, decide_eq_true_eq, decide_eq_true_eq] at this
      exact this
    · cases hp
  · cases this
def put (q : IP) (p : IP) : IP := (4 * q.1 + p.1, 4 * q.2 + p.2)
theorem pil_loop {b : D} {q : IP} {tx : D} (hq : BP q) : ∀ (ds : List D) (ps : List IP) (fs : List IP) (x : Option D), wds ds = some ps → fs.length + ds.length ≤ 1000 → ∃ y, forD (gN 4) b__law_pillar_0 ds [some b, some (pt2 q), some tx, some (.list (fs.map pt2)), x] = some (.nx [some b, some (pt2 q), some tx, some (.list ((fs ++ ps.map (put q)).map pt2)), y])
  | [], ps, fs, x, h, _ => by
    cases h
    exact ⟨x, by rw [List.map_nil, List.append_nil]; rfl⟩
  | d :: ds, ps, fs, x, h, hl => by
    rw [List.length_cons] at hl
    obtain ⟨p, h1, h2⟩ := Option.bind_eq_some_iff.mp (show (wd d).bind _ = _ from h)
    obtain ⟨l, h3, rfl⟩ := Option.map_eq_some_iff.mp h2
    unfold wd at h1
    obtain ⟨u, h4, h5⟩ := Option.bind_eq_some_iff.mp h1
    obtain ⟨v, h6, rfl⟩ := Option.map_eq_some_iff.mp h5
    obtain ⟨e0, i0, s0⟩ := Option.bind_eq_some_iff.mp (rdI_ok h4)
    obtain ⟨e1, i1, s1⟩ := Option.bind_eq_some_iff.mp (rdI_ok h6)
    obtain ⟨y, ih⟩ := pil_loop (b := b) (tx := tx) hq ds l (fs ++ [put q (u, v)]) (some d) h3 (by rw [List.length_append, List.length_singleton]; omega)
    refine ⟨y, ?_⟩
    rw [List.append_assoc] at ih
    rw [List.map_cons, show put q (u, v) :: l.map (put q) = [put q (u, v)] ++ l.map (put q) from rfl, ← ih]
    have hlen : (fs.map pt2).length < sizeLine := lt_size (by rw [List.length_map]; omega)
    have e3 : (fs ++ [put q (u, v)]).map pt2 = fs.map pt2 ++ [pt2 (put q (u, v))] := by rw [List.map_append]; rfl
    rw [e3]
    have m1 : mulOk 4 q.1 = true := mulOk_sz (Sz.lit (n := 20) (by decide)) hq.s1 (by decide)
    have m2 : mulOk 4 q.2 = true := mulOk_sz (Sz.lit (n := 20) (by decide)) hq.s2 (by decide)
    simp -implicitDefEqProofs (disch := (first | assumption | (refine' PD.mulOk_sz ?a ?b ?c; (case a => (repeat' (first | assumption | exact PD.Sz.fmod (PD.Sz.lit (n := 64) (by decide)) (by decide) | exact PD.Sz.lit (n := 64) (by decide) | apply PD.Sz.mul | apply PD.Sz.add | apply PD.Sz.sub | apply PD.Sz.neg))); (case b => (repeat' (first | assumption | exact PD.Sz.fmod (PD.Sz.lit (n := 64) (by decide)) (by decide) | exact PD.Sz.lit (n := 64) (by decide) | apply PD.Sz.mul | apply PD.Sz.add | apply PD.Sz.sub | apply PD.Sz.neg))); (case c => decide)) | (exact PD.divOk_sz (PD.Sz.lit (n := 64) (by decide)) (by decide) (by decide)) | omega | (apply PD.lt_size; (first | decide | omega)))) only [PD.compD_nil, PD.compD_cons, PD.c_cp0_e, PD.c_cp1_t, PD.c_cp1_f, PD.c_cp2_e, PD.c_k0_e, PD.c_k1_t, PD.c_k1_f, PD.c_k2_e, PD.forD_nil, PD.forD_cons, PD.c_f1_e, PD.c_f2_nx, PD.c_f2_ct, PD.c_f2_bk, PD.c_f2_rt, ↓Option.bind_some, ↓reduceIte, PD.sCons_e, PD.sTup_e, PD.sLst_e, PD.bin_e, PD.un_e, PD.callD_e, PD.callI_e, PD.tru_e, PD.tand_e, PD.tor_e, PD.tnot_e, PD.vand_e, PD.vor_e, PD.sIf_e, PD.nl_e, PD.lenO_e, PD.truO_e, PD.ixO_e, PD.methO_e, PD.sSl_e, PD.oSome_e, PD.wS_e, PD.wR1_e, PD.wR2_e, PD.wE_e, PD.wZ_e, PD.sLc_e, PD.kSeq_e, PD.kDrop_e, PD.kSet_e, PD.kOwn_e, PD.kAsg_e, PD.kPar_e, PD.kPar3_e, PD.kIf_e, PD.kRet_e, PD.kRetO_e, PD.kFor_e, PD.kWhile_e, PD.c_ret_e, PD.c_retL_e, PD.c_retB_e, PD.c_sCons2_e, PD.c_sCons1_e, PD.c_tup_e, PD.c_lst_e, PD.c_bin2_e, PD.c_bin1_e, PD.c_un_e, PD.c_call_e, PD.c_callI3_e, PD.c_callI2_e, PD.c_callI_e, PD.c_tru_e, PD.c_and_t, PD.c_and_f, PD.c_or_t, PD.c_or_f, PD.c_not_e, PD.c_vand_t, PD.c_vand_f, PD.c_vor_t, PD.c_vor_f, PD.c_sif_t, PD.c_sif_f, PD.c_nl_e, PD.c_lenO_e, PD.c_truO_e, PD.c_ixO2_e, PD.c_ixO_e, PD.c_meth3_e, PD.c_meth2_e, PD.c_meth_e, PD.c_sl3_e, PD.c_sl2_e, PD.c_sl_e, PD.c_os_e, PD.c_wS_e, PD.c_wR1_e, PD.c_wR2_e, PD.c_wE_e, PD.c_wZ_l, PD.c_wZ_t, PD.c_lc2_e, PD.c_lc_e, PD.c_seq_nx, PD.c_seq_bk, PD.c_seq_ct, PD.c_seq_rt, PD.c_drop_e, PD.c_set_e, PD.c_own_e, PD.c_nx_e, PD.c_asg_e, PD.c_par_e, PD.c_par3_e, PD.c_if_t, PD.c_if_f, PD.c_rt_e, PD.c_rto_e, PD.c_for_e, PD.c_gO3_e, PD.c_gO2_e, PD.c_gO_e, PD.gO_e, PD.gN_e, PD.gsNil_e, PD.gsCons_e, PD.gT_e, PD.sNil_e, PD.sC_e, PD.oNone_e, PD.tYesD_e, PD.kNil_e, PD.kRetN_e, PD.kBk_e, PD.kCt_e, PD.kNever_e, PD.runP_e, PD.runI_e, PD.outP_nx, PD.outP_rt, PD.outI_nx, PD.outI_rt, PD.sV, PD.ownL, PD.ini, List.map_cons, List.map_nil, List.length_cons, List.length_nil, Nat.reduceSub, Nat.reduceAdd, Nat.sub_self, Nat.zero_add, List.replicate_succ, List.replicate_zero, List.append_nil, List.cons_append, List.nil_append, List.getElem?_cons_zero, List.getElem?_cons_succ, List.getElem?_nil, List.set_cons_zero, List.set_cons_succ, Option.bind_none, Option.bind_assoc, Option.map_some, PD.seqD_list, PD.seqD_tuple, PD.wipeD, PD.unwipe, PD.rng1_i, PD.appD_l, PD.ixD_l, PD.ixD_t, PD.truD_n, PD.truD_b, PD.truD_i, PD.truD_l, PD.truD_t, PD.sliceD_l, PD.sliceD_t, PD.subD_i, PD.negD_i, PD.notD_b, PD.ltD_i, PD.leD_i, PD.gtD_i, PD.geD_i, PD.absD_i, PD.intD_i, PD.intD_b, PD.max2_i, PD.min2_i, PD.max3_i, PD.min3_i, PD.chn_e, PD.c_ch0_e, PD.c_ch1_e, PD.c_ch2_t, PD.c_ch2_f, PD.c_ch3_e, PD.lenD_l, PD.lenD_t, PD.listD_l, PD.listD_t, PD.tupleD_l, PD.tupleD_t, PD.listrevD_l, PD.iaddD_i, PD.addD_i, PD.mulD_i, PD.fdivD_i, PD.modD_i, PD.divmodD_i, PD.eqD_i, PD.neD_i, PD.isN_none, PD.isN_bool, PD.isN_int, PD.isN_str, PD.isN_list, PD.isN_tuple, PD.notN_none, PD.notN_bool, PD.notN_int, PD.notN_str, PD.notN_list, PD.notN_tuple, PD.eqD_b2, PD.neD_b2, PD.ix0, PD.ix1, PD.ix2, PD.ix3, PD.ix4, PD.ix5, PD.ixm1, PD.ixN30, PD.ixN31, PD.ixN32, Bool.false_eq_true, Bool.not_true, Bool.not_false, reduceCtorEq, decide_true, decide_false, Nat.reduceLT, Nat.reduceLeDiff, Nat.reduceEqDiff, Int.reduceLT, Int.reduceLE, Int.reduceToNat, Int.reduceNeg, Option.getD_some, Option.getD_none, and_self, and_true, true_and, PD.le_size, beq_self_eq_true, Bool.true_beq, Bool.false_beq, b__law_pillar_0, i0, i1, s0, s1, pt2, put, mulD_i m1, mulD_i m2, hlen]
theorem sar_put (q : IP) (ps : List IP) : sar (ps.map (put q)) = sar ps := by
  have := sar_aff 1 0 0 1 (4 * q.1) (4 * q.2) ps
  rw [show ps.map (put q) = ps.map (aff 1 0 0 1 (4 * q.1) (4 * q.2)) from List.map_congr_left fun p _ => by unfold put aff; congr 1 <;> omega, this]
  omega
structure PilOk (ps : List IP) : Prop where
  s1 : 1 ≤ sar ps
  s8 : sar ps ≤ 8
  len : ps.length ≤ 4
  bd : Bd 20 ps
theorem pillar_sp {n : Nat} {c : List D} {q : IP} (hc : BoxOk n c) (hn : n ≤ 10000) (hq : q.1.natAbs ≤ 4 ∧ q.2.natAbs ≤ 4) : Wp (e__law_pillar c [pt2 q]) fun r => ∃ ps c', r = (ring2 ps, c') ∧ BoxOk (n + 1) c' ∧ PilOk ps := by
  obtain ⟨_, e, v, c1, rfl, hv1, hv2, hb⟩ := draw (m := 8) hc (by omega) (by decide) (by decide)
  obtain ⟨k, rfl⟩ : ∃ k : Nat, v = (k : Int) := ⟨v.toNat, by omega⟩
  obtain ⟨d, ds, ps, h1, h2, h3, h4, h5, h6, h7⟩ := pil_words (k := k) (by omega)
  have hdl : ds.length ≤ 4 := by
    have : ∀ (ds : List D) (ps : List IP), wds ds = some ps → ds.length = ps.length := by
      intro ds
      induction ds with
      | nil => intro ps h; cases h; rfl
      | cons d r ih =>
        intro ps h
        obtain ⟨p, _, h2⟩ := Option.bind_eq_some_iff.mp (show (wd d).bind _ = _ from h)
        obtain ⟨l, h3, rfl⟩ := Option.map_eq_some_iff.mp h2
        rw [List.length_cons, List.length_cons, ih l h3]
    rw [this ds ps h3]; exact h6
  obtain ⟨y, hl⟩ := pil_loop (b := .list c1) (q := q) (tx := .list pilT) ⟨by omega, by omega⟩ ds ps [] none h3 (by rw [List.length_nil]; omega)
  rw [List.nil_append, List.map_nil] at hl
  have ha : addD (.list [.str "11 31 13", .str "11 32 23", .str "11 31 33 13", .str "21 32 23 12", .str "12 31 33", .str "11 32 33 23"]) (.list [.str "11 31 22 23", .str "21 22 12"]) = some (.list pilT) := addD_l (by rw [sizeLine_eq]; decide)
  simp -implicitDefEqProofs (disch := (first | assumption | (refine' PD.mulOk_sz ?a ?b ?c; (case a => (repeat' (first | assumption | exact PD.Sz.fmod (PD.Sz.lit (n := 64) (by decide)) (by decide) | exact PD.Sz.lit (n := 64) (by decide) | apply PD.Sz.mul | apply PD.Sz.add | apply PD.Sz.sub | apply PD.Sz.neg))); (case b => (repeat' (first | assumption | exact PD.Sz.fmod (PD.Sz.lit (n := 64) (by decide)) (by decide) | exact PD.Sz.lit (n := 64) (by decide) | apply PD.Sz.mul | apply PD.Sz.add | apply PD.Sz.sub | apply PD.Sz.neg))); (case c => decide)) | (exact PD.divOk_sz (PD.Sz.lit (n := 64) (by decide)) (by decide) (by decide)) | omega | (apply PD.lt_size; (first | decide | omega)))) only [PD.compD_nil, PD.compD_cons, PD.c_cp0_e, PD.c_cp1_t, PD.c_cp1_f, PD.c_cp2_e, PD.c_k0_e, PD.c_k1_t, PD.c_k1_f, PD.c_k2_e, PD.forD_nil, PD.forD_cons, PD.c_f1_e, PD.c_f2_nx, PD.c_f2_ct, PD.c_f2_bk, PD.c_f2_rt, ↓Option.bind_some, ↓reduceIte, PD.sCons_e, PD.sTup_e, PD.sLst_e, PD.bin_e, PD.un_e, PD.callD_e, PD.callI_e, PD.tru_e, PD.tand_e, PD.tor_e, PD.tnot_e, PD.vand_e, PD.vor_e, PD.sIf_e, PD.nl_e, PD.lenO_e, PD.truO_e, PD.ixO_e, PD.methO_e, PD.sSl_e, PD.oSome_e, PD.wS_e, PD.wR1_e, PD.wR2_e, PD.wE_e, PD.wZ_e, PD.sLc_e, PD.kSeq_e, PD.kDrop_e, PD.kSet_e, PD.kOwn_e, PD.kAsg_e, PD.kPar_e, PD.kPar3_e, PD.kIf_e, PD.kRet_e, PD.kRetO_e, PD.kFor_e, PD.kWhile_e, PD.c_ret_e, PD.c_retL_e, PD.c_retB_e, PD.c_sCons2_e, PD.c_sCons1_e, PD.c_tup_e, PD.c_lst_e, PD.c_bin2_e, PD.c_bin1_e, PD.c_un_e, PD.c_call_e, PD.c_callI3_e, PD.c_callI2_e, PD.c_callI_e, PD.c_tru_e, PD.c_and_t, PD.c_and_f, PD.c_or_t, PD.c_or_f, PD.c_not_e, PD.c_vand_t, PD.c_vand_f, PD.c_vor_t, PD.c_vor_f, PD.c_sif_t, PD.c_sif_f, PD.c_nl_e, PD.c_lenO_e, PD.c_truO_e, PD.c_ixO2_e, PD.c_ixO_e, PD.c_meth3_e, PD.c_meth2_e, PD.c_meth_e, PD.c_sl3_e, PD.c_sl2_e, PD.c_sl_e, PD.c_os_e, PD.c_wS_e, PD.c_wR1_e, PD.c_wR2_e, PD.c_wE_e, PD.c_wZ_l, PD.c_wZ_t, PD.c_lc2_e, PD.c_lc_e, PD.c_seq_nx, PD.c_seq_bk, PD.c_seq_ct, PD.c_seq_rt, PD.c_drop_e, PD.c_set_e, PD.c_own_e, PD.c_nx_e, PD.c_asg_e, PD.c_par_e, PD.c_par3_e, PD.c_if_t, PD.c_if_f, PD.c_rt_e, PD.c_rto_e, PD.c_for_e, PD.c_gO3_e, PD.c_gO2_e, PD.c_gO_e, PD.gO_e, PD.gN_e, PD.gsNil_e, PD.gsCons_e, PD.gT_e, PD.sNil_e, PD.sC_e, PD.oNone_e, PD.tYesD_e, PD.kNil_e, PD.kRetN_e, PD.kBk_e, PD.kCt_e, PD.kNever_e, PD.runP_e, PD.runI_e, PD.outP_nx, PD.outP_rt, PD.outI_nx, PD.outI_rt, PD.sV, PD.ownL, PD.ini, List.map_cons, List.map_nil, List.length_cons, List.length_nil, Nat.reduceSub, Nat.reduceAdd, Nat.sub_self, Nat.zero_add, List.replicate_succ, List.replicate_zero, List.append_nil, List.cons_append, List.nil_append, List.getElem?_cons_zero, List.getElem?_cons_succ, List.getElem?_nil, List.set_cons_zero, List.set_cons_succ, Option.bind_none, Option.bind_assoc, Option.map_some, PD.seqD_list, PD.seqD_tuple, PD.wipeD, PD.unwipe, PD.rng1_i, PD.appD_l, PD.ixD_l, PD.ixD_t, PD.truD_n, PD.truD_b, PD.truD_i, PD.truD_l, PD.truD_t, PD.sliceD_l, PD.sliceD_t, PD.subD_i, PD.negD_i, PD.notD_b, PD.ltD_i, PD.leD_i, PD.gtD_i, PD.geD_i, PD.absD_i, PD.intD_i, PD.intD_b, PD.max2_i, PD.min2_i, PD.max3_i, PD.min3_i, PD.chn_e, PD.c_ch0_e, PD.c_ch1_e, PD.c_ch2_t, PD.c_ch2_f, PD.c_ch3_e, PD.lenD_l, PD.lenD_t, PD.listD_l, PD.listD_t, PD.tupleD_l, PD.tupleD_t, PD.listrevD_l, PD.iaddD_i, PD.addD_i, PD.mulD_i, PD.fdivD_i, PD.modD_i, PD.divmodD_i, PD.eqD_i, PD.neD_i, PD.isN_none, PD.isN_bool, PD.isN_int, PD.isN_str, PD.isN_list, PD.isN_tuple, PD.notN_none, PD.notN_bool, PD.notN_int, PD.notN_str, PD.notN_list, PD.notN_tuple, PD.eqD_b2, PD.neD_b2, PD.ix0, PD.ix1, PD.ix2, PD.ix3, PD.ix4, PD.ix5, PD.ixm1, PD.ixN30, PD.ixN31, PD.ixN32, Bool.false_eq_true, Bool.not_true, Bool.not_false, reduceCtorEq, decide_true, decide_false, Nat.reduceLT, Nat.reduceLeDiff, Nat.reduceEqDiff, Int.reduceLT, Int.reduceLE, Int.reduceToNat, Int.reduceNeg, Option.getD_some, Option.getD_none, and_self, and_true, true_and, PD.le_size, beq_self_eq_true, Bool.true_beq, Bool.false_beq, e__law_pillar, m__law_pillar, ha, e, h1, h2, hl]
  refine wp_some ⟨ps.map (put q), c1, rfl, hb, ⟨by rw [sar_put]; exact h4, by rw [sar_put]; exact h5, by rw [List.length_map]; exact h6, fun p hp => ?_⟩⟩
  obtain ⟨w, hw, rfl⟩ := List.mem_map.mp hp
  have := h7 w hw
  unfold put
  dsimp only
  omega
end W

set_option maxHeartbeats 2000000
namespace W
open PySem L2 PD
/-! ### pillars -/
theorem lay_pts : ∀ l : List IP, PyData.canLayAll0 (l.map pt2) = true
  | [] => rfl
  | p :: r => by simp [PyData.canLayAll0, PyData.canLay0, lay_pts r, pt2]
theorem dep_pts : ∀ l : List IP, PyData.depthAll (l.map pt2) ≤ 1
  | [] => by simp [PyData.depthAll]
  | p :: r => by
    have := dep_pts r
    simp [PyData.depthAll, PyData.depth, pt2]
    omega
theorem shaped_pts (l : List IP) : SeqAt.shaped (.list (l.map pt2)) = true := by
  have := dep_pts l
  simp [SeqAt.shaped, PyData.canLay0, PyData.depth, lay_pts]
  omega
theorem ne_nil (l : List IP) : neD (.list (l.map pt2)) (.list []) = some (.bool (!l.isEmpty)) := by
  unfold neD
  rw [if_pos ⟨shaped_pts l, shaped_pts []⟩]
  cases l with
  | nil => simp [PyData.eqv, PyData.eqvAll]
  | cons p r => simp [PyData.eqv, PyData.eqvAll]
theorem peekT_e (f : SB) (t : DSt) : peekT f t = (f t).bind fun r => some (r.1, t) := rfl
def qSt (c : List D) (C : D) (m : Int) (fs : List (List IP)) (left : List IP) (k r : Option D) : DSt := [some (.list c), some C, some (.int m), some (.list (fs.map ring2)), some (.list (left.map pt2)), k, r, none]
theorem pls_body {n : Nat} {c : List D} {C : D} {m : Int} {fs : List (List IP)} {left : List IP} {k r : Option D} (hc : BoxOk n c) (hn : n ≤ 9000) (hb : Bd 4 left) (hl : left.length ≤ 40) (hf : fs.length ≤ 50) (hfs : ∀ f ∈ fs, PilOk f) :
    Wp (b__law_pillars_0 (qSt c C m fs left k r)) fun o => ∃ c' fs' left' r', o = .nx (qSt c' C m fs' left' k r') ∧ BoxOk (n + 2) c' ∧ Bd 4 left' ∧ (∀ f ∈ fs', PilOk f) ∧ fs'.length + left'.length ≤ fs.length + left.length ∧ fs'.length ≤ fs.length + 1 := by
  cases hlf : left with
  | nil =>
    have hne := ne_nil []
    unfold qSt
    rw [List.map_nil] at hne ⊢
    simp -implicitDefEqProofs (disch := (first | assumption | (refine' PD.mulOk_sz ?a ?b ?c; (case a => (repeat' (first | assumption | exact PD.Sz.fmod (PD.Sz.lit (n := 64) (by decide)) (by decide) | exact PD.Sz.lit (n := 64) (by decide) | apply PD.Sz.mul | apply PD.Sz.add | apply PD.Sz.sub | apply PD.Sz.neg))); (case b => (repeat' (first | assumption | exact PD.Sz.fmod (PD.Sz.lit (n := 64) (by decide)) (by decide) | exact PD.Sz.lit (n := 64) (by decide) | apply PD.Sz.mul | apply PD.Sz.add | apply PD.Sz.sub | apply PD.Sz.neg))); (case c => decide)) | (exact PD.divOk_sz (PD.Sz.lit (n := 64) (by decide)) (by decide) (by decide)) | omega | (apply PD.lt_size; (first | decide | omega)))) only [PD.compD_nil, PD.compD_cons, PD.c_cp0_e, PD.c_cp1_t, PD.c_cp1_f, PD.c_cp2_e, PD.c_k0_e, PD.c_k1_t, PD.c_k1_f, PD.c_k2_e, PD.forD_nil, PD.forD_cons, PD.c_f1_e, PD.c_f2_nx, PD.c_f2_ct, PD.c_f2_bk, PD.c_f2_rt, ↓Option.bind_some, ↓reduceIte, PD.sCons_e, PD.sTup_e, PD.sLst_e, PD.bin_e, PD.un_e, PD.callD_e, PD.callI_e, PD.tru_e, PD.tand_e, PD.tor_e, PD.tnot_e, PD.vand_e, PD.vor_e, PD.sIf_e, PD.nl_e, PD.lenO_e, PD.truO_e, PD.ixO_e, PD.methO_e, PD.sSl_e, PD.oSome_e, PD.wS_e, PD.wR1_e, PD.wR2_e, PD.wE_e, PD.wZ_e, PD.sLc_e, PD.kSeq_e, PD.kDrop_e, PD.kSet_e, PD.kOwn_e, PD.kAsg_e, PD.kPar_e, PD.kPar3_e, PD.kIf_e, PD.kRet_e, PD.kRetO_e, PD.kFor_e, PD.kWhile_e, PD.c_ret_e, PD.c_retL_e, PD.c_retB_e, PD.c_sCons2_e, PD.c_sCons1_e, PD.c_tup_e, PD.c_lst_e, PD.c_bin2_e, PD.c_bin1_e, PD.c_un_e, PD.c_call_e, PD.c_callI3_e, PD.c_callI2_e, PD.c_callI_e, PD.c_tru_e, PD.c_and_t, PD.c_and_f, PD.c_or_t, PD.c_or_f, PD.c_not_e, PD.c_vand_t, PD.c_vand_f, PD.c_vor_t, PD.c_vor_f, PD.c_sif_t, PD.c_sif_f, PD.c_nl_e, PD.c_lenO_e, PD.c_truO_e, PD.c_ixO2_e, PD.c_ixO_e, PD.c_meth3_e, PD.c_meth2_e, PD.c_meth_e, PD.c_sl3_e, PD.c_sl2_e, PD.c_sl_e, PD.c_os_e, PD.c_wS_e, PD.c_wR1_e, PD.c_wR2_e, PD.c_wE_e, PD.c_wZ_l, PD.c_wZ_t, PD.c_lc2_e, PD.c_lc_e, PD.c_seq_nx, PD.c_seq_bk, PD.c_seq_ct, PD.c_seq_rt, PD.c_drop_e, PD.c_set_e, PD.c_own_e, PD.c_nx_e, PD.c_asg_e, PD.c_par_e, PD.c_par3_e, PD.c_if_t, PD.c_if_f, PD.c_rt_e, PD.c_rto_e, PD.c_for_e, PD.c_gO3_e, PD.c_gO2_e, PD.c_gO_e, PD.gO_e, PD.gN_e, PD.gsNil_e, PD.gsCons_e, PD.gT_e, PD.sNil_e, PD.sC_e, PD.oNone_e, PD.tYesD_e, PD.kNil_e, PD.kRetN_e, PD.kBk_e, PD.kCt_e, PD.kNever_e, PD.runP_e, PD.runI_e, PD.outP_nx, PD.outP_rt, PD.outI_nx, PD.outI_rt, PD.sV, PD.ownL, PD.ini, List.map_cons, List.map_nil, List.length_cons, List.length_nil, Nat.reduceSub, Nat.reduceAdd, Nat.sub_self, Nat.zero_add, List.replicate_succ, List.replicate_zero, List.append_nil, List.cons_append, List.nil_append, List.getElem?_cons_zero, List.getElem?_cons_succ, List.getElem?_nil, List.set_cons_zero, List.set_cons_succ, Option.bind_none, Option.bind_assoc, Option.map_some, PD.seqD_list, PD.seqD_tuple, PD.wipeD, PD.unwipe, PD.rng1_i, PD.appD_l, PD.ixD_l, PD.ixD_t, PD.truD_n, PD.truD_b, PD.truD_i, PD.truD_l, PD.truD_t, PD.sliceD_l, PD.sliceD_t, PD.subD_i, PD.negD_i, PD.notD_b, PD.ltD_i, PD.leD_i, PD.gtD_i, PD.geD_i, PD.absD_i, PD.intD_i, PD.intD_b, PD.max2_i, PD.min2_i, PD.max3_i, PD.min3_i, PD.chn_e, PD.c_ch0_e, PD.c_ch1_e, PD.c_ch2_t, PD.c_ch2_f, PD.c_ch3_e, PD.lenD_l, PD.lenD_t, PD.listD_l, PD.listD_t, PD.tupleD_l, PD.tupleD_t, PD.listrevD_l, PD.iaddD_i, PD.addD_i, PD.mulD_i, PD.fdivD_i, PD.modD_i, PD.divmodD_i, PD.eqD_i, PD.neD_i, PD.isN_none, PD.isN_bool, PD.isN_int, PD.isN_str, PD.isN_list, PD.isN_tuple, PD.notN_none, PD.notN_bool, PD.notN_int, PD.notN_str, PD.notN_list, PD.notN_tuple, PD.eqD_b2, PD.neD_b2, PD.ix0, PD.ix1, PD.ix2, PD.ix3, PD.ix4, PD.ix5, PD.ixm1, PD.ixN30, PD.ixN31, PD.ixN32, Bool.false_eq_true, Bool.not_true, Bool.not_false, reduceCtorEq, decide_true, decide_false, Nat.reduceLT, Nat.reduceLeDiff, Nat.reduceEqDiff, Int.reduceLT, Int.reduceLE, Int.reduceToNat, Int.reduceNeg, Option.getD_some, Option.getD_none, and_self, and_true, true_and, PD.le_size, beq_self_eq_true, Bool.true_beq, Bool.false_beq, b__law_pillars_0, peekT_e, hne, List.isEmpty_nil]
    exact wp_some ⟨c, fs, [], r, rfl, hc.mono (by omega), fun p hp => (nomatch hp), hfs, Nat.le_refl _, by omega⟩
  | cons p0 r0 =>
    have hne := ne_nil (p0 :: r0)
    rw [← hlf] at hne ⊢
    have hpos : 0 < left.length := by rw [hlf, List.length_cons]; omega
    have hemp : left.isEmpty = false := by rw [hlf]; rfl
    obtain ⟨_, e, v, c1, rfl, hv1, hv2, hb1⟩ := draw (m := (left.length : Int)) hc (by omega) (by omega) (by omega)
    obtain ⟨j, rfl⟩ : ∃ j : Nat, v = (j : Int) := ⟨v.toNat, by omega⟩
    have hj : j < left.length := by omega
    obtain ⟨u, b, v, hsp, hju⟩ : ∃ u b v, left = u ++ b :: v ∧ j = u.length := ⟨left.take j, left[j], left.drop (j + 1), by rw [← List.drop_eq_getElem_cons hj, List.take_append_drop], by rw [List.length_take]; omega⟩
    have hpop := pop_at u v b (by rw [← hsp]; omega)
    rw [← hsp, ← hju] at hpop
    have hbb : b.1.natAbs ≤ 4 ∧ b.2.natAbs ≤ 4 := hb b (by rw [hsp]; simp)
    obtain ⟨_, e2, ps, c2, rfl, hb2, hp⟩ := pillar_sp hb1 (by omega) hbb
    have hlen : (left.map pt2).length = left.length := List.length_map _
    have hbd2 : Bd 4 (u ++ v) := fun p hp => hb p (by
      rw [hsp]
      rcases List.mem_append.mp hp with h | h
      · exact List.mem_append.mpr (.inl h)
      · exact List.mem_append.mpr (.inr (List.mem_cons_of_mem _ h)))
    have hll : left.length = (u ++ v).length + 1 := by rw [hsp, List.length_append, List.length_append, List.length_cons]; omega
    have cc : ∀ x y : Option D, compD [7] (gN 7) tYesD (callD lenD (sCons (sV 7) sNil)) (fs.map ring2) [some (.list c2), some C, some (.int m), some (.list (fs.map ring2)), x, k, y, none] [] = some ((fs.map fun f => (f.length : Int)).map .int, [some (.list c2), some C, some (.int m), some (.list (fs.map ring2)), x, k, y, none]) := fun x y => by
      rw [comp_pure ring2 (fun f => .int (f.length : Int)) _ fs [] (by rw [List.length_nil]; omega) fun f _ => ?_, List.nil_append, List.map_map]
      · rfl
      · unfold ring2
        simp -implicitDefEqProofs (disch := (first | assumption | (refine' PD.mulOk_sz ?a ?b ?c; (case a => (repeat' (first | assumption | exact PD.Sz.fmod (PD.Sz.lit (n := 64) (by decide)) (by decide) | exact PD.Sz.lit (n := 64) (by decide) | apply PD.Sz.mul | apply PD.Sz.add | apply PD.Sz.sub | apply PD.Sz.neg))); (case b => (repeat' (first | assumption | exact PD.Sz.fmod (PD.Sz.lit (n := 64) (by decide)) (by decide) | exact PD.Sz.lit (n := 64) (by decide) | apply PD.Sz.mul | apply PD.Sz.add | apply PD.Sz.sub | apply PD.Sz.neg))); (case c => decide)) | (exact PD.divOk_sz (PD.Sz.lit (n := 64) (by decide)) (by decide) (by decide)) | omega | (apply PD.lt_size; (first | decide | omega)))) only [PD.compD_nil, PD.compD_cons, PD.c_cp0_e, PD.c_cp1_t, PD.c_cp1_f, PD.c_cp2_e, PD.c_k0_e, PD.c_k1_t, PD.c_k1_f, PD.c_k2_e, PD.forD_nil, PD.forD_cons, PD.c_f1_e, PD.c_f2_nx, PD.c_f2_ct, PD.c_f2_bk, PD.c_f2_rt, ↓Option.bind_some, ↓reduceIte, PD.sCons_e, PD.sTup_e, PD.sLst_e, PD.bin_e, PD.un_e, PD.callD_e, PD.callI_e, PD.tru_e, PD.tand_e, PD.tor_e, PD.tnot_e, PD.vand_e, PD.vor_e, PD.sIf_e, PD.nl_e, PD.lenO_e, PD.truO_e, PD.ixO_e, PD.methO_e, PD.sSl_e, PD.oSome_e, PD.wS_e, PD.wR1_e, PD.wR2_e, PD.wE_e, PD.wZ_e, PD.sLc_e, PD.kSeq_e, PD.kDrop_e, PD.kSet_e, PD.kOwn_e, PD.kAsg_e, PD.kPar_e, PD.kPar3_e, PD.kIf_e, PD.kRet_e, PD.kRetO_e, PD.kFor_e, PD.kWhile_e, PD.c_ret_e, PD.c_retL_e, PD.c_retB_e, PD.c_sCons2_e, PD.c_sCons1_e, PD.c_tup_e, PD.c_lst_e, PD.c_bin2_e, PD.c_bin1_e, PD.c_un_e, PD.c_call_e, PD.c_callI3_e, PD.c_callI2_e, PD.c_callI_e, PD.c_tru_e, PD.c_and_t, PD.c_and_f, PD.c_or_t, PD.c_or_f, PD.c_not_e, PD.c_vand_t, PD.c_vand_f, PD.c_vor_t, PD.c_vor_f, PD.c_sif_t, PD.c_sif_f, PD.c_nl_e, PD.c_lenO_e, PD.c_truO_e, PD.c_ixO2_e, PD.c_ixO_e, PD.c_meth3_e, PD.c_meth2_e, PD.c_meth_e, PD.c_sl3_e, PD.c_sl2_e, PD.c_sl_e, PD.c_os_e, PD.c_wS_e, PD.c_wR1_e, PD.c_wR2_e, PD.c_wE_e, PD.c_wZ_l, PD.c_wZ_t, PD.c_lc2_e, PD.c_lc_e, PD.c_seq_nx, PD.c_seq_bk, PD.c_seq_ct, PD.c_seq_rt, PD.c_drop_e, PD.c_set_e, PD.c_own_e, PD.c_nx_e, PD.c_asg_e, PD.c_par_e, PD.c_par3_e, PD.c_if_t, PD.c_if_f, PD.c_rt_e, PD.c_rto_e, PD.c_for_e, PD.c_gO3_e, PD.c_gO2_e, PD.c_gO_e, PD.gO_e, PD.gN_e, PD.gsNil_e, PD.gsCons_e, PD.gT_e, PD.sNil_e, PD.sC_e, PD.oNone_e, PD.tYesD_e, PD.kNil_e, PD.kRetN_e, PD.kBk_e, PD.kCt_e, PD.kNever_e, PD.runP_e, PD.runI_e, PD.outP_nx, PD.outP_rt, PD.outI_nx, PD.outI_rt, PD.sV, PD.ownL, PD.ini, List.map_cons, List.map_nil, List.length_cons, List.length_nil, Nat.reduceSub, Nat.reduceAdd, Nat.sub_self, Nat.zero_add, List.replicate_succ, List.replicate_zero, List.append_nil, List.cons_append, List.nil_append, List.getElem?_cons_zero, List.getElem?_cons_succ, List.getElem?_nil, List.set_cons_zero, List.set_cons_succ, Option.bind_none, Option.bind_assoc, Option.map_some, PD.seqD_list, PD.seqD_tuple, PD.wipeD, PD.unwipe, PD.rng1_i, PD.appD_l, PD.ixD_l, PD.ixD_t, PD.truD_n, PD.truD_b, PD.truD_i, PD.truD_l, PD.truD_t, PD.sliceD_l, PD.sliceD_t, PD.subD_i, PD.negD_i, PD.notD_b, PD.ltD_i, PD.leD_i, PD.gtD_i, PD.geD_i, PD.absD_i, PD.intD_i, PD.intD_b, PD.max2_i, PD.min2_i, PD.max3_i, PD.min3_i, PD.chn_e, PD.c_ch0_e, PD.c_ch1_e, PD.c_ch2_t, PD.c_ch2_f, PD.c_ch3_e, PD.lenD_l, PD.lenD_t, PD.listD_l, PD.listD_t, PD.tupleD_l, PD.tupleD_t, PD.listrevD_l, PD.iaddD_i, PD.addD_i, PD.mulD_i, PD.fdivD_i, PD.modD_i, PD.divmodD_i, PD.eqD_i, PD.neD_i, PD.isN_none, PD.isN_bool, PD.isN_int, PD.isN_str, PD.isN_list, PD.isN_tuple, PD.notN_none, PD.notN_bool, PD.notN_int, PD.notN_str, PD.notN_list, PD.notN_tuple, PD.eqD_b2, PD.neD_b2, PD.ix0, PD.ix1, PD.ix2, PD.ix3, PD.ix4, PD.ix5, PD.ixm1, PD.ixN30, PD.ixN31, PD.ixN32, Bool.false_eq_true, Bool.not_true, Bool.not_false, reduceCtorEq, decide_true, decide_false, Nat.reduceLT, Nat.reduceLeDiff, Nat.reduceEqDiff, Int.reduceLT, Int.reduceLE, Int.reduceToNat, Int.reduceNeg, Option.getD_some, Option.getD_none, and_self, and_true, true_and, PD.le_size, beq_self_eq_true, Bool.true_beq, Bool.false_beq, List.length_map]
        exact wp_some ⟨rfl, rfl⟩
    have hr : ring2 ps = .list (ps.map pt2) := rfl
    rw [hr] at e2
    unfold qSt
    by_cases ht : (ps.length : Int) + isum (fs.map fun f => (f.length : Int)) ≤ m
    · have ha : (fs.map ring2).length < sizeLine := lt_size (by rw [List.length_map]; omega)
      simp -implicitDefEqProofs (disch := (first | assumption | (refine' PD.mulOk_sz ?a ?b ?c; (case a => (repeat' (first | assumption | exact PD.Sz.fmod (PD.Sz.lit (n := 64) (by decide)) (by decide) | exact PD.Sz.lit (n := 64) (by decide) | apply PD.Sz.mul | apply PD.Sz.add | apply PD.Sz.sub | apply PD.Sz.neg))); (case b => (repeat' (first | assumption | exact PD.Sz.fmod (PD.Sz.lit (n := 64) (by decide)) (by decide) | exact PD.Sz.lit (n := 64) (by decide) | apply PD.Sz.mul | apply PD.Sz.add | apply PD.Sz.sub | apply PD.Sz.neg))); (case c => decide)) | (exact PD.divOk_sz (PD.Sz.lit (n := 64) (by decide)) (by decide) (by decide)) | omega | (apply PD.lt_size; (first | decide | omega)))) only [PD.compD_nil, PD.compD_cons, PD.c_cp0_e, PD.c_cp1_t, PD.c_cp1_f, PD.c_cp2_e, PD.c_k0_e, PD.c_k1_t, PD.c_k1_f, PD.c_k2_e, PD.forD_nil, PD.forD_cons, PD.c_f1_e, PD.c_f2_nx, PD.c_f2_ct, PD.c_f2_bk, PD.c_f2_rt, ↓Option.bind_some, ↓reduceIte, PD.sCons_e, PD.sTup_e, PD.sLst_e, PD.bin_e, PD.un_e, PD.callD_e, PD.callI_e, PD.tru_e, PD.tand_e, PD.tor_e, PD.tnot_e, PD.vand_e, PD.vor_e, PD.sIf_e, PD.nl_e, PD.lenO_e, PD.truO_e, PD.ixO_e, PD.methO_e, PD.sSl_e, PD.oSome_e, PD.wS_e, PD.wR1_e, PD.wR2_e, PD.wE_e, PD.wZ_e, PD.sLc_e, PD.kSeq_e, PD.kDrop_e, PD.kSet_e, PD.kOwn_e, PD.kAsg_e, PD.kPar_e, PD.kPar3_e, PD.kIf_e, PD.kRet_e, PD.kRetO_e, PD.kFor_e, PD.kWhile_e, PD.c_ret_e, PD.c_retL_e, PD.c_retB_e, PD.c_sCons2_e, PD.c_sCons1_e, PD.c_tup_e, PD.c_lst_e, PD.c_bin2_e, PD.c_bin1_e, PD.c_un_e, PD.c_call_e, PD.c_callI3_e, PD.c_callI2_e, PD.c_callI_e, PD.c_tru_e, PD.c_and_t, PD.c_and_f, PD.c_or_t, PD.c_or_f, PD.c_not_e, PD.c_vand_t, PD.c_vand_f, PD.c_vor_t, PD.c_vor_f, PD.c_sif_t, PD.c_sif_f, PD.c_nl_e, PD.c_lenO_e, PD.c_truO_e, PD.c_ixO2_e, PD.c_ixO_e, PD.c_meth3_e, PD.c_meth2_e, PD.c_meth_e, PD.c_sl3_e, PD.c_sl2_e, PD.c_sl_e, PD.c_os_e, PD.c_wS_e, PD.c_wR1_e, PD.c_wR2_e, PD.c_wE_e, PD.c_wZ_l, PD.c_wZ_t, PD.c_lc2_e, PD.c_lc_e, PD.c_seq_nx, PD.c_seq_bk, PD.c_seq_ct, PD.c_seq_rt, PD.c_drop_e, PD.c_set_e, PD.c_own_e, PD.c_nx_e, PD.c_asg_e, PD.c_par_e, PD.c_par3_e, PD.c_if_t, PD.c_if_f, PD.c_rt_e, PD.c_rto_e, PD.c_for_e, PD.c_gO3_e, PD.c_gO2_e, PD.c_gO_e, PD.gO_e, PD.gN_e, PD.gsNil_e, PD.gsCons_e, PD.gT_e, PD.sNil_e, PD.sC_e, PD.oNone_e, PD.tYesD_e, PD.kNil_e, PD.kRetN_e, PD.kBk_e, PD.kCt_e, PD.kNever_e, PD.runP_e, PD.runI_e, PD.outP_nx, PD.outP_rt, PD.outI_nx, PD.outI_rt, PD.sV, PD.ownL, PD.ini, List.map_cons, List.map_nil, List.length_cons, List.length_nil, Nat.reduceSub, Nat.reduceAdd, Nat.sub_self, Nat.zero_add, List.replicate_succ, List.replicate_zero, List.append_nil, List.cons_append, List.nil_append, List.getElem?_cons_zero, List.getElem?_cons_succ, List.getElem?_nil, List.set_cons_zero, List.set_cons_succ, Option.bind_none, Option.bind_assoc, Option.map_some, PD.seqD_list, PD.seqD_tuple, PD.wipeD, PD.unwipe, PD.rng1_i, PD.appD_l, PD.ixD_l, PD.ixD_t, PD.truD_n, PD.truD_b, PD.truD_i, PD.truD_l, PD.truD_t, PD.sliceD_l, PD.sliceD_t, PD.subD_i, PD.negD_i, PD.notD_b, PD.ltD_i, PD.leD_i, PD.gtD_i, PD.geD_i, PD.absD_i, PD.intD_i, PD.intD_b, PD.max2_i, PD.min2_i, PD.max3_i, PD.min3_i, PD.chn_e, PD.c_ch0_e, PD.c_ch1_e, PD.c_ch2_t, PD.c_ch2_f, PD.c_ch3_e, PD.lenD_l, PD.lenD_t, PD.listD_l, PD.listD_t, PD.tupleD_l, PD.tupleD_t, PD.listrevD_l, PD.iaddD_i, PD.addD_i, PD.mulD_i, PD.fdivD_i, PD.modD_i, PD.divmodD_i, PD.eqD_i, PD.neD_i, PD.isN_none, PD.isN_bool, PD.isN_int, PD.isN_str, PD.isN_list, PD.isN_tuple, PD.notN_none, PD.notN_bool, PD.notN_int, PD.notN_str, PD.notN_list, PD.notN_tuple, PD.eqD_b2, PD.neD_b2, PD.ix0, PD.ix1, PD.ix2, PD.ix3, PD.ix4, PD.ix5, PD.ixm1, PD.ixN30, PD.ixN31, PD.ixN32, Bool.false_eq_true, Bool.not_true, Bool.not_false, reduceCtorEq, decide_true, decide_false, Nat.reduceLT, Nat.reduceLeDiff, Nat.reduceEqDiff, Int.reduceLT, Int.reduceLE, Int.reduceToNat, Int.reduceNeg, Option.getD_some, Option.getD_none, and_self, and_true, true_and, PD.le_size, beq_self_eq_true, Bool.true_beq, Bool.false_beq, b__law_pillars_0, peekT_e, hne, hemp, hlen, e, hpop, e2, cc, sumD_i, List.length_map, decide_eq_true ht, ha]
      refine wp_some ⟨c2, fs ++ [ps], u ++ v, some (ring2 ps), ?_, hb2, hbd2, fun f hf => ?_, by rw [List.length_append, List.length_singleton]; omega, by rw [List.length_append, List.length_singleton]; omega⟩
      · rw [List.map_append (f := ring2)]
        rfl
      · rcases List.mem_append.mp hf with h | h
        · exact hfs f h
        · rw [List.mem_singleton.mp h]; exact hp
    · simp -implicitDefEqProofs (disch := (first | assumption | (refine' PD.mulOk_sz ?a ?b ?c; (case a => (repeat' (first | assumption | exact PD.Sz.fmod (PD.Sz.lit (n := 64) (by decide)) (by decide) | exact PD.Sz.lit (n := 64) (by decide) | apply PD.Sz.mul | apply PD.Sz.add | apply PD.Sz.sub | apply PD.Sz.neg))); (case b => (repeat' (first | assumption | exact PD.Sz.fmod (PD.Sz.lit (n := 64) (by decide)) (by decide) | exact PD.Sz.lit (n := 64) (by decide) | apply PD.Sz.mul | apply PD.Sz.add | apply PD.Sz.sub | apply PD.Sz.neg))); (case c => decide)) | (exact PD.divOk_sz (PD.Sz.lit (n := 64) (by decide)) (by decide) (by decide)) | omega | (apply PD.lt_size; (first | decide | omega)))) only [PD.compD_nil, PD.compD_cons, PD.c_cp0_e, PD.c_cp1_t, PD.c_cp1_f, PD.c_cp2_e, PD.c_k0_e, PD.c_k1_t, PD.c_k1_f, PD.c_k2_e, PD.forD_nil, PD.forD_cons, PD.c_f1_e, PD.c_f2_nx, PD.c_f2_ct, PD.c_f2_bk, PD.c_f2_rt, ↓Option.bind_some, ↓reduceIte, PD.sCons_e, PD.sTup_e, PD.sLst_e, PD.bin_e, PD.un_e, PD.callD_e, PD.callI_e, PD.tru_e, PD.tand_e, PD.tor_e, PD.tnot_e, PD.vand_e, PD.vor_e, PD.sIf_e, PD.nl_e, PD.lenO_e, PD.truO_e, PD.ixO_e, PD.methO_e, PD.sSl_e, PD.oSome_e, PD.wS_e, PD.wR1_e, PD.wR2_e, PD.wE_e, PD.wZ_e, PD.sLc_e, PD.kSeq_e, PD.kDrop_e, PD.kSet_e, PD.kOwn_e, PD.kAsg_e, PD.kPar_e, PD.kPar3_e, PD.kIf_e, PD.kRet_e, PD.kRetO_e, PD.kFor_e, PD.kWhile_e, PD.c_ret_e, PD.c_retL_e, PD.c_retB_e, PD.c_sCons2_e, PD.c_sCons1_e, PD.c_tup_e, PD.c_lst_e, PD.c_bin2_e, PD.c_bin1_e, PD.c_un_e, PD.c_call_e, PD.c_callI3_e, PD.c_callI2_e, PD.c_callI_e, PD.c_tru_e, PD.c_and_t, PD.c_and_f, PD.c_or_t, PD.c_or_f, PD.c_not_e, PD.c_vand_t, PD.c_vand_f, PD.c_vor_t, PD.c_vor_f, PD.c_sif_t, PD.c_sif_f, PD.c_nl_e, PD.c_lenO_e, PD.c_truO_e, PD.c_ixO2_e, PD.c_ixO_e, PD.c_meth3_e, PD.c_meth2_e, PD.c_meth_e, PD.c_sl3_e, PD.c_sl2_e, PD.c_sl_e, PD.c_os_e, PD.c_wS_e, PD.c_wR1_e, PD.c_wR2_e, PD.c_wE_e, PD.c_wZ_l, PD.c_wZ_t, PD.c_lc2_e, PD.c_lc_e, PD.c_seq_nx, PD.c_seq_bk, PD.c_seq_ct, PD.c_seq_rt, PD.c_drop_e, PD.c_set_e, PD.c_own_e, PD.c_nx_e, PD.c_asg_e, PD.c_par_e, PD.c_par3_e, PD.c_if_t, PD.c_if_f, PD.c_rt_e, PD.c_rto_e, PD.c_for_e, PD.c_gO3_e, PD.c_gO2_e, PD.c_gO_e, PD.gO_e, PD.gN_e, PD.gsNil_e, PD.gsCons_e, PD.gT_e, PD.sNil_e, PD.sC_e, PD.oNone_e, PD.tYesD_e, PD.kNil_e, PD.kRetN_e, PD.kBk_e, PD.kCt_e, PD.kNever_e, PD.runP_e, PD.runI_e, PD.outP_nx, PD.outP_rt, PD.outI_nx, PD.outI_rt, PD.sV, PD.ownL, PD.ini, List.map_cons, List.map_nil, List.length_cons, List.length_nil, Nat.reduceSub, Nat.reduceAdd, Nat.sub_self, Nat.zero_add, List.replicate_succ, List.replicate_zero, List.append_nil, List.cons_append, List.nil_append, List.getElem?_cons_zero, List.getElem?_cons_succ, List.getElem?_nil, List.set_cons_zero, List.set_cons_succ, Option.bind_none, Option.bind_assoc, Option.map_some, PD.seqD_list, PD.seqD_tuple, PD.wipeD, PD.unwipe, PD.rng1_i, PD.appD_l, PD.ixD_l, PD.ixD_t, PD.truD_n, PD.truD_b, PD.truD_i, PD.truD_l, PD.truD_t, PD.sliceD_l, PD.sliceD_t, PD.subD_i, PD.negD_i, PD.notD_b, PD.ltD_i, PD.leD_i, PD.gtD_i, PD.geD_i, PD.absD_i, PD.intD_i, PD.intD_b, PD.max2_i, PD.min2_i, PD.max3_i, PD.min3_i, PD.chn_e, PD.c_ch0_e, PD.c_ch1_e, PD.c_ch2_t, PD.c_ch2_f, PD.c_ch3_e, PD.lenD_l, PD.lenD_t, PD.listD_l, PD.listD_t, PD.tupleD_l, PD.tupleD_t, PD.listrevD_l, PD.iaddD_i, PD.addD_i, PD.mulD_i, PD.fdivD_i, PD.modD_i, PD.divmodD_i, PD.eqD_i, PD.neD_i, PD.isN_none, PD.isN_bool, PD.isN_int, PD.isN_str, PD.isN_list, PD.isN_tuple, PD.notN_none, PD.notN_bool, PD.notN_int, PD.notN_str, PD.notN_list, PD.notN_tuple, PD.eqD_b2, PD.neD_b2, PD.ix0, PD.ix1, PD.ix2, PD.ix3, PD.ix4, PD.ix5, PD.ixm1, PD.ixN30, PD.ixN31, PD.ixN32, Bool.false_eq_true, Bool.not_true, Bool.not_false, reduceCtorEq, decide_true, decide_false, Nat.reduceLT, Nat.reduceLeDiff, Nat.reduceEqDiff, Int.reduceLT, Int.reduceLE, Int.reduceToNat, Int.reduceNeg, Option.getD_some, Option.getD_none, and_self, and_true, true_and, PD.le_size, beq_self_eq_true, Bool.true_beq, Bool.false_beq, b__law_pillars_0, peekT_e, hne, hemp, hlen, e, hpop, e2, cc, sumD_i, List.length_map, decide_eq_false ht]
      exact wp_some ⟨c2, fs, u ++ v, some (ring2 ps), rfl, hb2, hbd2, hfs, by omega, by omega⟩
theorem pillars_sp {n : Nat} {c : List D} {cells : List IP} {m : Int} (hc : BoxOk n c) (hn : n ≤ 8000) (hb : Bd 4 cells) (hl : cells.length ≤ 40) :
    Wp (e__law_pillars c [ring2 cells, .int m]) fun r => ∃ (fs : List (List IP)) (c' : List D), r = (.list (fs.map ring2), c') ∧ BoxOk (n + 9) c' ∧ (∀ f ∈ fs, PilOk f) ∧ fs.length ≤ cells.length ∧ fs.length ≤ 4 := by
  obtain ⟨_, e, v, c1, rfl, hv1, hv2, hb1⟩ := draw (m := 5) hc (by omega) (by decide) (by decide)
  obtain ⟨j, rfl⟩ : ∃ j : Nat, v = (j : Int) := ⟨v.toNat, by omega⟩
  have key := wp_for (g := gN 5) (fb := b__law_pillars_0) (Q := fun o => ∃ c' fs left k r, o = .nx (qSt c' (ring2 cells) m fs left k r) ∧ BoxOk (n + 9) c' ∧ (∀ f ∈ fs, PilOk f) ∧ fs.length ≤ cells.length ∧ fs.length ≤ 4) (fun i t => ∃ c' fs left k r, t = qSt c' (ring2 cells) m fs left k r ∧ BoxOk (n + 1 + 2 * i) c' ∧ Bd 4 left ∧ (∀ f ∈ fs, PilOk f) ∧ fs.length + left.length ≤ cells.length ∧ fs.length ≤ i) (rng 0 j) 0 (qSt c1 (ring2 cells) m [] cells none none) ⟨c1, [], cells, none, none, rfl, hb1, hb, fun f hf => (nomatch hf), by rw [List.length_nil]; omega, by rw [List.length_nil]; omega⟩ (fun i d t hi ht => ?_) fun t ht => ?_
  · obtain ⟨o, el, c', fs, left, k, r, rfl, h1, h2, h3, h4⟩ := key
    have hto : ((j : Int)).toNat = j := Int.toNat_natCast j
    unfold qSt ring2 at el
    rw [List.map_nil] at el
    unfold ring2
    simp -implicitDefEqProofs (disch := (first | assumption | (refine' PD.mulOk_sz ?a ?b ?c; (case a => (repeat' (first | assumption | exact PD.Sz.fmod (PD.Sz.lit (n := 64) (by decide)) (by decide) | exact PD.Sz.lit (n := 64) (by decide) | apply PD.Sz.mul | apply PD.Sz.add | apply PD.Sz.sub | apply PD.Sz.neg))); (case b => (repeat' (first | assumption | exact PD.Sz.fmod (PD.Sz.lit (n := 64) (by decide)) (by decide) | exact PD.Sz.lit (n := 64) (by decide) | apply PD.Sz.mul | apply PD.Sz.add | apply PD.Sz.sub | apply PD.Sz.neg))); (case c => decide)) | (exact PD.divOk_sz (PD.Sz.lit (n := 64) (by decide)) (by decide) (by decide)) | omega | (apply PD.lt_size; (first | decide | omega)))) only [PD.compD_nil, PD.compD_cons, PD.c_cp0_e, PD.c_cp1_t, PD.c_cp1_f, PD.c_cp2_e, PD.c_k0_e, PD.c_k1_t, PD.c_k1_f, PD.c_k2_e, PD.forD_nil, PD.forD_cons, PD.c_f1_e, PD.c_f2_nx, PD.c_f2_ct, PD.c_f2_bk, PD.c_f2_rt, ↓Option.bind_some, ↓reduceIte, PD.sCons_e, PD.sTup_e, PD.sLst_e, PD.bin_e, PD.un_e, PD.callD_e, PD.callI_e, PD.tru_e, PD.tand_e, PD.tor_e, PD.tnot_e, PD.vand_e, PD.vor_e, PD.sIf_e, PD.nl_e, PD.lenO_e, PD.truO_e, PD.ixO_e, PD.methO_e, PD.sSl_e, PD.oSome_e, PD.wS_e, PD.wR1_e, PD.wR2_e, PD.wE_e, PD.wZ_e, PD.sLc_e, PD.kSeq_e, PD.kDrop_e, PD.kSet_e, PD.kOwn_e, PD.kAsg_e, PD.kPar_e, PD.kPar3_e, PD.kIf_e, PD.kRet_e, PD.kRetO_e, PD.kFor_e, PD.kWhile_e, PD.c_ret_e, PD.c_retL_e, PD.c_retB_e, PD.c_sCons2_e, PD.c_sCons1_e, PD.c_tup_e, PD.c_lst_e, PD.c_bin2_e, PD.c_bin1_e, PD.c_un_e, PD.c_call_e, PD.c_callI3_e, PD.c_callI2_e, PD.c_callI_e, PD.c_tru_e, PD.c_and_t, PD.c_and_f, PD.c_or_t, PD.c_or_f, PD.c_not_e, PD.c_vand_t, PD.c_vand_f, PD.c_vor_t, PD.c_vor_f, PD.c_sif_t, PD.c_sif_f, PD.c_nl_e, PD.c_lenO_e, PD.c_truO_e, PD.c_ixO2_e, PD.c_ixO_e, PD.c_meth3_e, PD.c_meth2_e, PD.c_meth_e, PD.c_sl3_e, PD.c_sl2_e, PD.c_sl_e, PD.c_os_e, PD.c_wS_e, PD.c_wR1_e, PD.c_wR2_e, PD.c_wE_e, PD.c_wZ_l, PD.c_wZ_t, PD.c_lc2_e, PD.c_lc_e, PD.c_seq_nx, PD.c_seq_bk, PD.c_seq_ct, PD.c_seq_rt, PD.c_drop_e, PD.c_set_e, PD.c_own_e, PD.c_nx_e, PD.c_asg_e, PD.c_par_e, PD.c_par3_e, PD.c_if_t, PD.c_if_f, PD.c_rt_e, PD.c_rto_e, PD.c_for_e, PD.c_gO3_e, PD.c_gO2_e, PD.c_gO_e, PD.gO_e, PD.gN_e, PD.gsNil_e, PD.gsCons_e, PD.gT_e, PD.sNil_e, PD.sC_e, PD.oNone_e, PD.tYesD_e, PD.kNil_e, PD.kRetN_e, PD.kBk_e, PD.kCt_e, PD.kNever_e, PD.runP_e, PD.runI_e, PD.outP_nx, PD.outP_rt, PD.outI_nx, PD.outI_rt, PD.sV, PD.ownL, PD.ini, List.map_cons, List.map_nil, List.length_cons, List.length_nil, Nat.reduceSub, Nat.reduceAdd, Nat.sub_self, Nat.zero_add, List.replicate_succ, List.replicate_zero, List.append_nil, List.cons_append, List.nil_append, List.getElem?_cons_zero, List.getElem?_cons_succ, List.getElem?_nil, List.set_cons_zero, List.set_cons_succ, Option.bind_none, Option.bind_assoc, Option.map_some, PD.seqD_list, PD.seqD_tuple, PD.wipeD, PD.unwipe, PD.rng1_i, PD.appD_l, PD.ixD_l, PD.ixD_t, PD.truD_n, PD.truD_b, PD.truD_i, PD.truD_l, PD.truD_t, PD.sliceD_l, PD.sliceD_t, PD.subD_i, PD.negD_i, PD.notD_b, PD.ltD_i, PD.leD_i, PD.gtD_i, PD.geD_i, PD.absD_i, PD.intD_i, PD.intD_b, PD.max2_i, PD.min2_i, PD.max3_i, PD.min3_i, PD.chn_e, PD.c_ch0_e, PD.c_ch1_e, PD.c_ch2_t, PD.c_ch2_f, PD.c_ch3_e, PD.lenD_l, PD.lenD_t, PD.listD_l, PD.listD_t, PD.tupleD_l, PD.tupleD_t, PD.listrevD_l, PD.iaddD_i, PD.addD_i, PD.mulD_i, PD.fdivD_i, PD.modD_i, PD.divmodD_i, PD.eqD_i, PD.neD_i, PD.isN_none, PD.isN_bool, PD.isN_int, PD.isN_str, PD.isN_list, PD.isN_tuple, PD.notN_none, PD.notN_bool, PD.notN_int, PD.notN_str, PD.notN_list, PD.notN_tuple, PD.eqD_b2, PD.neD_b2, PD.ix0, PD.ix1, PD.ix2, PD.ix3, PD.ix4, PD.ix5, PD.ixm1, PD.ixN30, PD.ixN31, PD.ixN32, Bool.false_eq_true, Bool.not_true, Bool.not_false, reduceCtorEq, decide_true, decide_false, Nat.reduceLT, Nat.reduceLeDiff, Nat.reduceEqDiff, Int.reduceLT, Int.reduceLE, Int.reduceToNat, Int.reduceNeg, Option.getD_some, Option.getD_none, and_self, and_true, true_and, PD.le_size, beq_self_eq_true, Bool.true_beq, Bool.false_beq, e__law_pillars, m__law_pillars, e, hto, el]
    exact wp_some ⟨fs, c', rfl, h1, h2, h3, h4⟩
  · obtain ⟨c', fs, left, k, r, rfl, h1, h2, h3, h4, h5⟩ := ht
    obtain ⟨hi1, rfl⟩ := rng_get hi
    rw [Nat.zero_add] at h1 h5
    have hset : gN 5 (.int (0 + (i : Nat))) (qSt c' (ring2 cells) m fs left k r) = some (qSt c' (ring2 cells) m fs left (some (.int (0 + (i : Nat)))) r) := rfl
    rw [hset, Option.bind_some]
    refine (pls_body h1 (by omega) h2 (by omega) (by omega) h3).mono fun o ho => ?_
    obtain ⟨c2, fs2, left2, r2, rfl, g1, g2, g3, g4, g5⟩ := ho
    exact ⟨_, .inl rfl, c2, fs2, left2, _, r2, rfl, g1.mono (by omega), g2, g3, by omega, by omega⟩
  · obtain ⟨c', fs, left, k, r, rfl, h1, h2, h3, h4, h5⟩ := ht
    rw [rng_len', Nat.zero_add] at h1 h5
    exact ⟨c', fs, left, k, r, rfl, h1.mono (by omega), h3, by omega, by omega⟩
end W

set_option maxHeartbeats 2000000
namespace W
open PySem L2 PD
/-! ### rings moved -/
def sl (s : Int) (p : IP) : IP := (p.1 + s * p.2, p.2)
theorem sar_sl (s : Int) (ps : List IP) : sar (ps.map (sl s)) = sar ps := by
  have := sar_aff 1 s 0 1 0 0 ps
  rw [show ps.map (sl s) = ps.map (aff 1 s 0 1 0 0) from List.map_congr_left fun p _ => by unfold sl aff; congr 1 <;> grind, this]
  grind
def turnq : Nat → List IP → List IP
  | 0, ps => ps
  | n + 1, ps => turnq n (ps.map f1)
theorem sar_turnq : ∀ (n : Nat) (ps : List IP), sar (turnq n ps) = sar ps
  | 0, _ => rfl
  | n + 1, ps => by show sar (turnq n (ps.map f1)) = _; rw [sar_turnq n, sar_f1]
theorem turnq_len : ∀ (n : Nat) (ps : List IP), (turnq n ps).length = ps.length
  | 0, _ => rfl
  | n + 1, ps => by show (turnq n (ps.map f1)).length = _; rw [turnq_len n, List.length_map]
theorem turnq_bd {b : Nat} : ∀ (n : Nat) {ps : List IP}, Bd b ps → Bd b (turnq n ps)
  | 0, _, h => h
  | n + 1, ps, h => turnq_bd n (ps := ps.map f1) fun p hp => by
    obtain ⟨q, hq, rfl⟩ := List.mem_map.mp hp
    have := h q hq
    unfold f1
    dsimp only
    omega
theorem sl_bd {b : Nat} {s : Int} {ps : List IP} (hs : s.natAbs ≤ 1) (h : Bd b ps) : Bd (2 * b) (ps.map (sl s)) := fun p hp => by
  obtain ⟨q, hq, rfl⟩ := List.mem_map.mp hp
  have := h q hq
  unfold sl
  dsimp only
  have hs3 : s = 0 ∨ s = 1 ∨ s = -1 := by omega
  rcases hs3 with rfl | rfl | rfl <;> omega
def mSt (c : List D) (G : D) (s : Int) (q : Nat) (made : List (List IP)) (ring mv k fnd sm tn lo hi ta : Option D) : DSt :=
  [some (.list c), some G, some (.int s), some (.int (q : Int)), some (.list (made.map ring2)), ring, mv, k, fnd, sm, tn, lo, hi, ta, none, none, none]
theorem comp_xy {fe : SE} (f : IP → D) (t : DSt) (ps : List IP) (h : ∀ p ∈ ps, fe ((t.set 14 (some (.int p.1))).set 15 (some (.int p.2))) = some (f p, ((t.set 14 (some (.int p.1))).set 15 (some (.int p.2)))))
    (hw : ∀ x y : Option D, wipeD ((t.set 14 x).set 15 y) [14, 15] = t) (hl : ps.length ≤ 1000) : compD [14, 15] (gT (gsCons (gN 14) (gsCons (gN 15) gsNil)) 2) tYesD fe (ps.map pt2) t [] = some (ps.map f, t) := by
  rw [comp_pure pt2 f t ps [] (by rw [List.length_nil]; omega) fun p hp => ?_, List.nil_append]
  simp -implicitDefEqProofs (disch := (first | assumption | (refine' PD.mulOk_sz ?a ?b ?c; (case a => (repeat' (first | assumption | exact PD.Sz.fmod (PD.Sz.lit (n := 64) (by decide)) (by decide) | exact PD.Sz.lit (n := 64) (by decide) | apply PD.Sz.mul | apply PD.Sz.add | apply PD.Sz.sub | apply PD.Sz.neg))); (case b => (repeat' (first | assumption | exact PD.Sz.fmod (PD.Sz.lit (n := 64) (by decide)) (by decide) | exact PD.Sz.lit (n := 64) (by decide) | apply PD.Sz.mul | apply PD.Sz.add | apply PD.Sz.sub | apply PD.Sz.neg))); (case c => decide)) | (exact PD.divOk_sz (PD.Sz.lit (n := 64) (by decide)) (by decide) (by decide)) | omega | (apply PD.lt_size; (first | decide | omega)))) only [PD.compD_nil, PD.compD_cons, PD.c_cp0_e, PD.c_cp1_t, PD.c_cp1_f, PD.c_cp2_e, PD.c_k0_e, PD.c_k1_t, PD.c_k1_f, PD.c_k2_e, PD.forD_nil, PD.forD_cons, PD.c_f1_e, PD.c_f2_nx, PD.c_f2_ct, PD.c_f2_bk, PD.c_f2_rt, ↓Option.bind_some, ↓reduceIte, PD.sCons_e, PD.sTup_e, PD.sLst_e, PD.bin_e, PD.un_e, PD.callD_e, PD.callI_e, PD.tru_e, PD.tand_e, PD.tor_e, PD.tnot_e, PD.vand_e, PD.vor_e, PD.sIf_e, PD.nl_e, PD.lenO_e, PD.truO_e, PD.ixO_e, PD.methO_e, PD.sSl_e, PD.oSome_e, PD.wS_e, PD.wR1_e, PD.wR2_e, PD.wE_e, PD.wZ_e, PD.sLc_e, PD.kSeq_e, PD.kDrop_e, PD.kSet_e, PD.kOwn_e, PD.kAsg_e, PD.kPar_e, PD.kPar3_e, PD.kIf_e, PD.kRet_e, PD.kRetO_e, PD.kFor_e, PD.kWhile_e, PD.c_ret_e, PD.c_retL_e, PD.c_retB_e, PD.c_sCons2_e, PD.c_sCons1_e, PD.c_tup_e, PD.c_lst_e, PD.c_bin2_e, PD.c_bin1_e, PD.c_un_e, PD.c_call_e, PD.c_callI3_e, PD.c_callI2_e, PD.c_callI_e, PD.c_tru_e, PD.c_and_t, PD.c_and_f, PD.c_or_t, PD.c_or_f, PD.c_not_e, PD.c_vand_t, PD.c_vand_f, PD.c_vor_t, PD.c_vor_f, PD.c_sif_t, PD.c_sif_f, PD.c_nl_e, PD.c_lenO_e, PD.c_truO_e, PD.c_ixO2_e, PD.c_ixO_e, PD.c_meth3_e, PD.c_meth2_e, PD.c_meth_e, PD.c_sl3_e, PD.c_sl2_e, PD.c_sl_e, PD.c_os_e, PD.c_wS_e, PD.c_wR1_e, PD.c_wR2_e, PD.c_wE_e, PD.c_wZ_l, PD.c_wZ_t, PD.c_lc2_e, PD.c_lc_e, PD.c_seq_nx, PD.c_seq_bk, PD.c_seq_ct, PD.c_seq_rt, PD.c_drop_e, PD.c_set_e, PD.c_own_e, PD.c_nx_e, PD.c_asg_e, PD.c_par_e, PD.c_par3_e, PD.c_if_t, PD.c_if_f, PD.c_rt_e, PD.c_rto_e, PD.c_for_e, PD.c_gO3_e, PD.c_gO2_e, PD.c_gO_e, PD.gO_e, PD.gN_e, PD.gsNil_e, PD.gsCons_e, PD.gT_e, PD.sNil_e, PD.sC_e, PD.oNone_e, PD.tYesD_e, PD.kNil_e, PD.kRetN_e, PD.kBk_e, PD.kCt_e, PD.kNever_e, PD.runP_e, PD.runI_e, PD.outP_nx, PD.outP_rt, PD.outI_nx, PD.outI_rt, PD.sV, PD.ownL, PD.ini, List.map_cons, List.map_nil, List.length_cons, List.length_nil, Nat.reduceSub, Nat.reduceAdd, Nat.sub_self, Nat.zero_add, List.replicate_succ, List.replicate_zero, List.append_nil, List.cons_append, List.nil_append, List.getElem?_cons_zero, List.getElem?_cons_succ, List.getElem?_nil, List.set_cons_zero, List.set_cons_succ, Option.bind_none, Option.bind_assoc, Option.map_some, PD.seqD_list, PD.seqD_tuple, PD.wipeD, PD.unwipe, PD.rng1_i, PD.appD_l, PD.ixD_l, PD.ixD_t, PD.truD_n, PD.truD_b, PD.truD_i, PD.truD_l, PD.truD_t, PD.sliceD_l, PD.sliceD_t, PD.subD_i, PD.negD_i, PD.notD_b, PD.ltD_i, PD.leD_i, PD.gtD_i, PD.geD_i, PD.absD_i, PD.intD_i, PD.intD_b, PD.max2_i, PD.min2_i, PD.max3_i, PD.min3_i, PD.chn_e, PD.c_ch0_e, PD.c_ch1_e, PD.c_ch2_t, PD.c_ch2_f, PD.c_ch3_e, PD.lenD_l, PD.lenD_t, PD.listD_l, PD.listD_t, PD.tupleD_l, PD.tupleD_t, PD.listrevD_l, PD.iaddD_i, PD.addD_i, PD.mulD_i, PD.fdivD_i, PD.modD_i, PD.divmodD_i, PD.eqD_i, PD.neD_i, PD.isN_none, PD.isN_bool, PD.isN_int, PD.isN_str, PD.isN_list, PD.isN_tuple, PD.notN_none, PD.notN_bool, PD.notN_int, PD.notN_str, PD.notN_list, PD.notN_tuple, PD.eqD_b2, PD.neD_b2, PD.ix0, PD.ix1, PD.ix2, PD.ix3, PD.ix4, PD.ix5, PD.ixm1, PD.ixN30, PD.ixN31, PD.ixN32, Bool.false_eq_true, Bool.not_true, Bool.not_false, reduceCtorEq, decide_true, decide_false, Nat.reduceLT, Nat.reduceLeDiff, Nat.reduceEqDiff, Int.reduceLT, Int.reduceLE, Int.reduceToNat, Int.reduceNeg, Option.getD_some, Option.getD_none, and_self, and_true, true_and, PD.le_size, beq_self_eq_true, Bool.true_beq, Bool.false_beq, pt2, h p hp]
  exact wp_some ⟨rfl, hw _ _⟩
theorem quarter_loop {c : List D} {G : D} {s : Int} {q : Nat} {made : List (List IP)} {ring : Option D} : ∀ (j : Nat) (ds : List D) (ps : List IP) (tn : Option D), ds.length = j → ps.length ≤ 100 → ∃ tn', forD (gN 10) b__law_moved_0 ds (mSt c G s q made ring none none none (some (ring2 ps)) tn none none none) = some (.nx (mSt c G s q made ring none none none (some (ring2 (turnq j ps))) tn' none none none))
  | 0, [], ps, tn, _, _ => ⟨tn, rfl⟩
  | j + 1, d :: ds, ps, tn, h, hl => by
    obtain ⟨tn', ih⟩ := quarter_loop (c := c) (G := G) (s := s) (q := q) (made := made) (ring := ring) j ds (ps.map f1) (some d) (by simpa using h) (by rw [List.length_map]; exact hl)
    refine ⟨tn', ?_⟩
    rw [show turnq (j + 1) ps = turnq j (ps.map f1) from rfl, ← ih]
    have cc := comp_xy (fe := (sTup (sCons (bin subD (sC (.int 0)) (sV 15)) (sCons (sV 14) sNil)))) (fun p => pt2 (f1 p)) (mSt c G s q made ring none none none (some (ring2 ps)) (some d) none none none) ps (fun p hp => by unfold mSt; simp -implicitDefEqProofs (disch := (first | assumption | (refine' PD.mulOk_sz ?a ?b ?c; (case a => (repeat' (first | assumption | exact PD.Sz.fmod (PD.Sz.lit (n := 64) (by decide)) (by decide) | exact PD.Sz.lit (n := 64) (by decide) | apply PD.Sz.mul | apply PD.Sz.add | apply PD.Sz.sub | apply PD.Sz.neg))); (case b => (repeat' (first | assumption | exact PD.Sz.fmod (PD.Sz.lit (n := 64) (by decide)) (by decide) | exact PD.Sz.lit (n := 64) (by decide) | apply PD.Sz.mul | apply PD.Sz.add | apply PD.Sz.sub | apply PD.Sz.neg))); (case c => decide)) | (exact PD.divOk_sz (PD.Sz.lit (n := 64) (by decide)) (by decide) (by decide)) | omega | (apply PD.lt_size; (first | decide | omega)))) only [PD.compD_nil, PD.compD_cons, PD.c_cp0_e, PD.c_cp1_t, PD.c_cp1_f, PD.c_cp2_e, PD.c_k0_e, PD.c_k1_t, PD.c_k1_f, PD.c_k2_e, PD.forD_nil, PD.forD_cons, PD.c_f1_e, PD.c_f2_nx, PD.c_f2_ct, PD.c_f2_bk, PD.c_f2_rt, ↓Option.bind_some, ↓reduceIte, PD.sCons_e, PD.sTup_e, PD.sLst_e, PD.bin_e, PD.un_e, PD.callD_e, PD.callI_e, PD.tru_e, PD.tand_e, PD.tor_e, PD.tnot_e, PD.vand_e, PD.vor_e, PD.sIf_e, PD.nl_e, PD.lenO_e, PD.truO_e, PD.ixO_e, PD.methO_e, PD.sSl_e, PD.oSome_e, PD.wS_e, PD.wR1_e, PD.wR2_e, PD.wE_e, PD.wZ_e, PD.sLc_e, PD.kSeq_e, PD.kDrop_e, PD.kSet_e, PD.kOwn_e, PD.kAsg_e, PD.kPar_e, PD.kPar3_e, PD.kIf_e, PD.kRet_e, PD.kRetO_e, PD.kFor_e, PD.kWhile_e, PD.c_ret_e, PD.c_retL_e, PD.c_retB_e, PD.c_sCons2_e, PD.c_sCons1_e, PD.c_tup_e, PD.c_lst_e, PD.c_bin2_e, PD.c_bin1_e, PD.c_un_e, PD.c_call_e, PD.c_callI3_e, PD.c_callI2_e, PD.c_callI_e, PD.c_tru_e, PD.c_and_t, PD.c_and_f, PD.c_or_t, PD.c_or_f, PD.c_not_e, PD.c_vand_t, PD.c_vand_f, PD.c_vor_t, PD.c_vor_f, PD.c_sif_t, PD.c_sif_f, PD.c_nl_e, PD.c_lenO_e, PD.c_truO_e, PD.c_ixO2_e, PD.c_ixO_e, PD.c_meth3_e, PD.c_meth2_e, PD.c_meth_e, PD.c_sl3_e, PD.c_sl2_e, PD.c_sl_e, PD.c_os_e, PD.c_wS_e, PD.c_wR1_e, PD.c_wR2_e, PD.c_wE_e, PD.c_wZ_l, PD.c_wZ_t, PD.c_lc2_e, PD.c_lc_e, PD.c_seq_nx, PD.c_seq_bk, PD.c_seq_ct, PD.c_seq_rt, PD.c_drop_e, PD.c_set_e, PD.c_own_e, PD.c_nx_e, PD.c_asg_e, PD.c_par_e, PD.c_par3_e, PD.c_if_t, PD.c_if_f, PD.c_rt_e, PD.c_rto_e, PD.c_for_e, PD.c_gO3_e, PD.c_gO2_e, PD.c_gO_e, PD.gO_e, PD.gN_e, PD.gsNil_e, PD.gsCons_e, PD.gT_e, PD.sNil_e, PD.sC_e, PD.oNone_e, PD.tYesD_e, PD.kNil_e, PD.kRetN_e, PD.kBk_e, PD.kCt_e, PD.kNever_e, PD.runP_e, PD.runI_e, PD.outP_nx, PD.outP_rt, PD.outI_nx, PD.outI_rt, PD.sV, PD.ownL, PD.ini, List.map_cons, List.map_nil, List.length_cons, List.length_nil, Nat.reduceSub, Nat.reduceAdd, Nat.sub_self, Nat.zero_add, List.replicate_succ, List.replicate_zero, List.append_nil, List.cons_append, List.nil_append, List.getElem?_cons_zero, List.getElem?_cons_succ, List.getElem?_nil, List.set_cons_zero, List.set_cons_succ, Option.bind_none, Option.bind_assoc, Option.map_some, PD.seqD_list, PD.seqD_tuple, PD.wipeD, PD.unwipe, PD.rng1_i, PD.appD_l, PD.ixD_l, PD.ixD_t, PD.truD_n, PD.truD_b, PD.truD_i, PD.truD_l, PD.truD_t, PD.sliceD_l, PD.sliceD_t, PD.subD_i, PD.negD_i, PD.notD_b, PD.ltD_i, PD.leD_i, PD.gtD_i, PD.geD_i, PD.absD_i, PD.intD_i, PD.intD_b, PD.max2_i, PD.min2_i, PD.max3_i, PD.min3_i, PD.chn_e, PD.c_ch0_e, PD.c_ch1_e, PD.c_ch2_t, PD.c_ch2_f, PD.c_ch3_e, PD.lenD_l, PD.lenD_t, PD.listD_l, PD.listD_t, PD.tupleD_l, PD.tupleD_t, PD.listrevD_l, PD.iaddD_i, PD.addD_i, PD.mulD_i, PD.fdivD_i, PD.modD_i, PD.divmodD_i, PD.eqD_i, PD.neD_i, PD.isN_none, PD.isN_bool, PD.isN_int, PD.isN_str, PD.isN_list, PD.isN_tuple, PD.notN_none, PD.notN_bool, PD.notN_int, PD.notN_str, PD.notN_list, PD.notN_tuple, PD.eqD_b2, PD.neD_b2, PD.ix0, PD.ix1, PD.ix2, PD.ix3, PD.ix4, PD.ix5, PD.ixm1, PD.ixN30, PD.ixN31, PD.ixN32, Bool.false_eq_true, Bool.not_true, Bool.not_false, reduceCtorEq, decide_true, decide_false, Nat.reduceLT, Nat.reduceLeDiff, Nat.reduceEqDiff, Int.reduceLT, Int.reduceLE, Int.reduceToNat, Int.reduceNeg, Option.getD_some, Option.getD_none, and_self, and_true, true_and, PD.le_size, beq_self_eq_true, Bool.true_beq, Bool.false_beq]; rfl) (fun _ _ => rfl) (by omega)
    have e : ring2 (ps.map f1) = .list (ps.map fun p => pt2 (f1 p)) := by unfold ring2; rw [List.map_map]; rfl
    rw [e]
    unfold mSt ring2 at cc ⊢
    simp -implicitDefEqProofs (disch := (first | assumption | (refine' PD.mulOk_sz ?a ?b ?c; (case a => (repeat' (first | assumption | exact PD.Sz.fmod (PD.Sz.lit (n := 64) (by decide)) (by decide) | exact PD.Sz.lit (n := 64) (by decide) | apply PD.Sz.mul | apply PD.Sz.add | apply PD.Sz.sub | apply PD.Sz.neg))); (case b => (repeat' (first | assumption | exact PD.Sz.fmod (PD.Sz.lit (n := 64) (by decide)) (by decide) | exact PD.Sz.lit (n := 64) (by decide) | apply PD.Sz.mul | apply PD.Sz.add | apply PD.Sz.sub | apply PD.Sz.neg))); (case c => decide)) | (exact PD.divOk_sz (PD.Sz.lit (n := 64) (by decide)) (by decide) (by decide)) | omega | (apply PD.lt_size; (first | decide | omega)))) only [PD.compD_nil, PD.compD_cons, PD.c_cp0_e, PD.c_cp1_t, PD.c_cp1_f, PD.c_cp2_e, PD.c_k0_e, PD.c_k1_t, PD.c_k1_f, PD.c_k2_e, PD.forD_nil, PD.forD_cons, PD.c_f1_e, PD.c_f2_nx, PD.c_f2_ct, PD.c_f2_bk, PD.c_f2_rt, ↓Option.bind_some, ↓reduceIte, PD.sCons_e, PD.sTup_e, PD.sLst_e, PD.bin_e, PD.un_e, PD.callD_e, PD.callI_e, PD.tru_e, PD.tand_e, PD.tor_e, PD.tnot_e, PD.vand_e, PD.vor_e, PD.sIf_e, PD.nl_e, PD.lenO_e, PD.truO_e, PD.ixO_e, PD.methO_e, PD.sSl_e, PD.oSome_e, PD.wS_e, PD.wR1_e, PD.wR2_e, PD.wE_e, PD.wZ_e, PD.sLc_e, PD.kSeq_e, PD.kDrop_e, PD.kSet_e, PD.kOwn_e, PD.kAsg_e, PD.kPar_e, PD.kPar3_e, PD.kIf_e, PD.kRet_e, PD.kRetO_e, PD.kFor_e, PD.kWhile_e, PD.c_ret_e, PD.c_retL_e, PD.c_retB_e, PD.c_sCons2_e, PD.c_sCons1_e, PD.c_tup_e, PD.c_lst_e, PD.c_bin2_e, PD.c_bin1_e, PD.c_un_e, PD.c_call_e, PD.c_callI3_e, PD.c_callI2_e, PD.c_callI_e, PD.c_tru_e, PD.c_and_t, PD.c_and_f, PD.c_or_t, PD.c_or_f, PD.c_not_e, PD.c_vand_t, PD.c_vand_f, PD.c_vor_t, PD.c_vor_f, PD.c_sif_t, PD.c_sif_f, PD.c_nl_e, PD.c_lenO_e, PD.c_truO_e, PD.c_ixO2_e, PD.c_ixO_e, PD.c_meth3_e, PD.c_meth2_e, PD.c_meth_e, PD.c_sl3_e, PD.c_sl2_e, PD.c_sl_e, PD.c_os_e, PD.c_wS_e, PD.c_wR1_e, PD.c_wR2_e, PD.c_wE_e, PD.c_wZ_l, PD.c_wZ_t, PD.c_lc2_e, PD.c_lc_e, PD.c_seq_nx, PD.c_seq_bk, PD.c_seq_ct, PD.c_seq_rt, PD.c_drop_e, PD.c_set_e, PD.c_own_e, PD.c_nx_e, PD.c_asg_e, PD.c_par_e, PD.c_par3_e, PD.c_if_t, PD.c_if_f, PD.c_rt_e, PD.c_rto_e, PD.c_for_e, PD.c_gO3_e, PD.c_gO2_e, PD.c_gO_e, PD.gO_e, PD.gN_e, PD.gsNil_e, PD.gsCons_e, PD.gT_e, PD.sNil_e, PD.sC_e, PD.oNone_e, PD.tYesD_e, PD.kNil_e, PD.kRetN_e, PD.kBk_e, PD.kCt_e, PD.kNever_e, PD.runP_e, PD.runI_e, PD.outP_nx, PD.outP_rt, PD.outI_nx, PD.outI_rt, PD.sV, PD.ownL, PD.ini, List.map_cons, List.map_nil, List.length_cons, List.length_nil, Nat.reduceSub, Nat.reduceAdd, Nat.sub_self, Nat.zero_add, List.replicate_succ, List.replicate_zero, List.append_nil, List.cons_append, List.nil_append, List.getElem?_cons_zero, List.getElem?_cons_succ, List.getElem?_nil, List.set_cons_zero, List.set_cons_succ, Option.bind_none, Option.bind_assoc, Option.map_some, PD.seqD_list, PD.seqD_tuple, PD.wipeD, PD.unwipe, PD.rng1_i, PD.appD_l, PD.ixD_l, PD.ixD_t, PD.truD_n, PD.truD_b, PD.truD_i, PD.truD_l, PD.truD_t, PD.sliceD_l, PD.sliceD_t, PD.subD_i, PD.negD_i, PD.notD_b, PD.ltD_i, PD.leD_i, PD.gtD_i, PD.geD_i, PD.absD_i, PD.intD_i, PD.intD_b, PD.max2_i, PD.min2_i, PD.max3_i, PD.min3_i, PD.chn_e, PD.c_ch0_e, PD.c_ch1_e, PD.c_ch2_t, PD.c_ch2_f, PD.c_ch3_e, PD.lenD_l, PD.lenD_t, PD.listD_l, PD.listD_t, PD.tupleD_l, PD.tupleD_t, PD.listrevD_l, PD.iaddD_i, PD.addD_i, PD.mulD_i, PD.fdivD_i, PD.modD_i, PD.divmodD_i, PD.eqD_i, PD.neD_i, PD.isN_none, PD.isN_bool, PD.isN_int, PD.isN_str, PD.isN_list, PD.isN_tuple, PD.notN_none, PD.notN_bool, PD.notN_int, PD.notN_str, PD.notN_list, PD.notN_tuple, PD.eqD_b2, PD.neD_b2, PD.ix0, PD.ix1, PD.ix2, PD.ix3, PD.ix4, PD.ix5, PD.ixm1, PD.ixN30, PD.ixN31, PD.ixN32, Bool.false_eq_true, Bool.not_true, Bool.not_false, reduceCtorEq, decide_true, decide_false, Nat.reduceLT, Nat.reduceLeDiff, Nat.reduceEqDiff, Int.reduceLT, Int.reduceLE, Int.reduceToNat, Int.reduceNeg, Option.getD_some, Option.getD_none, and_self, and_true, true_and, PD.le_size, beq_self_eq_true, Bool.true_beq, Bool.false_beq, b__law_moved_0, cc]
theorem mv1 {c : List D} {G : D} {s : Int} {q : Nat} {made : List (List IP)} {ps : List IP} {x y : Option D} (hs : s.natAbs ≤ 1) (hq : q ≤ 3) (hp : ∀ p ∈ ps, BP p) (hl : ps.length ≤ 100) (hm : made.length ≤ 100) :
    ∃ x' y', b__law_moved_1 (mSt c G s q made (some (ring2 ps)) none none none x y none none none) = some (.nx (mSt c G s q (made ++ [turnq q (ps.map (sl s))]) (some (ring2 ps)) none none none x' y' none none none)) := by
  have ss : Sz 20 s := Sz.lit (by omega)
  have cc := comp_xy (fe := (sTup (sCons (bin addD (sV 14) (bin mulD (sV 2) (sV 15))) (sCons (sV 15) sNil)))) (fun p => pt2 (sl s p)) (mSt c G s q made (some (ring2 ps)) none none none x y none none none) ps (fun p hp1 => by
    have m1 : mulOk s p.2 = true := mulOk_sz ss (hp p hp1).s2 (by decide)
    unfold mSt
    simp -implicitDefEqProofs (disch := (first | assumption | (refine' PD.mulOk_sz ?a ?b ?c; (case a => (repeat' (first | assumption | exact PD.Sz.fmod (PD.Sz.lit (n := 64) (by decide)) (by decide) | exact PD.Sz.lit (n := 64) (by decide) | apply PD.Sz.mul | apply PD.Sz.add | apply PD.Sz.sub | apply PD.Sz.neg))); (case b => (repeat' (first | assumption | exact PD.Sz.fmod (PD.Sz.lit (n := 64) (by decide)) (by decide) | exact PD.Sz.lit (n := 64) (by decide) | apply PD.Sz.mul | apply PD.Sz.add | apply PD.Sz.sub | apply PD.Sz.neg))); (case c => decide)) | (exact PD.divOk_sz (PD.Sz.lit (n := 64) (by decide)) (by decide) (by decide)) | omega | (apply PD.lt_size; (first | decide | omega)))) only [PD.compD_nil, PD.compD_cons, PD.c_cp0_e, PD.c_cp1_t, PD.c_cp1_f, PD.c_cp2_e, PD.c_k0_e, PD.c_k1_t, PD.c_k1_f, PD.c_k2_e, PD.forD_nil, PD.forD_cons, PD.c_f1_e, PD.c_f2_nx, PD.c_f2_ct, PD.c_f2_bk, PD.c_f2_rt, ↓Option.bind_some, ↓reduceIte, PD.sCons_e, PD.sTup_e, PD.sLst_e, PD.bin_e, PD.un_e, PD.callD_e, PD.callI_e, PD.tru_e, PD.tand_e, PD.tor_e, PD.tnot_e, PD.vand_e, PD.vor_e, PD.sIf_e, PD.nl_e, PD.lenO_e, PD.truO_e, PD.ixO_e, PD.methO_e, PD.sSl_e, PD.oSome_e, PD.wS_e, PD.wR1_e, PD.wR2_e, PD.wE_e, PD.wZ_e, PD.sLc_e, PD.kSeq_e, PD.kDrop_e, PD.kSet_e, PD.kOwn_e, PD.kAsg_e, PD.kPar_e, PD.kPar3_e, PD.kIf_e, PD.kRet_e, PD.kRetO_e, PD.kFor_e, PD.kWhile_e, PD.c_ret_e, PD.c_retL_e, PD.c_retB_e, PD.c_sCons2_e, PD.c_sCons1_e, PD.c_tup_e, PD.c_lst_e, PD.c_bin2_e, PD.c_bin1_e, PD.c_un_e, PD.c_call_e, PD.c_callI3_e, PD.c_callI2_e, PD.c_callI_e, PD.c_tru_e, PD.c_and_t, PD.c_and_f, PD.c_or_t, PD.c_or_f, PD.c_not_e, PD.c_vand_t, PD.c_vand_f, PD.c_vor_t, PD.c_vor_f, PD.c_sif_t, PD.c_sif_f, PD.c_nl_e, PD.c_lenO_e, PD.c_truO_e, PD.c_ixO2_e, PD.c_ixO_e, PD.c_meth3_e, PD.c_meth2_e, PD.c_meth_e, PD.c_sl3_e, PD.c_sl2_e, PD.c_sl_e, PD.c_os_e, PD.c_wS_e, PD.c_wR1_e, PD.c_wR2_e, PD.c_wE_e, PD.c_wZ_l, PD.c_wZ_t, PD.c_lc2_e, PD.c_lc_e, PD.c_seq_nx, PD.c_seq_bk, PD.c_seq_ct, PD.c_seq_rt, PD.c_drop_e, PD.c_set_e, PD.c_own_e, PD.c_nx_e, PD.c_asg_e, PD.c_par_e, PD.c_par3_e, PD.c_if_t, PD.c_if_f, PD.c_rt_e, PD.c_rto_e, PD.c_for_e, PD.c_gO3_e, PD.c_gO2_e, PD.c_gO_e, PD.gO_e, PD.gN_e, PD.gsNil_e, PD.gsCons_e, PD.gT_e, PD.sNil_e, PD.sC_e, PD.oNone_e, PD.tYesD_e, PD.kNil_e, PD.kRetN_e, PD.kBk_e, PD.kCt_e, PD.kNever_e, PD.runP_e, PD.runI_e, PD.outP_nx, PD.outP_rt, PD.outI_nx, PD.outI_rt, PD.sV, PD.ownL, PD.ini, List.map_cons, List.map_nil, List.length_cons, List.length_nil, Nat.reduceSub, Nat.reduceAdd, Nat.sub_self, Nat.zero_add, List.replicate_succ, List.replicate_zero, List.append_nil, List.cons_append, List.nil_append, List.getElem?_cons_zero, List.getElem?_cons_succ, List.getElem?_nil, List.set_cons_zero, List.set_cons_succ, Option.bind_none, Option.bind_assoc, Option.map_some, PD.seqD_list, PD.seqD_tuple, PD.wipeD, PD.unwipe, PD.rng1_i, PD.appD_l, PD.ixD_l, PD.ixD_t, PD.truD_n, PD.truD_b, PD.truD_i, PD.truD_l, PD.truD_t, PD.sliceD_l, PD.sliceD_t, PD.subD_i, PD.negD_i, PD.notD_b, PD.ltD_i, PD.leD_i, PD.gtD_i, PD.geD_i, PD.absD_i, PD.intD_i, PD.intD_b, PD.max2_i, PD.min2_i, PD.max3_i, PD.min3_i, PD.chn_e, PD.c_ch0_e, PD.c_ch1_e, PD.c_ch2_t, PD.c_ch2_f, PD.c_ch3_e, PD.lenD_l, PD.lenD_t, PD.listD_l, PD.listD_t, PD.tupleD_l, PD.tupleD_t, PD.listrevD_l, PD.iaddD_i, PD.addD_i, PD.mulD_i, PD.fdivD_i, PD.modD_i, PD.divmodD_i, PD.eqD_i, PD.neD_i, PD.isN_none, PD.isN_bool, PD.isN_int, PD.isN_str, PD.isN_list, PD.isN_tuple, PD.notN_none, PD.notN_bool, PD.notN_int, PD.notN_str, PD.notN_list, PD.notN_tuple, PD.eqD_b2, PD.neD_b2, PD.ix0, PD.ix1, PD.ix2, PD.ix3, PD.ix4, PD.ix5, PD.ixm1, PD.ixN30, PD.ixN31, PD.ixN32, Bool.false_eq_true, Bool.not_true, Bool.not_false, reduceCtorEq, decide_true, decide_false, Nat.reduceLT, Nat.reduceLeDiff, Nat.reduceEqDiff, Int.reduceLT, Int.reduceLE, Int.reduceToNat, Int.reduceNeg, Option.getD_some, Option.getD_none, and_self, and_true, true_and, PD.le_size, beq_self_eq_true, Bool.true_beq, Bool.false_beq, mulD_i m1]
    rfl) (fun _ _ => rfl) (by omega)
  obtain ⟨tn', el⟩ := quarter_loop (c := c) (G := G) (s := s) (q := q) (made := made) (ring := some (ring2 ps)) q (rng 0 q) (ps.map (sl s)) y (rng_len' 0 q) (by rw [List.length_map]; exact hl)
  have e : ring2 (ps.map (sl s)) = .list (ps.map fun p => pt2 (sl s p)) := by unfold ring2; rw [List.map_map]; rfl
  rw [e] at el
  have hto : ((q : Int)).toNat = q := Int.toNat_natCast q
  have ha : (made.map ring2).length < sizeLine := lt_size (by rw [List.length_map]; omega)
  refine ⟨some (ring2 (turnq q (ps.map (sl s)))), tn', ?_⟩
  have e2 : (made ++ [turnq q (ps.map (sl s))]).map ring2 = made.map ring2 ++ [ring2 (turnq q (ps.map (sl s)))] := by rw [List.map_append]; rfl
  unfold mSt at cc el ⊢
  rw [e2]
  generalize turnq q (ps.map (sl s)) = T at *
  have hr : ring2 ps = .list (ps.map pt2) := rfl
  rw [hr] at cc el ⊢
  simp -implicitDefEqProofs (disch := (first | assumption | (refine' PD.mulOk_sz ?a ?b ?c; (case a => (repeat' (first | assumption | exact PD.Sz.fmod (PD.Sz.lit (n := 64) (by decide)) (by decide) | exact PD.Sz.lit (n := 64) (by decide) | apply PD.Sz.mul | apply PD.Sz.add | apply PD.Sz.sub | apply PD.Sz.neg))); (case b => (repeat' (first | assumption | exact PD.Sz.fmod (PD.Sz.lit (n := 64) (by decide)) (by decide) | exact PD.Sz.lit (n := 64) (by decide) | apply PD.Sz.mul | apply PD.Sz.add | apply PD.Sz.sub | apply PD.Sz.neg))); (case c => decide)) | (exact PD.divOk_sz (PD.Sz.lit (n := 64) (by decide)) (by decide) (by decide)) | omega | (apply PD.lt_size; (first | decide | omega)))) only [PD.compD_nil, PD.compD_cons, PD.c_cp0_e, PD.c_cp1_t, PD.c_cp1_f, PD.c_cp2_e, PD.c_k0_e, PD.c_k1_t, PD.c_k1_f, PD.c_k2_e, PD.forD_nil, PD.forD_cons, PD.c_f1_e, PD.c_f2_nx, PD.c_f2_ct, PD.c_f2_bk, PD.c_f2_rt, ↓Option.bind_some, ↓reduceIte, PD.sCons_e, PD.sTup_e, PD.sLst_e, PD.bin_e, PD.un_e, PD.callD_e, PD.callI_e, PD.tru_e, PD.tand_e, PD.tor_e, PD.tnot_e, PD.vand_e, PD.vor_e, PD.sIf_e, PD.nl_e, PD.lenO_e, PD.truO_e, PD.ixO_e, PD.methO_e, PD.sSl_e, PD.oSome_e, PD.wS_e, PD.wR1_e, PD.wR2_e, PD.wE_e, PD.wZ_e, PD.sLc_e, PD.kSeq_e, PD.kDrop_e, PD.kSet_e, PD.kOwn_e, PD.kAsg_e, PD.kPar_e, PD.kPar3_e, PD.kIf_e, PD.kRet_e, PD.kRetO_e, PD.kFor_e, PD.kWhile_e, PD.c_ret_e, PD.c_retL_e, PD.c_retB_e, PD.c_sCons2_e, PD.c_sCons1_e, PD.c_tup_e, PD.c_lst_e, PD.c_bin2_e, PD.c_bin1_e, PD.c_un_e, PD.c_call_e, PD.c_callI3_e, PD.c_callI2_e, PD.c_callI_e, PD.c_tru_e, PD.c_and_t, PD.c_and_f, PD.c_or_t, PD.c_or_f, PD.c_not_e, PD.c_vand_t, PD.c_vand_f, PD.c_vor_t, PD.c_vor_f, PD.c_sif_t, PD.c_sif_f, PD.c_nl_e, PD.c_lenO_e, PD.c_truO_e, PD.c_ixO2_e, PD.c_ixO_e, PD.c_meth3_e, PD.c_meth2_e, PD.c_meth_e, PD.c_sl3_e, PD.c_sl2_e, PD.c_sl_e, PD.c_os_e, PD.c_wS_e, PD.c_wR1_e, PD.c_wR2_e, PD.c_wE_e, PD.c_wZ_l, PD.c_wZ_t, PD.c_lc2_e, PD.c_lc_e, PD.c_seq_nx, PD.c_seq_bk, PD.c_seq_ct, PD.c_seq_rt, PD.c_drop_e, PD.c_set_e, PD.c_own_e, PD.c_nx_e, PD.c_asg_e, PD.c_par_e, PD.c_par3_e, PD.c_if_t, PD.c_if_f, PD.c_rt_e, PD.c_rto_e, PD.c_for_e, PD.c_gO3_e, PD.c_gO2_e, PD.c_gO_e, PD.gO_e, PD.gN_e, PD.gsNil_e, PD.gsCons_e, PD.gT_e, PD.sNil_e, PD.sC_e, PD.oNone_e, PD.tYesD_e, PD.kNil_e, PD.kRetN_e, PD.kBk_e, PD.kCt_e, PD.kNever_e, PD.runP_e, PD.runI_e, PD.outP_nx, PD.outP_rt, PD.outI_nx, PD.outI_rt, PD.sV, PD.ownL, PD.ini, List.map_cons, List.map_nil, List.length_cons, List.length_nil, Nat.reduceSub, Nat.reduceAdd, Nat.sub_self, Nat.zero_add, List.replicate_succ, List.replicate_zero, List.append_nil, List.cons_append, List.nil_append, List.getElem?_cons_zero, List.getElem?_cons_succ, List.getElem?_nil, List.set_cons_zero, List.set_cons_succ, Option.bind_none, Option.bind_assoc, Option.map_some, PD.seqD_list, PD.seqD_tuple, PD.wipeD, PD.unwipe, PD.rng1_i, PD.appD_l, PD.ixD_l, PD.ixD_t, PD.truD_n, PD.truD_b, PD.truD_i, PD.truD_l, PD.truD_t, PD.sliceD_l, PD.sliceD_t, PD.subD_i, PD.negD_i, PD.notD_b, PD.ltD_i, PD.leD_i, PD.gtD_i, PD.geD_i, PD.absD_i, PD.intD_i, PD.intD_b, PD.max2_i, PD.min2_i, PD.max3_i, PD.min3_i, PD.chn_e, PD.c_ch0_e, PD.c_ch1_e, PD.c_ch2_t, PD.c_ch2_f, PD.c_ch3_e, PD.lenD_l, PD.lenD_t, PD.listD_l, PD.listD_t, PD.tupleD_l, PD.tupleD_t, PD.listrevD_l, PD.iaddD_i, PD.addD_i, PD.mulD_i, PD.fdivD_i, PD.modD_i, PD.divmodD_i, PD.eqD_i, PD.neD_i, PD.isN_none, PD.isN_bool, PD.isN_int, PD.isN_str, PD.isN_list, PD.isN_tuple, PD.notN_none, PD.notN_bool, PD.notN_int, PD.notN_str, PD.notN_list, PD.notN_tuple, PD.eqD_b2, PD.neD_b2, PD.ix0, PD.ix1, PD.ix2, PD.ix3, PD.ix4, PD.ix5, PD.ixm1, PD.ixN30, PD.ixN31, PD.ixN32, Bool.false_eq_true, Bool.not_true, Bool.not_false, reduceCtorEq, decide_true, decide_false, Nat.reduceLT, Nat.reduceLeDiff, Nat.reduceEqDiff, Int.reduceLT, Int.reduceLE, Int.reduceToNat, Int.reduceNeg, Option.getD_some, Option.getD_none, and_self, and_true, true_and, PD.le_size, beq_self_eq_true, Bool.true_beq, Bool.false_beq, b__law_moved_1, cc, hto, el]
theorem mv1_loop {c : List D} {G : D} {s : Int} {q : Nat} (hs : s.natAbs ≤ 1) (hq : q ≤ 3) : ∀ (rs made : List (List IP)) (r x y : Option D), (∀ ps ∈ rs, (∀ p ∈ ps, BP p) ∧ ps.length ≤ 100) → made.length + rs.length ≤ 100 → ∃ r' x' y', forD (gN 5) b__law_moved_1 (rs.map ring2) (mSt c G s q made r none none none x y none none none) = some (.nx (mSt c G s q (made ++ rs.map fun ps => turnq q (ps.map (sl s))) r' none none none x' y' none none none))
  | [], made, r, x, y, _, _ => ⟨r, x, y, by rw [List.map_nil, List.map_nil, List.append_nil]; rfl⟩
  | ps :: rs, made, r, x, y, h, hl => by
    rw [List.length_cons] at hl
    have h1 := h ps List.mem_cons_self
    obtain ⟨x1, y1, e1⟩ := mv1 (c := c) (G := G) (made := made) (x := x) (y := y) hs hq h1.1 h1.2 (by omega)
    obtain ⟨r2, x2, y2, e2⟩ := mv1_loop (c := c) (G := G) hs hq rs (made ++ [turnq q (ps.map (sl s))]) (some (ring2 ps)) x1 y1 (fun p hp => h p (List.mem_cons_of_mem _ hp)) (by rw [List.length_append, List.length_singleton]; omega)
    refine ⟨r2, x2, y2, ?_⟩
    rw [List.append_assoc] at e2
    rw [List.map_cons, List.map_cons, show turnq q (ps.map (sl s)) :: rs.map (fun ps => turnq q (ps.map (sl s))) = [turnq q (ps.map (sl s))] ++ rs.map (fun ps => turnq q (ps.map (sl s))) from rfl, ← e2]
    have hset : List.set (mSt c G s q made r none none none x y none none none) 5 (some (ring2 ps)) = mSt c G s q made (some (ring2 ps)) none none none x y none none none := rfl
    simp -implicitDefEqProofs (disch := (first | assumption | (refine' PD.mulOk_sz ?a ?b ?c; (case a => (repeat' (first | assumption | exact PD.Sz.fmod (PD.Sz.lit (n := 64) (by decide)) (by decide) | exact PD.Sz.lit (n := 64) (by decide) | apply PD.Sz.mul | apply PD.Sz.add | apply PD.Sz.sub | apply PD.Sz.neg))); (case b => (repeat' (first | assumption | exact PD.Sz.fmod (PD.Sz.lit (n := 64) (by decide)) (by decide) | exact PD.Sz.lit (n := 64) (by decide) | apply PD.Sz.mul | apply PD.Sz.add | apply PD.Sz.sub | apply PD.Sz.neg))); (case c => decide)) | (exact PD.divOk_sz (PD.Sz.lit (n := 64) (by decide)) (by decide) (by decide)) | omega | (apply PD.lt_size; (first | decide | omega)))) only [PD.compD_nil, PD.compD_cons, PD.c_cp0_e, PD.c_cp1_t, PD.c_cp1_f, PD.c_cp2_e, PD.c_k0_e, PD.c_k1_t, PD.c_k1_f, PD.c_k2_e, PD.forD_nil, PD.forD_cons, PD.c_f1_e, PD.c_f2_nx, PD.c_f2_ct, PD.c_f2_bk, PD.c_f2_rt, ↓Option.bind_some, ↓reduceIte, PD.sCons_e, PD.sTup_e, PD.sLst_e, PD.bin_e, PD.un_e, PD.callD_e, PD.callI_e, PD.tru_e, PD.tand_e, PD.tor_e, PD.tnot_e, PD.vand_e, PD.vor_e, PD.sIf_e, PD.nl_e, PD.lenO_e, PD.truO_e, PD.ixO_e, PD.methO_e, PD.sSl_e, PD.oSome_e, PD.wS_e, PD.wR1_e, PD.wR2_e, PD.wE_e, PD.wZ_e, PD.sLc_e, PD.kSeq_e, PD.kDrop_e, PD.kSet_e, PD.kOwn_e, PD.kAsg_e, PD.kPar_e, PD.kPar3_e, PD.kIf_e, PD.kRet_e, PD.kRetO_e, PD.kFor_e, PD.kWhile_e, PD.c_ret_e, PD.c_retL_e, PD.c_retB_e, PD.c_sCons2_e, PD.c_sCons1_e, PD.c_tup_e, PD.c_lst_e, PD.c_bin2_e, PD.c_bin1_e, PD.c_un_e, PD.c_call_e, PD.c_callI3_e, PD.c_callI2_e, PD.c_callI_e, PD.c_tru_e, PD.c_and_t, PD.c_and_f, PD.c_or_t, PD.c_or_f, PD.c_not_e, PD.c_vand_t, PD.c_vand_f, PD.c_vor_t, PD.c_vor_f, PD.c_sif_t, PD.c_sif_f, PD.c_nl_e, PD.c_lenO_e, PD.c_truO_e, PD.c_ixO2_e, PD.c_ixO_e, PD.c_meth3_e, PD.c_meth2_e, PD.c_meth_e, PD.c_sl3_e, PD.c_sl2_e, PD.c_sl_e, PD.c_os_e, PD.c_wS_e, PD.c_wR1_e, PD.c_wR2_e, PD.c_wE_e, PD.c_wZ_l, PD.c_wZ_t, PD.c_lc2_e, PD.c_lc_e, PD.c_seq_nx, PD.c_seq_bk, PD.c_seq_ct, PD.c_seq_rt, PD.c_drop_e, PD.c_set_e, PD.c_own_e, PD.c_nx_e, PD.c_asg_e, PD.c_par_e, PD.c_par3_e, PD.c_if_t, PD.c_if_f, PD.c_rt_e, PD.c_rto_e, PD.c_for_e, PD.c_gO3_e, PD.c_gO2_e, PD.c_gO_e, PD.gO_e, PD.gN_e, PD.gsNil_e, PD.gsCons_e, PD.gT_e, PD.sNil_e, PD.sC_e, PD.oNone_e, PD.tYesD_e, PD.kNil_e, PD.kRetN_e, PD.kBk_e, PD.kCt_e, PD.kNever_e, PD.runP_e, PD.runI_e, PD.outP_nx, PD.outP_rt, PD.outI_nx, PD.outI_rt, PD.sV, PD.ownL, PD.ini, List.map_cons, List.map_nil, List.length_cons, List.length_nil, Nat.reduceSub, Nat.reduceAdd, Nat.sub_self, Nat.zero_add, List.replicate_succ, List.replicate_zero, List.append_nil, List.cons_append, List.nil_append, List.getElem?_cons_zero, List.getElem?_cons_succ, List.getElem?_nil, List.set_cons_zero, List.set_cons_succ, Option.bind_none, Option.bind_assoc, Option.map_some, PD.seqD_list, PD.seqD_tuple, PD.wipeD, PD.unwipe, PD.rng1_i, PD.appD_l, PD.ixD_l, PD.ixD_t, PD.truD_n, PD.truD_b, PD.truD_i, PD.truD_l, PD.truD_t, PD.sliceD_l, PD.sliceD_t, PD.subD_i, PD.negD_i, PD.notD_b, PD.ltD_i, PD.leD_i, PD.gtD_i, PD.geD_i, PD.absD_i, PD.intD_i, PD.intD_b, PD.max2_i, PD.min2_i, PD.max3_i, PD.min3_i, PD.chn_e, PD.c_ch0_e, PD.c_ch1_e, PD.c_ch2_t, PD.c_ch2_f, PD.c_ch3_e, PD.lenD_l, PD.lenD_t, PD.listD_l, PD.listD_t, PD.tupleD_l, PD.tupleD_t, PD.listrevD_l, PD.iaddD_i, PD.addD_i, PD.mulD_i, PD.fdivD_i, PD.modD_i, PD.divmodD_i, PD.eqD_i, PD.neD_i, PD.isN_none, PD.isN_bool, PD.isN_int, PD.isN_str, PD.isN_list, PD.isN_tuple, PD.notN_none, PD.notN_bool, PD.notN_int, PD.notN_str, PD.notN_list, PD.notN_tuple, PD.eqD_b2, PD.neD_b2, PD.ix0, PD.ix1, PD.ix2, PD.ix3, PD.ix4, PD.ix5, PD.ixm1, PD.ixN30, PD.ixN31, PD.ixN32, Bool.false_eq_true, Bool.not_true, Bool.not_false, reduceCtorEq, decide_true, decide_false, Nat.reduceLT, Nat.reduceLeDiff, Nat.reduceEqDiff, Int.reduceLT, Int.reduceLE, Int.reduceToNat, Int.reduceNeg, Option.getD_some, Option.getD_none, and_self, and_true, true_and, PD.le_size, beq_self_eq_true, Bool.true_beq, Bool.false_beq, hset, e1]
end W

set_option maxHeartbeats 2000000
namespace W
open PySem L2 PD
theorem lmin_some : ∀ ns : List Int, ns ≠ [] → ∃ m, lmin ns = some m
  | [], h => absurd rfl h
  | [x], _ => ⟨x, rfl⟩
  | x :: y :: r, _ => by
    obtain ⟨m, e⟩ := lmin_some (y :: r) (by simp)
    exact ⟨_, by show (lmin (y :: r)).map _ = _; rw [e]; rfl⟩
theorem mv2 {n b : Nat} {c : List D} {G : D} {s : Int} {q : Nat} {r0 : List IP} {rest : List (List IP)} {ring sm tn lo hi : Option D} {mv : List D} {k : Int} (pr : IP → Int) (hpr : ∀ p : IP, atI [PyData.int p.1, .int p.2] k = some (.int (pr p))) (hb : ∀ p ∈ r0, (pr p).natAbs ≤ b) (h0 : r0 ≠ []) (hl : r0.length ≤ 100) (hc : BoxOk n c) (hn : n ≤ 10000) (hm : mv.length ≤ 10) :
    Wp (b__law_moved_2 (mSt c G s q (r0 :: rest) ring (some (.list mv)) (some (.int k)) none sm tn lo hi none)) fun o => ∃ c' lo' hi' z, o = .nx (mSt c' G s q (r0 :: rest) ring (some (.list (mv ++ [.int z]))) (some (.int k)) none sm tn lo' hi' none) ∧ z.natAbs ≤ 10 + b ∧ BoxOk (n + 1) c' := by
  have hne : r0.map pr ≠ [] := by rw [Ne, List.map_eq_nil_iff]; exact h0
  obtain ⟨u, hu⟩ := lmin_some _ hne
  obtain ⟨v, hv⟩ := lmax_some _ hne
  obtain ⟨pu, hpu, eu⟩ := List.mem_map.mp (lmin_ok hu).1
  obtain ⟨pv', hpv, ev⟩ := List.mem_map.mp (lmax_ok hv).1
  have bu := hb pu hpu
  have bv := hb pv' hpv
  rw [eu] at bu
  rw [ev] at bv
  obtain ⟨_, e, x, c1, rfl, hx1, hx2, hb1⟩ := draw (m := 21) hc (by omega) (by decide) (by decide)
  have cc : compD [16] (gN 16) tYesD (bin ixD (sV 16) (sV 7)) (r0.map pt2) (mSt c G s q (r0 :: rest) ring (some (.list mv)) (some (.int k)) none sm tn lo hi none) [] = some ((r0.map pr).map .int, mSt c G s q (r0 :: rest) ring (some (.list mv)) (some (.int k)) none sm tn lo hi none) := by
    rw [comp_pure pt2 (fun p => .int (pr p)) _ r0 [] (by rw [List.length_nil]; omega) fun p hp => ?_, List.nil_append, List.map_map]
    · rfl
    · unfold mSt
      simp -implicitDefEqProofs (disch := (first | assumption | (refine' PD.mulOk_sz ?a ?b ?c; (case a => (repeat' (first | assumption | exact PD.Sz.fmod (PD.Sz.lit (n := 64) (by decide)) (by decide) | exact PD.Sz.lit (n := 64) (by decide) | apply PD.Sz.mul | apply PD.Sz.add | apply PD.Sz.sub | apply PD.Sz.neg))); (case b => (repeat' (first | assumption | exact PD.Sz.fmod (PD.Sz.lit (n := 64) (by decide)) (by decide) | exact PD.Sz.lit (n := 64) (by decide) | apply PD.Sz.mul | apply PD.Sz.add | apply PD.Sz.sub | apply PD.Sz.neg))); (case c => decide)) | (exact PD.divOk_sz (PD.Sz.lit (n := 64) (by decide)) (by decide) (by decide)) | omega | (apply PD.lt_size; (first | decide | omega)))) only [PD.compD_nil, PD.compD_cons, PD.c_cp0_e, PD.c_cp1_t, PD.c_cp1_f, PD.c_cp2_e, PD.c_k0_e, PD.c_k1_t, PD.c_k1_f, PD.c_k2_e, PD.forD_nil, PD.forD_cons, PD.c_f1_e, PD.c_f2_nx, PD.c_f2_ct, PD.c_f2_bk, PD.c_f2_rt, ↓Option.bind_some, ↓reduceIte, PD.sCons_e, PD.sTup_e, PD.sLst_e, PD.bin_e, PD.un_e, PD.callD_e, PD.callI_e, PD.tru_e, PD.tand_e, PD.tor_e, PD.tnot_e, PD.vand_e, PD.vor_e, PD.sIf_e, PD.nl_e, PD.lenO_e, PD.truO_e, PD.ixO_e, PD.methO_e, PD.sSl_e, PD.oSome_e, PD.wS_e, PD.wR1_e, PD.wR2_e, PD.wE_e, PD.wZ_e, PD.sLc_e, PD.kSeq_e, PD.kDrop_e, PD.kSet_e, PD.kOwn_e, PD.kAsg_e, PD.kPar_e, PD.kPar3_e, PD.kIf_e, PD.kRet_e, PD.kRetO_e, PD.kFor_e, PD.kWhile_e, PD.c_ret_e, PD.c_retL_e, PD.c_retB_e, PD.c_sCons2_e, PD.c_sCons1_e, PD.c_tup_e, PD.c_lst_e, PD.c_bin2_e, PD.c_bin1_e, PD.c_un_e, PD.c_call_e, PD.c_callI3_e, PD.c_callI2_e, PD.c_callI_e, PD.c_tru_e, PD.c_and_t, PD.c_and_f, PD.c_or_t, PD.c_or_f, PD.c_not_e, PD.c_vand_t, PD.c_vand_f, PD.c_vor_t, PD.c_vor_f, PD.c_sif_t, PD.c_sif_f, PD.c_nl_e, PD.c_lenO_e, PD.c_truO_e, PD.c_ixO2_e, PD.c_ixO_e, PD.c_meth3_e, PD.c_meth2_e, PD.c_meth_e, PD.c_sl3_e, PD.c_sl2_e, PD.c_sl_e, PD.c_os_e, PD.c_wS_e, PD.c_wR1_e, PD.c_wR2_e, PD.c_wE_e, PD.c_wZ_l, PD.c_wZ_t, PD.c_lc2_e, PD.c_lc_e, PD.c_seq_nx, PD.c_seq_bk, PD.c_seq_ct, PD.c_seq_rt, PD.c_drop_e, PD.c_set_e, PD.c_own_e, PD.c_nx_e, PD.c_asg_e, PD.c_par_e, PD.c_par3_e, PD.c_if_t, PD.c_if_f, PD.c_rt_e, PD.c_rto_e, PD.c_for_e, PD.c_gO3_e, PD.c_gO2_e, PD.c_gO_e, PD.gO_e, PD.gN_e, PD.gsNil_e, PD.gsCons_e, PD.gT_e, PD.sNil_e, PD.sC_e, PD.oNone_e, PD.tYesD_e, PD.kNil_e, PD.kRetN_e, PD.kBk_e, PD.kCt_e, PD.kNever_e, PD.runP_e, PD.runI_e, PD.outP_nx, PD.outP_rt, PD.outI_nx, PD.outI_rt, PD.sV, PD.ownL, PD.ini, List.map_cons, List.map_nil, List.length_cons, List.length_nil, Nat.reduceSub, Nat.reduceAdd, Nat.sub_self, Nat.zero_add, List.replicate_succ, List.replicate_zero, List.append_nil, List.cons_append, List.nil_append, List.getElem?_cons_zero, List.getElem?_cons_succ, List.getElem?_nil, List.set_cons_zero, List.set_cons_succ, Option.bind_none, Option.bind_assoc, Option.map_some, PD.seqD_list, PD.seqD_tuple, PD.wipeD, PD.unwipe, PD.rng1_i, PD.appD_l, PD.ixD_l, PD.ixD_t, PD.truD_n, PD.truD_b, PD.truD_i, PD.truD_l, PD.truD_t, PD.sliceD_l, PD.sliceD_t, PD.subD_i, PD.negD_i, PD.notD_b, PD.ltD_i, PD.leD_i, PD.gtD_i, PD.geD_i, PD.absD_i, PD.intD_i, PD.intD_b, PD.max2_i, PD.min2_i, PD.max3_i, PD.min3_i, PD.chn_e, PD.c_ch0_e, PD.c_ch1_e, PD.c_ch2_t, PD.c_ch2_f, PD.c_ch3_e, PD.lenD_l, PD.lenD_t, PD.listD_l, PD.listD_t, PD.tupleD_l, PD.tupleD_t, PD.listrevD_l, PD.iaddD_i, PD.addD_i, PD.mulD_i, PD.fdivD_i, PD.modD_i, PD.divmodD_i, PD.eqD_i, PD.neD_i, PD.isN_none, PD.isN_bool, PD.isN_int, PD.isN_str, PD.isN_list, PD.isN_tuple, PD.notN_none, PD.notN_bool, PD.notN_int, PD.notN_str, PD.notN_list, PD.notN_tuple, PD.eqD_b2, PD.neD_b2, PD.ix0, PD.ix1, PD.ix2, PD.ix3, PD.ix4, PD.ix5, PD.ixm1, PD.ixN30, PD.ixN31, PD.ixN32, Bool.false_eq_true, Bool.not_true, Bool.not_false, reduceCtorEq, decide_true, decide_false, Nat.reduceLT, Nat.reduceLeDiff, Nat.reduceEqDiff, Int.reduceLT, Int.reduceLE, Int.reduceToNat, Int.reduceNeg, Option.getD_some, Option.getD_none, and_self, and_true, true_and, PD.le_size, beq_self_eq_true, Bool.true_beq, Bool.false_beq, pt2, hpr]
      exact wp_some ⟨rfl, rfl⟩
  have e1 : minL [.list ((r0.map pr).map .int)] = some (.int u) := by
    show (intsD ((r0.map pr).map .int)).bind _ = _
    rw [intsD_map, Option.bind_some, hu]; rfl
  have e2 : maxL [.list ((r0.map pr).map .int)] = some (.int v) := by
    show (intsD ((r0.map pr).map .int)).bind _ = _
    rw [intsD_map, Option.bind_some, hv]; rfl
  have ha : mv.length < sizeLine := lt_size (by omega)
  have hr : ring2 r0 = .list (r0.map pt2) := rfl
  unfold mSt at cc ⊢
  rw [List.map_cons, hr] at cc ⊢
  simp -implicitDefEqProofs (disch := (first | assumption | (refine' PD.mulOk_sz ?a ?b ?c; (case a => (repeat' (first | assumption | exact PD.Sz.fmod (PD.Sz.lit (n := 64) (by decide)) (by decide) | exact PD.Sz.lit (n := 64) (by decide) | apply PD.Sz.mul | apply PD.Sz.add | apply PD.Sz.sub | apply PD.Sz.neg))); (case b => (repeat' (first | assumption | exact PD.Sz.fmod (PD.Sz.lit (n := 64) (by decide)) (by decide) | exact PD.Sz.lit (n := 64) (by decide) | apply PD.Sz.mul | apply PD.Sz.add | apply PD.Sz.sub | apply PD.Sz.neg))); (case c => decide)) | (exact PD.divOk_sz (PD.Sz.lit (n := 64) (by decide)) (by decide) (by decide)) | omega | (apply PD.lt_size; (first | decide | omega)))) only [PD.compD_nil, PD.compD_cons, PD.c_cp0_e, PD.c_cp1_t, PD.c_cp1_f, PD.c_cp2_e, PD.c_k0_e, PD.c_k1_t, PD.c_k1_f, PD.c_k2_e, PD.forD_nil, PD.forD_cons, PD.c_f1_e, PD.c_f2_nx, PD.c_f2_ct, PD.c_f2_bk, PD.c_f2_rt, ↓Option.bind_some, ↓reduceIte, PD.sCons_e, PD.sTup_e, PD.sLst_e, PD.bin_e, PD.un_e, PD.callD_e, PD.callI_e, PD.tru_e, PD.tand_e, PD.tor_e, PD.tnot_e, PD.vand_e, PD.vor_e, PD.sIf_e, PD.nl_e, PD.lenO_e, PD.truO_e, PD.ixO_e, PD.methO_e, PD.sSl_e, PD.oSome_e, PD.wS_e, PD.wR1_e, PD.wR2_e, PD.wE_e, PD.wZ_e, PD.sLc_e, PD.kSeq_e, PD.kDrop_e, PD.kSet_e, PD.kOwn_e, PD.kAsg_e, PD.kPar_e, PD.kPar3_e, PD.kIf_e, PD.kRet_e, PD.kRetO_e, PD.kFor_e, PD.kWhile_e, PD.c_ret_e, PD.c_retL_e, PD.c_retB_e, PD.c_sCons2_e, PD.c_sCons1_e, PD.c_tup_e, PD.c_lst_e, PD.c_bin2_e, PD.c_bin1_e, PD.c_un_e, PD.c_call_e, PD.c_callI3_e, PD.c_callI2_e, PD.c_callI_e, PD.c_tru_e, PD.c_and_t, PD.c_and_f, PD.c_or_t, PD.c_or_f, PD.c_not_e, PD.c_vand_t, PD.c_vand_f, PD.c_vor_t, PD.c_vor_f, PD.c_sif_t, PD.c_sif_f, PD.c_nl_e, PD.c_lenO_e, PD.c_truO_e, PD.c_ixO2_e, PD.c_ixO_e, PD.c_meth3_e, PD.c_meth2_e, PD.c_meth_e, PD.c_sl3_e, PD.c_sl2_e, PD.c_sl_e, PD.c_os_e, PD.c_wS_e, PD.c_wR1_e, PD.c_wR2_e, PD.c_wE_e, PD.c_wZ_l, PD.c_wZ_t, PD.c_lc2_e, PD.c_lc_e, PD.c_seq_nx, PD.c_seq_bk, PD.c_seq_ct, PD.c_seq_rt, PD.c_drop_e, PD.c_set_e, PD.c_own_e, PD.c_nx_e, PD.c_asg_e, PD.c_par_e, PD.c_par3_e, PD.c_if_t, PD.c_if_f, PD.c_rt_e, PD.c_rto_e, PD.c_for_e, PD.c_gO3_e, PD.c_gO2_e, PD.c_gO_e, PD.gO_e, PD.gN_e, PD.gsNil_e, PD.gsCons_e, PD.gT_e, PD.sNil_e, PD.sC_e, PD.oNone_e, PD.tYesD_e, PD.kNil_e, PD.kRetN_e, PD.kBk_e, PD.kCt_e, PD.kNever_e, PD.runP_e, PD.runI_e, PD.outP_nx, PD.outP_rt, PD.outI_nx, PD.outI_rt, PD.sV, PD.ownL, PD.ini, List.map_cons, List.map_nil, List.length_cons, List.length_nil, Nat.reduceSub, Nat.reduceAdd, Nat.sub_self, Nat.zero_add, List.replicate_succ, List.replicate_zero, List.append_nil, List.cons_append, List.nil_append, List.getElem?_cons_zero, List.getElem?_cons_succ, List.getElem?_nil, List.set_cons_zero, List.set_cons_succ, Option.bind_none, Option.bind_assoc, Option.map_some, PD.seqD_list, PD.seqD_tuple, PD.wipeD, PD.unwipe, PD.rng1_i, PD.appD_l, PD.ixD_l, PD.ixD_t, PD.truD_n, PD.truD_b, PD.truD_i, PD.truD_l, PD.truD_t, PD.sliceD_l, PD.sliceD_t, PD.subD_i, PD.negD_i, PD.notD_b, PD.ltD_i, PD.leD_i, PD.gtD_i, PD.geD_i, PD.absD_i, PD.intD_i, PD.intD_b, PD.max2_i, PD.min2_i, PD.max3_i, PD.min3_i, PD.chn_e, PD.c_ch0_e, PD.c_ch1_e, PD.c_ch2_t, PD.c_ch2_f, PD.c_ch3_e, PD.lenD_l, PD.lenD_t, PD.listD_l, PD.listD_t, PD.tupleD_l, PD.tupleD_t, PD.listrevD_l, PD.iaddD_i, PD.addD_i, PD.mulD_i, PD.fdivD_i, PD.modD_i, PD.divmodD_i, PD.eqD_i, PD.neD_i, PD.isN_none, PD.isN_bool, PD.isN_int, PD.isN_str, PD.isN_list, PD.isN_tuple, PD.notN_none, PD.notN_bool, PD.notN_int, PD.notN_str, PD.notN_list, PD.notN_tuple, PD.eqD_b2, PD.neD_b2, PD.ix0, PD.ix1, PD.ix2, PD.ix3, PD.ix4, PD.ix5, PD.ixm1, PD.ixN30, PD.ixN31, PD.ixN32, Bool.false_eq_true, Bool.not_true, Bool.not_false, reduceCtorEq, decide_true, decide_false, Nat.reduceLT, Nat.reduceLeDiff, Nat.reduceEqDiff, Int.reduceLT, Int.reduceLE, Int.reduceToNat, Int.reduceNeg, Option.getD_some, Option.getD_none, and_self, and_true, true_and, PD.le_size, beq_self_eq_true, Bool.true_beq, Bool.false_beq, b__law_moved_2, cc, e1, e2, e]
  refine wp_some ⟨c1, _, _, x - 10 - (u + v).fdiv 2, rfl, ?_, hb1⟩
  rw [Int.fdiv_eq_ediv_of_nonneg _ (by omega)]
  omega
def mvp (m0 m1 : Int) (p : IP) : IP := (p.1 + m0, p.2 + m1)
theorem sar_mvp (m0 m1 : Int) (ps : List IP) : sar (ps.map (mvp m0 m1)) = sar ps := by
  have := sar_aff 1 0 0 1 m0 m1 ps
  rw [show ps.map (mvp m0 m1) = ps.map (aff 1 0 0 1 m0 m1) from List.map_congr_left fun p _ => by unfold mvp aff; congr 1 <;> omega, this]
  omega
theorem mv3 {n : Nat} {c : List D} {G : D} {s : Int} {q : Nat} {made : List (List IP)} {ps : List IP} {k sm tn lo hi ta : Option D} {acc : List D} {m0 m1 : Int} (hb : Bd 200 ps) (h0 : ps ≠ []) (hl : ps.length ≤ 100) (hm0 : m0.natAbs ≤ 500) (hm1 : m1.natAbs ≤ 500) (hc : BoxOk n c) (hn : n ≤ 10000) (ha : acc.length ≤ 100) :
    Wp (b__law_moved_3 (mSt c G s q made (some (ring2 ps)) (some (.list [.int m0, .int m1])) k (some (.list acc)) sm tn lo hi ta)) fun o => ∃ c' ta' g, o = .nx (mSt c' G s q made (some (ring2 ps)) (some (.list [.int m0, .int m1])) k (some (.list (acc ++ [ringD g]))) sm tn lo hi ta') ∧ sar g = sar ps ∧ g ≠ [] ∧ g.length ≤ 100 ∧ Bd 1000 g ∧ BoxOk (n + 1) c' := by
  have hpos : 0 < ps.length := List.length_pos_iff.mpr h0
  obtain ⟨_, e, x, c1, rfl, hx1, hx2, hb1⟩ := draw (m := (ps.length : Int)) hc (by omega) (by omega) (by omega)
  obtain ⟨j, rfl⟩ : ∃ j : Nat, x = (j : Int) := ⟨x.toNat, by omega⟩
  have hrot : (ps.map pt2).drop j ++ (ps.map pt2).take j = (ps.drop j ++ ps.take j).map pt2 := by rw [List.map_append, List.map_drop, List.map_take]
  have c1' : cut (ps.map pt2) (some (j : Int)) none = (ps.map pt2).drop j := cut_from _ _
  have c2' : cut (ps.map pt2) none (some (j : Int)) = (ps.map pt2).take j := cut_to _ _
  have hcat : addD (.list ((ps.map pt2).drop j)) (.list ((ps.map pt2).take j)) = some (.list ((ps.drop j ++ ps.take j).map pt2)) := by
    rw [addD_l (by rw [List.length_drop, List.length_take, List.length_map, sizeLine_eq]; omega), hrot]
  have hll : (ps.drop j ++ ps.take j).length = ps.length := by rw [List.length_append, List.length_drop, List.length_take]; omega
  have hcc := comp_xy (fe := (sTup (sCons (bin addD (sV 14) (ixO 6 (sC (.int 0)))) (sCons (bin addD (sV 15) (ixO 6 (sC (.int 1)))) (sCons (sC (.int 1)) sNil))))) (fun p => pt3 (mvp m0 m1 p)) (mSt c1 G s q made (some (ring2 ps)) (some (.list [.int m0, .int m1])) k (some (.list acc)) sm tn lo hi (some (.int (j : Int)))) (ps.drop j ++ ps.take j) (fun p hp => by unfold mSt; simp -implicitDefEqProofs (disch := (first | assumption | (refine' PD.mulOk_sz ?a ?b ?c; (case a => (repeat' (first | assumption | exact PD.Sz.fmod (PD.Sz.lit (n := 64) (by decide)) (by decide) | exact PD.Sz.lit (n := 64) (by decide) | apply PD.Sz.mul | apply PD.Sz.add | apply PD.Sz.sub | apply PD.Sz.neg))); (case b => (repeat' (first | assumption | exact PD.Sz.fmod (PD.Sz.lit (n := 64) (by decide)) (by decide) | exact PD.Sz.lit (n := 64) (by decide) | apply PD.Sz.mul | apply PD.Sz.add | apply PD.Sz.sub | apply PD.Sz.neg))); (case c => decide)) | (exact PD.divOk_sz (PD.Sz.lit (n := 64) (by decide)) (by decide) (by decide)) | omega | (apply PD.lt_size; (first | decide | omega)))) only [PD.compD_nil, PD.compD_cons, PD.c_cp0_e, PD.c_cp1_t, PD.c_cp1_f, PD.c_cp2_e, PD.c_k0_e, PD.c_k1_t, PD.c_k1_f, PD.c_k2_e, PD.forD_nil, PD.forD_cons, PD.c_f1_e, PD.c_f2_nx, PD.c_f2_ct, PD.c_f2_bk, PD.c_f2_rt, ↓Option.bind_some, ↓reduceIte, PD.sCons_e, PD.sTup_e, PD.sLst_e, PD.bin_e, PD.un_e, PD.callD_e, PD.callI_e, PD.tru_e, PD.tand_e, PD.tor_e, PD.tnot_e, PD.vand_e, PD.vor_e, PD.sIf_e, PD.nl_e, PD.lenO_e, PD.truO_e, PD.ixO_e, PD.methO_e, PD.sSl_e, PD.oSome_e, PD.wS_e, PD.wR1_e, PD.wR2_e, PD.wE_e, PD.wZ_e, PD.sLc_e, PD.kSeq_e, PD.kDrop_e, PD.kSet_e, PD.kOwn_e, PD.kAsg_e, PD.kPar_e, PD.kPar3_e, PD.kIf_e, PD.kRet_e, PD.kRetO_e, PD.kFor_e, PD.kWhile_e, PD.c_ret_e, PD.c_retL_e, PD.c_retB_e, PD.c_sCons2_e, PD.c_sCons1_e, PD.c_tup_e, PD.c_lst_e, PD.c_bin2_e, PD.c_bin1_e, PD.c_un_e, PD.c_call_e, PD.c_callI3_e, PD.c_callI2_e, PD.c_callI_e, PD.c_tru_e, PD.c_and_t, PD.c_and_f, PD.c_or_t, PD.c_or_f, PD.c_not_e, PD.c_vand_t, PD.c_vand_f, PD.c_vor_t, PD.c_vor_f, PD.c_sif_t, PD.c_sif_f, PD.c_nl_e, PD.c_lenO_e, PD.c_truO_e, PD.c_ixO2_e, PD.c_ixO_e, PD.c_meth3_e, PD.c_meth2_e, PD.c_meth_e, PD.c_sl3_e, PD.c_sl2_e, PD.c_sl_e, PD.c_os_e, PD.c_wS_e, PD.c_wR1_e, PD.c_wR2_e, PD.c_wE_e, PD.c_wZ_l, PD.c_wZ_t, PD.c_lc2_e, PD.c_lc_e, PD.c_seq_nx, PD.c_seq_bk, PD.c_seq_ct, PD.c_seq_rt, PD.c_drop_e, PD.c_set_e, PD.c_own_e, PD.c_nx_e, PD.c_asg_e, PD.c_par_e, PD.c_par3_e, PD.c_if_t, PD.c_if_f, PD.c_rt_e, PD.c_rto_e, PD.c_for_e, PD.c_gO3_e, PD.c_gO2_e, PD.c_gO_e, PD.gO_e, PD.gN_e, PD.gsNil_e, PD.gsCons_e, PD.gT_e, PD.sNil_e, PD.sC_e, PD.oNone_e, PD.tYesD_e, PD.kNil_e, PD.kRetN_e, PD.kBk_e, PD.kCt_e, PD.kNever_e, PD.runP_e, PD.runI_e, PD.outP_nx, PD.outP_rt, PD.outI_nx, PD.outI_rt, PD.sV, PD.ownL, PD.ini, List.map_cons, List.map_nil, List.length_cons, List.length_nil, Nat.reduceSub, Nat.reduceAdd, Nat.sub_self, Nat.zero_add, List.replicate_succ, List.replicate_zero, List.append_nil, List.cons_append, List.nil_append, List.getElem?_cons_zero, List.getElem?_cons_succ, List.getElem?_nil, List.set_cons_zero, List.set_cons_succ, Option.bind_none, Option.bind_assoc, Option.map_some, PD.seqD_list, PD.seqD_tuple, PD.wipeD, PD.unwipe, PD.rng1_i, PD.appD_l, PD.ixD_l, PD.ixD_t, PD.truD_n, PD.truD_b, PD.truD_i, PD.truD_l, PD.truD_t, PD.sliceD_l, PD.sliceD_t, PD.subD_i, PD.negD_i, PD.notD_b, PD.ltD_i, PD.leD_i, PD.gtD_i, PD.geD_i, PD.absD_i, PD.intD_i, PD.intD_b, PD.max2_i, PD.min2_i, PD.max3_i, PD.min3_i, PD.chn_e, PD.c_ch0_e, PD.c_ch1_e, PD.c_ch2_t, PD.c_ch2_f, PD.c_ch3_e, PD.lenD_l, PD.lenD_t, PD.listD_l, PD.listD_t, PD.tupleD_l, PD.tupleD_t, PD.listrevD_l, PD.iaddD_i, PD.addD_i, PD.mulD_i, PD.fdivD_i, PD.modD_i, PD.divmodD_i, PD.eqD_i, PD.neD_i, PD.isN_none, PD.isN_bool, PD.isN_int, PD.isN_str, PD.isN_list, PD.isN_tuple, PD.notN_none, PD.notN_bool, PD.notN_int, PD.notN_str, PD.notN_list, PD.notN_tuple, PD.eqD_b2, PD.neD_b2, PD.ix0, PD.ix1, PD.ix2, PD.ix3, PD.ix4, PD.ix5, PD.ixm1, PD.ixN30, PD.ixN31, PD.ixN32, Bool.false_eq_true, Bool.not_true, Bool.not_false, reduceCtorEq, decide_true, decide_false, Nat.reduceLT, Nat.reduceLeDiff, Nat.reduceEqDiff, Int.reduceLT, Int.reduceLE, Int.reduceToNat, Int.reduceNeg, Option.getD_some, Option.getD_none, and_self, and_true, true_and, PD.le_size, beq_self_eq_true, Bool.true_beq, Bool.false_beq]; rfl) (fun _ _ => rfl) (by omega)
  have hlen : acc.length < sizeLine := lt_size (by omega)
  have hr : ring2 ps = .list (ps.map pt2) := rfl
  have hg : ringD ((ps.drop j ++ ps.take j).map (mvp m0 m1)) = .tuple ((ps.drop j ++ ps.take j).map fun p => pt3 (mvp m0 m1 p)) := by unfold ringD; rw [List.map_map]; rfl
  unfold mSt at hcc ⊢
  rw [hr] at hcc ⊢
  simp -implicitDefEqProofs (disch := (first | assumption | (refine' PD.mulOk_sz ?a ?b ?c; (case a => (repeat' (first | assumption | exact PD.Sz.fmod (PD.Sz.lit (n := 64) (by decide)) (by decide) | exact PD.Sz.lit (n := 64) (by decide) | apply PD.Sz.mul | apply PD.Sz.add | apply PD.Sz.sub | apply PD.Sz.neg))); (case b => (repeat' (first | assumption | exact PD.Sz.fmod (PD.Sz.lit (n := 64) (by decide)) (by decide) | exact PD.Sz.lit (n := 64) (by decide) | apply PD.Sz.mul | apply PD.Sz.add | apply PD.Sz.sub | apply PD.Sz.neg))); (case c => decide)) | (exact PD.divOk_sz (PD.Sz.lit (n := 64) (by decide)) (by decide) (by decide)) | omega | (apply PD.lt_size; (first | decide | omega)))) only [PD.compD_nil, PD.compD_cons, PD.c_cp0_e, PD.c_cp1_t, PD.c_cp1_f, PD.c_cp2_e, PD.c_k0_e, PD.c_k1_t, PD.c_k1_f, PD.c_k2_e, PD.forD_nil, PD.forD_cons, PD.c_f1_e, PD.c_f2_nx, PD.c_f2_ct, PD.c_f2_bk, PD.c_f2_rt, ↓Option.bind_some, ↓reduceIte, PD.sCons_e, PD.sTup_e, PD.sLst_e, PD.bin_e, PD.un_e, PD.callD_e, PD.callI_e, PD.tru_e, PD.tand_e, PD.tor_e, PD.tnot_e, PD.vand_e, PD.vor_e, PD.sIf_e, PD.nl_e, PD.lenO_e, PD.truO_e, PD.ixO_e, PD.methO_e, PD.sSl_e, PD.oSome_e, PD.wS_e, PD.wR1_e, PD.wR2_e, PD.wE_e, PD.wZ_e, PD.sLc_e, PD.kSeq_e, PD.kDrop_e, PD.kSet_e, PD.kOwn_e, PD.kAsg_e, PD.kPar_e, PD.kPar3_e, PD.kIf_e, PD.kRet_e, PD.kRetO_e, PD.kFor_e, PD.kWhile_e, PD.c_ret_e, PD.c_retL_e, PD.c_retB_e, PD.c_sCons2_e, PD.c_sCons1_e, PD.c_tup_e, PD.c_lst_e, PD.c_bin2_e, PD.c_bin1_e, PD.c_un_e, PD.c_call_e, PD.c_callI3_e, PD.c_callI2_e, PD.c_callI_e, PD.c_tru_e, PD.c_and_t, PD.c_and_f, PD.c_or_t, PD.c_or_f, PD.c_not_e, PD.c_vand_t, PD.c_vand_f, PD.c_vor_t, PD.c_vor_f, PD.c_sif_t, PD.c_sif_f, PD.c_nl_e, PD.c_lenO_e, PD.c_truO_e, PD.c_ixO2_e, PD.c_ixO_e, PD.c_meth3_e, PD.c_meth2_e, PD.c_meth_e, PD.c_sl3_e, PD.c_sl2_e, PD.c_sl_e, PD.c_os_e, PD.c_wS_e, PD.c_wR1_e, PD.c_wR2_e, PD.c_wE_e, PD.c_wZ_l, PD.c_wZ_t, PD.c_lc2_e, PD.c_lc_e, PD.c_seq_nx, PD.c_seq_bk, PD.c_seq_ct, PD.c_seq_rt, PD.c_drop_e, PD.c_set_e, PD.c_own_e, PD.c_nx_e, PD.c_asg_e, PD.c_par_e, PD.c_par3_e, PD.c_if_t, PD.c_if_f, PD.c_rt_e, PD.c_rto_e, PD.c_for_e, PD.c_gO3_e, PD.c_gO2_e, PD.c_gO_e, PD.gO_e, PD.gN_e, PD.gsNil_e, PD.gsCons_e, PD.gT_e, PD.sNil_e, PD.sC_e, PD.oNone_e, PD.tYesD_e, PD.kNil_e, PD.kRetN_e, PD.kBk_e, PD.kCt_e, PD.kNever_e, PD.runP_e, PD.runI_e, PD.outP_nx, PD.outP_rt, PD.outI_nx, PD.outI_rt, PD.sV, PD.ownL, PD.ini, List.map_cons, List.map_nil, List.length_cons, List.length_nil, Nat.reduceSub, Nat.reduceAdd, Nat.sub_self, Nat.zero_add, List.replicate_succ, List.replicate_zero, List.append_nil, List.cons_append, List.nil_append, List.getElem?_cons_zero, List.getElem?_cons_succ, List.getElem?_nil, List.set_cons_zero, List.set_cons_succ, Option.bind_none, Option.bind_assoc, Option.map_some, PD.seqD_list, PD.seqD_tuple, PD.wipeD, PD.unwipe, PD.rng1_i, PD.appD_l, PD.ixD_l, PD.ixD_t, PD.truD_n, PD.truD_b, PD.truD_i, PD.truD_l, PD.truD_t, PD.sliceD_l, PD.sliceD_t, PD.subD_i, PD.negD_i, PD.notD_b, PD.ltD_i, PD.leD_i, PD.gtD_i, PD.geD_i, PD.absD_i, PD.intD_i, PD.intD_b, PD.max2_i, PD.min2_i, PD.max3_i, PD.min3_i, PD.chn_e, PD.c_ch0_e, PD.c_ch1_e, PD.c_ch2_t, PD.c_ch2_f, PD.c_ch3_e, PD.lenD_l, PD.lenD_t, PD.listD_l, PD.listD_t, PD.tupleD_l, PD.tupleD_t, PD.listrevD_l, PD.iaddD_i, PD.addD_i, PD.mulD_i, PD.fdivD_i, PD.modD_i, PD.divmodD_i, PD.eqD_i, PD.neD_i, PD.isN_none, PD.isN_bool, PD.isN_int, PD.isN_str, PD.isN_list, PD.isN_tuple, PD.notN_none, PD.notN_bool, PD.notN_int, PD.notN_str, PD.notN_list, PD.notN_tuple, PD.eqD_b2, PD.neD_b2, PD.ix0, PD.ix1, PD.ix2, PD.ix3, PD.ix4, PD.ix5, PD.ixm1, PD.ixN30, PD.ixN31, PD.ixN32, Bool.false_eq_true, Bool.not_true, Bool.not_false, reduceCtorEq, decide_true, decide_false, Nat.reduceLT, Nat.reduceLeDiff, Nat.reduceEqDiff, Int.reduceLT, Int.reduceLE, Int.reduceToNat, Int.reduceNeg, Option.getD_some, Option.getD_none, and_self, and_true, true_and, PD.le_size, beq_self_eq_true, Bool.true_beq, Bool.false_beq, b__law_moved_3, List.length_map, e, c1', c2', hcat, hcc]
  refine wp_some ⟨c1, _, (ps.drop j ++ ps.take j).map (mvp m0 m1), by rw [hg], ?_, ?_, ?_, fun p hp => ?_, hb1⟩
  · rw [sar_mvp, sar_rot, List.take_append_drop]
  · rw [Ne, List.map_eq_nil_iff]
    intro z
    rw [z] at hll
    exact absurd hll (by rw [List.length_nil]; omega)
  · rw [List.length_map, hll]; exact hl
  · obtain ⟨w, hw, rfl⟩ := List.mem_map.mp hp
    have hw2 : w ∈ ps := by
      rcases List.mem_append.mp hw with h | h
      · exact List.mem_of_mem_drop h
      · exact List.mem_of_mem_take h
    have := hb w hw2
    unfold mvp
    dsimp only
    omega
theorem mv3_loop {G : D} {s : Int} {q : Nat} {made : List (List IP)} {k sm tn lo hi : Option D} {m0 m1 : Int} (hm0 : m0.natAbs ≤ 500) (hm1 : m1.natAbs ≤ 500) : ∀ (rs : List (List IP)) (n : Nat) (c : List D) (acc : List D) (r ta : Option D), (∀ ps ∈ rs, Bd 200 ps ∧ ps ≠ [] ∧ ps.length ≤ 100) → BoxOk n c → n + rs.length ≤ 10000 → acc.length + rs.length ≤ 100 →
    Wp (forD (gN 5) b__law_moved_3 (rs.map ring2) (mSt c G s q made r (some (.list [.int m0, .int m1])) k (some (.list acc)) sm tn lo hi ta)) fun o => ∃ (c' : List D) (gs : List (List IP)) (r' ta' : Option D), o = .nx (mSt c' G s q made r' (some (.list [.int m0, .int m1])) k (some (.list (acc ++ gs.map ringD))) sm tn lo hi ta') ∧ gs.map sar = rs.map sar ∧ (∀ g ∈ gs, RingOk g ∧ Bd 1000 g) ∧ BoxOk (n + rs.length) c'
  | [], n, c, acc, r, ta, _, hc, _, _ => ⟨_, rfl, c, [], r, ta, by rw [List.map_nil, List.append_nil], rfl, fun g hg => (nomatch hg), hc⟩
  | ps :: rs, n, c, acc, r, ta, h, hc, hn, hl => by
    rw [List.length_cons] at hn hl
    obtain ⟨h1, h2, h3⟩ := h ps List.mem_cons_self
    obtain ⟨_, e, c1, ta1, g, rfl, g1, g2, g3, g4, g5⟩ := mv3 (G := G) (s := s) (q := q) (made := made) (k := k) (sm := sm) (tn := tn) (lo := lo) (hi := hi) (ta := ta) h1 h2 h3 hm0 hm1 hc (by omega) (show acc.length ≤ 100 by omega)
    obtain ⟨_, e2, c2, gs, r2, ta2, rfl, i1, i2, i3⟩ := mv3_loop (G := G) (s := s) (q := q) (made := made) (k := k) (sm := sm) (tn := tn) (lo := lo) (hi := hi) hm0 hm1 rs (n + 1) c1 (acc ++ [ringD g]) (some (ring2 ps)) ta1 (fun p hp => h p (List.mem_cons_of_mem _ hp)) g5 (by omega) (by rw [List.length_append, List.length_singleton]; omega)
    refine ⟨_, ?_, c2, g :: gs, r2, ta2, rfl, ?_, fun y hy => ?_, ?_⟩
    · rw [List.append_assoc] at e2
      rw [List.map_cons, List.map_cons, show ringD g :: gs.map ringD = [ringD g] ++ gs.map ringD from rfl, ← e2]
      have hset : List.set (mSt c G s q made r (some (.list [.int m0, .int m1])) k (some (.list acc)) sm tn lo hi ta) 5 (some (ring2 ps)) = mSt c G s q made (some (ring2 ps)) (some (.list [.int m0, .int m1])) k (some (.list acc)) sm tn lo hi ta := rfl
      simp -implicitDefEqProofs (disch := (first | assumption | (refine' PD.mulOk_sz ?a ?b ?c; (case a => (repeat' (first | assumption | exact PD.Sz.fmod (PD.Sz.lit (n := 64) (by decide)) (by decide) | exact PD.Sz.lit (n := 64) (by decide) | apply PD.Sz.mul | apply PD.Sz.add | apply PD.Sz.sub | apply PD.Sz.neg))); (case b => (repeat' (first | assumption | exact PD.Sz.fmod (PD.Sz.lit (n := 64) (by decide)) (by decide) | exact PD.Sz.lit (n := 64) (by decide) | apply PD.Sz.mul | apply PD.Sz.add | apply PD.Sz.sub | apply PD.Sz.neg))); (case c => decide)) | (exact PD.divOk_sz (PD.Sz.lit (n := 64) (by decide)) (by decide) (by decide)) | omega | (apply PD.lt_size; (first | decide | omega)))) only [PD.compD_nil, PD.compD_cons, PD.c_cp0_e, PD.c_cp1_t, PD.c_cp1_f, PD.c_cp2_e, PD.c_k0_e, PD.c_k1_t, PD.c_k1_f, PD.c_k2_e, PD.forD_nil, PD.forD_cons, PD.c_f1_e, PD.c_f2_nx, PD.c_f2_ct, PD.c_f2_bk, PD.c_f2_rt, ↓Option.bind_some, ↓reduceIte, PD.sCons_e, PD.sTup_e, PD.sLst_e, PD.bin_e, PD.un_e, PD.callD_e, PD.callI_e, PD.tru_e, PD.tand_e, PD.tor_e, PD.tnot_e, PD.vand_e, PD.vor_e, PD.sIf_e, PD.nl_e, PD.lenO_e, PD.truO_e, PD.ixO_e, PD.methO_e, PD.sSl_e, PD.oSome_e, PD.wS_e, PD.wR1_e, PD.wR2_e, PD.wE_e, PD.wZ_e, PD.sLc_e, PD.kSeq_e, PD.kDrop_e, PD.kSet_e, PD.kOwn_e, PD.kAsg_e, PD.kPar_e, PD.kPar3_e, PD.kIf_e, PD.kRet_e, PD.kRetO_e, PD.kFor_e, PD.kWhile_e, PD.c_ret_e, PD.c_retL_e, PD.c_retB_e, PD.c_sCons2_e, PD.c_sCons1_e, PD.c_tup_e, PD.c_lst_e, PD.c_bin2_e, PD.c_bin1_e, PD.c_un_e, PD.c_call_e, PD.c_callI3_e, PD.c_callI2_e, PD.c_callI_e, PD.c_tru_e, PD.c_and_t, PD.c_and_f, PD.c_or_t, PD.c_or_f, PD.c_not_e, PD.c_vand_t, PD.c_vand_f, PD.c_vor_t, PD.c_vor_f, PD.c_sif_t, PD.c_sif_f, PD.c_nl_e, PD.c_lenO_e, PD.c_truO_e, PD.c_ixO2_e, PD.c_ixO_e, PD.c_meth3_e, PD.c_meth2_e, PD.c_meth_e, PD.c_sl3_e, PD.c_sl2_e, PD.c_sl_e, PD.c_os_e, PD.c_wS_e, PD.c_wR1_e, PD.c_wR2_e, PD.c_wE_e, PD.c_wZ_l, PD.c_wZ_t, PD.c_lc2_e, PD.c_lc_e, PD.c_seq_nx, PD.c_seq_bk, PD.c_seq_ct, PD.c_seq_rt, PD.c_drop_e, PD.c_set_e, PD.c_own_e, PD.c_nx_e, PD.c_asg_e, PD.c_par_e, PD.c_par3_e, PD.c_if_t, PD.c_if_f, PD.c_rt_e, PD.c_rto_e, PD.c_for_e, PD.c_gO3_e, PD.c_gO2_e, PD.c_gO_e, PD.gO_e, PD.gN_e, PD.gsNil_e, PD.gsCons_e, PD.gT_e, PD.sNil_e, PD.sC_e, PD.oNone_e, PD.tYesD_e, PD.kNil_e, PD.kRetN_e, PD.kBk_e, PD.kCt_e, PD.kNever_e, PD.runP_e, PD.runI_e, PD.outP_nx, PD.outP_rt, PD.outI_nx, PD.outI_rt, PD.sV, PD.ownL, PD.ini, List.map_cons, List.map_nil, List.length_cons, List.length_nil, Nat.reduceSub, Nat.reduceAdd, Nat.sub_self, Nat.zero_add, List.replicate_succ, List.replicate_zero, List.append_nil, List.cons_append, List.nil_append, List.getElem?_cons_zero, List.getElem?_cons_succ, List.getElem?_nil, List.set_cons_zero, List.set_cons_succ, Option.bind_none, Option.bind_assoc, Option.map_some, PD.seqD_list, PD.seqD_tuple, PD.wipeD, PD.unwipe, PD.rng1_i, PD.appD_l, PD.ixD_l, PD.ixD_t, PD.truD_n, PD.truD_b, PD.truD_i, PD.truD_l, PD.truD_t, PD.sliceD_l, PD.sliceD_t, PD.subD_i, PD.negD_i, PD.notD_b, PD.ltD_i, PD.leD_i, PD.gtD_i, PD.geD_i, PD.absD_i, PD.intD_i, PD.intD_b, PD.max2_i, PD.min2_i, PD.max3_i, PD.min3_i, PD.chn_e, PD.c_ch0_e, PD.c_ch1_e, PD.c_ch2_t, PD.c_ch2_f, PD.c_ch3_e, PD.lenD_l, PD.lenD_t, PD.listD_l, PD.listD_t, PD.tupleD_l, PD.tupleD_t, PD.listrevD_l, PD.iaddD_i, PD.addD_i, PD.mulD_i, PD.fdivD_i, PD.modD_i, PD.divmodD_i, PD.eqD_i, PD.neD_i, PD.isN_none, PD.isN_bool, PD.isN_int, PD.isN_str, PD.isN_list, PD.isN_tuple, PD.notN_none, PD.notN_bool, PD.notN_int, PD.notN_str, PD.notN_list, PD.notN_tuple, PD.eqD_b2, PD.neD_b2, PD.ix0, PD.ix1, PD.ix2, PD.ix3, PD.ix4, PD.ix5, PD.ixm1, PD.ixN30, PD.ixN31, PD.ixN32, Bool.false_eq_true, Bool.not_true, Bool.not_false, reduceCtorEq, decide_true, decide_false, Nat.reduceLT, Nat.reduceLeDiff, Nat.reduceEqDiff, Int.reduceLT, Int.reduceLE, Int.reduceToNat, Int.reduceNeg, Option.getD_some, Option.getD_none, and_self, and_true, true_and, PD.le_size, beq_self_eq_true, Bool.true_beq, Bool.false_beq, hset, e]
    · rw [List.map_cons, List.map_cons, i1, g1]
    · rcases List.mem_cons.mp hy with rfl | hy
      · exact ⟨⟨g2, g3, g4.bp (by decide)⟩, g4⟩
      · exact i2 y hy
    · rw [List.length_cons, show n + (rs.length + 1) = n + 1 + rs.length by omega]; exact i3
end W

set_option maxHeartbeats 2000000
namespace W
open PySem L2 PD
theorem moved_sp {n : Nat} {c : List D} {r0 : List IP} {rest : List (List IP)} {s : Int} (hs : s.natAbs ≤ 1) (hr : ∀ ps ∈ r0 :: rest, Bd 64 ps ∧ ps ≠ [] ∧ ps.length ≤ 100) (hl : rest.length ≤ 10) (hc : BoxOk n c) (hn : n ≤ 5000) :
    Wp (e__law_moved c [.list ((r0 :: rest).map ring2), .int s]) fun r => ∃ (o : List IP) (qs : List (List IP)) (c' : List D), r = (roomD o qs, c') ∧ RoomOk o qs ∧ (∀ g ∈ o :: qs, Bd 1000 g) ∧ sar o = sar r0 ∧ qs.map sar = rest.map sar ∧ BoxOk (n + 20) c' := by
  obtain ⟨_, e, v, c1, rfl, hv1, hv2, hb1⟩ := draw (m := 4) hc (by omega) (by decide) (by decide)
  obtain ⟨q, rfl⟩ : ∃ q : Nat, v = (q : Int) := ⟨v.toNat, by omega⟩
  obtain ⟨L0, hL0⟩ : ∃ L0, L0 = (r0 :: rest).map ring2 := ⟨_, rfl⟩
  obtain ⟨r1, x1, y1, el1⟩ := mv1_loop (c := c1) (G := .list L0) (s := s) (q := q) hs (by omega) (r0 :: rest) [] none none none (fun ps hp => ⟨(hr ps hp).1.bp (by decide), (hr ps hp).2.2⟩) (by rw [List.length_nil, List.length_cons]; omega)
  rw [List.nil_append, ← hL0, List.map_cons] at el1
  have hT : ∀ ps ∈ r0 :: rest, Bd 128 (turnq q (ps.map (sl s))) ∧ turnq q (ps.map (sl s)) ≠ [] ∧ (turnq q (ps.map (sl s))).length ≤ 100 := fun ps hp => by
    obtain ⟨h1, h2, h3⟩ := hr ps hp
    have hlen : (turnq q (ps.map (sl s))).length = ps.length := by rw [turnq_len, List.length_map]
    refine ⟨turnq_bd q (sl_bd hs h1), fun z => ?_, by rw [hlen]; exact h3⟩
    rw [z, List.length_nil] at hlen
    exact h2 (List.eq_nil_of_length_eq_zero hlen.symm)
  obtain ⟨t1, t2, t3⟩ := hT r0 List.mem_cons_self
  have hsar : (turnq q (r0.map (sl s)) :: rest.map fun (ps : List IP) => turnq q (ps.map (sl s))).map sar = sar r0 :: rest.map sar := by
    rw [List.map_cons, sar_turnq, sar_sl, List.map_map]
    congr 1
    exact List.map_congr_left fun ps _ => by show sar (turnq q (ps.map (sl s))) = _; rw [sar_turnq, sar_sl]
  have hall : ∀ ps ∈ (turnq q (r0.map (sl s)) :: rest.map fun (ps : List IP) => turnq q (ps.map (sl s))), Bd 200 ps ∧ ps ≠ [] ∧ ps.length ≤ 100 := fun ps hp => by
    have key : ∀ ps, Bd 128 ps → Bd 200 ps := fun ps h p hp => by have := h p hp; omega
    rcases List.mem_cons.mp hp with rfl | hp
    · exact ⟨key _ t1, t2, t3⟩
    · obtain ⟨w, hw, rfl⟩ := List.mem_map.mp hp
      obtain ⟨u1, u2, u3⟩ := hT w (List.mem_cons_of_mem _ hw)
      exact ⟨key _ u1, u2, u3⟩
  have hlr : (rest.map fun (ps : List IP) => turnq q (ps.map (sl s))).length ≤ 10 := by rw [List.length_map]; exact hl
  generalize turnq q (r0.map (sl s)) = T0 at *
  generalize (rest.map fun (ps : List IP) => turnq q (ps.map (sl s))) = TS at *
  obtain ⟨_, e2, c2, lo2, hi2, m0, rfl, bm0, hb2⟩ := mv2 (G := .list L0) (s := s) (q := q) (r0 := T0) (rest := TS) (ring := r1) (sm := x1) (tn := y1) (lo := none) (hi := none) (mv := []) (k := 0) (fun p => p.1) (fun p => ix0) (b := 128) (fun p hp => (t1 p hp).1) t2 t3 hb1 (by omega) (by decide)
  obtain ⟨_, e3, c3, lo3, hi3, m1, rfl, bm1, hb3⟩ := mv2 (G := .list L0) (s := s) (q := q) (r0 := T0) (rest := TS) (ring := r1) (sm := x1) (tn := y1) (lo := lo2) (hi := hi2) (mv := [] ++ [.int m0]) (k := 1) (fun p => p.2) (fun p => ix1) (b := 128) (fun p hp => (t1 p hp).2) t2 t3 hb2 (by omega) (by simp)
  rw [List.nil_append] at e2 e3
  obtain ⟨_, e4, c4, gs, r4, ta4, rfl, i1, i2, i3⟩ := mv3_loop (G := .list L0) (s := s) (q := q) (made := T0 :: TS) (k := some (.int 1)) (sm := x1) (tn := y1) (lo := lo3) (hi := hi3) (m0 := m0) (m1 := m1) (by omega) (by omega) (T0 :: TS) (n + 1 + 1 + 1) c3 [] r1 none hall hb3 (by rw [List.length_cons]; omega) (by rw [List.length_nil, List.length_cons]; omega)
  rw [hsar] at i1
  rw [List.nil_append] at e4
  cases gs with
  | nil => cases i1
  | cons g0 gs =>
    rw [List.map_cons] at i1
    have j1 := (List.cons.inj i1).1
    have j2 := (List.cons.inj i1).2
    have hgl : gs.length ≤ 10 := by
      have := congrArg List.length j2
      rw [List.length_map, List.length_map] at this
      omega
    have hc1 : cut (ringD g0 :: gs.map ringD) (some 1) none = gs.map ringD := cut_from _ 1
    rw [List.map_cons (f := ringD)] at e4
    obtain ⟨L, hL⟩ : ∃ L, L = (T0 :: TS).map ring2 := ⟨_, rfl⟩
    unfold mSt at el1 e2 e3 e4
    rw [← hL0]
    rw [← hL] at el1 e2 e3 e4
    rw [List.cons_append, List.nil_append] at e3
    rw [List.map_nil] at el1
    simp -implicitDefEqProofs (disch := (first | assumption | (refine' PD.mulOk_sz ?a ?b ?c; (case a => (repeat' (first | assumption | exact PD.Sz.fmod (PD.Sz.lit (n := 64) (by decide)) (by decide) | exact PD.Sz.lit (n := 64) (by decide) | apply PD.Sz.mul | apply PD.Sz.add | apply PD.Sz.sub | apply PD.Sz.neg))); (case b => (repeat' (first | assumption | exact PD.Sz.fmod (PD.Sz.lit (n := 64) (by decide)) (by decide) | exact PD.Sz.lit (n := 64) (by decide) | apply PD.Sz.mul | apply PD.Sz.add | apply PD.Sz.sub | apply PD.Sz.neg))); (case c => decide)) | (exact PD.divOk_sz (PD.Sz.lit (n := 64) (by decide)) (by decide) (by decide)) | omega | (apply PD.lt_size; (first | decide | omega)))) only [PD.compD_nil, PD.compD_cons, PD.c_cp0_e, PD.c_cp1_t, PD.c_cp1_f, PD.c_cp2_e, PD.c_k0_e, PD.c_k1_t, PD.c_k1_f, PD.c_k2_e, PD.forD_nil, PD.forD_cons, PD.c_f1_e, PD.c_f2_nx, PD.c_f2_ct, PD.c_f2_bk, PD.c_f2_rt, ↓Option.bind_some, ↓reduceIte, PD.sCons_e, PD.sTup_e, PD.sLst_e, PD.bin_e, PD.un_e, PD.callD_e, PD.callI_e, PD.tru_e, PD.tand_e, PD.tor_e, PD.tnot_e, PD.vand_e, PD.vor_e, PD.sIf_e, PD.nl_e, PD.lenO_e, PD.truO_e, PD.ixO_e, PD.methO_e, PD.sSl_e, PD.oSome_e, PD.wS_e, PD.wR1_e, PD.wR2_e, PD.wE_e, PD.wZ_e, PD.sLc_e, PD.kSeq_e, PD.kDrop_e, PD.kSet_e, PD.kOwn_e, PD.kAsg_e, PD.kPar_e, PD.kPar3_e, PD.kIf_e, PD.kRet_e, PD.kRetO_e, PD.kFor_e, PD.kWhile_e, PD.c_ret_e, PD.c_retL_e, PD.c_retB_e, PD.c_sCons2_e, PD.c_sCons1_e, PD.c_tup_e, PD.c_lst_e, PD.c_bin2_e, PD.c_bin1_e, PD.c_un_e, PD.c_call_e, PD.c_callI3_e, PD.c_callI2_e, PD.c_callI_e, PD.c_tru_e, PD.c_and_t, PD.c_and_f, PD.c_or_t, PD.c_or_f, PD.c_not_e, PD.c_vand_t, PD.c_vand_f, PD.c_vor_t, PD.c_vor_f, PD.c_sif_t, PD.c_sif_f, PD.c_nl_e, PD.c_lenO_e, PD.c_truO_e, PD.c_ixO2_e, PD.c_ixO_e, PD.c_meth3_e, PD.c_meth2_e, PD.c_meth_e, PD.c_sl3_e, PD.c_sl2_e, PD.c_sl_e, PD.c_os_e, PD.c_wS_e, PD.c_wR1_e, PD.c_wR2_e, PD.c_wE_e, PD.c_wZ_l, PD.c_wZ_t, PD.c_lc2_e, PD.c_lc_e, PD.c_seq_nx, PD.c_seq_bk, PD.c_seq_ct, PD.c_seq_rt, PD.c_drop_e, PD.c_set_e, PD.c_own_e, PD.c_nx_e, PD.c_asg_e, PD.c_par_e, PD.c_par3_e, PD.c_if_t, PD.c_if_f, PD.c_rt_e, PD.c_rto_e, PD.c_for_e, PD.c_gO3_e, PD.c_gO2_e, PD.c_gO_e, PD.gO_e, PD.gN_e, PD.gsNil_e, PD.gsCons_e, PD.gT_e, PD.sNil_e, PD.sC_e, PD.oNone_e, PD.tYesD_e, PD.kNil_e, PD.kRetN_e, PD.kBk_e, PD.kCt_e, PD.kNever_e, PD.runP_e, PD.runI_e, PD.outP_nx, PD.outP_rt, PD.outI_nx, PD.outI_rt, PD.sV, PD.ownL, PD.ini, List.map_cons, List.map_nil, List.length_cons, List.length_nil, Nat.reduceSub, Nat.reduceAdd, Nat.sub_self, Nat.zero_add, List.replicate_succ, List.replicate_zero, List.append_nil, List.cons_append, List.nil_append, List.getElem?_cons_zero, List.getElem?_cons_succ, List.getElem?_nil, List.set_cons_zero, List.set_cons_succ, Option.bind_none, Option.bind_assoc, Option.map_some, PD.seqD_list, PD.seqD_tuple, PD.wipeD, PD.unwipe, PD.rng1_i, PD.appD_l, PD.ixD_l, PD.ixD_t, PD.truD_n, PD.truD_b, PD.truD_i, PD.truD_l, PD.truD_t, PD.sliceD_l, PD.sliceD_t, PD.subD_i, PD.negD_i, PD.notD_b, PD.ltD_i, PD.leD_i, PD.gtD_i, PD.geD_i, PD.absD_i, PD.intD_i, PD.intD_b, PD.max2_i, PD.min2_i, PD.max3_i, PD.min3_i, PD.chn_e, PD.c_ch0_e, PD.c_ch1_e, PD.c_ch2_t, PD.c_ch2_f, PD.c_ch3_e, PD.lenD_l, PD.lenD_t, PD.listD_l, PD.listD_t, PD.tupleD_l, PD.tupleD_t, PD.listrevD_l, PD.iaddD_i, PD.addD_i, PD.mulD_i, PD.fdivD_i, PD.modD_i, PD.divmodD_i, PD.eqD_i, PD.neD_i, PD.isN_none, PD.isN_bool, PD.isN_int, PD.isN_str, PD.isN_list, PD.isN_tuple, PD.notN_none, PD.notN_bool, PD.notN_int, PD.notN_str, PD.notN_list, PD.notN_tuple, PD.eqD_b2, PD.neD_b2, PD.ix0, PD.ix1, PD.ix2, PD.ix3, PD.ix4, PD.ix5, PD.ixm1, PD.ixN30, PD.ixN31, PD.ixN32, Bool.false_eq_true, Bool.not_true, Bool.not_false, reduceCtorEq, decide_true, decide_false, Nat.reduceLT, Nat.reduceLeDiff, Nat.reduceEqDiff, Int.reduceLT, Int.reduceLE, Int.reduceToNat, Int.reduceNeg, Option.getD_some, Option.getD_none, and_self, and_true, true_and, PD.le_size, beq_self_eq_true, Bool.true_beq, Bool.false_beq, e__law_moved, m__law_moved, e, el1, t__law_moved_82, rng_2, e2, e3, t__law_moved_86, e4, hc1]
    refine wp_some ⟨g0, gs, c4, rfl, ⟨(i2 g0 List.mem_cons_self).1, fun g hg => (i2 g (List.mem_cons_of_mem _ hg)).1, hgl⟩, fun g hg => (i2 g hg).2, j1, j2, i3.mono ?_⟩
    rw [List.length_cons]
    omega
end W

set_option maxHeartbeats 2000000
namespace W
open PySem L2 PD
/-! ### the room -/
def f5 (n : Int) (p : IP) : IP := (n * p.1, n * p.2)
theorem sar_f5 (n : Int) (ps : List IP) : sar (ps.map (f5 n)) = n * n * sar ps := by
  have := sar_aff n 0 0 n 0 0 ps
  rw [show ps.map (f5 n) = ps.map (aff n 0 0 n 0 0) from List.map_congr_left fun p _ => by unfold f5 aff; congr 1 <;> grind, this]
  grind
theorem sar_ne {ps : List IP} (h : 1 ≤ sar ps) : ps ≠ [] := fun z => by
  rw [z] at h
  exact absurd h (by decide)
def RoomPost (n : Nat) (r : D × List D) : Prop := ∃ (o : List IP) (qs : List (List IP)) (c' : List D), r = (roomD o qs, c') ∧ RoomOk o qs ∧ (∀ g ∈ o :: qs, Bd 1000 g) ∧ 1 ≤ rar o qs ∧ BoxOk n c'
theorem comp78 {fe : SE} (f : IP → IP) (t : DSt) (ps : List IP) (h : ∀ p ∈ ps, fe ((t.set 7 (some (.int p.1))).set 8 (some (.int p.2))) = some (pt2 (f p), ((t.set 7 (some (.int p.1))).set 8 (some (.int p.2)))))
    (hw : ∀ x y : Option D, wipeD ((t.set 7 x).set 8 y) [7, 8] = t) (hl : ps.length ≤ 1000) : compD [7, 8] (gT (gsCons (gN 7) (gsCons (gN 8) gsNil)) 2) tYesD fe (ps.map pt2) t [] = some ((ps.map f).map pt2, t) := by
  rw [comp_pure pt2 (fun p => pt2 (f p)) t ps [] (by rw [List.length_nil]; omega) fun p hp => ?_, List.nil_append, List.map_map]
  · rfl
  · simp -implicitDefEqProofs (disch := (first | assumption | (refine' PD.mulOk_sz ?a ?b ?c; (case a => (repeat' (first | assumption | exact PD.Sz.fmod (PD.Sz.lit (n := 64) (by decide)) (by decide) | exact PD.Sz.lit (n := 64) (by decide) | apply PD.Sz.mul | apply PD.Sz.add | apply PD.Sz.sub | apply PD.Sz.neg))); (case b => (repeat' (first | assumption | exact PD.Sz.fmod (PD.Sz.lit (n := 64) (by decide)) (by decide) | exact PD.Sz.lit (n := 64) (by decide) | apply PD.Sz.mul | apply PD.Sz.add | apply PD.Sz.sub | apply PD.Sz.neg))); (case c => decide)) | (exact PD.divOk_sz (PD.Sz.lit (n := 64) (by decide)) (by decide) (by decide)) | omega | (apply PD.lt_size; (first | decide | omega)))) only [PD.compD_nil, PD.compD_cons, PD.c_cp0_e, PD.c_cp1_t, PD.c_cp1_f, PD.c_cp2_e, PD.c_k0_e, PD.c_k1_t, PD.c_k1_f, PD.c_k2_e, PD.forD_nil, PD.forD_cons, PD.c_f1_e, PD.c_f2_nx, PD.c_f2_ct, PD.c_f2_bk, PD.c_f2_rt, ↓Option.bind_some, ↓reduceIte, PD.sCons_e, PD.sTup_e, PD.sLst_e, PD.bin_e, PD.un_e, PD.callD_e, PD.callI_e, PD.tru_e, PD.tand_e, PD.tor_e, PD.tnot_e, PD.vand_e, PD.vor_e, PD.sIf_e, PD.nl_e, PD.lenO_e, PD.truO_e, PD.ixO_e, PD.methO_e, PD.sSl_e, PD.oSome_e, PD.wS_e, PD.wR1_e, PD.wR2_e, PD.wE_e, PD.wZ_e, PD.sLc_e, PD.kSeq_e, PD.kDrop_e, PD.kSet_e, PD.kOwn_e, PD.kAsg_e, PD.kPar_e, PD.kPar3_e, PD.kIf_e, PD.kRet_e, PD.kRetO_e, PD.kFor_e, PD.kWhile_e, PD.c_ret_e, PD.c_retL_e, PD.c_retB_e, PD.c_sCons2_e, PD.c_sCons1_e, PD.c_tup_e, PD.c_lst_e, PD.c_bin2_e, PD.c_bin1_e, PD.c_un_e, PD.c_call_e, PD.c_callI3_e, PD.c_callI2_e, PD.c_callI_e, PD.c_tru_e, PD.c_and_t, PD.c_and_f, PD.c_or_t, PD.c_or_f, PD.c_not_e, PD.c_vand_t, PD.c_vand_f, PD.c_vor_t, PD.c_vor_f, PD.c_sif_t, PD.c_sif_f, PD.c_nl_e, PD.c_lenO_e, PD.c_truO_e, PD.c_ixO2_e, PD.c_ixO_e, PD.c_meth3_e, PD.c_meth2_e, PD.c_meth_e, PD.c_sl3_e, PD.c_sl2_e, PD.c_sl_e, PD.c_os_e, PD.c_wS_e, PD.c_wR1_e, PD.c_wR2_e, PD.c_wE_e, PD.c_wZ_l, PD.c_wZ_t, PD.c_lc2_e, PD.c_lc_e, PD.c_seq_nx, PD.c_seq_bk, PD.c_seq_ct, PD.c_seq_rt, PD.c_drop_e, PD.c_set_e, PD.c_own_e, PD.c_nx_e, PD.c_asg_e, PD.c_par_e, PD.c_par3_e, PD.c_if_t, PD.c_if_f, PD.c_rt_e, PD.c_rto_e, PD.c_for_e, PD.c_gO3_e, PD.c_gO2_e, PD.c_gO_e, PD.gO_e, PD.gN_e, PD.gsNil_e, PD.gsCons_e, PD.gT_e, PD.sNil_e, PD.sC_e, PD.oNone_e, PD.tYesD_e, PD.kNil_e, PD.kRetN_e, PD.kBk_e, PD.kCt_e, PD.kNever_e, PD.runP_e, PD.runI_e, PD.outP_nx, PD.outP_rt, PD.outI_nx, PD.outI_rt, PD.sV, PD.ownL, PD.ini, List.map_cons, List.map_nil, List.length_cons, List.length_nil, Nat.reduceSub, Nat.reduceAdd, Nat.sub_self, Nat.zero_add, List.replicate_succ, List.replicate_zero, List.append_nil, List.cons_append, List.nil_append, List.getElem?_cons_zero, List.getElem?_cons_succ, List.getElem?_nil, List.set_cons_zero, List.set_cons_succ, Option.bind_none, Option.bind_assoc, Option.map_some, PD.seqD_list, PD.seqD_tuple, PD.wipeD, PD.unwipe, PD.rng1_i, PD.appD_l, PD.ixD_l, PD.ixD_t, PD.truD_n, PD.truD_b, PD.truD_i, PD.truD_l, PD.truD_t, PD.sliceD_l, PD.sliceD_t, PD.subD_i, PD.negD_i, PD.notD_b, PD.ltD_i, PD.leD_i, PD.gtD_i, PD.geD_i, PD.absD_i, PD.intD_i, PD.intD_b, PD.max2_i, PD.min2_i, PD.max3_i, PD.min3_i, PD.chn_e, PD.c_ch0_e, PD.c_ch1_e, PD.c_ch2_t, PD.c_ch2_f, PD.c_ch3_e, PD.lenD_l, PD.lenD_t, PD.listD_l, PD.listD_t, PD.tupleD_l, PD.tupleD_t, PD.listrevD_l, PD.iaddD_i, PD.addD_i, PD.mulD_i, PD.fdivD_i, PD.modD_i, PD.divmodD_i, PD.eqD_i, PD.neD_i, PD.isN_none, PD.isN_bool, PD.isN_int, PD.isN_str, PD.isN_list, PD.isN_tuple, PD.notN_none, PD.notN_bool, PD.notN_int, PD.notN_str, PD.notN_list, PD.notN_tuple, PD.eqD_b2, PD.neD_b2, PD.ix0, PD.ix1, PD.ix2, PD.ix3, PD.ix4, PD.ix5, PD.ixm1, PD.ixN30, PD.ixN31, PD.ixN32, Bool.false_eq_true, Bool.not_true, Bool.not_false, reduceCtorEq, decide_true, decide_false, Nat.reduceLT, Nat.reduceLeDiff, Nat.reduceEqDiff, Int.reduceLT, Int.reduceLE, Int.reduceToNat, Int.reduceNeg, Option.getD_some, Option.getD_none, and_self, and_true, true_and, PD.le_size, beq_self_eq_true, Bool.true_beq, Bool.false_beq, pt2, h p hp]
    exact wp_some ⟨rfl, hw _ _⟩
theorem room_tail {n : Nat} {c : List D} {s : Int} {ring : List IP} {x : Option D} (hs : s.natAbs ≤ 1) (h1 : 1 ≤ sar ring) (hl : ring.length ≤ 20) (hb : Bd 6 ring) (hc : BoxOk n c) (hn : n ≤ 4000) :
    ∃ (o : List IP) (qs : List (List IP)) (c' : List D) (T : DSt), t__law_room_100 [some (.list c), some (.int 20), some (.int s), none, some (ring2 ring), x, none, none, none] = some (.rt (roomD o qs) (some (.list c') :: T)) ∧ RoomOk o qs ∧ (∀ g ∈ o :: qs, Bd 1000 g) ∧ 1 ≤ rar o qs ∧ BoxOk (n + 30) c' := by
  obtain ⟨_, e, v, c1, rfl, hv1, hv2, hb1⟩ := draw (m := 4) hc (by omega) (by decide) (by decide)
  have hbig : ∀ ps ∈ [ring.map (f5 (1 + v))], Bd 64 ps ∧ ps ≠ [] ∧ ps.length ≤ 100 := fun ps hp => by
    rw [List.mem_singleton.mp hp]
    refine ⟨fun p hp => ?_, ?_, by rw [List.length_map]; omega⟩
    · obtain ⟨q, hq, rfl⟩ := List.mem_map.mp hp
      have := hb q hq
      unfold f5
      dsimp only
      rw [Int.natAbs_mul, Int.natAbs_mul]
      have h4 : (1 + v).natAbs ≤ 4 := by omega
      exact ⟨Nat.le_trans (Nat.mul_le_mul h4 this.1) (by decide), Nat.le_trans (Nat.mul_le_mul h4 this.2) (by decide)⟩
    · rw [Ne, List.map_eq_nil_iff]; exact sar_ne h1
  obtain ⟨_, e2, o, qs, c2, rfl, hro, hsm, hso, hsq, hb2⟩ := moved_sp (rest := []) hs hbig (by decide) hb1 (by omega)
  have cc := comp78 (fe := (sTup (sCons (bin mulD (sV 3) (sV 7)) (sCons (bin mulD (sV 3) (sV 8)) sNil)))) (f5 (1 + v)) [some (.list c1), some (.int 20), some (.int s), some (.int (1 + v)), some (.list (ring.map pt2)), x, none, none, none] ring (fun p hp => by
    have := hb p hp
    have m1 : mulOk (1 + v) p.1 = true := mulOk_sz (Sz.lit (n := 20) (by omega)) (Sz.lit (n := 20) (by omega)) (by decide)
    have m2 : mulOk (1 + v) p.2 = true := mulOk_sz (Sz.lit (n := 20) (by omega)) (Sz.lit (n := 20) (by omega)) (by decide)
    simp -implicitDefEqProofs (disch := (first | assumption | (refine' PD.mulOk_sz ?a ?b ?c; (case a => (repeat' (first | assumption | exact PD.Sz.fmod (PD.Sz.lit (n := 64) (by decide)) (by decide) | exact PD.Sz.lit (n := 64) (by decide) | apply PD.Sz.mul | apply PD.Sz.add | apply PD.Sz.sub | apply PD.Sz.neg))); (case b => (repeat' (first | assumption | exact PD.Sz.fmod (PD.Sz.lit (n := 64) (by decide)) (by decide) | exact PD.Sz.lit (n := 64) (by decide) | apply PD.Sz.mul | apply PD.Sz.add | apply PD.Sz.sub | apply PD.Sz.neg))); (case c => decide)) | (exact PD.divOk_sz (PD.Sz.lit (n := 64) (by decide)) (by decide) (by decide)) | omega | (apply PD.lt_size; (first | decide | omega)))) only [PD.compD_nil, PD.compD_cons, PD.c_cp0_e, PD.c_cp1_t, PD.c_cp1_f, PD.c_cp2_e, PD.c_k0_e, PD.c_k1_t, PD.c_k1_f, PD.c_k2_e, PD.forD_nil, PD.forD_cons, PD.c_f1_e, PD.c_f2_nx, PD.c_f2_ct, PD.c_f2_bk, PD.c_f2_rt, ↓Option.bind_some, ↓reduceIte, PD.sCons_e, PD.sTup_e, PD.sLst_e, PD.bin_e, PD.un_e, PD.callD_e, PD.callI_e, PD.tru_e, PD.tand_e, PD.tor_e, PD.tnot_e, PD.vand_e, PD.vor_e, PD.sIf_e, PD.nl_e, PD.lenO_e, PD.truO_e, PD.ixO_e, PD.methO_e, PD.sSl_e, PD.oSome_e, PD.wS_e, PD.wR1_e, PD.wR2_e, PD.wE_e, PD.wZ_e, PD.sLc_e, PD.kSeq_e, PD.kDrop_e, PD.kSet_e, PD.kOwn_e, PD.kAsg_e, PD.kPar_e, PD.kPar3_e, PD.kIf_e, PD.kRet_e, PD.kRetO_e, PD.kFor_e, PD.kWhile_e, PD.c_ret_e, PD.c_retL_e, PD.c_retB_e, PD.c_sCons2_e, PD.c_sCons1_e, PD.c_tup_e, PD.c_lst_e, PD.c_bin2_e, PD.c_bin1_e, PD.c_un_e, PD.c_call_e, PD.c_callI3_e, PD.c_callI2_e, PD.c_callI_e, PD.c_tru_e, PD.c_and_t, PD.c_and_f, PD.c_or_t, PD.c_or_f, PD.c_not_e, PD.c_vand_t, PD.c_vand_f, PD.c_vor_t, PD.c_vor_f, PD.c_sif_t, PD.c_sif_f, PD.c_nl_e, PD.c_lenO_e, PD.c_truO_e, PD.c_ixO2_e, PD.c_ixO_e, PD.c_meth3_e, PD.c_meth2_e, PD.c_meth_e, PD.c_sl3_e, PD.c_sl2_e, PD.c_sl_e, PD.c_os_e, PD.c_wS_e, PD.c_wR1_e, PD.c_wR2_e, PD.c_wE_e, PD.c_wZ_l, PD.c_wZ_t, PD.c_lc2_e, PD.c_lc_e, PD.c_seq_nx, PD.c_seq_bk, PD.c_seq_ct, PD.c_seq_rt, PD.c_drop_e, PD.c_set_e, PD.c_own_e, PD.c_nx_e, PD.c_asg_e, PD.c_par_e, PD.c_par3_e, PD.c_if_t, PD.c_if_f, PD.c_rt_e, PD.c_rto_e, PD.c_for_e, PD.c_gO3_e, PD.c_gO2_e, PD.c_gO_e, PD.gO_e, PD.gN_e, PD.gsNil_e, PD.gsCons_e, PD.gT_e, PD.sNil_e, PD.sC_e, PD.oNone_e, PD.tYesD_e, PD.kNil_e, PD.kRetN_e, PD.kBk_e, PD.kCt_e, PD.kNever_e, PD.runP_e, PD.runI_e, PD.outP_nx, PD.outP_rt, PD.outI_nx, PD.outI_rt, PD.sV, PD.ownL, PD.ini, List.map_cons, List.map_nil, List.length_cons, List.length_nil, Nat.reduceSub, Nat.reduceAdd, Nat.sub_self, Nat.zero_add, List.replicate_succ, List.replicate_zero, List.append_nil, List.cons_append, List.nil_append, List.getElem?_cons_zero, List.getElem?_cons_succ, List.getElem?_nil, List.set_cons_zero, List.set_cons_succ, Option.bind_none, Option.bind_assoc, Option.map_some, PD.seqD_list, PD.seqD_tuple, PD.wipeD, PD.unwipe, PD.rng1_i, PD.appD_l, PD.ixD_l, PD.ixD_t, PD.truD_n, PD.truD_b, PD.truD_i, PD.truD_l, PD.truD_t, PD.sliceD_l, PD.sliceD_t, PD.subD_i, PD.negD_i, PD.notD_b, PD.ltD_i, PD.leD_i, PD.gtD_i, PD.geD_i, PD.absD_i, PD.intD_i, PD.intD_b, PD.max2_i, PD.min2_i, PD.max3_i, PD.min3_i, PD.chn_e, PD.c_ch0_e, PD.c_ch1_e, PD.c_ch2_t, PD.c_ch2_f, PD.c_ch3_e, PD.lenD_l, PD.lenD_t, PD.listD_l, PD.listD_t, PD.tupleD_l, PD.tupleD_t, PD.listrevD_l, PD.iaddD_i, PD.addD_i, PD.mulD_i, PD.fdivD_i, PD.modD_i, PD.divmodD_i, PD.eqD_i, PD.neD_i, PD.isN_none, PD.isN_bool, PD.isN_int, PD.isN_str, PD.isN_list, PD.isN_tuple, PD.notN_none, PD.notN_bool, PD.notN_int, PD.notN_str, PD.notN_list, PD.notN_tuple, PD.eqD_b2, PD.neD_b2, PD.ix0, PD.ix1, PD.ix2, PD.ix3, PD.ix4, PD.ix5, PD.ixm1, PD.ixN30, PD.ixN31, PD.ixN32, Bool.false_eq_true, Bool.not_true, Bool.not_false, reduceCtorEq, decide_true, decide_false, Nat.reduceLT, Nat.reduceLeDiff, Nat.reduceEqDiff, Int.reduceLT, Int.reduceLE, Int.reduceToNat, Int.reduceNeg, Option.getD_some, Option.getD_none, and_self, and_true, true_and, PD.le_size, beq_self_eq_true, Bool.true_beq, Bool.false_beq, mulD_i m1, mulD_i m2]
    rfl) (fun _ _ => rfl) (by omega)
  have ht : decide (20 < ((ring.map pt2).length : Int)) = false := decide_eq_false (by rw [List.length_map]; omega)
  have hm : [ring.map (f5 (1 + v))].map ring2 = [.list ((ring.map (f5 (1 + v))).map pt2)] := rfl
  rw [hm] at e2
  have hqs : qs = [] := List.map_eq_nil_iff.mp hsq
  subst hqs
  refine ⟨o, [], c2, [some (.int 20), some (.int s), some (.int (1 + v)), some (.list (ring.map pt2)), x, none, none, none], ?_, hro, hsm, ?_, hb2.mono (by omega)⟩
  · unfold ring2
    simp -implicitDefEqProofs (disch := (first | assumption | (refine' PD.mulOk_sz ?a ?b ?c; (case a => (repeat' (first | assumption | exact PD.Sz.fmod (PD.Sz.lit (n := 64) (by decide)) (by decide) | exact PD.Sz.lit (n := 64) (by decide) | apply PD.Sz.mul | apply PD.Sz.add | apply PD.Sz.sub | apply PD.Sz.neg))); (case b => (repeat' (first | assumption | exact PD.Sz.fmod (PD.Sz.lit (n := 64) (by decide)) (by decide) | exact PD.Sz.lit (n := 64) (by decide) | apply PD.Sz.mul | apply PD.Sz.add | apply PD.Sz.sub | apply PD.Sz.neg))); (case c => decide)) | (exact PD.divOk_sz (PD.Sz.lit (n := 64) (by decide)) (by decide) (by decide)) | omega | (apply PD.lt_size; (first | decide | omega)))) only [PD.compD_nil, PD.compD_cons, PD.c_cp0_e, PD.c_cp1_t, PD.c_cp1_f, PD.c_cp2_e, PD.c_k0_e, PD.c_k1_t, PD.c_k1_f, PD.c_k2_e, PD.forD_nil, PD.forD_cons, PD.c_f1_e, PD.c_f2_nx, PD.c_f2_ct, PD.c_f2_bk, PD.c_f2_rt, ↓Option.bind_some, ↓reduceIte, PD.sCons_e, PD.sTup_e, PD.sLst_e, PD.bin_e, PD.un_e, PD.callD_e, PD.callI_e, PD.tru_e, PD.tand_e, PD.tor_e, PD.tnot_e, PD.vand_e, PD.vor_e, PD.sIf_e, PD.nl_e, PD.lenO_e, PD.truO_e, PD.ixO_e, PD.methO_e, PD.sSl_e, PD.oSome_e, PD.wS_e, PD.wR1_e, PD.wR2_e, PD.wE_e, PD.wZ_e, PD.sLc_e, PD.kSeq_e, PD.kDrop_e, PD.kSet_e, PD.kOwn_e, PD.kAsg_e, PD.kPar_e, PD.kPar3_e, PD.kIf_e, PD.kRet_e, PD.kRetO_e, PD.kFor_e, PD.kWhile_e, PD.c_ret_e, PD.c_retL_e, PD.c_retB_e, PD.c_sCons2_e, PD.c_sCons1_e, PD.c_tup_e, PD.c_lst_e, PD.c_bin2_e, PD.c_bin1_e, PD.c_un_e, PD.c_call_e, PD.c_callI3_e, PD.c_callI2_e, PD.c_callI_e, PD.c_tru_e, PD.c_and_t, PD.c_and_f, PD.c_or_t, PD.c_or_f, PD.c_not_e, PD.c_vand_t, PD.c_vand_f, PD.c_vor_t, PD.c_vor_f, PD.c_sif_t, PD.c_sif_f, PD.c_nl_e, PD.c_lenO_e, PD.c_truO_e, PD.c_ixO2_e, PD.c_ixO_e, PD.c_meth3_e, PD.c_meth2_e, PD.c_meth_e, PD.c_sl3_e, PD.c_sl2_e, PD.c_sl_e, PD.c_os_e, PD.c_wS_e, PD.c_wR1_e, PD.c_wR2_e, PD.c_wE_e, PD.c_wZ_l, PD.c_wZ_t, PD.c_lc2_e, PD.c_lc_e, PD.c_seq_nx, PD.c_seq_bk, PD.c_seq_ct, PD.c_seq_rt, PD.c_drop_e, PD.c_set_e, PD.c_own_e, PD.c_nx_e, PD.c_asg_e, PD.c_par_e, PD.c_par3_e, PD.c_if_t, PD.c_if_f, PD.c_rt_e, PD.c_rto_e, PD.c_for_e, PD.c_gO3_e, PD.c_gO2_e, PD.c_gO_e, PD.gO_e, PD.gN_e, PD.gsNil_e, PD.gsCons_e, PD.gT_e, PD.sNil_e, PD.sC_e, PD.oNone_e, PD.tYesD_e, PD.kNil_e, PD.kRetN_e, PD.kBk_e, PD.kCt_e, PD.kNever_e, PD.runP_e, PD.runI_e, PD.outP_nx, PD.outP_rt, PD.outI_nx, PD.outI_rt, PD.sV, PD.ownL, PD.ini, List.map_cons, List.map_nil, List.length_cons, List.length_nil, Nat.reduceSub, Nat.reduceAdd, Nat.sub_self, Nat.zero_add, List.replicate_succ, List.replicate_zero, List.append_nil, List.cons_append, List.nil_append, List.getElem?_cons_zero, List.getElem?_cons_succ, List.getElem?_nil, List.set_cons_zero, List.set_cons_succ, Option.bind_none, Option.bind_assoc, Option.map_some, PD.seqD_list, PD.seqD_tuple, PD.wipeD, PD.unwipe, PD.rng1_i, PD.appD_l, PD.ixD_l, PD.ixD_t, PD.truD_n, PD.truD_b, PD.truD_i, PD.truD_l, PD.truD_t, PD.sliceD_l, PD.sliceD_t, PD.subD_i, PD.negD_i, PD.notD_b, PD.ltD_i, PD.leD_i, PD.gtD_i, PD.geD_i, PD.absD_i, PD.intD_i, PD.intD_b, PD.max2_i, PD.min2_i, PD.max3_i, PD.min3_i, PD.chn_e, PD.c_ch0_e, PD.c_ch1_e, PD.c_ch2_t, PD.c_ch2_f, PD.c_ch3_e, PD.lenD_l, PD.lenD_t, PD.listD_l, PD.listD_t, PD.tupleD_l, PD.tupleD_t, PD.listrevD_l, PD.iaddD_i, PD.addD_i, PD.mulD_i, PD.fdivD_i, PD.modD_i, PD.divmodD_i, PD.eqD_i, PD.neD_i, PD.isN_none, PD.isN_bool, PD.isN_int, PD.isN_str, PD.isN_list, PD.isN_tuple, PD.notN_none, PD.notN_bool, PD.notN_int, PD.notN_str, PD.notN_list, PD.notN_tuple, PD.eqD_b2, PD.neD_b2, PD.ix0, PD.ix1, PD.ix2, PD.ix3, PD.ix4, PD.ix5, PD.ixm1, PD.ixN30, PD.ixN31, PD.ixN32, Bool.false_eq_true, Bool.not_true, Bool.not_false, reduceCtorEq, decide_true, decide_false, Nat.reduceLT, Nat.reduceLeDiff, Nat.reduceEqDiff, Int.reduceLT, Int.reduceLE, Int.reduceToNat, Int.reduceNeg, Option.getD_some, Option.getD_none, and_self, and_true, true_and, PD.le_size, beq_self_eq_true, Bool.true_beq, Bool.false_beq, t__law_room_100, ht, e, cc, e2]
  · unfold rar
    rw [hso, sar_f5]
    show 1 ≤ (1 + v) * (1 + v) * sar ring - 0
    have h3 : (1 : Int) * 1 ≤ (1 + v) * (1 + v) := Int.mul_le_mul (by omega) (by omega) (by decide) (by omega)
    rw [Int.one_mul] at h3
    have h4 : 1 * 1 ≤ ((1 + v) * (1 + v)) * sar ring := Int.mul_le_mul h3 h1 (by decide) (by omega)
    omega
theorem isum_le8 : ∀ fs : List (List IP), (∀ f ∈ fs, PilOk f) → isum (fs.map sar) ≤ 8 * (fs.length : Int)
  | [], _ => by decide
  | f :: fs, h => by
    have h1 := isum_le8 fs fun g hg => h g (List.mem_cons_of_mem _ hg)
    have h2 := (h f List.mem_cons_self).s8
    rw [List.map_cons, isum_cons, List.length_cons]
    omega
theorem room_pil {n : Nat} {c : List D} {s : Int} {ring cells : List IP} (hs : s.natAbs ≤ 1) (h1 : sar ring = 2 * (cells.length : Int)) (hc1 : 1 ≤ cells.length) (hc2 : cells.length ≤ 40) (hl : ring.length ≤ 16) (hb : Bd 4 ring) (hb2 : Bd 4 cells) (hc : BoxOk n c) (hn : n ≤ 4000) :
    ∃ (o : List IP) (qs : List (List IP)) (c' : List D) (T : DSt), t__law_room_96 [some (.list c), some (.int 20), some (.int s), none, some (ring2 ring), some (ring2 cells), none, none, none] = some (.rt (roomD o qs) (some (.list c') :: T)) ∧ RoomOk o qs ∧ (∀ g ∈ o :: qs, Bd 1000 g) ∧ 1 ≤ rar o qs ∧ BoxOk (n + 30) c' := by
  obtain ⟨_, e, fs, c1, rfl, hp1, hp2, hp3, hp4⟩ := pillars_sp (cells := cells) (m := 20 - (ring.length : Int)) hc (by omega) hb2 hc2
  have hbig : ∀ ps ∈ ring.map (f5 4) :: fs, Bd 64 ps ∧ ps ≠ [] ∧ ps.length ≤ 100 := fun ps hp => by
    rcases List.mem_cons.mp hp with rfl | hp
    · refine ⟨fun p hp => ?_, ?_, by rw [List.length_map]; omega⟩
      · obtain ⟨q, hq, rfl⟩ := List.mem_map.mp hp
        have := hb q hq
        unfold f5
        dsimp only
        omega
      · rw [Ne, List.map_eq_nil_iff]; exact sar_ne (by omega)
    · have hf := hp2 ps hp
      exact ⟨fun p h => by have := hf.bd p h; omega, sar_ne hf.s1, by have := hf.len; omega⟩
  obtain ⟨_, e2, o, qs, c2, rfl, hro, hsm, hso, hsq, hb3⟩ := moved_sp (rest := fs) hs hbig (by omega) hp1 (by omega)
  have cc := comp78 (fe := (sTup (sCons (bin mulD (sC (.int 4)) (sV 7)) (sCons (bin mulD (sC (.int 4)) (sV 8)) sNil)))) (f5 4) [some (.list c), some (.int 20), some (.int s), none, some (.list (ring.map pt2)), some (.list (cells.map pt2)), none, none, none] ring (fun p hp => by
    have := hb p hp
    have m1 : mulOk 4 p.1 = true := mulOk_sz (Sz.lit (n := 20) (by omega)) (Sz.lit (n := 20) (by omega)) (by decide)
    have m2 : mulOk 4 p.2 = true := mulOk_sz (Sz.lit (n := 20) (by omega)) (Sz.lit (n := 20) (by omega)) (by decide)
    simp -implicitDefEqProofs (disch := (first | assumption | (refine' PD.mulOk_sz ?a ?b ?c; (case a => (repeat' (first | assumption | exact PD.Sz.fmod (PD.Sz.lit (n := 64) (by decide)) (by decide) | exact PD.Sz.lit (n := 64) (by decide) | apply PD.Sz.mul | apply PD.Sz.add | apply PD.Sz.sub | apply PD.Sz.neg))); (case b => (repeat' (first | assumption | exact PD.Sz.fmod (PD.Sz.lit (n := 64) (by decide)) (by decide) | exact PD.Sz.lit (n := 64) (by decide) | apply PD.Sz.mul | apply PD.Sz.add | apply PD.Sz.sub | apply PD.Sz.neg))); (case c => decide)) | (exact PD.divOk_sz (PD.Sz.lit (n := 64) (by decide)) (by decide) (by decide)) | omega | (apply PD.lt_size; (first | decide | omega)))) only [PD.compD_nil, PD.compD_cons, PD.c_cp0_e, PD.c_cp1_t, PD.c_cp1_f, PD.c_cp2_e, PD.c_k0_e, PD.c_k1_t, PD.c_k1_f, PD.c_k2_e, PD.forD_nil, PD.forD_cons, PD.c_f1_e, PD.c_f2_nx, PD.c_f2_ct, PD.c_f2_bk, PD.c_f2_rt, ↓Option.bind_some, ↓reduceIte, PD.sCons_e, PD.sTup_e, PD.sLst_e, PD.bin_e, PD.un_e, PD.callD_e, PD.callI_e, PD.tru_e, PD.tand_e, PD.tor_e, PD.tnot_e, PD.vand_e, PD.vor_e, PD.sIf_e, PD.nl_e, PD.lenO_e, PD.truO_e, PD.ixO_e, PD.methO_e, PD.sSl_e, PD.oSome_e, PD.wS_e, PD.wR1_e, PD.wR2_e, PD.wE_e, PD.wZ_e, PD.sLc_e, PD.kSeq_e, PD.kDrop_e, PD.kSet_e, PD.kOwn_e, PD.kAsg_e, PD.kPar_e, PD.kPar3_e, PD.kIf_e, PD.kRet_e, PD.kRetO_e, PD.kFor_e, PD.kWhile_e, PD.c_ret_e, PD.c_retL_e, PD.c_retB_e, PD.c_sCons2_e, PD.c_sCons1_e, PD.c_tup_e, PD.c_lst_e, PD.c_bin2_e, PD.c_bin1_e, PD.c_un_e, PD.c_call_e, PD.c_callI3_e, PD.c_callI2_e, PD.c_callI_e, PD.c_tru_e, PD.c_and_t, PD.c_and_f, PD.c_or_t, PD.c_or_f, PD.c_not_e, PD.c_vand_t, PD.c_vand_f, PD.c_vor_t, PD.c_vor_f, PD.c_sif_t, PD.c_sif_f, PD.c_nl_e, PD.c_lenO_e, PD.c_truO_e, PD.c_ixO2_e, PD.c_ixO_e, PD.c_meth3_e, PD.c_meth2_e, PD.c_meth_e, PD.c_sl3_e, PD.c_sl2_e, PD.c_sl_e, PD.c_os_e, PD.c_wS_e, PD.c_wR1_e, PD.c_wR2_e, PD.c_wE_e, PD.c_wZ_l, PD.c_wZ_t, PD.c_lc2_e, PD.c_lc_e, PD.c_seq_nx, PD.c_seq_bk, PD.c_seq_ct, PD.c_seq_rt, PD.c_drop_e, PD.c_set_e, PD.c_own_e, PD.c_nx_e, PD.c_asg_e, PD.c_par_e, PD.c_par3_e, PD.c_if_t, PD.c_if_f, PD.c_rt_e, PD.c_rto_e, PD.c_for_e, PD.c_gO3_e, PD.c_gO2_e, PD.c_gO_e, PD.gO_e, PD.gN_e, PD.gsNil_e, PD.gsCons_e, PD.gT_e, PD.sNil_e, PD.sC_e, PD.oNone_e, PD.tYesD_e, PD.kNil_e, PD.kRetN_e, PD.kBk_e, PD.kCt_e, PD.kNever_e, PD.runP_e, PD.runI_e, PD.outP_nx, PD.outP_rt, PD.outI_nx, PD.outI_rt, PD.sV, PD.ownL, PD.ini, List.map_cons, List.map_nil, List.length_cons, List.length_nil, Nat.reduceSub, Nat.reduceAdd, Nat.sub_self, Nat.zero_add, List.replicate_succ, List.replicate_zero, List.append_nil, List.cons_append, List.nil_append, List.getElem?_cons_zero, List.getElem?_cons_succ, List.getElem?_nil, List.set_cons_zero, List.set_cons_succ, Option.bind_none, Option.bind_assoc, Option.map_some, PD.seqD_list, PD.seqD_tuple, PD.wipeD, PD.unwipe, PD.rng1_i, PD.appD_l, PD.ixD_l, PD.ixD_t, PD.truD_n, PD.truD_b, PD.truD_i, PD.truD_l, PD.truD_t, PD.sliceD_l, PD.sliceD_t, PD.subD_i, PD.negD_i, PD.notD_b, PD.ltD_i, PD.leD_i, PD.gtD_i, PD.geD_i, PD.absD_i, PD.intD_i, PD.intD_b, PD.max2_i, PD.min2_i, PD.max3_i, PD.min3_i, PD.chn_e, PD.c_ch0_e, PD.c_ch1_e, PD.c_ch2_t, PD.c_ch2_f, PD.c_ch3_e, PD.lenD_l, PD.lenD_t, PD.listD_l, PD.listD_t, PD.tupleD_l, PD.tupleD_t, PD.listrevD_l, PD.iaddD_i, PD.addD_i, PD.mulD_i, PD.fdivD_i, PD.modD_i, PD.divmodD_i, PD.eqD_i, PD.neD_i, PD.isN_none, PD.isN_bool, PD.isN_int, PD.isN_str, PD.isN_list, PD.isN_tuple, PD.notN_none, PD.notN_bool, PD.notN_int, PD.notN_str, PD.notN_list, PD.notN_tuple, PD.eqD_b2, PD.neD_b2, PD.ix0, PD.ix1, PD.ix2, PD.ix3, PD.ix4, PD.ix5, PD.ixm1, PD.ixN30, PD.ixN31, PD.ixN32, Bool.false_eq_true, Bool.not_true, Bool.not_false, reduceCtorEq, decide_true, decide_false, Nat.reduceLT, Nat.reduceLeDiff, Nat.reduceEqDiff, Int.reduceLT, Int.reduceLE, Int.reduceToNat, Int.reduceNeg, Option.getD_some, Option.getD_none, and_self, and_true, true_and, PD.le_size, beq_self_eq_true, Bool.true_beq, Bool.false_beq, mulD_i m1, mulD_i m2]
    rfl) (fun _ _ => rfl) (by omega)
  have hm : (ring.map (f5 4) :: fs).map ring2 = .list ((ring.map (f5 4)).map pt2) :: fs.map ring2 := rfl
  have hcat : addD (.list [.list ((ring.map (f5 4)).map pt2)]) (.list (fs.map ring2)) = some (.list (.list ((ring.map (f5 4)).map pt2) :: fs.map ring2)) := addD_l (by rw [List.length_map, List.length_singleton, sizeLine_eq]; omega)
  rw [hm] at e2
  have hmin : (if (20 : Int) < 20 then (20 : Int) else 20) = 20 := rfl
  unfold ring2 at e
  refine ⟨o, qs, c2, [some (.int 20), some (.int s), none, some (.list (ring.map pt2)), some (.list (cells.map pt2)), some (.list (.list ((ring.map (f5 4)).map pt2) :: fs.map ring2)), none, none], ?_, hro, hsm, ?_, hb3.mono (by omega)⟩
  · have hu : ring2 = fun ps : List IP => PyData.list (ps.map pt2) := rfl
    rw [← hu] at e
    show t__law_room_96 [some (.list c), some (.int 20), some (.int s), none, some (.list (ring.map pt2)), some (.list (cells.map pt2)), none, none, none] = _
    simp -implicitDefEqProofs (disch := (first | assumption | (refine' PD.mulOk_sz ?a ?b ?c; (case a => (repeat' (first | assumption | exact PD.Sz.fmod (PD.Sz.lit (n := 64) (by decide)) (by decide) | exact PD.Sz.lit (n := 64) (by decide) | apply PD.Sz.mul | apply PD.Sz.add | apply PD.Sz.sub | apply PD.Sz.neg))); (case b => (repeat' (first | assumption | exact PD.Sz.fmod (PD.Sz.lit (n := 64) (by decide)) (by decide) | exact PD.Sz.lit (n := 64) (by decide) | apply PD.Sz.mul | apply PD.Sz.add | apply PD.Sz.sub | apply PD.Sz.neg))); (case c => decide)) | (exact PD.divOk_sz (PD.Sz.lit (n := 64) (by decide)) (by decide) (by decide)) | omega | (apply PD.lt_size; (first | decide | omega)))) only [PD.compD_nil, PD.compD_cons, PD.c_cp0_e, PD.c_cp1_t, PD.c_cp1_f, PD.c_cp2_e, PD.c_k0_e, PD.c_k1_t, PD.c_k1_f, PD.c_k2_e, PD.forD_nil, PD.forD_cons, PD.c_f1_e, PD.c_f2_nx, PD.c_f2_ct, PD.c_f2_bk, PD.c_f2_rt, ↓Option.bind_some, ↓reduceIte, PD.sCons_e, PD.sTup_e, PD.sLst_e, PD.bin_e, PD.un_e, PD.callD_e, PD.callI_e, PD.tru_e, PD.tand_e, PD.tor_e, PD.tnot_e, PD.vand_e, PD.vor_e, PD.sIf_e, PD.nl_e, PD.lenO_e, PD.truO_e, PD.ixO_e, PD.methO_e, PD.sSl_e, PD.oSome_e, PD.wS_e, PD.wR1_e, PD.wR2_e, PD.wE_e, PD.wZ_e, PD.sLc_e, PD.kSeq_e, PD.kDrop_e, PD.kSet_e, PD.kOwn_e, PD.kAsg_e, PD.kPar_e, PD.kPar3_e, PD.kIf_e, PD.kRet_e, PD.kRetO_e, PD.kFor_e, PD.kWhile_e, PD.c_ret_e, PD.c_retL_e, PD.c_retB_e, PD.c_sCons2_e, PD.c_sCons1_e, PD.c_tup_e, PD.c_lst_e, PD.c_bin2_e, PD.c_bin1_e, PD.c_un_e, PD.c_call_e, PD.c_callI3_e, PD.c_callI2_e, PD.c_callI_e, PD.c_tru_e, PD.c_and_t, PD.c_and_f, PD.c_or_t, PD.c_or_f, PD.c_not_e, PD.c_vand_t, PD.c_vand_f, PD.c_vor_t, PD.c_vor_f, PD.c_sif_t, PD.c_sif_f, PD.c_nl_e, PD.c_lenO_e, PD.c_truO_e, PD.c_ixO2_e, PD.c_ixO_e, PD.c_meth3_e, PD.c_meth2_e, PD.c_meth_e, PD.c_sl3_e, PD.c_sl2_e, PD.c_sl_e, PD.c_os_e, PD.c_wS_e, PD.c_wR1_e, PD.c_wR2_e, PD.c_wE_e, PD.c_wZ_l, PD.c_wZ_t, PD.c_lc2_e, PD.c_lc_e, PD.c_seq_nx, PD.c_seq_bk, PD.c_seq_ct, PD.c_seq_rt, PD.c_drop_e, PD.c_set_e, PD.c_own_e, PD.c_nx_e, PD.c_asg_e, PD.c_par_e, PD.c_par3_e, PD.c_if_t, PD.c_if_f, PD.c_rt_e, PD.c_rto_e, PD.c_for_e, PD.c_gO3_e, PD.c_gO2_e, PD.c_gO_e, PD.gO_e, PD.gN_e, PD.gsNil_e, PD.gsCons_e, PD.gT_e, PD.sNil_e, PD.sC_e, PD.oNone_e, PD.tYesD_e, PD.kNil_e, PD.kRetN_e, PD.kBk_e, PD.kCt_e, PD.kNever_e, PD.runP_e, PD.runI_e, PD.outP_nx, PD.outP_rt, PD.outI_nx, PD.outI_rt, PD.sV, PD.ownL, PD.ini, List.map_cons, List.map_nil, List.length_cons, List.length_nil, Nat.reduceSub, Nat.reduceAdd, Nat.sub_self, Nat.zero_add, List.replicate_succ, List.replicate_zero, List.append_nil, List.cons_append, List.nil_append, List.getElem?_cons_zero, List.getElem?_cons_succ, List.getElem?_nil, List.set_cons_zero, List.set_cons_succ, Option.bind_none, Option.bind_assoc, Option.map_some, PD.seqD_list, PD.seqD_tuple, PD.wipeD, PD.unwipe, PD.rng1_i, PD.appD_l, PD.ixD_l, PD.ixD_t, PD.truD_n, PD.truD_b, PD.truD_i, PD.truD_l, PD.truD_t, PD.sliceD_l, PD.sliceD_t, PD.subD_i, PD.negD_i, PD.notD_b, PD.ltD_i, PD.leD_i, PD.gtD_i, PD.geD_i, PD.absD_i, PD.intD_i, PD.intD_b, PD.max2_i, PD.min2_i, PD.max3_i, PD.min3_i, PD.chn_e, PD.c_ch0_e, PD.c_ch1_e, PD.c_ch2_t, PD.c_ch2_f, PD.c_ch3_e, PD.lenD_l, PD.lenD_t, PD.listD_l, PD.listD_t, PD.tupleD_l, PD.tupleD_t, PD.listrevD_l, PD.iaddD_i, PD.addD_i, PD.mulD_i, PD.fdivD_i, PD.modD_i, PD.divmodD_i, PD.eqD_i, PD.neD_i, PD.isN_none, PD.isN_bool, PD.isN_int, PD.isN_str, PD.isN_list, PD.isN_tuple, PD.notN_none, PD.notN_bool, PD.notN_int, PD.notN_str, PD.notN_list, PD.notN_tuple, PD.eqD_b2, PD.neD_b2, PD.ix0, PD.ix1, PD.ix2, PD.ix3, PD.ix4, PD.ix5, PD.ixm1, PD.ixN30, PD.ixN31, PD.ixN32, Bool.false_eq_true, Bool.not_true, Bool.not_false, reduceCtorEq, decide_true, decide_false, Nat.reduceLT, Nat.reduceLeDiff, Nat.reduceEqDiff, Int.reduceLT, Int.reduceLE, Int.reduceToNat, Int.reduceNeg, Option.getD_some, Option.getD_none, and_self, and_true, true_and, PD.le_size, beq_self_eq_true, Bool.true_beq, Bool.false_beq, t__law_room_96, cc, List.length_map, e, hcat, e2]
  · unfold rar
    rw [hso, hsq, sar_f5, h1]
    have := isum_le8 fs hp2
    omega
theorem slants {v : Int} (h0 : 0 ≤ v) (h5 : v < 5) : ∃ s : Int, atI [PyData.int 0, .int 0, .int 0, .int 1, .int (-1)] v = some (.int s) ∧ s.natAbs ≤ 1 := by
  have : v = 0 ∨ v = 1 ∨ v = 2 ∨ v = 3 ∨ v = 4 := by omega
  rcases this with rfl | rfl | rfl | rfl | rfl
  · exact ⟨0, ix0, by decide⟩
  · exact ⟨0, ix1, by decide⟩
  · exact ⟨0, ix2, by decide⟩
  · exact ⟨1, ix3, by decide⟩
  · exact ⟨-1, ix4, by decide⟩
theorem room_sp {n : Nat} {c : List D} (hc : BoxOk n c) (hn : n ≤ 1000) : Wp (e__law_room c [.int 20]) (RoomPost (n + 100)) := by
  obtain ⟨_, e1, v1, c1, rfl, a1, b1, k1⟩ := draw (m := 5) hc (by omega) (by decide) (by decide)
  obtain ⟨s, hs, hs1⟩ := slants a1 b1
  obtain ⟨_, e2, v2, c2, rfl, a2, b2, k2⟩ := draw (m := 3) k1 (by omega) (by decide) (by decide)
  by_cases h2 : 0 < v2
  · obtain ⟨_, e3, v3, c3, rfl, a3, b3, k3⟩ := draw (m := 4) k2 (by omega) (by decide) (by decide)
    obtain ⟨_, e4, v4, c4, rfl, a4, b4, k4⟩ := draw (m := 3) k3 (by omega) (by decide) (by decide)
    obtain ⟨M, hM⟩ : ∃ M : Nat, 1 + v3 = (M : Int) := ⟨(1 + v3).toNat, by omega⟩
    obtain ⟨_, e5, ring, cells, c5, rfl, k5, g1, g2, g3, g4, g5, g6⟩ := columns_sp (M := M) (Q := 1 + v4) k4 (by omega) (by omega) (by omega) (by omega) (by omega)
    have hle : decide (((ring.map pt2).length : Int) ≤ 20) = true := decide_eq_true (by rw [List.length_map]; omega)
    obtain ⟨_, e6, v6, c6, rfl, a6, b6, k6⟩ := draw (m := 2) k5 (by omega) (by decide) (by decide)
    by_cases h6 : v6 = 0
    · obtain ⟨o, qs, c7, T, e7, r1, rs, r2, r3⟩ := room_pil (s := s) hs1 g1 g2 g3 g4 g5 g6 k6 (by omega)
      unfold ring2 at e5 e7
      subst h6
      simp -implicitDefEqProofs (disch := (first | assumption | (refine' PD.mulOk_sz ?a ?b ?c; (case a => (repeat' (first | assumption | exact PD.Sz.fmod (PD.Sz.lit (n := 64) (by decide)) (by decide) | exact PD.Sz.lit (n := 64) (by decide) | apply PD.Sz.mul | apply PD.Sz.add | apply PD.Sz.sub | apply PD.Sz.neg))); (case b => (repeat' (first | assumption | exact PD.Sz.fmod (PD.Sz.lit (n := 64) (by decide)) (by decide) | exact PD.Sz.lit (n := 64) (by decide) | apply PD.Sz.mul | apply PD.Sz.add | apply PD.Sz.sub | apply PD.Sz.neg))); (case c => decide)) | (exact PD.divOk_sz (PD.Sz.lit (n := 64) (by decide)) (by decide) (by decide)) | omega | (apply PD.lt_size; (first | decide | omega)))) only [PD.compD_nil, PD.compD_cons, PD.c_cp0_e, PD.c_cp1_t, PD.c_cp1_f, PD.c_cp2_e, PD.c_k0_e, PD.c_k1_t, PD.c_k1_f, PD.c_k2_e, PD.forD_nil, PD.forD_cons, PD.c_f1_e, PD.c_f2_nx, PD.c_f2_ct, PD.c_f2_bk, PD.c_f2_rt, ↓Option.bind_some, ↓reduceIte, PD.sCons_e, PD.sTup_e, PD.sLst_e, PD.bin_e, PD.un_e, PD.callD_e, PD.callI_e, PD.tru_e, PD.tand_e, PD.tor_e, PD.tnot_e, PD.vand_e, PD.vor_e, PD.sIf_e, PD.nl_e, PD.lenO_e, PD.truO_e, PD.ixO_e, PD.methO_e, PD.sSl_e, PD.oSome_e, PD.wS_e, PD.wR1_e, PD.wR2_e, PD.wE_e, PD.wZ_e, PD.sLc_e, PD.kSeq_e, PD.kDrop_e, PD.kSet_e, PD.kOwn_e, PD.kAsg_e, PD.kPar_e, PD.kPar3_e, PD.kIf_e, PD.kRet_e, PD.kRetO_e, PD.kFor_e, PD.kWhile_e, PD.c_ret_e, PD.c_retL_e, PD.c_retB_e, PD.c_sCons2_e, PD.c_sCons1_e, PD.c_tup_e, PD.c_lst_e, PD.c_bin2_e, PD.c_bin1_e, PD.c_un_e, PD.c_call_e, PD.c_callI3_e, PD.c_callI2_e, PD.c_callI_e, PD.c_tru_e, PD.c_and_t, PD.c_and_f, PD.c_or_t, PD.c_or_f, PD.c_not_e, PD.c_vand_t, PD.c_vand_f, PD.c_vor_t, PD.c_vor_f, PD.c_sif_t, PD.c_sif_f, PD.c_nl_e, PD.c_lenO_e, PD.c_truO_e, PD.c_ixO2_e, PD.c_ixO_e, PD.c_meth3_e, PD.c_meth2_e, PD.c_meth_e, PD.c_sl3_e, PD.c_sl2_e, PD.c_sl_e, PD.c_os_e, PD.c_wS_e, PD.c_wR1_e, PD.c_wR2_e, PD.c_wE_e, PD.c_wZ_l, PD.c_wZ_t, PD.c_lc2_e, PD.c_lc_e, PD.c_seq_nx, PD.c_seq_bk, PD.c_seq_ct, PD.c_seq_rt, PD.c_drop_e, PD.c_set_e, PD.c_own_e, PD.c_nx_e, PD.c_asg_e, PD.c_par_e, PD.c_par3_e, PD.c_if_t, PD.c_if_f, PD.c_rt_e, PD.c_rto_e, PD.c_for_e, PD.c_gO3_e, PD.c_gO2_e, PD.c_gO_e, PD.gO_e, PD.gN_e, PD.gsNil_e, PD.gsCons_e, PD.gT_e, PD.sNil_e, PD.sC_e, PD.oNone_e, PD.tYesD_e, PD.kNil_e, PD.kRetN_e, PD.kBk_e, PD.kCt_e, PD.kNever_e, PD.runP_e, PD.runI_e, PD.outP_nx, PD.outP_rt, PD.outI_nx, PD.outI_rt, PD.sV, PD.ownL, PD.ini, List.map_cons, List.map_nil, List.length_cons, List.length_nil, Nat.reduceSub, Nat.reduceAdd, Nat.sub_self, Nat.zero_add, List.replicate_succ, List.replicate_zero, List.append_nil, List.cons_append, List.nil_append, List.getElem?_cons_zero, List.getElem?_cons_succ, List.getElem?_nil, List.set_cons_zero, List.set_cons_succ, Option.bind_none, Option.bind_assoc, Option.map_some, PD.seqD_list, PD.seqD_tuple, PD.wipeD, PD.unwipe, PD.rng1_i, PD.appD_l, PD.ixD_l, PD.ixD_t, PD.truD_n, PD.truD_b, PD.truD_i, PD.truD_l, PD.truD_t, PD.sliceD_l, PD.sliceD_t, PD.subD_i, PD.negD_i, PD.notD_b, PD.ltD_i, PD.leD_i, PD.gtD_i, PD.geD_i, PD.absD_i, PD.intD_i, PD.intD_b, PD.max2_i, PD.min2_i, PD.max3_i, PD.min3_i, PD.chn_e, PD.c_ch0_e, PD.c_ch1_e, PD.c_ch2_t, PD.c_ch2_f, PD.c_ch3_e, PD.lenD_l, PD.lenD_t, PD.listD_l, PD.listD_t, PD.tupleD_l, PD.tupleD_t, PD.listrevD_l, PD.iaddD_i, PD.addD_i, PD.mulD_i, PD.fdivD_i, PD.modD_i, PD.divmodD_i, PD.eqD_i, PD.neD_i, PD.isN_none, PD.isN_bool, PD.isN_int, PD.isN_str, PD.isN_list, PD.isN_tuple, PD.notN_none, PD.notN_bool, PD.notN_int, PD.notN_str, PD.notN_list, PD.notN_tuple, PD.eqD_b2, PD.neD_b2, PD.ix0, PD.ix1, PD.ix2, PD.ix3, PD.ix4, PD.ix5, PD.ixm1, PD.ixN30, PD.ixN31, PD.ixN32, Bool.false_eq_true, Bool.not_true, Bool.not_false, reduceCtorEq, decide_true, decide_false, Nat.reduceLT, Nat.reduceLeDiff, Nat.reduceEqDiff, Int.reduceLT, Int.reduceLE, Int.reduceToNat, Int.reduceNeg, Option.getD_some, Option.getD_none, and_self, and_true, true_and, PD.le_size, beq_self_eq_true, Bool.true_beq, Bool.false_beq, e__law_room, m__law_room, e1, hs, e2, decide_eq_true h2, e3, e4, hM, e5, hle, e6, e7]
      exact wp_some ⟨o, qs, c7, rfl, r1, rs, r2, r3.mono (by omega)⟩
    · obtain ⟨o, qs, c7, T, e7, r1, rs, r2, r3⟩ := room_tail (s := s) (ring := ring) (x := some (ring2 cells)) hs1 (by omega) (by omega) (fun p hp => by have := g5 p hp; omega) k6 (by omega)
      have hbq : (v6 == 0) = false := by rw [beq_eq_false_iff_ne]; exact h6
      unfold ring2 at e5 e7
      simp -implicitDefEqProofs (disch := (first | assumption | (refine' PD.mulOk_sz ?a ?b ?c; (case a => (repeat' (first | assumption | exact PD.Sz.fmod (PD.Sz.lit (n := 64) (by decide)) (by decide) | exact PD.Sz.lit (n := 64) (by decide) | apply PD.Sz.mul | apply PD.Sz.add | apply PD.Sz.sub | apply PD.Sz.neg))); (case b => (repeat' (first | assumption | exact PD.Sz.fmod (PD.Sz.lit (n := 64) (by decide)) (by decide) | exact PD.Sz.lit (n := 64) (by decide) | apply PD.Sz.mul | apply PD.Sz.add | apply PD.Sz.sub | apply PD.Sz.neg))); (case c => decide)) | (exact PD.divOk_sz (PD.Sz.lit (n := 64) (by decide)) (by decide) (by decide)) | omega | (apply PD.lt_size; (first | decide | omega)))) only [PD.compD_nil, PD.compD_cons, PD.c_cp0_e, PD.c_cp1_t, PD.c_cp1_f, PD.c_cp2_e, PD.c_k0_e, PD.c_k1_t, PD.c_k1_f, PD.c_k2_e, PD.forD_nil, PD.forD_cons, PD.c_f1_e, PD.c_f2_nx, PD.c_f2_ct, PD.c_f2_bk, PD.c_f2_rt, ↓Option.bind_some, ↓reduceIte, PD.sCons_e, PD.sTup_e, PD.sLst_e, PD.bin_e, PD.un_e, PD.callD_e, PD.callI_e, PD.tru_e, PD.tand_e, PD.tor_e, PD.tnot_e, PD.vand_e, PD.vor_e, PD.sIf_e, PD.nl_e, PD.lenO_e, PD.truO_e, PD.ixO_e, PD.methO_e, PD.sSl_e, PD.oSome_e, PD.wS_e, PD.wR1_e, PD.wR2_e, PD.wE_e, PD.wZ_e, PD.sLc_e, PD.kSeq_e, PD.kDrop_e, PD.kSet_e, PD.kOwn_e, PD.kAsg_e, PD.kPar_e, PD.kPar3_e, PD.kIf_e, PD.kRet_e, PD.kRetO_e, PD.kFor_e, PD.kWhile_e, PD.c_ret_e, PD.c_retL_e, PD.c_retB_e, PD.c_sCons2_e, PD.c_sCons1_e, PD.c_tup_e, PD.c_lst_e, PD.c_bin2_e, PD.c_bin1_e, PD.c_un_e, PD.c_call_e, PD.c_callI3_e, PD.c_callI2_e, PD.c_callI_e, PD.c_tru_e, PD.c_and_t, PD.c_and_f, PD.c_or_t, PD.c_or_f, PD.c_not_e, PD.c_vand_t, PD.c_vand_f, PD.c_vor_t, PD.c_vor_f, PD.c_sif_t, PD.c_sif_f, PD.c_nl_e, PD.c_lenO_e, PD.c_truO_e, PD.c_ixO2_e, PD.c_ixO_e, PD.c_meth3_e, PD.c_meth2_e, PD.c_meth_e, PD.c_sl3_e, PD.c_sl2_e, PD.c_sl_e, PD.c_os_e, PD.c_wS_e, PD.c_wR1_e, PD.c_wR2_e, PD.c_wE_e, PD.c_wZ_l, PD.c_wZ_t, PD.c_lc2_e, PD.c_lc_e, PD.c_seq_nx, PD.c_seq_bk, PD.c_seq_ct, PD.c_seq_rt, PD.c_drop_e, PD.c_set_e, PD.c_own_e, PD.c_nx_e, PD.c_asg_e, PD.c_par_e, PD.c_par3_e, PD.c_if_t, PD.c_if_f, PD.c_rt_e, PD.c_rto_e, PD.c_for_e, PD.c_gO3_e, PD.c_gO2_e, PD.c_gO_e, PD.gO_e, PD.gN_e, PD.gsNil_e, PD.gsCons_e, PD.gT_e, PD.sNil_e, PD.sC_e, PD.oNone_e, PD.tYesD_e, PD.kNil_e, PD.kRetN_e, PD.kBk_e, PD.kCt_e, PD.kNever_e, PD.runP_e, PD.runI_e, PD.outP_nx, PD.outP_rt, PD.outI_nx, PD.outI_rt, PD.sV, PD.ownL, PD.ini, List.map_cons, List.map_nil, List.length_cons, List.length_nil, Nat.reduceSub, Nat.reduceAdd, Nat.sub_self, Nat.zero_add, List.replicate_succ, List.replicate_zero, List.append_nil, List.cons_append, List.nil_append, List.getElem?_cons_zero, List.getElem?_cons_succ, List.getElem?_nil, List.set_cons_zero, List.set_cons_succ, Option.bind_none, Option.bind_assoc, Option.map_some, PD.seqD_list, PD.seqD_tuple, PD.wipeD, PD.unwipe, PD.rng1_i, PD.appD_l, PD.ixD_l, PD.ixD_t, PD.truD_n, PD.truD_b, PD.truD_i, PD.truD_l, PD.truD_t, PD.sliceD_l, PD.sliceD_t, PD.subD_i, PD.negD_i, PD.notD_b, PD.ltD_i, PD.leD_i, PD.gtD_i, PD.geD_i, PD.absD_i, PD.intD_i, PD.intD_b, PD.max2_i, PD.min2_i, PD.max3_i, PD.min3_i, PD.chn_e, PD.c_ch0_e, PD.c_ch1_e, PD.c_ch2_t, PD.c_ch2_f, PD.c_ch3_e, PD.lenD_l, PD.lenD_t, PD.listD_l, PD.listD_t, PD.tupleD_l, PD.tupleD_t, PD.listrevD_l, PD.iaddD_i, PD.addD_i, PD.mulD_i, PD.fdivD_i, PD.modD_i, PD.divmodD_i, PD.eqD_i, PD.neD_i, PD.isN_none, PD.isN_bool, PD.isN_int, PD.isN_str, PD.isN_list, PD.isN_tuple, PD.notN_none, PD.notN_bool, PD.notN_int, PD.notN_str, PD.notN_list, PD.notN_tuple, PD.eqD_b2, PD.neD_b2, PD.ix0, PD.ix1, PD.ix2, PD.ix3, PD.ix4, PD.ix5, PD.ixm1, PD.ixN30, PD.ixN31, PD.ixN32, Bool.false_eq_true, Bool.not_true, Bool.not_false, reduceCtorEq, decide_true, decide_false, Nat.reduceLT, Nat.reduceLeDiff, Nat.reduceEqDiff, Int.reduceLT, Int.reduceLE, Int.reduceToNat, Int.reduceNeg, Option.getD_some, Option.getD_none, and_self, and_true, true_and, PD.le_size, beq_self_eq_true, Bool.true_beq, Bool.false_beq, e__law_room, m__law_room, e1, hs, e2, decide_eq_true h2, e3, e4, hM, e5, hle, e6, hbq, e7]
      exact wp_some ⟨o, qs, c7, rfl, r1, rs, r2, r3.mono (by omega)⟩
  · obtain ⟨_, e3, v3, c3, rfl, a3, b3, k3⟩ := draw (m := 14) k2 (by omega) (by decide) (by decide)
    obtain ⟨k, rfl⟩ : ∃ k : Nat, v3 = (k : Int) := ⟨v3.toNat, by omega⟩
    obtain ⟨ring, e4, g1, g2, g3⟩ := shape_sp (k := k) (by omega)
    obtain ⟨o, qs, c7, T, e7, r1, rs, r2, r3⟩ := room_tail (s := s) (ring := ring) (x := none) hs1 g1 (by omega) g3 k3 (by omega)
    simp -implicitDefEqProofs (disch := (first | assumption | (refine' PD.mulOk_sz ?a ?b ?c; (case a => (repeat' (first | assumption | exact PD.Sz.fmod (PD.Sz.lit (n := 64) (by decide)) (by decide) | exact PD.Sz.lit (n := 64) (by decide) | apply PD.Sz.mul | apply PD.Sz.add | apply PD.Sz.sub | apply PD.Sz.neg))); (case b => (repeat' (first | assumption | exact PD.Sz.fmod (PD.Sz.lit (n := 64) (by decide)) (by decide) | exact PD.Sz.lit (n := 64) (by decide) | apply PD.Sz.mul | apply PD.Sz.add | apply PD.Sz.sub | apply PD.Sz.neg))); (case c => decide)) | (exact PD.divOk_sz (PD.Sz.lit (n := 64) (by decide)) (by decide) (by decide)) | omega | (apply PD.lt_size; (first | decide | omega)))) only [PD.compD_nil, PD.compD_cons, PD.c_cp0_e, PD.c_cp1_t, PD.c_cp1_f, PD.c_cp2_e, PD.c_k0_e, PD.c_k1_t, PD.c_k1_f, PD.c_k2_e, PD.forD_nil, PD.forD_cons, PD.c_f1_e, PD.c_f2_nx, PD.c_f2_ct, PD.c_f2_bk, PD.c_f2_rt, ↓Option.bind_some, ↓reduceIte, PD.sCons_e, PD.sTup_e, PD.sLst_e, PD.bin_e, PD.un_e, PD.callD_e, PD.callI_e, PD.tru_e, PD.tand_e, PD.tor_e, PD.tnot_e, PD.vand_e, PD.vor_e, PD.sIf_e, PD.nl_e, PD.lenO_e, PD.truO_e, PD.ixO_e, PD.methO_e, PD.sSl_e, PD.oSome_e, PD.wS_e, PD.wR1_e, PD.wR2_e, PD.wE_e, PD.wZ_e, PD.sLc_e, PD.kSeq_e, PD.kDrop_e, PD.kSet_e, PD.kOwn_e, PD.kAsg_e, PD.kPar_e, PD.kPar3_e, PD.kIf_e, PD.kRet_e, PD.kRetO_e, PD.kFor_e, PD.kWhile_e, PD.c_ret_e, PD.c_retL_e, PD.c_retB_e, PD.c_sCons2_e, PD.c_sCons1_e, PD.c_tup_e, PD.c_lst_e, PD.c_bin2_e, PD.c_bin1_e, PD.c_un_e, PD.c_call_e, PD.c_callI3_e, PD.c_callI2_e, PD.c_callI_e, PD.c_tru_e, PD.c_and_t, PD.c_and_f, PD.c_or_t, PD.c_or_f, PD.c_not_e, PD.c_vand_t, PD.c_vand_f, PD.c_vor_t, PD.c_vor_f, PD.c_sif_t, PD.c_sif_f, PD.c_nl_e, PD.c_lenO_e, PD.c_truO_e, PD.c_ixO2_e, PD.c_ixO_e, PD.c_meth3_e, PD.c_meth2_e, PD.c_meth_e, PD.c_sl3_e, PD.c_sl2_e, PD.c_sl_e, PD.c_os_e, PD.c_wS_e, PD.c_wR1_e, PD.c_wR2_e, PD.c_wE_e, PD.c_wZ_l, PD.c_wZ_t, PD.c_lc2_e, PD.c_lc_e, PD.c_seq_nx, PD.c_seq_bk, PD.c_seq_ct, PD.c_seq_rt, PD.c_drop_e, PD.c_set_e, PD.c_own_e, PD.c_nx_e, PD.c_asg_e, PD.c_par_e, PD.c_par3_e, PD.c_if_t, PD.c_if_f, PD.c_rt_e, PD.c_rto_e, PD.c_for_e, PD.c_gO3_e, PD.c_gO2_e, PD.c_gO_e, PD.gO_e, PD.gN_e, PD.gsNil_e, PD.gsCons_e, PD.gT_e, PD.sNil_e, PD.sC_e, PD.oNone_e, PD.tYesD_e, PD.kNil_e, PD.kRetN_e, PD.kBk_e, PD.kCt_e, PD.kNever_e, PD.runP_e, PD.runI_e, PD.outP_nx, PD.outP_rt, PD.outI_nx, PD.outI_rt, PD.sV, PD.ownL, PD.ini, List.map_cons, List.map_nil, List.length_cons, List.length_nil, Nat.reduceSub, Nat.reduceAdd, Nat.sub_self, Nat.zero_add, List.replicate_succ, List.replicate_zero, List.append_nil, List.cons_append, List.nil_append, List.getElem?_cons_zero, List.getElem?_cons_succ, List.getElem?_nil, List.set_cons_zero, List.set_cons_succ, Option.bind_none, Option.bind_assoc, Option.map_some, PD.seqD_list, PD.seqD_tuple, PD.wipeD, PD.unwipe, PD.rng1_i, PD.appD_l, PD.ixD_l, PD.ixD_t, PD.truD_n, PD.truD_b, PD.truD_i, PD.truD_l, PD.truD_t, PD.sliceD_l, PD.sliceD_t, PD.subD_i, PD.negD_i, PD.notD_b, PD.ltD_i, PD.leD_i, PD.gtD_i, PD.geD_i, PD.absD_i, PD.intD_i, PD.intD_b, PD.max2_i, PD.min2_i, PD.max3_i, PD.min3_i, PD.chn_e, PD.c_ch0_e, PD.c_ch1_e, PD.c_ch2_t, PD.c_ch2_f, PD.c_ch3_e, PD.lenD_l, PD.lenD_t, PD.listD_l, PD.listD_t, PD.tupleD_l, PD.tupleD_t, PD.listrevD_l, PD.iaddD_i, PD.addD_i, PD.mulD_i, PD.fdivD_i, PD.modD_i, PD.divmodD_i, PD.eqD_i, PD.neD_i, PD.isN_none, PD.isN_bool, PD.isN_int, PD.isN_str, PD.isN_list, PD.isN_tuple, PD.notN_none, PD.notN_bool, PD.notN_int, PD.notN_str, PD.notN_list, PD.notN_tuple, PD.eqD_b2, PD.neD_b2, PD.ix0, PD.ix1, PD.ix2, PD.ix3, PD.ix4, PD.ix5, PD.ixm1, PD.ixN30, PD.ixN31, PD.ixN32, Bool.false_eq_true, Bool.not_true, Bool.not_false, reduceCtorEq, decide_true, decide_false, Nat.reduceLT, Nat.reduceLeDiff, Nat.reduceEqDiff, Int.reduceLT, Int.reduceLE, Int.reduceToNat, Int.reduceNeg, Option.getD_some, Option.getD_none, and_self, and_true, true_and, PD.le_size, beq_self_eq_true, Bool.true_beq, Bool.false_beq, e__law_room, m__law_room, e1, hs, e2, decide_eq_false h2, e3, e4, e7]
    exact wp_some ⟨o, qs, c7, rfl, r1, rs, r2, r3.mono (by omega)⟩
end W

set_option maxHeartbeats 2000000
namespace W
open PySem L2 PD
/-! ### data that can be printed -/
structure Nice (k w : Nat) (d : D) : Prop where
  lay : d.canLay0 = true
  shw : d.showable = true
  sho : d.intsShort 13 = true
  dep : d.depth ≤ k
  wt : d.weight ≤ w
theorem Nice.mono {k w k' w' : Nat} {d : D} (h : Nice k w d) (hk : k ≤ k') (hw : w ≤ w') : Nice k' w' d := ⟨h.lay, h.shw, h.sho, Nat.le_trans h.dep hk, Nat.le_trans h.wt hw⟩
theorem log2_le {n k : Nat} (h : n < 2 ^ k) (hk : 0 < k) : n.log2 < k := by
  by_cases h0 : n = 0
  · subst h0; simpa using hk
  · exact (Nat.log2_lt h0).mpr h
theorem nice_int {i : Int} (h : i.natAbs ≤ 100000) : Nice 0 20 (.int i) := by
  have l := log2_le (n := i.natAbs) (k := 17) (by omega) (by decide)
  refine ⟨rfl, ?_, ?_, Nat.le_refl _, ?_⟩
  · show decide (i.natAbs.log2 < 1920) = true
    exact decide_eq_true (by omega)
  · show decide ((PyData.shown (.int i)).length ≤ 13) = true
    exact decide_eq_true (PyData.shown_int_le (by omega))
  · show (if i == 0 then 0 else i.natAbs.log2 + 1) ≤ 20
    split <;> omega
theorem nice_all {k w : Nat} : ∀ ds : List D, (∀ d ∈ ds, Nice k w d) → PyData.canLayAll0 ds = true ∧ PyData.showableAll ds = true ∧ PyData.intsShortAll 13 ds = true ∧ PyData.depthAll ds ≤ k ∧ PyData.weightAll ds ≤ (w + 1) * ds.length
  | [], _ => ⟨rfl, rfl, rfl, Nat.zero_le _, Nat.zero_le _⟩
  | d :: ds, h => by
    obtain ⟨h1, h2, h3, h4, h5⟩ := nice_all ds fun e he => h e (List.mem_cons_of_mem _ he)
    have hd := h d List.mem_cons_self
    refine ⟨?_, ?_, ?_, ?_, ?_⟩
    · show (d.canLay0 && PyData.canLayAll0 ds) = true
      rw [hd.lay, h1]; rfl
    · show (d.showable && PyData.showableAll ds) = true
      rw [hd.shw, h2]; rfl
    · show (d.intsShort 13 && PyData.intsShortAll 13 ds) = true
      rw [hd.sho, h3]; rfl
    · show max d.depth (PyData.depthAll ds) ≤ k
      exact Nat.max_le.mpr ⟨hd.dep, h4⟩
    · show d.weight + 1 + PyData.weightAll ds ≤ (w + 1) * (ds.length + 1)
      rw [Nat.mul_add, Nat.mul_one]
      have := hd.wt
      omega
theorem nice_tup {k w n : Nat} {ds : List D} (h : ∀ d ∈ ds, Nice k w d) (hl : ds.length ≤ n) : Nice (k + 1) ((w + 1) * n) (.tuple ds) := by
  obtain ⟨h1, h2, h3, h4, h5⟩ := nice_all ds h
  exact ⟨h1, h2, h3, Nat.succ_le_succ h4, Nat.le_trans h5 (Nat.mul_le_mul_left _ hl)⟩
theorem Nice.can {k w : Nat} {d : D} (h : Nice k w d) (hk : k ≤ 16) (hw : w ≤ 2 ^ 20) : canStr d :=
  ⟨h.shw, PyData.hasDict_of_canLay d h.lay, Nat.le_trans h.dep hk, PyData.shown_fits (B := 13) (by decide) (by decide) (PyData.leavesShort_of_canLay0 13 d h.lay h.sho) (Nat.le_trans h.wt hw)⟩
theorem nice_pt {p : IP} (h : BP p) : Nice 1 63 (pt3 p) := nice_tup (n := 3) (w := 20) (fun d hd => by
  rcases List.mem_cons.mp hd with rfl | hd
  · exact nice_int h.1
  rcases List.mem_cons.mp hd with rfl | hd
  · exact nice_int h.2
  rw [List.mem_singleton.mp hd]
  exact nice_int (by decide)) (Nat.le_refl 3)
theorem nice_ring {ps : List IP} (h : RingOk ps) : Nice 2 6400 (ringD ps) := nice_tup (n := 100) (w := 63) (fun d hd => by
  obtain ⟨p, hp, rfl⟩ := List.mem_map.mp hd
  exact nice_pt (h.bd p hp)) (by rw [List.length_map]; exact h.len)
theorem nice_room {o : List IP} {qs : List (List IP)} (h : RoomOk o qs) : Nice 4 (64011 * 2) (roomD o qs) := nice_tup (n := 2) (w := 64010) (fun d hd => by
  rcases List.mem_cons.mp hd with rfl | hd
  · exact (nice_ring h.o).mono (by decide) (by decide)
  rw [List.mem_singleton.mp hd]
  exact nice_tup (n := 10) (w := 6400) (fun d hd => by
    obtain ⟨q, hq, rfl⟩ := List.mem_map.mp hd
    exact nice_ring (h.q q hq)) (by rw [List.length_map]; exact h.len)) (Nat.le_refl 2)
theorem str_room {o : List IP} {qs : List (List IP)} (h : RoomOk o qs) : strD [roomD o qs] = some (.str (PyData.shown (roomD o qs))) := if_pos ((nice_room h).can (by decide) (by decide))
end W

set_option maxHeartbeats 2000000
namespace W
open PySem L2 PD
/-! ### sides, rings, walls, corners -/
def c_wEQ : List D × DSt → Option (List D × DSt) := fun r => match r.1 with | [.list ds] => some (enumL ds, r.2) | [.tuple ds] => some (enumL ds, r.2) | _ => none
theorem wEQ_e (fs : SA) (t : DSt) : wEQ fs t = (fs t).bind c_wEQ := rfl
theorem c_wEQ_t (ds : List D) (t : DSt) : c_wEQ ([.tuple ds], t) = some (enumL ds, t) := rfl
theorem enumL_map (ps : List IP) (f : IP → D) : enumL (ps.map f) = (List.range ps.length).map fun k => .tuple [.int (k : Nat), f (ps[k]!)] := by
  refine List.ext_getElem? fun k => ?_
  unfold enumL
  rw [List.getElem?_map, List.getElem?_map, List.length_map]
  by_cases hk : k < ps.length
  · have hz : (((List.range ps.length).map fun i => PyData.int (i : Nat)).zip (ps.map f))[k]? = some (PyData.int (k : Nat), f ps[k]) := List.getElem?_zip_eq_some.mpr ⟨by rw [List.getElem?_map, List.getElem?_range hk]; rfl, by rw [List.getElem?_map, List.getElem?_eq_getElem hk]; rfl⟩
    rw [List.getElem?_range hk, hz]
    rw [Option.map_some, Option.map_some, getElem!_pos ps k hk]
  · rw [List.getElem?_eq_none (by rw [List.length_zip, List.length_map, List.length_map, List.length_range]; omega), List.getElem?_eq_none (by rw [List.length_range]; omega)]
    rfl
theorem sides_of_sp (p : IP) (r : List IP) (hl : (p :: r).length ≤ 100) : e_sides_of [ringD (p :: r)] = some (.list ((prs p (r ++ [p])).map prD)) := by
  rw [List.length_cons] at hl
  have hr : ringD (p :: r) = .tuple ((p :: r).map pt3) := rfl
  have hen := enumL_map (p :: r) pt3
  rw [List.length_cons] at hen
  obtain ⟨L, hL⟩ : ∃ L, L = (p :: r).map pt3 := ⟨_, rfl⟩
  have hlen : L.length = r.length + 1 := by rw [hL, List.length_map, List.length_cons]
  rw [← hL] at hen
  have hout : (List.range (r.length + 1)).map (fun k => prD ((prs p (r ++ [p]))[k]!)) = (prs p (r ++ [p])).map prD := by
    refine List.ext_getElem? fun k => ?_
    rw [List.getElem?_map, List.getElem?_map]
    by_cases hk : k < r.length + 1
    · rw [List.getElem?_range hk]
      have hk2 : k < (prs p (r ++ [p])).length := by rw [prs_len, List.length_append, List.length_singleton]; exact hk
      rw [List.getElem?_eq_getElem hk2, Option.map_some, Option.map_some, getElem!_pos (prs p (r ++ [p])) k hk2]
    · rw [List.getElem?_eq_none (by rw [List.length_range]; omega), List.getElem?_eq_none (by rw [prs_len, List.length_append, List.length_singleton]; omega)]; rfl
  have c1 : compD [1, 2] (gT (gsCons (gN 1) (gsCons (gN 2) gsNil)) 2) tYesD (sTup (sCons (sV 2) (sCons (bin ixD (sV 0) (bin modD (bin addD (sV 1) (sC (.int 1))) (callD lenD (sCons (sV 0) sNil)))) sNil))) (enumL L) [some (.tuple L), none, none] [] = some ((prs p (r ++ [p])).map prD, [some (.tuple L), none, none]) := by
    rw [← hout, hen]
    refine comp_pure (fun k : Nat => PyData.tuple [.int (k : Nat), pt3 ((p :: r)[k]!)]) (fun k => prD ((prs p (r ++ [p]))[k]!)) _ _ [] (by rw [List.length_nil, List.length_range]; omega) fun k hk => ?_
    have hk := List.mem_range.mp hk
    have hk2 : k < (prs p (r ++ [p])).length := by rw [prs_len, List.length_append, List.length_singleton]; exact hk
    have hg := prs_get (r ++ [p]) p k (by rw [List.length_append, List.length_singleton]; exact hk)
    rw [List.getElem?_eq_getElem hk2] at hg
    have hg := Option.some.inj hg
    have i2 : atI L (((k : Int) + 1).fmod (((r.length + 1 : Nat) : Int))) = some (pt3 ((r ++ [p])[k]'(by rw [List.length_append, List.length_singleton]; exact hk))) := by
      rw [Int.fmod_eq_emod_of_nonneg _ (by omega), hL]
      by_cases hk3 : k < r.length
      · have : ((k : Int) + 1) % ((r.length + 1 : Nat) : Int) = ((k + 1 : Nat) : Int) := by rw [Int.emod_eq_of_lt (by omega) (by omega)]; omega
        rw [this, atI_map (by rw [List.length_cons]; omega) pt3, List.getElem_append_left hk3]
        rfl
      · have hk4 : k = r.length := by omega
        have : ((k : Int) + 1) % ((r.length + 1 : Nat) : Int) = ((0 : Nat) : Int) := by rw [show ((k : Int) + 1) = ((r.length + 1 : Nat) : Int) by omega, Int.emod_self]; rfl
        rw [this, atI_map (by rw [List.length_cons]; omega) pt3]
        congr 2
        subst hk4
        rw [List.getElem_append_right (by omega)]
        simp
    have hz : ((r.length + 1 : Nat) : Int) ≠ 0 := by omega
    rw [getElem!_pos (p :: r) k (by rw [List.length_cons]; exact hk)]
    simp -implicitDefEqProofs (disch := (first | assumption | (refine' PD.mulOk_sz ?a ?b ?c; (case a => (repeat' (first | assumption | exact PD.Sz.fmod (PD.Sz.lit (n := 64) (by decide)) (by decide) | exact PD.Sz.lit (n := 64) (by decide) | apply PD.Sz.mul | apply PD.Sz.add | apply PD.Sz.sub | apply PD.Sz.neg))); (case b => (repeat' (first | assumption | exact PD.Sz.fmod (PD.Sz.lit (n := 64) (by decide)) (by decide) | exact PD.Sz.lit (n := 64) (by decide) | apply PD.Sz.mul | apply PD.Sz.add | apply PD.Sz.sub | apply PD.Sz.neg))); (case c => decide)) | (exact PD.divOk_sz (PD.Sz.lit (n := 64) (by decide)) (by decide) (by decide)) | omega | (apply PD.lt_size; (first | decide | omega)))) only [PD.compD_nil, PD.compD_cons, PD.c_cp0_e, PD.c_cp1_t, PD.c_cp1_f, PD.c_cp2_e, PD.c_k0_e, PD.c_k1_t, PD.c_k1_f, PD.c_k2_e, PD.forD_nil, PD.forD_cons, PD.c_f1_e, PD.c_f2_nx, PD.c_f2_ct, PD.c_f2_bk, PD.c_f2_rt, ↓Option.bind_some, ↓reduceIte, PD.sCons_e, PD.sTup_e, PD.sLst_e, PD.bin_e, PD.un_e, PD.callD_e, PD.callI_e, PD.tru_e, PD.tand_e, PD.tor_e, PD.tnot_e, PD.vand_e, PD.vor_e, PD.sIf_e, PD.nl_e, PD.lenO_e, PD.truO_e, PD.ixO_e, PD.methO_e, PD.sSl_e, PD.oSome_e, PD.wS_e, PD.wR1_e, PD.wR2_e, PD.wE_e, PD.wZ_e, PD.sLc_e, PD.kSeq_e, PD.kDrop_e, PD.kSet_e, PD.kOwn_e, PD.kAsg_e, PD.kPar_e, PD.kPar3_e, PD.kIf_e, PD.kRet_e, PD.kRetO_e, PD.kFor_e, PD.kWhile_e, PD.c_ret_e, PD.c_retL_e, PD.c_retB_e, PD.c_sCons2_e, PD.c_sCons1_e, PD.c_tup_e, PD.c_lst_e, PD.c_bin2_e, PD.c_bin1_e, PD.c_un_e, PD.c_call_e, PD.c_callI3_e, PD.c_callI2_e, PD.c_callI_e, PD.c_tru_e, PD.c_and_t, PD.c_and_f, PD.c_or_t, PD.c_or_f, PD.c_not_e, PD.c_vand_t, PD.c_vand_f, PD.c_vor_t, PD.c_vor_f, PD.c_sif_t, PD.c_sif_f, PD.c_nl_e, PD.c_lenO_e, PD.c_truO_e, PD.c_ixO2_e, PD.c_ixO_e, PD.c_meth3_e, PD.c_meth2_e, PD.c_meth_e, PD.c_sl3_e, PD.c_sl2_e, PD.c_sl_e, PD.c_os_e, PD.c_wS_e, PD.c_wR1_e, PD.c_wR2_e, PD.c_wE_e, PD.c_wZ_l, PD.c_wZ_t, PD.c_lc2_e, PD.c_lc_e, PD.c_seq_nx, PD.c_seq_bk, PD.c_seq_ct, PD.c_seq_rt, PD.c_drop_e, PD.c_set_e, PD.c_own_e, PD.c_nx_e, PD.c_asg_e, PD.c_par_e, PD.c_par3_e, PD.c_if_t, PD.c_if_f, PD.c_rt_e, PD.c_rto_e, PD.c_for_e, PD.c_gO3_e, PD.c_gO2_e, PD.c_gO_e, PD.gO_e, PD.gN_e, PD.gsNil_e, PD.gsCons_e, PD.gT_e, PD.sNil_e, PD.sC_e, PD.oNone_e, PD.tYesD_e, PD.kNil_e, PD.kRetN_e, PD.kBk_e, PD.kCt_e, PD.kNever_e, PD.runP_e, PD.runI_e, PD.outP_nx, PD.outP_rt, PD.outI_nx, PD.outI_rt, PD.sV, PD.ownL, PD.ini, List.map_cons, List.map_nil, List.length_cons, List.length_nil, Nat.reduceSub, Nat.reduceAdd, Nat.sub_self, Nat.zero_add, List.replicate_succ, List.replicate_zero, List.append_nil, List.cons_append, List.nil_append, List.getElem?_cons_zero, List.getElem?_cons_succ, List.getElem?_nil, List.set_cons_zero, List.set_cons_succ, Option.bind_none, Option.bind_assoc, Option.map_some, PD.seqD_list, PD.seqD_tuple, PD.wipeD, PD.unwipe, PD.rng1_i, PD.appD_l, PD.ixD_l, PD.ixD_t, PD.truD_n, PD.truD_b, PD.truD_i, PD.truD_l, PD.truD_t, PD.sliceD_l, PD.sliceD_t, PD.subD_i, PD.negD_i, PD.notD_b, PD.ltD_i, PD.leD_i, PD.gtD_i, PD.geD_i, PD.absD_i, PD.intD_i, PD.intD_b, PD.max2_i, PD.min2_i, PD.max3_i, PD.min3_i, PD.chn_e, PD.c_ch0_e, PD.c_ch1_e, PD.c_ch2_t, PD.c_ch2_f, PD.c_ch3_e, PD.lenD_l, PD.lenD_t, PD.listD_l, PD.listD_t, PD.tupleD_l, PD.tupleD_t, PD.listrevD_l, PD.iaddD_i, PD.addD_i, PD.mulD_i, PD.fdivD_i, PD.modD_i, PD.divmodD_i, PD.eqD_i, PD.neD_i, PD.isN_none, PD.isN_bool, PD.isN_int, PD.isN_str, PD.isN_list, PD.isN_tuple, PD.notN_none, PD.notN_bool, PD.notN_int, PD.notN_str, PD.notN_list, PD.notN_tuple, PD.eqD_b2, PD.neD_b2, PD.ix0, PD.ix1, PD.ix2, PD.ix3, PD.ix4, PD.ix5, PD.ixm1, PD.ixN30, PD.ixN31, PD.ixN32, Bool.false_eq_true, Bool.not_true, Bool.not_false, reduceCtorEq, decide_true, decide_false, Nat.reduceLT, Nat.reduceLeDiff, Nat.reduceEqDiff, Int.reduceLT, Int.reduceLE, Int.reduceToNat, Int.reduceNeg, Option.getD_some, Option.getD_none, and_self, and_true, true_and, PD.le_size, beq_self_eq_true, Bool.true_beq, Bool.false_beq, hlen, i2]
    refine wp_some ⟨?_, rfl⟩
    dsimp only
    rw [getElem!_pos (prs p (r ++ [p])) k hk2, hg]
    congr 2
    dsimp only
    congr 1
    cases k with
    | zero => rfl
    | succ j =>
      have hj : j < r.length := by omega
      rw [List.getElem_cons_succ, List.getElem_cons_succ, List.getElem_append_left hj]
  rw [hr, ← hL]
  simp -implicitDefEqProofs (disch := (first | assumption | (refine' PD.mulOk_sz ?a ?b ?c; (case a => (repeat' (first | assumption | exact PD.Sz.fmod (PD.Sz.lit (n := 64) (by decide)) (by decide) | exact PD.Sz.lit (n := 64) (by decide) | apply PD.Sz.mul | apply PD.Sz.add | apply PD.Sz.sub | apply PD.Sz.neg))); (case b => (repeat' (first | assumption | exact PD.Sz.fmod (PD.Sz.lit (n := 64) (by decide)) (by decide) | exact PD.Sz.lit (n := 64) (by decide) | apply PD.Sz.mul | apply PD.Sz.add | apply PD.Sz.sub | apply PD.Sz.neg))); (case c => decide)) | (exact PD.divOk_sz (PD.Sz.lit (n := 64) (by decide)) (by decide) (by decide)) | omega | (apply PD.lt_size; (first | decide | omega)))) only [PD.compD_nil, PD.compD_cons, PD.c_cp0_e, PD.c_cp1_t, PD.c_cp1_f, PD.c_cp2_e, PD.c_k0_e, PD.c_k1_t, PD.c_k1_f, PD.c_k2_e, PD.forD_nil, PD.forD_cons, PD.c_f1_e, PD.c_f2_nx, PD.c_f2_ct, PD.c_f2_bk, PD.c_f2_rt, ↓Option.bind_some, ↓reduceIte, PD.sCons_e, PD.sTup_e, PD.sLst_e, PD.bin_e, PD.un_e, PD.callD_e, PD.callI_e, PD.tru_e, PD.tand_e, PD.tor_e, PD.tnot_e, PD.vand_e, PD.vor_e, PD.sIf_e, PD.nl_e, PD.lenO_e, PD.truO_e, PD.ixO_e, PD.methO_e, PD.sSl_e, PD.oSome_e, PD.wS_e, PD.wR1_e, PD.wR2_e, PD.wE_e, PD.wZ_e, PD.sLc_e, PD.kSeq_e, PD.kDrop_e, PD.kSet_e, PD.kOwn_e, PD.kAsg_e, PD.kPar_e, PD.kPar3_e, PD.kIf_e, PD.kRet_e, PD.kRetO_e, PD.kFor_e, PD.kWhile_e, PD.c_ret_e, PD.c_retL_e, PD.c_retB_e, PD.c_sCons2_e, PD.c_sCons1_e, PD.c_tup_e, PD.c_lst_e, PD.c_bin2_e, PD.c_bin1_e, PD.c_un_e, PD.c_call_e, PD.c_callI3_e, PD.c_callI2_e, PD.c_callI_e, PD.c_tru_e, PD.c_and_t, PD.c_and_f, PD.c_or_t, PD.c_or_f, PD.c_not_e, PD.c_vand_t, PD.c_vand_f, PD.c_vor_t, PD.c_vor_f, PD.c_sif_t, PD.c_sif_f, PD.c_nl_e, PD.c_lenO_e, PD.c_truO_e, PD.c_ixO2_e, PD.c_ixO_e, PD.c_meth3_e, PD.c_meth2_e, PD.c_meth_e, PD.c_sl3_e, PD.c_sl2_e, PD.c_sl_e, PD.c_os_e, PD.c_wS_e, PD.c_wR1_e, PD.c_wR2_e, PD.c_wE_e, PD.c_wZ_l, PD.c_wZ_t, PD.c_lc2_e, PD.c_lc_e, PD.c_seq_nx, PD.c_seq_bk, PD.c_seq_ct, PD.c_seq_rt, PD.c_drop_e, PD.c_set_e, PD.c_own_e, PD.c_nx_e, PD.c_asg_e, PD.c_par_e, PD.c_par3_e, PD.c_if_t, PD.c_if_f, PD.c_rt_e, PD.c_rto_e, PD.c_for_e, PD.c_gO3_e, PD.c_gO2_e, PD.c_gO_e, PD.gO_e, PD.gN_e, PD.gsNil_e, PD.gsCons_e, PD.gT_e, PD.sNil_e, PD.sC_e, PD.oNone_e, PD.tYesD_e, PD.kNil_e, PD.kRetN_e, PD.kBk_e, PD.kCt_e, PD.kNever_e, PD.runP_e, PD.runI_e, PD.outP_nx, PD.outP_rt, PD.outI_nx, PD.outI_rt, PD.sV, PD.ownL, PD.ini, List.map_cons, List.map_nil, List.length_cons, List.length_nil, Nat.reduceSub, Nat.reduceAdd, Nat.sub_self, Nat.zero_add, List.replicate_succ, List.replicate_zero, List.append_nil, List.cons_append, List.nil_append, List.getElem?_cons_zero, List.getElem?_cons_succ, List.getElem?_nil, List.set_cons_zero, List.set_cons_succ, Option.bind_none, Option.bind_assoc, Option.map_some, PD.seqD_list, PD.seqD_tuple, PD.wipeD, PD.unwipe, PD.rng1_i, PD.appD_l, PD.ixD_l, PD.ixD_t, PD.truD_n, PD.truD_b, PD.truD_i, PD.truD_l, PD.truD_t, PD.sliceD_l, PD.sliceD_t, PD.subD_i, PD.negD_i, PD.notD_b, PD.ltD_i, PD.leD_i, PD.gtD_i, PD.geD_i, PD.absD_i, PD.intD_i, PD.intD_b, PD.max2_i, PD.min2_i, PD.max3_i, PD.min3_i, PD.chn_e, PD.c_ch0_e, PD.c_ch1_e, PD.c_ch2_t, PD.c_ch2_f, PD.c_ch3_e, PD.lenD_l, PD.lenD_t, PD.listD_l, PD.listD_t, PD.tupleD_l, PD.tupleD_t, PD.listrevD_l, PD.iaddD_i, PD.addD_i, PD.mulD_i, PD.fdivD_i, PD.modD_i, PD.divmodD_i, PD.eqD_i, PD.neD_i, PD.isN_none, PD.isN_bool, PD.isN_int, PD.isN_str, PD.isN_list, PD.isN_tuple, PD.notN_none, PD.notN_bool, PD.notN_int, PD.notN_str, PD.notN_list, PD.notN_tuple, PD.eqD_b2, PD.neD_b2, PD.ix0, PD.ix1, PD.ix2, PD.ix3, PD.ix4, PD.ix5, PD.ixm1, PD.ixN30, PD.ixN31, PD.ixN32, Bool.false_eq_true, Bool.not_true, Bool.not_false, reduceCtorEq, decide_true, decide_false, Nat.reduceLT, Nat.reduceLeDiff, Nat.reduceEqDiff, Int.reduceLT, Int.reduceLE, Int.reduceToNat, Int.reduceNeg, Option.getD_some, Option.getD_none, and_self, and_true, true_and, PD.le_size, beq_self_eq_true, Bool.true_beq, Bool.false_beq, e_sides_of, m_sides_of, wEQ_e, c_wEQ_t, c1]
end W

set_option maxHeartbeats 2000000
namespace W
open PySem L2 PD
theorem rings_of_sp {o : List IP} {qs : List (List IP)} (h : qs.length ≤ 10) : e_rings_of [roomD o qs] = some (.list ((o :: qs).map ringD)) := by
  have ha : addD (.list [ringD o]) (.list (qs.map ringD)) = some (.list (ringD o :: qs.map ringD)) := addD_l (by rw [List.length_singleton, List.length_map, sizeLine_eq]; omega)
  have hr : roomD o qs = .tuple [ringD o, .tuple (qs.map ringD)] := rfl
  rw [hr]
  simp -implicitDefEqProofs (disch := (first | assumption | (refine' PD.mulOk_sz ?a ?b ?c; (case a => (repeat' (first | assumption | exact PD.Sz.fmod (PD.Sz.lit (n := 64) (by decide)) (by decide) | exact PD.Sz.lit (n := 64) (by decide) | apply PD.Sz.mul | apply PD.Sz.add | apply PD.Sz.sub | apply PD.Sz.neg))); (case b => (repeat' (first | assumption | exact PD.Sz.fmod (PD.Sz.lit (n := 64) (by decide)) (by decide) | exact PD.Sz.lit (n := 64) (by decide) | apply PD.Sz.mul | apply PD.Sz.add | apply PD.Sz.sub | apply PD.Sz.neg))); (case c => decide)) | (exact PD.divOk_sz (PD.Sz.lit (n := 64) (by decide)) (by decide) (by decide)) | omega | (apply PD.lt_size; (first | decide | omega)))) only [PD.compD_nil, PD.compD_cons, PD.c_cp0_e, PD.c_cp1_t, PD.c_cp1_f, PD.c_cp2_e, PD.c_k0_e, PD.c_k1_t, PD.c_k1_f, PD.c_k2_e, PD.forD_nil, PD.forD_cons, PD.c_f1_e, PD.c_f2_nx, PD.c_f2_ct, PD.c_f2_bk, PD.c_f2_rt, ↓Option.bind_some, ↓reduceIte, PD.sCons_e, PD.sTup_e, PD.sLst_e, PD.bin_e, PD.un_e, PD.callD_e, PD.callI_e, PD.tru_e, PD.tand_e, PD.tor_e, PD.tnot_e, PD.vand_e, PD.vor_e, PD.sIf_e, PD.nl_e, PD.lenO_e, PD.truO_e, PD.ixO_e, PD.methO_e, PD.sSl_e, PD.oSome_e, PD.wS_e, PD.wR1_e, PD.wR2_e, PD.wE_e, PD.wZ_e, PD.sLc_e, PD.kSeq_e, PD.kDrop_e, PD.kSet_e, PD.kOwn_e, PD.kAsg_e, PD.kPar_e, PD.kPar3_e, PD.kIf_e, PD.kRet_e, PD.kRetO_e, PD.kFor_e, PD.kWhile_e, PD.c_ret_e, PD.c_retL_e, PD.c_retB_e, PD.c_sCons2_e, PD.c_sCons1_e, PD.c_tup_e, PD.c_lst_e, PD.c_bin2_e, PD.c_bin1_e, PD.c_un_e, PD.c_call_e, PD.c_callI3_e, PD.c_callI2_e, PD.c_callI_e, PD.c_tru_e, PD.c_and_t, PD.c_and_f, PD.c_or_t, PD.c_or_f, PD.c_not_e, PD.c_vand_t, PD.c_vand_f, PD.c_vor_t, PD.c_vor_f, PD.c_sif_t, PD.c_sif_f, PD.c_nl_e, PD.c_lenO_e, PD.c_truO_e, PD.c_ixO2_e, PD.c_ixO_e, PD.c_meth3_e, PD.c_meth2_e, PD.c_meth_e, PD.c_sl3_e, PD.c_sl2_e, PD.c_sl_e, PD.c_os_e, PD.c_wS_e, PD.c_wR1_e, PD.c_wR2_e, PD.c_wE_e, PD.c_wZ_l, PD.c_wZ_t, PD.c_lc2_e, PD.c_lc_e, PD.c_seq_nx, PD.c_seq_bk, PD.c_seq_ct, PD.c_seq_rt, PD.c_drop_e, PD.c_set_e, PD.c_own_e, PD.c_nx_e, PD.c_asg_e, PD.c_par_e, PD.c_par3_e, PD.c_if_t, PD.c_if_f, PD.c_rt_e, PD.c_rto_e, PD.c_for_e, PD.c_gO3_e, PD.c_gO2_e, PD.c_gO_e, PD.gO_e, PD.gN_e, PD.gsNil_e, PD.gsCons_e, PD.gT_e, PD.sNil_e, PD.sC_e, PD.oNone_e, PD.tYesD_e, PD.kNil_e, PD.kRetN_e, PD.kBk_e, PD.kCt_e, PD.kNever_e, PD.runP_e, PD.runI_e, PD.outP_nx, PD.outP_rt, PD.outI_nx, PD.outI_rt, PD.sV, PD.ownL, PD.ini, List.map_cons, List.map_nil, List.length_cons, List.length_nil, Nat.reduceSub, Nat.reduceAdd, Nat.sub_self, Nat.zero_add, List.replicate_succ, List.replicate_zero, List.append_nil, List.cons_append, List.nil_append, List.getElem?_cons_zero, List.getElem?_cons_succ, List.getElem?_nil, List.set_cons_zero, List.set_cons_succ, Option.bind_none, Option.bind_assoc, Option.map_some, PD.seqD_list, PD.seqD_tuple, PD.wipeD, PD.unwipe, PD.rng1_i, PD.appD_l, PD.ixD_l, PD.ixD_t, PD.truD_n, PD.truD_b, PD.truD_i, PD.truD_l, PD.truD_t, PD.sliceD_l, PD.sliceD_t, PD.subD_i, PD.negD_i, PD.notD_b, PD.ltD_i, PD.leD_i, PD.gtD_i, PD.geD_i, PD.absD_i, PD.intD_i, PD.intD_b, PD.max2_i, PD.min2_i, PD.max3_i, PD.min3_i, PD.chn_e, PD.c_ch0_e, PD.c_ch1_e, PD.c_ch2_t, PD.c_ch2_f, PD.c_ch3_e, PD.lenD_l, PD.lenD_t, PD.listD_l, PD.listD_t, PD.tupleD_l, PD.tupleD_t, PD.listrevD_l, PD.iaddD_i, PD.addD_i, PD.mulD_i, PD.fdivD_i, PD.modD_i, PD.divmodD_i, PD.eqD_i, PD.neD_i, PD.isN_none, PD.isN_bool, PD.isN_int, PD.isN_str, PD.isN_list, PD.isN_tuple, PD.notN_none, PD.notN_bool, PD.notN_int, PD.notN_str, PD.notN_list, PD.notN_tuple, PD.eqD_b2, PD.neD_b2, PD.ix0, PD.ix1, PD.ix2, PD.ix3, PD.ix4, PD.ix5, PD.ixm1, PD.ixN30, PD.ixN31, PD.ixN32, Bool.false_eq_true, Bool.not_true, Bool.not_false, reduceCtorEq, decide_true, decide_false, Nat.reduceLT, Nat.reduceLeDiff, Nat.reduceEqDiff, Int.reduceLT, Int.reduceLE, Int.reduceToNat, Int.reduceNeg, Option.getD_some, Option.getD_none, and_self, and_true, true_and, PD.le_size, beq_self_eq_true, Bool.true_beq, Bool.false_beq, e_rings_of, m_rings_of, ha]
def wl : List IP → List (IP × IP)
  | [] => []
  | p :: r => prs p (r ++ [p])
theorem wl_len (ps : List IP) : (wl ps).length = ps.length := by
  cases ps with
  | nil => rfl
  | cons p r => show (prs p (r ++ [p])).length = _; rw [prs_len, List.length_append, List.length_singleton, List.length_cons]
theorem extO_run {i : Nat} {f : SE} {t t1 : DSt} {ds c : List D} (h : f t = some (.list ds, t1)) (ho : ownL t1 i = some c) (hl : c.length + ds.length ≤ 1000000) : extO i f t = some (.none, t1.set i (some (.list (c ++ ds)))) := by
  unfold extO
  rw [h, Option.bind_some]
  dsimp only
  rw [ho, Option.bind_some, if_pos (by rw [sizeLine_eq]; omega)]
theorem sides_ring {ps : List IP} (h : RingOk ps) : e_sides_of [ringD ps] = some (.list ((wl ps).map prD)) := by
  cases ps with
  | nil => exact absurd rfl h.ne
  | cons p r => exact sides_of_sp p r h.len
theorem walls_loop (R : D) : ∀ (rs : List (List IP)) (acc : List (IP × IP)) (x : Option D), (∀ r ∈ rs, RingOk r) → acc.length + 100 * rs.length ≤ 100000 → ∃ y, forD (gN 2) (kDrop (extO 1 (callD e_sides_of (sCons (sV 2) sNil)))) (rs.map ringD) [some R, some (.list (acc.map prD)), x] = some (.nx [some R, some (.list ((acc ++ rs.flatMap wl).map prD)), y])
  | [], acc, x, _, _ => ⟨x, by rw [List.flatMap_nil, List.append_nil]; rfl⟩
  | r :: rs, acc, x, h, hl => by
    have hr := h r List.mem_cons_self
    have hl2 := hr.len
    rw [List.length_cons] at hl
    obtain ⟨y, ih⟩ := walls_loop R rs (acc ++ wl r) (some (ringD r)) (fun q hq => h q (List.mem_cons_of_mem _ hq)) (by rw [List.length_append, wl_len]; omega)
    refine ⟨y, ?_⟩
    rw [List.append_assoc] at ih
    rw [List.map_cons, List.flatMap_cons, ← ih]
    have e1 := sides_ring hr
    have e2 : callD e_sides_of (sCons (sV 2) sNil) [some R, some (.list (acc.map prD)), some (ringD r)] = some (.list ((wl r).map prD), [some R, some (.list (acc.map prD)), some (ringD r)]) := by simp -implicitDefEqProofs (disch := (first | assumption | (refine' PD.mulOk_sz ?a ?b ?c; (case a => (repeat' (first | assumption | exact PD.Sz.fmod (PD.Sz.lit (n := 64) (by decide)) (by decide) | exact PD.Sz.lit (n := 64) (by decide) | apply PD.Sz.mul | apply PD.Sz.add | apply PD.Sz.sub | apply PD.Sz.neg))); (case b => (repeat' (first | assumption | exact PD.Sz.fmod (PD.Sz.lit (n := 64) (by decide)) (by decide) | exact PD.Sz.lit (n := 64) (by decide) | apply PD.Sz.mul | apply PD.Sz.add | apply PD.Sz.sub | apply PD.Sz.neg))); (case c => decide)) | (exact PD.divOk_sz (PD.Sz.lit (n := 64) (by decide)) (by decide) (by decide)) | omega | (apply PD.lt_size; (first | decide | omega)))) only [PD.compD_nil, PD.compD_cons, PD.c_cp0_e, PD.c_cp1_t, PD.c_cp1_f, PD.c_cp2_e, PD.c_k0_e, PD.c_k1_t, PD.c_k1_f, PD.c_k2_e, PD.forD_nil, PD.forD_cons, PD.c_f1_e, PD.c_f2_nx, PD.c_f2_ct, PD.c_f2_bk, PD.c_f2_rt, ↓Option.bind_some, ↓reduceIte, PD.sCons_e, PD.sTup_e, PD.sLst_e, PD.bin_e, PD.un_e, PD.callD_e, PD.callI_e, PD.tru_e, PD.tand_e, PD.tor_e, PD.tnot_e, PD.vand_e, PD.vor_e, PD.sIf_e, PD.nl_e, PD.lenO_e, PD.truO_e, PD.ixO_e, PD.methO_e, PD.sSl_e, PD.oSome_e, PD.wS_e, PD.wR1_e, PD.wR2_e, PD.wE_e, PD.wZ_e, PD.sLc_e, PD.kSeq_e, PD.kDrop_e, PD.kSet_e, PD.kOwn_e, PD.kAsg_e, PD.kPar_e, PD.kPar3_e, PD.kIf_e, PD.kRet_e, PD.kRetO_e, PD.kFor_e, PD.kWhile_e, PD.c_ret_e, PD.c_retL_e, PD.c_retB_e, PD.c_sCons2_e, PD.c_sCons1_e, PD.c_tup_e, PD.c_lst_e, PD.c_bin2_e, PD.c_bin1_e, PD.c_un_e, PD.c_call_e, PD.c_callI3_e, PD.c_callI2_e, PD.c_callI_e, PD.c_tru_e, PD.c_and_t, PD.c_and_f, PD.c_or_t, PD.c_or_f, PD.c_not_e, PD.c_vand_t, PD.c_vand_f, PD.c_vor_t, PD.c_vor_f, PD.c_sif_t, PD.c_sif_f, PD.c_nl_e, PD.c_lenO_e, PD.c_truO_e, PD.c_ixO2_e, PD.c_ixO_e, PD.c_meth3_e, PD.c_meth2_e, PD.c_meth_e, PD.c_sl3_e, PD.c_sl2_e, PD.c_sl_e, PD.c_os_e, PD.c_wS_e, PD.c_wR1_e, PD.c_wR2_e, PD.c_wE_e, PD.c_wZ_l, PD.c_wZ_t, PD.c_lc2_e, PD.c_lc_e, PD.c_seq_nx, PD.c_seq_bk, PD.c_seq_ct, PD.c_seq_rt, PD.c_drop_e, PD.c_set_e, PD.c_own_e, PD.c_nx_e, PD.c_asg_e, PD.c_par_e, PD.c_par3_e, PD.c_if_t, PD.c_if_f, PD.c_rt_e, PD.c_rto_e, PD.c_for_e, PD.c_gO3_e, PD.c_gO2_e, PD.c_gO_e, PD.gO_e, PD.gN_e, PD.gsNil_e, PD.gsCons_e, PD.gT_e, PD.sNil_e, PD.sC_e, PD.oNone_e, PD.tYesD_e, PD.kNil_e, PD.kRetN_e, PD.kBk_e, PD.kCt_e, PD.kNever_e, PD.runP_e, PD.runI_e, PD.outP_nx, PD.outP_rt, PD.outI_nx, PD.outI_rt, PD.sV, PD.ownL, PD.ini, List.map_cons, List.map_nil, List.length_cons, List.length_nil, Nat.reduceSub, Nat.reduceAdd, Nat.sub_self, Nat.zero_add, List.replicate_succ, List.replicate_zero, List.append_nil, List.cons_append, List.nil_append, List.getElem?_cons_zero, List.getElem?_cons_succ, List.getElem?_nil, List.set_cons_zero, List.set_cons_succ, Option.bind_none, Option.bind_assoc, Option.map_some, PD.seqD_list, PD.seqD_tuple, PD.wipeD, PD.unwipe, PD.rng1_i, PD.appD_l, PD.ixD_l, PD.ixD_t, PD.truD_n, PD.truD_b, PD.truD_i, PD.truD_l, PD.truD_t, PD.sliceD_l, PD.sliceD_t, PD.subD_i, PD.negD_i, PD.notD_b, PD.ltD_i, PD.leD_i, PD.gtD_i, PD.geD_i, PD.absD_i, PD.intD_i, PD.intD_b, PD.max2_i, PD.min2_i, PD.max3_i, PD.min3_i, PD.chn_e, PD.c_ch0_e, PD.c_ch1_e, PD.c_ch2_t, PD.c_ch2_f, PD.c_ch3_e, PD.lenD_l, PD.lenD_t, PD.listD_l, PD.listD_t, PD.tupleD_l, PD.tupleD_t, PD.listrevD_l, PD.iaddD_i, PD.addD_i, PD.mulD_i, PD.fdivD_i, PD.modD_i, PD.divmodD_i, PD.eqD_i, PD.neD_i, PD.isN_none, PD.isN_bool, PD.isN_int, PD.isN_str, PD.isN_list, PD.isN_tuple, PD.notN_none, PD.notN_bool, PD.notN_int, PD.notN_str, PD.notN_list, PD.notN_tuple, PD.eqD_b2, PD.neD_b2, PD.ix0, PD.ix1, PD.ix2, PD.ix3, PD.ix4, PD.ix5, PD.ixm1, PD.ixN30, PD.ixN31, PD.ixN32, Bool.false_eq_true, Bool.not_true, Bool.not_false, reduceCtorEq, decide_true, decide_false, Nat.reduceLT, Nat.reduceLeDiff, Nat.reduceEqDiff, Int.reduceLT, Int.reduceLE, Int.reduceToNat, Int.reduceNeg, Option.getD_some, Option.getD_none, and_self, and_true, true_and, PD.le_size, beq_self_eq_true, Bool.true_beq, Bool.false_beq, e1]
    have e3 := extO_run (i := 1) e2 rfl (by rw [List.length_map, List.length_map, wl_len]; omega)
    rw [← List.map_append] at e3
    simp -implicitDefEqProofs (disch := (first | assumption | (refine' PD.mulOk_sz ?a ?b ?c; (case a => (repeat' (first | assumption | exact PD.Sz.fmod (PD.Sz.lit (n := 64) (by decide)) (by decide) | exact PD.Sz.lit (n := 64) (by decide) | apply PD.Sz.mul | apply PD.Sz.add | apply PD.Sz.sub | apply PD.Sz.neg))); (case b => (repeat' (first | assumption | exact PD.Sz.fmod (PD.Sz.lit (n := 64) (by decide)) (by decide) | exact PD.Sz.lit (n := 64) (by decide) | apply PD.Sz.mul | apply PD.Sz.add | apply PD.Sz.sub | apply PD.Sz.neg))); (case c => decide)) | (exact PD.divOk_sz (PD.Sz.lit (n := 64) (by decide)) (by decide) (by decide)) | omega | (apply PD.lt_size; (first | decide | omega)))) only [PD.compD_nil, PD.compD_cons, PD.c_cp0_e, PD.c_cp1_t, PD.c_cp1_f, PD.c_cp2_e, PD.c_k0_e, PD.c_k1_t, PD.c_k1_f, PD.c_k2_e, PD.forD_nil, PD.forD_cons, PD.c_f1_e, PD.c_f2_nx, PD.c_f2_ct, PD.c_f2_bk, PD.c_f2_rt, ↓Option.bind_some, ↓reduceIte, PD.sCons_e, PD.sTup_e, PD.sLst_e, PD.bin_e, PD.un_e, PD.callD_e, PD.callI_e, PD.tru_e, PD.tand_e, PD.tor_e, PD.tnot_e, PD.vand_e, PD.vor_e, PD.sIf_e, PD.nl_e, PD.lenO_e, PD.truO_e, PD.ixO_e, PD.methO_e, PD.sSl_e, PD.oSome_e, PD.wS_e, PD.wR1_e, PD.wR2_e, PD.wE_e, PD.wZ_e, PD.sLc_e, PD.kSeq_e, PD.kDrop_e, PD.kSet_e, PD.kOwn_e, PD.kAsg_e, PD.kPar_e, PD.kPar3_e, PD.kIf_e, PD.kRet_e, PD.kRetO_e, PD.kFor_e, PD.kWhile_e, PD.c_ret_e, PD.c_retL_e, PD.c_retB_e, PD.c_sCons2_e, PD.c_sCons1_e, PD.c_tup_e, PD.c_lst_e, PD.c_bin2_e, PD.c_bin1_e, PD.c_un_e, PD.c_call_e, PD.c_callI3_e, PD.c_callI2_e, PD.c_callI_e, PD.c_tru_e, PD.c_and_t, PD.c_and_f, PD.c_or_t, PD.c_or_f, PD.c_not_e, PD.c_vand_t, PD.c_vand_f, PD.c_vor_t, PD.c_vor_f, PD.c_sif_t, PD.c_sif_f, PD.c_nl_e, PD.c_lenO_e, PD.c_truO_e, PD.c_ixO2_e, PD.c_ixO_e, PD.c_meth3_e, PD.c_meth2_e, PD.c_meth_e, PD.c_sl3_e, PD.c_sl2_e, PD.c_sl_e, PD.c_os_e, PD.c_wS_e, PD.c_wR1_e, PD.c_wR2_e, PD.c_wE_e, PD.c_wZ_l, PD.c_wZ_t, PD.c_lc2_e, PD.c_lc_e, PD.c_seq_nx, PD.c_seq_bk, PD.c_seq_ct, PD.c_seq_rt, PD.c_drop_e, PD.c_set_e, PD.c_own_e, PD.c_nx_e, PD.c_asg_e, PD.c_par_e, PD.c_par3_e, PD.c_if_t, PD.c_if_f, PD.c_rt_e, PD.c_rto_e, PD.c_for_e, PD.c_gO3_e, PD.c_gO2_e, PD.c_gO_e, PD.gO_e, PD.gN_e, PD.gsNil_e, PD.gsCons_e, PD.gT_e, PD.sNil_e, PD.sC_e, PD.oNone_e, PD.tYesD_e, PD.kNil_e, PD.kRetN_e, PD.kBk_e, PD.kCt_e, PD.kNever_e, PD.runP_e, PD.runI_e, PD.outP_nx, PD.outP_rt, PD.outI_nx, PD.outI_rt, PD.sV, PD.ownL, PD.ini, List.map_cons, List.map_nil, List.length_cons, List.length_nil, Nat.reduceSub, Nat.reduceAdd, Nat.sub_self, Nat.zero_add, List.replicate_succ, List.replicate_zero, List.append_nil, List.cons_append, List.nil_append, List.getElem?_cons_zero, List.getElem?_cons_succ, List.getElem?_nil, List.set_cons_zero, List.set_cons_succ, Option.bind_none, Option.bind_assoc, Option.map_some, PD.seqD_list, PD.seqD_tuple, PD.wipeD, PD.unwipe, PD.rng1_i, PD.appD_l, PD.ixD_l, PD.ixD_t, PD.truD_n, PD.truD_b, PD.truD_i, PD.truD_l, PD.truD_t, PD.sliceD_l, PD.sliceD_t, PD.subD_i, PD.negD_i, PD.notD_b, PD.ltD_i, PD.leD_i, PD.gtD_i, PD.geD_i, PD.absD_i, PD.intD_i, PD.intD_b, PD.max2_i, PD.min2_i, PD.max3_i, PD.min3_i, PD.chn_e, PD.c_ch0_e, PD.c_ch1_e, PD.c_ch2_t, PD.c_ch2_f, PD.c_ch3_e, PD.lenD_l, PD.lenD_t, PD.listD_l, PD.listD_t, PD.tupleD_l, PD.tupleD_t, PD.listrevD_l, PD.iaddD_i, PD.addD_i, PD.mulD_i, PD.fdivD_i, PD.modD_i, PD.divmodD_i, PD.eqD_i, PD.neD_i, PD.isN_none, PD.isN_bool, PD.isN_int, PD.isN_str, PD.isN_list, PD.isN_tuple, PD.notN_none, PD.notN_bool, PD.notN_int, PD.notN_str, PD.notN_list, PD.notN_tuple, PD.eqD_b2, PD.neD_b2, PD.ix0, PD.ix1, PD.ix2, PD.ix3, PD.ix4, PD.ix5, PD.ixm1, PD.ixN30, PD.ixN31, PD.ixN32, Bool.false_eq_true, Bool.not_true, Bool.not_false, reduceCtorEq, decide_true, decide_false, Nat.reduceLT, Nat.reduceLeDiff, Nat.reduceEqDiff, Int.reduceLT, Int.reduceLE, Int.reduceToNat, Int.reduceNeg, Option.getD_some, Option.getD_none, and_self, and_true, true_and, PD.le_size, beq_self_eq_true, Bool.true_beq, Bool.false_beq, e3]
theorem walls_of_sp {o : List IP} {qs : List (List IP)} (h : RoomOk o qs) : e_walls_of [roomD o qs] = some (.tuple (((o :: qs).flatMap wl).map prD)) := by
  have hl := h.len
  obtain ⟨y, e⟩ := walls_loop (roomD o qs) (o :: qs) [] none (fun r hr => by
    rcases List.mem_cons.mp hr with rfl | hr
    · exact h.o
    · exact h.q r hr) (by rw [List.length_nil, List.length_cons]; omega)
  rw [List.nil_append, List.map_nil] at e
  have e1 := rings_of_sp (o := o) hl
  obtain ⟨L, hL⟩ : ∃ L, L = (o :: qs).map ringD := ⟨_, rfl⟩
  rw [← hL] at e e1
  simp -implicitDefEqProofs (disch := (first | assumption | (refine' PD.mulOk_sz ?a ?b ?c; (case a => (repeat' (first | assumption | exact PD.Sz.fmod (PD.Sz.lit (n := 64) (by decide)) (by decide) | exact PD.Sz.lit (n := 64) (by decide) | apply PD.Sz.mul | apply PD.Sz.add | apply PD.Sz.sub | apply PD.Sz.neg))); (case b => (repeat' (first | assumption | exact PD.Sz.fmod (PD.Sz.lit (n := 64) (by decide)) (by decide) | exact PD.Sz.lit (n := 64) (by decide) | apply PD.Sz.mul | apply PD.Sz.add | apply PD.Sz.sub | apply PD.Sz.neg))); (case c => decide)) | (exact PD.divOk_sz (PD.Sz.lit (n := 64) (by decide)) (by decide) (by decide)) | omega | (apply PD.lt_size; (first | decide | omega)))) only [PD.compD_nil, PD.compD_cons, PD.c_cp0_e, PD.c_cp1_t, PD.c_cp1_f, PD.c_cp2_e, PD.c_k0_e, PD.c_k1_t, PD.c_k1_f, PD.c_k2_e, PD.forD_nil, PD.forD_cons, PD.c_f1_e, PD.c_f2_nx, PD.c_f2_ct, PD.c_f2_bk, PD.c_f2_rt, ↓Option.bind_some, ↓reduceIte, PD.sCons_e, PD.sTup_e, PD.sLst_e, PD.bin_e, PD.un_e, PD.callD_e, PD.callI_e, PD.tru_e, PD.tand_e, PD.tor_e, PD.tnot_e, PD.vand_e, PD.vor_e, PD.sIf_e, PD.nl_e, PD.lenO_e, PD.truO_e, PD.ixO_e, PD.methO_e, PD.sSl_e, PD.oSome_e, PD.wS_e, PD.wR1_e, PD.wR2_e, PD.wE_e, PD.wZ_e, PD.sLc_e, PD.kSeq_e, PD.kDrop_e, PD.kSet_e, PD.kOwn_e, PD.kAsg_e, PD.kPar_e, PD.kPar3_e, PD.kIf_e, PD.kRet_e, PD.kRetO_e, PD.kFor_e, PD.kWhile_e, PD.c_ret_e, PD.c_retL_e, PD.c_retB_e, PD.c_sCons2_e, PD.c_sCons1_e, PD.c_tup_e, PD.c_lst_e, PD.c_bin2_e, PD.c_bin1_e, PD.c_un_e, PD.c_call_e, PD.c_callI3_e, PD.c_callI2_e, PD.c_callI_e, PD.c_tru_e, PD.c_and_t, PD.c_and_f, PD.c_or_t, PD.c_or_f, PD.c_not_e, PD.c_vand_t, PD.c_vand_f, PD.c_vor_t, PD.c_vor_f, PD.c_sif_t, PD.c_sif_f, PD.c_nl_e, PD.c_lenO_e, PD.c_truO_e, PD.c_ixO2_e, PD.c_ixO_e, PD.c_meth3_e, PD.c_meth2_e, PD.c_meth_e, PD.c_sl3_e, PD.c_sl2_e, PD.c_sl_e, PD.c_os_e, PD.c_wS_e, PD.c_wR1_e, PD.c_wR2_e, PD.c_wE_e, PD.c_wZ_l, PD.c_wZ_t, PD.c_lc2_e, PD.c_lc_e, PD.c_seq_nx, PD.c_seq_bk, PD.c_seq_ct, PD.c_seq_rt, PD.c_drop_e, PD.c_set_e, PD.c_own_e, PD.c_nx_e, PD.c_asg_e, PD.c_par_e, PD.c_par3_e, PD.c_if_t, PD.c_if_f, PD.c_rt_e, PD.c_rto_e, PD.c_for_e, PD.c_gO3_e, PD.c_gO2_e, PD.c_gO_e, PD.gO_e, PD.gN_e, PD.gsNil_e, PD.gsCons_e, PD.gT_e, PD.sNil_e, PD.sC_e, PD.oNone_e, PD.tYesD_e, PD.kNil_e, PD.kRetN_e, PD.kBk_e, PD.kCt_e, PD.kNever_e, PD.runP_e, PD.runI_e, PD.outP_nx, PD.outP_rt, PD.outI_nx, PD.outI_rt, PD.sV, PD.ownL, PD.ini, List.map_cons, List.map_nil, List.length_cons, List.length_nil, Nat.reduceSub, Nat.reduceAdd, Nat.sub_self, Nat.zero_add, List.replicate_succ, List.replicate_zero, List.append_nil, List.cons_append, List.nil_append, List.getElem?_cons_zero, List.getElem?_cons_succ, List.getElem?_nil, List.set_cons_zero, List.set_cons_succ, Option.bind_none, Option.bind_assoc, Option.map_some, PD.seqD_list, PD.seqD_tuple, PD.wipeD, PD.unwipe, PD.rng1_i, PD.appD_l, PD.ixD_l, PD.ixD_t, PD.truD_n, PD.truD_b, PD.truD_i, PD.truD_l, PD.truD_t, PD.sliceD_l, PD.sliceD_t, PD.subD_i, PD.negD_i, PD.notD_b, PD.ltD_i, PD.leD_i, PD.gtD_i, PD.geD_i, PD.absD_i, PD.intD_i, PD.intD_b, PD.max2_i, PD.min2_i, PD.max3_i, PD.min3_i, PD.chn_e, PD.c_ch0_e, PD.c_ch1_e, PD.c_ch2_t, PD.c_ch2_f, PD.c_ch3_e, PD.lenD_l, PD.lenD_t, PD.listD_l, PD.listD_t, PD.tupleD_l, PD.tupleD_t, PD.listrevD_l, PD.iaddD_i, PD.addD_i, PD.mulD_i, PD.fdivD_i, PD.modD_i, PD.divmodD_i, PD.eqD_i, PD.neD_i, PD.isN_none, PD.isN_bool, PD.isN_int, PD.isN_str, PD.isN_list, PD.isN_tuple, PD.notN_none, PD.notN_bool, PD.notN_int, PD.notN_str, PD.notN_list, PD.notN_tuple, PD.eqD_b2, PD.neD_b2, PD.ix0, PD.ix1, PD.ix2, PD.ix3, PD.ix4, PD.ix5, PD.ixm1, PD.ixN30, PD.ixN31, PD.ixN32, Bool.false_eq_true, Bool.not_true, Bool.not_false, reduceCtorEq, decide_true, decide_false, Nat.reduceLT, Nat.reduceLeDiff, Nat.reduceEqDiff, Int.reduceLT, Int.reduceLE, Int.reduceToNat, Int.reduceNeg, Option.getD_some, Option.getD_none, and_self, and_true, true_and, PD.le_size, beq_self_eq_true, Bool.true_beq, Bool.false_beq, e_walls_of, m_walls_of, e1, e]
theorem flat_len : ∀ rs : List (List IP), (∀ r ∈ rs, RingOk r) → (rs.flatMap wl).length ≤ 100 * rs.length
  | [], _ => Nat.zero_le _
  | r :: rs, h => by
    have h1 := flat_len rs fun q hq => h q (List.mem_cons_of_mem _ hq)
    have h2 := (h r List.mem_cons_self).len
    rw [List.flatMap_cons, List.length_append, wl_len, List.length_cons]
    omega
theorem RoomOk.all {o : List IP} {qs : List (List IP)} (h : RoomOk o qs) : ∀ r ∈ o :: qs, RingOk r := fun r hr => by
  rcases List.mem_cons.mp hr with rfl | hr
  · exact h.o
  · exact h.q r hr
theorem corners_of_sp {o : List IP} {qs : List (List IP)} (h : RoomOk o qs) : e_corners_of [roomD o qs] = some (.tuple (((o :: qs).flatMap wl).map fun x => pt3 x.1)) := by
  have hl := h.len
  have e1 := walls_of_sp h
  have hf := flat_len (o :: qs) h.all
  rw [List.length_cons] at hf
  generalize (o :: qs).flatMap wl = W at *
  have cc : compD [1, 2] (gT (gsCons (gN 1) (gsCons (gN 2) gsNil)) 2) tYesD (sV 1) (W.map prD) [some (roomD o qs), none, none] [] = some (W.map (fun x => pt3 x.1), [some (roomD o qs), none, none]) :=
    comp_pure prD (fun x => pt3 x.1) _ W [] (by rw [List.length_nil]; omega) fun x _ => by
      simp -implicitDefEqProofs (disch := (first | assumption | (refine' PD.mulOk_sz ?a ?b ?c; (case a => (repeat' (first | assumption | exact PD.Sz.fmod (PD.Sz.lit (n := 64) (by decide)) (by decide) | exact PD.Sz.lit (n := 64) (by decide) | apply PD.Sz.mul | apply PD.Sz.add | apply PD.Sz.sub | apply PD.Sz.neg))); (case b => (repeat' (first | assumption | exact PD.Sz.fmod (PD.Sz.lit (n := 64) (by decide)) (by decide) | exact PD.Sz.lit (n := 64) (by decide) | apply PD.Sz.mul | apply PD.Sz.add | apply PD.Sz.sub | apply PD.Sz.neg))); (case c => decide)) | (exact PD.divOk_sz (PD.Sz.lit (n := 64) (by decide)) (by decide) (by decide)) | omega | (apply PD.lt_size; (first | decide | omega)))) only [PD.compD_nil, PD.compD_cons, PD.c_cp0_e, PD.c_cp1_t, PD.c_cp1_f, PD.c_cp2_e, PD.c_k0_e, PD.c_k1_t, PD.c_k1_f, PD.c_k2_e, PD.forD_nil, PD.forD_cons, PD.c_f1_e, PD.c_f2_nx, PD.c_f2_ct, PD.c_f2_bk, PD.c_f2_rt, ↓Option.bind_some, ↓reduceIte, PD.sCons_e, PD.sTup_e, PD.sLst_e, PD.bin_e, PD.un_e, PD.callD_e, PD.callI_e, PD.tru_e, PD.tand_e, PD.tor_e, PD.tnot_e, PD.vand_e, PD.vor_e, PD.sIf_e, PD.nl_e, PD.lenO_e, PD.truO_e, PD.ixO_e, PD.methO_e, PD.sSl_e, PD.oSome_e, PD.wS_e, PD.wR1_e, PD.wR2_e, PD.wE_e, PD.wZ_e, PD.sLc_e, PD.kSeq_e, PD.kDrop_e, PD.kSet_e, PD.kOwn_e, PD.kAsg_e, PD.kPar_e, PD.kPar3_e, PD.kIf_e, PD.kRet_e, PD.kRetO_e, PD.kFor_e, PD.kWhile_e, PD.c_ret_e, PD.c_retL_e, PD.c_retB_e, PD.c_sCons2_e, PD.c_sCons1_e, PD.c_tup_e, PD.c_lst_e, PD.c_bin2_e, PD.c_bin1_e, PD.c_un_e, PD.c_call_e, PD.c_callI3_e, PD.c_callI2_e, PD.c_callI_e, PD.c_tru_e, PD.c_and_t, PD.c_and_f, PD.c_or_t, PD.c_or_f, PD.c_not_e, PD.c_vand_t, PD.c_vand_f, PD.c_vor_t, PD.c_vor_f, PD.c_sif_t, PD.c_sif_f, PD.c_nl_e, PD.c_lenO_e, PD.c_truO_e, PD.c_ixO2_e, PD.c_ixO_e, PD.c_meth3_e, PD.c_meth2_e, PD.c_meth_e, PD.c_sl3_e, PD.c_sl2_e, PD.c_sl_e, PD.c_os_e, PD.c_wS_e, PD.c_wR1_e, PD.c_wR2_e, PD.c_wE_e, PD.c_wZ_l, PD.c_wZ_t, PD.c_lc2_e, PD.c_lc_e, PD.c_seq_nx, PD.c_seq_bk, PD.c_seq_ct, PD.c_seq_rt, PD.c_drop_e, PD.c_set_e, PD.c_own_e, PD.c_nx_e, PD.c_asg_e, PD.c_par_e, PD.c_par3_e, PD.c_if_t, PD.c_if_f, PD.c_rt_e, PD.c_rto_e, PD.c_for_e, PD.c_gO3_e, PD.c_gO2_e, PD.c_gO_e, PD.gO_e, PD.gN_e, PD.gsNil_e, PD.gsCons_e, PD.gT_e, PD.sNil_e, PD.sC_e, PD.oNone_e, PD.tYesD_e, PD.kNil_e, PD.kRetN_e, PD.kBk_e, PD.kCt_e, PD.kNever_e, PD.runP_e, PD.runI_e, PD.outP_nx, PD.outP_rt, PD.outI_nx, PD.outI_rt, PD.sV, PD.ownL, PD.ini, List.map_cons, List.map_nil, List.length_cons, List.length_nil, Nat.reduceSub, Nat.reduceAdd, Nat.sub_self, Nat.zero_add, List.replicate_succ, List.replicate_zero, List.append_nil, List.cons_append, List.nil_append, List.getElem?_cons_zero, List.getElem?_cons_succ, List.getElem?_nil, List.set_cons_zero, List.set_cons_succ, Option.bind_none, Option.bind_assoc, Option.map_some, PD.seqD_list, PD.seqD_tuple, PD.wipeD, PD.unwipe, PD.rng1_i, PD.appD_l, PD.ixD_l, PD.ixD_t, PD.truD_n, PD.truD_b, PD.truD_i, PD.truD_l, PD.truD_t, PD.sliceD_l, PD.sliceD_t, PD.subD_i, PD.negD_i, PD.notD_b, PD.ltD_i, PD.leD_i, PD.gtD_i, PD.geD_i, PD.absD_i, PD.intD_i, PD.intD_b, PD.max2_i, PD.min2_i, PD.max3_i, PD.min3_i, PD.chn_e, PD.c_ch0_e, PD.c_ch1_e, PD.c_ch2_t, PD.c_ch2_f, PD.c_ch3_e, PD.lenD_l, PD.lenD_t, PD.listD_l, PD.listD_t, PD.tupleD_l, PD.tupleD_t, PD.listrevD_l, PD.iaddD_i, PD.addD_i, PD.mulD_i, PD.fdivD_i, PD.modD_i, PD.divmodD_i, PD.eqD_i, PD.neD_i, PD.isN_none, PD.isN_bool, PD.isN_int, PD.isN_str, PD.isN_list, PD.isN_tuple, PD.notN_none, PD.notN_bool, PD.notN_int, PD.notN_str, PD.notN_list, PD.notN_tuple, PD.eqD_b2, PD.neD_b2, PD.ix0, PD.ix1, PD.ix2, PD.ix3, PD.ix4, PD.ix5, PD.ixm1, PD.ixN30, PD.ixN31, PD.ixN32, Bool.false_eq_true, Bool.not_true, Bool.not_false, reduceCtorEq, decide_true, decide_false, Nat.reduceLT, Nat.reduceLeDiff, Nat.reduceEqDiff, Int.reduceLT, Int.reduceLE, Int.reduceToNat, Int.reduceNeg, Option.getD_some, Option.getD_none, and_self, and_true, true_and, PD.le_size, beq_self_eq_true, Bool.true_beq, Bool.false_beq, prD]
      exact wp_some ⟨rfl, rfl⟩
  simp -implicitDefEqProofs (disch := (first | assumption | (refine' PD.mulOk_sz ?a ?b ?c; (case a => (repeat' (first | assumption | exact PD.Sz.fmod (PD.Sz.lit (n := 64) (by decide)) (by decide) | exact PD.Sz.lit (n := 64) (by decide) | apply PD.Sz.mul | apply PD.Sz.add | apply PD.Sz.sub | apply PD.Sz.neg))); (case b => (repeat' (first | assumption | exact PD.Sz.fmod (PD.Sz.lit (n := 64) (by decide)) (by decide) | exact PD.Sz.lit (n := 64) (by decide) | apply PD.Sz.mul | apply PD.Sz.add | apply PD.Sz.sub | apply PD.Sz.neg))); (case c => decide)) | (exact PD.divOk_sz (PD.Sz.lit (n := 64) (by decide)) (by decide) (by decide)) | omega | (apply PD.lt_size; (first | decide | omega)))) only [PD.compD_nil, PD.compD_cons, PD.c_cp0_e, PD.c_cp1_t, PD.c_cp1_f, PD.c_cp2_e, PD.c_k0_e, PD.c_k1_t, PD.c_k1_f, PD.c_k2_e, PD.forD_nil, PD.forD_cons, PD.c_f1_e, PD.c_f2_nx, PD.c_f2_ct, PD.c_f2_bk, PD.c_f2_rt, ↓Option.bind_some, ↓reduceIte, PD.sCons_e, PD.sTup_e, PD.sLst_e, PD.bin_e, PD.un_e, PD.callD_e, PD.callI_e, PD.tru_e, PD.tand_e, PD.tor_e, PD.tnot_e, PD.vand_e, PD.vor_e, PD.sIf_e, PD.nl_e, PD.lenO_e, PD.truO_e, PD.ixO_e, PD.methO_e, PD.sSl_e, PD.oSome_e, PD.wS_e, PD.wR1_e, PD.wR2_e, PD.wE_e, PD.wZ_e, PD.sLc_e, PD.kSeq_e, PD.kDrop_e, PD.kSet_e, PD.kOwn_e, PD.kAsg_e, PD.kPar_e, PD.kPar3_e, PD.kIf_e, PD.kRet_e, PD.kRetO_e, PD.kFor_e, PD.kWhile_e, PD.c_ret_e, PD.c_retL_e, PD.c_retB_e, PD.c_sCons2_e, PD.c_sCons1_e, PD.c_tup_e, PD.c_lst_e, PD.c_bin2_e, PD.c_bin1_e, PD.c_un_e, PD.c_call_e, PD.c_callI3_e, PD.c_callI2_e, PD.c_callI_e, PD.c_tru_e, PD.c_and_t, PD.c_and_f, PD.c_or_t, PD.c_or_f, PD.c_not_e, PD.c_vand_t, PD.c_vand_f, PD.c_vor_t, PD.c_vor_f, PD.c_sif_t, PD.c_sif_f, PD.c_nl_e, PD.c_lenO_e, PD.c_truO_e, PD.c_ixO2_e, PD.c_ixO_e, PD.c_meth3_e, PD.c_meth2_e, PD.c_meth_e, PD.c_sl3_e, PD.c_sl2_e, PD.c_sl_e, PD.c_os_e, PD.c_wS_e, PD.c_wR1_e, PD.c_wR2_e, PD.c_wE_e, PD.c_wZ_l, PD.c_wZ_t, PD.c_lc2_e, PD.c_lc_e, PD.c_seq_nx, PD.c_seq_bk, PD.c_seq_ct, PD.c_seq_rt, PD.c_drop_e, PD.c_set_e, PD.c_own_e, PD.c_nx_e, PD.c_asg_e, PD.c_par_e, PD.c_par3_e, PD.c_if_t, PD.c_if_f, PD.c_rt_e, PD.c_rto_e, PD.c_for_e, PD.c_gO3_e, PD.c_gO2_e, PD.c_gO_e, PD.gO_e, PD.gN_e, PD.gsNil_e, PD.gsCons_e, PD.gT_e, PD.sNil_e, PD.sC_e, PD.oNone_e, PD.tYesD_e, PD.kNil_e, PD.kRetN_e, PD.kBk_e, PD.kCt_e, PD.kNever_e, PD.runP_e, PD.runI_e, PD.outP_nx, PD.outP_rt, PD.outI_nx, PD.outI_rt, PD.sV, PD.ownL, PD.ini, List.map_cons, List.map_nil, List.length_cons, List.length_nil, Nat.reduceSub, Nat.reduceAdd, Nat.sub_self, Nat.zero_add, List.replicate_succ, List.replicate_zero, List.append_nil, List.cons_append, List.nil_append, List.getElem?_cons_zero, List.getElem?_cons_succ, List.getElem?_nil, List.set_cons_zero, List.set_cons_succ, Option.bind_none, Option.bind_assoc, Option.map_some, PD.seqD_list, PD.seqD_tuple, PD.wipeD, PD.unwipe, PD.rng1_i, PD.appD_l, PD.ixD_l, PD.ixD_t, PD.truD_n, PD.truD_b, PD.truD_i, PD.truD_l, PD.truD_t, PD.sliceD_l, PD.sliceD_t, PD.subD_i, PD.negD_i, PD.notD_b, PD.ltD_i, PD.leD_i, PD.gtD_i, PD.geD_i, PD.absD_i, PD.intD_i, PD.intD_b, PD.max2_i, PD.min2_i, PD.max3_i, PD.min3_i, PD.chn_e, PD.c_ch0_e, PD.c_ch1_e, PD.c_ch2_t, PD.c_ch2_f, PD.c_ch3_e, PD.lenD_l, PD.lenD_t, PD.listD_l, PD.listD_t, PD.tupleD_l, PD.tupleD_t, PD.listrevD_l, PD.iaddD_i, PD.addD_i, PD.mulD_i, PD.fdivD_i, PD.modD_i, PD.divmodD_i, PD.eqD_i, PD.neD_i, PD.isN_none, PD.isN_bool, PD.isN_int, PD.isN_str, PD.isN_list, PD.isN_tuple, PD.notN_none, PD.notN_bool, PD.notN_int, PD.notN_str, PD.notN_list, PD.notN_tuple, PD.eqD_b2, PD.neD_b2, PD.ix0, PD.ix1, PD.ix2, PD.ix3, PD.ix4, PD.ix5, PD.ixm1, PD.ixN30, PD.ixN31, PD.ixN32, Bool.false_eq_true, Bool.not_true, Bool.not_false, reduceCtorEq, decide_true, decide_false, Nat.reduceLT, Nat.reduceLeDiff, Nat.reduceEqDiff, Int.reduceLT, Int.reduceLE, Int.reduceToNat, Int.reduceNeg, Option.getD_some, Option.getD_none, and_self, and_true, true_and, PD.le_size, beq_self_eq_true, Bool.true_beq, Bool.false_beq, e_corners_of, m_corners_of, e1, cc]
end W

set_option maxHeartbeats 2000000

namespace W
open PySem L2 PD
theorem kb_int_bool : kitB "int" "bool" = some false := by decide +kernel
theorem kb_int_int : kitB "int" "int" = some true := by decide +kernel
theorem kb_int_list : kitB "int" "list" = some false := by decide +kernel
theorem kb_int_tuple : kitB "int" "tuple" = some false := by decide +kernel
theorem kb_int_str : kitB "int" "str" = some false := by decide +kernel
theorem kb_bool_bool : kitB "bool" "bool" = some true := by decide +kernel
theorem kb_list_bool : kitB "list" "bool" = some false := by decide +kernel
theorem kb_list_int : kitB "list" "int" = some false := by decide +kernel
theorem kb_list_list : kitB "list" "list" = some true := by decide +kernel
theorem kb_list_tuple : kitB "list" "tuple" = some false := by decide +kernel
theorem kb_list_str : kitB "list" "str" = some false := by decide +kernel
theorem kb_tuple_bool : kitB "tuple" "bool" = some false := by decide +kernel
theorem kb_tuple_list : kitB "tuple" "list" = some false := by decide +kernel
theorem kb_tuple_tuple : kitB "tuple" "tuple" = some true := by decide +kernel
theorem kb_str_bool : kitB "str" "bool" = some false := by decide +kernel
theorem kb_str_list : kitB "str" "list" = some false := by decide +kernel
theorem kb_str_tuple : kitB "str" "tuple" = some false := by decide +kernel
theorem kb_str_str : kitB "str" "str" = some true := by decide +kernel
/-! ### the same, kind by kind -/
mutual
def simp1 : Nat → D → Bool
  | 0, _ => false
  | n + 1, .list ds => decide (ds.length ≤ 1000000) && simps n ds
  | n + 1, .tuple ds => decide (ds.length ≤ 1000000) && simps n ds
  | _ + 1, .int _ => true
  | _ + 1, _ => false
def simps : Nat → List D → Bool
  | _, [] => true
  | n, d :: ds => simp1 n d && simps n ds
end
theorem simps_mem : ∀ {n : Nat} {ds : List D} {d : D}, simps n (d :: ds) = true → simp1 n d = true ∧ simps n ds = true := fun {n ds d} h => by
  unfold simps at h
  exact Bool.and_eq_true_iff.mp h
theorem alike_comp (n : Nat) (ih : ∀ d : D, simp1 n d = true → e__law_alike n [d, d] = some (.bool true)) (a b : D) : ∀ (ds acc : List D), simps n ds = true → acc.length + ds.length ≤ 1000000 →
    compD [2, 3] (gT (gsCons (gN 2) (gsCons (gN 3) gsNil)) 2) tYesD (callD (e__law_alike n) (sCons (sV 2) (sCons (sV 3) sNil))) (zipL ds ds) [some a, some b, none, none] acc = some (acc ++ List.replicate ds.length (.bool true), [some a, some b, none, none])
  | [], acc, _, _ => by simp [zipL, compD]
  | d :: ds, acc, h, hl => by
    obtain ⟨h1, h2⟩ := simps_mem h
    rw [List.length_cons] at hl
    have hs : acc.length < sizeLine := by rw [sizeLine_eq]; omega
    have e : zipL (d :: ds) (d :: ds) = .tuple [d, d] :: zipL ds ds := rfl
    rw [e, compD]
    simp -implicitDefEqProofs (disch := (first | assumption | (refine' PD.mulOk_sz ?a ?b ?c; (case a => (repeat' (first | assumption | exact PD.Sz.fmod (PD.Sz.lit (n := 64) (by decide)) (by decide) | exact PD.Sz.lit (n := 64) (by decide) | apply PD.Sz.mul | apply PD.Sz.add | apply PD.Sz.sub | apply PD.Sz.neg))); (case b => (repeat' (first | assumption | exact PD.Sz.fmod (PD.Sz.lit (n := 64) (by decide)) (by decide) | exact PD.Sz.lit (n := 64) (by decide) | apply PD.Sz.mul | apply PD.Sz.add | apply PD.Sz.sub | apply PD.Sz.neg))); (case c => decide)) | (exact PD.divOk_sz (PD.Sz.lit (n := 64) (by decide)) (by decide) (by decide)) | omega | (apply PD.lt_size; (first | decide | omega)))) only [PD.compD_nil, PD.compD_cons, PD.c_cp0_e, PD.c_cp1_t, PD.c_cp1_f, PD.c_cp2_e, PD.c_k0_e, PD.c_k1_t, PD.c_k1_f, PD.c_k2_e, PD.forD_nil, PD.forD_cons, PD.c_f1_e, PD.c_f2_nx, PD.c_f2_ct, PD.c_f2_bk, PD.c_f2_rt, ↓Option.bind_some, ↓reduceIte, PD.sCons_e, PD.sTup_e, PD.sLst_e, PD.bin_e, PD.un_e, PD.callD_e, PD.callI_e, PD.tru_e, PD.tand_e, PD.tor_e, PD.tnot_e, PD.vand_e, PD.vor_e, PD.sIf_e, PD.nl_e, PD.lenO_e, PD.truO_e, PD.ixO_e, PD.methO_e, PD.sSl_e, PD.oSome_e, PD.wS_e, PD.wR1_e, PD.wR2_e, PD.wE_e, PD.wZ_e, PD.sLc_e, PD.kSeq_e, PD.kDrop_e, PD.kSet_e, PD.kOwn_e, PD.kAsg_e, PD.kPar_e, PD.kPar3_e, PD.kIf_e, PD.kRet_e, PD.kRetO_e, PD.kFor_e, PD.kWhile_e, PD.c_ret_e, PD.c_retL_e, PD.c_retB_e, PD.c_sCons2_e, PD.c_sCons1_e, PD.c_tup_e, PD.c_lst_e, PD.c_bin2_e, PD.c_bin1_e, PD.c_un_e, PD.c_call_e, PD.c_callI3_e, PD.c_callI2_e, PD.c_callI_e, PD.c_tru_e, PD.c_and_t, PD.c_and_f, PD.c_or_t, PD.c_or_f, PD.c_not_e, PD.c_vand_t, PD.c_vand_f, PD.c_vor_t, PD.c_vor_f, PD.c_sif_t, PD.c_sif_f, PD.c_nl_e, PD.c_lenO_e, PD.c_truO_e, PD.c_ixO2_e, PD.c_ixO_e, PD.c_meth3_e, PD.c_meth2_e, PD.c_meth_e, PD.c_sl3_e, PD.c_sl2_e, PD.c_sl_e, PD.c_os_e, PD.c_wS_e, PD.c_wR1_e, PD.c_wR2_e, PD.c_wE_e, PD.c_wZ_l, PD.c_wZ_t, PD.c_lc2_e, PD.c_lc_e, PD.c_seq_nx, PD.c_seq_bk, PD.c_seq_ct, PD.c_seq_rt, PD.c_drop_e, PD.c_set_e, PD.c_own_e, PD.c_nx_e, PD.c_asg_e, PD.c_par_e, PD.c_par3_e, PD.c_if_t, PD.c_if_f, PD.c_rt_e, PD.c_rto_e, PD.c_for_e, PD.c_gO3_e, PD.c_gO2_e, PD.c_gO_e, PD.gO_e, PD.gN_e, PD.gsNil_e, PD.gsCons_e, PD.gT_e, PD.sNil_e, PD.sC_e, PD.oNone_e, PD.tYesD_e, PD.kNil_e, PD.kRetN_e, PD.kBk_e, PD.kCt_e, PD.kNever_e, PD.runP_e, PD.runI_e, PD.outP_nx, PD.outP_rt, PD.outI_nx, PD.outI_rt, PD.sV, PD.ownL, PD.ini, List.map_cons, List.map_nil, List.length_cons, List.length_nil, Nat.reduceSub, Nat.reduceAdd, Nat.sub_self, Nat.zero_add, List.replicate_succ, List.replicate_zero, List.append_nil, List.cons_append, List.nil_append, List.getElem?_cons_zero, List.getElem?_cons_succ, List.getElem?_nil, List.set_cons_zero, List.set_cons_succ, Option.bind_none, Option.bind_assoc, Option.map_some, PD.seqD_list, PD.seqD_tuple, PD.wipeD, PD.unwipe, PD.rng1_i, PD.appD_l, PD.ixD_l, PD.ixD_t, PD.truD_n, PD.truD_b, PD.truD_i, PD.truD_l, PD.truD_t, PD.sliceD_l, PD.sliceD_t, PD.subD_i, PD.negD_i, PD.notD_b, PD.ltD_i, PD.leD_i, PD.gtD_i, PD.geD_i, PD.absD_i, PD.intD_i, PD.intD_b, PD.max2_i, PD.min2_i, PD.max3_i, PD.min3_i, PD.chn_e, PD.c_ch0_e, PD.c_ch1_e, PD.c_ch2_t, PD.c_ch2_f, PD.c_ch3_e, PD.lenD_l, PD.lenD_t, PD.listD_l, PD.listD_t, PD.tupleD_l, PD.tupleD_t, PD.listrevD_l, PD.iaddD_i, PD.addD_i, PD.mulD_i, PD.fdivD_i, PD.modD_i, PD.divmodD_i, PD.eqD_i, PD.neD_i, PD.isN_none, PD.isN_bool, PD.isN_int, PD.isN_str, PD.isN_list, PD.isN_tuple, PD.notN_none, PD.notN_bool, PD.notN_int, PD.notN_str, PD.notN_list, PD.notN_tuple, PD.eqD_b2, PD.neD_b2, PD.ix0, PD.ix1, PD.ix2, PD.ix3, PD.ix4, PD.ix5, PD.ixm1, PD.ixN30, PD.ixN31, PD.ixN32, Bool.false_eq_true, Bool.not_true, Bool.not_false, reduceCtorEq, decide_true, decide_false, Nat.reduceLT, Nat.reduceLeDiff, Nat.reduceEqDiff, Int.reduceLT, Int.reduceLE, Int.reduceToNat, Int.reduceNeg, Option.getD_some, Option.getD_none, and_self, and_true, true_and, PD.le_size, beq_self_eq_true, Bool.true_beq, Bool.false_beq, ih d h1, hs, alike_comp n ih a b ds (acc ++ [.bool true]) h2 (by rw [List.length_append, List.length_singleton]; omega)]
    simp [List.replicate_succ]
theorem all_rep (m : Nat) : allD [.list (List.replicate m (.bool true))] = some (.bool true) := by
  have : List.replicate m (PyData.bool true) = (List.replicate m true).map .bool := by rw [List.map_replicate]
  rw [this, allD, boolsD_map]
  simp
theorem alike_sp : ∀ (n : Nat) (d : D), simp1 n d = true → e__law_alike n [d, d] = some (.bool true) := by
  intro n
  induction n with
  | zero => intro d h; cases d <;> cases h
  | succ n ih =>
    intro d h
    show runP 4 (m__law_alike (e__law_alike n)) [d, d] = _
    cases d with
    | none => cases h
    | bool b => cases h
    | int i => simp -implicitDefEqProofs (disch := (first | assumption | (refine' PD.mulOk_sz ?a ?b ?c; (case a => (repeat' (first | assumption | exact PD.Sz.fmod (PD.Sz.lit (n := 64) (by decide)) (by decide) | exact PD.Sz.lit (n := 64) (by decide) | apply PD.Sz.mul | apply PD.Sz.add | apply PD.Sz.sub | apply PD.Sz.neg))); (case b => (repeat' (first | assumption | exact PD.Sz.fmod (PD.Sz.lit (n := 64) (by decide)) (by decide) | exact PD.Sz.lit (n := 64) (by decide) | apply PD.Sz.mul | apply PD.Sz.add | apply PD.Sz.sub | apply PD.Sz.neg))); (case c => decide)) | (exact PD.divOk_sz (PD.Sz.lit (n := 64) (by decide)) (by decide) (by decide)) | omega | (apply PD.lt_size; (first | decide | omega)))) only [PD.compD_nil, PD.compD_cons, PD.c_cp0_e, PD.c_cp1_t, PD.c_cp1_f, PD.c_cp2_e, PD.c_k0_e, PD.c_k1_t, PD.c_k1_f, PD.c_k2_e, PD.forD_nil, PD.forD_cons, PD.c_f1_e, PD.c_f2_nx, PD.c_f2_ct, PD.c_f2_bk, PD.c_f2_rt, ↓Option.bind_some, ↓reduceIte, PD.sCons_e, PD.sTup_e, PD.sLst_e, PD.bin_e, PD.un_e, PD.callD_e, PD.callI_e, PD.tru_e, PD.tand_e, PD.tor_e, PD.tnot_e, PD.vand_e, PD.vor_e, PD.sIf_e, PD.nl_e, PD.lenO_e, PD.truO_e, PD.ixO_e, PD.methO_e, PD.sSl_e, PD.oSome_e, PD.wS_e, PD.wR1_e, PD.wR2_e, PD.wE_e, PD.wZ_e, PD.sLc_e, PD.kSeq_e, PD.kDrop_e, PD.kSet_e, PD.kOwn_e, PD.kAsg_e, PD.kPar_e, PD.kPar3_e, PD.kIf_e, PD.kRet_e, PD.kRetO_e, PD.kFor_e, PD.kWhile_e, PD.c_ret_e, PD.c_retL_e, PD.c_retB_e, PD.c_sCons2_e, PD.c_sCons1_e, PD.c_tup_e, PD.c_lst_e, PD.c_bin2_e, PD.c_bin1_e, PD.c_un_e, PD.c_call_e, PD.c_callI3_e, PD.c_callI2_e, PD.c_callI_e, PD.c_tru_e, PD.c_and_t, PD.c_and_f, PD.c_or_t, PD.c_or_f, PD.c_not_e, PD.c_vand_t, PD.c_vand_f, PD.c_vor_t, PD.c_vor_f, PD.c_sif_t, PD.c_sif_f, PD.c_nl_e, PD.c_lenO_e, PD.c_truO_e, PD.c_ixO2_e, PD.c_ixO_e, PD.c_meth3_e, PD.c_meth2_e, PD.c_meth_e, PD.c_sl3_e, PD.c_sl2_e, PD.c_sl_e, PD.c_os_e, PD.c_wS_e, PD.c_wR1_e, PD.c_wR2_e, PD.c_wE_e, PD.c_wZ_l, PD.c_wZ_t, PD.c_lc2_e, PD.c_lc_e, PD.c_seq_nx, PD.c_seq_bk, PD.c_seq_ct, PD.c_seq_rt, PD.c_drop_e, PD.c_set_e, PD.c_own_e, PD.c_nx_e, PD.c_asg_e, PD.c_par_e, PD.c_par3_e, PD.c_if_t, PD.c_if_f, PD.c_rt_e, PD.c_rto_e, PD.c_for_e, PD.c_gO3_e, PD.c_gO2_e, PD.c_gO_e, PD.gO_e, PD.gN_e, PD.gsNil_e, PD.gsCons_e, PD.gT_e, PD.sNil_e, PD.sC_e, PD.oNone_e, PD.tYesD_e, PD.kNil_e, PD.kRetN_e, PD.kBk_e, PD.kCt_e, PD.kNever_e, PD.runP_e, PD.runI_e, PD.outP_nx, PD.outP_rt, PD.outI_nx, PD.outI_rt, PD.sV, PD.ownL, PD.ini, List.map_cons, List.map_nil, List.length_cons, List.length_nil, Nat.reduceSub, Nat.reduceAdd, Nat.sub_self, Nat.zero_add, List.replicate_succ, List.replicate_zero, List.append_nil, List.cons_append, List.nil_append, List.getElem?_cons_zero, List.getElem?_cons_succ, List.getElem?_nil, List.set_cons_zero, List.set_cons_succ, Option.bind_none, Option.bind_assoc, Option.map_some, PD.seqD_list, PD.seqD_tuple, PD.wipeD, PD.unwipe, PD.rng1_i, PD.appD_l, PD.ixD_l, PD.ixD_t, PD.truD_n, PD.truD_b, PD.truD_i, PD.truD_l, PD.truD_t, PD.sliceD_l, PD.sliceD_t, PD.subD_i, PD.negD_i, PD.notD_b, PD.ltD_i, PD.leD_i, PD.gtD_i, PD.geD_i, PD.absD_i, PD.intD_i, PD.intD_b, PD.max2_i, PD.min2_i, PD.max3_i, PD.min3_i, PD.chn_e, PD.c_ch0_e, PD.c_ch1_e, PD.c_ch2_t, PD.c_ch2_f, PD.c_ch3_e, PD.lenD_l, PD.lenD_t, PD.listD_l, PD.listD_t, PD.tupleD_l, PD.tupleD_t, PD.listrevD_l, PD.iaddD_i, PD.addD_i, PD.mulD_i, PD.fdivD_i, PD.modD_i, PD.divmodD_i, PD.eqD_i, PD.neD_i, PD.isN_none, PD.isN_bool, PD.isN_int, PD.isN_str, PD.isN_list, PD.isN_tuple, PD.notN_none, PD.notN_bool, PD.notN_int, PD.notN_str, PD.notN_list, PD.notN_tuple, PD.eqD_b2, PD.neD_b2, PD.ix0, PD.ix1, PD.ix2, PD.ix3, PD.ix4, PD.ix5, PD.ixm1, PD.ixN30, PD.ixN31, PD.ixN32, Bool.false_eq_true, Bool.not_true, Bool.not_false, reduceCtorEq, decide_true, decide_false, Nat.reduceLT, Nat.reduceLeDiff, Nat.reduceEqDiff, Int.reduceLT, Int.reduceLE, Int.reduceToNat, Int.reduceNeg, Option.getD_some, Option.getD_none, and_self, and_true, true_and, PD.le_size, beq_self_eq_true, Bool.true_beq, Bool.false_beq, m__law_alike, isiD, isi2, tyD, kb_int_bool, kb_int_int, kb_int_list, kb_int_tuple, kb_int_str]
    | str x => cases h
    | list ds =>
      unfold simp1 at h
      have h' := Bool.and_eq_true_iff.mp h
      have hl := of_decide_eq_true h'.1
      simp -implicitDefEqProofs (disch := (first | assumption | (refine' PD.mulOk_sz ?a ?b ?c; (case a => (repeat' (first | assumption | exact PD.Sz.fmod (PD.Sz.lit (n := 64) (by decide)) (by decide) | exact PD.Sz.lit (n := 64) (by decide) | apply PD.Sz.mul | apply PD.Sz.add | apply PD.Sz.sub | apply PD.Sz.neg))); (case b => (repeat' (first | assumption | exact PD.Sz.fmod (PD.Sz.lit (n := 64) (by decide)) (by decide) | exact PD.Sz.lit (n := 64) (by decide) | apply PD.Sz.mul | apply PD.Sz.add | apply PD.Sz.sub | apply PD.Sz.neg))); (case c => decide)) | (exact PD.divOk_sz (PD.Sz.lit (n := 64) (by decide)) (by decide) (by decide)) | omega | (apply PD.lt_size; (first | decide | omega)))) only [PD.compD_nil, PD.compD_cons, PD.c_cp0_e, PD.c_cp1_t, PD.c_cp1_f, PD.c_cp2_e, PD.c_k0_e, PD.c_k1_t, PD.c_k1_f, PD.c_k2_e, PD.forD_nil, PD.forD_cons, PD.c_f1_e, PD.c_f2_nx, PD.c_f2_ct, PD.c_f2_bk, PD.c_f2_rt, ↓Option.bind_some, ↓reduceIte, PD.sCons_e, PD.sTup_e, PD.sLst_e, PD.bin_e, PD.un_e, PD.callD_e, PD.callI_e, PD.tru_e, PD.tand_e, PD.tor_e, PD.tnot_e, PD.vand_e, PD.vor_e, PD.sIf_e, PD.nl_e, PD.lenO_e, PD.truO_e, PD.ixO_e, PD.methO_e, PD.sSl_e, PD.oSome_e, PD.wS_e, PD.wR1_e, PD.wR2_e, PD.wE_e, PD.wZ_e, PD.sLc_e, PD.kSeq_e, PD.kDrop_e, PD.kSet_e, PD.kOwn_e, PD.kAsg_e, PD.kPar_e, PD.kPar3_e, PD.kIf_e, PD.kRet_e, PD.kRetO_e, PD.kFor_e, PD.kWhile_e, PD.c_ret_e, PD.c_retL_e, PD.c_retB_e, PD.c_sCons2_e, PD.c_sCons1_e, PD.c_tup_e, PD.c_lst_e, PD.c_bin2_e, PD.c_bin1_e, PD.c_un_e, PD.c_call_e, PD.c_callI3_e, PD.c_callI2_e, PD.c_callI_e, PD.c_tru_e, PD.c_and_t, PD.c_and_f, PD.c_or_t, PD.c_or_f, PD.c_not_e, PD.c_vand_t, PD.c_vand_f, PD.c_vor_t, PD.c_vor_f, PD.c_sif_t, PD.c_sif_f, PD.c_nl_e, PD.c_lenO_e, PD.c_truO_e, PD.c_ixO2_e, PD.c_ixO_e, PD.c_meth3_e, PD.c_meth2_e, PD.c_meth_e, PD.c_sl3_e, PD.c_sl2_e, PD.c_sl_e, PD.c_os_e, PD.c_wS_e, PD.c_wR1_e, PD.c_wR2_e, PD.c_wE_e, PD.c_wZ_l, PD.c_wZ_t, PD.c_lc2_e, PD.c_lc_e, PD.c_seq_nx, PD.c_seq_bk, PD.c_seq_ct, PD.c_seq_rt, PD.c_drop_e, PD.c_set_e, PD.c_own_e, PD.c_nx_e, PD.c_asg_e, PD.c_par_e, PD.c_par3_e, PD.c_if_t, PD.c_if_f, PD.c_rt_e, PD.c_rto_e, PD.c_for_e, PD.c_gO3_e, PD.c_gO2_e, PD.c_gO_e, PD.gO_e, PD.gN_e, PD.gsNil_e, PD.gsCons_e, PD.gT_e, PD.sNil_e, PD.sC_e, PD.oNone_e, PD.tYesD_e, PD.kNil_e, PD.kRetN_e, PD.kBk_e, PD.kCt_e, PD.kNever_e, PD.runP_e, PD.runI_e, PD.outP_nx, PD.outP_rt, PD.outI_nx, PD.outI_rt, PD.sV, PD.ownL, PD.ini, List.map_cons, List.map_nil, List.length_cons, List.length_nil, Nat.reduceSub, Nat.reduceAdd, Nat.sub_self, Nat.zero_add, List.replicate_succ, List.replicate_zero, List.append_nil, List.cons_append, List.nil_append, List.getElem?_cons_zero, List.getElem?_cons_succ, List.getElem?_nil, List.set_cons_zero, List.set_cons_succ, Option.bind_none, Option.bind_assoc, Option.map_some, PD.seqD_list, PD.seqD_tuple, PD.wipeD, PD.unwipe, PD.rng1_i, PD.appD_l, PD.ixD_l, PD.ixD_t, PD.truD_n, PD.truD_b, PD.truD_i, PD.truD_l, PD.truD_t, PD.sliceD_l, PD.sliceD_t, PD.subD_i, PD.negD_i, PD.notD_b, PD.ltD_i, PD.leD_i, PD.gtD_i, PD.geD_i, PD.absD_i, PD.intD_i, PD.intD_b, PD.max2_i, PD.min2_i, PD.max3_i, PD.min3_i, PD.chn_e, PD.c_ch0_e, PD.c_ch1_e, PD.c_ch2_t, PD.c_ch2_f, PD.c_ch3_e, PD.lenD_l, PD.lenD_t, PD.listD_l, PD.listD_t, PD.tupleD_l, PD.tupleD_t, PD.listrevD_l, PD.iaddD_i, PD.addD_i, PD.mulD_i, PD.fdivD_i, PD.modD_i, PD.divmodD_i, PD.eqD_i, PD.neD_i, PD.isN_none, PD.isN_bool, PD.isN_int, PD.isN_str, PD.isN_list, PD.isN_tuple, PD.notN_none, PD.notN_bool, PD.notN_int, PD.notN_str, PD.notN_list, PD.notN_tuple, PD.eqD_b2, PD.neD_b2, PD.ix0, PD.ix1, PD.ix2, PD.ix3, PD.ix4, PD.ix5, PD.ixm1, PD.ixN30, PD.ixN31, PD.ixN32, Bool.false_eq_true, Bool.not_true, Bool.not_false, reduceCtorEq, decide_true, decide_false, Nat.reduceLT, Nat.reduceLeDiff, Nat.reduceEqDiff, Int.reduceLT, Int.reduceLE, Int.reduceToNat, Int.reduceNeg, Option.getD_some, Option.getD_none, and_self, and_true, true_and, PD.le_size, beq_self_eq_true, Bool.true_beq, Bool.false_beq, m__law_alike, isiD, isi2, tyD, kb_list_bool, kb_list_int, kb_list_list, kb_list_tuple, kb_list_str, alike_comp n ih (.list ds) (.list ds) ds [] h'.2 (by simpa using hl), all_rep]
    | tuple ds =>
      unfold simp1 at h
      have h' := Bool.and_eq_true_iff.mp h
      have hl := of_decide_eq_true h'.1
      simp -implicitDefEqProofs (disch := (first | assumption | (refine' PD.mulOk_sz ?a ?b ?c; (case a => (repeat' (first | assumption | exact PD.Sz.fmod (PD.Sz.lit (n := 64) (by decide)) (by decide) | exact PD.Sz.lit (n := 64) (by decide) | apply PD.Sz.mul | apply PD.Sz.add | apply PD.Sz.sub | apply PD.Sz.neg))); (case b => (repeat' (first | assumption | exact PD.Sz.fmod (PD.Sz.lit (n := 64) (by decide)) (by decide) | exact PD.Sz.lit (n := 64) (by decide) | apply PD.Sz.mul | apply PD.Sz.add | apply PD.Sz.sub | apply PD.Sz.neg))); (case c => decide)) | (exact PD.divOk_sz (PD.Sz.lit (n := 64) (by decide)) (by decide) (by decide)) | omega | (apply PD.lt_size; (first | decide | omega)))) only [PD.compD_nil, PD.compD_cons, PD.c_cp0_e, PD.c_cp1_t, PD.c_cp1_f, PD.c_cp2_e, PD.c_k0_e, PD.c_k1_t, PD.c_k1_f, PD.c_k2_e, PD.forD_nil, PD.forD_cons, PD.c_f1_e, PD.c_f2_nx, PD.c_f2_ct, PD.c_f2_bk, PD.c_f2_rt, ↓Option.bind_some, ↓reduceIte, PD.sCons_e, PD.sTup_e, PD.sLst_e, PD.bin_e, PD.un_e, PD.callD_e, PD.callI_e, PD.tru_e, PD.tand_e, PD.tor_e, PD.tnot_e, PD.vand_e, PD.vor_e, PD.sIf_e, PD.nl_e, PD.lenO_e, PD.truO_e, PD.ixO_e, PD.methO_e, PD.sSl_e, PD.oSome_e, PD.wS_e, PD.wR1_e, PD.wR2_e, PD.wE_e, PD.wZ_e, PD.sLc_e, PD.kSeq_e, PD.kDrop_e, PD.kSet_e, PD.kOwn_e, PD.kAsg_e, PD.kPar_e, PD.kPar3_e, PD.kIf_e, PD.kRet_e, PD.kRetO_e, PD.kFor_e, PD.kWhile_e, PD.c_ret_e, PD.c_retL_e, PD.c_retB_e, PD.c_sCons2_e, PD.c_sCons1_e, PD.c_tup_e, PD.c_lst_e, PD.c_bin2_e, PD.c_bin1_e, PD.c_un_e, PD.c_call_e, PD.c_callI3_e, PD.c_callI2_e, PD.c_callI_e, PD.c_tru_e, PD.c_and_t, PD.c_and_f, PD.c_or_t, PD.c_or_f, PD.c_not_e, PD.c_vand_t, PD.c_vand_f, PD.c_vor_t, PD.c_vor_f, PD.c_sif_t, PD.c_sif_f, PD.c_nl_e, PD.c_lenO_e, PD.c_truO_e, PD.c_ixO2_e, PD.c_ixO_e, PD.c_meth3_e, PD.c_meth2_e, PD.c_meth_e, PD.c_sl3_e, PD.c_sl2_e, PD.c_sl_e, PD.c_os_e, PD.c_wS_e, PD.c_wR1_e, PD.c_wR2_e, PD.c_wE_e, PD.c_wZ_l, PD.c_wZ_t, PD.c_lc2_e, PD.c_lc_e, PD.c_seq_nx, PD.c_seq_bk, PD.c_seq_ct, PD.c_seq_rt, PD.c_drop_e, PD.c_set_e, PD.c_own_e, PD.c_nx_e, PD.c_asg_e, PD.c_par_e, PD.c_par3_e, PD.c_if_t, PD.c_if_f, PD.c_rt_e, PD.c_rto_e, PD.c_for_e, PD.c_gO3_e, PD.c_gO2_e, PD.c_gO_e, PD.gO_e, PD.gN_e, PD.gsNil_e, PD.gsCons_e, PD.gT_e, PD.sNil_e, PD.sC_e, PD.oNone_e, PD.tYesD_e, PD.kNil_e, PD.kRetN_e, PD.kBk_e, PD.kCt_e, PD.kNever_e, PD.runP_e, PD.runI_e, PD.outP_nx, PD.outP_rt, PD.outI_nx, PD.outI_rt, PD.sV, PD.ownL, PD.ini, List.map_cons, List.map_nil, List.length_cons, List.length_nil, Nat.reduceSub, Nat.reduceAdd, Nat.sub_self, Nat.zero_add, List.replicate_succ, List.replicate_zero, List.append_nil, List.cons_append, List.nil_append, List.getElem?_cons_zero, List.getElem?_cons_succ, List.getElem?_nil, List.set_cons_zero, List.set_cons_succ, Option.bind_none, Option.bind_assoc, Option.map_some, PD.seqD_list, PD.seqD_tuple, PD.wipeD, PD.unwipe, PD.rng1_i, PD.appD_l, PD.ixD_l, PD.ixD_t, PD.truD_n, PD.truD_b, PD.truD_i, PD.truD_l, PD.truD_t, PD.sliceD_l, PD.sliceD_t, PD.subD_i, PD.negD_i, PD.notD_b, PD.ltD_i, PD.leD_i, PD.gtD_i, PD.geD_i, PD.absD_i, PD.intD_i, PD.intD_b, PD.max2_i, PD.min2_i, PD.max3_i, PD.min3_i, PD.chn_e, PD.c_ch0_e, PD.c_ch1_e, PD.c_ch2_t, PD.c_ch2_f, PD.c_ch3_e, PD.lenD_l, PD.lenD_t, PD.listD_l, PD.listD_t, PD.tupleD_l, PD.tupleD_t, PD.listrevD_l, PD.iaddD_i, PD.addD_i, PD.mulD_i, PD.fdivD_i, PD.modD_i, PD.divmodD_i, PD.eqD_i, PD.neD_i, PD.isN_none, PD.isN_bool, PD.isN_int, PD.isN_str, PD.isN_list, PD.isN_tuple, PD.notN_none, PD.notN_bool, PD.notN_int, PD.notN_str, PD.notN_list, PD.notN_tuple, PD.eqD_b2, PD.neD_b2, PD.ix0, PD.ix1, PD.ix2, PD.ix3, PD.ix4, PD.ix5, PD.ixm1, PD.ixN30, PD.ixN31, PD.ixN32, Bool.false_eq_true, Bool.not_true, Bool.not_false, reduceCtorEq, decide_true, decide_false, Nat.reduceLT, Nat.reduceLeDiff, Nat.reduceEqDiff, Int.reduceLT, Int.reduceLE, Int.reduceToNat, Int.reduceNeg, Option.getD_some, Option.getD_none, and_self, and_true, true_and, PD.le_size, beq_self_eq_true, Bool.true_beq, Bool.false_beq, m__law_alike, isiD, isi2, tyD, kb_tuple_bool, kb_tuple_list, kb_tuple_tuple, alike_comp n ih (.tuple ds) (.tuple ds) ds [] h'.2 (by simpa using hl), all_rep]
    | dict _ => cases h
end W

set_option maxHeartbeats 2000000
namespace W
open PySem L2 PD
theorem simps_map {α : Type} {n : Nat} {f : α → D} (h : ∀ x, simp1 n (f x) = true) : ∀ l : List α, simps n (l.map f) = true
  | [] => rfl
  | x :: l => by
    show (simp1 n (f x) && simps n (l.map f)) = true
    rw [h x, simps_map h l]; rfl
theorem alike_tup {α : Type} {f : α → D} (h : ∀ x, simp1 5 (f x) = true) {l : List α} (hl : l.length ≤ 1000000) : e__law_alike 6 [.tuple (l.map f), .tuple (l.map f)] = some (.bool true) := by
  refine alike_sp 6 _ ?_
  show (decide ((l.map f).length ≤ 1000000) && simps 5 (l.map f)) = true
  rw [simps_map h, decide_eq_true (by rw [List.length_map]; exact hl)]; rfl
theorem wl_fst (ps : List IP) : (wl ps).map Prod.fst = ps := by
  cases ps with
  | nil => rfl
  | cons p r =>
    have key : ∀ (l : List IP) (a b : IP), (prs a (l ++ [b])).map Prod.fst = a :: l := by
      intro l
      induction l with
      | nil => intro a b; rfl
      | cons c l ih => intro a b; show a :: (prs c (l ++ [b])).map Prod.fst = _; rw [ih]
    exact key r p p
theorem wl_get {p : IP} {r : List IP} {j : Nat} (hj : j < (p :: r).length) : (wl (p :: r))[j]? = some ((p :: r)[j], if h : j + 1 < (p :: r).length then (p :: r)[j + 1] else p) := by
  rw [List.length_cons] at hj
  show (prs p (r ++ [p]))[j]? = _
  rw [prs_get (r ++ [p]) p j (by rw [List.length_append, List.length_singleton]; exact hj)]
  congr 2
  · cases j with
    | zero => rfl
    | succ j => rw [List.getElem_cons_succ, List.getElem_cons_succ, List.getElem_append_left (by omega)]
  · split
    · rename_i h
      rw [List.length_cons] at h
      rw [List.getElem_append_left (by omega), List.getElem_cons_succ]
    · rename_i h
      rw [List.length_cons] at h
      rw [List.getElem_append_right (by omega)]
      simp
def bIn : SS := (kSeq (kDrop (methO 4 appD (sCons (bin ixD (sV 6) (sV 8)) sNil)))
  (kDrop (methO 5 appD (sCons (sTup (sCons (bin ixD (sV 6) (sV 8)) (sCons (sIf (tru (bin ltD (bin addD (sV 8) (sC (.int 1))) (callD lenD (sCons (sV 6) sNil)))) (bin ixD (sV 6) (bin addD (sV 8) (sC (.int 1)))) (bin ixD (sV 6) (sC (.int 0)))) sNil))) sNil))))
def kSt (c : List D) (R w : D) (C : List IP) (S : List (IP × IP)) (ring k : Option D) : DSt := [none, some (.list c), some R, some w, some (.list (C.map pt3)), some (.list (S.map prD)), ring, none, k]
theorem inner {c : List D} {R w : D} {C : List IP} {S : List (IP × IP)} {ps : List IP} {k : Option D} (h : RingOk ps) (hC : C.length ≤ 10000) (hS : S.length ≤ 10000) : ∃ k', forD (gN 8) bIn (rng 0 ps.length) (kSt c R w C S (some (ringD ps)) k) = some (.nx (kSt c R w (C ++ ps) (S ++ wl ps) (some (ringD ps)) k')) := by
  cases ps with
  | nil => exact absurd rfl h.ne
  | cons p r =>
    have hl := h.len
    have key := wp_for (g := gN 8) (fb := bIn) (Q := fun o => ∃ k', o = .nx (kSt c R w (C ++ (p :: r)) (S ++ wl (p :: r)) (some (ringD (p :: r))) k')) (fun i t => ∃ k', t = kSt c R w (C ++ (p :: r).take i) (S ++ (wl (p :: r)).take i) (some (ringD (p :: r))) k') (rng 0 (p :: r).length) 0 (kSt c R w C S (some (ringD (p :: r))) k) ⟨k, by rw [List.take_zero, List.take_zero, List.append_nil, List.append_nil]⟩ (fun j d t hj hi => ?_) fun t hi => ?_
    · obtain ⟨o, e, k', rfl⟩ := key
      exact ⟨k', e⟩
    · obtain ⟨k', rfl⟩ := hi
      obtain ⟨hj1, rfl⟩ := rng_get hj
      rw [Nat.zero_add, show (0 + (j : Int)) = (j : Int) by omega]
      have hg := wl_get hj1
      have hj2 : j < (wl (p :: r)).length := by rw [wl_len]; exact hj1
      rw [List.getElem?_eq_getElem hj2] at hg
      have hg := Option.some.inj hg
      have t1 : (p :: r).take (j + 1) = (p :: r).take j ++ [(p :: r)[j]] := List.take_succ_eq_append_getElem hj1
      have t2 : (wl (p :: r)).take (j + 1) = (wl (p :: r)).take j ++ [((p :: r)[j], if h : j + 1 < (p :: r).length then (p :: r)[j + 1] else p)] := by rw [← hg]; exact List.take_succ_eq_append_getElem hj2
      rw [t1, t2, ← List.append_assoc, ← List.append_assoc]
      have i1 : atI ((p :: r).map pt3) (j : Int) = some (pt3 (p :: r)[j]) := atI_map hj1 pt3
      have i0 : atI ((p :: r).map pt3) 0 = some (pt3 p) := ix0
      have hL : ((p :: r).map pt3).length = (p :: r).length := List.length_map _
      have l1 : ((C ++ (p :: r).take j).map pt3).length < sizeLine := lt_size (by rw [List.length_map, List.length_append, List.length_take]; omega)
      have l2 : ((S ++ (wl (p :: r)).take j).map prD).length < sizeLine := lt_size (by rw [List.length_map, List.length_append, List.length_take, wl_len]; omega)
      have m1 : (C ++ (p :: r).take j ++ [(p :: r)[j]]).map pt3 = (C ++ (p :: r).take j).map pt3 ++ [pt3 (p :: r)[j]] := by rw [List.map_append (l₂ := [_])]; rfl
      have m2 : ∀ z, (S ++ (wl (p :: r)).take j ++ [((p :: r)[j], z)]).map prD = (S ++ (wl (p :: r)).take j).map prD ++ [.tuple [pt3 (p :: r)[j], pt3 z]] := fun z => by rw [List.map_append (l₂ := [_])]; rfl
      generalize (C ++ (p :: r).take j) = C1 at *
      generalize (S ++ (wl (p :: r)).take j) = S1 at *
      by_cases hlt : j + 1 < (p :: r).length
      · have i2 : atI ((p :: r).map pt3) ((j : Int) + 1) = some (pt3 (p :: r)[j + 1]) := by rw [show ((j : Int) + 1) = ((j + 1 : Nat) : Int) by omega]; exact atI_map hlt pt3
        rw [dif_pos hlt]
        have hd : decide ((j : Int) + 1 < ((p :: r).length : Int)) = true := decide_eq_true (by omega)
        unfold kSt ringD
        rw [m1, m2]
        generalize (p :: r)[j + 1] = z at *
        generalize (p :: r)[j] = y at *
        obtain ⟨L, hLL⟩ : ∃ L, L = (p :: r).map pt3 := ⟨_, rfl⟩
        rw [← hLL] at i1 i2 i0 hL ⊢
        obtain ⟨N, hN⟩ : ∃ N, N = (p :: r).length := ⟨_, rfl⟩
        rw [← hN] at hL hd
        simp -implicitDefEqProofs (disch := (first | assumption | (refine' PD.mulOk_sz ?a ?b ?c; (case a => (repeat' (first | assumption | exact PD.Sz.fmod (PD.Sz.lit (n := 64) (by decide)) (by decide) | exact PD.Sz.lit (n := 64) (by decide) | apply PD.Sz.mul | apply PD.Sz.add | apply PD.Sz.sub | apply PD.Sz.neg))); (case b => (repeat' (first | assumption | exact PD.Sz.fmod (PD.Sz.lit (n := 64) (by decide)) (by decide) | exact PD.Sz.lit (n := 64) (by decide) | apply PD.Sz.mul | apply PD.Sz.add | apply PD.Sz.sub | apply PD.Sz.neg))); (case c => decide)) | (exact PD.divOk_sz (PD.Sz.lit (n := 64) (by decide)) (by decide) (by decide)) | omega | (apply PD.lt_size; (first | decide | omega)))) only [PD.compD_nil, PD.compD_cons, PD.c_cp0_e, PD.c_cp1_t, PD.c_cp1_f, PD.c_cp2_e, PD.c_k0_e, PD.c_k1_t, PD.c_k1_f, PD.c_k2_e, PD.forD_nil, PD.forD_cons, PD.c_f1_e, PD.c_f2_nx, PD.c_f2_ct, PD.c_f2_bk, PD.c_f2_rt, ↓Option.bind_some, ↓reduceIte, PD.sCons_e, PD.sTup_e, PD.sLst_e, PD.bin_e, PD.un_e, PD.callD_e, PD.callI_e, PD.tru_e, PD.tand_e, PD.tor_e, PD.tnot_e, PD.vand_e, PD.vor_e, PD.sIf_e, PD.nl_e, PD.lenO_e, PD.truO_e, PD.ixO_e, PD.methO_e, PD.sSl_e, PD.oSome_e, PD.wS_e, PD.wR1_e, PD.wR2_e, PD.wE_e, PD.wZ_e, PD.sLc_e, PD.kSeq_e, PD.kDrop_e, PD.kSet_e, PD.kOwn_e, PD.kAsg_e, PD.kPar_e, PD.kPar3_e, PD.kIf_e, PD.kRet_e, PD.kRetO_e, PD.kFor_e, PD.kWhile_e, PD.c_ret_e, PD.c_retL_e, PD.c_retB_e, PD.c_sCons2_e, PD.c_sCons1_e, PD.c_tup_e, PD.c_lst_e, PD.c_bin2_e, PD.c_bin1_e, PD.c_un_e, PD.c_call_e, PD.c_callI3_e, PD.c_callI2_e, PD.c_callI_e, PD.c_tru_e, PD.c_and_t, PD.c_and_f, PD.c_or_t, PD.c_or_f, PD.c_not_e, PD.c_vand_t, PD.c_vand_f, PD.c_vor_t, PD.c_vor_f, PD.c_sif_t, PD.c_sif_f, PD.c_nl_e, PD.c_lenO_e, PD.c_truO_e, PD.c_ixO2_e, PD.c_ixO_e, PD.c_meth3_e, PD.c_meth2_e, PD.c_meth_e, PD.c_sl3_e, PD.c_sl2_e, PD.c_sl_e, PD.c_os_e, PD.c_wS_e, PD.c_wR1_e, PD.c_wR2_e, PD.c_wE_e, PD.c_wZ_l, PD.c_wZ_t, PD.c_lc2_e, PD.c_lc_e, PD.c_seq_nx, PD.c_seq_bk, PD.c_seq_ct, PD.c_seq_rt, PD.c_drop_e, PD.c_set_e, PD.c_own_e, PD.c_nx_e, PD.c_asg_e, PD.c_par_e, PD.c_par3_e, PD.c_if_t, PD.c_if_f, PD.c_rt_e, PD.c_rto_e, PD.c_for_e, PD.c_gO3_e, PD.c_gO2_e, PD.c_gO_e, PD.gO_e, PD.gN_e, PD.gsNil_e, PD.gsCons_e, PD.gT_e, PD.sNil_e, PD.sC_e, PD.oNone_e, PD.tYesD_e, PD.kNil_e, PD.kRetN_e, PD.kBk_e, PD.kCt_e, PD.kNever_e, PD.runP_e, PD.runI_e, PD.outP_nx, PD.outP_rt, PD.outI_nx, PD.outI_rt, PD.sV, PD.ownL, PD.ini, List.map_cons, List.map_nil, List.length_cons, List.length_nil, Nat.reduceSub, Nat.reduceAdd, Nat.sub_self, Nat.zero_add, List.replicate_succ, List.replicate_zero, List.append_nil, List.cons_append, List.nil_append, List.getElem?_cons_zero, List.getElem?_cons_succ, List.getElem?_nil, List.set_cons_zero, List.set_cons_succ, Option.bind_none, Option.bind_assoc, Option.map_some, PD.seqD_list, PD.seqD_tuple, PD.wipeD, PD.unwipe, PD.rng1_i, PD.appD_l, PD.ixD_l, PD.ixD_t, PD.truD_n, PD.truD_b, PD.truD_i, PD.truD_l, PD.truD_t, PD.sliceD_l, PD.sliceD_t, PD.subD_i, PD.negD_i, PD.notD_b, PD.ltD_i, PD.leD_i, PD.gtD_i, PD.geD_i, PD.absD_i, PD.intD_i, PD.intD_b, PD.max2_i, PD.min2_i, PD.max3_i, PD.min3_i, PD.chn_e, PD.c_ch0_e, PD.c_ch1_e, PD.c_ch2_t, PD.c_ch2_f, PD.c_ch3_e, PD.lenD_l, PD.lenD_t, PD.listD_l, PD.listD_t, PD.tupleD_l, PD.tupleD_t, PD.listrevD_l, PD.iaddD_i, PD.addD_i, PD.mulD_i, PD.fdivD_i, PD.modD_i, PD.divmodD_i, PD.eqD_i, PD.neD_i, PD.isN_none, PD.isN_bool, PD.isN_int, PD.isN_str, PD.isN_list, PD.isN_tuple, PD.notN_none, PD.notN_bool, PD.notN_int, PD.notN_str, PD.notN_list, PD.notN_tuple, PD.eqD_b2, PD.neD_b2, PD.ix0, PD.ix1, PD.ix2, PD.ix3, PD.ix4, PD.ix5, PD.ixm1, PD.ixN30, PD.ixN31, PD.ixN32, Bool.false_eq_true, Bool.not_true, Bool.not_false, reduceCtorEq, decide_true, decide_false, Nat.reduceLT, Nat.reduceLeDiff, Nat.reduceEqDiff, Int.reduceLT, Int.reduceLE, Int.reduceToNat, Int.reduceNeg, Option.getD_some, Option.getD_none, and_self, and_true, true_and, PD.le_size, beq_self_eq_true, Bool.true_beq, Bool.false_beq, bIn, i1, i2, hL, hd]
        exact wp_some ⟨_, .inl rfl, _, rfl⟩
      · rw [dif_neg hlt]
        have hd : decide ((j : Int) + 1 < ((p :: r).length : Int)) = false := decide_eq_false (by omega)
        unfold kSt ringD
        rw [m1, m2]
        generalize (p :: r)[j] = y at *
        obtain ⟨L, hLL⟩ : ∃ L, L = (p :: r).map pt3 := ⟨_, rfl⟩
        rw [← hLL] at i1 i0 hL ⊢
        obtain ⟨N, hN⟩ : ∃ N, N = (p :: r).length := ⟨_, rfl⟩
        rw [← hN] at hL hd
        simp -implicitDefEqProofs (disch := (first | assumption | (refine' PD.mulOk_sz ?a ?b ?c; (case a => (repeat' (first | assumption | exact PD.Sz.fmod (PD.Sz.lit (n := 64) (by decide)) (by decide) | exact PD.Sz.lit (n := 64) (by decide) | apply PD.Sz.mul | apply PD.Sz.add | apply PD.Sz.sub | apply PD.Sz.neg))); (case b => (repeat' (first | assumption | exact PD.Sz.fmod (PD.Sz.lit (n := 64) (by decide)) (by decide) | exact PD.Sz.lit (n := 64) (by decide) | apply PD.Sz.mul | apply PD.Sz.add | apply PD.Sz.sub | apply PD.Sz.neg))); (case c => decide)) | (exact PD.divOk_sz (PD.Sz.lit (n := 64) (by decide)) (by decide) (by decide)) | omega | (apply PD.lt_size; (first | decide | omega)))) only [PD.compD_nil, PD.compD_cons, PD.c_cp0_e, PD.c_cp1_t, PD.c_cp1_f, PD.c_cp2_e, PD.c_k0_e, PD.c_k1_t, PD.c_k1_f, PD.c_k2_e, PD.forD_nil, PD.forD_cons, PD.c_f1_e, PD.c_f2_nx, PD.c_f2_ct, PD.c_f2_bk, PD.c_f2_rt, ↓Option.bind_some, ↓reduceIte, PD.sCons_e, PD.sTup_e, PD.sLst_e, PD.bin_e, PD.un_e, PD.callD_e, PD.callI_e, PD.tru_e, PD.tand_e, PD.tor_e, PD.tnot_e, PD.vand_e, PD.vor_e, PD.sIf_e, PD.nl_e, PD.lenO_e, PD.truO_e, PD.ixO_e, PD.methO_e, PD.sSl_e, PD.oSome_e, PD.wS_e, PD.wR1_e, PD.wR2_e, PD.wE_e, PD.wZ_e, PD.sLc_e, PD.kSeq_e, PD.kDrop_e, PD.kSet_e, PD.kOwn_e, PD.kAsg_e, PD.kPar_e, PD.kPar3_e, PD.kIf_e, PD.kRet_e, PD.kRetO_e, PD.kFor_e, PD.kWhile_e, PD.c_ret_e, PD.c_retL_e, PD.c_retB_e, PD.c_sCons2_e, PD.c_sCons1_e, PD.c_tup_e, PD.c_lst_e, PD.c_bin2_e, PD.c_bin1_e, PD.c_un_e, PD.c_call_e, PD.c_callI3_e, PD.c_callI2_e, PD.c_callI_e, PD.c_tru_e, PD.c_and_t, PD.c_and_f, PD.c_or_t, PD.c_or_f, PD.c_not_e, PD.c_vand_t, PD.c_vand_f, PD.c_vor_t, PD.c_vor_f, PD.c_sif_t, PD.c_sif_f, PD.c_nl_e, PD.c_lenO_e, PD.c_truO_e, PD.c_ixO2_e, PD.c_ixO_e, PD.c_meth3_e, PD.c_meth2_e, PD.c_meth_e, PD.c_sl3_e, PD.c_sl2_e, PD.c_sl_e, PD.c_os_e, PD.c_wS_e, PD.c_wR1_e, PD.c_wR2_e, PD.c_wE_e, PD.c_wZ_l, PD.c_wZ_t, PD.c_lc2_e, PD.c_lc_e, PD.c_seq_nx, PD.c_seq_bk, PD.c_seq_ct, PD.c_seq_rt, PD.c_drop_e, PD.c_set_e, PD.c_own_e, PD.c_nx_e, PD.c_asg_e, PD.c_par_e, PD.c_par3_e, PD.c_if_t, PD.c_if_f, PD.c_rt_e, PD.c_rto_e, PD.c_for_e, PD.c_gO3_e, PD.c_gO2_e, PD.c_gO_e, PD.gO_e, PD.gN_e, PD.gsNil_e, PD.gsCons_e, PD.gT_e, PD.sNil_e, PD.sC_e, PD.oNone_e, PD.tYesD_e, PD.kNil_e, PD.kRetN_e, PD.kBk_e, PD.kCt_e, PD.kNever_e, PD.runP_e, PD.runI_e, PD.outP_nx, PD.outP_rt, PD.outI_nx, PD.outI_rt, PD.sV, PD.ownL, PD.ini, List.map_cons, List.map_nil, List.length_cons, List.length_nil, Nat.reduceSub, Nat.reduceAdd, Nat.sub_self, Nat.zero_add, List.replicate_succ, List.replicate_zero, List.append_nil, List.cons_append, List.nil_append, List.getElem?_cons_zero, List.getElem?_cons_succ, List.getElem?_nil, List.set_cons_zero, List.set_cons_succ, Option.bind_none, Option.bind_assoc, Option.map_some, PD.seqD_list, PD.seqD_tuple, PD.wipeD, PD.unwipe, PD.rng1_i, PD.appD_l, PD.ixD_l, PD.ixD_t, PD.truD_n, PD.truD_b, PD.truD_i, PD.truD_l, PD.truD_t, PD.sliceD_l, PD.sliceD_t, PD.subD_i, PD.negD_i, PD.notD_b, PD.ltD_i, PD.leD_i, PD.gtD_i, PD.geD_i, PD.absD_i, PD.intD_i, PD.intD_b, PD.max2_i, PD.min2_i, PD.max3_i, PD.min3_i, PD.chn_e, PD.c_ch0_e, PD.c_ch1_e, PD.c_ch2_t, PD.c_ch2_f, PD.c_ch3_e, PD.lenD_l, PD.lenD_t, PD.listD_l, PD.listD_t, PD.tupleD_l, PD.tupleD_t, PD.listrevD_l, PD.iaddD_i, PD.addD_i, PD.mulD_i, PD.fdivD_i, PD.modD_i, PD.divmodD_i, PD.eqD_i, PD.neD_i, PD.isN_none, PD.isN_bool, PD.isN_int, PD.isN_str, PD.isN_list, PD.isN_tuple, PD.notN_none, PD.notN_bool, PD.notN_int, PD.notN_str, PD.notN_list, PD.notN_tuple, PD.eqD_b2, PD.neD_b2, PD.ix0, PD.ix1, PD.ix2, PD.ix3, PD.ix4, PD.ix5, PD.ixm1, PD.ixN30, PD.ixN31, PD.ixN32, Bool.false_eq_true, Bool.not_true, Bool.not_false, reduceCtorEq, decide_true, decide_false, Nat.reduceLT, Nat.reduceLeDiff, Nat.reduceEqDiff, Int.reduceLT, Int.reduceLE, Int.reduceToNat, Int.reduceNeg, Option.getD_some, Option.getD_none, and_self, and_true, true_and, PD.le_size, beq_self_eq_true, Bool.true_beq, Bool.false_beq, bIn, i1, i0, hL, hd]
        exact wp_some ⟨_, .inl rfl, _, rfl⟩
    · obtain ⟨k', rfl⟩ := hi
      rw [rng_len', Nat.zero_add, List.take_length, List.take_of_length_le (by rw [wl_len]; exact Nat.le_refl _)]
      exact ⟨k', rfl⟩
end W

set_option maxHeartbeats 2000000
namespace W
open PySem L2 PD
theorem outer_w {c : List D} {R w : D} : ∀ (rs : List (List IP)) (C : List IP) (S : List (IP × IP)) (x k : Option D), (∀ r ∈ rs, RingOk r) → C.length + 100 * rs.length ≤ 10000 → S.length + 100 * rs.length ≤ 10000 → ∃ x' k', forD (gN 6) (kFor (wR1 (sCons (callD lenD (sCons (sV 6) sNil)) sNil)) (gN 8) bIn) (rs.map ringD) (kSt c R w C S x k) = some (.nx (kSt c R w (C ++ rs.flatten) (S ++ rs.flatMap wl) x' k'))
  | [], C, S, x, k, _, _, _ => ⟨x, k, by rw [List.flatten_nil, List.flatMap_nil, List.append_nil, List.append_nil]; rfl⟩
  | r :: rs, C, S, x, k, h, hC, hS => by
    rw [List.length_cons] at hC hS
    have hr := h r List.mem_cons_self
    have hl := hr.len
    obtain ⟨k1, e1⟩ := inner (c := c) (R := R) (w := w) (C := C) (S := S) (k := k) hr (by omega) (by omega)
    obtain ⟨x2, k2, e2⟩ := outer_w (c := c) (R := R) (w := w) rs (C ++ r) (S ++ wl r) (some (ringD r)) k1 (fun q hq => h q (List.mem_cons_of_mem _ hq)) (by rw [List.length_append]; omega) (by rw [List.length_append, wl_len]; omega)
    refine ⟨x2, k2, ?_⟩
    rw [List.append_assoc, List.append_assoc] at e2
    rw [List.map_cons, List.flatten_cons, List.flatMap_cons, ← e2]
    have hto : ((r.length : Nat) : Int).toNat = r.length := Int.toNat_natCast _
    have hlen : (r.map pt3).length = r.length := List.length_map _
    have e3 : kFor (wR1 (sCons (callD lenD (sCons (sV 6) sNil)) sNil)) (gN 8) bIn (kSt c R w C S (some (ringD r)) k) = some (.nx (kSt c R w (C ++ r) (S ++ wl r) (some (ringD r)) k1)) := by
      unfold kSt ringD at e1 ⊢
      simp -implicitDefEqProofs (disch := (first | assumption | (refine' PD.mulOk_sz ?a ?b ?c; (case a => (repeat' (first | assumption | exact PD.Sz.fmod (PD.Sz.lit (n := 64) (by decide)) (by decide) | exact PD.Sz.lit (n := 64) (by decide) | apply PD.Sz.mul | apply PD.Sz.add | apply PD.Sz.sub | apply PD.Sz.neg))); (case b => (repeat' (first | assumption | exact PD.Sz.fmod (PD.Sz.lit (n := 64) (by decide)) (by decide) | exact PD.Sz.lit (n := 64) (by decide) | apply PD.Sz.mul | apply PD.Sz.add | apply PD.Sz.sub | apply PD.Sz.neg))); (case c => decide)) | (exact PD.divOk_sz (PD.Sz.lit (n := 64) (by decide)) (by decide) (by decide)) | omega | (apply PD.lt_size; (first | decide | omega)))) only [PD.compD_nil, PD.compD_cons, PD.c_cp0_e, PD.c_cp1_t, PD.c_cp1_f, PD.c_cp2_e, PD.c_k0_e, PD.c_k1_t, PD.c_k1_f, PD.c_k2_e, PD.forD_nil, PD.forD_cons, PD.c_f1_e, PD.c_f2_nx, PD.c_f2_ct, PD.c_f2_bk, PD.c_f2_rt, ↓Option.bind_some, ↓reduceIte, PD.sCons_e, PD.sTup_e, PD.sLst_e, PD.bin_e, PD.un_e, PD.callD_e, PD.callI_e, PD.tru_e, PD.tand_e, PD.tor_e, PD.tnot_e, PD.vand_e, PD.vor_e, PD.sIf_e, PD.nl_e, PD.lenO_e, PD.truO_e, PD.ixO_e, PD.methO_e, PD.sSl_e, PD.oSome_e, PD.wS_e, PD.wR1_e, PD.wR2_e, PD.wE_e, PD.wZ_e, PD.sLc_e, PD.kSeq_e, PD.kDrop_e, PD.kSet_e, PD.kOwn_e, PD.kAsg_e, PD.kPar_e, PD.kPar3_e, PD.kIf_e, PD.kRet_e, PD.kRetO_e, PD.kFor_e, PD.kWhile_e, PD.c_ret_e, PD.c_retL_e, PD.c_retB_e, PD.c_sCons2_e, PD.c_sCons1_e, PD.c_tup_e, PD.c_lst_e, PD.c_bin2_e, PD.c_bin1_e, PD.c_un_e, PD.c_call_e, PD.c_callI3_e, PD.c_callI2_e, PD.c_callI_e, PD.c_tru_e, PD.c_and_t, PD.c_and_f, PD.c_or_t, PD.c_or_f, PD.c_not_e, PD.c_vand_t, PD.c_vand_f, PD.c_vor_t, PD.c_vor_f, PD.c_sif_t, PD.c_sif_f, PD.c_nl_e, PD.c_lenO_e, PD.c_truO_e, PD.c_ixO2_e, PD.c_ixO_e, PD.c_meth3_e, PD.c_meth2_e, PD.c_meth_e, PD.c_sl3_e, PD.c_sl2_e, PD.c_sl_e, PD.c_os_e, PD.c_wS_e, PD.c_wR1_e, PD.c_wR2_e, PD.c_wE_e, PD.c_wZ_l, PD.c_wZ_t, PD.c_lc2_e, PD.c_lc_e, PD.c_seq_nx, PD.c_seq_bk, PD.c_seq_ct, PD.c_seq_rt, PD.c_drop_e, PD.c_set_e, PD.c_own_e, PD.c_nx_e, PD.c_asg_e, PD.c_par_e, PD.c_par3_e, PD.c_if_t, PD.c_if_f, PD.c_rt_e, PD.c_rto_e, PD.c_for_e, PD.c_gO3_e, PD.c_gO2_e, PD.c_gO_e, PD.gO_e, PD.gN_e, PD.gsNil_e, PD.gsCons_e, PD.gT_e, PD.sNil_e, PD.sC_e, PD.oNone_e, PD.tYesD_e, PD.kNil_e, PD.kRetN_e, PD.kBk_e, PD.kCt_e, PD.kNever_e, PD.runP_e, PD.runI_e, PD.outP_nx, PD.outP_rt, PD.outI_nx, PD.outI_rt, PD.sV, PD.ownL, PD.ini, List.map_cons, List.map_nil, List.length_cons, List.length_nil, Nat.reduceSub, Nat.reduceAdd, Nat.sub_self, Nat.zero_add, List.replicate_succ, List.replicate_zero, List.append_nil, List.cons_append, List.nil_append, List.getElem?_cons_zero, List.getElem?_cons_succ, List.getElem?_nil, List.set_cons_zero, List.set_cons_succ, Option.bind_none, Option.bind_assoc, Option.map_some, PD.seqD_list, PD.seqD_tuple, PD.wipeD, PD.unwipe, PD.rng1_i, PD.appD_l, PD.ixD_l, PD.ixD_t, PD.truD_n, PD.truD_b, PD.truD_i, PD.truD_l, PD.truD_t, PD.sliceD_l, PD.sliceD_t, PD.subD_i, PD.negD_i, PD.notD_b, PD.ltD_i, PD.leD_i, PD.gtD_i, PD.geD_i, PD.absD_i, PD.intD_i, PD.intD_b, PD.max2_i, PD.min2_i, PD.max3_i, PD.min3_i, PD.chn_e, PD.c_ch0_e, PD.c_ch1_e, PD.c_ch2_t, PD.c_ch2_f, PD.c_ch3_e, PD.lenD_l, PD.lenD_t, PD.listD_l, PD.listD_t, PD.tupleD_l, PD.tupleD_t, PD.listrevD_l, PD.iaddD_i, PD.addD_i, PD.mulD_i, PD.fdivD_i, PD.modD_i, PD.divmodD_i, PD.eqD_i, PD.neD_i, PD.isN_none, PD.isN_bool, PD.isN_int, PD.isN_str, PD.isN_list, PD.isN_tuple, PD.notN_none, PD.notN_bool, PD.notN_int, PD.notN_str, PD.notN_list, PD.notN_tuple, PD.eqD_b2, PD.neD_b2, PD.ix0, PD.ix1, PD.ix2, PD.ix3, PD.ix4, PD.ix5, PD.ixm1, PD.ixN30, PD.ixN31, PD.ixN32, Bool.false_eq_true, Bool.not_true, Bool.not_false, reduceCtorEq, decide_true, decide_false, Nat.reduceLT, Nat.reduceLeDiff, Nat.reduceEqDiff, Int.reduceLT, Int.reduceLE, Int.reduceToNat, Int.reduceNeg, Option.getD_some, Option.getD_none, and_self, and_true, true_and, PD.le_size, beq_self_eq_true, Bool.true_beq, Bool.false_beq, hlen, hto, e1]
    have hset : List.set (kSt c R w C S x k) 6 (some (ringD r)) = kSt c R w C S (some (ringD r)) k := rfl
    rw [forD_cons, gN_e, Option.bind_some, c_f1_e, hset, e3, Option.bind_some, c_f2_nx]
theorem peekT_true {f : SB} {t t1 : DSt} {b : Bool} (h : f t = some (b, t1)) : peekT f t = some (b, t) := by
  unfold peekT
  rw [h]; rfl
theorem body_ok : BodyOk := fun c hc => by
  obtain ⟨_, e1, o, qs, c1, rfl, r1, rs, r2, r3⟩ := room_sp hc (by decide)
  have hl := r1.len
  have es := str_room r1
  obtain ⟨x2, k2, e2⟩ := outer_w (c := c1) (R := roomD o qs) (w := .str (PyData.shown (roomD o qs))) (o :: qs) [] [] none none r1.all (by rw [List.length_nil, List.length_cons]; omega) (by rw [List.length_nil, List.length_cons]; omega)
  rw [List.nil_append, List.nil_append] at e2
  have hf := flat_len (o :: qs) r1.all
  rw [List.length_cons] at hf
  have e3 := corners_of_sp r1
  have e4 := walls_of_sp r1
  have hfl : ((o :: qs).flatMap wl).map Prod.fst = (o :: qs).flatten := by
    generalize (o :: qs) = l
    induction l with
    | nil => rfl
    | cons a l ih => rw [List.flatMap_cons, List.map_append, ih, wl_fst, List.flatten_cons]
  have e3' : ((o :: qs).flatMap wl).map (fun x => pt3 x.1) = (o :: qs).flatten.map pt3 := by rw [← hfl, List.map_map]; rfl
  rw [e3'] at e3
  have hfl2 : (o :: qs).flatten.length ≤ 1000000 := by rw [← hfl, List.length_map]; omega
  have a1 := alike_tup (f := pt3) (fun _ => rfl) hfl2
  have a2 := alike_tup (f := prD) (l := (o :: qs).flatMap wl) (fun _ => rfl) (by omega)
  have hlen : ((o :: qs).flatten.map pt3).length = (((o :: qs).flatMap wl).map prD).length := by rw [← hfl, List.length_map, List.length_map, List.length_map]
  have ha : addD (.tuple [ringD o]) (.tuple (qs.map ringD)) = some (.tuple ((o :: qs).map ringD)) := addD_t (by rw [List.length_singleton, List.length_map]; omega)
  generalize (o :: qs).flatten = FC at *
  generalize (o :: qs).flatMap wl = FW at *
  obtain ⟨L, hL⟩ : ∃ L, L = (o :: qs).map ringD := ⟨_, rfl⟩
  rw [← hL] at ha e2
  have hR : roomD o qs = .tuple [ringD o, .tuple (qs.map ringD)] := rfl
  unfold kSt bIn at e2
  rw [List.map_nil, List.map_nil] at e2
  have pk : ∀ (w : D) (z : Option D) (k : Option D), peekT (tor (tnot (tru (callD (e__law_alike 6) (sCons (callD e_corners_of (sCons (sV 2) sNil)) (sCons (callD tupleD (sCons (sV 4) sNil)) sNil))))) (tnot (tru (callD (e__law_alike 6) (sCons (callD e_walls_of (sCons (sV 2) sNil)) (sCons (callD tupleD (sCons (sV 5) sNil)) sNil)))))) [none, some (.list c1), some (roomD o qs), some w, some (.list (FC.map pt3)), some (.list (FW.map prD)), x2, z, k] = some (false, [none, some (.list c1), some (roomD o qs), some w, some (.list (FC.map pt3)), some (.list (FW.map prD)), x2, z, k]) := fun w z k =>
    peekT_true (b := false) (t1 := [none, some (.list c1), some (roomD o qs), some w, some (.list (FC.map pt3)), some (.list (FW.map prD)), x2, z, k]) (by simp -implicitDefEqProofs (disch := (first | assumption | (refine' PD.mulOk_sz ?a ?b ?c; (case a => (repeat' (first | assumption | exact PD.Sz.fmod (PD.Sz.lit (n := 64) (by decide)) (by decide) | exact PD.Sz.lit (n := 64) (by decide) | apply PD.Sz.mul | apply PD.Sz.add | apply PD.Sz.sub | apply PD.Sz.neg))); (case b => (repeat' (first | assumption | exact PD.Sz.fmod (PD.Sz.lit (n := 64) (by decide)) (by decide) | exact PD.Sz.lit (n := 64) (by decide) | apply PD.Sz.mul | apply PD.Sz.add | apply PD.Sz.sub | apply PD.Sz.neg))); (case c => decide)) | (exact PD.divOk_sz (PD.Sz.lit (n := 64) (by decide)) (by decide) (by decide)) | omega | (apply PD.lt_size; (first | decide | omega)))) only [PD.compD_nil, PD.compD_cons, PD.c_cp0_e, PD.c_cp1_t, PD.c_cp1_f, PD.c_cp2_e, PD.c_k0_e, PD.c_k1_t, PD.c_k1_f, PD.c_k2_e, PD.forD_nil, PD.forD_cons, PD.c_f1_e, PD.c_f2_nx, PD.c_f2_ct, PD.c_f2_bk, PD.c_f2_rt, ↓Option.bind_some, ↓reduceIte, PD.sCons_e, PD.sTup_e, PD.sLst_e, PD.bin_e, PD.un_e, PD.callD_e, PD.callI_e, PD.tru_e, PD.tand_e, PD.tor_e, PD.tnot_e, PD.vand_e, PD.vor_e, PD.sIf_e, PD.nl_e, PD.lenO_e, PD.truO_e, PD.ixO_e, PD.methO_e, PD.sSl_e, PD.oSome_e, PD.wS_e, PD.wR1_e, PD.wR2_e, PD.wE_e, PD.wZ_e, PD.sLc_e, PD.kSeq_e, PD.kDrop_e, PD.kSet_e, PD.kOwn_e, PD.kAsg_e, PD.kPar_e, PD.kPar3_e, PD.kIf_e, PD.kRet_e, PD.kRetO_e, PD.kFor_e, PD.kWhile_e, PD.c_ret_e, PD.c_retL_e, PD.c_retB_e, PD.c_sCons2_e, PD.c_sCons1_e, PD.c_tup_e, PD.c_lst_e, PD.c_bin2_e, PD.c_bin1_e, PD.c_un_e, PD.c_call_e, PD.c_callI3_e, PD.c_callI2_e, PD.c_callI_e, PD.c_tru_e, PD.c_and_t, PD.c_and_f, PD.c_or_t, PD.c_or_f, PD.c_not_e, PD.c_vand_t, PD.c_vand_f, PD.c_vor_t, PD.c_vor_f, PD.c_sif_t, PD.c_sif_f, PD.c_nl_e, PD.c_lenO_e, PD.c_truO_e, PD.c_ixO2_e, PD.c_ixO_e, PD.c_meth3_e, PD.c_meth2_e, PD.c_meth_e, PD.c_sl3_e, PD.c_sl2_e, PD.c_sl_e, PD.c_os_e, PD.c_wS_e, PD.c_wR1_e, PD.c_wR2_e, PD.c_wE_e, PD.c_wZ_l, PD.c_wZ_t, PD.c_lc2_e, PD.c_lc_e, PD.c_seq_nx, PD.c_seq_bk, PD.c_seq_ct, PD.c_seq_rt, PD.c_drop_e, PD.c_set_e, PD.c_own_e, PD.c_nx_e, PD.c_asg_e, PD.c_par_e, PD.c_par3_e, PD.c_if_t, PD.c_if_f, PD.c_rt_e, PD.c_rto_e, PD.c_for_e, PD.c_gO3_e, PD.c_gO2_e, PD.c_gO_e, PD.gO_e, PD.gN_e, PD.gsNil_e, PD.gsCons_e, PD.gT_e, PD.sNil_e, PD.sC_e, PD.oNone_e, PD.tYesD_e, PD.kNil_e, PD.kRetN_e, PD.kBk_e, PD.kCt_e, PD.kNever_e, PD.runP_e, PD.runI_e, PD.outP_nx, PD.outP_rt, PD.outI_nx, PD.outI_rt, PD.sV, PD.ownL, PD.ini, List.map_cons, List.map_nil, List.length_cons, List.length_nil, Nat.reduceSub, Nat.reduceAdd, Nat.sub_self, Nat.zero_add, List.replicate_succ, List.replicate_zero, List.append_nil, List.cons_append, List.nil_append, List.getElem?_cons_zero, List.getElem?_cons_succ, List.getElem?_nil, List.set_cons_zero, List.set_cons_succ, Option.bind_none, Option.bind_assoc, Option.map_some, PD.seqD_list, PD.seqD_tuple, PD.wipeD, PD.unwipe, PD.rng1_i, PD.appD_l, PD.ixD_l, PD.ixD_t, PD.truD_n, PD.truD_b, PD.truD_i, PD.truD_l, PD.truD_t, PD.sliceD_l, PD.sliceD_t, PD.subD_i, PD.negD_i, PD.notD_b, PD.ltD_i, PD.leD_i, PD.gtD_i, PD.geD_i, PD.absD_i, PD.intD_i, PD.intD_b, PD.max2_i, PD.min2_i, PD.max3_i, PD.min3_i, PD.chn_e, PD.c_ch0_e, PD.c_ch1_e, PD.c_ch2_t, PD.c_ch2_f, PD.c_ch3_e, PD.lenD_l, PD.lenD_t, PD.listD_l, PD.listD_t, PD.tupleD_l, PD.tupleD_t, PD.listrevD_l, PD.iaddD_i, PD.addD_i, PD.mulD_i, PD.fdivD_i, PD.modD_i, PD.divmodD_i, PD.eqD_i, PD.neD_i, PD.isN_none, PD.isN_bool, PD.isN_int, PD.isN_str, PD.isN_list, PD.isN_tuple, PD.notN_none, PD.notN_bool, PD.notN_int, PD.notN_str, PD.notN_list, PD.notN_tuple, PD.eqD_b2, PD.neD_b2, PD.ix0, PD.ix1, PD.ix2, PD.ix3, PD.ix4, PD.ix5, PD.ixm1, PD.ixN30, PD.ixN31, PD.ixN32, Bool.false_eq_true, Bool.not_true, Bool.not_false, reduceCtorEq, decide_true, decide_false, Nat.reduceLT, Nat.reduceLeDiff, Nat.reduceEqDiff, Int.reduceLT, Int.reduceLE, Int.reduceToNat, Int.reduceNeg, Option.getD_some, Option.getD_none, and_self, and_true, true_and, PD.le_size, beq_self_eq_true, Bool.true_beq, Bool.false_beq, e3, e4, a1, a2])
  have hne : neS (.str (PyData.shown (roomD o qs))) (.str (PyData.shown (roomD o qs))) = some (.bool false) := by
    show some (PyData.bool (!decide (_ = _))) = _
    rw [decide_eq_true rfl]; rfl
  have hle : ((((FC.map pt3).length : Nat) : Int) == (((FW.map prD).length : Nat) : Int)) = true := by rw [hlen]; exact beq_self_eq_true _
  refine ⟨[none, some (.list c1), some (roomD o qs), some (.str (PyData.shown (roomD o qs))), some (.list (FC.map pt3)), some (.list (FW.map prD)), x2, some (.int 1), k2], ?_, rfl⟩
  unfold tBox
  generalize hS : PyData.shown (roomD o qs) = TX at *
  rw [hR] at e1 es e2 e3 e4 pk ⊢
  simp -implicitDefEqProofs (disch := (first | assumption | (refine' PD.mulOk_sz ?a ?b ?c; (case a => (repeat' (first | assumption | exact PD.Sz.fmod (PD.Sz.lit (n := 64) (by decide)) (by decide) | exact PD.Sz.lit (n := 64) (by decide) | apply PD.Sz.mul | apply PD.Sz.add | apply PD.Sz.sub | apply PD.Sz.neg))); (case b => (repeat' (first | assumption | exact PD.Sz.fmod (PD.Sz.lit (n := 64) (by decide)) (by decide) | exact PD.Sz.lit (n := 64) (by decide) | apply PD.Sz.mul | apply PD.Sz.add | apply PD.Sz.sub | apply PD.Sz.neg))); (case c => decide)) | (exact PD.divOk_sz (PD.Sz.lit (n := 64) (by decide)) (by decide) (by decide)) | omega | (apply PD.lt_size; (first | decide | omega)))) only [PD.compD_nil, PD.compD_cons, PD.c_cp0_e, PD.c_cp1_t, PD.c_cp1_f, PD.c_cp2_e, PD.c_k0_e, PD.c_k1_t, PD.c_k1_f, PD.c_k2_e, PD.forD_nil, PD.forD_cons, PD.c_f1_e, PD.c_f2_nx, PD.c_f2_ct, PD.c_f2_bk, PD.c_f2_rt, ↓Option.bind_some, ↓reduceIte, PD.sCons_e, PD.sTup_e, PD.sLst_e, PD.bin_e, PD.un_e, PD.callD_e, PD.callI_e, PD.tru_e, PD.tand_e, PD.tor_e, PD.tnot_e, PD.vand_e, PD.vor_e, PD.sIf_e, PD.nl_e, PD.lenO_e, PD.truO_e, PD.ixO_e, PD.methO_e, PD.sSl_e, PD.oSome_e, PD.wS_e, PD.wR1_e, PD.wR2_e, PD.wE_e, PD.wZ_e, PD.sLc_e, PD.kSeq_e, PD.kDrop_e, PD.kSet_e, PD.kOwn_e, PD.kAsg_e, PD.kPar_e, PD.kPar3_e, PD.kIf_e, PD.kRet_e, PD.kRetO_e, PD.kFor_e, PD.kWhile_e, PD.c_ret_e, PD.c_retL_e, PD.c_retB_e, PD.c_sCons2_e, PD.c_sCons1_e, PD.c_tup_e, PD.c_lst_e, PD.c_bin2_e, PD.c_bin1_e, PD.c_un_e, PD.c_call_e, PD.c_callI3_e, PD.c_callI2_e, PD.c_callI_e, PD.c_tru_e, PD.c_and_t, PD.c_and_f, PD.c_or_t, PD.c_or_f, PD.c_not_e, PD.c_vand_t, PD.c_vand_f, PD.c_vor_t, PD.c_vor_f, PD.c_sif_t, PD.c_sif_f, PD.c_nl_e, PD.c_lenO_e, PD.c_truO_e, PD.c_ixO2_e, PD.c_ixO_e, PD.c_meth3_e, PD.c_meth2_e, PD.c_meth_e, PD.c_sl3_e, PD.c_sl2_e, PD.c_sl_e, PD.c_os_e, PD.c_wS_e, PD.c_wR1_e, PD.c_wR2_e, PD.c_wE_e, PD.c_wZ_l, PD.c_wZ_t, PD.c_lc2_e, PD.c_lc_e, PD.c_seq_nx, PD.c_seq_bk, PD.c_seq_ct, PD.c_seq_rt, PD.c_drop_e, PD.c_set_e, PD.c_own_e, PD.c_nx_e, PD.c_asg_e, PD.c_par_e, PD.c_par3_e, PD.c_if_t, PD.c_if_f, PD.c_rt_e, PD.c_rto_e, PD.c_for_e, PD.c_gO3_e, PD.c_gO2_e, PD.c_gO_e, PD.gO_e, PD.gN_e, PD.gsNil_e, PD.gsCons_e, PD.gT_e, PD.sNil_e, PD.sC_e, PD.oNone_e, PD.tYesD_e, PD.kNil_e, PD.kRetN_e, PD.kBk_e, PD.kCt_e, PD.kNever_e, PD.runP_e, PD.runI_e, PD.outP_nx, PD.outP_rt, PD.outI_nx, PD.outI_rt, PD.sV, PD.ownL, PD.ini, List.map_cons, List.map_nil, List.length_cons, List.length_nil, Nat.reduceSub, Nat.reduceAdd, Nat.sub_self, Nat.zero_add, List.replicate_succ, List.replicate_zero, List.append_nil, List.cons_append, List.nil_append, List.getElem?_cons_zero, List.getElem?_cons_succ, List.getElem?_nil, List.set_cons_zero, List.set_cons_succ, Option.bind_none, Option.bind_assoc, Option.map_some, PD.seqD_list, PD.seqD_tuple, PD.wipeD, PD.unwipe, PD.rng1_i, PD.appD_l, PD.ixD_l, PD.ixD_t, PD.truD_n, PD.truD_b, PD.truD_i, PD.truD_l, PD.truD_t, PD.sliceD_l, PD.sliceD_t, PD.subD_i, PD.negD_i, PD.notD_b, PD.ltD_i, PD.leD_i, PD.gtD_i, PD.geD_i, PD.absD_i, PD.intD_i, PD.intD_b, PD.max2_i, PD.min2_i, PD.max3_i, PD.min3_i, PD.chn_e, PD.c_ch0_e, PD.c_ch1_e, PD.c_ch2_t, PD.c_ch2_f, PD.c_ch3_e, PD.lenD_l, PD.lenD_t, PD.listD_l, PD.listD_t, PD.tupleD_l, PD.tupleD_t, PD.listrevD_l, PD.iaddD_i, PD.addD_i, PD.mulD_i, PD.fdivD_i, PD.modD_i, PD.divmodD_i, PD.eqD_i, PD.neD_i, PD.isN_none, PD.isN_bool, PD.isN_int, PD.isN_str, PD.isN_list, PD.isN_tuple, PD.notN_none, PD.notN_bool, PD.notN_int, PD.notN_str, PD.notN_list, PD.notN_tuple, PD.eqD_b2, PD.neD_b2, PD.ix0, PD.ix1, PD.ix2, PD.ix3, PD.ix4, PD.ix5, PD.ixm1, PD.ixN30, PD.ixN31, PD.ixN32, Bool.false_eq_true, Bool.not_true, Bool.not_false, reduceCtorEq, decide_true, decide_false, Nat.reduceLT, Nat.reduceLeDiff, Nat.reduceEqDiff, Int.reduceLT, Int.reduceLE, Int.reduceToNat, Int.reduceNeg, Option.getD_some, Option.getD_none, and_self, and_true, true_and, PD.le_size, beq_self_eq_true, Bool.true_beq, Bool.false_beq, b_law, e1, t_law_118, es, ha, e2, t_law_125, rng_2, pk, t_law_128, hne, e3, e4, hle]
end W

open PySem PySem.W PyProof.Rows
set_option maxHeartbeats 0 in
theorem PySem.Challenge.cw_cornersight_k09_corners_and_walls_holds : PySem.Challenge.rw_cornersight_k09_corners_and_walls.Holds := by
  w_on; o_law; k_head; (case hw => w_witness2)
  k_fill
  refine PD.walk_at (l := PySem.Challenge.rw_cornersight_k09_corners_and_walls) (n := 63) rfl (by decide) rfl (fun w h Y => PySem.W.kIn_of Y) ?F
  case F =>
    intro w mg fa h KX G hmg base H s a ns _ _ hl hb hS e0
    refine W.law_run W.body_ok ?T hmg hl hb hS e0
    refine' W.tx_mk KX G ?a0 ?l0 ?c0 ?k0 ?a1 ?l1 ?c1 ?k1 ?a2 ?l2 ?c2 ?k2 ?a3 ?l3 ?c3 ?k3 ?a4 ?l4 ?c4 ?k4 ?a5 ?l5 ?c5 ?k5 ?a6 ?l6 ?c6 ?k6 ?a7 ?l7 ?c7 ?k7 ?a8 ?l8 ?c8 ?k8 ?a9 ?l9 ?c9 ?k9 ?a10 ?l10 ?c10 ?k10 ?a11 ?l11 ?c11 ?k11 ?a12 ?l12 ?c12 ?k12 ?a13 ?l13 ?c13 ?k13 ?a14 ?l14 ?c14 ?k14 ?a15 ?l15 ?c15 ?k15 ?a16 ?l16 ?c16 ?k16 ?z_abs ?z_all ?z_bool ?z_divmod ?z_enumerate ?z_int ?z_isinstance ?z_len ?z_list ?z_max ?z_min ?z_range ?z_str ?z_sum ?z_tuple ?z_zip
    (case a0 => k_is); (case l0 => k_is); (case c0 => k_is); (case k0 => k_is); (case a1 => k_is); (case l1 => k_is); (case c1 => k_is); (case k1 => k_is); (case a2 => k_is); (case l2 => k_is); (case c2 => k_is); (case k2 => k_is); (case a3 => k_is); (case l3 => k_is); (case c3 => k_is); (case k3 => k_is); (case a4 => k_is); (case l4 => k_is); (case c4 => k_is); (case k4 => k_is); (case a5 => k_is); (case l5 => k_is); (case c5 => k_is); (case k5 => k_is); (case a6 => k_is); (case l6 => k_is); (case c6 => k_is); (case k6 => k_is); (case a7 => k_is); (case l7 => k_is); (case c7 => k_is); (case k7 => k_is); (case a8 => k_is); (case l8 => k_is); (case c8 => k_is); (case k8 => k_is); (case a9 => k_is); (case l9 => k_is); (case c9 => k_is); (case k9 => k_is); (case a10 => k_is); (case l10 => k_is); (case c10 => k_is); (case k10 => k_is); (case a11 => k_is); (case l11 => k_is); (case c11 => k_is); (case k11 => k_is); (case a12 => k_is); (case l12 => k_is); (case c12 => k_is); (case k12 => k_is); (case a13 => k_is); (case l13 => k_is); (case c13 => k_is); (case k13 => k_is); (case a14 => k_is); (case l14 => k_is); (case c14 => k_is); (case k14 => k_is); (case a15 => k_is); (case l15 => k_is); (case c15 => k_is); (case k15 => k_is); (case a16 => k_is); (case l16 => k_is); (case c16 => k_is); (case k16 => k_is); (case z_abs => k_is); (case z_all => k_is); (case z_bool => k_is); (case z_divmod => k_is); (case z_enumerate => k_is); (case z_int => k_is); (case z_isinstance => k_is); (case z_len => k_is); (case z_list => k_is); (case z_max => k_is); (case z_min => k_is); (case z_range => k_is); (case z_str => k_is); (case z_sum => k_is); (case z_tuple => k_is); (case z_zip => k_is)
