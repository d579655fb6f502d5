import PyProof.Rows.All
import Wide.All
import OpenK.AllK
import Wide.FinOn
import HandS.ForMost
import HandS.ForExc
import HandS.Defaults
import HandS.Style
import HandS.IsInst
import HandS.HeadHook1
import HandS.HeadHook2
import HandS.Property
import HandS.Wide
import HandS.Walk
import HandS.SortInts
import HandS.DictComp
import PyProof.ListStr
import HandS.Conv
import PyProof.EnumMake
import PyProof.Draws
import KE.GoesMore
import PyProof.InstEq
import HandS.Exc
import HandS.ExcInit
import HandS.ExcOwn
import HandS.ExcValue
import HandS.ExcField
import HandS.TryOnly
import HandS.WordsExc
import HandS.RaiseMore
import KE.KExcIs
import HandS.HeadHook3
import HandS.HeadHook4
import HandS.Lambda
import HandS.EndTab
import HandS.HeadWalk
import HandS.More
import PySem.Challenge.RW_newsinorder_k01_rows_and_their_mirrors
import KE.KStateDown
import Lean
import HandS.Head0
import HandS.Head1
import HandS.Head2
import HandS.HeadEnd
set_option Elab.async false
set_option linter.all false
set_option maxRecDepth 100000
set_option maxHeartbeats 0
namespace Nw
open PySem PySem.Spec PyProof.Rows L2

/-! ### heaps: what a part of a run does to the view I (what stands for good) and the heap H -/
structure Grow (T : Addr → Prop) (I H I' H' : Hp) : Prop where
  view : Same I I'
  sub : Same I' H'
  keep : ∀ b o, ¬ T b → H b = some o → H' b = some o
  live : ∀ b, H b ≠ none → H' b ≠ none
  fresh : ∀ b, I b = none → H b ≠ none → I' b = none
  tbl : ∀ b ps, I' b = some (.tbl ps) → I b = some (.tbl ps)
/-- no table of code objects -/
abbrev NTb (o : HO) : Prop := ∀ ps, o ≠ .tbl ps
abbrev No : Addr → Prop := fun _ => False
variable {T : Addr → Prop} {I H I' H' I0 H0 I1 H1 I2 H2 J : Hp} {p l m : Addr} {o o' : HO}
theorem Same.up (h : H p = none) : Same H (upd H p o) := fun b u e => by
  rw [upd_ne (ne_of_none e h)]
  exact e
theorem Grow.refl (h : Same I H) : Grow T I H I H := ⟨Same.refl I, h, fun _ _ _ e => e, fun _ e => e, fun _ e _ => e, fun _ _ e => e⟩
theorem Grow.trans (a : Grow T I H I1 H1) (b : Grow T I1 H1 I2 H2) : Grow T I H I2 H2 :=
  ⟨a.view.trans b.view, b.sub, fun x o n e => b.keep x o n (a.keep x o n e), fun x e => b.live x (a.live x e), fun x e n => b.fresh x (a.fresh x e n) (a.live x n), fun x ps e => a.tbl x ps (b.tbl x ps e)⟩
theorem Grow.to {T' : Addr → Prop} (h : ∀ x, T x → T' x) (g : Grow T I H I' H') : Grow T' I H I' H' :=
  ⟨g.view, g.sub, fun x o n e => g.keep x o (fun t => n (h x t)) e, g.live, g.fresh, g.tbl⟩
theorem Grow.no (g : Grow No I H I' H') : Grow T I H I' H' := g.to fun _ z => z.elim
theorem Grow.same (g : Grow No I H I' H') : Same H H' := fun b o e => g.keep b o (fun z => z) e
theorem upd_tbl {b : Addr} {ps : Array Value} (n : NTb o) (e : upd H p o b = some (.tbl ps)) : H b = some (.tbl ps) := by
  unfold upd at e
  split at e
  · exact absurd (Option.some.inj e) (n ps)
  · exact e
theorem upd_live {b : Addr} (h : H b ≠ none) : upd H p o b ≠ none := by
  unfold upd
  split
  · exact fun z => nomatch z
  · exact h
/-- a new object, for good -/
theorem Grow.new (h : Same I H) (hp : H p = none) (nt : NTb o := by intro _ z; cases z) : Grow T I H (upd I p o) (upd H p o) where
  view := Same.up (h.free hp)
  sub := fun b u e => by
    by_cases q : b = p
    · subst q; rw [upd_same] at e ⊢; exact e
    · rw [upd_ne q] at e ⊢; exact h b u e
  keep := fun b u _ e => Same.up hp b u e
  live := fun b e => upd_live e
  fresh := fun b e n => by
    rw [upd_ne (fun z => n (by rw [z]; exact hp))]
    exact e
  tbl := fun b ps e => upd_tbl nt e
/-- a new object of one's own, that may change yet -/
theorem Grow.mine (h : Same I H) (hp : H p = none) : Grow T I H I (upd H p o) where
  view := Same.refl I
  sub := h.trans (Same.up hp)
  keep := fun b u _ e => Same.up hp b u e
  live := fun b e => upd_live e
  fresh := fun b e _ => e
  tbl := fun _ _ e => e
/-- an object of one's own -/
structure Own (T : Addr → Prop) (H0 : Hp) (l : Addr) (o : HO) (I H : Hp) : Prop where
  nt : ¬ T l
  n0 : H0 l = none
  ni : I l = none
  at_ : H l = some o
theorem Own.new (hs : Same I H) (h : Same H0 H ∨ (∀ b, H0 b ≠ none → H b ≠ none)) (ht : ∀ b, T b → H b ≠ none) (hp : H p = none) : Own T H0 p o I (upd H p o) := by
  refine ⟨fun t => ht p t hp, ?_, hs.free hp, upd_same⟩
  cases q : H0 p with
  | none => rfl
  | some u =>
    rcases h with h | h
    · have z := h p u q
      rw [hp] at z; cases z
    · exact absurd hp (h p (by rw [q]; exact fun z => nomatch z))
theorem Own.grow (w : Own T H0 l o I H) (g : Grow T I H I' H') : Own T H0 l o I' H' :=
  ⟨w.nt, w.n0, g.fresh l w.ni (by rw [w.at_]; exact fun z => nomatch z), g.keep l o w.nt w.at_⟩
theorem Own.put (w : Own T H0 l o I H) : Own T H0 l o' I (upd H l o') := ⟨w.nt, w.n0, w.ni, upd_same⟩
theorem Own.other (w : Own T H0 l o I H) (ne : l ≠ m) : Own T H0 l o I (upd H m o') := ⟨w.nt, w.n0, w.ni, by rw [upd_ne ne]; exact w.at_⟩
theorem Grow.put (g : Grow T I0 H0 I H) (w : Own T H0 l o I H) : Grow T I0 H0 I (upd H l o') where
  view := g.view
  sub := fun b u e => by
    rw [upd_ne (ne_of_none e w.ni)]
    exact g.sub b u e
  keep := fun b u n e => by
    rw [upd_ne (ne_of_none e w.n0)]
    exact g.keep b u n e
  live := fun b e => upd_live (g.live b e)
  fresh := g.fresh
  tbl := g.tbl
/-- it is given out: it will not change any more -/
theorem Grow.give (g : Grow T I0 H0 I H) (w : Own T H0 l o I H) (nt : NTb o := by intro _ z; cases z) : Grow T I0 H0 (upd I l o) H where
  view := g.view.trans (Same.up w.ni)
  sub := fun b u e => by
    by_cases q : b = l
    · subst q; rw [upd_same] at e; rw [w.at_]; exact e
    · rw [upd_ne q] at e; exact g.sub b u e
  keep := g.keep
  live := g.live
  fresh := fun b e n => by
    rw [upd_ne (fun z => n (by rw [z]; exact w.n0))]
    exact g.fresh b e n
  tbl := fun b ps e => g.tbl b ps (upd_tbl nt e)

/-- what was changed is younger than where one looks from -/
theorem Grow.drop (g0 : Grow T I0 H0 I H) {T' : Addr → Prop} (g : Grow T' I H I' H') (hT : ∀ b, T' b → T b ∨ H0 b = none) : Grow T I0 H0 I' H' where
  view := g0.view.trans g.view
  sub := g.sub
  keep := fun b u n e => g.keep b u (fun t => by
    rcases hT b t with z | z
    · exact n z
    · rw [z] at e; cases e) (g0.keep b u n e)
  live := fun b e => g.live b (g0.live b e)
  fresh := fun b e n => g.fresh b (g0.fresh b e n) (g0.live b n)
  tbl := fun b ps e => g0.tbl b ps (g.tbl b ps e)
/-- x is given out, with what it holds now -/
theorem Grow.give' (g : Grow T I0 H0 I H) (n0 : H0 l = none) (ni : I l = none) (h : H l = some o) (nt : NTb o := by intro _ z; cases z) : Grow T I0 H0 (upd I l o) H where
  view := g.view.trans (Same.up ni)
  sub := fun b u e => by
    by_cases q : b = l
    · subst q; rw [upd_same] at e; rw [h]; exact e
    · rw [upd_ne q] at e; exact g.sub b u e
  keep := g.keep
  live := g.live
  fresh := fun b e n => by
    rw [upd_ne (fun z => n (by rw [z]; exact n0))]
    exact g.fresh b e n
  tbl := fun b ps e => g.tbl b ps (upd_tbl nt e)

/-- an object that T names is changed -/
theorem Grow.chg (g : Grow T I0 H0 I H) (t : T p) (ni : I p = none) : Grow T I0 H0 I (upd H p o') where
  view := g.view
  sub := fun b u e => by
    rw [upd_ne (ne_of_none e ni)]
    exact g.sub b u e
  keep := fun b u n e => by
    rw [upd_ne (fun z => n (by rw [z]; exact t))]
    exact g.keep b u n e
  live := fun b e => upd_live (g.live b e)
  fresh := g.fresh
  tbl := g.tbl

/-! ### data and what stands for it -/
class Rep (α : Type) where
  is : Hp → V → α → Prop
  mono : ∀ {H H' : Hp} {v : V} {x : α}, Same H H' → is H v x → is H' v x
instance : Rep V := ⟨fun _ v x => v = x, fun _ h => h⟩
instance : Rep Int := ⟨fun _ v x => v = .int x, fun _ h => h⟩
instance : Rep Bool := ⟨fun _ v x => v = .bl x, fun _ h => h⟩
instance : Rep Str := ⟨fun _ v x => v = .str x, fun _ h => h⟩
instance : Rep Unit := ⟨fun _ v _ => v = .non, fun _ h => h⟩
theorem Paired.mono' {α β : Type} {F G : α → β → Prop} (h : ∀ a b, F a b → G a b) : ∀ {xs : List α} {ys : List β}, Paired F xs ys → Paired G xs ys
  | _, _, .nil => .nil
  | _, _, .cons a t => .cons (h _ _ a) (Paired.mono' h t)
/-- a list -/
def isL {α : Type} [Rep α] (I : Hp) (v : V) (xs : List α) : Prop := ∃ a vs, v = .ref a ∧ I a = some (.lst vs) ∧ Paired (Rep.is I) vs xs
/-- a tuple of any length, of things of one kind -/
structure Tup (α : Type) where
  l : List α
def isU {α : Type} [Rep α] (I : Hp) (v : V) (xs : List α) : Prop := ∃ a vs, v = .ref a ∧ I a = some (.tup vs) ∧ Paired (Rep.is I) vs xs
instance {α : Type} [Rep α] : Rep (List α) := ⟨isL, fun e ⟨a, vs, h1, h2, h3⟩ => ⟨a, vs, h1, e _ _ h2, Paired.mono' (fun _ _ z => Rep.mono e z) h3⟩⟩
instance {α : Type} [Rep α] : Rep (Tup α) := ⟨fun I v x => isU I v x.l, fun e ⟨a, vs, h1, h2, h3⟩ => ⟨a, vs, h1, e _ _ h2, Paired.mono' (fun _ _ z => Rep.mono e z) h3⟩⟩
/-- a pair -/
def isP {α β : Type} [Rep α] [Rep β] (I : Hp) (v : V) (x : α × β) : Prop := ∃ a v1 v2, v = .ref a ∧ I a = some (.tup [v1, v2]) ∧ Rep.is I v1 x.1 ∧ Rep.is I v2 x.2
instance {α β : Type} [Rep α] [Rep β] : Rep (α × β) := ⟨isP, fun e ⟨a, v1, v2, h1, h2, h3, h4⟩ => ⟨a, v1, v2, h1, e _ _ h2, Rep.mono e h3, Rep.mono e h4⟩⟩

/-! ### what an expression gives -/
def EvR {α : Type} [Rep α] (te : TE) (σ : L2.St) (I : Hp) (x : α) : Prop := ∀ H, Same I H → ∀ Q : VK, (∀ v I' H', Grow No I H I' H' → Rep.is I' v x → Q v H') → te σ H Q
def EvT (tt : TT) (σ : L2.St) (I : Hp) (b : Bool) : Prop := ∀ H, Same I H → ∀ Q : Bool → Hp → Prop, (∀ I' H', Grow No I H I' H' → Q b H') → tt σ H Q
def un (J I : Hp) : Hp := fun b => match J b with
  | some o => some o
  | none => I b
theorem un_l : Same J (un J I) := fun b o e => by
  unfold un
  rw [e]
theorem un_none {b : Addr} (h : J b = none) : un J I b = I b := by
  unfold un
  rw [h]
theorem Grow.join {e : Same I J} {s : Same J H} (g : Grow No I H I' H') : Grow No J H (un J I') H' ∧ Same I' (un J I') := by
  have k : Same J H' := fun b o q => g.keep b o (fun z => z) (s b o q)
  refine ⟨⟨un_l, fun b o q => ?_, g.keep, g.live, fun b n q => ?_, fun b ps q => ?_⟩, fun b o q => ?_⟩
  · cases h : J b with
    | none => rw [un_none h] at q; exact g.sub b o q
    | some u =>
      have z : un J I' b = some u := un_l b u h
      rw [z] at q; cases q
      exact k b o h
  · rw [un_none n]
    exact g.fresh b (e.free n) q
  · cases h : J b with
    | none =>
      rw [un_none h] at q
      have z := e b _ (g.tbl b ps q)
      rw [h] at z; cases z
    | some u =>
      have z : un J I' b = some u := un_l b u h
      rw [z] at q
      exact q
  · cases h : J b with
    | none => rw [un_none h]; exact q
    | some u =>
      have z : un J I' b = some u := un_l b u h
      have h1 := k b u h
      rw [g.sub b o q] at h1
      rw [z, h1]
section
variable {α β γ : Type} [Rep α] [Rep β] [Rep γ] {te ta tb tc : TE} {tt t u : TT} {σ : L2.St} {x : α} {y : β} {z : γ} {v w : V} {K : PySem.W.Frag}
theorem EvR.mono (h : EvR te σ I x) (e : Same I J) : EvR te σ J x := fun H s Q k => h H (e.trans s) Q fun v I' H' g r =>
  let ⟨g', e'⟩ := g.join (e := e) (s := s)
  k v _ H' g' (Rep.mono e' r)
theorem EvT.mono {b : Bool} (h : EvT tt σ I b) (e : Same I J) : EvT tt σ J b := fun H s Q k => h H (e.trans s) Q fun I' H' g =>
  let ⟨g', _⟩ := g.join (e := e) (s := s)
  k _ H' g'
/-- the rest of an evaluation: from the view and the heap as they stand -/
theorem EvR.go (h : EvR te σ I x) (s : Same I H) {Q : VK} (k : ∀ v I' H', Grow No I H I' H' → Rep.is I' v x → Q v H') : te σ H Q := h H s Q k
theorem evr_var {i : Nat} (h : σ[i]? = some (some v)) (r : Rep.is I v x) : EvR (tVar i) σ I x := fun H s Q k => ⟨v, h, k v I H (Grow.refl s) r⟩
theorem evr_c (r : Rep.is I v x) : EvR (tC v) σ I x := fun H s Q k => k v I H (Grow.refl s) r
theorem evr_int {i : Int} : EvR (tC (.int i)) σ I i := evr_c rfl
theorem evr_str {s : Str} : EvR (tC (.str s)) σ I s := evr_c rfl
theorem evr_bl {b : Bool} : EvR (tC (.bl b)) σ I b := evr_c rfl
theorem evr_non : EvR (tC .non) σ I () := evr_c rfl
/-- what an operator makes of two values -/
def RvR (r : R2) (I : Hp) (v w : V) (z : γ) : Prop := ∀ H, Same I H → ∀ Q : VK, (∀ u I' H', Grow No I H I' H' → Rep.is I' u z → Q u H') → r v w H Q
theorem evr_op {r : R2} (ha : EvR ta σ I x) (hb : EvR tb σ I y) (hr : ∀ J v w, Same I J → Rep.is J v x → Rep.is J w y → RvR r J v w z) : EvR (tOp r ta tb) σ I z := fun H s Q k =>
  ha H s _ fun v I1 H1 g1 r1 => (hb.mono g1.view) H1 g1.sub _ fun w I2 H2 g2 r2 => hr I2 v w (g1.view.trans g2.view) (Rep.mono g2.view r1) r2 H2 g2.sub Q fun u I3 H3 g3 r3 => k u I3 H3 ((g1.trans g2).trans g3) r3
theorem evr_opI {r : R2} {i j : Int} {z : γ} (ha : EvR ta σ I i) (hb : EvR tb σ I j) (hr : ∀ J, RvR r J (.int i) (.int j) z) : EvR (tOp r ta tb) σ I z :=
  evr_op ha hb fun J v w _ h1 h2 => by
    cases h1; cases h2
    exact hr J
theorem rvr_I0 {g : Int → Int → V} {i j : Int} (h : ∀ J, Rep.is J (g i j) z) : RvR (rI0 g) I (.int i) (.int j) z := fun H s Q k => ⟨i, j, rfl, rfl, k _ I H (Grow.refl s) (h I)⟩
theorem rvr_I {C : Int → Int → Prop} {g : Int → Int → V} {i j : Int} (hc : C i j) (h : ∀ J, Rep.is J (g i j) z) : RvR (rI C g) I (.int i) (.int j) z := fun H s Q k => ⟨i, j, rfl, rfl, hc, k _ I H (Grow.refl s) (h I)⟩
end
end Nw

namespace Nw
open PySem PySem.Spec PyProof.Rows L2

/-! ### a def and its promise, by the def's address -/
structure Ok (P : Program) (w : World) (K : PySem.W.Frag) (mg : Str → Option Value) (base : Heap) (CX : CXT) (k : Nat) (f : Addr) (ps : List Str) (sp : Sp) : Prop where
  ok : ∃ fd, FnOk P w K mg base CX k f fd ps sp ∧ Binds K fd ps [] ∧ PySem.W.keepIn K (.ref f) = true ∧ ∃ oc od osl, K.lookup f = some ⟨oc, od, .func fd, osl⟩
abbrev FnAt (K : PySem.W.Frag) (x qual : Str) (st : Stmt) (f : Addr) : Prop := ∃ fd, FunD K x qual (defArgs st) (defBody st) (defScope st) [] [] f fd
section
variable {P : Program} {w : World} {K : PySem.W.Frag} {mg : Str → Option Value} {base : Heap} {X : Cx} {CX : CXT} {k : Nat} {f C p g : Addr} {ps : List Str} {sp : Sp} {E : XK} {x m : Str} {pos ppos apos : Pos} {e o : Expr} {es : List Expr} {ta : TE} {t : TA}
theorem Ok.imp {sp' : Sp} (G : Ok P w K mg base CX k f ps sp) (h : ∀ vs H Q E, sp' vs H Q E → sp vs H Q E) : Ok P w K mg base CX k f ps sp' := by
  obtain ⟨fd, F, b, kp⟩ := G.ok
  exact ⟨fd, F.imp h, b, kp⟩
theorem Ok.up {j : Nat} (G : Ok P w K mg base CX k f ps sp) (h : k ≤ j) : Ok P w K mg base CX j f ps sp := by
  obtain ⟨fd, F, b, kp⟩ := G.ok
  exact ⟨fd, F.mono h, b, kp⟩
/-- a def that lets no exception out keeps its promise -/
theorem ok_of {qual : Str} {st : Stmt} {N : List Str} (F : FnAt K x qual st f) (S : FnScope N ps (defScope st))
    (hb : ∀ (kV doc pm : Value) (an : Option Addr) (cdv ct : Value) (us : List Value), us.length = ps.length → bindArgs (PySem.W.fnOf x qual (defArgs st) (defBody st) (defScope st) .none kV doc pm an cdv ct) ⟨us, []⟩ = pure (ps.zip us))
    (len : ∀ vs H Q E, sp vs H Q E → vs.length = ps.length)
    (hbody : ∀ (cdv : Value) (A : Around) (outer : List Env) (s : Shared) (H : Hp) (vs : List V) (Q : VK) (E : XK), Room k (A.deeper (envOfC qual (defScope st) s.heap.objs.size f cdv)) → sp vs H Q E →
      ∃ t, PSs (cxOf CX0 P w K mg base N qual (defScope st) f cdv A outer s H E).nox (defBody st) t ∧ t { nx := fun _ H' => Q .non H', rt := Q } (start N vs) H) : Ok P w K mg base CX0 (k + 1) f ps sp := by
  obtain ⟨fd, F⟩ := F
  refine ⟨fd, F.ok S len fun cdv A outer s H vs Q E hr h => ?_, F.bindsN hb, F.kp, let ⟨oc, od, _, _, _, _, _, _, _, osl, _, lk, _⟩ := F.ex; ⟨oc, od, osl, lk⟩⟩
  obtain ⟨t, h1, h2⟩ := hbody cdv A outer s H vs Q E hr h
  exact ⟨t, h1.nox, h2⟩
/-- a def that lets none out, where some may be let out -/
theorem Ok.toX {CX' : CXT} (G : Ok P w K mg base CX0 k f ps sp) : Ok P w K mg base CX' k f ps sp := by
  obtain ⟨fd, F, r⟩ := G.ok
  refine ⟨fd, ⟨F.len, fun A outer s H args us vs Q E hr e0 hb rv h => codeAny_mono (F.run A outer s H args us vs Q E hr e0 hb rv h) fun r s' hq => ?_⟩, r⟩
  cases r with
  | error e => exact (show False from hq).elim
  | ok fl => cases fl <;> exact hq
/-- both of two promises -/
theorem Ok.or {sp' : Sp} (G : Ok P w K mg base CX k f ps sp) (G' : Ok P w K mg base CX k f ps sp') : Ok P w K mg base CX k f ps (fun vs H Q E => sp vs H Q E ∨ sp' vs H Q E) := by
  obtain ⟨fd, F, b, kp, oc, od, osl, lk⟩ := G.ok
  obtain ⟨fd', F', _, _, oc', od', osl', lk'⟩ := G'.ok
  rw [lk] at lk'
  cases lk'
  refine ⟨fd, ⟨fun vs H Q E h => h.elim (F.len vs H Q E) (F'.len vs H Q E), fun A outer s H args us vs Q E hr e0 hb rv h => ?_⟩, b, kp, oc, od, osl, lk⟩
  rcases h with h | h
  · exact F.run A outer s H args us vs Q E hr e0 hb rv h
  · exact F'.run A outer s H args us vs Q E hr e0 hb rv h
theorem pe_callC (G : Ok X.prog X.w X.K X.mg X.base CX0 k f ps sp) (hr : Room k X.A) (hm : X.mg x = some (.ref f)) (ha : PA X (e :: es) t) (hg : Gl X x := by rfl) (hdb : (x == ("__debug__" : Str)) = false := by decide)
    (he : starEach (e :: es) X.env = (false, eval e X.env) :: starEach es X.env := by rfl) (hpl : (backTo pos (starEach es X.env)).any (·.1) = false := by rfl) : PE X (.Call (.Name x ppos) (e :: es) [] pos) (tCall sp [] E0 t) := by
  obtain ⟨fd, F, b, kp, _⟩ := G.ok
  exact pe_call F hr hg hm kp b .nil pass0 ha hdb he hpl
theorem pe_makeC (M : Mk X.K C f) (G : Ok X.prog X.w X.K X.mg X.base CX0 k f ps sp) (hr : Room (k + 1) X.A) (hm : X.mg x = some (.ref C)) (ha : PA X (e :: es) t) (hg : Gl X x := by rfl) (hdb : (x == ("__debug__" : Str)) = false := by decide)
    (he : starEach (e :: es) X.env = (false, eval e X.env) :: starEach es X.env := by rfl) (hpl : (backTo pos (starEach es X.env)).any (·.1) = false := by rfl) : PE X (.Call (.Name x ppos) (e :: es) [] pos) (tMake C sp [] E0 t) := by
  obtain ⟨fd, F, b, kp, _⟩ := G.ok
  exact pe_make M F hr hg hm b .nil pass0 ha hdb he hpl
theorem pe_gint {i : Int} (h : ∃ t, X.mg x = some (.int i t)) (hg : Gl X x := by rfl) (hd : (x == ("__debug__" : Str)) = false := by decide) : PE X (.Name x pos) (tC (.int i)) := by
  obtain ⟨t, h⟩ := h
  exact pe_glob hg h ⟨t, rfl⟩ hd
theorem pe_gstr {i : Str} (h : ∃ t, X.mg x = some (.str i t)) (hg : Gl X x := by rfl) (hd : (x == ("__debug__" : Str)) = false := by decide) : PE X (.Name x pos) (tC (.str i)) := by
  obtain ⟨t, h⟩ := h
  exact pe_glob hg h ⟨t, rfl⟩ hd
/-- a statement, then the others, by what holds between them -/
def tMid (t u : TS) : TS := fun D σ H => ∃ M : L2.St → Hp → Prop, t { D with nx := M } σ H ∧ ∀ σ1 H1, M σ1 H1 → u D σ1 H1
theorem pss_mid {st : Stmt} {sts : List Stmt} {t u : TS} (a : PS X st t) (b : PSs X sts u) : PSs X (st :: sts) (tMid t u) :=
  ⟨fun pins s σ H D I ⟨M, h1, h2⟩ => wpAny_execs_cons (wpAny_mono (a.run pins s σ H { D with nx := M } I h1) (fun f s1 q => by
    cases f with
    | next => exact let ⟨σ1, H1, I1, q1⟩ := q; b.run pins s1 σ1 H1 D I1 (h2 σ1 H1 q1)
    | ret v => exact q
    | brk => exact q
    | cont => exact q) fun _ _ z => z)⟩
/-- what isinstance leans on, of an own class -/
structure InsF (K : PySem.W.Frag) (C : Addr) : Prop where
  ha : PySem.W.findIn K (.ref C) "__class__" = some (some (.builtin "object.__class__"))
  hn : PySem.W.specialIn K (.builtin "object.__class__") "__get__" = some (some (.builtin "getset_descriptor.__get__"))
  htk : PySem.W.takesIn K (.builtin "object.__class__") = some true
  hm : PySem.W.mroIn K C (.type "object") = some true
def insB (K : PySem.W.Frag) (C : Addr) : Bool := decide (PySem.W.findIn K (.ref C) "__class__" = some (some (.builtin "object.__class__"))) && (decide (PySem.W.specialIn K (.builtin "object.__class__") "__get__" = some (some (.builtin "getset_descriptor.__get__"))) && (decide (PySem.W.takesIn K (.builtin "object.__class__") = some true) && decide (PySem.W.mroIn K C (.type "object") = some true)))
theorem insB_ok {K : PySem.W.Frag} {C : Addr} (h : insB K C = true) : InsF K C := by
  unfold insB at h
  simp only [Bool.and_eq_true, decide_eq_true_eq] at h
  exact ⟨h.1, h.2.1, h.2.2.1, h.2.2.2⟩
theorem InsF.ty {K : PySem.W.Frag} {H : Hp} {a C dx : Addr} {fs : List (Str × V)} (F : InsF K C) (c : Cls K C) (h : H a = some (.ins C dx fs)) : TyX K H (.ref a) (.ref C) := .base (.ins h c F.ha F.hn F.htk F.hm)
theorem kit_self {K : PySem.W.Frag} {C : Addr} : PySem.W.kitOne K (.ref C) (.ref C) = some true := by
  unfold PySem.W.kitOne
  rw [if_pos (by simp)]
theorem kit_refl {K : PySem.W.Frag} {t : Value} (h : (t == t) = true := by rfl) : PySem.W.kitOne K t t = some true := by
  unfold PySem.W.kitOne
  rw [if_pos h]
theorem kit_any_hd {K : PySem.W.Frag} {t : Value} {r : List Value} (h : (t == t) = true := by rfl) : PySem.W.kitAny K t (t :: r) = some true := by
  unfold PySem.W.kitAny
  rw [kit_refl h]
/-- xs == [] and xs != [], whatever stands in xs -/
def rNilE (K : PySem.W.Frag) : R2 := fun x y H Q => ∃ a b xs, x = .ref a ∧ y = .ref b ∧ SqL K H a xs ∧ SqL K H b [] ∧ Q (.bl xs.isEmpty) H
def rNilN (K : PySem.W.Frag) : R2 := fun x y H Q => ∃ a b xs, x = .ref a ∧ y = .ref b ∧ SqL K H a xs ∧ SqL K H b [] ∧ Q (.bl (!xs.isEmpty)) H
theorem op_eqNil (hu : X.A.units + 64 < cLine) : OpR X (compareOp .Eq) (rNilE X.K) := by
  intro pins s σ H x y v u Q I rx ry h
  obtain ⟨a, b, xs, rfl, rfl, ha, hb, q⟩ := h
  cases rx
  cases ry
  obtain ⟨its, r1, t1, z1⟩ := I.list ha
  obtain ⟨its2, r2, t2, z2⟩ := I.list hb
  cases r2
  have hu' : X.A.units < cLine := Nat.lt_of_le_of_lt (Nat.le_add_right _ _) hu
  cases r1 with
  | nil =>
    refine SeqAt.eq_listAt (e := fun _ => true) t1.isList t2.isList rfl hu' (fun j h1 => ?_) ⟨.bl true, H, I, rfl, q⟩
    exact absurd h1 (by simp)
  | cons p r => exact SeqAt.eq_list_lengthsAt t1.isList t2.isList (by simp) hu' ⟨.bl false, H, I, rfl, q⟩
theorem op_neNil (hu : X.A.units + 64 < cLine) : OpR X (compareOp .NotEq) (rNilN X.K) := by
  intro pins s σ H x y v u Q I rx ry h
  obtain ⟨a, b, xs, rfl, rfl, ha, hb, q⟩ := h
  cases rx
  cases ry
  obtain ⟨its, r1, t1, z1⟩ := I.list ha
  obtain ⟨its2, r2, t2, z2⟩ := I.list hb
  cases r2
  have hu' : X.A.units < cLine := Nat.lt_of_le_of_lt (Nat.le_add_right _ _) hu
  cases r1 with
  | nil =>
    refine SeqAt.RcNeAt.lists (e := fun _ => true) t1.isList t2.isList rfl hu' (fun j h1 => ?_) _ _ _ _ ⟨.bl false, H, I, rfl, q⟩
    exact absurd h1 (by simp)
  | cons p r => exact SeqAt.RcNeAt.lists_lengths t1.isList t2.isList (by simp) hu' _ _ _ _ ⟨.bl true, H, I, rfl, q⟩
end
end Nw

namespace Nw
open PySem PySem.Spec PyProof.Rows L2
/-! ### the source of draws: a dict, two lists -/
structure DA where
  d : Addr
  g : Addr
  l : Addr
def TD (D : DA) : Addr → Prop := fun b => b = D.d ∨ b = D.g ∨ b = D.l
abbrev drK (D : DA) (dig tn : Int) : List (Key × V) := [(.inr "digits", .int dig), (.inr "great", .ref D.g), (.inr "lumps", .ref D.l), (.inr "turn", .int tn)]
structure DrS (D : DA) (dig tn : Int) (gs ls : List Int) (I H : Hp) : Prop where
  sub : Same I H
  vd : I D.d = none
  vg : I D.g = none
  vl : I D.l = none
  dg : D.d ≠ D.g
  dl : D.d ≠ D.l
  gl : D.g ≠ D.l
  hd : H D.d = some (.dK (drK D dig tn))
  hg : H D.g = some (.lst (gs.map V.int))
  hl : H D.l = some (.lst (ls.map V.int))
structure Drw (D : DA) (n : Nat) (I H : Hp) : Prop where
  ex : ∃ (dig tn : Int) (gs ls : List Int), DrS D dig tn gs ls I H ∧ 0 ≤ dig ∧ 0 ≤ tn ∧ tn ≤ n ∧ (∀ g ∈ gs, 0 ≤ g) ∧ (∀ l ∈ ls, 0 ≤ l)
section
variable {D : DA} {dig tn : Int} {gs ls : List Int} {n : Nat} {T : Addr → Prop} {I H I' H' I0 H0 : Hp} {p l m : Addr} {o o' : HO}
theorem DrS.live (s : DrS D dig tn gs ls I H) : ∀ b, TD D b → H b ≠ none := fun b t => by
  rcases t with rfl | rfl | rfl
  · rw [s.hd]; exact fun z => nomatch z
  · rw [s.hg]; exact fun z => nomatch z
  · rw [s.hl]; exact fun z => nomatch z
theorem Drw.live (w : Drw D n I H) : ∀ b, TD D b → H b ≠ none := let ⟨_, _, _, _, s, _⟩ := w.ex; s.live
theorem Drw.sub (w : Drw D n I H) : Same I H := let ⟨_, _, _, _, s, _⟩ := w.ex; s.sub
theorem DrS.grow (s : DrS D dig tn gs ls I H) (g : Grow No I H I' H') : DrS D dig tn gs ls I' H' :=
  ⟨g.sub, g.fresh _ s.vd (s.live _ (.inl rfl)), g.fresh _ s.vg (s.live _ (.inr (.inl rfl))), g.fresh _ s.vl (s.live _ (.inr (.inr rfl))), s.dg, s.dl, s.gl, g.keep _ _ (fun z => z) s.hd, g.keep _ _ (fun z => z) s.hg, g.keep _ _ (fun z => z) s.hl⟩
theorem Drw.grow (w : Drw D n I H) (g : Grow No I H I' H') : Drw D n I' H' := let ⟨a, b, c, d, s, r⟩ := w.ex; ⟨a, b, c, d, s.grow g, r⟩
theorem DrS.put (s : DrS D dig tn gs ls I H) (nt : ¬ TD D m) (ni : I m = none) : DrS D dig tn gs ls I (upd H m o) :=
  ⟨fun b u e => by rw [upd_ne (ne_of_none e ni)]; exact s.sub b u e, s.vd, s.vg, s.vl, s.dg, s.dl, s.gl, by rw [upd_ne fun z => nt (.inl z.symm)]; exact s.hd, by rw [upd_ne fun z => nt (.inr (.inl z.symm))]; exact s.hg, by rw [upd_ne fun z => nt (.inr (.inr z.symm))]; exact s.hl⟩
theorem Drw.put (w : Drw D n I H) (x : Own (TD D) H0 m o I H) : Drw D n I (upd H m o') := let ⟨a, b, c, d, s, r⟩ := w.ex; ⟨a, b, c, d, s.put x.nt x.ni, r⟩
theorem Drw.give (w : Drw D n I H) (x : Own (TD D) H0 m o I H) : Drw D n (upd I m o) H := by
  obtain ⟨a, b, c, d, s, r⟩ := w.ex
  refine ⟨a, b, c, d, ⟨fun q u e => ?_, ?_, ?_, ?_, s.dg, s.dl, s.gl, s.hd, s.hg, s.hl⟩, r⟩
  · by_cases z : q = m
    · subst z; rw [upd_same] at e; rw [x.at_]; exact e
    · rw [upd_ne z] at e; exact s.sub q u e
  · rw [upd_ne fun z => x.nt (.inl z.symm)]; exact s.vd
  · rw [upd_ne fun z => x.nt (.inr (.inl z.symm))]; exact s.vg
  · rw [upd_ne fun z => x.nt (.inr (.inr z.symm))]; exact s.vl
theorem Drw.mono {m : Nat} (w : Drw D n I H) (h : n ≤ m) : Drw D m I H := by
  obtain ⟨a, b, c, d, s, h1, h2, h3, h4⟩ := w.ex
  exact ⟨a, b, c, d, s, h1, h2, by omega, h4⟩
theorem DrS.up (s : DrS D dig tn gs ls I H) {d2 t2 : Int} (hH : Same I H') (h1 : H' D.d = some (.dK (drK D d2 t2))) {gs2 : List Int} (h2 : H' D.g = some (.lst (gs2.map V.int))) (h3 : H' D.l = some (.lst (ls.map V.int))) : DrS D d2 t2 gs2 ls I H' :=
  ⟨hH, s.vd, s.vg, s.vl, s.dg, s.dl, s.gl, h1, h2, h3⟩
/-- only the source's own objects change -/
theorem DrS.gd (s : DrS D dig tn gs ls I H) (g : Grow (TD D) I0 H0 I H) : Grow (TD D) I0 H0 I (upd H D.d o) where
  view := g.view
  sub := fun b u e => by rw [upd_ne (ne_of_none e s.vd)]; exact g.sub b u e
  keep := fun b u n e => by rw [upd_ne fun z => n (.inl z)]; exact g.keep b u n e
  live := fun b e => upd_live (g.live b e)
  fresh := g.fresh
  tbl := g.tbl
theorem DrS.gg (s : DrS D dig tn gs ls I H) (g : Grow (TD D) I0 H0 I H) : Grow (TD D) I0 H0 I (upd H D.g o) where
  view := g.view
  sub := fun b u e => by rw [upd_ne (ne_of_none e s.vg)]; exact g.sub b u e
  keep := fun b u n e => by rw [upd_ne fun z => n (.inr (.inl z))]; exact g.keep b u n e
  live := fun b e => upd_live (g.live b e)
  fresh := g.fresh
  tbl := g.tbl
end
theorem putK_new {κ : Type} [DecidableEq κ] {kvs : List (κ × V)} {k : κ} {v : V} (h : k ∉ kvs.map (·.1)) : putK kvs k v = kvs ++ [(k, v)] := by
  unfold putK
  have e : (kvs.any fun kv => decide (kv.1 = k)) = false := by
    rw [List.any_eq_false]
    intro kv hkv z
    exact h (List.mem_map.mpr ⟨kv, hkv, of_decide_eq_true z⟩)
  rw [e, if_neg Bool.false_ne_true]
theorem merge_app : ∀ {more acc : List (Key × V)}, (∀ k ∈ more.map (·.1), k ∉ acc.map (·.1)) → (more.map (·.1)).Nodup → mergeK acc more = acc ++ more
  | [], acc, _, _ => (List.append_nil acc).symm
  | q :: r, acc, h, nd => by
    have h1 : putK acc q.1 q.2 = acc ++ [q] := putK_new (h q.1 (List.mem_cons_self ..))
    have nd' := List.nodup_cons.mp nd
    have ih := merge_app (more := r) (acc := acc ++ [q]) (fun k hk => by
      rw [List.map_append, List.mem_append]
      rintro (z | z)
      · exact h k (List.mem_cons_of_mem _ hk) z
      · simp at z; subst z; exact nd'.1 hk) nd'.2
    show mergeK (putK acc q.1 q.2) r = acc ++ q :: r
    rw [h1, ih, List.append_assoc] <;> rfl
theorem merge_nodup {kvs : List (Key × V)} (h : (kvs.map (·.1)).Nodup) : mergeK [] kvs = kvs := merge_app (fun _ _ z => by cases z) h
theorem k12 : ¬ ((Sum.inr "digits" : Key) = (Sum.inr "great" : Key)) := by decide +kernel
theorem k13 : ¬ ((Sum.inr "digits" : Key) = (Sum.inr "lumps" : Key)) := by decide +kernel
theorem k14 : ¬ ((Sum.inr "digits" : Key) = (Sum.inr "turn" : Key)) := by decide +kernel
theorem k23 : ¬ ((Sum.inr "great" : Key) = (Sum.inr "lumps" : Key)) := by decide +kernel
theorem k24 : ¬ ((Sum.inr "great" : Key) = (Sum.inr "turn" : Key)) := by decide +kernel
theorem k34 : ¬ ((Sum.inr "lumps" : Key) = (Sum.inr "turn" : Key)) := by decide +kernel
variable {D : DA} {dig tn i : Int}
theorem val_dig : valV (drK D dig tn) (Sum.inr "digits") = some (.int dig) := valV_pos rfl
theorem val_great : valV (drK D dig tn) (Sum.inr "great") = some (.ref D.g) := (valV_neg k12).trans (valV_pos rfl)
theorem val_lumps : valV (drK D dig tn) (Sum.inr "lumps") = some (.ref D.l) := (valV_neg k13).trans ((valV_neg k23).trans (valV_pos rfl))
theorem val_turn : valV (drK D dig tn) (Sum.inr "turn") = some (.int tn) := (valV_neg k14).trans ((valV_neg k24).trans ((valV_neg k34).trans (valV_pos rfl)))
theorem put_dig : putK (drK D dig tn) (Sum.inr "digits") (.int i) = drK D i tn := by
  unfold putK
  rw [valV_any, val_dig]
  show (if true = true then _ else _) = _
  rw [if_pos rfl]
  simp only [List.map_cons, List.map_nil]
  rw [if_pos trivial, if_neg (Ne.symm k12), if_neg (Ne.symm k13), if_neg (Ne.symm k14)]
theorem put_turn : putK (drK D dig tn) (Sum.inr "turn") (.int i) = drK D dig i := by
  unfold putK
  rw [valV_any, val_turn]
  show (if true = true then _ else _) = _
  rw [if_pos rfl]
  simp only [List.map_cons, List.map_nil]
  rw [if_neg k14, if_neg k24, if_neg k34, if_pos trivial]
def lim : Nat := 1099511627776
/-- a number below many -/
def spNext : Sp := fun vs H Q _ => ∃ (I : Hp) (D : DA) (n : Nat) (many : Int), vs = [.ref D.d, .int many] ∧ Drw D n I H ∧ 0 < many ∧ many < 1073741824 ∧ n < lim ∧
  ∀ (r : Int) (H' : Hp), 0 ≤ r → r < many → Grow (TD D) I H I H' → Drw D (n + 1) I H' → Q (.int r) H'
theorem DrS.get_dig {gs ls : List Int} {I H : Hp} (s : DrS D dig tn gs ls I H) : DGet H D.d (.str "digits") (some (.int dig)) := by
  have z := DGet.k (k := .inr "digits") s.hd
  rw [val_dig] at z
  exact z
theorem DrS.get_great {gs ls : List Int} {I H : Hp} (s : DrS D dig tn gs ls I H) : DGet H D.d (.str "great") (some (.ref D.g)) := by
  have z := DGet.k (k := .inr "great") s.hd
  rw [val_great] at z
  exact z
theorem DrS.get_lumps {gs ls : List Int} {I H : Hp} (s : DrS D dig tn gs ls I H) : DGet H D.d (.str "lumps") (some (.ref D.l)) := by
  have z := DGet.k (k := .inr "lumps") s.hd
  rw [val_lumps] at z
  exact z
theorem DrS.get_turn {gs ls : List Int} {I H : Hp} (s : DrS D dig tn gs ls I H) : DGet H D.d (.str "turn") (some (.int tn)) := by
  have z := DGet.k (k := .inr "turn") s.hd
  rw [val_turn] at z
  exact z
theorem DrS.put_dig {gs ls : List Int} {I H : Hp} (s : DrS D dig tn gs ls I H) : DPut H D.d (.str "digits") (.int i) (upd H D.d (.dK (drK D i tn))) := by
  have z := DPut.k (k := .inr "digits") (v := .int i) s.hd (by show 4 < sizeLine; decide)
  rw [Nw.put_dig] at z
  exact z
theorem DrS.put_turn {gs ls : List Int} {I H : Hp} (s : DrS D dig tn gs ls I H) : DPut H D.d (.str "turn") (.int i) (upd H D.d (.dK (drK D dig i))) := by
  have z := DPut.k (k := .inr "turn") (v := .int i) s.hd (by show 4 < sizeLine; decide)
  rw [Nw.put_turn] at z
  exact z
end Nw

namespace Nw
open PySem PySem.Spec PyProof.Rows L2
/-- what is said of the heap stands through the making and changing of other things -/
structure Stable (T : Addr → Prop) (R : Hp → Hp → Prop) : Prop where
  grow : ∀ {I H I' H' : Hp}, R I H → Grow No I H I' H' → R I' H'
  put : ∀ {H0 : Hp} {m : Addr} {o o' : HO} {I H : Hp}, R I H → Own T H0 m o I H → R I (upd H m o')
  give : ∀ {H0 : Hp} {m : Addr} {o : HO} {I H : Hp}, R I H → Own T H0 m o I H → R (upd I m o) H
theorem Stable.triv {T : Addr → Prop} : Stable T fun _ _ => True := ⟨fun _ _ => trivial, fun _ _ => trivial, fun _ _ => trivial⟩
theorem Stable.drw {D : DA} {n : Nat} : Stable (TD D) (Drw D n) := ⟨fun w g => w.grow g, fun w x => w.put x, fun w x => w.give x⟩
theorem Paired.snoc {α β : Type} {F : α → β → Prop} : ∀ {xs : List α} {ys : List β} {x : α} {y : β}, Paired F xs ys → F x y → Paired F (xs ++ [x]) (ys ++ [y])
  | _, _, _, _, .nil, h => .cons h .nil
  | _, _, _, _, .cons a t, h => .cons a (Paired.snoc t h)
theorem Paired.at {α β : Type} {F : α → β → Prop} : ∀ {xs : List α} {ys : List β} {i : Nat} {y : β}, Paired F xs ys → ys[i]? = some y → ∃ x, xs[i]? = some x ∧ F x y
  | _, _, _, _, .nil, h => by simp at h
  | _, _, 0, _, .cons a t, h => by simp at h; subst h; exact ⟨_, rfl, a⟩
  | _, _, i + 1, _, .cons a t, h => by
    obtain ⟨x, h1, h2⟩ := Paired.at (i := i) t (by simpa using h)
    exact ⟨x, by simpa using h1, h2⟩
theorem Paired.at' {α β : Type} {F : α → β → Prop} : ∀ {xs : List α} {ys : List β} {i : Nat} {x : α}, Paired F xs ys → xs[i]? = some x → ∃ y, ys[i]? = some y ∧ F x y
  | _, _, _, _, .nil, h => by simp at h
  | _, _, 0, _, .cons a t, h => by simp at h; subst h; exact ⟨_, rfl, a⟩
  | _, _, i + 1, _, .cons a t, h => by
    obtain ⟨x, h1, h2⟩ := Paired.at' (i := i) t (by simpa using h)
    exact ⟨x, by simpa using h1, h2⟩
theorem Paired.len {α β : Type} {F : α → β → Prop} : ∀ {xs : List α} {ys : List β}, Paired F xs ys → xs.length = ys.length
  | _, _, .nil => rfl
  | _, _, .cons a t => congrArg (· + 1) (Paired.len t)
theorem lc_yes {te : TE} {σ : L2.St} {H : Hp} {Ky : VK} {Kn : Hp → Prop} (h : te σ H Ky) : tYes σ H (fun b H3 => if b = true then te σ H3 Ky else Kn H3) := by
  show (if true = true then te σ H Ky else Kn H)
  rw [if_pos rfl]
  exact h
section
variable {β : Type} [Rep β] {J : It} {n : Nat} {G : Hp → Prop} {Y : Nat → Hp → V → Hp → Prop} {T : Addr → Prop} {I H1 : Hp} {L : Addr} {g : TG} {tt : TT} {te : TE} {vs : List Nat} {σ : L2.St} {Qd : Hp → Prop}
/-- a comprehension over anything that is walked -/
theorem lc_gen (w : Walk J n G Y) (R : Nat → Hp → Hp → Prop) (hR : ∀ i, Stable T (R i)) (sub : Same I H1) (hT : ∀ b, T b → H1 b ≠ none) (hL : H1 L = none) (r0 : R 0 I H1) (hn : n ≤ 16777216)
    (hG : ∀ i I' H', Grow T I H1 I' H' → R i I' H' → G H') (P : Nat → Option β → Prop)
    (step : ∀ i x I' H' H'', i < n → Grow T I H1 I' H' → R i I' H' → Y i H' x H'' → ∀ (Kn : Hp → Prop) (Ky : V → Hp → Prop), (P i none → ∀ I2 H2, Grow T I' H' I2 H2 → R (i + 1) I2 H2 → Kn H2) →
      (∀ y, P i (some y) → ∀ v I2 H2, Grow T I' H' I2 H2 → R (i + 1) I2 H2 → Rep.is I2 v y → Ky v H2) →
      g x (wipe σ vs) H'' fun σ2 H2 => wipe σ2 vs = wipe σ vs ∧ tt σ2 H2 fun b H3 => if b = true then te σ2 H3 Ky else Kn H3)
    (done : ∀ (os : List (Option β)) I' H' vs', os.length = n → (∀ i o, os[i]? = some o → P i o) → Grow T I H1 I' H' → R n I' H' → Own T H1 L (.lst vs') I' H' → Paired (Rep.is I') vs' (os.filterMap id) → Qd H') :
    ∃ W : Nat → Nat → Hp → Prop, (∃ m, W 0 m (upd H1 L (.lst []))) ∧ ∀ i m H, W i m H →
      (J.stop i H ∧ Qd H) ∨ (J.go i H ∧ ∃ Nx : Hp → Prop, (∀ H', Nx H' → ∃ m', m' < m ∧ W (i + 1) m' H') ∧ ∀ x H', J.yld i H x H' → g x (wipe σ vs) H' fun σ2 H2 => wipe σ2 vs = wipe σ vs ∧ tt σ2 H2 fun b H3 =>
        if b = true then te σ2 H3 fun y H4 => ∃ acc, H4 L = some (.lst acc) ∧ acc.length < sizeLine ∧ Nx (upd H4 L (.lst (acc ++ [y]))) else Nx H3) := by
  refine lc_it w (fun i H => i ≤ n ∧ ∃ I' acc, ∃ os : List (Option β), Grow T I H1 I' H ∧ R i I' H ∧ Own T H1 L (.lst acc) I' H ∧ os.length = i ∧ acc.length ≤ i ∧ (∀ j o, os[j]? = some o → P j o) ∧ Paired (Rep.is I') acc (os.filterMap id))
    ⟨Nat.zero_le _, I, [], [], Grow.mine sub hL, (hR 0).grow r0 (Grow.mine sub hL), Own.new sub (.inl (Same.refl H1)) hT hL, rfl, Nat.le_refl _, fun j o e => by simp at e, .nil⟩ (fun i H _ ⟨_, I', _, _, g1, r1, _⟩ => hG i I' H g1 r1) ?_ ?_
  · rintro i x H H' hi ⟨_, I', acc, os, g1, r1, ow, hl, ha, hP, hp⟩ y
    have hz : acc.length < sizeLine := by rw [sizeLine_eq]; omega
    refine step i x I' H H' hi g1 r1 y (fun H3 => i + 1 ≤ n ∧ ∃ I' acc, ∃ os : List (Option β), Grow T I H1 I' H3 ∧ R (i + 1) I' H3 ∧ Own T H1 L (.lst acc) I' H3 ∧ os.length = i + 1 ∧ acc.length ≤ i + 1 ∧ (∀ j o, os[j]? = some o → P j o) ∧ Paired (Rep.is I') acc (os.filterMap id)) _ (fun h0 I2 H2 g2 r2 => ?_) (fun z hz2 v I2 H2 g2 r2 hv => ?_)
    · refine ⟨hi, I2, acc, os ++ [none], g1.trans g2, r2, ow.grow g2, by simp [hl], by omega, fun j o e => ?_, ?_⟩
      · rw [List.getElem?_append] at e
        split at e
        · exact hP j o e
        · rename_i hj
          cases q : j - os.length with
          | zero =>
            rw [q] at e
            simp at e; subst e
            have : j = i := by omega
            rw [this]; exact h0
          | succ k => rw [q] at e; simp at e
      · rw [List.filterMap_append]
        simp only [List.filterMap_cons, List.filterMap_nil, id, List.append_nil]
        exact Paired.mono' (fun _ _ z => Rep.mono g2.view z) hp
    · have ow2 := ow.grow g2
      refine ⟨acc, ow2.at_, hz, hi, I2, acc ++ [v], os ++ [some z], (g1.trans g2).put ow2, (hR _).put r2 ow2, ow2.put, by simp [hl], by simp; omega, fun j o e => ?_, ?_⟩
      · rw [List.getElem?_append] at e
        split at e
        · exact hP j o e
        · rename_i hj
          cases q : j - os.length with
          | zero =>
            rw [q] at e
            simp at e; subst e
            have : j = i := by omega
            rw [this]; exact hz2
          | succ k => rw [q] at e; simp at e
      · rw [List.filterMap_append]
        exact Paired.snoc (Paired.mono' (fun _ _ z => Rep.mono g2.view z) hp) hv
  · rintro H ⟨_, I', acc, os, g1, r1, ow, hl, ha, hP, hp⟩
    exact done os I' H acc hl hP g1 r1 ow hp
end
theorem os_eq {α β : Type} {f : α → β} : ∀ {xs : List α} {os : List β}, os.length = xs.length → (∀ (i : Nat) (o : β), os[i]? = some o → ∃ x, xs[i]? = some x ∧ o = f x) → os = xs.map f
  | [], [], _, _ => rfl
  | [], _ :: _, h, _ => by simp at h
  | _ :: _, [], h, _ => by simp at h
  | x :: xs, o :: os, h, hP => by
    obtain ⟨z, h1, h2⟩ := hP 0 o rfl
    simp at h1
    subst h1
    rw [List.map_cons, h2, os_eq (f := f) (xs := xs) (os := os) (by simpa using h) fun i o' e => hP (i + 1) o' (by simpa using e)]
theorem fm_id {α β : Type} {f : α → Option β} (xs : List α) : (xs.map f).filterMap id = xs.filterMap f := by
  rw [List.filterMap_map]
  rfl
theorem Paired.ints {I : Hp} : ∀ {vs : List V} {ns : List Int}, Paired (Rep.is I) vs ns → vs = ns.map V.int
  | _, _, .nil => rfl
  | _, _, .cons h t => by
    have e : _ = V.int _ := h
    rw [List.map_cons, e, Paired.ints t]
theorem Paired.bls {I : Hp} : ∀ {vs : List V} {ns : List Bool}, Paired (Rep.is I) vs ns → vs = ns.map V.bl
  | _, _, .nil => rfl
  | _, _, .cons h t => by
    have e : _ = V.bl _ := h
    rw [List.map_cons, e, Paired.bls t]
theorem Paired.strs {I : Hp} : ∀ {vs : List V} {ns : List Str}, Paired (Rep.is I) vs ns → vs = ns.map V.str
  | _, _, .nil => rfl
  | _, _, .cons h t => by
    have e : _ = V.str _ := h
    rw [List.map_cons, e, Paired.strs t]
section
variable {α β : Type} [Rep β] {J : It} {n : Nat} {G : Hp → Prop} {Y : Nat → Hp → V → Hp → Prop} {I H1 : Hp} {L : Addr} {g : TG} {tt : TT} {te : TE} {vs : List Nat} {σ : L2.St} {Qd : Hp → Prop}
/-- a comprehension that only makes: its list is xs.filterMap f -/
theorem lc_pure (w : Walk J n G Y) (xs : List α) (f : α → Option β) (hx : xs.length = n) (sub : Same I H1) (hL : H1 L = none) (hn : n ≤ 16777216) (hG : ∀ I' H', Grow No I H1 I' H' → G H')
    (step : ∀ i x v I' H' H'', xs[i]? = some x → Grow No I H1 I' H' → Y i H' v H'' → ∀ (Kn : Hp → Prop) (Ky : V → Hp → Prop), (f x = none → ∀ I2 H2, Grow No I' H' I2 H2 → Kn H2) →
      (∀ y, f x = some y → ∀ v I2 H2, Grow No I' H' I2 H2 → Rep.is I2 v y → Ky v H2) →
      g v (wipe σ vs) H'' fun σ2 H2 => wipe σ2 vs = wipe σ vs ∧ tt σ2 H2 fun b H3 => if b = true then te σ2 H3 Ky else Kn H3)
    (done : ∀ I' H' vs', Grow No I H1 I' H' → Own No H1 L (.lst vs') I' H' → Paired (Rep.is I') vs' (xs.filterMap f) → Qd H') :
    ∃ W : Nat → Nat → Hp → Prop, (∃ m, W 0 m (upd H1 L (.lst []))) ∧ ∀ i m H, W i m H →
      (J.stop i H ∧ Qd H) ∨ (J.go i H ∧ ∃ Nx : Hp → Prop, (∀ H', Nx H' → ∃ m', m' < m ∧ W (i + 1) m' H') ∧ ∀ x H', J.yld i H x H' → g x (wipe σ vs) H' fun σ2 H2 => wipe σ2 vs = wipe σ vs ∧ tt σ2 H2 fun b H3 =>
        if b = true then te σ2 H3 fun y H4 => ∃ acc, H4 L = some (.lst acc) ∧ acc.length < sizeLine ∧ Nx (upd H4 L (.lst (acc ++ [y]))) else Nx H3) := by
  refine lc_gen (T := No) w (fun _ _ _ => True) (fun _ => Stable.triv) sub (fun _ z => z.elim) hL trivial hn (fun _ I' H' g _ => hG I' H' g) (fun i o => ∃ x, xs[i]? = some x ∧ o = f x) ?_ ?_
  · intro i v I' H' H'' hi g1 _ y Kn Ky kn ky
    have hi' : i < xs.length := by omega
    have hx' : xs[i]? = some xs[i] := List.getElem?_eq_getElem hi'
    exact step i _ v I' H' H'' hx' g1 y Kn Ky (fun e I2 H2 g2 => kn ⟨_, hx', e.symm⟩ I2 H2 g2 trivial) fun z e v I2 H2 g2 r => ky z ⟨_, hx', e.symm⟩ v I2 H2 g2 trivial r
  · intro os I' H' vs' hl hP g1 _ ow hp
    have e : os.filterMap id = xs.filterMap f := by
      rw [os_eq (f := f) (by omega) hP, fm_id]
    rw [e] at hp
    exact done I' H' vs' g1 ow hp
end
theorem sum_ones {α : Type} : ∀ l : List α, (l.map (fun _ => 1)).sum = l.length
  | [] => rfl
  | x :: r => by
    rw [List.map_cons, List.sum_cons, sum_ones r, List.length_cons]
    omega
theorem fm_some {α β : Type} {f : α → β} (xs : List α) : xs.filterMap (fun x => some (f x)) = xs.map f := by
  induction xs with
  | nil => rfl
  | cons x r ih => rw [List.filterMap_cons, List.map_cons, ih]
theorem take_fold {α β : Type} {f : β → α → β} {b : β} {l : List α} {i : Nat} {x : α} (h : l[i]? = some x) : (l.take (i + 1)).foldl f b = f ((l.take i).foldl f b) x := by
  rw [List.take_add_one, h, List.foldl_append]
  rfl
theorem mem_take {α : Type} {l : List α} {i : Nat} {r : α} (h : l[i]? = some r) {x : α} : x ∈ l.take (i + 1) ↔ x ∈ l.take i ∨ x = r := by
  rw [List.take_add_one, h, List.mem_append]
  simp
end Nw

namespace Nw
open PySem PySem.Spec PyProof.Rows L2
/-! ### texts as lists of signs -/
def mk (l : List Nat) : Str := ⟨l.toArray⟩
abbrev sg (c : Nat) : Str := ⟨#[c]⟩
theorem mk_sg (c : Nat) : mk [c] = sg c := rfl
theorem mk_list (s : Str) : mk s.cps.toList = s := rfl
theorem mk_app (a b : List Nat) : mk a ++ mk b = mk (a ++ b) := by
  show (⟨a.toArray ++ b.toArray⟩ : Str) = ⟨(a ++ b).toArray⟩
  simp
theorem mk_inj {a b : List Nat} (h : mk a = mk b) : a = b := by
  have z := congrArg (fun s : Str => s.cps.toList) h
  simpa [mk] using z
theorem mk_len (a : List Nat) : (mk a).length = a.length := by simp [mk, Str.length]
theorem mk_cps (a : List Nat) : (mk a).cps.toList = a := by simp [mk]
theorem mk_nil : mk [] = ("" : Str) := rfl
theorem join_signs : ∀ cs : List Nat, Txt.join ("" : Str) (cs.map sg) = mk cs := by
  intro cs
  unfold Txt.join
  rw [StrLaws.glued_eq_join]
  induction cs with
  | nil => rfl
  | cons c r ih =>
    cases r with
    | nil => rfl
    | cons d t =>
      show sg c ++ ("" : Str) ++ Str.join ("" : Str) ((d :: t).map sg) = mk (c :: d :: t)
      rw [ih]
      rw [← mk_nil, ← mk_sg, mk_app, mk_app] <;> rfl
theorem upper_sg {c : Nat} (h : c < 128) : Txt.upper (sg c) = sg (up1 c) := by
  rw [upper_ascii (by intro d hd; simp at hd; omega)]
  simp [sg]
theorem lower_sg {c : Nat} (h : c < 128) : Txt.lower (sg c) = sg (lo1 c) := by
  rw [lower_ascii (by intro d hd; simp at hd; omega)]
  simp [sg]
theorem upper_mk {l : List Nat} (h : ∀ c ∈ l, c < 128) : Txt.upper (mk l) = mk (l.map up1) := by
  rw [upper_ascii (by rw [mk_cps]; exact h)]
  simp [mk]
/-! ### z[::-1] -/
def tRevS (te : TE) : TE := fun σ H Q => te σ H fun x H1 => ∃ l : List Nat, x = .str (mk l) ∧ l.length ≤ 16777216 ∧ Q (.str (mk l.reverse)) H1
theorem rev_pick (z : Str) : (Builtin.Str.strSliceIndices none none (-1) z.length).filterMap (z.cps[·]?) = z.cps.toList.reverse := by
  have e : Builtin.Str.strSliceIndices none none (-1) z.length = (List.range z.cps.size).reverse := by
    unfold Builtin.Str.strSliceIndices
    show sliceRange ((z.cps.size : Int) - 1) (-1) (-1) = _
    rw [PySem.W.krv_sliceRange, PySem.W.krv_range]
  rw [e, List.filterMap_reverse, PySem.W.krv_all]
theorem pe_revS {X : Cx} {e : Expr} {te : TE} {k : Nat} {p1 p2 p3 pos : Pos} (he : PE X e te) : PE X (.Subscript e (.Slice none none (some (.UnaryOp .USub (.Constant (.int 1) k p1) p2)) p3) pos) (tRevS te) := by
  refine ⟨fun pins s σ H Q I h => Subscript_ (wpAny_mono (he.run pins s σ H _ I h) (fun v s1 hv => ?_) fun _ _ z => z)⟩
  obtain ⟨x, H1, I1, r1, l, ex, hz, q⟩ := hv
  subst ex
  obtain ⟨t, rfl⟩ := r1
  have hst : PO X (some (.UnaryOp .USub (.Constant (.int 1) k p1) p2)) (tPart (tUn (rU fun i => .int (-i)) (tC (.int 1)))) := po_some (pe_un un_neg pe_int)
  refine wpAny_Slice (wpAny_mono (po_none.run pins s1 σ H1 (fun o H2 => o = none ∧ H2 = H1) I1 ⟨rfl, rfl⟩) (fun vl s2 h2 => ?_) fun _ _ z => z)
  obtain ⟨lo, H2, I2, pl, el, e2⟩ := h2
  subst el e2
  refine wpAny_mono (po_none.run pins s2 σ H2 (fun o H3 => o = none ∧ H3 = H2) I2 ⟨rfl, rfl⟩) (fun vu s3 h3 => ?_) fun _ _ z => z
  obtain ⟨hi, H3, I3, pu, eu, e3⟩ := h3
  subst eu e3
  refine wpAny_mono (hst.run pins s3 σ H3 (fun o H4 => o = some (-1) ∧ H4 = H3) I3 ⟨1, rfl, -1, rfl, rfl, rfl⟩) (fun vs s4 h4 => ?_) fun _ _ z => z
  obtain ⟨o, H4, I4, ps, eo, e4⟩ := h4
  subst eo e4
  obtain ⟨l1, rfl, e1⟩ := IsPart.raw pl
  obtain ⟨u1, rfl, e2⟩ := IsPart.raw pu
  obtain ⟨t1, rfl, e3⟩ := IsPart.raw ps
  have I5 : Inv X pins σ H4 { s4 with heap := s4.heap.push { cls := .type "slice", data := .fields #[partValue l1, partValue u1, partValue t1] } } := I4.kept (t' := s4.toks) fun b ob q => Heap.get?_push_of_some _ q
  refine tail_any (ops := [.ref s4.heap.objs.size, .str (mk l) t]) (typeIs_str _ _ _) PySem.F.slot_str_getitem.lookup ?_ (by with_unfolding_all rfl)
  refine wpAny_getItem_str_slice (l := l1) (u := u1) (st := t1) ⟨_, Heap.get?_push_size _ rfl, rfl, rfl⟩ (by rw [e3]; rfl) ?_
  unfold sliceMade slicePicked
  rw [e3, e1, e2]
  rw [if_neg (by intro z; exact Bool.noConfusion z)]
  show Made.post (Made.str ⟨((Builtin.Str.strSliceIndices none none (-1) (mk l).length).filterMap ((mk l).cps[·]?)).toArray⟩) (EP X pins σ Q) _
  rw [rev_pick, mk_cps]
  refine ⟨?_, .str (mk l.reverse), H4, I5.tok _, ⟨_, rfl⟩, q⟩
  show (mk l.reverse).length ≤ sizeLine
  rw [mk_len, List.length_reverse, sizeLine_eq]
  exact hz
end Nw

namespace Nw
open PySem PySem.Spec PyProof.Rows L2
theorem atI_rev {α : Type} (st : List α) (j : Nat) (i : Int) (hi : i = -(j : Int) - 1) : atI st.reverse i = st[j]? := by
  subst hi
  unfold atI ixN
  rw [if_neg (by omega), List.length_reverse]
  by_cases h : j < st.length
  · rw [if_pos (by omega)]
    have e : (-(j : Int) - 1 + (st.length : Int)).toNat = st.length - 1 - j := by omega
    rw [e]
    show st.reverse[st.length - 1 - j]? = st[j]?
    rw [List.getElem?_reverse (by omega)]
    congr 1
    omega
  · rw [if_neg (by omega), List.getElem?_eq_none (by omega)]
    rfl
theorem atI_nat' {α : Type} {xs : List α} {j : Nat} {i : Int} (hi : i = (j : Int)) : atI xs i = xs[j]? := by
  subst hi
  unfold atI ixN
  rw [if_pos (by omega)]
  by_cases h : j < xs.length
  · rw [if_pos (by omega)]
    rfl
  · rw [if_neg (by omega), List.getElem?_eq_none (by omega)]
    rfl
theorem cut_rev2 (st : List V) (h : 2 ≤ st.length) : cutV st.reverse none (some (-2)) = (st.drop 2).reverse := by
  unfold cutV
  have e1 : HT.sIx st.reverse.length st.reverse.length (some (-2)) = ((-2 : Int) + (st.reverse.length : Int)).toNat := by
    show (if (-2 : Int) < 0 then ((-2 : Int) + (st.reverse.length : Int)).toNat else min (-2 : Int).toNat st.reverse.length) = _
    rw [if_pos (by decide)]
  have e2 : HT.sIx st.reverse.length 0 none = 0 := rfl
  rw [e1, e2, List.drop_zero, List.length_reverse, Nat.sub_zero]
  have e : ((-2 : Int) + (st.length : Int)).toNat = st.length - 2 := by omega
  rw [e, List.take_reverse]
  congr 1
  congr 1
  omega
/-- a dict comprehension over anything that is walked -/
theorem dc_it {J : It} {n : Nat} {G : Hp → Prop} {Y : Nat → Hp → V → Hp → Prop} (w : Walk J n G Y) {g : TG} {tt : TT} {tk tv : TE} {vs : List Nat} {σ : L2.St} {H1 : Hp} {D : Addr} {Qd : Hp → Prop} (Pv : Nat → Hp → Prop) (h0 : Pv 0 (upd H1 D (.dK []))) (hG : ∀ i H, i ≤ n → Pv i H → G H)
    (hs : ∀ i x H H', i < n → Pv i H → Y i H x H' → g x (wipe σ vs) H' fun σ2 H2 => wipe σ2 vs = wipe σ vs ∧ tt σ2 H2 fun b H3 =>
      if b = true then tk σ2 H3 fun y H4 => tv σ2 H4 fun z H5 => ∃ kvs k, y = kV k ∧ H5 D = some (.dK kvs) ∧ kvs.length < sizeLine ∧ Pv (i + 1) (upd H5 D (.dK (putK kvs k z))) else Pv (i + 1) H3) (hd : ∀ H, Pv n H → Qd H) :
    ∃ W : Nat → Nat → Hp → Prop, (∃ m, W 0 m (upd H1 D (.dK []))) ∧ ∀ i m H, W i m H →
      (J.stop i H ∧ Qd H) ∨ (J.go i H ∧ ∃ Nx : Hp → Prop, (∀ H', Nx H' → ∃ m', m' < m ∧ W (i + 1) m' H') ∧ ∀ x H', J.yld i H x H' → g x (wipe σ vs) H' fun σ2 H2 => wipe σ2 vs = wipe σ vs ∧ tt σ2 H2 fun b H3 =>
        if b = true then tk σ2 H3 fun y H4 => tv σ2 H4 fun z H5 => ∃ kvs k, y = kV k ∧ H5 D = some (.dK kvs) ∧ kvs.length < sizeLine ∧ Nx (upd H5 D (.dK (putK kvs k z))) else Nx H3) := by
  refine ⟨fun i m H => m = n - i ∧ i ≤ n ∧ Pv i H, ⟨n, (Nat.sub_zero n).symm, Nat.zero_le n, h0⟩, ?_⟩
  rintro i m H ⟨em, hi, p⟩
  have q := hG i H hi p
  rcases Nat.lt_or_ge i n with hlt | hge
  · refine .inr ⟨w.goes i H hlt q, Pv (i + 1), fun H' p' => ⟨n - (i + 1), by omega, rfl, hlt, p'⟩, fun x H' y => ?_⟩
    exact hs i x H H' hlt p (w.yields i H x H' hlt q y)
  · have e : i = n := by omega
    subst e
    exact .inl ⟨w.stops H q, hd H p⟩
/-- d == {} -/
def rDNilE : R2 := fun x y H Q => ∃ a b ks, x = .ref a ∧ y = .ref b ∧ H a = some (.dK ks) ∧ H b = some (.dK []) ∧ Q (.bl ks.isEmpty) H
theorem op_eqDNil {X : Cx} (hu : X.A.units + 64 < cLine) : OpR X (compareOp .Eq) rDNilE := by
  intro pins s σ H x y v u Q I rx ry h
  obtain ⟨a, b, ks, rfl, rfl, ea, eb, q⟩ := h
  obtain rfl : v = Value.ref a := rx
  obtain rfl : u = Value.ref b := ry
  obtain ⟨_, ya, va, ra, da⟩ := (show ObjOk X.prog X.w H s.heap a (.dK ks) from I.hok a _ ea)
  obtain ⟨_, yb, vb, rb, db⟩ := (show ObjOk X.prog X.w H s.heap b (.dK []) from I.hok b _ eb)
  cases rb
  have hu' : X.A.units < cLine := Nat.lt_of_le_of_lt (Nat.le_add_right _ _) hu
  refine PySem.W.keq_eq (knd := mixKind X.prog X.w) (r := true) ya yb da db hu' (fun e => ?_) (fin_bl I q ?_)
  · cases ra with
    | nil => exact .nil
    | cons p t => cases e
  · cases ra with
    | nil => rfl
    | cons p t => rfl
end Nw

namespace Nw
open PySem PySem.Spec PyProof.Rows L2
variable {X : Cx}
theorem pe_gref {x : Str} {pos : Pos} {f : Addr} (h : X.mg x = some (.ref f)) (hg : Gl X x := by rfl) (hd : (x == ("__debug__" : Str)) = false := by decide) : PE X (.Name x pos) (tC (.ref f)) := pe_glob hg h rfl hd
/-! the rules that name the written part, for a comprehension's block -/
section
variable {K : PySem.W.Frag} (h : X.K = K)
include h
theorem call_isiK : CallR X (.builtin "isinstance") (rIsi K) := h ▸ call_isi
theorem ix_listK : IxR X (rIxL K) := h ▸ ix_list
theorem ix_tupK : IxR X (rIxT K) := h ▸ ix_tup
theorem op_in_seqK : OpR X (compareOp .In) (rIn K false) := h ▸ op_in_seq
theorem op_notIn_seqK : OpR X (compareOp .NotIn) (rIn K true) := h ▸ op_notIn_seq
theorem cr_allK (hc : X.calm = true) : CallR X (.builtin "all") (rAll K) := h ▸ cr_all hc
theorem cr_anyK (hc : X.calm = true) : CallR X (.builtin "any") (rAny K) := h ▸ cr_any hc
theorem call_len_seqK : CallR X (.builtin "len") (fun xs H Q => ∃ p ys, xs = [.ref p] ∧ (SqL K H p ys ∨ SqT K H p ys) ∧ Q (.int ys.length) H) := h ▸ call_len_seq
theorem pe_fldK {e : Expr} {f : Str} {pos : Pos} {ta : TE} (he : PE X e ta) (hb : attributeBase e f X.env (eval e X.env) = eval e X.env) : PE X (.Attribute e f pos) (tFld K ta f) := h ▸ pe_fld he hb
end
/-- list(text): its signs -/
theorem call_list_sg (hc : X.calm = true) : CallR X (.type "list") (fun xs H Q => ∃ l : List Nat, xs = [.str (mk l)] ∧ l.length ≤ 16777216 ∧ ∀ p, H p = none → Q (.ref p) (upd H p (.lst (l.map fun c => V.str (sg c))))) := by
  intro pins s σ H xs us Q I r h
  obtain ⟨l, rfl, hz, q⟩ := h
  obtain ⟨u, rfl, t, rfl⟩ := vals1 r
  have hsz : (mk l).cps.size = l.length := by simp [mk]
  refine PySem.call_list_str (I.ok.hd hc) (mk l) t (fun h' tk acc' c' hkeep hS hacc => ?_) (by rw [hsz, sizeLine_eq]; exact hz)
  refine ⟨.ref s.heap.objs.size, upd H s.heap.objs.size (.lst (l.map fun c => V.str (sg c))), I.laid hkeep (Nat.le_refl _) ⟨?_, acc'.toList, c', ?_, ?_⟩, rfl, q _ (I.hok.fresh (Nat.le_refl _))⟩
  · rw [List.length_map, sizeLine_eq]; exact hz
  · have h0 : acc'.size = l.length := hacc.1.trans hsz
    refine vals_of_at (by rw [List.length_map]; exact h0.symm.trans (Array.length_toList (xs := acc')).symm) fun j x w h1 h2 => ?_
    have h3 := hacc.2 j w (by rw [← Array.getElem?_toList]; exact h2)
    obtain ⟨c, t', e1, rfl⟩ := h3
    have e2 : l[j]? = some c := by simpa [mk] using e1
    have e3 : x = .str (sg c) := by
      have z : (l.map fun c => V.str (sg c))[j]? = some (.str (sg c)) := by rw [List.getElem?_map, e2]; rfl
      rw [z] at h1
      cases h1
      rfl
    rw [e3]
    exact ⟨t', rfl⟩
  · simpa using hS
end Nw

namespace Nw
open PySem PySem.Spec PyProof.Rows L2
/-! ### an object that is made, then given out -/
section
variable {D : DA} {n : Nat} {T T' : Addr → Prop} {I H I' H' I0 H0 I3 H3 : Hp} {x dx : Addr} {o o1 o2 : HO}
theorem DrS.growT {dig tn : Int} {gs ls : List Int} (s : DrS D dig tn gs ls I H) (g : Grow T I H I' H') (h : ∀ b, TD D b → ¬ T b) : DrS D dig tn gs ls I' H' :=
  ⟨g.sub, g.fresh _ s.vd (s.live _ (.inl rfl)), g.fresh _ s.vg (s.live _ (.inr (.inl rfl))), g.fresh _ s.vl (s.live _ (.inr (.inr rfl))), s.dg, s.dl, s.gl, g.keep _ _ (h _ (.inl rfl)) s.hd, g.keep _ _ (h _ (.inr (.inl rfl))) s.hg, g.keep _ _ (h _ (.inr (.inr rfl))) s.hl⟩
theorem Drw.growT (w : Drw D n I H) (g : Grow T I H I' H') (h : ∀ b, TD D b → ¬ T b) : Drw D n I' H' := let ⟨a, b, c, d, s, r⟩ := w.ex; ⟨a, b, c, d, s.growT g h, r⟩
theorem Drw.view (w : Drw D n I H) (nt : ¬ TD D x) (h : H x = some o) : Drw D n (upd I x o) H := by
  obtain ⟨a, b, c, d, s, r⟩ := w.ex
  refine ⟨a, b, c, d, ⟨fun q u e => ?_, ?_, ?_, ?_, s.dg, s.dl, s.gl, s.hd, s.hg, s.hl⟩, r⟩
  · by_cases z : q = x
    · subst z; rw [upd_same] at e; rw [h]; exact e
    · rw [upd_ne z] at e; exact s.sub q u e
  · rw [upd_ne fun z => nt (.inl z.symm)]; exact s.vd
  · rw [upd_ne fun z => nt (.inr (.inl z.symm))]; exact s.vg
  · rw [upd_ne fun z => nt (.inr (.inr z.symm))]; exact s.vl
theorem Drw.chg (w : Drw D n I H) (nt : ¬ TD D x) (ni : I x = none) : Drw D n I (upd H x o) := let ⟨a, b, c, d, s, r⟩ := w.ex; ⟨a, b, c, d, s.put nt ni, r⟩
theorem Drw.mine (w : Drw D n I H) (h : H x = none) : Drw D n I (upd H x o) := w.grow (Grow.mine w.sub h)
theorem Drw.not (w : Drw D n I H) (h : H x = none) : ¬ TD D x := fun t => w.live x t h
theorem grow_made (sb : Same I H) (hx : H x = none) (hdx : H dx = none) (ne : dx ≠ x) : Grow T I H I (upd (upd H dx o1) x o2) :=
  (Grow.mine sb hdx).trans (Grow.mine (Grow.mine (T := T) (o := o1) sb hdx).sub (by rw [upd_ne ne.symm]; exact hx))
theorem live_none {T : Addr → Prop} (g : Grow T I0 H0 I H) (h : H x = none) : H0 x = none := by
  cases e : H0 x with
  | none => rfl
  | some u => exact absurd h (g.live x (by rw [e]; exact fun z => nomatch z))
/-- what C(..) does, seen from H0 -/
theorem Grow.make (g : Grow T I0 H0 I H) (hx : H x = none) (hdx : H dx = none) (ne : dx ≠ x) (g3 : Grow T' I (upd (upd H dx o1) x o2) I3 H3) (hT : ∀ b, T' b → T b ∨ H0 b = none) (h : H3 x = some o) (nt : NTb o := by intro _ z; cases z) : Grow T I0 H0 (upd I3 x o) H3 ∧ I3 x = none := by
  have gm : Grow T I0 H0 I (upd (upd H dx o1) x o2) := g.trans (grow_made g.sub hx hdx ne)
  have gd := gm.drop g3 hT
  have n3 : I3 x = none := g3.fresh x (g.sub.free hx) (by rw [upd_same]; exact fun z => nomatch z)
  exact ⟨gd.give' (live_none g hx) n3 h nt, n3⟩
theorem Drw.make (w : Drw D n I H) (hx : H x = none) (hdx : H dx = none) (ne : dx ≠ x) (g3 : Grow T' I (upd (upd H dx o1) x o2) I3 H3) (hT : ∀ b, TD D b → ¬ T' b) (h : H3 x = some o) : Drw D n (upd I3 x o) H3 :=
  (((w.mine hdx).mine (by rw [upd_ne ne.symm]; exact hx)).growT g3 hT).view (w.not hx) h
end
/-- a def that is asked by its own data -/
theorem okd_of {P : Program} {w : World} {K : PySem.W.Frag} {mg : Str → Option Value} {base : Heap} {k : Nat} {f : Addr} {fd : FuncData} {ps : List Str} {sp : Sp} {x qual : Str} {st : Stmt} {N : List Str}
    (F : FunD K x qual (defArgs st) (defBody st) (defScope st) [] [] f fd) (S : FnScope N ps (defScope st)) (len : ∀ vs H Q E, sp vs H Q E → vs.length = ps.length)
    (hbody : ∀ (cdv : Value) (A : Around) (outer : List Env) (s : Shared) (H : Hp) (vs : List V) (Q : VK) (E : XK), Room k (A.deeper (envOfC qual (defScope st) s.heap.objs.size f cdv)) → sp vs H Q E →
      ∃ t, PSs (cxOf CX0 P w K mg base N qual (defScope st) f cdv A outer s H E).nox (defBody st) t ∧ t { nx := fun _ H' => Q .non H', rt := Q } (start N vs) H) : FnOk P w K mg base CX0 (k + 1) f fd ps sp :=
  F.ok S len fun cdv A outer s H vs Q E hr h => by
    obtain ⟨t, h1, h2⟩ := hbody cdv A outer s H vs Q E hr h
    exact ⟨t, h1.nox, h2⟩
end Nw

namespace Nw
open PySem PySem.Spec PyProof.Rows L2
/-! ### operators that a class of the text has itself -/
section
variable {X : Cx} {k : Nat} {f C : Addr} {fd : FuncData} {ps : List Str} {sp : Sp}
/-- two instances of one class -/
def rOwn (C : Addr) (sp : Sp) : R2 := fun x y H Q => ∃ a b dx dy fs gs, x = .ref a ∧ y = .ref b ∧ H a = some (.ins C dx fs) ∧ H b = some (.ins C dy gs) ∧ sp [.ref a, .ref b] H (fun v H' => ∃ p, v = .ref p ∧ Q v H') E0
theorem op_own {op : Operator} {nm : Str} (M : Meth X.K C nm f) (he : PySem.dunder op.info.2 = nm) (hc : PySem.W.selfFirst X.K C = true) (F : FnOk X.prog X.w X.K X.mg X.base CX0 k f fd ps sp) (hr : Room k X.A) (hb : Binds X.K fd ps []) : OpR X (binaryOp op) (rOwn C sp) := by
  intro pins s σ H x y v u Q I rx ry h
  obtain ⟨a, b, dx, dy, fs, gs, rfl, rfl, ha, hb', q⟩ := h
  cases rx
  cases ry
  obtain ⟨mA, J, _⟩ := ins_get I.hok ha
  obtain ⟨mB, J', _⟩ := ins_get I.hok hb'
  obtain ⟨od, J, _⟩ := J.look
  obtain ⟨od', J', _⟩ := J'.look
  obtain ⟨m, hF⟩ := I.fr
  refine PySem.W.binop_K hF I.ok.mod.kin J J'.type hc (by rw [he]; exact M.at_) M.fn ?_
  have r2 : Vals [V.ref a, V.ref b] [Value.ref a, Value.ref b] := .cons rfl (.cons rfl .nil)
  refine wpAny_mono (run_fn (dvs := []) (ds := []) (E := E0) F hr hb .nil pass0 I r2 q) (fun v s' hq => ?_) fun _ _ e => e
  obtain ⟨z, H', I', rz, p, rfl, q⟩ := hq
  cases rz
  exact ⟨.ref p, _, I', rfl, q⟩
def rOwn1 (C : Addr) (sp : Sp) : V → Hp → VK → Prop := fun x H Q => ∃ a dx fs, x = .ref a ∧ H a = some (.ins C dx fs) ∧ sp [.ref a] H Q E0
theorem un_own_inv (M : Meth X.K C "__invert__" f) (F : FnOk X.prog X.w X.K X.mg X.base CX0 k f fd ps sp) (hr : Room k X.A) (hb : Binds X.K fd ps []) : UnR X (unaryOp .Invert) (rOwn1 C sp) := by
  intro pins s σ H x v Q I rx h
  obtain ⟨a, dx, fs, rfl, ha, q⟩ := h
  cases rx
  obtain ⟨mA, J, _⟩ := ins_get I.hok ha
  obtain ⟨od, J, _⟩ := J.look
  obtain ⟨m, hF⟩ := I.fr
  refine PySem.W.ksp_inv hF I.ok.mod.kin J M.at_ M.fn ?_
  have r2 : Vals [V.ref a] [Value.ref a] := .cons rfl .nil
  exact run_fn (dvs := []) (ds := []) (E := E0) F hr hb .nil pass0 I r2 q
/-- a comparison that the class has itself: a truth -/
theorem op_own_le (M : Meth X.K C "__le__" f) (F : FnOk X.prog X.w X.K X.mg X.base CX0 k f fd ps sp) (hr : Room k X.A) (hb : Binds X.K fd ps []) :
    OpR X (compareOp .LtE) (fun x y H Q => ∃ a b dx dy fs gs, x = .ref a ∧ y = .ref b ∧ H a = some (.ins C dx fs) ∧ H b = some (.ins C dy gs) ∧ sp [.ref a, .ref b] H (fun v H' => ∃ t, v = .bl t ∧ Q v H') E0) := by
  intro pins s σ H x y v u Q I rx ry h
  obtain ⟨a, b, dx, dy, fs, gs, rfl, rfl, ha, hb', q⟩ := h
  cases rx
  cases ry
  obtain ⟨mA, J, _⟩ := ins_get I.hok ha
  obtain ⟨mB, J', _⟩ := ins_get I.hok hb'
  obtain ⟨od, J, _⟩ := J.look
  obtain ⟨od', J', _⟩ := J'.look
  obtain ⟨m, hF⟩ := I.fr
  show wpAny (model X.prog X.w) X.A (richCompare .LtE (.ref a) (.ref b)) (EP X pins σ Q) X.xe s
  refine PySem.W.cmp_K (op := .LtE) (tb := .ref C) hr.units0 hF I.ok.mod.kin J J'.type (by simp [PySem.W.notFirst]) M.at_ M.fn ?_
  have r2 : Vals [V.ref a, V.ref b] [Value.ref a, Value.ref b] := .cons rfl (.cons rfl .nil)
  refine wpAny_mono (run_fn (dvs := []) (ds := []) (E := E0) F hr hb .nil pass0 I r2 q) (fun v s' hq => ?_) fun _ _ e => e
  obtain ⟨z, H', I', rz, p, rfl, q⟩ := hq
  cases rz
  exact ⟨.bl p, _, I', rfl, q⟩
end
end Nw

namespace Nw
open PySem PySem.Spec PyProof.Rows L2
open AutoSeq1 (wpAny_loadPart')
/-! ### enumerate(tuple) -/
theorem meets_enumT (l : Addr) (items : Array Value) (n : Nat) (dct : Option Addr) (sl : Array (Option Value)) :
    Meets (Builtin.«enumerate.__new__» ⟨[.type "enumerate", .ref l], []⟩) (fun _ R s => s.heap.get? l = some { cls := .type "tuple", dict := dct, data := .seq items n, slots := sl } ∧
      R (.ok (.ret (.ref (s.heap.push { cls := .type "tuple_iterator", data := .fields #[.ref l, .int 0 0] }).objs.size)))
        { s with heap := (s.heap.push { cls := .type "tuple_iterator", data := .fields #[.ref l, .int 0 0] }).push { cls := .type "enumerate", data := .fields #[.none, .bool false, .ref s.heap.objs.size, rawInt 0, .none, .none] } }) :=
  .of_wp fun prog w A R s h => by
    obtain ⟨hp, g, d, tk, os⟩ := s; obtain ⟨hl, h⟩ := h
    have hsub := sub_enumerate
    have hL : Heap.IsTuple (Shared.heap ⟨hp, g, d, tk, os⟩) l items := ⟨_, hl, rfl, n, rfl⟩
    wp_walk using wpAny_loadPart' hl
    refine wpAny_stack_any fun st => wpAny_pure ?_
    split
    · rename_i c _ _ _ _ _
      cases (c == Value.type "enumerate")
      · wp_walk using wpAny_loadPart' hl, wpAny_pyIter_tuple hL
        exact ⟨_, rfl, h⟩
      · wp_walk using wpAny_loadPart' hl, wpAny_pyIter_tuple hL
        exact ⟨_, rfl, h⟩
    · wp_walk using wpAny_loadPart' hl, wpAny_pyIter_tuple hL
      exact ⟨_, rfl, h⟩
section
variable {prog : Program} {w : World} {A : Around} {E : Value → Shared → Prop} {s : Shared}
theorem call_enumT {l : Addr} {items : Array Value} {Q : Value → Shared → Prop} (hL : s.heap.IsTuple l items)
    (h : ∀ h', IsEnum h' (s.heap.objs.size + 1) s.heap.objs.size 0 .none → h'.IsTupleIter s.heap.objs.size l 0 → h'.objs.size = s.heap.objs.size + 2 →
      (∀ b o, s.heap.get? b = some o → h'.get? b = some o) → Q (.ref (s.heap.objs.size + 1)) { s with heap := h' }) :
    wpAny (model prog w) A (call (.type "enumerate") [.ref l]) Q E s := by
  obtain ⟨⟨c, dct, dt, sl⟩, hl, hc, n, hd⟩ := hL
  replace hc : c = .type "tuple" := hc
  replace hd : dt = .seq items n := hd
  subst hc hd
  refine callType_new F.called_enumerate (by decide) (F.typeCall_enumerate_1 _) (F.newCall_enumerate_1 _) (fun obj => F.args_object_init_2 obj _) F.entry_enumerate_new
    (meets_enumT l items n dct sl) ⟨hl, ?_⟩
  have hz : (s.heap.push { cls := .type "tuple_iterator", data := .fields #[.ref l, .int 0 0] }).objs.size = s.heap.objs.size + 1 := Heap.size_push ..
  show _ ∧ _
  rw [hz]
  have he : IsEnum ((s.heap.push { cls := .type "tuple_iterator", data := .fields #[.ref l, .int 0 0] }).push
      { cls := .type "enumerate", data := .fields #[.none, .bool false, .ref s.heap.objs.size, rawInt 0, .none, .none] }) (s.heap.objs.size + 1) s.heap.objs.size 0 .none := by
    have := Heap.get?_push_size (s.heap.push { cls := .type "tuple_iterator", data := .fields #[.ref l, .int 0 0] })
      (o := { cls := .type "enumerate", data := .fields #[.none, .bool false, .ref s.heap.objs.size, rawInt 0, .none, .none] }) rfl
    rw [hz] at this; exact this
  refine ⟨⟨_, he, rfl⟩, h _ he ⟨_, Heap.get?_push_of_some _ (Heap.get?_push_size _ rfl), rfl, rfl⟩ (by rw [Heap.size_push, hz]) fun b o x => Heap.get?_push_of_some _ (Heap.get?_push_of_some _ x)⟩
theorem draws_tup (hh : A.handled = none) {it t : Addr} (hne : t ≠ it) (items : Array Value) : Draws prog w A it [it, t] items.size (fun i v => items[i]? = some v) (fun i h => h.IsTupleIter it t i ∧ h.IsTuple t items) where
  live := fun i h st => let ⟨⟨o, e, _⟩, _⟩ := st; ⟨o, e⟩
  frame := fun i h h' st k => ⟨st.1.at fun o e => k it (by simp) o e, let ⟨o, e, z⟩ := st.2; ⟨o, k t (by simp) o e, z⟩⟩
  item := fun i s Q E hi st hQ => by
    refine wpAny_nextOf_tuple_item st.1 st.2 (x := items[i]) (by simp [hi]) fun h' st' sb => ?_
    refine hQ _ h' s.toks (by simp [hi]) ⟨st', ?_⟩ sb
    obtain ⟨o, e, z⟩ := st.2
    exact ⟨o, (sb.2 t hne).trans e, z⟩
  done := fun s Q E st hE => wpAny_nextOf_tuple_end hh st.1 st.2 (by simp) hE
end
def IteT (K : PySem.W.Frag) (a : Addr) : It :=
  ⟨fun i H => ∃ (xs : List V) (x : V), SqT K H a xs ∧ xs[i]? = some x, fun i H v H' => ∃ T x, v = .ref T ∧ H T = none ∧ H' = upd H T (.tup [.int (i : Nat), x]) ∧ ∀ xs, SqT K H a xs → xs[i]? = some x, fun i H => ∃ xs : List V, SqT K H a xs ∧ xs.length ≤ i⟩
theorem turn_enumT {P : Program} {w : World} {K : PySem.W.Frag} {elts : List Expr} {kk : Nat} {tpos : Pos} (a e it : Addr) :
    Turn P w K (.Tuple elts kk tpos) (IteT K a) [e, it] e (fun i h => (∃ old, IsEnum h e it ((i : Nat) : Int) old) ∧ h.IsTupleIter it a i ∧ e ≠ it) where
  mem := by simp
  obj := fun i h st b hb => by
    obtain ⟨⟨old, he⟩, ⟨o, ho, hc, hd⟩, _⟩ := st
    have e' : b = e ∨ b = it := by simpa using hb
    rcases e' with z | z
    · rw [z]; exact ⟨_, he, fun v q => nomatch q⟩
    · rw [z]; exact ⟨o, ho, fun v q => by rw [hd] at q; cases q⟩
  keep := fun i h h' st k => let ⟨⟨old, he⟩, hi, hne⟩ := st; ⟨⟨old, k e (by simp) _ he⟩, hi.at fun o q => k it (by simp) o q, hne⟩
  item := by
    intro X hP hw hK hc i pins s σ H E I hf st hg
    subst hP hw hK
    obtain ⟨⟨old, he⟩, hit, hne⟩ := st
    obtain ⟨xs, x, hq, hx⟩ := hg
    obtain ⟨its, rv, p, hz⟩ := I.tuple hq
    have p' : s.heap.IsTuple a its.toArray := p
    obtain ⟨u, hu, ru⟩ := rv.get hx
    have hel : e < s.heap.objs.size := Heap.lt_size he
    have hil : it < s.heap.objs.size := by obtain ⟨_, q, _⟩ := hit; exact Heap.lt_size q
    have nea : a ≠ it := by
      rintro rfl
      obtain ⟨o1, e1, c1, _⟩ := hit
      obtain ⟨o2, e2, c2, _⟩ := p'
      rw [e1] at e2
      cases e2
      rw [c1] at c2
      exact absurd c2 (by decide)
    have nee : a ≠ e := by
      rintro rfl
      obtain ⟨o2, e2, c2, _⟩ := p'
      rw [he] at e2
      cases e2
      exact absurd (show Value.type "enumerate" = Value.type "tuple" from c2) (by decide)
    have hlt : i < its.toArray.size := by
      rcases Nat.lt_or_ge i its.length with z | z
      · simpa using z
      · rw [List.getElem?_eq_none z] at hu; cases hu
    refine wpAny_pyNext_enum_itemD (draws_tup (by simpa using I.ok.hd hc) nea its.toArray) he ⟨hit, p'⟩ hlt hne (by simp [hne, Ne.symm nee]) fun y h' tk hy ho hst' hT hsz hk => ?_
    obtain ⟨hit', _⟩ := hst'
    have ey : y = u := by
      have z : its[i]? = some y := by simpa using hy
      rw [hu] at z
      exact (Option.some.inj z).symm
    subst ey
    refine ⟨_, rfl, wpAny_letOwnedTupleGo_enum (s := { s with heap := h', toks := tk + 1 }) ho fun h'' he' sb => ?_⟩
    have hT2 : h''.get? s.heap.objs.size = some { cls := .type "tuple", data := .seq #[.int i tk, y] } := (sb.2 _ (Nat.ne_of_gt hel)).trans hT
    have new : ObjOk X.prog X.w (upd H s.heap.objs.size (.tup [.int (i : Nat), x])) h'' s.heap.objs.size (.tup [.int (i : Nat), x]) :=
      ⟨by show 2 ≤ sizeLine; decide, [.int i tk, y], .cons ⟨_, rfl⟩ (.cons ru .nil), ⟨_, hT2, rfl, _, rfl⟩⟩
    have I1 : Inv X pins σ (upd H s.heap.objs.size (.tup [.int (i : Nat), x])) { s with heap := h'', toks := tk + 1 } :=
      I.turnedNew (ch := [e, it]) (fun b ob hb q => (sb.2 b (fun z => hb (by simp [z]))).trans (hk b ob (fun z => hb (by simp [z])) (fun z => hb (by simp [z])) q)) hf (Nat.le_refl _) new
    refine ⟨.ref s.heap.objs.size, _, I1, rfl, ⟨_, x, rfl, I.hok.fresh (Nat.le_refl _), rfl, fun ys hy => by rw [I.tuple_inj hy hq]; exact hx⟩, ⟨⟨y, ?_⟩, hit'.at fun o q => (sb.2 it (Ne.symm hne)).trans q, hne⟩, fun b hb => ?_⟩
    · have e1 : ((i + 1 : Nat) : Int) = (i : Int) + 1 := by omega
      rw [e1]; exact he'
    · have hb' : b < s.heap.objs.size := by
        have e' : b = e ∨ b = it := by simpa using hb
        rcases e' with z | z
        · rw [z]; exact hel
        · rw [z]; exact hil
      rw [upd_ne (Nat.ne_of_lt hb')]
      exact (hf b hb).1
  done := by
    intro X hP hw hK hc i pins s σ H E I hf st hg
    subst hP hw hK
    obtain ⟨⟨old, he⟩, hit, hne⟩ := st
    obtain ⟨xs, hq, hx⟩ := hg
    obtain ⟨its, rv, p, hz⟩ := I.tuple hq
    have p' : s.heap.IsTuple a its.toArray := p
    obtain ⟨f0, f1, f2, f3, f4, f5⟩ := hf it (by simp)
    have hl := rv.length
    have hT : s.TypeIs (.ref e) "enumerate" := ⟨_, he, rfl⟩
    unfold pyNext
    refine wpAny_bind (wpAny_attempt (wpAny_callSpecial?_slot (name := Str.ofString "__next__") hT F.slot_enumerate_next
      (wpAny_call_entry F.slot_enumerate_next hT F.entry_enumerate_next ?_ (F.args_enumerate_next_1 _))))
    show wpAny _ _ (field (.ref e) 2 >>= _) _ _ _
    refine wpAny_bind (wpAny_field he rfl (x := .ref it) rfl ?_)
    refine wpAny_bind (wpAny_nextOf_tuple_end (by simpa using I.ok.hd hc) hit p' (by simp; omega) fun h' x he' hx' => ?_)
    obtain ⟨o, ho, hc'⟩ := hx'
    refine wpAny_bind (wpAny_isInstance (T := "StopIteration") (b := true) ⟨o, ho, hc'⟩ isSubtype_stop ?_)
    exact wpAny_pure ⟨rfl, I.turned (t' := s.toks) (fun b o hb q => he' b o hb q) f0 f1 f3 f4 f5⟩
  self := fun A i s Q E st h => let ⟨⟨_, he⟩, _⟩ := st; wpAny_pyIter_enum he h
def iEnumT (K : PySem.W.Frag) (ta : TA) : TI := fun σ H R => ta σ H fun vs H1 => ∃ a xs, vs = [.ref a] ∧ SqT K H1 a xs ∧ R (IteT K a) H1
theorem pi_enumT {X : Cx} {e : Expr} {ta : TA} {p pos tpos : Pos} {elts : List Expr} {kk : Nat} (hg : Gl X "enumerate") (hm : X.mg "enumerate" = none) (ha : PA X [e] ta) (hs : starEach [e] X.env = [(false, eval e X.env)] := by rfl) :
    PI X (.Tuple elts kk tpos) (.Call (.Name "enumerate" p) [e] [] pos) (iEnumT X.K ta) := by
  refine ⟨fun pins s σ H R I h => ?_⟩
  refine Call_ (ld_blt I hg hm boot_enumerate (PyProof.Rows.callWith_type1 (thn (ha.run pos pins s σ H _ I h) fun us s1 ⟨vs, H1, I1, r1, q1⟩ => ?_) hs rfl))
  obtain ⟨a, xs, ex, hq, q⟩ := q1
  subst ex
  cases r1 with
  | cons r rr =>
    cases rr
    cases r
    obtain ⟨its, rv, p', hz⟩ := I1.tuple hq
    refine call_enumT (show s1.heap.IsTuple a its.toArray from p') fun h' he hit hsz hk => wpAny_pyIter_enum he ?_
    have I2 : Inv X pins σ H1 { s1 with heap := h' } := I1.kept (t' := s1.toks) hk
    refine ⟨s1.heap.objs.size + 1, [s1.heap.objs.size + 1, s1.heap.objs.size], _, _, H1, rfl, I2, turn_enumT a (s1.heap.objs.size + 1) s1.heap.objs.size, ⟨⟨.none, he⟩, hit, Nat.succ_ne_self _⟩, fun b hb => ?_, q⟩
    have e' : b = s1.heap.objs.size + 1 ∨ b = s1.heap.objs.size := by simpa using hb
    have hle : s1.heap.objs.size ≤ b := by
      rcases e' with z | z
      · rw [z]; exact Nat.le_add_right _ _
      · rw [z]; exact Nat.le_refl _
    exact I1.fpOk hle (I1.hok.fresh hle)
theorem walk_enumT {K : PySem.W.Frag} {a : Addr} {xs : List V} : Walk (IteT K a) xs.length (fun H => SqT K H a xs) (YPair (fun i => some (.int (i : Nat))) (fun i => xs[i]?)) := by
  refine ⟨fun i _ hi q => ⟨xs, xs[i], q, by simp [hi]⟩, fun _ q => ⟨xs, q, Nat.le_refl _⟩, fun i H v H' _ q y => ?_⟩
  obtain ⟨T, x, h1, h2, h3, h4⟩ := y
  exact ⟨T, .int (i : Nat), x, h1, h2, h3, rfl, h4 xs q⟩
end Nw

namespace Nw
open PySem PySem.Spec PyProof.Rows L2
/-! ### what may be a list or a tuple: t tells which -/
def ho (t : Bool) (vs : List V) : HO := match t with
  | false => .lst vs
  | true => .tup vs
def SqB (K : PySem.W.Frag) (t : Bool) (H : Hp) (a : Addr) (xs : List V) : Prop := match t with
  | false => SqL K H a xs
  | true => SqT K H a xs
theorem SqB.of {K : PySem.W.Frag} {t : Bool} {H : Hp} {a : Addr} {xs : List V} (h : H a = some (ho t xs)) : SqB K t H a xs := by
  cases t
  · exact SqL.of h
  · exact SqT.of h
def isS {α : Type} [Rep α] (t : Bool) (I : Hp) (v : V) (xs : List α) : Prop := ∃ a vs, v = .ref a ∧ I a = some (ho t vs) ∧ Paired (Rep.is I) vs xs
theorem isL.s {α : Type} [Rep α] {I : Hp} {v : V} {xs : List α} (h : isL I v xs) : isS false I v xs := h
theorem isU.s {α : Type} [Rep α] {I : Hp} {v : V} {xs : List α} (h : isU I v xs) : isS true I v xs := h
theorem isS.up {α : Type} [Rep α] {t : Bool} {I I' : Hp} {v : V} {xs : List α} (h : isS t I v xs) (e : Same I I') : isS t I' v xs :=
  let ⟨a, vs, h1, h2, h3⟩ := h
  ⟨a, vs, h1, e _ _ h2, Paired.mono' (fun _ _ z => Rep.mono e z) h3⟩
def Itq (K : PySem.W.Frag) (t : Bool) (a : Addr) : It := match t with
  | false => Itl K a
  | true => Itt K a
def iSeq (K : PySem.W.Frag) (tl : TE) : TI := fun σ H R => tl σ H fun x H1 => ∃ a t, x = .ref a ∧ (∃ xs, SqB K t H1 a xs) ∧ R (Itq K t a) H1
theorem pi_seq {X : Cx} {tg l : Expr} {tl : TE} (hl : PE X l tl) : PI X tg l (iSeq X.K tl) := by
  refine ⟨fun pins s σ H R I h => ?_⟩
  refine thn (hl.run pins s σ H _ I h) fun v s1 ⟨x, H1, I1, r1, q1⟩ => ?_
  obtain ⟨a, t, e, ⟨xs, hq⟩, q⟩ := q1
  subst e
  cases r1
  cases t
  · obtain ⟨its, rv, p, hz⟩ := I1.list hq
    refine wpAny_pyIter_list p.isList ?_
    refine ⟨s1.heap.objs.size, [s1.heap.objs.size], _, _, H1, rfl, I1.kept (t' := s1.toks) fun b o e => Heap.get?_push_of_some _ e, turn_list a _, ⟨_, Heap.get?_push_size _ rfl, rfl, rfl⟩, fun b hb => ?_, q⟩
    have e : b = s1.heap.objs.size := by simpa using hb
    subst e
    exact I1.fpOk (Nat.le_refl _) (I1.hok.fresh (Nat.le_refl _))
  · obtain ⟨its, rv, p, hz⟩ := I1.tuple hq
    refine wpAny_pyIter_tuple (show s1.heap.IsTuple a its.toArray from p) ?_
    refine ⟨s1.heap.objs.size, [s1.heap.objs.size], _, _, H1, rfl, I1.kept (t' := s1.toks) fun b o e => Heap.get?_push_of_some _ e, turn_tuple a _, ⟨_, Heap.get?_push_size _ rfl, rfl, rfl⟩, fun b hb => ?_, q⟩
    have e : b = s1.heap.objs.size := by simpa using hb
    subst e
    exact I1.fpOk (Nat.le_refl _) (I1.hok.fresh (Nat.le_refl _))
theorem walk_seq {K : PySem.W.Frag} {t : Bool} {a : Addr} {xs : List V} : Walk (Itq K t a) xs.length (fun H => SqB K t H a xs) (YAt xs) := by
  cases t
  · exact walk_list
  · exact walk_tup
def IteB (K : PySem.W.Frag) (t : Bool) (a : Addr) : It := match t with
  | false => Ite K a
  | true => IteT K a
def iEnumS (K : PySem.W.Frag) (ta : TA) : TI := fun σ H R => ta σ H fun vs H1 => ∃ a t xs, vs = [.ref a] ∧ SqB K t H1 a xs ∧ R (IteB K t a) H1
theorem pi_enumS {X : Cx} {e : Expr} {ta : TA} {p pos tpos : Pos} {elts : List Expr} {kk : Nat} (hg : Gl X "enumerate") (hm : X.mg "enumerate" = none) (ha : PA X [e] ta) (hs : starEach [e] X.env = [(false, eval e X.env)] := by rfl) :
    PI X (.Tuple elts kk tpos) (.Call (.Name "enumerate" p) [e] [] pos) (iEnumS X.K ta) := by
  refine ⟨fun pins s σ H R I h => ?_⟩
  refine Call_ (ld_blt I hg hm boot_enumerate (PyProof.Rows.callWith_type1 (thn (ha.run pos pins s σ H _ I h) fun us s1 ⟨vs, H1, I1, r1, q1⟩ => ?_) hs rfl))
  obtain ⟨a, t, xs, ex, hq, q⟩ := q1
  subst ex
  cases r1 with
  | cons r rr =>
    cases rr
    cases r
    have fin : ∀ b : Addr, b ∈ [s1.heap.objs.size + 1, s1.heap.objs.size] → s1.heap.objs.size ≤ b := fun b hb => by
      have e' : b = s1.heap.objs.size + 1 ∨ b = s1.heap.objs.size := by simpa using hb
      rcases e' with z | z
      · rw [z]; exact Nat.le_add_right _ _
      · rw [z]; exact Nat.le_refl _
    cases t
    · obtain ⟨its, rv, p', hz⟩ := I1.list hq
      refine call_enumerate_list p'.isList fun h' he hit hsz hk => wpAny_pyIter_enum he ?_
      have I2 : Inv X pins σ H1 { s1 with heap := h' } := I1.kept (t' := s1.toks) hk
      exact ⟨s1.heap.objs.size + 1, [s1.heap.objs.size + 1, s1.heap.objs.size], _, _, H1, rfl, I2, turn_enum a (s1.heap.objs.size + 1) s1.heap.objs.size, ⟨⟨.none, he⟩, hit, Nat.succ_ne_self _⟩, fun b hb => I1.fpOk (fin b hb) (I1.hok.fresh (fin b hb)), q⟩
    · obtain ⟨its, rv, p', hz⟩ := I1.tuple hq
      refine call_enumT (show s1.heap.IsTuple a its.toArray from p') fun h' he hit hsz hk => wpAny_pyIter_enum he ?_
      have I2 : Inv X pins σ H1 { s1 with heap := h' } := I1.kept (t' := s1.toks) hk
      exact ⟨s1.heap.objs.size + 1, [s1.heap.objs.size + 1, s1.heap.objs.size], _, _, H1, rfl, I2, turn_enumT a (s1.heap.objs.size + 1) s1.heap.objs.size, ⟨⟨.none, he⟩, hit, Nat.succ_ne_self _⟩, fun b hb => I1.fpOk (fin b hb) (I1.hok.fresh (fin b hb)), q⟩
theorem walk_enumS {K : PySem.W.Frag} {t : Bool} {a : Addr} {xs : List V} : Walk (IteB K t a) xs.length (fun H => SqB K t H a xs) (YPair (fun i => some (.int (i : Nat))) (fun i => xs[i]?)) := by
  cases t
  · exact walk_enum
  · exact walk_enumT
/-- its type, and what isinstance of (list, tuple) tells -/
theorem ty_seq {K : PySem.W.Frag} {t : Bool} {H : Hp} {a : Addr} {vs : List V} (h : H a = some (ho t vs)) : ∃ n, TyX K H (.ref a) (.type n) ∧ PySem.W.kitAny K (.type n) [.type "list", .type "tuple"] = some true := by
  cases t
  · exact ⟨_, .base (.lst h), kit_any_hd⟩
  · exact ⟨_, .base (.tup h), kitAny_cons (b := false) (kit_ty (by decide +kernel)) (fun _ => kit_any_hd) (fun z => nomatch z)⟩
end Nw

namespace Nw
open PySem PySem.Spec PyProof.Rows L2
section
variable {X : Cx} {k : Nat} {f C : Addr} {fd : FuncData} {ps : List Str} {sp : Sp}
def rOwnB (C : Addr) (sp : Sp) (g : Bool → Bool) : R2 := fun x y H Q => ∃ a b dx dy fs gs, x = .ref a ∧ y = .ref b ∧ H a = some (.ins C dx fs) ∧ H b = some (.ins C dy gs) ∧ sp [.ref a, .ref b] H (fun v H' => ∃ t, v = .bl t ∧ Q (.bl (g t)) H') E0
/-- == that the class has itself -/
theorem op_own_eq (M : Meth X.K C "__eq__" f) (F : FnOk X.prog X.w X.K X.mg X.base CX0 k f fd ps sp) (hr : Room k X.A) (hb : Binds X.K fd ps []) : OpR X (compareOp .Eq) (rOwnB C sp id) := by
  intro pins s σ H x y v u Q I rx ry h
  obtain ⟨a, b, dx, dy, fs, gs, rfl, rfl, ha, hb', q⟩ := h
  cases rx
  cases ry
  obtain ⟨mA, J, _⟩ := ins_get I.hok ha
  obtain ⟨mB, J', _⟩ := ins_get I.hok hb'
  obtain ⟨od, J, _⟩ := J.look
  obtain ⟨od', J', _⟩ := J'.look
  obtain ⟨m, hF⟩ := I.fr
  show wpAny (model X.prog X.w) X.A (richCompare .Eq (.ref a) (.ref b)) (EP X pins σ Q) X.xe s
  refine PySem.W.cmp_K (op := .Eq) (tb := .ref C) hr.units0 hF I.ok.mod.kin J J'.type (by simp [PySem.W.notFirst]) M.at_ M.fn ?_
  have r2 : Vals [V.ref a, V.ref b] [Value.ref a, Value.ref b] := .cons rfl (.cons rfl .nil)
  refine wpAny_mono (run_fn (dvs := []) (ds := []) (E := E0) F hr hb .nil pass0 I r2 q) (fun v s' hq => ?_) fun _ _ e => e
  obtain ⟨z, H', I', rz, p, rfl, q⟩ := hq
  cases rz
  exact ⟨.bl p, _, I', rfl, q⟩
theorem slot_ne : Slot "object" "__ne__" "object.__ne__" := F.cmp_object.ne
/-- a builtin's slot of an instance, found by the class's part -/
theorem ifBoundB_K {M : Model} {A : Around} {E : Value → Shared → Prop} {s : Shared} {K : PySem.W.Frag} {x C : Addr} {ox : Obj} {od : Option Obj} {name : Str} {T id : String} {args : List Value} {Q : Option Value → Shared → Prop} (Xk : K.In s.heap) (I : PySem.W.InstAt s.heap x ox C od)
    (hs : PySem.W.findIn K (.ref C) name = some (some (.builtin id))) (S : Slot T name id)
    (h : wpAny M A (call (.builtin id) (.ref x :: args)) (fun v => Q (some v)) E s) : wpAny M A (callSpecialIfBound? (.ref x) name args) Q E s := by
  simp only [callSpecialIfBound?, bindSpecialIfBound?]
  refine wpAny_holding (wpAny_bind (wpAny_bind (wpAny_bind (I.type.here ((PySem.W.looks_findIn Xk hs).here ?_)))))
  simp only [S.bind]
  refine wpAny_bind (wpAny_askSetting (wpAny_ite ?_))
  have fin : wpAny M A (call (.builtin id) ([.ref x] ++ args) >>= fun v => pure (some v)) Q E s := wpAny_bind (wpAny_mono h (fun v s' h' => wpAny_pure h') fun _ _ h' => h')
  split
  · exact wpAny_bind (wpAny_pure (wpAny_pure fin))
  · exact wpAny_tryCatch (wpAny_bind (wpAny_pure (wpAny_pure fin)))
theorem check_slotK {M : Model} {A : Around} {E : Value → Shared → Prop} {s : Shared} {K : PySem.W.Frag} {x C : Addr} {ox : Obj} {od : Option Obj} {id owner n : String} {rest : List Value} {Q : Unit → Shared → Prop} (Xk : K.In s.heap) (I : PySem.W.InstAt s.heap x ox C od) (hk : builtinKind id = some .slot) (hs : splitId id = some (owner, n))
    (ha : argsOk id ⟨.ref x :: rest, []⟩) (hsub : PySem.W.subIn K (.ref C) (.type owner) = some true) (hq : Q () s) : wpAny M A (checkBuiltinCall id ⟨.ref x :: rest, []⟩) Q E s := by
  simp only [checkBuiltinCall, hk, hs]
  refine wpAny_bind ?_
  unfold isInstance
  refine wpAny_bind (I.type.here ?_)
  refine (PySem.W.looks_subIn Xk hsub).here ?_
  cases hsig : Manifest.signature? id with
  | none => exact wpAny_pure hq
  | some sig =>
    simp only [argsOk, hsig] at ha
    have h2 : Bind.checkArgs id sig ⟨.ref x :: rest, []⟩ = pure () := ha
    show wpAny M A (Bind.checkArgs id sig ⟨.ref x :: rest, []⟩) Q E _
    rw [h2]; exact wpAny_pure hq
/-- != of a class with its own ==, that leaves __ne__ to object -/
theorem op_own_ne (M : Meth X.K C "__eq__" f) (hne : PySem.W.findIn X.K (.ref C) "__ne__" = some (some (.builtin "object.__ne__"))) (hob : PySem.W.subIn X.K (.ref C) (.type "object") = some true)
    (F : FnOk X.prog X.w X.K X.mg X.base CX0 k f fd ps sp) (hr : Room (k + 1) X.A) (hb : Binds X.K fd ps []) : OpR X (compareOp .NotEq) (rOwnB C sp not) := by
  intro pins s σ H x y v u Q I rx ry h
  obtain ⟨a, b, dx, dy, fs, gs, rfl, rfl, ha, hb', q⟩ := h
  cases rx
  cases ry
  obtain ⟨mA, J, _⟩ := ins_get I.hok ha
  obtain ⟨mB, J', _⟩ := ins_get I.hok hb'
  obtain ⟨od, J, _⟩ := J.look
  obtain ⟨od', J', _⟩ := J'.look
  obtain ⟨m, hF⟩ := I.fr
  have Xk := I.kIn
  show wpAny (model X.prog X.w) X.A (richCompare .NotEq (.ref a) (.ref b)) (EP X pins σ Q) X.xe s
  have r2 : Vals [V.ref a, V.ref b] [Value.ref a, Value.ref b] := .cons rfl (.cons rfl .nil)
  have e0 : Env0 X.prog X.w X.K X.mg X.base X.A.in1 X.stack s H := I.env0.in1
  have hl : (([.ref a, .ref b] : List Value) ++ []).length = ps.length := by
    have := F.len _ _ _ _ q
    simpa using this
  -- the own ==, one deeper
  have own : wpAny (model X.prog X.w) X.A.in1 (call (.ref f) [.ref a, .ref b]) (EP X pins σ (fun v H' => ∃ t, v = .bl t ∧ Q (.bl (!t)) H')) X.xe s := by
    refine wpAny_call (codeAny_mono (F.run X.A.in1 X.stack s H ⟨[.ref a, .ref b], []⟩ [.ref a, .ref b] [.ref a, .ref b] _ E0 hr.in1 e0 (by
      have := hb s [.ref a, .ref b] I.kIn hl
      simpa using this) r2 q) fun r s' hq => ?_)
    cases r with
    | error e => exact pass0 pins σ H s e s' I hq
    | ok fl =>
      cases fl with
      | ret w => exact I.after hq
      | next => exact False.elim hq
      | brk => exact False.elim hq
      | cont => exact False.elim hq
  have neq : wpAny (model X.prog X.w) X.A.in1 (Builtin.«object.__ne__» ⟨[.ref a, .ref b], []⟩) (fun fin s' => ∃ t, fin = .done (.ret (.bool t)) ∧ EP X pins σ Q (.bool t) s') X.xe s := by
    unfold Builtin.«object.__ne__»
    refine wpAny_bind (m := slotArgs "__ne__" 1 ⟨[.ref a, .ref b], []⟩) ?_
    refine (show wpAny _ _ (pure (Value.ref a, [Value.ref b])) _ _ _ from wpAny_pure ?_)
    refine wpAny_bind (wpAny_cRoomFor hr.in1.units0 ?_)
    refine wpAny_bind (PySem.W.ifBound_K Xk J M.at_ M.fn (wpAny_mono own (fun v s' hv => ?_) fun _ _ e => e))
    obtain ⟨z, H', I', rz, t, rfl, q'⟩ := hv
    cases rz
    refine wpAny_bind (wpAny_truthy_bool ?_)
    exact wpAny_pure ⟨!t, rfl, .bl (!t), H', I', rfl, q'⟩
  have one : wpAny (model X.prog X.w) X.A (tryCompare (.ref a) "__ne__" (.ref b)) (fun r s' => ∃ v, r = some v ∧ EP X pins σ Q v s') X.xe s := by
    unfold tryCompare
    refine wpAny_bind (ifBoundB_K Xk J hne slot_ne (wpAny_call (codeAny_call_builtin slot_ne.plain PySem.F.cmpEntry_ne (check_slotK Xk J PySem.F.cmpKind_ne PySem.F.cmpSplit_ne (PySem.F.cmpArgs_ne _ _) hob ?_))))
    refine wpAny_mono neq (fun fin s' hv => ?_) fun e s' z => z
    obtain ⟨t, rfl, q'⟩ := hv
    exact wpAny_pure ⟨_, rfl, q'⟩
  unfold richCompare
  simp only [oneThing_ref]
  refine wpAny_holding (wpAny_bind (wpAny_cRoomFor hr.units0 ?_))
  refine wpAny_bind (J.type.here (wpAny_bind (J'.type.here ?_)))
  simp only [bne_self_eq_false, Bool.false_eq_true, if_false]
  refine wpAny_bind (wpAny_pure ?_)
  simp only [Bool.false_eq_true, if_false]
  refine wpAny_bind (wpAny_mono one (fun r s' z => ?_) fun _ _ e => e)
  obtain ⟨v, rfl, hq⟩ := z
  exact wpAny_pure hq
end
end Nw

namespace Nw
open PySem PySem.Spec PyProof.Rows L2
/-! ### an exception that was caught and is held as a value -/
def ExV (cls : Value) (d : Option Addr) (a : Addr) : HO := .ext fun h => ∃ (oe : Obj) (vs : Array Value), h.get? a = some oe ∧ Zc cls d oe ∧ oe.data = .fields vs
theorem exv_at {P : Program} {w : World} {H : Hp} {h : Heap} {cls : Value} {d : Option Addr} {a : Addr} (hok : HOk P w H h) (e : H a = some (ExV cls d a)) : ∃ (oe : Obj) (vs : Array Value), h.get? a = some oe ∧ Zc cls d oe ∧ oe.data = .fields vs := by
  have z : ObjOk P w H h a (ExV cls d a) := hok a _ e
  exact z.1
section
variable {X : Cx} {pins : List (Addr × Obj)} {σ : L2.St} {H : Hp} {s : Shared}
theorem inv_held {a : Addr} {oe : Obj} {vs : Array Value} {cls : Value} {d : Option Addr} (I : Inv X pins σ H s) (at_ : s.heap.get? a = some oe) (z : Zc cls d oe) (fl : oe.data = .fields vs) (fr : H a = none) (young : X.s_0.heap.get? a = none)
    (nl : a ≠ X.env.locals) (np : ∀ p ∈ X.pn ++ pins, p.1 ≠ a) : Inv X pins σ (upd H a (ExV cls d a)) s := by
  have nc : ∀ x c, X.env.cells.lookup x = some c → c ≠ a := fun x c e q => by
    obtain ⟨v, o, ho, hd⟩ := I.cell x c e
    rw [q, at_] at ho
    cases ho
    rw [fl] at hd
    cases hd
  refine ⟨I.ok, I.os, I.bare, { I.base with free := fun b o e n hx => ?_, tups := fun b xs e => ?_, frzs := fun b o u e => ?_, tbls := fun b ps e => ?_ }, I.loc, I.cell, ?_, fun x c e => ?_, fun p hp => ?_, ?_, I.len⟩
  · rw [upd_ne fun q => by rw [q, young] at e; cases e]
    exact I.base.free b o e n hx
  · have q := I.base.tups b xs e
    rw [upd_ne (ne_of_none q fr)]
    exact q
  · have q := I.base.frzs b o u e
    rw [upd_ne (ne_of_none q fr)]
    exact q
  · obtain ⟨more, q⟩ := I.base.tbls b ps e
    exact ⟨more, by rw [upd_ne (ne_of_none q fr)]; exact q⟩
  · rw [upd_ne nl.symm]
    exact I.free
  · rw [upd_ne (nc x c e)]
    exact I.freeC x c e
  · obtain ⟨p1, p2, p3⟩ := I.pin p hp
    exact ⟨p1, by rw [upd_ne (np p hp)]; exact p2, p3⟩
  · exact I.hok.laidN (fun _ _ q => q) fr ⟨⟨oe, vs, at_, z, fl⟩, ⟨oe, at_⟩, fun _ _ ⟨o, v, q, r⟩ k => ⟨o, v, k o q, r⟩⟩
end
/-- behind the suite the caught one stands as a value -/
def keepD (i : Nat) (a : Addr) (cls : Value) (d : Option Addr) (D : Ends) : Ends where
  nx := fun σ H => D.nx (σ.set i none) (upd H a (ExV cls d a))
  rt := fun v H => D.rt v (upd H a (ExV cls d a))
  bk := fun σ H => D.bk (σ.set i none) (upd H a (ExV cls d a))
  ct := fun σ H => D.ct (σ.set i none) (upd H a (ExV cls d a))
/-- what 'except c as n: suite' wishes, the exception being kept; one of another class isn't raised there -/
def wKeep (K : PySem.W.Frag) (c : Value) (i : Nat) (ts : Addr → Value → Option Addr → TS) (D : Ends) : WX := fun cls d σ H =>
  PySem.W.exmOne K cls c = some true ∧ ∀ a, H a = none → ts a cls d (keepD i a cls d D) (σ.set i (some (.ref a))) H
section
variable {X : Cx} {x n : Str} {c : Value} {i : Nat} {body suite : List Stmt} {b₀ : Stmt} {np pos pos' : Pos} {tb : WX → TS} {ts : Addr → Value → Option Addr → TS}
/-- an object in the air is none that stood at the call, no frame, no pinned one -/
structure Apart (X : Cx) (pins : List (Addr × Obj)) (a : Addr) : Prop where
  young : X.s_0.heap.get? a = none
  nl : a ≠ X.env.locals
  nf : a ∉ X.fs
  np : ∀ p ∈ X.pn ++ pins, p.1 ≠ a
theorem apart_of {pins : List (Addr × Obj)} {σ : L2.St} {H : Hp} {sI : Shared} {B h : Heap} {a : Addr} {Z : Obj → Prop} (hst : X.stack = X.env :: X.outer) (hfm : X.env.frame = some X.env.locals) (hex : X.ex = []) (I : Inv X pins σ H sI)
    (nb : ∀ b o, sI.heap.get? b = some o → b ∉ frs X.stack → B.get? b = some o) (fl : HandSPX.FlyingZ B (X.env :: X.outer) a Z h) : Apart X pins a := by
  obtain ⟨oe, vs, e1, e2, e3⟩ := fl.there
  have nB : B.get? a = none := fl.2.1
  have off : a ∉ frs (X.env :: X.outer) := fun hm => by
    obtain ⟨_, o', e', nofld⟩ := fl.2.2.1.mem hm
    rw [e1] at e'
    cases e'
    exact nofld _ e3
  have gone : ∀ o, sI.heap.get? a ≠ some o := fun o e => by
    have z := nb a o e (by rw [hst]; exact off)
    rw [nB] at z
    cases z
  refine ⟨?_, fun q => off (List.mem_filterMap.mpr ⟨X.env, List.mem_cons_self, by rw [hfm, q]⟩), fun hm => ?_, fun p hp q => ?_⟩
  · cases e : X.s_0.heap.get? a with
    | none => rfl
    | some o =>
      obtain ⟨o', z⟩ := I.base.there a o e (by rw [hex]; exact fun q => nomatch q)
      exact absurd z (gone o')
  · obtain ⟨ev, he, q⟩ := List.mem_filterMap.mp hm
    exact off (List.mem_filterMap.mpr ⟨ev, List.mem_cons_of_mem _ he, q⟩)
  · have z := (I.pin p hp).1
    rw [q] at z
    exact gone _ z
/-- try: body / except x as n: suite; the exception is kept behind it -/
theorem ps_try_keep (hst : X.stack = X.env :: X.outer) (hfm : X.env.frame = some X.env.locals) (hex : X.ex = []) (hN : X.N.Nodup) (hi : X.N[i]? = some n) (hln : X.env.kindOf n = some .local) (hc : Names X x c)
    (hb : ∀ (W : WX) (pn : List (Addr × Obj)) (xe : Value → Shared → Prop), Takes (X.tr pn xe) W → PSs (X.tr pn xe) body (tb W))
    (hsu : ∀ (a : Addr) (oe : Obj) (cls : Value) (d : Option Addr) (pn : List (Addr × Obj)), Zc cls d oe → (∃ vs, oe.data = .fields vs) → PSs (X.suite a ((a, oe) :: pn)) (b₀ :: suite) (ts a cls d)) :
    PS X (.Try body [.ExceptHandler (some (.Name x np)) (some n) (b₀ :: suite) pos'] [] [] pos) (fun D σ H => tb (wKeep X.K c i ts D) D σ H) := by
  refine ⟨fun pins s σ H D I wish => ?_⟩
  have hA : X.A.frames = some (X.env :: X.outer) := by rw [I.ok.frames, hst]
  -- what is raised in the body comes here
  have land : Takes (X.tr (X.pn ++ pins) fun e s1 => wpAny (model X.prog X.w) X.A (noteFrame e X.env) (fun _ s2 => wpAny (model X.prog X.w) X.A (setFlight e none) (fun _ s3 =>
      wpAny (model X.prog X.w) X.A (handleBy e X.env [.ExceptHandler (some (.Name x np)) (some n) (b₀ :: suite) pos']) (SP X pins D) X.xe s3) X.xe s2) X.xe s1) (wKeep X.K c i ts D) := by
    rintro u sx ⟨a, B, sI, pins', σx, Hx, cls, d, rfl, Ix, nb, up, sky, na, os, ag, hm, hyes⟩
    have J : Inv X pins σx Hx sI := Ix.ofTry I.ok
    show wpAny (model X.prog X.w) X.A (noteFrame (.ref a) X.env) _ _ _
    have sky2 : Sky B (X.env :: X.outer) a (Zc cls d) X.env.locals sx.heap := hst ▸ sky
    refine Sky.land Zc.steady hA hfm sky2 fun hA1 fl1 up1 => ?_
    have ap := apart_of hst hfm hex J nb fl1
    have J1 : Inv X pins σx Hx { sx with heap := hA1 } := J.landed nb fl1.1 (up.trans up1) os ag
    obtain ⟨o1, f1, g1, z1, d1⟩ := fl1.there
    have S1 := J1.suite g1 d1 na ap.nl ap.nf
    refine wpAny_handleBy_cons (codeAny_handlers_test ?_) (fun q => nomatch q)
    have LC : PySem.W.Looks (model X.prog X.w) hA1 (typeOf (.ref a)) cls := fun A1 Q1 E1 sh kk q => wpAny_typeOf_ref (kk _ _ g1) (by rw [z1.1]; exact q)
    have LM := PySem.W.exm_one (M := model X.prog X.w) (J1.kIn) LC hm
    have clause : ∀ {Q1 : Value → Shared → Prop} {E1 : Value → Shared → Prop}, Q1 c { sx with heap := hA1 } → wpAny (model X.prog X.w) (X.A.mark (some (.ref a))) (eval (.Name x np) X.env) Q1 E1 { sx with heap := hA1 } := fun {Q1 E1} q => by
      obtain ⟨hg, hdb, hm | ⟨hm, hv, hnn⟩⟩ := hc
      · exact ld_glob (X := X.suite a ((a, o1) :: (X.pn ++ pins))) S1 hg hm q hdb
      · exact ld_blt (X := X.suite a ((a, o1) :: (X.pn ++ pins))) S1 hg hm hv q hnn hdb
    refine clause (LM.here (codeAny_handlers_suite_as (HandSPX.lands_againZ fl1 fun hA2 fl2 up2 => ?_)))
    have J2 : Inv X pins σx Hx { sx with heap := hA2 } := J.landed nb fl2.1 ((up.trans up1).trans up2) os ag
    obtain ⟨o2, f2, g2, z2, d2⟩ := fl2.there
    refine store_ok (X := X.suite a ((a, o2) :: (X.pn ++ pins))) (v := .ref a) (J2.suite g2 d2 na ap.nl ap.nf) hN hi (.inl hln) rfl (fun s5 S5 => ?_) (.inr hln)
    refine wpAny_mono ((hsu a o2 cls d (X.pn ++ pins) z2 ⟨_, d2⟩).run [] s5 _ Hx _ S5 (hyes a na)) (fun f s6 hsp => ?_) (fun _ _ z => False.elim z)
    have out : ∀ {σ6 : L2.St} {H6 : Hp} {Q1 : Shared → Prop}, Inv (X.suite a ((a, o2) :: (X.pn ++ pins))) [] σ6 H6 s6 → (∀ s7, Inv X pins (σ6.set i none) (upd H6 a (ExV cls d a)) s7 → Q1 s7) →
        wpAny (model X.prog X.w) X.A (do bindName X.env n .none; unbindBehindTheSuite X.env n pos') (fun _ s7 => Q1 s7) X.xe s6 := fun {σ6 H6 Q1} S6 hq => by
      obtain ⟨p1, p2, _⟩ := S6.pin (a, o2) (List.mem_append_left _ List.mem_cons_self)
      exact gone_ok (inv_held (S6.unsuite I.ok) p1 z2 d2 p2 ap.young ap.nl ap.np) hN hi hln hq
    cases f with
    | next => exact let ⟨_, _, S6, q6⟩ := hsp; out S6 fun s7 J7 => ⟨_, _, J7, q6⟩
    | brk => exact let ⟨_, _, S6, q6⟩ := hsp; out S6 fun s7 J7 => ⟨_, _, J7, q6⟩
    | cont => exact let ⟨_, _, S6, q6⟩ := hsp; out S6 fun s7 J7 => ⟨_, _, J7, q6⟩
    | ret u => exact let ⟨_, _, _, S6, r6, q6⟩ := hsp; out S6 fun s7 J7 => ⟨_, _, _, J7, r6, q6⟩
  refine wpAny_Try_except (wpAny_mono ((hb (wKeep X.K c i ts D) _ _ land).run [] s σ H D (I.toTry _) wish) (fun f s1 hsp => ?_) (fun e s1 he => he))
  cases f with
  | next => exact let ⟨σ1, H1, J1, q⟩ := hsp; wpAny_execs_nil ⟨σ1, H1, J1.ofTry I.ok, q⟩
  | brk => exact let ⟨σ1, H1, J1, q⟩ := hsp; ⟨σ1, H1, J1.ofTry I.ok, q⟩
  | cont => exact let ⟨σ1, H1, J1, q⟩ := hsp; ⟨σ1, H1, J1.ofTry I.ok, q⟩
  | ret u => exact let ⟨v, σ1, H1, J1, r, q⟩ := hsp; ⟨v, σ1, H1, J1.ofTry I.ok, r, q⟩
end
/-! ### isinstance of such a value, its fields -/
/-- what isinstance and fields lean on, of an own exception class -/
structure ExF (K : PySem.W.Frag) (C : Addr) : Prop where
  ga : PySem.W.findIn K (.ref C) "__getattribute__" = some (some (.builtin "BaseException.__getattribute__"))
  gt : PySem.W.findIn K (.ref C) "__getattr__" = some none
  sb : PySem.W.subIn K (.ref C) (.type "BaseException") = some true
  hd : PySem.W.hasDictIn K C = true
  cl : PySem.W.findIn K (.ref C) "__class__" = some (some (.builtin "object.__class__"))
  sp : PySem.W.specialIn K (.builtin "object.__class__") "__get__" = some (some (.builtin "getset_descriptor.__get__"))
  tk : PySem.W.takesIn K (.builtin "object.__class__") = some true
  mr : PySem.W.mroIn K C (.type "object") = some true
def exfB (K : PySem.W.Frag) (C : Addr) : Bool :=
  decide (PySem.W.findIn K (.ref C) "__getattribute__" = some (some (.builtin "BaseException.__getattribute__"))) && (decide (PySem.W.findIn K (.ref C) "__getattr__" = some none) && (decide (PySem.W.subIn K (.ref C) (.type "BaseException") = some true) &&
  (PySem.W.hasDictIn K C && (decide (PySem.W.findIn K (.ref C) "__class__" = some (some (.builtin "object.__class__"))) && (decide (PySem.W.specialIn K (.builtin "object.__class__") "__get__" = some (some (.builtin "getset_descriptor.__get__"))) &&
  (decide (PySem.W.takesIn K (.builtin "object.__class__") = some true) && decide (PySem.W.mroIn K C (.type "object") = some true)))))))
theorem exfB_ok {K : PySem.W.Frag} {C : Addr} (h : exfB K C = true) : ExF K C := by
  unfold exfB at h
  simp only [Bool.and_eq_true, decide_eq_true_eq] at h
  obtain ⟨a, b, c, d, e, f, g, i⟩ := h
  exact ⟨a, b, c, d, e, f, g, i⟩
theorem clsIn_of {K : PySem.W.Frag} {C : Addr} (h : PySem.W.hasDictIn K C = true) : (PySem.W.clsIn K C).isSome = true := by
  obtain ⟨cd, hc, _⟩ := PySem.W.any_some h
  rw [hc]
  rfl
/-- the object at a of the class at C, as the library tells of instances -/
theorem exv_inst {X : Cx} {pins : List (Addr × Obj)} {σ : L2.St} {H : Hp} {s : Shared} {a C : Addr} {d : Option Addr} (I : Inv X pins σ H s) (e : H a = some (ExV (.ref C) d a)) (hd : ∀ dx, d = some dx → ∃ fs, H dx = some (.xd fs)) :
    ∃ ox od, PySem.W.InstAt s.heap a ox C od ∧ (∀ dx fs, d = some dx → H dx = some (.xd fs) → ∃ o, od = some o ∧ ∀ f, ∃ u, PySem.W.lookIn f o = some u ∧ RelO (fs.lookup f) u) := by
  obtain ⟨oe, vs, g, z, fl⟩ := exv_at I.hok e
  have nc : PySem.W.notCls oe = true := by
    unfold PySem.W.notCls
    rw [fl] <;> rfl
  cases d with
  | none => exact ⟨oe, none, ⟨g, z.1, nc, by rw [z.2]; trivial⟩, fun dx fs q => nomatch q⟩
  | some dx =>
    obtain ⟨fs, hfs⟩ := hd dx rfl
    have hx : ObjOk X.prog X.w H s.heap dx (.xd fs) := I.hok dx _ hfs
    obtain ⟨mA, hns, hr⟩ := hx
    obtain ⟨o, ho, look⟩ := lookIn_ns hns
    refine ⟨oe, some o, ⟨g, z.1, nc, by rw [z.2]; exact ho⟩, fun dx' fs' q q' => ?_⟩
    cases q
    rw [hfs] at q'
    cases q'
    exact ⟨o, rfl, fun f => ⟨mA f, look f, hr f⟩⟩
def rIsV (K : PySem.W.Frag) : List V → Hp → VK → Prop := fun xs H Q => ∃ (a C : Addr) (d : Option Addr) (c : V) (u : Value) (b : Bool), xs = [.ref a, c] ∧ H a = some (ExV (.ref C) d a) ∧ (∀ dx, d = some dx → ∃ fs, H dx = some (.xd fs)) ∧ ExF K C ∧ ClsV c u ∧ PySem.W.kitOne K (.ref C) u = some b ∧ Q (.bl b) H
theorem call_isV {X : Cx} : CallR X (.builtin "isinstance") (rIsV X.K) := by
  intro pins s σ H xs us Q I r h
  obtain ⟨a, C, d, c, u, b, rfl, e, hd, F, k, kit, q⟩ := h
  obtain ⟨u1, u2, rfl, r1, r2⟩ := vals2 r
  have e2 := k.eq r2
  subst e2
  cases r1
  obtain ⟨ox, od, J, _⟩ := exv_inst I e hd
  exact PySem.W.kia_one (PySem.W.kitx_exc (clsIn_of F.hd) F.ga F.gt F.sb F.cl F.sp F.tk F.mr) I.kIn J kit (fun z => nomatch z) fun tk => ⟨.bl b, H, I.tok tk, rfl, q⟩
/-- what may be anything: a plain value or such a one -/
def rIsA (K : PySem.W.Frag) : List V → Hp → VK → Prop := fun xs H Q => rIsi K xs H Q ∨ rIsV K xs H Q
theorem call_isA {X : Cx} : CallR X (.builtin "isinstance") (rIsA X.K) := by
  intro pins s σ H xs us Q I r h
  rcases h with h | h
  · exact call_isi pins s σ H xs us Q I r h
  · exact call_isV pins s σ H xs us Q I r h
/-- e.f of such a value -/
def tExF (K : PySem.W.Frag) (f : Str) (te : TE) : TE := fun σ H Q => te σ H fun x H1 => ∃ (a C dx : Addr) (fs : List (Str × V)) (v : V), x = .ref a ∧ H1 a = some (ExV (.ref C) (some dx) a) ∧ H1 dx = some (.xd fs) ∧ ExF K C ∧ PySem.W.findIn K (.ref C) f = some none ∧ fs.lookup f = some v ∧ Q v H1
theorem pe_exf {X : Cx} {e : Expr} {te : TE} {pos : Pos} {f : Str} (he : PE X e te) (hb : attributeBase e f X.env (eval e X.env) = eval e X.env := by rfl) : PE X (.Attribute e f pos) (tExF X.K f te) := by
  refine ⟨fun pins s σ H Q I h => ?_⟩
  refine attr_of hb (thn (he.run pins s σ H _ I h) fun u s1 ⟨x, H1, I1, rx, a, C, dx, fs, v, ex, ea, ed, F, hno, l, q⟩ => ?_)
  subst ex
  cases rx
  obtain ⟨ox, od, J, hl⟩ := exv_inst I1 ea fun dx' z => by cases z; exact ⟨fs, ed⟩
  obtain ⟨o, rfl, look⟩ := hl dx fs rfl ed
  obtain ⟨m, h1, h2⟩ := look f
  rw [l] at h2
  obtain ⟨u, hu, ru⟩ := RelO.some_of (v := v) (o := m) h2
  exact HandSPX.exc_get I1.kIn J F.ga F.gt F.sb (PySem.W.findObj_own F.hd hno rfl (by rw [h1, hu])) (handed_of ru) ⟨v, H1, I1.tok _, ru, q⟩
end Nw

namespace Nw
open PySem PySem.Spec PyProof.Rows L2
/-! ### own exception classes with fields: what the head tells of them -/
def oexC (C : Addr) (mro : List Value) (sl : List (Option Value)) : Bool := match mro, sl with
  | .ref c :: bm, [_, _, _, _, some (.builtin n), _] => decide (c = C) && (decide (n = "ValueError.__new__") && PySem.HandSPX.refsVE bm)
  | _, _ => false
def oexO (K : PySem.W.Frag) (C : Addr) : Bool := match K.lookup C with
  | some ⟨.type t, _, .cls cd, sl⟩ => decide (t = "type") && (cd.hasDict && (!cd.hasDel && oexC C cd.mro sl.toList))
  | _ => false
def oexB (K : PySem.W.Frag) (C : Addr) : Bool := oexO K C && (decide (PySem.W.findIn K (.ref C) "__setattr__" = some (some (.builtin "object.__setattr__"))) &&
  (decide (PySem.W.subIn K (.ref C) (.type "BaseException") = some true) && (decide (PySem.W.typeIn K (.ref C) = some (.type "type")) && PySem.W.keepIn K (.ref C))))
theorem oexB_ok {K : PySem.W.Frag} {C : Addr} (h : oexB K C = true) : OexC K C := by
  unfold oexB at h
  simp only [Bool.and_eq_true, decide_eq_true_eq] at h
  obtain ⟨h0, h1, h2, h3, h4⟩ := h
  refine ⟨?_, h1, h2, h3, h4⟩
  unfold oexO at h0
  split at h0
  · rename_i t dd cd sl hl
    simp only [Bool.and_eq_true, decide_eq_true_eq, Bool.not_eq_true'] at h0
    obtain ⟨rfl, hd, hdel, hc⟩ := h0
    unfold oexC at hc
    split at hc
    · rename_i c bm k0 k1 k2 k3 n k5 hm hs
      simp only [Bool.and_eq_true, decide_eq_true_eq] at hc
      obtain ⟨rfl, rfl, hb⟩ := hc
      obtain ⟨nm, bs, mro, ns, qn, hdd, sn, sub, ab, col, del⟩ := cd
      dsimp only at hm hd hdel
      subst hm hd hdel
      obtain ⟨ls⟩ := sl
      dsimp only at hs
      subst hs
      exact ⟨nm, qn, ns, bs, bm, sn, sub, ab, col, dd, k0, k1, k2, k3, k5, hl, hb⟩
    · cases hc
  · cases h0
/-- the class above them: its own __init__ is ValueError's -/
structure OeI (K : PySem.W.Frag) (C : Addr) : Prop where
  sp : PySem.W.specialIn K (.ref C) "__getattribute__" = some (some (.builtin "type.__getattribute__"))
  rd : PySem.W.readsIn K C (.type "type") = true
  at_ : PySem.W.findCls K (.ref C) (.type "type") "__init__" = some (.val (.builtin "ValueError.__init__"))
def veiB : Option PySem.W.CFound → Bool
  | some (.val (.builtin n)) => decide (n = "ValueError.__init__")
  | _ => false
theorem veiB_ok {o : Option PySem.W.CFound} (h : veiB o = true) : o = some (.val (.builtin "ValueError.__init__")) := by
  unfold veiB at h
  split at h
  · rw [of_decide_eq_true h]
  · cases h
def oeiB (K : PySem.W.Frag) (C : Addr) : Bool := decide (PySem.W.specialIn K (.ref C) "__getattribute__" = some (some (.builtin "type.__getattribute__"))) && (PySem.W.readsIn K C (.type "type") &&
  veiB (PySem.W.findCls K (.ref C) (.type "type") "__init__"))
theorem oeiB_ok {K : PySem.W.Frag} {C : Addr} (h : oeiB K C = true) : OeI K C := by
  unfold oeiB at h
  simp only [Bool.and_eq_true, decide_eq_true_eq] at h
  exact ⟨h.1, h.2.1, veiB_ok h.2.2⟩
/-- C0.__init__(self, ..) -/
theorem pe_oeinit {X : Cx} {c : Str} {C0 : Addr} {e : Expr} {es : List Expr} {ta : TA} {p1 p2 pos : Pos} {pl : Sem Bool} (F : OeI X.K C0) (hm : X.mg c = some (.ref C0)) (ha : PA X (e :: es) ta) (hg : Gl X c := by rfl) (hdb : (c == ("__debug__" : Str)) = false := by decide)
    (hc : eval (.Call (.Attribute (.Name c p1) "__init__" p2) (e :: es) [] pos) X.env = (do
      let cv ← eval (.Name c p1) X.env
      standAt p2.atName
      let (g, fst) ← holding [cv] (getMethod cv "__init__" pl)
      callWith pos g fst (backTo pos (starEach (e :: es) X.env)) (backToKw pos (keywordEach [] X.env))) := by rfl)
    (hst : starEach (e :: es) X.env = (false, eval e X.env) :: starEach es X.env := by rfl) (hpl : (backTo pos (starEach es X.env)).any (·.1) = false := by rfl) :
    PE X (.Call (.Attribute (.Name c p1) "__init__" p2) (e :: es) [] pos) (tVeI X.K ta) := by
  refine ⟨fun pins s σ H Q I h => PySem.W.methodCall_KW (ld_glob I hg hm ?_ hdb) hc⟩
  refine PySem.W.method_cls I.kIn F.sp (PySem.W.cls_value I.kIn F.rd F.at_ (by first | rfl | decide +kernel) ?_)
  have I0 := I.tok (s.toks + 1)
  refine PyProof.Rows.callWith_method1 (thn (ha.run pos pins _ σ H _ I0 h) fun us s1 ⟨vs, H1, I1, rv, a, C, ws, ev, hl, T, ea, q⟩ => ?_) hst hpl
  subst ev
  cases rv with
  | @cons _ u0 _ ur ra rw' =>
    obtain rfl : u0 = Value.ref a := ra
    refine oinit_ok T I1 ea ?_ fun s' J => ⟨.non, H1, J, rfl, q⟩
    rw [← Paired.length rw', sizeLine_eq]
    omega
/-! ### an __init__ with one field, with two -/
def spX1 (K : PySem.W.Frag) (C : Addr) (f : Str) : Sp := fun vs H Q _ => ∃ (a : Addr) (v : V), vs = [.ref a, v] ∧ H a = some (exo a C none) ∧ ∀ dx, H dx = none → dx ≠ a → Q .non (upd (upd H dx (exd dx [(f, v)])) a (exo a C (some dx)))
def spX2 (K : PySem.W.Frag) (C : Addr) (f g : Str) : Sp := fun vs H Q _ => ∃ (a : Addr) (v w : V), vs = [.ref a, v, w] ∧ H a = some (exo a C none) ∧ ∀ dx, H dx = none → dx ≠ a → Q .non (upd (upd H dx (exd dx [(g, w), (f, v)])) a (exo a C (some dx)))
theorem upd_upd {H : Hp} {a : Addr} {o o' : HO} : upd (upd H a o) a o' = upd H a o' := by
  funext b
  by_cases h : b = a
  · rw [h, upd_same, upd_same]
  · rw [upd_ne h, upd_ne h, upd_ne h]
theorem upd_comm {H : Hp} {a b : Addr} {o u : HO} (h : a ≠ b) : upd (upd H a o) b u = upd (upd H b u) a o := by
  funext c
  by_cases h1 : c = a
  · rw [h1, upd_ne h, upd_same, upd_same]
  · by_cases h2 : c = b
    · rw [h2, upd_same, upd_ne h.symm, upd_same]
    · rw [upd_ne h2, upd_ne h1, upd_ne h1, upd_ne h2]
theorem made_heap {H1 : Hp} {a dx C : Addr} {fs : List (Str × V)} (na : H1 a = none) (ne : dx ≠ a) :
    upd (del (upd (upd (upd H1 a (exo a C none)) dx (exd dx fs)) a (exo a C (some dx))) a) dx (.xd fs) = upd H1 dx (.xd fs) := by
  funext b
  by_cases h : b = dx
  · rw [h, upd_same, upd_same]
  · rw [upd_ne h, upd_ne h]
    by_cases h2 : b = a
    · rw [h2, del_same, na]
    · rw [del_ne h2, upd_ne h2, upd_ne h, upd_ne h2]
/-- what X(e) asks behind its argument -/
theorem mk1 {K : PySem.W.Frag} {C : Addr} {f : Str} {v : V} {H1 : Hp} {Q : XK} (k : ∀ dx, H1 dx = none → Q (.ref C) (some dx) (upd H1 dx (.xd [(f, v)]))) :
    [v].length ≤ 1000 ∧ ∀ a, H1 a = none → spX1 K C f (.ref a :: ([v] ++ [])) (upd H1 a (exo a C none))
      (fun w H2 => w = .non ∧ ∃ (d : Addr) (fs : List (Str × V)), H2 a = some (exo a C (some d)) ∧ H2 d = some (exd d fs) ∧ H1 d = none ∧ Q (.ref C) (some d) (upd (del H2 a) d (.xd fs))) (fun _ _ _ => False) := by
  refine ⟨by simp, fun a na => ⟨a, v, rfl, upd_same, fun dx hdx ne => ⟨rfl, dx, _, upd_same, by rw [upd_ne ne]; exact upd_same, ?_, ?_⟩⟩⟩
  · rw [upd_ne ne] at hdx
    exact hdx
  · rw [made_heap na ne]
    refine k dx ?_
    rw [upd_ne ne] at hdx
    exact hdx
theorem mk2 {K : PySem.W.Frag} {C : Addr} {f g : Str} {v w : V} {H1 : Hp} {Q : XK} (k : ∀ dx, H1 dx = none → Q (.ref C) (some dx) (upd H1 dx (.xd [(g, w), (f, v)]))) :
    [v, w].length ≤ 1000 ∧ ∀ a, H1 a = none → spX2 K C f g (.ref a :: ([v, w] ++ [])) (upd H1 a (exo a C none))
      (fun w H2 => w = .non ∧ ∃ (d : Addr) (fs : List (Str × V)), H2 a = some (exo a C (some d)) ∧ H2 d = some (exd d fs) ∧ H1 d = none ∧ Q (.ref C) (some d) (upd (del H2 a) d (.xd fs))) (fun _ _ _ => False) := by
  refine ⟨by simp, fun a na => ⟨a, v, w, rfl, upd_same, fun dx hdx ne => ⟨rfl, dx, _, upd_same, by rw [upd_ne ne]; exact upd_same, ?_, ?_⟩⟩⟩
  · rw [upd_ne ne] at hdx
    exact hdx
  · rw [made_heap na ne]
    refine k dx ?_
    rw [upd_ne ne] at hdx
    exact hdx
section
variable {X : Cx} {P : Program} {w : World} {K : PySem.W.Frag} {mg : Str → Option Value} {base : Heap} {k : Nat} {f C : Addr} {ps : List Str} {sp : Sp} {E : XK} {x m : Str} {pos ppos apos : Pos} {e o : Expr} {es : List Expr} {ta : TE} {t : TA}
/-- X(e, ..), X an own class with its own __init__ -/
theorem pmk_oexC (O : OexC X.K C) (M : Meth X.K C "__init__" f) (G : Ok X.prog X.w X.K X.mg X.base CX0 k f ps sp) (hr : Room (k + 1) X.A) (hm : X.mg x = some (.ref C)) (ha : PA X (e :: es) t) (hg : Gl X x := by rfl) (hdb : (x == ("__debug__" : Str)) = false := by decide)
    (hst : starEach (e :: es) X.env = (false, eval e X.env) :: starEach es X.env := by rfl) (hpl : (backTo pos (starEach es X.env)).any (·.1) = false := by rfl) : PMk X (.Call (.Name x ppos) (e :: es) [] pos) (tMkO C sp [] t) := by
  obtain ⟨fd, F, b, kp, _⟩ := G.ok
  exact pmk_oex O M.at_ (beq_iff_eq.mp M.fn) F hr b .nil pass0 hg hm ha hdb hst hpl
/-- a def that may let exceptions out -/
theorem ok_ofX {qual : Str} {st : Stmt} {N : List Str} (F : FnAt K x qual st f) (S : FnScope N ps (defScope st))
    (hb : ∀ (kV doc pm : Value) (an : Option Addr) (cdv ct : Value) (us : List Value), us.length = ps.length → bindArgs (PySem.W.fnOf x qual (defArgs st) (defBody st) (defScope st) .none kV doc pm an cdv ct) ⟨us, []⟩ = pure (ps.zip us))
    (len : ∀ vs H Q E, sp vs H Q E → vs.length = ps.length)
    (hbody : ∀ (cdv : Value) (A : Around) (outer : List Env) (s : Shared) (H : Hp) (vs : List V) (Q : VK) (E : XK), Room k (A.deeper (envOfC qual (defScope st) s.heap.objs.size f cdv)) → sp vs H Q E →
      ∃ t, PSs (cxOf (L2.CX P w) P w K mg base N qual (defScope st) f cdv A outer s H E) (defBody st) t ∧ t { nx := fun _ H' => Q .non H', rt := Q } (start N vs) H) : Ok P w K mg base (L2.CX P w) (k + 1) f ps sp := by
  obtain ⟨fd, F⟩ := F
  exact ⟨fd, F.ok S len hbody, F.bindsN hb, F.kp, let ⟨oc, od, _, _, _, _, _, _, _, osl, _, lk, _⟩ := F.ex; ⟨oc, od, osl, lk⟩⟩
/-- where no exception is let out, though a callee may raise at other arguments -/
theorem passN : Passes (L2.CX X.prog X.w) X E0 := passL
/-- in a def's body: what a callee lets out goes out -/
theorem passE {E1 : Value → Shared → Prop} (hs : X.stack = X.env :: X.outer := by rfl) (hf : X.env.frame = some X.env.locals := by rfl) (hex : X.ex = [] := by rfl)
    (hx : X.xe = fun e s' => wpAny (model X.prog X.w) X.A (leaving X.env e) (fun _ s'' => L2.CX X.prog X.w X.outer X.H_0 X.s_0 E e s'') E1 s' := by rfl) : Passes (L2.CX X.prog X.w) X E := passes_call (takes_of hs hf hex hx) fun _ _ _ _ z => z
/-- in a try's body: the wish, for all slots of the right number -/
def EW (n : Nat) (W : WX) : XK := fun cls d H => ∀ σ : L2.St, σ.length = n → W cls d σ H
theorem Takes.len {W : WX} (t : Takes X W) : Takes X (fun cls d σ H => σ.length = X.N.length → W cls d σ H) := fun u s' ⟨a, B, sI, pins, σ, H, cls, d, e, I, nb, up, sky, na, os, ag, h⟩ =>
  t u s' ⟨a, B, sI, pins, σ, H, cls, d, e, I, nb, up, sky, na, os, ag, h I.len⟩
theorem passW {W : WX} (n : Nat) (t : Takes X W) (hn : X.N.length = n := by rfl) : Passes (L2.CX X.prog X.w) X (EW n W) := passes_call (Nw.Takes.len t) fun _ _ σ _ z hl => z σ (hl.trans hn)
theorem pe_callX (G : Ok X.prog X.w X.K X.mg X.base (L2.CX X.prog X.w) k f ps sp) (hr : Room k X.A) (hm : X.mg x = some (.ref f)) (hx : Passes (L2.CX X.prog X.w) X E) (ha : PA X (e :: es) t) (hg : Gl X x := by rfl) (hdb : (x == ("__debug__" : Str)) = false := by decide)
    (hst : starEach (e :: es) X.env = (false, eval e X.env) :: starEach es X.env := by rfl) (hpl : (backTo pos (starEach es X.env)).any (·.1) = false := by rfl) : PE X (.Call (.Name x ppos) (e :: es) [] pos) (tCall sp [] E t) := by
  obtain ⟨fd, F, b, kp, _⟩ := G.ok
  exact pe_call F hr hg hm kp b .nil hx ha hdb hst hpl
theorem pe_makeX (M : Mk X.K C f) (G : Ok X.prog X.w X.K X.mg X.base (L2.CX X.prog X.w) k f ps sp) (hr : Room (k + 1) X.A) (hm : X.mg x = some (.ref C)) (hx : Passes (L2.CX X.prog X.w) X E) (ha : PA X (e :: es) t) (hg : Gl X x := by rfl) (hdb : (x == ("__debug__" : Str)) = false := by decide)
    (hst : starEach (e :: es) X.env = (false, eval e X.env) :: starEach es X.env := by rfl) (hpl : (backTo pos (starEach es X.env)).any (·.1) = false := by rfl) : PE X (.Call (.Name x ppos) (e :: es) [] pos) (tMake C sp [] E t) := by
  obtain ⟨fd, F, b, kp, _⟩ := G.ok
  exact pe_make M F hr hg hm b .nil hx ha hdb hst hpl
/-- a op b by the class's own method, which may raise -/
def rOwnX (C : Addr) (sp : Sp) (E : XK) : R2 := fun x y H Q => ∃ a b dx dy fs gs, x = .ref a ∧ y = .ref b ∧ H a = some (.ins C dx fs) ∧ H b = some (.ins C dy gs) ∧ sp [.ref a, .ref b] H (fun v H' => ∃ p, v = .ref p ∧ Q v H') E
theorem op_ownX {op : Operator} {nm : Str} (M : Meth X.K C nm f) (he : PySem.dunder op.info.2 = nm) (hc : PySem.W.selfFirst X.K C = true) (G : Ok X.prog X.w X.K X.mg X.base (L2.CX X.prog X.w) k f ps sp) (hr : Room k X.A) (hx : Passes (L2.CX X.prog X.w) X E) : OpR X (binaryOp op) (rOwnX C sp E) := by
  intro pins s σ H x y v u Q I rx ry h
  obtain ⟨fd, F, b, kp, _⟩ := G.ok
  obtain ⟨p, q, dx, dy, fs, gs, rfl, rfl, hp, hq, h⟩ := h
  cases rx
  cases ry
  obtain ⟨_, Jp, _⟩ := ins_get I.hok hp
  obtain ⟨_, Jq, _⟩ := ins_get I.hok hq
  obtain ⟨od, Jp, _⟩ := Jp.look
  obtain ⟨od', Jq, _⟩ := Jq.look
  obtain ⟨m, fr⟩ := I.fr
  refine PySem.W.binop_K fr I.ok.mod.kin Jp Jq.type hc (by rw [he]; exact M.at_) M.fn ?_
  refine wpAny_mono (run_fn (vs := [.ref p, .ref q]) (dvs := []) (ds := []) (E := E) F hr b .nil hx I (.cons rfl (.cons rfl .nil)) h) (fun v s' ⟨z, H', I', rz, r, e, k⟩ => ?_) fun _ _ z => z
  subst e
  cases rz
  exact ⟨.ref r, _, I', rfl, k⟩
end
end Nw

namespace Nw
open PySem PySem.Spec PyProof.Rows L2
/-! ### properties: the getter found through its class -/
def propAt (K : PySem.W.Frag) (C : Addr) (m : Str) : Addr := match PySem.W.findIn K (.ref C) m with
  | some (some (.ref p)) => p
  | _ => 0
def propGet (K : PySem.W.Frag) (C : Addr) (m : Str) : Addr := match PySem.W.recIn K (propAt K C m) "property" with
  | some (.ref g :: _) => g
  | _ => 0
def recB (K : PySem.W.Frag) (p g : Addr) : Bool := match PySem.W.recIn K p "property" with
  | some (.ref h :: _) => decide (h = g)
  | _ => false
def propB (K : PySem.W.Frag) (C : Addr) (m : Str) : Bool := decide (PySem.W.findIn K (.ref C) m = some (some (.ref (propAt K C m)))) && (decide (PySem.W.specialIn K (.ref (propAt K C m)) "__get__" = some (some (.builtin "property.__get__"))) &&
  (decide (PySem.W.takesIn K (.ref (propAt K C m)) = some true) && recB K (propAt K C m) (propGet K C m)))
theorem propB_ok {K : PySem.W.Frag} {C : Addr} {m : Str} (h : propB K C m = true) : PropOf K C m (propAt K C m) (propGet K C m) := by
  unfold propB at h
  simp only [Bool.and_eq_true, decide_eq_true_eq] at h
  obtain ⟨h1, h2, h3, h4⟩ := h
  refine ⟨h1, h2, h3, ?_⟩
  unfold recB at h4
  split at h4
  · rename_i g r e
    rw [← of_decide_eq_true h4]
    exact ⟨r, e⟩
  · cases h4
/-- a function by its address -/
def fnAtA (K : PySem.W.Frag) (f : Addr) : He.FnW := match K.lookup f with
  | some ⟨_, _, .func fd, _⟩ => some (fd.name, fd.qualname, fd.params, fd.body, fd.scope, fd.globals, fd.closure, fd.builtins)
  | _ => none
def fnOkA (K : PySem.W.Frag) (f : Addr) (q : Str) : Bool := PySem.W.keepIn K (.ref f) && (match K.lookup f with
  | some ⟨_, _, .func fd, _⟩ => PySem.W.codeIn K fd.code q && (He.dflB K fd.defaults [] && He.kwdB K fd.kwdefaults [])
  | _ => false)
theorem funD_at {K : PySem.W.Frag} {f : Addr} {d : He.DefD} (e : fnAtA K f = d.val) (c : fnOkA K f d.qual = true) : ∃ fd, FunD K d.name d.qual d.params d.body d.scope [] [] f fd := by
  unfold fnOkA at c
  rw [Bool.and_eq_true] at c
  obtain ⟨kp, c⟩ := c
  unfold fnAtA at e
  split at e
  · rename_i oc od fd osl lk
    rw [lk] at c
    obtain ⟨a1, a2, a3, a4, a5, a6, a7, a8, a9, a10, a11, a12, a13, a14, a15⟩ := fd
    unfold He.DefD.val at e
    simp only [Option.some.injEq, Prod.mk.injEq] at e
    obtain ⟨e1, e2, e3, e4, e5, e6, e7, e8⟩ := e
    subst e1 e2 e3 e4 e5 e6 e7 e8
    simp only [Bool.and_eq_true] at c
    exact ⟨_, ⟨oc, od, a8, a9, a10, a11, a12, a13, a14, osl, rfl, lk, c.1, He.dflB_ok c.2.1, He.kwdB_ok c.2.2⟩, kp⟩
  · cases e
/-- the head's look, with the getters and the model's own statics -/
abbrev GetD : Type := (Str × Str) × He.DefD
def getAd (K : PySem.W.Frag) (g : GetD) : Addr := propGet K (He.ga K g.1.1) g.1.2
abbrev AlP : Type := (He.AlD × Bool) × (List He.FnW × Bool)
def frP (n : Nat) (g : Addr → Option Obj) : PySem.W.Frag := He.frT g (cStatics :: He.asD g n)
def obsK (fa : List He.Fa) (fn : List He.DefD) (tf : List He.Defn) (ex : PySem.W.Frag → Bool) (gs : List GetD) (g : Addr → Option Obj) (K : PySem.W.Frag) : AlP :=
  ((He.obsD fa fn K, ex K && He.tabsB g tf K), (gs.map fun d => fnAtA K (getAd K d), gs.all fun d => fnOkA K (getAd K d) d.2.qual))
def obsP (n : Nat) (fa : List He.Fa) (fn : List He.DefD) (tf : List He.Defn) (ex : PySem.W.Frag → Bool) (gs : List GetD) (g : Addr → Option Obj) : AlP := obsK fa fn tf ex gs g (frP n g)
def valP (fn : List He.DefD) (gs : List GetD) : AlP := ((He.valD fn, true), (gs.map fun d => d.2.val, true))
structure SaysP (fa : List He.Fa) (fn : List He.DefD) (tf : List He.Defn) (ex : PySem.W.Frag → Bool) (gs : List GetD) (h : Heap) (K : PySem.W.Frag) : Prop where
  d : He.SaysD fa fn K
  more : ex K = true
  hd : ∀ p ∈ tf, PySem.W.codeHdIn K (He.cT K p).1 (He.cT K p).2 = true
  out : ∀ p ∈ tf, K.lookup (He.cT K p).2 = none
  empty : ∀ p ∈ tf, h.get? (He.cT K p).2 = some { cls := .none, data := .fields #[] }
  fns : (gs.map fun d => fnAtA K (getAd K d)) = gs.map fun d => d.2.val
  oks : (gs.all fun d => fnOkA K (getAd K d) d.2.qual) = true
theorem tab_at {h : Heap} {tf : List He.Defn} {K : PySem.W.Frag} (e : He.tabsB h.get? tf K = true) : ∀ p ∈ tf, PySem.W.codeHdIn K (He.cT K p).1 (He.cT K p).2 = true ∧ ∃ o, h.get? (He.cT K p).2 = some o ∧ He.emptyTab o = true := fun p hp => by
  have z := List.all_eq_true.mp e p hp
  rw [Bool.and_eq_true] at z
  refine ⟨z.1, ?_⟩
  have z2 := z.2
  split at z2
  · rename_i o q
    exact ⟨o, q, z2⟩
  · cases z2
theorem saysP_of {n : Nat} {fa : List He.Fa} {fn : List He.DefD} {tf : List He.Defn} {ex : PySem.W.Frag → Bool} {gs : List GetD} {h : Heap} (e : obsP n fa fn tf ex gs h.get? = valP fn gs) : SaysP fa fn tf ex gs h (frP n h.get?) := by
  have e2 : (ex (frP n h.get?) && He.tabsB h.get? tf (frP n h.get?)) = true := congrArg (fun z : AlP => z.1.2) e
  rw [Bool.and_eq_true] at e2
  have tb := tab_at e2.2
  refine ⟨congrArg (fun z : AlP => z.1.1) e, e2.1, fun p hp => (tb p hp).1, fun p hp => ?_, fun p hp => ?_, congrArg (fun z : AlP => z.2.1) e, congrArg (fun z : AlP => z.2.2) e⟩
  · obtain ⟨_, o, q, z⟩ := tb p hp
    exact He.frT_none q z
  · obtain ⟨_, o, q, z⟩ := tb p hp
    rw [q, He.emptyTab_eq z]
def hookP (n : Nat) (fa : List He.Fa) (fn : List He.DefD) (tf : List He.Defn) (ex : PySem.W.Frag → Bool) (gs : List GetD) : PySem.W.Hook where
  α := AlP
  obs := fun s => obsP n fa fn tf ex gs s.heap.get?
  val := fun _ => valP fn gs
  says := fun _ h => ∃ K : PySem.W.Frag, K.In h ∧ SaysP fa fn tf ex gs h K
  of := fun _ _ e => ⟨_, He.frT_in, saysP_of e⟩
  keeps := fun _ _ _ ⟨K, hK, c⟩ k => ⟨K, PySem.W.Frag.In.keeps hK k, ⟨c.d, c.more, c.hd, c.out, fun p hp => k _ _ (c.empty p hp), c.fns, c.oks⟩⟩
theorem obsP_eq {n : Nat} {fa : List He.Fa} {fn : List He.DefD} {tf : List He.Defn} {ex : PySem.W.Frag → Bool} {gs : List GetD} {g : Addr → Option Obj} {s : Shared} (h : ∀ a, g a = s.heap.get? a) : obsP n fa fn tf ex gs g = (hookP n fa fn tf ex gs).obs s := by
  obtain rfl : g = s.heap.get? := funext h
  rfl
theorem SaysP.get {fa : List He.Fa} {fn : List He.DefD} {tf : List He.Defn} {ex : PySem.W.Frag → Bool} {gs : List GetD} {h : Heap} {K : PySem.W.Frag} (c : SaysP fa fn tf ex gs h K) (i : Nat) {d : GetD} (e : gs[i]? = some d := by rfl) :
    ∃ fd, FunD K d.2.name d.2.qual d.2.params d.2.body d.2.scope [] [] (getAd K d) fd := by
  have e2 : (gs.map fun d => fnAtA K (getAd K d))[i]? = (gs.map fun d => d.2.val)[i]? := by rw [c.fns]
  rw [List.getElem?_map, List.getElem?_map, e] at e2
  exact funD_at (Option.some.inj e2) (List.all_eq_true.mp c.oks d (List.mem_of_getElem? e))
theorem pe_propC {X : Cx} {k : Nat} {C p g : Addr} {f : Str} {ps : List Str} {sp : Sp} {e : Expr} {pos : Pos} {ta : TE} (c : Cls X.K C) (hp : PropOf X.K C f p g) (G : Ok X.prog X.w X.K X.mg X.base CX0 k g ps sp) (hr : Room (k + 1) X.A) (he : PE X e ta)
    (hab : attributeBase e f X.env (eval e X.env) = eval e X.env := by rfl) : PE X (.Attribute e f pos) (tProp C sp [] E0 ta) := by
  obtain ⟨fd, F, b, _⟩ := G.ok
  exact pe_prop he c hp F hr b .nil pass0 hab
theorem xfc {K : PySem.W.Frag} {C : Addr} (F : ExF K C) : XfC K C := ⟨F.ga, F.gt, F.sb, F.hd⟩
end Nw

namespace Nw
open PySem PySem.Spec PyProof.Rows L2
/-! ### tables of code objects beside the view -/
def noTb (I : Hp) : Prop := ∀ b ps, I b ≠ some (.tbl ps)
section
variable {T : Addr → Prop} {I H I' H' H1 : Hp} {Tb : List (Addr × Str)} {D : DA} {n m : Nat}
theorem Grow.noTb (g : Grow T I H I' H') (h : noTb I) : Nw.noTb I' := fun b ps e => h b ps (g.tbl b ps e)
theorem ext_sub (sb : Same I H) (h : noTb I) (e : LamX.ExtN H H1) : Same I H1 := fun b o q => e b o (sb b o q) fun ps z => h b ps (by rw [← z]; exact q)
theorem tabs_keep (t : LamX.Tabs Tb H) (g : Grow T I H I' H') (h : ∀ b o, H b = some o → ((∃ ps, o = .tbl ps) ∨ ∃ φ, o = .ext φ) → ¬ T b) : LamX.Tabs Tb H' := fun p hp => by
  obtain ⟨ps, h1, h2, h3⟩ := t p hp
  refine ⟨ps, g.keep _ _ (h _ _ h1 (.inl ⟨_, rfl⟩)) h1, h2, fun pos cv hc => ?_⟩
  obtain ⟨c, e1, e2⟩ := h3 pos cv hc
  exact ⟨c, e1, g.keep _ _ (h _ _ e2 (.inr ⟨_, rfl⟩)) e2⟩
/-- a state of a law that makes lambdas: its draws, its tables -/
structure LSt (Tb : List (Addr × Str)) (D : DA) (n : Nat) (I H : Hp) : Prop where
  drw : Drw D n I H
  nt : noTb I
  tabs : LamX.Tabs Tb H
theorem LSt.sub (s : LSt Tb D n I H) : Same I H := s.drw.sub
theorem LSt.grow (s : LSt Tb D n I H) (g : Grow No I H I' H') : LSt Tb D n I' H' := ⟨s.drw.grow g, g.noTb s.nt, tabs_keep s.tabs g fun _ _ _ _ z => z⟩
theorem LSt.draw (s : LSt Tb D n I H) (g : Grow (TD D) I H I' H') (d : Drw D m I' H') : LSt Tb D m I' H' := by
  obtain ⟨_, _, _, _, r, _⟩ := s.drw.ex
  refine ⟨d, g.noTb s.nt, tabs_keep s.tabs g fun b o e k t => ?_⟩
  rcases t with rfl | rfl | rfl
  · rw [r.hd] at e; cases e; rcases k with ⟨_, z⟩ | ⟨_, z⟩ <;> cases z
  · rw [r.hg] at e; cases e; rcases k with ⟨_, z⟩ | ⟨_, z⟩ <;> cases z
  · rw [r.hl] at e; cases e; rcases k with ⟨_, z⟩ | ⟨_, z⟩ <;> cases z
theorem LSt.mono (s : LSt Tb D n I H) (h : n ≤ m) : LSt Tb D m I H := ⟨s.drw.mono h, s.nt, s.tabs⟩
theorem Drw.ext (d : Drw D n I H) (h : noTb I) (e : LamX.ExtN H H1) : Drw D n I H1 := by
  obtain ⟨a, b, c, f, s, r⟩ := d.ex
  exact ⟨a, b, c, f, ⟨ext_sub s.sub h e, s.vd, s.vg, s.vl, s.dg, s.dl, s.gl, e _ _ s.hd (fun _ z => nomatch z), e _ _ s.hg (fun _ z => nomatch z), e _ _ s.hl (fun _ z => nomatch z)⟩, r⟩
theorem LSt.ext (s : LSt Tb D n I H) (e : LamX.ExtN H H1) (t : LamX.Tabs Tb H1) : LSt Tb D n I H1 := ⟨s.drw.ext s.nt e, s.nt, t⟩
end
/-! ### a def that calls what it got and tells the error -/
def EO (K : PySem.W.Frag) (CO : Addr) (Q : VK) : XK := fun cls d H => PySem.W.exmOne K cls (.ref CO) = some true ∧ ∀ a, H a = none → Q (.ref a) (upd H a (ExV cls d a))
def TTo (K : PySem.W.Frag) (CO : Addr) : (XK → Hp → VK → Prop) → Hp → VK → Prop := fun tl H Q => tl (EO K CO Q) H fun _ H2 => Q .non H2
section
variable {P : Program} {w : World} {K : PySem.W.Frag} {mg : Str → Option Value} {base : Heap} {k : Nat} {ps : List Str} {sp : Sp} {N : List Str}
/-- the law's def, its own code object told -/
theorem okd_ofL {t qual : Str} {st : Stmt} {fd : FuncData} (F : FunD K t qual (defArgs st) (defBody st) (defScope st) [] [] (He.ga K t) fd) (S : FnScope N ps (defScope st)) (len : ∀ vs H Q E, sp vs H Q E → vs.length = ps.length)
    (hbody : ∀ (cdv : Value) (A : Around) (outer : List Env) (s : Shared) (H : Hp) (vs : List V) (Q : VK) (E : XK), cdv = .ref (He.codeOf K (t, none)) → Room k (A.deeper (envOfC qual (defScope st) s.heap.objs.size (He.ga K t) cdv)) → sp vs H Q E →
      ∃ u, PSs (cxOf CX0 P w K mg base N qual (defScope st) (He.ga K t) cdv A outer s H E).nox (defBody st) u ∧ u { nx := fun _ H' => Q .non H', rt := Q } (start N vs) H) : FnOk P w K mg base CX0 (k + 1) (He.ga K t) fd ps sp := by
  obtain ⟨oc, od, dV, kV, doc, pm, an, cdv, ct, osl, e, lk, hcd, _⟩ := F.ex
  obtain ⟨c, rfl⟩ := He.codeIn_ref hcd
  have hc : He.codeOf K (t, none) = c := He.codeOf_eq (p := (t, none)) lk (by rw [e])
  rw [e] at lk ⊢
  refine fn_of lk hcd S len fun A outer s H vs Q E hr h => ?_
  obtain ⟨u, h1, h2⟩ := hbody (.ref c) A outer s H vs Q E (by rw [hc]) hr h
  exact ⟨u, h1.nox, h2⟩
theorem ok_ofL {t qual : Str} {st : Stmt} (F : FnAt K t qual st (He.ga K t)) (S : FnScope N ps (defScope st))
    (hb : ∀ (kV doc pm : Value) (an : Option Addr) (cdv ct : Value) (us : List Value), us.length = ps.length → bindArgs (PySem.W.fnOf t qual (defArgs st) (defBody st) (defScope st) .none kV doc pm an cdv ct) ⟨us, []⟩ = pure (ps.zip us))
    (len : ∀ vs H Q E, sp vs H Q E → vs.length = ps.length)
    (hbody : ∀ (cdv : Value) (A : Around) (outer : List Env) (s : Shared) (H : Hp) (vs : List V) (Q : VK) (E : XK), cdv = .ref (He.codeOf K (t, none)) → Room k (A.deeper (envOfC qual (defScope st) s.heap.objs.size (He.ga K t) cdv)) → sp vs H Q E →
      ∃ u, PSs (cxOf CX0 P w K mg base N qual (defScope st) (He.ga K t) cdv A outer s H E).nox (defBody st) u ∧ u { nx := fun _ H' => Q .non H', rt := Q } (start N vs) H) : Ok P w K mg base CX0 (k + 1) (He.ga K t) ps sp := by
  obtain ⟨fd, F⟩ := F
  exact ⟨fd, okd_ofL F S len hbody, F.bindsN hb, F.kp, let ⟨oc, od, _, _, _, _, _, _, _, osl, _, lk, _⟩ := F.ex; ⟨oc, od, osl, lk⟩⟩
end
/-- x(lambda: body) -/
theorem pe_told {X : Cx} {Tb : List (Addr × Str)} {TT : (XK → Hp → VK → Prop) → Hp → VK → Prop} {x a : Str} {g c P : Addr} {k : Nat} {st : Stmt} {Ng : List Str} {params : Arguments} {body : Expr} {scope : Scope} {t : XK → TE} {p lpos pos : Pos}
    (F : FnAt X.K x x st g) (S : FnScope Ng [a] (defScope st)) (hm : X.mg x = some (.ref g)) (hG : ∀ cdv, LamX.GivesTo X Ng x (defScope st) g cdv (defBody st) a (X.env.qual ++ "<lambda>") TT)
    (TB : LamX.TabB X.base X.mg c P) (hcode : X.env.code = .ref c) (hT : Tb = [(P, X.env.qual ++ "<lambda>")]) (hr : Room (k + 2) X.A) (L : LamX.LamS X.env.scope scope)
    (hbody : ∀ (A : Around) (outer : List Env) (s : Shared) (H : Hp) (E : XK) (f c' : Addr), Room k (A.deeper (LamX.lamEnv X scope s.heap.objs.size f c')) → PE (LamX.lamCx X A outer s H E scope f c') body (t E))
    (hdef : defaultsOf params X.env = ([], []) := by rfl)
    (hbind : ∀ (q : Str) (cl : List (Str × Addr)) (pm cv ctv : Value), bindArgs (PySem.W.kla_fn "<lambda>" q params body scope cl pm cv ctv) ⟨[], []⟩ = pure [] := by intro _ _ _ _ _; rfl)
    (hb : ∀ (kV doc pm : Value) (an : Option Addr) (cdv ct : Value) (us : List Value), us.length = 1 → bindArgs (PySem.W.fnOf x x (defArgs st) (defBody st) (defScope st) .none kV doc pm an cdv ct) ⟨us, []⟩ = pure ([a].zip us) := by intro _ _ _ _ _ _ us hl; match us, hl with | [_], _ => rfl)
    (hg : Gl X x := by rfl) (hNg : Ng[0]? = some a := by rfl) (hva : Vis (defScope st) a := by first | exact Or.inl rfl | exact Or.inr (Or.inl rfl)) (hdb : (x == ("__debug__" : Str)) = false := by decide) (hd : (a == ("__debug__" : Str)) = false := by decide) (hcd : (a == ("__classdict__" : Str)) = false := by decide) :
    PE X (.Call (.Name x p) [.Lambda params body scope lpos] [] pos) (LamX.tLam Tb TT t) := by
  obtain ⟨fd, F⟩ := F
  have B := F.bindsN (ps := [a]) hb
  obtain ⟨oc, od, dV, kV, doc, pm, an, cdv, ct, osl, e, lk, hcd', _⟩ := F.ex
  subst e
  exact LamX.pe_lamcall hg hm F.kp lk hcd' B S hNg hva (hG cdv) TB hcode (by rw [hT]; exact List.mem_singleton.mpr rfl) (fun q hq _ => by rw [hT] at hq; rw [List.mem_singleton.mp hq]) hr L hdef hbind hbody hdb hd hcd
/-- where one asks within the law's text, by places -/
theorem call_isVK {X : Cx} {K : PySem.W.Frag} (h : X.K = K) : CallR X (.builtin "isinstance") (rIsV K) := h ▸ call_isV
theorem call_isAK {X : Cx} {K : PySem.W.Frag} (h : X.K = K) : CallR X (.builtin "isinstance") (rIsA K) := h ▸ call_isA
/-! ### the end -/
def noT (H : Hp) : Hp := fun b => match H b with
  | some (.tbl _) => none
  | o => o
theorem noT_sub {H : Hp} : Same (noT H) H := fun b o e => by
  unfold noT at e
  split at e
  · cases e
  · exact e
theorem noT_tb {H : Hp} : noTb (noT H) := fun b ps e => by
  unfold noT at e
  split at e
  · cases e
  · rename_i h
    exact h ps e
theorem noT_at {H : Hp} {b : Addr} {o : HO} (e : H b = some o) (n : NTb o) : noT H b = some o := by
  unfold noT
  rw [e]
  cases o <;> first | rfl | exact absurd rfl (n _)
theorem noT_seq {K : PySem.W.Frag} {H : Hp} {a : Addr} {xs : List V} (h : SqL K H a xs) : SqL K (noT H) a xs := by
  rcases h with h | h
  · refine .inl ?_
    rcases h with h | ⟨o, h⟩
    · exact .inl (noT_at h fun _ z => nomatch z)
    · exact .inr ⟨o, noT_at h fun _ z => nomatch z⟩
  · exact .inr h
end Nw

namespace Nw
open PySem PySem.Spec PyProof.Rows L2
/-! ### any value -/
inductive Dat where
  | non | bl (b : Bool) | int (i : Int) | str (l : List Nat) | tup (xs : List Dat) | lst | dic | obj
inductive isD (K : PySem.W.Frag) (I : Hp) : V → Dat → Prop where
  | non : isD K I .non .non
  | bl (b : Bool) : isD K I (.bl b) (.bl b)
  | int (i : Int) : isD K I (.int i) (.int i)
  | str (l : List Nat) (h : l.length ≤ 100000) : isD K I (.str (mk l)) (.str l)
  | tup {a : Addr} {vs : List V} {xs : List Dat} (h : I a = some (.tup vs)) (hl : vs.length = xs.length) (hd : ∀ (i : Nat) (v : V) (x : Dat), vs[i]? = some v → xs[i]? = some x → isD K I v x) : isD K I (.ref a) (.tup xs)
  | lst {a : Addr} {vs : List V} (h : I a = some (.lst vs)) : isD K I (.ref a) .lst
  | dic {a : Addr} {kvs : List (Key × V)} (h : I a = some (.dK kvs)) : isD K I (.ref a) .dic
  | obj {a C dx : Addr} {fs : List (Str × V)} (h : I a = some (.ins C dx fs)) (F : InsF K C) (c : Cls K C) (k1 : PySem.W.kitOne K (.ref C) (.type "str") = some false) (k2 : PySem.W.kitOne K (.ref C) (.type "tuple") = some false) : isD K I (.ref a) .obj
theorem isD.up {K : PySem.W.Frag} {I I' : Hp} {v : V} {x : Dat} (h : isD K I v x) (e : Same I I') : isD K I' v x := by
  induction h with
  | non => exact .non
  | bl b => exact .bl b
  | int i => exact .int i
  | str l h => exact .str l h
  | tup h hl hd ih => exact .tup (e _ _ h) hl ih
  | lst h => exact .lst (e _ _ h)
  | dic h => exact .dic (e _ _ h)
  | obj h F c k1 k2 => exact .obj (e _ _ h) F c k1 k2
def Dat.isStr : Dat → Bool
  | .str _ => true
  | _ => false
def Dat.isTup : Dat → Bool
  | .tup _ => true
  | _ => false
theorem isD.ty {K : PySem.W.Frag} {I H : Hp} {v : V} {x : Dat} (h : isD K I v x) (sb : Same I H) : ∃ t, TyX K H v t ∧ PySem.W.kitOne K t (.type "str") = some x.isStr ∧ PySem.W.kitOne K t (.type "tuple") = some x.isTup := by
  cases h with
  | non => exact ⟨_, .base .non, (show _ = some false from kit_ty (by decide +kernel)), (show _ = some false from kit_ty (by decide +kernel))⟩
  | bl b => exact ⟨_, .base (.bl b), (show _ = some false from kit_ty (by decide +kernel)), (show _ = some false from kit_ty (by decide +kernel))⟩
  | int i => exact ⟨_, .base (.int i), (show _ = some false from kit_ty (by decide +kernel)), (show _ = some false from kit_ty (by decide +kernel))⟩
  | str l h => exact ⟨_, .base (.str _), (show _ = some true from kit_ty (by decide +kernel)), (show _ = some false from kit_ty (by decide +kernel))⟩
  | tup h hl hd => exact ⟨_, .base (.tup (sb _ _ h)), (show _ = some false from kit_ty (by decide +kernel)), (show _ = some true from kit_ty (by decide +kernel))⟩
  | lst h => exact ⟨_, .base (.lst (sb _ _ h)), (show _ = some false from kit_ty (by decide +kernel)), (show _ = some false from kit_ty (by decide +kernel))⟩
  | dic h => exact ⟨_, .base (.dK (sb _ _ h)), (show _ = some false from kit_ty (by decide +kernel)), (show _ = some false from kit_ty (by decide +kernel))⟩
  | obj h F c k1 k2 => exact ⟨_, F.ty c (sb _ _ h), k1, k2⟩
theorem isD.tup3 {K : PySem.W.Frag} {I : Hp} {v : V} {x y z : Dat} (h : isD K I v (.tup [x, y, z])) : ∃ a v1 v2 v3, v = .ref a ∧ I a = some (.tup [v1, v2, v3]) ∧ isD K I v1 x ∧ isD K I v2 y ∧ isD K I v3 z := by
  cases h with
  | @tup a vs xs h hl hd =>
    match vs, hl with
    | [v1, v2, v3], _ => exact ⟨a, v1, v2, v3, rfl, h, hd 0 _ _ rfl rfl, hd 1 _ _ rfl rfl, hd 2 _ _ rfl rfl⟩
theorem isD.mk3 {K : PySem.W.Frag} {I : Hp} {a : Addr} {v1 v2 v3 : V} {x y z : Dat} (h : I a = some (.tup [v1, v2, v3])) (h1 : isD K I v1 x) (h2 : isD K I v2 y) (h3 : isD K I v3 z) : isD K I (.ref a) (.tup [x, y, z]) :=
  .tup h rfl fun i v d e1 e2 => by
    match i, e1, e2 with
    | 0, e1, e2 => cases e1; cases e2; exact h1
    | 1, e1, e2 => cases e1; cases e2; exact h2
    | 2, e1, e2 => cases e1; cases e2; exact h3
/-! ### the head's look, with dicts of texts -/
abbrev TabD : Type := Str × List Str
abbrev AlQ : Type := AlP × List (Option (List (Option (Str × Int))))
def obsQ (n : Nat) (fa : List He.Fa) (fn : List He.DefD) (tf : List He.Defn) (ex : PySem.W.Frag → Bool) (gs : List GetD) (ts : List TabD) (g : Addr → Option Obj) : AlQ := (obsP n fa fn tf ex gs g, ts.map fun t => He.dicW (frP n g) (He.ga (frP n g) t.1))
structure SaysQ (fa : List He.Fa) (fn : List He.DefD) (tf : List He.Defn) (ex : PySem.W.Frag → Bool) (gs : List GetD) (ts : List TabD) (w : World) (h : Heap) (K : PySem.W.Frag) : Prop extends SaysP fa fn tf ex gs h K where
  dics : (ts.map fun t => He.dicW K (He.ga K t.1)) = ts.map fun t => some (He.keysIn w.params t.2)
def hookQ (n : Nat) (fa : List He.Fa) (fn : List He.DefD) (tf : List He.Defn) (ex : PySem.W.Frag → Bool) (gs : List GetD) (ts : List TabD) : PySem.W.Hook where
  α := AlQ
  obs := fun s => obsQ n fa fn tf ex gs ts s.heap.get?
  val := fun w => (valP fn gs, ts.map fun t => some (He.keysIn w.params t.2))
  says := fun w h => ∃ K : PySem.W.Frag, K.In h ∧ SaysQ fa fn tf ex gs ts w h K
  of := fun w s e => by
    have z1 : obsP n fa fn tf ex gs s.heap.get? = valP fn gs := congrArg (fun z : AlQ => z.1) e
    have z2 : (ts.map fun t => He.dicW (frP n s.heap.get?) (He.ga (frP n s.heap.get?) t.1)) = ts.map fun t => some (He.keysIn w.params t.2) := congrArg (fun z : AlQ => z.2) e
    exact ⟨_, He.frT_in, saysP_of z1, z2⟩
  keeps := fun _ _ _ ⟨K, hK, c⟩ k => ⟨K, PySem.W.Frag.In.keeps hK k, ⟨c.d, c.more, c.hd, c.out, fun p hp => k _ _ (c.empty p hp), c.fns, c.oks⟩, c.dics⟩
theorem obsQ_eq {n : Nat} {fa : List He.Fa} {fn : List He.DefD} {tf : List He.Defn} {ex : PySem.W.Frag → Bool} {gs : List GetD} {ts : List TabD} {g : Addr → Option Obj} {s : Shared} (h : ∀ a, g a = s.heap.get? a) : obsQ n fa fn tf ex gs ts g = (hookQ n fa fn tf ex gs ts).obs s := by
  obtain rfl : g = s.heap.get? := funext h
  rfl
theorem SaysQ.tab {fa : List He.Fa} {fn : List He.DefD} {tf : List He.Defn} {ex : PySem.W.Frag → Bool} {gs : List GetD} {ts : List TabD} {w : World} {h : Heap} {K : PySem.W.Frag} (c : SaysQ fa fn tf ex gs ts w h K) (i : Nat) {t : TabD} (e : ts[i]? = some t := by rfl) :
    ∃ es n, KDict K w (He.ga K t.1) es n := by
  have e2 : (ts.map fun t => He.dicW K (He.ga K t.1))[i]? = (ts.map fun t => some (He.keysIn w.params t.2))[i]? := by rw [c.dics]
  rw [List.getElem?_map, List.getElem?_map, e] at e2
  exact He.dicW_ok (Option.some.inj e2)
/-- what a written dict holds -/
theorem kdct_of {K : PySem.W.Frag} {w : World} {a : Addr} {es : Array DictEntry} {n : Nat} {kvs : List (Str × He.Dv)} (D : KDict K w a es n) (h : He.valsB K a kvs = true) {q : Str × He.Dv} (hq : q ∈ kvs) : KDct K w a q.1 (q.2.v K) := by
  obtain ⟨u, h1, h2⟩ := He.valsB_ok h hq
  exact ⟨es, n, u, D.1, D.2, h1, h2⟩
end Nw

namespace Nw
open PySem PySem.Spec PyProof.Rows L2
/-! ### texts cut and doubled -/
theorem foldl_reps : ∀ (k : Nat) (l acc : List Nat), (List.replicate k l.toArray).foldl (fun x y => x ++ y) acc.toArray = (acc ++ (List.replicate k l).flatten).toArray
  | 0, _, acc => by simp
  | k + 1, l, acc => by
    rw [List.replicate_succ, List.foldl_cons, show acc.toArray ++ l.toArray = (acc ++ l).toArray by simp, foldl_reps k l (acc ++ l), List.replicate_succ, List.flatten_cons, List.append_assoc]
/-- a text times a number -/
theorem op_mulS {X : Cx} : OpR X (binaryOp .Mult) (fun x y H Q => ∃ (l : List Nat) (k : Nat), x = .str (mk l) ∧ y = .int k ∧ 2 ≤ k ∧ k ≤ 1000 ∧ l ≠ [] ∧ l.length ≤ 1000 ∧ Q (.str (mk (List.replicate k l).flatten)) H) := by
  intro pins s σ H x y v u Q I rx ry h
  obtain ⟨l, k, rfl, rfl, h1, h2, h3, h4, q⟩ := h
  obtain ⟨t, rfl⟩ := rx
  obtain ⟨t', rfl⟩ := ry
  have hlen : (mk l).length = l.length := by simp [mk, Str.length]
  have hpos : 0 < l.length := List.length_pos_iff.mpr h3
  have hn : ¬ ((k : Int) < 1) := by omega
  have hm : l.length * k ≤ 1000 * 1000 := Nat.mul_le_mul h4 h2
  have hfl : ((List.replicate k l).flatten).length = k * l.length := by simp
  have hlt : Builtin.Str.tooLong (l.length * k) = false := by
    unfold Builtin.Str.tooLong
    exact decide_eq_false (by rw [sizeLine_eq]; omega)
  refine PySem.P.mul_str (by rw [decide_eq_false (by omega), decide_eq_false (by omega)] <;> rfl) (fun _ _ => ?_) (fun _ _ => ?_) ?_
  · rw [hlen]
    have z : (1000 : Int) ≤ (2 ^ 63 - 1) / (k : Int) := Int.le_ediv_of_mul_le (by omega) (by omega)
    omega
  · rw [hlen, Int.toNat_natCast]
    exact hlt
  · rw [if_neg hn]
    have hc : ((k : Int) == 1 || (mk l).length == 0) = false := by
      rw [hlen, Bool.or_eq_false_iff]
      exact ⟨by simp; omega, by simp; exact h3⟩
    rw [hc, if_neg Bool.false_ne_true]
    have e : (⟨(List.replicate (k : Int).toNat (mk l).cps).foldl (· ++ ·) #[]⟩ : Str) = mk (List.replicate k l).flatten := by
      rw [Int.toNat_natCast]
      have z := foldl_reps k l []
      simp only [List.nil_append] at z
      show (⟨_⟩ : Str) = ⟨_⟩
      exact congrArg Str.mk z
    rw [e]
    refine ⟨?_, ⟨.str (mk (List.replicate k l).flatten), H, I.tok _, ⟨_, rfl⟩, q⟩⟩
    show (mk (List.replicate k l).flatten).length ≤ sizeLine
    have z : (mk (List.replicate k l).flatten).length = (List.replicate k l).flatten.length := by simp [mk, Str.length]
    rw [z, hfl, sizeLine_eq, Nat.mul_comm]
    omega
theorem cutS_take (l : List Nat) (k : Nat) : cutS (mk l) none (some (k : Int)) = mk (l.take k) := by
  unfold cutS HT.sIx
  have hlen : (mk l).length = l.length := by simp [mk, Str.length]
  simp only [List.drop_zero, Nat.sub_zero, hlen]
  show Str.mk _ = Str.mk _
  congr 2
  have e : (mk l).cps.toList = l := by simp [mk]
  rw [e]
  by_cases h : k ≤ l.length
  · congr 1
    rw [if_neg (by omega)]
    omega
  · rw [List.take_of_length_le (by omega : l.length ≤ k)]
    apply List.take_of_length_le
    rw [if_neg (by omega)]
    omega
theorem cutS_drop (l : List Nat) (k : Nat) : cutS (mk l) (some (k : Int)) none = mk (l.drop k) := by
  unfold cutS HT.sIx
  have hlen : (mk l).length = l.length := by simp [mk, Str.length]
  simp only [hlen]
  show Str.mk _ = Str.mk _
  congr 2
  have e : (mk l).cps.toList = l := by simp [mk]
  rw [e]
  rw [if_neg (by omega), Int.toNat_natCast]
  by_cases h : k ≤ l.length
  · rw [Nat.min_eq_left h]
    apply List.take_of_length_le
    rw [List.length_drop]
    omega
  · rw [Nat.min_eq_right (by omega), List.drop_of_length_le (Nat.le_refl _), List.drop_of_length_le (by omega)]
    simp
end Nw

namespace Nw
open PySem PySem.Spec PyProof.Rows L2
def top (i : Nat) : Stmt := PySem.Challenge.pw_newsinorder_k01_rows_and_their_mirrors.main.body.getD i (.Pass ⟨0, 0, 0, 0⟩)
abbrev s_NoRides__init : Stmt := inClass (top 4) 0
abbrev n_NoRides__init : List Str := ["self", "at"]
theorem sc_NoRides__init : FnScope n_NoRides__init ["self", "at"] (defScope s_NoRides__init) := ⟨rfl, rfl, rfl, by decide +kernel, rfl, by decide +kernel, by decide +kernel⟩
abbrev s_TooMany__init : Stmt := inClass (top 5) 0
abbrev n_TooMany__init : List Str := ["self", "most"]
theorem sc_TooMany__init : FnScope n_TooMany__init ["self", "most"] (defScope s_TooMany__init) := ⟨rfl, rfl, rfl, by decide +kernel, rfl, by decide +kernel, by decide +kernel⟩
abbrev s_is_row : Stmt := top 10
abbrev n_is_row : List Str := ["thing", "step"]
theorem sc_is_row : FnScope n_is_row ["thing"] (defScope s_is_row) := ⟨rfl, rfl, rfl, by decide +kernel, rfl, by decide +kernel, by decide +kernel⟩
abbrev s_need_row : Stmt := top 11
abbrev n_need_row : List Str := ["row"]
theorem sc_need_row : FnScope n_need_row ["row"] (defScope s_need_row) := ⟨rfl, rfl, rfl, by decide +kernel, rfl, by decide +kernel, by decide +kernel⟩
abbrev s_counterpart : Stmt := top 12
abbrev n_counterpart : List Str := ["step"]
theorem sc_counterpart : FnScope n_counterpart ["step"] (defScope s_counterpart) := ⟨rfl, rfl, rfl, by decide +kernel, rfl, by decide +kernel, by decide +kernel⟩
abbrev s_turned_row : Stmt := top 13
abbrev n_turned_row : List Str := ["row", "step"]
theorem sc_turned_row : FnScope n_turned_row ["row"] (defScope s_turned_row) := ⟨rfl, rfl, rfl, by decide +kernel, rfl, by decide +kernel, by decide +kernel⟩
abbrev s_mirrored : Stmt := top 14
abbrev n_mirrored : List Str := ["row"]
theorem sc_mirrored : FnScope n_mirrored ["row"] (defScope s_mirrored) := ⟨rfl, rfl, rfl, by decide +kernel, rfl, by decide +kernel, by decide +kernel⟩
abbrev s_reduced : Stmt := top 15
abbrev n_reduced : List Str := ["row", "left", "step"]
theorem sc_reduced : FnScope n_reduced ["row"] (defScope s_reduced) := ⟨rfl, rfl, rfl, by decide +kernel, rfl, by decide +kernel, by decide +kernel⟩
abbrev s_is_number : Stmt := top 20
abbrev n_is_number : List Str := ["thing"]
theorem sc_is_number : FnScope n_is_number ["thing"] (defScope s_is_number) := ⟨rfl, rfl, rfl, by decide +kernel, rfl, by decide +kernel, by decide +kernel⟩
abbrev s_is_moment : Stmt := top 21
abbrev n_is_moment : List Str := ["thing"]
theorem sc_is_moment : FnScope n_is_moment ["thing"] (defScope s_is_moment) := ⟨rfl, rfl, rfl, by decide +kernel, rfl, by decide +kernel, by decide +kernel⟩
abbrev s_need_moment : Stmt := top 22
abbrev n_need_moment : List Str := ["moment"]
theorem sc_need_moment : FnScope n_need_moment ["moment"] (defScope s_need_moment) := ⟨rfl, rfl, rfl, by decide +kernel, rfl, by decide +kernel, by decide +kernel⟩
abbrev s_is_earlier : Stmt := top 23
abbrev n_is_earlier : List Str := ["one", "other"]
theorem sc_is_earlier : FnScope n_is_earlier ["one", "other"] (defScope s_is_earlier) := ⟨rfl, rfl, rfl, by decide +kernel, rfl, by decide +kernel, by decide +kernel⟩
abbrev s_sooner_of : Stmt := top 24
abbrev n_sooner_of : List Str := ["one", "other"]
theorem sc_sooner_of : FnScope n_sooner_of ["one", "other"] (defScope s_sooner_of) := ⟨rfl, rfl, rfl, by decide +kernel, rfl, by decide +kernel, by decide +kernel⟩
abbrev s_is_ride : Stmt := top 25
abbrev n_is_ride : List Str := ["thing"]
theorem sc_is_ride : FnScope n_is_ride ["thing"] (defScope s_is_ride) := ⟨rfl, rfl, rfl, by decide +kernel, rfl, by decide +kernel, by decide +kernel⟩
abbrev s_ended : Stmt := top 26
abbrev n_ended : List Str := ["rides", "moment", "found", "begin", "end"]
theorem sc_ended : FnScope n_ended ["rides", "moment"] (defScope s_ended) := ⟨rfl, rfl, rfl, by decide +kernel, rfl, by decide +kernel, by decide +kernel⟩
abbrev s_begun : Stmt := top 27
abbrev n_begun : List Str := ["rides", "moment", "found", "begin", "end"]
theorem sc_begun : FnScope n_begun ["rides", "moment"] (defScope s_begun) := ⟨rfl, rfl, rfl, by decide +kernel, rfl, by decide +kernel, by decide +kernel⟩
abbrev s_needed : Stmt := top 28
abbrev n_needed : List Str := ["rides", "ends", "begin", "end", "found", "one"]
theorem sc_needed : FnScope n_needed ["rides"] (defScope s_needed) := ⟨rfl, rfl, rfl, by decide +kernel, rfl, by decide +kernel, by decide +kernel⟩
abbrev s_link_by : Stmt := top 29
abbrev n_link_by : List Str := ["rides", "some"]
theorem sc_link_by : FnScope n_link_by ["rides"] (defScope s_link_by) := ⟨rfl, rfl, rfl, by decide +kernel, rfl, by decide +kernel, by decide +kernel⟩
abbrev s_Link__init : Stmt := inClass (top 30) 0
abbrev n_Link__init : List Str := ["self", "rides", "at", "ride"]
theorem sc_Link__init : FnScope n_Link__init ["self", "rides"] (defScope s_Link__init) := ⟨rfl, rfl, rfl, by decide +kernel, rfl, by decide +kernel, by decide +kernel⟩
abbrev s_Link_rides : Stmt := inClass (top 30) 1
abbrev n_Link_rides : List Str := ["self"]
theorem sc_Link_rides : FnScope n_Link_rides ["self"] (defScope s_Link_rides) := ⟨rfl, rfl, rfl, by decide +kernel, rfl, by decide +kernel, by decide +kernel⟩
abbrev s_Link_end : Stmt := inClass (top 30) 2
abbrev n_Link_end : List Str := ["self", "moment"]
theorem sc_Link_end : FnScope n_Link_end ["self", "moment"] (defScope s_Link_end) := ⟨rfl, rfl, rfl, by decide +kernel, rfl, by decide +kernel, by decide +kernel⟩
abbrev s_Link_begin : Stmt := inClass (top 30) 3
abbrev n_Link_begin : List Str := ["self", "moment"]
theorem sc_Link_begin : FnScope n_Link_begin ["self", "moment"] (defScope s_Link_begin) := ⟨rfl, rfl, rfl, by decide +kernel, rfl, by decide +kernel, by decide +kernel⟩
abbrev s_Link__eq : Stmt := inClass (top 30) 4
abbrev n_Link__eq : List Str := ["self", "other"]
theorem sc_Link__eq : FnScope n_Link__eq ["self", "other"] (defScope s_Link__eq) := ⟨rfl, rfl, rfl, by decide +kernel, rfl, by decide +kernel, by decide +kernel⟩
abbrev s_Link__mul : Stmt := inClass (top 30) 5
abbrev n_Link__mul : List Str := ["self", "other", "some", "begin", "end"]
theorem sc_Link__mul : FnScope n_Link__mul ["self", "other"] (defScope s_Link__mul) := ⟨rfl, rfl, rfl, by decide +kernel, rfl, by decide +kernel, by decide +kernel⟩
abbrev s_Link__or : Stmt := inClass (top 30) 6
abbrev n_Link__or : List Str := ["self", "other"]
theorem sc_Link__or : FnScope n_Link__or ["self", "other"] (defScope s_Link__or) := ⟨rfl, rfl, rfl, by decide +kernel, rfl, by decide +kernel, by decide +kernel⟩
abbrev s_Link__and : Stmt := inClass (top 30) 7
abbrev n_Link__and : List Str := ["self", "other", "ends", "some", "begin", "end"]
theorem sc_Link__and : FnScope n_Link__and ["self", "other"] (defScope s_Link__and) := ⟨rfl, rfl, rfl, by decide +kernel, rfl, by decide +kernel, by decide +kernel⟩
abbrev s_Link__invert : Stmt := inClass (top 30) 8
abbrev n_Link__invert : List Str := ["self", "begin", "end"]
theorem sc_Link__invert : FnScope n_Link__invert ["self"] (defScope s_Link__invert) := ⟨rfl, rfl, rfl, by decide +kernel, rfl, by decide +kernel, by decide +kernel⟩
abbrev s_Link__le : Stmt := inClass (top 30) 9
abbrev n_Link__le : List Str := ["self", "other", "begin", "end"]
theorem sc_Link__le : FnScope n_Link__le ["self", "other"] (defScope s_Link__le) := ⟨rfl, rfl, rfl, by decide +kernel, rfl, by decide +kernel, by decide +kernel⟩
abbrev s_l_begun : Stmt := top 32
abbrev n_l_begun : List Str := ["_law_script", "_law_great", "_law_lump"]
theorem sc_l_begun : FnScope n_l_begun ["_law_script"] (defScope s_l_begun) := ⟨rfl, rfl, rfl, by decide +kernel, rfl, by decide +kernel, by decide +kernel⟩
abbrev s_l_next : Stmt := top 33
abbrev n_l_next : List Str := ["_law_draw", "_law_many", "_law_found", "_law_turn", "_law_lump", "_law_mixed"]
theorem sc_l_next : FnScope n_l_next ["_law_draw", "_law_many"] (defScope s_l_next) := ⟨rfl, rfl, rfl, by decide +kernel, rfl, by decide +kernel, by decide +kernel⟩
abbrev s_l_pick : Stmt := top 34
abbrev n_l_pick : List Str := ["_law_draw", "_law_some_here"]
theorem sc_l_pick : FnScope n_l_pick ["_law_draw", "_law_some_here"] (defScope s_l_pick) := ⟨rfl, rfl, rfl, by decide +kernel, rfl, by decide +kernel, by decide +kernel⟩
abbrev s_l_shuffled : Stmt := top 35
abbrev n_l_shuffled : List Str := ["_law_draw", "_law_some_here", "_law_left", "_law_found"]
theorem sc_l_shuffled : FnScope n_l_shuffled ["_law_draw", "_law_some_here"] (defScope s_l_shuffled) := ⟨rfl, rfl, rfl, by decide +kernel, rfl, by decide +kernel, by decide +kernel⟩
abbrev s_l_other : Stmt := top 36
abbrev n_l_other : List Str := ["_law_step"]
theorem sc_l_other : FnScope n_l_other ["_law_step"] (defScope s_l_other) := ⟨rfl, rfl, rfl, by decide +kernel, rfl, by decide +kernel, by decide +kernel⟩
abbrev s_l_some : Stmt := top 37
abbrev n_l_some : List Str := ["_law_draw", "_law_many"]
theorem sc_l_some : FnScope n_l_some ["_law_draw", "_law_many"] (defScope s_l_some) := ⟨rfl, rfl, rfl, by decide +kernel, rfl, by decide +kernel, by decide +kernel⟩
abbrev s_l_row : Stmt := top 38
abbrev n_l_row : List Str := ["_law_draw", "_law_letters", "_law_many", "_law_found", "_law_step"]
theorem sc_l_row : FnScope n_l_row ["_law_draw", "_law_letters", "_law_many"] (defScope s_l_row) := ⟨rfl, rfl, rfl, by decide +kernel, rfl, by decide +kernel, by decide +kernel⟩
abbrev s_l_told : Stmt := top 39
abbrev n_l_told : List Str := ["_law_work", "_law_e", "error"]
theorem sc_l_told : FnScope n_l_told ["_law_work"] (defScope s_l_told) := ⟨rfl, rfl, rfl, by decide +kernel, rfl, by decide +kernel, by decide +kernel⟩
abbrev s_l_less : Stmt := top 40
abbrev n_l_less : List Str := ["_law_draw", "_law_text", "_law_at", "_law_spots"]
theorem sc_l_less : FnScope n_l_less ["_law_draw", "_law_text"] (defScope s_l_less) := ⟨rfl, rfl, rfl, by decide +kernel, rfl, by decide +kernel, by decide +kernel⟩
abbrev s_l_right : Stmt := top 41
abbrev n_l_right : List Str := ["_law_draw", "_law_text", "_law_turned", "_law_less_here", "_law_step"]
theorem sc_l_right : FnScope n_l_right ["_law_draw", "_law_text"] (defScope s_l_right) := ⟨rfl, rfl, rfl, by decide +kernel, rfl, by decide +kernel, by decide +kernel⟩
abbrev s_law : Stmt := top 42
abbrev n_law : List Str := ["_law_script", "_law_draw", "_law_turn", "_law_text", "_law_near", "_law_at", "_law_much", "_law_many", "_law_signs", "_law_odd", "_law_thing"]
theorem sc_law : FnScope n_law ["_law_script"] (defScope s_law) := ⟨rfl, rfl, rfl, by decide +kernel, rfl, by decide +kernel, by decide +kernel⟩
structure Txt (K : PySem.W.Frag) (mg : Str → Option Value) : Prop where
  b_abs : mg "abs" = none
  b_all : mg "all" = none
  b_bool : mg "bool" = none
  b_enumerate : mg "enumerate" = none
  b_int : mg "int" = none
  b_isinstance : mg "isinstance" = none
  b_len : mg "len" = none
  b_list : mg "list" = none
  b_property : mg "property" = none
  b_range : mg "range" = none
  b_sorted : mg "sorted" = none
  b_str : mg "str" = none
  b_tuple : mg "tuple" = none
  g_is_row : mg "is_row" = some (.ref (He.ga K "is_row"))
  g_need_row : mg "need_row" = some (.ref (He.ga K "need_row"))
  g_counterpart : mg "counterpart" = some (.ref (He.ga K "counterpart"))
  g_turned_row : mg "turned_row" = some (.ref (He.ga K "turned_row"))
  g_mirrored : mg "mirrored" = some (.ref (He.ga K "mirrored"))
  g_reduced : mg "reduced" = some (.ref (He.ga K "reduced"))
  g_is_number : mg "is_number" = some (.ref (He.ga K "is_number"))
  g_is_moment : mg "is_moment" = some (.ref (He.ga K "is_moment"))
  g_need_moment : mg "need_moment" = some (.ref (He.ga K "need_moment"))
  g_is_earlier : mg "is_earlier" = some (.ref (He.ga K "is_earlier"))
  g_sooner_of : mg "sooner_of" = some (.ref (He.ga K "sooner_of"))
  g_is_ride : mg "is_ride" = some (.ref (He.ga K "is_ride"))
  g_ended : mg "ended" = some (.ref (He.ga K "ended"))
  g_begun : mg "begun" = some (.ref (He.ga K "begun"))
  g_needed : mg "needed" = some (.ref (He.ga K "needed"))
  g_link_by : mg "link_by" = some (.ref (He.ga K "link_by"))
  g__law_begun : mg "_law_begun" = some (.ref (He.ga K "_law_begun"))
  g__law_next : mg "_law_next" = some (.ref (He.ga K "_law_next"))
  g__law_pick : mg "_law_pick" = some (.ref (He.ga K "_law_pick"))
  g__law_shuffled : mg "_law_shuffled" = some (.ref (He.ga K "_law_shuffled"))
  g__law_other : mg "_law_other" = some (.ref (He.ga K "_law_other"))
  g__law_some : mg "_law_some" = some (.ref (He.ga K "_law_some"))
  g__law_row : mg "_law_row" = some (.ref (He.ga K "_law_row"))
  g__law_told : mg "_law_told" = some (.ref (He.ga K "_law_told"))
  g__law_less : mg "_law_less" = some (.ref (He.ga K "_law_less"))
  g__law_right : mg "_law_right" = some (.ref (He.ga K "_law_right"))
  g_law : mg "law" = some (.ref (He.ga K "law"))
  g_OrderError : mg "OrderError" = some (.ref (He.ga K "OrderError"))
  g_NoRow : mg "NoRow" = some (.ref (He.ga K "NoRow"))
  xp_NoRow : PySem.W.excIn K (He.ga K "NoRow") He.veBase "ValueError.__new__" = true ∧ PySem.W.keepIn K (.ref (He.ga K "NoRow")) = true ∧ PySem.W.subIn K (.ref (He.ga K "NoRow")) (.type "BaseException") = some true ∧ PySem.W.typeIn K (.ref (He.ga K "NoRow")) = some (.type "type")
  g_NoMoment : mg "NoMoment" = some (.ref (He.ga K "NoMoment"))
  g_NoRides : mg "NoRides" = some (.ref (He.ga K "NoRides"))
  g_TooMany : mg "TooMany" = some (.ref (He.ga K "TooMany"))
  g_Link : mg "Link" = some (.ref (He.ga K "Link"))
  cl_Link : Cls K (He.ga K "Link")
  mk_Link : Mk K (He.ga K "Link") (He.ma K (He.ga K "Link") "__init__")
  m_Link_end : Meth K (He.ga K "Link") "end" (He.ma K (He.ga K "Link") "end")
  m_Link_begin : Meth K (He.ga K "Link") "begin" (He.ma K (He.ga K "Link") "begin")
  m_Link___eq__ : Meth K (He.ga K "Link") "__eq__" (He.ma K (He.ga K "Link") "__eq__")
  m_Link___mul__ : Meth K (He.ga K "Link") "__mul__" (He.ma K (He.ga K "Link") "__mul__")
  m_Link___or__ : Meth K (He.ga K "Link") "__or__" (He.ma K (He.ga K "Link") "__or__")
  m_Link___and__ : Meth K (He.ga K "Link") "__and__" (He.ma K (He.ga K "Link") "__and__")
  m_Link___invert__ : Meth K (He.ga K "Link") "__invert__" (He.ma K (He.ga K "Link") "__invert__")
  m_Link___le__ : Meth K (He.ga K "Link") "__le__" (He.ma K (He.ga K "Link") "__le__")
  na_Link_own_rides : NoAttr K (He.ga K "Link") "own_rides"
  c_LINKS : ∃ t, mg "LINKS" = some (.str "abcd" t)
  c_STEPS : ∃ t, mg "STEPS" = some (.str "ABCDabcd" t)
  c_MOST_STEPS : ∃ t, mg "MOST_STEPS" = some (.int 60 t)
  c_FIRST : ∃ t, mg "FIRST" = some (.str "first" t)
  c_LAST : ∃ t, mg "LAST" = some (.str "last" t)
  c_MOST_RIDES : ∃ t, mg "MOST_RIDES" = some (.int 60 t)
  em_NoRow_OrderError : PySem.W.exmOne K (.ref (He.ga K "NoRow")) (.ref (He.ga K "OrderError")) = some true
  is_Link : InsF K (He.ga K "Link")
  xf_NoRow : ExF K (He.ga K "NoRow")
  ki_Link_str : PySem.W.kitOne K (.ref (He.ga K "Link")) (.type "str") = some false
  ki_Link_tuple : PySem.W.kitOne K (.ref (He.ga K "Link")) (.type "tuple") = some false
end Nw

namespace Nw
open PySem PySem.Spec PyProof.Rows L2
section
variable {P : Program} {w : World} {K : PySem.W.Frag} {mg : Str → Option Value} {base : Heap}
theorem nn_mul {x y : Int} (hx : 0 ≤ x) (hy : 0 ≤ y) : 0 ≤ x * y := Int.mul_nonneg hx hy
theorem pow3_nn {x : Int} (h : 0 ≤ x) (n : Nat) : 0 ≤ x ^ n := Int.pow_nonneg h
theorem ok_l_next (T : Txt K mg) (F : FnAt K "_law_next" "_law_next" s_l_next (He.ga K "_law_next")) : Ok P w K mg base CX0 1 (He.ga K "_law_next") ["_law_draw", "_law_many"] spNext := by
  refine ok_of F sc_l_next (fun _ _ _ _ _ _ us hl => match us, hl with | [_, _], _ => rfl) (fun vs H Q E h => ?_) (fun cdv A outer s H vs Q E hr h => ?_)
  · obtain ⟨_, _, _, _, rfl, _⟩ := h
    rfl
  · obtain ⟨I, D, n, many, rfl, hD, hm0, hm1, hn, k⟩ := h
    refine ⟨_, pss_mid (ps_while PassesOwn.never (PW.pt (pw_and (pt_cmpR op_eq (pe_dget (hu_of hr) (pv 0) pe_str (fun _ _ => rfl)) pe_int (nomark _)) (pw_and1 (pt_cmpR (op_neNil hr.units) (pe_dget (hu_of hr) (pv 0) pe_str (fun _ _ => rfl)) (pe_lst pa_nil) (nomark _))))) (pss_one (ps_dput (hu_of hr) (pv 0) pe_str (pe_bm PySem.F.plainAttrs_list PySem.F.slot_list_pop PySem.F.type_list_pop mt_popAt (pe_dget (hu_of hr) (pv 0) pe_str (fun _ _ => rfl)) (pa_cons pe_int pa_nil)) rfl)))
      (pss_cons (ps_if (pt_cmpR op_gt (pe_dget (hu_of hr) (pv 0) pe_str (fun _ _ => rfl)) pe_int (nomark _)) (pss_cons (ps_set (i := 2) sc_l_next.nd rfl (Or.inl rfl) (pe_op op_mod (pe_callTy call_int1 (by rfl) T.b_int (by decide +kernel) (pa_cons (pe_dget (hu_of hr) (pv 0) pe_str (fun _ _ => rfl)) pa_nil)) (pv 1)))
      (pss_cons (ps_dput (hu_of hr) (pv 0) pe_str (pe_op op_fdiv (pe_dget (hu_of hr) (pv 0) pe_str (fun _ _ => rfl)) (pv 1)) rfl)
      (pss_one (ps_ret (pv 2))))) pss_nil)
      (pss_cons (ps_daug (hu_of hr) (pv 0) pe_str pe_int in_add (fun _ _ _ => rfl))
      (pss_cons (ps_set (i := 3) sc_l_next.nd rfl (Or.inl rfl) (pe_dget (hu_of hr) (pv 0) pe_str (fun _ _ => rfl)))
      (pss_cons (ps_set (i := 4) sc_l_next.nd rfl (Or.inl rfl) pe_int)
      (pss_mid (ps_if (pt_cmpR (op_neNil hr.units) (pe_dget (hu_of hr) (pv 0) pe_str (fun _ _ => rfl)) (pe_lst pa_nil) (nomark _)) (pss_one (ps_set (i := 4) sc_l_next.nd rfl (Or.inl rfl) (pe_ix ix_list (pe_dget (hu_of hr) (pv 0) pe_str (fun _ _ => rfl)) (pe_op op_mod (pe_callTy call_int1 (by rfl) T.b_int (by decide +kernel) (pa_cons (pv 3) pa_nil)) (pe_callB call_len_seq (by rfl) T.b_len (by decide +kernel) (pa_cons (pe_dget (hu_of hr) (pv 0) pe_str (fun _ _ => rfl)) pa_nil))) (fun _ _ => rfl)))) pss_nil)
      (pss_cons (ps_set (i := 5) sc_l_next.nd rfl (Or.inl rfl) (pe_op op_mod (pe_callTy call_int1 (by rfl) T.b_int (by decide +kernel) (pa_cons (pe_op op_pow (pe_op op_add (pe_op op_mod (pe_callTy call_int1 (by rfl) T.b_int (by decide +kernel) (pa_cons (pv 4) pa_nil)) pe_int) (pe_op op_mul pe_int (pv 3))) pe_int) pa_nil)) pe_int))
      (pss_one (ps_ret (pe_op op_mod (pe_callTy call_int1 (by rfl) T.b_int (by decide +kernel) (pa_cons (pe_op op_fdiv (pe_op op_mod (pe_callTy call_int1 (by rfl) T.b_int (by decide +kernel) (pa_cons (pe_op op_pow (pe_op op_add (pv 5) (pe_op op_mul pe_int (pv 3))) pe_int) pa_nil)) pe_int) pe_int) pa_nil)) (pv 1)))))))))), ?_⟩
    obtain ⟨dig0, tn, gs0, ls, s0, hd0, ht0, htn, hg0, hl0⟩ := hD.ex
    -- the while: the rest of the great numbers falls
    refine ⟨fun σ H2 => ∃ (dig : Int) (gs : List Int), σ = [some (.ref D.d), some (.int many), none, none, none, none] ∧ DrS D dig tn gs ls I H2 ∧ 0 ≤ dig ∧ (∀ g ∈ gs, 0 ≤ g) ∧ Grow (TD D) I H I H2, ?_, ?_⟩
    · refine ⟨fun m σ H' => ∃ (dig : Int) (gs : List Int), m = gs.length ∧ σ = [some (.ref D.d), some (.int many), none, none, none, none] ∧ DrS D dig tn gs ls I H' ∧ 0 ≤ dig ∧ (∀ g ∈ gs, 0 ≤ g) ∧ Grow (TD D) I H I H',
        ⟨_, dig0, gs0, rfl, rfl, s0, hd0, hg0, Grow.refl s0.sub⟩, ?_⟩
      rintro m σ H1 ⟨dig, gs, rfl, rfl, s1, hd1, hg1, G1⟩
      refine ⟨_, rfl, D.d, _, rfl, s1.get_dig, rfl, _, rfl, ?_⟩
      by_cases c : dig = 0
      · subst c
        rw [decide_eq_true rfl]
        refine iteT ⟨_, rfl, D.d, _, rfl, s1.get_great, by decide, fun p hp => ⟨D.g, p, _, rfl, rfl, SqL.of (by rw [upd_ne (ne_of_none s1.hg hp)]; exact s1.hg), SqL.of upd_same, _, rfl, ?_⟩⟩
        have G2 : Grow (TD D) I H I (upd H1 p (.lst [])) := G1.trans (Grow.mine G1.sub hp)
        have s2 : DrS D 0 tn gs ls I (upd H1 p (.lst [])) := s1.put (fun t => s1.live p t hp) (G1.sub.free hp)
        cases gs with
        | nil => exact ⟨0, [], rfl, s2, hd1, hg1, G2⟩
        | cons g r =>
          refine ⟨fun σ' H' => ∃ (dig : Int), σ' = [some (.ref D.d), some (.int many), none, none, none, none] ∧ DrS D dig tn r ls I H' ∧ 0 ≤ dig ∧ (∀ g ∈ r, 0 ≤ g) ∧ Grow (TD D) I H I H', fun σ' H' ⟨dig, e, a⟩ => ⟨r.length, Nat.lt_succ_self _, dig, r, rfl, e, a⟩, ?_⟩
          refine ⟨_, rfl, D.d, _, rfl, s2.get_great, .inl ⟨rfl, _, SqL.of s2.hg⟩, D.g, _, 0, 0, _, rfl, rfl, s2.hg, by decide, by decide, by simp [seqIndex?], rfl, ?_⟩
          have G3 := s2.gg (o := .lst (r.map V.int)) G2
          have s3 : DrS D 0 tn r ls I (upd (upd H1 p (.lst [])) D.g (.lst (r.map V.int))) := s2.up G3.sub (by rw [upd_ne s1.dg]; exact s2.hd) upd_same (by rw [upd_ne s1.gl.symm]; exact s2.hl)
          refine ⟨_, rfl, D.d, _, rfl, s3.put_dig, g, rfl, ?_, hg1 g (List.mem_cons_self ..), fun x hx => hg1 x (List.mem_cons_of_mem _ hx), s3.gd G3⟩
          exact s3.up (s3.gd G3).sub upd_same (by rw [upd_ne s1.dg.symm]; exact s3.hg) (by rw [upd_ne s1.dl.symm]; exact s3.hl)
      · rw [decide_eq_false (fun z => c (V.int.inj z))]
        exact iteF ⟨dig, gs, rfl, s1, hd1, hg1, G1⟩
    · rintro σ H1 ⟨dig, gs, rfl, s1, hd1, hg1, G1⟩
      refine ⟨_, rfl, D.d, _, rfl, s1.get_dig, _, _, rfl, rfl, _, rfl, ?_⟩
      by_cases c : 0 < dig
      · rw [decide_eq_true c]
        refine iteT ⟨_, rfl, D.d, _, rfl, s1.get_dig, .inl ⟨_, rfl, _, rfl, _, _, rfl, rfl, hm0, ?_⟩⟩
        refine ⟨_, rfl, D.d, _, rfl, s1.get_dig, _, rfl, _, _, rfl, rfl, ⟨hm0, hm1⟩, _, rfl, D.d, _, rfl, s1.put_dig, _, rfl, ?_⟩
        refine k _ _ (Int.emod_nonneg _ (Int.ne_of_gt hm0)) (Int.emod_lt_of_pos _ hm0) (s1.gd G1) ⟨dig / many, tn, gs, ls, ?_, Int.ediv_nonneg hd1 (Int.le_of_lt hm0), ht0, by omega, hg1, hl0⟩
        exact s1.up (s1.gd G1).sub upd_same (by rw [upd_ne s1.dg.symm]; exact s1.hg) (by rw [upd_ne s1.dl.symm]; exact s1.hl)
      · rw [decide_eq_false c]
        refine iteF ?_
        -- the turn
        have G2 := s1.gd (o := .dK (drK D dig (tn + 1))) G1
        have s2 : DrS D dig (tn + 1) gs ls I (upd H1 D.d (.dK (drK D dig (tn + 1)))) := s1.up G2.sub upd_same (by rw [upd_ne s1.dg.symm]; exact s1.hg) (by rw [upd_ne s1.dl.symm]; exact s1.hl)
        refine ⟨_, rfl, D.d, _, rfl, s1.get_turn, _, _, rfl, rfl, _, s1.put_turn, ?_⟩
        refine ⟨_, rfl, D.d, _, rfl, s2.get_turn, ?_⟩
        -- a lump
        have ht1 : 0 ≤ tn + 1 := by omega
        refine ⟨fun σ H2 => ∃ (lump : Int), σ = [some (.ref D.d), some (.int many), none, some (.int (tn + 1)), some (.int lump), none] ∧ 0 ≤ lump ∧ DrS D dig (tn + 1) gs ls I H2 ∧ Grow (TD D) I H I H2, ?_, ?_⟩
        · refine ⟨_, rfl, D.d, _, rfl, s2.get_lumps, by decide, fun p hp => ⟨D.l, p, _, rfl, rfl, SqL.of (by rw [upd_ne (ne_of_none s2.hl hp)]; exact s2.hl), SqL.of upd_same, _, rfl, ?_⟩⟩
          have G3 : Grow (TD D) I H I (upd (upd H1 D.d (.dK (drK D dig (tn + 1)))) p (.lst [])) := G2.trans (Grow.mine G2.sub hp)
          have s3 : DrS D dig (tn + 1) gs ls I (upd (upd H1 D.d (.dK (drK D dig (tn + 1)))) p (.lst [])) := s2.put (fun t => s2.live p t hp) (G2.sub.free hp)
          cases ls with
          | nil => exact ⟨0, rfl, Int.le_refl 0, s3, G3⟩
          | cons l0 lr =>
            have hpos : (0 : Int) < ((List.map V.int (l0 :: lr)).length : Int) := by simp only [List.map_cons, List.length_cons]; omega
            have hi0 := Int.emod_nonneg (tn + 1) (Int.ne_of_gt hpos)
            have hi1 := Int.emod_lt_of_pos (tn + 1) hpos
            have hlt : ((tn + 1) % ((List.map V.int (l0 :: lr)).length : Int)).toNat < (l0 :: lr).length := by
              have e : (List.map V.int (l0 :: lr)).length = (l0 :: lr).length := List.length_map ..
              rw [e] at hi0 hi1 ⊢
              omega
            refine ⟨_, rfl, D.d, _, rfl, s3.get_lumps, _, rfl, .inl ⟨_, rfl, _, rfl, D.d, _, rfl, s3.get_lumps, D.l, _, rfl, .inl (SqL.of s3.hl), ?_⟩⟩
            refine ⟨_, _, rfl, rfl, hpos, D.l, _, _, .int ((l0 :: lr)[((tn + 1) % ((List.map V.int (l0 :: lr)).length : Int)).toNat]'hlt), rfl, rfl, SqL.of s3.hl, ?_, ?_⟩
            · have e : (tn + 1) % ((List.map V.int (l0 :: lr)).length : Int) = (((tn + 1) % ((List.map V.int (l0 :: lr)).length : Int)).toNat : Int) := (Int.toNat_of_nonneg hi0).symm
              refine at_of e ?_
              rw [List.getElem?_map, List.getElem?_eq_getElem hlt]
              rfl
            · exact ⟨_, rfl, hl0 _ (List.getElem_mem hlt), s3, G3⟩
        · rintro σ H2 ⟨lump, rfl, hlump, s3, G3⟩
          have hb : tn + 1 ≤ 1099511627776 := by
            have q : n < 1099511627776 := hn
            omega
          have m0 := Int.emod_nonneg lump (show (2147483629 : Int) ≠ 0 by decide)
          have m1 := Int.emod_lt_of_pos lump (show (0 : Int) < 2147483629 by decide)
          refine ⟨_, rfl, .inl ⟨_, rfl, _, _, rfl, rfl, (by show (0 : Int) < 2147483629; decide), _, rfl, _, _, rfl, rfl, .inl ⟨by decide, by decide⟩, ?_⟩⟩
          refine ⟨_, _, rfl, rfl, _, _, rfl, rfl, ⟨by decide, by decide, ?_⟩, .inl ⟨_, rfl, _, _, rfl, rfl, (by show (0 : Int) < 2147483647; decide), ?_⟩⟩
          · omega
          have q0 : (0 : Int) ≤ (lump % 2147483629 + 40009 * (tn + 1)) ^ (3 : Int).toNat % 2147483647 := Int.emod_nonneg _ (by decide)
          have q1 : (lump % 2147483629 + 40009 * (tn + 1)) ^ (3 : Int).toNat % 2147483647 < 2147483647 := Int.emod_lt_of_pos _ (by decide)
          revert q0 q1
          generalize (lump % 2147483629 + 40009 * (tn + 1)) ^ (3 : Int).toNat % 2147483647 = mixed
          intro q0 q1
          refine ⟨_, rfl, _, rfl, _, _, rfl, rfl, .inl ⟨by decide, by decide⟩, ?_⟩
          refine ⟨_, _, rfl, rfl, _, _, rfl, rfl, ⟨by decide, by decide, by omega⟩, .inl ⟨_, rfl, _, _, rfl, rfl, (by show (0 : Int) < 2147483629; decide), _, _, rfl, rfl, ⟨by decide, by decide⟩, .inl ⟨_, rfl, ?_⟩⟩⟩
          refine ⟨_, rfl, _, _, rfl, rfl, hm0, ?_⟩
          exact k _ _ (Int.emod_nonneg _ (Int.ne_of_gt hm0)) (Int.emod_lt_of_pos _ hm0) G3 ⟨dig, tn + 1, gs, ls, s3, hd1, ht1, by omega, hg1, hl0⟩

theorem getI0 {ns : List Int} {i : Nat} {v : V} (h : (ns.map V.int)[i]? = some v) : ∃ k, ns[i]? = some k ∧ v = .int k := by
  rw [List.getElem?_map] at h
  cases e : ns[i]? with
  | none => rw [e] at h; cases h
  | some k => rw [e] at h; exact ⟨k, rfl, (Option.some.inj h).symm⟩
/-- the source of draws of a script -/
def spBegun (K : PySem.W.Frag) : Sp := fun vs H Q _ => ∃ (I : Hp) (a : Addr) (ns : List Int), vs = [.ref a] ∧ Same I H ∧ SqL K I a (ns.map V.int) ∧ ns.length ≤ 63 ∧
  ∀ (D : DA) (I' H' : Hp), Grow No I H I' H' → Drw D 0 I' H' → Q (.ref D.d) H'
theorem abs_nn (i : Int) : 0 ≤ (if i < 0 then -i else i) := by split <;> omega
theorem ok_l_begun (T : Txt K mg) (F : FnAt K "_law_begun" "_law_begun" s_l_begun (He.ga K "_law_begun")) : Ok P w K mg base CX0 1 (He.ga K "_law_begun") ["_law_script"] (spBegun K) := by
  refine ok_of F sc_l_begun (fun _ _ _ _ _ _ us hl => match us, hl with | [_], _ => rfl) (fun vs H Q E h => ?_) (fun cdv A outer s H vs Q E hr h => ?_)
  · obtain ⟨_, _, _, rfl, _⟩ := h
    rfl
  · obtain ⟨I, a, ns, rfl, sb, hS, hl, k⟩ := h
    refine ⟨_, (pss_cons (ps_setLc (i := 1) (own := [("_law_lump", 2)]) (g := (gName 2)) rfl sc_l_begun.nd rfl rfl (sw_true rfl rfl rfl (by decide +kernel)) (pi_list (pv 0)) (blkOk_by (own := [("_law_lump", 2)]) (N := n_l_begun) (sc := defScope s_l_begun) (by decide +kernel)) (fun _ _ _ _ _ => (pg_name (i := 2) sc_l_begun.nd rfl (Or.inl rfl))) (fun _ _ _ _ _ => (pts_one (pt_cmpR op_ge (pe_callB call_abs (by rfl) T.b_abs (by decide +kernel) (pa_cons (pv 2) pa_nil)) (pe_op op_pow pe_int pe_int) (nomark _)))) (fun _ _ _ _ _ => (pe_op op_fdivW (pe_callB call_abs (by rfl) T.b_abs (by decide +kernel) (pa_cons (pv 2) pa_nil)) (pe_op op_pow pe_int pe_int))))
      (pss_one (ps_ret (pe_disp (pps_cons pe_str pe_int (pps_cons pe_str (pv 1) (pps_cons pe_str (pe_lc (own := [("_law_lump", 2)]) (g := (gName 2)) rfl sc_l_begun.nd (pi_list (pv 0)) (blkOk_by (own := [("_law_lump", 2)]) (N := n_l_begun) (sc := defScope s_l_begun) (by decide +kernel)) (fun _ _ _ _ _ => (pg_name (i := 2) sc_l_begun.nd rfl (Or.inl rfl))) (fun _ _ _ _ _ => pts_nil) (fun _ _ _ _ _ => (pe_op op_mod (pe_callTy call_int1 (by rfl) T.b_int (by decide +kernel) (pa_cons (pe_callB call_abs (by rfl) T.b_abs (by decide +kernel) (pa_cons (pv 2) pa_nil)) pa_nil)) (pe_op op_pow pe_int pe_int)))) (pps_cons pe_str pe_int pps_nil)))) (by rfl) (by rfl) (fun z => by cases z) (by decide))))), ?_⟩
    have hS1 : SqL K H a (ns.map V.int) := sb.seq hS
    refine ⟨_, rfl, a, rfl, ⟨_, hS1⟩, fun L hL => ?_⟩
    refine lc_gen (T := No) (I := I) (β := Int) (walk_list (K := K) (a := a) (xs := ns.map V.int)) (fun _ _ _ => True) (fun _ => Stable.triv) sb (fun _ z => z.elim) hL trivial (by rw [List.length_map]; omega) (fun i I' H' g _ => g.same.seq hS1)
      (fun _ o => ∀ y, o = some y → 0 ≤ y) ?_ ?_
    · rintro i x I' H' H'' hi g _ ⟨rfl, hx⟩ Kn Ky kn ky
      obtain ⟨z, hz, rfl⟩ := getI0 hx
      refine ⟨rfl, _, rfl, _, rfl, _, _, rfl, rfl, ⟨by decide, by decide, by decide⟩, _, _, rfl, rfl, _, rfl, ?_⟩
      refine ite2 (fun _ => ?_) (fun _ => kn (fun y e => nomatch e) I' H'' (Grow.refl g.sub) trivial)
      refine ⟨_, rfl, _, rfl, _, _, rfl, rfl, ⟨by decide, by decide, by decide⟩, _, _, rfl, rfl, ⟨by decide, by decide⟩, ?_⟩
      exact ky _ (fun y e => by cases e; exact Int.ediv_nonneg (abs_nn z) (by decide)) _ I' H'' (Grow.refl g.sub) trivial rfl
    · intro os I1 H1 vs' hlen hP g1 _ ow hp
      have hg : ∀ z ∈ os.filterMap id, (0 : Int) ≤ z := fun z hz => by
        obtain ⟨o, ho, e⟩ := List.mem_filterMap.mp hz
        obtain ⟨j, hj, e2⟩ := List.mem_iff_getElem.mp ho
        exact hP j o (by rw [List.getElem?_eq_getElem hj, e2]) z e
      have e1 := Paired.ints hp
      subst e1
      -- the dict, with the second list made within its display
      intro p hp1
      have G2 := g1.trans (Grow.mine (o := .dK []) g1.sub hp1)
      have ow2 := ow.grow (Grow.mine (T := No) (o := .dK []) g1.sub hp1)
      have op : Own No H p (.dK []) I1 (upd H1 p (.dK [])) := Own.new g1.sub (.inr g1.live) (fun _ z => z.elim) hp1
      have npL : p ≠ L := (ne_of_none ow.at_ hp1).symm
      refine ⟨_, rfl, _, rfl, a, rfl, ⟨_, G2.same.seq hS1⟩, fun M hM => ?_⟩
      refine lc_gen (T := No) (I := I1) (β := Int) (walk_list (K := K) (a := a) (xs := ns.map V.int)) (fun _ _ _ => True) (fun _ => Stable.triv) G2.sub (fun _ z => z.elim) hM trivial (by rw [List.length_map]; omega) (fun i I' H' g _ => g.same.seq (G2.same.seq hS1))
        (fun _ o => ∀ y, o = some y → 0 ≤ y) ?_ ?_
      · rintro i x I' H' H'' hi g _ ⟨rfl, hx⟩ Kn Ky kn ky
        obtain ⟨z, hz, rfl⟩ := getI0 hx
        refine ⟨rfl, lc_yes ?_⟩
        refine ⟨_, rfl, _, rfl, .inl ⟨_, rfl, _, _, rfl, rfl, ⟨by decide, by decide, by decide⟩, _, _, rfl, rfl, (by show (0 : Int) < 10 ^ Int.toNat 18; decide), ?_⟩⟩
        exact ky _ (fun y e => by cases e; exact Int.emod_nonneg _ (by decide)) _ I' H'' (Grow.refl g.sub) trivial rfl
      · intro os2 I2 H2 vs2 hlen2 hP2 g2 _ owM hp2
        have hl2 : ∀ z ∈ os2.filterMap id, (0 : Int) ≤ z := fun z hz => by
          obtain ⟨o, ho, e⟩ := List.mem_filterMap.mp hz
          obtain ⟨j, hj, e2⟩ := List.mem_iff_getElem.mp ho
          exact hP2 j o (by rw [List.getElem?_eq_getElem hj, e2]) z e
        have e2 := Paired.ints hp2
        subst e2
        have ow3 := ow2.grow g2
        have op3 := op.grow g2
        have nML : M ≠ L := (ne_of_none ow2.at_ hM).symm
        have nMp : M ≠ p := (ne_of_none op.at_ hM).symm
        refine ⟨op3.at_, [(.inr "digits", .int 0), (.inr "great", .ref L), (.inr "lumps", .ref M), (.inr "turn", .int 0)], rfl, (by show 4 ≤ 15; decide), ?_⟩
        have em : mergeK [] [((.inr "digits" : Key), V.int 0), ((.inr "great" : Key), V.ref L), ((.inr "lumps" : Key), V.ref M), ((.inr "turn" : Key), V.int 0)] = drK ⟨p, L, M⟩ 0 0 := merge_nodup (show ([(.inr "digits" : Key), .inr "great", .inr "lumps", .inr "turn"]).Nodup by decide +kernel)
        rw [em]
        have opg : Own No H p (.dK []) I2 H2 := op3
        have G4 : Grow No I H I2 (upd H2 p (.dK (drK ⟨p, L, M⟩ 0 0))) := (G2.trans g2).put opg
        refine k ⟨p, L, M⟩ I2 _ G4 ⟨0, 0, _, _, ⟨?_, ?_, ?_, ?_, npL, nMp.symm, nML.symm, upd_same, by rw [upd_ne npL.symm]; exact ow3.at_, by rw [upd_ne nMp]; exact owM.at_⟩, Int.le_refl 0, Int.le_refl 0, Int.le_refl 0, hg, hl2⟩
        · exact G4.sub
        · exact op3.ni
        · exact ow3.ni
        · exact owM.ni
end
end Nw

namespace Nw
open PySem PySem.Spec PyProof.Rows L2
/-! ### moments -/
inductive Mom where
  | first
  | num (t : Int)
  | last
  deriving DecidableEq
def Mom.v : Mom → V
  | .first => .str "first"
  | .num t => .int t
  | .last => .str "last"
theorem fl_ne : ¬ (("first" : Str) = "last") := by decide +kernel
theorem Mom.v_inj : ∀ {a b : Mom}, a.v = b.v → a = b
  | .first, .first, _ => rfl
  | .last, .last, _ => rfl
  | .num t, .num u, h => by rw [V.int.inj h]
  | .first, .last, h => absurd (V.str.inj h) fl_ne
  | .last, .first, h => absurd (V.str.inj h).symm fl_ne
  | .first, .num _, h => nomatch h
  | .last, .num _, h => nomatch h
  | .num _, .first, h => nomatch h
  | .num _, .last, h => nomatch h
theorem Mom.eqv (a b : Mom) : decide (a.v = b.v) = decide (a = b) := by
  by_cases h : a = b
  · subst h; rw [decide_eq_true rfl, decide_eq_true rfl]
  · rw [decide_eq_false h, decide_eq_false fun z => h (Mom.v_inj z)]
theorem Mom.scal (a b : Mom) : scal a.v b.v = true := by cases a <;> cases b <;> rfl
theorem Mom.flat (a : Mom) : flatV a.v = true := by cases a <;> rfl
def Mom.lt : Mom → Mom → Bool
  | .last, _ => false
  | _, .first => false
  | .first, _ => true
  | _, .last => true
  | .num a, .num b => decide (a < b)
def Mom.isNum : Mom → Bool
  | .num _ => true
  | _ => false
instance : Rep Mom := ⟨fun _ v m => v = m.v, fun _ h => h⟩
abbrev Rides : Type := List (Int × Int)
def endedL (rs : Rides) : Mom → Mom
  | .num t => match rs.filterMap (fun r => if r.1 ≥ t then some r.2 else none) with
    | [] => .last
    | e :: _ => .num e
  | m => m
def begunL (rs : Rides) : Mom → Mom
  | .num t => match (rs.filterMap (fun r => if r.2 ≤ t then some r.1 else none)).reverse with
    | [] => .first
    | b :: _ => .num b
  | m => m
def sp_is_number (K : PySem.W.Frag) : Sp := fun vs H Q _ => ∃ m : Mom, vs = [m.v] ∧ Q (.bl m.isNum) H
def sp_is_moment (K : PySem.W.Frag) : Sp := fun vs H Q _ => ∃ (I : Hp) (m : Mom), vs = [m.v] ∧ Same I H ∧ ∀ I' H', Grow No I H I' H' → Q (.bl true) H'
def sp_need_moment (K : PySem.W.Frag) : Sp := fun vs H Q _ => ∃ (I : Hp) (m : Mom), vs = [m.v] ∧ Same I H ∧ ∀ I' H', Grow No I H I' H' → Q .non H'
def sp_is_earlier (K : PySem.W.Frag) : Sp := fun vs H Q _ => ∃ a b : Mom, vs = [a.v, b.v] ∧ Q (.bl (a.lt b)) H
def sp_is_ride (K : PySem.W.Frag) : Sp := fun vs H Q _ => ∃ (I : Hp) (v : V) (r : Int × Int), vs = [v] ∧ Rep.is I v r ∧ Same I H ∧ Q (.bl (decide (r.1 ≤ r.2))) H
def sp_ended (K : PySem.W.Frag) : Sp := fun vs H Q _ => ∃ (I : Hp) (v : V) (rs : Rides) (m : Mom), vs = [v, m.v] ∧ isU I v rs ∧ rs.length ≤ 100000 ∧ Same I H ∧ ∀ I' H', Grow No I H I' H' → Q (endedL rs m).v H'
def sp_begun (K : PySem.W.Frag) : Sp := fun vs H Q _ => ∃ (I : Hp) (v : V) (rs : Rides) (m : Mom), vs = [v, m.v] ∧ isU I v rs ∧ rs.length ≤ 100000 ∧ Same I H ∧ ∀ I' H', Grow No I H I' H' → Q (begunL rs m).v H'
section
variable {P : Program} {w : World} {K : PySem.W.Frag} {mg : Str → Option Value} {base : Heap}
theorem ty_mom (H : Hp) : ∀ m : Mom, ∃ n, TyX K H m.v (.type n) ∧ (n = "str" ∧ m.isNum = false ∨ n = "int" ∧ m.isNum = true)
  | .first => ⟨_, .base (.str _), .inl ⟨rfl, rfl⟩⟩
  | .last => ⟨_, .base (.str _), .inl ⟨rfl, rfl⟩⟩
  | .num t => ⟨_, .base (.int _), .inr ⟨rfl, rfl⟩⟩
theorem ok_is_number (T : Txt K mg) (F : FnAt K "is_number" "is_number" s_is_number (He.ga K "is_number"))  : Ok P w K mg base CX0 1 (He.ga K "is_number") ["thing"] (sp_is_number K) := by
  refine ok_of F sc_is_number (fun _ _ _ _ _ _ us hl => match us, hl with | [_], _ => rfl) (fun vs H Q E h => ?_) (fun cdv A outer s H vs Q E hr h => ?_)
  · obtain ⟨_, rfl, _⟩ := h
    rfl
  · obtain ⟨m, rfl, k⟩ := h
    refine ⟨_, (pss_one (ps_ret (pe_and (pe_callB call_isi (by rfl) T.b_isinstance (by decide +kernel) (pa_cons (pv 0) (pa_cons (pe_bltn (v := .ty "int") rfl T.b_int (by decide +kernel) rfl) pa_nil))) (pe_one (pe_not (pe_callB call_isi (by rfl) T.b_isinstance (by decide +kernel) (pa_cons (pv 0) (pa_cons (pe_bltn (v := .ty "bool") rfl T.b_bool (by decide +kernel) rfl) pa_nil)))))))), ?_⟩
    obtain ⟨n, ty, ⟨rfl, e⟩ | ⟨rfl, e⟩⟩ := ty_mom (K := K) H m
    · rw [e] at k
      exact ⟨_, rfl, m.v, .ty "int", _, _, false, rfl, .ty _, ty, kit_ty (by decide +kernel), false, rfl, iteF k⟩
    · rw [e] at k
      exact ⟨_, rfl, m.v, .ty "int", _, _, true, rfl, .ty _, ty, kit_ty (by decide +kernel), true, rfl, iteT ⟨_, rfl, m.v, .ty "bool", _, _, false, rfl, .ty _, ty, kit_ty (by decide +kernel), false, rfl, k⟩⟩
theorem ok_is_ride (T : Txt K mg) (F : FnAt K "is_ride" "is_ride" s_is_ride (He.ga K "is_ride")) (G_is_number : Ok P w K mg base CX0 1 (He.ga K "is_number") ["thing"] (sp_is_number K)) : Ok P w K mg base CX0 2 (He.ga K "is_ride") ["thing"] (sp_is_ride K) := by
  refine ok_of F sc_is_ride (fun _ _ _ _ _ _ us hl => match us, hl with | [_], _ => rfl) (fun vs H Q E h => ?_) (fun cdv A outer s H vs Q E hr h => ?_)
  · obtain ⟨_, _, _, rfl, _⟩ := h
    rfl
  · obtain ⟨I, v, ⟨b, e⟩, rfl, ⟨a, v1, v2, rfl, ha, h1, h2⟩, sb, k⟩ := h
    cases h1
    cases h2
    refine ⟨_, (pss_cons (ps_if (PW.pt (pw_or (pt_not (pt_val (pe_callB call_isi (by rfl) T.b_isinstance (by decide +kernel) (pa_cons (pv 0) (pa_cons (pe_bltn (v := .ty "tuple") rfl T.b_tuple (by decide +kernel) rfl) pa_nil))))) (pw_or (pt_cmpR op_ne (pe_callB call_len_seq (by rfl) T.b_len (by decide +kernel) (pa_cons (pv 0) pa_nil)) pe_int (nomark _)) (pw_or (pt_not (pt_val (pe_callC G_is_number (hr.mono (by decide)) T.g_is_number (pa_cons (pe_ix ix_tup (pv 0) pe_int (fun _ _ => rfl)) pa_nil)))) (pw_or1 (pt_not (pt_val (pe_callC G_is_number (hr.mono (by decide)) T.g_is_number (pa_cons (pe_ix ix_tup (pv 0) pe_int (fun _ _ => rfl)) pa_nil))))))))) (pss_one (ps_ret pe_bl)) pss_nil)
      (pss_one (ps_ret (pe_cmpR op_le (pe_ix ix_tup (pv 0) pe_int (fun _ _ => rfl)) (pe_ix ix_tup (pv 0) pe_int (fun _ _ => rfl)) (nomark _))))), ?_⟩
    have hT : SqT K H a [.int b, .int e] := SqT.of (sb _ _ ha)
    refine ⟨_, rfl, .ref a, .ty "tuple", _, _, true, rfl, .ty _, .base (.tup (sb _ _ ha)), kit_ty (by decide +kernel), true, rfl, iteF ?_⟩
    refine ⟨_, rfl, a, _, rfl, .inr hT, rfl, _, rfl, iteF ?_⟩
    refine ⟨_, rfl, a, _, _, _, rfl, rfl, hT, rfl, .num b, rfl, true, rfl, iteF ?_⟩
    refine ⟨_, rfl, a, _, _, _, rfl, rfl, hT, rfl, .num e, rfl, true, rfl, iteF ?_⟩
    exact ⟨_, rfl, a, _, _, _, rfl, rfl, hT, rfl, _, rfl, a, _, _, _, rfl, rfl, hT, rfl, _, _, rfl, rfl, k⟩
end
end Nw

namespace Nw
open PySem PySem.Spec PyProof.Rows L2
theorem Paired.rev {α β : Type} {F : α → β → Prop} : ∀ {xs : List α} {ys : List β}, Paired F xs ys → Paired F xs.reverse ys.reverse
  | _, _, .nil => .nil
  | _, _, .cons a t => by
    rw [List.reverse_cons, List.reverse_cons]
    exact Nw.Paired.snoc (Paired.rev t) a
theorem Paired.last {α β : Type} {F : α → β → Prop} {xs : List α} {ys : List β} {y : β} (h : Paired F xs (ys ++ [y])) : ∃ x xr, xs = xr ++ [x] ∧ F x y := by
  have h2 := Paired.rev h
  rw [List.reverse_append] at h2
  cases e : xs.reverse with
  | nil => rw [e] at h2; cases h2
  | cons x r =>
    rw [e] at h2
    cases h2 with
    | cons h3 h4 => exact ⟨x, r.reverse, by rw [← List.reverse_reverse xs, e, List.reverse_cons], h3⟩
/-- the needed ones of some rides, ascending -/
structure IsNeeded (rs ns : Rides) : Prop where
  asc : ns.Pairwise fun a b => a.1 < b.1 ∧ a.2 < b.2
  sub : ∀ n ∈ ns, n ∈ rs
  cov : ∀ r ∈ rs, ∃ n ∈ ns, r.1 ≤ n.1 ∧ n.2 ≤ r.2
/-! a dict of numbers, as pairs -/
def kvI (p : Int × Int) : Key × V := (.inl p.1, .int p.2)
def lookM (m : Rides) (b : Int) : Option Int := (m.find? fun p => decide (p.1 = b)).map (·.2)
def putM (m : Rides) (b e : Int) : Rides := if (m.any fun p => decide (p.1 = b)) = true then m.map (fun p => if p.1 = b then (p.1, e) else p) else m ++ [(b, e)]
theorem valV_I (b : Int) : ∀ m : Rides, valV (m.map kvI) (.inl b) = (lookM m b).map V.int
  | [] => rfl
  | p :: r => by
    by_cases h : p.1 = b
    · have e1 : lookM (p :: r) b = some p.2 := by simp [lookM, h]
      rw [e1, List.map_cons]
      exact valV_pos (by show (Sum.inl p.1 : Key) = Sum.inl b; rw [h])
    · have e1 : lookM (p :: r) b = lookM r b := by simp [lookM, h]
      rw [e1, List.map_cons, ← valV_I b r]
      exact valV_neg (fun z => h (Sum.inl.inj z))
theorem putK_I (m : Rides) (b e : Int) : putK (m.map kvI) (.inl b) (.int e) = (putM m b e).map kvI := by
  unfold putK putM
  have e1 : ((m.map kvI).any fun kv => decide (kv.1 = Sum.inl b)) = (m.any fun p => decide (p.1 = b)) := by
    rw [List.any_map]
    congr 1
    funext p
    show decide ((Sum.inl p.1 : Key) = Sum.inl b) = decide (p.1 = b)
    by_cases h : p.1 = b
    · rw [h, decide_eq_true rfl, decide_eq_true rfl]
    · rw [decide_eq_false h, decide_eq_false fun z => h (Sum.inl.inj z)]
  rw [e1]
  split
  · rw [List.map_map, List.map_map]
    congr 1
    funext p
    show (if (Sum.inl p.1 : Key) = Sum.inl b then ((Sum.inl p.1 : Key), V.int e) else kvI p) = kvI (if p.1 = b then (p.1, e) else p)
    by_cases h : p.1 = b
    · rw [if_pos h, if_pos (by rw [h])]
      rfl
    · rw [if_neg h, if_neg fun z => h (Sum.inl.inj z)]
  · rw [List.map_append]
    rfl
theorem lookM_none {m : Rides} {b : Int} (h : lookM m b = none) : ∀ p ∈ m, p.1 ≠ b := by
  intro p hp z
  unfold lookM at h
  rw [Option.map_eq_none_iff, List.find?_eq_none] at h
  exact h p hp (decide_eq_true z)
theorem lookM_some {m : Rides} {b e : Int} (h : lookM m b = some e) : (b, e) ∈ m := by
  unfold lookM at h
  rw [Option.map_eq_some_iff] at h
  obtain ⟨p, h1, h2⟩ := h
  have h3 := List.mem_of_find?_eq_some h1
  have h4 : p.1 = b := by simpa using List.find?_some h1
  cases p
  simp only at h2 h4
  subst h2 h4
  exact h3
theorem mem_putM {m : Rides} {b e : Int} {p : Int × Int} : p ∈ putM m b e ↔ p = (b, e) ∨ (p ∈ m ∧ p.1 ≠ b) := by
  unfold putM
  split
  · rename_i h
    rw [List.any_eq_true] at h
    obtain ⟨q, hq, hb⟩ := h
    have hb := of_decide_eq_true hb
    rw [List.mem_map]
    constructor
    · rintro ⟨r, hr, rfl⟩
      by_cases c : r.1 = b
      · rw [if_pos c]
        left
        rw [← c]
      · rw [if_neg c]
        exact .inr ⟨hr, c⟩
    · rintro (rfl | ⟨hp, c⟩)
      · exact ⟨q, hq, by rw [if_pos hb, hb]⟩
      · exact ⟨p, hp, by rw [if_neg c]⟩
  · rename_i h
    have hn : ∀ q ∈ m, q.1 ≠ b := fun q hq z => h (List.any_eq_true.mpr ⟨q, hq, decide_eq_true z⟩)
    rw [List.mem_append, List.mem_singleton]
    constructor
    · rintro (z | z)
      · exact .inr ⟨z, hn p z⟩
      · exact .inl z
    · rintro (z | z)
      · exact .inr z
      · exact .inl z.1
theorem keys_putM {m : Rides} {b e : Int} (h : (m.map (·.1)).Nodup) : ((putM m b e).map (·.1)).Nodup := by
  unfold putM
  split
  · have e1 : (m.map fun p => if p.1 = b then (p.1, e) else p).map (·.1) = m.map (·.1) := by
      rw [List.map_map]
      congr 1
      funext p
      show (if p.1 = b then (p.1, e) else p).1 = p.1
      split <;> rfl
    rw [e1]
    exact h
  · rename_i c
    rw [List.map_append, List.map_singleton]
    refine List.nodup_append.mpr ⟨h, by simp, fun x hx y hy => ?_⟩
    rw [List.mem_singleton] at hy
    subst hy
    rintro rfl
    obtain ⟨p, hp, e1⟩ := List.mem_map.mp hx
    exact c (List.any_eq_true.mpr ⟨p, hp, decide_eq_true e1⟩)
theorem len_putM (m : Rides) (b e : Int) : (putM m b e).length ≤ m.length + 1 := by
  unfold putM
  split
  · rw [List.length_map]; omega
  · rw [List.length_append]; simp
def sp_needed (K : PySem.W.Frag) : Sp := fun vs H Q _ => ∃ (I : Hp) (t : Bool) (v : V) (rs : Rides), vs = [v] ∧ isS t I v rs ∧ rs.length ≤ 100000 ∧ Same I H ∧ ∀ ns v' I' H', Grow No I H I' H' → isU I' v' ns → IsNeeded rs ns → Q v' H'
def ndJ (I H : Hp) (a d q L : Addr) (m : Rides) (kr : List Int) (v3 : Option V) (i : Nat) (σ : L2.St) (H' : Hp) : Prop :=
  ∃ (I' : Hp) (fs : Rides) (ws : List V) (v2 : Option V), σ = [some (.ref a), some (.ref d), v2, v3, some (.ref L), none] ∧ Grow No I H I' H' ∧ Own No H d (.dK (m.map kvI)) I' H' ∧ Own No H q (.lst (kr.map V.int)) I' H' ∧ Own No H L (.lst ws) I' H' ∧ Paired (Rep.is I') ws fs ∧
    fs.length ≤ i ∧ (fs.Pairwise fun a b => b.1 < a.1 ∧ b.2 < a.2) ∧ (∀ n ∈ fs, n ∈ m ∧ n.1 ∈ kr.take i) ∧ (∀ b ∈ kr.take i, ∀ e, (b, e) ∈ m → ∃ n ∈ fs, b ≤ n.1 ∧ n.2 ≤ e)
theorem getI {ns : List Int} {i : Nat} {v : V} (h : (ns.map V.int)[i]? = some v) : ∃ k, ns[i]? = some k ∧ v = .int k := by
  rw [List.getElem?_map] at h
  cases e : ns[i]? with
  | none => rw [e] at h; cases h
  | some k => rw [e] at h; exact ⟨k, rfl, (Option.some.inj h).symm⟩
section
variable {P : Program} {w : World} {K : PySem.W.Frag} {mg : Str → Option Value} {base : Heap}
theorem ok_needed (T : Txt K mg) (F : FnAt K "needed" "needed" s_needed (He.ga K "needed"))  : Ok P w K mg base CX0 1 (He.ga K "needed") ["rides"] (sp_needed K) := by
  refine ok_of F sc_needed (fun _ _ _ _ _ _ us hl => match us, hl with | [_], _ => rfl) (fun vs H Q E h => ?_) (fun cdv A outer s H vs Q E hr h => ?_)
  · obtain ⟨_, _, _, _, rfl, _⟩ := h
    rfl
  · obtain ⟨I, tt, v, rs, rfl, ⟨a, vs, rfl, ha, hp⟩, hz, sb, k⟩ := h
    refine ⟨_, (pss_cons (ps_set (i := 1) sc_needed.nd rfl (Or.inl rfl) pe_dnewK)
      (pss_cons (ps_for PassesOwn.never rfl (pi_seq (pv 0)) (pg_tup (by rfl) (pgs_cons (pg_name (i := 2) sc_needed.nd rfl (Or.inl rfl)) (pgs_cons (pg_name (i := 3) sc_needed.nd rfl (Or.inl rfl)) pgs_nil))) (pss_one (ps_dput (hu_of hr) (pv 1) (pv 2) (pe_ifExp (PW.pt (pw_or (pt_cmp (pc_dnotin (hu_of hr) (pv 2) (pv 1))) (pw_or1 (pt_cmpR op_lt (pv 3) (pe_dget (hu_of hr) (pv 1) (pv 2) (fun _ _ => rfl)) (nomark _))))) (pv 3) (pe_dget (hu_of hr) (pv 1) (pv 2) (fun _ _ => rfl))) rfl)))
      (pss_cons (ps_set (i := 4) sc_needed.nd rfl (Or.inl rfl) (pe_lst pa_nil))
      (pss_cons (ps_for PassesOwn.never rfl (pi_list (pe_revL (pe_callB cr_sortedI (by rfl) T.b_sorted (by decide +kernel) (pa_cons (pe_lock (pe_lc (own := [("one", 5)]) (g := (gName 5)) rfl sc_needed.nd (pi_keys (pv 1)) (blkOk_by (own := [("one", 5)]) (N := n_needed) (sc := defScope s_needed) (by decide +kernel)) (fun _ _ _ _ _ => (pg_name (i := 5) sc_needed.nd rfl (Or.inl rfl))) (fun _ _ _ _ _ => pts_nil) (fun _ _ _ _ _ => (pe_callTy call_int1 (by rfl) T.b_int (by decide +kernel) (pa_cons (pv 5) pa_nil))))) pa_nil)))) (pg_name (i := 2) sc_needed.nd rfl (Or.inl rfl)) (pss_one (ps_if (PW.pt (pw_or (pt_cmpR (op_eqNil hr.units) (pv 4) (pe_lst pa_nil) (nomark _)) (pw_or1 (pt_cmpR op_lt (pe_dget (hu_of hr) (pv 1) (pv 2) (fun _ _ => rfl)) (pe_ix ix_tup (pe_ix ix_list (pv 4) (pe_un un_neg pe_int) (fun _ _ => rfl)) pe_int (fun _ _ => rfl)) (nomark _))))) (pss_one (ps_expr (pe_bm PySem.F.plainAttrs_list PySem.F.slot_list_append PySem.F.type_list_append mt_append (pv 4) (pa_cons (pe_tup (pa_cons (pv 2) (pa_cons (pe_dget (hu_of hr) (pv 1) (pv 2) (fun _ _ => rfl)) pa_nil))) pa_nil)))) pss_nil)))
      (pss_one (ps_ret (pe_callTy call_tuple_of (by rfl) T.b_tuple (by decide +kernel) (pa_cons (pe_revL (pv 4)) pa_nil)))))))), ?_⟩
    intro d hd
    refine ⟨_, rfl, a, tt, rfl, ⟨_, SqB.of (by rw [upd_ne (ne_of_none (sb _ _ ha) hd)]; exact sb _ _ ha)⟩, ?_⟩
    refine for_it walk_seq (fun i σ H' => ∃ (I' : Hp) (m : Rides) (v2 v3 : Option V), σ = [some (.ref a), some (.ref d), v2, v3, none, none] ∧ Grow No I H I' H' ∧ Own No H d (.dK (m.map kvI)) I' H' ∧ (m.map (·.1)).Nodup ∧ (∀ p ∈ m, p ∈ rs.take i) ∧ (∀ r ∈ rs.take i, ∃ e, (r.1, e) ∈ m ∧ e ≤ r.2) ∧ m.length ≤ i)
      ⟨I, [], none, none, rfl, Grow.mine sb hd, Own.new sb (.inl (Same.refl H)) (fun _ z => z.elim) hd, .nil, (fun p z => nomatch z), (fun r z => by simp at z), Nat.le_refl _⟩ (fun i σ H' _ ⟨I', _, _, _, _, g, _⟩ => SqB.of (g.same _ _ (sb _ _ ha))) ?_ ?_
    · rintro i x σ H2 H3 hi ⟨I', m, v2, v3, rfl, g, ow, nd, h1, h2, hl⟩ ⟨rfl, hx⟩
      obtain ⟨r, hr, b, w1, w2, rfl, hb, e1, e2⟩ := Nw.Paired.at' hp hx
      cases e1
      cases e2
      have hi2 : i < rs.length := by
        have := Nw.Paired.len hp
        omega
      refine ⟨b, _, rfl, SqT.of (g.same _ _ (sb _ _ hb)), rfl, _, _, rfl, _, _, rfl, rfl, ?_⟩
      -- the value
      have hget : DGet H3 d (.int r.1) ((lookM m r.1).map V.int) := by
        have z := DGet.k (k := .inl r.1) ow.at_
        rw [valV_I] at z
        exact z
      have fin : ∀ e, (e = r.2 ∨ (r.1, e) ∈ m) → e ≤ r.2 → (∀ e', (r.1, e') ∈ m → e ≤ e') →
          ∃ (a2 : Addr) (H4 : Hp), (V.ref d) = V.ref a2 ∧ DPut H3 a2 (.int r.1) (.int e) H4 ∧ ∃ (I' : Hp) (m : Rides) (v2 v3 : Option V), [some (V.ref a), some (V.ref d), some (V.int r.1), some (V.int r.2), none, none] = [some (.ref a), some (.ref d), v2, v3, none, none] ∧ Grow No I H I' H4 ∧ Own No H d (.dK (m.map kvI)) I' H4 ∧ (m.map (·.1)).Nodup ∧ (∀ p ∈ m, p ∈ rs.take (i + 1)) ∧ (∀ r ∈ rs.take (i + 1), ∃ e, (r.1, e) ∈ m ∧ e ≤ r.2) ∧ m.length ≤ i + 1 := by
        intro e he hle hmin
        have z := DPut.k (k := .inl r.1) (v := .int e) ow.at_ (by rw [List.length_map, sizeLine_eq]; omega)
        rw [putK_I] at z
        refine ⟨d, _, rfl, z, I', putM m r.1 e, _, _, rfl, g.put ow, ow.put, keys_putM nd, fun p hp' => ?_, fun q hq => ?_, Nat.le_trans (len_putM _ _ _) (by omega)⟩
        · rw [mem_take hr]
          rcases mem_putM.mp hp' with rfl | ⟨z, _⟩
          · rcases he with rfl | he
            · exact .inr rfl
            · exact .inl (h1 _ he)
          · exact .inl (h1 p z)
        · rcases (mem_take hr).mp hq with q1 | rfl
          · obtain ⟨e', he', hle'⟩ := h2 q q1
            by_cases c : q.1 = r.1
            · exact ⟨e, mem_putM.mpr (.inl (by rw [c])), by rw [c] at he'; exact Int.le_trans (hmin e' he') hle'⟩
            · exact ⟨e', mem_putM.mpr (.inr ⟨he', c⟩), hle'⟩
          · exact ⟨e, mem_putM.mpr (.inl rfl), hle⟩
      have uniq : ∀ e e', (r.1, e) ∈ m → (r.1, e') ∈ m → e = e' := fun e e' p1 p2 => by
        obtain ⟨i1, l1, q1⟩ := List.mem_iff_getElem.mp p1
        obtain ⟨i2, l2, q2⟩ := List.mem_iff_getElem.mp p2
        have key : (m.map (·.1))[i1]'(by simpa using l1) = (m.map (·.1))[i2]'(by simpa using l2) := by
          rw [List.getElem_map, List.getElem_map, q1, q2]
        have ei : i1 = i2 := (List.getElem_inj nd).mp key
        subst ei
        rw [q1] at q2
        exact (Prod.mk.inj q2).2
      cases hlk : lookM m r.1 with
      | none =>
        rw [hlk] at hget
        refine ⟨_, rfl, _, rfl, d, _, rfl, hget, true, rfl, ?_⟩
        refine iteT ?_
        refine iteT ?_
        exact ⟨_, rfl, _, rfl, _, rfl, fin r.2 (.inl rfl) (Int.le_refl _) fun e' he' => (lookM_none hlk (r.1, e') he' rfl).elim⟩
      | some e0 =>
        rw [hlk] at hget
        have hm0 := lookM_some hlk
        refine ⟨_, rfl, _, rfl, d, _, rfl, hget, false, rfl, ?_⟩
        refine iteF ?_
        refine ⟨_, rfl, _, rfl, _, rfl, d, _, rfl, hget, _, _, rfl, rfl, _, rfl, ?_⟩
        by_cases c : r.2 < e0
        · rw [decide_eq_true c]
          refine iteT ?_
          exact ⟨_, rfl, _, rfl, _, rfl, fin r.2 (.inl rfl) (Int.le_refl _) fun e' he' => by rw [uniq _ _ he' hm0]; omega⟩
        · rw [decide_eq_false c]
          refine iteF ?_
          exact ⟨_, rfl, _, rfl, d, _, rfl, hget, _, rfl, _, rfl, fin e0 (.inr hm0) (by omega) fun e' he' => by rw [uniq _ _ he' hm0]; exact Int.le_refl _⟩
    · rintro σ H2 ⟨I', m, v2, v3, rfl, g, ow, nd, h1, h2, hl⟩
      have et : rs.take vs.length = rs := by rw [Nw.Paired.len hp, List.take_length]
      rw [et] at h1 h2
      refine ⟨Nat.zero_le _, fun L hL => ?_⟩
      have gL := g.trans (Grow.mine (T := No) (o := .lst []) g.sub hL)
      have owL : Own No H L (.lst []) I' (upd H2 L (.lst [])) := Own.new g.sub (.inr g.live) (fun _ z => z.elim) hL
      have owd := ow.grow (Grow.mine (T := No) (o := .lst []) g.sub hL)
      have ndL : d ≠ L := ne_of_none ow.at_ hL
      -- sorted([int(one) for one in ends])[::-1]
      refine ⟨d, _, owd.at_, trivial, fun od => ?_⟩
      have gf := gL.put (o' := .frz od (.dK (m.map kvI))) owd
      have owf : Own No H d (.frz od (.dK (m.map kvI))) I' (upd (upd H2 L (.lst [])) d (.frz od (.dK (m.map kvI)))) := owd.put
      refine ⟨_, rfl, d, od, rfl, .inl ⟨_, upd_same, fun M hM => ?_⟩⟩
      refine lc_pure (β := Int) walk_keys m (fun p => some p.1) (by rw [List.length_map]) gf.sub hM (by rw [List.length_map]; have := Nw.Paired.len hp; omega) (fun I1 H1 g1 => g1.keep _ _ (fun z => z) upd_same) ?_ ?_
      · rintro j p x I1 H1 H3 hj g1 ⟨rfl, kk, vv, hkv, rfl⟩ Kn Ky kn ky
        have ek : kvI p = (kk, vv) := by
          rw [List.getElem?_map, hj] at hkv
          exact Option.some.inj hkv
        cases ek
        refine ⟨rfl, lc_yes ?_⟩
        exact ⟨_, rfl, .inl ⟨_, rfl, ky _ rfl _ I1 H3 (Grow.refl g1.sub) rfl⟩⟩
      · intro I1 H1 vs1 g1 owM hp1
        have e1 := Paired.ints hp1
        rw [fm_some] at e1
        subst e1
        have owf1 := owf.grow g1
        have gf1 := gf.trans g1
        have ndM : M ≠ d := (ne_of_none upd_same hM).symm
        refine ⟨owf1.at_, M, _, rfl, SqL.of (by rw [upd_ne ndM]; exact owM.at_), fun ks p perm rising hpn => ?_⟩
        -- the walk from the last one on
        have gs := (gf1.put (o' := .dK (m.map kvI)) owf1)
        have owd2 : Own No H d (.dK (m.map kvI)) I1 (upd H1 d (.dK (m.map kvI))) := owf1.put
        have owL2 : Own No H L (.lst []) I1 (upd H1 d (.dK (m.map kvI))) := ((owL.other ndL.symm).grow g1).other ndL.symm
        have gp := gs.trans (Grow.mine (T := No) (o := .lst (ks.map V.int)) gs.sub hpn)
        have owd3 := owd2.grow (Grow.mine (T := No) (o := .lst (ks.map V.int)) gs.sub hpn)
        have owL3 := owL2.grow (Grow.mine (T := No) (o := .lst (ks.map V.int)) gs.sub hpn)
        refine ⟨p, _, rfl, SqL.of upd_same, fun q hq => ?_⟩
        rw [show (ks.map V.int).reverse = ks.reverse.map V.int from (List.map_reverse ..).symm]
        have gq := gp.trans (Grow.mine (T := No) (o := .lst (ks.reverse.map V.int)) gp.sub hq)
        have owd4 := owd3.grow (Grow.mine (T := No) (o := .lst (ks.reverse.map V.int)) gp.sub hq)
        have owL4 := owL3.grow (Grow.mine (T := No) (o := .lst (ks.reverse.map V.int)) gp.sub hq)
        have owq : Own No H q (.lst (ks.reverse.map V.int)) I1 _ := Own.new gp.sub (.inr gp.live) (fun _ z => z.elim) hq
        have hks : ∀ j b, ks.reverse[j]? = some b → ∃ e, (b, e) ∈ m := fun j b hj => by
          have h3 : b ∈ ks := List.mem_reverse.mp (List.mem_of_getElem? hj)
          obtain ⟨p, hp, rfl⟩ := List.mem_map.mp (perm.mem_iff.mp h3)
          exact ⟨p.2, hp⟩
        have desc : ks.reverse.Pairwise (fun a b => b < a) := by
          rw [List.pairwise_reverse]
          have ndk : ks.Nodup := perm.nodup_iff.mpr nd
          exact (List.Pairwise.and rising ndk).imp fun z => by omega
        refine ⟨q, rfl, ⟨_, SqL.of upd_same⟩, ?_⟩
        have hlk : ∀ b e, (b, e) ∈ m → lookM m b = some e := fun b e he => by
          cases hl2 : lookM m b with
          | none => exact (lookM_none hl2 (b, e) he rfl).elim
          | some e0 =>
            have p2 := lookM_some hl2
            obtain ⟨i1, l1, q1⟩ := List.mem_iff_getElem.mp he
            obtain ⟨i2, l2, q2⟩ := List.mem_iff_getElem.mp p2
            have key : (m.map (·.1))[i1]'(by simpa using l1) = (m.map (·.1))[i2]'(by simpa using l2) := by
              rw [List.getElem_map, List.getElem_map, q1, q2]
            have ei : i1 = i2 := (List.getElem_inj nd).mp key
            subst ei
            rw [q1] at q2
            rw [(Prod.mk.inj q2).2]
        have nqL : q ≠ L := (ne_of_none owL3.at_ hq).symm
        refine for_it walk_list (ndJ I H a d q L m ks.reverse v3)
          ⟨I1, [], [], v2, rfl, gq, owd4, owq, owL4, .nil, Nat.le_refl _, .nil, (fun n z => nomatch z), fun b hb => by simp at hb⟩ (fun i σ H' _ ⟨I', _, _, _, _, g, _, oq, _⟩ => SqL.of oq.at_) ?_ ?_
        · rintro j x σ H3 H4 hj ⟨I', fs, ws, v2', rfl, g3, od3, oq3, oL3, hpr, hfl, hasc, hsub, hcov⟩ ⟨rfl, hx⟩
          obtain ⟨b, hb, rfl⟩ := getI hx
          obtain ⟨e, he⟩ := hks j b hb
          have hlb := hlk b e he
          have hget : DGet H4 d (.int b) (some (.int e)) := by
            have z := DGet.k (k := .inl b) od3.at_
            rw [valV_I, hlb] at z
            exact z
          have nLd : L ≠ d := ne_of oL3.at_ od3.at_ (by intro z; cases z)
          have hjl : j < ks.reverse.length := by
            obtain ⟨h, _⟩ := List.getElem?_eq_some_iff.mp hb
            exact h
          have hkl : ks.length = m.length := by rw [perm.length_eq, List.length_map]
          have hlt : ∀ c ∈ ks.reverse.take j, b < c := fun c hc => by
            obtain ⟨i, hi, ec⟩ := List.mem_iff_getElem.mp hc
            rw [List.getElem_take] at ec
            rw [List.length_take] at hi
            have eb : ks.reverse[j] = b := by
              have := List.getElem?_eq_getElem hjl
              rw [hb] at this
              exact (Option.some.inj this).symm
            have := (List.pairwise_iff_getElem.mp desc) i j (by omega) hjl (by omega)
            rw [ec, eb] at this
            exact this
          have hcase : fs = [] ∨ ∃ fr l, fs = fr ++ [l] := by
            cases fs.eq_nil_or_concat with
            | inl h => exact .inl h
            | inr h => exact .inr (let ⟨l, x, e⟩ := h; ⟨l, x, by simpa using e⟩)
          have app : (∀ n ∈ fs, e < n.2) → ∀ H5 : Hp, Grow No I' H4 I' H5 → ∀ t, H5 t = none → ndJ I H a d q L m ks.reverse v3 (j + 1) [some (.ref a), some (.ref d), some (.int b), v3, some (.ref L), none] (upd (upd H5 t (.tup [.int b, .int e])) L (.lst (ws ++ [.ref t]))) := by
            intro hlast H5 g5 t ht
            have gt := Grow.new (T := No) (o := .tup [.int b, .int e]) g5.sub ht
            have oL5 := (oL3.grow g5).grow gt
            refine ⟨upd I' t (.tup [.int b, .int e]), fs ++ [(b, e)], ws ++ [.ref t], _, rfl, ((g3.trans g5).trans gt).put oL5, ((od3.grow g5).grow gt).other nLd.symm, ((oq3.grow g5).grow gt).other nqL, oL5.put, Nw.Paired.snoc (Paired.mono' (fun _ _ z => Rep.mono gt.view z) hpr) ⟨t, _, _, rfl, upd_same, rfl, rfl⟩, by simp; omega, ?_, fun n hn => ?_, fun b2 hb2 e2 he2 => ?_⟩
            · rw [List.pairwise_append]
              refine ⟨hasc, by simp, fun x hx y hy => ?_⟩
              rw [List.mem_singleton] at hy
              subst hy
              exact ⟨hlt x.1 (hsub x hx).2, hlast x hx⟩
            · rcases List.mem_append.mp hn with z | z
              · exact ⟨(hsub n z).1, (mem_take hb).mpr (.inl (hsub n z).2)⟩
              · rw [List.mem_singleton] at z
                subst z
                exact ⟨he, (mem_take hb).mpr (.inr rfl)⟩
            · rcases (mem_take hb).mp hb2 with z | rfl
              · obtain ⟨n, hn, q1, q2⟩ := hcov b2 z e2 he2
                exact ⟨n, List.mem_append_left _ hn, q1, q2⟩
              · have h4 := hlk b2 e2 he2
                rw [hlb] at h4
                cases h4
                exact ⟨(b2, e), List.mem_append_right _ (by simp), Int.le_refl _, Int.le_refl _⟩
          refine ⟨_, rfl, Nat.zero_le _, fun p2 hp2 => ⟨L, p2, ws, rfl, rfl, SqL.of (by rw [upd_ne (ne_of_none oL3.at_ hp2)]; exact oL3.at_), SqL.of upd_same, _, rfl, ?_⟩⟩
          have g5 := Grow.mine (T := No) (o := .lst []) g3.sub hp2
          have oL5 := oL3.grow g5
          have od5 := od3.grow g5
          have hget5 : DGet (upd H4 p2 (.lst [])) d (.int b) (some (.int e)) := by
            have z := DGet.k (k := .inl b) od5.at_
            rw [valV_I, hlb] at z
            exact z
          rcases hcase with rfl | ⟨fr, l, rfl⟩
          · have ews : ws = [] := by cases hpr; rfl
            subst ews
            refine iteT ?_
            refine iteT ?_
            refine ⟨_, rfl, .inl ⟨rfl, _, SqL.of oL5.at_⟩, _, rfl, _, rfl, _, rfl, d, _, rfl, hget5, (by show 2 ≤ sizeLine; decide), fun t ht => ?_⟩
            refine ⟨L, _, _, rfl, rfl, by rw [upd_ne (ne_of_none oL5.at_ ht)]; exact oL5.at_, by decide, ?_⟩
            exact app (fun n z => nomatch z) _ g5 t ht
          · obtain ⟨w1, wr, ew, hwl⟩ : ∃ w1 wr, ws = wr ++ [w1] ∧ Rep.is I' w1 l := Paired.last hpr
            subst ew
            have eemp : (wr ++ [w1]).isEmpty = false := by simp
            rw [eemp]
            refine iteF ?_
            obtain ⟨la, l1, l2, rfl, hla, hl1, hl2⟩ := hwl
            cases hl1
            cases hl2
            refine ⟨_, rfl, _, rfl, d, _, rfl, hget5, _, rfl, _, rfl, L, _, _, _, rfl, rfl, SqL.of oL5.at_, atI_last _ _, la, _, 1, _, rfl, rfl, SqT.of (g5.sub _ _ (g5.view _ _ hla)), rfl, _, _, rfl, rfl, _, rfl, ?_⟩
            by_cases c : e < l.2
            · rw [decide_eq_true c]
              refine iteT ?_
              refine ⟨_, rfl, .inl ⟨rfl, _, SqL.of oL5.at_⟩, _, rfl, _, rfl, _, rfl, d, _, rfl, hget5, (by show 2 ≤ sizeLine; decide), fun t ht => ?_⟩
              refine ⟨L, _, _, rfl, rfl, by rw [upd_ne (ne_of_none oL5.at_ ht)]; exact oL5.at_, ?_, ?_⟩
              · have h5 := Nw.Paired.len hpr
                have h6 := Nw.Paired.len hp
                rw [h5, sizeLine_eq]
                rw [List.length_reverse] at hjl
                omega
              · refine app (fun n hn => ?_) _ g5 t ht
                rcases List.mem_append.mp hn with z | z
                · have := (List.pairwise_append.mp hasc).2.2 n z l (by simp)
                  omega
                · rw [List.mem_singleton] at z
                  rw [z]
                  exact c
            · rw [decide_eq_false c]
              refine iteF ?_
              refine ⟨I', fr ++ [l], _, _, rfl, g3.trans g5, od5, oq3.grow g5, oL5, hpr, by omega, hasc, fun n hn => ⟨(hsub n hn).1, (mem_take hb).mpr (.inl (hsub n hn).2)⟩, fun b2 hb2 e2 he2 => ?_⟩
              rcases (mem_take hb).mp hb2 with z | rfl
              · exact hcov b2 z e2 he2
              · have h4 := hlk b2 e2 he2
                rw [hlb] at h4
                cases h4
                exact ⟨l, by simp, Int.le_of_lt (hlt l.1 (hsub l (by simp)).2), by omega⟩
        · rintro σ H3 ⟨I', fs, ws, v2', rfl, g3, od3, oq3, oL3, hpr, hfl, hasc, hsub, hcov⟩
          refine ⟨_, rfl, L, _, rfl, SqL.of oL3.at_, fun p2 hp2 => ?_⟩
          refine ⟨p2, _, rfl, .inl ⟨SqL.of upd_same, fun l hl2 => ?_⟩⟩
          have g4 := g3.trans (Grow.mine (T := No) (o := .lst ws.reverse) g3.sub hp2)
          have g5 := g4.trans (Grow.new (T := No) (o := .tup ws.reverse) g4.sub hl2)
          rw [List.length_map, List.take_length] at hsub hcov
          refine k fs.reverse _ _ _ g5 ⟨l, ws.reverse, rfl, upd_same, Paired.mono' (fun _ _ z => Rep.mono (Same.up (g4.sub.free hl2)) z) (Paired.rev hpr)⟩ ⟨?_, fun n hn => ?_, fun r hr => ?_⟩
          · rw [List.pairwise_reverse]
            exact hasc
          · exact h1 n (hsub n (List.mem_reverse.mp hn)).1
          · obtain ⟨e, he, hle⟩ := h2 r hr
            have hb : r.1 ∈ ks.reverse := List.mem_reverse.mpr (perm.mem_iff.mpr (List.mem_map.mpr ⟨_, he, rfl⟩))
            obtain ⟨n, hn, q1, q2⟩ := hcov r.1 hb e he
            exact ⟨n, List.mem_reverse.mpr hn, q1, by omega⟩
end
end Nw

namespace Nw
open PySem PySem.Spec PyProof.Rows L2
/-! ### rows: what the program's functions do, as lists of signs -/
def stepsL : List Nat := [65, 66, 67, 68, 97, 98, 99, 100]
def isStep (c : Nat) : Bool := stepsL.contains c
def isRowL (l : List Nat) : Bool := decide (l.length ≤ 60) && l.all isStep
def low (c : Nat) : Bool := decide (97 ≤ c)
def cp (c : Nat) : Nat := if 97 ≤ c then c - 32 else c + 32
def turnedL (l : List Nat) : List Nat := l.reverse.map cp
theorem step_cases {c : Nat} (h : isStep c = true) : c = 65 ∨ c = 66 ∨ c = 67 ∨ c = 68 ∨ c = 97 ∨ c = 98 ∨ c = 99 ∨ c = 100 := by
  simpa [isStep, stepsL] using h
theorem cp_step {c : Nat} (h : isStep c = true) : isStep (cp c) = true := by
  rcases step_cases h with rfl | rfl | rfl | rfl | rfl | rfl | rfl | rfl <;> rfl
theorem cp_cp {c : Nat} (h : isStep c = true) : cp (cp c) = c := by
  rcases step_cases h with rfl | rfl | rfl | rfl | rfl | rfl | rfl | rfl <;> rfl
theorem turned_row {l : List Nat} (h : isRowL l = true) : isRowL (turnedL l) = true := by
  simp only [isRowL, Bool.and_eq_true, decide_eq_true_eq, List.all_eq_true] at h ⊢
  refine ⟨by simp [turnedL, h.1], fun c hc => ?_⟩
  obtain ⟨d, hd, rfl⟩ := List.mem_map.mp hc
  exact cp_step (h.2 d (List.mem_reverse.mp hd))
theorem row_steps {l : List Nat} (h : isRowL l = true) : l.length ≤ 60 ∧ ∀ c ∈ l, isStep c = true := by
  simpa [isRowL, Bool.and_eq_true, decide_eq_true_eq, List.all_eq_true] using h
theorem in_steps (c : Nat) : decide (c ∈ ("ABCDabcd" : Str).cps.toList) = isStep c := by
  have e : ("ABCDabcd" : Str).cps.toList = stepsL := by decide +kernel
  rw [e]
  unfold isStep
  rw [Bool.eq_iff_iff, decide_eq_true_iff, List.contains_iff_mem]
theorem links_list : ("abcd" : Str).cps.toList = [97, 98, 99, 100] := by decide +kernel
theorem in_links {c : Nat} (h : isStep c = true) : decide (c ∈ ("abcd" : Str).cps.toList) = low c := by
  rw [links_list]
  rcases step_cases h with rfl | rfl | rfl | rfl | rfl | rfl | rfl | rfl <;> rfl
def sp_is_row (K : PySem.W.Frag) : Sp := fun vs H Q _ => ∃ (I : Hp) (l : List Nat), vs = [.str (mk l)] ∧ l.length ≤ 16777216 ∧ Same I H ∧ ∀ I' H', Grow No I H I' H' → Q (.bl (isRowL l)) H'
def sp_need_row (K : PySem.W.Frag) : Sp := fun vs H Q _ => ∃ (I : Hp) (l : List Nat), vs = [.str (mk l)] ∧ isRowL l = true ∧ Same I H ∧ ∀ I' H', Grow No I H I' H' → Q .non H'
def sp_counterpart (K : PySem.W.Frag) : Sp := fun vs H Q _ => ∃ c : Nat, vs = [.str (sg c)] ∧ isStep c = true ∧ Q (.str (sg (cp c))) H
def sp_turned_row (K : PySem.W.Frag) : Sp := fun vs H Q _ => ∃ (I : Hp) (l : List Nat), vs = [.str (mk l)] ∧ isRowL l = true ∧ Same I H ∧ ∀ I' H', Grow No I H I' H' → Q (.str (mk (turnedL l))) H'
def sp_mirrored (K : PySem.W.Frag) : Sp := sp_turned_row K
section
variable {P : Program} {w : World} {K : PySem.W.Frag} {mg : Str → Option Value} {base : Heap}
theorem ok_is_row (T : Txt K mg) (F : FnAt K "is_row" "is_row" s_is_row (He.ga K "is_row"))  : Ok P w K mg base CX0 1 (He.ga K "is_row") ["thing"] (sp_is_row K) := by
  refine ok_of F sc_is_row (fun _ _ _ _ _ _ us hl => match us, hl with | [_], _ => rfl) (fun vs H Q E h => ?_) (fun cdv A outer s H vs Q E hr h => ?_)
  · obtain ⟨_, _, rfl, _⟩ := h
    rfl
  · obtain ⟨I, l, rfl, hz, sb, k⟩ := h
    refine ⟨_, (pss_one (ps_ret (pe_and (pe_callB call_isi (by rfl) T.b_isinstance (by decide +kernel) (pa_cons (pv 0) (pa_cons (pe_bltn (v := .ty "str") rfl T.b_str (by decide +kernel) rfl) pa_nil))) (pe_and (pe_cmpR op_le (pe_callB call_len_str (by rfl) T.b_len (by decide +kernel) (pa_cons (pv 0) pa_nil)) (pe_gint T.c_MOST_STEPS) (nomark _)) (pe_one (pe_callB (cr_all rfl) (by rfl) T.b_all (by decide +kernel) (pa_cons (pe_lc (own := [("step", 1)]) (g := (gName 1)) rfl sc_is_row.nd (pi_str (pv 0)) (blkOk_by (own := [("step", 1)]) (N := n_is_row) (sc := defScope s_is_row) (by decide +kernel)) (fun _ _ _ _ _ => (pg_name (i := 1) sc_is_row.nd rfl (Or.inl rfl))) (fun _ _ _ _ _ => pts_nil) (fun _ _ _ _ _ => (pe_cmpR op_in_sign (pv 1) (pe_gstr T.c_STEPS) rfl))) pa_nil))))))), ?_⟩
    refine ⟨_, rfl, .str (mk l), .ty "str", _, _, true, rfl, .ty _, .base (.str _), kit_ty (by decide +kernel), true, rfl, ?_⟩
    refine iteT ⟨_, rfl, mk l, rfl, by rw [mk_len, sizeLine_eq]; exact hz, _, _, rfl, rfl, _, rfl, ?_⟩
    refine ite2 (fun c => ?_) (fun c => ?_)
    · have c60 : l.length ≤ 60 := by
        have c1 := of_decide_eq_true c
        rw [mk_len] at c1
        omega
      refine ⟨_, rfl, _, rfl, fun L hL => ?_⟩
      refine lc_pure (β := Bool) (walk_str (z := mk l)) l (fun c => some (isStep c)) (by simp [mk]) sb hL (by show (mk l).length ≤ _; rw [mk_len]; exact hz) (fun _ _ _ => trivial) ?_ ?_
      · rintro i c' x I' H' H'' hc' g ⟨rfl, c, hc, rfl⟩ Kn Ky kn ky
        have ec : c = c' := by simpa [mk, hc'] using hc.symm
        subst ec
        refine ⟨rfl, lc_yes ?_⟩
        refine ⟨_, rfl, c, _, rfl, rfl, ?_⟩
        rw [in_steps]
        exact ky _ rfl _ I' H'' (Grow.refl g.sub) rfl
      · intro I1 H1 vs1 g1 ow hp
        have e2 := Paired.bls hp
        rw [fm_some] at e2
        subst e2
        refine ⟨L, _, rfl, SqL.of ow.at_, ?_⟩
        have e3 : (l.map isStep).all id = isRowL l := by
          unfold isRowL
          rw [decide_eq_true c60, Bool.true_and, List.all_map]
          rfl
        rw [e3]
        exact k I1 H1 g1
    · have c1 : isRowL l = false := by
        unfold isRowL
        rw [mk_len] at c
        rw [decide_eq_false (fun z => c (decide_eq_true (by omega))), Bool.false_and]
      rw [← c1]
      exact k I H (Grow.refl sb)
theorem ok_need_row (T : Txt K mg) (F : FnAt K "need_row" "need_row" s_need_row (He.ga K "need_row")) (G_is_row : Ok P w K mg base CX0 1 (He.ga K "is_row") ["thing"] (sp_is_row K)) : Ok P w K mg base CX0 2 (He.ga K "need_row") ["row"] (sp_need_row K) := by
  refine ok_of F sc_need_row (fun _ _ _ _ _ _ us hl => match us, hl with | [_], _ => rfl) (fun vs H Q E h => ?_) (fun cdv A outer s H vs Q E hr h => ?_)
  · obtain ⟨_, _, rfl, _⟩ := h
    rfl
  · obtain ⟨I, l, rfl, hl, sb, k⟩ := h
    refine ⟨_, (pss_one (ps_if (pt_not (pt_val (pe_callC G_is_row (hr.mono (by decide)) T.g_is_row (pa_cons (pv 0) pa_nil)))) (pss_one ps_never) pss_nil)), ?_⟩
    refine ⟨_, rfl, I, l, rfl, by have := (row_steps hl).1; omega, sb, fun I' H' g => ⟨_, rfl, ?_⟩⟩
    rw [hl]
    exact iteF (k I' H' g)
theorem ok_counterpart (T : Txt K mg) (F : FnAt K "counterpart" "counterpart" s_counterpart (He.ga K "counterpart"))  : Ok P w K mg base CX0 1 (He.ga K "counterpart") ["step"] (sp_counterpart K) := by
  refine ok_of F sc_counterpart (fun _ _ _ _ _ _ us hl => match us, hl with | [_], _ => rfl) (fun vs H Q E h => ?_) (fun cdv A outer s H vs Q E hr h => ?_)
  · obtain ⟨_, rfl, _⟩ := h
    rfl
  · obtain ⟨c, rfl, hc, k⟩ := h
    refine ⟨_, (pss_one (ps_ret (pe_ifExp (pt_cmpR op_in_sign (pv 0) (pe_gstr T.c_LINKS) rfl) (pe_upper (pv 0)) (pe_lower (pv 0))))), ?_⟩
    have h128 : c < 128 := by rcases step_cases hc with rfl | rfl | rfl | rfl | rfl | rfl | rfl | rfl <;> decide
    refine ⟨_, rfl, c, _, rfl, rfl, _, rfl, ?_⟩
    rw [in_links hc]
    by_cases h : 97 ≤ c
    · rw [show low c = true from decide_eq_true h]
      refine iteT ⟨_, rfl, ⟨_, rfl⟩, _, rfl, rfl, by show 1 ≤ 5592405; decide, ?_⟩
      rw [upper_sg h128]
      have e : up1 c = cp c := by unfold up1 cp; rw [if_pos h, if_pos ⟨h, by rcases step_cases hc with rfl | rfl | rfl | rfl | rfl | rfl | rfl | rfl <;> decide⟩]
      rw [e]
      exact k
    · rw [show low c = false from decide_eq_false h]
      refine iteF ⟨_, rfl, ⟨_, rfl⟩, _, rfl, rfl, by show 1 ≤ 5592405; decide, ?_⟩
      rw [lower_sg h128]
      have e : lo1 c = cp c := by
        unfold lo1 cp
        rw [if_neg h, if_pos]
        rcases step_cases hc with rfl | rfl | rfl | rfl | rfl | rfl | rfl | rfl <;> first | decide | exact absurd (by decide) h
      rw [e]
      exact k
theorem ok_turned_row (T : Txt K mg) (F : FnAt K "turned_row" "turned_row" s_turned_row (He.ga K "turned_row")) (G_counterpart : Ok P w K mg base CX0 1 (He.ga K "counterpart") ["step"] (sp_counterpart K)) : Ok P w K mg base CX0 2 (He.ga K "turned_row") ["row"] (sp_turned_row K) := by
  refine ok_of F sc_turned_row (fun _ _ _ _ _ _ us hl => match us, hl with | [_], _ => rfl) (fun vs H Q E h => ?_) (fun cdv A outer s H vs Q E hr h => ?_)
  · obtain ⟨_, _, rfl, _⟩ := h
    rfl
  · obtain ⟨I, l, rfl, hl, sb, k⟩ := h
    have hr2 := row_steps hl
    refine ⟨_, (pss_one (ps_ret (pe_join pe_str (pe_lc (own := [("step", 1)]) (g := (gName 1)) rfl sc_turned_row.nd (pi_str (pe_revS (pv 0))) (blkOk_by (own := [("step", 1)]) (N := n_turned_row) (sc := defScope s_turned_row) (by decide +kernel)) (fun _ _ _ _ _ => (pg_name (i := 1) sc_turned_row.nd rfl (Or.inl rfl))) (fun _ _ _ _ _ => pts_nil) (fun _ _ _ _ _ => (pe_callC G_counterpart (hr.mono (by decide)) T.g_counterpart (pa_cons (pv 1) pa_nil))))))), ?_⟩
    refine ⟨⟨_, rfl⟩, _, rfl, l, rfl, by omega, _, rfl, fun L hL => ?_⟩
    refine lc_pure (β := Str) (walk_str (z := mk l.reverse)) l.reverse (fun c => some (sg (cp c))) (by simp [mk]) sb hL (by show (mk l.reverse).length ≤ _; rw [mk_len, List.length_reverse]; omega) (fun _ _ _ => trivial) ?_ ?_
    · rintro i c' x I' H' H'' hc' g ⟨rfl, c, hc, rfl⟩ Kn Ky kn ky
      have ec : c = c' := by simpa [mk, hc'] using hc.symm
      subst ec
      refine ⟨rfl, lc_yes ?_⟩
      refine ⟨_, rfl, c, rfl, hr2.2 c (List.mem_reverse.mp (List.mem_of_getElem? hc')), ?_⟩
      exact ky _ rfl _ I' H'' (Grow.refl g.sub) rfl
    · intro I1 H1 vs1 g1 ow hp
      have e2 := Paired.strs hp
      rw [fm_some] at e2
      have e3 : l.reverse.map (fun c => sg (cp c)) = (turnedL l).map sg := by
        unfold turnedL
        rw [List.map_map]
        rfl
      rw [e3] at e2
      subst e2
      refine ⟨_, L, (turnedL l).map sg, rfl, rfl, .inl (SqL.of ow.at_), ?_, ?_⟩
      · have e4 : ((turnedL l).map sg).map (·.length) = (turnedL l).map (fun _ => 1) := by rw [List.map_map]; rfl
        rw [e4]
        have e5 : ((turnedL l).map (fun _ => 1)).sum = l.length := by
          rw [sum_ones]
          simp [turnedL]
        rw [e5]
        show l.length + ((turnedL l).map sg).length * 0 ≤ 16777216
        omega
      · rw [join_signs]
        exact k I1 H1 g1
theorem ok_mirrored (T : Txt K mg) (F : FnAt K "mirrored" "mirrored" s_mirrored (He.ga K "mirrored")) (G_need_row : Ok P w K mg base CX0 2 (He.ga K "need_row") ["row"] (sp_need_row K)) (G_turned_row : Ok P w K mg base CX0 2 (He.ga K "turned_row") ["row"] (sp_turned_row K)) : Ok P w K mg base CX0 3 (He.ga K "mirrored") ["row"] (sp_mirrored K) := by
  refine ok_of F sc_mirrored (fun _ _ _ _ _ _ us hl => match us, hl with | [_], _ => rfl) (fun vs H Q E h => ?_) (fun cdv A outer s H vs Q E hr h => ?_)
  · obtain ⟨_, _, rfl, _⟩ := h
    rfl
  · obtain ⟨I, l, rfl, hl, sb, k⟩ := h
    refine ⟨_, (pss_cons (ps_expr (pe_callC G_need_row (hr.mono (by decide)) T.g_need_row (pa_cons (pv 0) pa_nil)))
      (pss_one (ps_ret (pe_callC G_turned_row (hr.mono (by decide)) T.g_turned_row (pa_cons (pv 0) pa_nil))))), ?_⟩
    refine ⟨_, rfl, I, l, rfl, hl, sb, fun I1 H1 g1 => ?_⟩
    exact ⟨_, rfl, I1, l, rfl, hl, g1.sub, fun I2 H2 g2 => k I2 H2 (g1.trans g2)⟩
end
end Nw

namespace Nw
open PySem PySem.Spec PyProof.Rows L2
/-- the ends x, y, x of a stack (its top first) taken back to x, as long as there are some -/
def collapse : List Nat → List Nat
  | x :: y :: z :: r => if x = z ∧ y = cp x then collapse (z :: r) else x :: y :: z :: r
  | l => l
def pushC (st : List Nat) (c : Nat) : List Nat := collapse (c :: st)
def reducedL (l : List Nat) : List Nat := (l.foldl pushC []).reverse
theorem collapse_sub : ∀ l : List Nat, ∀ c ∈ collapse l, c ∈ l
  | x :: y :: z :: r, c, h => by
    unfold collapse at h
    split at h
    · exact List.mem_cons_of_mem _ (List.mem_cons_of_mem _ (collapse_sub (z :: r) c h))
    · exact h
  | [], c, h => by simpa [collapse] using h
  | [x], c, h => by simpa [collapse] using h
  | [x, y], c, h => by simpa [collapse] using h
theorem collapse_len : ∀ l : List Nat, (collapse l).length ≤ l.length
  | x :: y :: z :: r => by
    unfold collapse
    split
    · have := collapse_len (z :: r)
      simp only [List.length_cons] at this ⊢
      omega
    · exact Nat.le_refl _
  | [] => Nat.le_refl _
  | [x] => Nat.le_refl _
  | [x, y] => Nat.le_refl _
theorem push_len (l : List Nat) : ∀ st : List Nat, (l.foldl pushC st).length ≤ st.length + l.length := by
  induction l with
  | nil => intro st; exact Nat.le_refl _
  | cons c r ih =>
    intro st
    have h1 := ih (pushC st c)
    have h2 : (pushC st c).length ≤ (c :: st).length := collapse_len (c :: st)
    simp only [List.foldl_cons, List.length_cons] at h1 h2 ⊢
    omega
theorem push_sub (l : List Nat) : ∀ st : List Nat, ∀ c ∈ l.foldl pushC st, c ∈ st ∨ c ∈ l := by
  induction l with
  | nil => intro st c h; exact .inl h
  | cons d r ih =>
    intro st c h
    rcases ih (pushC st d) c h with z | z
    · have := collapse_sub (d :: st) c z
      rcases List.mem_cons.mp this with rfl | q
      · exact .inr (List.mem_cons_self ..)
      · exact .inl q
    · exact .inr (List.mem_cons_of_mem _ z)
def stV (st : List Nat) : List V := (st.map fun c => V.str (sg c)).reverse
theorem sg_inj {a b : Nat} (h : sg a = sg b) : a = b := mk_inj (a := [a]) (b := [b]) h |> List.cons.inj |>.1
theorem eq_sg {a b : Nat} : decide (V.str (sg a) = V.str (sg b)) = decide (a = b) := by
  by_cases h : a = b
  · subst h; rw [decide_eq_true rfl, decide_eq_true rfl]
  · rw [decide_eq_false h, decide_eq_false fun z => h (sg_inj (V.str.inj z))]
def sp_reduced (K : PySem.W.Frag) : Sp := fun vs H Q _ => ∃ (I : Hp) (l : List Nat), vs = [.str (mk l)] ∧ isRowL l = true ∧ Same I H ∧ ∀ I' H', Grow No I H I' H' → Q (.str (mk (reducedL l))) H'
section
variable {P : Program} {w : World} {K : PySem.W.Frag} {mg : Str → Option Value} {base : Heap}
theorem ok_reduced (T : Txt K mg) (F : FnAt K "reduced" "reduced" s_reduced (He.ga K "reduced")) (G_need_row : Ok P w K mg base CX0 2 (He.ga K "need_row") ["row"] (sp_need_row K)) (G_counterpart : Ok P w K mg base CX0 1 (He.ga K "counterpart") ["step"] (sp_counterpart K)) : Ok P w K mg base CX0 3 (He.ga K "reduced") ["row"] (sp_reduced K) := by
  refine ok_of F sc_reduced (fun _ _ _ _ _ _ us hl => match us, hl with | [_], _ => rfl) (fun vs H Q E h => ?_) (fun cdv A outer s H vs Q E hr h => ?_)
  · obtain ⟨_, _, rfl, _⟩ := h
    rfl
  · obtain ⟨I, l, rfl, hl, sb, k⟩ := h
    have hr2 := row_steps hl
    refine ⟨_, (pss_cons (ps_expr (pe_callC G_need_row (hr.mono (by decide)) T.g_need_row (pa_cons (pv 0) pa_nil)))
      (pss_cons (ps_set (i := 1) sc_reduced.nd rfl (Or.inl rfl) (pe_lst pa_nil))
      (pss_cons (ps_for PassesOwn.never rfl (pi_str (pv 0)) (pg_name (i := 2) sc_reduced.nd rfl (Or.inl rfl)) (pss_cons (ps_expr (pe_bm PySem.F.plainAttrs_list PySem.F.slot_list_append PySem.F.type_list_append mt_append (pv 1) (pa_cons (pv 2) pa_nil)))
      (pss_one (ps_while PassesOwn.never (PW.pt (pw_and (pt_cmpR op_gt (pe_callB call_len_seq (by rfl) T.b_len (by decide +kernel) (pa_cons (pv 1) pa_nil)) pe_int (nomark _)) (pw_and (pt_cmpR op_eq (pe_ix ix_list (pv 1) (pe_un un_neg pe_int) (fun _ _ => rfl)) (pe_ix ix_list (pv 1) (pe_un un_neg pe_int) (fun _ _ => rfl)) (nomark _)) (pw_and1 (pt_cmpR op_eq (pe_ix ix_list (pv 1) (pe_un un_neg pe_int) (fun _ _ => rfl)) (pe_callC G_counterpart (hr.mono (by decide)) T.g_counterpart (pa_cons (pe_ix ix_list (pv 1) (pe_un un_neg pe_int) (fun _ _ => rfl)) pa_nil)) (nomark _)))))) (pss_one (ps_set (i := 1) sc_reduced.nd rfl (Or.inl rfl) (pe_slice sl_list (pv 1) po_none (po_some (pe_un un_neg pe_int)))))))))
      (pss_one (ps_ret (pe_join pe_str (pv 1))))))), ?_⟩
    refine ⟨_, rfl, I, l, rfl, hl, sb, fun I1 H1 g1 => ?_⟩
    refine ⟨Nat.zero_le _, fun p0 hp0 => ?_⟩
    refine ⟨_, rfl, _, rfl, ?_⟩
    refine for_it (walk_str (z := mk l)) (fun i σ H' => ∃ (I' : Hp) (p : Addr) (v : Option V), σ = [some (.str (mk l)), some (.ref p), v] ∧ Grow No I H I' H' ∧ Own No H p (.lst (stV ((l.take i).foldl pushC []))) I' H')
      ⟨I1, p0, none, rfl, g1.trans (Grow.mine g1.sub hp0), Own.new g1.sub (.inr g1.live) (fun _ z => z.elim) hp0⟩ (fun _ _ _ _ _ => trivial) ?_ ?_
    · rintro i x σ H2 H3 hi ⟨I', p, v, rfl, g, ow⟩ ⟨rfl, c, hc, rfl⟩
      have hc' : l[i]? = some c := by simpa [mk] using hc
      have hcs : isStep c = true := hr2.2 c (List.mem_of_getElem? hc')
      have hst : ∀ d ∈ (l.take i).foldl pushC [], isStep d = true := fun d hd => by
        rcases push_sub (l.take i) [] d hd with z | z
        · cases z
        · exact hr2.2 d (List.mem_of_mem_take z)
      have hil : i < l.length := by
        obtain ⟨h, _⟩ := List.getElem?_eq_some_iff.mp hc'
        exact h
      have hlen : ((l.take i).foldl pushC []).length ≤ i := by
        have := push_len (l.take i) []
        simp only [List.length_nil, List.length_take] at this
        omega
      have ef : (l.take (i + 1)).foldl pushC [] = pushC ((l.take i).foldl pushC []) c := take_fold hc'
      rw [ef]
      revert hst hlen ow
      generalize (l.take i).foldl pushC [] = st
      intro ow hst hlen
      refine ⟨_, rfl, .inl ⟨rfl, _, SqL.of ow.at_⟩, _, rfl, p, _, _, rfl, rfl, ow.at_, by rw [sizeLine_eq]; simp [stV]; omega, ?_⟩
      -- the while, by the stack's length
      refine ⟨fun m σ H' => ∃ (I' : Hp) (p : Addr) (st2 : List Nat), m = st2.length ∧ σ = [some (.str (mk l)), some (.ref p), some (.str (sg c))] ∧ Grow No I H I' H' ∧ Own No H p (.lst (stV st2)) I' H' ∧ (∀ d ∈ st2, isStep d = true) ∧ collapse st2 = collapse (c :: st) ∧ st2.length ≤ 100,
        ⟨_, I', p, c :: st, rfl, rfl, g.put ow, ?_, ?_, rfl, by simp; omega⟩, ?_⟩
      · have e : stV (c :: st) = stV st ++ [V.str (sg c)] := by simp [stV]
        rw [e]
        exact ow.put
      · intro d hd
        rcases List.mem_cons.mp hd with rfl | z
        · exact hcs
        · exact hst d z
      · rintro m σ H4 ⟨I4, p4, st4, rfl, rfl, g4, ow4, hst4, ec4, hl4⟩
        refine ⟨_, rfl, p4, _, rfl, .inl (SqL.of ow4.at_), _, _, rfl, rfl, _, rfl, ?_⟩
        have eln : (stV st4).length = st4.length := by simp [stV]
        rw [eln]
        -- what is left when the test fails
        have stop : collapse st4 = st4 → ∃ (I' : Hp) (p : Addr) (v : Option V), [some (V.str (mk l)), some (V.ref p4), some (V.str (sg c))] = [some (V.str (mk l)), some (V.ref p), v] ∧ Grow No I H I' H4 ∧ Own No H p (.lst (stV (pushC st c))) I' H4 := fun e =>
          ⟨I4, p4, _, rfl, g4, by rw [show pushC st c = st4 from (ec4.symm.trans e)]; exact ow4⟩
        match st4, hst4, ow4, ec4, hl4, stop with
        | [], _, _, _, _, stop => exact iteF (stop rfl)
        | [x], _, _, _, _, stop => exact iteF (stop rfl)
        | [x, y], _, _, _, _, stop => exact iteF (stop rfl)
        | x :: y :: z :: r, hst4, ow4, ec4, hl4, stop =>
          have h2 : decide ((2 : Int) < ((x :: y :: z :: r).length : Int)) = true := decide_eq_true (by simp only [List.length_cons]; omega)
          rw [h2]
          have a1 : atI (stV (x :: y :: z :: r)) (-1) = some (V.str (sg x)) := atI_rev _ 0 _ (by decide)
          have a2 : atI (stV (x :: y :: z :: r)) (-2) = some (V.str (sg y)) := atI_rev _ 1 _ (by decide)
          have a3 : atI (stV (x :: y :: z :: r)) (-3) = some (V.str (sg z)) := atI_rev _ 2 _ (by decide)
          refine iteT ⟨_, rfl, _, rfl, p4, _, _, _, rfl, rfl, SqL.of ow4.at_, a1, _, rfl, _, rfl, p4, _, _, _, rfl, rfl, SqL.of ow4.at_, a3, rfl, _, rfl, ?_⟩
          rw [eq_sg]
          have ecl : ¬ (x = z ∧ y = cp x) → collapse (x :: y :: z :: r) = x :: y :: z :: r := fun h => by
            rw [collapse, if_neg h]
          by_cases hxz : x = z
          · rw [decide_eq_true hxz]
            refine iteT ⟨_, rfl, _, rfl, p4, _, _, _, rfl, rfl, SqL.of ow4.at_, a2, _, rfl, _, rfl, p4, _, _, _, rfl, rfl, SqL.of ow4.at_, a1, x, rfl, hst4 x (List.mem_cons_self ..), rfl, _, rfl, ?_⟩
            rw [eq_sg]
            by_cases hyx : y = cp x
            · rw [decide_eq_true hyx]
              refine iteT ?_
              refine ⟨fun σ' H' => ∃ (I' : Hp) (p : Addr), σ' = [some (.str (mk l)), some (.ref p), some (.str (sg c))] ∧ Grow No I H I' H' ∧ Own No H p (.lst (stV (z :: r))) I' H', fun σ' H' ⟨I', p, e, g', ow'⟩ => ⟨(z :: r).length, by simp only [List.length_cons]; omega, I', p, z :: r, rfl, e, g', ow', fun d hd => hst4 d (List.mem_cons_of_mem _ (List.mem_cons_of_mem _ hd)), ?_, by simp only [List.length_cons] at hl4 ⊢; omega⟩, ?_⟩
              · rw [← ec4, collapse, if_pos ⟨hxz, hyx⟩]
              · refine ⟨_, rfl, _, rfl, _, rfl, p4, _, rfl, SqL.of ow4.at_, fun q hq => ?_⟩
                have ecut : cutV (stV (x :: y :: z :: r)) none (some (-2)) = stV (z :: r) := cut_rev2 _ (by simp)
                rw [ecut]
                exact ⟨I4, q, rfl, g4.trans (Grow.mine g4.sub hq), Own.new g4.sub (.inr g4.live) (fun _ z => z.elim) hq⟩
            · rw [decide_eq_false hyx]
              exact iteF (stop (ecl fun z => hyx z.2))
          · rw [decide_eq_false hxz]
            exact iteF (stop (ecl fun z => hxz z.1))
    · rintro σ H2 ⟨I', p, v, rfl, g, ow⟩
      have e : l.take (mk l).cps.size = l := by simp [mk]
      rw [e] at ow
      have es : stV (l.foldl pushC []) = ((reducedL l).map sg).map V.str := by
        unfold stV reducedL
        rw [List.map_map, List.map_reverse]
        rfl
      rw [es] at ow
      have hlen := push_len l []
      refine ⟨⟨_, rfl⟩, _, rfl, _, p, (reducedL l).map sg, rfl, rfl, .inl (SqL.of ow.at_), ?_, ?_⟩
      · have e4 : ((reducedL l).map sg).map (·.length) = (reducedL l).map (fun _ => 1) := by rw [List.map_map]; rfl
        rw [e4, sum_ones]
        show (reducedL l).length + ((reducedL l).map sg).length * 0 ≤ 16777216
        unfold reducedL
        rw [List.length_reverse]
        simp only [List.length_nil] at hlen
        omega
      · rw [join_signs]
        exact k I' H2 g
end
end Nw

namespace Nw
open PySem PySem.Spec PyProof.Rows L2
/-! ### links and timetables as objects -/
def isLink (K : PySem.W.Frag) (I : Hp) (v : V) (ns : Rides) : Prop := ∃ a dx t, v = .ref a ∧ I a = some (.ins (He.ga K "Link") dx [("own_rides", t)]) ∧ isU I t ns
theorem isU.up {α : Type} [Rep α] {I I' : Hp} {v : V} {xs : List α} (h : isU I v xs) (e : Same I I') : isU I' v xs :=
  let ⟨a, vs, h1, h2, h3⟩ := h
  ⟨a, vs, h1, e _ _ h2, Paired.mono' (fun _ _ z => Rep.mono e z) h3⟩
theorem isL.up {α : Type} [Rep α] {I I' : Hp} {v : V} {xs : List α} (h : isL I v xs) (e : Same I I') : isL I' v xs :=
  let ⟨a, vs, h1, h2, h3⟩ := h
  ⟨a, vs, h1, e _ _ h2, Paired.mono' (fun _ _ z => Rep.mono e z) h3⟩
theorem isLink.up {K : PySem.W.Frag} {I I' : Hp} {v : V} {ns : Rides} (h : isLink K I v ns) (e : Same I I') : isLink K I' v ns :=
  let ⟨a, dx, t, h1, h2, h3⟩ := h
  ⟨a, dx, t, h1, e _ _ h2, h3.up e⟩
def kvS (p : Nat × V) : Key × V := (.inr (sg p.1), p.2)
def linksP (K : PySem.W.Frag) (I : Hp) (kvs : List (Nat × V)) (tb : List (Nat × Rides)) : Prop := Paired (fun (p : Nat × V) (q : Nat × Rides) => p.1 = q.1 ∧ isLink K I p.2 q.2) kvs tb
theorem linksP.up {K : PySem.W.Frag} {I I' : Hp} {kvs : List (Nat × V)} {tb : List (Nat × Rides)} (h : linksP K I kvs tb) (e : Same I I') : linksP K I' kvs tb := Paired.mono' (fun _ _ z => ⟨z.1, z.2.up e⟩) h
def isTable (K : PySem.W.Frag) (I : Hp) (v : V) (tb : List (Nat × Rides)) : Prop :=
  ∃ a dx d kvs, v = .ref a ∧ I a = some (.ins (He.ga K "Timetable") dx [("own_links", .ref d)]) ∧ I d = some (.dK (kvs.map kvS)) ∧ linksP K I kvs tb
theorem isTable.up {K : PySem.W.Frag} {I I' : Hp} {v : V} {tb : List (Nat × Rides)} (h : isTable K I v tb) (e : Same I I') : isTable K I' v tb :=
  let ⟨a, dx, d, kvs, h1, h2, h3, h4⟩ := h
  ⟨a, dx, d, kvs, h1, e _ _ h2, e _ _ h3, h4.up e⟩
def lookT {α : Type} (tb : List (Nat × α)) (c : Nat) : Option α := (tb.find? fun p => decide (p.1 = c)).map (·.2)
theorem valV_S (c : Nat) : ∀ kvs : List (Nat × V), valV (kvs.map kvS) (.inr (sg c)) = lookT kvs c
  | [] => rfl
  | p :: r => by
    by_cases h : p.1 = c
    · have e1 : lookT (p :: r) c = some p.2 := by simp [lookT, h]
      rw [e1, List.map_cons]
      exact valV_pos (by show (Sum.inr (sg p.1) : Key) = Sum.inr (sg c); rw [h])
    · have e1 : lookT (p :: r) c = lookT r c := by simp [lookT, h]
      rw [e1, List.map_cons, ← valV_S c r]
      exact valV_neg (fun z => h (mk_inj (a := [p.1]) (b := [c]) (Sum.inr.inj z) |> List.cons.inj |>.1))
theorem look_link {K : PySem.W.Frag} {I : Hp} {c : Nat} : ∀ {kvs : List (Nat × V)} {tb : List (Nat × Rides)}, linksP K I kvs tb → (lookT kvs c = none ∧ lookT tb c = none) ∨ ∃ v ns, lookT kvs c = some v ∧ lookT tb c = some ns ∧ isLink K I v ns
  | _, _, .nil => .inl ⟨rfl, rfl⟩
  | p :: r, q :: t, .cons h hp => by
    by_cases e : q.1 = c
    · exact .inr ⟨p.2, q.2, by simp [lookT, h.1, e], by simp [lookT, e], h.2⟩
    · have e1 : lookT (p :: r) c = lookT r c := by simp [lookT, h.1, e]
      have e2 : lookT (q :: t) c = lookT t c := by simp [lookT, e]
      rw [e1, e2]
      exact look_link hp
/-- a step by a link -/
def stepL (tb : List (Nat × Rides)) (m : Mom) (c : Nat) : Mom := if low c then endedL ((lookT tb c).getD []) m else begunL ((lookT tb (c + 32)).getD []) m
def ledL (tb : List (Nat × Rides)) (l : List Nat) (m : Mom) : Mom := l.foldl (stepL tb) m
def lowC (c : Nat) : Nat := if low c then c else c + 32
theorem lower_step {c : Nat} (h : isStep c = true) : Txt.lower (sg c) = sg (lowC c) := by
  rcases step_cases h with rfl | rfl | rfl | rfl | rfl | rfl | rfl | rfl <;> (rw [lower_sg (by decide)]; rfl)
theorem stepL_low {tb : List (Nat × Rides)} {m : Mom} {c : Nat} (h : isStep c = true) : stepL tb m c = if low c then endedL ((lookT tb (lowC c)).getD []) m else begunL ((lookT tb (lowC c)).getD []) m := by
  unfold stepL lowC
  split
  · rfl
  · rfl
def hasLinks (tb : List (Nat × Rides)) (l : List Nat) : Prop := ∀ c ∈ l, isStep c = true ∧ (lookT tb (lowC c)).isSome = true
def small (tb : List (Nat × Rides)) : Prop := ∀ p ∈ tb, p.2.length ≤ 100000
theorem small_look {tb : List (Nat × Rides)} (h : small tb) {c : Nat} {ns : Rides} (e : lookT tb c = some ns) : ns.length ≤ 100000 := by
  unfold lookT at e
  rw [Option.map_eq_some_iff] at e
  obtain ⟨p, h1, h2⟩ := e
  rw [← h2]
  exact h p (List.mem_of_find?_eq_some h1)
/-- an object that is being made -/
def TX (x : Addr) : Addr → Prop := fun b => b = x
def sp_Link__init (K : PySem.W.Frag) : Sp := fun vs H Q _ => ∃ (I : Hp) (t : Bool) (x dx : Addr) (v : V) (rs : Rides), vs = [.ref x, v] ∧ H x = some (.ins (He.ga K "Link") dx []) ∧ I x = none ∧ isS t I v rs ∧ rs.length ≤ 60 ∧ (∀ r ∈ rs, r.1 ≤ r.2) ∧ Same I H ∧
  ∀ ns t I' H', Grow (TX x) I H I' H' → H' x = some (.ins (He.ga K "Link") dx [("own_rides", t)]) → isU I' t ns → IsNeeded rs ns → Q .non H'
def sp_Timetable_need_links (K : PySem.W.Frag) : Sp := fun vs H Q _ => ∃ (I : Hp) (v : V) (tb : List (Nat × Rides)) (l : List Nat), vs = [v, .str (mk l)] ∧ isTable K I v tb ∧ hasLinks tb l ∧ l.length ≤ 60 ∧ Same I H ∧ Q .non H
def sp_Timetable_led (K : PySem.W.Frag) : Sp := fun vs H Q _ => ∃ (I : Hp) (v : V) (tb : List (Nat × Rides)) (l : List Nat) (m : Mom), vs = [v, .str (mk l), m.v] ∧ isTable K I v tb ∧ small tb ∧ hasLinks tb l ∧ l.length ≤ 60 ∧ Same I H ∧ ∀ I' H', Grow No I H I' H' → Q (ledL tb l m).v H'
def sp_Timetable_go (K : PySem.W.Frag) : Sp := sp_Timetable_led K
section
variable {P : Program} {w : World} {K : PySem.W.Frag} {mg : Str → Option Value} {base : Heap}
theorem ok_Link__init (T : Txt K mg) (F : FnAt K "__init__" "Link.__init__" s_Link__init (He.ma K (He.ga K "Link") "__init__")) (G_is_ride : Ok P w K mg base CX0 2 (He.ga K "is_ride") ["thing"] (sp_is_ride K)) (G_needed : Ok P w K mg base CX0 1 (He.ga K "needed") ["rides"] (sp_needed K)) : Ok P w K mg base CX0 3 (He.ma K (He.ga K "Link") "__init__") ["self", "rides"] (sp_Link__init K) := by
  refine ok_of F sc_Link__init (fun _ _ _ _ _ _ us hl => match us, hl with | [_, _], _ => rfl) (fun vs H Q E h => ?_) (fun cdv A outer s H vs Q E hr h => ?_)
  · obtain ⟨_, _, _, _, _, _, rfl, _⟩ := h
    rfl
  · obtain ⟨I, tt, x, dx, v, rs, rfl, hx, ix, ⟨a, vs, rfl, ha, hp⟩, hl, hv, sb, k⟩ := h
    refine ⟨_, (pss_cons (ps_if (pt_not (pt_val (pe_callB call_isiT (by rfl) T.b_isinstance (by decide +kernel) (pa_cons (pv 1) (pa_cons (pe_tup (pa_cons (pe_bltn (v := .ty "list") rfl T.b_list (by decide +kernel) rfl) (pa_cons (pe_bltn (v := .ty "tuple") rfl T.b_tuple (by decide +kernel) rfl) pa_nil))) pa_nil))))) (pss_one ps_never) pss_nil)
      (pss_cons (ps_for PassesOwn.never rfl (pi_enumS (by rfl) T.b_enumerate (pa_cons (pv 1) pa_nil)) (pg_tup (by rfl) (pgs_cons (pg_name (i := 2) sc_Link__init.nd rfl (Or.inl rfl)) (pgs_cons (pg_name (i := 3) sc_Link__init.nd rfl (Or.inl rfl)) pgs_nil))) (pss_one (ps_if (PW.pt (pw_or (pt_cmpR op_eq (pv 2) (pe_gint T.c_MOST_RIDES) (nomark _)) (pw_or1 (pt_not (pt_val (pe_callC G_is_ride (hr.mono (by decide)) T.g_is_ride (pa_cons (pv 3) pa_nil))))))) (pss_one ps_never) pss_nil)))
      (pss_one (ps_fld (pv 0) (pe_callC G_needed (hr.mono (by decide)) T.g_needed (pa_cons (pv 1) pa_nil)) rfl)))), ?_⟩
    have hlen := Nw.Paired.len hp
    refine ⟨_, rfl, by decide, fun p hp1 => ?_⟩
    obtain ⟨nty, hty, hkit⟩ := ty_seq (K := K) (t := tt) (H := upd H p (.tup [V.ty "list", V.ty "tuple"])) (a := a) (vs := vs) (by rw [upd_ne (ne_of_none (sb _ _ ha) hp1)]; exact sb _ _ ha)
    refine ⟨.ref a, p, _, _, _, true, rfl, upd_same, .cons (.ty _) (.cons (.ty _) .nil), hty, hkit, true, rfl, iteF ?_⟩
    have g1 : Grow (TX x) I H _ (upd H p (.tup [V.ty "list", V.ty "tuple"])) := Grow.new sb hp1
    have hx1 : upd H p (.tup [V.ty "list", V.ty "tuple"]) x = some (.ins (He.ga K "Link") dx []) := by rw [upd_ne (ne_of_none hx hp1)]; exact hx
    refine ⟨_, rfl, a, tt, vs, rfl, SqB.of (g1.sub _ _ (g1.view _ _ ha)), ?_⟩
    refine for_it walk_enumS (fun i σ H' => ∃ (I' : Hp) (v2 v3 : Option V), σ = [some (.ref x), some (.ref a), v2, v3] ∧ Grow No _ (upd H p (.tup [V.ty "list", V.ty "tuple"])) I' H') ⟨_, none, none, rfl, Grow.refl g1.sub⟩ (fun i σ H' _ ⟨I', _, _, _, g⟩ => SqB.of (g.same _ _ (g1.sub _ _ (g1.view _ _ ha)))) ?_ ?_
    · rintro i y σ H2 H3 hi ⟨I', v2, v3, rfl, g⟩ ⟨t, y1, y2, rfl, ht, rfl, e1, hy⟩
      cases e1
      obtain ⟨r, hr, hrep⟩ := Nw.Paired.at' hp hy
      have g2 := g.trans (Grow.new (T := No) (o := .tup [.int (i : Nat), y2]) g.sub ht)
      refine ⟨t, _, rfl, SqT.of upd_same, rfl, _, _, rfl, _, _, rfl, rfl, ?_⟩
      refine ⟨_, rfl, rfl, _, rfl, ?_⟩
      have hne : ¬ (V.int ((i : Nat) : Int) = V.int 60) := fun z => by
        have := V.int.inj z
        omega
      rw [decide_eq_false hne]
      refine iteF ?_
      refine ⟨_, rfl, _, y2, r, rfl, Rep.mono (g1.view.trans g2.view) hrep, g2.sub, true, by rw [decide_eq_true (hv r (List.mem_of_getElem? hr))], iteF ?_⟩
      exact ⟨_, _, _, rfl, g2⟩
    · rintro σ H2 ⟨I', v2, v3, rfl, g⟩
      have gx := g1.trans g.no
      refine ⟨_, rfl, I', tt, .ref a, rs, rfl, ⟨a, vs, rfl, gx.view _ _ ha, Paired.mono' (fun _ _ z => Rep.mono gx.view z) hp⟩, by omega, g.sub, fun ns t I3 H3 g3 hu hn => ?_⟩
      have g4 := gx.trans g3.no
      have hx3 : H3 x = some (.ins (He.ga K "Link") dx []) := g3.same _ _ (g.same _ _ hx1)
      have ix3 : I3 x = none := g4.fresh x ix (by rw [hx]; exact fun z => nomatch z)
      refine ⟨_, rfl, x, _, dx, _, rfl, hx3, T.cl_Link, T.na_Link_own_rides, (by show 0 < 1000; decide), ?_⟩
      refine k ns t I3 _ ⟨g4.view, fun b o e => ?_, fun b o n e => ?_, fun b e => upd_live (g4.live b e), g4.fresh, g4.tbl⟩ upd_same hu hn
      · rw [upd_ne (ne_of_none e ix3)]
        exact g4.sub b o e
      · rw [upd_ne n]
        exact g4.keep b o n e
end
end Nw

namespace Nw
open PySem PySem.Spec PyProof.Rows L2
def linksL : List Nat := [97, 98, 99, 100]
def orderT {α : Type} (tb : List (Nat × α)) : List (Nat × α) := linksL.filterMap fun c => (lookT tb c).map fun r => (c, r)
def T2 (x p : Addr) : Addr → Prop := fun b => b = x ∨ b = p
theorem linksP.keys {K : PySem.W.Frag} {I : Hp} : ∀ {kvs : List (Nat × V)} {tb : List (Nat × Rides)}, linksP K I kvs tb → kvs.map (·.1) = tb.map (·.1)
  | _, _, .nil => rfl
  | _, _, .cons h t => by rw [List.map_cons, List.map_cons, h.1, linksP.keys t]
def sp_Timetable__init (K : PySem.W.Frag) : Sp := fun vs H Q _ => ∃ (I : Hp) (x dx p : Addr) (kvs : List (Nat × V)) (tb : List (Nat × Rides)), vs = [.ref x, .ref p] ∧ H x = some (.ins (He.ga K "Timetable") dx []) ∧ H p = some (.dK (kvs.map kvS)) ∧ I x = none ∧ I p = none ∧ linksP K I kvs tb ∧ kvs ≠ [] ∧ kvs.length ≤ 4 ∧ (∀ q ∈ kvs, q.1 ∈ linksL) ∧ Same I H ∧
  ∀ d kvs' I' H', Grow (T2 x p) I H I' H' → H' x = some (.ins (He.ga K "Timetable") dx [("own_links", .ref d)]) → I' d = some (.dK (kvs'.map kvS)) → linksP K I' kvs' (orderT tb) → Q .non H'
section
variable {P : Program} {w : World} {K : PySem.W.Frag} {mg : Str → Option Value} {base : Heap}
theorem mem_keys {kvs : List (Nat × V)} {i : Nat} {kk : Key} {vv : V} (h : (kvs.map kvS)[i]? = some (kk, vv)) : ∃ q, q ∈ kvs ∧ kvs[i]? = some q ∧ kk = .inr (sg q.1) ∧ vv = q.2 := by
  rw [List.getElem?_map] at h
  cases e : kvs[i]? with
  | none => rw [e] at h; cases h
  | some q =>
    rw [e] at h
    cases h
    exact ⟨q, List.mem_of_getElem? e, rfl, rfl, rfl⟩
theorem look_mem {α : Type} {tb : List (Nat × α)} {q : Nat × α} (h : q ∈ tb) : ∃ r, lookT tb q.1 = some r := by
  unfold lookT
  cases e : tb.find? fun p => decide (p.1 = q.1) with
  | none =>
    rw [List.find?_eq_none] at e
    exact absurd (decide_eq_true rfl) (e q h)
  | some r => exact ⟨r.2, rfl⟩
end
end Nw

namespace Nw
open PySem PySem.Spec PyProof.Rows L2
/-! ### draws of the law -/
abbrev sp_l_next (K : PySem.W.Frag) : Sp := spNext
abbrev sp_l_begun (K : PySem.W.Frag) : Sp := spBegun K
def sp_l_pick (K : PySem.W.Frag) : Sp := fun vs H Q _ => ∃ (I : Hp) (D : DA) (n : Nat) (v : V), vs = [.ref D.d, v] ∧ Drw D n I H ∧ n < lim ∧
  ((∃ p xs, v = .ref p ∧ ¬ TD D p ∧ H p = some (.lst xs) ∧ xs ≠ [] ∧ xs.length ≤ 1000000 ∧ ∀ (j : Nat) x H', xs[j]? = some x → Grow (TD D) I H I H' → Drw D (n + 1) I H' → Q x H') ∨
   (∃ l, v = .str (mk l) ∧ l ≠ [] ∧ l.length ≤ 1000000 ∧ ∀ (j : Nat) c H', l[j]? = some c → Grow (TD D) I H I H' → Drw D (n + 1) I H' → Q (.str (sg c)) H'))
def sp_l_other (K : PySem.W.Frag) : Sp := fun vs H Q _ => ∃ c : Nat, vs = [.str (sg c)] ∧ isStep c = true ∧ Q (.str (sg (cp c))) H
def sp_l_row (K : PySem.W.Frag) : Sp := fun vs H Q _ => ∃ (I : Hp) (D : DA) (n : Nat) (l : List Nat) (many : Nat), vs = [.ref D.d, .str (mk l), .int many] ∧ Drw D n I H ∧ n + 100 < lim ∧ l ≠ [] ∧ l.length ≤ 4 ∧ (∀ c ∈ l, 97 ≤ c ∧ c ≤ 100) ∧ 1 ≤ many ∧ many ≤ 31 ∧
  ∀ (r : List Nat) H', r.length < many → (∀ c ∈ r, isStep c = true ∧ lowC c ∈ l) → Grow (TD D) I H I H' → Drw D (n + 100) I H' → Q (.str (mk r)) H'
def sp_l_rides (K : PySem.W.Frag) : Sp := fun vs H Q _ => ∃ (I : Hp) (D : DA) (n many wide : Nat), vs = [.ref D.d, .int many, .int wide] ∧ Drw D n I H ∧ n + 4 * many + 4 < lim ∧ many ≤ 1000 ∧ 1 ≤ wide ∧ wide ≤ 1000000 ∧
  ∀ (rs : Rides) v I' H', rs.length ≤ many → (∀ r ∈ rs, r.1 ≤ r.2 ∧ r.1.natAbs < 5000000 ∧ r.2.natAbs < 5000000) → Grow (TD D) I H I' H' → isL I' v rs → Drw D (n + 4 * many + 4) I' H' → Q v H'
def placeM : Mom → Int
  | .first => 0 - 10 ^ 50
  | .last => 10 ^ 50
  | .num t => t
def sp_l_place (K : PySem.W.Frag) : Sp := fun vs H Q _ => ∃ m : Mom, vs = [m.v] ∧ Q (.int (placeM m)) H
def smallM : Mom → Prop
  | .num t => t.natAbs < 10000000
  | _ => True
def sp_l_moment (K : PySem.W.Frag) : Sp := fun vs H Q _ => ∃ (I : Hp) (D : DA) (n wide : Nat), vs = [.ref D.d, .int wide] ∧ Drw D n I H ∧ n + 6 < lim ∧ 1 ≤ wide ∧ wide ≤ 1000000 ∧
  ∀ (m : Mom) I' H', smallM m → Grow (TD D) I H I' H' → Drw D (n + 6) I' H' → Q m.v H'
theorem atI_of {α : Type} {xs : List α} {r : Int} (h0 : 0 ≤ r) (h1 : r < xs.length) : ∃ x, xs[r.toNat]? = some x ∧ atI xs r = some x := by
  have hlt : r.toNat < xs.length := by omega
  refine ⟨xs[r.toNat], List.getElem?_eq_getElem hlt, ?_⟩
  rw [atI_nat' (j := r.toNat) (by omega)]
  exact List.getElem?_eq_getElem hlt
section
variable {P : Program} {w : World} {K : PySem.W.Frag} {mg : Str → Option Value} {base : Heap}
theorem ok_l_pick (T : Txt K mg) (F : FnAt K "_law_pick" "_law_pick" s_l_pick (He.ga K "_law_pick")) (G_l_next : Ok P w K mg base CX0 1 (He.ga K "_law_next") ["_law_draw", "_law_many"] (sp_l_next K)) : Ok P w K mg base CX0 2 (He.ga K "_law_pick") ["_law_draw", "_law_some_here"] (sp_l_pick K) := by
  refine ok_of F sc_l_pick (fun _ _ _ _ _ _ us hl => match us, hl with | [_, _], _ => rfl) (fun vs H Q E h => ?_) (fun cdv A outer s H vs Q E hr h => ?_)
  · obtain ⟨_, _, _, _, rfl, _⟩ := h
    rfl
  · obtain ⟨I, D, n, v, rfl, dr, hn, k⟩ := h
    refine ⟨_, (pss_one (ps_ret (pe_ix ix_seq (pv 1) (pe_callC G_l_next (hr.mono (by decide)) T.g__law_next (pa_cons (pv 0) (pa_cons (pe_callB call_len (by rfl) T.b_len (by decide +kernel) (pa_cons (pv 1) pa_nil)) pa_nil))) (fun _ _ => rfl)))), ?_⟩
    rcases k with ⟨p, xs, rfl, ht, hp, hne, hz, k⟩ | ⟨l, rfl, hne, hz, k⟩
    · have hpos : 0 < xs.length := List.length_pos_iff.mpr hne
      refine ⟨_, rfl, _, rfl, _, rfl, _, _, rfl, .inl ⟨xs, SqL.of hp, rfl⟩, I, D, n, _, rfl, dr, by omega, by omega, hn, fun r H' h0 h1 g d => ?_⟩
      obtain ⟨x, e1, e2⟩ := atI_of h0 h1
      exact .inl ⟨p, xs, r, x, rfl, rfl, SqL.of (g.keep p _ ht hp), e2, k _ x H' e1 g d⟩
    · have hpos : 0 < l.length := List.length_pos_iff.mpr hne
      refine ⟨_, rfl, _, rfl, _, rfl, _, _, rfl, ⟨by rw [mk_len, sizeLine_eq]; omega, (mk_len l).symm⟩, I, D, n, _, rfl, dr, by omega, by omega, hn, fun r H' h0 h1 g d => ?_⟩
      obtain ⟨x, e1, e2⟩ := atI_of h0 h1
      exact .inr (.inr ⟨mk l, r, x, rfl, rfl, by rw [mk_len, sizeLine_eq]; omega, by rw [mk_cps]; exact e2, k _ x H' e1 g d⟩)
theorem ok_l_other (T : Txt K mg) (F : FnAt K "_law_other" "_law_other" s_l_other (He.ga K "_law_other"))  : Ok P w K mg base CX0 1 (He.ga K "_law_other") ["_law_step"] (sp_l_other K) := by
  refine ok_of F sc_l_other (fun _ _ _ _ _ _ us hl => match us, hl with | [_], _ => rfl) (fun vs H Q E h => ?_) (fun cdv A outer s H vs Q E hr h => ?_)
  · obtain ⟨_, rfl, _⟩ := h
    rfl
  · obtain ⟨c, rfl, hc, k⟩ := h
    refine ⟨_, (pss_one (ps_ret (pe_ifExp (pt_cmpR op_in_sign (pv 0) pe_str rfl) (pe_upper (pv 0)) (pe_lower (pv 0))))), ?_⟩
    have h128 : c < 128 := by rcases step_cases hc with rfl | rfl | rfl | rfl | rfl | rfl | rfl | rfl <;> decide
    refine ⟨_, rfl, c, _, rfl, rfl, _, rfl, ?_⟩
    rw [in_links hc]
    by_cases h : 97 ≤ c
    · rw [show low c = true from decide_eq_true h]
      refine iteT ⟨_, rfl, ⟨_, rfl⟩, _, rfl, rfl, by show 1 ≤ 5592405; decide, ?_⟩
      rw [upper_sg h128]
      have e : up1 c = cp c := by unfold up1 cp; rw [if_pos h, if_pos ⟨h, by rcases step_cases hc with rfl | rfl | rfl | rfl | rfl | rfl | rfl | rfl <;> decide⟩]
      rw [e]
      exact k
    · rw [show low c = false from decide_eq_false h]
      refine iteF ⟨_, rfl, ⟨_, rfl⟩, _, rfl, rfl, by show 1 ≤ 5592405; decide, ?_⟩
      rw [lower_sg h128]
      have e : lo1 c = cp c := by
        unfold lo1 cp
        rw [if_neg h, if_pos]
        rcases step_cases hc with rfl | rfl | rfl | rfl | rfl | rfl | rfl | rfl <;> first | decide | exact absurd (by decide) h
      rw [e]
      exact k
theorem ok_l_row (T : Txt K mg) (F : FnAt K "_law_row" "_law_row" s_l_row (He.ga K "_law_row")) (G_l_next : Ok P w K mg base CX0 1 (He.ga K "_law_next") ["_law_draw", "_law_many"] (sp_l_next K)) (G_l_pick : Ok P w K mg base CX0 2 (He.ga K "_law_pick") ["_law_draw", "_law_some_here"] (sp_l_pick K)) (G_l_other : Ok P w K mg base CX0 1 (He.ga K "_law_other") ["_law_step"] (sp_l_other K)) : Ok P w K mg base CX0 3 (He.ga K "_law_row") ["_law_draw", "_law_letters", "_law_many"] (sp_l_row K) := by
  refine ok_of F sc_l_row (fun _ _ _ _ _ _ us hl => match us, hl with | [_, _, _], _ => rfl) (fun vs H Q E h => ?_) (fun cdv A outer s H vs Q E hr h => ?_)
  · obtain ⟨_, _, _, _, _, rfl, _⟩ := h
    rfl
  · obtain ⟨I, D, n, l, many, rfl, dr, hn, hne, hl4, hlo, hm0, hm1, k⟩ := h
    refine ⟨_, (pss_cons (ps_set (i := 3) sc_l_row.nd rfl (Or.inl rfl) pe_str)
      (pss_cons (ps_while PassesOwn.never (PW.pt (pw_and (pt_cmpR op_lt (pe_callB call_len_str (by rfl) T.b_len (by decide +kernel) (pa_cons (pv 3) pa_nil)) (pe_op op_sub (pv 2) pe_int) (nomark _)) (pw_and1 (pt_cmpR op_gt (pe_callC G_l_next (hr.mono (by decide)) T.g__law_next (pa_cons (pv 0) (pa_cons (pv 2) pa_nil))) pe_int (nomark _))))) (pss_cons (ps_set (i := 4) sc_l_row.nd rfl (Or.inl rfl) (pe_callC G_l_pick (hr.mono (by decide)) T.g__law_pick (pa_cons (pv 0) (pa_cons (pe_op op_add_str (pv 1) (pe_upper (pv 1))) pa_nil))))
      (pss_mid (ps_if (PW.pt (pw_and (pt_cmpR op_ne (pv 3) pe_str (nomark _)) (pw_and1 (pt_cmpR op_eq (pe_callC G_l_next (hr.mono (by decide)) T.g__law_next (pa_cons (pv 0) (pa_cons pe_int pa_nil))) pe_int (nomark _))))) (pss_one (ps_set (i := 4) sc_l_row.nd rfl (Or.inl rfl) (pe_callC G_l_other (hr.mono (by decide)) T.g__law_other (pa_cons (pe_ix ix_str (pv 3) (pe_un un_neg pe_int) (fun _ _ => rfl)) pa_nil)))) pss_nil)
      (pss_one (ps_set (i := 3) sc_l_row.nd rfl (Or.inl rfl) (pe_op op_add_str (pv 3) (pv 4)))))))
      (pss_one (ps_ret (pv 3))))), ?_⟩
    refine ⟨fun m σ H' => ∃ (r : List Nat) (v4 : Option V), m = many - r.length ∧ σ = [some (.ref D.d), some (.str (mk l)), some (.int many), some (.str (mk r)), v4] ∧ r.length < many ∧ (∀ c ∈ r, isStep c = true ∧ lowC c ∈ l) ∧ Grow (TD D) I H I H' ∧ Drw D (n + 3 * r.length) I H',
      ⟨_, [], none, rfl, rfl, hm0, (fun _ z => nomatch z), Grow.refl dr.sub, dr⟩, ?_⟩
    rintro m σ H1 ⟨r, v4, rfl, rfl, hr1, hr2, g1, d1⟩
    refine ⟨_, rfl, _, rfl, by rw [mk_len, sizeLine_eq]; omega, ?_⟩
    rw [mk_len]
    refine ⟨_, rfl, _, _, rfl, rfl, _, _, rfl, rfl, _, rfl, ?_⟩
    by_cases c : (r.length : Int) < (many : Int) - 1
    · rw [decide_eq_true c]
      refine iteT ⟨_, rfl, _, rfl, I, D, n + 3 * r.length, many, rfl, d1, by omega, by omega, by omega, fun z H2 hz0 hz1 g2 d2 => ⟨_, _, rfl, rfl, _, rfl, ?_⟩⟩
      by_cases cz : 0 < z
      · rw [decide_eq_true cz]
        have d2' := d2.mono (m := n + 3 * r.length + 1) (by omega)
        have g12 := g1.trans g2
        refine iteT ⟨fun σ H' => ∃ (r' : List Nat) (v4 : Option V), r'.length = r.length + 1 ∧ σ = [some (.ref D.d), some (.str (mk l)), some (.int many), some (.str (mk r')), v4] ∧ r'.length < many ∧ (∀ c ∈ r', isStep c = true ∧ lowC c ∈ l) ∧ Grow (TD D) I H I H' ∧ Drw D (n + 3 * r'.length) I H',
          fun σ H' ⟨r', v, e, a⟩ => ⟨_, by omega, r', v, rfl, a⟩, _, rfl, _, rfl, _, rfl, ⟨_, rfl⟩, _, rfl, rfl, by rw [mk_len]; omega, ?_⟩
        rw [upper_mk (fun c hc => by have := hlo c hc; omega)]
        refine ⟨_, _, rfl, rfl, by rw [mk_len, mk_len, List.length_map, sizeLine_eq]; omega, ?_⟩
        rw [mk_app]
        refine ⟨I, D, _, _, rfl, d2', by omega, .inr ⟨_, rfl, by simp [hne], by simp; omega, fun j x H3 hx g3 d3 => ?_⟩⟩
        have hx' : isStep x = true ∧ lowC x ∈ l := by
          rcases List.mem_append.mp (List.mem_of_getElem? hx) with q | q
          · have q2 := hlo x q
            have e : lowC x = x := by unfold lowC low; rw [if_pos (decide_eq_true q2.1)]
            have q3 : x = 97 ∨ x = 98 ∨ x = 99 ∨ x = 100 := by omega
            exact ⟨by rcases q3 with rfl | rfl | rfl | rfl <;> rfl, by rw [e]; exact q⟩
          · obtain ⟨y, hy, rfl⟩ := List.mem_map.mp q
            have q2 := hlo y hy
            have q3 : y = 97 ∨ y = 98 ∨ y = 99 ∨ y = 100 := by omega
            have e : lowC (up1 y) = y := by rcases q3 with rfl | rfl | rfl | rfl <;> rfl
            exact ⟨by rcases q3 with rfl | rfl | rfl | rfl <;> rfl, by rw [e]; exact hy⟩
        have g123 := g12.trans g3
        refine ⟨fun σ H' => ∃ c, σ = [some (.ref D.d), some (.str (mk l)), some (.int many), some (.str (mk r)), some (.str (sg c))] ∧ isStep c = true ∧ lowC c ∈ l ∧ Grow (TD D) I H I H' ∧ Drw D (n + 3 * r.length + 3) I H', ?_, ?_⟩
        · refine ⟨_, rfl, rfl, _, rfl, ?_⟩
          by_cases hr0 : r = []
          · subst hr0
            rw [decide_eq_true (show V.str (mk []) = V.str ("" : Str) from rfl)]
            exact iteF ⟨x, rfl, hx'.1, hx'.2, g123, d3.mono (by omega)⟩
          · have hne2 : ¬ (V.str (mk r) = V.str ("" : Str)) := fun z => hr0 (mk_inj (V.str.inj z))
            rw [decide_eq_false hne2]
            refine iteT ⟨_, rfl, I, D, _, 3, rfl, d3, by decide, by decide, by omega, fun z2 H4 h20 h21 g4 d4 => ⟨rfl, _, rfl, ?_⟩⟩
            by_cases c2 : z2 = 0
            · subst c2
              rw [decide_eq_true rfl]
              have hlast : ∃ y, atI r (-1) = some y ∧ y ∈ r := by
                refine ⟨r.getLast hr0, ?_, List.getLast_mem hr0⟩
                have z := atI_rev r.reverse 0 (-1) (by decide)
                rw [List.reverse_reverse] at z
                rw [z]
                rw [← List.head?_eq_getElem?, List.head?_reverse, List.getLast?_eq_some_getLast hr0]
              obtain ⟨y, hy, hym⟩ := hlast
              have hy2 := hr2 y hym
              refine iteT ⟨_, rfl, _, rfl, mk r, -1, y, rfl, rfl, by rw [mk_len, sizeLine_eq]; omega, by rw [mk_cps]; exact hy, y, rfl, hy2.1, cp y, rfl, cp_step hy2.1, ?_, g123.trans g4, d4.mono (by omega)⟩
              have e : lowC (cp y) = lowC y := by rcases step_cases hy2.1 with rfl | rfl | rfl | rfl | rfl | rfl | rfl | rfl <;> rfl
              rw [e]
              exact hy2.2
            · rw [decide_eq_false (fun z => c2 (V.int.inj z))]
              exact iteF ⟨x, rfl, hx'.1, hx'.2, g123.trans g4, d4.mono (by omega)⟩
        · rintro σ H4 ⟨c2, rfl, hs2, hl2, g4, d4⟩
          refine ⟨_, rfl, _, rfl, _, _, rfl, rfl, by rw [mk_len, sizeLine_eq]; show r.length + 1 ≤ _; omega, r ++ [c2], _, by simp, by rw [← mk_sg, mk_app] <;> rfl, by simp; omega, fun c hc => ?_, g4, d4.mono (by simp; omega)⟩
          rcases List.mem_append.mp hc with q | q
          · exact hr2 c q
          · rw [List.mem_singleton] at q
            subst q
            exact ⟨hs2, hl2⟩
      · rw [decide_eq_false cz]
        exact iteF ⟨_, rfl, k r H2 hr1 hr2 (g1.trans g2) (d2.mono (by omega))⟩
    · rw [decide_eq_false c]
      exact iteF ⟨_, rfl, k r H1 hr1 hr2 g1 (d1.mono (by omega))⟩
end
end Nw

namespace Nw
open PySem PySem.Spec PyProof.Rows L2
/-! ### in a drawn order -/
abbrev sgs (l : List Nat) : List V := l.map fun c => V.str (sg c)
def sp_l_shuffled (K : PySem.W.Frag) : Sp := fun vs H Q _ => ∃ (I : Hp) (D : DA) (n : Nat) (p : Addr) (l : List Nat), vs = [.ref D.d, .ref p] ∧ Drw D n I H ∧ n + l.length < lim ∧ l.length ≤ 1000 ∧ SqL K H p (sgs l) ∧
  ∀ (l' : List Nat) q I' H', l'.Perm l → Grow (TD D) I H I' H' → Drw D (n + l.length) I' H' → I' q = some (.lst (sgs l')) → Q (.ref q) H'
def sp_l_some (K : PySem.W.Frag) : Sp := fun vs H Q _ => ∃ (I : Hp) (D : DA) (n many : Nat), vs = [.ref D.d, .int many] ∧ Drw D n I H ∧ n + 5 < lim ∧ 1 ≤ many ∧ many ≤ 1000 ∧
  ∀ (l : List Nat) I' H', l.Nodup → (∀ c ∈ l, 97 ≤ c ∧ c ≤ 100) → l ≠ [] → l.length ≤ many → Grow (TD D) I H I' H' → Drw D (n + 5) I' H' → Q (.str (mk l)) H'
theorem cut_take (xs : List V) (k : Nat) : cutV xs none (some (k : Int)) = xs.take k := by
  unfold cutV HT.sIx
  simp only [List.drop_zero, Nat.sub_zero]
  by_cases h : k ≤ xs.length
  · congr 1
    rw [if_neg (by omega)]
    omega
  · rw [List.take_of_length_le (by omega : xs.length ≤ k)]
    apply List.take_of_length_le
    rw [if_neg (by omega)]
    omega
theorem idx_of {k : Int} {n : Nat} (h0 : 0 ≤ k) (hn : k < n) : seqIndex? k n = some k.toNat := by
  unfold seqIndex?
  split <;> simp_all
  all_goals omega
theorem perm_erase {α : Type} : ∀ {l : List α} {i : Nat} (h : i < l.length), (l[i] :: l.eraseIdx i).Perm l
  | [], _, h => absurd h (Nat.not_lt_zero _)
  | _ :: _, 0, _ => List.Perm.refl _
  | x :: r, i + 1, h => by
    show ((r[i]'(Nat.lt_of_succ_lt_succ h)) :: x :: r.eraseIdx i).Perm (x :: r)
    exact (List.Perm.swap _ _ _).trans ((perm_erase (Nat.lt_of_succ_lt_succ h)).cons x)
theorem map_erase {α β : Type} (f : α → β) : ∀ (l : List α) (i : Nat), (l.map f).eraseIdx i = (l.eraseIdx i).map f
  | [], _ => rfl
  | _ :: _, 0 => rfl
  | x :: r, i + 1 => congrArg (f x :: ·) (map_erase f r i)
section
variable {P : Program} {w : World} {K : PySem.W.Frag} {mg : Str → Option Value} {base : Heap}
theorem ok_l_shuffled (T : Txt K mg) (F : FnAt K "_law_shuffled" "_law_shuffled" s_l_shuffled (He.ga K "_law_shuffled")) (G_l_next : Ok P w K mg base CX0 1 (He.ga K "_law_next") ["_law_draw", "_law_many"] (sp_l_next K)) : Ok P w K mg base CX0 2 (He.ga K "_law_shuffled") ["_law_draw", "_law_some_here"] (sp_l_shuffled K) := by
  refine ok_of F sc_l_shuffled (fun _ _ _ _ _ _ us hl => match us, hl with | [_, _], _ => rfl) (fun vs H Q E h => ?_) (fun cdv A outer s H vs Q E hr h => ?_)
  · obtain ⟨_, _, _, _, _, rfl, _⟩ := h
    rfl
  · obtain ⟨I, D, n, p, l, rfl, dr, hn, hl, hS, k⟩ := h
    refine ⟨_, (pss_cons (ps_par (i := 2) (j := 3) (by rfl) sc_l_shuffled.nd rfl rfl (by decide) rfl rfl (pa_cons (pe_callTy call_list_of (by rfl) T.b_list (by decide +kernel) (pa_cons (pv 1) pa_nil)) (pa_cons (pe_lst pa_nil) pa_nil)) (by rfl))
      (pss_cons (ps_while PassesOwn.never (pt_cmpR (op_neNil hr.units) (pv 2) (pe_lst pa_nil) (nomark _)) (pss_one (ps_expr (pe_bm PySem.F.plainAttrs_list PySem.F.slot_list_append PySem.F.type_list_append mt_append (pv 3) (pa_cons (pe_bm PySem.F.plainAttrs_list PySem.F.slot_list_pop PySem.F.type_list_pop mt_popAt (pv 2) (pa_cons (pe_callC G_l_next (hr.mono (by decide)) T.g__law_next (pa_cons (pv 0) (pa_cons (pe_callB call_len_seq (by rfl) T.b_len (by decide +kernel) (pa_cons (pv 2) pa_nil)) pa_nil))) pa_nil)) pa_nil)))))
      (pss_one (ps_ret (pv 3))))), ?_⟩
    refine ⟨_, rfl, p, _, rfl, .inl hS, fun a ha => ⟨Nat.zero_le _, fun b hb => ⟨_, _, rfl, ?_⟩⟩⟩
    have g1 : Grow (TD D) I H I (upd H a (.lst (sgs l))) := Grow.mine dr.sub ha
    have o1 : Own (TD D) H a (.lst (sgs l)) I (upd H a (.lst (sgs l))) := Own.new dr.sub (.inl (Same.refl H)) dr.live ha
    have g2 : Grow (TD D) I (upd H a (.lst (sgs l))) I (upd (upd H a (.lst (sgs l))) b (.lst [])) := Grow.mine g1.sub hb
    have o1' := o1.grow g2
    have o2 : Own (TD D) H b (.lst []) I (upd (upd H a (.lst (sgs l))) b (.lst [])) := Own.new g1.sub (.inr g1.live) (fun x t => g1.live x (dr.live x t)) hb
    have nab : a ≠ b := ne_of_none o1.at_ hb
    have d2 := (dr.grow (Grow.mine dr.sub ha)).grow (Grow.mine (o := .lst []) g1.sub hb)
    refine ⟨fun m σ H' => ∃ (lf fd : List Nat), m = lf.length ∧ σ = [some (.ref D.d), some (.ref p), some (.ref a), some (.ref b)] ∧ (fd ++ lf).Perm l ∧ Grow (TD D) I H I H' ∧ Own (TD D) H a (.lst (sgs lf)) I H' ∧ Own (TD D) H b (.lst (sgs fd)) I H' ∧ Drw D (n + fd.length) I H', ⟨_, l, [], rfl, rfl, by simp, g1.trans g2, o1', o2, d2⟩, ?_⟩
    rintro m σ H1 ⟨lf, fd, rfl, rfl, hp, g3, oa, ob, d3⟩
    refine ⟨_, rfl, Nat.zero_le _, fun q hq => ⟨a, q, _, rfl, rfl, SqL.of (by rw [upd_ne (ne_of_none oa.at_ hq)]; exact oa.at_), SqL.of upd_same, ?_⟩⟩
    have gq : Grow (TD D) I H1 I (upd H1 q (.lst [])) := Grow.mine g3.sub hq
    have oa2 := oa.grow gq
    have ob2 := ob.grow gq
    have d4 := d3.grow (Grow.mine (o := .lst []) g3.sub hq)
    have g4 := g3.trans gq
    have hlen := hp.length_eq
    rw [List.length_append] at hlen
    match lf, hp, oa, oa2, hlen with
    | [], hp, oa, oa2, hlen =>
      simp only [List.length_nil] at hlen
      exact ⟨_, rfl, iteF ⟨_, rfl, k fd b _ _ (by rw [List.append_nil] at hp; exact hp) (g4.give ob2) ((d4.give ob2).mono (by omega)) upd_same⟩⟩
    | x :: r, hp, oa, oa2, hlen =>
      simp only [List.length_cons] at hlen
      have e1 : ((sgs (x :: r)).length : Int) = ((r.length + 1 : Nat) : Int) := by simp [sgs]
      refine ⟨_, rfl, iteT ⟨fun σ' H' => ∃ (lf fd' : List Nat), lf.length = r.length ∧ σ' = [some (.ref D.d), some (.ref p), some (.ref a), some (.ref b)] ∧ (fd' ++ lf).Perm l ∧ Grow (TD D) I H I H' ∧ Own (TD D) H a (.lst (sgs lf)) I H' ∧ Own (TD D) H b (.lst (sgs fd')) I H' ∧ Drw D (n + fd'.length) I H',
        fun σ' H' ⟨lf, fd', e, z⟩ => ⟨lf.length, by simp only [List.length_cons]; omega, lf, fd', rfl, z⟩, ?_⟩⟩
      refine ⟨_, rfl, .inl ⟨rfl, _, SqL.of ob2.at_⟩, _, rfl, .inl ⟨rfl, _, SqL.of oa2.at_⟩, _, rfl, _, rfl, _, _, rfl, .inl (SqL.of oa2.at_), I, D, n + fd.length, _, rfl, d4, (by rw [e1]; omega), (by rw [e1]; omega), (by omega), fun z H5 h0 h1 g5 d5 => ?_⟩
      rw [e1] at h1
      have oa5 := oa2.grow g5
      have ob5 := ob2.grow g5
      have hz : z.toNat < (x :: r).length := by simp only [List.length_cons]; omega
      refine ⟨a, _, z, z.toNat, V.str (sg ((x :: r)[z.toNat]'hz)), rfl, rfl, oa5.at_, by omega, by omega, idx_of h0 (by rw [e1]; exact h1), by rw [List.getElem?_map, List.getElem?_eq_getElem hz]; rfl, ?_⟩
      have ob6 := ob5.other (m := a) (o' := .lst ((sgs (x :: r)).eraseIdx z.toNat)) nab.symm
      refine ⟨b, _, _, rfl, rfl, ob6.at_, by rw [sizeLine_eq]; simp [sgs]; omega, (x :: r).eraseIdx z.toNat, fd ++ [(x :: r)[z.toNat]'hz], ?_, rfl, ?_, ((g4.trans g5).put oa5).put ob6, ?_, ?_, ?_⟩
      · rw [List.length_eraseIdx_of_lt hz]; rfl
      · rw [List.append_assoc]
        refine List.Perm.trans ?_ hp
        exact List.Perm.append_left fd (perm_erase hz)
      · have z1 := oa5.put (o' := .lst ((sgs (x :: r)).eraseIdx z.toNat))
        have e2 : (sgs (x :: r)).eraseIdx z.toNat = sgs ((x :: r).eraseIdx z.toNat) := map_erase _ _ _
        rw [e2] at z1 ⊢
        exact z1.other nab
      · have z1 := ob6.put (o' := .lst (sgs fd ++ [V.str (sg ((x :: r)[z.toNat]'hz))]))
        rw [show sgs (fd ++ [(x :: r)[z.toNat]'hz]) = sgs fd ++ [V.str (sg ((x :: r)[z.toNat]'hz))] by simp [sgs]]
        exact z1
      · rw [List.length_append, List.length_singleton, ← Nat.add_assoc]
        exact (d5.put oa5).put ob6
theorem ok_l_some (T : Txt K mg) (F : FnAt K "_law_some" "_law_some" s_l_some (He.ga K "_law_some")) (G_l_shuffled : Ok P w K mg base CX0 2 (He.ga K "_law_shuffled") ["_law_draw", "_law_some_here"] (sp_l_shuffled K)) (G_l_next : Ok P w K mg base CX0 1 (He.ga K "_law_next") ["_law_draw", "_law_many"] (sp_l_next K)) : Ok P w K mg base CX0 3 (He.ga K "_law_some") ["_law_draw", "_law_many"] (sp_l_some K) := by
  refine ok_of F sc_l_some (fun _ _ _ _ _ _ us hl => match us, hl with | [_, _], _ => rfl) (fun vs H Q E h => ?_) (fun cdv A outer s H vs Q E hr h => ?_)
  · obtain ⟨_, _, _, _, rfl, _⟩ := h
    rfl
  · obtain ⟨I, D, n, many, rfl, dr, hn, hm1, hm2, k⟩ := h
    refine ⟨_, (pss_one (ps_ret (pe_join pe_str (pe_slice sl_list (pe_callC G_l_shuffled (hr.mono (by decide)) T.g__law_shuffled (pa_cons (pv 0) (pa_cons (pe_callTy (call_list_sg rfl) (by rfl) T.b_list (by decide +kernel) (pa_cons pe_str pa_nil)) pa_nil))) po_none (po_some (pe_op op_add pe_int (pe_callC G_l_next (hr.mono (by decide)) T.g__law_next (pa_cons (pv 0) (pa_cons (pv 1) pa_nil))))))))), ?_⟩
    refine ⟨⟨_, rfl⟩, _, rfl, [97, 98, 99, 100], rfl, by decide, fun p hp => ?_⟩
    have g1 : Grow (TD D) I H I (upd H p (.lst (sgs [97, 98, 99, 100]))) := Grow.mine dr.sub hp
    refine ⟨I, D, n, p, [97, 98, 99, 100], rfl, dr.grow (Grow.mine dr.sub hp), (by show n + 4 < lim; omega), by decide, SqL.of upd_same, fun l' q I2 H2 pm g2 d2 hq => ?_⟩
    refine ⟨_, rfl, _, rfl, I2, D, n + 4, many, rfl, d2, by omega, by omega, by omega, fun r H3 h0 h1 g3 d3 => ⟨_, _, rfl, rfl, _, rfl, q, _, rfl, SqL.of (g3.sub _ _ (g3.view _ _ hq)), fun u hu => ?_⟩⟩
    have e1 : (1 + r : Int) = ((1 + r.toNat : Nat) : Int) := by omega
    rw [e1, cut_take]
    have g4 : Grow (TD D) I2 H3 I2 (upd H3 u (.lst (List.take (1 + r.toNat) (sgs l')))) := Grow.mine g3.sub hu
    refine ⟨"", u, (l'.take (1 + r.toNat)).map sg, rfl, rfl, .inl (SqL.of (by rw [upd_same, sgs, List.map_take, List.map_take, List.map_map] <;> rfl)), ?_, ?_⟩
    · have z := pm.length_eq
      rw [List.map_map]
      show ((l'.take (1 + r.toNat)).map fun _ => 1).sum + _ * 0 ≤ _
      rw [sum_ones, List.length_take]
      omega
    rw [join_signs]
    have hl := pm.length_eq
    simp only [List.length_cons, List.length_nil] at hl
    refine k (l'.take (1 + r.toNat)) I2 _ ?_ ?_ ?_ ?_ ((g1.trans g2).trans (g3.trans g4)) (d3.mine hu)
    · exact (pm.nodup_iff.mpr (by decide)).sublist (List.take_sublist _ _)
    · intro c hc
      have z := pm.mem_iff.mp (List.mem_of_mem_take hc)
      simp at z
      omega
    · intro z
      have z1 := congrArg List.length z
      rw [List.length_take, List.length_nil] at z1
      omega
    · rw [List.length_take]
      omega
end
end Nw

namespace Nw
open PySem PySem.Spec PyProof.Rows L2
/-! ### what is left of a row, in any order -/
def NF : List Nat → Prop
  | x :: y :: z :: r => ¬ (x = z ∧ y = cp x) ∧ NF (y :: z :: r)
  | _ => True
theorem NF.tail : ∀ {x : Nat} {l : List Nat}, NF (x :: l) → NF l
  | _, [], _ => trivial
  | _, [_], _ => trivial
  | _, _ :: _ :: _, h => h.2
theorem NF.coll : ∀ {l : List Nat}, NF l → collapse l = l
  | [], _ => rfl
  | [_], _ => rfl
  | [_, _], _ => rfl
  | x :: y :: z :: r, h => by
    unfold collapse
    rw [if_neg h.1]
theorem NF.suf : ∀ {u v : List Nat}, NF (u ++ v) → NF v
  | [], _, h => h
  | _ :: u, _, h => NF.suf (u := u) h.tail
theorem nf_push {st : List Nat} (h : NF st) (c : Nat) : ∃ r, pushC st c = c :: r ∧ NF (c :: r) := by
  match st, h with
  | [], _ => exact ⟨[], rfl, trivial⟩
  | [y], _ => exact ⟨[y], rfl, trivial⟩
  | y :: z :: r, h =>
    unfold pushC collapse
    by_cases k : c = z ∧ y = cp c
    · rw [if_pos k, h.tail.coll]
      exact ⟨r, by rw [k.1], by rw [k.1]; exact h.tail⟩
    · rw [if_neg k]
      exact ⟨y :: z :: r, rfl, k, h⟩
theorem nf_thrice {x : Nat} {r : List Nat} (hx : isStep x = true) (h : NF (x :: r)) : pushC (pushC (x :: r) (cp x)) x = x :: r := by
  match r, h with
  | [], _ =>
    show pushC [cp x, x] x = [x]
    unfold pushC collapse
    rw [if_pos ⟨rfl, rfl⟩] <;> rfl
  | a :: r, h =>
    have e1 : pushC (x :: a :: r) (cp x) = if cp x = a ∧ x = cp (cp x) then collapse (a :: r) else cp x :: x :: a :: r := by
      show collapse (cp x :: x :: a :: r) = _
      rw [collapse]
    rw [e1]
    by_cases k : cp x = a
    · rw [if_pos ⟨k, (cp_cp hx).symm⟩, h.tail.coll]
      show collapse (x :: a :: r) = _
      exact h.coll
    · rw [if_neg (fun z => k z.1)]
      show collapse (x :: cp x :: x :: a :: r) = _
      rw [collapse, if_pos ⟨rfl, rfl⟩]
      exact h.coll
theorem nf_fold : ∀ (l : List Nat) {st : List Nat}, NF st → NF (l.foldl pushC st)
  | [], _, h => h
  | c :: l, _, h => by
    obtain ⟨r, e, hr⟩ := nf_push h c
    show NF (l.foldl pushC (pushC _ c))
    rw [e]
    exact nf_fold l hr
theorem red_same {a b : List Nat} {x : Nat} (hx : isStep x = true) : reducedL (a ++ x :: cp x :: x :: b) = reducedL (a ++ x :: b) := by
  unfold reducedL
  rw [List.foldl_append, List.foldl_append]
  have h := nf_fold a (st := []) trivial
  obtain ⟨r, e, hr⟩ := nf_push h x
  simp only [List.foldl_cons]
  rw [e, nf_thrice hx hr]
theorem nf_id : ∀ (l st : List Nat), NF (l.reverse ++ st) → l.foldl pushC st = l.reverse ++ st
  | [], _, _ => rfl
  | c :: l, st, h => by
    have h' : NF (l.reverse ++ (c :: st)) := by simpa using h
    have e : pushC st c = c :: st := (NF.suf h').coll
    show l.foldl pushC (pushC st c) = _
    rw [e, nf_id l (c :: st) h']
    simp
theorem red_id {l : List Nat} (h : NF l.reverse) : reducedL l = l := by
  unfold reducedL
  rw [nf_id l [] (by rw [List.append_nil]; exact h), List.append_nil, List.reverse_reverse]
theorem nf_of : ∀ (l : List Nat), (∀ i x y z, l[i]? = some x → l[i + 1]? = some y → l[i + 2]? = some z → ¬ (x = z ∧ y = cp x)) → NF l
  | [], _ => trivial
  | [_], _ => trivial
  | [_, _], _ => trivial
  | x :: y :: z :: r, h => ⟨h 0 x y z rfl rfl rfl, nf_of (y :: z :: r) fun i a b c h1 h2 h3 => h (i + 1) a b c h1 h2 h3⟩
/-- where x, y, x stand -/
def spot (l : List Nat) (i : Nat) : Bool := decide (l[i]? = l[i + 2]? ∧ l[i + 1]? = (l[i]?).map cp)
theorem nf_spots {l : List Nat} (h : ∀ i, i + 2 < l.length → spot l i = false) : NF l := nf_of l fun i x y z h1 h2 h3 k => by
  have hi : i + 2 < l.length := (List.getElem?_eq_some_iff.mp h3).1
  have z1 := of_decide_eq_false (h i hi)
  exact z1 ⟨by rw [h1, h3, k.1], by rw [h1, h2, k.2] <;> rfl⟩
theorem nf_spots_rev {l : List Nat} (h : ∀ i, i + 2 < l.length → spot l i = false) : NF l.reverse := nf_of _ fun i x y z h1 h2 h3 k => by
  have hi : i + 2 < l.reverse.length := (List.getElem?_eq_some_iff.mp h3).1
  rw [List.length_reverse] at hi
  rw [List.getElem?_reverse (by omega)] at h1 h2 h3
  have e1 : l[l.length - 3 - i]? = some z := by rw [← h3]; congr 1; omega
  have e2 : l[l.length - 3 - i + 1]? = some y := by rw [← h2]; congr 1; omega
  have e3 : l[l.length - 3 - i + 2]? = some x := by rw [← h1]; congr 1; omega
  have z1 := of_decide_eq_false (h (l.length - 3 - i) (by omega))
  exact z1 ⟨by rw [e1, e3, k.1], by rw [e1, e2, k.2, k.1] <;> rfl⟩
theorem nf_map : ∀ {l : List Nat}, (∀ c ∈ l, isStep c = true) → NF l → NF (l.map cp)
  | [], _, _ => trivial
  | [_], _, _ => trivial
  | [_, _], _, _ => trivial
  | x :: y :: z :: r, hs, h => by
    refine ⟨fun k => h.1 ⟨?_, ?_⟩, nf_map (l := y :: z :: r) (fun c hc => hs c (List.mem_cons_of_mem _ hc)) h.2⟩
    · rw [← cp_cp (hs x (by simp)), k.1, cp_cp (hs z (by simp))]
    · rw [← cp_cp (hs y (by simp)), k.2, cp_cp (cp_step (hs x (by simp)))]
structure Less (l t : List Nat) : Prop where
  steps : ∀ c ∈ t, isStep c = true
  len : t.length ≤ l.length
  red : reducedL l = reducedL t
  redT : reducedL (turnedL l) = reducedL (turnedL t)
theorem turned_app (a b : List Nat) : turnedL (a ++ b) = turnedL b ++ turnedL a := by simp [turnedL]
theorem spot_cut {t : List Nat} {i : Nat} (hi : i + 2 < t.length) (h : spot t i = true) : ∃ a x b, t = a ++ x :: cp x :: x :: b ∧ t.take i ++ t.drop (i + 2) = a ++ x :: b := by
  obtain ⟨h1, h2⟩ := of_decide_eq_true h
  have e0 : t.drop i = t[i] :: t[i + 1] :: t[i + 2] :: t.drop (i + 3) := by
    rw [List.drop_eq_getElem_cons (by omega), List.drop_eq_getElem_cons (by omega), List.drop_eq_getElem_cons (by omega)]
  rw [List.getElem?_eq_getElem (by omega), List.getElem?_eq_getElem (by omega)] at h1
  rw [List.getElem?_eq_getElem (by omega), List.getElem?_eq_getElem (by omega)] at h2
  have h1' := Option.some.inj h1
  have h2' : t[i + 1] = cp t[i] := Option.some.inj h2
  refine ⟨t.take i, t[i], t.drop (i + 3), ?_, ?_⟩
  · conv => lhs; rw [← List.take_append_drop i t, e0]
    rw [h2', ← h1']
  · rw [List.drop_eq_getElem_cons (by omega : i + 2 < t.length), ← h1']
theorem Less.step {l t : List Nat} (h : Less l t) {i : Nat} (hi : i + 2 < t.length) (k : spot t i = true) : Less l (t.take i ++ t.drop (i + 2)) ∧ (t.take i ++ t.drop (i + 2)).length + 2 = t.length := by
  obtain ⟨a, x, b, e1, e2⟩ := spot_cut hi k
  have hx : isStep x = true := h.steps x (by rw [e1]; simp)
  have hl : (a ++ x :: b).length + 2 = t.length := by rw [e1]; simp; omega
  rw [e2]
  refine ⟨⟨fun c hc => h.steps c ?_, by have := h.len; omega, ?_, ?_⟩, hl⟩
  · rw [e1]
    simp only [List.mem_append, List.mem_cons] at hc ⊢
    rcases hc with z | z | z
    · exact .inl z
    · exact .inr (.inl z)
    · exact .inr (.inr (.inr (.inr z)))
  · rw [h.red, e1, red_same hx]
  · rw [h.redT, e1, turned_app, turned_app]
    have e3 : turnedL (x :: cp x :: x :: b) = turnedL b ++ [cp x, x, cp x] := by simp [turnedL, cp_cp hx]
    have e4 : turnedL (x :: b) = turnedL b ++ [cp x] := by simp [turnedL]
    rw [e3, e4, List.append_assoc, List.append_assoc]
    have z := red_same (a := turnedL b) (b := turnedL a) (cp_step hx)
    rw [cp_cp hx] at z
    exact z
theorem Less.done {l t : List Nat} (h : Less l t) (k : ∀ i, i + 2 < t.length → spot t i = false) : reducedL l = t ∧ reducedL t = t ∧ reducedL (turnedL l) = turnedL t := by
  have h1 := red_id (nf_spots_rev k)
  refine ⟨h.red.trans h1, h1, h.redT.trans (red_id ?_)⟩
  have e : (turnedL t).reverse = t.map cp := by simp [turnedL]
  rw [e]
  exact nf_map h.steps (nf_spots k)
end Nw

namespace Nw
open PySem PySem.Spec PyProof.Rows L2
/-! ### in a drawn order, to the last -/
def spotsL (t : List Nat) : List Int := (List.range (t.length - 2)).filterMap fun i => if spot t i = true then some (i : Int) else none
theorem mem_spots {t : List Nat} {k : Int} (h : k ∈ spotsL t) : ∃ i : Nat, k = (i : Int) ∧ i + 2 < t.length ∧ spot t i = true := by
  obtain ⟨i, hi, e⟩ := List.mem_filterMap.mp h
  rw [List.mem_range] at hi
  split at e
  · rename_i hs
    cases e
    exact ⟨i, rfl, by omega, hs⟩
  · cases e
theorem no_spots {t : List Nat} (h : spotsL t = []) : ∀ i, i + 2 < t.length → spot t i = false := fun i hi => by
  cases e : spot t i with
  | false => rfl
  | true =>
    have z : (i : Int) ∈ spotsL t := List.mem_filterMap.mpr ⟨i, List.mem_range.mpr (by omega), by rw [e] <;> rfl⟩
    rw [h] at z
    cases z
def sp_l_less (K : PySem.W.Frag) : Sp := fun vs H Q _ => ∃ (I : Hp) (D : DA) (n : Nat) (l : List Nat), vs = [.ref D.d, .str (mk l)] ∧ Drw D n I H ∧ n + 100 < lim ∧ l.length ≤ 100 ∧ (∀ c ∈ l, isStep c = true) ∧
  ∀ (t : List Nat) I' H', Less l t → (∀ i, i + 2 < t.length → spot t i = false) → Grow (TD D) I H I' H' → Drw D (n + 100) I' H' → Q (.str (mk t)) H'
def sp_l_right (K : PySem.W.Frag) : Sp := fun vs H Q _ => ∃ (I : Hp) (D : DA) (n : Nat) (l : List Nat), vs = [.ref D.d, .str (mk l)] ∧ Drw D n I H ∧ n + 100 < lim ∧ isRowL l = true ∧ ∀ I' H', Grow (TD D) I H I' H' → Drw D (n + 100) I' H' → Q (.bl true) H'
section
variable {P : Program} {w : World} {K : PySem.W.Frag} {mg : Str → Option Value} {base : Heap}
theorem ok_l_less (T : Txt K mg) (F : FnAt K "_law_less" "_law_less" s_l_less (He.ga K "_law_less")) (G_l_other : Ok P w K mg base CX0 1 (He.ga K "_law_other") ["_law_step"] (sp_l_other K)) (G_l_pick : Ok P w K mg base CX0 2 (He.ga K "_law_pick") ["_law_draw", "_law_some_here"] (sp_l_pick K)) : Ok P w K mg base CX0 3 (He.ga K "_law_less") ["_law_draw", "_law_text"] (sp_l_less K) := by
  refine ok_of F sc_l_less (fun _ _ _ _ _ _ us hl => match us, hl with | [_, _], _ => rfl) (fun vs H Q E h => ?_) (fun cdv A outer s H vs Q E hr h => ?_)
  · obtain ⟨_, _, _, _, rfl, _⟩ := h
    rfl
  · obtain ⟨I, D, n, l, rfl, dr, hn, hl, hst, k⟩ := h
    refine ⟨_, (pss_cons (ps_setLc (i := 3) (own := [("_law_at", 2)]) (g := (gName 2)) rfl sc_l_less.nd rfl rfl (sw_true rfl rfl rfl (by decide +kernel)) (pi_range1 rfl T.b_range (pa_cons (pe_op op_sub (pe_callB call_len_str (by rfl) T.b_len (by decide +kernel) (pa_cons (pv 1) pa_nil)) pe_int) pa_nil)) (blkOk_by (own := [("_law_at", 2)]) (N := n_l_less) (sc := defScope s_l_less) (by decide +kernel)) (fun _ _ _ _ _ => (pg_name (i := 2) sc_l_less.nd rfl (Or.inl rfl))) (fun _ _ _ _ _ => (pts_one (PW.pt (pw_and (pt_cmpR op_eq (pe_ix ix_str (pv 1) (pv 2) (fun _ _ => rfl)) (pe_ix ix_str (pv 1) (pe_op op_add (pv 2) pe_int) (fun _ _ => rfl)) (nomark _)) (pw_and1 (pt_cmpR op_eq (pe_ix ix_str (pv 1) (pe_op op_add (pv 2) pe_int) (fun _ _ => rfl)) (pe_callC G_l_other (hr.mono (by decide)) T.g__law_other (pa_cons (pe_ix ix_str (pv 1) (pv 2) (fun _ _ => rfl)) pa_nil)) (nomark _))))))) (fun _ _ _ _ _ => (pv 2)))
      (pss_cons (ps_while PassesOwn.never (pt_cmpR (op_neNil hr.units) (pv 3) (pe_lst pa_nil) (nomark _)) (pss_cons (ps_set (i := 2) sc_l_less.nd rfl (Or.inl rfl) (pe_callC G_l_pick (hr.mono (by decide)) T.g__law_pick (pa_cons (pv 0) (pa_cons (pv 3) pa_nil))))
      (pss_cons (ps_set (i := 1) sc_l_less.nd rfl (Or.inr rfl) (pe_op op_add_str (pe_slice sl_str (pv 1) po_none (po_some (pv 2))) (pe_slice sl_str (pv 1) (po_some (pe_op op_add (pv 2) pe_int)) po_none)))
      (pss_one (ps_setLc (i := 3) (own := [("_law_at", 2)]) (g := (gName 2)) rfl sc_l_less.nd rfl rfl (sw_true rfl rfl rfl (by decide +kernel)) (pi_range1 rfl T.b_range (pa_cons (pe_op op_sub (pe_callB call_len_str (by rfl) T.b_len (by decide +kernel) (pa_cons (pv 1) pa_nil)) pe_int) pa_nil)) (blkOk_by (own := [("_law_at", 2)]) (N := n_l_less) (sc := defScope s_l_less) (by decide +kernel)) (fun _ _ _ _ _ => (pg_name (i := 2) sc_l_less.nd rfl (Or.inl rfl))) (fun _ _ _ _ _ => (pts_one (PW.pt (pw_and (pt_cmpR op_eq (pe_ix ix_str (pv 1) (pv 2) (fun _ _ => rfl)) (pe_ix ix_str (pv 1) (pe_op op_add (pv 2) pe_int) (fun _ _ => rfl)) (nomark _)) (pw_and1 (pt_cmpR op_eq (pe_ix ix_str (pv 1) (pe_op op_add (pv 2) pe_int) (fun _ _ => rfl)) (pe_callC G_l_other (hr.mono (by decide)) T.g__law_other (pa_cons (pe_ix ix_str (pv 1) (pv 2) (fun _ _ => rfl)) pa_nil)) (nomark _))))))) (fun _ _ _ _ _ => (pv 2)))))))
      (pss_one (ps_ret (pv 1))))), ?_⟩
    refine ⟨_, rfl, _, rfl, by rw [mk_len, sizeLine_eq]; omega, _, _, rfl, rfl, _, rfl, by rw [mk_len]; omega, by rw [mk_len]; omega, ?_⟩
    rw [show (((mk l).length : Nat) : Int) - 2 = (l.length : Int) - 2 by rw [mk_len], show ((l.length : Int) - 2).toNat = l.length - 2 by omega]
    intro L hL
    refine lc_pure (β := Int) (walk_range (lo := 0) (n := (l.length - 2))) (List.range (l.length - 2)) (fun i => if spot l i = true then some (i : Int) else none) List.length_range dr.sub hL (by omega) (fun _ _ _ => trivial) ?_ ?_
    · rintro i i' x I5 H5 H5' hi' g5 ⟨rfl, rfl⟩ Kn Ky kn ky
      have hii : i' = i := by
        obtain ⟨hlt, e⟩ := List.getElem?_eq_some_iff.mp hi'
        rw [← e, List.getElem_range]
      subst hii
      have hlt : i' < (l.length - 2) := by
        have z := (List.getElem?_eq_some_iff.mp hi').1
        rwa [List.length_range] at z
      have hb : i' + 2 < (l).length := by omega
      have a0 : atI l (0 + (i' : Int)) = some ((l)[i']'(by omega)) := by rw [atI_nat' (j := i') (by omega)]; exact List.getElem?_eq_getElem _
      have a1 : atI l (0 + (i' : Int) + 1) = some ((l)[i' + 1]'(by omega)) := by rw [atI_nat' (j := i' + 1) (by omega)]; exact List.getElem?_eq_getElem _
      have a2 : atI l (0 + (i' : Int) + 2) = some ((l)[i' + 2]'hb) := by rw [atI_nat' (j := i' + 2) (by omega)]; exact List.getElem?_eq_getElem _
      have lz : (mk l).length ≤ sizeLine := by rw [mk_len, sizeLine_eq]; omega
      have es : spot l i' = (decide ((l)[i']'(by omega) = (l)[i' + 2]'hb) && decide ((l)[i' + 1]'(by omega) = cp ((l)[i']'(by omega)))) := by
        unfold spot
        rw [List.getElem?_eq_getElem hb, List.getElem?_eq_getElem (by omega : i' + 1 < (l).length), List.getElem?_eq_getElem (by omega : i' < (l).length)]
        simp only [Option.map_some, Option.some.injEq, Bool.decide_and]
      refine ⟨rfl, _, rfl, _, rfl, mk l, _, _, rfl, rfl, lz, by rw [mk_cps]; exact a0, _, rfl, _, rfl, _, _, rfl, rfl, mk l, _, _, rfl, rfl, lz, by rw [mk_cps]; exact a2, rfl, _, rfl, ?_⟩
      rw [eq_sg]
      by_cases h1 : (l)[i']'(by omega) = (l)[i' + 2]'hb
      · rw [decide_eq_true h1]
        refine iteT ⟨_, rfl, _, rfl, _, _, rfl, rfl, mk l, _, _, rfl, rfl, lz, by rw [mk_cps]; exact a1, _, rfl, _, rfl, mk l, _, _, rfl, rfl, lz, by rw [mk_cps]; exact a0, _, rfl, hst _ (List.getElem_mem _), rfl, _, rfl, ?_⟩
        rw [eq_sg]
        by_cases h2 : (l)[i' + 1]'(by omega) = cp ((l)[i']'(by omega))
        · rw [decide_eq_true h2]
          refine iteT ⟨_, rfl, ?_⟩
          exact ky (i' : Int) (by rw [es, decide_eq_true h1, decide_eq_true h2] <;> rfl) _ I5 H5' (Grow.refl g5.sub) (by show V.int (0 + (i' : Int)) = V.int i'; rw [Int.zero_add])
        · rw [decide_eq_false h2]
          exact iteF (kn (by rw [es, decide_eq_false h2, Bool.and_false] <;> rfl) I5 H5' (Grow.refl g5.sub))
      · rw [decide_eq_false h1]
        exact kn (by rw [es, decide_eq_false h1, Bool.false_and] <;> rfl) I5 H5' (Grow.refl g5.sub)
    · intro I6 H6 vs6 g6 ow6 hp6
      have e6 := Paired.ints hp6
      have nL := dr.not hL
      have d6 := dr.grow g6
      refine ⟨fun m σ H' => ∃ (I' : Hp) (t : List Nat) (L : Addr) (v2 : Option V), m = t.length ∧ σ = [some (.ref D.d), some (.str (mk t)), v2, some (.ref L)] ∧ Less l t ∧ Grow (TD D) I H I' H' ∧ H' L = some (.lst ((spotsL t).map V.int)) ∧ ¬ TD D L ∧ Drw D (n + (l.length - t.length)) I' H',
        ⟨_, I6, l, L, none, rfl, rfl, ⟨hst, Nat.le_refl _, rfl, rfl⟩, g6.no, by rw [ow6.at_, e6] <;> rfl, nL, d6.mono (by omega)⟩, ?_⟩
      rintro m σ H7 ⟨I7, t, L7, v2, rfl, rfl, hle, g7, at7, nt7, d7⟩
      have htl := hle.len
      refine ⟨_, rfl, Nat.zero_le _, fun q hq => ⟨L7, q, _, rfl, rfl, SqL.of (by rw [upd_ne (ne_of_none at7 hq)]; exact at7), SqL.of upd_same, ?_⟩⟩
      have gq : Grow (TD D) I7 H7 I7 (upd H7 q (.lst [])) := Grow.mine g7.sub hq
      have d8 := d7.mine (o := .lst []) hq
      have at8 : upd H7 q (.lst []) L7 = some (.lst ((spotsL t).map V.int)) := by rw [upd_ne (ne_of_none at7 hq)]; exact at7
      have hsl : (spotsL t).length ≤ t.length := Nat.le_trans (List.length_filterMap_le _ _) (by rw [List.length_range]; omega)
      cases hsp : spotsL t with
      | nil =>
        exact ⟨_, rfl, iteF ⟨_, rfl, k t I7 _ hle (no_spots hsp) (g7.trans gq) (d8.mono (by omega))⟩⟩
      | cons s0 sr =>
        refine ⟨_, rfl, ?_⟩
        refine iteT ⟨fun σ' H' => ∃ (I' : Hp) (t' : List Nat) (L' : Addr) (v2' : Option V), t'.length + 2 = t.length ∧ σ' = [some (.ref D.d), some (.str (mk t')), v2', some (.ref L')] ∧ Less l t' ∧ Grow (TD D) I H I' H' ∧ H' L' = some (.lst ((spotsL t').map V.int)) ∧ ¬ TD D L' ∧ Drw D (n + (l.length - t'.length)) I' H',
          fun σ' H' ⟨I', t', L', v2', e, z⟩ => ⟨t'.length, by omega, I', t', L', v2', rfl, z⟩, ?_⟩
        refine ⟨_, rfl, _, rfl, I7, D, _, _, rfl, d8, by omega, .inl ⟨L7, _, rfl, nt7, at8, by rw [hsp]; simp, by rw [List.length_map]; omega, fun j x H9 hx g9 d9 => ?_⟩⟩
        obtain ⟨kk, hkk, rfl⟩ := List.mem_map.mp (List.mem_of_getElem? hx)
        obtain ⟨i, rfl, hi2, hsi⟩ := mem_spots hkk
        obtain ⟨hle2, hl2⟩ := hle.step hi2 hsi
        refine ⟨_, rfl, _, rfl, _, rfl, _, rfl, by rw [mk_len, sizeLine_eq]; omega, _, rfl, _, rfl, _, _, rfl, rfl, _, rfl, _, rfl, by rw [mk_len, sizeLine_eq]; omega, ?_⟩
        rw [cutS_take, show ((i : Int) + 2) = ((i + 2 : Nat) : Int) by omega, cutS_drop]
        refine ⟨_, _, rfl, rfl, by rw [mk_len, mk_len, sizeLine_eq]; rw [List.length_append] at hl2; omega, ?_⟩
        rw [mk_app]
        revert hle2 hl2
        generalize t.take i ++ t.drop (i + 2) = u
        intro hle2 hl2
        have hul := hle2.len
        refine ⟨_, rfl, _, rfl, by rw [mk_len, sizeLine_eq]; omega, _, _, rfl, rfl, _, rfl, by rw [mk_len]; omega, by rw [mk_len]; omega, ?_⟩
        rw [show (((mk u).length : Nat) : Int) - 2 = (u.length : Int) - 2 by rw [mk_len], show ((u.length : Int) - 2).toNat = u.length - 2 by omega]
        clear e6 hp6
        have g79 := (g7.trans gq).trans g9
        clear ow6
        intro L hL
        refine lc_pure (β := Int) (walk_range (lo := 0) (n := (u.length - 2))) (List.range (u.length - 2)) (fun i => if spot u i = true then some (i : Int) else none) List.length_range d9.sub hL (by omega) (fun _ _ _ => trivial) ?_ ?_
        · rintro i i' x I5 H5 H5' hi' g5 ⟨rfl, rfl⟩ Kn Ky kn ky
          have hii : i' = i := by
            obtain ⟨hlt, e⟩ := List.getElem?_eq_some_iff.mp hi'
            rw [← e, List.getElem_range]
          subst hii
          have hlt : i' < (u.length - 2) := by
            have z := (List.getElem?_eq_some_iff.mp hi').1
            rwa [List.length_range] at z
          have hb : i' + 2 < (u).length := by omega
          have a0 : atI u (0 + (i' : Int)) = some ((u)[i']'(by omega)) := by rw [atI_nat' (j := i') (by omega)]; exact List.getElem?_eq_getElem _
          have a1 : atI u (0 + (i' : Int) + 1) = some ((u)[i' + 1]'(by omega)) := by rw [atI_nat' (j := i' + 1) (by omega)]; exact List.getElem?_eq_getElem _
          have a2 : atI u (0 + (i' : Int) + 2) = some ((u)[i' + 2]'hb) := by rw [atI_nat' (j := i' + 2) (by omega)]; exact List.getElem?_eq_getElem _
          have lz : (mk u).length ≤ sizeLine := by rw [mk_len, sizeLine_eq]; omega
          have es : spot u i' = (decide ((u)[i']'(by omega) = (u)[i' + 2]'hb) && decide ((u)[i' + 1]'(by omega) = cp ((u)[i']'(by omega)))) := by
            unfold spot
            rw [List.getElem?_eq_getElem hb, List.getElem?_eq_getElem (by omega : i' + 1 < (u).length), List.getElem?_eq_getElem (by omega : i' < (u).length)]
            simp only [Option.map_some, Option.some.injEq, Bool.decide_and]
          refine ⟨rfl, _, rfl, _, rfl, mk u, _, _, rfl, rfl, lz, by rw [mk_cps]; exact a0, _, rfl, _, rfl, _, _, rfl, rfl, mk u, _, _, rfl, rfl, lz, by rw [mk_cps]; exact a2, rfl, _, rfl, ?_⟩
          rw [eq_sg]
          by_cases h1 : (u)[i']'(by omega) = (u)[i' + 2]'hb
          · rw [decide_eq_true h1]
            refine iteT ⟨_, rfl, _, rfl, _, _, rfl, rfl, mk u, _, _, rfl, rfl, lz, by rw [mk_cps]; exact a1, _, rfl, _, rfl, mk u, _, _, rfl, rfl, lz, by rw [mk_cps]; exact a0, _, rfl, hle2.steps _ (List.getElem_mem _), rfl, _, rfl, ?_⟩
            rw [eq_sg]
            by_cases h2 : (u)[i' + 1]'(by omega) = cp ((u)[i']'(by omega))
            · rw [decide_eq_true h2]
              refine iteT ⟨_, rfl, ?_⟩
              exact ky (i' : Int) (by rw [es, decide_eq_true h1, decide_eq_true h2] <;> rfl) _ I5 H5' (Grow.refl g5.sub) (by show V.int (0 + (i' : Int)) = V.int i'; rw [Int.zero_add])
            · rw [decide_eq_false h2]
              exact iteF (kn (by rw [es, decide_eq_false h2, Bool.and_false] <;> rfl) I5 H5' (Grow.refl g5.sub))
          · rw [decide_eq_false h1]
            exact kn (by rw [es, decide_eq_false h1, Bool.false_and] <;> rfl) I5 H5' (Grow.refl g5.sub)
        · intro J6 M6 vs6 h6 ow6 hp6
          have e6 := Paired.ints hp6
          exact ⟨J6, u, L, _, hl2, rfl, hle2, g79.trans h6.no, by rw [ow6.at_, e6] <;> rfl, d9.not hL, (d9.grow h6).mono (by omega)⟩
end
end Nw

namespace Nw
open PySem PySem.Spec PyProof.Rows L2
/-! ### what is no row -/
def rowD : Dat → Bool
  | .str l => isRowL l
  | _ => false
theorem isD.row {K : PySem.W.Frag} {I : Hp} {v : V} {l : List Nat} (h : isD K I v (.str l)) : v = .str (mk l) ∧ l.length ≤ 100000 := by
  cases h with
  | str _ h => exact ⟨rfl, h⟩
/-- an error without fields goes out -/
def out0 (C : Addr) (E : XK) (I H : Hp) : Prop := ∀ I' H', Grow No I H I' H' → E (.ref C) none H'
def spb_is_row (K : PySem.W.Frag) : Sp := fun vs H Q _ => ∃ (I : Hp) (v : V) (x : Dat), vs = [v] ∧ isD K I v x ∧ Same I H ∧ ∀ I' H', Grow No I H I' H' → Q (.bl (rowD x)) H'
def spb_need_row (K : PySem.W.Frag) : Sp := fun vs H _ E => ∃ (I : Hp) (v : V) (x : Dat), vs = [v] ∧ isD K I v x ∧ rowD x = false ∧ Same I H ∧ out0 (He.ga K "NoRow") E I H
def spb_mirrored (K : PySem.W.Frag) : Sp := spb_need_row K
def spb_reduced (K : PySem.W.Frag) : Sp := spb_need_row K
theorem pss_nv {X : Cx} {l : List Stmt} : PSs X l (fun _ _ _ => False) := ⟨fun _ _ _ _ _ _ h => h.elim⟩
section
variable {P : Program} {w : World} {K : PySem.W.Frag} {mg : Str → Option Value} {base : Heap}
theorem okb_is_row (T : Txt K mg) (F : FnAt K "is_row" "is_row" s_is_row (He.ga K "is_row"))  : Ok P w K mg base (L2.CX P w) 1 (He.ga K "is_row") ["thing"] (spb_is_row K) := by
  refine ok_ofX F sc_is_row (fun _ _ _ _ _ _ us hl => match us, hl with | [_], _ => rfl) (fun vs H Q E h => ?_) (fun cdv A outer s H vs Q E hr h => ?_)
  · obtain ⟨_, _, _, rfl, _⟩ := h
    rfl
  · obtain ⟨I, v, x, rfl, hx, sb, k⟩ := h
    refine ⟨_, (pss_one (ps_ret (pe_and (pe_callB call_isi (by rfl) T.b_isinstance (by decide +kernel) (pa_cons (pv 0) (pa_cons (pe_bltn (v := .ty "str") rfl T.b_str (by decide +kernel) rfl) pa_nil))) (pe_and (pe_cmpR op_le (pe_callB call_len_str (by rfl) T.b_len (by decide +kernel) (pa_cons (pv 0) pa_nil)) (pe_gint T.c_MOST_STEPS) (nomark _)) (pe_one (pe_callB (cr_all rfl) (by rfl) T.b_all (by decide +kernel) (pa_cons (pe_lc (own := [("step", 1)]) (g := (gName 1)) rfl sc_is_row.nd (pi_str (pv 0)) (blkOk_by (own := [("step", 1)]) (N := n_is_row) (sc := defScope s_is_row) (by decide +kernel)) (fun _ _ _ _ _ => (pg_name (i := 1) sc_is_row.nd rfl (Or.inl rfl))) (fun _ _ _ _ _ => pts_nil) (fun _ _ _ _ _ => (pe_cmpR op_in_sign (pv 1) (pe_gstr T.c_STEPS) rfl))) pa_nil))))))), ?_⟩
    obtain ⟨t, ty, k1, k2⟩ := hx.ty sb
    refine ⟨_, rfl, v, .ty "str", _, _, x.isStr, rfl, .ty _, ty, k1, x.isStr, rfl, ?_⟩
    match x, hx, k with
    | .str l, hx, k =>
      obtain ⟨rfl, hz⟩ := hx.row
      refine iteT ⟨_, rfl, mk l, rfl, by rw [mk_len, sizeLine_eq]; omega, _, _, rfl, rfl, _, rfl, ?_⟩
      refine ite2 (fun c => ?_) (fun c => ?_)
      · have c60 : l.length ≤ 60 := by
          have c1 := of_decide_eq_true c
          rw [mk_len] at c1
          omega
        refine ⟨_, rfl, _, rfl, fun L hL => ?_⟩
        refine lc_pure (β := Bool) (walk_str (z := mk l)) l (fun c => some (isStep c)) (by simp [mk]) sb hL (by show (mk l).length ≤ _; rw [mk_len]; omega) (fun _ _ _ => trivial) ?_ ?_
        · rintro i c' x I' H' H'' hc' g ⟨rfl, c, hc, rfl⟩ Kn Ky kn ky
          have ec : c = c' := by simpa [mk, hc'] using hc.symm
          subst ec
          refine ⟨rfl, lc_yes ?_⟩
          refine ⟨_, rfl, c, _, rfl, rfl, ?_⟩
          rw [in_steps]
          exact ky _ rfl _ I' H'' (Grow.refl g.sub) rfl
        · intro I1 H1 vs1 g1 ow hp
          have e2 := Paired.bls hp
          rw [fm_some] at e2
          subst e2
          refine ⟨L, _, rfl, SqL.of ow.at_, ?_⟩
          have e3 : (l.map isStep).all id = isRowL l := by
            unfold isRowL
            rw [decide_eq_true c60, Bool.true_and, List.all_map]
            rfl
          rw [e3]
          exact k I1 H1 g1
      · have c1 : isRowL l = false := by
          unfold isRowL
          rw [mk_len] at c
          rw [decide_eq_false (fun z => c (decide_eq_true (by omega))), Bool.false_and]
        have z := k I H (Grow.refl sb)
        rw [show rowD (.str l) = false from c1] at z
        exact z
    | .non, _, k => exact iteF (k I H (Grow.refl sb))
    | .bl _, _, k => exact iteF (k I H (Grow.refl sb))
    | .int _, _, k => exact iteF (k I H (Grow.refl sb))
    | .tup _, _, k => exact iteF (k I H (Grow.refl sb))
    | .lst, _, k => exact iteF (k I H (Grow.refl sb))
    | .dic, _, k => exact iteF (k I H (Grow.refl sb))
    | .obj, _, k => exact iteF (k I H (Grow.refl sb))
theorem okb_need_row (T : Txt K mg) (F : FnAt K "need_row" "need_row" s_need_row (He.ga K "need_row")) (GX_is_row : Ok P w K mg base (L2.CX P w) 1 (He.ga K "is_row") ["thing"] (fun vs H Q E => sp_is_row K vs H Q E ∨ spb_is_row K vs H Q E)) : Ok P w K mg base (L2.CX P w) 2 (He.ga K "need_row") ["row"] (spb_need_row K) := by
  refine ok_ofX F sc_need_row (fun _ _ _ _ _ _ us hl => match us, hl with | [_], _ => rfl) (fun vs H Q E h => ?_) (fun cdv A outer s H vs Q E hr h => ?_)
  · obtain ⟨_, _, _, rfl, _⟩ := h
    rfl
  · obtain ⟨I, v, x, rfl, hx, hn, sb, k⟩ := h
    refine ⟨_, (pss_one (ps_if (pt_not (pt_val (pe_callX GX_is_row (hr.mono (by decide)) T.g_is_row passE (pa_cons (pv 0) pa_nil)))) (pss_one (ps_raise rfl (takes_of rfl rfl rfl rfl) (pmk_own PySem.F.excBase_ValueError T.xp_NoRow.1 T.g_NoRow T.xp_NoRow.2.1 (raises_own T.xp_NoRow.2.2.1 T.xp_NoRow.2.2.2) rfl))) pss_nil)), ?_⟩
    refine ⟨_, rfl, .inr ⟨I, v, x, rfl, hx, sb, fun I' H' g => ⟨rowD x, rfl, ?_⟩⟩⟩
    rw [hn]
    exact iteT (k I' H' g)
theorem okb_mirrored (T : Txt K mg) (F : FnAt K "mirrored" "mirrored" s_mirrored (He.ga K "mirrored")) (GX_need_row : Ok P w K mg base (L2.CX P w) 2 (He.ga K "need_row") ["row"] (fun vs H Q E => sp_need_row K vs H Q E ∨ spb_need_row K vs H Q E)) (G_turned_row : Ok P w K mg base CX0 2 (He.ga K "turned_row") ["row"] (sp_turned_row K)) : Ok P w K mg base (L2.CX P w) 3 (He.ga K "mirrored") ["row"] (spb_mirrored K) := by
  refine ok_ofX F sc_mirrored (fun _ _ _ _ _ _ us hl => match us, hl with | [_], _ => rfl) (fun vs H Q E h => ?_) (fun cdv A outer s H vs Q E hr h => ?_)
  · obtain ⟨_, _, _, rfl, _⟩ := h
    rfl
  · obtain ⟨I, v, x, rfl, hx, hn, sb, k⟩ := h
    refine ⟨_, (pss_cons (ps_expr (pe_callX GX_need_row (hr.mono (by decide)) T.g_need_row passE (pa_cons (pv 0) pa_nil)))
      (pss_one (ps_ret (pe_callC G_turned_row (hr.mono (by decide)) T.g_turned_row (pa_cons (pv 0) pa_nil))))), ?_⟩
    exact ⟨_, rfl, .inr ⟨I, v, x, rfl, hx, hn, sb, k⟩⟩
theorem okb_reduced (T : Txt K mg) (F : FnAt K "reduced" "reduced" s_reduced (He.ga K "reduced")) (GX_need_row : Ok P w K mg base (L2.CX P w) 2 (He.ga K "need_row") ["row"] (fun vs H Q E => sp_need_row K vs H Q E ∨ spb_need_row K vs H Q E)) (G_counterpart : Ok P w K mg base CX0 1 (He.ga K "counterpart") ["step"] (sp_counterpart K)) : Ok P w K mg base (L2.CX P w) 3 (He.ga K "reduced") ["row"] (spb_reduced K) := by
  refine ok_ofX F sc_reduced (fun _ _ _ _ _ _ us hl => match us, hl with | [_], _ => rfl) (fun vs H Q E h => ?_) (fun cdv A outer s H vs Q E hr h => ?_)
  · obtain ⟨_, _, _, rfl, _⟩ := h
    rfl
  · obtain ⟨I, v, x, rfl, hx, hn, sb, k⟩ := h
    refine ⟨_, (pss_cons (ps_expr (pe_callX GX_need_row (hr.mono (by decide)) T.g_need_row passE (pa_cons (pv 0) pa_nil))) pss_nv), ?_⟩
    exact ⟨_, rfl, .inr ⟨I, v, x, rfl, hx, hn, sb, k⟩⟩
end
end Nw

namespace Nw
open PySem PySem.Spec PyProof.Rows L2
/-! ### the law's own look at errors -/
def tAny (te : TE) : TS := fun D σ H => ∃ Kx : VK, (∀ v H', Kx v H' → D.nx σ H') ∧ te σ H Kx
theorem ps_any {X : Cx} {e : Expr} {te : TE} {pos : Pos} (he : PE X e te) (hs : swapsWith e none pos.line X.env = pure false := by rfl) : PS X (.Expr e pos) (tAny te) := by
  refine ⟨fun pins s σ H D I h => ?_⟩
  obtain ⟨Kx, h1, h2⟩ := h
  exact (ps_expr (te := fun σ H Q => (∀ v H', Kx v H' → Q v H') ∧ te σ H Kx) ⟨fun pins s σ H Q I h => wpAny_mono (he.run pins s σ H Kx I h.2) (fun v s1 ⟨x, H1, I1, r1, q1⟩ => ⟨x, H1, I1, r1, h.1 _ _ q1⟩) fun _ _ z => z⟩ hs).run pins s σ H D I ⟨fun v H' z => h1 v H' z, h2⟩
theorem gives_l_told {K : PySem.W.Frag} {mg : Str → Option Value} (T : Txt K mg) {X : Cx} {g : Addr} {cdg : Value} {q : Str} (hK : X.K = K) (hm : X.mg = mg) : LamX.GivesTo X n_l_told "_law_told" (defScope s_l_told) g cdg (defBody s_l_told) "_law_work" q (TTo K (He.ga K "OrderError")) := by
  subst hK
  subst hm
  intro f c' s H Q tl act hc h
  refine ⟨_, pss_cons (ps_set (i := 1) sc_l_told.nd rfl (Or.inl rfl) pe_non) (pss_cons
      (ps_try_keep (X := (cxOf C8.CX0 X.prog X.w X.K X.mg X.base n_l_told "_law_told" (defScope s_l_told) g cdg X.A X.stack s H C8.E0).nox) (i := 2) (c := .ref (He.ga X.K "OrderError"))
        (tb := fun W D σ H => ∃ Ech : XK, (∀ cls d H', Ech cls d H' → EW 3 W cls d H') ∧ ∃ Kx : VK, (∀ v H', Kx v H' → D.nx σ H') ∧ σ[0]? = some (some (.ref f)) ∧ H c' = some (LamX.CodeO c' q) ∧ tl Ech H Kx)
        (ts := fun a cls d D σ H => tVar 2 σ H fun v H1 => D.nx (σ.set 1 (some v)) H1)
        rfl rfl rfl sc_l_told.nd rfl rfl ⟨rfl, by decide, .inl T.g_OrderError⟩ (fun W pn xe tk => ?_) (fun a oe cls d pn z vs => pss_one (ps_set (i := 1) sc_l_told.nd rfl (Or.inl rfl) (pv 2))))
      (pss_one (ps_ret (pv 1)))), ?_⟩
  · refine ⟨fun pins s' σ H' D I h' => ?_⟩
    obtain ⟨Ech, hW, Kx, hk, h1, h2, h3⟩ := h'
    exact (pss_one (ps_any (act _ pn xe Ech _ _ (Nw.Takes.len tk) fun cls d σ' H' z hl => hW cls d H' z σ' hl))).run pins s' σ H' D I ⟨Kx, hk, h1, h2, h3⟩
  · refine ⟨EO X.K (He.ga X.K "OrderError") Q, fun cls d H' ⟨z1, z2⟩ σ hl => ⟨z1, fun a ha => ?_⟩, fun _ H2 => Q .non H2, fun _ H' z => ⟨_, rfl, z⟩, rfl, hc, h⟩
    match σ, hl with
    | [x, y, z], _ => exact ⟨_, rfl, _, rfl, z2 a ha⟩
end Nw

namespace Nw
open PySem PySem.Spec PyProof.Rows L2
theorem rowL_of {l : List Nat} (h : l.length ≤ 60) (hs : ∀ c ∈ l, isStep c = true) : isRowL l = true := by
  unfold isRowL
  rw [Bool.and_eq_true]
  exact ⟨decide_eq_true h, List.all_eq_true.mpr hs⟩
theorem len_turned (l : List Nat) : (turnedL l).length = l.length := by simp [turnedL]
theorem turnedL_twice {l : List Nat} (h : ∀ c ∈ l, isStep c = true) : turnedL (turnedL l) = l := by
  unfold turnedL
  rw [← List.map_reverse, List.reverse_reverse, List.map_map]
  have e : l.map (cp ∘ cp) = l.map id := List.map_congr_left fun c hc => cp_cp (h c hc)
  rw [e, List.map_id]
/-! ### the law's own values -/
def signsS : Str := " !$&'()*+,-./0123456789:;<=>?@EFGHIJKLMNOPQRSTUVWXYZ[]^_`efghijklmnopqrstuvwxyz{|}~"
def signsL : List Nat := signsS.cps.toList
theorem signs_mk : mk signsL = signsS := by simp [mk, signsL]
theorem signs_ok : ∀ c ∈ signsL, isStep c = false := by
  have h : signsL.all (fun c => !isStep c) = true := by decide +kernel
  intro c hc
  have z := List.all_eq_true.mp h c hc
  simpa using z
theorem signs_len : signsL ≠ [] ∧ signsL.length ≤ 1000 := by
  have h : signsL.length = 84 ∨ signsL.length ≠ 84 := Classical.em _
  have h1 : 0 < signsL.length := by decide +kernel
  have h2 : signsL.length ≤ 1000 := by decide +kernel
  exact ⟨List.length_pos_iff.mp h1, h2⟩
theorem no_long {l : List Nat} (h : 60 < l.length) : isRowL l = false := by
  unfold isRowL
  rw [decide_eq_false (by omega), Bool.false_and]
theorem no_sign {l : List Nat} {c : Nat} (hc : c ∈ l) (h : isStep c = false) : isRowL l = false := by
  unfold isRowL
  have e : l.all isStep = false := by
    rw [List.all_eq_false]
    exact ⟨c, hc, by rw [h]; exact fun z => nomatch z⟩
  rw [e, Bool.and_false]
def muchL : List (List Nat) := [[97, 65], [97, 98, 67], [100, 68], [66, 98, 97]]
theorem much_ok : ∀ m ∈ muchL, m ≠ [] ∧ m.length ≤ 3 ∧ 2 ≤ m.length ∧ ∀ c ∈ m, isStep c = true := by decide
theorem rep_len (k : Nat) (m : List Nat) : (List.replicate k m).flatten.length = k * m.length := by simp
theorem rep_mem {k : Nat} {m : List Nat} {c : Nat} (h : c ∈ (List.replicate k m).flatten) : c ∈ m := by
  obtain ⟨l, hl, hc⟩ := List.mem_flatten.mp h
  rw [(List.mem_replicate.mp hl).2] at hc
  exact hc
def nearL : List (List Nat) := [[97, 65, 97], [65, 97, 65], [97, 65, 97, 65, 97, 65, 97], [98, 65, 97, 65, 66], [97, 98, 66, 65]]
theorem near_ok : ∀ m ∈ nearL, m.length ≤ 7 ∧ ∀ c ∈ m, isStep c = true := by decide
theorem kv_cat {l : List Nat} {c : Nat} : mk l ++ sg c = mk (l ++ [c]) := by rw [← mk_sg, mk_app]
theorem kv_cat2 {l : List Nat} {c : Nat} : sg c ++ mk l = mk (c :: l) := by rw [← mk_sg, mk_app]; rfl
def sp_law (K : PySem.W.Frag) : Sp := fun vs H Q _ => ∃ (I : Hp) (a : Addr) (ns : List Int), vs = [.ref a] ∧ Same I H ∧ noTb I ∧ LamX.Tabs [(He.tabOf K (He.codeOf K ("law", none)), "law.<locals>.<lambda>")] H ∧ SqL K I a (ns.map V.int) ∧ ns.length ≤ 63 ∧ ∀ H', Q (.bl true) H'
section
variable {P : Program} {w : World} {K : PySem.W.Frag} {mg : Str → Option Value} {base : Heap}
theorem ok_l_right (T : Txt K mg) (F : FnAt K "_law_right" "_law_right" s_l_right (He.ga K "_law_right")) (G_l_other : Ok P w K mg base CX0 1 (He.ga K "_law_other") ["_law_step"] (sp_l_other K)) (G_l_less : Ok P w K mg base CX0 3 (He.ga K "_law_less") ["_law_draw", "_law_text"] (sp_l_less K)) (G_is_row : Ok P w K mg base CX0 1 (He.ga K "is_row") ["thing"] (sp_is_row K)) (G_mirrored : Ok P w K mg base CX0 3 (He.ga K "mirrored") ["row"] (sp_mirrored K)) (G_reduced : Ok P w K mg base CX0 3 (He.ga K "reduced") ["row"] (sp_reduced K)) : Ok P w K mg base CX0 5 (He.ga K "_law_right") ["_law_draw", "_law_text"] (sp_l_right K) := by
  refine ok_of F sc_l_right (fun _ _ _ _ _ _ us hl => match us, hl with | [_, _], _ => rfl) (fun vs H Q E h => ?_) (fun cdv A outer s H vs Q E hr h => ?_)
  · obtain ⟨_, _, _, _, rfl, _⟩ := h
    rfl
  · obtain ⟨I, D, n, l, rfl, dr, hn, hrow, k⟩ := h
    refine ⟨_, (pss_cons (ps_set (i := 2) sc_l_right.nd rfl (Or.inl rfl) (pe_join pe_str (pe_lc (own := [("_law_step", 4)]) (g := (gName 4)) rfl sc_l_right.nd (pi_str (pe_revS (pv 1))) (blkOk_by (own := [("_law_step", 4)]) (N := n_l_right) (sc := defScope s_l_right) (by decide +kernel)) (fun _ _ _ _ _ => (pg_name (i := 4) sc_l_right.nd rfl (Or.inl rfl))) (fun _ _ _ _ _ => pts_nil) (fun _ _ _ _ _ => (pe_callC G_l_other (hr.mono (by decide)) T.g__law_other (pa_cons (pv 4) pa_nil))))))
      (pss_cons (ps_if (PW.pt (pw_or (pt_cmpR op_notBl (pe_callC G_is_row (hr.mono (by decide)) T.g_is_row (pa_cons (pv 1) pa_nil)) pe_bl (nomark _)) (pw_or (pt_cmpR op_ne (pe_callC G_mirrored (hr.mono (by decide)) T.g_mirrored (pa_cons (pv 1) pa_nil)) (pv 2) (nomark _)) (pw_or1 (pt_cmpR op_ne (pe_callC G_mirrored (hr.mono (by decide)) T.g_mirrored (pa_cons (pv 2) pa_nil)) (pv 1) (nomark _)))))) (pss_one (ps_ret pe_bl)) pss_nil)
      (pss_cons (ps_set (i := 3) sc_l_right.nd rfl (Or.inl rfl) (pe_callC G_l_less (hr.mono (by decide)) T.g__law_less (pa_cons (pv 0) (pa_cons (pv 1) pa_nil))))
      (pss_cons (ps_if (PW.pt (pw_or (pt_cmpR op_ne (pe_callC G_reduced (hr.mono (by decide)) T.g_reduced (pa_cons (pv 1) pa_nil)) (pv 3) (nomark _)) (pw_or1 (pt_cmpR op_ne (pe_callC G_reduced (hr.mono (by decide)) T.g_reduced (pa_cons (pv 3) pa_nil)) (pv 3) (nomark _))))) (pss_one (ps_ret pe_bl)) pss_nil)
      (pss_one (ps_ret (pe_cmpR op_eq (pe_callC G_reduced (hr.mono (by decide)) T.g_reduced (pa_cons (pv 2) pa_nil)) (pe_callC G_mirrored (hr.mono (by decide)) T.g_mirrored (pa_cons (pv 3) pa_nil)) (nomark _)))))))), ?_⟩
    have hr2 := row_steps hrow
    have hl := hr2.1
    have sb := dr.sub
    have hrowT := turned_row hrow
    refine ⟨⟨_, rfl⟩, _, rfl, l, rfl, by omega, _, rfl, fun L hL => ?_⟩
    refine lc_pure (β := Str) (walk_str (z := mk l.reverse)) l.reverse (fun c => some (sg (cp c))) (by simp [mk]) sb hL (by show (mk l.reverse).length ≤ _; rw [mk_len, List.length_reverse]; omega) (fun _ _ _ => trivial) ?_ ?_
    · rintro i c' x I' H' H'' hc' g ⟨rfl, c, hc, rfl⟩ Kn Ky kn ky
      have ec : c = c' := by simpa [mk, hc'] using hc.symm
      subst ec
      refine ⟨rfl, lc_yes ?_⟩
      refine ⟨_, rfl, c, rfl, hr2.2 c (List.mem_reverse.mp (List.mem_of_getElem? hc')), ?_⟩
      exact ky _ rfl _ I' H'' (Grow.refl g.sub) rfl
    · intro I1 H1 vs1 g1 ow hp
      have e2 := Paired.strs hp
      rw [fm_some] at e2
      have e3 : l.reverse.map (fun c => sg (cp c)) = (turnedL l).map sg := by
        unfold turnedL
        rw [List.map_map]
        rfl
      rw [e3] at e2
      subst e2
      refine ⟨_, L, (turnedL l).map sg, rfl, rfl, .inl (SqL.of ow.at_), ?_, ?_⟩
      · have e4 : ((turnedL l).map sg).map (·.length) = (turnedL l).map (fun _ => 1) := by rw [List.map_map]; rfl
        rw [e4]
        have e5 : ((turnedL l).map (fun _ => 1)).sum = l.length := by
          rw [sum_ones]
          simp [turnedL]
        rw [e5]
        show l.length + ((turnedL l).map sg).length * 0 ≤ 16777216
        omega
      rw [join_signs]
      have d1 := dr.grow g1
      refine ⟨_, rfl, I1, l, rfl, by omega, d1.sub, fun I2 H2 g2 => ?_⟩
      have d2 := d1.grow g2
      rw [hrow]
      refine ⟨_, _, rfl, rfl, false, rfl, iteF ?_⟩
      refine ⟨_, rfl, I2, l, rfl, hrow, d2.sub, fun I3 H3 g3 => ⟨_, rfl, rfl, false, by rw [decide_eq_true rfl] <;> rfl, iteF ?_⟩⟩
      have d3 := d2.grow g3
      refine ⟨_, rfl, I3, turnedL l, rfl, hrowT, d3.sub, fun I4 H4 g4 => ?_⟩
      have d4 := d3.grow g4
      rw [turnedL_twice hr2.2]
      refine ⟨_, rfl, rfl, false, by rw [decide_eq_true rfl] <;> rfl, iteF ?_⟩
      refine ⟨_, rfl, _, rfl, I4, D, n, l, rfl, d4, hn, by omega, hr2.2, fun t I5 H5 hle hno g5 d5 => ?_⟩
      obtain ⟨r1, r2, r3⟩ := hle.done hno
      have hrowt : isRowL t = true := rowL_of (by have := hle.len; omega) hle.steps
      refine ⟨_, rfl, I5, l, rfl, hrow, d5.sub, fun I6 H6 g6 => ?_⟩
      have d6 := d5.grow g6
      rw [r1]
      refine ⟨_, rfl, rfl, false, by rw [decide_eq_true rfl] <;> rfl, iteF ?_⟩
      refine ⟨_, rfl, I6, t, rfl, hrowt, d6.sub, fun I7 H7 g7 => ?_⟩
      have d7 := d6.grow g7
      rw [r2]
      refine ⟨_, rfl, rfl, false, by rw [decide_eq_true rfl] <;> rfl, iteF ?_⟩
      refine ⟨_, rfl, I7, turnedL l, rfl, hrowT, d7.sub, fun I8 H8 g8 => ?_⟩
      have d8 := d7.grow g8
      rw [r3]
      refine ⟨_, rfl, I8, t, rfl, hrowt, d8.sub, fun I9 H9 g9 => ⟨rfl, ?_⟩⟩
      show Q (.bl (decide (V.str (mk (turnedL t)) = V.str (mk (turnedL t))))) H9
      rw [decide_eq_true rfl]
      exact k I9 H9 (((g1.trans g2).trans (g3.trans g4)).no.trans (g5.trans (g6.trans (g7.trans (g8.trans g9))).no)) (d8.grow g9)
theorem ok_law (T : Txt K mg) {fd : FuncData} (F : FunD K "law" "law" (defArgs s_law) (defBody s_law) (defScope s_law) [] [] (He.ga K "law") fd) (G_l_begun : Ok P w K mg base CX0 1 (He.ga K "_law_begun") ["_law_script"] (sp_l_begun K)) (G_l_row : Ok P w K mg base CX0 3 (He.ga K "_law_row") ["_law_draw", "_law_letters", "_law_many"] (sp_l_row K)) (G_l_some : Ok P w K mg base CX0 3 (He.ga K "_law_some") ["_law_draw", "_law_many"] (sp_l_some K)) (G_l_pick : Ok P w K mg base CX0 2 (He.ga K "_law_pick") ["_law_draw", "_law_some_here"] (sp_l_pick K)) (G_l_next : Ok P w K mg base CX0 1 (He.ga K "_law_next") ["_law_draw", "_law_many"] (sp_l_next K)) (G_l_right : Ok P w K mg base CX0 5 (He.ga K "_law_right") ["_law_draw", "_law_text"] (sp_l_right K)) (G_Link__init : Ok P w K mg base CX0 3 (He.ma K (He.ga K "Link") "__init__") ["self", "rides"] (sp_Link__init K)) (GX_is_row : Ok P w K mg base (L2.CX P w) 1 (He.ga K "is_row") ["thing"] (fun vs H Q E => sp_is_row K vs H Q E ∨ spb_is_row K vs H Q E)) (GX_mirrored : Ok P w K mg base (L2.CX P w) 3 (He.ga K "mirrored") ["row"] (fun vs H Q E => sp_mirrored K vs H Q E ∨ spb_mirrored K vs H Q E)) (GX_reduced : Ok P w K mg base (L2.CX P w) 3 (He.ga K "reduced") ["row"] (fun vs H Q E => sp_reduced K vs H Q E ∨ spb_reduced K vs H Q E)) (TB : LamX.TabB base mg (He.codeOf K ("law", none)) (He.tabOf K (He.codeOf K ("law", none)))) (F_l_told : FnAt K "_law_told" "_law_told" s_l_told (He.ga K "_law_told")) : FnOk P w K mg base CX0 8 (He.ga K "law") fd ["_law_script"] (sp_law K) := by
  refine okd_ofL F sc_law (fun vs H Q E h => ?_) (fun cdv A outer s H vs Q E hc hr h => ?_)
  · obtain ⟨_, _, _, rfl, _⟩ := h
    rfl
  · obtain ⟨I, a, ns, rfl, sb, hnt, hTb, hS, hl, k⟩ := h
    refine ⟨_, (pss_cons (ps_set (i := 1) sc_law.nd rfl (Or.inl rfl) (pe_callC G_l_begun (hr.mono (by decide)) T.g__law_begun (pa_cons (pv 0) pa_nil)))
      (pss_cons (ps_for PassesOwn.never rfl (pi_range1 rfl T.b_range (pa_cons pe_int pa_nil)) (pg_name (i := 2) sc_law.nd rfl (Or.inl rfl)) (pss_cons (ps_set (i := 3) sc_law.nd rfl (Or.inl rfl) (pe_callC G_l_row (hr.mono (by decide)) T.g__law_row (pa_cons (pv 1) (pa_cons (pe_callC G_l_some (hr.mono (by decide)) T.g__law_some (pa_cons (pv 1) (pa_cons pe_int pa_nil))) (pa_cons pe_int pa_nil)))))
      (pss_cons (ps_set (i := 4) sc_law.nd rfl (Or.inl rfl) (pe_callC G_l_pick (hr.mono (by decide)) T.g__law_pick (pa_cons (pv 1) (pa_cons (pe_lst (pa_cons pe_str (pa_cons pe_str (pa_cons pe_str (pa_cons pe_str (pa_cons pe_str pa_nil)))))) pa_nil))))
      (pss_cons (ps_set (i := 5) sc_law.nd rfl (Or.inl rfl) (pe_callC G_l_next (hr.mono (by decide)) T.g__law_next (pa_cons (pv 1) (pa_cons (pe_op op_add (pe_callB call_len_str (by rfl) T.b_len (by decide +kernel) (pa_cons (pv 3) pa_nil)) pe_int) pa_nil))))
      (pss_one (ps_if (PW.pt (pw_or (pt_not (pt_val (pe_callC G_l_right (hr.mono (by decide)) T.g__law_right (pa_cons (pv 1) (pa_cons (pv 3) pa_nil))))) (pw_or1 (pt_not (pt_val (pe_callC G_l_right (hr.mono (by decide)) T.g__law_right (pa_cons (pv 1) (pa_cons (pe_op op_add_str (pe_op op_add_str (pe_slice sl_str (pv 3) po_none (po_some (pv 5))) (pv 4)) (pe_slice sl_str (pv 3) (po_some (pv 5)) po_none)) pa_nil)))))))) (pss_one (ps_ret pe_bl)) pss_nil))))))
      (pss_cons (ps_set (i := 6) sc_law.nd rfl (Or.inl rfl) (pe_op op_mulS (pe_callC G_l_pick (hr.mono (by decide)) T.g__law_pick (pa_cons (pv 1) (pa_cons (pe_lst (pa_cons pe_str (pa_cons pe_str (pa_cons pe_str (pa_cons pe_str pa_nil))))) pa_nil))) pe_int))
      (pss_cons (ps_for PassesOwn.never rfl (pi_tup (pe_tup (pa_cons pe_int (pa_cons pe_int pa_nil)))) (pg_name (i := 7) sc_law.nd rfl (Or.inl rfl)) (pss_one (ps_if (pt_not (pt_val (pe_callC G_l_right (hr.mono (by decide)) T.g__law_right (pa_cons (pv 1) (pa_cons (pe_slice sl_str (pe_op op_mulS (pv 6) pe_int) po_none (po_some (pv 7))) pa_nil))))) (pss_one (ps_ret pe_bl)) pss_nil)))
      (pss_cons (ps_set (i := 8) sc_law.nd rfl (Or.inl rfl) pe_str)
      (pss_cons (ps_set (i := 9) sc_law.nd rfl (Or.inl rfl) (pe_lst (pa_cons (pe_slice sl_str (pe_op op_mulS (pv 6) pe_int) po_none (po_some pe_int)) (pa_cons (pe_op op_add_str (pv 3) (pe_callC G_l_pick (hr.mono (by decide)) T.g__law_pick (pa_cons (pv 1) (pa_cons (pv 8) pa_nil)))) (pa_cons (pe_op op_add_str (pe_callC G_l_pick (hr.mono (by decide)) T.g__law_pick (pa_cons (pv 1) (pa_cons (pv 8) pa_nil))) (pv 3)) (pa_cons (pe_callTy (call_list_sg rfl) (by rfl) T.b_list (by decide +kernel) (pa_cons pe_str pa_nil)) (pa_cons (pe_tup (pa_cons pe_str pa_nil)) (pa_cons pe_non (pa_cons pe_int pa_nil)))))))))
      (pss_cons (ps_for PassesOwn.never rfl (pi_list (pe_op op_cat (pv 9) (pe_lst (pa_cons pe_bl (pa_cons pe_dnewK (pa_cons (pe_lst (pa_cons (pe_lst (pa_cons pe_str pa_nil)) pa_nil)) (pa_cons (pe_op op_pow pe_int pe_int) (pa_cons (pe_makeC T.mk_Link G_Link__init (hr.mono (by decide)) T.g_Link (pa_cons (pe_lst pa_nil) pa_nil)) (pa_cons pe_str (pa_cons pe_str pa_nil)))))))))) (pg_name (i := 10) sc_law.nd rfl (Or.inr rfl)) (pss_cons (ps_if (PW.pt (pw_or (pt_cmpR op_notBl (pe_callX GX_is_row (hr.mono (by decide)) T.g_is_row passN (pa_cons (pv 10) pa_nil)) pe_bl (nomark _)) (pw_or1 (pt_not (pt_val (pe_callB call_isV (by rfl) T.b_isinstance (by decide +kernel) (pa_cons (pe_told (k := 5) (t := _) F_l_told sc_l_told T.g__law_told (fun _ => gives_l_told T rfl rfl) TB hc rfl (hr.mono (by decide)) (LamX.lamS_by (show LamX.lamSB (defScope s_law) _ = true by decide +kernel)) (fun A outer s H E f c2 hr => (pe_callX GX_mirrored (hr.mono (by decide)) T.g_mirrored passE (pa_cons (pv 10) pa_nil)))) (pa_cons (pe_gref T.g_NoRow) pa_nil)))))))) (pss_one (ps_ret pe_bl)) pss_nil)
      (pss_one (ps_if (pt_not (pt_val (pe_callB call_isV (by rfl) T.b_isinstance (by decide +kernel) (pa_cons (pe_told (k := 5) (t := _) F_l_told sc_l_told T.g__law_told (fun _ => gives_l_told T rfl rfl) TB hc rfl (hr.mono (by decide)) (LamX.lamS_by (show LamX.lamSB (defScope s_law) _ = true by decide +kernel)) (fun A outer s H E f c2 hr => (pe_callX GX_reduced (hr.mono (by decide)) T.g_reduced passE (pa_cons (pv 10) pa_nil)))) (pa_cons (pe_gref T.g_NoRow) pa_nil))))) (pss_one (ps_ret pe_bl)) pss_nil))))
      (pss_one (ps_ret (pe_and (pe_cmpR op_eq (pe_callX GX_mirrored (hr.mono (by decide)) T.g_mirrored passN (pa_cons pe_str pa_nil)) pe_str (nomark _)) (pe_and (pe_cmpR op_eq (pe_callX GX_reduced (hr.mono (by decide)) T.g_reduced passN (pa_cons pe_str pa_nil)) pe_str (nomark _)) (pe_one (pe_cmpR op_isBl (pe_callX GX_is_row (hr.mono (by decide)) T.g_is_row passN (pa_cons pe_str pa_nil)) pe_bl (nomark _)))))))))))))), ?_⟩
    refine ⟨_, rfl, I, a, ns, rfl, sb, hS, hl, fun D I1 H1 g1 d1 => ?_⟩
    have hlim : lim = 1099511627776 := rfl
    have s1 : LSt [(He.tabOf K (He.codeOf K ("law", none)), "law.<locals>.<lambda>")] D 0 I1 H1 := ⟨d1, g1.noTb hnt, tabs_keep hTb g1 fun _ _ _ _ z => z⟩
    revert s1
    generalize hTT : [(He.tabOf K (He.codeOf K ("law", none)), ("law.<locals>.<lambda>" : Str))] = Tb
    intro s1
    have hTT' : ∀ H', LamX.Tabs Tb H' → LamX.Tabs [(He.tabOf K (He.codeOf K ("law", none)), ("law.<locals>.<lambda>" : Str))] H' := fun H' z => by rw [hTT]; exact z
    have hTT2 : ∀ H', LamX.Tabs [(He.tabOf K (He.codeOf K ("law", none)), ("law.<locals>.<lambda>" : Str))] H' → LamX.Tabs Tb H' := fun H' z => by rw [← hTT]; exact z
    refine ⟨4, rfl, by decide, by decide, ?_⟩
    refine for_it (walk_range (lo := 0) (n := 4)) (fun i σ H' => ∃ (I' : Hp) (v2 v3 v4 v5 v6 v7 v8 v9 v10 : Option V), σ = [some (.ref a), some (.ref D.d), v2, v3, v4, v5, v6, v7, v8, v9, v10] ∧ LSt Tb D (400 * i) I' H' ∧ (0 < i → ∃ l : List Nat, v3 = some (.str (mk l)) ∧ l.length ≤ 30))
      ⟨I1, none, none, none, none, none, none, none, none, none, rfl, s1, fun z => absurd z (Nat.lt_irrefl _)⟩ (fun _ _ _ _ _ => trivial) ?_ ?_
    · rintro i x σ Hz H2 hi ⟨I2, v2, v3, v4, v5, v6, v7, v8, v9, v10, rfl, s2, _⟩ ⟨rfl, rfl⟩
      have d2 := s2.drw
      refine ⟨_, rfl, _, rfl, I2, D, 400 * i, 4, rfl, d2, by omega, by decide, by decide, fun l I3 H3 hnd hl97 hne hl4 g3 d3 => ?_⟩
      refine ⟨I3, D, _, l, 31, rfl, d3, by omega, hne, hl4, hl97, by decide, by decide, fun r H4 hr1 hr2 g4 d4 => ?_⟩
      refine ⟨_, rfl, (by decide), fun q hq => ⟨I3, D, _, _, rfl, d4.mine hq, by omega, .inl ⟨q, _, rfl, d4.not hq, upd_same, by simp, by simp, fun j xx H5 hx g5 d5 => ?_⟩⟩⟩
      obtain ⟨nr, rfl, hnr⟩ : ∃ nr, xx = V.str (mk nr) ∧ nr ∈ nearL := by
        have z := List.mem_of_getElem? hx
        simp only [List.mem_cons, List.not_mem_nil, or_false] at z
        rcases z with rfl | rfl | rfl | rfl | rfl
        · exact ⟨[97, 65, 97], rfl, by simp [nearL]⟩
        · exact ⟨[65, 97, 65], rfl, by simp [nearL]⟩
        · exact ⟨[97, 65, 97, 65, 97, 65, 97], rfl, by simp [nearL]⟩
        · exact ⟨[98, 65, 97, 65, 66], rfl, by simp [nearL]⟩
        · exact ⟨[97, 98, 66, 65], rfl, by simp [nearL]⟩
      obtain ⟨hn1, hn2⟩ := near_ok nr hnr
      refine ⟨_, rfl, _, rfl, _, rfl, by rw [mk_len, sizeLine_eq]; omega, _, _, rfl, rfl, I3, D, _, _, rfl, d5, by rw [mk_len]; omega, by rw [mk_len]; omega, by omega, fun at_ H6 h60 h61 g6 d6 => ?_⟩
      have hrs : ∀ c ∈ r, isStep c = true := fun c hc => (hr2 c hc).1
      have ga := (g3.trans g4).trans (((Grow.mine d4.sub hq).trans g5).trans g6)
      refine ⟨_, rfl, _, rfl, I3, D, _, r, rfl, d6, by omega, rowL_of (by omega) hrs, fun I7 H7 g7 d7 => ⟨true, rfl, ?_⟩⟩
      refine iteF ?_
      have ea : at_ = ((at_.toNat : Nat) : Int) := by omega
      rw [ea]
      refine ⟨_, rfl, _, rfl, _, rfl, _, rfl, _, rfl, by rw [mk_len, sizeLine_eq]; omega, _, rfl, ?_⟩
      rw [cutS_take]
      refine ⟨_, _, rfl, rfl, by rw [mk_len, mk_len, List.length_take, sizeLine_eq]; omega, ?_⟩
      rw [mk_app]
      refine ⟨_, rfl, _, rfl, _, rfl, _, rfl, by rw [mk_len, sizeLine_eq]; omega, ?_⟩
      rw [cutS_drop]
      refine ⟨_, _, rfl, rfl, by rw [mk_len, mk_len, List.length_append, List.length_take, List.length_drop, sizeLine_eq]; omega, ?_⟩
      rw [mk_app]
      refine ⟨I7, D, _, _, rfl, d7, by omega, rowL_of (by simp only [List.length_append, List.length_take, List.length_drop]; omega) (fun c hc => ?_), fun I8 H8 g8 d8 => ⟨true, rfl, iteF ?_⟩⟩
      · rcases List.mem_append.mp hc with hc | hc
        · rcases List.mem_append.mp hc with hc | hc
          · exact hrs c (List.mem_of_mem_take hc)
          · exact hn2 c hc
        · exact hrs c (List.mem_of_mem_drop hc)
      exact ⟨I8, _, _, _, _, _, _, _, _, _, rfl, s2.draw (ga.trans (g7.trans g8)) (d8.mono (by omega)), fun _ => ⟨r, rfl, by omega⟩⟩
    · rintro σ H2 ⟨I2, v2, v3, v4, v5, v6, v7, v8, v9, v10, rfl, s2, hv3⟩
      obtain ⟨l, rfl, hl30⟩ := hv3 (by decide)
      refine ⟨_, rfl, (by decide), fun q hq => ⟨I2, D, _, _, rfl, s2.drw.mine hq, by omega, .inl ⟨q, _, rfl, s2.drw.not hq, upd_same, by simp, by simp, fun j xx H3 hx g3 d3 => ?_⟩⟩⟩
      have s3 := (s2.grow (Grow.mine s2.sub hq)).draw g3 d3
      obtain ⟨m, rfl, hm⟩ : ∃ m, xx = V.str (mk m) ∧ m ∈ muchL := by
        have z := List.mem_of_getElem? hx
        simp only [List.mem_cons, List.not_mem_nil, or_false] at z
        rcases z with rfl | rfl | rfl | rfl
        · exact ⟨[97, 65], rfl, by simp [muchL]⟩
        · exact ⟨[97, 98, 67], rfl, by simp [muchL]⟩
        · exact ⟨[100, 68], rfl, by simp [muchL]⟩
        · exact ⟨[66, 98, 97], rfl, by simp [muchL]⟩
      obtain ⟨hm1, hm2, hm3, hm4⟩ := much_ok m hm
      refine ⟨m, 21, rfl, rfl, by decide, by decide, hm1, by omega, ?_⟩
      have hMl := rep_len 21 m
      have hMs : ∀ c ∈ (List.replicate 21 m).flatten, isStep c = true := fun c hc => hm4 c (rep_mem hc)
      revert hMl hMs
      generalize (List.replicate 21 m).flatten = M
      intro hMl hMs
      have hM0 : M ≠ [] := fun z => by rw [z] at hMl; simp at hMl; omega
      have h2l := rep_len 2 M
      have h2s : ∀ c ∈ (List.replicate 2 M).flatten, isStep c = true := fun c hc => hMs c (rep_mem hc)
      -- just sixty
      refine ⟨(by show 2 ≤ sizeLine; decide), fun t ht => ⟨t, rfl, ⟨_, SqT.of upd_same⟩, ?_⟩⟩
      have gt : Grow No I2 H3 _ (upd H3 t (.tup [.int 59, .int 60])) := Grow.new s3.sub ht
      have s4 := s3.grow gt
      have hIt : upd I2 t (.tup [.int 59, .int 60]) t = some (.tup [.int 59, .int 60]) := upd_same
      revert s4 hIt
      generalize upd I2 t (.tup [.int 59, .int 60]) = J
      intro s4 hIt
      refine for_it (walk_tup (K := K) (a := t) (xs := [.int 59, .int 60])) (fun i σ H' => ∃ (I' : Hp) (v7 : Option V), σ = [some (.ref a), some (.ref D.d), v2, some (.str (mk l)), v4, v5, some (.str (mk M)), v7, v8, v9, v10] ∧ LSt Tb D (2000 + 200 * i) I' H' ∧ Same J I')
        ⟨J, v7, rfl, s4.mono (by omega), Same.refl J⟩ (fun i σ H' _ ⟨I', _, _, s, sJ⟩ => SqT.of (s.sub _ _ (sJ _ _ hIt))) ?_ ?_
      · rintro i x σ Hz H5 hi ⟨I5, v7, rfl, s5, sJ⟩ ⟨rfl, hxi⟩
        have hi' : i < 2 := hi
        obtain ⟨many, rfl, hmany⟩ : ∃ many : Nat, x = .int (many : Int) ∧ many ≤ 60 := by
          match i, hxi with
          | 0, e => cases e; exact ⟨59, rfl, by decide⟩
          | 1, e => cases e; exact ⟨60, rfl, by decide⟩
          | i + 2, e => simp at e
        refine ⟨_, rfl, _, rfl, M, 2, rfl, rfl, by decide, by decide, hM0, by omega, _, rfl, _, rfl, _, rfl, by rw [mk_len, sizeLine_eq]; omega, ?_⟩
        rw [cutS_take]
        refine ⟨I5, D, _, _, rfl, s5.drw, by omega, rowL_of (by rw [List.length_take]; omega) (fun c hc => h2s c (List.mem_of_mem_take hc)), fun I6 H6 g6 d6 => ⟨true, rfl, iteF ?_⟩⟩
        exact ⟨I6, _, rfl, (s5.draw g6 d6).mono (by omega), sJ.trans g6.view⟩
      · rintro σ H5 ⟨I5, v7, rfl, s5, sJ⟩
        have s6 : LSt Tb D 2400 I5 H5 := s5
        -- what is no row
        refine ⟨_, rfl, M, 2, rfl, rfl, by decide, by decide, hM0, by omega, ?_⟩
        revert h2l h2s
        generalize (List.replicate 2 M).flatten = M2
        intro h2l h2s
        refine ⟨_, rfl, _, rfl, by rw [mk_len, sizeLine_eq]; omega, ?_⟩
        refine ⟨_, rfl, _, rfl, _, rfl, I5, D, _, _, rfl, s6.drw, by omega, .inr ⟨signsL, by rw [signs_mk] <;> rfl, signs_len.1, by have := signs_len.2; omega, fun j1 c1 H6 hc1 g6 d6 => ?_⟩⟩
        have s7 := s6.draw g6 d6
        refine ⟨_, _, rfl, rfl, by rw [mk_len]; show l.length + 1 ≤ sizeLine; rw [sizeLine_eq]; omega, ?_⟩
        refine ⟨_, rfl, _, rfl, I5, D, _, _, rfl, s7.drw, by omega, .inr ⟨signsL, by rw [signs_mk] <;> rfl, signs_len.1, by have := signs_len.2; omega, fun j2 c2 H7 hc2 g7 d7 => ?_⟩⟩
        have s8 := s7.draw g7 d7
        refine ⟨_, rfl, _, _, rfl, rfl, by rw [mk_len]; show 1 + l.length ≤ sizeLine; rw [sizeLine_eq]; omega, ?_⟩
        refine ⟨[97, 98], rfl, by decide, fun p1 hp1 => ?_⟩
        have gp1 : Grow No I5 H7 (upd I5 p1 (.lst (List.map (fun c => V.str (sg c)) [97, 98]))) (upd H7 p1 (.lst (List.map (fun c => V.str (sg c)) [97, 98]))) := Grow.new s8.sub hp1
        have a1 : upd I5 p1 (.lst (List.map (fun c => V.str (sg c)) [97, 98])) p1 = some (.lst (List.map (fun c => V.str (sg c)) [97, 98])) := upd_same
        revert gp1 a1
        generalize upd I5 p1 (.lst (List.map (fun c => V.str (sg c)) [97, 98])) = Ia
        generalize upd H7 p1 (.lst (List.map (fun c => V.str (sg c)) [97, 98])) = Ha
        intro gp1 a1
        refine ⟨(by show 1 ≤ sizeLine; decide), fun p2 hp2 => ?_⟩
        have gp2 : Grow No Ia Ha (upd Ia p2 (.tup [V.str "a"])) (upd Ha p2 (.tup [V.str "a"])) := Grow.new gp1.sub hp2
        have a2 : upd Ia p2 (.tup [V.str "a"]) p2 = some (.tup [V.str "a"]) := upd_same
        revert gp2 a2
        generalize upd Ia p2 (.tup [V.str "a"]) = Ib
        generalize upd Ha p2 (.tup [V.str "a"]) = Hb
        intro gp2 a2
        refine ⟨(by show 7 ≤ sizeLine; decide), fun p0 hp0 => ?_⟩
        rw [show cutS (mk M2) none (some (61 : Int)) = mk (M2.take 61) from cutS_take M2 61, kv_cat, kv_cat2]
        have gp0 : Grow No Ib Hb (upd Ib p0 (.lst [V.str (mk (M2.take 61)), V.str (mk (l ++ [c1])), V.str (mk (c2 :: l)), V.ref p1, V.ref p2, V.non, V.int 0])) (upd Hb p0 (.lst [V.str (mk (M2.take 61)), V.str (mk (l ++ [c1])), V.str (mk (c2 :: l)), V.ref p1, V.ref p2, V.non, V.int 0])) := Grow.new gp2.sub hp0
        have a0 : upd Ib p0 (.lst [V.str (mk (M2.take 61)), V.str (mk (l ++ [c1])), V.str (mk (c2 :: l)), V.ref p1, V.ref p2, V.non, V.int 0]) p0 = some (.lst [V.str (mk (M2.take 61)), V.str (mk (l ++ [c1])), V.str (mk (c2 :: l)), V.ref p1, V.ref p2, V.non, V.int 0]) := upd_same
        revert gp0 a0
        generalize upd Ib p0 (.lst [V.str (mk (M2.take 61)), V.str (mk (l ++ [c1])), V.str (mk (c2 :: l)), V.ref p1, V.ref p2, V.non, V.int 0]) = Ic
        generalize upd Hb p0 (.lst [V.str (mk (M2.take 61)), V.str (mk (l ++ [c1])), V.str (mk (c2 :: l)), V.ref p1, V.ref p2, V.non, V.int 0]) = Hc
        intro gp0 a0
        refine ⟨_, rfl, fun p3 hp3 => ?_⟩
        have gp3 : Grow No Ic Hc (upd Ic p3 (.dK [])) (upd Hc p3 (.dK [])) := Grow.new gp0.sub hp3
        have a3 : upd Ic p3 (.dK []) p3 = some (.dK []) := upd_same
        revert gp3 a3
        generalize upd Ic p3 (.dK []) = Id
        generalize upd Hc p3 (.dK []) = Hd
        intro gp3 a3
        refine ⟨(by show 1 ≤ sizeLine; decide), fun p4 hp4 => ?_⟩
        have gp4 : Grow No Id Hd (upd Id p4 (.lst [V.str "a"])) (upd Hd p4 (.lst [V.str "a"])) := Grow.new gp3.sub hp4
        have a4 : upd Id p4 (.lst [V.str "a"]) p4 = some (.lst [V.str "a"]) := upd_same
        revert gp4 a4
        generalize upd Id p4 (.lst [V.str "a"]) = Ie
        generalize upd Hd p4 (.lst [V.str "a"]) = He_
        intro gp4 a4
        refine ⟨(by show 1 ≤ sizeLine; decide), fun p5 hp5 => ?_⟩
        have gp5 : Grow No Ie He_ (upd Ie p5 (.lst [V.ref p4])) (upd He_ p5 (.lst [V.ref p4])) := Grow.new gp4.sub hp5
        have a5 : upd Ie p5 (.lst [V.ref p4]) p5 = some (.lst [V.ref p4]) := upd_same
        revert gp5 a5
        generalize upd Ie p5 (.lst [V.ref p4]) = If
        generalize upd He_ p5 (.lst [V.ref p4]) = Hf
        intro gp5 a5
        refine ⟨_, _, rfl, rfl, ⟨by decide, by decide, by decide⟩, Nat.zero_le _, fun p6 hp6 => ?_⟩
        have gp6 : Grow No If Hf (upd If p6 (.lst [])) (upd Hf p6 (.lst [])) := Grow.new gp5.sub hp6
        have a6 : upd If p6 (.lst []) p6 = some (.lst []) := upd_same
        revert gp6 a6
        generalize upd If p6 (.lst []) = Ig
        generalize upd Hf p6 (.lst []) = Hg
        intro gp6 a6
        intro x dx hx hdx ne
        refine ⟨Ig, false, x, dx, .ref p6, [], rfl, upd_same, gp6.sub.free hx, ⟨p6, [], rfl, a6, .nil⟩, by decide, (fun _ z => nomatch z), (grow_made (T := No) gp6.sub hx hdx ne).sub, fun nsa ta Ih Hh gh hh hua hna => ⟨rfl, ?_⟩⟩
        obtain ⟨gX, nX⟩ := Grow.make (Grow.refl (T := No) gp6.sub) hx hdx ne gh (fun b z => .inr (by rw [z]; exact hx)) hh
        have aX : upd Ih x (.ins (He.ga K "Link") dx [("own_rides", ta)]) x = some (.ins (He.ga K "Link") dx [("own_rides", ta)]) := upd_same
        revert gX aX
        generalize upd Ih x (.ins (He.ga K "Link") dx [("own_rides", ta)]) = Ix
        intro gX aX
        refine ⟨(by show 7 ≤ sizeLine; decide), fun p7 hp7 => ?_⟩
        have gp7 : Grow No Ix Hh (upd Ix p7 (.lst [V.bl true, V.ref p3, V.ref p5, V.int (10 ^ Int.toNat 30), V.ref x, V.str "a b", V.str "first"])) (upd Hh p7 (.lst [V.bl true, V.ref p3, V.ref p5, V.int (10 ^ Int.toNat 30), V.ref x, V.str "a b", V.str "first"])) := Grow.new gX.sub hp7
        have a7 : upd Ix p7 (.lst [V.bl true, V.ref p3, V.ref p5, V.int (10 ^ Int.toNat 30), V.ref x, V.str "a b", V.str "first"]) p7 = some (.lst [V.bl true, V.ref p3, V.ref p5, V.int (10 ^ Int.toNat 30), V.ref x, V.str "a b", V.str "first"]) := upd_same
        revert gp7 a7
        generalize upd Ix p7 (.lst [V.bl true, V.ref p3, V.ref p5, V.int (10 ^ Int.toNat 30), V.ref x, V.str "a b", V.str "first"]) = Iy
        generalize upd Hh p7 (.lst [V.bl true, V.ref p3, V.ref p5, V.int (10 ^ Int.toNat 30), V.ref x, V.str "a b", V.str "first"]) = Hy
        intro gp7 a7
        have g06 : Grow No Ic Hc Iy Hy := ((gp3.trans gp4).trans (gp5.trans gp6)).trans (gX.trans gp7)
        refine ⟨p0, p7, _, _, rfl, rfl, g06.sub _ _ (g06.view _ _ a0), gp7.sub _ _ a7, (by show 7 + 7 ≤ sizeLine; decide), fun pr hpr => ⟨pr, rfl, ⟨_, SqL.of upd_same⟩, ?_⟩⟩
        have hall : ∀ v ∈ ([V.str (mk (M2.take 61)), V.str (mk (l ++ [c1])), V.str (mk (c2 :: l)), V.ref p1, V.ref p2, V.non, V.int 0] ++ [V.bl true, V.ref p3, V.ref p5, V.int (10 ^ Int.toNat 30), V.ref x, V.str "a b", V.str "first"]), ∃ d, isD K Iy v d ∧ rowD d = false := by
          intro v hv
          have vX := gp7.view
          have v6 := gX.view.trans vX
          have v5 := gp6.view.trans v6
          have v3 := (gp4.view.trans gp5.view).trans v5
          have v0 := g06.view
          have vb := gp0.view.trans v0
          have va := gp2.view.trans vb
          rcases List.mem_append.mp hv with hv | hv
          · simp only [List.mem_cons, List.not_mem_nil, or_false] at hv
            rcases hv with rfl | rfl | rfl | rfl | rfl | rfl | rfl
            · exact ⟨_, .str _ (by rw [List.length_take]; omega), no_long (by rw [List.length_take]; omega)⟩
            · exact ⟨_, .str _ (by rw [List.length_append]; show l.length + 1 ≤ _; omega), no_sign (c := c1) (by simp) (signs_ok c1 (List.mem_of_getElem? hc1))⟩
            · exact ⟨_, .str _ (by rw [List.length_cons]; omega), no_sign (c := c2) (by simp) (signs_ok c2 (List.mem_of_getElem? hc2))⟩
            · exact ⟨.lst, .lst (va _ _ a1), rfl⟩
            · refine ⟨.tup [.str [97]], .tup (vs := [V.str "a"]) (vb _ _ a2) rfl (fun i v d h1 h2 => ?_), rfl⟩
              match i, h1, h2 with
              | 0, h1, h2 => cases h1; cases h2; exact .str [97] (by decide)
            · exact ⟨.non, .non, rfl⟩
            · exact ⟨.int 0, .int 0, rfl⟩
          · simp only [List.mem_cons, List.not_mem_nil, or_false] at hv
            rcases hv with rfl | rfl | rfl | rfl | rfl | rfl | rfl
            · exact ⟨.bl true, .bl true, rfl⟩
            · exact ⟨.dic, .dic (v3 _ _ a3), rfl⟩
            · exact ⟨.lst, .lst (v5 _ _ a5), rfl⟩
            · exact ⟨.int _, .int _, rfl⟩
            · exact ⟨.obj, .obj (vX _ _ aX) T.is_Link T.cl_Link T.ki_Link_str T.ki_Link_tuple, rfl⟩
            · exact ⟨.str [97, 32, 98], .str [97, 32, 98] (by decide), by decide⟩
            · exact ⟨.str [102, 105, 114, 115, 116], .str [102, 105, 114, 115, 116] (by decide), by decide⟩
        have sY := s8.grow ((gp1.trans gp2).trans (gp0.trans g06))
        revert hall
        generalize ([V.str (mk (M2.take 61)), V.str (mk (l ++ [c1])), V.str (mk (c2 :: l)), V.ref p1, V.ref p2, V.non, V.int 0] ++ [V.bl true, V.ref p3, V.ref p5, V.int (10 ^ Int.toNat 30), V.ref x, V.str "a b", V.str "first"]) = items
        intro hall
        have gR : Grow No Iy Hy (upd Iy pr (.lst items)) (upd Hy pr (.lst items)) := Grow.new gp7.sub hpr
        have aR : upd Iy pr (.lst items) pr = some (.lst items) := upd_same
        revert gR aR
        generalize upd Iy pr (.lst items) = J2
        generalize upd Hy pr (.lst items) = HJ
        intro gR aR
        have sR := sY.grow gR
        refine for_it (walk_list (K := K) (a := pr) (xs := items)) (fun i σ H' => ∃ (I' : Hp) (v2 v3 v4 v5 v6 v7 v8 v9 v10 : Option V), σ = [some (.ref a), some (.ref D.d), v2, v3, v4, v5, v6, v7, v8, v9, v10] ∧ LSt Tb D 2500 I' H' ∧ Same J2 I')
          ⟨J2, _, _, _, _, _, _, _, _, _, rfl, sR.mono (by omega), Same.refl J2⟩ (fun i σ H' _ ⟨I', _, _, _, _, _, _, _, _, _, _, s, sJ⟩ => SqL.of (s.sub _ _ (sJ _ _ aR))) ?_ ?_
        · rintro i y σ Hz H9 hi ⟨I9, w2, w3, w4, w5, w6, w7, w8, w9, w10, rfl, s9, sJ9⟩ ⟨rfl, hyi⟩
          obtain ⟨d, hd0, hrd⟩ := hall y (List.mem_of_getElem? hyi)
          have hd := (hd0.up gR.view).up sJ9
          refine ⟨_, rfl, .inr ⟨I9, y, d, rfl, hd, s9.sub, fun I10 H10 g10 => ?_⟩⟩
          have s10 := s9.grow g10
          rw [hrd]
          refine ⟨_, _, rfl, rfl, false, rfl, iteF ?_⟩
          refine ⟨hTT' _ s10.tabs, fun H11 x11 t11 => ?_⟩
          have s11 := s10.ext x11 (hTT2 _ t11)
          refine ⟨_, rfl, .inr ⟨I10, y, d, rfl, hd.up g10.view, hrd, s11.sub, fun I12 H12 g12 => ⟨T.em_NoRow_OrderError, fun b1 hb1 => ?_⟩⟩⟩
          have s12 := (s11.grow g12).grow (Grow.mine (T := No) (o := ExV (.ref (He.ga K "NoRow")) none b1) (s11.grow g12).sub hb1)
          refine ⟨b1, He.ga K "NoRow", none, .ref (He.ga K "NoRow"), _, true, rfl, upd_same, (fun _ z => nomatch z), T.xf_NoRow, .own _, kit_self, true, rfl, iteF ?_⟩
          refine ⟨hTT' _ s12.tabs, fun H13 x13 t13 => ?_⟩
          have s13 := s12.ext x13 (hTT2 _ t13)
          refine ⟨_, rfl, .inr ⟨I12, y, d, rfl, (hd.up g10.view).up g12.view, hrd, s13.sub, fun I14 H14 g14 => ⟨T.em_NoRow_OrderError, fun b2 hb2 => ?_⟩⟩⟩
          have s14 := (s13.grow g14).grow (Grow.mine (T := No) (o := ExV (.ref (He.ga K "NoRow")) none b2) (s13.grow g14).sub hb2)
          refine ⟨b2, He.ga K "NoRow", none, .ref (He.ga K "NoRow"), _, true, rfl, upd_same, (fun _ z => nomatch z), T.xf_NoRow, .own _, kit_self, true, rfl, iteF ?_⟩
          exact ⟨I14, _, _, _, _, _, _, _, _, _, rfl, s14, sJ9.trans (g10.view.trans (g12.view.trans g14.view))⟩
        · rintro σ H9 ⟨I9, w2, w3, w4, w5, w6, w7, w8, w9, w10, rfl, s9, sJ9⟩
          refine .inl ⟨I9, [], rfl, rfl, s9.sub, fun I10 H10 g10 => ⟨rfl, true, ?_, iteT ?_⟩⟩
          · show V.bl (decide (V.str (mk (turnedL [])) = V.str "")) = _
            rw [decide_eq_true (show V.str (mk (turnedL [])) = V.str "" from rfl)]
          refine .inl ⟨I10, [], rfl, rfl, (s9.grow g10).sub, fun I11 H11 g11 => ⟨rfl, true, ?_, iteT ?_⟩⟩
          · show V.bl (decide (V.str (mk (reducedL [])) = V.str "")) = _
            rw [decide_eq_true (show V.str (mk (reducedL [])) = V.str "" from rfl)]
          exact .inl ⟨I11, [], rfl, by decide, ((s9.grow g10).grow g11).sub, fun I12 H12 g12 => ⟨_, _, rfl, rfl, k H12⟩⟩
end
end Nw
namespace Nw
open PySem PySem.Spec PyProof.Rows L2
def d_l_next : He.DefD := ⟨("_law_next", none), "_law_next", "_law_next", defArgs s_l_next, defBody s_l_next, defScope s_l_next, [], []⟩
def d_l_begun : He.DefD := ⟨("_law_begun", none), "_law_begun", "_law_begun", defArgs s_l_begun, defBody s_l_begun, defScope s_l_begun, [], []⟩
def d_is_number : He.DefD := ⟨("is_number", none), "is_number", "is_number", defArgs s_is_number, defBody s_is_number, defScope s_is_number, [], []⟩
def d_is_ride : He.DefD := ⟨("is_ride", none), "is_ride", "is_ride", defArgs s_is_ride, defBody s_is_ride, defScope s_is_ride, [], []⟩
def d_needed : He.DefD := ⟨("needed", none), "needed", "needed", defArgs s_needed, defBody s_needed, defScope s_needed, [], []⟩
def d_is_row : He.DefD := ⟨("is_row", none), "is_row", "is_row", defArgs s_is_row, defBody s_is_row, defScope s_is_row, [], []⟩
def d_need_row : He.DefD := ⟨("need_row", none), "need_row", "need_row", defArgs s_need_row, defBody s_need_row, defScope s_need_row, [], []⟩
def d_counterpart : He.DefD := ⟨("counterpart", none), "counterpart", "counterpart", defArgs s_counterpart, defBody s_counterpart, defScope s_counterpart, [], []⟩
def d_turned_row : He.DefD := ⟨("turned_row", none), "turned_row", "turned_row", defArgs s_turned_row, defBody s_turned_row, defScope s_turned_row, [], []⟩
def d_mirrored : He.DefD := ⟨("mirrored", none), "mirrored", "mirrored", defArgs s_mirrored, defBody s_mirrored, defScope s_mirrored, [], []⟩
def d_reduced : He.DefD := ⟨("reduced", none), "reduced", "reduced", defArgs s_reduced, defBody s_reduced, defScope s_reduced, [], []⟩
def d_Link__init : He.DefD := ⟨("Link", some "__init__"), "__init__", "Link.__init__", defArgs s_Link__init, defBody s_Link__init, defScope s_Link__init, [], []⟩
def d_l_pick : He.DefD := ⟨("_law_pick", none), "_law_pick", "_law_pick", defArgs s_l_pick, defBody s_l_pick, defScope s_l_pick, [], []⟩
def d_l_other : He.DefD := ⟨("_law_other", none), "_law_other", "_law_other", defArgs s_l_other, defBody s_l_other, defScope s_l_other, [], []⟩
def d_l_row : He.DefD := ⟨("_law_row", none), "_law_row", "_law_row", defArgs s_l_row, defBody s_l_row, defScope s_l_row, [], []⟩
def d_l_shuffled : He.DefD := ⟨("_law_shuffled", none), "_law_shuffled", "_law_shuffled", defArgs s_l_shuffled, defBody s_l_shuffled, defScope s_l_shuffled, [], []⟩
def d_l_some : He.DefD := ⟨("_law_some", none), "_law_some", "_law_some", defArgs s_l_some, defBody s_l_some, defScope s_l_some, [], []⟩
def d_l_less : He.DefD := ⟨("_law_less", none), "_law_less", "_law_less", defArgs s_l_less, defBody s_l_less, defScope s_l_less, [], []⟩
def d_l_right : He.DefD := ⟨("_law_right", none), "_law_right", "_law_right", defArgs s_l_right, defBody s_l_right, defScope s_l_right, [], []⟩
def d_law : He.DefD := ⟨("law", none), "law", "law", defArgs s_law, defBody s_law, defScope s_law, [], []⟩
def d_l_told : He.DefD := ⟨("_law_told", none), "_law_told", "_law_told", defArgs s_l_told, defBody s_l_told, defScope s_l_told, [], []⟩
def fn : List He.DefD := [d_l_next, d_l_begun, d_is_number, d_is_ride, d_needed, d_is_row, d_need_row, d_counterpart, d_turned_row, d_mirrored, d_reduced, d_Link__init, d_l_pick, d_l_other, d_l_row, d_l_shuffled, d_l_some, d_l_less, d_l_right, d_law, d_l_told]
def gs : List GetD := []
def tf : List He.Defn := [("law", none)]
def fa : List He.Fa := [.free "abs", .free "all", .free "bool", .free "enumerate", .free "int", .free "isinstance", .free "len", .free "list", .free "property", .free "range", .free "sorted", .free "str", .free "tuple", .glo "is_row", .glo "need_row", .glo "counterpart", .glo "turned_row", .glo "mirrored", .glo "reduced", .glo "is_number", .glo "is_moment", .glo "need_moment", .glo "is_earlier", .glo "sooner_of", .glo "is_ride", .glo "ended", .glo "begun", .glo "needed", .glo "link_by", .glo "_law_begun", .glo "_law_next", .glo "_law_pick", .glo "_law_shuffled", .glo "_law_other", .glo "_law_some", .glo "_law_row", .glo "_law_told", .glo "_law_less", .glo "_law_right", .glo "law", .glo "OrderError", .glo "NoRow", .exc "NoRow", .glo "NoMoment", .glo "NoRides", .glo "TooMany", .glo "Link", .cls "Link", .mkr "Link", .meth "Link" "end", .meth "Link" "begin", .meth "Link" "__eq__", .meth "Link" "__mul__", .meth "Link" "__or__", .meth "Link" "__and__", .meth "Link" "__invert__", .meth "Link" "__le__", .noat "Link" "own_rides", .str "LINKS" "abcd", .str "STEPS" "ABCDabcd", .int "MOST_STEPS" 60, .str "FIRST" "first", .str "LAST" "last", .int "MOST_RIDES" 60, .exm "NoRow" "OrderError" true]
def loose : List Str := (["OrderError", "NoRow", "NoMoment", "NoRides", "TooMany", "LINKS", "STEPS", "MOST_STEPS", "is_row", "need_row", "counterpart", "turned_row", "mirrored", "reduced", "FIRST", "LAST", "MOST_RIDES", "is_number", "is_moment", "need_moment", "is_earlier", "sooner_of", "is_ride", "ended", "begun", "needed", "link_by", "Link", "_law_begun", "_law_next"] : List Str) ++ (["_law_pick", "_law_shuffled", "_law_other", "_law_some", "_law_row", "_law_told", "_law_less", "_law_right"] : List Str)
def ex (K : PySem.W.Frag) : Bool := (insB K (He.ga K "Link") && (exfB K (He.ga K "NoRow") && (decide (PySem.W.kitOne K (.ref (He.ga K "Link")) (.type "str") = some false) && decide (PySem.W.kitOne K (.ref (He.ga K "Link")) (.type "tuple") = some false))))
abbrev R : PySem.W.OpenRow := PySem.W.OpenLaw.row PySem.Challenge.rw_newsinorder_k01_rows_and_their_mirrors
abbrev hk : PySem.W.Hook := hookP 5 fa fn tf ex gs
def ob (s : PySem.W.SharedT) : AlP := obsP 5 fa fn tf ex gs (HandSHeadRun.getT s)
theorem ob_eq (s : PySem.W.SharedT) : ob s = hk.obs s.abs := obsP_eq (HandSHeadRun.getT_eq s)

theorem run (w : World) : HandSHeadRun.RunEq R (PySem.W.view R.prog [42]) hk ob 20000 loose w := by
  intro os
  kernel_rfl
theorem facts {P : Program} {w : World} {K : PySem.W.Frag} {h : Heap} {mg : Str → Option Value} {f : Addr} (X : K.In h) (G : h.Ns mainGlobals mg) (hfa : mg ("law" : Str) = some (.ref f)) (c : SaysP fa fn tf ex gs h K) :
    ∃ fd : FuncData, (∀ (s : Shared) (v : Value), BindsTo s fd ⟨[v], []⟩ [("_law_script", v)]) ∧ ∀ base : Heap, K.In base → base.Ns mainGlobals mg → (∀ p ∈ tf.map (He.cT K), LamX.TabB base mg p.1 p.2) → FnOk P w K mg base CX0 8 f fd ["_law_script"] (sp_law K) := by
  have cm := c.more
  unfold ex at cm
  rw [Bool.and_eq_true, Bool.and_eq_true, Bool.and_eq_true] at cm
  obtain ⟨i_0, i_1, i_2, i_3⟩ := cm
  have x_0 : mg "abs" = none := He.free_ok X G (c.d.fact 0 (f := .free "abs") rfl)
  have x_1 : mg "all" = none := He.free_ok X G (c.d.fact 1 (f := .free "all") rfl)
  have x_2 : mg "bool" = none := He.free_ok X G (c.d.fact 2 (f := .free "bool") rfl)
  have x_3 : mg "enumerate" = none := He.free_ok X G (c.d.fact 3 (f := .free "enumerate") rfl)
  have x_4 : mg "int" = none := He.free_ok X G (c.d.fact 4 (f := .free "int") rfl)
  have x_5 : mg "isinstance" = none := He.free_ok X G (c.d.fact 5 (f := .free "isinstance") rfl)
  have x_6 : mg "len" = none := He.free_ok X G (c.d.fact 6 (f := .free "len") rfl)
  have x_7 : mg "list" = none := He.free_ok X G (c.d.fact 7 (f := .free "list") rfl)
  have x_8 : mg "property" = none := He.free_ok X G (c.d.fact 8 (f := .free "property") rfl)
  have x_9 : mg "range" = none := He.free_ok X G (c.d.fact 9 (f := .free "range") rfl)
  have x_10 : mg "sorted" = none := He.free_ok X G (c.d.fact 10 (f := .free "sorted") rfl)
  have x_11 : mg "str" = none := He.free_ok X G (c.d.fact 11 (f := .free "str") rfl)
  have x_12 : mg "tuple" = none := He.free_ok X G (c.d.fact 12 (f := .free "tuple") rfl)
  have x_13 : mg "is_row" = some (.ref (He.ga K "is_row")) := He.glo_ok X G (c.d.fact 13 (f := .glo "is_row") rfl)
  have x_14 : mg "need_row" = some (.ref (He.ga K "need_row")) := He.glo_ok X G (c.d.fact 14 (f := .glo "need_row") rfl)
  have x_15 : mg "counterpart" = some (.ref (He.ga K "counterpart")) := He.glo_ok X G (c.d.fact 15 (f := .glo "counterpart") rfl)
  have x_16 : mg "turned_row" = some (.ref (He.ga K "turned_row")) := He.glo_ok X G (c.d.fact 16 (f := .glo "turned_row") rfl)
  have x_17 : mg "mirrored" = some (.ref (He.ga K "mirrored")) := He.glo_ok X G (c.d.fact 17 (f := .glo "mirrored") rfl)
  have x_18 : mg "reduced" = some (.ref (He.ga K "reduced")) := He.glo_ok X G (c.d.fact 18 (f := .glo "reduced") rfl)
  have x_19 : mg "is_number" = some (.ref (He.ga K "is_number")) := He.glo_ok X G (c.d.fact 19 (f := .glo "is_number") rfl)
  have x_20 : mg "is_moment" = some (.ref (He.ga K "is_moment")) := He.glo_ok X G (c.d.fact 20 (f := .glo "is_moment") rfl)
  have x_21 : mg "need_moment" = some (.ref (He.ga K "need_moment")) := He.glo_ok X G (c.d.fact 21 (f := .glo "need_moment") rfl)
  have x_22 : mg "is_earlier" = some (.ref (He.ga K "is_earlier")) := He.glo_ok X G (c.d.fact 22 (f := .glo "is_earlier") rfl)
  have x_23 : mg "sooner_of" = some (.ref (He.ga K "sooner_of")) := He.glo_ok X G (c.d.fact 23 (f := .glo "sooner_of") rfl)
  have x_24 : mg "is_ride" = some (.ref (He.ga K "is_ride")) := He.glo_ok X G (c.d.fact 24 (f := .glo "is_ride") rfl)
  have x_25 : mg "ended" = some (.ref (He.ga K "ended")) := He.glo_ok X G (c.d.fact 25 (f := .glo "ended") rfl)
  have x_26 : mg "begun" = some (.ref (He.ga K "begun")) := He.glo_ok X G (c.d.fact 26 (f := .glo "begun") rfl)
  have x_27 : mg "needed" = some (.ref (He.ga K "needed")) := He.glo_ok X G (c.d.fact 27 (f := .glo "needed") rfl)
  have x_28 : mg "link_by" = some (.ref (He.ga K "link_by")) := He.glo_ok X G (c.d.fact 28 (f := .glo "link_by") rfl)
  have x_29 : mg "_law_begun" = some (.ref (He.ga K "_law_begun")) := He.glo_ok X G (c.d.fact 29 (f := .glo "_law_begun") rfl)
  have x_30 : mg "_law_next" = some (.ref (He.ga K "_law_next")) := He.glo_ok X G (c.d.fact 30 (f := .glo "_law_next") rfl)
  have x_31 : mg "_law_pick" = some (.ref (He.ga K "_law_pick")) := He.glo_ok X G (c.d.fact 31 (f := .glo "_law_pick") rfl)
  have x_32 : mg "_law_shuffled" = some (.ref (He.ga K "_law_shuffled")) := He.glo_ok X G (c.d.fact 32 (f := .glo "_law_shuffled") rfl)
  have x_33 : mg "_law_other" = some (.ref (He.ga K "_law_other")) := He.glo_ok X G (c.d.fact 33 (f := .glo "_law_other") rfl)
  have x_34 : mg "_law_some" = some (.ref (He.ga K "_law_some")) := He.glo_ok X G (c.d.fact 34 (f := .glo "_law_some") rfl)
  have x_35 : mg "_law_row" = some (.ref (He.ga K "_law_row")) := He.glo_ok X G (c.d.fact 35 (f := .glo "_law_row") rfl)
  have x_36 : mg "_law_told" = some (.ref (He.ga K "_law_told")) := He.glo_ok X G (c.d.fact 36 (f := .glo "_law_told") rfl)
  have x_37 : mg "_law_less" = some (.ref (He.ga K "_law_less")) := He.glo_ok X G (c.d.fact 37 (f := .glo "_law_less") rfl)
  have x_38 : mg "_law_right" = some (.ref (He.ga K "_law_right")) := He.glo_ok X G (c.d.fact 38 (f := .glo "_law_right") rfl)
  have x_39 : mg "law" = some (.ref (He.ga K "law")) := He.glo_ok X G (c.d.fact 39 (f := .glo "law") rfl)
  have x_40 : mg "OrderError" = some (.ref (He.ga K "OrderError")) := He.glo_ok X G (c.d.fact 40 (f := .glo "OrderError") rfl)
  have x_41 : mg "NoRow" = some (.ref (He.ga K "NoRow")) := He.glo_ok X G (c.d.fact 41 (f := .glo "NoRow") rfl)
  have x_42 : PySem.W.excIn K (He.ga K "NoRow") He.veBase "ValueError.__new__" = true ∧ PySem.W.keepIn K (.ref (He.ga K "NoRow")) = true ∧ PySem.W.subIn K (.ref (He.ga K "NoRow")) (.type "BaseException") = some true ∧ PySem.W.typeIn K (.ref (He.ga K "NoRow")) = some (.type "type") := He.exc_ok (c.d.fact 42 (f := .exc "NoRow") rfl)
  have x_43 : mg "NoMoment" = some (.ref (He.ga K "NoMoment")) := He.glo_ok X G (c.d.fact 43 (f := .glo "NoMoment") rfl)
  have x_44 : mg "NoRides" = some (.ref (He.ga K "NoRides")) := He.glo_ok X G (c.d.fact 44 (f := .glo "NoRides") rfl)
  have x_45 : mg "TooMany" = some (.ref (He.ga K "TooMany")) := He.glo_ok X G (c.d.fact 45 (f := .glo "TooMany") rfl)
  have x_46 : mg "Link" = some (.ref (He.ga K "Link")) := He.glo_ok X G (c.d.fact 46 (f := .glo "Link") rfl)
  have x_47 : Cls K (He.ga K "Link") := He.cls_ok (c.d.fact 47 (f := .cls "Link") rfl)
  have x_48 : Mk K (He.ga K "Link") (He.ma K (He.ga K "Link") "__init__") := He.mkr_ok (c.d.fact 48 (f := .mkr "Link") rfl)
  have x_49 : Meth K (He.ga K "Link") "end" (He.ma K (He.ga K "Link") "end") := He.meth_ok (c.d.fact 49 (f := .meth "Link" "end") rfl)
  have x_50 : Meth K (He.ga K "Link") "begin" (He.ma K (He.ga K "Link") "begin") := He.meth_ok (c.d.fact 50 (f := .meth "Link" "begin") rfl)
  have x_51 : Meth K (He.ga K "Link") "__eq__" (He.ma K (He.ga K "Link") "__eq__") := He.meth_ok (c.d.fact 51 (f := .meth "Link" "__eq__") rfl)
  have x_52 : Meth K (He.ga K "Link") "__mul__" (He.ma K (He.ga K "Link") "__mul__") := He.meth_ok (c.d.fact 52 (f := .meth "Link" "__mul__") rfl)
  have x_53 : Meth K (He.ga K "Link") "__or__" (He.ma K (He.ga K "Link") "__or__") := He.meth_ok (c.d.fact 53 (f := .meth "Link" "__or__") rfl)
  have x_54 : Meth K (He.ga K "Link") "__and__" (He.ma K (He.ga K "Link") "__and__") := He.meth_ok (c.d.fact 54 (f := .meth "Link" "__and__") rfl)
  have x_55 : Meth K (He.ga K "Link") "__invert__" (He.ma K (He.ga K "Link") "__invert__") := He.meth_ok (c.d.fact 55 (f := .meth "Link" "__invert__") rfl)
  have x_56 : Meth K (He.ga K "Link") "__le__" (He.ma K (He.ga K "Link") "__le__") := He.meth_ok (c.d.fact 56 (f := .meth "Link" "__le__") rfl)
  have x_57 : NoAttr K (He.ga K "Link") "own_rides" := He.noat_ok (c.d.fact 57 (f := .noat "Link" "own_rides") rfl)
  have x_58 : ∃ t, mg "LINKS" = some (.str "abcd" t) := He.str_ok X G (c.d.fact 58 (f := .str "LINKS" "abcd") rfl)
  have x_59 : ∃ t, mg "STEPS" = some (.str "ABCDabcd" t) := He.str_ok X G (c.d.fact 59 (f := .str "STEPS" "ABCDabcd") rfl)
  have x_60 : ∃ t, mg "MOST_STEPS" = some (.int 60 t) := He.int_ok X G (c.d.fact 60 (f := .int "MOST_STEPS" 60) rfl)
  have x_61 : ∃ t, mg "FIRST" = some (.str "first" t) := He.str_ok X G (c.d.fact 61 (f := .str "FIRST" "first") rfl)
  have x_62 : ∃ t, mg "LAST" = some (.str "last" t) := He.str_ok X G (c.d.fact 62 (f := .str "LAST" "last") rfl)
  have x_63 : ∃ t, mg "MOST_RIDES" = some (.int 60 t) := He.int_ok X G (c.d.fact 63 (f := .int "MOST_RIDES" 60) rfl)
  have x_64 : PySem.W.exmOne K (.ref (He.ga K "NoRow")) (.ref (He.ga K "OrderError")) = some true := He.exm_ok (c.d.fact 64 (f := .exm "NoRow" "OrderError" true) rfl)
  have x_65 : InsF K (He.ga K "Link") := insB_ok i_0
  have x_66 : ExF K (He.ga K "NoRow") := exfB_ok i_1
  have x_67 : PySem.W.kitOne K (.ref (He.ga K "Link")) (.type "str") = some false := of_decide_eq_true i_2
  have x_68 : PySem.W.kitOne K (.ref (He.ga K "Link")) (.type "tuple") = some false := of_decide_eq_true i_3
  have T : Txt K mg := ⟨x_0, x_1, x_2, x_3, x_4, x_5, x_6, x_7, x_8, x_9, x_10, x_11, x_12, x_13, x_14, x_15, x_16, x_17, x_18, x_19, x_20, x_21, x_22, x_23, x_24, x_25, x_26, x_27, x_28, x_29, x_30, x_31, x_32, x_33, x_34, x_35, x_36, x_37, x_38, x_39, x_40, x_41, x_42, x_43, x_44, x_45, x_46, x_47, x_48, x_49, x_50, x_51, x_52, x_53, x_54, x_55, x_56, x_57, x_58, x_59, x_60, x_61, x_62, x_63, x_64, x_65, x_66, x_67, x_68⟩
  have F_l_next : FnAt K "_law_next" "_law_next" s_l_next (He.ga K "_law_next") := c.d.def_ 0 (d := d_l_next) rfl
  have F_l_begun : FnAt K "_law_begun" "_law_begun" s_l_begun (He.ga K "_law_begun") := c.d.def_ 1 (d := d_l_begun) rfl
  have F_is_number : FnAt K "is_number" "is_number" s_is_number (He.ga K "is_number") := c.d.def_ 2 (d := d_is_number) rfl
  have F_is_ride : FnAt K "is_ride" "is_ride" s_is_ride (He.ga K "is_ride") := c.d.def_ 3 (d := d_is_ride) rfl
  have F_needed : FnAt K "needed" "needed" s_needed (He.ga K "needed") := c.d.def_ 4 (d := d_needed) rfl
  have F_is_row : FnAt K "is_row" "is_row" s_is_row (He.ga K "is_row") := c.d.def_ 5 (d := d_is_row) rfl
  have F_need_row : FnAt K "need_row" "need_row" s_need_row (He.ga K "need_row") := c.d.def_ 6 (d := d_need_row) rfl
  have F_counterpart : FnAt K "counterpart" "counterpart" s_counterpart (He.ga K "counterpart") := c.d.def_ 7 (d := d_counterpart) rfl
  have F_turned_row : FnAt K "turned_row" "turned_row" s_turned_row (He.ga K "turned_row") := c.d.def_ 8 (d := d_turned_row) rfl
  have F_mirrored : FnAt K "mirrored" "mirrored" s_mirrored (He.ga K "mirrored") := c.d.def_ 9 (d := d_mirrored) rfl
  have F_reduced : FnAt K "reduced" "reduced" s_reduced (He.ga K "reduced") := c.d.def_ 10 (d := d_reduced) rfl
  have F_Link__init : FnAt K "__init__" "Link.__init__" s_Link__init (He.ma K (He.ga K "Link") "__init__") := c.d.def_ 11 (d := d_Link__init) rfl
  have F_l_pick : FnAt K "_law_pick" "_law_pick" s_l_pick (He.ga K "_law_pick") := c.d.def_ 12 (d := d_l_pick) rfl
  have F_l_other : FnAt K "_law_other" "_law_other" s_l_other (He.ga K "_law_other") := c.d.def_ 13 (d := d_l_other) rfl
  have F_l_row : FnAt K "_law_row" "_law_row" s_l_row (He.ga K "_law_row") := c.d.def_ 14 (d := d_l_row) rfl
  have F_l_shuffled : FnAt K "_law_shuffled" "_law_shuffled" s_l_shuffled (He.ga K "_law_shuffled") := c.d.def_ 15 (d := d_l_shuffled) rfl
  have F_l_some : FnAt K "_law_some" "_law_some" s_l_some (He.ga K "_law_some") := c.d.def_ 16 (d := d_l_some) rfl
  have F_l_less : FnAt K "_law_less" "_law_less" s_l_less (He.ga K "_law_less") := c.d.def_ 17 (d := d_l_less) rfl
  have F_l_right : FnAt K "_law_right" "_law_right" s_l_right (He.ga K "_law_right") := c.d.def_ 18 (d := d_l_right) rfl
  have F_l_told : FnAt K "_law_told" "_law_told" s_l_told (He.ga K "_law_told") := c.d.def_ 20 (d := d_l_told) rfl
  obtain ⟨fd, F⟩ := c.d.def_ 19 (d := d_law) rfl
  have e := hfa.symm.trans T.g_law
  cases e
  have b := FunD.bindsA (ps := ["_law_script"]) F fun _ _ _ _ _ _ us hl => match us, hl with | [_], _ => rfl
  refine ⟨fd, fun s v => b s [v] rfl, fun base _ _ TBs => ?_⟩
  have TB : LamX.TabB base mg (He.codeOf K ("law", none)) (He.tabOf K (He.codeOf K ("law", none))) := TBs _ (List.mem_map_of_mem (f := He.cT K) (List.mem_cons_self ..))
  have O_l_next := ok_l_next (P := P) (w := w) (base := base) T F_l_next 
  have O_l_begun := ok_l_begun (P := P) (w := w) (base := base) T F_l_begun 
  have O_is_number := ok_is_number (P := P) (w := w) (base := base) T F_is_number 
  have O_is_ride := ok_is_ride (P := P) (w := w) (base := base) T F_is_ride O_is_number
  have O_needed := ok_needed (P := P) (w := w) (base := base) T F_needed 
  have O_is_row := ok_is_row (P := P) (w := w) (base := base) T F_is_row 
  have O_need_row := ok_need_row (P := P) (w := w) (base := base) T F_need_row O_is_row
  have O_counterpart := ok_counterpart (P := P) (w := w) (base := base) T F_counterpart 
  have O_turned_row := ok_turned_row (P := P) (w := w) (base := base) T F_turned_row O_counterpart
  have O_mirrored := ok_mirrored (P := P) (w := w) (base := base) T F_mirrored O_need_row O_turned_row
  have O_reduced := ok_reduced (P := P) (w := w) (base := base) T F_reduced O_need_row O_counterpart
  have O_Link__init := ok_Link__init (P := P) (w := w) (base := base) T F_Link__init O_is_ride O_needed
  have O_l_pick := ok_l_pick (P := P) (w := w) (base := base) T F_l_pick O_l_next
  have O_l_other := ok_l_other (P := P) (w := w) (base := base) T F_l_other 
  have O_l_row := ok_l_row (P := P) (w := w) (base := base) T F_l_row O_l_next O_l_pick O_l_other
  have O_l_shuffled := ok_l_shuffled (P := P) (w := w) (base := base) T F_l_shuffled O_l_next
  have O_l_some := ok_l_some (P := P) (w := w) (base := base) T F_l_some O_l_shuffled O_l_next
  have O_l_less := ok_l_less (P := P) (w := w) (base := base) T F_l_less O_l_other O_l_pick
  have OB_is_row := okb_is_row (P := P) (w := w) (base := base) T F_is_row 
  have OX_is_row := (O_is_row.toX (CX' := L2.CX P w)).or OB_is_row
  have OB_need_row := okb_need_row (P := P) (w := w) (base := base) T F_need_row OX_is_row
  have OX_need_row := (O_need_row.toX (CX' := L2.CX P w)).or OB_need_row
  have OB_mirrored := okb_mirrored (P := P) (w := w) (base := base) T F_mirrored OX_need_row O_turned_row
  have OX_mirrored := (O_mirrored.toX (CX' := L2.CX P w)).or OB_mirrored
  have OB_reduced := okb_reduced (P := P) (w := w) (base := base) T F_reduced OX_need_row O_counterpart
  have OX_reduced := (O_reduced.toX (CX' := L2.CX P w)).or OB_reduced
  have O_l_right := ok_l_right (P := P) (w := w) (base := base) T F_l_right O_l_other O_l_less O_is_row O_mirrored O_reduced
  exact ok_law T F O_l_begun O_l_row O_l_some O_l_pick O_l_next O_l_right O_Link__init OX_is_row OX_mirrored OX_reduced TB F_l_told
end Nw
open PySem PySem.W PySem.Calls PyProof.Rows
theorem PySem.Challenge.cw_newsinorder_k01_rows_and_their_mirrors_holds : PySem.Challenge.rw_newsinorder_k01_rows_and_their_mirrors.Holds := by
  w_on; o_law
  refine HandSHeadRun.head_any (r := OpenLaw.row PySem.Challenge.rw_newsinorder_k01_rows_and_their_mirrors) (q := view (OpenLaw.row PySem.Challenge.rw_newsinorder_k01_rows_and_their_mirrors).prog [42]) (H := Nw.hk) (ob := Nw.ob) (M := 20000) (loose := Nw.loose) (d := HandSHeadRun.topDef (OpenLaw.row PySem.Challenge.rw_newsinorder_k01_rows_and_their_mirrors).prog 42) (kwd := []) Nw.ob_eq
    (by kernel_rfl) (fun s => by kernel_rfl) Nw.run (by kernel_rfl) (by kernel_rfl) (by kernel_rfl) (by rfl) (by first | assumption | decide +kernel) (by decide +kernel) ⟨rfl, rfl, rfl, rfl, rfl, by decide +kernel⟩ ?hw ?hc
  case hw => w_witness2
  case hc =>
    refine LamX.walk_ofTsE (l := PySem.Challenge.rw_newsinorder_k01_rows_and_their_mirrors) (n := 63) (k := 8) (x := "_law_script") (CX := fun _ => L2.CX0) rfl (by decide) (by kernel_rfl) ⟨rfl, by decide, by decide⟩ ?F (fun _ _ _ _ _ z => z)
    intro w mg fa h Y G hmg0
    obtain ⟨K, KX, c⟩ := Y
    have hmg : mg ("law" : PySem.Str) = some (.ref fa) := by
      have e : (HandSHeadRun.topDef (OpenLaw.row PySem.Challenge.rw_newsinorder_k01_rows_and_their_mirrors).prog 42).name = ("law" : PySem.Str) := by kernel_rfl
      rw [← e]
      exact hmg0
    obtain ⟨fd, hb, hF⟩ := Nw.facts (P := (PySem.Challenge.rw_newsinorder_k01_rows_and_their_mirrors).prog) (w := w) KX G hmg c
    exact ⟨K, KX, fd, Nw.tf.map (He.cT K), Nw.sp_law K, fun p hp => by
        obtain ⟨q, hq, rfl⟩ := List.mem_map.mp hp
        exact c.empty q hq, fun p hp => by
        obtain ⟨q, hq, rfl⟩ := List.mem_map.mp hp
        exact c.out q hq, fun p hp => by
        obtain ⟨q, hq, rfl⟩ := List.mem_map.mp hp
        exact PySem.W.codeHd_of_K KX (c.hd q hq), hb, fun H a ns hl _ hT hS => ⟨Nw.noT H, a, ns, rfl, Nw.noT_sub, Nw.noT_tb, fun p hp => by
          rw [List.mem_singleton] at hp
          subst hp
          exact LamX.TabS.nil (hT (He.cT K ("law", none)) (List.mem_map_of_mem (f := He.cT K) (List.mem_cons_self ..))), Nw.noT_seq hS, hl, fun _ => rfl⟩, hF⟩