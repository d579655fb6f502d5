import PyProof.Rows.All
import Wide.All
import OpenK.AllK
import Wide.FinOn
import HandS.ForMost
import HandS.ForExc
import HandS.Defaults
import HandS.Style
import HandS.IsInst
import HandS.HeadHook1
import HandS.HeadHook2
import HandS.Property
import HandS.Wide
import HandS.Walk
import HandS.SortInts
import HandS.DictComp
import PyProof.ListStr
import HandS.Conv
import PyProof.EnumMake
import PyProof.Draws
import KE.GoesMore
import PyProof.InstEq
import HandS.Exc
import HandS.ExcInit
import HandS.ExcOwn
import HandS.ExcValue
import HandS.ExcField
import HandS.TryOnly
import HandS.WordsExc
import HandS.RaiseMore
import KE.KExcIs
import HandS.HeadHook3
import HandS.HeadHook4
import HandS.Lambda
import HandS.EndTab
import HandS.HeadWalk
import HandS.More
import PyProof.ReprRoads
import HandS.HeadEnd
import PyProof.StrLawsRepr
import PyProof.Rows.RegStrFacts
import HandS.DeepEq
import PySem.Challenge.RW_newsinorder_k02_ends_and_begins
import KE.KStateDown
import Lean
import HandS.Head0
import HandS.Head1
import HandS.Head2
set_option Elab.async false
set_option linter.all false
set_option maxRecDepth 100000
set_option maxHeartbeats 0
namespace Nw
open PySem PySem.Spec PyProof.Rows L2

/-! ### heaps: what a part of a run does to the view I (what stands for good) and the heap H -/
structure Grow (T : Addr → Prop) (I H I' H' : Hp) : Prop where
  view : Same I I'
  sub : Same I' H'
  keep : ∀ b o, ¬ T b → H b = some o → H' b = some o
  live : ∀ b, H b ≠ none → H' b ≠ none
  fresh : ∀ b, I b = none → H b ≠ none → I' b = none
  tbl : ∀ b ps, I' b = some (.tbl ps) → I b = some (.tbl ps)
/-- no table of code objects -/
abbrev NTb (o : HO) : Prop := ∀ ps, o ≠ .tbl ps
abbrev No : Addr → Prop := fun _ => False
variable {T : Addr → Prop} {I H I' H' I0 H0 I1 H1 I2 H2 J : Hp} {p l m : Addr} {o o' : HO}
theorem Same.up (h : H p = none) : Same H (upd H p o) := fun b u e => by
  rw [upd_ne (ne_of_none e h)]
  exact e
theorem Grow.refl (h : Same I H) : Grow T I H I H := ⟨Same.refl I, h, fun _ _ _ e => e, fun _ e => e, fun _ e _ => e, fun _ _ e => e⟩
theorem Grow.trans (a : Grow T I H I1 H1) (b : Grow T I1 H1 I2 H2) : Grow T I H I2 H2 :=
  ⟨a.view.trans b.view, b.sub, fun x o n e => b.keep x o n (a.keep x o n e), fun x e => b.live x (a.live x e), fun x e n => b.fresh x (a.fresh x e n) (a.live x n), fun x ps e => a.tbl x ps (b.tbl x ps e)⟩
theorem Grow.to {T' : Addr → Prop} (h : ∀ x, T x → T' x) (g : Grow T I H I' H') : Grow T' I H I' H' :=
  ⟨g.view, g.sub, fun x o n e => g.keep x o (fun t => n (h x t)) e, g.live, g.fresh, g.tbl⟩
theorem Grow.no (g : Grow No I H I' H') : Grow T I H I' H' := g.to fun _ z => z.elim
theorem Grow.same (g : Grow No I H I' H') : Same H H' := fun b o e => g.keep b o (fun z => z) e
theorem upd_tbl {b : Addr} {ps : Array Value} (n : NTb o) (e : upd H p o b = some (.tbl ps)) : H b = some (.tbl ps) := by
  unfold upd at e
  split at e
  · exact absurd (Option.some.inj e) (n ps)
  · exact e
theorem upd_live {b : Addr} (h : H b ≠ none) : upd H p o b ≠ none := by
  unfold upd
  split
  · exact fun z => nomatch z
  · exact h
/-- a new object, for good -/
theorem Grow.new (h : Same I H) (hp : H p = none) (nt : NTb o := by intro _ z; cases z) : Grow T I H (upd I p o) (upd H p o) where
  view := Same.up (h.free hp)
  sub := fun b u e => by
    by_cases q : b = p
    · subst q; rw [upd_same] at e ⊢; exact e
    · rw [upd_ne q] at e ⊢; exact h b u e
  keep := fun b u _ e => Same.up hp b u e
  live := fun b e => upd_live e
  fresh := fun b e n => by
    rw [upd_ne (fun z => n (by rw [z]; exact hp))]
    exact e
  tbl := fun b ps e => upd_tbl nt e
/-- a new object of one's own, that may change yet -/
theorem Grow.mine (h : Same I H) (hp : H p = none) : Grow T I H I (upd H p o) where
  view := Same.refl I
  sub := h.trans (Same.up hp)
  keep := fun b u _ e => Same.up hp b u e
  live := fun b e => upd_live e
  fresh := fun b e _ => e
  tbl := fun _ _ e => e
/-- an object of one's own -/
structure Own (T : Addr → Prop) (H0 : Hp) (l : Addr) (o : HO) (I H : Hp) : Prop where
  nt : ¬ T l
  n0 : H0 l = none
  ni : I l = none
  at_ : H l = some o
theorem Own.new (hs : Same I H) (h : Same H0 H ∨ (∀ b, H0 b ≠ none → H b ≠ none)) (ht : ∀ b, T b → H b ≠ none) (hp : H p = none) : Own T H0 p o I (upd H p o) := by
  refine ⟨fun t => ht p t hp, ?_, hs.free hp, upd_same⟩
  cases q : H0 p with
  | none => rfl
  | some u =>
    rcases h with h | h
    · have z := h p u q
      rw [hp] at z; cases z
    · exact absurd hp (h p (by rw [q]; exact fun z => nomatch z))
theorem Own.grow (w : Own T H0 l o I H) (g : Grow T I H I' H') : Own T H0 l o I' H' :=
  ⟨w.nt, w.n0, g.fresh l w.ni (by rw [w.at_]; exact fun z => nomatch z), g.keep l o w.nt w.at_⟩
theorem Own.put (w : Own T H0 l o I H) : Own T H0 l o' I (upd H l o') := ⟨w.nt, w.n0, w.ni, upd_same⟩
theorem Own.other (w : Own T H0 l o I H) (ne : l ≠ m) : Own T H0 l o I (upd H m o') := ⟨w.nt, w.n0, w.ni, by rw [upd_ne ne]; exact w.at_⟩
theorem Grow.put (g : Grow T I0 H0 I H) (w : Own T H0 l o I H) : Grow T I0 H0 I (upd H l o') where
  view := g.view
  sub := fun b u e => by
    rw [upd_ne (ne_of_none e w.ni)]
    exact g.sub b u e
  keep := fun b u n e => by
    rw [upd_ne (ne_of_none e w.n0)]
    exact g.keep b u n e
  live := fun b e => upd_live (g.live b e)
  fresh := g.fresh
  tbl := g.tbl
/-- it is given out: it will not change any more -/
theorem Grow.give (g : Grow T I0 H0 I H) (w : Own T H0 l o I H) (nt : NTb o := by intro _ z; cases z) : Grow T I0 H0 (upd I l o) H where
  view := g.view.trans (Same.up w.ni)
  sub := fun b u e => by
    by_cases q : b = l
    · subst q; rw [upd_same] at e; rw [w.at_]; exact e
    · rw [upd_ne q] at e; exact g.sub b u e
  keep := g.keep
  live := g.live
  fresh := fun b e n => by
    rw [upd_ne (fun z => n (by rw [z]; exact w.n0))]
    exact g.fresh b e n
  tbl := fun b ps e => g.tbl b ps (upd_tbl nt e)

/-- what was changed is younger than where one looks from -/
theorem Grow.drop (g0 : Grow T I0 H0 I H) {T' : Addr → Prop} (g : Grow T' I H I' H') (hT : ∀ b, T' b → T b ∨ H0 b = none) : Grow T I0 H0 I' H' where
  view := g0.view.trans g.view
  sub := g.sub
  keep := fun b u n e => g.keep b u (fun t => by
    rcases hT b t with z | z
    · exact n z
    · rw [z] at e; cases e) (g0.keep b u n e)
  live := fun b e => g.live b (g0.live b e)
  fresh := fun b e n => g.fresh b (g0.fresh b e n) (g0.live b n)
  tbl := fun b ps e => g0.tbl b ps (g.tbl b ps e)
/-- x is given out, with what it holds now -/
theorem Grow.give' (g : Grow T I0 H0 I H) (n0 : H0 l = none) (ni : I l = none) (h : H l = some o) (nt : NTb o := by intro _ z; cases z) : Grow T I0 H0 (upd I l o) H where
  view := g.view.trans (Same.up ni)
  sub := fun b u e => by
    by_cases q : b = l
    · subst q; rw [upd_same] at e; rw [h]; exact e
    · rw [upd_ne q] at e; exact g.sub b u e
  keep := g.keep
  live := g.live
  fresh := fun b e n => by
    rw [upd_ne (fun z => n (by rw [z]; exact n0))]
    exact g.fresh b e n
  tbl := fun b ps e => g.tbl b ps (upd_tbl nt e)

/-- an object that T names is changed -/
theorem Grow.chg (g : Grow T I0 H0 I H) (t : T p) (ni : I p = none) : Grow T I0 H0 I (upd H p o') where
  view := g.view
  sub := fun b u e => by
    rw [upd_ne (ne_of_none e ni)]
    exact g.sub b u e
  keep := fun b u n e => by
    rw [upd_ne (fun z => n (by rw [z]; exact t))]
    exact g.keep b u n e
  live := fun b e => upd_live (g.live b e)
  fresh := g.fresh
  tbl := g.tbl

/-! ### data and what stands for it -/
class Rep (α : Type) where
  is : Hp → V → α → Prop
  mono : ∀ {H H' : Hp} {v : V} {x : α}, Same H H' → is H v x → is H' v x
instance : Rep V := ⟨fun _ v x => v = x, fun _ h => h⟩
instance : Rep Int := ⟨fun _ v x => v = .int x, fun _ h => h⟩
instance : Rep Bool := ⟨fun _ v x => v = .bl x, fun _ h => h⟩
instance : Rep Str := ⟨fun _ v x => v = .str x, fun _ h => h⟩
instance : Rep Unit := ⟨fun _ v _ => v = .non, fun _ h => h⟩
theorem Paired.mono' {α β : Type} {F G : α → β → Prop} (h : ∀ a b, F a b → G a b) : ∀ {xs : List α} {ys : List β}, Paired F xs ys → Paired G xs ys
  | _, _, .nil => .nil
  | _, _, .cons a t => .cons (h _ _ a) (Paired.mono' h t)
/-- a list -/
def isL {α : Type} [Rep α] (I : Hp) (v : V) (xs : List α) : Prop := ∃ a vs, v = .ref a ∧ I a = some (.lst vs) ∧ Paired (Rep.is I) vs xs
/-- a tuple of any length, of things of one kind -/
structure Tup (α : Type) where
  l : List α
def isU {α : Type} [Rep α] (I : Hp) (v : V) (xs : List α) : Prop := ∃ a vs, v = .ref a ∧ I a = some (.tup vs) ∧ Paired (Rep.is I) vs xs
instance {α : Type} [Rep α] : Rep (List α) := ⟨isL, fun e ⟨a, vs, h1, h2, h3⟩ => ⟨a, vs, h1, e _ _ h2, Paired.mono' (fun _ _ z => Rep.mono e z) h3⟩⟩
instance {α : Type} [Rep α] : Rep (Tup α) := ⟨fun I v x => isU I v x.l, fun e ⟨a, vs, h1, h2, h3⟩ => ⟨a, vs, h1, e _ _ h2, Paired.mono' (fun _ _ z => Rep.mono e z) h3⟩⟩
/-- a pair -/
def isP {α β : Type} [Rep α] [Rep β] (I : Hp) (v : V) (x : α × β) : Prop := ∃ a v1 v2, v = .ref a ∧ I a = some (.tup [v1, v2]) ∧ Rep.is I v1 x.1 ∧ Rep.is I v2 x.2
instance {α β : Type} [Rep α] [Rep β] : Rep (α × β) := ⟨isP, fun e ⟨a, v1, v2, h1, h2, h3, h4⟩ => ⟨a, v1, v2, h1, e _ _ h2, Rep.mono e h3, Rep.mono e h4⟩⟩

/-! ### what an expression gives -/
def EvR {α : Type} [Rep α] (te : TE) (σ : L2.St) (I : Hp) (x : α) : Prop := ∀ H, Same I H → ∀ Q : VK, (∀ v I' H', Grow No I H I' H' → Rep.is I' v x → Q v H') → te σ H Q
def EvT (tt : TT) (σ : L2.St) (I : Hp) (b : Bool) : Prop := ∀ H, Same I H → ∀ Q : Bool → Hp → Prop, (∀ I' H', Grow No I H I' H' → Q b H') → tt σ H Q
def un (J I : Hp) : Hp := fun b => match J b with
  | some o => some o
  | none => I b
theorem un_l : Same J (un J I) := fun b o e => by
  unfold un
  rw [e]
theorem un_none {b : Addr} (h : J b = none) : un J I b = I b := by
  unfold un
  rw [h]
theorem Grow.join {e : Same I J} {s : Same J H} (g : Grow No I H I' H') : Grow No J H (un J I') H' ∧ Same I' (un J I') := by
  have k : Same J H' := fun b o q => g.keep b o (fun z => z) (s b o q)
  refine ⟨⟨un_l, fun b o q => ?_, g.keep, g.live, fun b n q => ?_, fun b ps q => ?_⟩, fun b o q => ?_⟩
  · cases h : J b with
    | none => rw [un_none h] at q; exact g.sub b o q
    | some u =>
      have z : un J I' b = some u := un_l b u h
      rw [z] at q; cases q
      exact k b o h
  · rw [un_none n]
    exact g.fresh b (e.free n) q
  · cases h : J b with
    | none =>
      rw [un_none h] at q
      have z := e b _ (g.tbl b ps q)
      rw [h] at z; cases z
    | some u =>
      have z : un J I' b = some u := un_l b u h
      rw [z] at q
      exact q
  · cases h : J b with
    | none => rw [un_none h]; exact q
    | some u =>
      have z : un J I' b = some u := un_l b u h
      have h1 := k b u h
      rw [g.sub b o q] at h1
      rw [z, h1]
section
variable {α β γ : Type} [Rep α] [Rep β] [Rep γ] {te ta tb tc : TE} {tt t u : TT} {σ : L2.St} {x : α} {y : β} {z : γ} {v w : V} {K : PySem.W.Frag}
theorem EvR.mono (h : EvR te σ I x) (e : Same I J) : EvR te σ J x := fun H s Q k => h H (e.trans s) Q fun v I' H' g r =>
  let ⟨g', e'⟩ := g.join (e := e) (s := s)
  k v _ H' g' (Rep.mono e' r)
theorem EvT.mono {b : Bool} (h : EvT tt σ I b) (e : Same I J) : EvT tt σ J b := fun H s Q k => h H (e.trans s) Q fun I' H' g =>
  let ⟨g', _⟩ := g.join (e := e) (s := s)
  k _ H' g'
/-- the rest of an evaluation: from the view and the heap as they stand -/
theorem EvR.go (h : EvR te σ I x) (s : Same I H) {Q : VK} (k : ∀ v I' H', Grow No I H I' H' → Rep.is I' v x → Q v H') : te σ H Q := h H s Q k
theorem evr_var {i : Nat} (h : σ[i]? = some (some v)) (r : Rep.is I v x) : EvR (tVar i) σ I x := fun H s Q k => ⟨v, h, k v I H (Grow.refl s) r⟩
theorem evr_c (r : Rep.is I v x) : EvR (tC v) σ I x := fun H s Q k => k v I H (Grow.refl s) r
theorem evr_int {i : Int} : EvR (tC (.int i)) σ I i := evr_c rfl
theorem evr_str {s : Str} : EvR (tC (.str s)) σ I s := evr_c rfl
theorem evr_bl {b : Bool} : EvR (tC (.bl b)) σ I b := evr_c rfl
theorem evr_non : EvR (tC .non) σ I () := evr_c rfl
/-- what an operator makes of two values -/
def RvR (r : R2) (I : Hp) (v w : V) (z : γ) : Prop := ∀ H, Same I H → ∀ Q : VK, (∀ u I' H', Grow No I H I' H' → Rep.is I' u z → Q u H') → r v w H Q
theorem evr_op {r : R2} (ha : EvR ta σ I x) (hb : EvR tb σ I y) (hr : ∀ J v w, Same I J → Rep.is J v x → Rep.is J w y → RvR r J v w z) : EvR (tOp r ta tb) σ I z := fun H s Q k =>
  ha H s _ fun v I1 H1 g1 r1 => (hb.mono g1.view) H1 g1.sub _ fun w I2 H2 g2 r2 => hr I2 v w (g1.view.trans g2.view) (Rep.mono g2.view r1) r2 H2 g2.sub Q fun u I3 H3 g3 r3 => k u I3 H3 ((g1.trans g2).trans g3) r3
theorem evr_opI {r : R2} {i j : Int} {z : γ} (ha : EvR ta σ I i) (hb : EvR tb σ I j) (hr : ∀ J, RvR r J (.int i) (.int j) z) : EvR (tOp r ta tb) σ I z :=
  evr_op ha hb fun J v w _ h1 h2 => by
    cases h1; cases h2
    exact hr J
theorem rvr_I0 {g : Int → Int → V} {i j : Int} (h : ∀ J, Rep.is J (g i j) z) : RvR (rI0 g) I (.int i) (.int j) z := fun H s Q k => ⟨i, j, rfl, rfl, k _ I H (Grow.refl s) (h I)⟩
theorem rvr_I {C : Int → Int → Prop} {g : Int → Int → V} {i j : Int} (hc : C i j) (h : ∀ J, Rep.is J (g i j) z) : RvR (rI C g) I (.int i) (.int j) z := fun H s Q k => ⟨i, j, rfl, rfl, hc, k _ I H (Grow.refl s) (h I)⟩
end
end Nw

namespace Nw
open PySem PySem.Spec PyProof.Rows L2

/-! ### a def and its promise, by the def's address -/
structure Ok (P : Program) (w : World) (K : PySem.W.Frag) (mg : Str → Option Value) (base : Heap) (CX : CXT) (k : Nat) (f : Addr) (ps : List Str) (sp : Sp) : Prop where
  ok : ∃ fd, FnOk P w K mg base CX k f fd ps sp ∧ Binds K fd ps [] ∧ PySem.W.keepIn K (.ref f) = true ∧ ∃ oc od osl, K.lookup f = some ⟨oc, od, .func fd, osl⟩
abbrev FnAt (K : PySem.W.Frag) (x qual : Str) (st : Stmt) (f : Addr) : Prop := ∃ fd, FunD K x qual (defArgs st) (defBody st) (defScope st) [] [] f fd
section
variable {P : Program} {w : World} {K : PySem.W.Frag} {mg : Str → Option Value} {base : Heap} {X : Cx} {CX : CXT} {k : Nat} {f C p g : Addr} {ps : List Str} {sp : Sp} {E : XK} {x m : Str} {pos ppos apos : Pos} {e o : Expr} {es : List Expr} {ta : TE} {t : TA}
theorem Ok.imp {sp' : Sp} (G : Ok P w K mg base CX k f ps sp) (h : ∀ vs H Q E, sp' vs H Q E → sp vs H Q E) : Ok P w K mg base CX k f ps sp' := by
  obtain ⟨fd, F, b, kp⟩ := G.ok
  exact ⟨fd, F.imp h, b, kp⟩
theorem Ok.up {j : Nat} (G : Ok P w K mg base CX k f ps sp) (h : k ≤ j) : Ok P w K mg base CX j f ps sp := by
  obtain ⟨fd, F, b, kp⟩ := G.ok
  exact ⟨fd, F.mono h, b, kp⟩
/-- a def that lets no exception out keeps its promise -/
theorem ok_of {qual : Str} {st : Stmt} {N : List Str} (F : FnAt K x qual st f) (S : FnScope N ps (defScope st))
    (hb : ∀ (kV doc pm : Value) (an : Option Addr) (cdv ct : Value) (us : List Value), us.length = ps.length → bindArgs (PySem.W.fnOf x qual (defArgs st) (defBody st) (defScope st) .none kV doc pm an cdv ct) ⟨us, []⟩ = pure (ps.zip us))
    (len : ∀ vs H Q E, sp vs H Q E → vs.length = ps.length)
    (hbody : ∀ (cdv : Value) (A : Around) (outer : List Env) (s : Shared) (H : Hp) (vs : List V) (Q : VK) (E : XK), Room k (A.deeper (envOfC qual (defScope st) s.heap.objs.size f cdv)) → sp vs H Q E →
      ∃ t, PSs (cxOf CX0 P w K mg base N qual (defScope st) f cdv A outer s H E).nox (defBody st) t ∧ t { nx := fun _ H' => Q .non H', rt := Q } (start N vs) H) : Ok P w K mg base CX0 (k + 1) f ps sp := by
  obtain ⟨fd, F⟩ := F
  refine ⟨fd, F.ok S len fun cdv A outer s H vs Q E hr h => ?_, F.bindsN hb, F.kp, let ⟨oc, od, _, _, _, _, _, _, _, osl, _, lk, _⟩ := F.ex; ⟨oc, od, osl, lk⟩⟩
  obtain ⟨t, h1, h2⟩ := hbody cdv A outer s H vs Q E hr h
  exact ⟨t, h1.nox, h2⟩
/-- a def that lets none out, where some may be let out -/
theorem Ok.toX {CX' : CXT} (G : Ok P w K mg base CX0 k f ps sp) : Ok P w K mg base CX' k f ps sp := by
  obtain ⟨fd, F, r⟩ := G.ok
  refine ⟨fd, ⟨F.len, fun A outer s H args us vs Q E hr e0 hb rv h => codeAny_mono (F.run A outer s H args us vs Q E hr e0 hb rv h) fun r s' hq => ?_⟩, r⟩
  cases r with
  | error e => exact (show False from hq).elim
  | ok fl => cases fl <;> exact hq
/-- both of two promises -/
theorem Ok.or {sp' : Sp} (G : Ok P w K mg base CX k f ps sp) (G' : Ok P w K mg base CX k f ps sp') : Ok P w K mg base CX k f ps (fun vs H Q E => sp vs H Q E ∨ sp' vs H Q E) := by
  obtain ⟨fd, F, b, kp, oc, od, osl, lk⟩ := G.ok
  obtain ⟨fd', F', _, _, oc', od', osl', lk'⟩ := G'.ok
  rw [lk] at lk'
  cases lk'
  refine ⟨fd, ⟨fun vs H Q E h => h.elim (F.len vs H Q E) (F'.len vs H Q E), fun A outer s H args us vs Q E hr e0 hb rv h => ?_⟩, b, kp, oc, od, osl, lk⟩
  rcases h with h | h
  · exact F.run A outer s H args us vs Q E hr e0 hb rv h
  · exact F'.run A outer s H args us vs Q E hr e0 hb rv h
theorem pe_callC (G : Ok X.prog X.w X.K X.mg X.base CX0 k f ps sp) (hr : Room k X.A) (hm : X.mg x = some (.ref f)) (ha : PA X (e :: es) t) (hg : Gl X x := by rfl) (hdb : (x == ("__debug__" : Str)) = false := by decide)
    (he : starEach (e :: es) X.env = (false, eval e X.env) :: starEach es X.env := by rfl) (hpl : (backTo pos (starEach es X.env)).any (·.1) = false := by rfl) : PE X (.Call (.Name x ppos) (e :: es) [] pos) (tCall sp [] E0 t) := by
  obtain ⟨fd, F, b, kp, _⟩ := G.ok
  exact pe_call F hr hg hm kp b .nil pass0 ha hdb he hpl
theorem pe_makeC (M : Mk X.K C f) (G : Ok X.prog X.w X.K X.mg X.base CX0 k f ps sp) (hr : Room (k + 1) X.A) (hm : X.mg x = some (.ref C)) (ha : PA X (e :: es) t) (hg : Gl X x := by rfl) (hdb : (x == ("__debug__" : Str)) = false := by decide)
    (he : starEach (e :: es) X.env = (false, eval e X.env) :: starEach es X.env := by rfl) (hpl : (backTo pos (starEach es X.env)).any (·.1) = false := by rfl) : PE X (.Call (.Name x ppos) (e :: es) [] pos) (tMake C sp [] E0 t) := by
  obtain ⟨fd, F, b, kp, _⟩ := G.ok
  exact pe_make M F hr hg hm b .nil pass0 ha hdb he hpl
theorem pe_gint {i : Int} (h : ∃ t, X.mg x = some (.int i t)) (hg : Gl X x := by rfl) (hd : (x == ("__debug__" : Str)) = false := by decide) : PE X (.Name x pos) (tC (.int i)) := by
  obtain ⟨t, h⟩ := h
  exact pe_glob hg h ⟨t, rfl⟩ hd
theorem pe_gstr {i : Str} (h : ∃ t, X.mg x = some (.str i t)) (hg : Gl X x := by rfl) (hd : (x == ("__debug__" : Str)) = false := by decide) : PE X (.Name x pos) (tC (.str i)) := by
  obtain ⟨t, h⟩ := h
  exact pe_glob hg h ⟨t, rfl⟩ hd
/-- a statement, then the others, by what holds between them -/
def tMid (t u : TS) : TS := fun D σ H => ∃ M : L2.St → Hp → Prop, t { D with nx := M } σ H ∧ ∀ σ1 H1, M σ1 H1 → u D σ1 H1
theorem pss_mid {st : Stmt} {sts : List Stmt} {t u : TS} (a : PS X st t) (b : PSs X sts u) : PSs X (st :: sts) (tMid t u) :=
  ⟨fun pins s σ H D I ⟨M, h1, h2⟩ => wpAny_execs_cons (wpAny_mono (a.run pins s σ H { D with nx := M } I h1) (fun f s1 q => by
    cases f with
    | next => exact let ⟨σ1, H1, I1, q1⟩ := q; b.run pins s1 σ1 H1 D I1 (h2 σ1 H1 q1)
    | ret v => exact q
    | brk => exact q
    | cont => exact q) fun _ _ z => z)⟩
/-- what isinstance leans on, of an own class -/
structure InsF (K : PySem.W.Frag) (C : Addr) : Prop where
  ha : PySem.W.findIn K (.ref C) "__class__" = some (some (.builtin "object.__class__"))
  hn : PySem.W.specialIn K (.builtin "object.__class__") "__get__" = some (some (.builtin "getset_descriptor.__get__"))
  htk : PySem.W.takesIn K (.builtin "object.__class__") = some true
  hm : PySem.W.mroIn K C (.type "object") = some true
def insB (K : PySem.W.Frag) (C : Addr) : Bool := decide (PySem.W.findIn K (.ref C) "__class__" = some (some (.builtin "object.__class__"))) && (decide (PySem.W.specialIn K (.builtin "object.__class__") "__get__" = some (some (.builtin "getset_descriptor.__get__"))) && (decide (PySem.W.takesIn K (.builtin "object.__class__") = some true) && decide (PySem.W.mroIn K C (.type "object") = some true)))
theorem insB_ok {K : PySem.W.Frag} {C : Addr} (h : insB K C = true) : InsF K C := by
  unfold insB at h
  simp only [Bool.and_eq_true, decide_eq_true_eq] at h
  exact ⟨h.1, h.2.1, h.2.2.1, h.2.2.2⟩
theorem InsF.ty {K : PySem.W.Frag} {H : Hp} {a C dx : Addr} {fs : List (Str × V)} (F : InsF K C) (c : Cls K C) (h : H a = some (.ins C dx fs)) : TyX K H (.ref a) (.ref C) := .base (.ins h c F.ha F.hn F.htk F.hm)
theorem kit_self {K : PySem.W.Frag} {C : Addr} : PySem.W.kitOne K (.ref C) (.ref C) = some true := by
  unfold PySem.W.kitOne
  rw [if_pos (by simp)]
theorem kit_refl {K : PySem.W.Frag} {t : Value} (h : (t == t) = true := by rfl) : PySem.W.kitOne K t t = some true := by
  unfold PySem.W.kitOne
  rw [if_pos h]
theorem kit_any_hd {K : PySem.W.Frag} {t : Value} {r : List Value} (h : (t == t) = true := by rfl) : PySem.W.kitAny K t (t :: r) = some true := by
  unfold PySem.W.kitAny
  rw [kit_refl h]
/-- xs == [] and xs != [], whatever stands in xs -/
def rNilE (K : PySem.W.Frag) : R2 := fun x y H Q => ∃ a b xs, x = .ref a ∧ y = .ref b ∧ SqL K H a xs ∧ SqL K H b [] ∧ Q (.bl xs.isEmpty) H
def rNilN (K : PySem.W.Frag) : R2 := fun x y H Q => ∃ a b xs, x = .ref a ∧ y = .ref b ∧ SqL K H a xs ∧ SqL K H b [] ∧ Q (.bl (!xs.isEmpty)) H
theorem op_eqNil (hu : X.A.units + 64 < cLine) : OpR X (compareOp .Eq) (rNilE X.K) := by
  intro pins s σ H x y v u Q I rx ry h
  obtain ⟨a, b, xs, rfl, rfl, ha, hb, q⟩ := h
  cases rx
  cases ry
  obtain ⟨its, r1, t1, z1⟩ := I.list ha
  obtain ⟨its2, r2, t2, z2⟩ := I.list hb
  cases r2
  have hu' : X.A.units < cLine := Nat.lt_of_le_of_lt (Nat.le_add_right _ _) hu
  cases r1 with
  | nil =>
    refine SeqAt.eq_listAt (e := fun _ => true) t1.isList t2.isList rfl hu' (fun j h1 => ?_) ⟨.bl true, H, I, rfl, q⟩
    exact absurd h1 (by simp)
  | cons p r => exact SeqAt.eq_list_lengthsAt t1.isList t2.isList (by simp) hu' ⟨.bl false, H, I, rfl, q⟩
theorem op_neNil (hu : X.A.units + 64 < cLine) : OpR X (compareOp .NotEq) (rNilN X.K) := by
  intro pins s σ H x y v u Q I rx ry h
  obtain ⟨a, b, xs, rfl, rfl, ha, hb, q⟩ := h
  cases rx
  cases ry
  obtain ⟨its, r1, t1, z1⟩ := I.list ha
  obtain ⟨its2, r2, t2, z2⟩ := I.list hb
  cases r2
  have hu' : X.A.units < cLine := Nat.lt_of_le_of_lt (Nat.le_add_right _ _) hu
  cases r1 with
  | nil =>
    refine SeqAt.RcNeAt.lists (e := fun _ => true) t1.isList t2.isList rfl hu' (fun j h1 => ?_) _ _ _ _ ⟨.bl false, H, I, rfl, q⟩
    exact absurd h1 (by simp)
  | cons p r => exact SeqAt.RcNeAt.lists_lengths t1.isList t2.isList (by simp) hu' _ _ _ _ ⟨.bl true, H, I, rfl, q⟩
end
end Nw

namespace Nw
open PySem PySem.Spec PyProof.Rows L2
/-! ### the source of draws: a dict, two lists -/
structure DA where
  d : Addr
  g : Addr
  l : Addr
def TD (D : DA) : Addr → Prop := fun b => b = D.d ∨ b = D.g ∨ b = D.l
abbrev drK (D : DA) (dig tn : Int) : List (Key × V) := [(.inr "digits", .int dig), (.inr "great", .ref D.g), (.inr "lumps", .ref D.l), (.inr "turn", .int tn)]
structure DrS (D : DA) (dig tn : Int) (gs ls : List Int) (I H : Hp) : Prop where
  sub : Same I H
  vd : I D.d = none
  vg : I D.g = none
  vl : I D.l = none
  dg : D.d ≠ D.g
  dl : D.d ≠ D.l
  gl : D.g ≠ D.l
  hd : H D.d = some (.dK (drK D dig tn))
  hg : H D.g = some (.lst (gs.map V.int))
  hl : H D.l = some (.lst (ls.map V.int))
structure Drw (D : DA) (n : Nat) (I H : Hp) : Prop where
  ex : ∃ (dig tn : Int) (gs ls : List Int), DrS D dig tn gs ls I H ∧ 0 ≤ dig ∧ 0 ≤ tn ∧ tn ≤ n ∧ (∀ g ∈ gs, 0 ≤ g) ∧ (∀ l ∈ ls, 0 ≤ l)
section
variable {D : DA} {dig tn : Int} {gs ls : List Int} {n : Nat} {T : Addr → Prop} {I H I' H' I0 H0 : Hp} {p l m : Addr} {o o' : HO}
theorem DrS.live (s : DrS D dig tn gs ls I H) : ∀ b, TD D b → H b ≠ none := fun b t => by
  rcases t with rfl | rfl | rfl
  · rw [s.hd]; exact fun z => nomatch z
  · rw [s.hg]; exact fun z => nomatch z
  · rw [s.hl]; exact fun z => nomatch z
theorem Drw.live (w : Drw D n I H) : ∀ b, TD D b → H b ≠ none := let ⟨_, _, _, _, s, _⟩ := w.ex; s.live
theorem Drw.sub (w : Drw D n I H) : Same I H := let ⟨_, _, _, _, s, _⟩ := w.ex; s.sub
theorem DrS.grow (s : DrS D dig tn gs ls I H) (g : Grow No I H I' H') : DrS D dig tn gs ls I' H' :=
  ⟨g.sub, g.fresh _ s.vd (s.live _ (.inl rfl)), g.fresh _ s.vg (s.live _ (.inr (.inl rfl))), g.fresh _ s.vl (s.live _ (.inr (.inr rfl))), s.dg, s.dl, s.gl, g.keep _ _ (fun z => z) s.hd, g.keep _ _ (fun z => z) s.hg, g.keep _ _ (fun z => z) s.hl⟩
theorem Drw.grow (w : Drw D n I H) (g : Grow No I H I' H') : Drw D n I' H' := let ⟨a, b, c, d, s, r⟩ := w.ex; ⟨a, b, c, d, s.grow g, r⟩
theorem DrS.put (s : DrS D dig tn gs ls I H) (nt : ¬ TD D m) (ni : I m = none) : DrS D dig tn gs ls I (upd H m o) :=
  ⟨fun b u e => by rw [upd_ne (ne_of_none e ni)]; exact s.sub b u e, s.vd, s.vg, s.vl, s.dg, s.dl, s.gl, by rw [upd_ne fun z => nt (.inl z.symm)]; exact s.hd, by rw [upd_ne fun z => nt (.inr (.inl z.symm))]; exact s.hg, by rw [upd_ne fun z => nt (.inr (.inr z.symm))]; exact s.hl⟩
theorem Drw.put (w : Drw D n I H) (x : Own (TD D) H0 m o I H) : Drw D n I (upd H m o') := let ⟨a, b, c, d, s, r⟩ := w.ex; ⟨a, b, c, d, s.put x.nt x.ni, r⟩
theorem Drw.give (w : Drw D n I H) (x : Own (TD D) H0 m o I H) : Drw D n (upd I m o) H := by
  obtain ⟨a, b, c, d, s, r⟩ := w.ex
  refine ⟨a, b, c, d, ⟨fun q u e => ?_, ?_, ?_, ?_, s.dg, s.dl, s.gl, s.hd, s.hg, s.hl⟩, r⟩
  · by_cases z : q = m
    · subst z; rw [upd_same] at e; rw [x.at_]; exact e
    · rw [upd_ne z] at e; exact s.sub q u e
  · rw [upd_ne fun z => x.nt (.inl z.symm)]; exact s.vd
  · rw [upd_ne fun z => x.nt (.inr (.inl z.symm))]; exact s.vg
  · rw [upd_ne fun z => x.nt (.inr (.inr z.symm))]; exact s.vl
theorem Drw.mono {m : Nat} (w : Drw D n I H) (h : n ≤ m) : Drw D m I H := by
  obtain ⟨a, b, c, d, s, h1, h2, h3, h4⟩ := w.ex
  exact ⟨a, b, c, d, s, h1, h2, by omega, h4⟩
theorem DrS.up (s : DrS D dig tn gs ls I H) {d2 t2 : Int} (hH : Same I H') (h1 : H' D.d = some (.dK (drK D d2 t2))) {gs2 : List Int} (h2 : H' D.g = some (.lst (gs2.map V.int))) (h3 : H' D.l = some (.lst (ls.map V.int))) : DrS D d2 t2 gs2 ls I H' :=
  ⟨hH, s.vd, s.vg, s.vl, s.dg, s.dl, s.gl, h1, h2, h3⟩
/-- only the source's own objects change -/
theorem DrS.gd (s : DrS D dig tn gs ls I H) (g : Grow (TD D) I0 H0 I H) : Grow (TD D) I0 H0 I (upd H D.d o) where
  view := g.view
  sub := fun b u e => by rw [upd_ne (ne_of_none e s.vd)]; exact g.sub b u e
  keep := fun b u n e => by rw [upd_ne fun z => n (.inl z)]; exact g.keep b u n e
  live := fun b e => upd_live (g.live b e)
  fresh := g.fresh
  tbl := g.tbl
theorem DrS.gg (s : DrS D dig tn gs ls I H) (g : Grow (TD D) I0 H0 I H) : Grow (TD D) I0 H0 I (upd H D.g o) where
  view := g.view
  sub := fun b u e => by rw [upd_ne (ne_of_none e s.vg)]; exact g.sub b u e
  keep := fun b u n e => by rw [upd_ne fun z => n (.inr (.inl z))]; exact g.keep b u n e
  live := fun b e => upd_live (g.live b e)
  fresh := g.fresh
  tbl := g.tbl
end
theorem putK_new {κ : Type} [DecidableEq κ] {kvs : List (κ × V)} {k : κ} {v : V} (h : k ∉ kvs.map (·.1)) : putK kvs k v = kvs ++ [(k, v)] := by
  unfold putK
  have e : (kvs.any fun kv => decide (kv.1 = k)) = false := by
    rw [List.any_eq_false]
    intro kv hkv z
    exact h (List.mem_map.mpr ⟨kv, hkv, of_decide_eq_true z⟩)
  rw [e, if_neg Bool.false_ne_true]
theorem merge_app : ∀ {more acc : List (Key × V)}, (∀ k ∈ more.map (·.1), k ∉ acc.map (·.1)) → (more.map (·.1)).Nodup → mergeK acc more = acc ++ more
  | [], acc, _, _ => (List.append_nil acc).symm
  | q :: r, acc, h, nd => by
    have h1 : putK acc q.1 q.2 = acc ++ [q] := putK_new (h q.1 (List.mem_cons_self ..))
    have nd' := List.nodup_cons.mp nd
    have ih := merge_app (more := r) (acc := acc ++ [q]) (fun k hk => by
      rw [List.map_append, List.mem_append]
      rintro (z | z)
      · exact h k (List.mem_cons_of_mem _ hk) z
      · simp at z; subst z; exact nd'.1 hk) nd'.2
    show mergeK (putK acc q.1 q.2) r = acc ++ q :: r
    rw [h1, ih, List.append_assoc] <;> rfl
theorem merge_nodup {kvs : List (Key × V)} (h : (kvs.map (·.1)).Nodup) : mergeK [] kvs = kvs := merge_app (fun _ _ z => by cases z) h
theorem k12 : ¬ ((Sum.inr "digits" : Key) = (Sum.inr "great" : Key)) := by decide +kernel
theorem k13 : ¬ ((Sum.inr "digits" : Key) = (Sum.inr "lumps" : Key)) := by decide +kernel
theorem k14 : ¬ ((Sum.inr "digits" : Key) = (Sum.inr "turn" : Key)) := by decide +kernel
theorem k23 : ¬ ((Sum.inr "great" : Key) = (Sum.inr "lumps" : Key)) := by decide +kernel
theorem k24 : ¬ ((Sum.inr "great" : Key) = (Sum.inr "turn" : Key)) := by decide +kernel
theorem k34 : ¬ ((Sum.inr "lumps" : Key) = (Sum.inr "turn" : Key)) := by decide +kernel
variable {D : DA} {dig tn i : Int}
theorem val_dig : valV (drK D dig tn) (Sum.inr "digits") = some (.int dig) := valV_pos rfl
theorem val_great : valV (drK D dig tn) (Sum.inr "great") = some (.ref D.g) := (valV_neg k12).trans (valV_pos rfl)
theorem val_lumps : valV (drK D dig tn) (Sum.inr "lumps") = some (.ref D.l) := (valV_neg k13).trans ((valV_neg k23).trans (valV_pos rfl))
theorem val_turn : valV (drK D dig tn) (Sum.inr "turn") = some (.int tn) := (valV_neg k14).trans ((valV_neg k24).trans ((valV_neg k34).trans (valV_pos rfl)))
theorem put_dig : putK (drK D dig tn) (Sum.inr "digits") (.int i) = drK D i tn := by
  unfold putK
  rw [valV_any, val_dig]
  show (if true = true then _ else _) = _
  rw [if_pos rfl]
  simp only [List.map_cons, List.map_nil]
  rw [if_pos trivial, if_neg (Ne.symm k12), if_neg (Ne.symm k13), if_neg (Ne.symm k14)]
theorem put_turn : putK (drK D dig tn) (Sum.inr "turn") (.int i) = drK D dig i := by
  unfold putK
  rw [valV_any, val_turn]
  show (if true = true then _ else _) = _
  rw [if_pos rfl]
  simp only [List.map_cons, List.map_nil]
  rw [if_neg k14, if_neg k24, if_neg k34, if_pos trivial]
def lim : Nat := 1099511627776
/-- a number below many -/
def spNext : Sp := fun vs H Q _ => ∃ (I : Hp) (D : DA) (n : Nat) (many : Int), vs = [.ref D.d, .int many] ∧ Drw D n I H ∧ 0 < many ∧ many < 1073741824 ∧ n < lim ∧
  ∀ (r : Int) (H' : Hp), 0 ≤ r → r < many → Grow (TD D) I H I H' → Drw D (n + 1) I H' → Q (.int r) H'
theorem DrS.get_dig {gs ls : List Int} {I H : Hp} (s : DrS D dig tn gs ls I H) : DGet H D.d (.str "digits") (some (.int dig)) := by
  have z := DGet.k (k := .inr "digits") s.hd
  rw [val_dig] at z
  exact z
theorem DrS.get_great {gs ls : List Int} {I H : Hp} (s : DrS D dig tn gs ls I H) : DGet H D.d (.str "great") (some (.ref D.g)) := by
  have z := DGet.k (k := .inr "great") s.hd
  rw [val_great] at z
  exact z
theorem DrS.get_lumps {gs ls : List Int} {I H : Hp} (s : DrS D dig tn gs ls I H) : DGet H D.d (.str "lumps") (some (.ref D.l)) := by
  have z := DGet.k (k := .inr "lumps") s.hd
  rw [val_lumps] at z
  exact z
theorem DrS.get_turn {gs ls : List Int} {I H : Hp} (s : DrS D dig tn gs ls I H) : DGet H D.d (.str "turn") (some (.int tn)) := by
  have z := DGet.k (k := .inr "turn") s.hd
  rw [val_turn] at z
  exact z
theorem DrS.put_dig {gs ls : List Int} {I H : Hp} (s : DrS D dig tn gs ls I H) : DPut H D.d (.str "digits") (.int i) (upd H D.d (.dK (drK D i tn))) := by
  have z := DPut.k (k := .inr "digits") (v := .int i) s.hd (by show 4 < sizeLine; decide)
  rw [Nw.put_dig] at z
  exact z
theorem DrS.put_turn {gs ls : List Int} {I H : Hp} (s : DrS D dig tn gs ls I H) : DPut H D.d (.str "turn") (.int i) (upd H D.d (.dK (drK D dig i))) := by
  have z := DPut.k (k := .inr "turn") (v := .int i) s.hd (by show 4 < sizeLine; decide)
  rw [Nw.put_turn] at z
  exact z
end Nw

namespace Nw
open PySem PySem.Spec PyProof.Rows L2
/-- what is said of the heap stands through the making and changing of other things -/
structure Stable (T : Addr → Prop) (R : Hp → Hp → Prop) : Prop where
  grow : ∀ {I H I' H' : Hp}, R I H → Grow No I H I' H' → R I' H'
  put : ∀ {H0 : Hp} {m : Addr} {o o' : HO} {I H : Hp}, R I H → Own T H0 m o I H → R I (upd H m o')
  give : ∀ {H0 : Hp} {m : Addr} {o : HO} {I H : Hp}, R I H → Own T H0 m o I H → R (upd I m o) H
theorem Stable.triv {T : Addr → Prop} : Stable T fun _ _ => True := ⟨fun _ _ => trivial, fun _ _ => trivial, fun _ _ => trivial⟩
theorem Stable.drw {D : DA} {n : Nat} : Stable (TD D) (Drw D n) := ⟨fun w g => w.grow g, fun w x => w.put x, fun w x => w.give x⟩
theorem Paired.snoc {α β : Type} {F : α → β → Prop} : ∀ {xs : List α} {ys : List β} {x : α} {y : β}, Paired F xs ys → F x y → Paired F (xs ++ [x]) (ys ++ [y])
  | _, _, _, _, .nil, h => .cons h .nil
  | _, _, _, _, .cons a t, h => .cons a (Paired.snoc t h)
theorem Paired.at {α β : Type} {F : α → β → Prop} : ∀ {xs : List α} {ys : List β} {i : Nat} {y : β}, Paired F xs ys → ys[i]? = some y → ∃ x, xs[i]? = some x ∧ F x y
  | _, _, _, _, .nil, h => by simp at h
  | _, _, 0, _, .cons a t, h => by simp at h; subst h; exact ⟨_, rfl, a⟩
  | _, _, i + 1, _, .cons a t, h => by
    obtain ⟨x, h1, h2⟩ := Paired.at (i := i) t (by simpa using h)
    exact ⟨x, by simpa using h1, h2⟩
theorem Paired.at' {α β : Type} {F : α → β → Prop} : ∀ {xs : List α} {ys : List β} {i : Nat} {x : α}, Paired F xs ys → xs[i]? = some x → ∃ y, ys[i]? = some y ∧ F x y
  | _, _, _, _, .nil, h => by simp at h
  | _, _, 0, _, .cons a t, h => by simp at h; subst h; exact ⟨_, rfl, a⟩
  | _, _, i + 1, _, .cons a t, h => by
    obtain ⟨x, h1, h2⟩ := Paired.at' (i := i) t (by simpa using h)
    exact ⟨x, by simpa using h1, h2⟩
theorem Paired.len {α β : Type} {F : α → β → Prop} : ∀ {xs : List α} {ys : List β}, Paired F xs ys → xs.length = ys.length
  | _, _, .nil => rfl
  | _, _, .cons a t => congrArg (· + 1) (Paired.len t)
theorem lc_yes {te : TE} {σ : L2.St} {H : Hp} {Ky : VK} {Kn : Hp → Prop} (h : te σ H Ky) : tYes σ H (fun b H3 => if b = true then te σ H3 Ky else Kn H3) := by
  show (if true = true then te σ H Ky else Kn H)
  rw [if_pos rfl]
  exact h
section
variable {β : Type} [Rep β] {J : It} {n : Nat} {G : Hp → Prop} {Y : Nat → Hp → V → Hp → Prop} {T : Addr → Prop} {I H1 : Hp} {L : Addr} {g : TG} {tt : TT} {te : TE} {vs : List Nat} {σ : L2.St} {Qd : Hp → Prop}
/-- a comprehension over anything that is walked -/
theorem lc_gen (w : Walk J n G Y) (R : Nat → Hp → Hp → Prop) (hR : ∀ i, Stable T (R i)) (sub : Same I H1) (hT : ∀ b, T b → H1 b ≠ none) (hL : H1 L = none) (r0 : R 0 I H1) (hn : n ≤ 16777216)
    (hG : ∀ i I' H', Grow T I H1 I' H' → R i I' H' → G H') (P : Nat → Option β → Prop)
    (step : ∀ i x I' H' H'', i < n → Grow T I H1 I' H' → R i I' H' → Y i H' x H'' → ∀ (Kn : Hp → Prop) (Ky : V → Hp → Prop), (P i none → ∀ I2 H2, Grow T I' H' I2 H2 → R (i + 1) I2 H2 → Kn H2) →
      (∀ y, P i (some y) → ∀ v I2 H2, Grow T I' H' I2 H2 → R (i + 1) I2 H2 → Rep.is I2 v y → Ky v H2) →
      g x (wipe σ vs) H'' fun σ2 H2 => wipe σ2 vs = wipe σ vs ∧ tt σ2 H2 fun b H3 => if b = true then te σ2 H3 Ky else Kn H3)
    (done : ∀ (os : List (Option β)) I' H' vs', os.length = n → (∀ i o, os[i]? = some o → P i o) → Grow T I H1 I' H' → R n I' H' → Own T H1 L (.lst vs') I' H' → Paired (Rep.is I') vs' (os.filterMap id) → Qd H') :
    ∃ W : Nat → Nat → Hp → Prop, (∃ m, W 0 m (upd H1 L (.lst []))) ∧ ∀ i m H, W i m H →
      (J.stop i H ∧ Qd H) ∨ (J.go i H ∧ ∃ Nx : Hp → Prop, (∀ H', Nx H' → ∃ m', m' < m ∧ W (i + 1) m' H') ∧ ∀ x H', J.yld i H x H' → g x (wipe σ vs) H' fun σ2 H2 => wipe σ2 vs = wipe σ vs ∧ tt σ2 H2 fun b H3 =>
        if b = true then te σ2 H3 fun y H4 => ∃ acc, H4 L = some (.lst acc) ∧ acc.length < sizeLine ∧ Nx (upd H4 L (.lst (acc ++ [y]))) else Nx H3) := by
  refine lc_it w (fun i H => i ≤ n ∧ ∃ I' acc, ∃ os : List (Option β), Grow T I H1 I' H ∧ R i I' H ∧ Own T H1 L (.lst acc) I' H ∧ os.length = i ∧ acc.length ≤ i ∧ (∀ j o, os[j]? = some o → P j o) ∧ Paired (Rep.is I') acc (os.filterMap id))
    ⟨Nat.zero_le _, I, [], [], Grow.mine sub hL, (hR 0).grow r0 (Grow.mine sub hL), Own.new sub (.inl (Same.refl H1)) hT hL, rfl, Nat.le_refl _, fun j o e => by simp at e, .nil⟩ (fun i H _ ⟨_, I', _, _, g1, r1, _⟩ => hG i I' H g1 r1) ?_ ?_
  · rintro i x H H' hi ⟨_, I', acc, os, g1, r1, ow, hl, ha, hP, hp⟩ y
    have hz : acc.length < sizeLine := by rw [sizeLine_eq]; omega
    refine step i x I' H H' hi g1 r1 y (fun H3 => i + 1 ≤ n ∧ ∃ I' acc, ∃ os : List (Option β), Grow T I H1 I' H3 ∧ R (i + 1) I' H3 ∧ Own T H1 L (.lst acc) I' H3 ∧ os.length = i + 1 ∧ acc.length ≤ i + 1 ∧ (∀ j o, os[j]? = some o → P j o) ∧ Paired (Rep.is I') acc (os.filterMap id)) _ (fun h0 I2 H2 g2 r2 => ?_) (fun z hz2 v I2 H2 g2 r2 hv => ?_)
    · refine ⟨hi, I2, acc, os ++ [none], g1.trans g2, r2, ow.grow g2, by simp [hl], by omega, fun j o e => ?_, ?_⟩
      · rw [List.getElem?_append] at e
        split at e
        · exact hP j o e
        · rename_i hj
          cases q : j - os.length with
          | zero =>
            rw [q] at e
            simp at e; subst e
            have : j = i := by omega
            rw [this]; exact h0
          | succ k => rw [q] at e; simp at e
      · rw [List.filterMap_append]
        simp only [List.filterMap_cons, List.filterMap_nil, id, List.append_nil]
        exact Paired.mono' (fun _ _ z => Rep.mono g2.view z) hp
    · have ow2 := ow.grow g2
      refine ⟨acc, ow2.at_, hz, hi, I2, acc ++ [v], os ++ [some z], (g1.trans g2).put ow2, (hR _).put r2 ow2, ow2.put, by simp [hl], by simp; omega, fun j o e => ?_, ?_⟩
      · rw [List.getElem?_append] at e
        split at e
        · exact hP j o e
        · rename_i hj
          cases q : j - os.length with
          | zero =>
            rw [q] at e
            simp at e; subst e
            have : j = i := by omega
            rw [this]; exact hz2
          | succ k => rw [q] at e; simp at e
      · rw [List.filterMap_append]
        exact Paired.snoc (Paired.mono' (fun _ _ z => Rep.mono g2.view z) hp) hv
  · rintro H ⟨_, I', acc, os, g1, r1, ow, hl, ha, hP, hp⟩
    exact done os I' H acc hl hP g1 r1 ow hp
end
theorem os_eq {α β : Type} {f : α → β} : ∀ {xs : List α} {os : List β}, os.length = xs.length → (∀ (i : Nat) (o : β), os[i]? = some o → ∃ x, xs[i]? = some x ∧ o = f x) → os = xs.map f
  | [], [], _, _ => rfl
  | [], _ :: _, h, _ => by simp at h
  | _ :: _, [], h, _ => by simp at h
  | x :: xs, o :: os, h, hP => by
    obtain ⟨z, h1, h2⟩ := hP 0 o rfl
    simp at h1
    subst h1
    rw [List.map_cons, h2, os_eq (f := f) (xs := xs) (os := os) (by simpa using h) fun i o' e => hP (i + 1) o' (by simpa using e)]
theorem fm_id {α β : Type} {f : α → Option β} (xs : List α) : (xs.map f).filterMap id = xs.filterMap f := by
  rw [List.filterMap_map]
  rfl
theorem Paired.ints {I : Hp} : ∀ {vs : List V} {ns : List Int}, Paired (Rep.is I) vs ns → vs = ns.map V.int
  | _, _, .nil => rfl
  | _, _, .cons h t => by
    have e : _ = V.int _ := h
    rw [List.map_cons, e, Paired.ints t]
theorem Paired.bls {I : Hp} : ∀ {vs : List V} {ns : List Bool}, Paired (Rep.is I) vs ns → vs = ns.map V.bl
  | _, _, .nil => rfl
  | _, _, .cons h t => by
    have e : _ = V.bl _ := h
    rw [List.map_cons, e, Paired.bls t]
theorem Paired.strs {I : Hp} : ∀ {vs : List V} {ns : List Str}, Paired (Rep.is I) vs ns → vs = ns.map V.str
  | _, _, .nil => rfl
  | _, _, .cons h t => by
    have e : _ = V.str _ := h
    rw [List.map_cons, e, Paired.strs t]
section
variable {α β : Type} [Rep β] {J : It} {n : Nat} {G : Hp → Prop} {Y : Nat → Hp → V → Hp → Prop} {I H1 : Hp} {L : Addr} {g : TG} {tt : TT} {te : TE} {vs : List Nat} {σ : L2.St} {Qd : Hp → Prop}
/-- a comprehension that only makes: its list is xs.filterMap f -/
theorem lc_pure (w : Walk J n G Y) (xs : List α) (f : α → Option β) (hx : xs.length = n) (sub : Same I H1) (hL : H1 L = none) (hn : n ≤ 16777216) (hG : ∀ I' H', Grow No I H1 I' H' → G H')
    (step : ∀ i x v I' H' H'', xs[i]? = some x → Grow No I H1 I' H' → Y i H' v H'' → ∀ (Kn : Hp → Prop) (Ky : V → Hp → Prop), (f x = none → ∀ I2 H2, Grow No I' H' I2 H2 → Kn H2) →
      (∀ y, f x = some y → ∀ v I2 H2, Grow No I' H' I2 H2 → Rep.is I2 v y → Ky v H2) →
      g v (wipe σ vs) H'' fun σ2 H2 => wipe σ2 vs = wipe σ vs ∧ tt σ2 H2 fun b H3 => if b = true then te σ2 H3 Ky else Kn H3)
    (done : ∀ I' H' vs', Grow No I H1 I' H' → Own No H1 L (.lst vs') I' H' → Paired (Rep.is I') vs' (xs.filterMap f) → Qd H') :
    ∃ W : Nat → Nat → Hp → Prop, (∃ m, W 0 m (upd H1 L (.lst []))) ∧ ∀ i m H, W i m H →
      (J.stop i H ∧ Qd H) ∨ (J.go i H ∧ ∃ Nx : Hp → Prop, (∀ H', Nx H' → ∃ m', m' < m ∧ W (i + 1) m' H') ∧ ∀ x H', J.yld i H x H' → g x (wipe σ vs) H' fun σ2 H2 => wipe σ2 vs = wipe σ vs ∧ tt σ2 H2 fun b H3 =>
        if b = true then te σ2 H3 fun y H4 => ∃ acc, H4 L = some (.lst acc) ∧ acc.length < sizeLine ∧ Nx (upd H4 L (.lst (acc ++ [y]))) else Nx H3) := by
  refine lc_gen (T := No) w (fun _ _ _ => True) (fun _ => Stable.triv) sub (fun _ z => z.elim) hL trivial hn (fun _ I' H' g _ => hG I' H' g) (fun i o => ∃ x, xs[i]? = some x ∧ o = f x) ?_ ?_
  · intro i v I' H' H'' hi g1 _ y Kn Ky kn ky
    have hi' : i < xs.length := by omega
    have hx' : xs[i]? = some xs[i] := List.getElem?_eq_getElem hi'
    exact step i _ v I' H' H'' hx' g1 y Kn Ky (fun e I2 H2 g2 => kn ⟨_, hx', e.symm⟩ I2 H2 g2 trivial) fun z e v I2 H2 g2 r => ky z ⟨_, hx', e.symm⟩ v I2 H2 g2 trivial r
  · intro os I' H' vs' hl hP g1 _ ow hp
    have e : os.filterMap id = xs.filterMap f := by
      rw [os_eq (f := f) (by omega) hP, fm_id]
    rw [e] at hp
    exact done I' H' vs' g1 ow hp
end
theorem sum_ones {α : Type} : ∀ l : List α, (l.map (fun _ => 1)).sum = l.length
  | [] => rfl
  | x :: r => by
    rw [List.map_cons, List.sum_cons, sum_ones r, List.length_cons]
    omega
theorem fm_some {α β : Type} {f : α → β} (xs : List α) : xs.filterMap (fun x => some (f x)) = xs.map f := by
  induction xs with
  | nil => rfl
  | cons x r ih => rw [List.filterMap_cons, List.map_cons, ih]
theorem take_fold {α β : Type} {f : β → α → β} {b : β} {l : List α} {i : Nat} {x : α} (h : l[i]? = some x) : (l.take (i + 1)).foldl f b = f ((l.take i).foldl f b) x := by
  rw [List.take_add_one, h, List.foldl_append]
  rfl
theorem mem_take {α : Type} {l : List α} {i : Nat} {r : α} (h : l[i]? = some r) {x : α} : x ∈ l.take (i + 1) ↔ x ∈ l.take i ∨ x = r := by
  rw [List.take_add_one, h, List.mem_append]
  simp
end Nw

namespace Nw
open PySem PySem.Spec PyProof.Rows L2
/-! ### texts as lists of signs -/
def mk (l : List Nat) : Str := ⟨l.toArray⟩
abbrev sg (c : Nat) : Str := ⟨#[c]⟩
theorem mk_sg (c : Nat) : mk [c] = sg c := rfl
theorem mk_list (s : Str) : mk s.cps.toList = s := rfl
theorem mk_app (a b : List Nat) : mk a ++ mk b = mk (a ++ b) := by
  show (⟨a.toArray ++ b.toArray⟩ : Str) = ⟨(a ++ b).toArray⟩
  simp
theorem mk_inj {a b : List Nat} (h : mk a = mk b) : a = b := by
  have z := congrArg (fun s : Str => s.cps.toList) h
  simpa [mk] using z
theorem mk_len (a : List Nat) : (mk a).length = a.length := by simp [mk, Str.length]
theorem mk_cps (a : List Nat) : (mk a).cps.toList = a := by simp [mk]
theorem mk_nil : mk [] = ("" : Str) := rfl
theorem join_signs : ∀ cs : List Nat, Txt.join ("" : Str) (cs.map sg) = mk cs := by
  intro cs
  unfold Txt.join
  rw [StrLaws.glued_eq_join]
  induction cs with
  | nil => rfl
  | cons c r ih =>
    cases r with
    | nil => rfl
    | cons d t =>
      show sg c ++ ("" : Str) ++ Str.join ("" : Str) ((d :: t).map sg) = mk (c :: d :: t)
      rw [ih]
      rw [← mk_nil, ← mk_sg, mk_app, mk_app] <;> rfl
theorem upper_sg {c : Nat} (h : c < 128) : Txt.upper (sg c) = sg (up1 c) := by
  rw [upper_ascii (by intro d hd; simp at hd; omega)]
  simp [sg]
theorem lower_sg {c : Nat} (h : c < 128) : Txt.lower (sg c) = sg (lo1 c) := by
  rw [lower_ascii (by intro d hd; simp at hd; omega)]
  simp [sg]
theorem upper_mk {l : List Nat} (h : ∀ c ∈ l, c < 128) : Txt.upper (mk l) = mk (l.map up1) := by
  rw [upper_ascii (by rw [mk_cps]; exact h)]
  simp [mk]
/-! ### z[::-1] -/
def tRevS (te : TE) : TE := fun σ H Q => te σ H fun x H1 => ∃ l : List Nat, x = .str (mk l) ∧ l.length ≤ 16777216 ∧ Q (.str (mk l.reverse)) H1
theorem rev_pick (z : Str) : (Builtin.Str.strSliceIndices none none (-1) z.length).filterMap (z.cps[·]?) = z.cps.toList.reverse := by
  have e : Builtin.Str.strSliceIndices none none (-1) z.length = (List.range z.cps.size).reverse := by
    unfold Builtin.Str.strSliceIndices
    show sliceRange ((z.cps.size : Int) - 1) (-1) (-1) = _
    rw [PySem.W.krv_sliceRange, PySem.W.krv_range]
  rw [e, List.filterMap_reverse, PySem.W.krv_all]
theorem pe_revS {X : Cx} {e : Expr} {te : TE} {k : Nat} {p1 p2 p3 pos : Pos} (he : PE X e te) : PE X (.Subscript e (.Slice none none (some (.UnaryOp .USub (.Constant (.int 1) k p1) p2)) p3) pos) (tRevS te) := by
  refine ⟨fun pins s σ H Q I h => Subscript_ (wpAny_mono (he.run pins s σ H _ I h) (fun v s1 hv => ?_) fun _ _ z => z)⟩
  obtain ⟨x, H1, I1, r1, l, ex, hz, q⟩ := hv
  subst ex
  obtain ⟨t, rfl⟩ := r1
  have hst : PO X (some (.UnaryOp .USub (.Constant (.int 1) k p1) p2)) (tPart (tUn (rU fun i => .int (-i)) (tC (.int 1)))) := po_some (pe_un un_neg pe_int)
  refine wpAny_Slice (wpAny_mono (po_none.run pins s1 σ H1 (fun o H2 => o = none ∧ H2 = H1) I1 ⟨rfl, rfl⟩) (fun vl s2 h2 => ?_) fun _ _ z => z)
  obtain ⟨lo, H2, I2, pl, el, e2⟩ := h2
  subst el e2
  refine wpAny_mono (po_none.run pins s2 σ H2 (fun o H3 => o = none ∧ H3 = H2) I2 ⟨rfl, rfl⟩) (fun vu s3 h3 => ?_) fun _ _ z => z
  obtain ⟨hi, H3, I3, pu, eu, e3⟩ := h3
  subst eu e3
  refine wpAny_mono (hst.run pins s3 σ H3 (fun o H4 => o = some (-1) ∧ H4 = H3) I3 ⟨1, rfl, -1, rfl, rfl, rfl⟩) (fun vs s4 h4 => ?_) fun _ _ z => z
  obtain ⟨o, H4, I4, ps, eo, e4⟩ := h4
  subst eo e4
  obtain ⟨l1, rfl, e1⟩ := IsPart.raw pl
  obtain ⟨u1, rfl, e2⟩ := IsPart.raw pu
  obtain ⟨t1, rfl, e3⟩ := IsPart.raw ps
  have I5 : Inv X pins σ H4 { s4 with heap := s4.heap.push { cls := .type "slice", data := .fields #[partValue l1, partValue u1, partValue t1] } } := I4.kept (t' := s4.toks) fun b ob q => Heap.get?_push_of_some _ q
  refine tail_any (ops := [.ref s4.heap.objs.size, .str (mk l) t]) (typeIs_str _ _ _) PySem.F.slot_str_getitem.lookup ?_ (by with_unfolding_all rfl)
  refine wpAny_getItem_str_slice (l := l1) (u := u1) (st := t1) ⟨_, Heap.get?_push_size _ rfl, rfl, rfl⟩ (by rw [e3]; rfl) ?_
  unfold sliceMade slicePicked
  rw [e3, e1, e2]
  rw [if_neg (by intro z; exact Bool.noConfusion z)]
  show Made.post (Made.str ⟨((Builtin.Str.strSliceIndices none none (-1) (mk l).length).filterMap ((mk l).cps[·]?)).toArray⟩) (EP X pins σ Q) _
  rw [rev_pick, mk_cps]
  refine ⟨?_, .str (mk l.reverse), H4, I5.tok _, ⟨_, rfl⟩, q⟩
  show (mk l.reverse).length ≤ sizeLine
  rw [mk_len, List.length_reverse, sizeLine_eq]
  exact hz
end Nw

namespace Nw
open PySem PySem.Spec PyProof.Rows L2
theorem atI_rev {α : Type} (st : List α) (j : Nat) (i : Int) (hi : i = -(j : Int) - 1) : atI st.reverse i = st[j]? := by
  subst hi
  unfold atI ixN
  rw [if_neg (by omega), List.length_reverse]
  by_cases h : j < st.length
  · rw [if_pos (by omega)]
    have e : (-(j : Int) - 1 + (st.length : Int)).toNat = st.length - 1 - j := by omega
    rw [e]
    show st.reverse[st.length - 1 - j]? = st[j]?
    rw [List.getElem?_reverse (by omega)]
    congr 1
    omega
  · rw [if_neg (by omega), List.getElem?_eq_none (by omega)]
    rfl
theorem atI_nat' {α : Type} {xs : List α} {j : Nat} {i : Int} (hi : i = (j : Int)) : atI xs i = xs[j]? := by
  subst hi
  unfold atI ixN
  rw [if_pos (by omega)]
  by_cases h : j < xs.length
  · rw [if_pos (by omega)]
    rfl
  · rw [if_neg (by omega), List.getElem?_eq_none (by omega)]
    rfl
theorem cut_rev2 (st : List V) (h : 2 ≤ st.length) : cutV st.reverse none (some (-2)) = (st.drop 2).reverse := by
  unfold cutV
  have e1 : HT.sIx st.reverse.length st.reverse.length (some (-2)) = ((-2 : Int) + (st.reverse.length : Int)).toNat := by
    show (if (-2 : Int) < 0 then ((-2 : Int) + (st.reverse.length : Int)).toNat else min (-2 : Int).toNat st.reverse.length) = _
    rw [if_pos (by decide)]
  have e2 : HT.sIx st.reverse.length 0 none = 0 := rfl
  rw [e1, e2, List.drop_zero, List.length_reverse, Nat.sub_zero]
  have e : ((-2 : Int) + (st.length : Int)).toNat = st.length - 2 := by omega
  rw [e, List.take_reverse]
  congr 1
  congr 1
  omega
/-- a dict comprehension over anything that is walked -/
theorem dc_it {J : It} {n : Nat} {G : Hp → Prop} {Y : Nat → Hp → V → Hp → Prop} (w : Walk J n G Y) {g : TG} {tt : TT} {tk tv : TE} {vs : List Nat} {σ : L2.St} {H1 : Hp} {D : Addr} {Qd : Hp → Prop} (Pv : Nat → Hp → Prop) (h0 : Pv 0 (upd H1 D (.dK []))) (hG : ∀ i H, i ≤ n → Pv i H → G H)
    (hs : ∀ i x H H', i < n → Pv i H → Y i H x H' → g x (wipe σ vs) H' fun σ2 H2 => wipe σ2 vs = wipe σ vs ∧ tt σ2 H2 fun b H3 =>
      if b = true then tk σ2 H3 fun y H4 => tv σ2 H4 fun z H5 => ∃ kvs k, y = kV k ∧ H5 D = some (.dK kvs) ∧ kvs.length < sizeLine ∧ Pv (i + 1) (upd H5 D (.dK (putK kvs k z))) else Pv (i + 1) H3) (hd : ∀ H, Pv n H → Qd H) :
    ∃ W : Nat → Nat → Hp → Prop, (∃ m, W 0 m (upd H1 D (.dK []))) ∧ ∀ i m H, W i m H →
      (J.stop i H ∧ Qd H) ∨ (J.go i H ∧ ∃ Nx : Hp → Prop, (∀ H', Nx H' → ∃ m', m' < m ∧ W (i + 1) m' H') ∧ ∀ x H', J.yld i H x H' → g x (wipe σ vs) H' fun σ2 H2 => wipe σ2 vs = wipe σ vs ∧ tt σ2 H2 fun b H3 =>
        if b = true then tk σ2 H3 fun y H4 => tv σ2 H4 fun z H5 => ∃ kvs k, y = kV k ∧ H5 D = some (.dK kvs) ∧ kvs.length < sizeLine ∧ Nx (upd H5 D (.dK (putK kvs k z))) else Nx H3) := by
  refine ⟨fun i m H => m = n - i ∧ i ≤ n ∧ Pv i H, ⟨n, (Nat.sub_zero n).symm, Nat.zero_le n, h0⟩, ?_⟩
  rintro i m H ⟨em, hi, p⟩
  have q := hG i H hi p
  rcases Nat.lt_or_ge i n with hlt | hge
  · refine .inr ⟨w.goes i H hlt q, Pv (i + 1), fun H' p' => ⟨n - (i + 1), by omega, rfl, hlt, p'⟩, fun x H' y => ?_⟩
    exact hs i x H H' hlt p (w.yields i H x H' hlt q y)
  · have e : i = n := by omega
    subst e
    exact .inl ⟨w.stops H q, hd H p⟩
/-- d == {} -/
def rDNilE : R2 := fun x y H Q => ∃ a b ks, x = .ref a ∧ y = .ref b ∧ H a = some (.dK ks) ∧ H b = some (.dK []) ∧ Q (.bl ks.isEmpty) H
theorem op_eqDNil {X : Cx} (hu : X.A.units + 64 < cLine) : OpR X (compareOp .Eq) rDNilE := by
  intro pins s σ H x y v u Q I rx ry h
  obtain ⟨a, b, ks, rfl, rfl, ea, eb, q⟩ := h
  obtain rfl : v = Value.ref a := rx
  obtain rfl : u = Value.ref b := ry
  obtain ⟨_, ya, va, ra, da⟩ := (show ObjOk X.prog X.w H s.heap a (.dK ks) from I.hok a _ ea)
  obtain ⟨_, yb, vb, rb, db⟩ := (show ObjOk X.prog X.w H s.heap b (.dK []) from I.hok b _ eb)
  cases rb
  have hu' : X.A.units < cLine := Nat.lt_of_le_of_lt (Nat.le_add_right _ _) hu
  refine PySem.W.keq_eq (knd := mixKind X.prog X.w) (r := true) ya yb da db hu' (fun e => ?_) (fin_bl I q ?_)
  · cases ra with
    | nil => exact .nil
    | cons p t => cases e
  · cases ra with
    | nil => rfl
    | cons p t => rfl
end Nw

namespace Nw
open PySem PySem.Spec PyProof.Rows L2
variable {X : Cx}
theorem pe_gref {x : Str} {pos : Pos} {f : Addr} (h : X.mg x = some (.ref f)) (hg : Gl X x := by rfl) (hd : (x == ("__debug__" : Str)) = false := by decide) : PE X (.Name x pos) (tC (.ref f)) := pe_glob hg h rfl hd
/-! the rules that name the written part, for a comprehension's block -/
section
variable {K : PySem.W.Frag} (h : X.K = K)
include h
theorem call_isiK : CallR X (.builtin "isinstance") (rIsi K) := h ▸ call_isi
theorem ix_listK : IxR X (rIxL K) := h ▸ ix_list
theorem ix_tupK : IxR X (rIxT K) := h ▸ ix_tup
theorem op_in_seqK : OpR X (compareOp .In) (rIn K false) := h ▸ op_in_seq
theorem op_notIn_seqK : OpR X (compareOp .NotIn) (rIn K true) := h ▸ op_notIn_seq
theorem cr_allK (hc : X.calm = true) : CallR X (.builtin "all") (rAll K) := h ▸ cr_all hc
theorem cr_anyK (hc : X.calm = true) : CallR X (.builtin "any") (rAny K) := h ▸ cr_any hc
theorem call_len_seqK : CallR X (.builtin "len") (fun xs H Q => ∃ p ys, xs = [.ref p] ∧ (SqL K H p ys ∨ SqT K H p ys) ∧ Q (.int ys.length) H) := h ▸ call_len_seq
theorem pe_fldK {e : Expr} {f : Str} {pos : Pos} {ta : TE} (he : PE X e ta) (hb : attributeBase e f X.env (eval e X.env) = eval e X.env) : PE X (.Attribute e f pos) (tFld K ta f) := h ▸ pe_fld he hb
end
/-- list(text): its signs -/
theorem call_list_sg (hc : X.calm = true) : CallR X (.type "list") (fun xs H Q => ∃ l : List Nat, xs = [.str (mk l)] ∧ l.length ≤ 16777216 ∧ ∀ p, H p = none → Q (.ref p) (upd H p (.lst (l.map fun c => V.str (sg c))))) := by
  intro pins s σ H xs us Q I r h
  obtain ⟨l, rfl, hz, q⟩ := h
  obtain ⟨u, rfl, t, rfl⟩ := vals1 r
  have hsz : (mk l).cps.size = l.length := by simp [mk]
  refine PySem.call_list_str (I.ok.hd hc) (mk l) t (fun h' tk acc' c' hkeep hS hacc => ?_) (by rw [hsz, sizeLine_eq]; exact hz)
  refine ⟨.ref s.heap.objs.size, upd H s.heap.objs.size (.lst (l.map fun c => V.str (sg c))), I.laid hkeep (Nat.le_refl _) ⟨?_, acc'.toList, c', ?_, ?_⟩, rfl, q _ (I.hok.fresh (Nat.le_refl _))⟩
  · rw [List.length_map, sizeLine_eq]; exact hz
  · have h0 : acc'.size = l.length := hacc.1.trans hsz
    refine vals_of_at (by rw [List.length_map]; exact h0.symm.trans (Array.length_toList (xs := acc')).symm) fun j x w h1 h2 => ?_
    have h3 := hacc.2 j w (by rw [← Array.getElem?_toList]; exact h2)
    obtain ⟨c, t', e1, rfl⟩ := h3
    have e2 : l[j]? = some c := by simpa [mk] using e1
    have e3 : x = .str (sg c) := by
      have z : (l.map fun c => V.str (sg c))[j]? = some (.str (sg c)) := by rw [List.getElem?_map, e2]; rfl
      rw [z] at h1
      cases h1
      rfl
    rw [e3]
    exact ⟨t', rfl⟩
  · simpa using hS
end Nw

namespace Nw
open PySem PySem.Spec PyProof.Rows L2
/-! ### an object that is made, then given out -/
section
variable {D : DA} {n : Nat} {T T' : Addr → Prop} {I H I' H' I0 H0 I3 H3 : Hp} {x dx : Addr} {o o1 o2 : HO}
theorem DrS.growT {dig tn : Int} {gs ls : List Int} (s : DrS D dig tn gs ls I H) (g : Grow T I H I' H') (h : ∀ b, TD D b → ¬ T b) : DrS D dig tn gs ls I' H' :=
  ⟨g.sub, g.fresh _ s.vd (s.live _ (.inl rfl)), g.fresh _ s.vg (s.live _ (.inr (.inl rfl))), g.fresh _ s.vl (s.live _ (.inr (.inr rfl))), s.dg, s.dl, s.gl, g.keep _ _ (h _ (.inl rfl)) s.hd, g.keep _ _ (h _ (.inr (.inl rfl))) s.hg, g.keep _ _ (h _ (.inr (.inr rfl))) s.hl⟩
theorem Drw.growT (w : Drw D n I H) (g : Grow T I H I' H') (h : ∀ b, TD D b → ¬ T b) : Drw D n I' H' := let ⟨a, b, c, d, s, r⟩ := w.ex; ⟨a, b, c, d, s.growT g h, r⟩
theorem Drw.view (w : Drw D n I H) (nt : ¬ TD D x) (h : H x = some o) : Drw D n (upd I x o) H := by
  obtain ⟨a, b, c, d, s, r⟩ := w.ex
  refine ⟨a, b, c, d, ⟨fun q u e => ?_, ?_, ?_, ?_, s.dg, s.dl, s.gl, s.hd, s.hg, s.hl⟩, r⟩
  · by_cases z : q = x
    · subst z; rw [upd_same] at e; rw [h]; exact e
    · rw [upd_ne z] at e; exact s.sub q u e
  · rw [upd_ne fun z => nt (.inl z.symm)]; exact s.vd
  · rw [upd_ne fun z => nt (.inr (.inl z.symm))]; exact s.vg
  · rw [upd_ne fun z => nt (.inr (.inr z.symm))]; exact s.vl
theorem Drw.chg (w : Drw D n I H) (nt : ¬ TD D x) (ni : I x = none) : Drw D n I (upd H x o) := let ⟨a, b, c, d, s, r⟩ := w.ex; ⟨a, b, c, d, s.put nt ni, r⟩
theorem Drw.mine (w : Drw D n I H) (h : H x = none) : Drw D n I (upd H x o) := w.grow (Grow.mine w.sub h)
theorem Drw.not (w : Drw D n I H) (h : H x = none) : ¬ TD D x := fun t => w.live x t h
theorem grow_made (sb : Same I H) (hx : H x = none) (hdx : H dx = none) (ne : dx ≠ x) : Grow T I H I (upd (upd H dx o1) x o2) :=
  (Grow.mine sb hdx).trans (Grow.mine (Grow.mine (T := T) (o := o1) sb hdx).sub (by rw [upd_ne ne.symm]; exact hx))
theorem live_none {T : Addr → Prop} (g : Grow T I0 H0 I H) (h : H x = none) : H0 x = none := by
  cases e : H0 x with
  | none => rfl
  | some u => exact absurd h (g.live x (by rw [e]; exact fun z => nomatch z))
/-- what C(..) does, seen from H0 -/
theorem Grow.make (g : Grow T I0 H0 I H) (hx : H x = none) (hdx : H dx = none) (ne : dx ≠ x) (g3 : Grow T' I (upd (upd H dx o1) x o2) I3 H3) (hT : ∀ b, T' b → T b ∨ H0 b = none) (h : H3 x = some o) (nt : NTb o := by intro _ z; cases z) : Grow T I0 H0 (upd I3 x o) H3 ∧ I3 x = none := by
  have gm : Grow T I0 H0 I (upd (upd H dx o1) x o2) := g.trans (grow_made g.sub hx hdx ne)
  have gd := gm.drop g3 hT
  have n3 : I3 x = none := g3.fresh x (g.sub.free hx) (by rw [upd_same]; exact fun z => nomatch z)
  exact ⟨gd.give' (live_none g hx) n3 h nt, n3⟩
theorem Drw.make (w : Drw D n I H) (hx : H x = none) (hdx : H dx = none) (ne : dx ≠ x) (g3 : Grow T' I (upd (upd H dx o1) x o2) I3 H3) (hT : ∀ b, TD D b → ¬ T' b) (h : H3 x = some o) : Drw D n (upd I3 x o) H3 :=
  (((w.mine hdx).mine (by rw [upd_ne ne.symm]; exact hx)).growT g3 hT).view (w.not hx) h
end
/-- a def that is asked by its own data -/
theorem okd_of {P : Program} {w : World} {K : PySem.W.Frag} {mg : Str → Option Value} {base : Heap} {k : Nat} {f : Addr} {fd : FuncData} {ps : List Str} {sp : Sp} {x qual : Str} {st : Stmt} {N : List Str}
    (F : FunD K x qual (defArgs st) (defBody st) (defScope st) [] [] f fd) (S : FnScope N ps (defScope st)) (len : ∀ vs H Q E, sp vs H Q E → vs.length = ps.length)
    (hbody : ∀ (cdv : Value) (A : Around) (outer : List Env) (s : Shared) (H : Hp) (vs : List V) (Q : VK) (E : XK), Room k (A.deeper (envOfC qual (defScope st) s.heap.objs.size f cdv)) → sp vs H Q E →
      ∃ t, PSs (cxOf CX0 P w K mg base N qual (defScope st) f cdv A outer s H E).nox (defBody st) t ∧ t { nx := fun _ H' => Q .non H', rt := Q } (start N vs) H) : FnOk P w K mg base CX0 (k + 1) f fd ps sp :=
  F.ok S len fun cdv A outer s H vs Q E hr h => by
    obtain ⟨t, h1, h2⟩ := hbody cdv A outer s H vs Q E hr h
    exact ⟨t, h1.nox, h2⟩
end Nw

namespace Nw
open PySem PySem.Spec PyProof.Rows L2
/-! ### operators that a class of the text has itself -/
section
variable {X : Cx} {k : Nat} {f C : Addr} {fd : FuncData} {ps : List Str} {sp : Sp}
/-- two instances of one class -/
def rOwn (C : Addr) (sp : Sp) : R2 := fun x y H Q => ∃ a b dx dy fs gs, x = .ref a ∧ y = .ref b ∧ H a = some (.ins C dx fs) ∧ H b = some (.ins C dy gs) ∧ sp [.ref a, .ref b] H (fun v H' => ∃ p, v = .ref p ∧ Q v H') E0
theorem op_own {op : Operator} {nm : Str} (M : Meth X.K C nm f) (he : PySem.dunder op.info.2 = nm) (hc : PySem.W.selfFirst X.K C = true) (F : FnOk X.prog X.w X.K X.mg X.base CX0 k f fd ps sp) (hr : Room k X.A) (hb : Binds X.K fd ps []) : OpR X (binaryOp op) (rOwn C sp) := by
  intro pins s σ H x y v u Q I rx ry h
  obtain ⟨a, b, dx, dy, fs, gs, rfl, rfl, ha, hb', q⟩ := h
  cases rx
  cases ry
  obtain ⟨mA, J, _⟩ := ins_get I.hok ha
  obtain ⟨mB, J', _⟩ := ins_get I.hok hb'
  obtain ⟨od, J, _⟩ := J.look
  obtain ⟨od', J', _⟩ := J'.look
  obtain ⟨m, hF⟩ := I.fr
  refine PySem.W.binop_K hF I.ok.mod.kin J J'.type hc (by rw [he]; exact M.at_) M.fn ?_
  have r2 : Vals [V.ref a, V.ref b] [Value.ref a, Value.ref b] := .cons rfl (.cons rfl .nil)
  refine wpAny_mono (run_fn (dvs := []) (ds := []) (E := E0) F hr hb .nil pass0 I r2 q) (fun v s' hq => ?_) fun _ _ e => e
  obtain ⟨z, H', I', rz, p, rfl, q⟩ := hq
  cases rz
  exact ⟨.ref p, _, I', rfl, q⟩
def rOwn1 (C : Addr) (sp : Sp) : V → Hp → VK → Prop := fun x H Q => ∃ a dx fs, x = .ref a ∧ H a = some (.ins C dx fs) ∧ sp [.ref a] H Q E0
theorem un_own_inv (M : Meth X.K C "__invert__" f) (F : FnOk X.prog X.w X.K X.mg X.base CX0 k f fd ps sp) (hr : Room k X.A) (hb : Binds X.K fd ps []) : UnR X (unaryOp .Invert) (rOwn1 C sp) := by
  intro pins s σ H x v Q I rx h
  obtain ⟨a, dx, fs, rfl, ha, q⟩ := h
  cases rx
  obtain ⟨mA, J, _⟩ := ins_get I.hok ha
  obtain ⟨od, J, _⟩ := J.look
  obtain ⟨m, hF⟩ := I.fr
  refine PySem.W.ksp_inv hF I.ok.mod.kin J M.at_ M.fn ?_
  have r2 : Vals [V.ref a] [Value.ref a] := .cons rfl .nil
  exact run_fn (dvs := []) (ds := []) (E := E0) F hr hb .nil pass0 I r2 q
/-- a comparison that the class has itself: a truth -/
theorem op_own_le (M : Meth X.K C "__le__" f) (F : FnOk X.prog X.w X.K X.mg X.base CX0 k f fd ps sp) (hr : Room k X.A) (hb : Binds X.K fd ps []) :
    OpR X (compareOp .LtE) (fun x y H Q => ∃ a b dx dy fs gs, x = .ref a ∧ y = .ref b ∧ H a = some (.ins C dx fs) ∧ H b = some (.ins C dy gs) ∧ sp [.ref a, .ref b] H (fun v H' => ∃ t, v = .bl t ∧ Q v H') E0) := by
  intro pins s σ H x y v u Q I rx ry h
  obtain ⟨a, b, dx, dy, fs, gs, rfl, rfl, ha, hb', q⟩ := h
  cases rx
  cases ry
  obtain ⟨mA, J, _⟩ := ins_get I.hok ha
  obtain ⟨mB, J', _⟩ := ins_get I.hok hb'
  obtain ⟨od, J, _⟩ := J.look
  obtain ⟨od', J', _⟩ := J'.look
  obtain ⟨m, hF⟩ := I.fr
  show wpAny (model X.prog X.w) X.A (richCompare .LtE (.ref a) (.ref b)) (EP X pins σ Q) X.xe s
  refine PySem.W.cmp_K (op := .LtE) (tb := .ref C) hr.units0 hF I.ok.mod.kin J J'.type (by simp [PySem.W.notFirst]) M.at_ M.fn ?_
  have r2 : Vals [V.ref a, V.ref b] [Value.ref a, Value.ref b] := .cons rfl (.cons rfl .nil)
  refine wpAny_mono (run_fn (dvs := []) (ds := []) (E := E0) F hr hb .nil pass0 I r2 q) (fun v s' hq => ?_) fun _ _ e => e
  obtain ⟨z, H', I', rz, p, rfl, q⟩ := hq
  cases rz
  exact ⟨.bl p, _, I', rfl, q⟩
end
end Nw

namespace Nw
open PySem PySem.Spec PyProof.Rows L2
open AutoSeq1 (wpAny_loadPart')
/-! ### enumerate(tuple) -/
theorem meets_enumT (l : Addr) (items : Array Value) (n : Nat) (dct : Option Addr) (sl : Array (Option Value)) :
    Meets (Builtin.«enumerate.__new__» ⟨[.type "enumerate", .ref l], []⟩) (fun _ R s => s.heap.get? l = some { cls := .type "tuple", dict := dct, data := .seq items n, slots := sl } ∧
      R (.ok (.ret (.ref (s.heap.push { cls := .type "tuple_iterator", data := .fields #[.ref l, .int 0 0] }).objs.size)))
        { s with heap := (s.heap.push { cls := .type "tuple_iterator", data := .fields #[.ref l, .int 0 0] }).push { cls := .type "enumerate", data := .fields #[.none, .bool false, .ref s.heap.objs.size, rawInt 0, .none, .none] } }) :=
  .of_wp fun prog w A R s h => by
    obtain ⟨hp, g, d, tk, os⟩ := s; obtain ⟨hl, h⟩ := h
    have hsub := sub_enumerate
    have hL : Heap.IsTuple (Shared.heap ⟨hp, g, d, tk, os⟩) l items := ⟨_, hl, rfl, n, rfl⟩
    wp_walk using wpAny_loadPart' hl
    refine wpAny_stack_any fun st => wpAny_pure ?_
    split
    · rename_i c _ _ _ _ _
      cases (c == Value.type "enumerate")
      · wp_walk using wpAny_loadPart' hl, wpAny_pyIter_tuple hL
        exact ⟨_, rfl, h⟩
      · wp_walk using wpAny_loadPart' hl, wpAny_pyIter_tuple hL
        exact ⟨_, rfl, h⟩
    · wp_walk using wpAny_loadPart' hl, wpAny_pyIter_tuple hL
      exact ⟨_, rfl, h⟩
section
variable {prog : Program} {w : World} {A : Around} {E : Value → Shared → Prop} {s : Shared}
theorem call_enumT {l : Addr} {items : Array Value} {Q : Value → Shared → Prop} (hL : s.heap.IsTuple l items)
    (h : ∀ h', IsEnum h' (s.heap.objs.size + 1) s.heap.objs.size 0 .none → h'.IsTupleIter s.heap.objs.size l 0 → h'.objs.size = s.heap.objs.size + 2 →
      (∀ b o, s.heap.get? b = some o → h'.get? b = some o) → Q (.ref (s.heap.objs.size + 1)) { s with heap := h' }) :
    wpAny (model prog w) A (call (.type "enumerate") [.ref l]) Q E s := by
  obtain ⟨⟨c, dct, dt, sl⟩, hl, hc, n, hd⟩ := hL
  replace hc : c = .type "tuple" := hc
  replace hd : dt = .seq items n := hd
  subst hc hd
  refine callType_new F.called_enumerate (by decide) (F.typeCall_enumerate_1 _) (F.newCall_enumerate_1 _) (fun obj => F.args_object_init_2 obj _) F.entry_enumerate_new
    (meets_enumT l items n dct sl) ⟨hl, ?_⟩
  have hz : (s.heap.push { cls := .type "tuple_iterator", data := .fields #[.ref l, .int 0 0] }).objs.size = s.heap.objs.size + 1 := Heap.size_push ..
  show _ ∧ _
  rw [hz]
  have he : IsEnum ((s.heap.push { cls := .type "tuple_iterator", data := .fields #[.ref l, .int 0 0] }).push
      { cls := .type "enumerate", data := .fields #[.none, .bool false, .ref s.heap.objs.size, rawInt 0, .none, .none] }) (s.heap.objs.size + 1) s.heap.objs.size 0 .none := by
    have := Heap.get?_push_size (s.heap.push { cls := .type "tuple_iterator", data := .fields #[.ref l, .int 0 0] })
      (o := { cls := .type "enumerate", data := .fields #[.none, .bool false, .ref s.heap.objs.size, rawInt 0, .none, .none] }) rfl
    rw [hz] at this; exact this
  refine ⟨⟨_, he, rfl⟩, h _ he ⟨_, Heap.get?_push_of_some _ (Heap.get?_push_size _ rfl), rfl, rfl⟩ (by rw [Heap.size_push, hz]) fun b o x => Heap.get?_push_of_some _ (Heap.get?_push_of_some _ x)⟩
theorem draws_tup (hh : A.handled = none) {it t : Addr} (hne : t ≠ it) (items : Array Value) : Draws prog w A it [it, t] items.size (fun i v => items[i]? = some v) (fun i h => h.IsTupleIter it t i ∧ h.IsTuple t items) where
  live := fun i h st => let ⟨⟨o, e, _⟩, _⟩ := st; ⟨o, e⟩
  frame := fun i h h' st k => ⟨st.1.at fun o e => k it (by simp) o e, let ⟨o, e, z⟩ := st.2; ⟨o, k t (by simp) o e, z⟩⟩
  item := fun i s Q E hi st hQ => by
    refine wpAny_nextOf_tuple_item st.1 st.2 (x := items[i]) (by simp [hi]) fun h' st' sb => ?_
    refine hQ _ h' s.toks (by simp [hi]) ⟨st', ?_⟩ sb
    obtain ⟨o, e, z⟩ := st.2
    exact ⟨o, (sb.2 t hne).trans e, z⟩
  done := fun s Q E st hE => wpAny_nextOf_tuple_end hh st.1 st.2 (by simp) hE
end
def IteT (K : PySem.W.Frag) (a : Addr) : It :=
  ⟨fun i H => ∃ (xs : List V) (x : V), SqT K H a xs ∧ xs[i]? = some x, fun i H v H' => ∃ T x, v = .ref T ∧ H T = none ∧ H' = upd H T (.tup [.int (i : Nat), x]) ∧ ∀ xs, SqT K H a xs → xs[i]? = some x, fun i H => ∃ xs : List V, SqT K H a xs ∧ xs.length ≤ i⟩
theorem turn_enumT {P : Program} {w : World} {K : PySem.W.Frag} {elts : List Expr} {kk : Nat} {tpos : Pos} (a e it : Addr) :
    Turn P w K (.Tuple elts kk tpos) (IteT K a) [e, it] e (fun i h => (∃ old, IsEnum h e it ((i : Nat) : Int) old) ∧ h.IsTupleIter it a i ∧ e ≠ it) where
  mem := by simp
  obj := fun i h st b hb => by
    obtain ⟨⟨old, he⟩, ⟨o, ho, hc, hd⟩, _⟩ := st
    have e' : b = e ∨ b = it := by simpa using hb
    rcases e' with z | z
    · rw [z]; exact ⟨_, he, fun v q => nomatch q⟩
    · rw [z]; exact ⟨o, ho, fun v q => by rw [hd] at q; cases q⟩
  keep := fun i h h' st k => let ⟨⟨old, he⟩, hi, hne⟩ := st; ⟨⟨old, k e (by simp) _ he⟩, hi.at fun o q => k it (by simp) o q, hne⟩
  item := by
    intro X hP hw hK hc i pins s σ H E I hf st hg
    subst hP hw hK
    obtain ⟨⟨old, he⟩, hit, hne⟩ := st
    obtain ⟨xs, x, hq, hx⟩ := hg
    obtain ⟨its, rv, p, hz⟩ := I.tuple hq
    have p' : s.heap.IsTuple a its.toArray := p
    obtain ⟨u, hu, ru⟩ := rv.get hx
    have hel : e < s.heap.objs.size := Heap.lt_size he
    have hil : it < s.heap.objs.size := by obtain ⟨_, q, _⟩ := hit; exact Heap.lt_size q
    have nea : a ≠ it := by
      rintro rfl
      obtain ⟨o1, e1, c1, _⟩ := hit
      obtain ⟨o2, e2, c2, _⟩ := p'
      rw [e1] at e2
      cases e2
      rw [c1] at c2
      exact absurd c2 (by decide)
    have nee : a ≠ e := by
      rintro rfl
      obtain ⟨o2, e2, c2, _⟩ := p'
      rw [he] at e2
      cases e2
      exact absurd (show Value.type "enumerate" = Value.type "tuple" from c2) (by decide)
    have hlt : i < its.toArray.size := by
      rcases Nat.lt_or_ge i its.length with z | z
      · simpa using z
      · rw [List.getElem?_eq_none z] at hu; cases hu
    refine wpAny_pyNext_enum_itemD (draws_tup (by simpa using I.ok.hd hc) nea its.toArray) he ⟨hit, p'⟩ hlt hne (by simp [hne, Ne.symm nee]) fun y h' tk hy ho hst' hT hsz hk => ?_
    obtain ⟨hit', _⟩ := hst'
    have ey : y = u := by
      have z : its[i]? = some y := by simpa using hy
      rw [hu] at z
      exact (Option.some.inj z).symm
    subst ey
    refine ⟨_, rfl, wpAny_letOwnedTupleGo_enum (s := { s with heap := h', toks := tk + 1 }) ho fun h'' he' sb => ?_⟩
    have hT2 : h''.get? s.heap.objs.size = some { cls := .type "tuple", data := .seq #[.int i tk, y] } := (sb.2 _ (Nat.ne_of_gt hel)).trans hT
    have new : ObjOk X.prog X.w (upd H s.heap.objs.size (.tup [.int (i : Nat), x])) h'' s.heap.objs.size (.tup [.int (i : Nat), x]) :=
      ⟨by show 2 ≤ sizeLine; decide, [.int i tk, y], .cons ⟨_, rfl⟩ (.cons ru .nil), ⟨_, hT2, rfl, _, rfl⟩⟩
    have I1 : Inv X pins σ (upd H s.heap.objs.size (.tup [.int (i : Nat), x])) { s with heap := h'', toks := tk + 1 } :=
      I.turnedNew (ch := [e, it]) (fun b ob hb q => (sb.2 b (fun z => hb (by simp [z]))).trans (hk b ob (fun z => hb (by simp [z])) (fun z => hb (by simp [z])) q)) hf (Nat.le_refl _) new
    refine ⟨.ref s.heap.objs.size, _, I1, rfl, ⟨_, x, rfl, I.hok.fresh (Nat.le_refl _), rfl, fun ys hy => by rw [I.tuple_inj hy hq]; exact hx⟩, ⟨⟨y, ?_⟩, hit'.at fun o q => (sb.2 it (Ne.symm hne)).trans q, hne⟩, fun b hb => ?_⟩
    · have e1 : ((i + 1 : Nat) : Int) = (i : Int) + 1 := by omega
      rw [e1]; exact he'
    · have hb' : b < s.heap.objs.size := by
        have e' : b = e ∨ b = it := by simpa using hb
        rcases e' with z | z
        · rw [z]; exact hel
        · rw [z]; exact hil
      rw [upd_ne (Nat.ne_of_lt hb')]
      exact (hf b hb).1
  done := by
    intro X hP hw hK hc i pins s σ H E I hf st hg
    subst hP hw hK
    obtain ⟨⟨old, he⟩, hit, hne⟩ := st
    obtain ⟨xs, hq, hx⟩ := hg
    obtain ⟨its, rv, p, hz⟩ := I.tuple hq
    have p' : s.heap.IsTuple a its.toArray := p
    obtain ⟨f0, f1, f2, f3, f4, f5⟩ := hf it (by simp)
    have hl := rv.length
    have hT : s.TypeIs (.ref e) "enumerate" := ⟨_, he, rfl⟩
    unfold pyNext
    refine wpAny_bind (wpAny_attempt (wpAny_callSpecial?_slot (name := Str.ofString "__next__") hT F.slot_enumerate_next
      (wpAny_call_entry F.slot_enumerate_next hT F.entry_enumerate_next ?_ (F.args_enumerate_next_1 _))))
    show wpAny _ _ (field (.ref e) 2 >>= _) _ _ _
    refine wpAny_bind (wpAny_field he rfl (x := .ref it) rfl ?_)
    refine wpAny_bind (wpAny_nextOf_tuple_end (by simpa using I.ok.hd hc) hit p' (by simp; omega) fun h' x he' hx' => ?_)
    obtain ⟨o, ho, hc'⟩ := hx'
    refine wpAny_bind (wpAny_isInstance (T := "StopIteration") (b := true) ⟨o, ho, hc'⟩ isSubtype_stop ?_)
    exact wpAny_pure ⟨rfl, I.turned (t' := s.toks) (fun b o hb q => he' b o hb q) f0 f1 f3 f4 f5⟩
  self := fun A i s Q E st h => let ⟨⟨_, he⟩, _⟩ := st; wpAny_pyIter_enum he h
def iEnumT (K : PySem.W.Frag) (ta : TA) : TI := fun σ H R => ta σ H fun vs H1 => ∃ a xs, vs = [.ref a] ∧ SqT K H1 a xs ∧ R (IteT K a) H1
theorem pi_enumT {X : Cx} {e : Expr} {ta : TA} {p pos tpos : Pos} {elts : List Expr} {kk : Nat} (hg : Gl X "enumerate") (hm : X.mg "enumerate" = none) (ha : PA X [e] ta) (hs : starEach [e] X.env = [(false, eval e X.env)] := by rfl) :
    PI X (.Tuple elts kk tpos) (.Call (.Name "enumerate" p) [e] [] pos) (iEnumT X.K ta) := by
  refine ⟨fun pins s σ H R I h => ?_⟩
  refine Call_ (ld_blt I hg hm boot_enumerate (PyProof.Rows.callWith_type1 (thn (ha.run pos pins s σ H _ I h) fun us s1 ⟨vs, H1, I1, r1, q1⟩ => ?_) hs rfl))
  obtain ⟨a, xs, ex, hq, q⟩ := q1
  subst ex
  cases r1 with
  | cons r rr =>
    cases rr
    cases r
    obtain ⟨its, rv, p', hz⟩ := I1.tuple hq
    refine call_enumT (show s1.heap.IsTuple a its.toArray from p') fun h' he hit hsz hk => wpAny_pyIter_enum he ?_
    have I2 : Inv X pins σ H1 { s1 with heap := h' } := I1.kept (t' := s1.toks) hk
    refine ⟨s1.heap.objs.size + 1, [s1.heap.objs.size + 1, s1.heap.objs.size], _, _, H1, rfl, I2, turn_enumT a (s1.heap.objs.size + 1) s1.heap.objs.size, ⟨⟨.none, he⟩, hit, Nat.succ_ne_self _⟩, fun b hb => ?_, q⟩
    have e' : b = s1.heap.objs.size + 1 ∨ b = s1.heap.objs.size := by simpa using hb
    have hle : s1.heap.objs.size ≤ b := by
      rcases e' with z | z
      · rw [z]; exact Nat.le_add_right _ _
      · rw [z]; exact Nat.le_refl _
    exact I1.fpOk hle (I1.hok.fresh hle)
theorem walk_enumT {K : PySem.W.Frag} {a : Addr} {xs : List V} : Walk (IteT K a) xs.length (fun H => SqT K H a xs) (YPair (fun i => some (.int (i : Nat))) (fun i => xs[i]?)) := by
  refine ⟨fun i _ hi q => ⟨xs, xs[i], q, by simp [hi]⟩, fun _ q => ⟨xs, q, Nat.le_refl _⟩, fun i H v H' _ q y => ?_⟩
  obtain ⟨T, x, h1, h2, h3, h4⟩ := y
  exact ⟨T, .int (i : Nat), x, h1, h2, h3, rfl, h4 xs q⟩
end Nw

namespace Nw
open PySem PySem.Spec PyProof.Rows L2
/-! ### what may be a list or a tuple: t tells which -/
def ho (t : Bool) (vs : List V) : HO := match t with
  | false => .lst vs
  | true => .tup vs
def SqB (K : PySem.W.Frag) (t : Bool) (H : Hp) (a : Addr) (xs : List V) : Prop := match t with
  | false => SqL K H a xs
  | true => SqT K H a xs
theorem SqB.of {K : PySem.W.Frag} {t : Bool} {H : Hp} {a : Addr} {xs : List V} (h : H a = some (ho t xs)) : SqB K t H a xs := by
  cases t
  · exact SqL.of h
  · exact SqT.of h
def isS {α : Type} [Rep α] (t : Bool) (I : Hp) (v : V) (xs : List α) : Prop := ∃ a vs, v = .ref a ∧ I a = some (ho t vs) ∧ Paired (Rep.is I) vs xs
theorem isL.s {α : Type} [Rep α] {I : Hp} {v : V} {xs : List α} (h : isL I v xs) : isS false I v xs := h
theorem isU.s {α : Type} [Rep α] {I : Hp} {v : V} {xs : List α} (h : isU I v xs) : isS true I v xs := h
theorem isS.up {α : Type} [Rep α] {t : Bool} {I I' : Hp} {v : V} {xs : List α} (h : isS t I v xs) (e : Same I I') : isS t I' v xs :=
  let ⟨a, vs, h1, h2, h3⟩ := h
  ⟨a, vs, h1, e _ _ h2, Paired.mono' (fun _ _ z => Rep.mono e z) h3⟩
def Itq (K : PySem.W.Frag) (t : Bool) (a : Addr) : It := match t with
  | false => Itl K a
  | true => Itt K a
def iSeq (K : PySem.W.Frag) (tl : TE) : TI := fun σ H R => tl σ H fun x H1 => ∃ a t, x = .ref a ∧ (∃ xs, SqB K t H1 a xs) ∧ R (Itq K t a) H1
theorem pi_seq {X : Cx} {tg l : Expr} {tl : TE} (hl : PE X l tl) : PI X tg l (iSeq X.K tl) := by
  refine ⟨fun pins s σ H R I h => ?_⟩
  refine thn (hl.run pins s σ H _ I h) fun v s1 ⟨x, H1, I1, r1, q1⟩ => ?_
  obtain ⟨a, t, e, ⟨xs, hq⟩, q⟩ := q1
  subst e
  cases r1
  cases t
  · obtain ⟨its, rv, p, hz⟩ := I1.list hq
    refine wpAny_pyIter_list p.isList ?_
    refine ⟨s1.heap.objs.size, [s1.heap.objs.size], _, _, H1, rfl, I1.kept (t' := s1.toks) fun b o e => Heap.get?_push_of_some _ e, turn_list a _, ⟨_, Heap.get?_push_size _ rfl, rfl, rfl⟩, fun b hb => ?_, q⟩
    have e : b = s1.heap.objs.size := by simpa using hb
    subst e
    exact I1.fpOk (Nat.le_refl _) (I1.hok.fresh (Nat.le_refl _))
  · obtain ⟨its, rv, p, hz⟩ := I1.tuple hq
    refine wpAny_pyIter_tuple (show s1.heap.IsTuple a its.toArray from p) ?_
    refine ⟨s1.heap.objs.size, [s1.heap.objs.size], _, _, H1, rfl, I1.kept (t' := s1.toks) fun b o e => Heap.get?_push_of_some _ e, turn_tuple a _, ⟨_, Heap.get?_push_size _ rfl, rfl, rfl⟩, fun b hb => ?_, q⟩
    have e : b = s1.heap.objs.size := by simpa using hb
    subst e
    exact I1.fpOk (Nat.le_refl _) (I1.hok.fresh (Nat.le_refl _))
theorem walk_seq {K : PySem.W.Frag} {t : Bool} {a : Addr} {xs : List V} : Walk (Itq K t a) xs.length (fun H => SqB K t H a xs) (YAt xs) := by
  cases t
  · exact walk_list
  · exact walk_tup
def IteB (K : PySem.W.Frag) (t : Bool) (a : Addr) : It := match t with
  | false => Ite K a
  | true => IteT K a
def iEnumS (K : PySem.W.Frag) (ta : TA) : TI := fun σ H R => ta σ H fun vs H1 => ∃ a t xs, vs = [.ref a] ∧ SqB K t H1 a xs ∧ R (IteB K t a) H1
theorem pi_enumS {X : Cx} {e : Expr} {ta : TA} {p pos tpos : Pos} {elts : List Expr} {kk : Nat} (hg : Gl X "enumerate") (hm : X.mg "enumerate" = none) (ha : PA X [e] ta) (hs : starEach [e] X.env = [(false, eval e X.env)] := by rfl) :
    PI X (.Tuple elts kk tpos) (.Call (.Name "enumerate" p) [e] [] pos) (iEnumS X.K ta) := by
  refine ⟨fun pins s σ H R I h => ?_⟩
  refine Call_ (ld_blt I hg hm boot_enumerate (PyProof.Rows.callWith_type1 (thn (ha.run pos pins s σ H _ I h) fun us s1 ⟨vs, H1, I1, r1, q1⟩ => ?_) hs rfl))
  obtain ⟨a, t, xs, ex, hq, q⟩ := q1
  subst ex
  cases r1 with
  | cons r rr =>
    cases rr
    cases r
    have fin : ∀ b : Addr, b ∈ [s1.heap.objs.size + 1, s1.heap.objs.size] → s1.heap.objs.size ≤ b := fun b hb => by
      have e' : b = s1.heap.objs.size + 1 ∨ b = s1.heap.objs.size := by simpa using hb
      rcases e' with z | z
      · rw [z]; exact Nat.le_add_right _ _
      · rw [z]; exact Nat.le_refl _
    cases t
    · obtain ⟨its, rv, p', hz⟩ := I1.list hq
      refine call_enumerate_list p'.isList fun h' he hit hsz hk => wpAny_pyIter_enum he ?_
      have I2 : Inv X pins σ H1 { s1 with heap := h' } := I1.kept (t' := s1.toks) hk
      exact ⟨s1.heap.objs.size + 1, [s1.heap.objs.size + 1, s1.heap.objs.size], _, _, H1, rfl, I2, turn_enum a (s1.heap.objs.size + 1) s1.heap.objs.size, ⟨⟨.none, he⟩, hit, Nat.succ_ne_self _⟩, fun b hb => I1.fpOk (fin b hb) (I1.hok.fresh (fin b hb)), q⟩
    · obtain ⟨its, rv, p', hz⟩ := I1.tuple hq
      refine call_enumT (show s1.heap.IsTuple a its.toArray from p') fun h' he hit hsz hk => wpAny_pyIter_enum he ?_
      have I2 : Inv X pins σ H1 { s1 with heap := h' } := I1.kept (t' := s1.toks) hk
      exact ⟨s1.heap.objs.size + 1, [s1.heap.objs.size + 1, s1.heap.objs.size], _, _, H1, rfl, I2, turn_enumT a (s1.heap.objs.size + 1) s1.heap.objs.size, ⟨⟨.none, he⟩, hit, Nat.succ_ne_self _⟩, fun b hb => I1.fpOk (fin b hb) (I1.hok.fresh (fin b hb)), q⟩
theorem walk_enumS {K : PySem.W.Frag} {t : Bool} {a : Addr} {xs : List V} : Walk (IteB K t a) xs.length (fun H => SqB K t H a xs) (YPair (fun i => some (.int (i : Nat))) (fun i => xs[i]?)) := by
  cases t
  · exact walk_enum
  · exact walk_enumT
/-- its type, and what isinstance of (list, tuple) tells -/
theorem ty_seq {K : PySem.W.Frag} {t : Bool} {H : Hp} {a : Addr} {vs : List V} (h : H a = some (ho t vs)) : ∃ n, TyX K H (.ref a) (.type n) ∧ PySem.W.kitAny K (.type n) [.type "list", .type "tuple"] = some true := by
  cases t
  · exact ⟨_, .base (.lst h), kit_any_hd⟩
  · exact ⟨_, .base (.tup h), kitAny_cons (b := false) (kit_ty (by decide +kernel)) (fun _ => kit_any_hd) (fun z => nomatch z)⟩
end Nw

namespace Nw
open PySem PySem.Spec PyProof.Rows L2
section
variable {X : Cx} {k : Nat} {f C : Addr} {fd : FuncData} {ps : List Str} {sp : Sp}
def rOwnB (C : Addr) (sp : Sp) (g : Bool → Bool) : R2 := fun x y H Q => ∃ a b dx dy fs gs, x = .ref a ∧ y = .ref b ∧ H a = some (.ins C dx fs) ∧ H b = some (.ins C dy gs) ∧ sp [.ref a, .ref b] H (fun v H' => ∃ t, v = .bl t ∧ Q (.bl (g t)) H') E0
/-- == that the class has itself -/
theorem op_own_eq (M : Meth X.K C "__eq__" f) (F : FnOk X.prog X.w X.K X.mg X.base CX0 k f fd ps sp) (hr : Room k X.A) (hb : Binds X.K fd ps []) : OpR X (compareOp .Eq) (rOwnB C sp id) := by
  intro pins s σ H x y v u Q I rx ry h
  obtain ⟨a, b, dx, dy, fs, gs, rfl, rfl, ha, hb', q⟩ := h
  cases rx
  cases ry
  obtain ⟨mA, J, _⟩ := ins_get I.hok ha
  obtain ⟨mB, J', _⟩ := ins_get I.hok hb'
  obtain ⟨od, J, _⟩ := J.look
  obtain ⟨od', J', _⟩ := J'.look
  obtain ⟨m, hF⟩ := I.fr
  show wpAny (model X.prog X.w) X.A (richCompare .Eq (.ref a) (.ref b)) (EP X pins σ Q) X.xe s
  refine PySem.W.cmp_K (op := .Eq) (tb := .ref C) hr.units0 hF I.ok.mod.kin J J'.type (by simp [PySem.W.notFirst]) M.at_ M.fn ?_
  have r2 : Vals [V.ref a, V.ref b] [Value.ref a, Value.ref b] := .cons rfl (.cons rfl .nil)
  refine wpAny_mono (run_fn (dvs := []) (ds := []) (E := E0) F hr hb .nil pass0 I r2 q) (fun v s' hq => ?_) fun _ _ e => e
  obtain ⟨z, H', I', rz, p, rfl, q⟩ := hq
  cases rz
  exact ⟨.bl p, _, I', rfl, q⟩
theorem slot_ne : Slot "object" "__ne__" "object.__ne__" := F.cmp_object.ne
/-- a builtin's slot of an instance, found by the class's part -/
theorem ifBoundB_K {M : Model} {A : Around} {E : Value → Shared → Prop} {s : Shared} {K : PySem.W.Frag} {x C : Addr} {ox : Obj} {od : Option Obj} {name : Str} {T id : String} {args : List Value} {Q : Option Value → Shared → Prop} (Xk : K.In s.heap) (I : PySem.W.InstAt s.heap x ox C od)
    (hs : PySem.W.findIn K (.ref C) name = some (some (.builtin id))) (S : Slot T name id)
    (h : wpAny M A (call (.builtin id) (.ref x :: args)) (fun v => Q (some v)) E s) : wpAny M A (callSpecialIfBound? (.ref x) name args) Q E s := by
  simp only [callSpecialIfBound?, bindSpecialIfBound?]
  refine wpAny_holding (wpAny_bind (wpAny_bind (wpAny_bind (I.type.here ((PySem.W.looks_findIn Xk hs).here ?_)))))
  simp only [S.bind]
  refine wpAny_bind (wpAny_askSetting (wpAny_ite ?_))
  have fin : wpAny M A (call (.builtin id) ([.ref x] ++ args) >>= fun v => pure (some v)) Q E s := wpAny_bind (wpAny_mono h (fun v s' h' => wpAny_pure h') fun _ _ h' => h')
  split
  · exact wpAny_bind (wpAny_pure (wpAny_pure fin))
  · exact wpAny_tryCatch (wpAny_bind (wpAny_pure (wpAny_pure fin)))
theorem check_slotK {M : Model} {A : Around} {E : Value → Shared → Prop} {s : Shared} {K : PySem.W.Frag} {x C : Addr} {ox : Obj} {od : Option Obj} {id owner n : String} {rest : List Value} {Q : Unit → Shared → Prop} (Xk : K.In s.heap) (I : PySem.W.InstAt s.heap x ox C od) (hk : builtinKind id = some .slot) (hs : splitId id = some (owner, n))
    (ha : argsOk id ⟨.ref x :: rest, []⟩) (hsub : PySem.W.subIn K (.ref C) (.type owner) = some true) (hq : Q () s) : wpAny M A (checkBuiltinCall id ⟨.ref x :: rest, []⟩) Q E s := by
  simp only [checkBuiltinCall, hk, hs]
  refine wpAny_bind ?_
  unfold isInstance
  refine wpAny_bind (I.type.here ?_)
  refine (PySem.W.looks_subIn Xk hsub).here ?_
  cases hsig : Manifest.signature? id with
  | none => exact wpAny_pure hq
  | some sig =>
    simp only [argsOk, hsig] at ha
    have h2 : Bind.checkArgs id sig ⟨.ref x :: rest, []⟩ = pure () := ha
    show wpAny M A (Bind.checkArgs id sig ⟨.ref x :: rest, []⟩) Q E _
    rw [h2]; exact wpAny_pure hq
/-- != of a class with its own ==, that leaves __ne__ to object -/
theorem op_own_ne (M : Meth X.K C "__eq__" f) (hne : PySem.W.findIn X.K (.ref C) "__ne__" = some (some (.builtin "object.__ne__"))) (hob : PySem.W.subIn X.K (.ref C) (.type "object") = some true)
    (F : FnOk X.prog X.w X.K X.mg X.base CX0 k f fd ps sp) (hr : Room (k + 1) X.A) (hb : Binds X.K fd ps []) : OpR X (compareOp .NotEq) (rOwnB C sp not) := by
  intro pins s σ H x y v u Q I rx ry h
  obtain ⟨a, b, dx, dy, fs, gs, rfl, rfl, ha, hb', q⟩ := h
  cases rx
  cases ry
  obtain ⟨mA, J, _⟩ := ins_get I.hok ha
  obtain ⟨mB, J', _⟩ := ins_get I.hok hb'
  obtain ⟨od, J, _⟩ := J.look
  obtain ⟨od', J', _⟩ := J'.look
  obtain ⟨m, hF⟩ := I.fr
  have Xk := I.kIn
  show wpAny (model X.prog X.w) X.A (richCompare .NotEq (.ref a) (.ref b)) (EP X pins σ Q) X.xe s
  have r2 : Vals [V.ref a, V.ref b] [Value.ref a, Value.ref b] := .cons rfl (.cons rfl .nil)
  have e0 : Env0 X.prog X.w X.K X.mg X.base X.A.in1 X.stack s H := I.env0.in1
  have hl : (([.ref a, .ref b] : List Value) ++ []).length = ps.length := by
    have := F.len _ _ _ _ q
    simpa using this
  -- the own ==, one deeper
  have own : wpAny (model X.prog X.w) X.A.in1 (call (.ref f) [.ref a, .ref b]) (EP X pins σ (fun v H' => ∃ t, v = .bl t ∧ Q (.bl (!t)) H')) X.xe s := by
    refine wpAny_call (codeAny_mono (F.run X.A.in1 X.stack s H ⟨[.ref a, .ref b], []⟩ [.ref a, .ref b] [.ref a, .ref b] _ E0 hr.in1 e0 (by
      have := hb s [.ref a, .ref b] I.kIn hl
      simpa using this) r2 q) fun r s' hq => ?_)
    cases r with
    | error e => exact pass0 pins σ H s e s' I hq
    | ok fl =>
      cases fl with
      | ret w => exact I.after hq
      | next => exact False.elim hq
      | brk => exact False.elim hq
      | cont => exact False.elim hq
  have neq : wpAny (model X.prog X.w) X.A.in1 (Builtin.«object.__ne__» ⟨[.ref a, .ref b], []⟩) (fun fin s' => ∃ t, fin = .done (.ret (.bool t)) ∧ EP X pins σ Q (.bool t) s') X.xe s := by
    unfold Builtin.«object.__ne__»
    refine wpAny_bind (m := slotArgs "__ne__" 1 ⟨[.ref a, .ref b], []⟩) ?_
    refine (show wpAny _ _ (pure (Value.ref a, [Value.ref b])) _ _ _ from wpAny_pure ?_)
    refine wpAny_bind (wpAny_cRoomFor hr.in1.units0 ?_)
    refine wpAny_bind (PySem.W.ifBound_K Xk J M.at_ M.fn (wpAny_mono own (fun v s' hv => ?_) fun _ _ e => e))
    obtain ⟨z, H', I', rz, t, rfl, q'⟩ := hv
    cases rz
    refine wpAny_bind (wpAny_truthy_bool ?_)
    exact wpAny_pure ⟨!t, rfl, .bl (!t), H', I', rfl, q'⟩
  have one : wpAny (model X.prog X.w) X.A (tryCompare (.ref a) "__ne__" (.ref b)) (fun r s' => ∃ v, r = some v ∧ EP X pins σ Q v s') X.xe s := by
    unfold tryCompare
    refine wpAny_bind (ifBoundB_K Xk J hne slot_ne (wpAny_call (codeAny_call_builtin slot_ne.plain PySem.F.cmpEntry_ne (check_slotK Xk J PySem.F.cmpKind_ne PySem.F.cmpSplit_ne (PySem.F.cmpArgs_ne _ _) hob ?_))))
    refine wpAny_mono neq (fun fin s' hv => ?_) fun e s' z => z
    obtain ⟨t, rfl, q'⟩ := hv
    exact wpAny_pure ⟨_, rfl, q'⟩
  unfold richCompare
  simp only [oneThing_ref]
  refine wpAny_holding (wpAny_bind (wpAny_cRoomFor hr.units0 ?_))
  refine wpAny_bind (J.type.here (wpAny_bind (J'.type.here ?_)))
  simp only [bne_self_eq_false, Bool.false_eq_true, if_false]
  refine wpAny_bind (wpAny_pure ?_)
  simp only [Bool.false_eq_true, if_false]
  refine wpAny_bind (wpAny_mono one (fun r s' z => ?_) fun _ _ e => e)
  obtain ⟨v, rfl, hq⟩ := z
  exact wpAny_pure hq
end
end Nw

namespace Nw
open PySem PySem.Spec PyProof.Rows L2
/-! ### an exception that was caught and is held as a value -/
def ExV (cls : Value) (d : Option Addr) (a : Addr) : HO := .ext fun h => ∃ (oe : Obj) (vs : Array Value), h.get? a = some oe ∧ Zc cls d oe ∧ oe.data = .fields vs
theorem exv_at {P : Program} {w : World} {H : Hp} {h : Heap} {cls : Value} {d : Option Addr} {a : Addr} (hok : HOk P w H h) (e : H a = some (ExV cls d a)) : ∃ (oe : Obj) (vs : Array Value), h.get? a = some oe ∧ Zc cls d oe ∧ oe.data = .fields vs := by
  have z : ObjOk P w H h a (ExV cls d a) := hok a _ e
  exact z.1
section
variable {X : Cx} {pins : List (Addr × Obj)} {σ : L2.St} {H : Hp} {s : Shared}
theorem inv_held {a : Addr} {oe : Obj} {vs : Array Value} {cls : Value} {d : Option Addr} (I : Inv X pins σ H s) (at_ : s.heap.get? a = some oe) (z : Zc cls d oe) (fl : oe.data = .fields vs) (fr : H a = none) (young : X.s_0.heap.get? a = none)
    (nl : a ≠ X.env.locals) (np : ∀ p ∈ X.pn ++ pins, p.1 ≠ a) : Inv X pins σ (upd H a (ExV cls d a)) s := by
  have nc : ∀ x c, X.env.cells.lookup x = some c → c ≠ a := fun x c e q => by
    obtain ⟨v, o, ho, hd⟩ := I.cell x c e
    rw [q, at_] at ho
    cases ho
    rw [fl] at hd
    cases hd
  refine ⟨I.ok, I.os, I.bare, { I.base with free := fun b o e n hx => ?_, tups := fun b xs e => ?_, frzs := fun b o u e => ?_, tbls := fun b ps e => ?_ }, I.loc, I.cell, ?_, fun x c e => ?_, fun p hp => ?_, ?_, I.len⟩
  · rw [upd_ne fun q => by rw [q, young] at e; cases e]
    exact I.base.free b o e n hx
  · have q := I.base.tups b xs e
    rw [upd_ne (ne_of_none q fr)]
    exact q
  · have q := I.base.frzs b o u e
    rw [upd_ne (ne_of_none q fr)]
    exact q
  · obtain ⟨more, q⟩ := I.base.tbls b ps e
    exact ⟨more, by rw [upd_ne (ne_of_none q fr)]; exact q⟩
  · rw [upd_ne nl.symm]
    exact I.free
  · rw [upd_ne (nc x c e)]
    exact I.freeC x c e
  · obtain ⟨p1, p2, p3⟩ := I.pin p hp
    exact ⟨p1, by rw [upd_ne (np p hp)]; exact p2, p3⟩
  · exact I.hok.laidN (fun _ _ q => q) fr ⟨⟨oe, vs, at_, z, fl⟩, ⟨oe, at_⟩, fun _ _ ⟨o, v, q, r⟩ k => ⟨o, v, k o q, r⟩⟩
end
/-- behind the suite the caught one stands as a value -/
def keepD (i : Nat) (a : Addr) (cls : Value) (d : Option Addr) (D : Ends) : Ends where
  nx := fun σ H => D.nx (σ.set i none) (upd H a (ExV cls d a))
  rt := fun v H => D.rt v (upd H a (ExV cls d a))
  bk := fun σ H => D.bk (σ.set i none) (upd H a (ExV cls d a))
  ct := fun σ H => D.ct (σ.set i none) (upd H a (ExV cls d a))
/-- what 'except c as n: suite' wishes, the exception being kept; one of another class isn't raised there -/
def wKeep (K : PySem.W.Frag) (c : Value) (i : Nat) (ts : Addr → Value → Option Addr → TS) (D : Ends) : WX := fun cls d σ H =>
  PySem.W.exmOne K cls c = some true ∧ ∀ a, H a = none → ts a cls d (keepD i a cls d D) (σ.set i (some (.ref a))) H
section
variable {X : Cx} {x n : Str} {c : Value} {i : Nat} {body suite : List Stmt} {b₀ : Stmt} {np pos pos' : Pos} {tb : WX → TS} {ts : Addr → Value → Option Addr → TS}
/-- an object in the air is none that stood at the call, no frame, no pinned one -/
structure Apart (X : Cx) (pins : List (Addr × Obj)) (a : Addr) : Prop where
  young : X.s_0.heap.get? a = none
  nl : a ≠ X.env.locals
  nf : a ∉ X.fs
  np : ∀ p ∈ X.pn ++ pins, p.1 ≠ a
theorem apart_of {pins : List (Addr × Obj)} {σ : L2.St} {H : Hp} {sI : Shared} {B h : Heap} {a : Addr} {Z : Obj → Prop} (hst : X.stack = X.env :: X.outer) (hfm : X.env.frame = some X.env.locals) (hex : X.ex = []) (I : Inv X pins σ H sI)
    (nb : ∀ b o, sI.heap.get? b = some o → b ∉ frs X.stack → B.get? b = some o) (fl : HandSPX.FlyingZ B (X.env :: X.outer) a Z h) : Apart X pins a := by
  obtain ⟨oe, vs, e1, e2, e3⟩ := fl.there
  have nB : B.get? a = none := fl.2.1
  have off : a ∉ frs (X.env :: X.outer) := fun hm => by
    obtain ⟨_, o', e', nofld⟩ := fl.2.2.1.mem hm
    rw [e1] at e'
    cases e'
    exact nofld _ e3
  have gone : ∀ o, sI.heap.get? a ≠ some o := fun o e => by
    have z := nb a o e (by rw [hst]; exact off)
    rw [nB] at z
    cases z
  refine ⟨?_, fun q => off (List.mem_filterMap.mpr ⟨X.env, List.mem_cons_self, by rw [hfm, q]⟩), fun hm => ?_, fun p hp q => ?_⟩
  · cases e : X.s_0.heap.get? a with
    | none => rfl
    | some o =>
      obtain ⟨o', z⟩ := I.base.there a o e (by rw [hex]; exact fun q => nomatch q)
      exact absurd z (gone o')
  · obtain ⟨ev, he, q⟩ := List.mem_filterMap.mp hm
    exact off (List.mem_filterMap.mpr ⟨ev, List.mem_cons_of_mem _ he, q⟩)
  · have z := (I.pin p hp).1
    rw [q] at z
    exact gone _ z
/-- try: body / except x as n: suite; the exception is kept behind it -/
theorem ps_try_keep (hst : X.stack = X.env :: X.outer) (hfm : X.env.frame = some X.env.locals) (hex : X.ex = []) (hN : X.N.Nodup) (hi : X.N[i]? = some n) (hln : X.env.kindOf n = some .local) (hc : Names X x c)
    (hb : ∀ (W : WX) (pn : List (Addr × Obj)) (xe : Value → Shared → Prop), Takes (X.tr pn xe) W → PSs (X.tr pn xe) body (tb W))
    (hsu : ∀ (a : Addr) (oe : Obj) (cls : Value) (d : Option Addr) (pn : List (Addr × Obj)), Zc cls d oe → (∃ vs, oe.data = .fields vs) → PSs (X.suite a ((a, oe) :: pn)) (b₀ :: suite) (ts a cls d)) :
    PS X (.Try body [.ExceptHandler (some (.Name x np)) (some n) (b₀ :: suite) pos'] [] [] pos) (fun D σ H => tb (wKeep X.K c i ts D) D σ H) := by
  refine ⟨fun pins s σ H D I wish => ?_⟩
  have hA : X.A.frames = some (X.env :: X.outer) := by rw [I.ok.frames, hst]
  -- what is raised in the body comes here
  have land : Takes (X.tr (X.pn ++ pins) fun e s1 => wpAny (model X.prog X.w) X.A (noteFrame e X.env) (fun _ s2 => wpAny (model X.prog X.w) X.A (setFlight e none) (fun _ s3 =>
      wpAny (model X.prog X.w) X.A (handleBy e X.env [.ExceptHandler (some (.Name x np)) (some n) (b₀ :: suite) pos']) (SP X pins D) X.xe s3) X.xe s2) X.xe s1) (wKeep X.K c i ts D) := by
    rintro u sx ⟨a, B, sI, pins', σx, Hx, cls, d, rfl, Ix, nb, up, sky, na, os, ag, hm, hyes⟩
    have J : Inv X pins σx Hx sI := Ix.ofTry I.ok
    show wpAny (model X.prog X.w) X.A (noteFrame (.ref a) X.env) _ _ _
    have sky2 : Sky B (X.env :: X.outer) a (Zc cls d) X.env.locals sx.heap := hst ▸ sky
    refine Sky.land Zc.steady hA hfm sky2 fun hA1 fl1 up1 => ?_
    have ap := apart_of hst hfm hex J nb fl1
    have J1 : Inv X pins σx Hx { sx with heap := hA1 } := J.landed nb fl1.1 (up.trans up1) os ag
    obtain ⟨o1, f1, g1, z1, d1⟩ := fl1.there
    have S1 := J1.suite g1 d1 na ap.nl ap.nf
    refine wpAny_handleBy_cons (codeAny_handlers_test ?_) (fun q => nomatch q)
    have LC : PySem.W.Looks (model X.prog X.w) hA1 (typeOf (.ref a)) cls := fun A1 Q1 E1 sh kk q => wpAny_typeOf_ref (kk _ _ g1) (by rw [z1.1]; exact q)
    have LM := PySem.W.exm_one (M := model X.prog X.w) (J1.kIn) LC hm
    have clause : ∀ {Q1 : Value → Shared → Prop} {E1 : Value → Shared → Prop}, Q1 c { sx with heap := hA1 } → wpAny (model X.prog X.w) (X.A.mark (some (.ref a))) (eval (.Name x np) X.env) Q1 E1 { sx with heap := hA1 } := fun {Q1 E1} q => by
      obtain ⟨hg, hdb, hm | ⟨hm, hv, hnn⟩⟩ := hc
      · exact ld_glob (X := X.suite a ((a, o1) :: (X.pn ++ pins))) S1 hg hm q hdb
      · exact ld_blt (X := X.suite a ((a, o1) :: (X.pn ++ pins))) S1 hg hm hv q hnn hdb
    refine clause (LM.here (codeAny_handlers_suite_as (HandSPX.lands_againZ fl1 fun hA2 fl2 up2 => ?_)))
    have J2 : Inv X pins σx Hx { sx with heap := hA2 } := J.landed nb fl2.1 ((up.trans up1).trans up2) os ag
    obtain ⟨o2, f2, g2, z2, d2⟩ := fl2.there
    refine store_ok (X := X.suite a ((a, o2) :: (X.pn ++ pins))) (v := .ref a) (J2.suite g2 d2 na ap.nl ap.nf) hN hi (.inl hln) rfl (fun s5 S5 => ?_) (.inr hln)
    refine wpAny_mono ((hsu a o2 cls d (X.pn ++ pins) z2 ⟨_, d2⟩).run [] s5 _ Hx _ S5 (hyes a na)) (fun f s6 hsp => ?_) (fun _ _ z => False.elim z)
    have out : ∀ {σ6 : L2.St} {H6 : Hp} {Q1 : Shared → Prop}, Inv (X.suite a ((a, o2) :: (X.pn ++ pins))) [] σ6 H6 s6 → (∀ s7, Inv X pins (σ6.set i none) (upd H6 a (ExV cls d a)) s7 → Q1 s7) →
        wpAny (model X.prog X.w) X.A (do bindName X.env n .none; unbindBehindTheSuite X.env n pos') (fun _ s7 => Q1 s7) X.xe s6 := fun {σ6 H6 Q1} S6 hq => by
      obtain ⟨p1, p2, _⟩ := S6.pin (a, o2) (List.mem_append_left _ List.mem_cons_self)
      exact gone_ok (inv_held (S6.unsuite I.ok) p1 z2 d2 p2 ap.young ap.nl ap.np) hN hi hln hq
    cases f with
    | next => exact let ⟨_, _, S6, q6⟩ := hsp; out S6 fun s7 J7 => ⟨_, _, J7, q6⟩
    | brk => exact let ⟨_, _, S6, q6⟩ := hsp; out S6 fun s7 J7 => ⟨_, _, J7, q6⟩
    | cont => exact let ⟨_, _, S6, q6⟩ := hsp; out S6 fun s7 J7 => ⟨_, _, J7, q6⟩
    | ret u => exact let ⟨_, _, _, S6, r6, q6⟩ := hsp; out S6 fun s7 J7 => ⟨_, _, _, J7, r6, q6⟩
  refine wpAny_Try_except (wpAny_mono ((hb (wKeep X.K c i ts D) _ _ land).run [] s σ H D (I.toTry _) wish) (fun f s1 hsp => ?_) (fun e s1 he => he))
  cases f with
  | next => exact let ⟨σ1, H1, J1, q⟩ := hsp; wpAny_execs_nil ⟨σ1, H1, J1.ofTry I.ok, q⟩
  | brk => exact let ⟨σ1, H1, J1, q⟩ := hsp; ⟨σ1, H1, J1.ofTry I.ok, q⟩
  | cont => exact let ⟨σ1, H1, J1, q⟩ := hsp; ⟨σ1, H1, J1.ofTry I.ok, q⟩
  | ret u => exact let ⟨v, σ1, H1, J1, r, q⟩ := hsp; ⟨v, σ1, H1, J1.ofTry I.ok, r, q⟩
end
/-! ### isinstance of such a value, its fields -/
/-- what isinstance and fields lean on, of an own exception class -/
structure ExF (K : PySem.W.Frag) (C : Addr) : Prop where
  ga : PySem.W.findIn K (.ref C) "__getattribute__" = some (some (.builtin "BaseException.__getattribute__"))
  gt : PySem.W.findIn K (.ref C) "__getattr__" = some none
  sb : PySem.W.subIn K (.ref C) (.type "BaseException") = some true
  hd : PySem.W.hasDictIn K C = true
  cl : PySem.W.findIn K (.ref C) "__class__" = some (some (.builtin "object.__class__"))
  sp : PySem.W.specialIn K (.builtin "object.__class__") "__get__" = some (some (.builtin "getset_descriptor.__get__"))
  tk : PySem.W.takesIn K (.builtin "object.__class__") = some true
  mr : PySem.W.mroIn K C (.type "object") = some true
def exfB (K : PySem.W.Frag) (C : Addr) : Bool :=
  decide (PySem.W.findIn K (.ref C) "__getattribute__" = some (some (.builtin "BaseException.__getattribute__"))) && (decide (PySem.W.findIn K (.ref C) "__getattr__" = some none) && (decide (PySem.W.subIn K (.ref C) (.type "BaseException") = some true) &&
  (PySem.W.hasDictIn K C && (decide (PySem.W.findIn K (.ref C) "__class__" = some (some (.builtin "object.__class__"))) && (decide (PySem.W.specialIn K (.builtin "object.__class__") "__get__" = some (some (.builtin "getset_descriptor.__get__"))) &&
  (decide (PySem.W.takesIn K (.builtin "object.__class__") = some true) && decide (PySem.W.mroIn K C (.type "object") = some true)))))))
theorem exfB_ok {K : PySem.W.Frag} {C : Addr} (h : exfB K C = true) : ExF K C := by
  unfold exfB at h
  simp only [Bool.and_eq_true, decide_eq_true_eq] at h
  obtain ⟨a, b, c, d, e, f, g, i⟩ := h
  exact ⟨a, b, c, d, e, f, g, i⟩
theorem clsIn_of {K : PySem.W.Frag} {C : Addr} (h : PySem.W.hasDictIn K C = true) : (PySem.W.clsIn K C).isSome = true := by
  obtain ⟨cd, hc, _⟩ := PySem.W.any_some h
  rw [hc]
  rfl
/-- the object at a of the class at C, as the library tells of instances -/
theorem exv_inst {X : Cx} {pins : List (Addr × Obj)} {σ : L2.St} {H : Hp} {s : Shared} {a C : Addr} {d : Option Addr} (I : Inv X pins σ H s) (e : H a = some (ExV (.ref C) d a)) (hd : ∀ dx, d = some dx → ∃ fs, H dx = some (.xd fs)) :
    ∃ ox od, PySem.W.InstAt s.heap a ox C od ∧ (∀ dx fs, d = some dx → H dx = some (.xd fs) → ∃ o, od = some o ∧ ∀ f, ∃ u, PySem.W.lookIn f o = some u ∧ RelO (fs.lookup f) u) := by
  obtain ⟨oe, vs, g, z, fl⟩ := exv_at I.hok e
  have nc : PySem.W.notCls oe = true := by
    unfold PySem.W.notCls
    rw [fl] <;> rfl
  cases d with
  | none => exact ⟨oe, none, ⟨g, z.1, nc, by rw [z.2]; trivial⟩, fun dx fs q => nomatch q⟩
  | some dx =>
    obtain ⟨fs, hfs⟩ := hd dx rfl
    have hx : ObjOk X.prog X.w H s.heap dx (.xd fs) := I.hok dx _ hfs
    obtain ⟨mA, hns, hr⟩ := hx
    obtain ⟨o, ho, look⟩ := lookIn_ns hns
    refine ⟨oe, some o, ⟨g, z.1, nc, by rw [z.2]; exact ho⟩, fun dx' fs' q q' => ?_⟩
    cases q
    rw [hfs] at q'
    cases q'
    exact ⟨o, rfl, fun f => ⟨mA f, look f, hr f⟩⟩
def rIsV (K : PySem.W.Frag) : List V → Hp → VK → Prop := fun xs H Q => ∃ (a C : Addr) (d : Option Addr) (c : V) (u : Value) (b : Bool), xs = [.ref a, c] ∧ H a = some (ExV (.ref C) d a) ∧ (∀ dx, d = some dx → ∃ fs, H dx = some (.xd fs)) ∧ ExF K C ∧ ClsV c u ∧ PySem.W.kitOne K (.ref C) u = some b ∧ Q (.bl b) H
theorem call_isV {X : Cx} : CallR X (.builtin "isinstance") (rIsV X.K) := by
  intro pins s σ H xs us Q I r h
  obtain ⟨a, C, d, c, u, b, rfl, e, hd, F, k, kit, q⟩ := h
  obtain ⟨u1, u2, rfl, r1, r2⟩ := vals2 r
  have e2 := k.eq r2
  subst e2
  cases r1
  obtain ⟨ox, od, J, _⟩ := exv_inst I e hd
  exact PySem.W.kia_one (PySem.W.kitx_exc (clsIn_of F.hd) F.ga F.gt F.sb F.cl F.sp F.tk F.mr) I.kIn J kit (fun z => nomatch z) fun tk => ⟨.bl b, H, I.tok tk, rfl, q⟩
/-- what may be anything: a plain value or such a one -/
def rIsA (K : PySem.W.Frag) : List V → Hp → VK → Prop := fun xs H Q => rIsi K xs H Q ∨ rIsV K xs H Q
theorem call_isA {X : Cx} : CallR X (.builtin "isinstance") (rIsA X.K) := by
  intro pins s σ H xs us Q I r h
  rcases h with h | h
  · exact call_isi pins s σ H xs us Q I r h
  · exact call_isV pins s σ H xs us Q I r h
/-- e.f of such a value -/
def tExF (K : PySem.W.Frag) (f : Str) (te : TE) : TE := fun σ H Q => te σ H fun x H1 => ∃ (a C dx : Addr) (fs : List (Str × V)) (v : V), x = .ref a ∧ H1 a = some (ExV (.ref C) (some dx) a) ∧ H1 dx = some (.xd fs) ∧ ExF K C ∧ PySem.W.findIn K (.ref C) f = some none ∧ fs.lookup f = some v ∧ Q v H1
theorem pe_exf {X : Cx} {e : Expr} {te : TE} {pos : Pos} {f : Str} (he : PE X e te) (hb : attributeBase e f X.env (eval e X.env) = eval e X.env := by rfl) : PE X (.Attribute e f pos) (tExF X.K f te) := by
  refine ⟨fun pins s σ H Q I h => ?_⟩
  refine attr_of hb (thn (he.run pins s σ H _ I h) fun u s1 ⟨x, H1, I1, rx, a, C, dx, fs, v, ex, ea, ed, F, hno, l, q⟩ => ?_)
  subst ex
  cases rx
  obtain ⟨ox, od, J, hl⟩ := exv_inst I1 ea fun dx' z => by cases z; exact ⟨fs, ed⟩
  obtain ⟨o, rfl, look⟩ := hl dx fs rfl ed
  obtain ⟨m, h1, h2⟩ := look f
  rw [l] at h2
  obtain ⟨u, hu, ru⟩ := RelO.some_of (v := v) (o := m) h2
  exact HandSPX.exc_get I1.kIn J F.ga F.gt F.sb (PySem.W.findObj_own F.hd hno rfl (by rw [h1, hu])) (handed_of ru) ⟨v, H1, I1.tok _, ru, q⟩
end Nw

namespace Nw
open PySem PySem.Spec PyProof.Rows L2
/-! ### own exception classes with fields: what the head tells of them -/
def oexC (C : Addr) (mro : List Value) (sl : List (Option Value)) : Bool := match mro, sl with
  | .ref c :: bm, [_, _, _, _, some (.builtin n), _] => decide (c = C) && (decide (n = "ValueError.__new__") && PySem.HandSPX.refsVE bm)
  | _, _ => false
def oexO (K : PySem.W.Frag) (C : Addr) : Bool := match K.lookup C with
  | some ⟨.type t, _, .cls cd, sl⟩ => decide (t = "type") && (cd.hasDict && (!cd.hasDel && oexC C cd.mro sl.toList))
  | _ => false
def oexB (K : PySem.W.Frag) (C : Addr) : Bool := oexO K C && (decide (PySem.W.findIn K (.ref C) "__setattr__" = some (some (.builtin "object.__setattr__"))) &&
  (decide (PySem.W.subIn K (.ref C) (.type "BaseException") = some true) && (decide (PySem.W.typeIn K (.ref C) = some (.type "type")) && PySem.W.keepIn K (.ref C))))
theorem oexB_ok {K : PySem.W.Frag} {C : Addr} (h : oexB K C = true) : OexC K C := by
  unfold oexB at h
  simp only [Bool.and_eq_true, decide_eq_true_eq] at h
  obtain ⟨h0, h1, h2, h3, h4⟩ := h
  refine ⟨?_, h1, h2, h3, h4⟩
  unfold oexO at h0
  split at h0
  · rename_i t dd cd sl hl
    simp only [Bool.and_eq_true, decide_eq_true_eq, Bool.not_eq_true'] at h0
    obtain ⟨rfl, hd, hdel, hc⟩ := h0
    unfold oexC at hc
    split at hc
    · rename_i c bm k0 k1 k2 k3 n k5 hm hs
      simp only [Bool.and_eq_true, decide_eq_true_eq] at hc
      obtain ⟨rfl, rfl, hb⟩ := hc
      obtain ⟨nm, bs, mro, ns, qn, hdd, sn, sub, ab, col, del⟩ := cd
      dsimp only at hm hd hdel
      subst hm hd hdel
      obtain ⟨ls⟩ := sl
      dsimp only at hs
      subst hs
      exact ⟨nm, qn, ns, bs, bm, sn, sub, ab, col, dd, k0, k1, k2, k3, k5, hl, hb⟩
    · cases hc
  · cases h0
/-- the class above them: its own __init__ is ValueError's -/
structure OeI (K : PySem.W.Frag) (C : Addr) : Prop where
  sp : PySem.W.specialIn K (.ref C) "__getattribute__" = some (some (.builtin "type.__getattribute__"))
  rd : PySem.W.readsIn K C (.type "type") = true
  at_ : PySem.W.findCls K (.ref C) (.type "type") "__init__" = some (.val (.builtin "ValueError.__init__"))
def veiB : Option PySem.W.CFound → Bool
  | some (.val (.builtin n)) => decide (n = "ValueError.__init__")
  | _ => false
theorem veiB_ok {o : Option PySem.W.CFound} (h : veiB o = true) : o = some (.val (.builtin "ValueError.__init__")) := by
  unfold veiB at h
  split at h
  · rw [of_decide_eq_true h]
  · cases h
def oeiB (K : PySem.W.Frag) (C : Addr) : Bool := decide (PySem.W.specialIn K (.ref C) "__getattribute__" = some (some (.builtin "type.__getattribute__"))) && (PySem.W.readsIn K C (.type "type") &&
  veiB (PySem.W.findCls K (.ref C) (.type "type") "__init__"))
theorem oeiB_ok {K : PySem.W.Frag} {C : Addr} (h : oeiB K C = true) : OeI K C := by
  unfold oeiB at h
  simp only [Bool.and_eq_true, decide_eq_true_eq] at h
  exact ⟨h.1, h.2.1, veiB_ok h.2.2⟩
/-- C0.__init__(self, ..) -/
theorem pe_oeinit {X : Cx} {c : Str} {C0 : Addr} {e : Expr} {es : List Expr} {ta : TA} {p1 p2 pos : Pos} {pl : Sem Bool} (F : OeI X.K C0) (hm : X.mg c = some (.ref C0)) (ha : PA X (e :: es) ta) (hg : Gl X c := by rfl) (hdb : (c == ("__debug__" : Str)) = false := by decide)
    (hc : eval (.Call (.Attribute (.Name c p1) "__init__" p2) (e :: es) [] pos) X.env = (do
      let cv ← eval (.Name c p1) X.env
      standAt p2.atName
      let (g, fst) ← holding [cv] (getMethod cv "__init__" pl)
      callWith pos g fst (backTo pos (starEach (e :: es) X.env)) (backToKw pos (keywordEach [] X.env))) := by rfl)
    (hst : starEach (e :: es) X.env = (false, eval e X.env) :: starEach es X.env := by rfl) (hpl : (backTo pos (starEach es X.env)).any (·.1) = false := by rfl) :
    PE X (.Call (.Attribute (.Name c p1) "__init__" p2) (e :: es) [] pos) (tVeI X.K ta) := by
  refine ⟨fun pins s σ H Q I h => PySem.W.methodCall_KW (ld_glob I hg hm ?_ hdb) hc⟩
  refine PySem.W.method_cls I.kIn F.sp (PySem.W.cls_value I.kIn F.rd F.at_ (by first | rfl | decide +kernel) ?_)
  have I0 := I.tok (s.toks + 1)
  refine PyProof.Rows.callWith_method1 (thn (ha.run pos pins _ σ H _ I0 h) fun us s1 ⟨vs, H1, I1, rv, a, C, ws, ev, hl, T, ea, q⟩ => ?_) hst hpl
  subst ev
  cases rv with
  | @cons _ u0 _ ur ra rw' =>
    obtain rfl : u0 = Value.ref a := ra
    refine oinit_ok T I1 ea ?_ fun s' J => ⟨.non, H1, J, rfl, q⟩
    rw [← Paired.length rw', sizeLine_eq]
    omega
/-! ### an __init__ with one field, with two -/
def spX1 (K : PySem.W.Frag) (C : Addr) (f : Str) : Sp := fun vs H Q _ => ∃ (a : Addr) (v : V), vs = [.ref a, v] ∧ H a = some (exo a C none) ∧ ∀ dx, H dx = none → dx ≠ a → Q .non (upd (upd H dx (exd dx [(f, v)])) a (exo a C (some dx)))
def spX2 (K : PySem.W.Frag) (C : Addr) (f g : Str) : Sp := fun vs H Q _ => ∃ (a : Addr) (v w : V), vs = [.ref a, v, w] ∧ H a = some (exo a C none) ∧ ∀ dx, H dx = none → dx ≠ a → Q .non (upd (upd H dx (exd dx [(g, w), (f, v)])) a (exo a C (some dx)))
theorem upd_upd {H : Hp} {a : Addr} {o o' : HO} : upd (upd H a o) a o' = upd H a o' := by
  funext b
  by_cases h : b = a
  · rw [h, upd_same, upd_same]
  · rw [upd_ne h, upd_ne h, upd_ne h]
theorem upd_comm {H : Hp} {a b : Addr} {o u : HO} (h : a ≠ b) : upd (upd H a o) b u = upd (upd H b u) a o := by
  funext c
  by_cases h1 : c = a
  · rw [h1, upd_ne h, upd_same, upd_same]
  · by_cases h2 : c = b
    · rw [h2, upd_same, upd_ne h.symm, upd_same]
    · rw [upd_ne h2, upd_ne h1, upd_ne h1, upd_ne h2]
theorem made_heap {H1 : Hp} {a dx C : Addr} {fs : List (Str × V)} (na : H1 a = none) (ne : dx ≠ a) :
    upd (del (upd (upd (upd H1 a (exo a C none)) dx (exd dx fs)) a (exo a C (some dx))) a) dx (.xd fs) = upd H1 dx (.xd fs) := by
  funext b
  by_cases h : b = dx
  · rw [h, upd_same, upd_same]
  · rw [upd_ne h, upd_ne h]
    by_cases h2 : b = a
    · rw [h2, del_same, na]
    · rw [del_ne h2, upd_ne h2, upd_ne h, upd_ne h2]
/-- what X(e) asks behind its argument -/
theorem mk1 {K : PySem.W.Frag} {C : Addr} {f : Str} {v : V} {H1 : Hp} {Q : XK} (k : ∀ dx, H1 dx = none → Q (.ref C) (some dx) (upd H1 dx (.xd [(f, v)]))) :
    [v].length ≤ 1000 ∧ ∀ a, H1 a = none → spX1 K C f (.ref a :: ([v] ++ [])) (upd H1 a (exo a C none))
      (fun w H2 => w = .non ∧ ∃ (d : Addr) (fs : List (Str × V)), H2 a = some (exo a C (some d)) ∧ H2 d = some (exd d fs) ∧ H1 d = none ∧ Q (.ref C) (some d) (upd (del H2 a) d (.xd fs))) (fun _ _ _ => False) := by
  refine ⟨by simp, fun a na => ⟨a, v, rfl, upd_same, fun dx hdx ne => ⟨rfl, dx, _, upd_same, by rw [upd_ne ne]; exact upd_same, ?_, ?_⟩⟩⟩
  · rw [upd_ne ne] at hdx
    exact hdx
  · rw [made_heap na ne]
    refine k dx ?_
    rw [upd_ne ne] at hdx
    exact hdx
theorem mk2 {K : PySem.W.Frag} {C : Addr} {f g : Str} {v w : V} {H1 : Hp} {Q : XK} (k : ∀ dx, H1 dx = none → Q (.ref C) (some dx) (upd H1 dx (.xd [(g, w), (f, v)]))) :
    [v, w].length ≤ 1000 ∧ ∀ a, H1 a = none → spX2 K C f g (.ref a :: ([v, w] ++ [])) (upd H1 a (exo a C none))
      (fun w H2 => w = .non ∧ ∃ (d : Addr) (fs : List (Str × V)), H2 a = some (exo a C (some d)) ∧ H2 d = some (exd d fs) ∧ H1 d = none ∧ Q (.ref C) (some d) (upd (del H2 a) d (.xd fs))) (fun _ _ _ => False) := by
  refine ⟨by simp, fun a na => ⟨a, v, w, rfl, upd_same, fun dx hdx ne => ⟨rfl, dx, _, upd_same, by rw [upd_ne ne]; exact upd_same, ?_, ?_⟩⟩⟩
  · rw [upd_ne ne] at hdx
    exact hdx
  · rw [made_heap na ne]
    refine k dx ?_
    rw [upd_ne ne] at hdx
    exact hdx
section
variable {X : Cx} {P : Program} {w : World} {K : PySem.W.Frag} {mg : Str → Option Value} {base : Heap} {k : Nat} {f C : Addr} {ps : List Str} {sp : Sp} {E : XK} {x m : Str} {pos ppos apos : Pos} {e o : Expr} {es : List Expr} {ta : TE} {t : TA}
/-- X(e, ..), X an own class with its own __init__ -/
theorem pmk_oexC (O : OexC X.K C) (M : Meth X.K C "__init__" f) (G : Ok X.prog X.w X.K X.mg X.base CX0 k f ps sp) (hr : Room (k + 1) X.A) (hm : X.mg x = some (.ref C)) (ha : PA X (e :: es) t) (hg : Gl X x := by rfl) (hdb : (x == ("__debug__" : Str)) = false := by decide)
    (hst : starEach (e :: es) X.env = (false, eval e X.env) :: starEach es X.env := by rfl) (hpl : (backTo pos (starEach es X.env)).any (·.1) = false := by rfl) : PMk X (.Call (.Name x ppos) (e :: es) [] pos) (tMkO C sp [] t) := by
  obtain ⟨fd, F, b, kp, _⟩ := G.ok
  exact pmk_oex O M.at_ (beq_iff_eq.mp M.fn) F hr b .nil pass0 hg hm ha hdb hst hpl
/-- a def that may let exceptions out -/
theorem ok_ofX {qual : Str} {st : Stmt} {N : List Str} (F : FnAt K x qual st f) (S : FnScope N ps (defScope st))
    (hb : ∀ (kV doc pm : Value) (an : Option Addr) (cdv ct : Value) (us : List Value), us.length = ps.length → bindArgs (PySem.W.fnOf x qual (defArgs st) (defBody st) (defScope st) .none kV doc pm an cdv ct) ⟨us, []⟩ = pure (ps.zip us))
    (len : ∀ vs H Q E, sp vs H Q E → vs.length = ps.length)
    (hbody : ∀ (cdv : Value) (A : Around) (outer : List Env) (s : Shared) (H : Hp) (vs : List V) (Q : VK) (E : XK), Room k (A.deeper (envOfC qual (defScope st) s.heap.objs.size f cdv)) → sp vs H Q E →
      ∃ t, PSs (cxOf (L2.CX P w) P w K mg base N qual (defScope st) f cdv A outer s H E) (defBody st) t ∧ t { nx := fun _ H' => Q .non H', rt := Q } (start N vs) H) : Ok P w K mg base (L2.CX P w) (k + 1) f ps sp := by
  obtain ⟨fd, F⟩ := F
  exact ⟨fd, F.ok S len hbody, F.bindsN hb, F.kp, let ⟨oc, od, _, _, _, _, _, _, _, osl, _, lk, _⟩ := F.ex; ⟨oc, od, osl, lk⟩⟩
/-- where no exception is let out, though a callee may raise at other arguments -/
theorem passN : Passes (L2.CX X.prog X.w) X E0 := passL
/-- in a def's body: what a callee lets out goes out -/
theorem passE {E1 : Value → Shared → Prop} (hs : X.stack = X.env :: X.outer := by rfl) (hf : X.env.frame = some X.env.locals := by rfl) (hex : X.ex = [] := by rfl)
    (hx : X.xe = fun e s' => wpAny (model X.prog X.w) X.A (leaving X.env e) (fun _ s'' => L2.CX X.prog X.w X.outer X.H_0 X.s_0 E e s'') E1 s' := by rfl) : Passes (L2.CX X.prog X.w) X E := passes_call (takes_of hs hf hex hx) fun _ _ _ _ z => z
/-- in a try's body: the wish, for all slots of the right number -/
def EW (n : Nat) (W : WX) : XK := fun cls d H => ∀ σ : L2.St, σ.length = n → W cls d σ H
theorem Takes.len {W : WX} (t : Takes X W) : Takes X (fun cls d σ H => σ.length = X.N.length → W cls d σ H) := fun u s' ⟨a, B, sI, pins, σ, H, cls, d, e, I, nb, up, sky, na, os, ag, h⟩ =>
  t u s' ⟨a, B, sI, pins, σ, H, cls, d, e, I, nb, up, sky, na, os, ag, h I.len⟩
theorem passW {W : WX} (n : Nat) (t : Takes X W) (hn : X.N.length = n := by rfl) : Passes (L2.CX X.prog X.w) X (EW n W) := passes_call (Nw.Takes.len t) fun _ _ σ _ z hl => z σ (hl.trans hn)
theorem pe_callX (G : Ok X.prog X.w X.K X.mg X.base (L2.CX X.prog X.w) k f ps sp) (hr : Room k X.A) (hm : X.mg x = some (.ref f)) (hx : Passes (L2.CX X.prog X.w) X E) (ha : PA X (e :: es) t) (hg : Gl X x := by rfl) (hdb : (x == ("__debug__" : Str)) = false := by decide)
    (hst : starEach (e :: es) X.env = (false, eval e X.env) :: starEach es X.env := by rfl) (hpl : (backTo pos (starEach es X.env)).any (·.1) = false := by rfl) : PE X (.Call (.Name x ppos) (e :: es) [] pos) (tCall sp [] E t) := by
  obtain ⟨fd, F, b, kp, _⟩ := G.ok
  exact pe_call F hr hg hm kp b .nil hx ha hdb hst hpl
theorem pe_makeX (M : Mk X.K C f) (G : Ok X.prog X.w X.K X.mg X.base (L2.CX X.prog X.w) k f ps sp) (hr : Room (k + 1) X.A) (hm : X.mg x = some (.ref C)) (hx : Passes (L2.CX X.prog X.w) X E) (ha : PA X (e :: es) t) (hg : Gl X x := by rfl) (hdb : (x == ("__debug__" : Str)) = false := by decide)
    (hst : starEach (e :: es) X.env = (false, eval e X.env) :: starEach es X.env := by rfl) (hpl : (backTo pos (starEach es X.env)).any (·.1) = false := by rfl) : PE X (.Call (.Name x ppos) (e :: es) [] pos) (tMake C sp [] E t) := by
  obtain ⟨fd, F, b, kp, _⟩ := G.ok
  exact pe_make M F hr hg hm b .nil hx ha hdb hst hpl
/-- a op b by the class's own method, which may raise -/
def rOwnX (C : Addr) (sp : Sp) (E : XK) : R2 := fun x y H Q => ∃ a b dx dy fs gs, x = .ref a ∧ y = .ref b ∧ H a = some (.ins C dx fs) ∧ H b = some (.ins C dy gs) ∧ sp [.ref a, .ref b] H (fun v H' => ∃ p, v = .ref p ∧ Q v H') E
theorem op_ownX {op : Operator} {nm : Str} (M : Meth X.K C nm f) (he : PySem.dunder op.info.2 = nm) (hc : PySem.W.selfFirst X.K C = true) (G : Ok X.prog X.w X.K X.mg X.base (L2.CX X.prog X.w) k f ps sp) (hr : Room k X.A) (hx : Passes (L2.CX X.prog X.w) X E) : OpR X (binaryOp op) (rOwnX C sp E) := by
  intro pins s σ H x y v u Q I rx ry h
  obtain ⟨fd, F, b, kp, _⟩ := G.ok
  obtain ⟨p, q, dx, dy, fs, gs, rfl, rfl, hp, hq, h⟩ := h
  cases rx
  cases ry
  obtain ⟨_, Jp, _⟩ := ins_get I.hok hp
  obtain ⟨_, Jq, _⟩ := ins_get I.hok hq
  obtain ⟨od, Jp, _⟩ := Jp.look
  obtain ⟨od', Jq, _⟩ := Jq.look
  obtain ⟨m, fr⟩ := I.fr
  refine PySem.W.binop_K fr I.ok.mod.kin Jp Jq.type hc (by rw [he]; exact M.at_) M.fn ?_
  refine wpAny_mono (run_fn (vs := [.ref p, .ref q]) (dvs := []) (ds := []) (E := E) F hr b .nil hx I (.cons rfl (.cons rfl .nil)) h) (fun v s' ⟨z, H', I', rz, r, e, k⟩ => ?_) fun _ _ z => z
  subst e
  cases rz
  exact ⟨.ref r, _, I', rfl, k⟩
end
end Nw

namespace Nw
open PySem PySem.Spec PyProof.Rows L2
/-! ### properties: the getter found through its class -/
def propAt (K : PySem.W.Frag) (C : Addr) (m : Str) : Addr := match PySem.W.findIn K (.ref C) m with
  | some (some (.ref p)) => p
  | _ => 0
def propGet (K : PySem.W.Frag) (C : Addr) (m : Str) : Addr := match PySem.W.recIn K (propAt K C m) "property" with
  | some (.ref g :: _) => g
  | _ => 0
def recB (K : PySem.W.Frag) (p g : Addr) : Bool := match PySem.W.recIn K p "property" with
  | some (.ref h :: _) => decide (h = g)
  | _ => false
def propB (K : PySem.W.Frag) (C : Addr) (m : Str) : Bool := decide (PySem.W.findIn K (.ref C) m = some (some (.ref (propAt K C m)))) && (decide (PySem.W.specialIn K (.ref (propAt K C m)) "__get__" = some (some (.builtin "property.__get__"))) &&
  (decide (PySem.W.takesIn K (.ref (propAt K C m)) = some true) && recB K (propAt K C m) (propGet K C m)))
theorem propB_ok {K : PySem.W.Frag} {C : Addr} {m : Str} (h : propB K C m = true) : PropOf K C m (propAt K C m) (propGet K C m) := by
  unfold propB at h
  simp only [Bool.and_eq_true, decide_eq_true_eq] at h
  obtain ⟨h1, h2, h3, h4⟩ := h
  refine ⟨h1, h2, h3, ?_⟩
  unfold recB at h4
  split at h4
  · rename_i g r e
    rw [← of_decide_eq_true h4]
    exact ⟨r, e⟩
  · cases h4
/-- a function by its address -/
def fnAtA (K : PySem.W.Frag) (f : Addr) : He.FnW := match K.lookup f with
  | some ⟨_, _, .func fd, _⟩ => some (fd.name, fd.qualname, fd.params, fd.body, fd.scope, fd.globals, fd.closure, fd.builtins)
  | _ => none
def fnOkA (K : PySem.W.Frag) (f : Addr) (q : Str) : Bool := PySem.W.keepIn K (.ref f) && (match K.lookup f with
  | some ⟨_, _, .func fd, _⟩ => PySem.W.codeIn K fd.code q && (He.dflB K fd.defaults [] && He.kwdB K fd.kwdefaults [])
  | _ => false)
theorem funD_at {K : PySem.W.Frag} {f : Addr} {d : He.DefD} (e : fnAtA K f = d.val) (c : fnOkA K f d.qual = true) : ∃ fd, FunD K d.name d.qual d.params d.body d.scope [] [] f fd := by
  unfold fnOkA at c
  rw [Bool.and_eq_true] at c
  obtain ⟨kp, c⟩ := c
  unfold fnAtA at e
  split at e
  · rename_i oc od fd osl lk
    rw [lk] at c
    obtain ⟨a1, a2, a3, a4, a5, a6, a7, a8, a9, a10, a11, a12, a13, a14, a15⟩ := fd
    unfold He.DefD.val at e
    simp only [Option.some.injEq, Prod.mk.injEq] at e
    obtain ⟨e1, e2, e3, e4, e5, e6, e7, e8⟩ := e
    subst e1 e2 e3 e4 e5 e6 e7 e8
    simp only [Bool.and_eq_true] at c
    exact ⟨_, ⟨oc, od, a8, a9, a10, a11, a12, a13, a14, osl, rfl, lk, c.1, He.dflB_ok c.2.1, He.kwdB_ok c.2.2⟩, kp⟩
  · cases e
/-- the head's look, with the getters and the model's own statics -/
abbrev GetD : Type := (Str × Str) × He.DefD
def getAd (K : PySem.W.Frag) (g : GetD) : Addr := propGet K (He.ga K g.1.1) g.1.2
abbrev AlP : Type := (He.AlD × Bool) × (List He.FnW × Bool)
def frP (n : Nat) (g : Addr → Option Obj) : PySem.W.Frag := He.frT g (cStatics :: He.asD g n)
def obsK (fa : List He.Fa) (fn : List He.DefD) (tf : List He.Defn) (ex : PySem.W.Frag → Bool) (gs : List GetD) (g : Addr → Option Obj) (K : PySem.W.Frag) : AlP :=
  ((He.obsD fa fn K, ex K && He.tabsB g tf K), (gs.map fun d => fnAtA K (getAd K d), gs.all fun d => fnOkA K (getAd K d) d.2.qual))
def obsP (n : Nat) (fa : List He.Fa) (fn : List He.DefD) (tf : List He.Defn) (ex : PySem.W.Frag → Bool) (gs : List GetD) (g : Addr → Option Obj) : AlP := obsK fa fn tf ex gs g (frP n g)
def valP (fn : List He.DefD) (gs : List GetD) : AlP := ((He.valD fn, true), (gs.map fun d => d.2.val, true))
structure SaysP (fa : List He.Fa) (fn : List He.DefD) (tf : List He.Defn) (ex : PySem.W.Frag → Bool) (gs : List GetD) (h : Heap) (K : PySem.W.Frag) : Prop where
  d : He.SaysD fa fn K
  more : ex K = true
  hd : ∀ p ∈ tf, PySem.W.codeHdIn K (He.cT K p).1 (He.cT K p).2 = true
  out : ∀ p ∈ tf, K.lookup (He.cT K p).2 = none
  empty : ∀ p ∈ tf, h.get? (He.cT K p).2 = some { cls := .none, data := .fields #[] }
  fns : (gs.map fun d => fnAtA K (getAd K d)) = gs.map fun d => d.2.val
  oks : (gs.all fun d => fnOkA K (getAd K d) d.2.qual) = true
theorem tab_at {h : Heap} {tf : List He.Defn} {K : PySem.W.Frag} (e : He.tabsB h.get? tf K = true) : ∀ p ∈ tf, PySem.W.codeHdIn K (He.cT K p).1 (He.cT K p).2 = true ∧ ∃ o, h.get? (He.cT K p).2 = some o ∧ He.emptyTab o = true := fun p hp => by
  have z := List.all_eq_true.mp e p hp
  rw [Bool.and_eq_true] at z
  refine ⟨z.1, ?_⟩
  have z2 := z.2
  split at z2
  · rename_i o q
    exact ⟨o, q, z2⟩
  · cases z2
theorem saysP_of {n : Nat} {fa : List He.Fa} {fn : List He.DefD} {tf : List He.Defn} {ex : PySem.W.Frag → Bool} {gs : List GetD} {h : Heap} (e : obsP n fa fn tf ex gs h.get? = valP fn gs) : SaysP fa fn tf ex gs h (frP n h.get?) := by
  have e2 : (ex (frP n h.get?) && He.tabsB h.get? tf (frP n h.get?)) = true := congrArg (fun z : AlP => z.1.2) e
  rw [Bool.and_eq_true] at e2
  have tb := tab_at e2.2
  refine ⟨congrArg (fun z : AlP => z.1.1) e, e2.1, fun p hp => (tb p hp).1, fun p hp => ?_, fun p hp => ?_, congrArg (fun z : AlP => z.2.1) e, congrArg (fun z : AlP => z.2.2) e⟩
  · obtain ⟨_, o, q, z⟩ := tb p hp
    exact He.frT_none q z
  · obtain ⟨_, o, q, z⟩ := tb p hp
    rw [q, He.emptyTab_eq z]
def hookP (n : Nat) (fa : List He.Fa) (fn : List He.DefD) (tf : List He.Defn) (ex : PySem.W.Frag → Bool) (gs : List GetD) : PySem.W.Hook where
  α := AlP
  obs := fun s => obsP n fa fn tf ex gs s.heap.get?
  val := fun _ => valP fn gs
  says := fun _ h => ∃ K : PySem.W.Frag, K.In h ∧ SaysP fa fn tf ex gs h K
  of := fun _ _ e => ⟨_, He.frT_in, saysP_of e⟩
  keeps := fun _ _ _ ⟨K, hK, c⟩ k => ⟨K, PySem.W.Frag.In.keeps hK k, ⟨c.d, c.more, c.hd, c.out, fun p hp => k _ _ (c.empty p hp), c.fns, c.oks⟩⟩
theorem obsP_eq {n : Nat} {fa : List He.Fa} {fn : List He.DefD} {tf : List He.Defn} {ex : PySem.W.Frag → Bool} {gs : List GetD} {g : Addr → Option Obj} {s : Shared} (h : ∀ a, g a = s.heap.get? a) : obsP n fa fn tf ex gs g = (hookP n fa fn tf ex gs).obs s := by
  obtain rfl : g = s.heap.get? := funext h
  rfl
theorem SaysP.get {fa : List He.Fa} {fn : List He.DefD} {tf : List He.Defn} {ex : PySem.W.Frag → Bool} {gs : List GetD} {h : Heap} {K : PySem.W.Frag} (c : SaysP fa fn tf ex gs h K) (i : Nat) {d : GetD} (e : gs[i]? = some d := by rfl) :
    ∃ fd, FunD K d.2.name d.2.qual d.2.params d.2.body d.2.scope [] [] (getAd K d) fd := by
  have e2 : (gs.map fun d => fnAtA K (getAd K d))[i]? = (gs.map fun d => d.2.val)[i]? := by rw [c.fns]
  rw [List.getElem?_map, List.getElem?_map, e] at e2
  exact funD_at (Option.some.inj e2) (List.all_eq_true.mp c.oks d (List.mem_of_getElem? e))
theorem pe_propC {X : Cx} {k : Nat} {C p g : Addr} {f : Str} {ps : List Str} {sp : Sp} {e : Expr} {pos : Pos} {ta : TE} (c : Cls X.K C) (hp : PropOf X.K C f p g) (G : Ok X.prog X.w X.K X.mg X.base CX0 k g ps sp) (hr : Room (k + 1) X.A) (he : PE X e ta)
    (hab : attributeBase e f X.env (eval e X.env) = eval e X.env := by rfl) : PE X (.Attribute e f pos) (tProp C sp [] E0 ta) := by
  obtain ⟨fd, F, b, _⟩ := G.ok
  exact pe_prop he c hp F hr b .nil pass0 hab
theorem xfc {K : PySem.W.Frag} {C : Addr} (F : ExF K C) : XfC K C := ⟨F.ga, F.gt, F.sb, F.hd⟩
end Nw

namespace Nw
open PySem PySem.Spec PyProof.Rows L2
/-! ### tables of code objects beside the view -/
def noTb (I : Hp) : Prop := ∀ b ps, I b ≠ some (.tbl ps)
section
variable {T : Addr → Prop} {I H I' H' H1 : Hp} {Tb : List (Addr × Str)} {D : DA} {n m : Nat}
theorem Grow.noTb (g : Grow T I H I' H') (h : noTb I) : Nw.noTb I' := fun b ps e => h b ps (g.tbl b ps e)
theorem ext_sub (sb : Same I H) (h : noTb I) (e : LamX.ExtN H H1) : Same I H1 := fun b o q => e b o (sb b o q) fun ps z => h b ps (by rw [← z]; exact q)
theorem tabs_keep (t : LamX.Tabs Tb H) (g : Grow T I H I' H') (h : ∀ b o, H b = some o → ((∃ ps, o = .tbl ps) ∨ ∃ φ, o = .ext φ) → ¬ T b) : LamX.Tabs Tb H' := fun p hp => by
  obtain ⟨ps, h1, h2, h3⟩ := t p hp
  refine ⟨ps, g.keep _ _ (h _ _ h1 (.inl ⟨_, rfl⟩)) h1, h2, fun pos cv hc => ?_⟩
  obtain ⟨c, e1, e2⟩ := h3 pos cv hc
  exact ⟨c, e1, g.keep _ _ (h _ _ e2 (.inr ⟨_, rfl⟩)) e2⟩
/-- a state of a law that makes lambdas: its draws, its tables -/
structure LSt (Tb : List (Addr × Str)) (D : DA) (n : Nat) (I H : Hp) : Prop where
  drw : Drw D n I H
  nt : noTb I
  tabs : LamX.Tabs Tb H
theorem LSt.sub (s : LSt Tb D n I H) : Same I H := s.drw.sub
theorem LSt.grow (s : LSt Tb D n I H) (g : Grow No I H I' H') : LSt Tb D n I' H' := ⟨s.drw.grow g, g.noTb s.nt, tabs_keep s.tabs g fun _ _ _ _ z => z⟩
theorem LSt.draw (s : LSt Tb D n I H) (g : Grow (TD D) I H I' H') (d : Drw D m I' H') : LSt Tb D m I' H' := by
  obtain ⟨_, _, _, _, r, _⟩ := s.drw.ex
  refine ⟨d, g.noTb s.nt, tabs_keep s.tabs g fun b o e k t => ?_⟩
  rcases t with rfl | rfl | rfl
  · rw [r.hd] at e; cases e; rcases k with ⟨_, z⟩ | ⟨_, z⟩ <;> cases z
  · rw [r.hg] at e; cases e; rcases k with ⟨_, z⟩ | ⟨_, z⟩ <;> cases z
  · rw [r.hl] at e; cases e; rcases k with ⟨_, z⟩ | ⟨_, z⟩ <;> cases z
theorem LSt.mono (s : LSt Tb D n I H) (h : n ≤ m) : LSt Tb D m I H := ⟨s.drw.mono h, s.nt, s.tabs⟩
theorem Drw.ext (d : Drw D n I H) (h : noTb I) (e : LamX.ExtN H H1) : Drw D n I H1 := by
  obtain ⟨a, b, c, f, s, r⟩ := d.ex
  exact ⟨a, b, c, f, ⟨ext_sub s.sub h e, s.vd, s.vg, s.vl, s.dg, s.dl, s.gl, e _ _ s.hd (fun _ z => nomatch z), e _ _ s.hg (fun _ z => nomatch z), e _ _ s.hl (fun _ z => nomatch z)⟩, r⟩
theorem LSt.ext (s : LSt Tb D n I H) (e : LamX.ExtN H H1) (t : LamX.Tabs Tb H1) : LSt Tb D n I H1 := ⟨s.drw.ext s.nt e, s.nt, t⟩
end
/-! ### a def that calls what it got and tells the error -/
def EO (K : PySem.W.Frag) (CO : Addr) (Q : VK) : XK := fun cls d H => PySem.W.exmOne K cls (.ref CO) = some true ∧ ∀ a, H a = none → Q (.ref a) (upd H a (ExV cls d a))
def TTo (K : PySem.W.Frag) (CO : Addr) : (XK → Hp → VK → Prop) → Hp → VK → Prop := fun tl H Q => tl (EO K CO Q) H fun _ H2 => Q .non H2
section
variable {P : Program} {w : World} {K : PySem.W.Frag} {mg : Str → Option Value} {base : Heap} {k : Nat} {ps : List Str} {sp : Sp} {N : List Str}
/-- the law's def, its own code object told -/
theorem okd_ofL {t qual : Str} {st : Stmt} {fd : FuncData} (F : FunD K t qual (defArgs st) (defBody st) (defScope st) [] [] (He.ga K t) fd) (S : FnScope N ps (defScope st)) (len : ∀ vs H Q E, sp vs H Q E → vs.length = ps.length)
    (hbody : ∀ (cdv : Value) (A : Around) (outer : List Env) (s : Shared) (H : Hp) (vs : List V) (Q : VK) (E : XK), cdv = .ref (He.codeOf K (t, none)) → Room k (A.deeper (envOfC qual (defScope st) s.heap.objs.size (He.ga K t) cdv)) → sp vs H Q E →
      ∃ u, PSs (cxOf CX0 P w K mg base N qual (defScope st) (He.ga K t) cdv A outer s H E).nox (defBody st) u ∧ u { nx := fun _ H' => Q .non H', rt := Q } (start N vs) H) : FnOk P w K mg base CX0 (k + 1) (He.ga K t) fd ps sp := by
  obtain ⟨oc, od, dV, kV, doc, pm, an, cdv, ct, osl, e, lk, hcd, _⟩ := F.ex
  obtain ⟨c, rfl⟩ := He.codeIn_ref hcd
  have hc : He.codeOf K (t, none) = c := He.codeOf_eq (p := (t, none)) lk (by rw [e])
  rw [e] at lk ⊢
  refine fn_of lk hcd S len fun A outer s H vs Q E hr h => ?_
  obtain ⟨u, h1, h2⟩ := hbody (.ref c) A outer s H vs Q E (by rw [hc]) hr h
  exact ⟨u, h1.nox, h2⟩
theorem ok_ofL {t qual : Str} {st : Stmt} (F : FnAt K t qual st (He.ga K t)) (S : FnScope N ps (defScope st))
    (hb : ∀ (kV doc pm : Value) (an : Option Addr) (cdv ct : Value) (us : List Value), us.length = ps.length → bindArgs (PySem.W.fnOf t qual (defArgs st) (defBody st) (defScope st) .none kV doc pm an cdv ct) ⟨us, []⟩ = pure (ps.zip us))
    (len : ∀ vs H Q E, sp vs H Q E → vs.length = ps.length)
    (hbody : ∀ (cdv : Value) (A : Around) (outer : List Env) (s : Shared) (H : Hp) (vs : List V) (Q : VK) (E : XK), cdv = .ref (He.codeOf K (t, none)) → Room k (A.deeper (envOfC qual (defScope st) s.heap.objs.size (He.ga K t) cdv)) → sp vs H Q E →
      ∃ u, PSs (cxOf CX0 P w K mg base N qual (defScope st) (He.ga K t) cdv A outer s H E).nox (defBody st) u ∧ u { nx := fun _ H' => Q .non H', rt := Q } (start N vs) H) : Ok P w K mg base CX0 (k + 1) (He.ga K t) ps sp := by
  obtain ⟨fd, F⟩ := F
  exact ⟨fd, okd_ofL F S len hbody, F.bindsN hb, F.kp, let ⟨oc, od, _, _, _, _, _, _, _, osl, _, lk, _⟩ := F.ex; ⟨oc, od, osl, lk⟩⟩
end
/-- x(lambda: body) -/
theorem pe_told {X : Cx} {Tb : List (Addr × Str)} {TT : (XK → Hp → VK → Prop) → Hp → VK → Prop} {x a : Str} {g c P : Addr} {k : Nat} {st : Stmt} {Ng : List Str} {params : Arguments} {body : Expr} {scope : Scope} {t : XK → TE} {p lpos pos : Pos}
    (F : FnAt X.K x x st g) (S : FnScope Ng [a] (defScope st)) (hm : X.mg x = some (.ref g)) (hG : ∀ cdv, LamX.GivesTo X Ng x (defScope st) g cdv (defBody st) a (X.env.qual ++ "<lambda>") TT)
    (TB : LamX.TabB X.base X.mg c P) (hcode : X.env.code = .ref c) (hT : Tb = [(P, X.env.qual ++ "<lambda>")]) (hr : Room (k + 2) X.A) (L : LamX.LamS X.env.scope scope)
    (hbody : ∀ (A : Around) (outer : List Env) (s : Shared) (H : Hp) (E : XK) (f c' : Addr), Room k (A.deeper (LamX.lamEnv X scope s.heap.objs.size f c')) → PE (LamX.lamCx X A outer s H E scope f c') body (t E))
    (hdef : defaultsOf params X.env = ([], []) := by rfl)
    (hbind : ∀ (q : Str) (cl : List (Str × Addr)) (pm cv ctv : Value), bindArgs (PySem.W.kla_fn "<lambda>" q params body scope cl pm cv ctv) ⟨[], []⟩ = pure [] := by intro _ _ _ _ _; rfl)
    (hb : ∀ (kV doc pm : Value) (an : Option Addr) (cdv ct : Value) (us : List Value), us.length = 1 → bindArgs (PySem.W.fnOf x x (defArgs st) (defBody st) (defScope st) .none kV doc pm an cdv ct) ⟨us, []⟩ = pure ([a].zip us) := by intro _ _ _ _ _ _ us hl; match us, hl with | [_], _ => rfl)
    (hg : Gl X x := by rfl) (hNg : Ng[0]? = some a := by rfl) (hva : Vis (defScope st) a := by first | exact Or.inl rfl | exact Or.inr (Or.inl rfl)) (hdb : (x == ("__debug__" : Str)) = false := by decide) (hd : (a == ("__debug__" : Str)) = false := by decide) (hcd : (a == ("__classdict__" : Str)) = false := by decide) :
    PE X (.Call (.Name x p) [.Lambda params body scope lpos] [] pos) (LamX.tLam Tb TT t) := by
  obtain ⟨fd, F⟩ := F
  have B := F.bindsN (ps := [a]) hb
  obtain ⟨oc, od, dV, kV, doc, pm, an, cdv, ct, osl, e, lk, hcd', _⟩ := F.ex
  subst e
  exact LamX.pe_lamcall hg hm F.kp lk hcd' B S hNg hva (hG cdv) TB hcode (by rw [hT]; exact List.mem_singleton.mpr rfl) (fun q hq _ => by rw [hT] at hq; rw [List.mem_singleton.mp hq]) hr L hdef hbind hbody hdb hd hcd
/-- where one asks within the law's text, by places -/
theorem call_isVK {X : Cx} {K : PySem.W.Frag} (h : X.K = K) : CallR X (.builtin "isinstance") (rIsV K) := h ▸ call_isV
theorem call_isAK {X : Cx} {K : PySem.W.Frag} (h : X.K = K) : CallR X (.builtin "isinstance") (rIsA K) := h ▸ call_isA
/-! ### the end -/
def noT (H : Hp) : Hp := fun b => match H b with
  | some (.tbl _) => none
  | o => o
theorem noT_sub {H : Hp} : Same (noT H) H := fun b o e => by
  unfold noT at e
  split at e
  · cases e
  · exact e
theorem noT_tb {H : Hp} : noTb (noT H) := fun b ps e => by
  unfold noT at e
  split at e
  · cases e
  · rename_i h
    exact h ps e
theorem noT_at {H : Hp} {b : Addr} {o : HO} (e : H b = some o) (n : NTb o) : noT H b = some o := by
  unfold noT
  rw [e]
  cases o <;> first | rfl | exact absurd rfl (n _)
theorem noT_seq {K : PySem.W.Frag} {H : Hp} {a : Addr} {xs : List V} (h : SqL K H a xs) : SqL K (noT H) a xs := by
  rcases h with h | h
  · refine .inl ?_
    rcases h with h | ⟨o, h⟩
    · exact .inl (noT_at h fun _ z => nomatch z)
    · exact .inr ⟨o, noT_at h fun _ z => nomatch z⟩
  · exact .inr h
end Nw

namespace Nw
open PySem PySem.Spec PyProof.Rows L2
/-! ### any value -/
inductive Dat where
  | non | bl (b : Bool) | int (i : Int) | str (l : List Nat) | tup (xs : List Dat) | lst | dic | obj
inductive isD (K : PySem.W.Frag) (I : Hp) : V → Dat → Prop where
  | non : isD K I .non .non
  | bl (b : Bool) : isD K I (.bl b) (.bl b)
  | int (i : Int) : isD K I (.int i) (.int i)
  | str (l : List Nat) (h : l.length ≤ 100000) : isD K I (.str (mk l)) (.str l)
  | tup {a : Addr} {vs : List V} {xs : List Dat} (h : I a = some (.tup vs)) (hl : vs.length = xs.length) (hd : ∀ (i : Nat) (v : V) (x : Dat), vs[i]? = some v → xs[i]? = some x → isD K I v x) : isD K I (.ref a) (.tup xs)
  | lst {a : Addr} {vs : List V} (h : I a = some (.lst vs)) : isD K I (.ref a) .lst
  | dic {a : Addr} {kvs : List (Key × V)} (h : I a = some (.dK kvs)) : isD K I (.ref a) .dic
  | obj {a C dx : Addr} {fs : List (Str × V)} (h : I a = some (.ins C dx fs)) (F : InsF K C) (c : Cls K C) (k1 : PySem.W.kitOne K (.ref C) (.type "str") = some false) (k2 : PySem.W.kitOne K (.ref C) (.type "tuple") = some false) : isD K I (.ref a) .obj
theorem isD.up {K : PySem.W.Frag} {I I' : Hp} {v : V} {x : Dat} (h : isD K I v x) (e : Same I I') : isD K I' v x := by
  induction h with
  | non => exact .non
  | bl b => exact .bl b
  | int i => exact .int i
  | str l h => exact .str l h
  | tup h hl hd ih => exact .tup (e _ _ h) hl ih
  | lst h => exact .lst (e _ _ h)
  | dic h => exact .dic (e _ _ h)
  | obj h F c k1 k2 => exact .obj (e _ _ h) F c k1 k2
def Dat.isStr : Dat → Bool
  | .str _ => true
  | _ => false
def Dat.isTup : Dat → Bool
  | .tup _ => true
  | _ => false
theorem isD.ty {K : PySem.W.Frag} {I H : Hp} {v : V} {x : Dat} (h : isD K I v x) (sb : Same I H) : ∃ t, TyX K H v t ∧ PySem.W.kitOne K t (.type "str") = some x.isStr ∧ PySem.W.kitOne K t (.type "tuple") = some x.isTup := by
  cases h with
  | non => exact ⟨_, .base .non, (show _ = some false from kit_ty (by decide +kernel)), (show _ = some false from kit_ty (by decide +kernel))⟩
  | bl b => exact ⟨_, .base (.bl b), (show _ = some false from kit_ty (by decide +kernel)), (show _ = some false from kit_ty (by decide +kernel))⟩
  | int i => exact ⟨_, .base (.int i), (show _ = some false from kit_ty (by decide +kernel)), (show _ = some false from kit_ty (by decide +kernel))⟩
  | str l h => exact ⟨_, .base (.str _), (show _ = some true from kit_ty (by decide +kernel)), (show _ = some false from kit_ty (by decide +kernel))⟩
  | tup h hl hd => exact ⟨_, .base (.tup (sb _ _ h)), (show _ = some false from kit_ty (by decide +kernel)), (show _ = some true from kit_ty (by decide +kernel))⟩
  | lst h => exact ⟨_, .base (.lst (sb _ _ h)), (show _ = some false from kit_ty (by decide +kernel)), (show _ = some false from kit_ty (by decide +kernel))⟩
  | dic h => exact ⟨_, .base (.dK (sb _ _ h)), (show _ = some false from kit_ty (by decide +kernel)), (show _ = some false from kit_ty (by decide +kernel))⟩
  | obj h F c k1 k2 => exact ⟨_, F.ty c (sb _ _ h), k1, k2⟩
theorem isD.tup3 {K : PySem.W.Frag} {I : Hp} {v : V} {x y z : Dat} (h : isD K I v (.tup [x, y, z])) : ∃ a v1 v2 v3, v = .ref a ∧ I a = some (.tup [v1, v2, v3]) ∧ isD K I v1 x ∧ isD K I v2 y ∧ isD K I v3 z := by
  cases h with
  | @tup a vs xs h hl hd =>
    match vs, hl with
    | [v1, v2, v3], _ => exact ⟨a, v1, v2, v3, rfl, h, hd 0 _ _ rfl rfl, hd 1 _ _ rfl rfl, hd 2 _ _ rfl rfl⟩
theorem isD.mk3 {K : PySem.W.Frag} {I : Hp} {a : Addr} {v1 v2 v3 : V} {x y z : Dat} (h : I a = some (.tup [v1, v2, v3])) (h1 : isD K I v1 x) (h2 : isD K I v2 y) (h3 : isD K I v3 z) : isD K I (.ref a) (.tup [x, y, z]) :=
  .tup h rfl fun i v d e1 e2 => by
    match i, e1, e2 with
    | 0, e1, e2 => cases e1; cases e2; exact h1
    | 1, e1, e2 => cases e1; cases e2; exact h2
    | 2, e1, e2 => cases e1; cases e2; exact h3
/-! ### the head's look, with dicts of texts -/
abbrev TabD : Type := Str × List Str
abbrev AlQ : Type := AlP × List (Option (List (Option (Str × Int))))
def obsQ (n : Nat) (fa : List He.Fa) (fn : List He.DefD) (tf : List He.Defn) (ex : PySem.W.Frag → Bool) (gs : List GetD) (ts : List TabD) (g : Addr → Option Obj) : AlQ := (obsP n fa fn tf ex gs g, ts.map fun t => He.dicW (frP n g) (He.ga (frP n g) t.1))
structure SaysQ (fa : List He.Fa) (fn : List He.DefD) (tf : List He.Defn) (ex : PySem.W.Frag → Bool) (gs : List GetD) (ts : List TabD) (w : World) (h : Heap) (K : PySem.W.Frag) : Prop extends SaysP fa fn tf ex gs h K where
  dics : (ts.map fun t => He.dicW K (He.ga K t.1)) = ts.map fun t => some (He.keysIn w.params t.2)
def hookQ (n : Nat) (fa : List He.Fa) (fn : List He.DefD) (tf : List He.Defn) (ex : PySem.W.Frag → Bool) (gs : List GetD) (ts : List TabD) : PySem.W.Hook where
  α := AlQ
  obs := fun s => obsQ n fa fn tf ex gs ts s.heap.get?
  val := fun w => (valP fn gs, ts.map fun t => some (He.keysIn w.params t.2))
  says := fun w h => ∃ K : PySem.W.Frag, K.In h ∧ SaysQ fa fn tf ex gs ts w h K
  of := fun w s e => by
    have z1 : obsP n fa fn tf ex gs s.heap.get? = valP fn gs := congrArg (fun z : AlQ => z.1) e
    have z2 : (ts.map fun t => He.dicW (frP n s.heap.get?) (He.ga (frP n s.heap.get?) t.1)) = ts.map fun t => some (He.keysIn w.params t.2) := congrArg (fun z : AlQ => z.2) e
    exact ⟨_, He.frT_in, saysP_of z1, z2⟩
  keeps := fun _ _ _ ⟨K, hK, c⟩ k => ⟨K, PySem.W.Frag.In.keeps hK k, ⟨c.d, c.more, c.hd, c.out, fun p hp => k _ _ (c.empty p hp), c.fns, c.oks⟩, c.dics⟩
theorem obsQ_eq {n : Nat} {fa : List He.Fa} {fn : List He.DefD} {tf : List He.Defn} {ex : PySem.W.Frag → Bool} {gs : List GetD} {ts : List TabD} {g : Addr → Option Obj} {s : Shared} (h : ∀ a, g a = s.heap.get? a) : obsQ n fa fn tf ex gs ts g = (hookQ n fa fn tf ex gs ts).obs s := by
  obtain rfl : g = s.heap.get? := funext h
  rfl
theorem SaysQ.tab {fa : List He.Fa} {fn : List He.DefD} {tf : List He.Defn} {ex : PySem.W.Frag → Bool} {gs : List GetD} {ts : List TabD} {w : World} {h : Heap} {K : PySem.W.Frag} (c : SaysQ fa fn tf ex gs ts w h K) (i : Nat) {t : TabD} (e : ts[i]? = some t := by rfl) :
    ∃ es n, KDict K w (He.ga K t.1) es n := by
  have e2 : (ts.map fun t => He.dicW K (He.ga K t.1))[i]? = (ts.map fun t => some (He.keysIn w.params t.2))[i]? := by rw [c.dics]
  rw [List.getElem?_map, List.getElem?_map, e] at e2
  exact He.dicW_ok (Option.some.inj e2)
/-- what a written dict holds -/
theorem kdct_of {K : PySem.W.Frag} {w : World} {a : Addr} {es : Array DictEntry} {n : Nat} {kvs : List (Str × He.Dv)} (D : KDict K w a es n) (h : He.valsB K a kvs = true) {q : Str × He.Dv} (hq : q ∈ kvs) : KDct K w a q.1 (q.2.v K) := by
  obtain ⟨u, h1, h2⟩ := He.valsB_ok h hq
  exact ⟨es, n, u, D.1, D.2, h1, h2⟩
end Nw

namespace Nw
open PySem PySem.Spec PyProof.Rows L2
/-! ### texts cut and doubled -/
theorem foldl_reps : ∀ (k : Nat) (l acc : List Nat), (List.replicate k l.toArray).foldl (fun x y => x ++ y) acc.toArray = (acc ++ (List.replicate k l).flatten).toArray
  | 0, _, acc => by simp
  | k + 1, l, acc => by
    rw [List.replicate_succ, List.foldl_cons, show acc.toArray ++ l.toArray = (acc ++ l).toArray by simp, foldl_reps k l (acc ++ l), List.replicate_succ, List.flatten_cons, List.append_assoc]
/-- a text times a number -/
theorem op_mulS {X : Cx} : OpR X (binaryOp .Mult) (fun x y H Q => ∃ (l : List Nat) (k : Nat), x = .str (mk l) ∧ y = .int k ∧ 2 ≤ k ∧ k ≤ 1000 ∧ l ≠ [] ∧ l.length ≤ 1000 ∧ Q (.str (mk (List.replicate k l).flatten)) H) := by
  intro pins s σ H x y v u Q I rx ry h
  obtain ⟨l, k, rfl, rfl, h1, h2, h3, h4, q⟩ := h
  obtain ⟨t, rfl⟩ := rx
  obtain ⟨t', rfl⟩ := ry
  have hlen : (mk l).length = l.length := by simp [mk, Str.length]
  have hpos : 0 < l.length := List.length_pos_iff.mpr h3
  have hn : ¬ ((k : Int) < 1) := by omega
  have hm : l.length * k ≤ 1000 * 1000 := Nat.mul_le_mul h4 h2
  have hfl : ((List.replicate k l).flatten).length = k * l.length := by simp
  have hlt : Builtin.Str.tooLong (l.length * k) = false := by
    unfold Builtin.Str.tooLong
    exact decide_eq_false (by rw [sizeLine_eq]; omega)
  refine PySem.P.mul_str (by rw [decide_eq_false (by omega), decide_eq_false (by omega)] <;> rfl) (fun _ _ => ?_) (fun _ _ => ?_) ?_
  · rw [hlen]
    have z : (1000 : Int) ≤ (2 ^ 63 - 1) / (k : Int) := Int.le_ediv_of_mul_le (by omega) (by omega)
    omega
  · rw [hlen, Int.toNat_natCast]
    exact hlt
  · rw [if_neg hn]
    have hc : ((k : Int) == 1 || (mk l).length == 0) = false := by
      rw [hlen, Bool.or_eq_false_iff]
      exact ⟨by simp; omega, by simp; exact h3⟩
    rw [hc, if_neg Bool.false_ne_true]
    have e : (⟨(List.replicate (k : Int).toNat (mk l).cps).foldl (· ++ ·) #[]⟩ : Str) = mk (List.replicate k l).flatten := by
      rw [Int.toNat_natCast]
      have z := foldl_reps k l []
      simp only [List.nil_append] at z
      show (⟨_⟩ : Str) = ⟨_⟩
      exact congrArg Str.mk z
    rw [e]
    refine ⟨?_, ⟨.str (mk (List.replicate k l).flatten), H, I.tok _, ⟨_, rfl⟩, q⟩⟩
    show (mk (List.replicate k l).flatten).length ≤ sizeLine
    have z : (mk (List.replicate k l).flatten).length = (List.replicate k l).flatten.length := by simp [mk, Str.length]
    rw [z, hfl, sizeLine_eq, Nat.mul_comm]
    omega
theorem cutS_take (l : List Nat) (k : Nat) : cutS (mk l) none (some (k : Int)) = mk (l.take k) := by
  unfold cutS HT.sIx
  have hlen : (mk l).length = l.length := by simp [mk, Str.length]
  simp only [List.drop_zero, Nat.sub_zero, hlen]
  show Str.mk _ = Str.mk _
  congr 2
  have e : (mk l).cps.toList = l := by simp [mk]
  rw [e]
  by_cases h : k ≤ l.length
  · congr 1
    rw [if_neg (by omega)]
    omega
  · rw [List.take_of_length_le (by omega : l.length ≤ k)]
    apply List.take_of_length_le
    rw [if_neg (by omega)]
    omega
theorem cutS_drop (l : List Nat) (k : Nat) : cutS (mk l) (some (k : Int)) none = mk (l.drop k) := by
  unfold cutS HT.sIx
  have hlen : (mk l).length = l.length := by simp [mk, Str.length]
  simp only [hlen]
  show Str.mk _ = Str.mk _
  congr 2
  have e : (mk l).cps.toList = l := by simp [mk]
  rw [e]
  rw [if_neg (by omega), Int.toNat_natCast]
  by_cases h : k ≤ l.length
  · rw [Nat.min_eq_left h]
    apply List.take_of_length_le
    rw [List.length_drop]
    omega
  · rw [Nat.min_eq_right (by omega), List.drop_of_length_le (Nat.le_refl _), List.drop_of_length_le (by omega)]
    simp
end Nw

namespace Nw
open PySem PySem.Spec PyProof.Rows L2
/-! ### promises of calls that stand under no guard, so that containers can be shown -/
structure FnG (P : Program) (w : World) (K : PySem.W.Frag) (mg : Str → Option Value) (base : Heap) (CX : CXT) (k : Nat) (f : Addr) (fd : FuncData) (ps : List Str) (sp : Sp) : Prop where
  len : ∀ vs H Q E, sp vs H Q E → vs.length = ps.length
  run : ∀ (A : Around) (outer : List Env) (s : Shared) (H : Hp) (args : Args) (us : List Value) (vs : List V) (Q : VK) (E : XK), Room k A → A.guards = some [] → Env0 P w K mg base A outer s H → BindsTo s fd args (ps.zip us) → Vals vs us → sp vs H Q E →
    codeAny (model P w) A (.call (.ref f) args) (CR CX outer P w H s Q E) s
structure OkG (P : Program) (w : World) (K : PySem.W.Frag) (mg : Str → Option Value) (base : Heap) (CX : CXT) (k : Nat) (f : Addr) (ps : List Str) (sp : Sp) : Prop where
  ok : ∃ fd, FnG P w K mg base CX k f fd ps sp ∧ Binds K fd ps [] ∧ PySem.W.keepIn K (.ref f) = true
section
variable {P : Program} {w : World} {K : PySem.W.Frag} {mg : Str → Option Value} {base : Heap} {X : Cx} {CX : CXT} {k : Nat} {f : Addr} {fd : FuncData} {ps N : List Str} {sp : Sp} {x qual : Str} {st : Stmt} {pos ppos : Pos} {e : Expr} {es : List Expr} {t : TA}
theorem FnG.of (F : FnOk P w K mg base CX k f fd ps sp) : FnG P w K mg base CX k f fd ps sp := ⟨F.len, fun A outer s H args us vs Q E hr _ => F.run A outer s H args us vs Q E hr⟩
theorem Ok.toG (G : Ok P w K mg base CX k f ps sp) : OkG P w K mg base CX k f ps sp := by
  obtain ⟨fd, F, b, kp, _⟩ := G.ok
  exact ⟨fd, .of F, b, kp⟩
/-- a def's body, its own code object told -/
theorem fng_of (F : FunD K x qual (defArgs st) (defBody st) (defScope st) [] [] f fd) (S : FnScope N ps (defScope st)) (len : ∀ vs H Q E, sp vs H Q E → vs.length = ps.length)
    (hbody : ∀ (cdv : Value) (A : Around) (outer : List Env) (s : Shared) (H : Hp) (vs : List V) (Q : VK) (E : XK), Room k (A.deeper (envOfC qual (defScope st) s.heap.objs.size f cdv)) → A.guards = some [] → sp vs H Q E →
      ∃ u, PSs (cxOf CX0 P w K mg base N qual (defScope st) f cdv A outer s H E).nox (defBody st) u ∧ u { nx := fun _ H' => Q .non H', rt := Q } (start N vs) H) : FnG P w K mg base CX0 (k + 1) f fd ps sp := by
  obtain ⟨oc, od, dV, kV, doc, pm, an, cdv, ct, osl, e, lk, hcd, _⟩ := F.ex
  subst e
  refine ⟨len, fun A outer s H args us vs Q E hr hg e0 hb r hsp => ?_⟩
  refine LamX.run_ofS (N := N) (ps := ps) lk hcd S hr e0 hb r (len _ _ _ _ hsp) fun hr' => ?_
  obtain ⟨u, h1, h2⟩ := hbody cdv A outer s H vs Q E hr' hg hsp
  exact ⟨u, h1.nox, h2⟩
/-- the law's own, its code object told -/
theorem fngL_of {y : Str} (F : FunD K y qual (defArgs st) (defBody st) (defScope st) [] [] (He.ga K y) fd) (S : FnScope N ps (defScope st)) (len : ∀ vs H Q E, sp vs H Q E → vs.length = ps.length)
    (hbody : ∀ (cdv : Value) (A : Around) (outer : List Env) (s : Shared) (H : Hp) (vs : List V) (Q : VK) (E : XK), cdv = .ref (He.codeOf K (y, none)) → Room k (A.deeper (envOfC qual (defScope st) s.heap.objs.size (He.ga K y) cdv)) → A.guards = some [] → sp vs H Q E →
      ∃ u, PSs (cxOf CX0 P w K mg base N qual (defScope st) (He.ga K y) cdv A outer s H E).nox (defBody st) u ∧ u { nx := fun _ H' => Q .non H', rt := Q } (start N vs) H) : FnG P w K mg base CX0 (k + 1) (He.ga K y) fd ps sp := by
  obtain ⟨oc, od, dV, kV, doc, pm, an, cdv, ct, osl, e, lk, hcd, _⟩ := F.ex
  obtain ⟨c, rfl⟩ := He.codeIn_ref hcd
  have hc : He.codeOf K (y, none) = c := He.codeOf_eq (p := (y, none)) lk (by rw [e])
  subst e
  refine ⟨len, fun A outer s H args us vs Q E hr hg e0 hb r hsp => ?_⟩
  refine LamX.run_ofS (N := N) (ps := ps) lk hcd S hr e0 hb r (len _ _ _ _ hsp) fun hr' => ?_
  obtain ⟨u, h1, h2⟩ := hbody (.ref c) A outer s H vs Q E (by rw [hc]) hr' hg hsp
  exact ⟨u, h1.nox, h2⟩
theorem okg_of (F : FnAt K x qual st f) (S : FnScope N ps (defScope st))
    (hb : ∀ (kV doc pm : Value) (an : Option Addr) (cdv ct : Value) (us : List Value), us.length = ps.length → bindArgs (PySem.W.fnOf x qual (defArgs st) (defBody st) (defScope st) .none kV doc pm an cdv ct) ⟨us, []⟩ = pure (ps.zip us))
    (len : ∀ vs H Q E, sp vs H Q E → vs.length = ps.length)
    (hbody : ∀ (cdv : Value) (A : Around) (outer : List Env) (s : Shared) (H : Hp) (vs : List V) (Q : VK) (E : XK), Room k (A.deeper (envOfC qual (defScope st) s.heap.objs.size f cdv)) → A.guards = some [] → sp vs H Q E →
      ∃ u, PSs (cxOf CX0 P w K mg base N qual (defScope st) f cdv A outer s H E).nox (defBody st) u ∧ u { nx := fun _ H' => Q .non H', rt := Q } (start N vs) H) : OkG P w K mg base CX0 (k + 1) f ps sp := by
  obtain ⟨fd, F⟩ := F
  exact ⟨fd, fng_of F S len hbody, F.bindsN hb, F.kp⟩
/-- f(e, ..) where no guard stands -/
theorem pe_callG (hgd : X.A.guards = some []) (G : OkG X.prog X.w X.K X.mg X.base CX0 k f ps sp) (hr : Room k X.A) (hm : X.mg x = some (.ref f)) (ha : PA X (e :: es) t) (hg : Gl X x := by rfl) (hdb : (x == ("__debug__" : Str)) = false := by decide)
    (he : starEach (e :: es) X.env = (false, eval e X.env) :: starEach es X.env := by rfl) (hpl : (backTo pos (starEach es X.env)).any (·.1) = false := by rfl) : PE X (.Call (.Name x ppos) (e :: es) [] pos) (tCall sp [] E0 t) := by
  obtain ⟨fd, F, b, kp⟩ := G.ok
  refine ⟨fun pins s σ H Q I h => wpAny_Call_Name_kw (ld_glob I hg hm (PySem.W.callWith_K (h₀ := X.base) I.ok.mod.kin kp (thn (ha.run pos pins s σ H _ I h) fun us s1 ⟨vs, H1, I1, r, q⟩ => ⟨I1.kIn, ?_⟩) he hpl) hdb)⟩
  have q0 : sp (vs ++ []) H1 Q E0 := q
  have q' : sp vs H1 Q E0 := by rw [List.append_nil] at q0; exact q0
  have hl : us.length = ps.length := by rw [← r.length]; exact F.len _ _ _ _ q'
  have bt := b s1 us I1.kIn (by rw [List.append_nil]; exact hl)
  rw [List.append_nil] at bt
  refine wpAny_call (codeAny_mono (F.run X.A X.stack s1 H1 ⟨us, []⟩ us vs Q E0 hr hgd I1.env0 bt r q') fun r' s' hq => ?_)
  cases r' with
  | error e => exact (show False from hq).elim
  | ok fl =>
    cases fl with
    | ret u => exact I1.after hq
    | next => exact (show False from hq).elim
    | brk => exact (show False from hq).elim
    | cont => exact (show False from hq).elim
theorem un70 {k : Nat} {A : Around} (r : Room k A) : A.units + 70 < cLine := by have := r.un; omega
/-- repr of data at any depth -/
theorem call_reprD (hgd : X.A.guards = some []) (hu : X.A.units + 70 < cLine) : CallR X (.builtin "repr") (fun xs H Q => ∃ v d, xs = [v] ∧ Dp X.K H v d ∧ d.showable = true ∧ d.hasDict = false ∧ d.depth ≤ 64 ∧ d.shown.length ≤ sizeLine ∧ Q (.str d.shown) H) := by
  intro pins s σ H xs us Q I r h
  obtain ⟨v, d, rfl, hd, h1, h2, h3, h4, q⟩ := h
  obtain ⟨u, rfl, ru⟩ := vals1 r
  cases hd with
  | non =>
    cases ru
    exact PySem.P.repr_of_none ⟨.str _, H, I.tok _, ⟨_, rfl⟩, q⟩
  | bl b =>
    cases ru
    exact PySem.P.repr_of_bool ⟨.str _, H, I.tok _, ⟨_, rfl⟩, q⟩
  | int i =>
    obtain ⟨t, rfl⟩ := ru
    exact PySem.P.repr_of_int (of_decide_eq_true h1) ⟨.str _, H, I.tok _, ⟨_, rfl⟩, q⟩
  | str z =>
    obtain ⟨t, rfl⟩ := ru
    exact PySem.P.repr_of_str ⟨.str _, H, I.tok _, ⟨_, rfl⟩, q⟩ h4
  | @lst a xs ds hs ha =>
    have hd' : Dp X.K H (.ref a) (.list ds) := .lst hs ha
    obtain ⟨as, rd⟩ := Dp.reads I _ _ _ hd' ru
    cases ru
    exact repr_of_reads' rd h1 (fun z => by rw [h2] at z; cases z) hgd (by omega) (fun _ _ z => z) (fun h' u tk hk => ⟨.str _, H, I.kept (t' := tk) hk, ⟨_, rfl⟩, q⟩) h4
  | @tup a xs ds hs ha =>
    have hd' : Dp X.K H (.ref a) (.tuple ds) := .tup hs ha
    obtain ⟨as, rd⟩ := Dp.reads I _ _ _ hd' ru
    cases ru
    exact repr_of_reads' rd h1 (fun z => by rw [h2] at z; cases z) hgd (by omega) (fun _ _ z => z) (fun h' u tk hk => ⟨.str _, H, I.kept (t' := tk) hk, ⟨_, rfl⟩, q⟩) h4
end
end Nw

namespace Nw
open PySem PySem.Spec PyProof.Rows L2
/-! ### the end, for a law that shows containers -/
section
variable {P : Program} {w : World} {K : PySem.W.Frag} {mg mb : Str → Option Value} {k : Nat} {fa a : Addr} {fd : FuncData} {x : Str} {sp : Sp} {s₁ : Shared} {vs : List Value} {ns : List Int}
/-- what is tracked at the law's call: the script, if the module's part does not tell it -/
def scr (K : PySem.W.Frag) (a : Addr) (vs : List Value) (ns : List Int) : Hp := fun b => if b = a ∧ K.lookup a = none then some (.frz { cls := .type "list", data := .seq vs.toArray } (.lst (ns.map V.int))) else none
theorem scr_at {b : Addr} {u : HO} (h : scr K a vs ns b = some u) : b = a ∧ K.lookup a = none ∧ u = .frz { cls := .type "list", data := .seq vs.toArray } (.lst (ns.map V.int)) := by
  unfold scr at h
  split at h
  · rename_i c
    exact ⟨c.1, c.2, (Option.some.inj h).symm⟩
  · cases h
theorem scr_no {b : Addr} (h : ¬ (b = a ∧ K.lookup a = none)) : scr K a vs ns b = none := if_neg h
theorem law_callG (KX : K.In s₁.heap) (hns : s₁.heap.Ns mainGlobals mg) (hb : s₁.heap.Ns builtinsNs mb) (hbb : ∀ x : Str, x ≠ "__name__" → mb x = bootBuiltins x) (hlim : s₁.heap.NoLimit) (hg : s₁.gens = #[])
    (ha : s₁.heap.get? a = some { cls := .type "list", data := .seq vs.toArray }) (hi : IntsAre vs ns) (hl : ns.length ≤ sizeLine) (hr : Room k callerA)
    (F : ∀ base : Heap, K.In base → base.Ns mainGlobals mg → FnG P w K mg base CX0 k fa fd [x] sp) (hbind : ∀ (s : Shared) (u : Value), BindsTo s fd ⟨[u], []⟩ [(x, u)])
    (hsp : ∀ H : Hp, SqL K H a (ns.map V.int) → sp [.ref a] H (fun v _ => v = .bl true) fun _ _ _ => False) :
    codeAny (model P w) callerA (.call (.ref fa) ⟨[.ref a], []⟩) (fun r s' => r = .ok (.ret (.bool true)) ∧ OldK s₁.heap s'.heap ∧ s'.os = s₁.os ∧ AllBare s'.gens) s₁ := by
  have rv := vals_ints hi
  have lenV := hi.length
  have hS : SqL K (scr K a vs ns) a (ns.map V.int) := by
    cases hk : K.lookup a with
    | some o =>
      have e := KX a o hk
      rw [ha] at e
      cases e
      exact .inr ⟨_, vs.toArray, _, hk, rfl, rfl, rfl, by rw [List.size_toArray, lenV]; exact hl, by simpa using rv⟩
    | none => exact .inl (.inr ⟨{ cls := .type "list", data := .seq vs.toArray }, if_pos ⟨rfl, hk⟩⟩)
  have hok : HOk P w (scr K a vs ns) s₁.heap := fun b u z => by
    obtain ⟨rfl, _, rfl⟩ := scr_at z
    exact ⟨ha, by rw [List.length_map]; exact hl, vs, _, rv, ha⟩
  -- a namespace is no script
  have untr : ∀ {b : Addr} {o : Obj} {es : Array DictEntry} {ep : Nat}, s₁.heap.get? b = some o → o.data = .dict es ep → scr K a vs ns b = none := fun {b o es ep} e d => by
    refine scr_no fun c => ?_
    rw [c.1, ha] at e
    cases e
    have d' : Data.seq vs.toArray _ = Data.dict es ep := d
    cases d'
  have nsK : ∀ {b : Addr} {m : Str → Option Value}, s₁.heap.Ns b m → (hidT s₁.heap (scr K a vs ns)).Ns b m := fun {b m} ⟨o, es, ep, e, d, r⟩ => ⟨o, es, ep, hidT_get e (untr e d), d, r⟩
  have hKb : K.In (hidT s₁.heap (scr K a vs ns)) := fun b o e => hidT_get (KX b o e) (scr_no fun c => by rw [c.1, c.2] at e; cases e)
  have hM : Mod K mg (hidT s₁.heap (scr K a vs ns)) := ⟨hKb, nsK hns, ⟨mb, nsK hb, hbb⟩, let ⟨mc, h1, h2⟩ := hlim; ⟨mc, nsK h1, h2⟩⟩
  have e0 : Env0 P w K mg (hidT s₁.heap (scr K a vs ns)) callerA [] s₁ (scr K a vs ns) := ⟨rfl, hM, fun b o e => of_hidT e, Nat.le_of_eq (hidT_size _ _), trivial, (fun b hb => absurd (show b ∈ ([] : List Addr) from hb) (by simp)), hok, .of_eq hg⟩
  refine codeAny_mono ((F _ hKb (nsK hns)).run callerA [] s₁ _ ⟨[.ref a], []⟩ [.ref a] [.ref a] _ _ hr rfl e0 (hbind s₁ (.ref a)) (.cons rfl .nil) (hsp _ hS)) fun r s' h => ?_
  cases r with
  | error e => exact (show False from h).elim
  | ok fl =>
    cases fl with
    | next => exact (show False from h).elim
    | brk => exact (show False from h).elim
    | cont => exact (show False from h).elim
    | ret u =>
      obtain ⟨v, H', os, bare, un, hok', r', q⟩ := h
      obtain rfl : v = .bl true := q
      obtain rfl : u = Value.bool true := r'
      refine ⟨rfl, OldK.of_keep fun b o e => ?_, os, bare⟩
      cases q : scr K a vs ns b with
      | none => exact un.keep b o e q (fun z => absurd (show b ∈ ([] : List Addr) from z) (by simp)) (by simp)
      | some u =>
        obtain ⟨rfl, hk, rfl⟩ := scr_at q
        have z2 := un.frzs b _ _ q
        obtain ⟨e2, _⟩ := hok' b _ z2
        rw [ha] at e
        cases e
        exact e2
end
theorem walk_ofG {l : PySem.W.OpenLaw} {n k : Nat} {q : Program} {loose : List Str} {XP : (Str → Option Value) → Heap → Prop} {YP : World → Heap → Prop} {d : DefRec} {x : Str}
    (hn : l.most = some n) (hn2 : n ≤ sizeLine) (hdf : d.params.defaults = []) (hr : Room k callerA)
    (F : ∀ (w : World) (mg : Str → Option Value) (fa : Addr) (h : Heap), YP w h → h.Ns mainGlobals mg → mg d.name = some (.ref fa) →
      ∃ (K : PySem.W.Frag) (fd : FuncData) (sp : Sp), K.In h ∧ (∀ (s : Shared) (u : Value), BindsTo s fd ⟨[u], []⟩ [(x, u)]) ∧
        (∀ (H : Hp) (a : Addr) (ns : List Int), ns.length ≤ n → SqL K H a (ns.map V.int) → sp [.ref a] H (fun v _ => v = .bl true) fun _ _ _ => False) ∧
        ∀ base : Heap, K.In base → base.Ns mainGlobals mg → FnG l.prog w K mg base CX0 k fa fd [x] sp) :
    PySem.W.WalkO q loose XP YP l.row.toRowW d [] (fun f vs => PySem.call f vs) := by
  refine Att.attach_call hn hdf fun w s₀ s₁ mg mb fa o pm cd doc a vs ns G Y ho hd hcd hmg hobj hints hlen hg => ?_
  obtain ⟨K, fd, sp, KX, hb, hsp, hF⟩ := F w mg fa _ Y G.T.g hmg
  exact law_callG KX G.T.g G.T.b G.T.builtins G.T.nolimit hg hobj hints (Nat.le_trans hlen hn2) hr hF hb fun H hS => hsp H a ns hlen hS
end Nw

namespace Nw
open PySem PySem.Spec PyProof.Rows L2
/-! ### the same for a law that makes lambdas, too -/
section
variable {P : Program} {w : World} {K : PySem.W.Frag} {mg mb : Str → Option Value} {k : Nat} {fa a : Addr} {fd : FuncData} {x : Str} {sp : Sp} {s₁ : Shared} {vs : List Value} {ns : List Int} {cs : List (Addr × Addr)}
/-- what is tracked: the script, if the module's part does not tell it, and the tables -/
def trt (K : PySem.W.Frag) (a : Addr) (vs : List Value) (ns : List Int) (cs : List (Addr × Addr)) : Hp := fun b => if b ∈ cs.map (·.2) then some (.tbl #[]) else scr K a vs ns b
theorem trt_at {b : Addr} {u : HO} (h : trt K a vs ns cs b = some u) : (b ∈ cs.map (·.2) ∧ u = .tbl #[]) ∨ (b ∉ cs.map (·.2) ∧ scr K a vs ns b = some u) := by
  unfold trt at h
  split at h
  · rename_i c
    exact .inl ⟨c, (Option.some.inj h).symm⟩
  · rename_i c
    exact .inr ⟨c, h⟩
theorem trt_no {b : Addr} (h1 : b ∉ cs.map (·.2)) (h2 : ¬ (b = a ∧ K.lookup a = none)) : trt K a vs ns cs b = none := (if_neg h1).trans (scr_no h2)
theorem law_callGT (KX : K.In s₁.heap) (hns : s₁.heap.Ns mainGlobals mg) (hb : s₁.heap.Ns builtinsNs mb) (hbb : ∀ x : Str, x ≠ "__name__" → mb x = bootBuiltins x) (hlim : s₁.heap.NoLimit) (hg : s₁.gens = #[])
    (hT : ∀ p ∈ cs, s₁.heap.get? p.2 = some { cls := .none, data := .fields #[] }) (nT : ∀ p ∈ cs, K.lookup p.2 = none) (hh : ∀ p ∈ cs, PySem.W.codeHdIn K p.1 p.2 = true)
    (hbm : ∃ (bm : Addr) (ob : Obj), mg "__builtins__" = some (.ref bm) ∧ bm ≠ builtinsNs ∧ s₁.heap.get? bm = some ob ∧ ob.cls = .type "module" ∧ ob.dict = some builtinsNs ∧ ob.data = .plain)
    (ha : s₁.heap.get? a = some { cls := .type "list", data := .seq vs.toArray }) (hi : IntsAre vs ns) (hl : ns.length ≤ sizeLine) (hr : Room k callerA)
    (F : ∀ base : Heap, K.In base → base.Ns mainGlobals mg → (∀ p ∈ cs, LamX.TabB base mg p.1 p.2) → FnG P w K mg base CX0 k fa fd [x] sp) (hbind : ∀ (s : Shared) (u : Value), BindsTo s fd ⟨[u], []⟩ [(x, u)])
    (hsp : ∀ H : Hp, (∀ p ∈ cs, H p.2 = some (.tbl #[])) → SqL K H a (ns.map V.int) → sp [.ref a] H (fun v _ => v = .bl true) fun _ _ _ => False) :
    codeAny (model P w) callerA (.call (.ref fa) ⟨[.ref a], []⟩) (fun r s' => r = .ok (.ret (.bool true)) ∧ OldK s₁.heap s'.heap ∧ s'.os = s₁.os ∧ AllBare s'.gens) s₁ := by
  have rv := vals_ints hi
  have lenV := hi.length
  have isT : ∀ b : Addr, b ∈ cs.map (·.2) → s₁.heap.get? b = some { cls := .none, data := .fields #[] } := fun b hb => by
    obtain ⟨p, hp, e⟩ := List.mem_map.mp hb
    rw [← e]
    exact hT p hp
  have aT : a ∉ cs.map (·.2) := fun z => by
    have q := isT a z
    rw [ha] at q
    have z' : Data.seq vs.toArray _ = Data.fields #[] := congrArg Obj.data (Option.some.inj q)
    cases z'
  have hTr : ∀ p ∈ cs, trt K a vs ns cs p.2 = some (.tbl #[]) := fun p hp => if_pos (List.mem_map.mpr ⟨p, hp, rfl⟩)
  have hS : SqL K (trt K a vs ns cs) a (ns.map V.int) := by
    cases hk : K.lookup a with
    | some o =>
      have e := KX a o hk
      rw [ha] at e
      cases e
      exact .inr ⟨_, vs.toArray, _, hk, rfl, rfl, rfl, by rw [List.size_toArray, lenV]; exact hl, by simpa using rv⟩
    | none => exact .inl (.inr ⟨{ cls := .type "list", data := .seq vs.toArray }, (if_neg aT).trans (if_pos ⟨rfl, hk⟩)⟩)
  have hok : HOk P w (trt K a vs ns cs) s₁.heap := fun b u z => by
    rcases trt_at z with ⟨hm, rfl⟩ | ⟨_, z⟩
    · exact isT b hm
    · obtain ⟨rfl, _, rfl⟩ := scr_at z
      exact ⟨ha, by rw [List.length_map]; exact hl, vs, _, rv, ha⟩
  -- neither the script nor a table
  have untr : ∀ {b : Addr} {o : Obj}, s₁.heap.get? b = some o → (∀ us n, o.data ≠ .seq us n) → o.data ≠ .fields #[] → trt K a vs ns cs b = none := fun {b o} e h1 h2 =>
    trt_no (fun m => by rw [isT b m] at e; cases e; exact h2 rfl) (fun c => by rw [c.1, ha] at e; cases e; exact h1 _ _ rfl)
  have nsK : ∀ {b : Addr} {m : Str → Option Value}, s₁.heap.Ns b m → (hidT s₁.heap (trt K a vs ns cs)).Ns b m := fun {b m} ⟨o, es, ep, e, d, r⟩ => ⟨o, es, ep, hidT_get e (untr e (fun _ _ z => by rw [d] at z; cases z) fun z => by rw [d] at z; cases z), d, r⟩
  have hKb : K.In (hidT s₁.heap (trt K a vs ns cs)) := fun b o e => hidT_get (KX b o e) (trt_no (fun m => by
    obtain ⟨p, hp, ep⟩ := List.mem_map.mp m
    rw [← ep, nT p hp] at e
    cases e) fun c => by rw [c.1, c.2] at e; cases e)
  have hM : Mod K mg (hidT s₁.heap (trt K a vs ns cs)) := ⟨hKb, nsK hns, ⟨mb, nsK hb, hbb⟩, let ⟨mc, h1, h2⟩ := hlim; ⟨mc, nsK h1, h2⟩⟩
  have gNs : ∃ o es ep, s₁.heap.get? mainGlobals = some o ∧ o.data = .dict es ep := let ⟨o, es, ep, e, d, _⟩ := hns; ⟨o, es, ep, e, d⟩
  obtain ⟨og, eg, pg, g1, g2⟩ := gNs
  have TB : ∀ p ∈ cs, LamX.TabB (hidT s₁.heap (trt K a vs ns cs)) mg p.1 p.2 := fun p hp => by
    obtain ⟨bm, ob, b1, b2, b3, b4, b5, b6⟩ := hbm
    refine ⟨PySem.W.codeHd_of_K hKb (hh p hp), ⟨bm, ob, b1, b2, fun q => ?_, fun q => ?_, hidT_get b3 (untr b3 (fun _ _ z => by rw [b6] at z; cases z) fun z => by rw [b6] at z; cases z), b4, b5, b6⟩, fun q => ?_⟩
    · rw [q, g1] at b3
      cases b3
      rw [g2] at b6
      cases b6
    · rw [q, hT p hp] at b3
      cases b3
      cases b6
    · rw [q, hT p hp] at g1
      cases g1
      cases g2
  have e0 : Env0 P w K mg (hidT s₁.heap (trt K a vs ns cs)) callerA [] s₁ (trt K a vs ns cs) := ⟨rfl, hM, fun b o e => of_hidT e, Nat.le_of_eq (hidT_size _ _), trivial, (fun b hb => absurd (show b ∈ ([] : List Addr) from hb) (by simp)), hok, .of_eq hg⟩
  refine codeAny_mono ((F _ hKb (nsK hns) TB).run callerA [] s₁ _ ⟨[.ref a], []⟩ [.ref a] [.ref a] _ _ hr rfl e0 (hbind s₁ (.ref a)) (.cons rfl .nil) (hsp _ hTr hS)) fun r s' h => ?_
  cases r with
  | error e => exact (show False from h).elim
  | ok fl =>
    cases fl with
    | next => exact (show False from h).elim
    | brk => exact (show False from h).elim
    | cont => exact (show False from h).elim
    | ret u =>
      obtain ⟨v, H', os, bare, un, hok', r', q⟩ := h
      obtain rfl : v = .bl true := q
      obtain rfl : u = Value.bool true := r'
      have same : ∀ b o, b ∉ cs.map (·.2) → s₁.heap.get? b = some o → s'.heap.get? b = some o := fun b o nb e => by
        cases q : trt K a vs ns cs b with
        | none => exact un.keep b o e q (fun z => absurd (show b ∈ ([] : List Addr) from z) (by simp)) (by simp)
        | some u =>
          rcases trt_at q with ⟨m, _⟩ | ⟨_, z⟩
          · exact absurd m nb
          · obtain ⟨rfl, hk, rfl⟩ := scr_at z
            obtain ⟨e2, _⟩ := hok' b _ (un.frzs b _ _ q)
            rw [ha] at e
            cases e
            exact e2
      have grown : ∀ b, b ∈ cs.map (·.2) → ∃ more : Array Value, s'.heap.get? b = some { cls := .none, data := .fields more } ∧ ∃ p ∈ cs, p.2 = b := fun b m => by
        obtain ⟨p, hp, rfl⟩ := List.mem_map.mp m
        obtain ⟨more, z⟩ := un.tbls p.2 #[] (hTr p hp)
        exact ⟨_, hok' p.2 _ z, p, hp, rfl⟩
      refine ⟨rfl, ⟨fun b o e => ?_, fun b o e => ?_⟩, os, bare⟩
      · by_cases m : b ∈ cs.map (·.2)
        · obtain ⟨more, hm, p, hp, rfl⟩ := grown b m
          rw [hT p hp] at e
          cases e
          exact .inr (.inl ⟨((PySem.W.codeHd_of_K KX (hh p hp)).tab (hT p hp)).isCodeTable, rfl, #[], more, rfl, by rw [Array.empty_append]; exact hm⟩)
        · exact .inl (same b o m e)
      · by_cases m : b ∈ cs.map (·.2)
        · obtain ⟨more, hm, _⟩ := grown b m
          exact ⟨_, hm⟩
        · exact ⟨o, same b o m e⟩
end
theorem walk_ofGT {l : PySem.W.OpenLaw} {n k : Nat} {q : Program} {loose : List Str} {XP : (Str → Option Value) → Heap → Prop} {YP : World → Heap → Prop} {d : DefRec} {x : Str}
    (hn : l.most = some n) (hn2 : n ≤ sizeLine) (hdf : d.params.defaults = []) (hr : Room k callerA)
    (F : ∀ (w : World) (mg : Str → Option Value) (fa : Addr) (h : Heap), YP w h → h.Ns mainGlobals mg → mg d.name = some (.ref fa) →
      ∃ (K : PySem.W.Frag) (fd : FuncData) (cs : List (Addr × Addr)) (sp : Sp), K.In h ∧ (∀ p ∈ cs, h.get? p.2 = some { cls := .none, data := .fields #[] }) ∧ (∀ p ∈ cs, K.lookup p.2 = none) ∧ (∀ p ∈ cs, PySem.W.codeHdIn K p.1 p.2 = true) ∧ (∀ (s : Shared) (u : Value), BindsTo s fd ⟨[u], []⟩ [(x, u)]) ∧
        (∀ (H : Hp) (a : Addr) (ns : List Int), ns.length ≤ n → (∀ p ∈ cs, H p.2 = some (.tbl #[])) → SqL K H a (ns.map V.int) → sp [.ref a] H (fun v _ => v = .bl true) fun _ _ _ => False) ∧
        ∀ base : Heap, K.In base → base.Ns mainGlobals mg → (∀ p ∈ cs, LamX.TabB base mg p.1 p.2) → FnG l.prog w K mg base CX0 k fa fd [x] sp) :
    PySem.W.WalkO q loose XP YP l.row.toRowW d [] (fun f vs => PySem.call f vs) := by
  refine Att.attach_call hn hdf fun w s₀ s₁ mg mb fa o pm cd doc a vs ns G Y ho hd hcd hmg hobj hints hlen hg => ?_
  obtain ⟨K, fd, cs, sp, KX, hT, nT, hh, hb, hsp, hF⟩ := F w mg fa _ Y G.T.g hmg
  exact law_callGT KX G.T.g G.T.b G.T.builtins G.T.nolimit hg hT nT hh G.T.bmain hobj hints (Nat.le_trans hlen hn2) hr hF hb fun H hH hS => hsp H a ns hlen hH hS
end Nw

namespace Nw
open PySem PySem.Spec PyProof.Rows L2
theorem len_app (a b : Str) : (a ++ b).length = a.length + b.length := by
  show (a.cps ++ b.cps).size = _
  simp [Str.length]
theorem textFrom_le : ∀ (ts : List Str) (k : Nat) (acc : Str), (textFrom k acc ts).length ≤ acc.length + piled ts
  | [], k, acc => by show acc.length ≤ _; omega
  | t :: r, k, acc => by
    have h := textFrom_le r (k + 1) (acc ++ (if k > 0 then ", " else "" : String) ++ t)
    have e : (acc ++ (if k > 0 then ", " else "" : String) ++ t : Str).length ≤ acc.length + 2 + t.length := by
      rw [len_app, len_app]
      have z : ((if k > 0 then ", " else "" : String) : Str).length ≤ 2 := by split <;> decide
      omega
    show (textFrom (k + 1) _ r).length ≤ acc.length + piled (t :: r)
    have p : piled (t :: r) = t.length + 2 + piled r := rfl
    omega
theorem listText_le (ts : List Str) : (listText ts).length ≤ piled ts + 2 := by
  unfold listText
  rw [len_app]
  have h := textFrom_le ts 0 "["
  have e1 : ("[" : Str).length = 1 := by decide
  have e2 : ("]" : Str).length = 1 := by decide
  omega
theorem tupleText_le (ts : List Str) : (tupleText ts).length ≤ piled ts + 3 := by
  unfold tupleText
  rw [len_app, len_app]
  have e1 : ("(" : Str).length = 1 := by decide
  have e2 : ((if ts.length == 1 then ",)" else ")" : String) : Str).length ≤ 2 := by split <;> decide
  cases ts with
  | nil =>
    have e3 : (Str.join ", " ([] : List Str)).length = 0 := rfl
    omega
  | cons t r =>
    have h := join_length_add (t :: r) (by simp)
    omega
theorem nat_shown : ∀ i : Fin 1001, ((toString ((i.val : Nat) : Int) : String) : Str).length ≤ 4 := by decide +kernel
end Nw

namespace Nw
open PySem PySem.Spec PyProof.Rows L2
/-! ### what repr shows of data fits a line: a measure that is easily computed -/
mutual
def rm : PyData → Nat
  | .none => 4
  | .bool _ => 5
  | .int _ => 1921
  | .str x => 10 * x.length + 2
  | .list xs => rmAll xs + 2
  | .tuple xs => rmAll xs + 3
  | .dict _ => 0
def rmAll : List PyData → Nat
  | [] => 0
  | x :: xs => (rm x + 2) + rmAll xs
end
theorem strOk_lt {x : Str} (h : PyData.strOk x = true) : ∀ c ∈ x.cps.toList, c < 16 ^ 8 := fun c hc => by
  unfold PyData.strOk at h
  rw [Array.all_eq_true'] at h
  have z := of_decide_eq_true (h c (Array.mem_toList_iff.mp hc))
  omega
mutual
theorem shown_le : ∀ d : PyData, d.canLay0 = true → d.showable = true → d.shown.length ≤ rm d
  | .none, _, _ => by simp only [PyData.shown, rm]; decide
  | .bool b, _, _ => by cases b <;> simp only [PyData.shown, rm] <;> decide
  | .int i, _, h => by
    simp only [PyData.showable, decide_eq_true_eq] at h
    simp only [PyData.shown, rm]
    exact int_text_len_1921 h
  | .str x, h, _ => by
    simp only [PyData.canLay0] at h
    simp only [PyData.shown, rm]
    exact PySem.StrLaws.reprText_len x (strOk_lt h)
  | .list xs, h, k => by
    simp only [PyData.canLay0] at h
    simp only [PyData.showable] at k
    simp only [PyData.shown, rm]
    have z := shownAll_le xs h k
    have y := listText_le (PyData.shownAll xs)
    omega
  | .tuple xs, h, k => by
    simp only [PyData.canLay0] at h
    simp only [PyData.showable] at k
    simp only [PyData.shown, rm]
    have z := shownAll_le xs h k
    have y := tupleText_le (PyData.shownAll xs)
    omega
  | .dict _, h, _ => by simp [PyData.canLay0] at h
theorem shownAll_le : ∀ xs : List PyData, PyData.canLayAll0 xs = true → PyData.showableAll xs = true → piled (PyData.shownAll xs) ≤ rmAll xs
  | [], _, _ => by simp only [PyData.shownAll, rmAll]; exact Nat.le_refl _
  | x :: xs, h, k => by
    simp only [PyData.canLayAll0, Bool.and_eq_true] at h
    simp only [PyData.showableAll, Bool.and_eq_true] at k
    simp only [PyData.shownAll, rmAll, piled_cons]
    have z := shown_le x h.1 k.1
    have y := shownAll_le xs h.2 k.2
    omega
end
/-- repr shows it -/
structure Shows (d : PyData) : Prop where
  lay : d.canLay0 = true
  sh : d.showable = true
  deep : d.depth ≤ 64
  few : rm d ≤ sizeLine
theorem Shows.len {d : PyData} (s : Shows d) : d.shown.length ≤ sizeLine := Nat.le_trans (shown_le d s.lay s.sh) s.few
theorem Shows.nd {d : PyData} (s : Shows d) : d.hasDict = false := PyData.hasDict_of_canLay d s.lay
theorem rmAll_le {n : Nat} : ∀ xs : List PyData, (∀ x ∈ xs, rm x ≤ n) → rmAll xs ≤ xs.length * (n + 2)
  | [], _ => by simp [rmAll]
  | x :: xs, h => by
    have z := rmAll_le xs fun y hy => h y (List.mem_cons_of_mem _ hy)
    have y := h x (List.mem_cons_self ..)
    simp only [rmAll, List.length_cons]
    rw [Nat.add_mul]
    omega
theorem lay_all : ∀ xs : List PyData, (∀ x ∈ xs, x.canLay0 = true) → PyData.canLayAll0 xs = true
  | [], _ => rfl
  | x :: xs, h => by
    simp only [PyData.canLayAll0, Bool.and_eq_true]
    exact ⟨h x (List.mem_cons_self ..), lay_all xs fun y hy => h y (List.mem_cons_of_mem _ hy)⟩
theorem showable_all : ∀ xs : List PyData, (∀ x ∈ xs, x.showable = true) → PyData.showableAll xs = true
  | [], _ => rfl
  | x :: xs, h => by
    simp only [PyData.showableAll, Bool.and_eq_true]
    exact ⟨h x (List.mem_cons_self ..), showable_all xs fun y hy => h y (List.mem_cons_of_mem _ hy)⟩
theorem depth_all {n : Nat} : ∀ xs : List PyData, (∀ x ∈ xs, x.depth ≤ n) → PyData.depthAll xs ≤ n
  | [], _ => by simp [PyData.depthAll]
  | x :: xs, h => by
    have z := depth_all xs fun y hy => h y (List.mem_cons_of_mem _ hy)
    have y := h x (List.mem_cons_self ..)
    simp only [PyData.depthAll]
    omega
theorem showable_int {i : Int} {k : Nat} (h : i.natAbs < 2 ^ 1920) : (PyData.int i).showable = true := by
  simp only [PyData.showable, decide_eq_true_eq]
  by_cases z : i.natAbs = 0
  · rw [z]; decide
  · exact (Nat.log2_lt z).mpr h
theorem showable_nat {i : Nat} (h : i < 100000) : (PyData.int (i : Nat)).showable = true := by
  simp only [PyData.showable, decide_eq_true_eq]
  show (i : Int).natAbs.log2 < 1920
  rw [Int.natAbs_natCast]
  by_cases z : i = 0
  · rw [z]; decide
  · refine Nat.lt_of_lt_of_le ((Nat.log2_lt z).mpr (show i < 2 ^ 17 by omega)) (by decide)
section
variable {K : PySem.W.Frag} {H H' : Hp}
theorem sqL_up {a : Addr} {xs : List V} (h : SqL K H a xs) (e : Same H H') : SqL K H' a xs := h.elim (fun z => .inl (z.elim (fun q => .inl (e _ _ q)) fun ⟨o, q⟩ => .inr ⟨o, e _ _ q⟩)) .inr
theorem sqT_up {a : Addr} {xs : List V} (h : SqT K H a xs) (e : Same H H') : SqT K H' a xs := h.elim (fun z => .inl (z.elim (fun q => .inl (e _ _ q)) fun ⟨o, q⟩ => .inr ⟨o, e _ _ q⟩)) .inr
mutual
theorem dp_up (e : Same H H') : ∀ (d : PyData) (v : V), Dp K H v d → Dp K H' v d
  | .none, _, .non => .non
  | .bool b, _, .bl _ => .bl b
  | .int i, _, .int _ => .int i
  | .str x, _, .str _ => .str x
  | .list ds, _, .lst h t => .lst (sqL_up h e) (dp_upAll e ds _ t)
  | .tuple ds, _, .tup h t => .tup (sqT_up h e) (dp_upAll e ds _ t)
theorem dp_upAll (e : Same H H') : ∀ (ds : List PyData) (vs : List V), DpAll K H vs ds → DpAll K H' vs ds
  | [], _, .nil => .nil
  | d :: ds, _, .cons h t => .cons (dp_up e d _ h) (dp_upAll e ds _ t)
end
theorem Dp.up {v : V} {d : PyData} (h : Dp K H v d) (e : Same H H') : Dp K H' v d := dp_up e d v h
end
end Nw

namespace Nw
open PySem PySem.Spec PyProof.Rows L2
/-! ### any value, with what stands in lists, too; bools and ints are told apart -/
inductive Dt where
  | non | bl (b : Bool) | int (i : Int) | str (l : List Nat) | sq (t : Bool) (xs : List Dt) | dic | obj
/-- an own class that is none of these kinds -/
structure NoKit (K : PySem.W.Frag) (C : Addr) : Prop where
  str : PySem.W.kitOne K (.ref C) (.type "str") = some false
  tup : PySem.W.kitOne K (.ref C) (.type "tuple") = some false
  lst : PySem.W.kitOne K (.ref C) (.type "list") = some false
  int : PySem.W.kitOne K (.ref C) (.type "int") = some false
  bool : PySem.W.kitOne K (.ref C) (.type "bool") = some false
inductive isE (K : PySem.W.Frag) (I : Hp) : V → Dt → Prop where
  | non : isE K I .non .non
  | bl (b : Bool) : isE K I (.bl b) (.bl b)
  | int (i : Int) : isE K I (.int i) (.int i)
  | str (l : List Nat) (h : l.length ≤ 100000) : isE K I (.str (mk l)) (.str l)
  | sq {t : Bool} {a : Addr} {vs : List V} {xs : List Dt} (h : I a = some (ho t vs)) (hl : vs.length = xs.length) (hd : ∀ (i : Nat) (v : V) (x : Dt), vs[i]? = some v → xs[i]? = some x → isE K I v x) : isE K I (.ref a) (.sq t xs)
  | dic {a : Addr} {kvs : List (Key × V)} (h : I a = some (.dK kvs)) : isE K I (.ref a) .dic
  | obj {a C dx : Addr} {fs : List (Str × V)} (h : I a = some (.ins C dx fs)) (F : InsF K C) (c : Cls K C) (k : NoKit K C) : isE K I (.ref a) .obj
/-- what stands in a list or a tuple -/
structure Es (K : PySem.W.Frag) (I : Hp) (vs : List V) (xs : List Dt) : Prop where
  len : vs.length = xs.length
  at_ : ∀ (i : Nat) (v : V) (x : Dt), vs[i]? = some v → xs[i]? = some x → isE K I v x
section
variable {K : PySem.W.Frag} {I I' H : Hp} {v : V} {x : Dt}
theorem isE.up (h : isE K I v x) (e : Same I I') : isE K I' v x := by
  induction h with
  | non => exact .non
  | bl b => exact .bl b
  | int i => exact .int i
  | str l h => exact .str l h
  | sq h hl hd ih => exact .sq (e _ _ h) hl ih
  | dic h => exact .dic (e _ _ h)
  | obj h F c k => exact .obj (e _ _ h) F c k
theorem Es.up {vs : List V} {xs : List Dt} (h : Es K I vs xs) (e : Same I I') : Es K I' vs xs := ⟨h.len, fun i v x h1 h2 => (h.at_ i v x h1 h2).up e⟩
theorem Es.nil : Es K I [] [] := ⟨rfl, fun i v x h _ => by simp at h⟩
theorem Es.cons {vs : List V} {xs : List Dt} (h : isE K I v x) (t : Es K I vs xs) : Es K I (v :: vs) (x :: xs) := ⟨congrArg (· + 1) t.len, fun i u y h1 h2 => by
  match i, h1, h2 with
  | 0, h1, h2 => cases h1; cases h2; exact h
  | i + 1, h1, h2 => exact t.at_ i u y h1 h2⟩
theorem Es.app {vs ws : List V} {xs ys : List Dt} (h : Es K I vs xs) (t : Es K I ws ys) : Es K I (vs ++ ws) (xs ++ ys) := by
  induction xs generalizing vs with
  | nil =>
    cases vs with
    | nil => exact t
    | cons v vs => exact absurd h.len (by simp)
  | cons x xs ih =>
    cases vs with
    | nil => exact absurd h.len (by simp)
    | cons v vs => exact .cons (h.at_ 0 v x rfl rfl) (ih ⟨Nat.succ.inj h.len, fun i u y h1 h2 => h.at_ (i + 1) u y h1 h2⟩)
theorem Es.mem {vs : List V} {xs : List Dt} (h : Es K I vs xs) {j : Nat} (e : vs[j]? = some v) : ∃ x, xs[j]? = some x ∧ isE K I v x := by
  have hj : j < vs.length := (List.getElem?_eq_some_iff.mp e).1
  have hk : j < xs.length := by rw [← h.len]; exact hj
  exact ⟨xs[j], List.getElem?_eq_getElem hk, h.at_ j v _ e (List.getElem?_eq_getElem hk)⟩
theorem Es.get {vs : List V} {xs : List Dt} (h : Es K I vs xs) {j : Nat} (e : xs[j]? = some x) : ∃ v, vs[j]? = some v ∧ isE K I v x := by
  have hj : j < xs.length := (List.getElem?_eq_some_iff.mp e).1
  have hk : j < vs.length := by rw [h.len]; exact hj
  exact ⟨vs[j], List.getElem?_eq_getElem hk, h.at_ j _ x (List.getElem?_eq_getElem hk) e⟩
theorem Es.take {vs : List V} {xs : List Dt} (h : Es K I vs xs) (n : Nat) : Es K I (vs.take n) (xs.take n) := ⟨by rw [List.length_take, List.length_take, h.len], fun i v x h1 h2 => by
  rw [List.getElem?_take] at h1 h2
  split at h1
  · rename_i c
    rw [if_pos c] at h2
    exact h.at_ i v x h1 h2
  · cases h1⟩
theorem Es.drop {vs : List V} {xs : List Dt} (h : Es K I vs xs) (n : Nat) : Es K I (vs.drop n) (xs.drop n) := ⟨by rw [List.length_drop, List.length_drop, h.len], fun i v x h1 h2 => by
  rw [List.getElem?_drop] at h1 h2
  exact h.at_ _ v x h1 h2⟩
theorem isE.of {t : Bool} {a : Addr} {vs : List V} {xs : List Dt} (h : I a = some (ho t vs)) (e : Es K I vs xs) : isE K I (.ref a) (.sq t xs) := .sq h e.len e.at_
theorem isE.inv {t : Bool} {xs : List Dt} (h : isE K I v (.sq t xs)) : ∃ a vs, v = .ref a ∧ I a = some (ho t vs) ∧ Es K I vs xs := by
  cases h with
  | sq h hl hd => exact ⟨_, _, rfl, h, hl, hd⟩
def Dt.isStr : Dt → Bool
  | .str _ => true
  | _ => false
def Dt.isTup : Dt → Bool
  | .sq t _ => t
  | _ => false
def Dt.isLst : Dt → Bool
  | .sq t _ => !t
  | _ => false
def Dt.isInt : Dt → Bool
  | .int _ => true
  | .bl _ => true
  | _ => false
def Dt.isBool : Dt → Bool
  | .bl _ => true
  | _ => false
def Dt.isNum : Dt → Bool
  | .int _ => true
  | _ => false
structure Kits (K : PySem.W.Frag) (t : Value) (x : Dt) : Prop where
  str : PySem.W.kitOne K t (.type "str") = some x.isStr
  tup : PySem.W.kitOne K t (.type "tuple") = some x.isTup
  lst : PySem.W.kitOne K t (.type "list") = some x.isLst
  int : PySem.W.kitOne K t (.type "int") = some x.isInt
  bool : PySem.W.kitOne K t (.type "bool") = some x.isBool
theorem isE.ty (h : isE K I v x) (sb : Same I H) : ∃ t, TyX K H v t ∧ Kits K t x := by
  cases h with
  | non => exact ⟨_, .base .non, (show _ = some false from kit_ty (by decide +kernel)), (show _ = some false from kit_ty (by decide +kernel)), (show _ = some false from kit_ty (by decide +kernel)), (show _ = some false from kit_ty (by decide +kernel)), (show _ = some false from kit_ty (by decide +kernel))⟩
  | bl b => exact ⟨_, .base (.bl b), (show _ = some false from kit_ty (by decide +kernel)), (show _ = some false from kit_ty (by decide +kernel)), (show _ = some false from kit_ty (by decide +kernel)), (show _ = some true from kit_ty (by decide +kernel)), (show _ = some true from kit_ty (by decide +kernel))⟩
  | int i => exact ⟨_, .base (.int i), (show _ = some false from kit_ty (by decide +kernel)), (show _ = some false from kit_ty (by decide +kernel)), (show _ = some false from kit_ty (by decide +kernel)), (show _ = some true from kit_ty (by decide +kernel)), (show _ = some false from kit_ty (by decide +kernel))⟩
  | str l h => exact ⟨_, .base (.str _), (show _ = some true from kit_ty (by decide +kernel)), (show _ = some false from kit_ty (by decide +kernel)), (show _ = some false from kit_ty (by decide +kernel)), (show _ = some false from kit_ty (by decide +kernel)), (show _ = some false from kit_ty (by decide +kernel))⟩
  | @sq t a vs xs h hl hd =>
    cases t
    · exact ⟨_, .base (.lst (sb _ _ h)), (show _ = some false from kit_ty (by decide +kernel)), (show _ = some false from kit_ty (by decide +kernel)), (show _ = some true from kit_ty (by decide +kernel)), (show _ = some false from kit_ty (by decide +kernel)), (show _ = some false from kit_ty (by decide +kernel))⟩
    · exact ⟨_, .base (.tup (sb _ _ h)), (show _ = some false from kit_ty (by decide +kernel)), (show _ = some true from kit_ty (by decide +kernel)), (show _ = some false from kit_ty (by decide +kernel)), (show _ = some false from kit_ty (by decide +kernel)), (show _ = some false from kit_ty (by decide +kernel))⟩
  | dic h => exact ⟨_, .base (.dK (sb _ _ h)), (show _ = some false from kit_ty (by decide +kernel)), (show _ = some false from kit_ty (by decide +kernel)), (show _ = some false from kit_ty (by decide +kernel)), (show _ = some false from kit_ty (by decide +kernel)), (show _ = some false from kit_ty (by decide +kernel))⟩
  | obj h F c k => exact ⟨_, F.ty c (sb _ _ h), k.str, k.tup, k.lst, k.int, k.bool⟩
theorem Kits.seq {t : Value} (k : Kits K t x) : PySem.W.kitAny K t [.type "list", .type "tuple"] = some (x.isLst || x.isTup) := by
  cases h : x.isLst with
  | true => exact kitAny_cons (b := true) (by rw [k.lst, h]) (fun z => nomatch z) (fun _ => rfl)
  | false => exact kitAny_cons (b := false) (by rw [k.lst, h]) (fun _ => kitAny_cons (b := x.isTup) k.tup (fun z => by rw [z]; exact kitAny_nil) (fun z => z)) (fun z => nomatch z)
end
/-! ### such values as data that are shown -/
mutual
def Dt.py : Dt → PyData
  | .non => .none
  | .bl b => .bool b
  | .int i => .int i
  | .str l => .str (mk l)
  | .sq false xs => .list (Dt.pys xs)
  | .sq true xs => .tuple (Dt.pys xs)
  | .dic => .none
  | .obj => .none
def Dt.pys : List Dt → List PyData
  | [] => []
  | x :: xs => x.py :: Dt.pys xs
end
mutual
/-- no dict, no object -/
def Dt.plain : Dt → Bool
  | .dic => false
  | .obj => false
  | .sq _ xs => Dt.plains xs
  | _ => true
def Dt.plains : List Dt → Bool
  | [] => true
  | x :: xs => x.plain && Dt.plains xs
end
mutual
theorem dp_isE {K : PySem.W.Frag} {I H : Hp} (sb : Same I H) : ∀ (x : Dt) (v : V), isE K I v x → x.plain = true → Dp K H v x.py
  | .non, _, h, _ => by cases h; exact .non
  | .bl b, _, h, _ => by cases h; exact .bl b
  | .int i, _, h, _ => by cases h; exact .int i
  | .str l, _, h, _ => by cases h; exact .str _
  | .sq t xs, _, h, p => by
    obtain ⟨a, vs, rfl, ha, es⟩ := h.inv
    have z := dp_Es sb xs vs es p
    cases t
    · exact .lst (SqL.of (sb _ _ ha)) z
    · exact .tup (SqT.of (sb _ _ ha)) z
  | .dic, _, _, p => by cases p
  | .obj, _, _, p => by cases p
theorem dp_Es {K : PySem.W.Frag} {I H : Hp} (sb : Same I H) : ∀ (xs : List Dt) (vs : List V), Es K I vs xs → Dt.plains xs = true → DpAll K H vs (Dt.pys xs)
  | [], vs, h, _ => by
    cases vs with
    | nil => exact .nil
    | cons v vs => exact absurd h.len (by simp)
  | x :: xs, vs, h, p => by
    cases vs with
    | nil => exact absurd h.len (by simp)
    | cons v vs =>
      have p' : (x.plain && Dt.plains xs) = true := p
      rw [Bool.and_eq_true] at p'
      exact .cons (dp_isE sb x v (h.at_ 0 v x rfl rfl) p'.1) (dp_Es sb xs vs ⟨Nat.succ.inj h.len, fun i u y h1 h2 => h.at_ (i + 1) u y h1 h2⟩ p'.2)
end
/-! ### a guarded def that makes lambdas, its own code object told -/
theorem okgL_of {P : Program} {w : World} {K : PySem.W.Frag} {mg : Str → Option Value} {base : Heap} {k : Nat} {ps N : List Str} {sp : Sp} {t qual : Str} {st : Stmt} (F : FnAt K t qual st (He.ga K t)) (S : FnScope N ps (defScope st))
    (hb : ∀ (kV doc pm : Value) (an : Option Addr) (cdv ct : Value) (us : List Value), us.length = ps.length → bindArgs (PySem.W.fnOf t qual (defArgs st) (defBody st) (defScope st) .none kV doc pm an cdv ct) ⟨us, []⟩ = pure (ps.zip us))
    (len : ∀ vs H Q E, sp vs H Q E → vs.length = ps.length)
    (hbody : ∀ (cdv : Value) (A : Around) (outer : List Env) (s : Shared) (H : Hp) (vs : List V) (Q : VK) (E : XK), cdv = .ref (He.codeOf K (t, none)) → Room k (A.deeper (envOfC qual (defScope st) s.heap.objs.size (He.ga K t) cdv)) → A.guards = some [] → sp vs H Q E →
      ∃ u, PSs (cxOf CX0 P w K mg base N qual (defScope st) (He.ga K t) cdv A outer s H E).nox (defBody st) u ∧ u { nx := fun _ H' => Q .non H', rt := Q } (start N vs) H) : OkG P w K mg base CX0 (k + 1) (He.ga K t) ps sp := by
  obtain ⟨fd, F⟩ := F
  exact ⟨fd, fngL_of F S len hbody, F.bindsN hb, F.kp⟩
/-- two fields: one error goes out -/
def outF (C : Addr) (fs : List (Str × V)) (E : XK) (I H : Hp) : Prop := ∀ I' H' dx, Grow No I H I' H' → H' dx = some (.xd fs) → E (.ref C) (some dx) H'
theorem outF.grow {C : Addr} {fs : List (Str × V)} {E : XK} {I H I' H' : Hp} (k : outF C fs E I H) (g : Grow No I H I' H') : outF C fs E I' H' := fun I2 H2 dx g2 h => k I2 H2 dx (g.trans g2) h
end Nw

namespace Nw
open PySem PySem.Spec PyProof.Rows L2
/-! ### xs.count(y), flat values -/
def rCntV (K : PySem.W.Frag) : V → List V → Hp → VK → Prop := fun x xs H Q => ∃ (p : Addr) (ys : List V) (y : V), x = .ref p ∧ xs = [y] ∧ SqL K H p ys ∧ flatV y = true ∧ ys.all flatV = true ∧ Q (.int (ys.countP (fun z => eqV z y) : Nat)) H
theorem count_eqU {x : V} : ∀ {xs : List V} {us : List Value}, Vals xs us → xs.all flatV = true → us.countP (eqU x) = xs.countP fun y => eqV y x
  | _, _, .nil, _ => rfl
  | y :: xs, u :: us, .cons r t, f => by
    rw [List.all_cons, Bool.and_eq_true] at f
    rw [List.countP_cons, List.countP_cons, eqU_of r f.1, count_eqU t f.2]
theorem mt_countV {X : Cx} : MtR X "list.count" (rCntV X.K) := by
  intro pins s σ H x xs v us Q I rx rxs h
  obtain ⟨p, ys, y, rfl, rfl, hs, fy, fs, q⟩ := h
  cases rx
  obtain ⟨u, rfl, ru⟩ := rxs.one
  obtain ⟨its, rv, pl, hz⟩ := I.list hs
  obtain ⟨⟨cls, dd, data, sl⟩, n, ho, hc, hdn, hd⟩ := pl
  simp only at hc hd
  subst hc hd
  have at_ : ∀ {A : Around} {s' : Shared}, ∀ w ∈ its.toArray, SeqAt.EqAt A s' w u (eqU y w) := fun w hw => mem_eqAt ru fy rv fs w (by simpa using hw)
  refine call_meets PySem.F.slot_list_count ⟨_, ho, rfl⟩ PySem.F.entry_list_count (PySem.F.args_list_count_2 _ _) (SeqAt.list_countAt p its.toArray n dd sl u (eqU y)) ⟨ho, at_, ?_⟩
  have ec : its.toArray.toList.countP (eqU y) = ys.countP fun z => eqV z y := count_eqU rv fs
  refine ⟨.int (ys.countP (fun z => eqV z y) : Nat), H, I.tok _, ⟨s.toks, ?_⟩, q⟩
  show Value.int ((its.toArray.toList.countP (eqU y) : Nat) : Int) s.toks = _
  rw [ec]
/-! ### == and != of data, within a comprehension -/
theorem op_eqDK {X : Cx} {K : PySem.W.Frag} (h : X.K = K) (hu : X.A.units + 64 < cLine) : OpR X (compareOp .Eq) (rEqD K) := h ▸ op_eqD hu
theorem op_neDK {X : Cx} {K : PySem.W.Frag} (h : X.K = K) (hu : X.A.units + 64 < cLine) : OpR X (compareOp .NotEq) (rNeD K) := h ▸ op_neD hu
end Nw

namespace Nw
open PySem PySem.Spec PyProof.Rows L2
section
variable {X : Cx} {k : Nat} {f C : Addr} {fd : FuncData} {ps : List Str} {sp : Sp}
/-- the same, a tuple at the other side -/
def rOwnBT (C : Addr) (sp : Sp) (g : Bool → Bool) : R2 := fun x y H Q => ∃ a b dx fs xs, x = .ref a ∧ y = .ref b ∧ H a = some (.ins C dx fs) ∧ H b = some (.tup xs) ∧ sp [.ref a, .ref b] H (fun v H' => ∃ t, v = .bl t ∧ Q (.bl (g t)) H') E0
theorem op_own_neT (hsub : PySem.W.subIn X.K (.type "tuple") (.ref C) = some false) (M : Meth X.K C "__eq__" f) (hne : PySem.W.findIn X.K (.ref C) "__ne__" = some (some (.builtin "object.__ne__"))) (hob : PySem.W.subIn X.K (.ref C) (.type "object") = some true)
    (F : FnOk X.prog X.w X.K X.mg X.base CX0 k f fd ps sp) (hr : Room (k + 1) X.A) (hb : Binds X.K fd ps []) : OpR X (compareOp .NotEq) (rOwnBT C sp not) := by
  intro pins s σ H x y v u Q I rx ry h
  obtain ⟨a, b, dx, fs, gs, rfl, rfl, ha, hb', q⟩ := h
  cases rx
  cases ry
  obtain ⟨mA, J, _⟩ := ins_get I.hok ha
  obtain ⟨its, rv, ⟨ob, hob2, hcb, _⟩, _⟩ := I.tuple (SqT.of hb')
  obtain ⟨od, J, _⟩ := J.look
  obtain ⟨m, hF⟩ := I.fr
  have Xk := I.kIn
  show wpAny (model X.prog X.w) X.A (richCompare .NotEq (.ref a) (.ref b)) (EP X pins σ Q) X.xe s
  have r2 : Vals [V.ref a, V.ref b] [Value.ref a, Value.ref b] := .cons rfl (.cons rfl .nil)
  have e0 : Env0 X.prog X.w X.K X.mg X.base X.A.in1 X.stack s H := I.env0.in1
  have hl : (([.ref a, .ref b] : List Value) ++ []).length = ps.length := by
    have := F.len _ _ _ _ q
    simpa using this
  -- the own ==, one deeper
  have own : wpAny (model X.prog X.w) X.A.in1 (call (.ref f) [.ref a, .ref b]) (EP X pins σ (fun v H' => ∃ t, v = .bl t ∧ Q (.bl (!t)) H')) X.xe s := by
    refine wpAny_call (codeAny_mono (F.run X.A.in1 X.stack s H ⟨[.ref a, .ref b], []⟩ [.ref a, .ref b] [.ref a, .ref b] _ E0 hr.in1 e0 (by
      have := hb s [.ref a, .ref b] I.kIn hl
      simpa using this) r2 q) fun r s' hq => ?_)
    cases r with
    | error e => exact pass0 pins σ H s e s' I hq
    | ok fl =>
      cases fl with
      | ret w => exact I.after hq
      | next => exact False.elim hq
      | brk => exact False.elim hq
      | cont => exact False.elim hq
  have neq : wpAny (model X.prog X.w) X.A.in1 (Builtin.«object.__ne__» ⟨[.ref a, .ref b], []⟩) (fun fin s' => ∃ t, fin = .done (.ret (.bool t)) ∧ EP X pins σ Q (.bool t) s') X.xe s := by
    unfold Builtin.«object.__ne__»
    refine wpAny_bind (m := slotArgs "__ne__" 1 ⟨[.ref a, .ref b], []⟩) ?_
    refine (show wpAny _ _ (pure (Value.ref a, [Value.ref b])) _ _ _ from wpAny_pure ?_)
    refine wpAny_bind (wpAny_cRoomFor hr.in1.units0 ?_)
    refine wpAny_bind (PySem.W.ifBound_K Xk J M.at_ M.fn (wpAny_mono own (fun v s' hv => ?_) fun _ _ e => e))
    obtain ⟨z, H', I', rz, t, rfl, q'⟩ := hv
    cases rz
    refine wpAny_bind (wpAny_truthy_bool ?_)
    exact wpAny_pure ⟨!t, rfl, .bl (!t), H', I', rfl, q'⟩
  have one : wpAny (model X.prog X.w) X.A (tryCompare (.ref a) "__ne__" (.ref b)) (fun r s' => ∃ v, r = some v ∧ EP X pins σ Q v s') X.xe s := by
    unfold tryCompare
    refine wpAny_bind (ifBoundB_K Xk J hne slot_ne (wpAny_call (codeAny_call_builtin slot_ne.plain PySem.F.cmpEntry_ne (check_slotK Xk J PySem.F.cmpKind_ne PySem.F.cmpSplit_ne (PySem.F.cmpArgs_ne _ _) hob ?_))))
    refine wpAny_mono neq (fun fin s' hv => ?_) fun e s' z => z
    obtain ⟨t, rfl, q'⟩ := hv
    exact wpAny_pure ⟨_, rfl, q'⟩
  unfold richCompare
  simp only [oneThing_ref]
  refine wpAny_holding (wpAny_bind (wpAny_cRoomFor hr.units0 ?_))
  refine wpAny_bind (J.type.here (wpAny_bind (wpAny_typeOf_ref hob2 ?_)))
  rw [hcb]
  have ne : (Value.ref C != Value.type "tuple") = true := rfl
  simp only [ne, if_true]
  refine wpAny_bind ((PySem.W.looks_subIn Xk hsub).here ?_)
  simp only [Bool.false_eq_true, if_false]
  refine wpAny_bind (wpAny_mono one (fun r s' z => ?_) fun _ _ e => e)
  obtain ⟨v, rfl, hq⟩ := z
  exact wpAny_pure hq
end
end Nw

namespace Nw
open PySem PySem.Spec PyProof.Rows L2
def top (i : Nat) : Stmt := PySem.Challenge.pw_newsinorder_k02_ends_and_begins.main.body.getD i (.Pass ⟨0, 0, 0, 0⟩)
abbrev s_NoRides__init : Stmt := inClass (top 3) 0
abbrev n_NoRides__init : List Str := ["self", "at"]
theorem sc_NoRides__init : FnScope n_NoRides__init ["self", "at"] (defScope s_NoRides__init) := ⟨rfl, rfl, rfl, by decide +kernel, rfl, by decide +kernel, by decide +kernel⟩
abbrev s_is_number : Stmt := top 9
abbrev n_is_number : List Str := ["thing"]
theorem sc_is_number : FnScope n_is_number ["thing"] (defScope s_is_number) := ⟨rfl, rfl, rfl, by decide +kernel, rfl, by decide +kernel, by decide +kernel⟩
abbrev s_is_moment : Stmt := top 10
abbrev n_is_moment : List Str := ["thing"]
theorem sc_is_moment : FnScope n_is_moment ["thing"] (defScope s_is_moment) := ⟨rfl, rfl, rfl, by decide +kernel, rfl, by decide +kernel, by decide +kernel⟩
abbrev s_need_moment : Stmt := top 11
abbrev n_need_moment : List Str := ["moment"]
theorem sc_need_moment : FnScope n_need_moment ["moment"] (defScope s_need_moment) := ⟨rfl, rfl, rfl, by decide +kernel, rfl, by decide +kernel, by decide +kernel⟩
abbrev s_is_ride : Stmt := top 14
abbrev n_is_ride : List Str := ["thing"]
theorem sc_is_ride : FnScope n_is_ride ["thing"] (defScope s_is_ride) := ⟨rfl, rfl, rfl, by decide +kernel, rfl, by decide +kernel, by decide +kernel⟩
abbrev s_ended : Stmt := top 15
abbrev n_ended : List Str := ["rides", "moment", "found", "begin", "end"]
theorem sc_ended : FnScope n_ended ["rides", "moment"] (defScope s_ended) := ⟨rfl, rfl, rfl, by decide +kernel, rfl, by decide +kernel, by decide +kernel⟩
abbrev s_begun : Stmt := top 16
abbrev n_begun : List Str := ["rides", "moment", "found", "begin", "end"]
theorem sc_begun : FnScope n_begun ["rides", "moment"] (defScope s_begun) := ⟨rfl, rfl, rfl, by decide +kernel, rfl, by decide +kernel, by decide +kernel⟩
abbrev s_needed : Stmt := top 17
abbrev n_needed : List Str := ["rides", "ends", "begin", "end", "found", "one"]
theorem sc_needed : FnScope n_needed ["rides"] (defScope s_needed) := ⟨rfl, rfl, rfl, by decide +kernel, rfl, by decide +kernel, by decide +kernel⟩
abbrev s_Link__init : Stmt := inClass (top 19) 0
abbrev n_Link__init : List Str := ["self", "rides", "at", "ride"]
theorem sc_Link__init : FnScope n_Link__init ["self", "rides"] (defScope s_Link__init) := ⟨rfl, rfl, rfl, by decide +kernel, rfl, by decide +kernel, by decide +kernel⟩
abbrev s_Link_rides : Stmt := inClass (top 19) 1
abbrev n_Link_rides : List Str := ["self"]
theorem sc_Link_rides : FnScope n_Link_rides ["self"] (defScope s_Link_rides) := ⟨rfl, rfl, rfl, by decide +kernel, rfl, by decide +kernel, by decide +kernel⟩
abbrev s_Link_end : Stmt := inClass (top 19) 2
abbrev n_Link_end : List Str := ["self", "moment"]
theorem sc_Link_end : FnScope n_Link_end ["self", "moment"] (defScope s_Link_end) := ⟨rfl, rfl, rfl, by decide +kernel, rfl, by decide +kernel, by decide +kernel⟩
abbrev s_Link_begin : Stmt := inClass (top 19) 3
abbrev n_Link_begin : List Str := ["self", "moment"]
theorem sc_Link_begin : FnScope n_Link_begin ["self", "moment"] (defScope s_Link_begin) := ⟨rfl, rfl, rfl, by decide +kernel, rfl, by decide +kernel, by decide +kernel⟩
abbrev s_Link__eq : Stmt := inClass (top 19) 4
abbrev n_Link__eq : List Str := ["self", "other"]
theorem sc_Link__eq : FnScope n_Link__eq ["self", "other"] (defScope s_Link__eq) := ⟨rfl, rfl, rfl, by decide +kernel, rfl, by decide +kernel, by decide +kernel⟩
abbrev s_l_begun : Stmt := top 21
abbrev n_l_begun : List Str := ["_law_script", "_law_great", "_law_lump"]
theorem sc_l_begun : FnScope n_l_begun ["_law_script"] (defScope s_l_begun) := ⟨rfl, rfl, rfl, by decide +kernel, rfl, by decide +kernel, by decide +kernel⟩
abbrev s_l_next : Stmt := top 22
abbrev n_l_next : List Str := ["_law_draw", "_law_many", "_law_found", "_law_turn", "_law_lump", "_law_mixed"]
theorem sc_l_next : FnScope n_l_next ["_law_draw", "_law_many"] (defScope s_l_next) := ⟨rfl, rfl, rfl, by decide +kernel, rfl, by decide +kernel, by decide +kernel⟩
abbrev s_l_pick : Stmt := top 23
abbrev n_l_pick : List Str := ["_law_draw", "_law_some"]
theorem sc_l_pick : FnScope n_l_pick ["_law_draw", "_law_some"] (defScope s_l_pick) := ⟨rfl, rfl, rfl, by decide +kernel, rfl, by decide +kernel, by decide +kernel⟩
abbrev s_l_shuffled : Stmt := top 24
abbrev n_l_shuffled : List Str := ["_law_draw", "_law_some", "_law_left", "_law_found"]
theorem sc_l_shuffled : FnScope n_l_shuffled ["_law_draw", "_law_some"] (defScope s_l_shuffled) := ⟨rfl, rfl, rfl, by decide +kernel, rfl, by decide +kernel, by decide +kernel⟩
abbrev s_l_rides : Stmt := top 25
abbrev n_l_rides : List Str := ["_law_draw", "_law_many", "_law_wide", "_law_found", "_law_turn", "_law_begin_here"]
theorem sc_l_rides : FnScope n_l_rides ["_law_draw", "_law_many", "_law_wide"] (defScope s_l_rides) := ⟨rfl, rfl, rfl, by decide +kernel, rfl, by decide +kernel, by decide +kernel⟩
abbrev s_l_moment : Stmt := top 26
abbrev n_l_moment : List Str := ["_law_draw", "_law_wide", "_law_some", "_law_turn"]
theorem sc_l_moment : FnScope n_l_moment ["_law_draw", "_law_wide"] (defScope s_l_moment) := ⟨rfl, rfl, rfl, by decide +kernel, rfl, by decide +kernel, by decide +kernel⟩
abbrev s_l_shift : Stmt := top 27
abbrev n_l_shift : List Str := ["_law_draw"]
theorem sc_l_shift : FnScope n_l_shift ["_law_draw"] (defScope s_l_shift) := ⟨rfl, rfl, rfl, by decide +kernel, rfl, by decide +kernel, by decide +kernel⟩
abbrev s_l_put_off : Stmt := top 28
abbrev n_l_put_off : List Str := ["_law_moment_here", "_law_shift_here"]
theorem sc_l_put_off : FnScope n_l_put_off ["_law_moment_here", "_law_shift_here"] (defScope s_l_put_off) := ⟨rfl, rfl, rfl, by decide +kernel, rfl, by decide +kernel, by decide +kernel⟩
abbrev s_l_rides_off : Stmt := top 29
abbrev n_l_rides_off : List Str := ["_law_rides_here", "_law_shift_here", "_law_begin_here", "_law_end_here"]
theorem sc_l_rides_off : FnScope n_l_rides_off ["_law_rides_here", "_law_shift_here"] (defScope s_l_rides_off) := ⟨rfl, rfl, rfl, by decide +kernel, rfl, by decide +kernel, by decide +kernel⟩
abbrev s_l_end : Stmt := top 30
abbrev n_l_end : List Str := ["_law_rides_here", "_law_moment_here", "_law_ends", "_law_begin_here", "_law_end_here"]
theorem sc_l_end : FnScope n_l_end ["_law_rides_here", "_law_moment_here"] (defScope s_l_end) := ⟨rfl, rfl, rfl, by decide +kernel, rfl, by decide +kernel, by decide +kernel⟩
abbrev s_l_begin : Stmt := top 31
abbrev n_l_begin : List Str := ["_law_rides_here", "_law_moment_here", "_law_begins", "_law_begin_here", "_law_end_here"]
theorem sc_l_begin : FnScope n_l_begin ["_law_rides_here", "_law_moment_here"] (defScope s_l_begin) := ⟨rfl, rfl, rfl, by decide +kernel, rfl, by decide +kernel, by decide +kernel⟩
abbrev s_l_told : Stmt := top 32
abbrev n_l_told : List Str := ["_law_work", "_law_e", "error"]
theorem sc_l_told : FnScope n_l_told ["_law_work"] (defScope s_l_told) := ⟨rfl, rfl, rfl, by decide +kernel, rfl, by decide +kernel, by decide +kernel⟩
abbrev s_l_needed : Stmt := top 33
abbrev n_l_needed : List Str := ["_law_rides_here", "_law_found", "_law_begin_here", "_law_end_here", "_law_others", "_law_one"]
theorem sc_l_needed : FnScope n_l_needed ["_law_rides_here"] (defScope s_l_needed) := ⟨rfl, rfl, rfl, by decide +kernel, rfl, by decide +kernel, by decide +kernel⟩
abbrev s_l_right : Stmt := top 34
abbrev n_l_right : List Str := ["_law_draw", "_law_rides_here", "_law_shift_here", "_law_handed", "_law_link", "_law_turn", "_law_moment_here"]
theorem sc_l_right : FnScope n_l_right ["_law_draw", "_law_rides_here", "_law_shift_here"] (defScope s_l_right) := ⟨rfl, rfl, rfl, by decide +kernel, rfl, by decide +kernel, by decide +kernel⟩
abbrev s_law : Stmt := top 35
abbrev n_law : List Str := ["_law_script", "_law_draw", "_law_made", "_law_turn", "_law_shift_here", "_law_rides_here", "_law_one", "_law_two", "_law_far", "_law_some", "_law_odd", "_law_at", "_law_wrong", "_law_due", "_law_e", "_law_link", "_law_strange", "_law_thing", "_law_begin_here", "_law_end_here", "_law_k"]
theorem sc_law : FnScope n_law ["_law_script"] (defScope s_law) := ⟨rfl, rfl, rfl, by decide +kernel, rfl, by decide +kernel, by decide +kernel⟩
structure Txt (K : PySem.W.Frag) (mg : Str → Option Value) : Prop where
  b_abs : mg "abs" = none
  b_all : mg "all" = none
  b_bool : mg "bool" = none
  b_enumerate : mg "enumerate" = none
  b_int : mg "int" = none
  b_isinstance : mg "isinstance" = none
  b_len : mg "len" = none
  b_list : mg "list" = none
  b_property : mg "property" = none
  b_range : mg "range" = none
  b_repr : mg "repr" = none
  b_sorted : mg "sorted" = none
  b_str : mg "str" = none
  b_tuple : mg "tuple" = none
  b_ValueError : mg "ValueError" = none
  g_is_number : mg "is_number" = some (.ref (He.ga K "is_number"))
  g_is_moment : mg "is_moment" = some (.ref (He.ga K "is_moment"))
  g_need_moment : mg "need_moment" = some (.ref (He.ga K "need_moment"))
  g_is_earlier : mg "is_earlier" = some (.ref (He.ga K "is_earlier"))
  g_sooner_of : mg "sooner_of" = some (.ref (He.ga K "sooner_of"))
  g_is_ride : mg "is_ride" = some (.ref (He.ga K "is_ride"))
  g_ended : mg "ended" = some (.ref (He.ga K "ended"))
  g_begun : mg "begun" = some (.ref (He.ga K "begun"))
  g_needed : mg "needed" = some (.ref (He.ga K "needed"))
  g_link_by : mg "link_by" = some (.ref (He.ga K "link_by"))
  g__law_begun : mg "_law_begun" = some (.ref (He.ga K "_law_begun"))
  g__law_next : mg "_law_next" = some (.ref (He.ga K "_law_next"))
  g__law_pick : mg "_law_pick" = some (.ref (He.ga K "_law_pick"))
  g__law_shuffled : mg "_law_shuffled" = some (.ref (He.ga K "_law_shuffled"))
  g__law_rides : mg "_law_rides" = some (.ref (He.ga K "_law_rides"))
  g__law_moment : mg "_law_moment" = some (.ref (He.ga K "_law_moment"))
  g__law_shift : mg "_law_shift" = some (.ref (He.ga K "_law_shift"))
  g__law_put_off : mg "_law_put_off" = some (.ref (He.ga K "_law_put_off"))
  g__law_rides_off : mg "_law_rides_off" = some (.ref (He.ga K "_law_rides_off"))
  g__law_end : mg "_law_end" = some (.ref (He.ga K "_law_end"))
  g__law_begin : mg "_law_begin" = some (.ref (He.ga K "_law_begin"))
  g__law_told : mg "_law_told" = some (.ref (He.ga K "_law_told"))
  g__law_needed : mg "_law_needed" = some (.ref (He.ga K "_law_needed"))
  g__law_right : mg "_law_right" = some (.ref (He.ga K "_law_right"))
  g_law : mg "law" = some (.ref (He.ga K "law"))
  g_OrderError : mg "OrderError" = some (.ref (He.ga K "OrderError"))
  g_NoMoment : mg "NoMoment" = some (.ref (He.ga K "NoMoment"))
  xp_NoMoment : PySem.W.excIn K (He.ga K "NoMoment") He.veBase "ValueError.__new__" = true ∧ PySem.W.keepIn K (.ref (He.ga K "NoMoment")) = true ∧ PySem.W.subIn K (.ref (He.ga K "NoMoment")) (.type "BaseException") = some true ∧ PySem.W.typeIn K (.ref (He.ga K "NoMoment")) = some (.type "type")
  g_NoRides : mg "NoRides" = some (.ref (He.ga K "NoRides"))
  m_NoRides___init__ : Meth K (He.ga K "NoRides") "__init__" (He.ma K (He.ga K "NoRides") "__init__")
  na_NoRides_at : NoAttr K (He.ga K "NoRides") "at"
  g_TooMany : mg "TooMany" = some (.ref (He.ga K "TooMany"))
  g_Link : mg "Link" = some (.ref (He.ga K "Link"))
  cl_Link : Cls K (He.ga K "Link")
  mk_Link : Mk K (He.ga K "Link") (He.ma K (He.ga K "Link") "__init__")
  m_Link_end : Meth K (He.ga K "Link") "end" (He.ma K (He.ga K "Link") "end")
  m_Link_begin : Meth K (He.ga K "Link") "begin" (He.ma K (He.ga K "Link") "begin")
  m_Link___eq__ : Meth K (He.ga K "Link") "__eq__" (He.ma K (He.ga K "Link") "__eq__")
  m_Link___mul__ : Meth K (He.ga K "Link") "__mul__" (He.ma K (He.ga K "Link") "__mul__")
  m_Link___or__ : Meth K (He.ga K "Link") "__or__" (He.ma K (He.ga K "Link") "__or__")
  m_Link___and__ : Meth K (He.ga K "Link") "__and__" (He.ma K (He.ga K "Link") "__and__")
  m_Link___invert__ : Meth K (He.ga K "Link") "__invert__" (He.ma K (He.ga K "Link") "__invert__")
  m_Link___le__ : Meth K (He.ga K "Link") "__le__" (He.ma K (He.ga K "Link") "__le__")
  na_Link_own_rides : NoAttr K (He.ga K "Link") "own_rides"
  c_FIRST : ∃ t, mg "FIRST" = some (.str "first" t)
  c_LAST : ∃ t, mg "LAST" = some (.str "last" t)
  c_MOST_RIDES : ∃ t, mg "MOST_RIDES" = some (.int 60 t)
  em_NoRides_OrderError : PySem.W.exmOne K (.ref (He.ga K "NoRides")) (.ref (He.ga K "OrderError")) = some true
  em_NoMoment_OrderError : PySem.W.exmOne K (.ref (He.ga K "NoMoment")) (.ref (He.ga K "OrderError")) = some true
  is_Link : InsF K (He.ga K "Link")
  sf_Link : PySem.W.selfFirst K (He.ga K "Link") = true
  ne_Link : PySem.W.findIn K (.ref (He.ga K "Link")) "__ne__" = some (some (.builtin "object.__ne__"))
  ob_Link : PySem.W.subIn K (.ref (He.ga K "Link")) (.type "object") = some true
  nt_Link : PySem.W.subIn K (.type "tuple") (.ref (He.ga K "Link")) = some false
  kt_Link : PySem.W.kitOne K (.type "tuple") (.ref (He.ga K "Link")) = some false
  xf_NoRides : ExF K (He.ga K "NoRides")
  xf_NoMoment : ExF K (He.ga K "NoMoment")
  nf_NoRides_at : PySem.W.findIn K (.ref (He.ga K "NoRides")) "at" = some none
  xo_NoRides : OexC K (He.ga K "NoRides")
  oe : OeI K (He.ga K "OrderError")
  ki_Link_str : PySem.W.kitOne K (.ref (He.ga K "Link")) (.type "str") = some false
  ki_Link_tuple : PySem.W.kitOne K (.ref (He.ga K "Link")) (.type "tuple") = some false
  ki_Link_list : PySem.W.kitOne K (.ref (He.ga K "Link")) (.type "list") = some false
  ki_Link_int : PySem.W.kitOne K (.ref (He.ga K "Link")) (.type "int") = some false
  ki_Link_bool : PySem.W.kitOne K (.ref (He.ga K "Link")) (.type "bool") = some false
  p_Link_rides : PropOf K (He.ga K "Link") "rides" (propAt K (He.ga K "Link") "rides") (propGet K (He.ga K "Link") "rides")
end Nw

namespace Nw
open PySem PySem.Spec PyProof.Rows L2
section
variable {P : Program} {w : World} {K : PySem.W.Frag} {mg : Str → Option Value} {base : Heap}
theorem nn_mul {x y : Int} (hx : 0 ≤ x) (hy : 0 ≤ y) : 0 ≤ x * y := Int.mul_nonneg hx hy
theorem pow3_nn {x : Int} (h : 0 ≤ x) (n : Nat) : 0 ≤ x ^ n := Int.pow_nonneg h
theorem ok_l_next (T : Txt K mg) (F : FnAt K "_law_next" "_law_next" s_l_next (He.ga K "_law_next")) : Ok P w K mg base CX0 1 (He.ga K "_law_next") ["_law_draw", "_law_many"] spNext := by
  refine ok_of F sc_l_next (fun _ _ _ _ _ _ us hl => match us, hl with | [_, _], _ => rfl) (fun vs H Q E h => ?_) (fun cdv A outer s H vs Q E hr h => ?_)
  · obtain ⟨_, _, _, _, rfl, _⟩ := h
    rfl
  · obtain ⟨I, D, n, many, rfl, hD, hm0, hm1, hn, k⟩ := h
    refine ⟨_, pss_mid (ps_while PassesOwn.never (PW.pt (pw_and (pt_cmpR op_eq (pe_dget (hu_of hr) (pv 0) pe_str (fun _ _ => rfl)) pe_int (nomark _)) (pw_and1 (pt_cmpR (op_neNil hr.units) (pe_dget (hu_of hr) (pv 0) pe_str (fun _ _ => rfl)) (pe_lst pa_nil) (nomark _))))) (pss_one (ps_dput (hu_of hr) (pv 0) pe_str (pe_bm PySem.F.plainAttrs_list PySem.F.slot_list_pop PySem.F.type_list_pop mt_popAt (pe_dget (hu_of hr) (pv 0) pe_str (fun _ _ => rfl)) (pa_cons pe_int pa_nil)) rfl)))
      (pss_cons (ps_if (pt_cmpR op_gt (pe_dget (hu_of hr) (pv 0) pe_str (fun _ _ => rfl)) pe_int (nomark _)) (pss_cons (ps_set (i := 2) sc_l_next.nd rfl (Or.inl rfl) (pe_op op_mod (pe_callTy call_int1 (by rfl) T.b_int (by decide +kernel) (pa_cons (pe_dget (hu_of hr) (pv 0) pe_str (fun _ _ => rfl)) pa_nil)) (pv 1)))
      (pss_cons (ps_dput (hu_of hr) (pv 0) pe_str (pe_op op_fdiv (pe_dget (hu_of hr) (pv 0) pe_str (fun _ _ => rfl)) (pv 1)) rfl)
      (pss_one (ps_ret (pv 2))))) pss_nil)
      (pss_cons (ps_daug (hu_of hr) (pv 0) pe_str pe_int in_add (fun _ _ _ => rfl))
      (pss_cons (ps_set (i := 3) sc_l_next.nd rfl (Or.inl rfl) (pe_dget (hu_of hr) (pv 0) pe_str (fun _ _ => rfl)))
      (pss_cons (ps_set (i := 4) sc_l_next.nd rfl (Or.inl rfl) pe_int)
      (pss_mid (ps_if (pt_cmpR (op_neNil hr.units) (pe_dget (hu_of hr) (pv 0) pe_str (fun _ _ => rfl)) (pe_lst pa_nil) (nomark _)) (pss_one (ps_set (i := 4) sc_l_next.nd rfl (Or.inl rfl) (pe_ix ix_list (pe_dget (hu_of hr) (pv 0) pe_str (fun _ _ => rfl)) (pe_op op_mod (pe_callTy call_int1 (by rfl) T.b_int (by decide +kernel) (pa_cons (pv 3) pa_nil)) (pe_callB call_len_seq (by rfl) T.b_len (by decide +kernel) (pa_cons (pe_dget (hu_of hr) (pv 0) pe_str (fun _ _ => rfl)) pa_nil))) (fun _ _ => rfl)))) pss_nil)
      (pss_cons (ps_set (i := 5) sc_l_next.nd rfl (Or.inl rfl) (pe_op op_mod (pe_callTy call_int1 (by rfl) T.b_int (by decide +kernel) (pa_cons (pe_op op_pow (pe_op op_add (pe_op op_mod (pe_callTy call_int1 (by rfl) T.b_int (by decide +kernel) (pa_cons (pv 4) pa_nil)) pe_int) (pe_op op_mul pe_int (pv 3))) pe_int) pa_nil)) pe_int))
      (pss_one (ps_ret (pe_op op_mod (pe_callTy call_int1 (by rfl) T.b_int (by decide +kernel) (pa_cons (pe_op op_fdiv (pe_op op_mod (pe_callTy call_int1 (by rfl) T.b_int (by decide +kernel) (pa_cons (pe_op op_pow (pe_op op_add (pv 5) (pe_op op_mul pe_int (pv 3))) pe_int) pa_nil)) pe_int) pe_int) pa_nil)) (pv 1)))))))))), ?_⟩
    obtain ⟨dig0, tn, gs0, ls, s0, hd0, ht0, htn, hg0, hl0⟩ := hD.ex
    -- the while: the rest of the great numbers falls
    refine ⟨fun σ H2 => ∃ (dig : Int) (gs : List Int), σ = [some (.ref D.d), some (.int many), none, none, none, none] ∧ DrS D dig tn gs ls I H2 ∧ 0 ≤ dig ∧ (∀ g ∈ gs, 0 ≤ g) ∧ Grow (TD D) I H I H2, ?_, ?_⟩
    · refine ⟨fun m σ H' => ∃ (dig : Int) (gs : List Int), m = gs.length ∧ σ = [some (.ref D.d), some (.int many), none, none, none, none] ∧ DrS D dig tn gs ls I H' ∧ 0 ≤ dig ∧ (∀ g ∈ gs, 0 ≤ g) ∧ Grow (TD D) I H I H',
        ⟨_, dig0, gs0, rfl, rfl, s0, hd0, hg0, Grow.refl s0.sub⟩, ?_⟩
      rintro m σ H1 ⟨dig, gs, rfl, rfl, s1, hd1, hg1, G1⟩
      refine ⟨_, rfl, D.d, _, rfl, s1.get_dig, rfl, _, rfl, ?_⟩
      by_cases c : dig = 0
      · subst c
        rw [decide_eq_true rfl]
        refine iteT ⟨_, rfl, D.d, _, rfl, s1.get_great, by decide, fun p hp => ⟨D.g, p, _, rfl, rfl, SqL.of (by rw [upd_ne (ne_of_none s1.hg hp)]; exact s1.hg), SqL.of upd_same, _, rfl, ?_⟩⟩
        have G2 : Grow (TD D) I H I (upd H1 p (.lst [])) := G1.trans (Grow.mine G1.sub hp)
        have s2 : DrS D 0 tn gs ls I (upd H1 p (.lst [])) := s1.put (fun t => s1.live p t hp) (G1.sub.free hp)
        cases gs with
        | nil => exact ⟨0, [], rfl, s2, hd1, hg1, G2⟩
        | cons g r =>
          refine ⟨fun σ' H' => ∃ (dig : Int), σ' = [some (.ref D.d), some (.int many), none, none, none, none] ∧ DrS D dig tn r ls I H' ∧ 0 ≤ dig ∧ (∀ g ∈ r, 0 ≤ g) ∧ Grow (TD D) I H I H', fun σ' H' ⟨dig, e, a⟩ => ⟨r.length, Nat.lt_succ_self _, dig, r, rfl, e, a⟩, ?_⟩
          refine ⟨_, rfl, D.d, _, rfl, s2.get_great, .inl ⟨rfl, _, SqL.of s2.hg⟩, D.g, _, 0, 0, _, rfl, rfl, s2.hg, by decide, by decide, by simp [seqIndex?], rfl, ?_⟩
          have G3 := s2.gg (o := .lst (r.map V.int)) G2
          have s3 : DrS D 0 tn r ls I (upd (upd H1 p (.lst [])) D.g (.lst (r.map V.int))) := s2.up G3.sub (by rw [upd_ne s1.dg]; exact s2.hd) upd_same (by rw [upd_ne s1.gl.symm]; exact s2.hl)
          refine ⟨_, rfl, D.d, _, rfl, s3.put_dig, g, rfl, ?_, hg1 g (List.mem_cons_self ..), fun x hx => hg1 x (List.mem_cons_of_mem _ hx), s3.gd G3⟩
          exact s3.up (s3.gd G3).sub upd_same (by rw [upd_ne s1.dg.symm]; exact s3.hg) (by rw [upd_ne s1.dl.symm]; exact s3.hl)
      · rw [decide_eq_false (fun z => c (V.int.inj z))]
        exact iteF ⟨dig, gs, rfl, s1, hd1, hg1, G1⟩
    · rintro σ H1 ⟨dig, gs, rfl, s1, hd1, hg1, G1⟩
      refine ⟨_, rfl, D.d, _, rfl, s1.get_dig, _, _, rfl, rfl, _, rfl, ?_⟩
      by_cases c : 0 < dig
      · rw [decide_eq_true c]
        refine iteT ⟨_, rfl, D.d, _, rfl, s1.get_dig, .inl ⟨_, rfl, _, rfl, _, _, rfl, rfl, hm0, ?_⟩⟩
        refine ⟨_, rfl, D.d, _, rfl, s1.get_dig, _, rfl, _, _, rfl, rfl, ⟨hm0, hm1⟩, _, rfl, D.d, _, rfl, s1.put_dig, _, rfl, ?_⟩
        refine k _ _ (Int.emod_nonneg _ (Int.ne_of_gt hm0)) (Int.emod_lt_of_pos _ hm0) (s1.gd G1) ⟨dig / many, tn, gs, ls, ?_, Int.ediv_nonneg hd1 (Int.le_of_lt hm0), ht0, by omega, hg1, hl0⟩
        exact s1.up (s1.gd G1).sub upd_same (by rw [upd_ne s1.dg.symm]; exact s1.hg) (by rw [upd_ne s1.dl.symm]; exact s1.hl)
      · rw [decide_eq_false c]
        refine iteF ?_
        -- the turn
        have G2 := s1.gd (o := .dK (drK D dig (tn + 1))) G1
        have s2 : DrS D dig (tn + 1) gs ls I (upd H1 D.d (.dK (drK D dig (tn + 1)))) := s1.up G2.sub upd_same (by rw [upd_ne s1.dg.symm]; exact s1.hg) (by rw [upd_ne s1.dl.symm]; exact s1.hl)
        refine ⟨_, rfl, D.d, _, rfl, s1.get_turn, _, _, rfl, rfl, _, s1.put_turn, ?_⟩
        refine ⟨_, rfl, D.d, _, rfl, s2.get_turn, ?_⟩
        -- a lump
        have ht1 : 0 ≤ tn + 1 := by omega
        refine ⟨fun σ H2 => ∃ (lump : Int), σ = [some (.ref D.d), some (.int many), none, some (.int (tn + 1)), some (.int lump), none] ∧ 0 ≤ lump ∧ DrS D dig (tn + 1) gs ls I H2 ∧ Grow (TD D) I H I H2, ?_, ?_⟩
        · refine ⟨_, rfl, D.d, _, rfl, s2.get_lumps, by decide, fun p hp => ⟨D.l, p, _, rfl, rfl, SqL.of (by rw [upd_ne (ne_of_none s2.hl hp)]; exact s2.hl), SqL.of upd_same, _, rfl, ?_⟩⟩
          have G3 : Grow (TD D) I H I (upd (upd H1 D.d (.dK (drK D dig (tn + 1)))) p (.lst [])) := G2.trans (Grow.mine G2.sub hp)
          have s3 : DrS D dig (tn + 1) gs ls I (upd (upd H1 D.d (.dK (drK D dig (tn + 1)))) p (.lst [])) := s2.put (fun t => s2.live p t hp) (G2.sub.free hp)
          cases ls with
          | nil => exact ⟨0, rfl, Int.le_refl 0, s3, G3⟩
          | cons l0 lr =>
            have hpos : (0 : Int) < ((List.map V.int (l0 :: lr)).length : Int) := by simp only [List.map_cons, List.length_cons]; omega
            have hi0 := Int.emod_nonneg (tn + 1) (Int.ne_of_gt hpos)
            have hi1 := Int.emod_lt_of_pos (tn + 1) hpos
            have hlt : ((tn + 1) % ((List.map V.int (l0 :: lr)).length : Int)).toNat < (l0 :: lr).length := by
              have e : (List.map V.int (l0 :: lr)).length = (l0 :: lr).length := List.length_map ..
              rw [e] at hi0 hi1 ⊢
              omega
            refine ⟨_, rfl, D.d, _, rfl, s3.get_lumps, _, rfl, .inl ⟨_, rfl, _, rfl, D.d, _, rfl, s3.get_lumps, D.l, _, rfl, .inl (SqL.of s3.hl), ?_⟩⟩
            refine ⟨_, _, rfl, rfl, hpos, D.l, _, _, .int ((l0 :: lr)[((tn + 1) % ((List.map V.int (l0 :: lr)).length : Int)).toNat]'hlt), rfl, rfl, SqL.of s3.hl, ?_, ?_⟩
            · have e : (tn + 1) % ((List.map V.int (l0 :: lr)).length : Int) = (((tn + 1) % ((List.map V.int (l0 :: lr)).length : Int)).toNat : Int) := (Int.toNat_of_nonneg hi0).symm
              refine at_of e ?_
              rw [List.getElem?_map, List.getElem?_eq_getElem hlt]
              rfl
            · exact ⟨_, rfl, hl0 _ (List.getElem_mem hlt), s3, G3⟩
        · rintro σ H2 ⟨lump, rfl, hlump, s3, G3⟩
          have hb : tn + 1 ≤ 1099511627776 := by
            have q : n < 1099511627776 := hn
            omega
          have m0 := Int.emod_nonneg lump (show (2147483629 : Int) ≠ 0 by decide)
          have m1 := Int.emod_lt_of_pos lump (show (0 : Int) < 2147483629 by decide)
          refine ⟨_, rfl, .inl ⟨_, rfl, _, _, rfl, rfl, (by show (0 : Int) < 2147483629; decide), _, rfl, _, _, rfl, rfl, .inl ⟨by decide, by decide⟩, ?_⟩⟩
          refine ⟨_, _, rfl, rfl, _, _, rfl, rfl, ⟨by decide, by decide, ?_⟩, .inl ⟨_, rfl, _, _, rfl, rfl, (by show (0 : Int) < 2147483647; decide), ?_⟩⟩
          · omega
          have q0 : (0 : Int) ≤ (lump % 2147483629 + 40009 * (tn + 1)) ^ (3 : Int).toNat % 2147483647 := Int.emod_nonneg _ (by decide)
          have q1 : (lump % 2147483629 + 40009 * (tn + 1)) ^ (3 : Int).toNat % 2147483647 < 2147483647 := Int.emod_lt_of_pos _ (by decide)
          revert q0 q1
          generalize (lump % 2147483629 + 40009 * (tn + 1)) ^ (3 : Int).toNat % 2147483647 = mixed
          intro q0 q1
          refine ⟨_, rfl, _, rfl, _, _, rfl, rfl, .inl ⟨by decide, by decide⟩, ?_⟩
          refine ⟨_, _, rfl, rfl, _, _, rfl, rfl, ⟨by decide, by decide, by omega⟩, .inl ⟨_, rfl, _, _, rfl, rfl, (by show (0 : Int) < 2147483629; decide), _, _, rfl, rfl, ⟨by decide, by decide⟩, .inl ⟨_, rfl, ?_⟩⟩⟩
          refine ⟨_, rfl, _, _, rfl, rfl, hm0, ?_⟩
          exact k _ _ (Int.emod_nonneg _ (Int.ne_of_gt hm0)) (Int.emod_lt_of_pos _ hm0) G3 ⟨dig, tn + 1, gs, ls, s3, hd1, ht1, by omega, hg1, hl0⟩

theorem getI0 {ns : List Int} {i : Nat} {v : V} (h : (ns.map V.int)[i]? = some v) : ∃ k, ns[i]? = some k ∧ v = .int k := by
  rw [List.getElem?_map] at h
  cases e : ns[i]? with
  | none => rw [e] at h; cases h
  | some k => rw [e] at h; exact ⟨k, rfl, (Option.some.inj h).symm⟩
/-- the source of draws of a script -/
def spBegun (K : PySem.W.Frag) : Sp := fun vs H Q _ => ∃ (I : Hp) (a : Addr) (ns : List Int), vs = [.ref a] ∧ Same I H ∧ SqL K I a (ns.map V.int) ∧ ns.length ≤ 63 ∧
  ∀ (D : DA) (I' H' : Hp), Grow No I H I' H' → Drw D 0 I' H' → Q (.ref D.d) H'
theorem abs_nn (i : Int) : 0 ≤ (if i < 0 then -i else i) := by split <;> omega
theorem ok_l_begun (T : Txt K mg) (F : FnAt K "_law_begun" "_law_begun" s_l_begun (He.ga K "_law_begun")) : Ok P w K mg base CX0 1 (He.ga K "_law_begun") ["_law_script"] (spBegun K) := by
  refine ok_of F sc_l_begun (fun _ _ _ _ _ _ us hl => match us, hl with | [_], _ => rfl) (fun vs H Q E h => ?_) (fun cdv A outer s H vs Q E hr h => ?_)
  · obtain ⟨_, _, _, rfl, _⟩ := h
    rfl
  · obtain ⟨I, a, ns, rfl, sb, hS, hl, k⟩ := h
    refine ⟨_, (pss_cons (ps_setLc (i := 1) (own := [("_law_lump", 2)]) (g := (gName 2)) rfl sc_l_begun.nd rfl rfl (sw_true rfl rfl rfl (by decide +kernel)) (pi_list (pv 0)) (blkOk_by (own := [("_law_lump", 2)]) (N := n_l_begun) (sc := defScope s_l_begun) (by decide +kernel)) (fun _ _ _ _ _ => (pg_name (i := 2) sc_l_begun.nd rfl (Or.inl rfl))) (fun _ _ _ _ _ => (pts_one (pt_cmpR op_ge (pe_callB call_abs (by rfl) T.b_abs (by decide +kernel) (pa_cons (pv 2) pa_nil)) (pe_op op_pow pe_int pe_int) (nomark _)))) (fun _ _ _ _ _ => (pe_op op_fdivW (pe_callB call_abs (by rfl) T.b_abs (by decide +kernel) (pa_cons (pv 2) pa_nil)) (pe_op op_pow pe_int pe_int))))
      (pss_one (ps_ret (pe_disp (pps_cons pe_str pe_int (pps_cons pe_str (pv 1) (pps_cons pe_str (pe_lc (own := [("_law_lump", 2)]) (g := (gName 2)) rfl sc_l_begun.nd (pi_list (pv 0)) (blkOk_by (own := [("_law_lump", 2)]) (N := n_l_begun) (sc := defScope s_l_begun) (by decide +kernel)) (fun _ _ _ _ _ => (pg_name (i := 2) sc_l_begun.nd rfl (Or.inl rfl))) (fun _ _ _ _ _ => pts_nil) (fun _ _ _ _ _ => (pe_op op_mod (pe_callTy call_int1 (by rfl) T.b_int (by decide +kernel) (pa_cons (pe_callB call_abs (by rfl) T.b_abs (by decide +kernel) (pa_cons (pv 2) pa_nil)) pa_nil)) (pe_op op_pow pe_int pe_int)))) (pps_cons pe_str pe_int pps_nil)))) (by rfl) (by rfl) (fun z => by cases z) (by decide))))), ?_⟩
    have hS1 : SqL K H a (ns.map V.int) := sb.seq hS
    refine ⟨_, rfl, a, rfl, ⟨_, hS1⟩, fun L hL => ?_⟩
    refine lc_gen (T := No) (I := I) (β := Int) (walk_list (K := K) (a := a) (xs := ns.map V.int)) (fun _ _ _ => True) (fun _ => Stable.triv) sb (fun _ z => z.elim) hL trivial (by rw [List.length_map]; omega) (fun i I' H' g _ => g.same.seq hS1)
      (fun _ o => ∀ y, o = some y → 0 ≤ y) ?_ ?_
    · rintro i x I' H' H'' hi g _ ⟨rfl, hx⟩ Kn Ky kn ky
      obtain ⟨z, hz, rfl⟩ := getI0 hx
      refine ⟨rfl, _, rfl, _, rfl, _, _, rfl, rfl, ⟨by decide, by decide, by decide⟩, _, _, rfl, rfl, _, rfl, ?_⟩
      refine ite2 (fun _ => ?_) (fun _ => kn (fun y e => nomatch e) I' H'' (Grow.refl g.sub) trivial)
      refine ⟨_, rfl, _, rfl, _, _, rfl, rfl, ⟨by decide, by decide, by decide⟩, _, _, rfl, rfl, ⟨by decide, by decide⟩, ?_⟩
      exact ky _ (fun y e => by cases e; exact Int.ediv_nonneg (abs_nn z) (by decide)) _ I' H'' (Grow.refl g.sub) trivial rfl
    · intro os I1 H1 vs' hlen hP g1 _ ow hp
      have hg : ∀ z ∈ os.filterMap id, (0 : Int) ≤ z := fun z hz => by
        obtain ⟨o, ho, e⟩ := List.mem_filterMap.mp hz
        obtain ⟨j, hj, e2⟩ := List.mem_iff_getElem.mp ho
        exact hP j o (by rw [List.getElem?_eq_getElem hj, e2]) z e
      have e1 := Paired.ints hp
      subst e1
      -- the dict, with the second list made within its display
      intro p hp1
      have G2 := g1.trans (Grow.mine (o := .dK []) g1.sub hp1)
      have ow2 := ow.grow (Grow.mine (T := No) (o := .dK []) g1.sub hp1)
      have op : Own No H p (.dK []) I1 (upd H1 p (.dK [])) := Own.new g1.sub (.inr g1.live) (fun _ z => z.elim) hp1
      have npL : p ≠ L := (ne_of_none ow.at_ hp1).symm
      refine ⟨_, rfl, _, rfl, a, rfl, ⟨_, G2.same.seq hS1⟩, fun M hM => ?_⟩
      refine lc_gen (T := No) (I := I1) (β := Int) (walk_list (K := K) (a := a) (xs := ns.map V.int)) (fun _ _ _ => True) (fun _ => Stable.triv) G2.sub (fun _ z => z.elim) hM trivial (by rw [List.length_map]; omega) (fun i I' H' g _ => g.same.seq (G2.same.seq hS1))
        (fun _ o => ∀ y, o = some y → 0 ≤ y) ?_ ?_
      · rintro i x I' H' H'' hi g _ ⟨rfl, hx⟩ Kn Ky kn ky
        obtain ⟨z, hz, rfl⟩ := getI0 hx
        refine ⟨rfl, lc_yes ?_⟩
        refine ⟨_, rfl, _, rfl, .inl ⟨_, rfl, _, _, rfl, rfl, ⟨by decide, by decide, by decide⟩, _, _, rfl, rfl, (by show (0 : Int) < 10 ^ Int.toNat 18; decide), ?_⟩⟩
        exact ky _ (fun y e => by cases e; exact Int.emod_nonneg _ (by decide)) _ I' H'' (Grow.refl g.sub) trivial rfl
      · intro os2 I2 H2 vs2 hlen2 hP2 g2 _ owM hp2
        have hl2 : ∀ z ∈ os2.filterMap id, (0 : Int) ≤ z := fun z hz => by
          obtain ⟨o, ho, e⟩ := List.mem_filterMap.mp hz
          obtain ⟨j, hj, e2⟩ := List.mem_iff_getElem.mp ho
          exact hP2 j o (by rw [List.getElem?_eq_getElem hj, e2]) z e
        have e2 := Paired.ints hp2
        subst e2
        have ow3 := ow2.grow g2
        have op3 := op.grow g2
        have nML : M ≠ L := (ne_of_none ow2.at_ hM).symm
        have nMp : M ≠ p := (ne_of_none op.at_ hM).symm
        refine ⟨op3.at_, [(.inr "digits", .int 0), (.inr "great", .ref L), (.inr "lumps", .ref M), (.inr "turn", .int 0)], rfl, (by show 4 ≤ 15; decide), ?_⟩
        have em : mergeK [] [((.inr "digits" : Key), V.int 0), ((.inr "great" : Key), V.ref L), ((.inr "lumps" : Key), V.ref M), ((.inr "turn" : Key), V.int 0)] = drK ⟨p, L, M⟩ 0 0 := merge_nodup (show ([(.inr "digits" : Key), .inr "great", .inr "lumps", .inr "turn"]).Nodup by decide +kernel)
        rw [em]
        have opg : Own No H p (.dK []) I2 H2 := op3
        have G4 : Grow No I H I2 (upd H2 p (.dK (drK ⟨p, L, M⟩ 0 0))) := (G2.trans g2).put opg
        refine k ⟨p, L, M⟩ I2 _ G4 ⟨0, 0, _, _, ⟨?_, ?_, ?_, ?_, npL, nMp.symm, nML.symm, upd_same, by rw [upd_ne npL.symm]; exact ow3.at_, by rw [upd_ne nMp]; exact owM.at_⟩, Int.le_refl 0, Int.le_refl 0, Int.le_refl 0, hg, hl2⟩
        · exact G4.sub
        · exact op3.ni
        · exact ow3.ni
        · exact owM.ni
end
end Nw

namespace Nw
open PySem PySem.Spec PyProof.Rows L2
/-! ### moments -/
inductive Mom where
  | first
  | num (t : Int)
  | last
  deriving DecidableEq
def Mom.v : Mom → V
  | .first => .str "first"
  | .num t => .int t
  | .last => .str "last"
theorem fl_ne : ¬ (("first" : Str) = "last") := by decide +kernel
theorem Mom.v_inj : ∀ {a b : Mom}, a.v = b.v → a = b
  | .first, .first, _ => rfl
  | .last, .last, _ => rfl
  | .num t, .num u, h => by rw [V.int.inj h]
  | .first, .last, h => absurd (V.str.inj h) fl_ne
  | .last, .first, h => absurd (V.str.inj h).symm fl_ne
  | .first, .num _, h => nomatch h
  | .last, .num _, h => nomatch h
  | .num _, .first, h => nomatch h
  | .num _, .last, h => nomatch h
theorem Mom.eqv (a b : Mom) : decide (a.v = b.v) = decide (a = b) := by
  by_cases h : a = b
  · subst h; rw [decide_eq_true rfl, decide_eq_true rfl]
  · rw [decide_eq_false h, decide_eq_false fun z => h (Mom.v_inj z)]
theorem Mom.scal (a b : Mom) : scal a.v b.v = true := by cases a <;> cases b <;> rfl
theorem Mom.flat (a : Mom) : flatV a.v = true := by cases a <;> rfl
def Mom.lt : Mom → Mom → Bool
  | .last, _ => false
  | _, .first => false
  | .first, _ => true
  | _, .last => true
  | .num a, .num b => decide (a < b)
def Mom.isNum : Mom → Bool
  | .num _ => true
  | _ => false
instance : Rep Mom := ⟨fun _ v m => v = m.v, fun _ h => h⟩
abbrev Rides : Type := List (Int × Int)
def endedL (rs : Rides) : Mom → Mom
  | .num t => match rs.filterMap (fun r => if r.1 ≥ t then some r.2 else none) with
    | [] => .last
    | e :: _ => .num e
  | m => m
def begunL (rs : Rides) : Mom → Mom
  | .num t => match (rs.filterMap (fun r => if r.2 ≤ t then some r.1 else none)).reverse with
    | [] => .first
    | b :: _ => .num b
  | m => m
def Dt.isRide : Dt → Bool
  | .sq true [.int b, .int e] => decide (b ≤ e)
  | _ => false
def Mom.dt : Mom → Dt
  | .first => .str [102, 105, 114, 115, 116]
  | .last => .str [108, 97, 115, 116]
  | .num t => .int t
theorem Mom.isE {K : PySem.W.Frag} {I : Hp} : ∀ m : Mom, isE K I m.v m.dt
  | .first => .str [102, 105, 114, 115, 116] (by decide)
  | .last => .str [108, 97, 115, 116] (by decide)
  | .num _ => .int _
def Dt.isMom : Dt → Bool
  | .int _ => true
  | .str l => decide (l = [102, 105, 114, 115, 116] ∨ l = [108, 97, 115, 116])
  | _ => false
theorem Mom.is_dt : ∀ m : Mom, m.dt.isMom = true
  | .first => rfl
  | .last => rfl
  | .num _ => rfl
theorem in_mom (l : List Nat) : inV (.str (mk l)) [.str "first", .str "last"] = (Dt.str l).isMom := by
  have one : ∀ (z : Str) (w : List Nat), z = mk w → eqV (.str z) (.str (mk l)) = decide (l = w) := fun z w hz => by
    show (z == mk l) = _
    rw [Bool.eq_iff_iff, beq_iff_eq, decide_eq_true_iff, hz]
    exact ⟨fun h => (mk_inj h).symm, fun h => by rw [h]⟩
  unfold inV
  simp only [List.any_cons, List.any_nil]
  rw [one "first" [102, 105, 114, 115, 116] rfl, one "last" [108, 97, 115, 116] rfl]
  show _ = decide (l = [102, 105, 114, 115, 116] ∨ l = [108, 97, 115, 116])
  rw [Bool.eq_iff_iff]
  simp
/-- one error without fields goes out -/
def out0 (C : Addr) (E : XK) (I H : Hp) : Prop := ∀ I' H', Grow No I H I' H' → E (.ref C) none H'
def sp_is_number (K : PySem.W.Frag) : Sp := fun vs H Q _ => ∃ (I : Hp) (v : V) (x : Dt), vs = [v] ∧ isE K I v x ∧ Same I H ∧ Q (.bl x.isNum) H
def sp_is_moment (K : PySem.W.Frag) : Sp := fun vs H Q _ => ∃ (I : Hp) (v : V) (x : Dt), vs = [v] ∧ isE K I v x ∧ Same I H ∧ ∀ I' H', Grow No I H I' H' → Q (.bl x.isMom) H'
def sp_need_moment (K : PySem.W.Frag) : Sp := fun vs H Q _ => ∃ (I : Hp) (m : Mom), vs = [m.v] ∧ Same I H ∧ ∀ I' H', Grow No I H I' H' → Q .non H'
def spb_need_moment (K : PySem.W.Frag) : Sp := fun vs H _ E => ∃ (I : Hp) (v : V) (x : Dt), vs = [v] ∧ isE K I v x ∧ x.isMom = false ∧ Same I H ∧ out0 (He.ga K "NoMoment") E I H
def sp_is_earlier (K : PySem.W.Frag) : Sp := fun vs H Q _ => ∃ a b : Mom, vs = [a.v, b.v] ∧ Q (.bl (a.lt b)) H
def sp_is_ride (K : PySem.W.Frag) : Sp := fun vs H Q _ => ∃ (I : Hp) (v : V) (x : Dt), vs = [v] ∧ isE K I v x ∧ Same I H ∧ Q (.bl x.isRide) H
def sp_ended (K : PySem.W.Frag) : Sp := fun vs H Q _ => ∃ (I : Hp) (v : V) (rs : Rides) (m : Mom), vs = [v, m.v] ∧ isU I v rs ∧ rs.length ≤ 100000 ∧ Same I H ∧ ∀ I' H', Grow No I H I' H' → Q (endedL rs m).v H'
def sp_begun (K : PySem.W.Frag) : Sp := fun vs H Q _ => ∃ (I : Hp) (v : V) (rs : Rides) (m : Mom), vs = [v, m.v] ∧ isU I v rs ∧ rs.length ≤ 100000 ∧ Same I H ∧ ∀ I' H', Grow No I H I' H' → Q (begunL rs m).v H'
section
variable {P : Program} {w : World} {K : PySem.W.Frag} {mg : Str → Option Value} {base : Heap}
theorem ty_mom (H : Hp) : ∀ m : Mom, ∃ n, TyX K H m.v (.type n) ∧ (n = "str" ∧ m.isNum = false ∨ n = "int" ∧ m.isNum = true)
  | .first => ⟨_, .base (.str _), .inl ⟨rfl, rfl⟩⟩
  | .last => ⟨_, .base (.str _), .inl ⟨rfl, rfl⟩⟩
  | .num t => ⟨_, .base (.int _), .inr ⟨rfl, rfl⟩⟩
theorem ok_is_number (T : Txt K mg) (F : FnAt K "is_number" "is_number" s_is_number (He.ga K "is_number"))  : Ok P w K mg base CX0 1 (He.ga K "is_number") ["thing"] (sp_is_number K) := by
  refine ok_of F sc_is_number (fun _ _ _ _ _ _ us hl => match us, hl with | [_], _ => rfl) (fun vs H Q E h => ?_) (fun cdv A outer s H vs Q E hr h => ?_)
  · obtain ⟨_, _, _, rfl, _⟩ := h
    rfl
  · obtain ⟨I, v, x, rfl, hx, sb, k⟩ := h
    refine ⟨_, (pss_one (ps_ret (pe_and (pe_callB call_isi (by rfl) T.b_isinstance (by decide +kernel) (pa_cons (pv 0) (pa_cons (pe_bltn (v := .ty "int") rfl T.b_int (by decide +kernel) rfl) pa_nil))) (pe_one (pe_not (pe_callB call_isi (by rfl) T.b_isinstance (by decide +kernel) (pa_cons (pv 0) (pa_cons (pe_bltn (v := .ty "bool") rfl T.b_bool (by decide +kernel) rfl) pa_nil)))))))), ?_⟩
    obtain ⟨t, ty, ks⟩ := hx.ty sb
    refine ⟨_, rfl, v, .ty "int", _, _, _, rfl, .ty _, ty, ks.int, _, rfl, ?_⟩
    cases x with
    | int i => exact iteT ⟨_, rfl, v, .ty "bool", _, _, _, rfl, .ty _, ty, ks.bool, _, rfl, k⟩
    | bl b => exact iteT ⟨_, rfl, v, .ty "bool", _, _, _, rfl, .ty _, ty, ks.bool, _, rfl, k⟩
    | non => exact iteF k
    | str l => exact iteF k
    | sq t xs => exact iteF k
    | dic => exact iteF k
    | obj => exact iteF k
theorem ok_is_moment (T : Txt K mg) (F : FnAt K "is_moment" "is_moment" s_is_moment (He.ga K "is_moment")) (G_is_number : Ok P w K mg base CX0 1 (He.ga K "is_number") ["thing"] (sp_is_number K)) : Ok P w K mg base CX0 2 (He.ga K "is_moment") ["thing"] (sp_is_moment K) := by
  refine ok_of F sc_is_moment (fun _ _ _ _ _ _ us hl => match us, hl with | [_], _ => rfl) (fun vs H Q E h => ?_) (fun cdv A outer s H vs Q E hr h => ?_)
  · obtain ⟨_, _, _, rfl, _⟩ := h
    rfl
  · obtain ⟨I, v, x, rfl, hx, sb, k⟩ := h
    refine ⟨_, (pss_one (ps_ret (pe_or (pe_callC G_is_number (hr.mono (by decide)) T.g_is_number (pa_cons (pv 0) pa_nil)) (pe_one (pe_and (pe_callB call_isi (by rfl) T.b_isinstance (by decide +kernel) (pa_cons (pv 0) (pa_cons (pe_bltn (v := .ty "str") rfl T.b_str (by decide +kernel) rfl) pa_nil))) (pe_one (pe_cmpR op_in_seq (pv 0) (pe_tup (pa_cons (pe_gstr T.c_FIRST) (pa_cons (pe_gstr T.c_LAST) pa_nil))) (by with_unfolding_all rfl)))))))), ?_⟩
    obtain ⟨t, ty, ks⟩ := hx.ty sb
    refine ⟨_, rfl, I, v, x, rfl, hx, sb, _, rfl, ?_⟩
    cases x with
    | int i => exact iteT (k I H (Grow.refl sb))
    | str l =>
      cases hx with
      | str l hl =>
        refine iteF ⟨_, rfl, _, .ty "str", _, _, _, rfl, .ty _, ty, ks.str, _, rfl, iteT ⟨_, rfl, by decide, fun p hp => ?_⟩⟩
        refine ⟨p, _, rfl, .inr (SqT.of upd_same), rfl, rfl, ?_⟩
        show Q (.bl (inV (.str (mk l)) [V.str "first", V.str "last"])) _
        rw [in_mom]
        exact k _ _ (Grow.new sb hp)
    | bl b => exact iteF ⟨_, rfl, v, .ty "str", _, _, _, rfl, .ty _, ty, ks.str, _, rfl, iteF (k I H (Grow.refl sb))⟩
    | non => exact iteF ⟨_, rfl, v, .ty "str", _, _, _, rfl, .ty _, ty, ks.str, _, rfl, iteF (k I H (Grow.refl sb))⟩
    | sq t xs => exact iteF ⟨_, rfl, v, .ty "str", _, _, _, rfl, .ty _, ty, ks.str, _, rfl, iteF (k I H (Grow.refl sb))⟩
    | dic => exact iteF ⟨_, rfl, v, .ty "str", _, _, _, rfl, .ty _, ty, ks.str, _, rfl, iteF (k I H (Grow.refl sb))⟩
    | obj => exact iteF ⟨_, rfl, v, .ty "str", _, _, _, rfl, .ty _, ty, ks.str, _, rfl, iteF (k I H (Grow.refl sb))⟩
theorem ok_need_moment (T : Txt K mg) (F : FnAt K "need_moment" "need_moment" s_need_moment (He.ga K "need_moment")) (G_is_moment : Ok P w K mg base CX0 2 (He.ga K "is_moment") ["thing"] (sp_is_moment K)) : Ok P w K mg base CX0 3 (He.ga K "need_moment") ["moment"] (sp_need_moment K) := by
  refine ok_of F sc_need_moment (fun _ _ _ _ _ _ us hl => match us, hl with | [_], _ => rfl) (fun vs H Q E h => ?_) (fun cdv A outer s H vs Q E hr h => ?_)
  · obtain ⟨_, _, rfl, _⟩ := h
    rfl
  · obtain ⟨I, m, rfl, sb, k⟩ := h
    refine ⟨_, (pss_one (ps_if (pt_not (pt_val (pe_callC G_is_moment (hr.mono (by decide)) T.g_is_moment (pa_cons (pv 0) pa_nil)))) (pss_one ps_never) pss_nil)), ?_⟩
    refine ⟨_, rfl, I, m.v, m.dt, rfl, m.isE, sb, fun I' H' g => ⟨_, rfl, ?_⟩⟩
    rw [m.is_dt]
    exact iteF (k I' H' g)
theorem okb_need_moment (T : Txt K mg) (F : FnAt K "need_moment" "need_moment" s_need_moment (He.ga K "need_moment")) (G_is_moment : Ok P w K mg base CX0 2 (He.ga K "is_moment") ["thing"] (sp_is_moment K)) : Ok P w K mg base (L2.CX P w) 3 (He.ga K "need_moment") ["moment"] (spb_need_moment K) := by
  refine ok_ofX F sc_need_moment (fun _ _ _ _ _ _ us hl => match us, hl with | [_], _ => rfl) (fun vs H Q E h => ?_) (fun cdv A outer s H vs Q E hr h => ?_)
  · obtain ⟨_, _, _, rfl, _⟩ := h
    rfl
  · obtain ⟨I, v, x, rfl, hx, hn, sb, k⟩ := h
    refine ⟨_, (pss_one (ps_if (pt_not (pt_val (pe_callC G_is_moment (hr.mono (by decide)) T.g_is_moment (pa_cons (pv 0) pa_nil)))) (pss_one (ps_raise rfl (takes_of rfl rfl rfl rfl) (pmk_own PySem.F.excBase_ValueError T.xp_NoMoment.1 T.g_NoMoment T.xp_NoMoment.2.1 (raises_own T.xp_NoMoment.2.2.1 T.xp_NoMoment.2.2.2) rfl))) pss_nil)), ?_⟩
    refine ⟨_, rfl, I, v, x, rfl, hx, sb, fun I' H' g => ⟨_, rfl, ?_⟩⟩
    rw [hn]
    exact iteT (k I' H' g)
theorem ok_is_ride (T : Txt K mg) (F : FnAt K "is_ride" "is_ride" s_is_ride (He.ga K "is_ride")) (G_is_number : Ok P w K mg base CX0 1 (He.ga K "is_number") ["thing"] (sp_is_number K)) : Ok P w K mg base CX0 2 (He.ga K "is_ride") ["thing"] (sp_is_ride K) := by
  refine ok_of F sc_is_ride (fun _ _ _ _ _ _ us hl => match us, hl with | [_], _ => rfl) (fun vs H Q E h => ?_) (fun cdv A outer s H vs Q E hr h => ?_)
  · obtain ⟨_, _, _, rfl, _⟩ := h
    rfl
  · obtain ⟨I, v, x, rfl, hx, sb, k⟩ := h
    refine ⟨_, (pss_cons (ps_if (PW.pt (pw_or (pt_not (pt_val (pe_callB call_isi (by rfl) T.b_isinstance (by decide +kernel) (pa_cons (pv 0) (pa_cons (pe_bltn (v := .ty "tuple") rfl T.b_tuple (by decide +kernel) rfl) pa_nil))))) (pw_or (pt_cmpR op_ne (pe_callB call_len (by rfl) T.b_len (by decide +kernel) (pa_cons (pv 0) pa_nil)) pe_int (nomark _)) (pw_or (pt_not (pt_val (pe_callC G_is_number (hr.mono (by decide)) T.g_is_number (pa_cons (pe_ix ix_tup (pv 0) pe_int (fun _ _ => rfl)) pa_nil)))) (pw_or1 (pt_not (pt_val (pe_callC G_is_number (hr.mono (by decide)) T.g_is_number (pa_cons (pe_ix ix_tup (pv 0) pe_int (fun _ _ => rfl)) pa_nil))))))))) (pss_one (ps_ret pe_bl)) pss_nil)
      (pss_one (ps_ret (pe_cmpR op_le (pe_ix ix_tup (pv 0) pe_int (fun _ _ => rfl)) (pe_ix ix_tup (pv 0) pe_int (fun _ _ => rfl)) (nomark _))))), ?_⟩
    obtain ⟨t, ty, ks⟩ := hx.ty sb
    refine ⟨_, rfl, v, .ty "tuple", _, _, _, rfl, .ty _, ty, ks.tup, _, rfl, ?_⟩
    cases x with
    | sq t xs =>
      cases t with
      | false => exact iteT k
      | true =>
        obtain ⟨a, vs, rfl, ha, es⟩ := hx.inv
        have ha := sb _ _ ha
        refine iteF ⟨_, rfl, .ref a, vs.length, rfl, .inr ⟨_, SqT.of ha, rfl⟩, rfl, _, rfl, ?_⟩
        by_cases h3 : xs.length = 2
        · match xs, vs, es.len, h3, es, ha, k with
          | [x0, x1], [v0, v1], _, _, es, ha, k =>
            have at20 : atI [v0, v1] 0 = some v0 := by rw [atI_nat' (j := 0) (by decide)]; rfl
            have at21 : atI [v0, v1] 1 = some v1 := by rw [atI_nat' (j := 1) (by decide)]; rfl
            refine iteF ⟨_, rfl, _, _, 0, _, rfl, rfl, SqT.of ha, at20, I, v0, x0, rfl, es.at_ 0 _ _ rfl rfl, sb, _, rfl, ?_⟩
            have no0 : x0.isNum = false → (Dt.sq true [x0, x1]).isRide = false := fun h => by cases x0 <;> first | rfl | cases h
            have no1 : x1.isNum = false → (Dt.sq true [x0, x1]).isRide = false := fun h => by cases x0 <;> cases x1 <;> first | rfl | cases h
            cases l0 : x0.isNum with
            | false =>
              rw [no0 l0] at k
              exact iteT k
            | true =>
              refine iteF ⟨_, rfl, _, _, 1, _, rfl, rfl, SqT.of ha, at21, I, v1, x1, rfl, es.at_ 1 _ _ rfl rfl, sb, _, rfl, ?_⟩
              cases l1 : x1.isNum with
              | false =>
                rw [no1 l1] at k
                exact iteT k
              | true =>
                match x0, x1, l0, l1, es, k with
                | .int b, .int e, _, _, es, k =>
                  have e0 : v0 = .int b := by cases es.at_ 0 _ _ rfl rfl; rfl
                  have e1 : v1 = .int e := by cases es.at_ 1 _ _ rfl rfl; rfl
                  subst e0 e1
                  exact iteF ⟨_, rfl, _, _, 0, _, rfl, rfl, SqT.of ha, at20, _, rfl, _, _, 1, _, rfl, rfl, SqT.of ha, at21, _, _, rfl, rfl, k⟩
        · have e : (Dt.sq true xs).isRide = false := by
            match xs, h3 with
            | [], _ => rfl
            | [x], _ => cases x <;> rfl
            | [_, _], h3 => exact absurd rfl h3
            | x :: y :: _ :: _, _ => cases x <;> cases y <;> rfl
          rw [e] at k
          rw [decide_eq_false (fun z => h3 (by have := V.int.inj z; rw [← es.len]; omega))]
          exact iteT k
    | str l => exact iteT k
    | int i => exact iteT k
    | bl b => exact iteT k
    | non => exact iteT k
    | dic => exact iteT k
    | obj => exact iteT k
theorem ok_ended (T : Txt K mg) (F : FnAt K "ended" "ended" s_ended (He.ga K "ended"))  : Ok P w K mg base CX0 1 (He.ga K "ended") ["rides", "moment"] (sp_ended K) := by
  refine ok_of F sc_ended (fun _ _ _ _ _ _ us hl => match us, hl with | [_, _], _ => rfl) (fun vs H Q E h => ?_) (fun cdv A outer s H vs Q E hr h => ?_)
  · obtain ⟨_, _, _, _, rfl, _⟩ := h
    rfl
  · obtain ⟨I, v, rs, m, rfl, ⟨a, vs, rfl, ha, hp⟩, hz, sb, k⟩ := h
    refine ⟨_, (pss_cons (ps_if (pt_cmpR op_in_seq (pv 1) (pe_tup (pa_cons (pe_gstr T.c_FIRST) (pa_cons (pe_gstr T.c_LAST) pa_nil))) (by with_unfolding_all rfl)) (pss_one (ps_ret (pv 1))) pss_nil)
      (pss_cons (ps_setLc (i := 2) (own := [("begin", 3), ("end", 4)]) (g := (gTup K 2 (gCons (gName 3) (gCons (gName 4) gNil)))) rfl sc_ended.nd rfl rfl (sw_true rfl rfl rfl (by decide +kernel)) (pi_tup (pv 0)) (blkOk_by (own := [("begin", 3), ("end", 4)]) (N := n_ended) (sc := defScope s_ended) (by decide +kernel)) (fun _ _ _ _ _ => (pg_tup (by rfl) (pgs_cons (pg_name (i := 3) sc_ended.nd rfl (Or.inl rfl)) (pgs_cons (pg_name (i := 4) sc_ended.nd rfl (Or.inl rfl)) pgs_nil)))) (fun _ _ _ _ _ => (pts_one (pt_cmpR op_ge (pv 3) (pv 1) (nomark _)))) (fun _ _ _ _ _ => (pv 4)))
      (pss_one (ps_ret (pe_ifExp (pt_cmpR (op_neNil hr.units) (pv 2) (pe_lst pa_nil) (nomark _)) (pe_ix ix_list (pv 2) pe_int (fun _ _ => rfl)) (pe_gstr T.c_LAST)))))), ?_⟩
    refine ⟨_, rfl, by decide, fun p hp1 => ⟨p, _, rfl, .inr (SqT.of upd_same), m.flat, rfl, _, rfl, ?_⟩⟩
    have g1 : Grow No I H _ (upd H p (.tup [V.str "first", V.str "last"])) := Grow.new sb hp1
    match m, k with
    | .first, k => exact iteT ⟨_, rfl, k _ _ g1⟩
    | .last, k => exact iteT ⟨_, rfl, k _ _ g1⟩
    | .num t, k =>
      refine iteF ⟨_, rfl, a, rfl, ⟨_, SqT.of (g1.sub _ _ (g1.view _ _ ha))⟩, fun L hL => ?_⟩
      refine lc_pure (β := Int) walk_tup rs (fun r => if r.1 ≥ t then some r.2 else none) (Nw.Paired.len hp).symm g1.sub hL (by rw [Nw.Paired.len hp]; omega) (fun I' H' g => SqT.of (g.sub _ _ (g.view _ _ (g1.view _ _ ha)))) ?_ ?_
      · rintro i r x I' H' H'' hr g ⟨rfl, hx⟩ Kn Ky kn ky
        obtain ⟨x', hx', b, v1, v2, rfl, hb, h1, h2⟩ := Nw.Paired.at hp hr
        rw [hx] at hx'
        cases hx'
        cases h1
        cases h2
        refine ⟨b, _, rfl, SqT.of (g.sub _ _ (g.view _ _ (g1.view _ _ hb))), rfl, _, _, rfl, _, _, rfl, rfl, rfl, ?_⟩
        refine ⟨_, rfl, _, rfl, _, _, rfl, rfl, _, rfl, ?_⟩
        refine ite2 (fun c => ?_) (fun c => ?_)
        · exact ⟨_, rfl, ky _ (if_pos (of_decide_eq_true c)) _ I' H'' (Grow.refl g.sub) rfl⟩
        · exact kn (if_neg (fun z => c (decide_eq_true z))) I' H'' (Grow.refl g.sub)
      · intro I2 H2 vs2 g2 ow hp2
        have e := Paired.ints hp2
        subst e
        have ek : endedL rs (.num t) = (match rs.filterMap (fun r => if r.1 ≥ t then some r.2 else none) with
          | [] => .last
          | e :: _ => .num e) := rfl
        rw [ek] at k
        revert ow hp2 k
        generalize rs.filterMap (fun r => if r.1 ≥ t then some r.2 else none) = es
        intro k ow hp2
        refine ⟨_, rfl, by decide, fun q hq => ⟨L, q, _, rfl, rfl, SqL.of (by rw [upd_ne (ne_of_none ow.at_ hq)]; exact ow.at_), SqL.of upd_same, _, rfl, ?_⟩⟩
        have g3 := (g1.trans g2).trans (Grow.mine (T := No) (o := .lst []) g2.sub hq)
        cases es with
        | nil => exact iteF (k _ _ g3)
        | cons e r => exact iteT ⟨_, rfl, L, _, _, _, rfl, rfl, SqL.of (by rw [upd_ne (ne_of_none ow.at_ hq)]; exact ow.at_), (by rw [atI_nat' (j := 0) (by decide)]; rfl), k _ _ g3⟩
theorem ok_begun (T : Txt K mg) (F : FnAt K "begun" "begun" s_begun (He.ga K "begun"))  : Ok P w K mg base CX0 1 (He.ga K "begun") ["rides", "moment"] (sp_begun K) := by
  refine ok_of F sc_begun (fun _ _ _ _ _ _ us hl => match us, hl with | [_, _], _ => rfl) (fun vs H Q E h => ?_) (fun cdv A outer s H vs Q E hr h => ?_)
  · obtain ⟨_, _, _, _, rfl, _⟩ := h
    rfl
  · obtain ⟨I, v, rs, m, rfl, ⟨a, vs, rfl, ha, hp⟩, hz, sb, k⟩ := h
    refine ⟨_, (pss_cons (ps_if (pt_cmpR op_in_seq (pv 1) (pe_tup (pa_cons (pe_gstr T.c_FIRST) (pa_cons (pe_gstr T.c_LAST) pa_nil))) (by with_unfolding_all rfl)) (pss_one (ps_ret (pv 1))) pss_nil)
      (pss_cons (ps_setLc (i := 2) (own := [("begin", 3), ("end", 4)]) (g := (gTup K 2 (gCons (gName 3) (gCons (gName 4) gNil)))) rfl sc_begun.nd rfl rfl (sw_true rfl rfl rfl (by decide +kernel)) (pi_tup (pv 0)) (blkOk_by (own := [("begin", 3), ("end", 4)]) (N := n_begun) (sc := defScope s_begun) (by decide +kernel)) (fun _ _ _ _ _ => (pg_tup (by rfl) (pgs_cons (pg_name (i := 3) sc_begun.nd rfl (Or.inl rfl)) (pgs_cons (pg_name (i := 4) sc_begun.nd rfl (Or.inl rfl)) pgs_nil)))) (fun _ _ _ _ _ => (pts_one (pt_cmpR op_le (pv 4) (pv 1) (nomark _)))) (fun _ _ _ _ _ => (pv 3)))
      (pss_one (ps_ret (pe_ifExp (pt_cmpR (op_neNil hr.units) (pv 2) (pe_lst pa_nil) (nomark _)) (pe_ix ix_list (pv 2) (pe_un un_neg pe_int) (fun _ _ => rfl)) (pe_gstr T.c_FIRST)))))), ?_⟩
    refine ⟨_, rfl, by decide, fun p hp1 => ⟨p, _, rfl, .inr (SqT.of upd_same), m.flat, rfl, _, rfl, ?_⟩⟩
    have g1 : Grow No I H _ (upd H p (.tup [V.str "first", V.str "last"])) := Grow.new sb hp1
    match m, k with
    | .first, k => exact iteT ⟨_, rfl, k _ _ g1⟩
    | .last, k => exact iteT ⟨_, rfl, k _ _ g1⟩
    | .num t, k =>
      refine iteF ⟨_, rfl, a, rfl, ⟨_, SqT.of (g1.sub _ _ (g1.view _ _ ha))⟩, fun L hL => ?_⟩
      refine lc_pure (β := Int) walk_tup rs (fun r => if r.2 ≤ t then some r.1 else none) (Nw.Paired.len hp).symm g1.sub hL (by rw [Nw.Paired.len hp]; omega) (fun I' H' g => SqT.of (g.sub _ _ (g.view _ _ (g1.view _ _ ha)))) ?_ ?_
      · rintro i r x I' H' H'' hr g ⟨rfl, hx⟩ Kn Ky kn ky
        obtain ⟨x', hx', b, v1, v2, rfl, hb, h1, h2⟩ := Nw.Paired.at hp hr
        rw [hx] at hx'
        cases hx'
        cases h1
        cases h2
        refine ⟨b, _, rfl, SqT.of (g.sub _ _ (g.view _ _ (g1.view _ _ hb))), rfl, _, _, rfl, _, _, rfl, rfl, rfl, ?_⟩
        refine ⟨_, rfl, _, rfl, _, _, rfl, rfl, _, rfl, ?_⟩
        refine ite2 (fun c => ?_) (fun c => ?_)
        · exact ⟨_, rfl, ky _ (if_pos (of_decide_eq_true c)) _ I' H'' (Grow.refl g.sub) rfl⟩
        · exact kn (if_neg (fun z => c (decide_eq_true z))) I' H'' (Grow.refl g.sub)
      · intro I2 H2 vs2 g2 ow hp2
        have e := Paired.ints hp2
        subst e
        have ek : begunL rs (.num t) = (match (rs.filterMap (fun r => if r.2 ≤ t then some r.1 else none)).reverse with
          | [] => .first
          | b :: _ => .num b) := rfl
        rw [ek] at k
        revert ow hp2 k
        generalize rs.filterMap (fun r => if r.2 ≤ t then some r.1 else none) = es
        intro k ow hp2
        refine ⟨_, rfl, by decide, fun q hq => ⟨L, q, _, rfl, rfl, SqL.of (by rw [upd_ne (ne_of_none ow.at_ hq)]; exact ow.at_), SqL.of upd_same, _, rfl, ?_⟩⟩
        have g3 := (g1.trans g2).trans (Grow.mine (T := No) (o := .lst []) g2.sub hq)
        have er : es = es.reverse.reverse := es.reverse_reverse.symm
        cases hes : es.reverse with
        | nil =>
          rw [hes] at er
          subst er
          rw [hes] at k
          exact iteF (k _ _ g3)
        | cons e r =>
          rw [hes] at er k
          have hne : (es.map V.int).isEmpty = false := by
            rw [er]
            simp
          rw [hne]
          refine iteT ⟨_, rfl, _, rfl, L, es.map V.int, _, .int e, rfl, rfl, SqL.of (by rw [upd_ne (ne_of_none ow.at_ hq)]; exact ow.at_), ?_, k _ _ g3⟩
          rw [er, List.map_reverse]
          exact atI_rev _ 0 _ (by decide)
end
end Nw

namespace Nw
open PySem PySem.Spec PyProof.Rows L2
theorem Paired.rev {α β : Type} {F : α → β → Prop} : ∀ {xs : List α} {ys : List β}, Paired F xs ys → Paired F xs.reverse ys.reverse
  | _, _, .nil => .nil
  | _, _, .cons a t => by
    rw [List.reverse_cons, List.reverse_cons]
    exact Nw.Paired.snoc (Paired.rev t) a
theorem Paired.last {α β : Type} {F : α → β → Prop} {xs : List α} {ys : List β} {y : β} (h : Paired F xs (ys ++ [y])) : ∃ x xr, xs = xr ++ [x] ∧ F x y := by
  have h2 := Paired.rev h
  rw [List.reverse_append] at h2
  cases e : xs.reverse with
  | nil => rw [e] at h2; cases h2
  | cons x r =>
    rw [e] at h2
    cases h2 with
    | cons h3 h4 => exact ⟨x, r.reverse, by rw [← List.reverse_reverse xs, e, List.reverse_cons], h3⟩
/-- the needed ones of some rides, ascending -/
structure IsNeeded (rs ns : Rides) : Prop where
  asc : ns.Pairwise fun a b => a.1 < b.1 ∧ a.2 < b.2
  sub : ∀ n ∈ ns, n ∈ rs
  cov : ∀ r ∈ rs, ∃ n ∈ ns, r.1 ≤ n.1 ∧ n.2 ≤ r.2
/-! a dict of numbers, as pairs -/
def kvI (p : Int × Int) : Key × V := (.inl p.1, .int p.2)
def lookM (m : Rides) (b : Int) : Option Int := (m.find? fun p => decide (p.1 = b)).map (·.2)
def putM (m : Rides) (b e : Int) : Rides := if (m.any fun p => decide (p.1 = b)) = true then m.map (fun p => if p.1 = b then (p.1, e) else p) else m ++ [(b, e)]
theorem valV_I (b : Int) : ∀ m : Rides, valV (m.map kvI) (.inl b) = (lookM m b).map V.int
  | [] => rfl
  | p :: r => by
    by_cases h : p.1 = b
    · have e1 : lookM (p :: r) b = some p.2 := by simp [lookM, h]
      rw [e1, List.map_cons]
      exact valV_pos (by show (Sum.inl p.1 : Key) = Sum.inl b; rw [h])
    · have e1 : lookM (p :: r) b = lookM r b := by simp [lookM, h]
      rw [e1, List.map_cons, ← valV_I b r]
      exact valV_neg (fun z => h (Sum.inl.inj z))
theorem putK_I (m : Rides) (b e : Int) : putK (m.map kvI) (.inl b) (.int e) = (putM m b e).map kvI := by
  unfold putK putM
  have e1 : ((m.map kvI).any fun kv => decide (kv.1 = Sum.inl b)) = (m.any fun p => decide (p.1 = b)) := by
    rw [List.any_map]
    congr 1
    funext p
    show decide ((Sum.inl p.1 : Key) = Sum.inl b) = decide (p.1 = b)
    by_cases h : p.1 = b
    · rw [h, decide_eq_true rfl, decide_eq_true rfl]
    · rw [decide_eq_false h, decide_eq_false fun z => h (Sum.inl.inj z)]
  rw [e1]
  split
  · rw [List.map_map, List.map_map]
    congr 1
    funext p
    show (if (Sum.inl p.1 : Key) = Sum.inl b then ((Sum.inl p.1 : Key), V.int e) else kvI p) = kvI (if p.1 = b then (p.1, e) else p)
    by_cases h : p.1 = b
    · rw [if_pos h, if_pos (by rw [h])]
      rfl
    · rw [if_neg h, if_neg fun z => h (Sum.inl.inj z)]
  · rw [List.map_append]
    rfl
theorem lookM_none {m : Rides} {b : Int} (h : lookM m b = none) : ∀ p ∈ m, p.1 ≠ b := by
  intro p hp z
  unfold lookM at h
  rw [Option.map_eq_none_iff, List.find?_eq_none] at h
  exact h p hp (decide_eq_true z)
theorem lookM_some {m : Rides} {b e : Int} (h : lookM m b = some e) : (b, e) ∈ m := by
  unfold lookM at h
  rw [Option.map_eq_some_iff] at h
  obtain ⟨p, h1, h2⟩ := h
  have h3 := List.mem_of_find?_eq_some h1
  have h4 : p.1 = b := by simpa using List.find?_some h1
  cases p
  simp only at h2 h4
  subst h2 h4
  exact h3
theorem mem_putM {m : Rides} {b e : Int} {p : Int × Int} : p ∈ putM m b e ↔ p = (b, e) ∨ (p ∈ m ∧ p.1 ≠ b) := by
  unfold putM
  split
  · rename_i h
    rw [List.any_eq_true] at h
    obtain ⟨q, hq, hb⟩ := h
    have hb := of_decide_eq_true hb
    rw [List.mem_map]
    constructor
    · rintro ⟨r, hr, rfl⟩
      by_cases c : r.1 = b
      · rw [if_pos c]
        left
        rw [← c]
      · rw [if_neg c]
        exact .inr ⟨hr, c⟩
    · rintro (rfl | ⟨hp, c⟩)
      · exact ⟨q, hq, by rw [if_pos hb, hb]⟩
      · exact ⟨p, hp, by rw [if_neg c]⟩
  · rename_i h
    have hn : ∀ q ∈ m, q.1 ≠ b := fun q hq z => h (List.any_eq_true.mpr ⟨q, hq, decide_eq_true z⟩)
    rw [List.mem_append, List.mem_singleton]
    constructor
    · rintro (z | z)
      · exact .inr ⟨z, hn p z⟩
      · exact .inl z
    · rintro (z | z)
      · exact .inr z
      · exact .inl z.1
theorem keys_putM {m : Rides} {b e : Int} (h : (m.map (·.1)).Nodup) : ((putM m b e).map (·.1)).Nodup := by
  unfold putM
  split
  · have e1 : (m.map fun p => if p.1 = b then (p.1, e) else p).map (·.1) = m.map (·.1) := by
      rw [List.map_map]
      congr 1
      funext p
      show (if p.1 = b then (p.1, e) else p).1 = p.1
      split <;> rfl
    rw [e1]
    exact h
  · rename_i c
    rw [List.map_append, List.map_singleton]
    refine List.nodup_append.mpr ⟨h, by simp, fun x hx y hy => ?_⟩
    rw [List.mem_singleton] at hy
    subst hy
    rintro rfl
    obtain ⟨p, hp, e1⟩ := List.mem_map.mp hx
    exact c (List.any_eq_true.mpr ⟨p, hp, decide_eq_true e1⟩)
theorem len_putM (m : Rides) (b e : Int) : (putM m b e).length ≤ m.length + 1 := by
  unfold putM
  split
  · rw [List.length_map]; omega
  · rw [List.length_append]; simp
def sp_needed (K : PySem.W.Frag) : Sp := fun vs H Q _ => ∃ (I : Hp) (t : Bool) (v : V) (rs : Rides), vs = [v] ∧ isS t I v rs ∧ rs.length ≤ 100000 ∧ Same I H ∧ ∀ ns v' I' H', Grow No I H I' H' → isU I' v' ns → IsNeeded rs ns → Q v' H'
def ndJ (I H : Hp) (a d q L : Addr) (m : Rides) (kr : List Int) (v3 : Option V) (i : Nat) (σ : L2.St) (H' : Hp) : Prop :=
  ∃ (I' : Hp) (fs : Rides) (ws : List V) (v2 : Option V), σ = [some (.ref a), some (.ref d), v2, v3, some (.ref L), none] ∧ Grow No I H I' H' ∧ Own No H d (.dK (m.map kvI)) I' H' ∧ Own No H q (.lst (kr.map V.int)) I' H' ∧ Own No H L (.lst ws) I' H' ∧ Paired (Rep.is I') ws fs ∧
    fs.length ≤ i ∧ (fs.Pairwise fun a b => b.1 < a.1 ∧ b.2 < a.2) ∧ (∀ n ∈ fs, n ∈ m ∧ n.1 ∈ kr.take i) ∧ (∀ b ∈ kr.take i, ∀ e, (b, e) ∈ m → ∃ n ∈ fs, b ≤ n.1 ∧ n.2 ≤ e)
theorem getI {ns : List Int} {i : Nat} {v : V} (h : (ns.map V.int)[i]? = some v) : ∃ k, ns[i]? = some k ∧ v = .int k := by
  rw [List.getElem?_map] at h
  cases e : ns[i]? with
  | none => rw [e] at h; cases h
  | some k => rw [e] at h; exact ⟨k, rfl, (Option.some.inj h).symm⟩
section
variable {P : Program} {w : World} {K : PySem.W.Frag} {mg : Str → Option Value} {base : Heap}
theorem ok_needed (T : Txt K mg) (F : FnAt K "needed" "needed" s_needed (He.ga K "needed"))  : Ok P w K mg base CX0 1 (He.ga K "needed") ["rides"] (sp_needed K) := by
  refine ok_of F sc_needed (fun _ _ _ _ _ _ us hl => match us, hl with | [_], _ => rfl) (fun vs H Q E h => ?_) (fun cdv A outer s H vs Q E hr h => ?_)
  · obtain ⟨_, _, _, _, rfl, _⟩ := h
    rfl
  · obtain ⟨I, tt, v, rs, rfl, ⟨a, vs, rfl, ha, hp⟩, hz, sb, k⟩ := h
    refine ⟨_, (pss_cons (ps_set (i := 1) sc_needed.nd rfl (Or.inl rfl) pe_dnewK)
      (pss_cons (ps_for PassesOwn.never rfl (pi_seq (pv 0)) (pg_tup (by rfl) (pgs_cons (pg_name (i := 2) sc_needed.nd rfl (Or.inl rfl)) (pgs_cons (pg_name (i := 3) sc_needed.nd rfl (Or.inl rfl)) pgs_nil))) (pss_one (ps_dput (hu_of hr) (pv 1) (pv 2) (pe_ifExp (PW.pt (pw_or (pt_cmp (pc_dnotin (hu_of hr) (pv 2) (pv 1))) (pw_or1 (pt_cmpR op_lt (pv 3) (pe_dget (hu_of hr) (pv 1) (pv 2) (fun _ _ => rfl)) (nomark _))))) (pv 3) (pe_dget (hu_of hr) (pv 1) (pv 2) (fun _ _ => rfl))) rfl)))
      (pss_cons (ps_set (i := 4) sc_needed.nd rfl (Or.inl rfl) (pe_lst pa_nil))
      (pss_cons (ps_for PassesOwn.never rfl (pi_list (pe_revL (pe_callB cr_sortedI (by rfl) T.b_sorted (by decide +kernel) (pa_cons (pe_lock (pe_lc (own := [("one", 5)]) (g := (gName 5)) rfl sc_needed.nd (pi_keys (pv 1)) (blkOk_by (own := [("one", 5)]) (N := n_needed) (sc := defScope s_needed) (by decide +kernel)) (fun _ _ _ _ _ => (pg_name (i := 5) sc_needed.nd rfl (Or.inl rfl))) (fun _ _ _ _ _ => pts_nil) (fun _ _ _ _ _ => (pe_callTy call_int1 (by rfl) T.b_int (by decide +kernel) (pa_cons (pv 5) pa_nil))))) pa_nil)))) (pg_name (i := 2) sc_needed.nd rfl (Or.inl rfl)) (pss_one (ps_if (PW.pt (pw_or (pt_cmpR (op_eqNil hr.units) (pv 4) (pe_lst pa_nil) (nomark _)) (pw_or1 (pt_cmpR op_lt (pe_dget (hu_of hr) (pv 1) (pv 2) (fun _ _ => rfl)) (pe_ix ix_tup (pe_ix ix_list (pv 4) (pe_un un_neg pe_int) (fun _ _ => rfl)) pe_int (fun _ _ => rfl)) (nomark _))))) (pss_one (ps_expr (pe_bm PySem.F.plainAttrs_list PySem.F.slot_list_append PySem.F.type_list_append mt_append (pv 4) (pa_cons (pe_tup (pa_cons (pv 2) (pa_cons (pe_dget (hu_of hr) (pv 1) (pv 2) (fun _ _ => rfl)) pa_nil))) pa_nil)))) pss_nil)))
      (pss_one (ps_ret (pe_callTy call_tuple_of (by rfl) T.b_tuple (by decide +kernel) (pa_cons (pe_revL (pv 4)) pa_nil)))))))), ?_⟩
    intro d hd
    refine ⟨_, rfl, a, tt, rfl, ⟨_, SqB.of (by rw [upd_ne (ne_of_none (sb _ _ ha) hd)]; exact sb _ _ ha)⟩, ?_⟩
    refine for_it walk_seq (fun i σ H' => ∃ (I' : Hp) (m : Rides) (v2 v3 : Option V), σ = [some (.ref a), some (.ref d), v2, v3, none, none] ∧ Grow No I H I' H' ∧ Own No H d (.dK (m.map kvI)) I' H' ∧ (m.map (·.1)).Nodup ∧ (∀ p ∈ m, p ∈ rs.take i) ∧ (∀ r ∈ rs.take i, ∃ e, (r.1, e) ∈ m ∧ e ≤ r.2) ∧ m.length ≤ i)
      ⟨I, [], none, none, rfl, Grow.mine sb hd, Own.new sb (.inl (Same.refl H)) (fun _ z => z.elim) hd, .nil, (fun p z => nomatch z), (fun r z => by simp at z), Nat.le_refl _⟩ (fun i σ H' _ ⟨I', _, _, _, _, g, _⟩ => SqB.of (g.same _ _ (sb _ _ ha))) ?_ ?_
    · rintro i x σ H2 H3 hi ⟨I', m, v2, v3, rfl, g, ow, nd, h1, h2, hl⟩ ⟨rfl, hx⟩
      obtain ⟨r, hr, b, w1, w2, rfl, hb, e1, e2⟩ := Nw.Paired.at' hp hx
      cases e1
      cases e2
      have hi2 : i < rs.length := by
        have := Nw.Paired.len hp
        omega
      refine ⟨b, _, rfl, SqT.of (g.same _ _ (sb _ _ hb)), rfl, _, _, rfl, _, _, rfl, rfl, ?_⟩
      -- the value
      have hget : DGet H3 d (.int r.1) ((lookM m r.1).map V.int) := by
        have z := DGet.k (k := .inl r.1) ow.at_
        rw [valV_I] at z
        exact z
      have fin : ∀ e, (e = r.2 ∨ (r.1, e) ∈ m) → e ≤ r.2 → (∀ e', (r.1, e') ∈ m → e ≤ e') →
          ∃ (a2 : Addr) (H4 : Hp), (V.ref d) = V.ref a2 ∧ DPut H3 a2 (.int r.1) (.int e) H4 ∧ ∃ (I' : Hp) (m : Rides) (v2 v3 : Option V), [some (V.ref a), some (V.ref d), some (V.int r.1), some (V.int r.2), none, none] = [some (.ref a), some (.ref d), v2, v3, none, none] ∧ Grow No I H I' H4 ∧ Own No H d (.dK (m.map kvI)) I' H4 ∧ (m.map (·.1)).Nodup ∧ (∀ p ∈ m, p ∈ rs.take (i + 1)) ∧ (∀ r ∈ rs.take (i + 1), ∃ e, (r.1, e) ∈ m ∧ e ≤ r.2) ∧ m.length ≤ i + 1 := by
        intro e he hle hmin
        have z := DPut.k (k := .inl r.1) (v := .int e) ow.at_ (by rw [List.length_map, sizeLine_eq]; omega)
        rw [putK_I] at z
        refine ⟨d, _, rfl, z, I', putM m r.1 e, _, _, rfl, g.put ow, ow.put, keys_putM nd, fun p hp' => ?_, fun q hq => ?_, Nat.le_trans (len_putM _ _ _) (by omega)⟩
        · rw [mem_take hr]
          rcases mem_putM.mp hp' with rfl | ⟨z, _⟩
          · rcases he with rfl | he
            · exact .inr rfl
            · exact .inl (h1 _ he)
          · exact .inl (h1 p z)
        · rcases (mem_take hr).mp hq with q1 | rfl
          · obtain ⟨e', he', hle'⟩ := h2 q q1
            by_cases c : q.1 = r.1
            · exact ⟨e, mem_putM.mpr (.inl (by rw [c])), by rw [c] at he'; exact Int.le_trans (hmin e' he') hle'⟩
            · exact ⟨e', mem_putM.mpr (.inr ⟨he', c⟩), hle'⟩
          · exact ⟨e, mem_putM.mpr (.inl rfl), hle⟩
      have uniq : ∀ e e', (r.1, e) ∈ m → (r.1, e') ∈ m → e = e' := fun e e' p1 p2 => by
        obtain ⟨i1, l1, q1⟩ := List.mem_iff_getElem.mp p1
        obtain ⟨i2, l2, q2⟩ := List.mem_iff_getElem.mp p2
        have key : (m.map (·.1))[i1]'(by simpa using l1) = (m.map (·.1))[i2]'(by simpa using l2) := by
          rw [List.getElem_map, List.getElem_map, q1, q2]
        have ei : i1 = i2 := (List.getElem_inj nd).mp key
        subst ei
        rw [q1] at q2
        exact (Prod.mk.inj q2).2
      cases hlk : lookM m r.1 with
      | none =>
        rw [hlk] at hget
        refine ⟨_, rfl, _, rfl, d, _, rfl, hget, true, rfl, ?_⟩
        refine iteT ?_
        refine iteT ?_
        exact ⟨_, rfl, _, rfl, _, rfl, fin r.2 (.inl rfl) (Int.le_refl _) fun e' he' => (lookM_none hlk (r.1, e') he' rfl).elim⟩
      | some e0 =>
        rw [hlk] at hget
        have hm0 := lookM_some hlk
        refine ⟨_, rfl, _, rfl, d, _, rfl, hget, false, rfl, ?_⟩
        refine iteF ?_
        refine ⟨_, rfl, _, rfl, _, rfl, d, _, rfl, hget, _, _, rfl, rfl, _, rfl, ?_⟩
        by_cases c : r.2 < e0
        · rw [decide_eq_true c]
          refine iteT ?_
          exact ⟨_, rfl, _, rfl, _, rfl, fin r.2 (.inl rfl) (Int.le_refl _) fun e' he' => by rw [uniq _ _ he' hm0]; omega⟩
        · rw [decide_eq_false c]
          refine iteF ?_
          exact ⟨_, rfl, _, rfl, d, _, rfl, hget, _, rfl, _, rfl, fin e0 (.inr hm0) (by omega) fun e' he' => by rw [uniq _ _ he' hm0]; exact Int.le_refl _⟩
    · rintro σ H2 ⟨I', m, v2, v3, rfl, g, ow, nd, h1, h2, hl⟩
      have et : rs.take vs.length = rs := by rw [Nw.Paired.len hp, List.take_length]
      rw [et] at h1 h2
      refine ⟨Nat.zero_le _, fun L hL => ?_⟩
      have gL := g.trans (Grow.mine (T := No) (o := .lst []) g.sub hL)
      have owL : Own No H L (.lst []) I' (upd H2 L (.lst [])) := Own.new g.sub (.inr g.live) (fun _ z => z.elim) hL
      have owd := ow.grow (Grow.mine (T := No) (o := .lst []) g.sub hL)
      have ndL : d ≠ L := ne_of_none ow.at_ hL
      -- sorted([int(one) for one in ends])[::-1]
      refine ⟨d, _, owd.at_, trivial, fun od => ?_⟩
      have gf := gL.put (o' := .frz od (.dK (m.map kvI))) owd
      have owf : Own No H d (.frz od (.dK (m.map kvI))) I' (upd (upd H2 L (.lst [])) d (.frz od (.dK (m.map kvI)))) := owd.put
      refine ⟨_, rfl, d, od, rfl, .inl ⟨_, upd_same, fun M hM => ?_⟩⟩
      refine lc_pure (β := Int) walk_keys m (fun p => some p.1) (by rw [List.length_map]) gf.sub hM (by rw [List.length_map]; have := Nw.Paired.len hp; omega) (fun I1 H1 g1 => g1.keep _ _ (fun z => z) upd_same) ?_ ?_
      · rintro j p x I1 H1 H3 hj g1 ⟨rfl, kk, vv, hkv, rfl⟩ Kn Ky kn ky
        have ek : kvI p = (kk, vv) := by
          rw [List.getElem?_map, hj] at hkv
          exact Option.some.inj hkv
        cases ek
        refine ⟨rfl, lc_yes ?_⟩
        exact ⟨_, rfl, .inl ⟨_, rfl, ky _ rfl _ I1 H3 (Grow.refl g1.sub) rfl⟩⟩
      · intro I1 H1 vs1 g1 owM hp1
        have e1 := Paired.ints hp1
        rw [fm_some] at e1
        subst e1
        have owf1 := owf.grow g1
        have gf1 := gf.trans g1
        have ndM : M ≠ d := (ne_of_none upd_same hM).symm
        refine ⟨owf1.at_, M, _, rfl, SqL.of (by rw [upd_ne ndM]; exact owM.at_), fun ks p perm rising hpn => ?_⟩
        -- the walk from the last one on
        have gs := (gf1.put (o' := .dK (m.map kvI)) owf1)
        have owd2 : Own No H d (.dK (m.map kvI)) I1 (upd H1 d (.dK (m.map kvI))) := owf1.put
        have owL2 : Own No H L (.lst []) I1 (upd H1 d (.dK (m.map kvI))) := ((owL.other ndL.symm).grow g1).other ndL.symm
        have gp := gs.trans (Grow.mine (T := No) (o := .lst (ks.map V.int)) gs.sub hpn)
        have owd3 := owd2.grow (Grow.mine (T := No) (o := .lst (ks.map V.int)) gs.sub hpn)
        have owL3 := owL2.grow (Grow.mine (T := No) (o := .lst (ks.map V.int)) gs.sub hpn)
        refine ⟨p, _, rfl, SqL.of upd_same, fun q hq => ?_⟩
        rw [show (ks.map V.int).reverse = ks.reverse.map V.int from (List.map_reverse ..).symm]
        have gq := gp.trans (Grow.mine (T := No) (o := .lst (ks.reverse.map V.int)) gp.sub hq)
        have owd4 := owd3.grow (Grow.mine (T := No) (o := .lst (ks.reverse.map V.int)) gp.sub hq)
        have owL4 := owL3.grow (Grow.mine (T := No) (o := .lst (ks.reverse.map V.int)) gp.sub hq)
        have owq : Own No H q (.lst (ks.reverse.map V.int)) I1 _ := Own.new gp.sub (.inr gp.live) (fun _ z => z.elim) hq
        have hks : ∀ j b, ks.reverse[j]? = some b → ∃ e, (b, e) ∈ m := fun j b hj => by
          have h3 : b ∈ ks := List.mem_reverse.mp (List.mem_of_getElem? hj)
          obtain ⟨p, hp, rfl⟩ := List.mem_map.mp (perm.mem_iff.mp h3)
          exact ⟨p.2, hp⟩
        have desc : ks.reverse.Pairwise (fun a b => b < a) := by
          rw [List.pairwise_reverse]
          have ndk : ks.Nodup := perm.nodup_iff.mpr nd
          exact (List.Pairwise.and rising ndk).imp fun z => by omega
        refine ⟨q, rfl, ⟨_, SqL.of upd_same⟩, ?_⟩
        have hlk : ∀ b e, (b, e) ∈ m → lookM m b = some e := fun b e he => by
          cases hl2 : lookM m b with
          | none => exact (lookM_none hl2 (b, e) he rfl).elim
          | some e0 =>
            have p2 := lookM_some hl2
            obtain ⟨i1, l1, q1⟩ := List.mem_iff_getElem.mp he
            obtain ⟨i2, l2, q2⟩ := List.mem_iff_getElem.mp p2
            have key : (m.map (·.1))[i1]'(by simpa using l1) = (m.map (·.1))[i2]'(by simpa using l2) := by
              rw [List.getElem_map, List.getElem_map, q1, q2]
            have ei : i1 = i2 := (List.getElem_inj nd).mp key
            subst ei
            rw [q1] at q2
            rw [(Prod.mk.inj q2).2]
        have nqL : q ≠ L := (ne_of_none owL3.at_ hq).symm
        refine for_it walk_list (ndJ I H a d q L m ks.reverse v3)
          ⟨I1, [], [], v2, rfl, gq, owd4, owq, owL4, .nil, Nat.le_refl _, .nil, (fun n z => nomatch z), fun b hb => by simp at hb⟩ (fun i σ H' _ ⟨I', _, _, _, _, g, _, oq, _⟩ => SqL.of oq.at_) ?_ ?_
        · rintro j x σ H3 H4 hj ⟨I', fs, ws, v2', rfl, g3, od3, oq3, oL3, hpr, hfl, hasc, hsub, hcov⟩ ⟨rfl, hx⟩
          obtain ⟨b, hb, rfl⟩ := getI hx
          obtain ⟨e, he⟩ := hks j b hb
          have hlb := hlk b e he
          have hget : DGet H4 d (.int b) (some (.int e)) := by
            have z := DGet.k (k := .inl b) od3.at_
            rw [valV_I, hlb] at z
            exact z
          have nLd : L ≠ d := ne_of oL3.at_ od3.at_ (by intro z; cases z)
          have hjl : j < ks.reverse.length := by
            obtain ⟨h, _⟩ := List.getElem?_eq_some_iff.mp hb
            exact h
          have hkl : ks.length = m.length := by rw [perm.length_eq, List.length_map]
          have hlt : ∀ c ∈ ks.reverse.take j, b < c := fun c hc => by
            obtain ⟨i, hi, ec⟩ := List.mem_iff_getElem.mp hc
            rw [List.getElem_take] at ec
            rw [List.length_take] at hi
            have eb : ks.reverse[j] = b := by
              have := List.getElem?_eq_getElem hjl
              rw [hb] at this
              exact (Option.some.inj this).symm
            have := (List.pairwise_iff_getElem.mp desc) i j (by omega) hjl (by omega)
            rw [ec, eb] at this
            exact this
          have hcase : fs = [] ∨ ∃ fr l, fs = fr ++ [l] := by
            cases fs.eq_nil_or_concat with
            | inl h => exact .inl h
            | inr h => exact .inr (let ⟨l, x, e⟩ := h; ⟨l, x, by simpa using e⟩)
          have app : (∀ n ∈ fs, e < n.2) → ∀ H5 : Hp, Grow No I' H4 I' H5 → ∀ t, H5 t = none → ndJ I H a d q L m ks.reverse v3 (j + 1) [some (.ref a), some (.ref d), some (.int b), v3, some (.ref L), none] (upd (upd H5 t (.tup [.int b, .int e])) L (.lst (ws ++ [.ref t]))) := by
            intro hlast H5 g5 t ht
            have gt := Grow.new (T := No) (o := .tup [.int b, .int e]) g5.sub ht
            have oL5 := (oL3.grow g5).grow gt
            refine ⟨upd I' t (.tup [.int b, .int e]), fs ++ [(b, e)], ws ++ [.ref t], _, rfl, ((g3.trans g5).trans gt).put oL5, ((od3.grow g5).grow gt).other nLd.symm, ((oq3.grow g5).grow gt).other nqL, oL5.put, Nw.Paired.snoc (Paired.mono' (fun _ _ z => Rep.mono gt.view z) hpr) ⟨t, _, _, rfl, upd_same, rfl, rfl⟩, by simp; omega, ?_, fun n hn => ?_, fun b2 hb2 e2 he2 => ?_⟩
            · rw [List.pairwise_append]
              refine ⟨hasc, by simp, fun x hx y hy => ?_⟩
              rw [List.mem_singleton] at hy
              subst hy
              exact ⟨hlt x.1 (hsub x hx).2, hlast x hx⟩
            · rcases List.mem_append.mp hn with z | z
              · exact ⟨(hsub n z).1, (mem_take hb).mpr (.inl (hsub n z).2)⟩
              · rw [List.mem_singleton] at z
                subst z
                exact ⟨he, (mem_take hb).mpr (.inr rfl)⟩
            · rcases (mem_take hb).mp hb2 with z | rfl
              · obtain ⟨n, hn, q1, q2⟩ := hcov b2 z e2 he2
                exact ⟨n, List.mem_append_left _ hn, q1, q2⟩
              · have h4 := hlk b2 e2 he2
                rw [hlb] at h4
                cases h4
                exact ⟨(b2, e), List.mem_append_right _ (by simp), Int.le_refl _, Int.le_refl _⟩
          refine ⟨_, rfl, Nat.zero_le _, fun p2 hp2 => ⟨L, p2, ws, rfl, rfl, SqL.of (by rw [upd_ne (ne_of_none oL3.at_ hp2)]; exact oL3.at_), SqL.of upd_same, _, rfl, ?_⟩⟩
          have g5 := Grow.mine (T := No) (o := .lst []) g3.sub hp2
          have oL5 := oL3.grow g5
          have od5 := od3.grow g5
          have hget5 : DGet (upd H4 p2 (.lst [])) d (.int b) (some (.int e)) := by
            have z := DGet.k (k := .inl b) od5.at_
            rw [valV_I, hlb] at z
            exact z
          rcases hcase with rfl | ⟨fr, l, rfl⟩
          · have ews : ws = [] := by cases hpr; rfl
            subst ews
            refine iteT ?_
            refine iteT ?_
            refine ⟨_, rfl, .inl ⟨rfl, _, SqL.of oL5.at_⟩, _, rfl, _, rfl, _, rfl, d, _, rfl, hget5, (by show 2 ≤ sizeLine; decide), fun t ht => ?_⟩
            refine ⟨L, _, _, rfl, rfl, by rw [upd_ne (ne_of_none oL5.at_ ht)]; exact oL5.at_, by decide, ?_⟩
            exact app (fun n z => nomatch z) _ g5 t ht
          · obtain ⟨w1, wr, ew, hwl⟩ : ∃ w1 wr, ws = wr ++ [w1] ∧ Rep.is I' w1 l := Paired.last hpr
            subst ew
            have eemp : (wr ++ [w1]).isEmpty = false := by simp
            rw [eemp]
            refine iteF ?_
            obtain ⟨la, l1, l2, rfl, hla, hl1, hl2⟩ := hwl
            cases hl1
            cases hl2
            refine ⟨_, rfl, _, rfl, d, _, rfl, hget5, _, rfl, _, rfl, L, _, _, _, rfl, rfl, SqL.of oL5.at_, atI_last _ _, la, _, 1, _, rfl, rfl, SqT.of (g5.sub _ _ (g5.view _ _ hla)), rfl, _, _, rfl, rfl, _, rfl, ?_⟩
            by_cases c : e < l.2
            · rw [decide_eq_true c]
              refine iteT ?_
              refine ⟨_, rfl, .inl ⟨rfl, _, SqL.of oL5.at_⟩, _, rfl, _, rfl, _, rfl, d, _, rfl, hget5, (by show 2 ≤ sizeLine; decide), fun t ht => ?_⟩
              refine ⟨L, _, _, rfl, rfl, by rw [upd_ne (ne_of_none oL5.at_ ht)]; exact oL5.at_, ?_, ?_⟩
              · have h5 := Nw.Paired.len hpr
                have h6 := Nw.Paired.len hp
                rw [h5, sizeLine_eq]
                rw [List.length_reverse] at hjl
                omega
              · refine app (fun n hn => ?_) _ g5 t ht
                rcases List.mem_append.mp hn with z | z
                · have := (List.pairwise_append.mp hasc).2.2 n z l (by simp)
                  omega
                · rw [List.mem_singleton] at z
                  rw [z]
                  exact c
            · rw [decide_eq_false c]
              refine iteF ?_
              refine ⟨I', fr ++ [l], _, _, rfl, g3.trans g5, od5, oq3.grow g5, oL5, hpr, by omega, hasc, fun n hn => ⟨(hsub n hn).1, (mem_take hb).mpr (.inl (hsub n hn).2)⟩, fun b2 hb2 e2 he2 => ?_⟩
              rcases (mem_take hb).mp hb2 with z | rfl
              · exact hcov b2 z e2 he2
              · have h4 := hlk b2 e2 he2
                rw [hlb] at h4
                cases h4
                exact ⟨l, by simp, Int.le_of_lt (hlt l.1 (hsub l (by simp)).2), by omega⟩
        · rintro σ H3 ⟨I', fs, ws, v2', rfl, g3, od3, oq3, oL3, hpr, hfl, hasc, hsub, hcov⟩
          refine ⟨_, rfl, L, _, rfl, SqL.of oL3.at_, fun p2 hp2 => ?_⟩
          refine ⟨p2, _, rfl, .inl ⟨SqL.of upd_same, fun l hl2 => ?_⟩⟩
          have g4 := g3.trans (Grow.mine (T := No) (o := .lst ws.reverse) g3.sub hp2)
          have g5 := g4.trans (Grow.new (T := No) (o := .tup ws.reverse) g4.sub hl2)
          rw [List.length_map, List.take_length] at hsub hcov
          refine k fs.reverse _ _ _ g5 ⟨l, ws.reverse, rfl, upd_same, Paired.mono' (fun _ _ z => Rep.mono (Same.up (g4.sub.free hl2)) z) (Paired.rev hpr)⟩ ⟨?_, fun n hn => ?_, fun r hr => ?_⟩
          · rw [List.pairwise_reverse]
            exact hasc
          · exact h1 n (hsub n (List.mem_reverse.mp hn)).1
          · obtain ⟨e, he, hle⟩ := h2 r hr
            have hb : r.1 ∈ ks.reverse := List.mem_reverse.mpr (perm.mem_iff.mpr (List.mem_map.mpr ⟨_, he, rfl⟩))
            obtain ⟨n, hn, q1, q2⟩ := hcov r.1 hb e he
            exact ⟨n, List.mem_reverse.mpr hn, q1, by omega⟩
end
end Nw

namespace Nw
open PySem PySem.Spec PyProof.Rows L2
/-! ### links made of any value -/
def TX (x : Addr) : Addr → Prop := fun b => b = x
def Dt.ride : Dt → Int × Int
  | .sq true [.int b, .int e] => (b, e)
  | _ => (0, 0)
theorem ride_of {x : Dt} (h : x.isRide = true) : ∃ b e, x = .sq true [.int b, .int e] ∧ b ≤ e := by
  match x, h with
  | .sq true [.int b, .int e], h => exact ⟨b, e, rfl, of_decide_eq_true h⟩
theorem isE.ride {K : PySem.W.Frag} {I : Hp} {v : V} {x : Dt} (h : isE K I v x) (r : x.isRide = true) : Rep.is I v x.ride := by
  obtain ⟨b, e, rfl, _⟩ := ride_of r
  obtain ⟨a, vs, rfl, ha, es⟩ := h.inv
  match vs, es.len, es with
  | [v0, v1], _, es =>
    have e0 : v0 = .int b := by cases es.at_ 0 _ _ rfl rfl; rfl
    have e1 : v1 = .int e := by cases es.at_ 1 _ _ rfl rfl; rfl
    subst e0 e1
    exact ⟨a, _, _, rfl, ha, rfl, rfl⟩
theorem es_rides {K : PySem.W.Frag} {I : Hp} : ∀ {ws : List V} {xs : List Dt}, Es K I ws xs → (∀ x ∈ xs, x.isRide = true) → Paired (Rep.is I) ws (xs.map Dt.ride)
  | [], [], _, _ => .nil
  | [], _ :: _, h, _ => absurd h.len (by simp)
  | _ :: _, [], h, _ => absurd h.len (by simp)
  | w :: ws, x :: xs, h, r => .cons ((h.at_ 0 w x rfl rfl).ride (r x (List.mem_cons_self ..))) (es_rides ⟨Nat.succ.inj h.len, fun i u y h1 h2 => h.at_ (i + 1) u y h1 h2⟩ fun y hy => r y (List.mem_cons_of_mem _ hy))
theorem ride_dt {K : PySem.W.Frag} {I : Hp} {v : V} {r : Int × Int} (h : Rep.is I v r) : isE K I v (.sq true [.int r.1, .int r.2]) := by
  obtain ⟨a, v1, v2, rfl, ha, h1, h2⟩ := h
  cases h1
  cases h2
  exact .of (t := true) ha (.cons (.int _) (.cons (.int _) .nil))
theorem rides_es {K : PySem.W.Frag} {I : Hp} : ∀ {ws : List V} {rs : List (Int × Int)}, Paired (Rep.is I) ws rs → Es K I ws (rs.map fun r => .sq true [.int r.1, .int r.2])
  | _, _, .nil => .nil
  | _, _, .cons h t => .cons (ride_dt h) (rides_es t)
theorem rides_back (rs : List (Int × Int)) : (rs.map fun r => (Dt.sq true [.int r.1, .int r.2])).map Dt.ride = rs := by
  rw [List.map_map]
  exact List.map_id' rs
def badR (xs : List Dt) (i : Nat) : Prop := i = 60 ∨ ∃ x, xs[i]? = some x ∧ x.isRide = false
def DueR (xs : List Dt) : Option Nat → Prop
  | none => ∀ i, i < xs.length → ¬ badR xs i
  | some i => i < xs.length ∧ badR xs i ∧ ∀ k, k < i → ¬ badR xs k
theorem least {p : Nat → Prop} : ∀ n : Nat, p n → ∃ i, i ≤ n ∧ p i ∧ ∀ j, j < i → ¬ p j := by
  intro n
  induction n using Nat.strongRecOn with
  | _ n ih =>
    intro h
    by_cases e : ∃ m, m < n ∧ p m
    · obtain ⟨m, hm, pm⟩ := e
      obtain ⟨i, hi, z⟩ := ih m hm pm
      exact ⟨i, by omega, z⟩
    · exact ⟨n, Nat.le_refl _, h, fun j hj pj => e ⟨j, hj, pj⟩⟩
theorem dueR_ex (xs : List Dt) : ∃ o, DueR xs o := by
  by_cases b : ∃ i, i < xs.length ∧ badR xs i
  · obtain ⟨n, hn, hb⟩ := b
    obtain ⟨i, hi, bi, h⟩ := least n hb
    exact ⟨some i, by omega, bi, h⟩
  · exact ⟨none, fun i hi h => b ⟨i, hi, h⟩⟩
theorem dueR_good {xs : List Dt} (h : DueR xs none) : xs.length ≤ 60 ∧ ∀ x ∈ xs, x.isRide = true := by
  refine ⟨?_, fun x hx => ?_⟩
  · by_cases c : 60 < xs.length
    · exact absurd (.inl rfl) (h 60 c)
    · omega
  · obtain ⟨i, hi⟩ := List.getElem?_of_mem hx
    cases e : x.isRide with
    | true => rfl
    | false => exact absurd (.inr ⟨x, hi, e⟩) (h i (List.getElem?_eq_some_iff.mp hi).1)
theorem dueR_of {rs : List (Int × Int)} (h : rs.length ≤ 60) (v : ∀ r ∈ rs, r.1 ≤ r.2) : DueR (rs.map fun r => .sq true [.int r.1, .int r.2]) none := fun i hi z => by
  rw [List.length_map] at hi
  rcases z with z | ⟨x, hx, hr⟩
  · omega
  · rw [List.getElem?_map] at hx
    cases e : rs[i]? with
    | none => rw [e] at hx; cases hx
    | some r =>
      rw [e] at hx
      cases hx
      have h1 : decide (r.1 ≤ r.2) = false := hr
      exact absurd (v r (List.mem_of_getElem? e)) (of_decide_eq_false h1)
/-- what was given out for a call alone is one's own again -/
theorem Grow.undo {I H I' H' : Hp} {L : Addr} {o : HO} (ni : I L = none) (g : Grow No (upd I L o) H I' H') : Grow No I H (delH I' L) H' where
  view := fun b u e => by
    have ne : b ≠ L := fun z => by rw [z, ni] at e; cases e
    rw [delH_ne ne]
    exact g.view b u (by rw [upd_ne ne]; exact e)
  sub := fun b u e => by
    by_cases ne : b = L
    · rw [ne, delH_same] at e
      cases e
    · rw [delH_ne ne] at e
      exact g.sub b u e
  keep := g.keep
  live := g.live
  fresh := fun b e n => by
    by_cases ne : b = L
    · rw [ne, delH_same]
    · rw [delH_ne ne]
      exact g.fresh b (by rw [upd_ne ne]; exact e) n
  tbl := fun b ps e => by
    by_cases ne : b = L
    · rw [ne, delH_same] at e
      cases e
    · rw [delH_ne ne] at e
      have z := g.tbl b ps e
      rw [upd_ne ne] at z
      exact z
theorem isU.undo {I' : Hp} {L : Addr} {ws : List V} {v : V} {ns : List (Int × Int)} (hL : I' L = some (.lst ws)) (h : isU I' v ns) : isU (delH I' L) v ns := by
  obtain ⟨a, vs, rfl, ha, hp⟩ := h
  have na : a ≠ L := fun z => by rw [z, hL] at ha; cases ha
  refine ⟨a, vs, rfl, by rw [delH_ne na]; exact ha, Paired.mono' (fun v r q => ?_) hp⟩
  obtain ⟨b, v1, v2, e, hb, h1, h2⟩ := q
  have nb : b ≠ L := fun z => by rw [z, hL] at hb; cases hb
  exact ⟨b, v1, v2, e, by rw [delH_ne nb]; exact hb, h1, h2⟩
def linkOut (K : PySem.W.Frag) (I H : Hp) (x dx : Addr) (rs : List (Int × Int)) (o : Option Nat) (Q : VK) (E : XK) : Prop := match o with
  | none => ∀ ns t I' H', Grow (TX x) I H I' H' → H' x = some (.ins (He.ga K "Link") dx [("own_rides", t)]) → isU I' t ns → IsNeeded rs ns → Q .non H'
  | some i => outF (He.ga K "NoRides") [("at", .int (i : Nat))] E I H
def sp_Link__init (K : PySem.W.Frag) : Sp := fun _ _ _ _ => False
def spb_Link__init (K : PySem.W.Frag) : Sp := fun vs H Q E => ∃ (I : Hp) (x dx : Addr) (v : V) (o : Option Nat) (xs : List Dt), vs = [.ref x, v] ∧ H x = some (.ins (He.ga K "Link") dx []) ∧ I x = none ∧ Same I H ∧
  ((∃ d, isE K I v d ∧ (d.isLst || d.isTup) = false ∧ o = some 0) ∨ ∃ a t ws, v = .ref a ∧ a ≠ x ∧ H a = some (ho t ws) ∧ (I a = some (ho t ws) ∨ (t = false ∧ I a = none)) ∧ Es K I ws xs ∧ xs.length ≤ 1000 ∧ DueR xs o) ∧ linkOut K I H x dx (xs.map Dt.ride) o Q E
def isLink (K : PySem.W.Frag) (I : Hp) (v : V) (ns : List (Int × Int)) : Prop := ∃ a dx t, v = .ref a ∧ I a = some (.ins (He.ga K "Link") dx [("own_rides", t)]) ∧ isU I t ns
theorem isU.up' {I I' : Hp} {v : V} {ns : List (Int × Int)} (h : isU I v ns) (e : Same I I') : isU I' v ns := by
  obtain ⟨a, vs, h1, h2, h3⟩ := h
  exact ⟨a, vs, h1, e _ _ h2, Paired.mono' (fun _ _ z => Rep.mono e z) h3⟩
theorem isLink.up {K : PySem.W.Frag} {I I' : Hp} {v : V} {ns : List (Int × Int)} (h : isLink K I v ns) (e : Same I I') : isLink K I' v ns := by
  obtain ⟨a, dx, t, h1, h2, h3⟩ := h
  exact ⟨a, dx, t, h1, e _ _ h2, h3.up' e⟩
def sp_Link_rides (K : PySem.W.Frag) : Sp := fun vs H Q _ => ∃ (a dx : Addr) (t : V), vs = [.ref a] ∧ H a = some (.ins (He.ga K "Link") dx [("own_rides", t)]) ∧ Q t H
def sp_Link_end (K : PySem.W.Frag) : Sp := fun _ _ _ _ => False
def sp_Link_begin (K : PySem.W.Frag) : Sp := fun _ _ _ _ => False
def spb_Link_end (K : PySem.W.Frag) : Sp := fun vs H Q E => ∃ (I : Hp) (v u : V) (ns : Rides), vs = [v, u] ∧ isLink K I v ns ∧ ns.length ≤ 100000 ∧ Same I H ∧ ((∃ m : Mom, u = m.v ∧ ∀ I' H', Grow No I H I' H' → Q (endedL ns m).v H') ∨ ∃ x, isE K I u x ∧ x.isMom = false ∧ out0 (He.ga K "NoMoment") E I H)
def spb_Link_begin (K : PySem.W.Frag) : Sp := fun vs H Q E => ∃ (I : Hp) (v u : V) (ns : Rides), vs = [v, u] ∧ isLink K I v ns ∧ ns.length ≤ 100000 ∧ Same I H ∧ ((∃ m : Mom, u = m.v ∧ ∀ I' H', Grow No I H I' H' → Q (begunL ns m).v H') ∨ ∃ x, isE K I u x ∧ x.isMom = false ∧ out0 (He.ga K "NoMoment") E I H)
section
variable {P : Program} {w : World} {K : PySem.W.Frag} {mg : Str → Option Value} {base : Heap}
abbrev sp_NoRides__init (K : PySem.W.Frag) : Sp := spX1 K (He.ga K "NoRides") "at"
theorem ok_NoRides__init (T : Txt K mg) (F : FnAt K "__init__" "NoRides.__init__" s_NoRides__init (He.ma K (He.ga K "NoRides") "__init__")) : Ok P w K mg base CX0 1 (He.ma K (He.ga K "NoRides") "__init__") ["self", "at"] (spX1 K (He.ga K "NoRides") "at") := by
  refine ok_of F sc_NoRides__init (fun _ _ _ _ _ _ us hl => match us, hl with | [_, _], _ => rfl) (fun vs H Q E h => ?_) (fun cdv A outer s H vs Q E hr h => ?_)
  · obtain ⟨_, _, rfl, _⟩ := h
    rfl
  · obtain ⟨a, v, rfl, ha, k⟩ := h
    exact ⟨_, (pss_cons (ps_expr (pe_oeinit T.oe T.g_OrderError (pa_cons (pv 0) (pa_cons pe_str pa_nil))))
      (pss_one (ps_ost (pv 0) (pv 1)))), _, rfl, a, _, _, rfl, by simp, T.xo_NoRides, ha, _, rfl, _, rfl, a, _, rfl, T.xo_NoRides, T.na_NoRides_at, .inl ⟨ha, k⟩⟩
theorem ok_Link_rides (T : Txt K mg) (F : FnAt K "rides" "Link.rides" s_Link_rides (propGet K (He.ga K "Link") "rides"))  : Ok P w K mg base CX0 1 (propGet K (He.ga K "Link") "rides") ["self"] (sp_Link_rides K) := by
  refine ok_of F sc_Link_rides (fun _ _ _ _ _ _ us hl => match us, hl with | [_], _ => rfl) (fun vs H Q E h => ?_) (fun cdv A outer s H vs Q E hr h => ?_)
  · obtain ⟨_, _, _, rfl, _⟩ := h
    rfl
  · obtain ⟨a, dx, t, rfl, ha, k⟩ := h
    exact ⟨_, (pss_one (ps_ret (pe_fld (pv 0) rfl))), _, rfl, a, _, dx, _, _, rfl, ha, T.cl_Link, T.na_Link_own_rides, rfl, k⟩
theorem ok_Link_end (T : Txt K mg) (F : FnAt K "end" "Link.end" s_Link_end (He.ma K (He.ga K "Link") "end"))  : Ok P w K mg base CX0 4 (He.ma K (He.ga K "Link") "end") ["self", "moment"] (sp_Link_end K) := by
  refine ok_of F sc_Link_end (fun _ _ _ _ _ _ us hl => match us, hl with | [_, _], _ => rfl) (fun vs H Q E h => ?_) (fun cdv A outer s H vs Q E hr h => ?_)
  · exact h.elim
  · exact h.elim
theorem ok_Link_begin (T : Txt K mg) (F : FnAt K "begin" "Link.begin" s_Link_begin (He.ma K (He.ga K "Link") "begin"))  : Ok P w K mg base CX0 4 (He.ma K (He.ga K "Link") "begin") ["self", "moment"] (sp_Link_begin K) := by
  refine ok_of F sc_Link_begin (fun _ _ _ _ _ _ us hl => match us, hl with | [_, _], _ => rfl) (fun vs H Q E h => ?_) (fun cdv A outer s H vs Q E hr h => ?_)
  · exact h.elim
  · exact h.elim
theorem okb_Link_end (T : Txt K mg) (F : FnAt K "end" "Link.end" s_Link_end (He.ma K (He.ga K "Link") "end")) (GX_need_moment : Ok P w K mg base (L2.CX P w) 3 (He.ga K "need_moment") ["moment"] (fun vs H Q E => sp_need_moment K vs H Q E ∨ spb_need_moment K vs H Q E)) (G_ended : Ok P w K mg base CX0 1 (He.ga K "ended") ["rides", "moment"] (sp_ended K)) : Ok P w K mg base (L2.CX P w) 4 (He.ma K (He.ga K "Link") "end") ["self", "moment"] (spb_Link_end K) := by
  refine ok_ofX F sc_Link_end (fun _ _ _ _ _ _ us hl => match us, hl with | [_, _], _ => rfl) (fun vs H Q E h => ?_) (fun cdv A outer s H vs Q E hr h => ?_)
  · obtain ⟨_, _, _, _, rfl, _⟩ := h
    rfl
  · obtain ⟨I, v, u, ns, rfl, ⟨a, dx, t, rfl, ha, hu⟩, hz, sb, hm⟩ := h
    refine ⟨_, (pss_cons (ps_expr (pe_callX GX_need_moment (hr.mono (by decide)) T.g_need_moment passE (pa_cons (pv 1) pa_nil)))
      (pss_one (ps_ret (pe_callC G_ended (hr.mono (by decide)) T.g_ended (pa_cons (pe_fld (pv 0) rfl) (pa_cons (pv 1) pa_nil)))))), ?_⟩
    rcases hm with ⟨m, rfl, k⟩ | ⟨x, hx, hn, k⟩
    · exact ⟨_, rfl, .inl ⟨I, m, rfl, sb, fun I1 H1 g1 => ⟨_, rfl, a, _, dx, _, _, rfl, g1.sub _ _ (g1.view _ _ ha), T.cl_Link, T.na_Link_own_rides, rfl, _, rfl, I1, t, ns, m, rfl, hu.up' g1.view, hz, g1.sub, fun I2 H2 g2 => k I2 H2 (g1.trans g2)⟩⟩⟩
    · exact ⟨_, rfl, .inr ⟨I, u, x, rfl, hx, hn, sb, k⟩⟩
theorem okb_Link_begin (T : Txt K mg) (F : FnAt K "begin" "Link.begin" s_Link_begin (He.ma K (He.ga K "Link") "begin")) (GX_need_moment : Ok P w K mg base (L2.CX P w) 3 (He.ga K "need_moment") ["moment"] (fun vs H Q E => sp_need_moment K vs H Q E ∨ spb_need_moment K vs H Q E)) (G_begun : Ok P w K mg base CX0 1 (He.ga K "begun") ["rides", "moment"] (sp_begun K)) : Ok P w K mg base (L2.CX P w) 4 (He.ma K (He.ga K "Link") "begin") ["self", "moment"] (spb_Link_begin K) := by
  refine ok_ofX F sc_Link_begin (fun _ _ _ _ _ _ us hl => match us, hl with | [_, _], _ => rfl) (fun vs H Q E h => ?_) (fun cdv A outer s H vs Q E hr h => ?_)
  · obtain ⟨_, _, _, _, rfl, _⟩ := h
    rfl
  · obtain ⟨I, v, u, ns, rfl, ⟨a, dx, t, rfl, ha, hu⟩, hz, sb, hm⟩ := h
    refine ⟨_, (pss_cons (ps_expr (pe_callX GX_need_moment (hr.mono (by decide)) T.g_need_moment passE (pa_cons (pv 1) pa_nil)))
      (pss_one (ps_ret (pe_callC G_begun (hr.mono (by decide)) T.g_begun (pa_cons (pe_fld (pv 0) rfl) (pa_cons (pv 1) pa_nil)))))), ?_⟩
    rcases hm with ⟨m, rfl, k⟩ | ⟨x, hx, hn, k⟩
    · exact ⟨_, rfl, .inl ⟨I, m, rfl, sb, fun I1 H1 g1 => ⟨_, rfl, a, _, dx, _, _, rfl, g1.sub _ _ (g1.view _ _ ha), T.cl_Link, T.na_Link_own_rides, rfl, _, rfl, I1, t, ns, m, rfl, hu.up' g1.view, hz, g1.sub, fun I2 H2 g2 => k I2 H2 (g1.trans g2)⟩⟩⟩
    · exact ⟨_, rfl, .inr ⟨I, u, x, rfl, hx, hn, sb, k⟩⟩
theorem ok_Link__init (T : Txt K mg) (F : FnAt K "__init__" "Link.__init__" s_Link__init (He.ma K (He.ga K "Link") "__init__"))  : Ok P w K mg base CX0 3 (He.ma K (He.ga K "Link") "__init__") ["self", "rides"] (sp_Link__init K) := by
  refine ok_of F sc_Link__init (fun _ _ _ _ _ _ us hl => match us, hl with | [_, _], _ => rfl) (fun vs H Q E h => ?_) (fun cdv A outer s H vs Q E hr h => ?_)
  · exact h.elim
  · exact h.elim
theorem okb_Link__init (T : Txt K mg) (F : FnAt K "__init__" "Link.__init__" s_Link__init (He.ma K (He.ga K "Link") "__init__")) (G_is_ride : Ok P w K mg base CX0 2 (He.ga K "is_ride") ["thing"] (sp_is_ride K)) (G_needed : Ok P w K mg base CX0 1 (He.ga K "needed") ["rides"] (sp_needed K)) (G_NoRides__init : Ok P w K mg base CX0 1 (He.ma K (He.ga K "NoRides") "__init__") ["self", "at"] (sp_NoRides__init K)) : Ok P w K mg base (L2.CX P w) 3 (He.ma K (He.ga K "Link") "__init__") ["self", "rides"] (spb_Link__init K) := by
  refine ok_ofX F sc_Link__init (fun _ _ _ _ _ _ us hl => match us, hl with | [_, _], _ => rfl) (fun vs H Q E h => ?_) (fun cdv A outer s H vs Q E hr h => ?_)
  · obtain ⟨_, _, _, _, _, _, rfl, _⟩ := h
    rfl
  · obtain ⟨I, x, dx, v, o, xs, rfl, hx, nx, sb, hv, out⟩ := h
    refine ⟨_, (pss_cons (ps_if (pt_not (pt_val (pe_callB call_isiT (by rfl) T.b_isinstance (by decide +kernel) (pa_cons (pv 1) (pa_cons (pe_tup (pa_cons (pe_bltn (v := .ty "list") rfl T.b_list (by decide +kernel) rfl) (pa_cons (pe_bltn (v := .ty "tuple") rfl T.b_tuple (by decide +kernel) rfl) pa_nil))) pa_nil))))) (pss_one (ps_raise rfl (takes_of rfl rfl rfl rfl) (pmk_oexC T.xo_NoRides T.m_NoRides___init__ G_NoRides__init (hr.mono (by decide)) T.g_NoRides (pa_cons pe_int pa_nil)))) pss_nil)
      (pss_cons (ps_for (passes_of rfl) rfl (pi_enumS (by rfl) T.b_enumerate (pa_cons (pv 1) pa_nil)) (pg_tup (by rfl) (pgs_cons (pg_name (i := 2) sc_Link__init.nd rfl (Or.inl rfl)) (pgs_cons (pg_name (i := 3) sc_Link__init.nd rfl (Or.inl rfl)) pgs_nil))) (pss_one (ps_if (PW.pt (pw_or (pt_cmpR op_eq (pv 2) (pe_gint T.c_MOST_RIDES) (nomark _)) (pw_or1 (pt_not (pt_val (pe_callC G_is_ride (hr.mono (by decide)) T.g_is_ride (pa_cons (pv 3) pa_nil))))))) (pss_one (ps_raise rfl (takes_of rfl rfl rfl rfl) (pmk_oexC T.xo_NoRides T.m_NoRides___init__ G_NoRides__init (hr.mono (by decide)) T.g_NoRides (pa_cons (pv 2) pa_nil)))) pss_nil)))
      (pss_one (ps_fld (pv 0) (pe_callC G_needed (hr.mono (by decide)) T.g_needed (pa_cons (pv 1) pa_nil)) rfl)))), ?_⟩
    rcases hv with ⟨d, hd, hk, rfl⟩ | ⟨a, tt, ws, rfl, nax, ha, hat, es, h1000, due⟩
    · refine ⟨_, rfl, by decide, fun p hp1 => ?_⟩
      have g1 : Grow No I H I (upd H p (.tup [V.ty "list", V.ty "tuple"])) := Grow.mine sb hp1
      obtain ⟨t, ty, ks⟩ := hd.ty g1.sub
      refine ⟨v, p, _, _, _, false, rfl, upd_same, .cons (.ty _) (.cons (.ty _) .nil), ty, ks.seq.trans (congrArg some hk), false, rfl, iteT ?_⟩
      exact mk1 fun dx hdx => out _ _ dx (g1.trans (Grow.mine g1.sub hdx)) upd_same
    refine ⟨_, rfl, by decide, fun p hp1 => ?_⟩
    have g1 : Grow No I H I (upd H p (.tup [V.ty "list", V.ty "tuple"])) := Grow.mine sb hp1
    obtain ⟨nty, hty, hkit⟩ := ty_seq (K := K) (t := tt) (a := a) (vs := ws) (g1.same _ _ ha)
    refine ⟨.ref a, p, _, _, _, true, rfl, upd_same, .cons (.ty _) (.cons (.ty _) .nil), hty, hkit, true, rfl, iteF ?_⟩
    have hx1 := g1.same _ _ hx
    have ha1 := g1.same _ _ ha
    generalize upd H p (.tup [V.ty "list", V.ty "tuple"]) = H1 at g1 hx1 ha1 ⊢
    refine ⟨_, rfl, a, tt, ws, rfl, SqB.of ha1, ?_⟩
    have hlen := es.len
    refine for_it walk_enumS (fun i σ H' => ∃ (v2 v3 : Option V), σ = [some (.ref x), some (.ref a), v2, v3] ∧ Grow No I H1 I H' ∧ ∀ i0, o = some i0 → i ≤ i0) ⟨none, none, rfl, Grow.refl g1.sub, fun _ _ => Nat.zero_le _⟩ (fun i σ H' _ ⟨_, _, _, g, _⟩ => SqB.of (g.same _ _ ha1)) ?_ ?_
    · rintro i y σ H2 H3 hi ⟨v2, v3, rfl, g, hle⟩ ⟨t, y1, y2, rfl, ht, rfl, e1, hy⟩
      cases e1
      obtain ⟨d, hd, hde⟩ := es.mem hy
      have hil : i < xs.length := (List.getElem?_eq_some_iff.mp hd).1
      have g2 := g.trans (Grow.mine (T := No) (o := .tup [.int (i : Nat), y2]) g.sub ht)
      have stop : badR xs i → ∀ {H4 : Hp}, Grow No I H1 I H4 → ∀ dx, H4 dx = none → E (.ref (He.ga K "NoRides")) (some dx) (upd H4 dx (.xd [("at", .int (i : Nat))])) := fun hb H4 g4 dx hdx => by
        cases o with
        | none => exact absurd hb (due i hil)
        | some i0 =>
          have h := hle i0 rfl
          by_cases e : i = i0
          · subst e
            exact out _ _ dx ((g1.trans g4).trans (Grow.mine g4.sub hdx)) upd_same
          · exact absurd hb (due.2.2 i (by omega))
      refine ⟨t, _, rfl, SqT.of upd_same, rfl, _, _, rfl, _, _, rfl, rfl, ?_⟩
      refine ⟨_, rfl, rfl, _, rfl, ?_⟩
      by_cases e60 : i = 60
      · subst e60
        rw [show decide (V.int ((60 : Nat) : Int) = V.int 60) = true from decide_eq_true rfl]
        exact iteT (iteT ⟨_, rfl, mk1 fun dx hdx => stop (.inl rfl) g2 dx hdx⟩)
      · have hne : ¬ (V.int ((i : Nat) : Int) = V.int 60) := fun z => by
          have := V.int.inj z
          omega
        rw [decide_eq_false hne]
        refine iteF ⟨_, rfl, I, y2, d, rfl, hde, g2.sub, _, rfl, ?_⟩
        cases hm : d.isRide with
        | false => exact iteT ⟨_, rfl, mk1 fun dx hdx => stop (.inr ⟨d, hd, hm⟩) g2 dx hdx⟩
        | true =>
          refine iteF ⟨_, _, rfl, g2, fun i0 e => ?_⟩
          have h := hle i0 e
          subst e
          by_cases z : i = i0
          · subst z
            rcases due.2.1 with q | ⟨d', h1, h2⟩
            · exact absurd q e60
            · rw [hd] at h1
              cases h1
              rw [hm] at h2
              cases h2
          · omega
    · rintro σ H2 ⟨v2, v3, rfl, g, hle⟩
      have none_ : o = none := by
        cases o with
        | none => rfl
        | some i0 =>
          have h1 := hle i0 rfl
          have h2 := due.1
          omega
      subst none_
      obtain ⟨h60, hr⟩ := dueR_good due
      have g2 := g1.trans g
      have ha2 := g.same _ _ ha1
      have hx2 := g.same _ _ hx1
      have pr := es_rides es hr
      have fin : ∀ (ns : Rides) (t : V) (I3 H3 : Hp), Grow No I H2 I3 H3 → isU I3 t ns → IsNeeded (xs.map Dt.ride) ns → Q .non (upd H3 x (.ins (He.ga K "Link") dx [("own_rides", t)])) := fun ns t I3 H3 g3 hu hn => by
        have g4 := g2.trans g3
        have n5 : I3 x = none := g4.fresh x nx (by rw [hx]; exact fun z => nomatch z)
        exact out ns t I3 _ (g4.no.chg rfl n5) upd_same hu hn
      rcases hat with hat | ⟨rfl, ni⟩
      · refine ⟨_, rfl, I, tt, .ref a, xs.map Dt.ride, rfl, ⟨a, ws, rfl, hat, pr⟩, by rw [List.length_map]; omega, g.sub, fun ns t I3 H3 g3 hu hn => ?_⟩
        exact ⟨_, rfl, x, _, dx, _, rfl, g3.same _ _ hx2, T.cl_Link, T.na_Link_own_rides, (by show 0 < 1000; decide), fin ns t I3 H3 g3 hu hn⟩
      · have sub2 : Same (upd I a (.lst ws)) H2 := fun b u e => by
          by_cases q : b = a
          · subst q
            rw [upd_same] at e
            cases e
            exact ha2
          · rw [upd_ne q] at e
            exact g.sub b u e
        have pr2 : Paired (Rep.is (upd I a (.lst ws))) ws (xs.map Dt.ride) := Paired.mono' (fun _ _ z => Rep.mono (Same.up ni) z) pr
        refine ⟨_, rfl, upd I a (.lst ws), false, .ref a, xs.map Dt.ride, rfl, ⟨a, ws, rfl, upd_same, pr2⟩, by rw [List.length_map]; omega, sub2, fun ns t I3 H3 g3 hu hn => ?_⟩
        exact ⟨_, rfl, x, _, dx, _, rfl, g3.same _ _ hx2, T.cl_Link, T.na_Link_own_rides, (by show 0 < 1000; decide), fin ns t _ H3 (Grow.undo ni g3) (isU.undo (g3.view _ _ upd_same) hu) hn⟩
end
end Nw

namespace Nw
open PySem PySem.Spec PyProof.Rows L2
/-! ### draws of the law -/
abbrev sp_l_next (K : PySem.W.Frag) : Sp := spNext
abbrev sp_l_begun (K : PySem.W.Frag) : Sp := spBegun K
def sp_l_pick (K : PySem.W.Frag) : Sp := fun vs H Q _ => ∃ (I : Hp) (D : DA) (n : Nat) (v : V), vs = [.ref D.d, v] ∧ Drw D n I H ∧ n < lim ∧
  ((∃ p xs, v = .ref p ∧ ¬ TD D p ∧ H p = some (.lst xs) ∧ xs ≠ [] ∧ xs.length ≤ 1000000 ∧ ∀ (j : Nat) x H', xs[j]? = some x → Grow (TD D) I H I H' → Drw D (n + 1) I H' → Q x H') ∨
   (∃ l, v = .str (mk l) ∧ l ≠ [] ∧ l.length ≤ 1000000 ∧ ∀ (j : Nat) c H', l[j]? = some c → Grow (TD D) I H I H' → Drw D (n + 1) I H' → Q (.str (sg c)) H'))
def sp_l_rides (K : PySem.W.Frag) : Sp := fun vs H Q _ => ∃ (I : Hp) (D : DA) (n many wide : Nat), vs = [.ref D.d, .int many, .int wide] ∧ Drw D n I H ∧ n + 4 * many + 4 < lim ∧ many ≤ 1000 ∧ 1 ≤ wide ∧ wide ≤ 1000000 ∧
  ∀ (rs : Rides) v I' H', rs.length ≤ many → (∀ r ∈ rs, r.1 ≤ r.2 ∧ r.1.natAbs < 5000000 ∧ r.2.natAbs < 5000000) → Grow (TD D) I H I' H' → isL I' v rs → Drw D (n + 4 * many + 4) I' H' → Q v H'
def smallM : Mom → Prop
  | .num t => t.natAbs < 10000000
  | _ => True
def sp_l_moment (K : PySem.W.Frag) : Sp := fun vs H Q _ => ∃ (I : Hp) (D : DA) (n wide : Nat), vs = [.ref D.d, .int wide] ∧ Drw D n I H ∧ n + 6 < lim ∧ 1 ≤ wide ∧ wide ≤ 1000000 ∧
  ∀ (m : Mom) I' H', smallM m → Grow (TD D) I H I' H' → Drw D (n + 6) I' H' → Q m.v H'
theorem atI_of {α : Type} {xs : List α} {r : Int} (h0 : 0 ≤ r) (h1 : r < xs.length) : ∃ x, xs[r.toNat]? = some x ∧ atI xs r = some x := by
  have hlt : r.toNat < xs.length := by omega
  refine ⟨xs[r.toNat], List.getElem?_eq_getElem hlt, ?_⟩
  rw [atI_nat' (j := r.toNat) (by omega)]
  exact List.getElem?_eq_getElem hlt
def sp_l_shuffled (K : PySem.W.Frag) : Sp := fun vs H Q _ => ∃ (α : Type) (f : α → V) (I : Hp) (D : DA) (n : Nat) (p : Addr) (l : List α), vs = [.ref D.d, .ref p] ∧ Drw D n I H ∧ n + l.length < lim ∧ l.length ≤ 1000 ∧ SqL K H p (l.map f) ∧
  ∀ (l' : List α) q I' H', l'.Perm l → Grow (TD D) I H I' H' → Drw D (n + l.length) I' H' → I' q = some (.lst (l'.map f)) → Q (.ref q) H'
theorem idx_of {k : Int} {n : Nat} (h0 : 0 ≤ k) (hn : k < n) : seqIndex? k n = some k.toNat := by
  unfold seqIndex?
  split <;> simp_all
  all_goals omega
theorem perm_erase {α : Type} : ∀ {l : List α} {i : Nat} (h : i < l.length), (l[i] :: l.eraseIdx i).Perm l
  | [], _, h => absurd h (Nat.not_lt_zero _)
  | _ :: _, 0, _ => List.Perm.refl _
  | x :: r, i + 1, h => by
    show ((r[i]'(Nat.lt_of_succ_lt_succ h)) :: x :: r.eraseIdx i).Perm (x :: r)
    exact (List.Perm.swap _ _ _).trans ((perm_erase (Nat.lt_of_succ_lt_succ h)).cons x)
theorem map_erase {α β : Type} (f : α → β) : ∀ (l : List α) (i : Nat), (l.map f).eraseIdx i = (l.eraseIdx i).map f
  | [], _ => rfl
  | _ :: _, 0 => rfl
  | x :: r, i + 1 => congrArg (f x :: ·) (map_erase f r i)
def IsEnd (rs : Rides) (m x : Mom) : Prop := match m with
  | .num t => (x = .last ∧ ∀ q ∈ rs, ¬ t ≤ q.1) ∨ ∃ e, x = .num e ∧ (∃ r ∈ rs, t ≤ r.1 ∧ r.2 = e) ∧ ∀ q ∈ rs, t ≤ q.1 → e ≤ q.2
  | .first => x = .first
  | .last => x = .last
def sp_l_end (K : PySem.W.Frag) : Sp := fun vs H Q _ => ∃ (I : Hp) (v : V) (rs : Rides) (m : Mom), vs = [v, m.v] ∧ isL I v rs ∧ rs.length ≤ 100000 ∧ Same I H ∧ ∀ x I' H', Grow No I H I' H' → IsEnd rs m x → Q x.v H'
def IsBegin (rs : Rides) (m x : Mom) : Prop := match m with
  | .num t => (x = .first ∧ ∀ q ∈ rs, ¬ q.2 ≤ t) ∨ ∃ e, x = .num e ∧ (∃ r ∈ rs, r.2 ≤ t ∧ r.1 = e) ∧ ∀ q ∈ rs, q.2 ≤ t → q.1 ≤ e
  | .first => x = .first
  | .last => x = .last
def sp_l_begin (K : PySem.W.Frag) : Sp := fun vs H Q _ => ∃ (I : Hp) (v : V) (rs : Rides) (m : Mom), vs = [v, m.v] ∧ isL I v rs ∧ rs.length ≤ 100000 ∧ Same I H ∧ ∀ x I' H', Grow No I H I' H' → IsBegin rs m x → Q x.v H'
section
variable {P : Program} {w : World} {K : PySem.W.Frag} {mg : Str → Option Value} {base : Heap}
theorem ok_l_pick (T : Txt K mg) (F : FnAt K "_law_pick" "_law_pick" s_l_pick (He.ga K "_law_pick")) (G_l_next : Ok P w K mg base CX0 1 (He.ga K "_law_next") ["_law_draw", "_law_many"] (sp_l_next K)) : Ok P w K mg base CX0 2 (He.ga K "_law_pick") ["_law_draw", "_law_some"] (sp_l_pick K) := by
  refine ok_of F sc_l_pick (fun _ _ _ _ _ _ us hl => match us, hl with | [_, _], _ => rfl) (fun vs H Q E h => ?_) (fun cdv A outer s H vs Q E hr h => ?_)
  · obtain ⟨_, _, _, _, rfl, _⟩ := h
    rfl
  · obtain ⟨I, D, n, v, rfl, dr, hn, k⟩ := h
    refine ⟨_, (pss_one (ps_ret (pe_ix ix_seq (pv 1) (pe_callC G_l_next (hr.mono (by decide)) T.g__law_next (pa_cons (pv 0) (pa_cons (pe_callB call_len (by rfl) T.b_len (by decide +kernel) (pa_cons (pv 1) pa_nil)) pa_nil))) (fun _ _ => rfl)))), ?_⟩
    rcases k with ⟨p, xs, rfl, ht, hp, hne, hz, k⟩ | ⟨l, rfl, hne, hz, k⟩
    · have hpos : 0 < xs.length := List.length_pos_iff.mpr hne
      refine ⟨_, rfl, _, rfl, _, rfl, _, _, rfl, .inl ⟨xs, SqL.of hp, rfl⟩, I, D, n, _, rfl, dr, by omega, by omega, hn, fun r H' h0 h1 g d => ?_⟩
      obtain ⟨x, e1, e2⟩ := atI_of h0 h1
      exact .inl ⟨p, xs, r, x, rfl, rfl, SqL.of (g.keep p _ ht hp), e2, k _ x H' e1 g d⟩
    · have hpos : 0 < l.length := List.length_pos_iff.mpr hne
      refine ⟨_, rfl, _, rfl, _, rfl, _, _, rfl, ⟨by rw [mk_len, sizeLine_eq]; omega, (mk_len l).symm⟩, I, D, n, _, rfl, dr, by omega, by omega, hn, fun r H' h0 h1 g d => ?_⟩
      obtain ⟨x, e1, e2⟩ := atI_of h0 h1
      exact .inr (.inr ⟨mk l, r, x, rfl, rfl, by rw [mk_len, sizeLine_eq]; omega, by rw [mk_cps]; exact e2, k _ x H' e1 g d⟩)
theorem ok_l_rides (T : Txt K mg) (F : FnAt K "_law_rides" "_law_rides" s_l_rides (He.ga K "_law_rides")) (G_l_next : Ok P w K mg base CX0 1 (He.ga K "_law_next") ["_law_draw", "_law_many"] (sp_l_next K)) : Ok P w K mg base CX0 2 (He.ga K "_law_rides") ["_law_draw", "_law_many", "_law_wide"] (sp_l_rides K) := by
  refine ok_of F sc_l_rides (fun _ _ _ _ _ _ us hl => match us, hl with | [_, _, _], _ => rfl) (fun vs H Q E h => ?_) (fun cdv A outer s H vs Q E hr h => ?_)
  · obtain ⟨_, _, _, _, _, rfl, _⟩ := h
    rfl
  · obtain ⟨I, D, n, many, wide, rfl, dr, hn, hm, hw0, hw1, k⟩ := h
    refine ⟨_, (pss_cons (ps_set (i := 3) sc_l_rides.nd rfl (Or.inl rfl) (pe_lst pa_nil))
      (pss_cons (ps_for PassesOwn.never rfl (pi_range1 rfl T.b_range (pa_cons (pe_callC G_l_next (hr.mono (by decide)) T.g__law_next (pa_cons (pv 0) (pa_cons (pe_op op_add (pv 1) pe_int) pa_nil))) pa_nil)) (pg_name (i := 4) sc_l_rides.nd rfl (Or.inl rfl)) (pss_cons (ps_set (i := 5) sc_l_rides.nd rfl (Or.inl rfl) (pe_op op_sub (pe_callC G_l_next (hr.mono (by decide)) T.g__law_next (pa_cons (pv 0) (pa_cons (pe_op op_mul pe_int (pv 2)) pa_nil))) (pv 2)))
      (pss_one (ps_expr (pe_bm PySem.F.plainAttrs_list PySem.F.slot_list_append PySem.F.type_list_append mt_append (pv 3) (pa_cons (pe_tup (pa_cons (pv 5) (pa_cons (pe_op op_add (pv 5) (pe_op op_mul (pe_callC G_l_next (hr.mono (by decide)) T.g__law_next (pa_cons (pv 0) (pa_cons (pv 2) pa_nil))) (pe_callTy call_int1 (by rfl) T.b_int (by decide +kernel) (pa_cons (pe_cmpR op_gt (pe_callC G_l_next (hr.mono (by decide)) T.g__law_next (pa_cons (pv 0) (pa_cons pe_int pa_nil))) pe_int (nomark _)) pa_nil)))) pa_nil))) pa_nil))))))
      (pss_one (ps_ret (pv 3))))), ?_⟩
    refine ⟨Nat.zero_le _, fun L hL => ?_⟩
    have nt : ¬ TD D L := fun t => dr.live L t hL
    have g0 : Grow (TD D) I H I (upd H L (.lst [])) := Grow.mine dr.sub hL
    have ow0 : Own (TD D) H L (.lst []) I (upd H L (.lst [])) := Own.new dr.sub (.inl (Same.refl H)) dr.live hL
    refine ⟨_, rfl, _, rfl, _, _, rfl, rfl, I, D, n, _, rfl, dr.grow (Grow.mine dr.sub hL), by omega, by omega, by omega, fun r H1 h0 h1 g1 d1 => ?_⟩
    have gg := g0.trans g1
    have ow1 := ow0.grow g1
    refine ⟨r, rfl, by omega, by omega, ?_⟩
    refine for_it (walk_range (lo := 0) (n := r.toNat)) (fun i σ H' => ∃ (I' : Hp) (rs : Rides) (ws : List V) (v4 v5 : Option V), σ = [some (.ref D.d), some (.int many), some (.int wide), some (.ref L), v4, v5] ∧ Grow (TD D) I H I' H' ∧ Own (TD D) H L (.lst ws) I' H' ∧ Drw D (n + 1 + 3 * i) I' H' ∧ Paired (Rep.is I') ws rs ∧ rs.length = i ∧ (∀ r ∈ rs, r.1 ≤ r.2 ∧ r.1.natAbs < 5000000 ∧ r.2.natAbs < 5000000))
      ⟨I, [], [], none, none, rfl, gg, ow1, d1, .nil, rfl, fun _ z => nomatch z⟩ (fun _ _ _ _ _ => trivial) ?_ ?_
    · rintro i x σ H2 H3 hi ⟨I2, rs, ws, v4, v5, rfl, g2, ow2, d2, hp, hl, hr2⟩ ⟨rfl, rfl⟩
      have hir : (i : Int) < r := by omega
      have him : i ≤ many := by omega
      refine ⟨_, rfl, _, rfl, _, _, rfl, rfl, .inl ⟨by decide, by decide⟩, I2, D, n + 1 + 3 * i, 2 * (wide : Int), rfl, d2, by omega, by omega, by omega, fun b H4 hb0 hb1 g4 d4 => ?_⟩
      refine ⟨_, rfl, _, _, rfl, rfl, ?_⟩
      have ow4 := ow2.grow g4
      refine ⟨_, rfl, .inl ⟨rfl, _, SqL.of ow4.at_⟩, _, rfl, _, rfl, _, rfl, _, rfl, I2, D, n + 1 + 3 * i + 1, (wide : Int), rfl, d4, by omega, by omega, by omega, fun e H5 he0 he1 g5 d5 => ?_⟩
      refine ⟨_, rfl, I2, D, n + 1 + 3 * i + 1 + 1, 4, rfl, d5, by decide, by decide, by omega, fun z H6 hz0 hz1 g6 d6 => ?_⟩
      refine ⟨_, _, rfl, rfl, .inr ⟨_, rfl, _, _, rfl, rfl, .inl ⟨by omega, by omega⟩, _, _, rfl, rfl, (by show 2 ≤ sizeLine; decide), fun t ht => ?_⟩⟩
      have ow6 := (ow4.grow g5).grow g6
      have gt : Grow (TD D) I2 H6 _ (upd H6 t (.tup [.int (b - wide), .int (b - wide + e * (if decide (0 < z) = true then 1 else 0))])) := Grow.new g6.sub ht
      have ow7 := ow6.grow gt
      have hf : (if decide (0 < z) = true then (1 : Int) else 0) = 1 ∨ (if decide (0 < z) = true then (1 : Int) else 0) = 0 := by split <;> simp
      have hval : b - wide ≤ b - wide + e * (if decide (0 < z) = true then 1 else 0) ∧ (b - wide).natAbs < 5000000 ∧ (b - wide + e * (if decide (0 < z) = true then 1 else 0)).natAbs < 5000000 := by
        rcases hf with q | q <;> rw [q] <;> omega
      have hlw : ws.length = i := by rw [Nw.Paired.len hp, hl]
      refine ⟨L, ws, _, rfl, rfl, ow7.at_, by rw [sizeLine_eq]; omega, _, rs ++ [(b - wide, b - wide + e * (if decide (0 < z) = true then 1 else 0))], ws ++ [.ref t], _, _, rfl, (((g2.trans g4).trans (g5.trans g6)).trans gt).put ow7, ow7.put, ((d6.grow (Grow.new g6.sub ht)).put ow7).mono (by omega), ?_, by simp [hl], fun r hr => ?_⟩
      · exact Paired.snoc (Paired.mono' (fun _ _ z => Rep.mono gt.view z) hp) ⟨t, _, _, rfl, upd_same, rfl, rfl⟩
      · rcases List.mem_append.mp hr with hr | hr
        · exact hr2 r hr
        · rw [List.mem_singleton] at hr
          subst hr
          exact hval
    · rintro σ H2 ⟨I2, rs, ws, v4, v5, rfl, g2, ow2, d2, hp, hl, hr2⟩
      refine ⟨_, rfl, k rs _ _ _ (by omega) hr2 (g2.give ow2) ⟨L, ws, rfl, upd_same, Paired.mono' (fun _ _ z => Rep.mono (Same.up ow2.ni) z) hp⟩ ((d2.give ow2).mono (by omega))⟩
theorem ok_l_moment (T : Txt K mg) (F : FnAt K "_law_moment" "_law_moment" s_l_moment (He.ga K "_law_moment")) (G_l_next : Ok P w K mg base CX0 1 (He.ga K "_law_next") ["_law_draw", "_law_many"] (sp_l_next K)) (G_l_pick : Ok P w K mg base CX0 2 (He.ga K "_law_pick") ["_law_draw", "_law_some"] (sp_l_pick K)) : Ok P w K mg base CX0 3 (He.ga K "_law_moment") ["_law_draw", "_law_wide"] (sp_l_moment K) := by
  refine ok_of F sc_l_moment (fun _ _ _ _ _ _ us hl => match us, hl with | [_, _], _ => rfl) (fun vs H Q E h => ?_) (fun cdv A outer s H vs Q E hr h => ?_)
  · obtain ⟨_, _, _, _, rfl, _⟩ := h
    rfl
  · obtain ⟨I, D, n, wide, rfl, dr, hn, hw0, hw1, k⟩ := h
    refine ⟨_, (pss_cons (ps_setLc (i := 2) (own := [("_law_turn", 3)]) (g := (gName 3)) rfl sc_l_moment.nd rfl rfl (sw_true rfl rfl rfl (by decide +kernel)) (pi_range1 rfl T.b_range (pa_cons pe_int pa_nil)) (blkOk_by (own := [("_law_turn", 3)]) (N := n_l_moment) (sc := defScope s_l_moment) (by decide +kernel)) (fun _ _ _ _ _ => (pg_name (i := 3) sc_l_moment.nd rfl (Or.inl rfl))) (fun _ _ _ _ _ => pts_nil) (fun _ _ _ _ _ => (pe_op op_sub (pe_op op_sub (pe_callC G_l_next (hr.mono (by decide)) T.g__law_next (pa_cons (pv 0) (pa_cons (pe_op op_mul pe_int (pv 1)) pa_nil))) (pv 1)) (pe_op op_fdiv (pv 1) pe_int))))
      (pss_one (ps_ret (pe_callC G_l_pick (hr.mono (by decide)) T.g__law_pick (pa_cons (pv 0) (pa_cons (pe_op op_cat (pv 2) (pe_lst (pa_cons pe_str (pa_cons pe_str pa_nil)))) pa_nil)))))), ?_⟩
    have hw : 0 ≤ (wide : Int) / 2 ∧ (wide : Int) / 2 ≤ wide := by omega
    refine ⟨4, rfl, by decide, by decide, fun L hL => ?_⟩
    refine lc_gen (T := TD D) (I := I) (β := Int) (walk_range (lo := 0) (n := 4)) (fun i => Drw D (n + i)) (fun _ => Stable.drw) dr.sub dr.live hL dr (by decide) (fun _ _ _ _ _ => trivial) (fun _ o => ∀ t, o = some t → t.natAbs < 10000000) ?_ ?_
    · rintro i x I1 H1 H2 hi g1 d1 ⟨rfl, rfl⟩ Kn Ky kn ky
      refine ⟨rfl, lc_yes ?_⟩
      refine ⟨_, rfl, _, rfl, _, _, rfl, rfl, .inl ⟨by decide, by decide⟩, I1, D, n + i, 3 * (wide : Int), rfl, d1, by omega, by omega, by omega, fun r H3 h0 h1 g2 d2 => ?_⟩
      refine ⟨_, rfl, _, _, rfl, rfl, _, rfl, _, _, rfl, rfl, ⟨by decide, by decide⟩, _, _, rfl, rfl, ?_⟩
      exact ky _ (fun t e => by cases e; omega) _ I1 H3 g2 d2 rfl
    · intro os I1 H1 vs' hlen hP g1 d1 ow hp
      have e1 := Paired.ints hp
      subst e1
      have hl4 : (os.filterMap id).length ≤ 4 := by rw [← hlen]; exact List.length_filterMap_le _ _
      refine ⟨_, rfl, _, rfl, by decide, fun p hp1 => ?_⟩
      have gp : Grow (TD D) I1 H1 I1 (upd H1 p (.lst [V.str "first", V.str "last"])) := Grow.mine g1.sub hp1
      have ow1 := ow.grow gp
      refine ⟨L, p, _, _, rfl, rfl, ow1.at_, upd_same, by simp [sizeLine_eq]; omega, fun q hq => ?_⟩
      have gq : Grow (TD D) I1 (upd H1 p (.lst [V.str "first", V.str "last"])) I1 (upd (upd H1 p (.lst [V.str "first", V.str "last"])) q (.lst ((os.filterMap id).map V.int ++ [V.str "first", V.str "last"]))) := Grow.mine gp.sub hq
      have d2 := (d1.grow (Grow.mine g1.sub hp1)).grow (Grow.mine (o := .lst ((os.filterMap id).map V.int ++ [V.str "first", V.str "last"])) gp.sub hq)
      refine ⟨I1, D, n + 4, _, rfl, d2, by omega, .inl ⟨q, _, rfl, fun t => (d1.grow (Grow.mine g1.sub hp1)).live q t hq, upd_same, by simp, by simp; omega, fun j x H' hx g3 d3 => ?_⟩⟩
      have hm : ∃ m : Mom, x = m.v ∧ smallM m := by
        rcases List.mem_append.mp (List.mem_of_getElem? hx) with z | z
        · obtain ⟨t, ht, rfl⟩ := List.mem_map.mp z
          obtain ⟨o, ho, he⟩ := List.mem_filterMap.mp ht
          obtain ⟨i, hi⟩ := List.getElem?_of_mem ho
          exact ⟨.num t, rfl, hP i o hi t he⟩
        · rcases List.mem_cons.mp z with rfl | z
          · exact ⟨.first, rfl, trivial⟩
          · rw [List.mem_singleton] at z
            exact ⟨.last, z, trivial⟩
      obtain ⟨m, rfl, hs⟩ := hm
      exact k m _ _ hs (((g1.trans gp).trans gq).trans g3) (d3.mono (by omega))
theorem ok_l_shuffled (T : Txt K mg) (F : FnAt K "_law_shuffled" "_law_shuffled" s_l_shuffled (He.ga K "_law_shuffled")) (G_l_next : Ok P w K mg base CX0 1 (He.ga K "_law_next") ["_law_draw", "_law_many"] (sp_l_next K)) : Ok P w K mg base CX0 2 (He.ga K "_law_shuffled") ["_law_draw", "_law_some"] (sp_l_shuffled K) := by
  refine ok_of F sc_l_shuffled (fun _ _ _ _ _ _ us hl => match us, hl with | [_, _], _ => rfl) (fun vs H Q E h => ?_) (fun cdv A outer s H vs Q E hr h => ?_)
  · obtain ⟨_, _, _, _, _, _, _, rfl, _⟩ := h
    rfl
  · obtain ⟨α, f, I, D, n, p, l, rfl, dr, hn, hl, hS, k⟩ := h
    refine ⟨_, (pss_cons (ps_par (i := 2) (j := 3) (by rfl) sc_l_shuffled.nd rfl rfl (by decide) rfl rfl (pa_cons (pe_callTy call_list_of (by rfl) T.b_list (by decide +kernel) (pa_cons (pv 1) pa_nil)) (pa_cons (pe_lst pa_nil) pa_nil)) (by rfl))
      (pss_cons (ps_while PassesOwn.never (pt_cmpR (op_neNil hr.units) (pv 2) (pe_lst pa_nil) (nomark _)) (pss_one (ps_expr (pe_bm PySem.F.plainAttrs_list PySem.F.slot_list_append PySem.F.type_list_append mt_append (pv 3) (pa_cons (pe_bm PySem.F.plainAttrs_list PySem.F.slot_list_pop PySem.F.type_list_pop mt_popAt (pv 2) (pa_cons (pe_callC G_l_next (hr.mono (by decide)) T.g__law_next (pa_cons (pv 0) (pa_cons (pe_callB call_len_seq (by rfl) T.b_len (by decide +kernel) (pa_cons (pv 2) pa_nil)) pa_nil))) pa_nil)) pa_nil)))))
      (pss_one (ps_ret (pv 3))))), ?_⟩
    refine ⟨_, rfl, p, _, rfl, .inl hS, fun a ha => ⟨Nat.zero_le _, fun b hb => ⟨_, _, rfl, ?_⟩⟩⟩
    have g1 : Grow (TD D) I H I (upd H a (.lst (l.map f))) := Grow.mine dr.sub ha
    have o1 : Own (TD D) H a (.lst (l.map f)) I (upd H a (.lst (l.map f))) := Own.new dr.sub (.inl (Same.refl H)) dr.live ha
    have g2 : Grow (TD D) I (upd H a (.lst (l.map f))) I (upd (upd H a (.lst (l.map f))) b (.lst [])) := Grow.mine g1.sub hb
    have o1' := o1.grow g2
    have o2 : Own (TD D) H b (.lst []) I (upd (upd H a (.lst (l.map f))) b (.lst [])) := Own.new g1.sub (.inr g1.live) (fun x t => g1.live x (dr.live x t)) hb
    have nab : a ≠ b := ne_of_none o1.at_ hb
    have d2 := (dr.grow (Grow.mine dr.sub ha)).grow (Grow.mine (o := .lst []) g1.sub hb)
    refine ⟨fun m σ H' => ∃ (lf fd : List α), m = lf.length ∧ σ = [some (.ref D.d), some (.ref p), some (.ref a), some (.ref b)] ∧ (fd ++ lf).Perm l ∧ Grow (TD D) I H I H' ∧ Own (TD D) H a (.lst (lf.map f)) I H' ∧ Own (TD D) H b (.lst (fd.map f)) I H' ∧ Drw D (n + fd.length) I H', ⟨_, l, [], rfl, rfl, by simp, g1.trans g2, o1', o2, d2⟩, ?_⟩
    rintro m σ H1 ⟨lf, fd, rfl, rfl, hp, g3, oa, ob, d3⟩
    refine ⟨_, rfl, Nat.zero_le _, fun q hq => ⟨a, q, _, rfl, rfl, SqL.of (by rw [upd_ne (ne_of_none oa.at_ hq)]; exact oa.at_), SqL.of upd_same, ?_⟩⟩
    have gq : Grow (TD D) I H1 I (upd H1 q (.lst [])) := Grow.mine g3.sub hq
    have oa2 := oa.grow gq
    have ob2 := ob.grow gq
    have d4 := d3.grow (Grow.mine (o := .lst []) g3.sub hq)
    have g4 := g3.trans gq
    have hlen := hp.length_eq
    rw [List.length_append] at hlen
    match lf, hp, oa, oa2, hlen with
    | [], hp, oa, oa2, hlen =>
      simp only [List.length_nil] at hlen
      exact ⟨_, rfl, iteF ⟨_, rfl, k fd b _ _ (by rw [List.append_nil] at hp; exact hp) (g4.give ob2) ((d4.give ob2).mono (by omega)) upd_same⟩⟩
    | x :: r, hp, oa, oa2, hlen =>
      simp only [List.length_cons] at hlen
      have e1 : (((x :: r).map f).length : Int) = ((r.length + 1 : Nat) : Int) := by simp
      refine ⟨_, rfl, iteT ⟨fun σ' H' => ∃ (lf fd' : List α), lf.length = r.length ∧ σ' = [some (.ref D.d), some (.ref p), some (.ref a), some (.ref b)] ∧ (fd' ++ lf).Perm l ∧ Grow (TD D) I H I H' ∧ Own (TD D) H a (.lst (lf.map f)) I H' ∧ Own (TD D) H b (.lst (fd'.map f)) I H' ∧ Drw D (n + fd'.length) I H',
        fun σ' H' ⟨lf, fd', e, z⟩ => ⟨lf.length, by simp only [List.length_cons]; omega, lf, fd', rfl, z⟩, ?_⟩⟩
      refine ⟨_, rfl, .inl ⟨rfl, _, SqL.of ob2.at_⟩, _, rfl, .inl ⟨rfl, _, SqL.of oa2.at_⟩, _, rfl, _, rfl, _, _, rfl, .inl (SqL.of oa2.at_), I, D, n + fd.length, _, rfl, d4, (by rw [e1]; omega), (by rw [e1]; omega), (by omega), fun z H5 h0 h1 g5 d5 => ?_⟩
      rw [e1] at h1
      have oa5 := oa2.grow g5
      have ob5 := ob2.grow g5
      have hz : z.toNat < (x :: r).length := by simp only [List.length_cons]; omega
      refine ⟨a, _, z, z.toNat, f ((x :: r)[z.toNat]'hz), rfl, rfl, oa5.at_, by omega, by omega, idx_of h0 (by rw [e1]; exact h1), by rw [List.getElem?_map, List.getElem?_eq_getElem hz]; rfl, ?_⟩
      have ob6 := ob5.other (m := a) (o' := .lst (((x :: r).map f).eraseIdx z.toNat)) nab.symm
      refine ⟨b, _, _, rfl, rfl, ob6.at_, by rw [sizeLine_eq]; simp; omega, (x :: r).eraseIdx z.toNat, fd ++ [(x :: r)[z.toNat]'hz], ?_, rfl, ?_, ((g4.trans g5).put oa5).put ob6, ?_, ?_, ?_⟩
      · rw [List.length_eraseIdx_of_lt hz]; rfl
      · rw [List.append_assoc]
        refine List.Perm.trans ?_ hp
        exact List.Perm.append_left fd (perm_erase hz)
      · have z1 := oa5.put (o' := .lst (((x :: r).map f).eraseIdx z.toNat))
        have e2 : ((x :: r).map f).eraseIdx z.toNat = ((x :: r).eraseIdx z.toNat).map f := map_erase _ _ _
        rw [e2] at z1 ⊢
        exact z1.other nab
      · have z1 := ob6.put (o' := .lst (fd.map f ++ [f ((x :: r)[z.toNat]'hz)]))
        rw [show (fd ++ [(x :: r)[z.toNat]'hz]).map f = fd.map f ++ [f ((x :: r)[z.toNat]'hz)] by simp]
        exact z1
      · rw [List.length_append, List.length_singleton, ← Nat.add_assoc]
        exact (d5.put oa5).put ob6
theorem ok_l_end (T : Txt K mg) (F : FnAt K "_law_end" "_law_end" s_l_end (He.ga K "_law_end"))  : Ok P w K mg base CX0 1 (He.ga K "_law_end") ["_law_rides_here", "_law_moment_here"] (sp_l_end K) := by
  refine ok_of F sc_l_end (fun _ _ _ _ _ _ us hl => match us, hl with | [_, _], _ => rfl) (fun vs H Q E h => ?_) (fun cdv A outer s H vs Q E hr h => ?_)
  · obtain ⟨_, _, _, _, rfl, _⟩ := h
    rfl
  · obtain ⟨I, v, rs, m, rfl, ⟨a, vs, rfl, ha, hp⟩, hz, sb, k⟩ := h
    refine ⟨_, (pss_cons (ps_if (pt_cmpR op_in_seq (pv 1) (pe_tup (pa_cons pe_str (pa_cons pe_str pa_nil))) (by with_unfolding_all rfl)) (pss_one (ps_ret (pv 1))) pss_nil)
      (pss_cons (ps_setLc (i := 2) (own := [("_law_begin_here", 3), ("_law_end_here", 4)]) (g := (gTup K 2 (gCons (gName 3) (gCons (gName 4) gNil)))) rfl sc_l_end.nd rfl rfl (sw_true rfl rfl rfl (by decide +kernel)) (pi_list (pv 0)) (blkOk_by (own := [("_law_begin_here", 3), ("_law_end_here", 4)]) (N := n_l_end) (sc := defScope s_l_end) (by decide +kernel)) (fun _ _ _ _ _ => (pg_tup (by rfl) (pgs_cons (pg_name (i := 3) sc_l_end.nd rfl (Or.inl rfl)) (pgs_cons (pg_name (i := 4) sc_l_end.nd rfl (Or.inl rfl)) pgs_nil)))) (fun _ _ _ _ _ => (pts_one (pt_cmpR op_ge (pv 3) (pv 1) (nomark _)))) (fun _ _ _ _ _ => (pv 4)))
      (pss_one (ps_ret (pe_ifExp (pt_cmpR (op_neNil hr.units) (pv 2) (pe_lst pa_nil) (nomark _)) (pe_ix ix_list (pe_callB cr_sortedI (by rfl) T.b_sorted (by decide +kernel) (pa_cons (pe_lc (own := [("_law_end_here", 4)]) (g := (gName 4)) rfl sc_l_end.nd (pi_list (pv 2)) (blkOk_by (own := [("_law_end_here", 4)]) (N := n_l_end) (sc := defScope s_l_end) (by decide +kernel)) (fun _ _ _ _ _ => (pg_name (i := 4) sc_l_end.nd rfl (Or.inl rfl))) (fun _ _ _ _ _ => pts_nil) (fun _ _ _ _ _ => (pe_callTy call_int1 (by rfl) T.b_int (by decide +kernel) (pa_cons (pv 4) pa_nil)))) pa_nil)) pe_int (fun _ _ => rfl)) pe_str))))), ?_⟩
    refine ⟨_, rfl, by decide, fun p hp1 => ⟨p, _, rfl, .inr (SqT.of upd_same), m.flat, rfl, _, rfl, ?_⟩⟩
    have g1 : Grow No I H _ (upd H p (.tup [V.str "first", V.str "last"])) := Grow.new sb hp1
    match m, k with
    | .first, k => exact iteT ⟨_, rfl, k .first _ _ g1 rfl⟩
    | .last, k => exact iteT ⟨_, rfl, k .last _ _ g1 rfl⟩
    | .num t, k =>
      refine iteF ⟨_, rfl, a, rfl, ⟨_, SqL.of (g1.sub _ _ (g1.view _ _ ha))⟩, fun L hL => ?_⟩
      refine lc_pure (β := Int) walk_list rs (fun r => if r.1 ≥ t then some r.2 else none) (Nw.Paired.len hp).symm g1.sub hL (by rw [Nw.Paired.len hp]; omega) (fun I' H' g => SqL.of (g.sub _ _ (g.view _ _ (g1.view _ _ ha)))) ?_ ?_
      · rintro i r x I' H' H'' hr g ⟨rfl, hx⟩ Kn Ky kn ky
        obtain ⟨x', hx', b, v1, v2, rfl, hb, h1, h2⟩ := Nw.Paired.at hp hr
        rw [hx] at hx'
        cases hx'
        cases h1
        cases h2
        refine ⟨b, _, rfl, SqT.of (g.sub _ _ (g.view _ _ (g1.view _ _ hb))), rfl, _, _, rfl, _, _, rfl, rfl, rfl, ?_⟩
        refine ⟨_, rfl, _, rfl, _, _, rfl, rfl, _, rfl, ?_⟩
        refine ite2 (fun c => ?_) (fun c => ?_)
        · exact ⟨_, rfl, ky _ (if_pos (of_decide_eq_true c)) _ I' H'' (Grow.refl g.sub) rfl⟩
        · exact kn (if_neg (fun z => c (decide_eq_true z))) I' H'' (Grow.refl g.sub)
      · intro I2 H2 vs2 g2 ow hp2
        have e := Paired.ints hp2
        subst e
        have hmem : ∀ e, e ∈ rs.filterMap (fun r => if r.1 ≥ t then some r.2 else none) ↔ ∃ r ∈ rs, t ≤ r.1 ∧ r.2 = e := fun e => by
          rw [List.mem_filterMap]
          constructor
          · rintro ⟨r, hr, h⟩
            split at h
            · cases h
              exact ⟨r, hr, by assumption, rfl⟩
            · cases h
          · rintro ⟨r, hr, h, rfl⟩
            exact ⟨r, hr, if_pos h⟩
        have hle : (rs.filterMap (fun r => if r.1 ≥ t then some r.2 else none)).length ≤ rs.length := List.length_filterMap_le _ _
        revert hmem hle ow hp2
        generalize rs.filterMap (fun r => if r.1 ≥ t then some r.2 else none) = es
        intro ow hp2 hmem hle
        refine ⟨_, rfl, by decide, fun q hq => ⟨L, q, _, rfl, rfl, SqL.of (by rw [upd_ne (ne_of_none ow.at_ hq)]; exact ow.at_), SqL.of upd_same, _, rfl, ?_⟩⟩
        have gq := Grow.mine (T := No) (o := .lst []) g2.sub hq
        have g3 := (g1.trans g2).trans gq
        have ow3 := ow.grow gq
        cases es with
        | nil => exact iteF (k .last _ _ g3 (.inl ⟨rfl, fun q hq hz => nomatch (hmem q.2).mpr ⟨q, hq, hz, rfl⟩⟩))
        | cons e r =>
          refine iteT ⟨_, rfl, L, rfl, ⟨_, SqL.of ow3.at_⟩, fun M hM => ?_⟩
          refine lc_pure (β := Int) walk_list (e :: r) (fun e => some e) (by rw [List.length_map]) g3.sub hM (by rw [List.length_map]; omega) (fun I' H' g => SqL.of (g.same _ _ ow3.at_)) ?_ ?_
          · rintro i r x I' H' H'' hr g ⟨rfl, hx⟩ Kn Ky kn ky
            obtain ⟨r', hr', rfl⟩ := getI hx
            rw [hr] at hr'
            cases hr'
            exact ⟨rfl, lc_yes ⟨_, rfl, .inl ⟨_, rfl, ky _ rfl _ I' H'' (Grow.refl g.sub) rfl⟩⟩⟩
          · intro I4 H4 vs4 g4 ow4 hp4
            have e4 := Paired.ints hp4
            rw [fm_some, List.map_id'] at e4
            subst e4
            refine ⟨M, _, rfl, SqL.of ow4.at_, fun ks p perm rising hpn => ?_⟩
            have g5 := (g3.trans g4).trans (Grow.mine (T := No) (o := .lst (ks.map V.int)) g4.sub hpn)
            cases ks with
            | nil => exact nomatch perm.length_eq
            | cons y ys =>
              have hy : y ∈ e :: r := perm.mem_iff.mp (List.mem_cons_self ..)
              have hmin : ∀ z ∈ e :: r, y ≤ z := fun z hz => by
                rcases List.mem_cons.mp (perm.mem_iff.mpr hz) with rfl | h
                · exact Int.le_refl _
                · exact (List.pairwise_cons.mp rising).1 z h
              exact ⟨p, _, 0, .int y, rfl, rfl, SqL.of upd_same, (by rw [atI_nat' (j := 0) (by decide)]; rfl), k (.num y) _ _ g5 (.inr ⟨y, rfl, (hmem y).mp hy, fun q hq hz => hmin q.2 ((hmem q.2).mpr ⟨q, hq, hz, rfl⟩)⟩)⟩
theorem ok_l_begin (T : Txt K mg) (F : FnAt K "_law_begin" "_law_begin" s_l_begin (He.ga K "_law_begin"))  : Ok P w K mg base CX0 1 (He.ga K "_law_begin") ["_law_rides_here", "_law_moment_here"] (sp_l_begin K) := by
  refine ok_of F sc_l_begin (fun _ _ _ _ _ _ us hl => match us, hl with | [_, _], _ => rfl) (fun vs H Q E h => ?_) (fun cdv A outer s H vs Q E hr h => ?_)
  · obtain ⟨_, _, _, _, rfl, _⟩ := h
    rfl
  · obtain ⟨I, v, rs, m, rfl, ⟨a, vs, rfl, ha, hp⟩, hz, sb, k⟩ := h
    refine ⟨_, (pss_cons (ps_if (pt_cmpR op_in_seq (pv 1) (pe_tup (pa_cons pe_str (pa_cons pe_str pa_nil))) (by with_unfolding_all rfl)) (pss_one (ps_ret (pv 1))) pss_nil)
      (pss_cons (ps_setLc (i := 2) (own := [("_law_begin_here", 3), ("_law_end_here", 4)]) (g := (gTup K 2 (gCons (gName 3) (gCons (gName 4) gNil)))) rfl sc_l_begin.nd rfl rfl (sw_true rfl rfl rfl (by decide +kernel)) (pi_list (pv 0)) (blkOk_by (own := [("_law_begin_here", 3), ("_law_end_here", 4)]) (N := n_l_begin) (sc := defScope s_l_begin) (by decide +kernel)) (fun _ _ _ _ _ => (pg_tup (by rfl) (pgs_cons (pg_name (i := 3) sc_l_begin.nd rfl (Or.inl rfl)) (pgs_cons (pg_name (i := 4) sc_l_begin.nd rfl (Or.inl rfl)) pgs_nil)))) (fun _ _ _ _ _ => (pts_one (pt_cmpR op_le (pv 4) (pv 1) (nomark _)))) (fun _ _ _ _ _ => (pv 3)))
      (pss_one (ps_ret (pe_ifExp (pt_cmpR (op_neNil hr.units) (pv 2) (pe_lst pa_nil) (nomark _)) (pe_ix ix_list (pe_callB cr_sortedI (by rfl) T.b_sorted (by decide +kernel) (pa_cons (pe_lc (own := [("_law_begin_here", 3)]) (g := (gName 3)) rfl sc_l_begin.nd (pi_list (pv 2)) (blkOk_by (own := [("_law_begin_here", 3)]) (N := n_l_begin) (sc := defScope s_l_begin) (by decide +kernel)) (fun _ _ _ _ _ => (pg_name (i := 3) sc_l_begin.nd rfl (Or.inl rfl))) (fun _ _ _ _ _ => pts_nil) (fun _ _ _ _ _ => (pe_callTy call_int1 (by rfl) T.b_int (by decide +kernel) (pa_cons (pv 3) pa_nil)))) pa_nil)) (pe_un un_neg pe_int) (fun _ _ => rfl)) pe_str))))), ?_⟩
    refine ⟨_, rfl, by decide, fun p hp1 => ⟨p, _, rfl, .inr (SqT.of upd_same), m.flat, rfl, _, rfl, ?_⟩⟩
    have g1 : Grow No I H _ (upd H p (.tup [V.str "first", V.str "last"])) := Grow.new sb hp1
    match m, k with
    | .first, k => exact iteT ⟨_, rfl, k .first _ _ g1 rfl⟩
    | .last, k => exact iteT ⟨_, rfl, k .last _ _ g1 rfl⟩
    | .num t, k =>
      refine iteF ⟨_, rfl, a, rfl, ⟨_, SqL.of (g1.sub _ _ (g1.view _ _ ha))⟩, fun L hL => ?_⟩
      refine lc_pure (β := Int) walk_list rs (fun r => if r.2 ≤ t then some r.1 else none) (Nw.Paired.len hp).symm g1.sub hL (by rw [Nw.Paired.len hp]; omega) (fun I' H' g => SqL.of (g.sub _ _ (g.view _ _ (g1.view _ _ ha)))) ?_ ?_
      · rintro i r x I' H' H'' hr g ⟨rfl, hx⟩ Kn Ky kn ky
        obtain ⟨x', hx', b, v1, v2, rfl, hb, h1, h2⟩ := Nw.Paired.at hp hr
        rw [hx] at hx'
        cases hx'
        cases h1
        cases h2
        refine ⟨b, _, rfl, SqT.of (g.sub _ _ (g.view _ _ (g1.view _ _ hb))), rfl, _, _, rfl, _, _, rfl, rfl, rfl, ?_⟩
        refine ⟨_, rfl, _, rfl, _, _, rfl, rfl, _, rfl, ?_⟩
        refine ite2 (fun c => ?_) (fun c => ?_)
        · exact ⟨_, rfl, ky _ (if_pos (of_decide_eq_true c)) _ I' H'' (Grow.refl g.sub) rfl⟩
        · exact kn (if_neg (fun z => c (decide_eq_true z))) I' H'' (Grow.refl g.sub)
      · intro I2 H2 vs2 g2 ow hp2
        have e := Paired.ints hp2
        subst e
        have hmem : ∀ e, e ∈ rs.filterMap (fun r => if r.2 ≤ t then some r.1 else none) ↔ ∃ r ∈ rs, r.2 ≤ t ∧ r.1 = e := fun e => by
          rw [List.mem_filterMap]
          constructor
          · rintro ⟨r, hr, h⟩
            split at h
            · cases h
              exact ⟨r, hr, by assumption, rfl⟩
            · cases h
          · rintro ⟨r, hr, h, rfl⟩
            exact ⟨r, hr, if_pos h⟩
        have hle : (rs.filterMap (fun r => if r.2 ≤ t then some r.1 else none)).length ≤ rs.length := List.length_filterMap_le _ _
        revert hmem hle ow hp2
        generalize rs.filterMap (fun r => if r.2 ≤ t then some r.1 else none) = es
        intro ow hp2 hmem hle
        refine ⟨_, rfl, by decide, fun q hq => ⟨L, q, _, rfl, rfl, SqL.of (by rw [upd_ne (ne_of_none ow.at_ hq)]; exact ow.at_), SqL.of upd_same, _, rfl, ?_⟩⟩
        have gq := Grow.mine (T := No) (o := .lst []) g2.sub hq
        have g3 := (g1.trans g2).trans gq
        have ow3 := ow.grow gq
        cases es with
        | nil => exact iteF (k .first _ _ g3 (.inl ⟨rfl, fun q hq hz => nomatch (hmem q.1).mpr ⟨q, hq, hz, rfl⟩⟩))
        | cons e r =>
          refine iteT ⟨_, rfl, L, rfl, ⟨_, SqL.of ow3.at_⟩, fun M hM => ?_⟩
          refine lc_pure (β := Int) walk_list (e :: r) (fun e => some e) (by rw [List.length_map]) g3.sub hM (by rw [List.length_map]; omega) (fun I' H' g => SqL.of (g.same _ _ ow3.at_)) ?_ ?_
          · rintro i r x I' H' H'' hr g ⟨rfl, hx⟩ Kn Ky kn ky
            obtain ⟨r', hr', rfl⟩ := getI hx
            rw [hr] at hr'
            cases hr'
            exact ⟨rfl, lc_yes ⟨_, rfl, .inl ⟨_, rfl, ky _ rfl _ I' H'' (Grow.refl g.sub) rfl⟩⟩⟩
          · intro I4 H4 vs4 g4 ow4 hp4
            have e4 := Paired.ints hp4
            rw [fm_some, List.map_id'] at e4
            subst e4
            refine ⟨M, _, rfl, SqL.of ow4.at_, fun ks p perm rising hpn => ?_⟩
            have g5 := (g3.trans g4).trans (Grow.mine (T := No) (o := .lst (ks.map V.int)) g4.sub hpn)
            rcases List.eq_nil_or_concat ks with rfl | ⟨ys, y, rfl⟩
            · exact nomatch perm.length_eq
            · rw [List.concat_eq_append] at perm rising g5 ⊢
              have hy : y ∈ e :: r := perm.mem_iff.mp (List.mem_append_right _ (List.mem_singleton.mpr rfl))
              have hmax : ∀ z ∈ e :: r, z ≤ y := fun z hz => by
                rcases List.mem_append.mp (perm.mem_iff.mpr hz) with h | h
                · exact (List.pairwise_append.mp rising).2.2 z h y (List.mem_singleton.mpr rfl)
                · rw [List.mem_singleton] at h; rw [h]; exact Int.le_refl _
              exact ⟨_, rfl, p, _, -1, .int y, rfl, rfl, SqL.of upd_same, (by rw [List.map_append]; exact atI_last _ _), k (.num y) _ _ g5 (.inr ⟨y, rfl, (hmem y).mp hy, fun q hq hz => hmax q.1 ((hmem q.1).mpr ⟨q, hq, hz, rfl⟩)⟩)⟩
end
end Nw

namespace Nw
open PySem PySem.Spec PyProof.Rows L2
/-! ### put off; the needed ones by a look at all pairs -/
def sp_l_shift (K : PySem.W.Frag) : Sp := fun vs H Q _ => ∃ (I : Hp) (D : DA) (n : Nat), vs = [.ref D.d] ∧ Drw D n I H ∧ n < lim ∧ ∀ (z : Int) H', z.natAbs ≤ 10 ^ 38 → Grow (TD D) I H I H' → Drw D (n + 1) I H' → Q (.int z) H'
def offM (m : Mom) (z : Int) : Mom := match m with
  | .num t => .num (t + z)
  | m => m
def sp_l_put_off (K : PySem.W.Frag) : Sp := fun vs H Q _ => ∃ (I : Hp) (m : Mom) (z : Int), vs = [m.v, .int z] ∧ Same I H ∧ ∀ I' H', Grow No I H I' H' → Q (offM m z).v H'
def sp_l_rides_off (K : PySem.W.Frag) : Sp := fun vs H Q _ => ∃ (I : Hp) (v : V) (rs : Rides) (z : Int), vs = [v, .int z] ∧ isL I v rs ∧ rs.length ≤ 100000 ∧ Same I H ∧ ∀ v' I' H', Grow No I H I' H' → isL I' v' (rs.map fun r => (r.1 + z, r.2 + z)) → Q v' H'
def least1 (rs : Rides) (p : Int × Int) : Prop := ∀ o ∈ rs, ¬ (o ≠ p ∧ p.1 ≤ o.1 ∧ o.2 ≤ p.2)
def sp_l_needed (K : PySem.W.Frag) : Sp := fun vs H Q _ => ∃ (I : Hp) (v : V) (rs : Rides), vs = [v] ∧ isL I v rs ∧ rs.length ≤ 100000 ∧ (∀ r ∈ rs, r.1 ≤ r.2) ∧ Same I H ∧ ∀ ns v' I' H', Grow No I H I' H' → isU I' v' ns → IsNeeded rs ns → Q v' H'
theorem least_cov {rs : Rides} (hv : ∀ r ∈ rs, r.1 ≤ r.2) : ∀ (n : Nat) (r : Int × Int), r ∈ rs → (r.2 - r.1).toNat ≤ n → ∃ p ∈ rs, least1 rs p ∧ r.1 ≤ p.1 ∧ p.2 ≤ r.2
  | 0, r, hr, hn => ⟨r, hr, fun o ho z => by
      have h1 := hv r hr
      have h2 := hv o ho
      refine z.1 ?_
      obtain ⟨o1, o2⟩ := o
      obtain ⟨r1, r2⟩ := r
      simp only at hn h1 h2 z
      have e1 : o1 = r1 := by omega
      have e2 : o2 = r2 := by omega
      rw [e1, e2], Int.le_refl _, Int.le_refl _⟩
  | n + 1, r, hr, hn => by
    by_cases c : least1 rs r
    · exact ⟨r, hr, c, Int.le_refl _, Int.le_refl _⟩
    · unfold least1 at c
      have c2 : ∃ o, o ∈ rs ∧ (o ≠ r ∧ r.1 ≤ o.1 ∧ o.2 ≤ r.2) := by
        by_cases e : ∃ o, o ∈ rs ∧ (o ≠ r ∧ r.1 ≤ o.1 ∧ o.2 ≤ r.2)
        · exact e
        · exact absurd (fun o ho z => e ⟨o, ho, z⟩) c
      obtain ⟨o, ho, h0, h1, h2⟩ := c2
      have h3 := hv o ho
      have h4 := hv r hr
      have lt : (o.2 - o.1).toNat < (r.2 - r.1).toNat := by
        by_cases e : o.1 = r.1 ∧ o.2 = r.2
        · exact absurd (Prod.ext e.1 e.2) h0
        · omega
      obtain ⟨p, hp, lp, q1, q2⟩ := least_cov hv n o ho (by omega)
      exact ⟨p, hp, lp, by omega, by omega⟩
theorem least_uniq {rs : Rides} {p q : Int × Int} (hp : p ∈ rs) (hq : q ∈ rs) (lp : least1 rs p) (lq : least1 rs q) (e : p.1 = q.1) : p = q := by
  by_cases c : p = q
  · exact c
  · rcases Int.le_total p.2 q.2 with h | h
    · exact absurd ⟨c, by omega, h⟩ (lq p hp)
    · exact absurd ⟨fun z => c z.symm, by omega, h⟩ (lp q hq)
theorem least_needed {rs ns : Rides} (hv : ∀ r ∈ rs, r.1 ≤ r.2) (h : ∀ p, p ∈ ns ↔ p ∈ rs ∧ least1 rs p) (asc : ns.Pairwise fun a b => a.1 < b.1) : IsNeeded rs ns where
  asc := by
    refine (List.Pairwise.and_mem.mp asc).imp fun {a b} z => ?_
    obtain ⟨ha, hb, hlt⟩ := z
    refine ⟨hlt, ?_⟩
    obtain ⟨ha1, ha2⟩ := (h a).mp ha
    obtain ⟨hb1, hb2⟩ := (h b).mp hb
    by_cases c : a.2 < b.2
    · exact c
    · refine absurd ⟨fun e => ?_, by omega, by omega⟩ (ha2 b hb1)
      rw [e] at hlt
      omega
  sub := fun n hn => ((h n).mp hn).1
  cov := fun r hr => by
    obtain ⟨p, hp, lp, q1, q2⟩ := least_cov hv _ r hr (Nat.le_refl _)
    exact ⟨p, (h p).mpr ⟨hp, lp⟩, q1, q2⟩
theorem pair_eqv (o r : Int × Int) : PyData.eqv (.tuple [.int o.1, .int o.2]) (.tuple [.int r.1, .int r.2]) = decide (o = r) := by
  have e : PyData.eqv (.tuple [.int o.1, .int o.2]) (.tuple [.int r.1, .int r.2]) = (o.1 == r.1 && (o.2 == r.2 && true)) := rfl
  rw [e, Bool.and_true, Bool.eq_iff_iff, Bool.and_eq_true, beq_iff_eq, beq_iff_eq, decide_eq_true_iff]
  exact ⟨fun h => Prod.ext h.1 h.2, fun h => by rw [h]; exact ⟨rfl, rfl⟩⟩
theorem cp10 (k : Int) (h0 : 0 ≤ k) (h : k ≤ 100) : CPow 10 k := ⟨h0, by omega, by decide⟩
section
variable {P : Program} {w : World} {K : PySem.W.Frag} {mg : Str → Option Value} {base : Heap}
theorem ok_l_shift (T : Txt K mg) (F : FnAt K "_law_shift" "_law_shift" s_l_shift (He.ga K "_law_shift")) (G_l_pick : Ok P w K mg base CX0 2 (He.ga K "_law_pick") ["_law_draw", "_law_some"] (sp_l_pick K)) : Ok P w K mg base CX0 3 (He.ga K "_law_shift") ["_law_draw"] (sp_l_shift K) := by
  refine ok_of F sc_l_shift (fun _ _ _ _ _ _ us hl => match us, hl with | [_], _ => rfl) (fun vs H Q E h => ?_) (fun cdv A outer s H vs Q E hr h => ?_)
  · obtain ⟨_, _, _, rfl, _⟩ := h
    rfl
  · obtain ⟨I, D, n, rfl, dr, hn, k⟩ := h
    refine ⟨_, (pss_one (ps_ret (pe_callC G_l_pick (hr.mono (by decide)) T.g__law_pick (pa_cons (pv 0) (pa_cons (pe_lst (pa_cons pe_int (pa_cons pe_int (pa_cons pe_int (pa_cons (pe_op op_pow pe_int pe_int) (pa_cons (pe_op op_sub pe_int (pe_op op_pow pe_int pe_int)) (pa_cons (pe_op op_pow pe_int pe_int) (pa_cons (pe_op op_sub pe_int (pe_op op_pow pe_int pe_int)) pa_nil)))))))) pa_nil))))), ?_⟩
    refine ⟨_, rfl, 10, 9, rfl, rfl, cp10 9 (by decide) (by decide), 10, 12, rfl, rfl, cp10 12 (by decide) (by decide), _, _, rfl, rfl, 10, 30, rfl, rfl, cp10 30 (by decide) (by decide), 10, 38, rfl, rfl, cp10 38 (by decide) (by decide), _, _, rfl, rfl, (by show 7 ≤ sizeLine; decide), fun q hq => ?_⟩
    refine ⟨I, D, n, _, rfl, dr.mine hq, hn, .inl ⟨q, _, rfl, dr.not hq, upd_same, by simp, by simp, fun j x H' hx g d => ?_⟩⟩
    obtain ⟨z, rfl, hz⟩ : ∃ z : Int, x = .int z ∧ z.natAbs ≤ 10 ^ 38 := by
      have z := List.mem_of_getElem? hx
      simp only [List.mem_cons, List.not_mem_nil, or_false] at z
      rcases z with rfl | rfl | rfl | rfl | rfl | rfl | rfl
      all_goals exact ⟨_, rfl, by decide⟩
    exact k z H' hz ((Grow.mine dr.sub hq).trans g) d
theorem ok_l_put_off (T : Txt K mg) (F : FnAt K "_law_put_off" "_law_put_off" s_l_put_off (He.ga K "_law_put_off"))  : Ok P w K mg base CX0 1 (He.ga K "_law_put_off") ["_law_moment_here", "_law_shift_here"] (sp_l_put_off K) := by
  refine ok_of F sc_l_put_off (fun _ _ _ _ _ _ us hl => match us, hl with | [_, _], _ => rfl) (fun vs H Q E h => ?_) (fun cdv A outer s H vs Q E hr h => ?_)
  · obtain ⟨_, _, _, rfl, _⟩ := h
    rfl
  · obtain ⟨I, m, z, rfl, sb, k⟩ := h
    refine ⟨_, (pss_one (ps_ret (pe_ifExp (pt_cmpR op_in_seq (pv 0) (pe_tup (pa_cons pe_str (pa_cons pe_str pa_nil))) (by with_unfolding_all rfl)) (pv 0) (pe_op op_add (pv 0) (pv 1))))), ?_⟩
    refine ⟨_, rfl, by decide, fun p hp1 => ⟨p, _, rfl, .inr (SqT.of upd_same), m.flat, rfl, _, rfl, ?_⟩⟩
    have g1 : Grow No I H _ (upd H p (.tup [V.str "first", V.str "last"])) := Grow.new sb hp1
    match m, k with
    | .first, k => exact iteT ⟨_, rfl, k _ _ g1⟩
    | .last, k => exact iteT ⟨_, rfl, k _ _ g1⟩
    | .num t, k => exact iteF ⟨_, rfl, _, rfl, _, _, rfl, rfl, k _ _ g1⟩
theorem ok_l_rides_off (T : Txt K mg) (F : FnAt K "_law_rides_off" "_law_rides_off" s_l_rides_off (He.ga K "_law_rides_off"))  : Ok P w K mg base CX0 1 (He.ga K "_law_rides_off") ["_law_rides_here", "_law_shift_here"] (sp_l_rides_off K) := by
  refine ok_of F sc_l_rides_off (fun _ _ _ _ _ _ us hl => match us, hl with | [_, _], _ => rfl) (fun vs H Q E h => ?_) (fun cdv A outer s H vs Q E hr h => ?_)
  · obtain ⟨_, _, _, _, rfl, _⟩ := h
    rfl
  · obtain ⟨I, v, rs, z, rfl, ⟨a, vs, rfl, ha, hp⟩, hz, sb, k⟩ := h
    refine ⟨_, (pss_one (ps_ret (pe_lc (own := [("_law_begin_here", 2), ("_law_end_here", 3)]) (g := (gTup K 2 (gCons (gName 2) (gCons (gName 3) gNil)))) rfl sc_l_rides_off.nd (pi_list (pv 0)) (blkOk_by (own := [("_law_begin_here", 2), ("_law_end_here", 3)]) (N := n_l_rides_off) (sc := defScope s_l_rides_off) (by decide +kernel)) (fun _ _ _ _ _ => (pg_tup (by rfl) (pgs_cons (pg_name (i := 2) sc_l_rides_off.nd rfl (Or.inl rfl)) (pgs_cons (pg_name (i := 3) sc_l_rides_off.nd rfl (Or.inl rfl)) pgs_nil)))) (fun _ _ _ _ _ => pts_nil) (fun _ _ _ _ _ => (pe_tup (pa_cons (pe_op op_add (pv 2) (pv 1)) (pa_cons (pe_op op_add (pv 3) (pv 1)) pa_nil))))))), ?_⟩
    have hlen := Nw.Paired.len hp
    refine ⟨_, rfl, a, rfl, ⟨_, SqL.of (sb _ _ ha)⟩, fun L hL => ?_⟩
    refine lc_pure (β := Int × Int) walk_list rs (fun r => some (r.1 + z, r.2 + z)) hlen.symm sb hL (by rw [hlen]; omega) (fun I' H' g => SqL.of (g.sub _ _ (g.view _ _ ha))) ?_ ?_
    · rintro i r x I' H' H'' hr g ⟨rfl, hx⟩ Kn Ky kn ky
      obtain ⟨x', hx', c, w1, w2, rfl, hc, h1, h2⟩ := Nw.Paired.at hp hr
      rw [hx] at hx'
      cases hx'
      cases h1
      cases h2
      refine ⟨c, _, rfl, SqT.of (g.sub _ _ (g.view _ _ hc)), rfl, _, _, rfl, _, _, rfl, rfl, rfl, lc_yes ?_⟩
      refine ⟨_, rfl, _, rfl, _, _, rfl, rfl, _, rfl, _, rfl, _, _, rfl, rfl, (by show 2 ≤ sizeLine; decide), fun t ht => ?_⟩
      have gt : Grow No I' H'' _ (upd H'' t (.tup [.int (r.1 + z), .int (r.2 + z)])) := Grow.new g.sub ht
      exact ky _ rfl _ _ _ gt ⟨t, _, _, rfl, upd_same, rfl, rfl⟩
    · intro I1 H1 vs1 g1 ow hp1
      rw [fm_some] at hp1
      have g2 := g1.give ow
      exact k (.ref L) _ _ g2 ⟨L, vs1, rfl, upd_same, Paired.mono' (fun _ _ z => Rep.mono (Same.up ow.ni) z) hp1⟩
theorem ok_l_needed (T : Txt K mg) (F : FnAt K "_law_needed" "_law_needed" s_l_needed (He.ga K "_law_needed"))  : Ok P w K mg base CX0 1 (He.ga K "_law_needed") ["_law_rides_here"] (sp_l_needed K) := by
  refine ok_of F sc_l_needed (fun _ _ _ _ _ _ us hl => match us, hl with | [_], _ => rfl) (fun vs H Q E h => ?_) (fun cdv A outer s H vs Q E hr h => ?_)
  · obtain ⟨_, _, _, rfl, _⟩ := h
    rfl
  · obtain ⟨I, v, rs, rfl, ⟨a, vs, rfl, ha, hp⟩, hz, hv, sb, k⟩ := h
    refine ⟨_, (pss_cons (ps_set (i := 1) sc_l_needed.nd rfl (Or.inr rfl) pe_dnewK)
      (pss_cons (ps_for PassesOwn.never rfl (pi_list (pv 0)) (pg_tup (by rfl) (pgs_cons (pg_name (i := 2) sc_l_needed.nd rfl (Or.inr rfl)) (pgs_cons (pg_name (i := 3) sc_l_needed.nd rfl (Or.inr rfl)) pgs_nil))) (pss_cons (ps_setLc (i := 4) (own := [("_law_one", 5)]) (g := (gName 5)) rfl sc_l_needed.nd rfl rfl (sw_true rfl rfl rfl (by decide +kernel)) (pi_list (pv 0)) (blkOk_by (own := [("_law_one", 5)]) (N := n_l_needed) (sc := defScope s_l_needed) (by decide +kernel)) (fun _ _ _ _ _ => (pg_name (i := 5) sc_l_needed.nd rfl (Or.inl rfl))) (fun _ _ _ _ _ => (pts_one (PW.pt (pw_and (pt_cmpR (op_neDK (K := K) rfl hr.units) (pv 5) (pe_tup (pa_cons (pv 2) (pa_cons (pv 3) pa_nil))) (nomark _)) (pw_and (pt_cmpR op_ge (pe_ix (ix_tupK (K := K) rfl) (pv 5) pe_int (fun _ _ => rfl)) (pv 2) (nomark _)) (pw_and1 (pt_cmpR op_le (pe_ix (ix_tupK (K := K) rfl) (pv 5) pe_int (fun _ _ => rfl)) (pv 3) (nomark _)))))))) (fun _ _ _ _ _ => (pv 5)))
      (pss_one (ps_if (pt_cmpR (op_eqNil hr.units) (pv 4) (pe_lst pa_nil) (nomark _)) (pss_one (ps_dput (hu_of hr) (pv 1) (pv 2) (pv 3) rfl)) pss_nil))))
      (pss_one (ps_ret (pe_callTy call_tuple_of (by rfl) T.b_tuple (by decide +kernel) (pa_cons (pe_lc (own := [("_law_begin_here", 2)]) (g := (gName 2)) rfl sc_l_needed.nd (pi_list (pe_callB cr_sortedI (by rfl) T.b_sorted (by decide +kernel) (pa_cons (pe_lock (pe_lc (own := [("_law_one", 5)]) (g := (gName 5)) rfl sc_l_needed.nd (pi_keys (pv 1)) (blkOk_by (own := [("_law_one", 5)]) (N := n_l_needed) (sc := defScope s_l_needed) (by decide +kernel)) (fun _ _ _ _ _ => (pg_name (i := 5) sc_l_needed.nd rfl (Or.inl rfl))) (fun _ _ _ _ _ => pts_nil) (fun _ _ _ _ _ => (pe_callTy call_int1 (by rfl) T.b_int (by decide +kernel) (pa_cons (pv 5) pa_nil))))) pa_nil))) (blkOk_by (own := [("_law_begin_here", 2)]) (N := n_l_needed) (sc := defScope s_l_needed) (by decide +kernel)) (fun _ _ _ _ _ => (pg_name (i := 2) sc_l_needed.nd rfl (Or.inl rfl))) (fun _ _ _ _ _ => pts_nil) (fun _ _ _ _ _ => (pe_tup (pa_cons (pv 2) (pa_cons (pe_dget (hu_of hr) (pv 1) (pv 2) (fun _ _ => rfl)) pa_nil))))) pa_nil)))))), ?_⟩
    have hlen := Nw.Paired.len hp
    refine fun d hd => ?_
    have haH : ∀ {J G : Hp}, Grow No I H J G → G a = some (.lst vs) := fun g => g.sub _ _ (g.view _ _ ha)
    refine ⟨_, rfl, a, rfl, ⟨_, SqL.of (haH (Grow.mine sb hd))⟩, ?_⟩
    refine for_it (walk_list (K := K) (a := a) (xs := vs)) (fun i σ H' => ∃ (I' : Hp) (m : Rides) (v2 v3 v4 v5 : Option V), σ = [some (.ref a), some (.ref d), v2, v3, v4, v5] ∧ Grow No I H I' H' ∧ Own No H d (.dK (m.map kvI)) I' H' ∧ (m.map (·.1)).Nodup ∧ (∀ p, p ∈ m ↔ p ∈ rs.take i ∧ least1 rs p) ∧ m.length ≤ i)
      ⟨I, [], none, none, none, none, rfl, Grow.mine sb hd, Own.new sb (.inl (Same.refl H)) (fun _ z => z.elim) hd, .nil, (fun p => ⟨(fun z => nomatch z), fun z => by simp at z⟩), Nat.le_refl _⟩ (fun i σ H' _ ⟨I', _, _, _, _, _, _, g, _⟩ => SqL.of (haH g)) ?_ ?_
    · rintro i x σ H2 H3 hi ⟨I', m, v2, v3, v4, v5, rfl, g, ow, nd, hm, hl⟩ ⟨rfl, hx⟩
      obtain ⟨r, hr, b, w1, w2, rfl, hb, e1, e2⟩ := Nw.Paired.at' hp hx
      cases e1
      cases e2
      have hrm := List.mem_of_getElem? hr
      refine ⟨b, _, rfl, SqT.of (g.sub _ _ (g.view _ _ hb)), rfl, _, _, rfl, _, _, rfl, rfl, ?_⟩
      refine ⟨_, rfl, a, rfl, ⟨_, SqL.of (haH g)⟩, fun L hL => ?_⟩
      refine lc_pure (β := Int × Int) (walk_list (K := K) (a := a) (xs := vs)) rs (fun o => if o ≠ r ∧ r.1 ≤ o.1 ∧ o.2 ≤ r.2 then some o else none) hlen.symm g.sub hL (by rw [hlen]; omega) (fun I2 H2 g2 => SqL.of (haH (g.trans g2))) ?_ ?_
      · rintro j o x I2 H4 H5 ho g2 ⟨rfl, hx2⟩ Kn Ky kn ky
        obtain ⟨x', hx', c, w1, w2, rfl, hc, h1, h2⟩ := Nw.Paired.at hp ho
        rw [hx2] at hx'
        cases hx'
        cases h1
        cases h2
        have hcI := (g.view.trans g2.view) _ _ hc
        refine ⟨rfl, _, rfl, _, rfl, _, rfl, (by show 2 ≤ sizeLine; decide), fun t ht => ?_⟩
        have gt : Grow No I2 H5 I2 (upd H5 t (.tup [.int r.1, .int r.2])) := Grow.mine g2.sub ht
        have hct := gt.sub _ _ hcI
        have hbt : upd H5 t (.tup [V.int r.1, V.int r.2]) t = some (.tup [.int r.1, .int r.2]) := upd_same
        generalize upd H5 t (.tup [V.int r.1, V.int r.2]) = H6 at gt hct hbt ⊢
        refine ⟨.tuple [.int o.1, .int o.2], .tuple [.int r.1, .int r.2], .tup (SqT.of hct) (.cons (.int _) (.cons (.int _) .nil)), .tup (SqT.of hbt) (.cons (.int _) (.cons (.int _) .nil)), rfl, rfl, _, rfl, ?_⟩
        have ev : PyData.eqv (.tuple [.int o.1, .int o.2]) (.tuple [.int r.1, .int r.2]) = decide (o = r) := pair_eqv o r
        rw [ev]
        have kn' : ¬ (o ≠ r ∧ r.1 ≤ o.1 ∧ o.2 ≤ r.2) → Kn H6 := fun h => kn (if_neg h) I2 H6 gt
        by_cases c0 : o = r
        · rw [decide_eq_true c0]
          exact iteF (kn' fun z => z.1 c0)
        · rw [decide_eq_false c0]
          refine iteT ⟨_, rfl, _, _, 0, _, rfl, rfl, SqT.of hct, (by rw [atI_nat' (j := 0) (by decide)]; rfl), _, rfl, _, _, rfl, rfl, _, rfl, ?_⟩
          refine ite2 (fun c1 => ?_) (fun c1 => ?_)
          · refine ⟨_, rfl, _, _, 1, _, rfl, rfl, SqT.of hct, (by rw [atI_nat' (j := 1) (by decide)]; rfl), _, rfl, _, _, rfl, rfl, _, rfl, ?_⟩
            refine ite2 (fun c2 => ?_) (fun c2 => ?_)
            · exact ⟨_, rfl, ky o (if_pos ⟨c0, of_decide_eq_true c1, of_decide_eq_true c2⟩) _ I2 H6 gt ⟨c, _, _, rfl, hcI, rfl, rfl⟩⟩
            · exact kn' fun z => c2 (decide_eq_true z.2.2)
          · exact iteF (kn' fun z => c1 (decide_eq_true z.2.1))
      · intro I2 H4 vs2 g2 ow2 hp2
        have gg := g.trans g2
        have ow4 := ow.grow g2
        have hlen2 := Nw.Paired.len hp2
        refine ⟨_, rfl, (by show 0 ≤ sizeLine; decide), fun q hq => ?_⟩
        have nLq : L ≠ q := ne_of_none ow2.at_ hq
        refine ⟨L, q, vs2, rfl, rfl, SqL.of (by rw [upd_ne nLq]; exact ow2.at_), SqL.of upd_same, _, rfl, ?_⟩
        have gq := gg.trans (Grow.mine (T := No) (o := .lst []) g2.sub hq)
        have owq := ow4.grow (Grow.mine (T := No) (o := .lst []) g2.sub hq)
        have mtk : ∀ p, p ∈ rs.take (i + 1) ↔ p ∈ rs.take i ∨ p = r := fun p => mem_take hr
        cases vs2 with
        | nil =>
          have hl1 : least1 rs r := fun o ho z => by
            have hm2 : o ∈ rs.filterMap (fun o => if o ≠ r ∧ r.1 ≤ o.1 ∧ o.2 ≤ r.2 then some o else none) := List.mem_filterMap.mpr ⟨o, ho, if_pos z⟩
            rw [List.length_nil] at hlen2
            rw [List.length_eq_zero_iff.mp hlen2.symm] at hm2
            cases hm2
          have z := DPut.k (k := .inl r.1) (v := .int r.2) owq.at_ (by rw [List.length_map, sizeLine_eq]; omega)
          rw [putK_I] at z
          refine iteT ⟨_, rfl, _, rfl, _, rfl, d, _, rfl, z, I2, putM m r.1 r.2, _, _, _, _, rfl, gq.put owq, owq.put, keys_putM nd, fun p => ?_, Nat.le_trans (len_putM _ _ _) (by omega)⟩
          rw [mem_putM, mtk]
          constructor
          · rintro (rfl | ⟨z1, _⟩)
            · exact ⟨.inr rfl, hl1⟩
            · exact ⟨.inl ((hm p).mp z1).1, ((hm p).mp z1).2⟩
          · rintro ⟨z1 | rfl, z2⟩
            · by_cases c : p.1 = r.1
              · exact .inl (least_uniq (List.mem_of_mem_take z1) hrm z2 hl1 c)
              · exact .inr ⟨(hm p).mpr ⟨z1, z2⟩, c⟩
            · exact .inl rfl
        | cons w ws =>
          have nl : ¬ least1 rs r := fun h => by
            have hne : rs.filterMap (fun o => if o ≠ r ∧ r.1 ≤ o.1 ∧ o.2 ≤ r.2 then some o else none) = [] := by
              rw [List.filterMap_eq_nil_iff]
              exact fun o ho => if_neg (h o ho)
            rw [hne] at hlen2
            cases hlen2
          refine iteF ⟨I2, m, _, _, _, _, rfl, gq, owq, nd, fun p => ?_, by omega⟩
          rw [hm p, mtk]
          constructor
          · rintro ⟨z1, z2⟩
            exact ⟨.inl z1, z2⟩
          · rintro ⟨z1 | rfl, z2⟩
            · exact ⟨z1, z2⟩
            · exact absurd z2 nl
    · rintro σ H2 ⟨I', m, v2, v3, v4, v5, rfl, g, ow, nd, hm, hl⟩
      have et : rs.take vs.length = rs := by rw [hlen, List.take_length]
      rw [et] at hm
      refine ⟨d, _, ow.at_, trivial, fun od => ?_⟩
      have gf := g.put (o' := .frz od (.dK (m.map kvI))) ow
      have owf : Own No H d (.frz od (.dK (m.map kvI))) I' (upd H2 d (.frz od (.dK (m.map kvI)))) := ow.put
      refine ⟨_, rfl, d, od, rfl, .inl ⟨_, upd_same, fun M hM => ?_⟩⟩
      refine lc_pure (β := Int) walk_keys m (fun p => some p.1) (by rw [List.length_map]) gf.sub hM (by rw [List.length_map]; omega) (fun I1 H1 g1 => g1.keep _ _ (fun z => z) upd_same) ?_ ?_
      · rintro j p x I1 H1 H3 hj g1 ⟨rfl, kk, vv, hkv, rfl⟩ Kn Ky kn ky
        have ek : kvI p = (kk, vv) := by
          rw [List.getElem?_map, hj] at hkv
          exact Option.some.inj hkv
        cases ek
        refine ⟨rfl, lc_yes ?_⟩
        exact ⟨_, rfl, .inl ⟨_, rfl, ky _ rfl _ I1 H3 (Grow.refl g1.sub) rfl⟩⟩
      · intro I1 H1 vs1 g1 owM hp1
        have e1 := Paired.ints hp1
        rw [fm_some] at e1
        subst e1
        have owf1 := owf.grow g1
        have gf1 := gf.trans g1
        have ndM : M ≠ d := (ne_of_none upd_same hM).symm
        refine ⟨owf1.at_, M, _, rfl, SqL.of (by rw [upd_ne ndM]; exact owM.at_), fun ks p perm rising hpn => ?_⟩
        have gs := (gf1.put (o' := .dK (m.map kvI)) owf1)
        have owd2 : Own No H d (.dK (m.map kvI)) I1 (upd H1 d (.dK (m.map kvI))) := owf1.put
        have gp := gs.trans (Grow.mine (T := No) (o := .lst (ks.map V.int)) gs.sub hpn)
        have owd3 := owd2.grow (Grow.mine (T := No) (o := .lst (ks.map V.int)) gs.sub hpn)
        have ap : upd (upd H1 d (.dK (m.map kvI))) p (.lst (ks.map V.int)) p = some (.lst (ks.map V.int)) := upd_same
        generalize upd (upd H1 d (.dK (m.map kvI))) p (.lst (ks.map V.int)) = H3 at gp owd3 ap ⊢
        have hlk : ∀ b e, (b, e) ∈ m → lookM m b = some e := fun b e he => by
          cases hl2 : lookM m b with
          | none => exact (lookM_none hl2 (b, e) he rfl).elim
          | some e0 =>
            have p2 := lookM_some hl2
            obtain ⟨i1, l1, q1⟩ := List.mem_iff_getElem.mp he
            obtain ⟨i2, l2, q2⟩ := List.mem_iff_getElem.mp p2
            have key : (m.map (·.1))[i1]'(by simpa using l1) = (m.map (·.1))[i2]'(by simpa using l2) := by
              rw [List.getElem_map, List.getElem_map, q1, q2]
            have ei : i1 = i2 := (List.getElem_inj nd).mp key
            subst ei
            rw [q1] at q2
            rw [(Prod.mk.inj q2).2]
        have hks : ∀ b, b ∈ ks → ∃ e, (b, e) ∈ m := fun b hb => by
          obtain ⟨p, hp, rfl⟩ := List.mem_map.mp (perm.mem_iff.mp hb)
          exact ⟨p.2, hp⟩
        have hkl : ks.length = m.length := by rw [perm.length_eq, List.length_map]
        have asc : ks.Pairwise (fun a b => a < b) := by
          have ndk : ks.Nodup := perm.nodup_iff.mpr nd
          exact (List.Pairwise.and rising ndk).imp fun z => by omega
        refine ⟨p, rfl, ⟨_, SqL.of ap⟩, fun L hL => ?_⟩
        refine lc_pure (β := Int × Int) (walk_list (K := K) (a := p) (xs := ks.map V.int)) ks (fun b => (lookM m b).map fun e => (b, e)) (by rw [List.length_map]) gp.sub hL (by rw [List.length_map]; omega) (fun I2 H4 g2 => SqL.of (g2.same _ _ ap)) ?_ ?_
        · rintro j b x I2 H4 H5 hj g2 ⟨rfl, hx⟩ Kn Ky kn ky
          obtain ⟨b', hb', rfl⟩ := getI hx
          rw [hj] at hb'
          cases hb'
          obtain ⟨e, he⟩ := hks b (List.mem_of_getElem? hj)
          have hlb := hlk b e he
          have hget : DGet H5 d (.int b) (some (.int e)) := by
            have z := DGet.k (k := .inl b) (owd3.grow g2).at_
            rw [valV_I, hlb] at z
            exact z
          refine ⟨rfl, lc_yes ⟨_, rfl, _, rfl, _, rfl, d, _, rfl, hget, (by show 2 ≤ sizeLine; decide), fun t ht => ?_⟩⟩
          have gt : Grow No I2 H5 _ (upd H5 t (.tup [.int b, .int e])) := Grow.new g2.sub ht
          exact ky (b, e) (by rw [hlb]; rfl) _ _ _ gt ⟨t, _, _, rfl, upd_same, rfl, rfl⟩
        · intro I2 H4 vs2 g2 ow2 hp2
          have hns : IsNeeded rs (ks.filterMap fun b => (lookM m b).map fun e => (b, e)) := by
            refine least_needed hv (fun q => ?_) ?_
            · rw [List.mem_filterMap]
              constructor
              · rintro ⟨b, hb, h⟩
                cases hl2 : lookM m b with
                | none => rw [hl2] at h; cases h
                | some e =>
                  rw [hl2] at h
                  cases h
                  exact (hm _).mp (lookM_some hl2)
              · intro h
                have hq := (hm q).mpr h
                refine ⟨q.1, perm.mem_iff.mpr (List.mem_map.mpr ⟨q, hq, rfl⟩), ?_⟩
                rw [hlk q.1 q.2 hq] <;> rfl
            · rw [List.pairwise_filterMap]
              refine asc.imp fun {a b} hab x hx y hy => ?_
              cases h1 : lookM m a with
              | none => rw [h1] at hx; cases hx
              | some e1 =>
                cases h2 : lookM m b with
                | none => rw [h2] at hy; cases hy
                | some e2 =>
                  rw [h1] at hx
                  rw [h2] at hy
                  cases hx
                  cases hy
                  exact hab
          refine ⟨L, vs2, rfl, .inl ⟨SqL.of ow2.at_, fun u hu => ?_⟩⟩
          have gu : Grow No I2 H4 (upd I2 u (.tup vs2)) (upd H4 u (.tup vs2)) := Grow.new g2.sub hu
          exact k _ (.ref u) _ _ ((gp.trans g2).trans gu) ⟨u, vs2, rfl, upd_same, Paired.mono' (fun _ _ z => Rep.mono gu.view z) hp2⟩ hns
end
end Nw

namespace Nw
open PySem PySem.Spec PyProof.Rows L2
/-! ### the needed ones are told by all -/
theorem asc_eq : ∀ {as bs : Rides}, (as.Pairwise fun a b => a.1 < b.1) → (bs.Pairwise fun a b => a.1 < b.1) → (∀ p, p ∈ as ↔ p ∈ bs) → as = bs
  | [], [], _, _, _ => rfl
  | [], b :: _, _, _, h => nomatch (h b).mpr (List.mem_cons_self ..)
  | a :: _, [], _, _, h => nomatch (h a).mp (List.mem_cons_self ..)
  | a :: as, b :: bs, ha, hb, h => by
    obtain ⟨a1, a2⟩ := List.pairwise_cons.mp ha
    obtain ⟨b1, b2⟩ := List.pairwise_cons.mp hb
    have e : a = b := by
      rcases List.mem_cons.mp ((h a).mp (List.mem_cons_self ..)) with z | z
      · exact z
      · rcases List.mem_cons.mp ((h b).mpr (List.mem_cons_self ..)) with y | y
        · exact y.symm
        · have := b1 a z
          have := a1 b y
          omega
    subst e
    rw [asc_eq a2 b2 fun p => ⟨fun hp => ?_, fun hp => ?_⟩]
    · rcases List.mem_cons.mp ((h p).mp (List.mem_cons_of_mem _ hp)) with z | z
      · have := a1 p hp
        rw [z] at this
        omega
      · exact z
    · rcases List.mem_cons.mp ((h p).mpr (List.mem_cons_of_mem _ hp)) with z | z
      · have := b1 p hp
        rw [z] at this
        omega
      · exact z
theorem needed_mem {rs ns : Rides} (h : IsNeeded rs ns) (p : Int × Int) : p ∈ ns ↔ p ∈ rs ∧ least1 rs p := by
  have same : ∀ n ∈ ns, ∀ n' ∈ ns, n.1 ≤ n'.1 → n'.2 ≤ n.2 → n = n' := fun n hn n' hn' h1 h2 => by
    obtain ⟨i, hi, rfl⟩ := List.mem_iff_getElem.mp hn
    obtain ⟨j, hj, rfl⟩ := List.mem_iff_getElem.mp hn'
    rcases Nat.lt_trichotomy i j with c | c | c
    · have := List.pairwise_iff_getElem.mp h.asc i j hi hj c
      omega
    · subst c
      rfl
    · have := List.pairwise_iff_getElem.mp h.asc j i hj hi c
      omega
  constructor
  · intro hp
    refine ⟨h.sub p hp, fun o ho ⟨z0, z1, z2⟩ => ?_⟩
    obtain ⟨n, hn, h1, h2⟩ := h.cov o ho
    have e := same p hp n hn (by omega) (by omega)
    subst e
    exact z0 (Prod.ext (by omega) (by omega))
  · rintro ⟨hp, lp⟩
    obtain ⟨n, hn, h1, h2⟩ := h.cov p hp
    by_cases e : n = p
    · rw [← e]
      exact hn
    · exact absurd ⟨e, h1, h2⟩ (lp n (h.sub n hn))
theorem needed_uniq {rs na nb : Rides} (ha : IsNeeded rs na) (hb : IsNeeded rs nb) : na = nb :=
  asc_eq (ha.asc.imp fun z => z.1) (hb.asc.imp fun z => z.1) fun p => by rw [needed_mem ha, needed_mem hb]
/-- shuffled, or the needed ones alone: the same needed ones -/
theorem needed_self {rs ns qs : Rides} (h : IsNeeded rs ns) (hq : ∀ p, p ∈ qs ↔ p ∈ ns) : IsNeeded qs ns where
  asc := h.asc
  sub := fun n hn => (hq n).mpr hn
  cov := fun r hr => ⟨r, (hq r).mp hr, Int.le_refl _, Int.le_refl _⟩
theorem isEnd_eq {rs ns : Rides} (hn : IsNeeded rs ns) : ∀ {m x : Mom}, IsEnd rs m x → x = endedL ns m
  | .first, x, h => h
  | .last, x, h => h
  | .num t, x, h => by
    have asc : (ns.filterMap fun r => if r.1 ≥ t then some r.2 else none).Pairwise (fun a b => a < b) := by
      rw [List.pairwise_filterMap]
      refine hn.asc.imp fun {a b} z x hx y hy => ?_
      split at hx
      · split at hy
        · cases hx
          cases hy
          exact z.2
        · cases hy
      · cases hx
    have mem : ∀ e, e ∈ (ns.filterMap fun r => if r.1 ≥ t then some r.2 else none) ↔ ∃ n ∈ ns, t ≤ n.1 ∧ n.2 = e := fun e => by
      rw [List.mem_filterMap]
      constructor
      · rintro ⟨n, h1, h2⟩
        split at h2
        · cases h2
          exact ⟨n, h1, by assumption, rfl⟩
        · cases h2
      · rintro ⟨n, h1, h2, rfl⟩
        exact ⟨n, h1, if_pos h2⟩
    show x = match (ns.filterMap fun r => if r.1 ≥ t then some r.2 else none) with
      | [] => .last
      | e :: _ => .num e
    generalize (ns.filterMap fun r => if r.1 ≥ t then some r.2 else none) = es at asc mem
    rcases h with ⟨rfl, h⟩ | ⟨e, rfl, ⟨r, hr, h1, rfl⟩, h2⟩
    · cases es with
      | nil => rfl
      | cons e l =>
        obtain ⟨n, hn', h1, _⟩ := (mem e).mp (List.mem_cons_self ..)
        exact absurd h1 (h n (hn.sub n hn'))
    · obtain ⟨n, hn', q1, q2⟩ := hn.cov r hr
      have hin := (mem n.2).mpr ⟨n, hn', by omega, rfl⟩
      cases es with
      | nil => cases hin
      | cons e l =>
        obtain ⟨n2, hn2, p1, p2⟩ := (mem e).mp (List.mem_cons_self ..)
        have h3 := h2 n2 (hn.sub n2 hn2) p1
        have h4 : e ≤ n.2 := by
          rcases List.mem_cons.mp hin with z | z
          · omega
          · have := (List.pairwise_cons.mp asc).1 _ z
            omega
        show Mom.num r.2 = Mom.num e
        rw [show r.2 = e by omega]
theorem isBegin_eq {rs ns : Rides} (hn : IsNeeded rs ns) : ∀ {m x : Mom}, IsBegin rs m x → x = begunL ns m
  | .first, x, h => h
  | .last, x, h => h
  | .num t, x, h => by
    have asc : (ns.filterMap fun r => if r.2 ≤ t then some r.1 else none).Pairwise (fun a b => a < b) := by
      rw [List.pairwise_filterMap]
      refine hn.asc.imp fun {a b} z x hx y hy => ?_
      split at hx
      · split at hy
        · cases hx
          cases hy
          exact z.1
        · cases hy
      · cases hx
    have desc := List.pairwise_reverse.mpr asc
    have mem : ∀ e, e ∈ (ns.filterMap fun r => if r.2 ≤ t then some r.1 else none).reverse ↔ ∃ n ∈ ns, n.2 ≤ t ∧ n.1 = e := fun e => by
      rw [List.mem_reverse, List.mem_filterMap]
      constructor
      · rintro ⟨n, h1, h2⟩
        split at h2
        · cases h2
          exact ⟨n, h1, by assumption, rfl⟩
        · cases h2
      · rintro ⟨n, h1, h2, rfl⟩
        exact ⟨n, h1, if_pos h2⟩
    show x = match (ns.filterMap fun r => if r.2 ≤ t then some r.1 else none).reverse with
      | [] => .first
      | e :: _ => .num e
    generalize (ns.filterMap fun r => if r.2 ≤ t then some r.1 else none).reverse = es at desc mem
    rcases h with ⟨rfl, h⟩ | ⟨e, rfl, ⟨r, hr, h1, rfl⟩, h2⟩
    · cases es with
      | nil => rfl
      | cons e l =>
        obtain ⟨n, hn', h1, _⟩ := (mem e).mp (List.mem_cons_self ..)
        exact absurd h1 (h n (hn.sub n hn'))
    · obtain ⟨n, hn', q1, q2⟩ := hn.cov r hr
      have hin := (mem n.1).mpr ⟨n, hn', by omega, rfl⟩
      cases es with
      | nil => cases hin
      | cons e l =>
        obtain ⟨n2, hn2, p1, p2⟩ := (mem e).mp (List.mem_cons_self ..)
        have h3 := h2 n2 (hn.sub n2 hn2) p1
        have h4 : n.1 ≤ e := by
          rcases List.mem_cons.mp hin with z | z
          · omega
          · have := (List.pairwise_cons.mp desc).1 _ z
            omega
        show Mom.num r.1 = Mom.num e
        rw [show r.1 = e by omega]
/-! ### links compared -/
def dP (r : Int × Int) : PyData := .tuple [.int r.1, .int r.2]
def dR (ns : Rides) : PyData := .tuple (ns.map dP)
theorem dp_all {K : PySem.W.Frag} {I H : Hp} (sb : Same I H) : ∀ {vs : List V} {ns : Rides}, Paired (Rep.is I) vs ns → DpAll K H vs (ns.map dP)
  | _, _, .nil => .nil
  | _, _, .cons ⟨a, v1, v2, e, ha, h1, h2⟩ t => by
    cases e
    cases h1
    cases h2
    exact .cons (.tup (SqT.of (sb _ _ ha)) (.cons (.int _) (.cons (.int _) .nil))) (dp_all sb t)
theorem dp_rides {K : PySem.W.Frag} {I H : Hp} {v : V} {ns : Rides} (h : isU I v ns) (sb : Same I H) : Dp K H v (dR ns) := by
  obtain ⟨a, vs, rfl, ha, hp⟩ := h
  exact .tup (SqT.of (sb _ _ ha)) (dp_all sb hp)
theorem lay_rides : ∀ ns : Rides, PyData.canLayAll0 (ns.map dP) = true ∧ PyData.depthAll (ns.map dP) ≤ 1
  | [] => ⟨rfl, Nat.zero_le _⟩
  | r :: ns => by
    obtain ⟨h1, h2⟩ := lay_rides ns
    refine ⟨?_, ?_⟩
    · show (PyData.canLay0 (dP r) && PyData.canLayAll0 (ns.map dP)) = true
      rw [h1]
      rfl
    · show max (PyData.depth (dP r)) (PyData.depthAll (ns.map dP)) ≤ 1
      exact Nat.max_le.mpr ⟨Nat.le_refl 1, h2⟩
theorem shaped_rides (ns : Rides) : SeqAt.shaped (dR ns) = true := by
  obtain ⟨h1, h2⟩ := lay_rides ns
  show (PyData.canLayAll0 (ns.map dP) && decide (PyData.depthAll (ns.map dP) + 1 ≤ 64)) = true
  rw [h1, decide_eq_true (by omega)]
  rfl
theorem eqv_all : ∀ ns ms : Rides, PyData.eqvAll (ns.map dP) (ms.map dP) = decide (ns = ms)
  | [], [] => rfl
  | [], _ :: _ => rfl
  | _ :: _, [] => rfl
  | a :: ns, b :: ms => by
    show (PyData.eqvAll [.int a.1, .int a.2] [.int b.1, .int b.2] && PyData.eqvAll (ns.map dP) (ms.map dP)) = _
    rw [eqv_all ns ms]
    show (((a.1 == b.1) && ((a.2 == b.2) && true)) && decide (ns = ms)) = _
    rw [Bool.eq_iff_iff]
    simp only [Bool.and_eq_true, beq_iff_eq, decide_eq_true_eq, Bool.and_true, List.cons.injEq]
    constructor
    · rintro ⟨⟨h1, h2⟩, h3⟩
      exact ⟨Prod.ext h1 h2, h3⟩
    · rintro ⟨rfl, h3⟩
      exact ⟨⟨rfl, rfl⟩, h3⟩
theorem eqv_rides (ns ms : Rides) : PyData.eqv (dR ns) (dR ms) = decide (ns = ms) := eqv_all ns ms

def sp_Link__eq (K : PySem.W.Frag) : Sp := fun vs H Q _ => ∃ (I : Hp) (v1 v2 : V) (na : Rides), vs = [v1, v2] ∧ isLink K I v1 na ∧ Same I H ∧ ((∃ nb, isLink K I v2 nb ∧ Q (.bl (decide (na = nb))) H) ∨ ∃ b xs, v2 = .ref b ∧ I b = some (.tup xs) ∧ Q (.bl false) H)
section
variable {P : Program} {w : World} {K : PySem.W.Frag} {mg : Str → Option Value} {base : Heap}
theorem ok_Link__eq (T : Txt K mg) (F : FnAt K "__eq__" "Link.__eq__" s_Link__eq (He.ma K (He.ga K "Link") "__eq__"))  : Ok P w K mg base CX0 1 (He.ma K (He.ga K "Link") "__eq__") ["self", "other"] (sp_Link__eq K) := by
  refine ok_of F sc_Link__eq (fun _ _ _ _ _ _ us hl => match us, hl with | [_, _], _ => rfl) (fun vs H Q E h => ?_) (fun cdv A outer s H vs Q E hr h => ?_)
  · obtain ⟨_, _, _, _, rfl, _⟩ := h
    rfl
  · obtain ⟨I, v1, v2, na, rfl, ⟨a, dx, t, rfl, ha, hu⟩, sb, hv⟩ := h
    refine ⟨_, (pss_one (ps_ret (pe_and (pe_callB call_isi (by rfl) T.b_isinstance (by decide +kernel) (pa_cons (pv 1) (pa_cons (pe_gref T.g_Link) pa_nil))) (pe_one (pe_cmpR (op_eqD hr.units) (pe_fld (pv 0) rfl) (pe_fld (pv 1) rfl) (nomark _)))))), ?_⟩
    rcases hv with ⟨nb, ⟨b, dy, t2, rfl, hb, hu2⟩, k⟩ | ⟨b, xs, rfl, hb, k⟩
    · refine ⟨_, rfl, .ref b, .ref (He.ga K "Link"), _, _, true, rfl, .own _, T.is_Link.ty T.cl_Link (sb _ _ hb), kit_self, true, rfl, ?_⟩
      refine iteT ⟨_, rfl, a, _, dx, _, _, rfl, sb _ _ ha, T.cl_Link, T.na_Link_own_rides, rfl, _, rfl, b, _, dy, _, _, rfl, sb _ _ hb, T.cl_Link, T.na_Link_own_rides, rfl, dR na, dR nb, dp_rides hu sb, dp_rides hu2 sb, shaped_rides na, shaped_rides nb, ?_⟩
      rw [eqv_rides]
      exact k
    · exact ⟨_, rfl, .ref b, .ref (He.ga K "Link"), _, _, false, rfl, .own _, .base (.tup (sb _ _ hb)), T.kt_Link, false, rfl, iteF k⟩
end
end Nw

namespace Nw
open PySem PySem.Spec PyProof.Rows L2
/-! ### the law's own look at a link -/
def big (x : Int) : Prop := x.natAbs ≤ 10 ^ 40
theorem big_show {x : Int} (h : big x) : (PyData.int x).showable = true := showable_int (k := 0) (Nat.lt_of_le_of_lt h (by decide))
theorem shows_rides {ns : Rides} (hl : ns.length ≤ 100) (hb : ∀ r ∈ ns, big r.1 ∧ big r.2) : Shows (dR ns) := by
  have ea : ∀ y ∈ ns.map dP, y.canLay0 = true ∧ y.showable = true ∧ y.depth ≤ 1 ∧ rm y ≤ 4000 := fun y hy => by
    obtain ⟨r, hr, rfl⟩ := List.mem_map.mp hy
    have q1 := big_show (hb r hr).1
    have q2 := big_show (hb r hr).2
    simp only [PyData.showable] at q1 q2
    refine ⟨rfl, ?_, ?_, ?_⟩
    · simp only [dP, PyData.showable, PyData.showableAll, q1, q2, Bool.and_self]
    · simp only [dP, PyData.depth, PyData.depthAll]; omega
    · simp only [dP, rm, rmAll]; omega
  have a1 := lay_all _ fun x h => (ea x h).1
  have a2 := showable_all _ fun x h => (ea x h).2.1
  have a3 := depth_all _ fun x h => (ea x h).2.2.1
  have a4 := rmAll_le _ fun x h => (ea x h).2.2.2
  rw [List.length_map] at a4
  refine ⟨?_, ?_, ?_, ?_⟩
  · simp only [dR, PyData.canLay0, a1]
  · simp only [dR, PyData.showable, a2]
  · simp only [dR, PyData.depth]; omega
  · simp only [dR, rm]
    rw [sizeLine_eq]
    omega
def Mom.py : Mom → PyData
  | .first => .str "first"
  | .last => .str "last"
  | .num t => .int t
theorem Mom.dp {K : PySem.W.Frag} {H : Hp} : ∀ m : Mom, Dp K H m.v m.py
  | .first => .str _
  | .last => .str _
  | .num _ => .int _
def bigM : Mom → Prop
  | .num t => big t
  | _ => True
theorem shows_mom : ∀ {m : Mom}, bigM m → Shows m.py
  | .first, _ => ⟨by decide +kernel, by decide +kernel, by decide +kernel, by decide +kernel⟩
  | .last, _ => ⟨by decide +kernel, by decide +kernel, by decide +kernel, by decide +kernel⟩
  | .num t, h => ⟨rfl, big_show h, (by show 0 ≤ 64; decide), (by show 1921 ≤ sizeLine; decide)⟩
theorem ended_big {ns : Rides} (hb : ∀ r ∈ ns, big r.1 ∧ big r.2) : ∀ m : Mom, bigM (endedL ns m)
  | .first => trivial
  | .last => trivial
  | .num t => by
    have mem : ∀ e ∈ (ns.filterMap fun r => if r.1 ≥ t then some r.2 else none), big e := fun e he => by
      obtain ⟨n, h1, h2⟩ := List.mem_filterMap.mp he
      split at h2
      · cases h2
        exact (hb n h1).2
      · cases h2
    show bigM (match (ns.filterMap fun r => if r.1 ≥ t then some r.2 else none) with
      | [] => .last
      | e :: _ => .num e)
    generalize (ns.filterMap fun r => if r.1 ≥ t then some r.2 else none) = es at mem
    cases es with
    | nil => trivial
    | cons e l => exact mem e (List.mem_cons_self ..)
theorem begun_big {ns : Rides} (hb : ∀ r ∈ ns, big r.1 ∧ big r.2) : ∀ m : Mom, bigM (begunL ns m)
  | .first => trivial
  | .last => trivial
  | .num t => by
    have mem : ∀ e ∈ (ns.filterMap fun r => if r.2 ≤ t then some r.1 else none).reverse, big e := fun e he => by
      obtain ⟨n, h1, h2⟩ := List.mem_filterMap.mp (List.mem_reverse.mp he)
      split at h2
      · cases h2
        exact (hb n h1).1
      · cases h2
    show bigM (match (ns.filterMap fun r => if r.2 ≤ t then some r.1 else none).reverse with
      | [] => .first
      | e :: _ => .num e)
    generalize (ns.filterMap fun r => if r.2 ≤ t then some r.1 else none).reverse = es at mem
    cases es with
    | nil => trivial
    | cons e l => exact mem e (List.mem_cons_self ..)
/-- rides that a link may be made of -/
structure Good (rs : Rides) : Prop where
  few : rs.length ≤ 60
  valid : ∀ r ∈ rs, r.1 ≤ r.2
  big : ∀ r ∈ rs, Nw.big r.1 ∧ Nw.big r.2
theorem IsNeeded.few {rs ns : Rides} (h : IsNeeded rs ns) : ns.length ≤ rs.length := by
  have nd : ns.Nodup := h.asc.imp fun {a b} hab e => by rw [e] at hab; omega
  exact List.Nodup.length_le_of_subset nd h.sub
theorem paired_zip {I : Hp} : ∀ {us : List V} {ns : Rides}, Paired (Rep.is I) us ns → (us.zip ns).map Prod.fst = us ∧ (us.zip ns).map Prod.snd = ns ∧ ∀ p ∈ us.zip ns, Rep.is I p.1 p.2
  | _, _, .nil => ⟨rfl, rfl, fun _ h => nomatch h⟩
  | _, _, .cons h t => by
    obtain ⟨h1, h2, h3⟩ := paired_zip t
    refine ⟨congrArg (_ :: ·) h1, congrArg (_ :: ·) h2, fun p hp => ?_⟩
    rcases List.mem_cons.mp hp with rfl | hp
    · exact h
    · exact h3 p hp
theorem unzip_paired {I : Hp} : ∀ {l : List (V × (Int × Int))}, (∀ p ∈ l, Rep.is I p.1 p.2) → Paired (Rep.is I) (l.map Prod.fst) (l.map Prod.snd)
  | [], _ => .nil
  | p :: l, h => .cons (h p (List.mem_cons_self ..)) (unzip_paired fun q hq => h q (List.mem_cons_of_mem _ hq))
def sp_l_right (K : PySem.W.Frag) : Sp := fun vs H Q _ => ∃ (I : Hp) (D : DA) (n : Nat) (v : V) (rs : Rides) (z : Int), vs = [.ref D.d, v, .int z] ∧ Drw D n I H ∧ n + 200 < lim ∧ isL I v rs ∧ Good rs ∧ ∀ I' H', Grow (TD D) I H I' H' → Drw D (n + 200) I' H' → Q (.bl true) H'
/-- Link(..), asked at rides -/
theorem make_good {K : PySem.W.Frag} {I H : Hp} {a : Addr} {t : Bool} {ws : List V} {rs : Rides} {x dx : Addr} {Q2 : VK} (hx : H x = none) (hdx : H dx = none) (ne : dx ≠ x) (sb : Same I H) (ha : H a = some (ho t ws)) (hat : I a = some (ho t ws) ∨ (t = false ∧ I a = none)) (hp : Paired (Rep.is I) ws rs) (g : Good rs)
    (k : ∀ ns I' H', Grow No I H I' H' → isLink K I' (.ref x) ns → IsNeeded rs ns → Q2 .non H') :
    spb_Link__init K [.ref x, .ref a] (upd (upd H dx (.own x)) x (.ins (He.ga K "Link") dx [])) Q2 E0 := by
  have gm : Grow No I H I (upd (upd H dx (.own x)) x (.ins (He.ga K "Link") dx [])) := grow_made sb hx hdx ne
  have nax : a ≠ x := fun z => by rw [z, hx] at ha; cases ha
  refine ⟨I, x, dx, .ref a, none, rs.map fun r => .sq true [.int r.1, .int r.2], rfl, upd_same, sb.free hx, gm.sub, .inr ⟨a, t, ws, rfl, nax, gm.same _ _ ha, hat, rides_es hp, by rw [List.length_map]; have := g.few; omega, dueR_of g.few g.valid⟩, ?_⟩
  rw [rides_back]
  intro ns t' I' H' g2 hi hu hn
  obtain ⟨g3, n3⟩ := Grow.make (T := No) (o := .ins (He.ga K "Link") dx [("own_rides", t')]) (Grow.refl sb) hx hdx ne g2 (fun b z => .inr (by rw [show b = x from z]; exact hx)) hi
  exact k ns _ _ g3 ⟨x, dx, t', rfl, upd_same, hu.up' (Same.up n3)⟩ hn
section
variable {P : Program} {w : World} {K : PySem.W.Frag} {mg : Str → Option Value} {base : Heap}
theorem ok_l_right (T : Txt K mg) (F : FnAt K "_law_right" "_law_right" s_l_right (He.ga K "_law_right")) (G_l_moment : Ok P w K mg base CX0 3 (He.ga K "_law_moment") ["_law_draw", "_law_wide"] (sp_l_moment K)) (G_l_put_off : Ok P w K mg base CX0 1 (He.ga K "_law_put_off") ["_law_moment_here", "_law_shift_here"] (sp_l_put_off K)) (G_l_end : Ok P w K mg base CX0 1 (He.ga K "_law_end") ["_law_rides_here", "_law_moment_here"] (sp_l_end K)) (G_l_begin : Ok P w K mg base CX0 1 (He.ga K "_law_begin") ["_law_rides_here", "_law_moment_here"] (sp_l_begin K)) (G_l_shuffled : Ok P w K mg base CX0 2 (He.ga K "_law_shuffled") ["_law_draw", "_law_some"] (sp_l_shuffled K)) (G_l_needed : Ok P w K mg base CX0 1 (He.ga K "_law_needed") ["_law_rides_here"] (sp_l_needed K)) (GX_Link__init : Ok P w K mg base (L2.CX P w) 3 (He.ma K (He.ga K "Link") "__init__") ["self", "rides"] (fun vs H Q E => sp_Link__init K vs H Q E ∨ spb_Link__init K vs H Q E)) (G_Link_rides : Ok P w K mg base CX0 1 (propGet K (He.ga K "Link") "rides") ["self"] (sp_Link_rides K)) (GX_Link_end : Ok P w K mg base (L2.CX P w) 4 (He.ma K (He.ga K "Link") "end") ["self", "moment"] (fun vs H Q E => sp_Link_end K vs H Q E ∨ spb_Link_end K vs H Q E)) (GX_Link_begin : Ok P w K mg base (L2.CX P w) 4 (He.ma K (He.ga K "Link") "begin") ["self", "moment"] (fun vs H Q E => sp_Link_begin K vs H Q E ∨ spb_Link_begin K vs H Q E)) (G_Link__eq : Ok P w K mg base CX0 1 (He.ma K (He.ga K "Link") "__eq__") ["self", "other"] (sp_Link__eq K)) : OkG P w K mg base CX0 8 (He.ga K "_law_right") ["_law_draw", "_law_rides_here", "_law_shift_here"] (sp_l_right K) := by
  obtain ⟨fd_Link_rides, F_Link_rides, b_Link_rides, _⟩ := G_Link_rides.ok
  obtain ⟨fdX_Link_end, FX_Link_end, bX_Link_end, _⟩ := GX_Link_end.ok
  obtain ⟨fdX_Link_begin, FX_Link_begin, bX_Link_begin, _⟩ := GX_Link_begin.ok
  obtain ⟨fd_Link__eq, F_Link__eq, b_Link__eq, _⟩ := G_Link__eq.ok
  refine okg_of F sc_l_right (fun _ _ _ _ _ _ us hl => match us, hl with | [_, _, _], _ => rfl) (fun vs H Q E h => ?_) (fun cdv A outer s H vs Q E hr hgd h => ?_)
  · obtain ⟨_, _, _, _, _, _, rfl, _⟩ := h
    rfl
  · obtain ⟨I, D, n, v, rs, z, rfl, dr, hlim, ⟨a, vs, rfl, ha, hp⟩, gd, k⟩ := h
    refine ⟨_, (pss_cons (ps_set (i := 3) sc_l_right.nd rfl (Or.inl rfl) (pe_callTy call_list_of (by rfl) T.b_list (by decide +kernel) (pa_cons (pv 1) pa_nil)))
      (pss_cons (ps_set (i := 4) sc_l_right.nd rfl (Or.inl rfl) (pe_makeX T.mk_Link GX_Link__init (hr.mono (by decide)) T.g_Link passN (pa_cons (pv 3) pa_nil)))
      (pss_cons (ps_expr (pe_bm PySem.F.plainAttrs_list PySem.F.slot_list_append PySem.F.type_list_append mt_append (pv 3) (pa_cons (pe_tup (pa_cons pe_int (pa_cons pe_int pa_nil))) pa_nil)))
      (pss_cons (ps_expr (pe_bm0 PySem.F.plainAttrs_list PySem.F.slot_list_reverse PySem.F.type_list_reverse mt_reverse (pv 3)))
      (pss_cons (ps_if (pt_cmpR op_ne (pe_callB (call_reprD hgd (un70 hr)) (by rfl) T.b_repr (by decide +kernel) (pa_cons (pe_propC T.cl_Link T.p_Link_rides G_Link_rides (hr.mono (by decide)) (pv 4)) pa_nil)) (pe_callB (call_reprD hgd (un70 hr)) (by rfl) T.b_repr (by decide +kernel) (pa_cons (pe_callC G_l_needed (hr.mono (by decide)) T.g__law_needed (pa_cons (pv 1) pa_nil)) pa_nil)) (nomark _)) (pss_one (ps_ret pe_bl)) pss_nil)
      (pss_cons (ps_for PassesOwn.never rfl (pi_range1 rfl T.b_range (pa_cons pe_int pa_nil)) (pg_name (i := 5) sc_l_right.nd rfl (Or.inl rfl)) (pss_cons (ps_set (i := 6) sc_l_right.nd rfl (Or.inl rfl) (pe_callC G_l_put_off (hr.mono (by decide)) T.g__law_put_off (pa_cons (pe_callC G_l_moment (hr.mono (by decide)) T.g__law_moment (pa_cons (pv 0) (pa_cons pe_int pa_nil))) (pa_cons (pv 2) pa_nil))))
      (pss_cons (ps_if (pt_cmpR op_ne (pe_callB (call_reprD hgd (un70 hr)) (by rfl) T.b_repr (by decide +kernel) (pa_cons (pe_meth (pv 4) T.cl_Link T.m_Link_end FX_Link_end (hr.mono (by decide)) bX_Link_end .nil passN (pa_cons (pv 6) pa_nil)) pa_nil)) (pe_callB (call_reprD hgd (un70 hr)) (by rfl) T.b_repr (by decide +kernel) (pa_cons (pe_callC G_l_end (hr.mono (by decide)) T.g__law_end (pa_cons (pv 1) (pa_cons (pv 6) pa_nil))) pa_nil)) (nomark _)) (pss_one (ps_ret pe_bl)) pss_nil)
      (pss_one (ps_if (pt_cmpR op_ne (pe_callB (call_reprD hgd (un70 hr)) (by rfl) T.b_repr (by decide +kernel) (pa_cons (pe_meth (pv 4) T.cl_Link T.m_Link_begin FX_Link_begin (hr.mono (by decide)) bX_Link_begin .nil passN (pa_cons (pv 6) pa_nil)) pa_nil)) (pe_callB (call_reprD hgd (un70 hr)) (by rfl) T.b_repr (by decide +kernel) (pa_cons (pe_callC G_l_begin (hr.mono (by decide)) T.g__law_begin (pa_cons (pv 1) (pa_cons (pv 6) pa_nil))) pa_nil)) (nomark _)) (pss_one (ps_ret pe_bl)) pss_nil)))))
      (pss_one (ps_ret (pe_and (pe_cmpR (op_own_eq T.m_Link___eq__ F_Link__eq (hr.mono (by decide)) b_Link__eq) (pv 4) (pe_makeX T.mk_Link GX_Link__init (hr.mono (by decide)) T.g_Link passN (pa_cons (pe_callC G_l_shuffled (hr.mono (by decide)) T.g__law_shuffled (pa_cons (pv 0) (pa_cons (pe_callTy call_list_of (by rfl) T.b_list (by decide +kernel) (pa_cons (pe_propC T.cl_Link T.p_Link_rides G_Link_rides (hr.mono (by decide)) (pv 4)) pa_nil)) pa_nil))) pa_nil)) (nomark _)) (pe_and (pe_not (pe_cmpR (op_own_ne T.m_Link___eq__ T.ne_Link T.ob_Link F_Link__eq (hr.mono (by decide)) b_Link__eq) (pv 4) (pe_makeX T.mk_Link GX_Link__init (hr.mono (by decide)) T.g_Link passN (pa_cons (pe_callTy call_tuple_of (by rfl) T.b_tuple (by decide +kernel) (pa_cons (pv 1) pa_nil)) pa_nil)) (nomark _))) (pe_one (pe_cmpR (op_own_neT T.nt_Link T.m_Link___eq__ T.ne_Link T.ob_Link F_Link__eq (hr.mono (by decide)) b_Link__eq) (pv 4) (pe_propC T.cl_Link T.p_Link_rides G_Link_rides (hr.mono (by decide)) (pv 4)) (nomark _))))))))))))), ?_⟩
    have hlen := Nw.Paired.len hp
    have hfew := gd.few
    refine ⟨_, rfl, a, vs, rfl, .inl (SqL.of (dr.sub _ _ ha)), fun L hL => ?_⟩
    have g1 : Grow No I H I (upd H L (.lst vs)) := Grow.mine dr.sub hL
    have aL : upd H L (.lst vs) L = some (.lst vs) := upd_same
    have niL := dr.sub.free hL
    generalize upd H L (.lst vs) = H1 at g1 aL ⊢
    refine ⟨_, rfl, fun x dx hx hdx ne => .inr (make_good (K := K) hx hdx ne g1.sub (t := false) aL (.inr ⟨rfl, niL⟩) hp gd fun ns I2 H2 g2 hlk hn => ⟨rfl, ?_⟩)⟩
    clear hx hdx ne
    have aL2 := g2.same _ _ aL
    have niL2 : I2 L = none := g2.fresh L niL (by rw [aL]; exact fun z => nomatch z)
    have gg := g1.trans g2
    refine ⟨_, rfl, .inl ⟨rfl, _, SqL.of aL2⟩, (by show 2 ≤ sizeLine; decide), fun t ht => ?_⟩
    have gt : Grow No I2 H2 I2 (upd H2 t (.tup [.int 0, .int 0])) := Grow.mine g2.sub ht
    have aL3 := gt.same _ _ aL2
    refine ⟨L, vs, _, rfl, rfl, aL3, by rw [sizeLine_eq]; omega, ?_⟩
    refine ⟨_, rfl, .inl ⟨rfl, _, SqL.of upd_same⟩, L, _, rfl, rfl, upd_same, ?_⟩
    rw [upd_upd]
    have g3 : Grow No I H I2 (upd (upd H2 t (.tup [.int 0, .int 0])) L (.lst (vs ++ [V.ref t]).reverse)) := (gg.trans gt).drop (T' := TX L) ((Grow.refl gt.sub).chg rfl niL2) fun b e => .inr (by rw [show b = L from e]; exact hL)
    have d3 := dr.grow g3
    generalize upd (upd H2 t (.tup [.int 0, .int 0])) L (.lst (vs ++ [V.ref t]).reverse) = H3 at g3 d3 ⊢
    clear aL3 gt aL2 niL2 gg
    obtain ⟨xa, dx2, t2, ex, hx2, hu⟩ := id hlk
    cases ex
    have hns : ns.length ≤ 60 := Nat.le_trans hn.few hfew
    have sD := shows_rides (ns := ns) (by omega) fun r hr => gd.big r (hn.sub r hr)
    have hL3 : ∀ {J : Hp}, Same I2 J → isL J (.ref a) rs := fun e => ⟨a, vs, rfl, (g3.view.trans e) _ _ ha, Paired.mono' (fun _ _ z => Rep.mono (g3.view.trans e) z) hp⟩
    refine ⟨_, rfl, x, dx2, _, rfl, g3.sub _ _ hx2, x, dx2, t2, rfl, g3.sub _ _ hx2, ?_⟩
    refine ⟨_, dR ns, rfl, dp_rides hu g3.sub, sD.sh, sD.nd, sD.deep, sD.len, _, rfl, I2, .ref a, rs, rfl, hL3 (Same.refl I2), by omega, gd.valid, g3.sub, fun ns4 v4 I4 H4 g4 hu4 hn4 => ?_⟩
    have e4 := needed_uniq hn4 hn
    subst e4
    refine ⟨_, dR ns4, rfl, dp_rides hu4 g4.sub, sD.sh, sD.nd, sD.deep, sD.len, rfl, false, ?_, iteF ?_⟩
    · rw [decide_eq_true rfl] <;> rfl
    have G4 : Grow (TD D) I H I4 H4 := (g3.trans g4).no
    have d4 := d3.grow g4
    refine ⟨6, rfl, by decide, by decide, ?_⟩
    refine for_it (walk_range (lo := 0) (n := 6)) (fun j σ H' => ∃ (I' : Hp) (v5 v6 : Option V), σ = [some (.ref D.d), some (.ref a), some (.int z), some (.ref L), some (.ref x), v5, v6] ∧ Grow (TD D) I H I' H' ∧ Drw D (n + 6 * j) I' H' ∧ Same I2 I')
      ⟨I4, _, _, rfl, G4, d4, g4.view⟩ (fun _ _ _ _ _ => trivial) ?_ ?_
    · rintro j y σ Hy H5 hj ⟨I5, v5, v6, rfl, G5, d5, e5⟩ ⟨rfl, rfl⟩
      refine ⟨_, rfl, I5, D, _, 24, rfl, d5, by omega, by decide, by decide, fun m I6 H6 sm g6 d6 => ?_⟩
      refine ⟨_, rfl, I6, m, z, rfl, d6.sub, fun I7 H7 g7 => ?_⟩
      have d7 := d6.grow g7
      have e7 := e5.trans (g6.view.trans g7.view)
      have hlk7 := hlk.up e7
      have hx7 := d7.sub _ _ (e7 _ _ hx2)
      have hbn : ∀ r ∈ ns4, big r.1 ∧ big r.2 := fun r hr => gd.big r (hn.sub r hr)
      have sE := shows_mom (ended_big hbn (offM m z))
      have sB := shows_mom (begun_big hbn (offM m z))
      refine ⟨_, rfl, x, dx2, _, rfl, hx7, rfl, _, rfl, .inr ⟨I7, .ref x, (offM m z).v, ns4, rfl, hlk7, by omega, d7.sub, .inl ⟨offM m z, rfl, fun I8 H8 g8 => ?_⟩⟩⟩
      have e8 := e7.trans g8.view
      refine ⟨_, (endedL ns4 (offM m z)).py, rfl, Mom.dp _, sE.sh, sE.nd, sE.deep, sE.len, _, rfl, _, rfl, I8, .ref a, rs, offM m z, rfl, hL3 e8, by omega, g8.sub, fun xm I9 H9 g9 he => ?_⟩
      have ex := isEnd_eq hn he
      subst ex
      have e9 := e8.trans g9.view
      refine ⟨_, (endedL ns4 (offM m z)).py, rfl, Mom.dp _, sE.sh, sE.nd, sE.deep, sE.len, rfl, false, ?_, iteF ?_⟩
      · rw [decide_eq_true rfl] <;> rfl
      refine ⟨_, rfl, x, dx2, _, rfl, g9.sub _ _ (e9 _ _ hx2), rfl, _, rfl, .inr ⟨I9, .ref x, (offM m z).v, ns4, rfl, hlk.up e9, by omega, g9.sub, .inl ⟨offM m z, rfl, fun I10 H10 g10 => ?_⟩⟩⟩
      have e10 := e9.trans g10.view
      refine ⟨_, (begunL ns4 (offM m z)).py, rfl, Mom.dp _, sB.sh, sB.nd, sB.deep, sB.len, _, rfl, _, rfl, I10, .ref a, rs, offM m z, rfl, hL3 e10, by omega, g10.sub, fun xm I11 H11 g11 he => ?_⟩
      have ex := isBegin_eq hn he
      subst ex
      refine ⟨_, (begunL ns4 (offM m z)).py, rfl, Mom.dp _, sB.sh, sB.nd, sB.deep, sB.len, rfl, false, ?_, iteF ?_⟩
      · rw [decide_eq_true rfl] <;> rfl
      have g711 := g8.trans (g9.trans (g10.trans g11))
      exact ⟨I11, _, _, rfl, G5.trans (g6.trans (g7.trans g711).no), (d7.grow g711).mono (by omega), e10.trans g11.view⟩
    · rintro σ H5 ⟨I5, v5, v6, rfl, G5, d5, e5⟩
      have hx5 := d5.sub _ _ (e5 _ _ hx2)
      obtain ⟨b, us, eb, hb, hpu⟩ := id hu
      subst eb
      have hb5 := d5.sub _ _ (e5 _ _ hb)
      have lus := Nw.Paired.len hpu
      refine ⟨_, rfl, _, rfl, _, rfl, x, dx2, _, rfl, hx5, x, dx2, _, rfl, hx5, b, us, rfl, .inr (SqT.of hb5), fun M hM => ?_⟩
      have gM : Grow No I5 H5 I5 (upd H5 M (.lst us)) := Grow.mine d5.sub hM
      have aM : upd H5 M (.lst us) M = some (.lst us) := upd_same
      have dM := d5.mine (o := .lst us) hM
      generalize upd H5 M (.lst us) = H6 at gM aM dM ⊢
      obtain ⟨z1, z2, z3⟩ := paired_zip (Paired.mono' (fun _ _ z => Rep.mono e5 z) hpu)
      have zl : (us.zip ns4).length = ns4.length := by rw [← List.length_map (f := Prod.snd), z2]
      refine ⟨V × (Int × Int), Prod.fst, I5, D, n + 6 * 6, M, us.zip ns4, rfl, dM, by omega, by omega, SqL.of (by rw [z1]; exact aM), fun l' q I7 H7 pm g7 d7 hq => ?_⟩
      have hz : ∀ p ∈ l', Rep.is I7 p.1 p.2 := fun p hp => Rep.mono g7.view (z3 p (pm.mem_iff.mp hp))
      have pr7 := unzip_paired hz
      have mq : ∀ p, p ∈ l'.map Prod.snd ↔ p ∈ ns4 := fun p => by
        rw [← z2, (pm.map Prod.snd).mem_iff]
      have gq : Good (l'.map Prod.snd) := ⟨by rw [List.length_map, pm.length_eq, zl]; exact hns, fun r hr => gd.valid r (hn.sub r ((mq r).mp hr)), fun r hr => gd.big r (hn.sub r ((mq r).mp hr))⟩
      refine fun x3 dx3 hx3 hdx3 ne3 => .inr (make_good (K := K) hx3 hdx3 ne3 d7.sub (t := false) (d7.sub _ _ hq) (.inl hq) pr7 gq fun ns8 I8 H8 g8 hlk8 hn8 => ⟨rfl, ?_⟩)
      clear hx3 hdx3 ne3
      have e68 := needed_uniq hn8 (needed_self hn mq)
      subst e68
      have d8 := d7.grow g8
      have e8 := e5.trans (g7.view.trans g8.view)
      have hx8 := d8.sub _ _ (e8 _ _ hx2)
      obtain ⟨_, dx4, t4, e4', hx4, hu4'⟩ := id hlk8
      cases e4'
      refine ⟨x, x3, dx2, dx4, _, _, rfl, rfl, hx8, d8.sub _ _ hx4, I8, .ref x, .ref x3, ns8, rfl, hlk.up e8, d8.sub, .inl ⟨ns8, hlk8, _, rfl, true, by rw [decide_eq_true rfl]; rfl, iteT ?_⟩⟩
      -- the link of the tuple
      have ha8 := d8.sub _ _ ((g3.view.trans e8) _ _ ha)
      refine ⟨_, rfl, _, rfl, a, vs, rfl, .inl ⟨SqL.of ha8, fun u hu' => ?_⟩⟩
      have gu : Grow No I8 H8 (upd I8 u (.tup vs)) (upd H8 u (.tup vs)) := Grow.new d8.sub hu'
      have au : upd I8 u (.tup vs) u = some (.tup vs) := upd_same
      have du := d8.grow gu
      generalize upd I8 u (.tup vs) = I9 at gu au du
      generalize upd H8 u (.tup vs) = H9 at gu du ⊢
      have e9 := e8.trans gu.view
      refine fun x5 dx5 hx5 hdx5 ne5 => .inr (make_good (K := K) hx5 hdx5 ne5 du.sub (t := true) (du.sub _ _ au) (.inl au) (Paired.mono' (fun _ _ z => Rep.mono (g3.view.trans e9) z) hp) gd fun ns9 I10 H10 g10 hlk10 hn10 => ⟨rfl, ?_⟩)
      clear hx5 hdx5 ne5
      have e610 := needed_uniq hn10 hn
      subst e610
      have d10 := du.grow g10
      have e10 := e9.trans g10.view
      have hx10 := d10.sub _ _ (e10 _ _ hx2)
      obtain ⟨_, dx6, t6, e6', hx6, hu6'⟩ := id hlk10
      cases e6'
      refine ⟨x, x5, dx2, dx6, _, _, rfl, rfl, hx10, d10.sub _ _ hx6, I10, .ref x, .ref x5, ns9, rfl, hlk.up e10, d10.sub, .inl ⟨ns9, hlk10, _, rfl, ?_⟩⟩
      refine ⟨false, by rw [decide_eq_true rfl]; rfl, true, rfl, iteT ?_⟩
      refine ⟨_, rfl, _, rfl, x, dx2, _, rfl, hx10, x, dx2, _, rfl, hx10, ?_⟩
      refine ⟨x, b, dx2, _, us, rfl, rfl, hx10, d10.sub _ _ (e10 _ _ hb), I10, .ref x, .ref b, ns9, rfl, hlk.up e10, d10.sub, .inr ⟨b, us, rfl, e10 _ _ hb, false, rfl, ?_⟩⟩
      exact k I10 H10 (G5.trans (gM.no.trans (g7.trans (g8.no.trans (gu.no.trans g10.no))))) (d10.mono (by omega))
end
end Nw

namespace Nw
open PySem PySem.Spec PyProof.Rows L2
/-! ### the law's own look at errors -/
def tAny (te : TE) : TS := fun D σ H => ∃ Kx : VK, (∀ v H', Kx v H' → D.nx σ H') ∧ te σ H Kx
theorem ps_any {X : Cx} {e : Expr} {te : TE} {pos : Pos} (he : PE X e te) (hs : swapsWith e none pos.line X.env = pure false := by rfl) : PS X (.Expr e pos) (tAny te) := by
  refine ⟨fun pins s σ H D I h => ?_⟩
  obtain ⟨Kx, h1, h2⟩ := h
  exact (ps_expr (te := fun σ H Q => (∀ v H', Kx v H' → Q v H') ∧ te σ H Kx) ⟨fun pins s σ H Q I h => wpAny_mono (he.run pins s σ H Kx I h.2) (fun v s1 ⟨x, H1, I1, r1, q1⟩ => ⟨x, H1, I1, r1, h.1 _ _ q1⟩) fun _ _ z => z⟩ hs).run pins s σ H D I ⟨fun v H' z => h1 v H' z, h2⟩
theorem gives_l_told {K : PySem.W.Frag} {mg : Str → Option Value} (T : Txt K mg) {X : Cx} {g : Addr} {cdg : Value} {q : Str} (hK : X.K = K) (hm : X.mg = mg) : LamX.GivesTo X n_l_told "_law_told" (defScope s_l_told) g cdg (defBody s_l_told) "_law_work" q (TTo K (He.ga K "OrderError")) := by
  subst hK
  subst hm
  intro f c' s H Q tl act hc h
  refine ⟨_, pss_cons (ps_set (i := 1) sc_l_told.nd rfl (Or.inl rfl) pe_non) (pss_cons
      (ps_try_keep (X := (cxOf C8.CX0 X.prog X.w X.K X.mg X.base n_l_told "_law_told" (defScope s_l_told) g cdg X.A X.stack s H C8.E0).nox) (i := 2) (c := .ref (He.ga X.K "OrderError"))
        (tb := fun W D σ H => ∃ Ech : XK, (∀ cls d H', Ech cls d H' → EW 3 W cls d H') ∧ ∃ Kx : VK, (∀ v H', Kx v H' → D.nx σ H') ∧ σ[0]? = some (some (.ref f)) ∧ H c' = some (LamX.CodeO c' q) ∧ tl Ech H Kx)
        (ts := fun a cls d D σ H => tVar 2 σ H fun v H1 => D.nx (σ.set 1 (some v)) H1)
        rfl rfl rfl sc_l_told.nd rfl rfl ⟨rfl, by decide, .inl T.g_OrderError⟩ (fun W pn xe tk => ?_) (fun a oe cls d pn z vs => pss_one (ps_set (i := 1) sc_l_told.nd rfl (Or.inl rfl) (pv 2))))
      (pss_one (ps_ret (pv 1)))), ?_⟩
  · refine ⟨fun pins s' σ H' D I h' => ?_⟩
    obtain ⟨Ech, hW, Kx, hk, h1, h2, h3⟩ := h'
    exact (pss_one (ps_any (act _ pn xe Ech _ _ (Nw.Takes.len tk) fun cls d σ' H' z hl => hW cls d H' z σ' hl))).run pins s' σ H' D I ⟨Kx, hk, h1, h2, h3⟩
  · refine ⟨EO X.K (He.ga X.K "OrderError") Q, fun cls d H' ⟨z1, z2⟩ σ hl => ⟨z1, fun a ha => ?_⟩, fun _ H2 => Q .non H2, fun _ H' z => ⟨_, rfl, z⟩, rfl, hc, h⟩
    match σ, hl with
    | [x, y, z], _ => exact ⟨_, rfl, _, rfl, z2 a ha⟩

theorem LSt.put {Tb : List (Addr × Str)} {D : DA} {n : Nat} {I H H0 : Hp} {l : Addr} {ws : List V} {o' : HO} (s : LSt Tb D n I H) (ow : Own (TD D) H0 l (.lst ws) I H) : LSt Tb D n I (upd H l o') :=
  ⟨s.drw.put ow, s.nt, tabs_keep s.tabs ((Grow.refl s.sub).chg (T := TX l) rfl ow.ni) fun b o e h t => by
    rw [show b = l from t, ow.at_] at e
    cases e
    rcases h with ⟨_, z⟩ | ⟨_, z⟩ <;> cases z⟩
theorem e38 : (10 : Nat) ^ 38 = 100000000000000000000000000000000000000 := by decide
theorem e40 : (10 : Nat) ^ 40 = 10000000000000000000000000000000000000000 := by decide
theorem big_of {x : Int} (h : x.natAbs ≤ 100000000000000000000000000000000009999999) : True := trivial
theorem good_off {rs : Rides} {z : Int} (hl : rs.length ≤ 12) (hv : ∀ r ∈ rs, r.1 ≤ r.2 ∧ r.1.natAbs < 5000000 ∧ r.2.natAbs < 5000000) (hz : z.natAbs ≤ 10 ^ 38) : Good (rs.map fun r => (r.1 + z, r.2 + z)) ∧ ∀ r ∈ rs.map (fun r => (r.1 + z, r.2 + z)), r.1.natAbs ≤ 10 ^ 38 + 5000000 ∧ r.2.natAbs ≤ 10 ^ 38 + 5000000 := by
  rw [e38] at hz
  have key : ∀ r ∈ rs.map (fun r => (r.1 + z, r.2 + z)), r.1 ≤ r.2 ∧ r.1.natAbs ≤ 10 ^ 38 + 5000000 ∧ r.2.natAbs ≤ 10 ^ 38 + 5000000 := fun r hr => by
    obtain ⟨q, hq, rfl⟩ := List.mem_map.mp hr
    obtain ⟨h1, h2, h3⟩ := hv q hq
    rw [e38]
    dsimp only
    omega
  refine ⟨⟨by rw [List.length_map]; omega, fun r hr => (key r hr).1, fun r hr => ?_⟩, fun r hr => (key r hr).2⟩
  obtain ⟨_, h1, h2⟩ := key r hr
  rw [e38] at h1 h2
  unfold Nw.big
  rw [e40]
  omega
theorem good_more {rs : Rides} (hl : rs.length ≤ 12) (hv : ∀ r ∈ rs, r.1 ≤ r.2) (hb : ∀ r ∈ rs, r.1.natAbs ≤ 10 ^ 38 + 5000000 ∧ r.2.natAbs ≤ 10 ^ 38 + 5000000) : Good (rs ++ rs.map fun r => (r.1 - 1, r.2 + 3)) := by
  have key : ∀ r ∈ rs ++ rs.map (fun r => (r.1 - 1, r.2 + 3)), r.1 ≤ r.2 ∧ Nw.big r.1 ∧ Nw.big r.2 := fun r hr => by
    rcases List.mem_append.mp hr with hr | hr
    · obtain ⟨h1, h2⟩ := hb r hr
      have := hv r hr
      unfold Nw.big
      rw [e38] at h1 h2
      rw [e40]
      omega
    · obtain ⟨q, hq, rfl⟩ := List.mem_map.mp hr
      obtain ⟨h1, h2⟩ := hb q hq
      have := hv q hq
      unfold Nw.big
      rw [e38] at h1 h2
      rw [e40]
      dsimp only
      omega
  exact ⟨by rw [List.length_append, List.length_map]; omega, fun r hr => (key r hr).1, fun r hr => (key r hr).2⟩
theorem len3 {α : Type} {l : List α} (h : l.length = 3) : ∃ a b c, l = [a, b, c] := by
  match l, h with
  | [a, b, c], _ => exact ⟨a, b, c, rfl⟩
theorem paired3 {α β : Type} {F : α → β → Prop} {l : List α} {x y z : β} (h : Paired F l [x, y, z]) : ∃ a b c, l = [a, b, c] ∧ F a x ∧ F b y ∧ F c z := by
  cases h with
  | cons h1 t =>
    cases t with
    | cons h2 t =>
      cases t with
      | cons h3 t =>
        cases t
        exact ⟨_, _, _, rfl, h1, h2, h3⟩
theorem Paired.app {α β : Type} {F : α → β → Prop} : ∀ {xs : List α} {ys : List β} {us : List α} {ws : List β}, Paired F xs ys → Paired F us ws → Paired F (xs ++ us) (ys ++ ws)
  | _, _, _, _, .nil, h => h
  | _, _, _, _, .cons a t, h => .cons a (Paired.app t h)
theorem cut_take (xs : List V) (k : Nat) : cutV xs none (some (k : Int)) = xs.take k := by
  unfold cutV HT.sIx
  simp only [List.drop_zero, Nat.sub_zero]
  by_cases h : k ≤ xs.length
  · congr 1
    rw [if_neg (by omega)]
    omega
  · rw [List.take_of_length_le (by omega : xs.length ≤ k)]
    apply List.take_of_length_le
    rw [if_neg (by omega)]
    omega
theorem cut_dropL (xs : List V) (k : Nat) (h : k ≤ xs.length) : cutV xs (some (k : Int)) none = xs.drop k := by
  have e1 : HT.sIx xs.length 0 (some (k : Int)) = k := by
    unfold HT.sIx
    simp only
    split <;> omega
  have e2 : HT.sIx xs.length xs.length none = xs.length := rfl
  unfold cutV
  rw [e1, e2]
  apply List.take_of_length_le
  rw [List.length_drop]
  exact Nat.le_refl _
theorem Paired.take {α β : Type} {F : α → β → Prop} : ∀ {xs : List α} {ys : List β}, Paired F xs ys → ∀ n, Paired F (xs.take n) (ys.take n)
  | _, _, .nil, n => by rw [List.take_nil, List.take_nil]; exact .nil
  | _, _, .cons _ _, 0 => .nil
  | _, _, .cons a t, n + 1 => .cons a (Paired.take t n)
theorem all_some {β : Type} : ∀ os : List (Option β), (∀ o ∈ os, ∃ y, o = some y) → (os.filterMap id).length = os.length
  | [], _ => rfl
  | o :: os, h => by
    obtain ⟨y, rfl⟩ := h o (List.mem_cons_self ..)
    show (os.filterMap id).length + 1 = os.length + 1
    rw [all_some os fun o ho => h o (List.mem_cons_of_mem _ ho)]
theorem far_of {os : List (Option (Int × Int))} (hl : os.length = 61) (h : ∀ (i : Nat) o, os[i]? = some o → ∃ j : Int, 0 ≤ j ∧ j < 9 ∧ o = some ((i : Int), (i : Int) + j)) : (os.filterMap id).length = 61 ∧ ∀ r ∈ os.filterMap id, r.1 ≤ r.2 ∧ 0 ≤ r.1 ∧ r.2 ≤ 1000 := by
  refine ⟨?_, fun r hr => ?_⟩
  · rw [all_some os fun o ho => ?_, hl]
    obtain ⟨i, hi⟩ := List.getElem?_of_mem ho
    obtain ⟨j, _, _, e⟩ := h i o hi
    exact ⟨_, e⟩
  · obtain ⟨o, ho, e⟩ := List.mem_filterMap.mp hr
    obtain ⟨i, hi⟩ := List.getElem?_of_mem ho
    obtain ⟨j, h0, h1, e2⟩ := h i o hi
    rw [e2] at e
    cases e
    have hn : i < os.length := (List.getElem?_eq_some_iff.mp hi).1
    dsimp only
    omega
theorem good_take {far : Rides} {n : Nat} (h : ∀ r ∈ far, r.1 ≤ r.2 ∧ 0 ≤ r.1 ∧ r.2 ≤ 1000) (hn : n ≤ 60) : Good (far.take n) := by
  refine ⟨by rw [List.length_take]; omega, fun r hr => (h r (List.mem_of_mem_take hr)).1, fun r hr => ?_⟩
  obtain ⟨h1, h2, h3⟩ := h r (List.mem_of_mem_take hr)
  unfold Nw.big
  rw [e40]
  omega
/-- one more list or tuple in the view -/
theorem bagT {K : PySem.W.Frag} {Tb : List (Addr × Str)} {D : DA} {n : Nat} {I H : Hp} {a : Addr} {ws : List V} {xs : List Dt} (s : LSt Tb D n I H) (ha : H a = none) (es : Es K I ws xs) : ∃ I', LSt Tb D n I' (upd H a (.tup ws)) ∧ isE K I' (.ref a) (.sq true xs) ∧ Same I I' ∧ Grow No I H I' (upd H a (.tup ws)) := by
  have g : Grow No I H (upd I a (.tup ws)) (upd H a (.tup ws)) := Grow.new s.sub ha
  exact ⟨_, s.grow g, .of (t := true) upd_same (es.up g.view), g.view, g⟩
theorem bagL {K : PySem.W.Frag} {Tb : List (Addr × Str)} {D : DA} {n : Nat} {I H : Hp} {a : Addr} {ws : List V} {xs : List Dt} (s : LSt Tb D n I H) (ha : H a = none) (es : Es K I ws xs) : ∃ I', LSt Tb D n I' (upd H a (.lst ws)) ∧ isE K I' (.ref a) (.sq false xs) ∧ Same I I' ∧ Grow No I H I' (upd H a (.lst ws)) := by
  have g : Grow No I H (upd I a (.lst ws)) (upd H a (.lst ws)) := Grow.new s.sub ha
  exact ⟨_, s.grow g, .of (t := false) upd_same (es.up g.view), g.view, g⟩
def oddR : List Dt := [.non, .int 5, .sq true [.int 1], .sq true [.int 3, .int 2], .sq false [.int 1, .int 2], .sq true [.str [97], .int 1], .sq true [.int 1, .non], .sq true [.bl true, .int 1], .sq true [.int 0, .bl false], .sq true [.int 1, .int 2, .int 3], .str [97, 98], .sq true []]
theorem oddR_no : ∀ y ∈ oddR, y.isRide = false := by
  intro y hy
  simp only [oddR, List.mem_cons, List.not_mem_nil, or_false] at hy
  rcases hy with rfl | rfl | rfl | rfl | rfl | rfl | rfl | rfl | rfl | rfl | rfl | rfl <;> rfl
def rideD (r : Int × Int) : Dt := .sq true [.int r.1, .int r.2]
def dueOk (d : Dt) (i : Nat) : Prop := ((d.isLst || d.isTup) = false ∧ i = 0) ∨ ∃ xs, d = .sq false xs ∧ xs.length ≤ 1000 ∧ DueR xs (some i)
def wrongV (K : PySem.W.Frag) (I : Hp) (v : V) : Prop := ∃ (t : Addr) (x : V) (i : Nat) (d : Dt), v = .ref t ∧ I t = some (.tup [x, .int (i : Nat)]) ∧ isE K I x d ∧ dueOk d i ∧ i ≤ 100
theorem wrongV.up {K : PySem.W.Frag} {I I' : Hp} {v : V} (h : wrongV K I v) (e : Same I I') : wrongV K I' v := by
  obtain ⟨t, x, i, d, h1, h2, h3, h4⟩ := h
  exact ⟨t, x, i, d, h1, e _ _ h2, h3.up e, h4⟩
theorem wrong_mk {K : PySem.W.Frag} {Tb : List (Addr × Str)} {D : DA} {n : Nat} {I H : Hp} {a : Addr} {x : V} {z : Int} {i : Nat} {d : Dt} (s : LSt Tb D n I H) (ha : H a = none) (hx : isE K I x d) (hd : dueOk d i) (hi : i ≤ 100) (hz : z = (i : Nat)) : ∃ I', LSt Tb D n I' (upd H a (.tup [x, .int z])) ∧ wrongV K I' (.ref a) ∧ Same I I' ∧ Grow No I H I' (upd H a (.tup [x, .int z])) := by
  subst hz
  have g : Grow No I H (upd I a (.tup [x, .int (i : Nat)])) (upd H a (.tup [x, .int (i : Nat)])) := Grow.new s.sub ha
  exact ⟨_, s.grow g, ⟨a, x, i, d, rfl, upd_same, hx.up g.view, hd, hi⟩, g.view, g⟩
theorem far_wrong {K : PySem.W.Frag} {I : Hp} {L : Addr} {vf : List V} {far : Rides} (h : I L = some (.lst vf)) (hp : Paired (Rep.is I) vf far) : isE K I (.ref L) (.sq false (far.map rideD)) := .of (t := false) h (rides_es hp)
theorem rideD_is {r : Int × Int} (h : r.1 ≤ r.2) : (rideD r).isRide = true := decide_eq_true h
theorem due_far {far : Rides} (hl : far.length = 61) (hv : ∀ r ∈ far, r.1 ≤ r.2 ∧ 0 ≤ r.1 ∧ r.2 ≤ 1000) : dueOk (.sq false (far.map rideD)) 60 := by
  refine .inr ⟨_, rfl, by rw [List.length_map]; omega, by rw [List.length_map]; omega, .inl rfl, fun k hk hb => ?_⟩
  rcases hb with hb | ⟨x, hx, hn⟩
  · omega
  · obtain ⟨r, hr, rfl⟩ := List.mem_map.mp (List.mem_of_getElem? hx)
    rw [rideD_is (hv r hr).1] at hn
    cases hn
theorem due_in {rs : Rides} {yo : Dt} {k : Nat} (hl : rs.length ≤ 12) (hv : ∀ r ∈ rs, r.1 ≤ r.2) (hk : k ≤ rs.length) (hy : yo.isRide = false) : dueOk (.sq false ((rs.map rideD).take k ++ [yo] ++ (rs.map rideD).drop k)) k := by
  have lt : ((rs.map rideD).take k).length = k := by rw [List.length_take, List.length_map]; omega
  refine .inr ⟨_, rfl, ?_, ?_, .inr ⟨yo, ?_, hy⟩, fun j hj hb => ?_⟩
  · rw [List.length_append, List.length_append, lt, List.length_drop, List.length_map]
    simp only [List.length_singleton]
    omega
  · rw [List.length_append, List.length_append, lt, List.length_drop, List.length_map]
    simp only [List.length_singleton]
    omega
  · rw [List.append_assoc, List.getElem?_append_right (by rw [lt]; exact Nat.le_refl _), lt, Nat.sub_self]
    rfl
  · rcases hb with hb | ⟨x, hx, hn⟩
    · omega
    · rw [List.append_assoc, List.getElem?_append_left (by rw [lt]; exact hj)] at hx
      obtain ⟨r, hr, rfl⟩ := List.mem_map.mp (List.mem_of_mem_take (List.mem_of_getElem? hx))
      rw [rideD_is (hv r hr)] at hn
      cases hn
/-- Link(..), asked at what is none -/
theorem make_bad {K : PySem.W.Frag} {I H : Hp} {x dx : Addr} {v : V} {d : Dt} {i : Nat} {Q2 : VK} {E : XK} (hx : H x = none) (hdx : H dx = none) (ne : dx ≠ x) (sb : Same I H) (hv : isE K I v d) (hd : dueOk d i)
    (k : outF (He.ga K "NoRides") [("at", .int (i : Nat))] E I H) :
    spb_Link__init K [.ref x, v] (upd (upd H dx (.own x)) x (.ins (He.ga K "Link") dx [])) Q2 E := by
  have gm : Grow No I H I (upd (upd H dx (.own x)) x (.ins (He.ga K "Link") dx [])) := grow_made sb hx hdx ne
  rcases hd with ⟨hd, rfl⟩ | ⟨xs, rfl, hl, hd⟩
  · exact ⟨I, x, dx, v, some 0, [], rfl, upd_same, sb.free hx, gm.sub, .inl ⟨d, hv, hd, rfl⟩, k.grow gm⟩
  · obtain ⟨a, ws, rfl, ha, es⟩ := hv.inv
    have hH := sb _ _ ha
    exact ⟨I, x, dx, _, some i, xs, rfl, upd_same, sb.free hx, gm.sub, .inr ⟨a, false, ws, rfl, (fun z => by rw [z, hx] at hH; cases hH), gm.same _ _ hH, .inl ha, es, hl, hd⟩, k.grow gm⟩
theorem good_nil : Good [] := ⟨Nat.zero_le _, (fun _ h => nomatch h), (fun _ h => nomatch h)⟩
theorem nil_needed {ns : Rides} (h : IsNeeded [] ns) : ns = [] := by
  cases ns with
  | nil => rfl
  | cons n l => exact absurd (h.sub n (List.mem_cons_self ..)) (fun z => nomatch z)
def sp_law (K : PySem.W.Frag) : Sp := fun vs H Q _ => ∃ (I : Hp) (a : Addr) (ns : List Int), vs = [.ref a] ∧ Same I H ∧ noTb I ∧ LamX.Tabs [(He.tabOf K (He.codeOf K ("law", none)), "law.<locals>.<lambda>")] H ∧ SqL K I a (ns.map V.int) ∧ ns.length ≤ 63 ∧ ∀ H', Q (.bl true) H'
section
variable {P : Program} {w : World} {K : PySem.W.Frag} {mg : Str → Option Value} {base : Heap}
theorem ok_law (T : Txt K mg) {fd : FuncData} (F : FunD K "law" "law" (defArgs s_law) (defBody s_law) (defScope s_law) [] [] (He.ga K "law") fd) (G_l_begun : Ok P w K mg base CX0 1 (He.ga K "_law_begun") ["_law_script"] (sp_l_begun K)) (G_l_shift : Ok P w K mg base CX0 3 (He.ga K "_law_shift") ["_law_draw"] (sp_l_shift K)) (G_l_rides : Ok P w K mg base CX0 2 (He.ga K "_law_rides") ["_law_draw", "_law_many", "_law_wide"] (sp_l_rides K)) (G_l_rides_off : Ok P w K mg base CX0 1 (He.ga K "_law_rides_off") ["_law_rides_here", "_law_shift_here"] (sp_l_rides_off K)) (G_l_right : OkG P w K mg base CX0 8 (He.ga K "_law_right") ["_law_draw", "_law_rides_here", "_law_shift_here"] (sp_l_right K)) (G_l_next : Ok P w K mg base CX0 1 (He.ga K "_law_next") ["_law_draw", "_law_many"] (sp_l_next K)) (G_l_pick : Ok P w K mg base CX0 2 (He.ga K "_law_pick") ["_law_draw", "_law_some"] (sp_l_pick K)) (G_l_needed : Ok P w K mg base CX0 1 (He.ga K "_law_needed") ["_law_rides_here"] (sp_l_needed K)) (GX_Link__init : Ok P w K mg base (L2.CX P w) 3 (He.ma K (He.ga K "Link") "__init__") ["self", "rides"] (fun vs H Q E => sp_Link__init K vs H Q E ∨ spb_Link__init K vs H Q E)) (G_Link__eq : Ok P w K mg base CX0 1 (He.ma K (He.ga K "Link") "__eq__") ["self", "other"] (sp_Link__eq K)) (GX_Link_end : Ok P w K mg base (L2.CX P w) 4 (He.ma K (He.ga K "Link") "end") ["self", "moment"] (fun vs H Q E => sp_Link_end K vs H Q E ∨ spb_Link_end K vs H Q E)) (GX_Link_begin : Ok P w K mg base (L2.CX P w) 4 (He.ma K (He.ga K "Link") "begin") ["self", "moment"] (fun vs H Q E => sp_Link_begin K vs H Q E ∨ spb_Link_begin K vs H Q E)) (G_Link_rides : Ok P w K mg base CX0 1 (propGet K (He.ga K "Link") "rides") ["self"] (sp_Link_rides K)) (TB : LamX.TabB base mg (He.codeOf K ("law", none)) (He.tabOf K (He.codeOf K ("law", none)))) (F_l_told : FnAt K "_law_told" "_law_told" s_l_told (He.ga K "_law_told")) : FnG P w K mg base CX0 12 (He.ga K "law") fd ["_law_script"] (sp_law K) := by
  obtain ⟨fd_Link__eq, F_Link__eq, b_Link__eq, _⟩ := G_Link__eq.ok
  obtain ⟨fdX_Link_end, FX_Link_end, bX_Link_end, _⟩ := GX_Link_end.ok
  obtain ⟨fdX_Link_begin, FX_Link_begin, bX_Link_begin, _⟩ := GX_Link_begin.ok
  obtain ⟨fd_Link_rides, F_Link_rides, b_Link_rides, _⟩ := G_Link_rides.ok
  refine fngL_of F sc_law (fun vs H Q E h => ?_) (fun cdv A outer s H vs Q E hc hr hgd h => ?_)
  · obtain ⟨_, _, _, rfl, _⟩ := h
    rfl
  · obtain ⟨I, a, ns, rfl, sb, hnt, hTb, hS, hl, k⟩ := h
    refine ⟨_, (pss_cons (ps_set (i := 1) sc_law.nd rfl (Or.inr rfl) (pe_callC G_l_begun (hr.mono (by decide)) T.g__law_begun (pa_cons (pv 0) pa_nil)))
      (pss_cons (ps_set (i := 2) sc_law.nd rfl (Or.inl rfl) (pe_lst pa_nil))
      (pss_cons (ps_for PassesOwn.never rfl (pi_range1 rfl T.b_range (pa_cons pe_int pa_nil)) (pg_name (i := 3) sc_law.nd rfl (Or.inl rfl)) (pss_cons (ps_set (i := 4) sc_law.nd rfl (Or.inl rfl) (pe_callC G_l_shift (hr.mono (by decide)) T.g__law_shift (pa_cons (pv 1) pa_nil)))
      (pss_cons (ps_set (i := 5) sc_law.nd rfl (Or.inl rfl) (pe_callC G_l_rides_off (hr.mono (by decide)) T.g__law_rides_off (pa_cons (pe_callC G_l_rides (hr.mono (by decide)) T.g__law_rides (pa_cons (pv 1) (pa_cons pe_int (pa_cons pe_int pa_nil)))) (pa_cons (pv 4) pa_nil))))
      (pss_cons (ps_if (pt_not (pt_val (pe_callG hgd G_l_right (hr.mono (by decide)) T.g__law_right (pa_cons (pv 1) (pa_cons (pv 5) (pa_cons (pv 4) pa_nil)))))) (pss_one (ps_ret pe_bl)) pss_nil)
      (pss_one (ps_expr (pe_bm PySem.F.plainAttrs_list PySem.F.slot_list_append PySem.F.type_list_append mt_append (pv 2) (pa_cons (pv 5) pa_nil))))))))
      (pss_cons (ps_expr (pe_bm PySem.F.plainAttrs_list PySem.F.slot_list_append PySem.F.type_list_append mt_append (pv 2) (pa_cons (pe_op op_cat (pe_ix ix_list (pv 2) pe_int (fun _ _ => rfl)) (pe_lc (own := [("_law_begin_here", 18), ("_law_end_here", 19)]) (g := (gTup K 2 (gCons (gName 18) (gCons (gName 19) gNil)))) rfl sc_law.nd (pi_list (pe_ix ix_list (pv 2) pe_int (fun _ _ => rfl))) (blkOk_by (own := [("_law_begin_here", 18), ("_law_end_here", 19)]) (N := n_law) (sc := defScope s_law) (by decide +kernel)) (fun _ _ _ _ _ => (pg_tup (by rfl) (pgs_cons (pg_name (i := 18) sc_law.nd rfl (Or.inl rfl)) (pgs_cons (pg_name (i := 19) sc_law.nd rfl (Or.inl rfl)) pgs_nil)))) (fun _ _ _ _ _ => pts_nil) (fun _ _ _ _ _ => (pe_tup (pa_cons (pe_op op_sub (pv 18) pe_int) (pa_cons (pe_op op_add (pv 19) pe_int) pa_nil)))))) pa_nil)))
      (pss_cons (ps_for PassesOwn.never rfl (pi_list (pv 2)) (pg_name (i := 6) sc_law.nd rfl (Or.inl rfl)) (pss_one (ps_for PassesOwn.never rfl (pi_list (pv 2)) (pg_name (i := 7) sc_law.nd rfl (Or.inl rfl)) (pss_one (ps_if (pt_cmpR op_ne (pe_cmpR (op_own_eq T.m_Link___eq__ F_Link__eq (hr.mono (by decide)) b_Link__eq) (pe_makeX T.mk_Link GX_Link__init (hr.mono (by decide)) T.g_Link passN (pa_cons (pv 6) pa_nil)) (pe_makeX T.mk_Link GX_Link__init (hr.mono (by decide)) T.g_Link passN (pa_cons (pv 7) pa_nil)) (nomark _)) (pe_cmpR (op_eqD hr.units) (pe_callC G_l_needed (hr.mono (by decide)) T.g__law_needed (pa_cons (pv 6) pa_nil)) (pe_callC G_l_needed (hr.mono (by decide)) T.g__law_needed (pa_cons (pv 7) pa_nil)) (nomark _)) (nomark _)) (pss_one (ps_ret pe_bl)) pss_nil)))))
      (pss_cons (ps_setLc (i := 8) (own := [("_law_k", 20)]) (g := (gName 20)) rfl sc_law.nd rfl rfl (sw_true rfl rfl rfl (by decide +kernel)) (pi_range1 rfl T.b_range (pa_cons pe_int pa_nil)) (blkOk_by (own := [("_law_k", 20)]) (N := n_law) (sc := defScope s_law) (by decide +kernel)) (fun _ _ _ _ _ => (pg_name (i := 20) sc_law.nd rfl (Or.inl rfl))) (fun _ _ _ _ _ => pts_nil) (fun _ _ _ _ _ => (pe_tup (pa_cons (pv 20) (pa_cons (pe_op op_add (pv 20) (pe_callC G_l_next (hr.mono (by decide)) T.g__law_next (pa_cons (pv 1) (pa_cons pe_int pa_nil)))) pa_nil)))))
      (pss_cons (ps_if (PW.pt (pw_or (pt_not (pt_val (pe_callG hgd G_l_right (hr.mono (by decide)) T.g__law_right (pa_cons (pv 1) (pa_cons (pe_slice sl_list (pv 8) po_none (po_some pe_int)) (pa_cons pe_int pa_nil)))))) (pw_or1 (pt_not (pt_val (pe_callG hgd G_l_right (hr.mono (by decide)) T.g__law_right (pa_cons (pv 1) (pa_cons (pe_slice sl_list (pv 8) po_none (po_some pe_int)) (pa_cons pe_int pa_nil))))))))) (pss_one (ps_ret pe_bl)) pss_nil)
      (pss_cons (ps_set (i := 9) sc_law.nd rfl (Or.inl rfl) (pe_lst (pa_cons pe_non (pa_cons pe_int (pa_cons (pe_tup (pa_cons pe_int pa_nil)) (pa_cons (pe_tup (pa_cons pe_int (pa_cons pe_int pa_nil))) (pa_cons (pe_lst (pa_cons pe_int (pa_cons pe_int pa_nil))) (pa_cons (pe_tup (pa_cons pe_str (pa_cons pe_int pa_nil))) (pa_cons (pe_tup (pa_cons pe_int (pa_cons pe_non pa_nil))) (pa_cons (pe_tup (pa_cons pe_bl (pa_cons pe_int pa_nil))) (pa_cons (pe_tup (pa_cons pe_int (pa_cons pe_bl pa_nil))) (pa_cons (pe_tup (pa_cons pe_int (pa_cons pe_int (pa_cons pe_int pa_nil)))) (pa_cons pe_str (pa_cons (pe_tup pa_nil) pa_nil))))))))))))))
      (pss_cons (ps_set (i := 10) sc_law.nd rfl (Or.inl rfl) (pe_callC G_l_pick (hr.mono (by decide)) T.g__law_pick (pa_cons (pv 1) (pa_cons (pv 9) pa_nil))))
      (pss_cons (ps_set (i := 11) sc_law.nd rfl (Or.inl rfl) (pe_callC G_l_next (hr.mono (by decide)) T.g__law_next (pa_cons (pv 1) (pa_cons (pe_op op_add (pe_callB call_len_seq (by rfl) T.b_len (by decide +kernel) (pa_cons (pe_ix ix_list (pv 2) pe_int (fun _ _ => rfl)) pa_nil)) pe_int) pa_nil))))
      (pss_cons (ps_set (i := 12) sc_law.nd rfl (Or.inl rfl) (pe_lst (pa_cons (pe_tup (pa_cons (pv 8) (pa_cons pe_int pa_nil))) (pa_cons (pe_tup (pa_cons (pe_op op_cat (pe_op op_cat (pe_slice sl_list (pe_ix ix_list (pv 2) pe_int (fun _ _ => rfl)) po_none (po_some (pv 11))) (pe_lst (pa_cons (pv 10) pa_nil))) (pe_slice sl_list (pe_ix ix_list (pv 2) pe_int (fun _ _ => rfl)) (po_some (pv 11)) po_none)) (pa_cons (pv 11) pa_nil))) (pa_cons (pe_tup (pa_cons (pe_callC G_l_pick (hr.mono (by decide)) T.g__law_pick (pa_cons (pv 1) (pa_cons (pe_lst (pa_cons pe_non (pa_cons pe_int (pa_cons pe_str (pa_cons pe_dnewK pa_nil))))) pa_nil))) (pa_cons pe_int pa_nil))) pa_nil)))))
      (pss_cons (ps_for PassesOwn.never rfl (pi_list (pv 12)) (pg_tup (by rfl) (pgs_cons (pg_name (i := 17) sc_law.nd rfl (Or.inr rfl)) (pgs_cons (pg_name (i := 13) sc_law.nd rfl (Or.inl rfl)) pgs_nil))) (pss_cons (ps_set (i := 14) sc_law.nd rfl (Or.inl rfl) (pe_told (k := 9) (t := _) F_l_told sc_l_told T.g__law_told (fun _ => gives_l_told T rfl rfl) TB hc rfl (hr.mono (by decide)) (LamX.lamS_by (show LamX.lamSB (defScope s_law) _ = true by decide +kernel)) (fun A outer s H E f c2 hr => (pe_makeX T.mk_Link GX_Link__init (hr.mono (by decide)) T.g_Link passE (pa_cons (pv 17) pa_nil)))))
      (pss_one (ps_if (PW.pt (pw_or (pt_not (pt_val (pe_callB call_isA (by rfl) T.b_isinstance (by decide +kernel) (pa_cons (pv 14) (pa_cons (pe_gref T.g_NoRides) pa_nil))))) (pw_or1 (pt_cmpR op_ne (pe_callB (call_reprD hgd (un70 hr)) (by rfl) T.b_repr (by decide +kernel) (pa_cons (pe_exf (pv 14)) pa_nil)) (pe_callB (call_reprD hgd (un70 hr)) (by rfl) T.b_repr (by decide +kernel) (pa_cons (pv 13) pa_nil)) (nomark _))))) (pss_one (ps_ret pe_bl)) pss_nil))))
      (pss_cons (ps_asg (pe_tup (pa_cons (pe_makeX T.mk_Link GX_Link__init (hr.mono (by decide)) T.g_Link passN (pa_cons (pe_ix ix_list (pv 2) pe_int (fun _ _ => rfl)) pa_nil)) (pa_cons (pe_callC G_l_pick (hr.mono (by decide)) T.g__law_pick (pa_cons (pv 1) (pa_cons (pe_lst (pa_cons pe_non (pa_cons pe_bl (pa_cons pe_str (pa_cons pe_str (pa_cons pe_str (pa_cons (pe_tup (pa_cons pe_int pa_nil)) (pa_cons (pe_lst pa_nil) (pa_cons pe_str (pa_cons pe_dnewK (pa_cons (pe_makeX T.mk_Link GX_Link__init (hr.mono (by decide)) T.g_Link passN (pa_cons (pe_lst pa_nil) pa_nil)) pa_nil))))))))))) pa_nil))) pa_nil))) (pg_tup (by rfl) (pgs_cons (pg_name (i := 15) sc_law.nd rfl (Or.inr rfl)) (pgs_cons (pg_name (i := 16) sc_law.nd rfl (Or.inr rfl)) pgs_nil))))
      (pss_cons (ps_if (pt_not (pt_val (pe_callB call_isA (by rfl) T.b_isinstance (by decide +kernel) (pa_cons (pe_told (k := 9) (t := _) F_l_told sc_l_told T.g__law_told (fun _ => gives_l_told T rfl rfl) TB hc rfl (hr.mono (by decide)) (LamX.lamS_by (show LamX.lamSB (defScope s_law) _ = true by decide +kernel)) (fun A outer s H E f c2 hr => (pe_meth (pv 15) T.cl_Link T.m_Link_end FX_Link_end (hr.mono (by decide)) bX_Link_end .nil passE (pa_cons (pv 16) pa_nil)))) (pa_cons (pe_gref T.g_NoMoment) pa_nil))))) (pss_one (ps_ret pe_bl)) pss_nil)
      (pss_cons (ps_if (pt_not (pt_val (pe_callB call_isA (by rfl) T.b_isinstance (by decide +kernel) (pa_cons (pe_told (k := 9) (t := _) F_l_told sc_l_told T.g__law_told (fun _ => gives_l_told T rfl rfl) TB hc rfl (hr.mono (by decide)) (LamX.lamS_by (show LamX.lamSB (defScope s_law) _ = true by decide +kernel)) (fun A outer s H E f c2 hr => (pe_meth (pv 15) T.cl_Link T.m_Link_begin FX_Link_begin (hr.mono (by decide)) bX_Link_begin .nil passE (pa_cons (pv 16) pa_nil)))) (pa_cons (pe_gref T.g_NoMoment) pa_nil))))) (pss_one (ps_ret pe_bl)) pss_nil)
      (pss_one (ps_ret (pe_and (pe_cmpR (op_eqD hr.units) (pe_propC T.cl_Link T.p_Link_rides G_Link_rides (hr.mono (by decide)) (pe_makeX T.mk_Link GX_Link__init (hr.mono (by decide)) T.g_Link passN (pa_cons (pe_lst pa_nil) pa_nil))) (pe_tup pa_nil) (nomark _)) (pe_and (pe_cmpR op_eq (pe_meth (pe_makeX T.mk_Link GX_Link__init (hr.mono (by decide)) T.g_Link passN (pa_cons (pe_tup pa_nil) pa_nil)) T.cl_Link T.m_Link_end FX_Link_end (hr.mono (by decide)) bX_Link_end .nil passN (pa_cons pe_int pa_nil)) pe_str (nomark _)) (pe_one (pe_cmpR op_eq (pe_meth (pe_makeX T.mk_Link GX_Link__init (hr.mono (by decide)) T.g_Link passN (pa_cons (pe_lst pa_nil) pa_nil)) T.cl_Link T.m_Link_begin FX_Link_begin (hr.mono (by decide)) bX_Link_begin .nil passN (pa_cons pe_int pa_nil)) pe_str (nomark _)))))))))))))))))))))), ?_⟩
    refine ⟨_, rfl, I, a, ns, rfl, sb, hS, hl, fun D I1 H1 g1 d1 => ?_⟩
    have hlim : lim = 1099511627776 := rfl
    have s1 : LSt [(He.tabOf K (He.codeOf K ("law", none)), "law.<locals>.<lambda>")] D 0 I1 H1 := ⟨d1, g1.noTb hnt, tabs_keep hTb g1 fun _ _ _ _ z => z⟩
    revert s1
    generalize hTT : [(He.tabOf K (He.codeOf K ("law", none)), ("law.<locals>.<lambda>" : Str))] = Tb
    intro s1
    have hTT' : ∀ H', LamX.Tabs Tb H' → LamX.Tabs [(He.tabOf K (He.codeOf K ("law", none)), ("law.<locals>.<lambda>" : Str))] H' := fun H' z => by rw [hTT]; exact z
    have hTT2 : ∀ H', LamX.Tabs [(He.tabOf K (He.codeOf K ("law", none)), ("law.<locals>.<lambda>" : Str))] H' → LamX.Tabs Tb H' := fun H' z => by rw [← hTT]; exact z
    -- the lists that are made
    refine ⟨(by show 0 ≤ sizeLine; decide), fun M hM => ?_⟩
    have oM : Own (TD D) H1 M (.lst []) I1 (upd H1 M (.lst [])) := Own.new s1.sub (.inl (Same.refl H1)) s1.drw.live hM
    have s2 := s1.grow (Grow.mine (T := No) (o := .lst []) s1.sub hM)
    generalize upd H1 M (.lst []) = H2 at oM s2 ⊢
    refine ⟨3, rfl, by decide, by decide, ?_⟩
    refine for_it (walk_range (lo := 0) (n := 3)) (fun i σ H' => ∃ (I' : Hp) (rss : List Rides) (ws : List V) (v3 v4 v5 : Option V), σ = [some (.ref a), some (.ref D.d), some (.ref M), v3, v4, v5, none, none, none, none, none, none, none, none, none, none, none, none, none, none, none] ∧ LSt Tb D (300 * i) I' H' ∧ Own (TD D) H1 M (.lst ws) I' H' ∧ Paired (Rep.is I') ws rss ∧ rss.length = i ∧
        ∀ rs ∈ rss, Good rs ∧ rs.length ≤ 12 ∧ ∀ r ∈ rs, r.1.natAbs ≤ 10 ^ 38 + 5000000 ∧ r.2.natAbs ≤ 10 ^ 38 + 5000000)
      ⟨I1, [], [], none, none, none, rfl, s2, oM, .nil, rfl, fun _ z => nomatch z⟩ (fun _ _ _ _ _ => trivial) ?_ ?_
    · rintro i y σ Hy H3 hi ⟨I3, rss, ws, v3, v4, v5, rfl, s3, o3, p3, l3, q3⟩ ⟨rfl, rfl⟩
      refine ⟨_, rfl, I3, D, _, rfl, s3.drw, by omega, fun z H4 hz g4 d4 => ?_⟩
      refine ⟨_, rfl, I3, D, _, 12, 20, rfl, d4, by omega, by decide, by decide, by decide, fun rs vr I5 H5 hrl hrv g5 ir d5 => ?_⟩
      refine ⟨_, rfl, I5, vr, rs, z, rfl, ir, by omega, d5.sub, fun vo I6 H6 g6 io => ?_⟩
      obtain ⟨gd, gb⟩ := good_off hrl hrv hz
      have d6 := d5.grow g6
      refine ⟨_, rfl, _, rfl, _, rfl, I6, D, _, vo, _, z, rfl, d6, by omega, io, gd, fun I7 H7 g7 d7 => ⟨true, rfl, iteF ?_⟩⟩
      have G : Grow (TD D) I3 H3 I7 H7 := g4.trans (g5.trans (g6.no.trans g7))
      have s7 := s3.draw G d7
      have o7 := o3.grow G
      have lw := Nw.Paired.len p3
      refine ⟨_, rfl, .inl ⟨rfl, _, SqL.of o7.at_⟩, _, rfl, M, ws, _, rfl, rfl, o7.at_, by rw [sizeLine_eq]; omega, ?_⟩
      refine ⟨I7, rss ++ [rs.map fun r => (r.1 + z, r.2 + z)], ws ++ [vo], _, _, _, rfl, (s7.put o7).mono (by omega), o7.put, Paired.snoc (Paired.mono' (fun _ _ z => Rep.mono G.view z) p3) (Rep.mono g7.view io), by rw [List.length_append, l3]; rfl, fun q hq => ?_⟩
      rcases List.mem_append.mp hq with hq | hq
      · exact q3 q hq
      · rw [List.mem_singleton.mp hq]
        exact ⟨gd, by rw [List.length_map]; exact hrl, gb⟩
    · rintro σ H3 ⟨I3, rss, ws, v3, v4, v5, rfl, s3, o3, p3, l3, q3⟩
      obtain ⟨r0, r1, r2, rfl⟩ := len3 l3
      obtain ⟨w0, w1, w2, rfl, h0, h1, h2⟩ := paired3 p3
      obtain ⟨gd0, hl0, hb0⟩ := q3 r0 (by simp)
      have gd1 := (q3 r1 (by simp)).1
      have gd2 := (q3 r2 (by simp)).1
      have gdm := good_more hl0 gd0.valid hb0
      obtain ⟨a0, vs0, rfl, ha0, hp0⟩ := h0
      have lv0 := Nw.Paired.len hp0
      -- one more
      refine ⟨_, rfl, .inl ⟨rfl, _, SqL.of o3.at_⟩, _, rfl, M, _, 0, _, rfl, rfl, SqL.of o3.at_, rfl, _, rfl, M, _, 0, _, rfl, rfl, SqL.of o3.at_, rfl, a0, rfl, ⟨_, SqL.of (s3.sub _ _ ha0)⟩, fun L hL => ?_⟩
      refine lc_pure (β := Int × Int) walk_list r0 (fun r => some (r.1 - 1, r.2 + 3)) lv0.symm s3.sub hL (by omega) (fun I' H' g => SqL.of (g.sub _ _ (g.view _ _ ha0))) ?_ ?_
      · rintro i r x I' H' H'' hr g ⟨rfl, hx⟩ Kn Ky kn ky
        obtain ⟨x', hx', c, w1, w2, rfl, hc, h1, h2⟩ := Nw.Paired.at hp0 hr
        rw [hx] at hx'
        cases hx'
        cases h1
        cases h2
        refine ⟨c, _, rfl, SqT.of (g.sub _ _ (g.view _ _ hc)), rfl, _, _, rfl, _, _, rfl, rfl, rfl, lc_yes ?_⟩
        refine ⟨_, rfl, _, _, rfl, rfl, _, rfl, _, _, rfl, rfl, (by show 2 ≤ sizeLine; decide), fun t ht => ?_⟩
        have gt : Grow No I' H'' _ (upd H'' t (.tup [.int (r.1 - 1), .int (r.2 + 3)])) := Grow.new g.sub ht
        exact ky _ rfl _ _ _ gt ⟨t, _, _, rfl, upd_same, rfl, rfl⟩
      intro I4 H4 vs4 g4 ow4 hp4
      rw [fm_some] at hp4
      have lv4 := Nw.Paired.len hp4
      rw [List.length_map] at lv4
      refine ⟨a0, L, vs0, vs4, rfl, rfl, g4.sub _ _ (g4.view _ _ ha0), ow4.at_, by rw [sizeLine_eq]; omega, fun p hp => ?_⟩
      have s4 := s3.grow g4
      have g5 : Grow No I4 H4 _ (upd H4 p (.lst (vs0 ++ vs4))) := Grow.new s4.sub hp
      have s5 := s4.grow g5
      have o5 := (o3.grow g4.no).grow g5.no
      have hm : isL (upd I4 p (.lst (vs0 ++ vs4))) (.ref p) (r0 ++ r0.map fun r => (r.1 - 1, r.2 + 3)) := ⟨p, _, rfl, upd_same, Paired.app (Paired.mono' (fun _ _ z => Rep.mono (g4.view.trans g5.view) z) hp0) (Paired.mono' (fun _ _ z => Rep.mono g5.view z) hp4)⟩
      have e5 : Same I3 (upd I4 p (.lst (vs0 ++ vs4))) := g4.view.trans g5.view
      clear lv4 hp4 ow4
      revert s5 o5 hm e5
      clear g5 hp
      generalize upd H4 p (.lst (vs0 ++ vs4)) = H5
      generalize upd I4 p (.lst (vs0 ++ vs4)) = I5
      intro s5 o5 hm e5
      refine ⟨M, _, _, rfl, rfl, o5.at_, (by rw [sizeLine_eq]; show 3 < 16777216; decide), ?_⟩
      have s6 := s5.put (o' := .lst ([V.ref a0, w1, w2] ++ [V.ref p])) o5
      have o6 := o5.put (o' := .lst ([V.ref a0, w1, w2] ++ [V.ref p]))
      have hw0 : atI ([V.ref a0, w1, w2] ++ [V.ref p]) 0 = some (V.ref a0) := rfl
      have pm : Paired (Rep.is I5) ([V.ref a0, w1, w2] ++ [V.ref p]) [r0, r1, r2, r0 ++ r0.map fun r => (r.1 - 1, r.2 + 3)] :=
        .cons (Rep.mono e5 ⟨a0, vs0, rfl, ha0, hp0⟩) (.cons (Rep.mono e5 h1) (.cons (Rep.mono e5 h2) (.cons hm .nil)))
      have gall : ∀ q ∈ [r0, r1, r2, r0 ++ r0.map fun r => (r.1 - 1, r.2 + 3)], Good q := by
        intro q hq
        simp only [List.mem_cons, List.not_mem_nil, or_false] at hq
        rcases hq with rfl | rfl | rfl | rfl
        · exact gd0
        · exact gd1
        · exact gd2
        · exact gdm
      have ha5 := e5 _ _ ha0
      have e03 := e5
      clear hm h1 h2 s5 o5 s4 g4 hL ha0 e5 s3 o3 p3 q3
      revert pm gall s6 o6 hw0
      generalize hws : [V.ref a0, w1, w2] ++ [V.ref p] = ws
      have lws : ws.length = 4 := by rw [← hws]; rfl
      show LSt Tb D _ I5 (upd H5 M (.lst ws)) → Own (TD D) H1 M (.lst ws) I5 (upd H5 M (.lst ws)) → _ → Paired (Rep.is I5) ws [r0, r1, r2, r0 ++ r0.map fun r => (r.1 - 1, r.2 + 3)] → (∀ q ∈ [r0, r1, r2, r0 ++ r0.map fun r => (r.1 - 1, r.2 + 3)], Good q) → _
      generalize upd H5 M (.lst ws) = H6
      generalize [r0, r1, r2, r0 ++ r0.map fun r => (r.1 - 1, r.2 + 3)] = rss
      intro s6 o6 hw0 pm gall
      -- links compared
      refine ⟨_, rfl, M, rfl, ⟨_, SqL.of o6.at_⟩, ?_⟩
      refine for_it (walk_list (K := K) (a := M) (xs := ws)) (fun i σ H' => ∃ (I' : Hp) (v6 v7 : Option V), σ = [some (.ref a), some (.ref D.d), some (.ref M), v3, v4, v5, v6, v7, none, none, none, none, none, none, none, none, none, none, none, none, none] ∧ LSt Tb D (300 * 3) I' H' ∧ Own (TD D) H1 M (.lst ws) I' H' ∧ Same I5 I')
        ⟨I5, none, none, rfl, s6, o6, Same.refl I5⟩ (fun i σ H' _ ⟨I', v6, v7, _, _, o, _⟩ => SqL.of o.at_) ?_ ?_
      · rintro i x σ H7 H7' hi ⟨I7, v6, v7, rfl, s7, o7, e7⟩ ⟨rfl, hx⟩
        obtain ⟨q1, hq1, ⟨b1, us1, rfl, hb1, hp1⟩⟩ := Nw.Paired.at' pm hx
        have g1 := gall q1 (List.mem_of_getElem? hq1)
        refine ⟨_, rfl, M, rfl, ⟨_, SqL.of o7.at_⟩, ?_⟩
        refine for_it (walk_list (K := K) (a := M) (xs := ws)) (fun i σ H' => ∃ (I' : Hp) (v7 : Option V), σ = [some (.ref a), some (.ref D.d), some (.ref M), v3, v4, v5, some (.ref b1), v7, none, none, none, none, none, none, none, none, none, none, none, none, none] ∧ LSt Tb D (300 * 3) I' H' ∧ Own (TD D) H1 M (.lst ws) I' H' ∧ Same I5 I')
          ⟨I7, v7, rfl, s7, o7, e7⟩ (fun i σ H' _ ⟨I', v7, _, _, o, _⟩ => SqL.of o.at_) ?_ ?_
        · rintro i2 x2 σ H8 H8' hi2 ⟨I8, v7', rfl, s8, o8, e8⟩ ⟨rfl, hx2⟩
          obtain ⟨q2, hq2, ⟨b2, us2, rfl, hb2, hp2⟩⟩ := Nw.Paired.at' pm hx2
          have g2 := gall q2 (List.mem_of_getElem? hq2)
          refine ⟨_, rfl, fun x1 dx1 hx1 hdx1 ne1 => .inr (make_good (K := K) hx1 hdx1 ne1 s8.sub (t := false) (s8.sub _ _ (e8 _ _ hb1)) (.inl (e8 _ _ hb1)) (Paired.mono' (fun _ _ z => Rep.mono e8 z) hp1) g1 fun n1 I9 H9 g9 hk1 hn1 => ⟨rfl, ?_⟩)⟩
          have s9 := s8.grow g9
          have e9 := e8.trans g9.view
          refine ⟨_, rfl, fun x2 dx2 hx2 hdx2 ne2 => .inr (make_good (K := K) hx2 hdx2 ne2 s9.sub (t := false) (s9.sub _ _ (e9 _ _ hb2)) (.inl (e9 _ _ hb2)) (Paired.mono' (fun _ _ z => Rep.mono e9 z) hp2) g2 fun n2 I10 H10 g10 hk2 hn2 => ⟨rfl, ?_⟩)⟩
          clear hx1 hdx1 ne1 hx2 hdx2 ne2
          have s10 := s9.grow g10
          have e10 := e9.trans g10.view
          obtain ⟨_, d1, t1, z1, hy1, hu1⟩ := id (hk1.up g10.view)
          cases z1
          obtain ⟨_, d2, t2, z2, hy2, hu2⟩ := id hk2
          cases z2
          refine ⟨x1, x2, d1, d2, _, _, rfl, rfl, s10.sub _ _ hy1, s10.sub _ _ hy2, I10, .ref x1, .ref x2, n1, rfl, hk1.up g10.view, s10.sub, .inl ⟨n2, hk2, ?_⟩⟩
          refine ⟨_, rfl, _, rfl, I10, .ref b1, q1, rfl, ⟨b1, us1, rfl, e10 _ _ hb1, Paired.mono' (fun _ _ z => Rep.mono e10 z) hp1⟩, by have := g1.few; omega, g1.valid, s10.sub, fun m1 u1 I11 H11 g11 hv1 hm1 => ?_⟩
          have s11 := s10.grow g11
          have e11 := e10.trans g11.view
          refine ⟨_, rfl, I11, .ref b2, q2, rfl, ⟨b2, us2, rfl, e11 _ _ hb2, Paired.mono' (fun _ _ z => Rep.mono e11 z) hp2⟩, by have := g2.few; omega, g2.valid, s11.sub, fun m2 u2 I12 H12 g12 hv2 hm2 => ?_⟩
          have s12 := s11.grow g12
          have f1 := needed_uniq hm1 hn1
          have f2 := needed_uniq hm2 hn2
          subst f1 f2
          refine ⟨dR m1, dR m2, dp_rides (hv1.up' g12.view) s12.sub, dp_rides hv2 s12.sub, shaped_rides m1, shaped_rides m2, ?_⟩
          rw [eqv_rides]
          refine ⟨rfl, false, (by show (V.bl !decide (V.bl (decide (m1 = m2)) = V.bl (decide (m1 = m2)))) = V.bl false; rw [decide_eq_true (rfl : V.bl (decide (m1 = m2)) = V.bl (decide (m1 = m2)))]; rfl), iteF ?_⟩
          have gg := g9.trans (g10.trans (g11.trans g12))
          exact ⟨I12, _, rfl, s12, o8.grow gg.no, e8.trans gg.view⟩
        · rintro σ H8 ⟨I8, v7', rfl, s8, o8, e8⟩
          exact ⟨I8, _, _, rfl, s8, o8, e8⟩
      rintro σ H7 ⟨I7, v6, v7, rfl, s7, o7, e7⟩
      -- far ones
      refine ⟨61, rfl, by decide, by decide, fun L hL => ?_⟩
      refine lc_gen (T := TD D) (I := I7) (β := Int × Int) (walk_range (lo := 0) (n := 61)) (fun i => Drw D (300 * 3 + i)) (fun _ => Stable.drw) s7.sub s7.drw.live hL s7.drw (by decide) (fun _ _ _ _ _ => trivial) (fun i o => ∃ j : Int, 0 ≤ j ∧ j < 9 ∧ o = some ((i : Int), (i : Int) + j)) ?_ ?_
      · rintro i x I8 H8 H9 hi g8 d8 ⟨rfl, rfl⟩ Kn Ky kn ky
        refine ⟨rfl, lc_yes ?_⟩
        refine ⟨_, rfl, _, rfl, _, rfl, I8, D, _, 9, rfl, d8, by decide, by decide, by omega, fun r H10 h0 h1 g10 d10 => ?_⟩
        refine ⟨_, _, rfl, rfl, (by show 2 ≤ sizeLine; decide), fun t ht => ?_⟩
        have gt : Grow No I8 H10 _ (upd H10 t (.tup [.int (0 + i), .int (0 + i + r)])) := Grow.new d10.sub ht
        exact ky (i, i + r) ⟨r, h0, h1, rfl⟩ _ _ _ (g10.trans gt.no) (d10.grow gt) ⟨t, _, _, rfl, upd_same, by rw [Int.zero_add]; rfl, by rw [Int.zero_add]; rfl⟩
      intro os I8 H8 vf hlo hP g8 d8 ow8 hpf
      obtain ⟨lfar, vfar⟩ := far_of hlo hP
      revert hpf lfar vfar
      generalize os.filterMap id = far
      intro hpf lfar vfar
      have lvf := Nw.Paired.len hpf
      have s8 := s7.draw g8 d8
      have o8 := o7.grow g8
      have nLM : L ≠ M := fun z => by rw [z, o7.at_] at hL; cases hL
      have g9 := g8.give ow8
      have s9 : LSt Tb D (300 * 3 + 61) (upd I8 L (.lst vf)) H8 := s7.draw g9 (d8.give ow8)
      have o9 : Own (TD D) H1 M (.lst ws) (upd I8 L (.lst vf)) H8 := o7.grow g9
      have hfL : (upd I8 L (.lst vf)) L = some (.lst vf) := upd_same
      have e9 := e7.trans g9.view
      have hpf9 : Paired (Rep.is (upd I8 L (.lst vf))) vf far := Paired.mono' (fun _ _ z => Rep.mono (Same.up ow8.ni) z) hpf
      clear s8 o8 g8 d8 ow8 hP hlo hpf g9
      generalize upd I8 L (.lst vf) = I9 at s9 o9 hfL e9 hpf9
      have gfar : Good (far.take 60) := good_take (fun r hr => vfar r hr) (by decide)
      have gfar2 : Good (far.take 59) := good_take (fun r hr => vfar r hr) (by decide)
      refine ⟨_, rfl, _, rfl, 60, rfl, L, _, rfl, SqL.of (s9.sub _ _ hfL), fun p1 hp1 => ?_⟩
      have ct : cutV vf none (some 60) = vf.take 60 := cut_take vf 60
      rw [ct]
      have gp1 : Grow No I9 H8 _ (upd H8 p1 (.lst (vf.take 60))) := Grow.new s9.sub hp1
      have s10 := s9.grow gp1
      refine ⟨_, D, _, .ref p1, far.take 60, 0, rfl, s10.drw, by omega, ⟨p1, _, rfl, upd_same, Paired.take (Paired.mono' (fun _ _ z => Rep.mono gp1.view z) hpf9) 60⟩, gfar, fun I11 H11 g11 d11 => ⟨true, rfl, ?_⟩⟩
      have s11 := s10.draw g11 d11
      have o11 := (o9.grow gp1.no).grow g11
      have e11 := gp1.view.trans g11.view
      refine iteF ⟨_, rfl, _, rfl, 59, rfl, L, _, rfl, SqL.of (s11.sub _ _ (e11 _ _ hfL)), fun p2 hp2 => ?_⟩
      have ct2 : cutV vf none (some 59) = vf.take 59 := cut_take vf 59
      rw [ct2]
      have gp2 : Grow No I11 H11 _ (upd H11 p2 (.lst (vf.take 59))) := Grow.new s11.sub hp2
      have s12 := s11.grow gp2
      refine ⟨_, D, _, .ref p2, far.take 59, 20, rfl, s12.drw, by omega, ⟨p2, _, rfl, upd_same, Paired.take (Paired.mono' (fun _ _ z => Rep.mono (e11.trans gp2.view) z) hpf9) 59⟩, gfar2, fun I13 H13 g13 d13 => ⟨true, rfl, iteF ?_⟩⟩
      have s13 := s12.draw g13 d13
      have o13 := (o11.grow gp2.no).grow g13
      have e13 := e9.trans (e11.trans (gp2.view.trans g13.view))
      have hf13 := (e11.trans (gp2.view.trans g13.view)) _ _ hfL
      have hpf13 := Paired.mono' (fun _ _ z => Rep.mono (e11.trans (gp2.view.trans g13.view)) z) hpf9
      clear g13 d13 s12 gp2 hp2 ct2 e11 o11 s11 g11 d11 s10 gp1 hp1 ct gfar gfar2 hpf9 o9 s9 hL nLM e9 hfL s7 o7 e7 s6 o6 pm gall gdm
      -- odd things
      refine ⟨(by show 1 ≤ sizeLine; decide), fun u1 hu1 => ?_⟩
      obtain ⟨J1, sJ1, y1, eJ1, z1⟩ := bagT (K := K) (ws := [V.int 1]) s13 hu1 (.cons (.int 1) .nil)
      generalize upd H13 u1 (.tup [V.int 1]) = K1 at sJ1 z1 ⊢
      clear hu1 eJ1
      refine ⟨(by show 2 ≤ sizeLine; decide), fun u2 hu2 => ?_⟩
      obtain ⟨J2, sJ2, y2, eJ2, z2⟩ := bagT (K := K) (ws := [V.int 3, V.int 2]) sJ1 hu2 (.cons (.int 3) (.cons (.int 2) .nil))
      generalize upd K1 u2 (.tup [V.int 3, V.int 2]) = K2 at sJ2 z2 ⊢
      have y1 := y1.up eJ2
      have z2 := z1.trans z2
      clear hu2 eJ2 sJ1
      refine ⟨(by show 2 ≤ sizeLine; decide), fun u3 hu3 => ?_⟩
      obtain ⟨J3, sJ3, y3, eJ3, z3⟩ := bagL (K := K) (ws := [V.int 1, V.int 2]) sJ2 hu3 (.cons (.int 1) (.cons (.int 2) .nil))
      generalize upd K2 u3 (.lst [V.int 1, V.int 2]) = K3 at sJ3 z3 ⊢
      have y1 := y1.up eJ3
      have y2 := y2.up eJ3
      have z3 := z2.trans z3
      clear hu3 eJ3 sJ2
      refine ⟨(by show 2 ≤ sizeLine; decide), fun u4 hu4 => ?_⟩
      obtain ⟨J4, sJ4, y4, eJ4, z4⟩ := bagT (K := K) (ws := [V.str "a", V.int 1]) sJ3 hu4 (.cons (.str [97] (by decide)) (.cons (.int 1) .nil))
      generalize upd K3 u4 (.tup [V.str "a", V.int 1]) = K4 at sJ4 z4 ⊢
      have y1 := y1.up eJ4
      have y2 := y2.up eJ4
      have y3 := y3.up eJ4
      have z4 := z3.trans z4
      clear hu4 eJ4 sJ3
      refine ⟨(by show 2 ≤ sizeLine; decide), fun u5 hu5 => ?_⟩
      obtain ⟨J5, sJ5, y5, eJ5, z5⟩ := bagT (K := K) (ws := [V.int 1, V.non]) sJ4 hu5 (.cons (.int 1) (.cons .non .nil))
      generalize upd K4 u5 (.tup [V.int 1, V.non]) = K5 at sJ5 z5 ⊢
      have y1 := y1.up eJ5
      have y2 := y2.up eJ5
      have y3 := y3.up eJ5
      have y4 := y4.up eJ5
      have z5 := z4.trans z5
      clear hu5 eJ5 sJ4
      refine ⟨(by show 2 ≤ sizeLine; decide), fun u6 hu6 => ?_⟩
      obtain ⟨J6, sJ6, y6, eJ6, z6⟩ := bagT (K := K) (ws := [V.bl true, V.int 1]) sJ5 hu6 (.cons (.bl true) (.cons (.int 1) .nil))
      generalize upd K5 u6 (.tup [V.bl true, V.int 1]) = K6 at sJ6 z6 ⊢
      have y1 := y1.up eJ6
      have y2 := y2.up eJ6
      have y3 := y3.up eJ6
      have y4 := y4.up eJ6
      have y5 := y5.up eJ6
      have z6 := z5.trans z6
      clear hu6 eJ6 sJ5
      refine ⟨(by show 2 ≤ sizeLine; decide), fun u7 hu7 => ?_⟩
      obtain ⟨J7, sJ7, y7, eJ7, z7⟩ := bagT (K := K) (ws := [V.int 0, V.bl false]) sJ6 hu7 (.cons (.int 0) (.cons (.bl false) .nil))
      generalize upd K6 u7 (.tup [V.int 0, V.bl false]) = K7 at sJ7 z7 ⊢
      have y1 := y1.up eJ7
      have y2 := y2.up eJ7
      have y3 := y3.up eJ7
      have y4 := y4.up eJ7
      have y5 := y5.up eJ7
      have y6 := y6.up eJ7
      have z7 := z6.trans z7
      clear hu7 eJ7 sJ6
      refine ⟨(by show 3 ≤ sizeLine; decide), fun u8 hu8 => ?_⟩
      obtain ⟨J8, sJ8, y8, eJ8, z8⟩ := bagT (K := K) (ws := [V.int 1, V.int 2, V.int 3]) sJ7 hu8 (.cons (.int 1) (.cons (.int 2) (.cons (.int 3) .nil)))
      generalize upd K7 u8 (.tup [V.int 1, V.int 2, V.int 3]) = K8 at sJ8 z8 ⊢
      have y1 := y1.up eJ8
      have y2 := y2.up eJ8
      have y3 := y3.up eJ8
      have y4 := y4.up eJ8
      have y5 := y5.up eJ8
      have y6 := y6.up eJ8
      have y7 := y7.up eJ8
      have z8 := z7.trans z8
      clear hu8 eJ8 sJ7
      refine ⟨(by show 0 ≤ sizeLine; decide), fun u9 hu9 => ?_⟩
      obtain ⟨J9, sJ9, y9, eJ9, z9⟩ := bagT (K := K) (ws := []) sJ8 hu9 .nil
      generalize upd K8 u9 (.tup []) = K9 at sJ9 z9 ⊢
      have y1 := y1.up eJ9
      have y2 := y2.up eJ9
      have y3 := y3.up eJ9
      have y4 := y4.up eJ9
      have y5 := y5.up eJ9
      have y6 := y6.up eJ9
      have y7 := y7.up eJ9
      have y8 := y8.up eJ9
      have z9 := z8.trans z9
      clear hu9 eJ9 sJ8
      refine ⟨(by show 12 ≤ sizeLine; decide), fun q1 hq1 => ?_⟩
      have es1 : Es K J9 [V.non, V.int 5, V.ref u1, V.ref u2, V.ref u3, V.ref u4, V.ref u5, V.ref u6, V.ref u7, V.ref u8, V.str "ab", V.ref u9] oddR := .cons .non (.cons (.int 5) (.cons y1 (.cons y2 (.cons y3 (.cons y4 (.cons y5 (.cons y6 (.cons y7 (.cons y8 (.cons (.str [97, 98] (by decide)) (.cons y9 .nil)))))))))))
      have s14 := sJ9.grow (Grow.mine (T := No) (o := .lst [V.non, V.int 5, V.ref u1, V.ref u2, V.ref u3, V.ref u4, V.ref u5, V.ref u6, V.ref u7, V.ref u8, V.str "ab", V.ref u9]) sJ9.sub hq1)
      have o14 := (o13.grow z9.no).grow (Grow.mine (T := TD D) (o := .lst [V.non, V.int 5, V.ref u1, V.ref u2, V.ref u3, V.ref u4, V.ref u5, V.ref u6, V.ref u7, V.ref u8, V.str "ab", V.ref u9]) sJ9.sub hq1)
      refine ⟨_, rfl, _, rfl, J9, D, _, _, rfl, s14.drw, by omega, .inl ⟨q1, _, rfl, sJ9.drw.not hq1, upd_same, by simp, by simp, fun jo xo H15 hxo g15 d15 => ?_⟩⟩
      have s15 := s14.draw g15 d15
      have o15 := o14.grow g15
      obtain ⟨yo, hyo, hxo⟩ := es1.mem hxo
      have hno := oddR_no yo (List.mem_of_getElem? hyo)
      have e15 := e13.trans z9.view
      have hf15 := z9.view _ _ hf13
      have hpf15 := Paired.mono' (fun _ _ z => Rep.mono z9.view z) hpf13
      clear hyo es1 s14 o14 g15 d15 sJ9 o13 hf13 hpf13 e13 z9 z8 z7 z6 z5 z4 z3 z2 z1 y1 y2 y3 y4 y5 y6 y7 y8 y9 s13
      -- where it stands
      have ha15 := e15 _ _ ha5
      refine ⟨_, rfl, _, rfl, M, _, 0, _, rfl, rfl, SqL.of o15.at_, hw0, a0, vs0, rfl, .inl (SqL.of (s15.sub _ _ ha15)), _, _, rfl, rfl, J9, D, _, (vs0.length : Int) + 1, rfl, s15.drw, by omega, by omega, by omega, fun r H16 hr0 hr1 g16 d16 => ?_⟩
      obtain ⟨at', rfl⟩ := Int.eq_ofNat_of_zero_le hr0
      have hat : at' ≤ vs0.length := by omega
      have s16 := s15.draw g16 d16
      have o16 := o15.grow g16
      -- wrong things
      have yfar := far_wrong (K := K) hf15 hpf15
      refine ⟨_, rfl, (by show 2 ≤ sizeLine; decide), fun t1 ht1 => ?_⟩
      obtain ⟨J17, s17, x17, e17, z17⟩ := wrong_mk (K := K) (z := 60) s16 ht1 yfar (due_far lfar vfar) (by decide) rfl
      generalize upd H16 t1 (.tup [V.ref L, V.int 60]) = H17 at s17 z17 ⊢
      have o17 := o16.grow z17.no
      have e17' := e15.trans e17
      have ha17 := e17' _ _ ha5
      have hh17 := s17.sub _ _ ha17
      have cta : cutV vs0 none (some (at' : Int)) = vs0.take at' := cut_take vs0 at'
      have ctb : cutV vs0 (some (at' : Int)) none = vs0.drop at' := cut_dropL vs0 at' hat
      refine ⟨_, rfl, M, _, 0, _, rfl, rfl, SqL.of o17.at_, hw0, _, rfl, _, rfl, a0, vs0, rfl, SqL.of hh17, fun p1 hp1 => ?_⟩
      rw [cta]
      refine ⟨_, rfl, (by show 1 ≤ sizeLine; decide), fun p2 hp2 => ?_⟩
      have n12 : p1 ≠ p2 := fun z => by rw [z, upd_same] at hp2; cases hp2
      have gA : Grow No J17 H17 J17 (upd (upd H17 p1 (.lst (vs0.take at'))) p2 (.lst [xo])) := (Grow.mine s17.sub hp1).trans (Grow.mine (Grow.mine (T := No) s17.sub hp1).sub hp2)
      have hA1 : upd (upd H17 p1 (.lst (vs0.take at'))) p2 (.lst [xo]) p1 = some (.lst (vs0.take at')) := by rw [upd_ne n12]; exact upd_same
      have hA2 : upd (upd H17 p1 (.lst (vs0.take at'))) p2 (.lst [xo]) p2 = some (.lst [xo]) := upd_same
      generalize upd (upd H17 p1 (.lst (vs0.take at'))) p2 (.lst [xo]) = H18 at gA hA1 hA2 ⊢
      refine ⟨p1, p2, _, _, rfl, rfl, hA1, hA2, by rw [List.length_take, sizeLine_eq]; simp only [List.length_singleton]; omega, fun p3 hp3 => ?_⟩
      have gB : Grow No J17 H17 J17 (upd H18 p3 (.lst (vs0.take at' ++ [xo]))) := gA.trans (Grow.mine gA.sub hp3)
      have hB : upd H18 p3 (.lst (vs0.take at' ++ [xo])) p3 = some (.lst (vs0.take at' ++ [xo])) := upd_same
      generalize upd H18 p3 (.lst (vs0.take at' ++ [xo])) = H19 at gB hB ⊢
      have oB := o17.grow gB.no
      refine ⟨_, rfl, M, _, 0, _, rfl, rfl, SqL.of oB.at_, hw0, _, rfl, _, rfl, a0, vs0, rfl, SqL.of (gB.sub _ _ ha17), fun p4 hp4 => ?_⟩
      rw [ctb]
      have n34 : p3 ≠ p4 := fun z => by rw [← z, hB] at hp4; cases hp4
      have gC : Grow No J17 H17 J17 (upd H19 p4 (.lst (vs0.drop at'))) := gB.trans (Grow.mine gB.sub hp4)
      have hC3 : upd H19 p4 (.lst (vs0.drop at')) p3 = some (.lst (vs0.take at' ++ [xo])) := by rw [upd_ne n34]; exact hB
      have hC4 : upd H19 p4 (.lst (vs0.drop at')) p4 = some (.lst (vs0.drop at')) := upd_same
      generalize upd H19 p4 (.lst (vs0.drop at')) = H20 at gC hC3 hC4 ⊢
      refine ⟨p3, p4, _, _, rfl, rfl, hC3, hC4, by rw [List.length_append, List.length_take, List.length_drop, sizeLine_eq]; simp only [List.length_singleton]; omega, fun p5 hp5 => ?_⟩
      have sC := s17.grow gC
      have esW : Es K J17 (vs0.take at' ++ [xo] ++ vs0.drop at') ((r0.map rideD).take at' ++ [yo] ++ (r0.map rideD).drop at') := by
        have es0 : Es K J17 vs0 (r0.map rideD) := rides_es (Paired.mono' (fun _ _ z => Rep.mono (e03.trans e17') z) hp0)
        exact Es.app (Es.app (es0.take at') (.cons (hxo.up e17) .nil)) (es0.drop at')
      obtain ⟨J21, s21, y21, e21, z21⟩ := bagL (K := K) sC hp5 esW
      generalize upd H20 p5 (.lst (vs0.take at' ++ [xo] ++ vs0.drop at')) = H21 at s21 z21 ⊢
      have o21 := (o17.grow gC.no).grow z21.no
      have l0 : r0.length = vs0.length := lv0.symm
      refine ⟨_, rfl, (by show 2 ≤ sizeLine; decide), fun t2 ht2 => ?_⟩
      obtain ⟨J22, s22, x22, e22, z22⟩ := wrong_mk (K := K) (z := (at' : Int)) s21 ht2 y21 (due_in hl0 gd0.valid (by omega) hno) (by omega) rfl
      generalize upd H21 t2 (.tup [V.ref p5, V.int (at' : Int)]) = H22 at s22 z22 ⊢
      have o22 := o21.grow z22.no
      have x17' := (x17.up e21).up e22
      have e22' := e17'.trans (e21.trans e22)
      clear s21 z21 y21 esW sC hp5 hC4 hC3 gC n34 hp4 oB hB gB hp3 hA2 hA1 gA n12 hp2 hp1 cta ctb hh17 ha17 s17 x17 e17 z17 e21 e22 z22 o21 o17 ht1 ht2 yfar hxo
      -- none at all
      refine ⟨_, rfl, fun dd hdd => ?_⟩
      have gD : Grow No J22 H22 _ (upd H22 dd (.dK [])) := Grow.new s22.sub hdd
      have sD := s22.grow gD
      have hdJ : upd J22 dd (.dK []) dd = some (.dK []) := upd_same
      have oD := o22.grow gD.no
      have eD := gD.view
      generalize upd H22 dd (.dK []) = H23 at sD oD gD ⊢
      generalize upd J22 dd (.dK []) = J23 at sD oD gD hdJ eD
      refine ⟨(by show 4 ≤ sizeLine; decide), fun q2 hq2 => ?_⟩
      have s24 := sD.grow (Grow.mine (T := No) (o := .lst [V.non, V.int 5, V.str "ab", V.ref dd]) sD.sub hq2)
      have o24 := oD.grow (Grow.mine (T := TD D) (o := .lst [V.non, V.int 5, V.str "ab", V.ref dd]) sD.sub hq2)
      refine ⟨J23, D, _, _, rfl, s24.drw, by omega, .inl ⟨q2, _, rfl, sD.drw.not hq2, upd_same, by simp, by simp, fun j2 z2 H25 hz2 g25 d25 => ?_⟩⟩
      have s25 := s24.draw g25 d25
      have o25 := o24.grow g25
      obtain ⟨dz, hz, hdz⟩ : ∃ dz, isE K J23 z2 dz ∧ (dz.isLst || dz.isTup) = false := by
        have z := List.mem_of_getElem? hz2
        simp only [List.mem_cons, List.not_mem_nil, or_false] at z
        rcases z with rfl | rfl | rfl | rfl
        · exact ⟨_, .non, rfl⟩
        · exact ⟨_, .int 5, rfl⟩
        · exact ⟨_, .str [97, 98] (by decide), rfl⟩
        · exact ⟨_, .dic hdJ, rfl⟩
      refine ⟨(by show 2 ≤ sizeLine; decide), fun t3 ht3 => ?_⟩
      obtain ⟨J26, s26, x26, e26, z26⟩ := wrong_mk (K := K) (z := 0) (i := 0) s25 ht3 hz (.inl ⟨hdz, rfl⟩) (by decide) rfl
      generalize upd H25 t3 (.tup [z2, V.int 0]) = H26 at s26 z26 ⊢
      have o26 := o25.grow z26.no
      refine ⟨(by show 3 ≤ sizeLine; decide), fun W hW => ?_⟩
      have gW : Grow No J26 H26 _ (upd H26 W (.lst [V.ref t1, V.ref t2, V.ref t3])) := Grow.new s26.sub hW
      have s27 := s26.grow gW
      have o27 := o26.grow gW.no
      have hWJ : upd J26 W (.lst [V.ref t1, V.ref t2, V.ref t3]) W = some (.lst [V.ref t1, V.ref t2, V.ref t3]) := upd_same
      have e27 := e22'.trans (eD.trans (e26.trans gW.view))
      have wrongs : ∀ v ∈ [V.ref t1, V.ref t2, V.ref t3], wrongV K (upd J26 W (.lst [V.ref t1, V.ref t2, V.ref t3])) v := by
        intro v hv
        simp only [List.mem_cons, List.not_mem_nil, or_false] at hv
        rcases hv with rfl | rfl | rfl
        · exact x17'.up (eD.trans (e26.trans gW.view))
        · exact x22.up (eD.trans (e26.trans gW.view))
        · exact x26.up gW.view
      revert s27 o27 hWJ e27 wrongs
      show LSt Tb D _ _ (upd H26 W (.lst [V.ref t1, V.ref t2, V.ref t3])) → Own (TD D) H1 M (.lst ws) _ (upd H26 W (.lst [V.ref t1, V.ref t2, V.ref t3])) → _
      clear gW
      generalize upd J26 W (.lst [V.ref t1, V.ref t2, V.ref t3]) = J27
      generalize upd H26 W (.lst [V.ref t1, V.ref t2, V.ref t3]) = H27
      generalize [V.ref t1, V.ref t2, V.ref t3] = wrg
      intro s27 o27 hWJ e27 wrongs
      clear z26 s26 o26 s25 o25 s24 o24 x26 x22 x17' hz hz2
      -- refused
      refine ⟨_, rfl, W, rfl, ⟨_, SqL.of (s27.sub _ _ hWJ)⟩, ?_⟩
      refine for_it (walk_list (K := K) (a := W) (xs := wrg)) (fun i σ H' => ∃ (I' : Hp) (v13 v14 v17 : Option V), σ = [some (.ref a), some (.ref D.d), some (.ref M), v3, v4, v5, v6, v7, some (.ref L), some (.ref q1), some xo, some (.int (at' : Int)), some (.ref W), v13, v14, none, none, v17, none, none, none] ∧ LSt Tb D (300 * 3 + 61 + 200 + 200 + 1 + 1 + 1) I' H' ∧ Own (TD D) H1 M (.lst ws) I' H' ∧ Same J27 I')
        ⟨J27, none, none, none, rfl, s27, o27, Same.refl _⟩ (fun i σ H' _ ⟨I', _, _, _, _, s', _, e'⟩ => SqL.of (s'.sub _ _ (e' _ _ hWJ))) ?_ ?_
      · rintro i x0 σ H28 H28' hi ⟨I28, v13, v14, v17, rfl, s28, o28, e28⟩ ⟨rfl, hx⟩
        obtain ⟨t, x, due, dz, rfl, ht, hxe, hdue, h100⟩ := (wrongs _ (List.mem_of_getElem? hx)).up e28
        refine ⟨t, _, rfl, SqT.of (s28.sub _ _ ht), rfl, _, _, rfl, _, _, rfl, rfl, ?_⟩
        refine ⟨hTT' _ s28.tabs, fun H29 x29 t29 => ?_⟩
        have s29 := s28.ext x29 (hTT2 _ t29)
        refine ⟨_, rfl, fun xl dxl hxl hdxl nel => .inr (make_bad (K := K) hxl hdxl nel s29.sub hxe hdue fun I30 H30 dx g30 hd30 => ⟨T.em_NoRides_OrderError, fun er her => ?_⟩)⟩
        have o29 : Own (TD D) H1 M (.lst ws) I28 H29 := ⟨o28.nt, o28.n0, o28.ni, x29 _ _ o28.at_ fun _ z => nomatch z⟩
        have s30 := s29.grow g30
        have o30 := o29.grow g30.no
        have nde : dx ≠ er := fun z => by rw [z, her] at hd30; cases hd30
        have s31 := s30.grow (Grow.mine (T := No) (o := ExV (.ref (He.ga K "NoRides")) (some dx) er) s30.sub her)
        have o31 := o30.grow (Grow.mine (T := TD D) (o := ExV (.ref (He.ga K "NoRides")) (some dx) er) s30.sub her)
        have hd31 : upd H30 er (ExV (.ref (He.ga K "NoRides")) (some dx) er) dx = some (.xd [("at", .int (due : Nat))]) := by rw [upd_ne nde]; exact hd30
        have her31 : upd H30 er (ExV (.ref (He.ga K "NoRides")) (some dx) er) er = some (ExV (.ref (He.ga K "NoRides")) (some dx) er) := upd_same
        generalize upd H30 er (ExV (.ref (He.ga K "NoRides")) (some dx) er) = H31 at s31 o31 hd31 her31 ⊢
        have sE : Shows (PyData.int (due : Nat)) := shows_mom (m := .num (due : Nat)) (by show big _; unfold big; rw [e40]; omega)
        refine ⟨_, rfl, .inr ⟨er, He.ga K "NoRides", some dx, .ref (He.ga K "NoRides"), _, true, rfl, her31, (fun dx' z => by cases z; exact ⟨_, hd31⟩), T.xf_NoRides, .own _, kit_self, true, rfl, iteF ?_⟩⟩
        refine ⟨_, rfl, er, _, dx, _, _, rfl, her31, hd31, T.xf_NoRides, T.nf_NoRides_at, rfl, _, .int (due : Nat), rfl, .int _, sE.sh, sE.nd, sE.deep, sE.len, ?_⟩
        refine ⟨_, rfl, _, .int (due : Nat), rfl, .int _, sE.sh, sE.nd, sE.deep, sE.len, rfl, false, ?_, iteF ?_⟩
        · rw [decide_eq_true rfl] <;> rfl
        exact ⟨I30, _, _, _, rfl, s31, o31, e28.trans g30.view⟩
      rintro σ H28 ⟨I28, v13, v14, v17, rfl, s28, o28, e28⟩
      -- a link asked at what is no moment
      have ha28 := (e27.trans e28) _ _ ha5
      have hp28 : Paired (Rep.is I28) vs0 r0 := Paired.mono' (fun _ _ z => Rep.mono (e03.trans (e27.trans e28)) z) hp0
      refine ⟨_, rfl, M, _, 0, _, rfl, rfl, SqL.of o28.at_, hw0, fun x1 dx1 hx1 hdx1 ne1 => .inr (make_good (K := K) hx1 hdx1 ne1 s28.sub (t := false) (s28.sub _ _ ha28) (.inl ha28) hp28 gd0 fun n1 I29 H29 g29 hk29 hn1 => ⟨rfl, ?_⟩)⟩
      clear hx1 hdx1 ne1
      have s29 := s28.grow g29
      refine ⟨_, rfl, (by show 1 ≤ sizeLine; decide), fun u1 hu1 => ?_⟩
      obtain ⟨J1, sJ1, y1, eJ1, z1⟩ := bagT (K := K) (ws := [V.int 1]) s29 hu1 (.cons (.int 1) .nil)
      generalize upd H29 u1 (.tup [V.int 1]) = K1 at sJ1 z1 ⊢
      refine ⟨(by show 0 ≤ sizeLine; decide), fun u2 hu2 => ?_⟩
      obtain ⟨J2, sJ2, y2, eJ2, z2'⟩ := bagL (K := K) (ws := []) sJ1 hu2 .nil
      generalize upd K1 u2 (.lst []) = K2 at sJ2 z2' ⊢
      refine fun u3 hu3 => ?_
      have gD : Grow No J2 K2 _ (upd K2 u3 (.dK [])) := Grow.new sJ2.sub hu3
      have sD := sJ2.grow gD
      have hdJ : upd J2 u3 (.dK []) u3 = some (.dK []) := upd_same
      have eD := gD.view
      generalize upd K2 u3 (.dK []) = K3 at sD gD ⊢
      generalize upd J2 u3 (.dK []) = J3 at sD gD hdJ eD
      refine ⟨(by show 0 ≤ sizeLine; decide), fun u4 hu4 => ?_⟩
      have s4 := sD.grow (Grow.mine (T := No) (o := .lst []) sD.sub hu4)
      refine fun x2 dx2 hx2 hdx2 ne2 => .inr (make_good (K := K) hx2 hdx2 ne2 s4.sub (t := false) upd_same (.inr ⟨rfl, sD.sub.free hu4⟩) .nil good_nil fun n2 I30 H30 g30 hk30 hn2 => ⟨rfl, ?_⟩)
      clear hx2 hdx2 ne2
      have s30 := s4.grow g30
      refine ⟨(by show 10 ≤ sizeLine; decide), fun q2 hq2 => ?_⟩
      have s31 := s30.grow (Grow.mine (T := No) (o := .lst [V.non, V.bl true, V.str "", V.str "First", V.str "firs", V.ref u1, V.ref u2, V.str "none", V.ref u3, V.ref x2]) s30.sub hq2)
      refine ⟨I30, D, _, _, rfl, s31.drw, by omega, .inl ⟨q2, _, rfl, s30.drw.not hq2, upd_same, by simp, by simp, fun j2 z2 H32 hz2 g32 d32 => ?_⟩⟩
      have s32 := s31.draw g32 d32
      have e3' := eD.trans g30.view
      obtain ⟨dz, hz, hdz⟩ : ∃ dz, isE K I30 z2 dz ∧ dz.isMom = false := by
        have z := List.mem_of_getElem? hz2
        simp only [List.mem_cons, List.not_mem_nil, or_false] at z
        rcases z with rfl | rfl | rfl | rfl | rfl | rfl | rfl | rfl | rfl | rfl
        · exact ⟨_, .non, rfl⟩
        · exact ⟨_, .bl true, rfl⟩
        · exact ⟨_, .str [] (by decide), rfl⟩
        · exact ⟨_, .str [70, 105, 114, 115, 116] (by decide), rfl⟩
        · exact ⟨_, .str [102, 105, 114, 115] (by decide), rfl⟩
        · exact ⟨_, y1.up (eJ2.trans e3'), rfl⟩
        · exact ⟨_, y2.up e3', rfl⟩
        · exact ⟨_, .str [110, 111, 110, 101] (by decide), rfl⟩
        · exact ⟨_, .dic (g30.view _ _ hdJ), rfl⟩
        · obtain ⟨b, db, tb, ez, hb, _⟩ := hk30
          cases ez
          exact ⟨_, .obj hb T.is_Link T.cl_Link ⟨T.ki_Link_str, T.ki_Link_tuple, T.ki_Link_list, T.ki_Link_int, T.ki_Link_bool⟩, rfl⟩
      have hk32 : isLink K I30 (.ref x1) n1 := hk29.up (eJ1.trans (eJ2.trans e3'))
      refine ⟨(by show 2 ≤ sizeLine; decide), fun u5 hu5 => ?_⟩
      have s33 := s32.grow (Grow.mine (T := No) (o := .tup [V.ref x1, z2]) s32.sub hu5)
      have h5 : upd H32 u5 (.tup [V.ref x1, z2]) u5 = some (.tup [V.ref x1, z2]) := upd_same
      generalize upd H32 u5 (.tup [V.ref x1, z2]) = H33 at s33 h5 ⊢
      refine ⟨u5, _, rfl, SqT.of h5, rfl, _, _, rfl, _, _, rfl, rfl, ?_⟩
      have hln1 : n1.length ≤ 100000 := by have z1 := hn1.few; have z2 := gd0.few; omega
      obtain ⟨xx, dx1', tx1, ex1, hx1', hu1'⟩ := id hk32
      cases ex1
      clear s32 s31 s30 s4 sD sJ2 sJ1 s29 hz2 g32 d32 y1 y2 hdJ hk30 hk29 hn2
      -- told
      refine ⟨hTT' _ s33.tabs, fun H34 x34 t34 => ?_⟩
      have s34 := s33.ext x34 (hTT2 _ t34)
      refine ⟨_, rfl, x1, dx1', _, rfl, s34.sub _ _ hx1', rfl, _, rfl, .inr ⟨I30, .ref x1, z2, n1, rfl, hk32, hln1, s34.sub, .inr ⟨dz, hz, hdz, fun I35 H35 g35 => ⟨T.em_NoMoment_OrderError, fun a1 ha1 => ?_⟩⟩⟩⟩
      have s35 := s34.grow g35
      have s36 := s35.grow (Grow.mine (T := No) (o := ExV (.ref (He.ga K "NoMoment")) none a1) s35.sub ha1)
      refine .inr ⟨a1, He.ga K "NoMoment", none, .ref (He.ga K "NoMoment"), _, true, rfl, upd_same, (fun _ z => nomatch z), T.xf_NoMoment, .own _, kit_self, true, rfl, iteF ?_⟩
      refine ⟨hTT' _ s36.tabs, fun H37 x37 t37 => ?_⟩
      have s37 := s36.ext x37 (hTT2 _ t37)
      refine ⟨_, rfl, x1, dx1', _, rfl, s37.sub _ _ (g35.view _ _ hx1'), rfl, _, rfl, .inr ⟨I35, .ref x1, z2, n1, rfl, hk32.up g35.view, hln1, s37.sub, .inr ⟨dz, hz.up g35.view, hdz, fun I38 H38 g38 => ⟨T.em_NoMoment_OrderError, fun a2 ha2 => ?_⟩⟩⟩⟩
      have s38 := s37.grow g38
      have s39 := s38.grow (Grow.mine (T := No) (o := ExV (.ref (He.ga K "NoMoment")) none a2) s38.sub ha2)
      refine .inr ⟨a2, He.ga K "NoMoment", none, .ref (He.ga K "NoMoment"), _, true, rfl, upd_same, (fun _ z => nomatch z), T.xf_NoMoment, .own _, kit_self, true, rfl, iteF ?_⟩
      generalize upd H38 a2 (ExV (.ref (He.ga K "NoMoment")) none a2) = H40 at s39 ⊢
      clear s38 s37 s36 s35 s34
      have sb0 : Same I38 H40 := s39.sub
      clear s39
      -- nothing at all
      refine ⟨(by show 0 ≤ sizeLine; decide), fun b1 hb1 => ?_⟩
      have gA : Grow No I38 H40 I38 (upd H40 b1 (.lst [])) := Grow.mine sb0 hb1
      refine fun x3 dx3 hx3 hdx3 ne3 => .inr (make_good (K := K) hx3 hdx3 ne3 gA.sub (t := false) upd_same (.inr ⟨rfl, sb0.free hb1⟩) .nil good_nil fun m1 I41 H41 g41 hm1 hn1' => ⟨rfl, ?_⟩)
      clear hx3 hdx3 ne3
      cases nil_needed hn1'
      obtain ⟨_, d3, t3', ez3, hx3, hu3'⟩ := hm1
      cases ez3
      refine ⟨x3, d3, _, rfl, g41.sub _ _ hx3, x3, d3, _, rfl, g41.sub _ _ hx3, (by show 0 ≤ sizeLine; decide), fun b2 hb2 => ?_⟩
      have gB : Grow No I41 H41 I41 (upd H41 b2 (.tup [])) := Grow.mine g41.sub hb2
      refine ⟨dR [], .tuple [], dp_rides hu3' gB.sub, .tup (SqT.of upd_same) .nil, shaped_rides [], rfl, true, rfl, iteT ?_⟩
      refine ⟨(by show 0 ≤ sizeLine; decide), fun b3 hb3 => ?_⟩
      have gC : Grow No I41 (upd H41 b2 (.tup [])) _ (upd (upd H41 b2 (.tup [])) b3 (.tup [])) := Grow.new gB.sub hb3
      have hb3' : upd I41 b3 (.tup []) b3 = some (.tup []) := upd_same
      generalize upd (upd H41 b2 (.tup [])) b3 (.tup []) = H42 at gC ⊢
      generalize upd I41 b3 (.tup []) = I42 at gC hb3'
      refine fun x4 dx4 hx4 hdx4 ne4 => .inr (make_good (K := K) hx4 hdx4 ne4 gC.sub (t := true) (gC.sub _ _ hb3') (.inl hb3') .nil good_nil fun m2 I43 H43 g43 hm2 hn2' => ⟨rfl, ?_⟩)
      clear hx4 hdx4 ne4
      cases nil_needed hn2'
      obtain ⟨_, d4, t4', ez4, hx4, hu4'⟩ := id hm2
      cases ez4
      refine ⟨x4, d4, _, rfl, g43.sub _ _ hx4, rfl, .inr ⟨I43, .ref x4, .int 5, [], rfl, hm2, by decide, g43.sub, .inl ⟨.num 5, rfl, fun I44 H44 g44 => ?_⟩⟩⟩
      refine ⟨rfl, true, rfl, iteT ?_⟩
      refine ⟨(by show 0 ≤ sizeLine; decide), fun b5 hb5 => ?_⟩
      have gE : Grow No I44 H44 I44 (upd H44 b5 (.lst [])) := Grow.mine g44.sub hb5
      refine fun x5 dx5 hx5 hdx5 ne5 => .inr (make_good (K := K) hx5 hdx5 ne5 gE.sub (t := false) upd_same (.inr ⟨rfl, g44.sub.free hb5⟩) .nil good_nil fun m3 I45 H45 g45 hm3 hn3' => ⟨rfl, ?_⟩)
      clear hx5 hdx5 ne5
      cases nil_needed hn3'
      obtain ⟨_, d5, t5', ez5, hx5, hu5'⟩ := id hm3
      cases ez5
      refine ⟨x5, d5, _, rfl, g45.sub _ _ hx5, rfl, .inr ⟨I45, .ref x5, .int 5, [], rfl, hm3, by decide, g45.sub, .inl ⟨.num 5, rfl, fun I46 H46 g46 => ?_⟩⟩⟩
      exact ⟨rfl, k _⟩
end
end Nw
namespace Nw
open PySem PySem.Spec PyProof.Rows L2
def d_l_next : He.DefD := ⟨("_law_next", none), "_law_next", "_law_next", defArgs s_l_next, defBody s_l_next, defScope s_l_next, [], []⟩
def d_l_begun : He.DefD := ⟨("_law_begun", none), "_law_begun", "_law_begun", defArgs s_l_begun, defBody s_l_begun, defScope s_l_begun, [], []⟩
def d_is_number : He.DefD := ⟨("is_number", none), "is_number", "is_number", defArgs s_is_number, defBody s_is_number, defScope s_is_number, [], []⟩
def d_is_moment : He.DefD := ⟨("is_moment", none), "is_moment", "is_moment", defArgs s_is_moment, defBody s_is_moment, defScope s_is_moment, [], []⟩
def d_need_moment : He.DefD := ⟨("need_moment", none), "need_moment", "need_moment", defArgs s_need_moment, defBody s_need_moment, defScope s_need_moment, [], []⟩
def d_is_ride : He.DefD := ⟨("is_ride", none), "is_ride", "is_ride", defArgs s_is_ride, defBody s_is_ride, defScope s_is_ride, [], []⟩
def d_ended : He.DefD := ⟨("ended", none), "ended", "ended", defArgs s_ended, defBody s_ended, defScope s_ended, [], []⟩
def d_begun : He.DefD := ⟨("begun", none), "begun", "begun", defArgs s_begun, defBody s_begun, defScope s_begun, [], []⟩
def d_needed : He.DefD := ⟨("needed", none), "needed", "needed", defArgs s_needed, defBody s_needed, defScope s_needed, [], []⟩
def d_NoRides__init : He.DefD := ⟨("NoRides", some "__init__"), "__init__", "NoRides.__init__", defArgs s_NoRides__init, defBody s_NoRides__init, defScope s_NoRides__init, [], []⟩
def d_Link_rides : He.DefD := ⟨("Link", some "rides"), "rides", "Link.rides", defArgs s_Link_rides, defBody s_Link_rides, defScope s_Link_rides, [], []⟩
def d_Link_end : He.DefD := ⟨("Link", some "end"), "end", "Link.end", defArgs s_Link_end, defBody s_Link_end, defScope s_Link_end, [], []⟩
def d_Link_begin : He.DefD := ⟨("Link", some "begin"), "begin", "Link.begin", defArgs s_Link_begin, defBody s_Link_begin, defScope s_Link_begin, [], []⟩
def d_Link__init : He.DefD := ⟨("Link", some "__init__"), "__init__", "Link.__init__", defArgs s_Link__init, defBody s_Link__init, defScope s_Link__init, [], []⟩
def d_l_pick : He.DefD := ⟨("_law_pick", none), "_law_pick", "_law_pick", defArgs s_l_pick, defBody s_l_pick, defScope s_l_pick, [], []⟩
def d_l_rides : He.DefD := ⟨("_law_rides", none), "_law_rides", "_law_rides", defArgs s_l_rides, defBody s_l_rides, defScope s_l_rides, [], []⟩
def d_l_moment : He.DefD := ⟨("_law_moment", none), "_law_moment", "_law_moment", defArgs s_l_moment, defBody s_l_moment, defScope s_l_moment, [], []⟩
def d_l_shuffled : He.DefD := ⟨("_law_shuffled", none), "_law_shuffled", "_law_shuffled", defArgs s_l_shuffled, defBody s_l_shuffled, defScope s_l_shuffled, [], []⟩
def d_l_end : He.DefD := ⟨("_law_end", none), "_law_end", "_law_end", defArgs s_l_end, defBody s_l_end, defScope s_l_end, [], []⟩
def d_l_begin : He.DefD := ⟨("_law_begin", none), "_law_begin", "_law_begin", defArgs s_l_begin, defBody s_l_begin, defScope s_l_begin, [], []⟩
def d_l_shift : He.DefD := ⟨("_law_shift", none), "_law_shift", "_law_shift", defArgs s_l_shift, defBody s_l_shift, defScope s_l_shift, [], []⟩
def d_l_put_off : He.DefD := ⟨("_law_put_off", none), "_law_put_off", "_law_put_off", defArgs s_l_put_off, defBody s_l_put_off, defScope s_l_put_off, [], []⟩
def d_l_rides_off : He.DefD := ⟨("_law_rides_off", none), "_law_rides_off", "_law_rides_off", defArgs s_l_rides_off, defBody s_l_rides_off, defScope s_l_rides_off, [], []⟩
def d_l_needed : He.DefD := ⟨("_law_needed", none), "_law_needed", "_law_needed", defArgs s_l_needed, defBody s_l_needed, defScope s_l_needed, [], []⟩
def d_Link__eq : He.DefD := ⟨("Link", some "__eq__"), "__eq__", "Link.__eq__", defArgs s_Link__eq, defBody s_Link__eq, defScope s_Link__eq, [], []⟩
def d_l_right : He.DefD := ⟨("_law_right", none), "_law_right", "_law_right", defArgs s_l_right, defBody s_l_right, defScope s_l_right, [], []⟩
def d_law : He.DefD := ⟨("law", none), "law", "law", defArgs s_law, defBody s_law, defScope s_law, [], []⟩
def d_l_told : He.DefD := ⟨("_law_told", none), "_law_told", "_law_told", defArgs s_l_told, defBody s_l_told, defScope s_l_told, [], []⟩
def fn : List He.DefD := [d_l_next, d_l_begun, d_is_number, d_is_moment, d_need_moment, d_is_ride, d_ended, d_begun, d_needed, d_NoRides__init, d_Link_end, d_Link_begin, d_Link__init, d_l_pick, d_l_rides, d_l_moment, d_l_shuffled, d_l_end, d_l_begin, d_l_shift, d_l_put_off, d_l_rides_off, d_l_needed, d_Link__eq, d_l_right, d_law, d_l_told]
def gs : List GetD := [(("Link", "rides"), d_Link_rides)]
def tf : List He.Defn := [("law", none)]
def fa : List He.Fa := [.free "abs", .free "all", .free "bool", .free "enumerate", .free "int", .free "isinstance", .free "len", .free "list", .free "property", .free "range", .free "repr", .free "sorted", .free "str", .free "tuple", .free "ValueError", .glo "is_number", .glo "is_moment", .glo "need_moment", .glo "is_earlier", .glo "sooner_of", .glo "is_ride", .glo "ended", .glo "begun", .glo "needed", .glo "link_by", .glo "_law_begun", .glo "_law_next", .glo "_law_pick", .glo "_law_shuffled", .glo "_law_rides", .glo "_law_moment", .glo "_law_shift", .glo "_law_put_off", .glo "_law_rides_off", .glo "_law_end", .glo "_law_begin", .glo "_law_told", .glo "_law_needed", .glo "_law_right", .glo "law", .glo "OrderError", .glo "NoMoment", .exc "NoMoment", .glo "NoRides", .meth "NoRides" "__init__", .noat "NoRides" "at", .glo "TooMany", .glo "Link", .cls "Link", .mkr "Link", .meth "Link" "end", .meth "Link" "begin", .meth "Link" "__eq__", .meth "Link" "__mul__", .meth "Link" "__or__", .meth "Link" "__and__", .meth "Link" "__invert__", .meth "Link" "__le__", .noat "Link" "own_rides", .str "FIRST" "first", .str "LAST" "last", .int "MOST_RIDES" 60, .exm "NoRides" "OrderError" true, .exm "NoMoment" "OrderError" true]
def loose : List Str := (["OrderError", "NoMoment", "NoRides", "TooMany", "FIRST", "LAST", "MOST_RIDES", "is_number", "is_moment", "need_moment", "is_earlier", "sooner_of", "is_ride", "ended", "begun", "needed", "link_by", "Link", "_law_begun", "_law_next", "_law_pick", "_law_shuffled", "_law_rides", "_law_moment", "_law_shift", "_law_put_off", "_law_rides_off", "_law_end", "_law_begin", "_law_told"] : List Str) ++ (["_law_needed", "_law_right"] : List Str)
def ex (K : PySem.W.Frag) : Bool := (insB K (He.ga K "Link") && (PySem.W.selfFirst K (He.ga K "Link") && (decide (PySem.W.findIn K (.ref (He.ga K "Link")) "__ne__" = some (some (.builtin "object.__ne__"))) && (decide (PySem.W.subIn K (.ref (He.ga K "Link")) (.type "object") = some true) && (decide (PySem.W.subIn K (.type "tuple") (.ref (He.ga K "Link")) = some false) && (decide (PySem.W.kitOne K (.type "tuple") (.ref (He.ga K "Link")) = some false) && (exfB K (He.ga K "NoRides") && (exfB K (He.ga K "NoMoment") && (decide (PySem.W.findIn K (.ref (He.ga K "NoRides")) "at" = some none) && (oexB K (He.ga K "NoRides") && (oeiB K (He.ga K "OrderError") && (decide (PySem.W.kitOne K (.ref (He.ga K "Link")) (.type "str") = some false) && (decide (PySem.W.kitOne K (.ref (He.ga K "Link")) (.type "tuple") = some false) && (decide (PySem.W.kitOne K (.ref (He.ga K "Link")) (.type "list") = some false) && (decide (PySem.W.kitOne K (.ref (He.ga K "Link")) (.type "int") = some false) && (decide (PySem.W.kitOne K (.ref (He.ga K "Link")) (.type "bool") = some false) && propB K (He.ga K "Link") "rides"))))))))))))))))
abbrev R : PySem.W.OpenRow := PySem.W.OpenLaw.row PySem.Challenge.rw_newsinorder_k02_ends_and_begins
abbrev hk : PySem.W.Hook := hookP 5 fa fn tf ex gs
def ob (s : PySem.W.SharedT) : AlP := obsP 5 fa fn tf ex gs (HandSHeadRun.getT s)
theorem ob_eq (s : PySem.W.SharedT) : ob s = hk.obs s.abs := obsP_eq (HandSHeadRun.getT_eq s)

theorem run (w : World) : HandSHeadRun.RunEq R (PySem.W.view R.prog [35]) hk ob 20000 loose w := by
  intro os
  kernel_rfl
theorem facts {P : Program} {w : World} {K : PySem.W.Frag} {h : Heap} {mg : Str → Option Value} {f : Addr} (X : K.In h) (G : h.Ns mainGlobals mg) (hfa : mg ("law" : Str) = some (.ref f)) (c : SaysP fa fn tf ex gs h K) :
    ∃ fd : FuncData, (∀ (s : Shared) (v : Value), BindsTo s fd ⟨[v], []⟩ [("_law_script", v)]) ∧ ∀ base : Heap, K.In base → base.Ns mainGlobals mg → (∀ p ∈ tf.map (He.cT K), LamX.TabB base mg p.1 p.2) → FnG P w K mg base CX0 12 f fd ["_law_script"] (sp_law K) := by
  have cm := c.more
  unfold ex at cm
  rw [Bool.and_eq_true, Bool.and_eq_true, Bool.and_eq_true, Bool.and_eq_true, Bool.and_eq_true, Bool.and_eq_true, Bool.and_eq_true, Bool.and_eq_true, Bool.and_eq_true, Bool.and_eq_true, Bool.and_eq_true, Bool.and_eq_true, Bool.and_eq_true, Bool.and_eq_true, Bool.and_eq_true, Bool.and_eq_true] at cm
  obtain ⟨i_0, i_1, i_2, i_3, i_4, i_5, i_6, i_7, i_8, i_9, i_10, i_11, i_12, i_13, i_14, i_15, i_16⟩ := cm
  have x_0 : mg "abs" = none := He.free_ok X G (c.d.fact 0 (f := .free "abs") rfl)
  have x_1 : mg "all" = none := He.free_ok X G (c.d.fact 1 (f := .free "all") rfl)
  have x_2 : mg "bool" = none := He.free_ok X G (c.d.fact 2 (f := .free "bool") rfl)
  have x_3 : mg "enumerate" = none := He.free_ok X G (c.d.fact 3 (f := .free "enumerate") rfl)
  have x_4 : mg "int" = none := He.free_ok X G (c.d.fact 4 (f := .free "int") rfl)
  have x_5 : mg "isinstance" = none := He.free_ok X G (c.d.fact 5 (f := .free "isinstance") rfl)
  have x_6 : mg "len" = none := He.free_ok X G (c.d.fact 6 (f := .free "len") rfl)
  have x_7 : mg "list" = none := He.free_ok X G (c.d.fact 7 (f := .free "list") rfl)
  have x_8 : mg "property" = none := He.free_ok X G (c.d.fact 8 (f := .free "property") rfl)
  have x_9 : mg "range" = none := He.free_ok X G (c.d.fact 9 (f := .free "range") rfl)
  have x_10 : mg "repr" = none := He.free_ok X G (c.d.fact 10 (f := .free "repr") rfl)
  have x_11 : mg "sorted" = none := He.free_ok X G (c.d.fact 11 (f := .free "sorted") rfl)
  have x_12 : mg "str" = none := He.free_ok X G (c.d.fact 12 (f := .free "str") rfl)
  have x_13 : mg "tuple" = none := He.free_ok X G (c.d.fact 13 (f := .free "tuple") rfl)
  have x_14 : mg "ValueError" = none := He.free_ok X G (c.d.fact 14 (f := .free "ValueError") rfl)
  have x_15 : mg "is_number" = some (.ref (He.ga K "is_number")) := He.glo_ok X G (c.d.fact 15 (f := .glo "is_number") rfl)
  have x_16 : mg "is_moment" = some (.ref (He.ga K "is_moment")) := He.glo_ok X G (c.d.fact 16 (f := .glo "is_moment") rfl)
  have x_17 : mg "need_moment" = some (.ref (He.ga K "need_moment")) := He.glo_ok X G (c.d.fact 17 (f := .glo "need_moment") rfl)
  have x_18 : mg "is_earlier" = some (.ref (He.ga K "is_earlier")) := He.glo_ok X G (c.d.fact 18 (f := .glo "is_earlier") rfl)
  have x_19 : mg "sooner_of" = some (.ref (He.ga K "sooner_of")) := He.glo_ok X G (c.d.fact 19 (f := .glo "sooner_of") rfl)
  have x_20 : mg "is_ride" = some (.ref (He.ga K "is_ride")) := He.glo_ok X G (c.d.fact 20 (f := .glo "is_ride") rfl)
  have x_21 : mg "ended" = some (.ref (He.ga K "ended")) := He.glo_ok X G (c.d.fact 21 (f := .glo "ended") rfl)
  have x_22 : mg "begun" = some (.ref (He.ga K "begun")) := He.glo_ok X G (c.d.fact 22 (f := .glo "begun") rfl)
  have x_23 : mg "needed" = some (.ref (He.ga K "needed")) := He.glo_ok X G (c.d.fact 23 (f := .glo "needed") rfl)
  have x_24 : mg "link_by" = some (.ref (He.ga K "link_by")) := He.glo_ok X G (c.d.fact 24 (f := .glo "link_by") rfl)
  have x_25 : mg "_law_begun" = some (.ref (He.ga K "_law_begun")) := He.glo_ok X G (c.d.fact 25 (f := .glo "_law_begun") rfl)
  have x_26 : mg "_law_next" = some (.ref (He.ga K "_law_next")) := He.glo_ok X G (c.d.fact 26 (f := .glo "_law_next") rfl)
  have x_27 : mg "_law_pick" = some (.ref (He.ga K "_law_pick")) := He.glo_ok X G (c.d.fact 27 (f := .glo "_law_pick") rfl)
  have x_28 : mg "_law_shuffled" = some (.ref (He.ga K "_law_shuffled")) := He.glo_ok X G (c.d.fact 28 (f := .glo "_law_shuffled") rfl)
  have x_29 : mg "_law_rides" = some (.ref (He.ga K "_law_rides")) := He.glo_ok X G (c.d.fact 29 (f := .glo "_law_rides") rfl)
  have x_30 : mg "_law_moment" = some (.ref (He.ga K "_law_moment")) := He.glo_ok X G (c.d.fact 30 (f := .glo "_law_moment") rfl)
  have x_31 : mg "_law_shift" = some (.ref (He.ga K "_law_shift")) := He.glo_ok X G (c.d.fact 31 (f := .glo "_law_shift") rfl)
  have x_32 : mg "_law_put_off" = some (.ref (He.ga K "_law_put_off")) := He.glo_ok X G (c.d.fact 32 (f := .glo "_law_put_off") rfl)
  have x_33 : mg "_law_rides_off" = some (.ref (He.ga K "_law_rides_off")) := He.glo_ok X G (c.d.fact 33 (f := .glo "_law_rides_off") rfl)
  have x_34 : mg "_law_end" = some (.ref (He.ga K "_law_end")) := He.glo_ok X G (c.d.fact 34 (f := .glo "_law_end") rfl)
  have x_35 : mg "_law_begin" = some (.ref (He.ga K "_law_begin")) := He.glo_ok X G (c.d.fact 35 (f := .glo "_law_begin") rfl)
  have x_36 : mg "_law_told" = some (.ref (He.ga K "_law_told")) := He.glo_ok X G (c.d.fact 36 (f := .glo "_law_told") rfl)
  have x_37 : mg "_law_needed" = some (.ref (He.ga K "_law_needed")) := He.glo_ok X G (c.d.fact 37 (f := .glo "_law_needed") rfl)
  have x_38 : mg "_law_right" = some (.ref (He.ga K "_law_right")) := He.glo_ok X G (c.d.fact 38 (f := .glo "_law_right") rfl)
  have x_39 : mg "law" = some (.ref (He.ga K "law")) := He.glo_ok X G (c.d.fact 39 (f := .glo "law") rfl)
  have x_40 : mg "OrderError" = some (.ref (He.ga K "OrderError")) := He.glo_ok X G (c.d.fact 40 (f := .glo "OrderError") rfl)
  have x_41 : mg "NoMoment" = some (.ref (He.ga K "NoMoment")) := He.glo_ok X G (c.d.fact 41 (f := .glo "NoMoment") rfl)
  have x_42 : PySem.W.excIn K (He.ga K "NoMoment") He.veBase "ValueError.__new__" = true ∧ PySem.W.keepIn K (.ref (He.ga K "NoMoment")) = true ∧ PySem.W.subIn K (.ref (He.ga K "NoMoment")) (.type "BaseException") = some true ∧ PySem.W.typeIn K (.ref (He.ga K "NoMoment")) = some (.type "type") := He.exc_ok (c.d.fact 42 (f := .exc "NoMoment") rfl)
  have x_43 : mg "NoRides" = some (.ref (He.ga K "NoRides")) := He.glo_ok X G (c.d.fact 43 (f := .glo "NoRides") rfl)
  have x_44 : Meth K (He.ga K "NoRides") "__init__" (He.ma K (He.ga K "NoRides") "__init__") := He.meth_ok (c.d.fact 44 (f := .meth "NoRides" "__init__") rfl)
  have x_45 : NoAttr K (He.ga K "NoRides") "at" := He.noat_ok (c.d.fact 45 (f := .noat "NoRides" "at") rfl)
  have x_46 : mg "TooMany" = some (.ref (He.ga K "TooMany")) := He.glo_ok X G (c.d.fact 46 (f := .glo "TooMany") rfl)
  have x_47 : mg "Link" = some (.ref (He.ga K "Link")) := He.glo_ok X G (c.d.fact 47 (f := .glo "Link") rfl)
  have x_48 : Cls K (He.ga K "Link") := He.cls_ok (c.d.fact 48 (f := .cls "Link") rfl)
  have x_49 : Mk K (He.ga K "Link") (He.ma K (He.ga K "Link") "__init__") := He.mkr_ok (c.d.fact 49 (f := .mkr "Link") rfl)
  have x_50 : Meth K (He.ga K "Link") "end" (He.ma K (He.ga K "Link") "end") := He.meth_ok (c.d.fact 50 (f := .meth "Link" "end") rfl)
  have x_51 : Meth K (He.ga K "Link") "begin" (He.ma K (He.ga K "Link") "begin") := He.meth_ok (c.d.fact 51 (f := .meth "Link" "begin") rfl)
  have x_52 : Meth K (He.ga K "Link") "__eq__" (He.ma K (He.ga K "Link") "__eq__") := He.meth_ok (c.d.fact 52 (f := .meth "Link" "__eq__") rfl)
  have x_53 : Meth K (He.ga K "Link") "__mul__" (He.ma K (He.ga K "Link") "__mul__") := He.meth_ok (c.d.fact 53 (f := .meth "Link" "__mul__") rfl)
  have x_54 : Meth K (He.ga K "Link") "__or__" (He.ma K (He.ga K "Link") "__or__") := He.meth_ok (c.d.fact 54 (f := .meth "Link" "__or__") rfl)
  have x_55 : Meth K (He.ga K "Link") "__and__" (He.ma K (He.ga K "Link") "__and__") := He.meth_ok (c.d.fact 55 (f := .meth "Link" "__and__") rfl)
  have x_56 : Meth K (He.ga K "Link") "__invert__" (He.ma K (He.ga K "Link") "__invert__") := He.meth_ok (c.d.fact 56 (f := .meth "Link" "__invert__") rfl)
  have x_57 : Meth K (He.ga K "Link") "__le__" (He.ma K (He.ga K "Link") "__le__") := He.meth_ok (c.d.fact 57 (f := .meth "Link" "__le__") rfl)
  have x_58 : NoAttr K (He.ga K "Link") "own_rides" := He.noat_ok (c.d.fact 58 (f := .noat "Link" "own_rides") rfl)
  have x_59 : ∃ t, mg "FIRST" = some (.str "first" t) := He.str_ok X G (c.d.fact 59 (f := .str "FIRST" "first") rfl)
  have x_60 : ∃ t, mg "LAST" = some (.str "last" t) := He.str_ok X G (c.d.fact 60 (f := .str "LAST" "last") rfl)
  have x_61 : ∃ t, mg "MOST_RIDES" = some (.int 60 t) := He.int_ok X G (c.d.fact 61 (f := .int "MOST_RIDES" 60) rfl)
  have x_62 : PySem.W.exmOne K (.ref (He.ga K "NoRides")) (.ref (He.ga K "OrderError")) = some true := He.exm_ok (c.d.fact 62 (f := .exm "NoRides" "OrderError" true) rfl)
  have x_63 : PySem.W.exmOne K (.ref (He.ga K "NoMoment")) (.ref (He.ga K "OrderError")) = some true := He.exm_ok (c.d.fact 63 (f := .exm "NoMoment" "OrderError" true) rfl)
  have x_64 : InsF K (He.ga K "Link") := insB_ok i_0
  have x_65 : PySem.W.selfFirst K (He.ga K "Link") = true :=  i_1
  have x_66 : PySem.W.findIn K (.ref (He.ga K "Link")) "__ne__" = some (some (.builtin "object.__ne__")) := of_decide_eq_true i_2
  have x_67 : PySem.W.subIn K (.ref (He.ga K "Link")) (.type "object") = some true := of_decide_eq_true i_3
  have x_68 : PySem.W.subIn K (.type "tuple") (.ref (He.ga K "Link")) = some false := of_decide_eq_true i_4
  have x_69 : PySem.W.kitOne K (.type "tuple") (.ref (He.ga K "Link")) = some false := of_decide_eq_true i_5
  have x_70 : ExF K (He.ga K "NoRides") := exfB_ok i_6
  have x_71 : ExF K (He.ga K "NoMoment") := exfB_ok i_7
  have x_72 : PySem.W.findIn K (.ref (He.ga K "NoRides")) "at" = some none := of_decide_eq_true i_8
  have x_73 : OexC K (He.ga K "NoRides") := oexB_ok i_9
  have x_74 : OeI K (He.ga K "OrderError") := oeiB_ok i_10
  have x_75 : PySem.W.kitOne K (.ref (He.ga K "Link")) (.type "str") = some false := of_decide_eq_true i_11
  have x_76 : PySem.W.kitOne K (.ref (He.ga K "Link")) (.type "tuple") = some false := of_decide_eq_true i_12
  have x_77 : PySem.W.kitOne K (.ref (He.ga K "Link")) (.type "list") = some false := of_decide_eq_true i_13
  have x_78 : PySem.W.kitOne K (.ref (He.ga K "Link")) (.type "int") = some false := of_decide_eq_true i_14
  have x_79 : PySem.W.kitOne K (.ref (He.ga K "Link")) (.type "bool") = some false := of_decide_eq_true i_15
  have x_80 : PropOf K (He.ga K "Link") "rides" (propAt K (He.ga K "Link") "rides") (propGet K (He.ga K "Link") "rides") := propB_ok i_16
  have T : Txt K mg := ⟨x_0, x_1, x_2, x_3, x_4, x_5, x_6, x_7, x_8, x_9, x_10, x_11, x_12, x_13, x_14, x_15, x_16, x_17, x_18, x_19, x_20, x_21, x_22, x_23, x_24, x_25, x_26, x_27, x_28, x_29, x_30, x_31, x_32, x_33, x_34, x_35, x_36, x_37, x_38, x_39, x_40, x_41, x_42, x_43, x_44, x_45, x_46, x_47, x_48, x_49, x_50, x_51, x_52, x_53, x_54, x_55, x_56, x_57, x_58, x_59, x_60, x_61, x_62, x_63, x_64, x_65, x_66, x_67, x_68, x_69, x_70, x_71, x_72, x_73, x_74, x_75, x_76, x_77, x_78, x_79, x_80⟩
  have F_Link_rides : FnAt K "rides" "Link.rides" s_Link_rides (propGet K (He.ga K "Link") "rides") := c.get 0 (d := (("Link", "rides"), d_Link_rides)) rfl
  have F_l_next : FnAt K "_law_next" "_law_next" s_l_next (He.ga K "_law_next") := c.d.def_ 0 (d := d_l_next) rfl
  have F_l_begun : FnAt K "_law_begun" "_law_begun" s_l_begun (He.ga K "_law_begun") := c.d.def_ 1 (d := d_l_begun) rfl
  have F_is_number : FnAt K "is_number" "is_number" s_is_number (He.ga K "is_number") := c.d.def_ 2 (d := d_is_number) rfl
  have F_is_moment : FnAt K "is_moment" "is_moment" s_is_moment (He.ga K "is_moment") := c.d.def_ 3 (d := d_is_moment) rfl
  have F_need_moment : FnAt K "need_moment" "need_moment" s_need_moment (He.ga K "need_moment") := c.d.def_ 4 (d := d_need_moment) rfl
  have F_is_ride : FnAt K "is_ride" "is_ride" s_is_ride (He.ga K "is_ride") := c.d.def_ 5 (d := d_is_ride) rfl
  have F_ended : FnAt K "ended" "ended" s_ended (He.ga K "ended") := c.d.def_ 6 (d := d_ended) rfl
  have F_begun : FnAt K "begun" "begun" s_begun (He.ga K "begun") := c.d.def_ 7 (d := d_begun) rfl
  have F_needed : FnAt K "needed" "needed" s_needed (He.ga K "needed") := c.d.def_ 8 (d := d_needed) rfl
  have F_NoRides__init : FnAt K "__init__" "NoRides.__init__" s_NoRides__init (He.ma K (He.ga K "NoRides") "__init__") := c.d.def_ 9 (d := d_NoRides__init) rfl
  have F_Link_end : FnAt K "end" "Link.end" s_Link_end (He.ma K (He.ga K "Link") "end") := c.d.def_ 10 (d := d_Link_end) rfl
  have F_Link_begin : FnAt K "begin" "Link.begin" s_Link_begin (He.ma K (He.ga K "Link") "begin") := c.d.def_ 11 (d := d_Link_begin) rfl
  have F_Link__init : FnAt K "__init__" "Link.__init__" s_Link__init (He.ma K (He.ga K "Link") "__init__") := c.d.def_ 12 (d := d_Link__init) rfl
  have F_l_pick : FnAt K "_law_pick" "_law_pick" s_l_pick (He.ga K "_law_pick") := c.d.def_ 13 (d := d_l_pick) rfl
  have F_l_rides : FnAt K "_law_rides" "_law_rides" s_l_rides (He.ga K "_law_rides") := c.d.def_ 14 (d := d_l_rides) rfl
  have F_l_moment : FnAt K "_law_moment" "_law_moment" s_l_moment (He.ga K "_law_moment") := c.d.def_ 15 (d := d_l_moment) rfl
  have F_l_shuffled : FnAt K "_law_shuffled" "_law_shuffled" s_l_shuffled (He.ga K "_law_shuffled") := c.d.def_ 16 (d := d_l_shuffled) rfl
  have F_l_end : FnAt K "_law_end" "_law_end" s_l_end (He.ga K "_law_end") := c.d.def_ 17 (d := d_l_end) rfl
  have F_l_begin : FnAt K "_law_begin" "_law_begin" s_l_begin (He.ga K "_law_begin") := c.d.def_ 18 (d := d_l_begin) rfl
  have F_l_shift : FnAt K "_law_shift" "_law_shift" s_l_shift (He.ga K "_law_shift") := c.d.def_ 19 (d := d_l_shift) rfl
  have F_l_put_off : FnAt K "_law_put_off" "_law_put_off" s_l_put_off (He.ga K "_law_put_off") := c.d.def_ 20 (d := d_l_put_off) rfl
  have F_l_rides_off : FnAt K "_law_rides_off" "_law_rides_off" s_l_rides_off (He.ga K "_law_rides_off") := c.d.def_ 21 (d := d_l_rides_off) rfl
  have F_l_needed : FnAt K "_law_needed" "_law_needed" s_l_needed (He.ga K "_law_needed") := c.d.def_ 22 (d := d_l_needed) rfl
  have F_Link__eq : FnAt K "__eq__" "Link.__eq__" s_Link__eq (He.ma K (He.ga K "Link") "__eq__") := c.d.def_ 23 (d := d_Link__eq) rfl
  have F_l_right : FnAt K "_law_right" "_law_right" s_l_right (He.ga K "_law_right") := c.d.def_ 24 (d := d_l_right) rfl
  have F_l_told : FnAt K "_law_told" "_law_told" s_l_told (He.ga K "_law_told") := c.d.def_ 26 (d := d_l_told) rfl
  obtain ⟨fd, F⟩ := c.d.def_ 25 (d := d_law) rfl
  have e := hfa.symm.trans T.g_law
  cases e
  have b := FunD.bindsA (ps := ["_law_script"]) F fun _ _ _ _ _ _ us hl => match us, hl with | [_], _ => rfl
  refine ⟨fd, fun s v => b s [v] rfl, fun base _ _ TBs => ?_⟩
  have TB : LamX.TabB base mg (He.codeOf K ("law", none)) (He.tabOf K (He.codeOf K ("law", none))) := TBs _ (List.mem_map_of_mem (f := He.cT K) (List.mem_cons_self ..))
  have O_l_next := ok_l_next (P := P) (w := w) (base := base) T F_l_next 
  have O_l_begun := ok_l_begun (P := P) (w := w) (base := base) T F_l_begun 
  have O_is_number := ok_is_number (P := P) (w := w) (base := base) T F_is_number 
  have O_is_moment := ok_is_moment (P := P) (w := w) (base := base) T F_is_moment O_is_number
  have O_need_moment := ok_need_moment (P := P) (w := w) (base := base) T F_need_moment O_is_moment
  have OB_need_moment := okb_need_moment (P := P) (w := w) (base := base) T F_need_moment O_is_moment
  have OX_need_moment := (O_need_moment.toX (CX' := L2.CX P w)).or OB_need_moment
  have O_is_ride := ok_is_ride (P := P) (w := w) (base := base) T F_is_ride O_is_number
  have O_ended := ok_ended (P := P) (w := w) (base := base) T F_ended 
  have O_begun := ok_begun (P := P) (w := w) (base := base) T F_begun 
  have O_needed := ok_needed (P := P) (w := w) (base := base) T F_needed 
  have O_NoRides__init := ok_NoRides__init (P := P) (w := w) (base := base) T F_NoRides__init 
  have O_Link_rides := ok_Link_rides (P := P) (w := w) (base := base) T F_Link_rides 
  have O_Link_end := ok_Link_end (P := P) (w := w) (base := base) T F_Link_end 
  have O_Link_begin := ok_Link_begin (P := P) (w := w) (base := base) T F_Link_begin 
  have OB_Link_end := okb_Link_end (P := P) (w := w) (base := base) T F_Link_end OX_need_moment O_ended
  have OX_Link_end := (O_Link_end.toX (CX' := L2.CX P w)).or OB_Link_end
  have OB_Link_begin := okb_Link_begin (P := P) (w := w) (base := base) T F_Link_begin OX_need_moment O_begun
  have OX_Link_begin := (O_Link_begin.toX (CX' := L2.CX P w)).or OB_Link_begin
  have O_Link__init := ok_Link__init (P := P) (w := w) (base := base) T F_Link__init 
  have OB_Link__init := okb_Link__init (P := P) (w := w) (base := base) T F_Link__init O_is_ride O_needed O_NoRides__init
  have OX_Link__init := (O_Link__init.toX (CX' := L2.CX P w)).or OB_Link__init
  have O_l_pick := ok_l_pick (P := P) (w := w) (base := base) T F_l_pick O_l_next
  have O_l_rides := ok_l_rides (P := P) (w := w) (base := base) T F_l_rides O_l_next
  have O_l_moment := ok_l_moment (P := P) (w := w) (base := base) T F_l_moment O_l_next O_l_pick
  have O_l_shuffled := ok_l_shuffled (P := P) (w := w) (base := base) T F_l_shuffled O_l_next
  have O_l_end := ok_l_end (P := P) (w := w) (base := base) T F_l_end 
  have O_l_begin := ok_l_begin (P := P) (w := w) (base := base) T F_l_begin 
  have O_l_shift := ok_l_shift (P := P) (w := w) (base := base) T F_l_shift O_l_pick
  have O_l_put_off := ok_l_put_off (P := P) (w := w) (base := base) T F_l_put_off 
  have O_l_rides_off := ok_l_rides_off (P := P) (w := w) (base := base) T F_l_rides_off 
  have O_l_needed := ok_l_needed (P := P) (w := w) (base := base) T F_l_needed 
  have O_Link__eq := ok_Link__eq (P := P) (w := w) (base := base) T F_Link__eq 
  have O_l_right := ok_l_right (P := P) (w := w) (base := base) T F_l_right O_l_moment O_l_put_off O_l_end O_l_begin O_l_shuffled O_l_needed OX_Link__init O_Link_rides OX_Link_end OX_Link_begin O_Link__eq
  exact ok_law T F O_l_begun O_l_shift O_l_rides O_l_rides_off O_l_right O_l_next O_l_pick O_l_needed OX_Link__init O_Link__eq OX_Link_end OX_Link_begin O_Link_rides TB F_l_told
end Nw
open PySem PySem.W PySem.Calls PyProof.Rows
theorem PySem.Challenge.cw_newsinorder_k02_ends_and_begins_holds : PySem.Challenge.rw_newsinorder_k02_ends_and_begins.Holds := by
  w_on; o_law
  refine HandSHeadRun.head_any (r := OpenLaw.row PySem.Challenge.rw_newsinorder_k02_ends_and_begins) (q := view (OpenLaw.row PySem.Challenge.rw_newsinorder_k02_ends_and_begins).prog [35]) (H := Nw.hk) (ob := Nw.ob) (M := 20000) (loose := Nw.loose) (d := HandSHeadRun.topDef (OpenLaw.row PySem.Challenge.rw_newsinorder_k02_ends_and_begins).prog 35) (kwd := []) Nw.ob_eq
    (by kernel_rfl) (fun s => by kernel_rfl) Nw.run (by kernel_rfl) (by kernel_rfl) (by kernel_rfl) (by rfl) (by first | assumption | decide +kernel) (by decide +kernel) ⟨rfl, rfl, rfl, rfl, rfl, by decide +kernel⟩ ?hw ?hc
  case hw => w_witness2
  case hc =>
    refine Nw.walk_ofGT (l := PySem.Challenge.rw_newsinorder_k02_ends_and_begins) (n := 63) (k := 12) (x := "_law_script") rfl (by decide) (by kernel_rfl) ⟨rfl, by decide, by decide⟩ ?F
    intro w mg fa h Y G hmg0
    obtain ⟨K, KX, c⟩ := Y
    have hmg : mg ("law" : PySem.Str) = some (.ref fa) := by
      have e : (HandSHeadRun.topDef (OpenLaw.row PySem.Challenge.rw_newsinorder_k02_ends_and_begins).prog 35).name = ("law" : PySem.Str) := by kernel_rfl
      rw [← e]
      exact hmg0
    obtain ⟨fd, hb, hF⟩ := Nw.facts (P := (PySem.Challenge.rw_newsinorder_k02_ends_and_begins).prog) (w := w) KX G hmg c
    exact ⟨K, fd, Nw.tf.map (He.cT K), Nw.sp_law K, KX, fun p hp => by
        obtain ⟨q, hq, rfl⟩ := List.mem_map.mp hp
        exact c.empty q hq, fun p hp => by
        obtain ⟨q, hq, rfl⟩ := List.mem_map.mp hp
        exact c.out q hq, fun p hp => by
        obtain ⟨q, hq, rfl⟩ := List.mem_map.mp hp
        exact c.hd q hq, hb, fun H a ns hl hT hS => ⟨Nw.noT H, a, ns, rfl, Nw.noT_sub, Nw.noT_tb, fun p hp => by
          rw [List.mem_singleton] at hp
          subst hp
          exact LamX.TabS.nil (hT (He.cT K ("law", none)) (List.mem_map_of_mem (f := He.cT K) (List.mem_cons_self ..))), Nw.noT_seq hS, hl, fun _ => rfl⟩, hF⟩