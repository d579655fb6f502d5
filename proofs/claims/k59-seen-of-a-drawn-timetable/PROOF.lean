import PyProof.Rows.All
import Wide.All
import OpenK.AllK
import Wide.FinOn
import HandS.ForMost
import HandS.ForExc
import HandS.Defaults
import HandS.Style
import HandS.IsInst
import HandS.HeadHook1
import HandS.HeadHook2
import HandS.Property
import HandS.Wide
import HandS.Walk
import HandS.SortInts
import HandS.DictComp
import PyProof.ListStr
import HandS.Conv
import PyProof.EnumMake
import PyProof.Draws
import KE.GoesMore
import PyProof.InstEq
import HandS.Exc
import HandS.ExcInit
import HandS.ExcOwn
import HandS.ExcValue
import HandS.ExcField
import HandS.TryOnly
import HandS.WordsExc
import HandS.RaiseMore
import KE.KExcIs
import HandS.HeadHook3
import HandS.HeadHook4
import HandS.Lambda
import HandS.EndTab
import HandS.HeadWalk
import HandS.More
import PyProof.ReprRoads
import HandS.HeadEnd
import PyProof.StrLawsRepr
import PyProof.Rows.RegStrFacts
import HandS.DeepEq
import HandS.Flow
import PyProof.NeKinds
import PyProof.LongRange
import PyProof.ListRange
import PyProof.JoinWalk
import PyProof.DictWalks
import PyProof.CollectIter
import HandS.MapObj
import PySem.Challenge.RW_newsinorder_k59_whole_seen_of_a_drawn_ti
import KE.KStateDown
import Lean
import HandS.Head0
import HandS.Head1
import HandS.Head2
set_option Elab.async false
set_option linter.all false
set_option maxRecDepth 100000
set_option maxHeartbeats 0
namespace Nw
open PySem PySem.Spec PyProof.Rows L2

/-! ### heaps: what a part of a run does to the view I (what stands for good) and the heap H -/
structure Grow (T : Addr → Prop) (I H I' H' : Hp) : Prop where
  view : Same I I'
  sub : Same I' H'
  keep : ∀ b o, ¬ T b → H b = some o → H' b = some o
  live : ∀ b, H b ≠ none → H' b ≠ none
  fresh : ∀ b, I b = none → H b ≠ none → I' b = none
  tbl : ∀ b ps, I' b = some (.tbl ps) → I b = some (.tbl ps)
/-- no table of code objects -/
abbrev NTb (o : HO) : Prop := ∀ ps, o ≠ .tbl ps
abbrev No : Addr → Prop := fun _ => False
variable {T : Addr → Prop} {I H I' H' I0 H0 I1 H1 I2 H2 J : Hp} {p l m : Addr} {o o' : HO}
theorem Same.up (h : H p = none) : Same H (upd H p o) := fun b u e => by
  rw [upd_ne (ne_of_none e h)]
  exact e
theorem Grow.refl (h : Same I H) : Grow T I H I H := ⟨Same.refl I, h, fun _ _ _ e => e, fun _ e => e, fun _ e _ => e, fun _ _ e => e⟩
theorem Grow.trans (a : Grow T I H I1 H1) (b : Grow T I1 H1 I2 H2) : Grow T I H I2 H2 :=
  ⟨a.view.trans b.view, b.sub, fun x o n e => b.keep x o n (a.keep x o n e), fun x e => b.live x (a.live x e), fun x e n => b.fresh x (a.fresh x e n) (a.live x n), fun x ps e => a.tbl x ps (b.tbl x ps e)⟩
theorem Grow.to {T' : Addr → Prop} (h : ∀ x, T x → T' x) (g : Grow T I H I' H') : Grow T' I H I' H' :=
  ⟨g.view, g.sub, fun x o n e => g.keep x o (fun t => n (h x t)) e, g.live, g.fresh, g.tbl⟩
theorem Grow.no (g : Grow No I H I' H') : Grow T I H I' H' := g.to fun _ z => z.elim
theorem Grow.same (g : Grow No I H I' H') : Same H H' := fun b o e => g.keep b o (fun z => z) e
theorem upd_tbl {b : Addr} {ps : Array Value} (n : NTb o) (e : upd H p o b = some (.tbl ps)) : H b = some (.tbl ps) := by
  unfold upd at e
  split at e
  · exact absurd (Option.some.inj e) (n ps)
  · exact e
theorem upd_live {b : Addr} (h : H b ≠ none) : upd H p o b ≠ none := by
  unfold upd
  split
  · exact fun z => nomatch z
  · exact h
/-- a new object, for good -/
theorem Grow.new (h : Same I H) (hp : H p = none) (nt : NTb o := by intro _ z; cases z) : Grow T I H (upd I p o) (upd H p o) where
  view := Same.up (h.free hp)
  sub := fun b u e => by
    by_cases q : b = p
    · subst q; rw [upd_same] at e ⊢; exact e
    · rw [upd_ne q] at e ⊢; exact h b u e
  keep := fun b u _ e => Same.up hp b u e
  live := fun b e => upd_live e
  fresh := fun b e n => by
    rw [upd_ne (fun z => n (by rw [z]; exact hp))]
    exact e
  tbl := fun b ps e => upd_tbl nt e
/-- a new object of one's own, that may change yet -/
theorem Grow.mine (h : Same I H) (hp : H p = none) : Grow T I H I (upd H p o) where
  view := Same.refl I
  sub := h.trans (Same.up hp)
  keep := fun b u _ e => Same.up hp b u e
  live := fun b e => upd_live e
  fresh := fun b e _ => e
  tbl := fun _ _ e => e
/-- an object of one's own -/
structure Own (T : Addr → Prop) (H0 : Hp) (l : Addr) (o : HO) (I H : Hp) : Prop where
  nt : ¬ T l
  n0 : H0 l = none
  ni : I l = none
  at_ : H l = some o
theorem Own.new (hs : Same I H) (h : Same H0 H ∨ (∀ b, H0 b ≠ none → H b ≠ none)) (ht : ∀ b, T b → H b ≠ none) (hp : H p = none) : Own T H0 p o I (upd H p o) := by
  refine ⟨fun t => ht p t hp, ?_, hs.free hp, upd_same⟩
  cases q : H0 p with
  | none => rfl
  | some u =>
    rcases h with h | h
    · have z := h p u q
      rw [hp] at z; cases z
    · exact absurd hp (h p (by rw [q]; exact fun z => nomatch z))
theorem Own.grow (w : Own T H0 l o I H) (g : Grow T I H I' H') : Own T H0 l o I' H' :=
  ⟨w.nt, w.n0, g.fresh l w.ni (by rw [w.at_]; exact fun z => nomatch z), g.keep l o w.nt w.at_⟩
theorem Own.put (w : Own T H0 l o I H) : Own T H0 l o' I (upd H l o') := ⟨w.nt, w.n0, w.ni, upd_same⟩
theorem Own.other (w : Own T H0 l o I H) (ne : l ≠ m) : Own T H0 l o I (upd H m o') := ⟨w.nt, w.n0, w.ni, by rw [upd_ne ne]; exact w.at_⟩
theorem Grow.put (g : Grow T I0 H0 I H) (w : Own T H0 l o I H) : Grow T I0 H0 I (upd H l o') where
  view := g.view
  sub := fun b u e => by
    rw [upd_ne (ne_of_none e w.ni)]
    exact g.sub b u e
  keep := fun b u n e => by
    rw [upd_ne (ne_of_none e w.n0)]
    exact g.keep b u n e
  live := fun b e => upd_live (g.live b e)
  fresh := g.fresh
  tbl := g.tbl
/-- it is given out: it will not change any more -/
theorem Grow.give (g : Grow T I0 H0 I H) (w : Own T H0 l o I H) (nt : NTb o := by intro _ z; cases z) : Grow T I0 H0 (upd I l o) H where
  view := g.view.trans (Same.up w.ni)
  sub := fun b u e => by
    by_cases q : b = l
    · subst q; rw [upd_same] at e; rw [w.at_]; exact e
    · rw [upd_ne q] at e; exact g.sub b u e
  keep := g.keep
  live := g.live
  fresh := fun b e n => by
    rw [upd_ne (fun z => n (by rw [z]; exact w.n0))]
    exact g.fresh b e n
  tbl := fun b ps e => g.tbl b ps (upd_tbl nt e)

/-- what was changed is younger than where one looks from -/
theorem Grow.drop (g0 : Grow T I0 H0 I H) {T' : Addr → Prop} (g : Grow T' I H I' H') (hT : ∀ b, T' b → T b ∨ H0 b = none) : Grow T I0 H0 I' H' where
  view := g0.view.trans g.view
  sub := g.sub
  keep := fun b u n e => g.keep b u (fun t => by
    rcases hT b t with z | z
    · exact n z
    · rw [z] at e; cases e) (g0.keep b u n e)
  live := fun b e => g.live b (g0.live b e)
  fresh := fun b e n => g.fresh b (g0.fresh b e n) (g0.live b n)
  tbl := fun b ps e => g0.tbl b ps (g.tbl b ps e)
/-- x is given out, with what it holds now -/
theorem Grow.give' (g : Grow T I0 H0 I H) (n0 : H0 l = none) (ni : I l = none) (h : H l = some o) (nt : NTb o := by intro _ z; cases z) : Grow T I0 H0 (upd I l o) H where
  view := g.view.trans (Same.up ni)
  sub := fun b u e => by
    by_cases q : b = l
    · subst q; rw [upd_same] at e; rw [h]; exact e
    · rw [upd_ne q] at e; exact g.sub b u e
  keep := g.keep
  live := g.live
  fresh := fun b e n => by
    rw [upd_ne (fun z => n (by rw [z]; exact n0))]
    exact g.fresh b e n
  tbl := fun b ps e => g.tbl b ps (upd_tbl nt e)

/-- an object that T names is changed -/
theorem Grow.chg (g : Grow T I0 H0 I H) (t : T p) (ni : I p = none) : Grow T I0 H0 I (upd H p o') where
  view := g.view
  sub := fun b u e => by
    rw [upd_ne (ne_of_none e ni)]
    exact g.sub b u e
  keep := fun b u n e => by
    rw [upd_ne (fun z => n (by rw [z]; exact t))]
    exact g.keep b u n e
  live := fun b e => upd_live (g.live b e)
  fresh := g.fresh
  tbl := g.tbl

/-! ### data and what stands for it -/
class Rep (α : Type) where
  is : Hp → V → α → Prop
  mono : ∀ {H H' : Hp} {v : V} {x : α}, Same H H' → is H v x → is H' v x
instance : Rep V := ⟨fun _ v x => v = x, fun _ h => h⟩
instance : Rep Int := ⟨fun _ v x => v = .int x, fun _ h => h⟩
instance : Rep Bool := ⟨fun _ v x => v = .bl x, fun _ h => h⟩
instance : Rep Str := ⟨fun _ v x => v = .str x, fun _ h => h⟩
instance : Rep Unit := ⟨fun _ v _ => v = .non, fun _ h => h⟩
theorem Paired.mono' {α β : Type} {F G : α → β → Prop} (h : ∀ a b, F a b → G a b) : ∀ {xs : List α} {ys : List β}, Paired F xs ys → Paired G xs ys
  | _, _, .nil => .nil
  | _, _, .cons a t => .cons (h _ _ a) (Paired.mono' h t)
/-- a list -/
def isL {α : Type} [Rep α] (I : Hp) (v : V) (xs : List α) : Prop := ∃ a vs, v = .ref a ∧ I a = some (.lst vs) ∧ Paired (Rep.is I) vs xs
/-- a tuple of any length, of things of one kind -/
structure Tup (α : Type) where
  l : List α
def isU {α : Type} [Rep α] (I : Hp) (v : V) (xs : List α) : Prop := ∃ a vs, v = .ref a ∧ I a = some (.tup vs) ∧ Paired (Rep.is I) vs xs
instance {α : Type} [Rep α] : Rep (List α) := ⟨isL, fun e ⟨a, vs, h1, h2, h3⟩ => ⟨a, vs, h1, e _ _ h2, Paired.mono' (fun _ _ z => Rep.mono e z) h3⟩⟩
instance {α : Type} [Rep α] : Rep (Tup α) := ⟨fun I v x => isU I v x.l, fun e ⟨a, vs, h1, h2, h3⟩ => ⟨a, vs, h1, e _ _ h2, Paired.mono' (fun _ _ z => Rep.mono e z) h3⟩⟩
/-- a pair -/
def isP {α β : Type} [Rep α] [Rep β] (I : Hp) (v : V) (x : α × β) : Prop := ∃ a v1 v2, v = .ref a ∧ I a = some (.tup [v1, v2]) ∧ Rep.is I v1 x.1 ∧ Rep.is I v2 x.2
instance {α β : Type} [Rep α] [Rep β] : Rep (α × β) := ⟨isP, fun e ⟨a, v1, v2, h1, h2, h3, h4⟩ => ⟨a, v1, v2, h1, e _ _ h2, Rep.mono e h3, Rep.mono e h4⟩⟩

/-! ### what an expression gives -/
def EvR {α : Type} [Rep α] (te : TE) (σ : L2.St) (I : Hp) (x : α) : Prop := ∀ H, Same I H → ∀ Q : VK, (∀ v I' H', Grow No I H I' H' → Rep.is I' v x → Q v H') → te σ H Q
def EvT (tt : TT) (σ : L2.St) (I : Hp) (b : Bool) : Prop := ∀ H, Same I H → ∀ Q : Bool → Hp → Prop, (∀ I' H', Grow No I H I' H' → Q b H') → tt σ H Q
def un (J I : Hp) : Hp := fun b => match J b with
  | some o => some o
  | none => I b
theorem un_l : Same J (un J I) := fun b o e => by
  unfold un
  rw [e]
theorem un_none {b : Addr} (h : J b = none) : un J I b = I b := by
  unfold un
  rw [h]
theorem Grow.join {e : Same I J} {s : Same J H} (g : Grow No I H I' H') : Grow No J H (un J I') H' ∧ Same I' (un J I') := by
  have k : Same J H' := fun b o q => g.keep b o (fun z => z) (s b o q)
  refine ⟨⟨un_l, fun b o q => ?_, g.keep, g.live, fun b n q => ?_, fun b ps q => ?_⟩, fun b o q => ?_⟩
  · cases h : J b with
    | none => rw [un_none h] at q; exact g.sub b o q
    | some u =>
      have z : un J I' b = some u := un_l b u h
      rw [z] at q; cases q
      exact k b o h
  · rw [un_none n]
    exact g.fresh b (e.free n) q
  · cases h : J b with
    | none =>
      rw [un_none h] at q
      have z := e b _ (g.tbl b ps q)
      rw [h] at z; cases z
    | some u =>
      have z : un J I' b = some u := un_l b u h
      rw [z] at q
      exact q
  · cases h : J b with
    | none => rw [un_none h]; exact q
    | some u =>
      have z : un J I' b = some u := un_l b u h
      have h1 := k b u h
      rw [g.sub b o q] at h1
      rw [z, h1]
section
variable {α β γ : Type} [Rep α] [Rep β] [Rep γ] {te ta tb tc : TE} {tt t u : TT} {σ : L2.St} {x : α} {y : β} {z : γ} {v w : V} {K : PySem.W.Frag}
theorem EvR.mono (h : EvR te σ I x) (e : Same I J) : EvR te σ J x := fun H s Q k => h H (e.trans s) Q fun v I' H' g r =>
  let ⟨g', e'⟩ := g.join (e := e) (s := s)
  k v _ H' g' (Rep.mono e' r)
theorem EvT.mono {b : Bool} (h : EvT tt σ I b) (e : Same I J) : EvT tt σ J b := fun H s Q k => h H (e.trans s) Q fun I' H' g =>
  let ⟨g', _⟩ := g.join (e := e) (s := s)
  k _ H' g'
/-- the rest of an evaluation: from the view and the heap as they stand -/
theorem EvR.go (h : EvR te σ I x) (s : Same I H) {Q : VK} (k : ∀ v I' H', Grow No I H I' H' → Rep.is I' v x → Q v H') : te σ H Q := h H s Q k
theorem evr_var {i : Nat} (h : σ[i]? = some (some v)) (r : Rep.is I v x) : EvR (tVar i) σ I x := fun H s Q k => ⟨v, h, k v I H (Grow.refl s) r⟩
theorem evr_c (r : Rep.is I v x) : EvR (tC v) σ I x := fun H s Q k => k v I H (Grow.refl s) r
theorem evr_int {i : Int} : EvR (tC (.int i)) σ I i := evr_c rfl
theorem evr_str {s : Str} : EvR (tC (.str s)) σ I s := evr_c rfl
theorem evr_bl {b : Bool} : EvR (tC (.bl b)) σ I b := evr_c rfl
theorem evr_non : EvR (tC .non) σ I () := evr_c rfl
/-- what an operator makes of two values -/
def RvR (r : R2) (I : Hp) (v w : V) (z : γ) : Prop := ∀ H, Same I H → ∀ Q : VK, (∀ u I' H', Grow No I H I' H' → Rep.is I' u z → Q u H') → r v w H Q
theorem evr_op {r : R2} (ha : EvR ta σ I x) (hb : EvR tb σ I y) (hr : ∀ J v w, Same I J → Rep.is J v x → Rep.is J w y → RvR r J v w z) : EvR (tOp r ta tb) σ I z := fun H s Q k =>
  ha H s _ fun v I1 H1 g1 r1 => (hb.mono g1.view) H1 g1.sub _ fun w I2 H2 g2 r2 => hr I2 v w (g1.view.trans g2.view) (Rep.mono g2.view r1) r2 H2 g2.sub Q fun u I3 H3 g3 r3 => k u I3 H3 ((g1.trans g2).trans g3) r3
theorem evr_opI {r : R2} {i j : Int} {z : γ} (ha : EvR ta σ I i) (hb : EvR tb σ I j) (hr : ∀ J, RvR r J (.int i) (.int j) z) : EvR (tOp r ta tb) σ I z :=
  evr_op ha hb fun J v w _ h1 h2 => by
    cases h1; cases h2
    exact hr J
theorem rvr_I0 {g : Int → Int → V} {i j : Int} (h : ∀ J, Rep.is J (g i j) z) : RvR (rI0 g) I (.int i) (.int j) z := fun H s Q k => ⟨i, j, rfl, rfl, k _ I H (Grow.refl s) (h I)⟩
theorem rvr_I {C : Int → Int → Prop} {g : Int → Int → V} {i j : Int} (hc : C i j) (h : ∀ J, Rep.is J (g i j) z) : RvR (rI C g) I (.int i) (.int j) z := fun H s Q k => ⟨i, j, rfl, rfl, hc, k _ I H (Grow.refl s) (h I)⟩
end
end Nw

namespace Nw
open PySem PySem.Spec PyProof.Rows L2

/-! ### a def and its promise, by the def's address -/
structure Ok (P : Program) (w : World) (K : PySem.W.Frag) (mg : Str → Option Value) (base : Heap) (CX : CXT) (k : Nat) (f : Addr) (ps : List Str) (sp : Sp) : Prop where
  ok : ∃ fd, FnOk P w K mg base CX k f fd ps sp ∧ Binds K fd ps [] ∧ PySem.W.keepIn K (.ref f) = true ∧ ∃ oc od osl, K.lookup f = some ⟨oc, od, .func fd, osl⟩
abbrev FnAt (K : PySem.W.Frag) (x qual : Str) (st : Stmt) (f : Addr) : Prop := ∃ fd, FunD K x qual (defArgs st) (defBody st) (defScope st) [] [] f fd
section
variable {P : Program} {w : World} {K : PySem.W.Frag} {mg : Str → Option Value} {base : Heap} {X : Cx} {CX : CXT} {k : Nat} {f C p g : Addr} {ps : List Str} {sp : Sp} {E : XK} {x m : Str} {pos ppos apos : Pos} {e o : Expr} {es : List Expr} {ta : TE} {t : TA}
theorem Ok.imp {sp' : Sp} (G : Ok P w K mg base CX k f ps sp) (h : ∀ vs H Q E, sp' vs H Q E → sp vs H Q E) : Ok P w K mg base CX k f ps sp' := by
  obtain ⟨fd, F, b, kp⟩ := G.ok
  exact ⟨fd, F.imp h, b, kp⟩
theorem Ok.up {j : Nat} (G : Ok P w K mg base CX k f ps sp) (h : k ≤ j) : Ok P w K mg base CX j f ps sp := by
  obtain ⟨fd, F, b, kp⟩ := G.ok
  exact ⟨fd, F.mono h, b, kp⟩
/-- a def that lets no exception out keeps its promise -/
theorem ok_of {qual : Str} {st : Stmt} {N : List Str} (F : FnAt K x qual st f) (S : FnScope N ps (defScope st))
    (hb : ∀ (kV doc pm : Value) (an : Option Addr) (cdv ct : Value) (us : List Value), us.length = ps.length → bindArgs (PySem.W.fnOf x qual (defArgs st) (defBody st) (defScope st) .none kV doc pm an cdv ct) ⟨us, []⟩ = pure (ps.zip us))
    (len : ∀ vs H Q E, sp vs H Q E → vs.length = ps.length)
    (hbody : ∀ (cdv : Value) (A : Around) (outer : List Env) (s : Shared) (H : Hp) (vs : List V) (Q : VK) (E : XK), Room k (A.deeper (envOfC qual (defScope st) s.heap.objs.size f cdv)) → sp vs H Q E →
      ∃ t, PSs (cxOf CX0 P w K mg base N qual (defScope st) f cdv A outer s H E).nox (defBody st) t ∧ t { nx := fun _ H' => Q .non H', rt := Q } (start N vs) H) : Ok P w K mg base CX0 (k + 1) f ps sp := by
  obtain ⟨fd, F⟩ := F
  refine ⟨fd, F.ok S len fun cdv A outer s H vs Q E hr h => ?_, F.bindsN hb, F.kp, let ⟨oc, od, _, _, _, _, _, _, _, osl, _, lk, _⟩ := F.ex; ⟨oc, od, osl, lk⟩⟩
  obtain ⟨t, h1, h2⟩ := hbody cdv A outer s H vs Q E hr h
  exact ⟨t, h1.nox, h2⟩
/-- a def that lets none out, where some may be let out -/
theorem Ok.toX {CX' : CXT} (G : Ok P w K mg base CX0 k f ps sp) : Ok P w K mg base CX' k f ps sp := by
  obtain ⟨fd, F, r⟩ := G.ok
  refine ⟨fd, ⟨F.len, fun A outer s H args us vs Q E hr e0 hb rv h => codeAny_mono (F.run A outer s H args us vs Q E hr e0 hb rv h) fun r s' hq => ?_⟩, r⟩
  cases r with
  | error e => exact (show False from hq).elim
  | ok fl => cases fl <;> exact hq
/-- both of two promises -/
theorem Ok.or {sp' : Sp} (G : Ok P w K mg base CX k f ps sp) (G' : Ok P w K mg base CX k f ps sp') : Ok P w K mg base CX k f ps (fun vs H Q E => sp vs H Q E ∨ sp' vs H Q E) := by
  obtain ⟨fd, F, b, kp, oc, od, osl, lk⟩ := G.ok
  obtain ⟨fd', F', _, _, oc', od', osl', lk'⟩ := G'.ok
  rw [lk] at lk'
  cases lk'
  refine ⟨fd, ⟨fun vs H Q E h => h.elim (F.len vs H Q E) (F'.len vs H Q E), fun A outer s H args us vs Q E hr e0 hb rv h => ?_⟩, b, kp, oc, od, osl, lk⟩
  rcases h with h | h
  · exact F.run A outer s H args us vs Q E hr e0 hb rv h
  · exact F'.run A outer s H args us vs Q E hr e0 hb rv h
theorem pe_callC (G : Ok X.prog X.w X.K X.mg X.base CX0 k f ps sp) (hr : Room k X.A) (hm : X.mg x = some (.ref f)) (ha : PA X (e :: es) t) (hg : Gl X x := by rfl) (hdb : (x == ("__debug__" : Str)) = false := by decide)
    (he : starEach (e :: es) X.env = (false, eval e X.env) :: starEach es X.env := by rfl) (hpl : (backTo pos (starEach es X.env)).any (·.1) = false := by rfl) : PE X (.Call (.Name x ppos) (e :: es) [] pos) (tCall sp [] E0 t) := by
  obtain ⟨fd, F, b, kp, _⟩ := G.ok
  exact pe_call F hr hg hm kp b .nil pass0 ha hdb he hpl
theorem pe_makeC (M : Mk X.K C f) (G : Ok X.prog X.w X.K X.mg X.base CX0 k f ps sp) (hr : Room (k + 1) X.A) (hm : X.mg x = some (.ref C)) (ha : PA X (e :: es) t) (hg : Gl X x := by rfl) (hdb : (x == ("__debug__" : Str)) = false := by decide)
    (he : starEach (e :: es) X.env = (false, eval e X.env) :: starEach es X.env := by rfl) (hpl : (backTo pos (starEach es X.env)).any (·.1) = false := by rfl) : PE X (.Call (.Name x ppos) (e :: es) [] pos) (tMake C sp [] E0 t) := by
  obtain ⟨fd, F, b, kp, _⟩ := G.ok
  exact pe_make M F hr hg hm b .nil pass0 ha hdb he hpl
theorem pe_gint {i : Int} (h : ∃ t, X.mg x = some (.int i t)) (hg : Gl X x := by rfl) (hd : (x == ("__debug__" : Str)) = false := by decide) : PE X (.Name x pos) (tC (.int i)) := by
  obtain ⟨t, h⟩ := h
  exact pe_glob hg h ⟨t, rfl⟩ hd
theorem pe_gstr {i : Str} (h : ∃ t, X.mg x = some (.str i t)) (hg : Gl X x := by rfl) (hd : (x == ("__debug__" : Str)) = false := by decide) : PE X (.Name x pos) (tC (.str i)) := by
  obtain ⟨t, h⟩ := h
  exact pe_glob hg h ⟨t, rfl⟩ hd
/-- a statement, then the others, by what holds between them -/
def tMid (t u : TS) : TS := fun D σ H => ∃ M : L2.St → Hp → Prop, t { D with nx := M } σ H ∧ ∀ σ1 H1, M σ1 H1 → u D σ1 H1
theorem pss_mid {st : Stmt} {sts : List Stmt} {t u : TS} (a : PS X st t) (b : PSs X sts u) : PSs X (st :: sts) (tMid t u) :=
  ⟨fun pins s σ H D I ⟨M, h1, h2⟩ => wpAny_execs_cons (wpAny_mono (a.run pins s σ H { D with nx := M } I h1) (fun f s1 q => by
    cases f with
    | next => exact let ⟨σ1, H1, I1, q1⟩ := q; b.run pins s1 σ1 H1 D I1 (h2 σ1 H1 q1)
    | ret v => exact q
    | brk => exact q
    | cont => exact q) fun _ _ z => z)⟩
/-- what isinstance leans on, of an own class -/
structure InsF (K : PySem.W.Frag) (C : Addr) : Prop where
  ha : PySem.W.findIn K (.ref C) "__class__" = some (some (.builtin "object.__class__"))
  hn : PySem.W.specialIn K (.builtin "object.__class__") "__get__" = some (some (.builtin "getset_descriptor.__get__"))
  htk : PySem.W.takesIn K (.builtin "object.__class__") = some true
  hm : PySem.W.mroIn K C (.type "object") = some true
def insB (K : PySem.W.Frag) (C : Addr) : Bool := decide (PySem.W.findIn K (.ref C) "__class__" = some (some (.builtin "object.__class__"))) && (decide (PySem.W.specialIn K (.builtin "object.__class__") "__get__" = some (some (.builtin "getset_descriptor.__get__"))) && (decide (PySem.W.takesIn K (.builtin "object.__class__") = some true) && decide (PySem.W.mroIn K C (.type "object") = some true)))
theorem insB_ok {K : PySem.W.Frag} {C : Addr} (h : insB K C = true) : InsF K C := by
  unfold insB at h
  simp only [Bool.and_eq_true, decide_eq_true_eq] at h
  exact ⟨h.1, h.2.1, h.2.2.1, h.2.2.2⟩
theorem InsF.ty {K : PySem.W.Frag} {H : Hp} {a C dx : Addr} {fs : List (Str × V)} (F : InsF K C) (c : Cls K C) (h : H a = some (.ins C dx fs)) : TyX K H (.ref a) (.ref C) := .base (.ins h c F.ha F.hn F.htk F.hm)
theorem kit_self {K : PySem.W.Frag} {C : Addr} : PySem.W.kitOne K (.ref C) (.ref C) = some true := by
  unfold PySem.W.kitOne
  rw [if_pos (by simp)]
theorem kit_refl {K : PySem.W.Frag} {t : Value} (h : (t == t) = true := by rfl) : PySem.W.kitOne K t t = some true := by
  unfold PySem.W.kitOne
  rw [if_pos h]
theorem kit_any_hd {K : PySem.W.Frag} {t : Value} {r : List Value} (h : (t == t) = true := by rfl) : PySem.W.kitAny K t (t :: r) = some true := by
  unfold PySem.W.kitAny
  rw [kit_refl h]
/-- xs == [] and xs != [], whatever stands in xs -/
def rNilE (K : PySem.W.Frag) : R2 := fun x y H Q => ∃ a b xs, x = .ref a ∧ y = .ref b ∧ SqL K H a xs ∧ SqL K H b [] ∧ Q (.bl xs.isEmpty) H
def rNilN (K : PySem.W.Frag) : R2 := fun x y H Q => ∃ a b xs, x = .ref a ∧ y = .ref b ∧ SqL K H a xs ∧ SqL K H b [] ∧ Q (.bl (!xs.isEmpty)) H
theorem op_eqNil (hu : X.A.units + 64 < cLine) : OpR X (compareOp .Eq) (rNilE X.K) := by
  intro pins s σ H x y v u Q I rx ry h
  obtain ⟨a, b, xs, rfl, rfl, ha, hb, q⟩ := h
  cases rx
  cases ry
  obtain ⟨its, r1, t1, z1⟩ := I.list ha
  obtain ⟨its2, r2, t2, z2⟩ := I.list hb
  cases r2
  have hu' : X.A.units < cLine := Nat.lt_of_le_of_lt (Nat.le_add_right _ _) hu
  cases r1 with
  | nil =>
    refine SeqAt.eq_listAt (e := fun _ => true) t1.isList t2.isList rfl hu' (fun j h1 => ?_) ⟨.bl true, H, I, rfl, q⟩
    exact absurd h1 (by simp)
  | cons p r => exact SeqAt.eq_list_lengthsAt t1.isList t2.isList (by simp) hu' ⟨.bl false, H, I, rfl, q⟩
theorem op_neNil (hu : X.A.units + 64 < cLine) : OpR X (compareOp .NotEq) (rNilN X.K) := by
  intro pins s σ H x y v u Q I rx ry h
  obtain ⟨a, b, xs, rfl, rfl, ha, hb, q⟩ := h
  cases rx
  cases ry
  obtain ⟨its, r1, t1, z1⟩ := I.list ha
  obtain ⟨its2, r2, t2, z2⟩ := I.list hb
  cases r2
  have hu' : X.A.units < cLine := Nat.lt_of_le_of_lt (Nat.le_add_right _ _) hu
  cases r1 with
  | nil =>
    refine SeqAt.RcNeAt.lists (e := fun _ => true) t1.isList t2.isList rfl hu' (fun j h1 => ?_) _ _ _ _ ⟨.bl false, H, I, rfl, q⟩
    exact absurd h1 (by simp)
  | cons p r => exact SeqAt.RcNeAt.lists_lengths t1.isList t2.isList (by simp) hu' _ _ _ _ ⟨.bl true, H, I, rfl, q⟩
end
end Nw

namespace Nw
open PySem PySem.Spec PyProof.Rows L2
/-! ### the source of draws: a dict, two lists -/
structure DA where
  d : Addr
  g : Addr
  l : Addr
def TD (D : DA) : Addr → Prop := fun b => b = D.d ∨ b = D.g ∨ b = D.l
abbrev drK (D : DA) (dig tn : Int) : List (Key × V) := [(.inr "digits", .int dig), (.inr "great", .ref D.g), (.inr "lumps", .ref D.l), (.inr "turn", .int tn)]
structure DrS (D : DA) (dig tn : Int) (gs ls : List Int) (I H : Hp) : Prop where
  sub : Same I H
  vd : I D.d = none
  vg : I D.g = none
  vl : I D.l = none
  dg : D.d ≠ D.g
  dl : D.d ≠ D.l
  gl : D.g ≠ D.l
  hd : H D.d = some (.dK (drK D dig tn))
  hg : H D.g = some (.lst (gs.map V.int))
  hl : H D.l = some (.lst (ls.map V.int))
structure Drw (D : DA) (n : Nat) (I H : Hp) : Prop where
  ex : ∃ (dig tn : Int) (gs ls : List Int), DrS D dig tn gs ls I H ∧ 0 ≤ dig ∧ 0 ≤ tn ∧ tn ≤ n ∧ (∀ g ∈ gs, 0 ≤ g) ∧ (∀ l ∈ ls, 0 ≤ l)
section
variable {D : DA} {dig tn : Int} {gs ls : List Int} {n : Nat} {T : Addr → Prop} {I H I' H' I0 H0 : Hp} {p l m : Addr} {o o' : HO}
theorem DrS.live (s : DrS D dig tn gs ls I H) : ∀ b, TD D b → H b ≠ none := fun b t => by
  rcases t with rfl | rfl | rfl
  · rw [s.hd]; exact fun z => nomatch z
  · rw [s.hg]; exact fun z => nomatch z
  · rw [s.hl]; exact fun z => nomatch z
theorem Drw.live (w : Drw D n I H) : ∀ b, TD D b → H b ≠ none := let ⟨_, _, _, _, s, _⟩ := w.ex; s.live
theorem Drw.sub (w : Drw D n I H) : Same I H := let ⟨_, _, _, _, s, _⟩ := w.ex; s.sub
theorem DrS.grow (s : DrS D dig tn gs ls I H) (g : Grow No I H I' H') : DrS D dig tn gs ls I' H' :=
  ⟨g.sub, g.fresh _ s.vd (s.live _ (.inl rfl)), g.fresh _ s.vg (s.live _ (.inr (.inl rfl))), g.fresh _ s.vl (s.live _ (.inr (.inr rfl))), s.dg, s.dl, s.gl, g.keep _ _ (fun z => z) s.hd, g.keep _ _ (fun z => z) s.hg, g.keep _ _ (fun z => z) s.hl⟩
theorem Drw.grow (w : Drw D n I H) (g : Grow No I H I' H') : Drw D n I' H' := let ⟨a, b, c, d, s, r⟩ := w.ex; ⟨a, b, c, d, s.grow g, r⟩
theorem DrS.put (s : DrS D dig tn gs ls I H) (nt : ¬ TD D m) (ni : I m = none) : DrS D dig tn gs ls I (upd H m o) :=
  ⟨fun b u e => by rw [upd_ne (ne_of_none e ni)]; exact s.sub b u e, s.vd, s.vg, s.vl, s.dg, s.dl, s.gl, by rw [upd_ne fun z => nt (.inl z.symm)]; exact s.hd, by rw [upd_ne fun z => nt (.inr (.inl z.symm))]; exact s.hg, by rw [upd_ne fun z => nt (.inr (.inr z.symm))]; exact s.hl⟩
theorem Drw.put (w : Drw D n I H) (x : Own (TD D) H0 m o I H) : Drw D n I (upd H m o') := let ⟨a, b, c, d, s, r⟩ := w.ex; ⟨a, b, c, d, s.put x.nt x.ni, r⟩
theorem Drw.give (w : Drw D n I H) (x : Own (TD D) H0 m o I H) : Drw D n (upd I m o) H := by
  obtain ⟨a, b, c, d, s, r⟩ := w.ex
  refine ⟨a, b, c, d, ⟨fun q u e => ?_, ?_, ?_, ?_, s.dg, s.dl, s.gl, s.hd, s.hg, s.hl⟩, r⟩
  · by_cases z : q = m
    · subst z; rw [upd_same] at e; rw [x.at_]; exact e
    · rw [upd_ne z] at e; exact s.sub q u e
  · rw [upd_ne fun z => x.nt (.inl z.symm)]; exact s.vd
  · rw [upd_ne fun z => x.nt (.inr (.inl z.symm))]; exact s.vg
  · rw [upd_ne fun z => x.nt (.inr (.inr z.symm))]; exact s.vl
theorem Drw.mono {m : Nat} (w : Drw D n I H) (h : n ≤ m) : Drw D m I H := by
  obtain ⟨a, b, c, d, s, h1, h2, h3, h4⟩ := w.ex
  exact ⟨a, b, c, d, s, h1, h2, by omega, h4⟩
theorem DrS.up (s : DrS D dig tn gs ls I H) {d2 t2 : Int} (hH : Same I H') (h1 : H' D.d = some (.dK (drK D d2 t2))) {gs2 : List Int} (h2 : H' D.g = some (.lst (gs2.map V.int))) (h3 : H' D.l = some (.lst (ls.map V.int))) : DrS D d2 t2 gs2 ls I H' :=
  ⟨hH, s.vd, s.vg, s.vl, s.dg, s.dl, s.gl, h1, h2, h3⟩
/-- only the source's own objects change -/
theorem DrS.gd (s : DrS D dig tn gs ls I H) (g : Grow (TD D) I0 H0 I H) : Grow (TD D) I0 H0 I (upd H D.d o) where
  view := g.view
  sub := fun b u e => by rw [upd_ne (ne_of_none e s.vd)]; exact g.sub b u e
  keep := fun b u n e => by rw [upd_ne fun z => n (.inl z)]; exact g.keep b u n e
  live := fun b e => upd_live (g.live b e)
  fresh := g.fresh
  tbl := g.tbl
theorem DrS.gg (s : DrS D dig tn gs ls I H) (g : Grow (TD D) I0 H0 I H) : Grow (TD D) I0 H0 I (upd H D.g o) where
  view := g.view
  sub := fun b u e => by rw [upd_ne (ne_of_none e s.vg)]; exact g.sub b u e
  keep := fun b u n e => by rw [upd_ne fun z => n (.inr (.inl z))]; exact g.keep b u n e
  live := fun b e => upd_live (g.live b e)
  fresh := g.fresh
  tbl := g.tbl
end
theorem putK_new {κ : Type} [DecidableEq κ] {kvs : List (κ × V)} {k : κ} {v : V} (h : k ∉ kvs.map (·.1)) : putK kvs k v = kvs ++ [(k, v)] := by
  unfold putK
  have e : (kvs.any fun kv => decide (kv.1 = k)) = false := by
    rw [List.any_eq_false]
    intro kv hkv z
    exact h (List.mem_map.mpr ⟨kv, hkv, of_decide_eq_true z⟩)
  rw [e, if_neg Bool.false_ne_true]
theorem merge_app : ∀ {more acc : List (Key × V)}, (∀ k ∈ more.map (·.1), k ∉ acc.map (·.1)) → (more.map (·.1)).Nodup → mergeK acc more = acc ++ more
  | [], acc, _, _ => (List.append_nil acc).symm
  | q :: r, acc, h, nd => by
    have h1 : putK acc q.1 q.2 = acc ++ [q] := putK_new (h q.1 (List.mem_cons_self ..))
    have nd' := List.nodup_cons.mp nd
    have ih := merge_app (more := r) (acc := acc ++ [q]) (fun k hk => by
      rw [List.map_append, List.mem_append]
      rintro (z | z)
      · exact h k (List.mem_cons_of_mem _ hk) z
      · simp at z; subst z; exact nd'.1 hk) nd'.2
    show mergeK (putK acc q.1 q.2) r = acc ++ q :: r
    rw [h1, ih, List.append_assoc] <;> rfl
theorem merge_nodup {kvs : List (Key × V)} (h : (kvs.map (·.1)).Nodup) : mergeK [] kvs = kvs := merge_app (fun _ _ z => by cases z) h
theorem k12 : ¬ ((Sum.inr "digits" : Key) = (Sum.inr "great" : Key)) := by decide +kernel
theorem k13 : ¬ ((Sum.inr "digits" : Key) = (Sum.inr "lumps" : Key)) := by decide +kernel
theorem k14 : ¬ ((Sum.inr "digits" : Key) = (Sum.inr "turn" : Key)) := by decide +kernel
theorem k23 : ¬ ((Sum.inr "great" : Key) = (Sum.inr "lumps" : Key)) := by decide +kernel
theorem k24 : ¬ ((Sum.inr "great" : Key) = (Sum.inr "turn" : Key)) := by decide +kernel
theorem k34 : ¬ ((Sum.inr "lumps" : Key) = (Sum.inr "turn" : Key)) := by decide +kernel
variable {D : DA} {dig tn i : Int}
theorem val_dig : valV (drK D dig tn) (Sum.inr "digits") = some (.int dig) := valV_pos rfl
theorem val_great : valV (drK D dig tn) (Sum.inr "great") = some (.ref D.g) := (valV_neg k12).trans (valV_pos rfl)
theorem val_lumps : valV (drK D dig tn) (Sum.inr "lumps") = some (.ref D.l) := (valV_neg k13).trans ((valV_neg k23).trans (valV_pos rfl))
theorem val_turn : valV (drK D dig tn) (Sum.inr "turn") = some (.int tn) := (valV_neg k14).trans ((valV_neg k24).trans ((valV_neg k34).trans (valV_pos rfl)))
theorem put_dig : putK (drK D dig tn) (Sum.inr "digits") (.int i) = drK D i tn := by
  unfold putK
  rw [valV_any, val_dig]
  show (if true = true then _ else _) = _
  rw [if_pos rfl]
  simp only [List.map_cons, List.map_nil]
  rw [if_pos trivial, if_neg (Ne.symm k12), if_neg (Ne.symm k13), if_neg (Ne.symm k14)]
theorem put_turn : putK (drK D dig tn) (Sum.inr "turn") (.int i) = drK D dig i := by
  unfold putK
  rw [valV_any, val_turn]
  show (if true = true then _ else _) = _
  rw [if_pos rfl]
  simp only [List.map_cons, List.map_nil]
  rw [if_neg k14, if_neg k24, if_neg k34, if_pos trivial]
def lim : Nat := 1099511627776
/-- a number below many -/
def spNext : Sp := fun vs H Q _ => ∃ (I : Hp) (D : DA) (n : Nat) (many : Int), vs = [.ref D.d, .int many] ∧ Drw D n I H ∧ 0 < many ∧ many < 1073741824 ∧ n < lim ∧
  ∀ (r : Int) (H' : Hp), 0 ≤ r → r < many → Grow (TD D) I H I H' → Drw D (n + 1) I H' → Q (.int r) H'
theorem DrS.get_dig {gs ls : List Int} {I H : Hp} (s : DrS D dig tn gs ls I H) : DGet H D.d (.str "digits") (some (.int dig)) := by
  have z := DGet.k (k := .inr "digits") s.hd
  rw [val_dig] at z
  exact z
theorem DrS.get_great {gs ls : List Int} {I H : Hp} (s : DrS D dig tn gs ls I H) : DGet H D.d (.str "great") (some (.ref D.g)) := by
  have z := DGet.k (k := .inr "great") s.hd
  rw [val_great] at z
  exact z
theorem DrS.get_lumps {gs ls : List Int} {I H : Hp} (s : DrS D dig tn gs ls I H) : DGet H D.d (.str "lumps") (some (.ref D.l)) := by
  have z := DGet.k (k := .inr "lumps") s.hd
  rw [val_lumps] at z
  exact z
theorem DrS.get_turn {gs ls : List Int} {I H : Hp} (s : DrS D dig tn gs ls I H) : DGet H D.d (.str "turn") (some (.int tn)) := by
  have z := DGet.k (k := .inr "turn") s.hd
  rw [val_turn] at z
  exact z
theorem DrS.put_dig {gs ls : List Int} {I H : Hp} (s : DrS D dig tn gs ls I H) : DPut H D.d (.str "digits") (.int i) (upd H D.d (.dK (drK D i tn))) := by
  have z := DPut.k (k := .inr "digits") (v := .int i) s.hd (by show 4 < sizeLine; decide)
  rw [Nw.put_dig] at z
  exact z
theorem DrS.put_turn {gs ls : List Int} {I H : Hp} (s : DrS D dig tn gs ls I H) : DPut H D.d (.str "turn") (.int i) (upd H D.d (.dK (drK D dig i))) := by
  have z := DPut.k (k := .inr "turn") (v := .int i) s.hd (by show 4 < sizeLine; decide)
  rw [Nw.put_turn] at z
  exact z
end Nw

namespace Nw
open PySem PySem.Spec PyProof.Rows L2
/-- what is said of the heap stands through the making and changing of other things -/
structure Stable (T : Addr → Prop) (R : Hp → Hp → Prop) : Prop where
  grow : ∀ {I H I' H' : Hp}, R I H → Grow No I H I' H' → R I' H'
  put : ∀ {H0 : Hp} {m : Addr} {o o' : HO} {I H : Hp}, R I H → Own T H0 m o I H → R I (upd H m o')
  give : ∀ {H0 : Hp} {m : Addr} {o : HO} {I H : Hp}, R I H → Own T H0 m o I H → R (upd I m o) H
theorem Stable.triv {T : Addr → Prop} : Stable T fun _ _ => True := ⟨fun _ _ => trivial, fun _ _ => trivial, fun _ _ => trivial⟩
theorem Stable.drw {D : DA} {n : Nat} : Stable (TD D) (Drw D n) := ⟨fun w g => w.grow g, fun w x => w.put x, fun w x => w.give x⟩
theorem Paired.snoc {α β : Type} {F : α → β → Prop} : ∀ {xs : List α} {ys : List β} {x : α} {y : β}, Paired F xs ys → F x y → Paired F (xs ++ [x]) (ys ++ [y])
  | _, _, _, _, .nil, h => .cons h .nil
  | _, _, _, _, .cons a t, h => .cons a (Paired.snoc t h)
theorem Paired.at {α β : Type} {F : α → β → Prop} : ∀ {xs : List α} {ys : List β} {i : Nat} {y : β}, Paired F xs ys → ys[i]? = some y → ∃ x, xs[i]? = some x ∧ F x y
  | _, _, _, _, .nil, h => by simp at h
  | _, _, 0, _, .cons a t, h => by simp at h; subst h; exact ⟨_, rfl, a⟩
  | _, _, i + 1, _, .cons a t, h => by
    obtain ⟨x, h1, h2⟩ := Paired.at (i := i) t (by simpa using h)
    exact ⟨x, by simpa using h1, h2⟩
theorem Paired.at' {α β : Type} {F : α → β → Prop} : ∀ {xs : List α} {ys : List β} {i : Nat} {x : α}, Paired F xs ys → xs[i]? = some x → ∃ y, ys[i]? = some y ∧ F x y
  | _, _, _, _, .nil, h => by simp at h
  | _, _, 0, _, .cons a t, h => by simp at h; subst h; exact ⟨_, rfl, a⟩
  | _, _, i + 1, _, .cons a t, h => by
    obtain ⟨x, h1, h2⟩ := Paired.at' (i := i) t (by simpa using h)
    exact ⟨x, by simpa using h1, h2⟩
theorem Paired.len {α β : Type} {F : α → β → Prop} : ∀ {xs : List α} {ys : List β}, Paired F xs ys → xs.length = ys.length
  | _, _, .nil => rfl
  | _, _, .cons a t => congrArg (· + 1) (Paired.len t)
theorem lc_yes {te : TE} {σ : L2.St} {H : Hp} {Ky : VK} {Kn : Hp → Prop} (h : te σ H Ky) : tYes σ H (fun b H3 => if b = true then te σ H3 Ky else Kn H3) := by
  show (if true = true then te σ H Ky else Kn H)
  rw [if_pos rfl]
  exact h
section
variable {β : Type} [Rep β] {J : It} {n : Nat} {G : Hp → Prop} {Y : Nat → Hp → V → Hp → Prop} {T : Addr → Prop} {I H1 : Hp} {L : Addr} {g : TG} {tt : TT} {te : TE} {vs : List Nat} {σ : L2.St} {Qd : Hp → Prop}
/-- a comprehension over anything that is walked -/
theorem lc_gen (w : Walk J n G Y) (R : Nat → Hp → Hp → Prop) (hR : ∀ i, Stable T (R i)) (sub : Same I H1) (hT : ∀ b, T b → H1 b ≠ none) (hL : H1 L = none) (r0 : R 0 I H1) (hn : n ≤ 16777216)
    (hG : ∀ i I' H', Grow T I H1 I' H' → R i I' H' → G H') (P : Nat → Option β → Prop)
    (step : ∀ i x I' H' H'', i < n → Grow T I H1 I' H' → R i I' H' → Y i H' x H'' → ∀ (Kn : Hp → Prop) (Ky : V → Hp → Prop), (P i none → ∀ I2 H2, Grow T I' H' I2 H2 → R (i + 1) I2 H2 → Kn H2) →
      (∀ y, P i (some y) → ∀ v I2 H2, Grow T I' H' I2 H2 → R (i + 1) I2 H2 → Rep.is I2 v y → Ky v H2) →
      g x (wipe σ vs) H'' fun σ2 H2 => wipe σ2 vs = wipe σ vs ∧ tt σ2 H2 fun b H3 => if b = true then te σ2 H3 Ky else Kn H3)
    (done : ∀ (os : List (Option β)) I' H' vs', os.length = n → (∀ i o, os[i]? = some o → P i o) → Grow T I H1 I' H' → R n I' H' → Own T H1 L (.lst vs') I' H' → Paired (Rep.is I') vs' (os.filterMap id) → Qd H') :
    ∃ W : Nat → Nat → Hp → Prop, (∃ m, W 0 m (upd H1 L (.lst []))) ∧ ∀ i m H, W i m H →
      (J.stop i H ∧ Qd H) ∨ (J.go i H ∧ ∃ Nx : Hp → Prop, (∀ H', Nx H' → ∃ m', m' < m ∧ W (i + 1) m' H') ∧ ∀ x H', J.yld i H x H' → g x (wipe σ vs) H' fun σ2 H2 => wipe σ2 vs = wipe σ vs ∧ tt σ2 H2 fun b H3 =>
        if b = true then te σ2 H3 fun y H4 => ∃ acc, H4 L = some (.lst acc) ∧ acc.length < sizeLine ∧ Nx (upd H4 L (.lst (acc ++ [y]))) else Nx H3) := by
  refine lc_it w (fun i H => i ≤ n ∧ ∃ I' acc, ∃ os : List (Option β), Grow T I H1 I' H ∧ R i I' H ∧ Own T H1 L (.lst acc) I' H ∧ os.length = i ∧ acc.length ≤ i ∧ (∀ j o, os[j]? = some o → P j o) ∧ Paired (Rep.is I') acc (os.filterMap id))
    ⟨Nat.zero_le _, I, [], [], Grow.mine sub hL, (hR 0).grow r0 (Grow.mine sub hL), Own.new sub (.inl (Same.refl H1)) hT hL, rfl, Nat.le_refl _, fun j o e => by simp at e, .nil⟩ (fun i H _ ⟨_, I', _, _, g1, r1, _⟩ => hG i I' H g1 r1) ?_ ?_
  · rintro i x H H' hi ⟨_, I', acc, os, g1, r1, ow, hl, ha, hP, hp⟩ y
    have hz : acc.length < sizeLine := by rw [sizeLine_eq]; omega
    refine step i x I' H H' hi g1 r1 y (fun H3 => i + 1 ≤ n ∧ ∃ I' acc, ∃ os : List (Option β), Grow T I H1 I' H3 ∧ R (i + 1) I' H3 ∧ Own T H1 L (.lst acc) I' H3 ∧ os.length = i + 1 ∧ acc.length ≤ i + 1 ∧ (∀ j o, os[j]? = some o → P j o) ∧ Paired (Rep.is I') acc (os.filterMap id)) _ (fun h0 I2 H2 g2 r2 => ?_) (fun z hz2 v I2 H2 g2 r2 hv => ?_)
    · refine ⟨hi, I2, acc, os ++ [none], g1.trans g2, r2, ow.grow g2, by simp [hl], by omega, fun j o e => ?_, ?_⟩
      · rw [List.getElem?_append] at e
        split at e
        · exact hP j o e
        · rename_i hj
          cases q : j - os.length with
          | zero =>
            rw [q] at e
            simp at e; subst e
            have : j = i := by omega
            rw [this]; exact h0
          | succ k => rw [q] at e; simp at e
      · rw [List.filterMap_append]
        simp only [List.filterMap_cons, List.filterMap_nil, id, List.append_nil]
        exact Paired.mono' (fun _ _ z => Rep.mono g2.view z) hp
    · have ow2 := ow.grow g2
      refine ⟨acc, ow2.at_, hz, hi, I2, acc ++ [v], os ++ [some z], (g1.trans g2).put ow2, (hR _).put r2 ow2, ow2.put, by simp [hl], by simp; omega, fun j o e => ?_, ?_⟩
      · rw [List.getElem?_append] at e
        split at e
        · exact hP j o e
        · rename_i hj
          cases q : j - os.length with
          | zero =>
            rw [q] at e
            simp at e; subst e
            have : j = i := by omega
            rw [this]; exact hz2
          | succ k => rw [q] at e; simp at e
      · rw [List.filterMap_append]
        exact Paired.snoc (Paired.mono' (fun _ _ z => Rep.mono g2.view z) hp) hv
  · rintro H ⟨_, I', acc, os, g1, r1, ow, hl, ha, hP, hp⟩
    exact done os I' H acc hl hP g1 r1 ow hp
end
theorem os_eq {α β : Type} {f : α → β} : ∀ {xs : List α} {os : List β}, os.length = xs.length → (∀ (i : Nat) (o : β), os[i]? = some o → ∃ x, xs[i]? = some x ∧ o = f x) → os = xs.map f
  | [], [], _, _ => rfl
  | [], _ :: _, h, _ => by simp at h
  | _ :: _, [], h, _ => by simp at h
  | x :: xs, o :: os, h, hP => by
    obtain ⟨z, h1, h2⟩ := hP 0 o rfl
    simp at h1
    subst h1
    rw [List.map_cons, h2, os_eq (f := f) (xs := xs) (os := os) (by simpa using h) fun i o' e => hP (i + 1) o' (by simpa using e)]
theorem fm_id {α β : Type} {f : α → Option β} (xs : List α) : (xs.map f).filterMap id = xs.filterMap f := by
  rw [List.filterMap_map]
  rfl
theorem Paired.ints {I : Hp} : ∀ {vs : List V} {ns : List Int}, Paired (Rep.is I) vs ns → vs = ns.map V.int
  | _, _, .nil => rfl
  | _, _, .cons h t => by
    have e : _ = V.int _ := h
    rw [List.map_cons, e, Paired.ints t]
theorem Paired.bls {I : Hp} : ∀ {vs : List V} {ns : List Bool}, Paired (Rep.is I) vs ns → vs = ns.map V.bl
  | _, _, .nil => rfl
  | _, _, .cons h t => by
    have e : _ = V.bl _ := h
    rw [List.map_cons, e, Paired.bls t]
theorem Paired.strs {I : Hp} : ∀ {vs : List V} {ns : List Str}, Paired (Rep.is I) vs ns → vs = ns.map V.str
  | _, _, .nil => rfl
  | _, _, .cons h t => by
    have e : _ = V.str _ := h
    rw [List.map_cons, e, Paired.strs t]
section
variable {α β : Type} [Rep β] {J : It} {n : Nat} {G : Hp → Prop} {Y : Nat → Hp → V → Hp → Prop} {I H1 : Hp} {L : Addr} {g : TG} {tt : TT} {te : TE} {vs : List Nat} {σ : L2.St} {Qd : Hp → Prop}
/-- a comprehension that only makes: its list is xs.filterMap f -/
theorem lc_pure (w : Walk J n G Y) (xs : List α) (f : α → Option β) (hx : xs.length = n) (sub : Same I H1) (hL : H1 L = none) (hn : n ≤ 16777216) (hG : ∀ I' H', Grow No I H1 I' H' → G H')
    (step : ∀ i x v I' H' H'', xs[i]? = some x → Grow No I H1 I' H' → Y i H' v H'' → ∀ (Kn : Hp → Prop) (Ky : V → Hp → Prop), (f x = none → ∀ I2 H2, Grow No I' H' I2 H2 → Kn H2) →
      (∀ y, f x = some y → ∀ v I2 H2, Grow No I' H' I2 H2 → Rep.is I2 v y → Ky v H2) →
      g v (wipe σ vs) H'' fun σ2 H2 => wipe σ2 vs = wipe σ vs ∧ tt σ2 H2 fun b H3 => if b = true then te σ2 H3 Ky else Kn H3)
    (done : ∀ I' H' vs', Grow No I H1 I' H' → Own No H1 L (.lst vs') I' H' → Paired (Rep.is I') vs' (xs.filterMap f) → Qd H') :
    ∃ W : Nat → Nat → Hp → Prop, (∃ m, W 0 m (upd H1 L (.lst []))) ∧ ∀ i m H, W i m H →
      (J.stop i H ∧ Qd H) ∨ (J.go i H ∧ ∃ Nx : Hp → Prop, (∀ H', Nx H' → ∃ m', m' < m ∧ W (i + 1) m' H') ∧ ∀ x H', J.yld i H x H' → g x (wipe σ vs) H' fun σ2 H2 => wipe σ2 vs = wipe σ vs ∧ tt σ2 H2 fun b H3 =>
        if b = true then te σ2 H3 fun y H4 => ∃ acc, H4 L = some (.lst acc) ∧ acc.length < sizeLine ∧ Nx (upd H4 L (.lst (acc ++ [y]))) else Nx H3) := by
  refine lc_gen (T := No) w (fun _ _ _ => True) (fun _ => Stable.triv) sub (fun _ z => z.elim) hL trivial hn (fun _ I' H' g _ => hG I' H' g) (fun i o => ∃ x, xs[i]? = some x ∧ o = f x) ?_ ?_
  · intro i v I' H' H'' hi g1 _ y Kn Ky kn ky
    have hi' : i < xs.length := by omega
    have hx' : xs[i]? = some xs[i] := List.getElem?_eq_getElem hi'
    exact step i _ v I' H' H'' hx' g1 y Kn Ky (fun e I2 H2 g2 => kn ⟨_, hx', e.symm⟩ I2 H2 g2 trivial) fun z e v I2 H2 g2 r => ky z ⟨_, hx', e.symm⟩ v I2 H2 g2 trivial r
  · intro os I' H' vs' hl hP g1 _ ow hp
    have e : os.filterMap id = xs.filterMap f := by
      rw [os_eq (f := f) (by omega) hP, fm_id]
    rw [e] at hp
    exact done I' H' vs' g1 ow hp
end
theorem sum_ones {α : Type} : ∀ l : List α, (l.map (fun _ => 1)).sum = l.length
  | [] => rfl
  | x :: r => by
    rw [List.map_cons, List.sum_cons, sum_ones r, List.length_cons]
    omega
theorem fm_some {α β : Type} {f : α → β} (xs : List α) : xs.filterMap (fun x => some (f x)) = xs.map f := by
  induction xs with
  | nil => rfl
  | cons x r ih => rw [List.filterMap_cons, List.map_cons, ih]
theorem take_fold {α β : Type} {f : β → α → β} {b : β} {l : List α} {i : Nat} {x : α} (h : l[i]? = some x) : (l.take (i + 1)).foldl f b = f ((l.take i).foldl f b) x := by
  rw [List.take_add_one, h, List.foldl_append]
  rfl
theorem mem_take {α : Type} {l : List α} {i : Nat} {r : α} (h : l[i]? = some r) {x : α} : x ∈ l.take (i + 1) ↔ x ∈ l.take i ∨ x = r := by
  rw [List.take_add_one, h, List.mem_append]
  simp
end Nw

namespace Nw
open PySem PySem.Spec PyProof.Rows L2
/-! ### texts as lists of signs -/
def mk (l : List Nat) : Str := ⟨l.toArray⟩
abbrev sg (c : Nat) : Str := ⟨#[c]⟩
theorem mk_sg (c : Nat) : mk [c] = sg c := rfl
theorem mk_list (s : Str) : mk s.cps.toList = s := rfl
theorem mk_app (a b : List Nat) : mk a ++ mk b = mk (a ++ b) := by
  show (⟨a.toArray ++ b.toArray⟩ : Str) = ⟨(a ++ b).toArray⟩
  simp
theorem mk_inj {a b : List Nat} (h : mk a = mk b) : a = b := by
  have z := congrArg (fun s : Str => s.cps.toList) h
  simpa [mk] using z
theorem mk_len (a : List Nat) : (mk a).length = a.length := by simp [mk, Str.length]
theorem mk_cps (a : List Nat) : (mk a).cps.toList = a := by simp [mk]
theorem mk_nil : mk [] = ("" : Str) := rfl
theorem join_signs : ∀ cs : List Nat, Txt.join ("" : Str) (cs.map sg) = mk cs := by
  intro cs
  unfold Txt.join
  rw [StrLaws.glued_eq_join]
  induction cs with
  | nil => rfl
  | cons c r ih =>
    cases r with
    | nil => rfl
    | cons d t =>
      show sg c ++ ("" : Str) ++ Str.join ("" : Str) ((d :: t).map sg) = mk (c :: d :: t)
      rw [ih]
      rw [← mk_nil, ← mk_sg, mk_app, mk_app] <;> rfl
theorem upper_sg {c : Nat} (h : c < 128) : Txt.upper (sg c) = sg (up1 c) := by
  rw [upper_ascii (by intro d hd; simp at hd; omega)]
  simp [sg]
theorem lower_sg {c : Nat} (h : c < 128) : Txt.lower (sg c) = sg (lo1 c) := by
  rw [lower_ascii (by intro d hd; simp at hd; omega)]
  simp [sg]
theorem upper_mk {l : List Nat} (h : ∀ c ∈ l, c < 128) : Txt.upper (mk l) = mk (l.map up1) := by
  rw [upper_ascii (by rw [mk_cps]; exact h)]
  simp [mk]
/-! ### z[::-1] -/
def tRevS (te : TE) : TE := fun σ H Q => te σ H fun x H1 => ∃ l : List Nat, x = .str (mk l) ∧ l.length ≤ 16777216 ∧ Q (.str (mk l.reverse)) H1
theorem rev_pick (z : Str) : (Builtin.Str.strSliceIndices none none (-1) z.length).filterMap (z.cps[·]?) = z.cps.toList.reverse := by
  have e : Builtin.Str.strSliceIndices none none (-1) z.length = (List.range z.cps.size).reverse := by
    unfold Builtin.Str.strSliceIndices
    show sliceRange ((z.cps.size : Int) - 1) (-1) (-1) = _
    rw [PySem.W.krv_sliceRange, PySem.W.krv_range]
  rw [e, List.filterMap_reverse, PySem.W.krv_all]
theorem pe_revS {X : Cx} {e : Expr} {te : TE} {k : Nat} {p1 p2 p3 pos : Pos} (he : PE X e te) : PE X (.Subscript e (.Slice none none (some (.UnaryOp .USub (.Constant (.int 1) k p1) p2)) p3) pos) (tRevS te) := by
  refine ⟨fun pins s σ H Q I h => Subscript_ (wpAny_mono (he.run pins s σ H _ I h) (fun v s1 hv => ?_) fun _ _ z => z)⟩
  obtain ⟨x, H1, I1, r1, l, ex, hz, q⟩ := hv
  subst ex
  obtain ⟨t, rfl⟩ := r1
  have hst : PO X (some (.UnaryOp .USub (.Constant (.int 1) k p1) p2)) (tPart (tUn (rU fun i => .int (-i)) (tC (.int 1)))) := po_some (pe_un un_neg pe_int)
  refine wpAny_Slice (wpAny_mono (po_none.run pins s1 σ H1 (fun o H2 => o = none ∧ H2 = H1) I1 ⟨rfl, rfl⟩) (fun vl s2 h2 => ?_) fun _ _ z => z)
  obtain ⟨lo, H2, I2, pl, el, e2⟩ := h2
  subst el e2
  refine wpAny_mono (po_none.run pins s2 σ H2 (fun o H3 => o = none ∧ H3 = H2) I2 ⟨rfl, rfl⟩) (fun vu s3 h3 => ?_) fun _ _ z => z
  obtain ⟨hi, H3, I3, pu, eu, e3⟩ := h3
  subst eu e3
  refine wpAny_mono (hst.run pins s3 σ H3 (fun o H4 => o = some (-1) ∧ H4 = H3) I3 ⟨1, rfl, -1, rfl, rfl, rfl⟩) (fun vs s4 h4 => ?_) fun _ _ z => z
  obtain ⟨o, H4, I4, ps, eo, e4⟩ := h4
  subst eo e4
  obtain ⟨l1, rfl, e1⟩ := IsPart.raw pl
  obtain ⟨u1, rfl, e2⟩ := IsPart.raw pu
  obtain ⟨t1, rfl, e3⟩ := IsPart.raw ps
  have I5 : Inv X pins σ H4 { s4 with heap := s4.heap.push { cls := .type "slice", data := .fields #[partValue l1, partValue u1, partValue t1] } } := I4.kept (t' := s4.toks) fun b ob q => Heap.get?_push_of_some _ q
  refine tail_any (ops := [.ref s4.heap.objs.size, .str (mk l) t]) (typeIs_str _ _ _) PySem.F.slot_str_getitem.lookup ?_ (by with_unfolding_all rfl)
  refine wpAny_getItem_str_slice (l := l1) (u := u1) (st := t1) ⟨_, Heap.get?_push_size _ rfl, rfl, rfl⟩ (by rw [e3]; rfl) ?_
  unfold sliceMade slicePicked
  rw [e3, e1, e2]
  rw [if_neg (by intro z; exact Bool.noConfusion z)]
  show Made.post (Made.str ⟨((Builtin.Str.strSliceIndices none none (-1) (mk l).length).filterMap ((mk l).cps[·]?)).toArray⟩) (EP X pins σ Q) _
  rw [rev_pick, mk_cps]
  refine ⟨?_, .str (mk l.reverse), H4, I5.tok _, ⟨_, rfl⟩, q⟩
  show (mk l.reverse).length ≤ sizeLine
  rw [mk_len, List.length_reverse, sizeLine_eq]
  exact hz
end Nw

namespace Nw
open PySem PySem.Spec PyProof.Rows L2
theorem atI_rev {α : Type} (st : List α) (j : Nat) (i : Int) (hi : i = -(j : Int) - 1) : atI st.reverse i = st[j]? := by
  subst hi
  unfold atI ixN
  rw [if_neg (by omega), List.length_reverse]
  by_cases h : j < st.length
  · rw [if_pos (by omega)]
    have e : (-(j : Int) - 1 + (st.length : Int)).toNat = st.length - 1 - j := by omega
    rw [e]
    show st.reverse[st.length - 1 - j]? = st[j]?
    rw [List.getElem?_reverse (by omega)]
    congr 1
    omega
  · rw [if_neg (by omega), List.getElem?_eq_none (by omega)]
    rfl
theorem atI_nat' {α : Type} {xs : List α} {j : Nat} {i : Int} (hi : i = (j : Int)) : atI xs i = xs[j]? := by
  subst hi
  unfold atI ixN
  rw [if_pos (by omega)]
  by_cases h : j < xs.length
  · rw [if_pos (by omega)]
    rfl
  · rw [if_neg (by omega), List.getElem?_eq_none (by omega)]
    rfl
theorem cut_rev2 (st : List V) (h : 2 ≤ st.length) : cutV st.reverse none (some (-2)) = (st.drop 2).reverse := by
  unfold cutV
  have e1 : HT.sIx st.reverse.length st.reverse.length (some (-2)) = ((-2 : Int) + (st.reverse.length : Int)).toNat := by
    show (if (-2 : Int) < 0 then ((-2 : Int) + (st.reverse.length : Int)).toNat else min (-2 : Int).toNat st.reverse.length) = _
    rw [if_pos (by decide)]
  have e2 : HT.sIx st.reverse.length 0 none = 0 := rfl
  rw [e1, e2, List.drop_zero, List.length_reverse, Nat.sub_zero]
  have e : ((-2 : Int) + (st.length : Int)).toNat = st.length - 2 := by omega
  rw [e, List.take_reverse]
  congr 1
  congr 1
  omega
/-- a dict comprehension over anything that is walked -/
theorem dc_it {J : It} {n : Nat} {G : Hp → Prop} {Y : Nat → Hp → V → Hp → Prop} (w : Walk J n G Y) {g : TG} {tt : TT} {tk tv : TE} {vs : List Nat} {σ : L2.St} {H1 : Hp} {D : Addr} {Qd : Hp → Prop} (Pv : Nat → Hp → Prop) (h0 : Pv 0 (upd H1 D (.dK []))) (hG : ∀ i H, i ≤ n → Pv i H → G H)
    (hs : ∀ i x H H', i < n → Pv i H → Y i H x H' → g x (wipe σ vs) H' fun σ2 H2 => wipe σ2 vs = wipe σ vs ∧ tt σ2 H2 fun b H3 =>
      if b = true then tk σ2 H3 fun y H4 => tv σ2 H4 fun z H5 => ∃ kvs k, y = kV k ∧ H5 D = some (.dK kvs) ∧ kvs.length < sizeLine ∧ Pv (i + 1) (upd H5 D (.dK (putK kvs k z))) else Pv (i + 1) H3) (hd : ∀ H, Pv n H → Qd H) :
    ∃ W : Nat → Nat → Hp → Prop, (∃ m, W 0 m (upd H1 D (.dK []))) ∧ ∀ i m H, W i m H →
      (J.stop i H ∧ Qd H) ∨ (J.go i H ∧ ∃ Nx : Hp → Prop, (∀ H', Nx H' → ∃ m', m' < m ∧ W (i + 1) m' H') ∧ ∀ x H', J.yld i H x H' → g x (wipe σ vs) H' fun σ2 H2 => wipe σ2 vs = wipe σ vs ∧ tt σ2 H2 fun b H3 =>
        if b = true then tk σ2 H3 fun y H4 => tv σ2 H4 fun z H5 => ∃ kvs k, y = kV k ∧ H5 D = some (.dK kvs) ∧ kvs.length < sizeLine ∧ Nx (upd H5 D (.dK (putK kvs k z))) else Nx H3) := by
  refine ⟨fun i m H => m = n - i ∧ i ≤ n ∧ Pv i H, ⟨n, (Nat.sub_zero n).symm, Nat.zero_le n, h0⟩, ?_⟩
  rintro i m H ⟨em, hi, p⟩
  have q := hG i H hi p
  rcases Nat.lt_or_ge i n with hlt | hge
  · refine .inr ⟨w.goes i H hlt q, Pv (i + 1), fun H' p' => ⟨n - (i + 1), by omega, rfl, hlt, p'⟩, fun x H' y => ?_⟩
    exact hs i x H H' hlt p (w.yields i H x H' hlt q y)
  · have e : i = n := by omega
    subst e
    exact .inl ⟨w.stops H q, hd H p⟩
/-- d == {} -/
def rDNilE : R2 := fun x y H Q => ∃ a b ks, x = .ref a ∧ y = .ref b ∧ H a = some (.dK ks) ∧ H b = some (.dK []) ∧ Q (.bl ks.isEmpty) H
theorem op_eqDNil {X : Cx} (hu : X.A.units + 64 < cLine) : OpR X (compareOp .Eq) rDNilE := by
  intro pins s σ H x y v u Q I rx ry h
  obtain ⟨a, b, ks, rfl, rfl, ea, eb, q⟩ := h
  obtain rfl : v = Value.ref a := rx
  obtain rfl : u = Value.ref b := ry
  obtain ⟨_, ya, va, ra, da⟩ := (show ObjOk X.prog X.w H s.heap a (.dK ks) from I.hok a _ ea)
  obtain ⟨_, yb, vb, rb, db⟩ := (show ObjOk X.prog X.w H s.heap b (.dK []) from I.hok b _ eb)
  cases rb
  have hu' : X.A.units < cLine := Nat.lt_of_le_of_lt (Nat.le_add_right _ _) hu
  refine PySem.W.keq_eq (knd := mixKind X.prog X.w) (r := true) ya yb da db hu' (fun e => ?_) (fin_bl I q ?_)
  · cases ra with
    | nil => exact .nil
    | cons p t => cases e
  · cases ra with
    | nil => rfl
    | cons p t => rfl
end Nw

namespace Nw
open PySem PySem.Spec PyProof.Rows L2
variable {X : Cx}
theorem pe_gref {x : Str} {pos : Pos} {f : Addr} (h : X.mg x = some (.ref f)) (hg : Gl X x := by rfl) (hd : (x == ("__debug__" : Str)) = false := by decide) : PE X (.Name x pos) (tC (.ref f)) := pe_glob hg h rfl hd
/-! the rules that name the written part, for a comprehension's block -/
section
variable {K : PySem.W.Frag} (h : X.K = K)
include h
theorem call_isiK : CallR X (.builtin "isinstance") (rIsi K) := h ▸ call_isi
theorem ix_listK : IxR X (rIxL K) := h ▸ ix_list
theorem ix_tupK : IxR X (rIxT K) := h ▸ ix_tup
theorem op_in_seqK : OpR X (compareOp .In) (rIn K false) := h ▸ op_in_seq
theorem op_notIn_seqK : OpR X (compareOp .NotIn) (rIn K true) := h ▸ op_notIn_seq
theorem cr_allK (hc : X.calm = true) : CallR X (.builtin "all") (rAll K) := h ▸ cr_all hc
theorem cr_anyK (hc : X.calm = true) : CallR X (.builtin "any") (rAny K) := h ▸ cr_any hc
theorem call_len_seqK : CallR X (.builtin "len") (fun xs H Q => ∃ p ys, xs = [.ref p] ∧ (SqL K H p ys ∨ SqT K H p ys) ∧ Q (.int ys.length) H) := h ▸ call_len_seq
theorem pe_fldK {e : Expr} {f : Str} {pos : Pos} {ta : TE} (he : PE X e ta) (hb : attributeBase e f X.env (eval e X.env) = eval e X.env) : PE X (.Attribute e f pos) (tFld K ta f) := h ▸ pe_fld he hb
end
/-- list(text): its signs -/
theorem call_list_sg (hc : X.calm = true) : CallR X (.type "list") (fun xs H Q => ∃ l : List Nat, xs = [.str (mk l)] ∧ l.length ≤ 16777216 ∧ ∀ p, H p = none → Q (.ref p) (upd H p (.lst (l.map fun c => V.str (sg c))))) := by
  intro pins s σ H xs us Q I r h
  obtain ⟨l, rfl, hz, q⟩ := h
  obtain ⟨u, rfl, t, rfl⟩ := vals1 r
  have hsz : (mk l).cps.size = l.length := by simp [mk]
  refine PySem.call_list_str (I.ok.hd hc) (mk l) t (fun h' tk acc' c' hkeep hS hacc => ?_) (by rw [hsz, sizeLine_eq]; exact hz)
  refine ⟨.ref s.heap.objs.size, upd H s.heap.objs.size (.lst (l.map fun c => V.str (sg c))), I.laid hkeep (Nat.le_refl _) ⟨?_, acc'.toList, c', ?_, ?_⟩, rfl, q _ (I.hok.fresh (Nat.le_refl _))⟩
  · rw [List.length_map, sizeLine_eq]; exact hz
  · have h0 : acc'.size = l.length := hacc.1.trans hsz
    refine vals_of_at (by rw [List.length_map]; exact h0.symm.trans (Array.length_toList (xs := acc')).symm) fun j x w h1 h2 => ?_
    have h3 := hacc.2 j w (by rw [← Array.getElem?_toList]; exact h2)
    obtain ⟨c, t', e1, rfl⟩ := h3
    have e2 : l[j]? = some c := by simpa [mk] using e1
    have e3 : x = .str (sg c) := by
      have z : (l.map fun c => V.str (sg c))[j]? = some (.str (sg c)) := by rw [List.getElem?_map, e2]; rfl
      rw [z] at h1
      cases h1
      rfl
    rw [e3]
    exact ⟨t', rfl⟩
  · simpa using hS
end Nw

namespace Nw
open PySem PySem.Spec PyProof.Rows L2
/-! ### an object that is made, then given out -/
section
variable {D : DA} {n : Nat} {T T' : Addr → Prop} {I H I' H' I0 H0 I3 H3 : Hp} {x dx : Addr} {o o1 o2 : HO}
theorem DrS.growT {dig tn : Int} {gs ls : List Int} (s : DrS D dig tn gs ls I H) (g : Grow T I H I' H') (h : ∀ b, TD D b → ¬ T b) : DrS D dig tn gs ls I' H' :=
  ⟨g.sub, g.fresh _ s.vd (s.live _ (.inl rfl)), g.fresh _ s.vg (s.live _ (.inr (.inl rfl))), g.fresh _ s.vl (s.live _ (.inr (.inr rfl))), s.dg, s.dl, s.gl, g.keep _ _ (h _ (.inl rfl)) s.hd, g.keep _ _ (h _ (.inr (.inl rfl))) s.hg, g.keep _ _ (h _ (.inr (.inr rfl))) s.hl⟩
theorem Drw.growT (w : Drw D n I H) (g : Grow T I H I' H') (h : ∀ b, TD D b → ¬ T b) : Drw D n I' H' := let ⟨a, b, c, d, s, r⟩ := w.ex; ⟨a, b, c, d, s.growT g h, r⟩
theorem Drw.view (w : Drw D n I H) (nt : ¬ TD D x) (h : H x = some o) : Drw D n (upd I x o) H := by
  obtain ⟨a, b, c, d, s, r⟩ := w.ex
  refine ⟨a, b, c, d, ⟨fun q u e => ?_, ?_, ?_, ?_, s.dg, s.dl, s.gl, s.hd, s.hg, s.hl⟩, r⟩
  · by_cases z : q = x
    · subst z; rw [upd_same] at e; rw [h]; exact e
    · rw [upd_ne z] at e; exact s.sub q u e
  · rw [upd_ne fun z => nt (.inl z.symm)]; exact s.vd
  · rw [upd_ne fun z => nt (.inr (.inl z.symm))]; exact s.vg
  · rw [upd_ne fun z => nt (.inr (.inr z.symm))]; exact s.vl
theorem Drw.chg (w : Drw D n I H) (nt : ¬ TD D x) (ni : I x = none) : Drw D n I (upd H x o) := let ⟨a, b, c, d, s, r⟩ := w.ex; ⟨a, b, c, d, s.put nt ni, r⟩
theorem Drw.mine (w : Drw D n I H) (h : H x = none) : Drw D n I (upd H x o) := w.grow (Grow.mine w.sub h)
theorem Drw.not (w : Drw D n I H) (h : H x = none) : ¬ TD D x := fun t => w.live x t h
theorem grow_made (sb : Same I H) (hx : H x = none) (hdx : H dx = none) (ne : dx ≠ x) : Grow T I H I (upd (upd H dx o1) x o2) :=
  (Grow.mine sb hdx).trans (Grow.mine (Grow.mine (T := T) (o := o1) sb hdx).sub (by rw [upd_ne ne.symm]; exact hx))
theorem live_none {T : Addr → Prop} (g : Grow T I0 H0 I H) (h : H x = none) : H0 x = none := by
  cases e : H0 x with
  | none => rfl
  | some u => exact absurd h (g.live x (by rw [e]; exact fun z => nomatch z))
/-- what C(..) does, seen from H0 -/
theorem Grow.make (g : Grow T I0 H0 I H) (hx : H x = none) (hdx : H dx = none) (ne : dx ≠ x) (g3 : Grow T' I (upd (upd H dx o1) x o2) I3 H3) (hT : ∀ b, T' b → T b ∨ H0 b = none) (h : H3 x = some o) (nt : NTb o := by intro _ z; cases z) : Grow T I0 H0 (upd I3 x o) H3 ∧ I3 x = none := by
  have gm : Grow T I0 H0 I (upd (upd H dx o1) x o2) := g.trans (grow_made g.sub hx hdx ne)
  have gd := gm.drop g3 hT
  have n3 : I3 x = none := g3.fresh x (g.sub.free hx) (by rw [upd_same]; exact fun z => nomatch z)
  exact ⟨gd.give' (live_none g hx) n3 h nt, n3⟩
theorem Drw.make (w : Drw D n I H) (hx : H x = none) (hdx : H dx = none) (ne : dx ≠ x) (g3 : Grow T' I (upd (upd H dx o1) x o2) I3 H3) (hT : ∀ b, TD D b → ¬ T' b) (h : H3 x = some o) : Drw D n (upd I3 x o) H3 :=
  (((w.mine hdx).mine (by rw [upd_ne ne.symm]; exact hx)).growT g3 hT).view (w.not hx) h
end
/-- a def that is asked by its own data -/
theorem okd_of {P : Program} {w : World} {K : PySem.W.Frag} {mg : Str → Option Value} {base : Heap} {k : Nat} {f : Addr} {fd : FuncData} {ps : List Str} {sp : Sp} {x qual : Str} {st : Stmt} {N : List Str}
    (F : FunD K x qual (defArgs st) (defBody st) (defScope st) [] [] f fd) (S : FnScope N ps (defScope st)) (len : ∀ vs H Q E, sp vs H Q E → vs.length = ps.length)
    (hbody : ∀ (cdv : Value) (A : Around) (outer : List Env) (s : Shared) (H : Hp) (vs : List V) (Q : VK) (E : XK), Room k (A.deeper (envOfC qual (defScope st) s.heap.objs.size f cdv)) → sp vs H Q E →
      ∃ t, PSs (cxOf CX0 P w K mg base N qual (defScope st) f cdv A outer s H E).nox (defBody st) t ∧ t { nx := fun _ H' => Q .non H', rt := Q } (start N vs) H) : FnOk P w K mg base CX0 (k + 1) f fd ps sp :=
  F.ok S len fun cdv A outer s H vs Q E hr h => by
    obtain ⟨t, h1, h2⟩ := hbody cdv A outer s H vs Q E hr h
    exact ⟨t, h1.nox, h2⟩
end Nw

namespace Nw
open PySem PySem.Spec PyProof.Rows L2
/-! ### operators that a class of the text has itself -/
section
variable {X : Cx} {k : Nat} {f C : Addr} {fd : FuncData} {ps : List Str} {sp : Sp}
/-- two instances of one class -/
def rOwn (C : Addr) (sp : Sp) : R2 := fun x y H Q => ∃ a b dx dy fs gs, x = .ref a ∧ y = .ref b ∧ H a = some (.ins C dx fs) ∧ H b = some (.ins C dy gs) ∧ sp [.ref a, .ref b] H (fun v H' => ∃ p, v = .ref p ∧ Q v H') E0
theorem op_own {op : Operator} {nm : Str} (M : Meth X.K C nm f) (he : PySem.dunder op.info.2 = nm) (hc : PySem.W.selfFirst X.K C = true) (F : FnOk X.prog X.w X.K X.mg X.base CX0 k f fd ps sp) (hr : Room k X.A) (hb : Binds X.K fd ps []) : OpR X (binaryOp op) (rOwn C sp) := by
  intro pins s σ H x y v u Q I rx ry h
  obtain ⟨a, b, dx, dy, fs, gs, rfl, rfl, ha, hb', q⟩ := h
  cases rx
  cases ry
  obtain ⟨mA, J, _⟩ := ins_get I.hok ha
  obtain ⟨mB, J', _⟩ := ins_get I.hok hb'
  obtain ⟨od, J, _⟩ := J.look
  obtain ⟨od', J', _⟩ := J'.look
  obtain ⟨m, hF⟩ := I.fr
  refine PySem.W.binop_K hF I.ok.mod.kin J J'.type hc (by rw [he]; exact M.at_) M.fn ?_
  have r2 : Vals [V.ref a, V.ref b] [Value.ref a, Value.ref b] := .cons rfl (.cons rfl .nil)
  refine wpAny_mono (run_fn (dvs := []) (ds := []) (E := E0) F hr hb .nil pass0 I r2 q) (fun v s' hq => ?_) fun _ _ e => e
  obtain ⟨z, H', I', rz, p, rfl, q⟩ := hq
  cases rz
  exact ⟨.ref p, _, I', rfl, q⟩
def rOwn1 (C : Addr) (sp : Sp) : V → Hp → VK → Prop := fun x H Q => ∃ a dx fs, x = .ref a ∧ H a = some (.ins C dx fs) ∧ sp [.ref a] H Q E0
theorem un_own_inv (M : Meth X.K C "__invert__" f) (F : FnOk X.prog X.w X.K X.mg X.base CX0 k f fd ps sp) (hr : Room k X.A) (hb : Binds X.K fd ps []) : UnR X (unaryOp .Invert) (rOwn1 C sp) := by
  intro pins s σ H x v Q I rx h
  obtain ⟨a, dx, fs, rfl, ha, q⟩ := h
  cases rx
  obtain ⟨mA, J, _⟩ := ins_get I.hok ha
  obtain ⟨od, J, _⟩ := J.look
  obtain ⟨m, hF⟩ := I.fr
  refine PySem.W.ksp_inv hF I.ok.mod.kin J M.at_ M.fn ?_
  have r2 : Vals [V.ref a] [Value.ref a] := .cons rfl .nil
  exact run_fn (dvs := []) (ds := []) (E := E0) F hr hb .nil pass0 I r2 q
/-- a comparison that the class has itself: a truth -/
theorem op_own_le (M : Meth X.K C "__le__" f) (F : FnOk X.prog X.w X.K X.mg X.base CX0 k f fd ps sp) (hr : Room k X.A) (hb : Binds X.K fd ps []) :
    OpR X (compareOp .LtE) (fun x y H Q => ∃ a b dx dy fs gs, x = .ref a ∧ y = .ref b ∧ H a = some (.ins C dx fs) ∧ H b = some (.ins C dy gs) ∧ sp [.ref a, .ref b] H (fun v H' => ∃ t, v = .bl t ∧ Q v H') E0) := by
  intro pins s σ H x y v u Q I rx ry h
  obtain ⟨a, b, dx, dy, fs, gs, rfl, rfl, ha, hb', q⟩ := h
  cases rx
  cases ry
  obtain ⟨mA, J, _⟩ := ins_get I.hok ha
  obtain ⟨mB, J', _⟩ := ins_get I.hok hb'
  obtain ⟨od, J, _⟩ := J.look
  obtain ⟨od', J', _⟩ := J'.look
  obtain ⟨m, hF⟩ := I.fr
  show wpAny (model X.prog X.w) X.A (richCompare .LtE (.ref a) (.ref b)) (EP X pins σ Q) X.xe s
  refine PySem.W.cmp_K (op := .LtE) (tb := .ref C) hr.units0 hF I.ok.mod.kin J J'.type (by simp [PySem.W.notFirst]) M.at_ M.fn ?_
  have r2 : Vals [V.ref a, V.ref b] [Value.ref a, Value.ref b] := .cons rfl (.cons rfl .nil)
  refine wpAny_mono (run_fn (dvs := []) (ds := []) (E := E0) F hr hb .nil pass0 I r2 q) (fun v s' hq => ?_) fun _ _ e => e
  obtain ⟨z, H', I', rz, p, rfl, q⟩ := hq
  cases rz
  exact ⟨.bl p, _, I', rfl, q⟩
end
end Nw

namespace Nw
open PySem PySem.Spec PyProof.Rows L2
open AutoSeq1 (wpAny_loadPart')
/-! ### enumerate(tuple) -/
theorem meets_enumT (l : Addr) (items : Array Value) (n : Nat) (dct : Option Addr) (sl : Array (Option Value)) :
    Meets (Builtin.«enumerate.__new__» ⟨[.type "enumerate", .ref l], []⟩) (fun _ R s => s.heap.get? l = some { cls := .type "tuple", dict := dct, data := .seq items n, slots := sl } ∧
      R (.ok (.ret (.ref (s.heap.push { cls := .type "tuple_iterator", data := .fields #[.ref l, .int 0 0] }).objs.size)))
        { s with heap := (s.heap.push { cls := .type "tuple_iterator", data := .fields #[.ref l, .int 0 0] }).push { cls := .type "enumerate", data := .fields #[.none, .bool false, .ref s.heap.objs.size, rawInt 0, .none, .none] } }) :=
  .of_wp fun prog w A R s h => by
    obtain ⟨hp, g, d, tk, os⟩ := s; obtain ⟨hl, h⟩ := h
    have hsub := sub_enumerate
    have hL : Heap.IsTuple (Shared.heap ⟨hp, g, d, tk, os⟩) l items := ⟨_, hl, rfl, n, rfl⟩
    wp_walk using wpAny_loadPart' hl
    refine wpAny_stack_any fun st => wpAny_pure ?_
    split
    · rename_i c _ _ _ _ _
      cases (c == Value.type "enumerate")
      · wp_walk using wpAny_loadPart' hl, wpAny_pyIter_tuple hL
        exact ⟨_, rfl, h⟩
      · wp_walk using wpAny_loadPart' hl, wpAny_pyIter_tuple hL
        exact ⟨_, rfl, h⟩
    · wp_walk using wpAny_loadPart' hl, wpAny_pyIter_tuple hL
      exact ⟨_, rfl, h⟩
section
variable {prog : Program} {w : World} {A : Around} {E : Value → Shared → Prop} {s : Shared}
theorem call_enumT {l : Addr} {items : Array Value} {Q : Value → Shared → Prop} (hL : s.heap.IsTuple l items)
    (h : ∀ h', IsEnum h' (s.heap.objs.size + 1) s.heap.objs.size 0 .none → h'.IsTupleIter s.heap.objs.size l 0 → h'.objs.size = s.heap.objs.size + 2 →
      (∀ b o, s.heap.get? b = some o → h'.get? b = some o) → Q (.ref (s.heap.objs.size + 1)) { s with heap := h' }) :
    wpAny (model prog w) A (call (.type "enumerate") [.ref l]) Q E s := by
  obtain ⟨⟨c, dct, dt, sl⟩, hl, hc, n, hd⟩ := hL
  replace hc : c = .type "tuple" := hc
  replace hd : dt = .seq items n := hd
  subst hc hd
  refine callType_new F.called_enumerate (by decide) (F.typeCall_enumerate_1 _) (F.newCall_enumerate_1 _) (fun obj => F.args_object_init_2 obj _) F.entry_enumerate_new
    (meets_enumT l items n dct sl) ⟨hl, ?_⟩
  have hz : (s.heap.push { cls := .type "tuple_iterator", data := .fields #[.ref l, .int 0 0] }).objs.size = s.heap.objs.size + 1 := Heap.size_push ..
  show _ ∧ _
  rw [hz]
  have he : IsEnum ((s.heap.push { cls := .type "tuple_iterator", data := .fields #[.ref l, .int 0 0] }).push
      { cls := .type "enumerate", data := .fields #[.none, .bool false, .ref s.heap.objs.size, rawInt 0, .none, .none] }) (s.heap.objs.size + 1) s.heap.objs.size 0 .none := by
    have := Heap.get?_push_size (s.heap.push { cls := .type "tuple_iterator", data := .fields #[.ref l, .int 0 0] })
      (o := { cls := .type "enumerate", data := .fields #[.none, .bool false, .ref s.heap.objs.size, rawInt 0, .none, .none] }) rfl
    rw [hz] at this; exact this
  refine ⟨⟨_, he, rfl⟩, h _ he ⟨_, Heap.get?_push_of_some _ (Heap.get?_push_size _ rfl), rfl, rfl⟩ (by rw [Heap.size_push, hz]) fun b o x => Heap.get?_push_of_some _ (Heap.get?_push_of_some _ x)⟩
theorem draws_tup (hh : A.handled = none) {it t : Addr} (hne : t ≠ it) (items : Array Value) : Draws prog w A it [it, t] items.size (fun i v => items[i]? = some v) (fun i h => h.IsTupleIter it t i ∧ h.IsTuple t items) where
  live := fun i h st => let ⟨⟨o, e, _⟩, _⟩ := st; ⟨o, e⟩
  frame := fun i h h' st k => ⟨st.1.at fun o e => k it (by simp) o e, let ⟨o, e, z⟩ := st.2; ⟨o, k t (by simp) o e, z⟩⟩
  item := fun i s Q E hi st hQ => by
    refine wpAny_nextOf_tuple_item st.1 st.2 (x := items[i]) (by simp [hi]) fun h' st' sb => ?_
    refine hQ _ h' s.toks (by simp [hi]) ⟨st', ?_⟩ sb
    obtain ⟨o, e, z⟩ := st.2
    exact ⟨o, (sb.2 t hne).trans e, z⟩
  done := fun s Q E st hE => wpAny_nextOf_tuple_end hh st.1 st.2 (by simp) hE
end
def IteT (K : PySem.W.Frag) (a : Addr) : It :=
  ⟨fun i H => ∃ (xs : List V) (x : V), SqT K H a xs ∧ xs[i]? = some x, fun i H v H' => ∃ T x, v = .ref T ∧ H T = none ∧ H' = upd H T (.tup [.int (i : Nat), x]) ∧ ∀ xs, SqT K H a xs → xs[i]? = some x, fun i H => ∃ xs : List V, SqT K H a xs ∧ xs.length ≤ i⟩
theorem turn_enumT {P : Program} {w : World} {K : PySem.W.Frag} {elts : List Expr} {kk : Nat} {tpos : Pos} (a e it : Addr) :
    Turn P w K (.Tuple elts kk tpos) (IteT K a) [e, it] e (fun i h => (∃ old, IsEnum h e it ((i : Nat) : Int) old) ∧ h.IsTupleIter it a i ∧ e ≠ it) where
  mem := by simp
  obj := fun i h st b hb => by
    obtain ⟨⟨old, he⟩, ⟨o, ho, hc, hd⟩, _⟩ := st
    have e' : b = e ∨ b = it := by simpa using hb
    rcases e' with z | z
    · rw [z]; exact ⟨_, he, fun v q => nomatch q⟩
    · rw [z]; exact ⟨o, ho, fun v q => by rw [hd] at q; cases q⟩
  keep := fun i h h' st k => let ⟨⟨old, he⟩, hi, hne⟩ := st; ⟨⟨old, k e (by simp) _ he⟩, hi.at fun o q => k it (by simp) o q, hne⟩
  item := by
    intro X hP hw hK hc i pins s σ H E I hf st hg
    subst hP hw hK
    obtain ⟨⟨old, he⟩, hit, hne⟩ := st
    obtain ⟨xs, x, hq, hx⟩ := hg
    obtain ⟨its, rv, p, hz⟩ := I.tuple hq
    have p' : s.heap.IsTuple a its.toArray := p
    obtain ⟨u, hu, ru⟩ := rv.get hx
    have hel : e < s.heap.objs.size := Heap.lt_size he
    have hil : it < s.heap.objs.size := by obtain ⟨_, q, _⟩ := hit; exact Heap.lt_size q
    have nea : a ≠ it := by
      rintro rfl
      obtain ⟨o1, e1, c1, _⟩ := hit
      obtain ⟨o2, e2, c2, _⟩ := p'
      rw [e1] at e2
      cases e2
      rw [c1] at c2
      exact absurd c2 (by decide)
    have nee : a ≠ e := by
      rintro rfl
      obtain ⟨o2, e2, c2, _⟩ := p'
      rw [he] at e2
      cases e2
      exact absurd (show Value.type "enumerate" = Value.type "tuple" from c2) (by decide)
    have hlt : i < its.toArray.size := by
      rcases Nat.lt_or_ge i its.length with z | z
      · simpa using z
      · rw [List.getElem?_eq_none z] at hu; cases hu
    refine wpAny_pyNext_enum_itemD (draws_tup (by simpa using I.ok.hd hc) nea its.toArray) he ⟨hit, p'⟩ hlt hne (by simp [hne, Ne.symm nee]) fun y h' tk hy ho hst' hT hsz hk => ?_
    obtain ⟨hit', _⟩ := hst'
    have ey : y = u := by
      have z : its[i]? = some y := by simpa using hy
      rw [hu] at z
      exact (Option.some.inj z).symm
    subst ey
    refine ⟨_, rfl, wpAny_letOwnedTupleGo_enum (s := { s with heap := h', toks := tk + 1 }) ho fun h'' he' sb => ?_⟩
    have hT2 : h''.get? s.heap.objs.size = some { cls := .type "tuple", data := .seq #[.int i tk, y] } := (sb.2 _ (Nat.ne_of_gt hel)).trans hT
    have new : ObjOk X.prog X.w (upd H s.heap.objs.size (.tup [.int (i : Nat), x])) h'' s.heap.objs.size (.tup [.int (i : Nat), x]) :=
      ⟨by show 2 ≤ sizeLine; decide, [.int i tk, y], .cons ⟨_, rfl⟩ (.cons ru .nil), ⟨_, hT2, rfl, _, rfl⟩⟩
    have I1 : Inv X pins σ (upd H s.heap.objs.size (.tup [.int (i : Nat), x])) { s with heap := h'', toks := tk + 1 } :=
      I.turnedNew (ch := [e, it]) (fun b ob hb q => (sb.2 b (fun z => hb (by simp [z]))).trans (hk b ob (fun z => hb (by simp [z])) (fun z => hb (by simp [z])) q)) hf (Nat.le_refl _) new
    refine ⟨.ref s.heap.objs.size, _, I1, rfl, ⟨_, x, rfl, I.hok.fresh (Nat.le_refl _), rfl, fun ys hy => by rw [I.tuple_inj hy hq]; exact hx⟩, ⟨⟨y, ?_⟩, hit'.at fun o q => (sb.2 it (Ne.symm hne)).trans q, hne⟩, fun b hb => ?_⟩
    · have e1 : ((i + 1 : Nat) : Int) = (i : Int) + 1 := by omega
      rw [e1]; exact he'
    · have hb' : b < s.heap.objs.size := by
        have e' : b = e ∨ b = it := by simpa using hb
        rcases e' with z | z
        · rw [z]; exact hel
        · rw [z]; exact hil
      rw [upd_ne (Nat.ne_of_lt hb')]
      exact (hf b hb).1
  done := by
    intro X hP hw hK hc i pins s σ H E I hf st hg
    subst hP hw hK
    obtain ⟨⟨old, he⟩, hit, hne⟩ := st
    obtain ⟨xs, hq, hx⟩ := hg
    obtain ⟨its, rv, p, hz⟩ := I.tuple hq
    have p' : s.heap.IsTuple a its.toArray := p
    obtain ⟨f0, f1, f2, f3, f4, f5⟩ := hf it (by simp)
    have hl := rv.length
    have hT : s.TypeIs (.ref e) "enumerate" := ⟨_, he, rfl⟩
    unfold pyNext
    refine wpAny_bind (wpAny_attempt (wpAny_callSpecial?_slot (name := Str.ofString "__next__") hT F.slot_enumerate_next
      (wpAny_call_entry F.slot_enumerate_next hT F.entry_enumerate_next ?_ (F.args_enumerate_next_1 _))))
    show wpAny _ _ (field (.ref e) 2 >>= _) _ _ _
    refine wpAny_bind (wpAny_field he rfl (x := .ref it) rfl ?_)
    refine wpAny_bind (wpAny_nextOf_tuple_end (by simpa using I.ok.hd hc) hit p' (by simp; omega) fun h' x he' hx' => ?_)
    obtain ⟨o, ho, hc'⟩ := hx'
    refine wpAny_bind (wpAny_isInstance (T := "StopIteration") (b := true) ⟨o, ho, hc'⟩ isSubtype_stop ?_)
    exact wpAny_pure ⟨rfl, I.turned (t' := s.toks) (fun b o hb q => he' b o hb q) f0 f1 f3 f4 f5⟩
  self := fun A i s Q E st h => let ⟨⟨_, he⟩, _⟩ := st; wpAny_pyIter_enum he h
def iEnumT (K : PySem.W.Frag) (ta : TA) : TI := fun σ H R => ta σ H fun vs H1 => ∃ a xs, vs = [.ref a] ∧ SqT K H1 a xs ∧ R (IteT K a) H1
theorem pi_enumT {X : Cx} {e : Expr} {ta : TA} {p pos tpos : Pos} {elts : List Expr} {kk : Nat} (hg : Gl X "enumerate") (hm : X.mg "enumerate" = none) (ha : PA X [e] ta) (hs : starEach [e] X.env = [(false, eval e X.env)] := by rfl) :
    PI X (.Tuple elts kk tpos) (.Call (.Name "enumerate" p) [e] [] pos) (iEnumT X.K ta) := by
  refine ⟨fun pins s σ H R I h => ?_⟩
  refine Call_ (ld_blt I hg hm boot_enumerate (PyProof.Rows.callWith_type1 (thn (ha.run pos pins s σ H _ I h) fun us s1 ⟨vs, H1, I1, r1, q1⟩ => ?_) hs rfl))
  obtain ⟨a, xs, ex, hq, q⟩ := q1
  subst ex
  cases r1 with
  | cons r rr =>
    cases rr
    cases r
    obtain ⟨its, rv, p', hz⟩ := I1.tuple hq
    refine call_enumT (show s1.heap.IsTuple a its.toArray from p') fun h' he hit hsz hk => wpAny_pyIter_enum he ?_
    have I2 : Inv X pins σ H1 { s1 with heap := h' } := I1.kept (t' := s1.toks) hk
    refine ⟨s1.heap.objs.size + 1, [s1.heap.objs.size + 1, s1.heap.objs.size], _, _, H1, rfl, I2, turn_enumT a (s1.heap.objs.size + 1) s1.heap.objs.size, ⟨⟨.none, he⟩, hit, Nat.succ_ne_self _⟩, fun b hb => ?_, q⟩
    have e' : b = s1.heap.objs.size + 1 ∨ b = s1.heap.objs.size := by simpa using hb
    have hle : s1.heap.objs.size ≤ b := by
      rcases e' with z | z
      · rw [z]; exact Nat.le_add_right _ _
      · rw [z]; exact Nat.le_refl _
    exact I1.fpOk hle (I1.hok.fresh hle)
theorem walk_enumT {K : PySem.W.Frag} {a : Addr} {xs : List V} : Walk (IteT K a) xs.length (fun H => SqT K H a xs) (YPair (fun i => some (.int (i : Nat))) (fun i => xs[i]?)) := by
  refine ⟨fun i _ hi q => ⟨xs, xs[i], q, by simp [hi]⟩, fun _ q => ⟨xs, q, Nat.le_refl _⟩, fun i H v H' _ q y => ?_⟩
  obtain ⟨T, x, h1, h2, h3, h4⟩ := y
  exact ⟨T, .int (i : Nat), x, h1, h2, h3, rfl, h4 xs q⟩
end Nw

namespace Nw
open PySem PySem.Spec PyProof.Rows L2
/-! ### what may be a list or a tuple: t tells which -/
def ho (t : Bool) (vs : List V) : HO := match t with
  | false => .lst vs
  | true => .tup vs
def SqB (K : PySem.W.Frag) (t : Bool) (H : Hp) (a : Addr) (xs : List V) : Prop := match t with
  | false => SqL K H a xs
  | true => SqT K H a xs
theorem SqB.of {K : PySem.W.Frag} {t : Bool} {H : Hp} {a : Addr} {xs : List V} (h : H a = some (ho t xs)) : SqB K t H a xs := by
  cases t
  · exact SqL.of h
  · exact SqT.of h
def isS {α : Type} [Rep α] (t : Bool) (I : Hp) (v : V) (xs : List α) : Prop := ∃ a vs, v = .ref a ∧ I a = some (ho t vs) ∧ Paired (Rep.is I) vs xs
theorem isL.s {α : Type} [Rep α] {I : Hp} {v : V} {xs : List α} (h : isL I v xs) : isS false I v xs := h
theorem isU.s {α : Type} [Rep α] {I : Hp} {v : V} {xs : List α} (h : isU I v xs) : isS true I v xs := h
theorem isS.up {α : Type} [Rep α] {t : Bool} {I I' : Hp} {v : V} {xs : List α} (h : isS t I v xs) (e : Same I I') : isS t I' v xs :=
  let ⟨a, vs, h1, h2, h3⟩ := h
  ⟨a, vs, h1, e _ _ h2, Paired.mono' (fun _ _ z => Rep.mono e z) h3⟩
def Itq (K : PySem.W.Frag) (t : Bool) (a : Addr) : It := match t with
  | false => Itl K a
  | true => Itt K a
def iSeq (K : PySem.W.Frag) (tl : TE) : TI := fun σ H R => tl σ H fun x H1 => ∃ a t, x = .ref a ∧ (∃ xs, SqB K t H1 a xs) ∧ R (Itq K t a) H1
theorem pi_seq {X : Cx} {tg l : Expr} {tl : TE} (hl : PE X l tl) : PI X tg l (iSeq X.K tl) := by
  refine ⟨fun pins s σ H R I h => ?_⟩
  refine thn (hl.run pins s σ H _ I h) fun v s1 ⟨x, H1, I1, r1, q1⟩ => ?_
  obtain ⟨a, t, e, ⟨xs, hq⟩, q⟩ := q1
  subst e
  cases r1
  cases t
  · obtain ⟨its, rv, p, hz⟩ := I1.list hq
    refine wpAny_pyIter_list p.isList ?_
    refine ⟨s1.heap.objs.size, [s1.heap.objs.size], _, _, H1, rfl, I1.kept (t' := s1.toks) fun b o e => Heap.get?_push_of_some _ e, turn_list a _, ⟨_, Heap.get?_push_size _ rfl, rfl, rfl⟩, fun b hb => ?_, q⟩
    have e : b = s1.heap.objs.size := by simpa using hb
    subst e
    exact I1.fpOk (Nat.le_refl _) (I1.hok.fresh (Nat.le_refl _))
  · obtain ⟨its, rv, p, hz⟩ := I1.tuple hq
    refine wpAny_pyIter_tuple (show s1.heap.IsTuple a its.toArray from p) ?_
    refine ⟨s1.heap.objs.size, [s1.heap.objs.size], _, _, H1, rfl, I1.kept (t' := s1.toks) fun b o e => Heap.get?_push_of_some _ e, turn_tuple a _, ⟨_, Heap.get?_push_size _ rfl, rfl, rfl⟩, fun b hb => ?_, q⟩
    have e : b = s1.heap.objs.size := by simpa using hb
    subst e
    exact I1.fpOk (Nat.le_refl _) (I1.hok.fresh (Nat.le_refl _))
theorem walk_seq {K : PySem.W.Frag} {t : Bool} {a : Addr} {xs : List V} : Walk (Itq K t a) xs.length (fun H => SqB K t H a xs) (YAt xs) := by
  cases t
  · exact walk_list
  · exact walk_tup
def IteB (K : PySem.W.Frag) (t : Bool) (a : Addr) : It := match t with
  | false => Ite K a
  | true => IteT K a
def iEnumS (K : PySem.W.Frag) (ta : TA) : TI := fun σ H R => ta σ H fun vs H1 => ∃ a t xs, vs = [.ref a] ∧ SqB K t H1 a xs ∧ R (IteB K t a) H1
theorem pi_enumS {X : Cx} {e : Expr} {ta : TA} {p pos tpos : Pos} {elts : List Expr} {kk : Nat} (hg : Gl X "enumerate") (hm : X.mg "enumerate" = none) (ha : PA X [e] ta) (hs : starEach [e] X.env = [(false, eval e X.env)] := by rfl) :
    PI X (.Tuple elts kk tpos) (.Call (.Name "enumerate" p) [e] [] pos) (iEnumS X.K ta) := by
  refine ⟨fun pins s σ H R I h => ?_⟩
  refine Call_ (ld_blt I hg hm boot_enumerate (PyProof.Rows.callWith_type1 (thn (ha.run pos pins s σ H _ I h) fun us s1 ⟨vs, H1, I1, r1, q1⟩ => ?_) hs rfl))
  obtain ⟨a, t, xs, ex, hq, q⟩ := q1
  subst ex
  cases r1 with
  | cons r rr =>
    cases rr
    cases r
    have fin : ∀ b : Addr, b ∈ [s1.heap.objs.size + 1, s1.heap.objs.size] → s1.heap.objs.size ≤ b := fun b hb => by
      have e' : b = s1.heap.objs.size + 1 ∨ b = s1.heap.objs.size := by simpa using hb
      rcases e' with z | z
      · rw [z]; exact Nat.le_add_right _ _
      · rw [z]; exact Nat.le_refl _
    cases t
    · obtain ⟨its, rv, p', hz⟩ := I1.list hq
      refine call_enumerate_list p'.isList fun h' he hit hsz hk => wpAny_pyIter_enum he ?_
      have I2 : Inv X pins σ H1 { s1 with heap := h' } := I1.kept (t' := s1.toks) hk
      exact ⟨s1.heap.objs.size + 1, [s1.heap.objs.size + 1, s1.heap.objs.size], _, _, H1, rfl, I2, turn_enum a (s1.heap.objs.size + 1) s1.heap.objs.size, ⟨⟨.none, he⟩, hit, Nat.succ_ne_self _⟩, fun b hb => I1.fpOk (fin b hb) (I1.hok.fresh (fin b hb)), q⟩
    · obtain ⟨its, rv, p', hz⟩ := I1.tuple hq
      refine call_enumT (show s1.heap.IsTuple a its.toArray from p') fun h' he hit hsz hk => wpAny_pyIter_enum he ?_
      have I2 : Inv X pins σ H1 { s1 with heap := h' } := I1.kept (t' := s1.toks) hk
      exact ⟨s1.heap.objs.size + 1, [s1.heap.objs.size + 1, s1.heap.objs.size], _, _, H1, rfl, I2, turn_enumT a (s1.heap.objs.size + 1) s1.heap.objs.size, ⟨⟨.none, he⟩, hit, Nat.succ_ne_self _⟩, fun b hb => I1.fpOk (fin b hb) (I1.hok.fresh (fin b hb)), q⟩
theorem walk_enumS {K : PySem.W.Frag} {t : Bool} {a : Addr} {xs : List V} : Walk (IteB K t a) xs.length (fun H => SqB K t H a xs) (YPair (fun i => some (.int (i : Nat))) (fun i => xs[i]?)) := by
  cases t
  · exact walk_enum
  · exact walk_enumT
/-- its type, and what isinstance of (list, tuple) tells -/
theorem ty_seq {K : PySem.W.Frag} {t : Bool} {H : Hp} {a : Addr} {vs : List V} (h : H a = some (ho t vs)) : ∃ n, TyX K H (.ref a) (.type n) ∧ PySem.W.kitAny K (.type n) [.type "list", .type "tuple"] = some true := by
  cases t
  · exact ⟨_, .base (.lst h), kit_any_hd⟩
  · exact ⟨_, .base (.tup h), kitAny_cons (b := false) (kit_ty (by decide +kernel)) (fun _ => kit_any_hd) (fun z => nomatch z)⟩
end Nw

namespace Nw
open PySem PySem.Spec PyProof.Rows L2
section
variable {X : Cx} {k : Nat} {f C : Addr} {fd : FuncData} {ps : List Str} {sp : Sp}
def rOwnB (C : Addr) (sp : Sp) (g : Bool → Bool) : R2 := fun x y H Q => ∃ a b dx dy fs gs, x = .ref a ∧ y = .ref b ∧ H a = some (.ins C dx fs) ∧ H b = some (.ins C dy gs) ∧ sp [.ref a, .ref b] H (fun v H' => ∃ t, v = .bl t ∧ Q (.bl (g t)) H') E0
/-- == that the class has itself -/
theorem op_own_eq (M : Meth X.K C "__eq__" f) (F : FnOk X.prog X.w X.K X.mg X.base CX0 k f fd ps sp) (hr : Room k X.A) (hb : Binds X.K fd ps []) : OpR X (compareOp .Eq) (rOwnB C sp id) := by
  intro pins s σ H x y v u Q I rx ry h
  obtain ⟨a, b, dx, dy, fs, gs, rfl, rfl, ha, hb', q⟩ := h
  cases rx
  cases ry
  obtain ⟨mA, J, _⟩ := ins_get I.hok ha
  obtain ⟨mB, J', _⟩ := ins_get I.hok hb'
  obtain ⟨od, J, _⟩ := J.look
  obtain ⟨od', J', _⟩ := J'.look
  obtain ⟨m, hF⟩ := I.fr
  show wpAny (model X.prog X.w) X.A (richCompare .Eq (.ref a) (.ref b)) (EP X pins σ Q) X.xe s
  refine PySem.W.cmp_K (op := .Eq) (tb := .ref C) hr.units0 hF I.ok.mod.kin J J'.type (by simp [PySem.W.notFirst]) M.at_ M.fn ?_
  have r2 : Vals [V.ref a, V.ref b] [Value.ref a, Value.ref b] := .cons rfl (.cons rfl .nil)
  refine wpAny_mono (run_fn (dvs := []) (ds := []) (E := E0) F hr hb .nil pass0 I r2 q) (fun v s' hq => ?_) fun _ _ e => e
  obtain ⟨z, H', I', rz, p, rfl, q⟩ := hq
  cases rz
  exact ⟨.bl p, _, I', rfl, q⟩
theorem slot_ne : Slot "object" "__ne__" "object.__ne__" := F.cmp_object.ne
/-- a builtin's slot of an instance, found by the class's part -/
theorem ifBoundB_K {M : Model} {A : Around} {E : Value → Shared → Prop} {s : Shared} {K : PySem.W.Frag} {x C : Addr} {ox : Obj} {od : Option Obj} {name : Str} {T id : String} {args : List Value} {Q : Option Value → Shared → Prop} (Xk : K.In s.heap) (I : PySem.W.InstAt s.heap x ox C od)
    (hs : PySem.W.findIn K (.ref C) name = some (some (.builtin id))) (S : Slot T name id)
    (h : wpAny M A (call (.builtin id) (.ref x :: args)) (fun v => Q (some v)) E s) : wpAny M A (callSpecialIfBound? (.ref x) name args) Q E s := by
  simp only [callSpecialIfBound?, bindSpecialIfBound?]
  refine wpAny_holding (wpAny_bind (wpAny_bind (wpAny_bind (I.type.here ((PySem.W.looks_findIn Xk hs).here ?_)))))
  simp only [S.bind]
  refine wpAny_bind (wpAny_askSetting (wpAny_ite ?_))
  have fin : wpAny M A (call (.builtin id) ([.ref x] ++ args) >>= fun v => pure (some v)) Q E s := wpAny_bind (wpAny_mono h (fun v s' h' => wpAny_pure h') fun _ _ h' => h')
  split
  · exact wpAny_bind (wpAny_pure (wpAny_pure fin))
  · exact wpAny_tryCatch (wpAny_bind (wpAny_pure (wpAny_pure fin)))
theorem check_slotK {M : Model} {A : Around} {E : Value → Shared → Prop} {s : Shared} {K : PySem.W.Frag} {x C : Addr} {ox : Obj} {od : Option Obj} {id owner n : String} {rest : List Value} {Q : Unit → Shared → Prop} (Xk : K.In s.heap) (I : PySem.W.InstAt s.heap x ox C od) (hk : builtinKind id = some .slot) (hs : splitId id = some (owner, n))
    (ha : argsOk id ⟨.ref x :: rest, []⟩) (hsub : PySem.W.subIn K (.ref C) (.type owner) = some true) (hq : Q () s) : wpAny M A (checkBuiltinCall id ⟨.ref x :: rest, []⟩) Q E s := by
  simp only [checkBuiltinCall, hk, hs]
  refine wpAny_bind ?_
  unfold isInstance
  refine wpAny_bind (I.type.here ?_)
  refine (PySem.W.looks_subIn Xk hsub).here ?_
  cases hsig : Manifest.signature? id with
  | none => exact wpAny_pure hq
  | some sig =>
    simp only [argsOk, hsig] at ha
    have h2 : Bind.checkArgs id sig ⟨.ref x :: rest, []⟩ = pure () := ha
    show wpAny M A (Bind.checkArgs id sig ⟨.ref x :: rest, []⟩) Q E _
    rw [h2]; exact wpAny_pure hq
/-- != of a class with its own ==, that leaves __ne__ to object -/
theorem op_own_ne (M : Meth X.K C "__eq__" f) (hne : PySem.W.findIn X.K (.ref C) "__ne__" = some (some (.builtin "object.__ne__"))) (hob : PySem.W.subIn X.K (.ref C) (.type "object") = some true)
    (F : FnOk X.prog X.w X.K X.mg X.base CX0 k f fd ps sp) (hr : Room (k + 1) X.A) (hb : Binds X.K fd ps []) : OpR X (compareOp .NotEq) (rOwnB C sp not) := by
  intro pins s σ H x y v u Q I rx ry h
  obtain ⟨a, b, dx, dy, fs, gs, rfl, rfl, ha, hb', q⟩ := h
  cases rx
  cases ry
  obtain ⟨mA, J, _⟩ := ins_get I.hok ha
  obtain ⟨mB, J', _⟩ := ins_get I.hok hb'
  obtain ⟨od, J, _⟩ := J.look
  obtain ⟨od', J', _⟩ := J'.look
  obtain ⟨m, hF⟩ := I.fr
  have Xk := I.kIn
  show wpAny (model X.prog X.w) X.A (richCompare .NotEq (.ref a) (.ref b)) (EP X pins σ Q) X.xe s
  have r2 : Vals [V.ref a, V.ref b] [Value.ref a, Value.ref b] := .cons rfl (.cons rfl .nil)
  have e0 : Env0 X.prog X.w X.K X.mg X.base X.A.in1 X.stack s H := I.env0.in1
  have hl : (([.ref a, .ref b] : List Value) ++ []).length = ps.length := by
    have := F.len _ _ _ _ q
    simpa using this
  -- the own ==, one deeper
  have own : wpAny (model X.prog X.w) X.A.in1 (call (.ref f) [.ref a, .ref b]) (EP X pins σ (fun v H' => ∃ t, v = .bl t ∧ Q (.bl (!t)) H')) X.xe s := by
    refine wpAny_call (codeAny_mono (F.run X.A.in1 X.stack s H ⟨[.ref a, .ref b], []⟩ [.ref a, .ref b] [.ref a, .ref b] _ E0 hr.in1 e0 (by
      have := hb s [.ref a, .ref b] I.kIn hl
      simpa using this) r2 q) fun r s' hq => ?_)
    cases r with
    | error e => exact pass0 pins σ H s e s' I hq
    | ok fl =>
      cases fl with
      | ret w => exact I.after hq
      | next => exact False.elim hq
      | brk => exact False.elim hq
      | cont => exact False.elim hq
  have neq : wpAny (model X.prog X.w) X.A.in1 (Builtin.«object.__ne__» ⟨[.ref a, .ref b], []⟩) (fun fin s' => ∃ t, fin = .done (.ret (.bool t)) ∧ EP X pins σ Q (.bool t) s') X.xe s := by
    unfold Builtin.«object.__ne__»
    refine wpAny_bind (m := slotArgs "__ne__" 1 ⟨[.ref a, .ref b], []⟩) ?_
    refine (show wpAny _ _ (pure (Value.ref a, [Value.ref b])) _ _ _ from wpAny_pure ?_)
    refine wpAny_bind (wpAny_cRoomFor hr.in1.units0 ?_)
    refine wpAny_bind (PySem.W.ifBound_K Xk J M.at_ M.fn (wpAny_mono own (fun v s' hv => ?_) fun _ _ e => e))
    obtain ⟨z, H', I', rz, t, rfl, q'⟩ := hv
    cases rz
    refine wpAny_bind (wpAny_truthy_bool ?_)
    exact wpAny_pure ⟨!t, rfl, .bl (!t), H', I', rfl, q'⟩
  have one : wpAny (model X.prog X.w) X.A (tryCompare (.ref a) "__ne__" (.ref b)) (fun r s' => ∃ v, r = some v ∧ EP X pins σ Q v s') X.xe s := by
    unfold tryCompare
    refine wpAny_bind (ifBoundB_K Xk J hne slot_ne (wpAny_call (codeAny_call_builtin slot_ne.plain PySem.F.cmpEntry_ne (check_slotK Xk J PySem.F.cmpKind_ne PySem.F.cmpSplit_ne (PySem.F.cmpArgs_ne _ _) hob ?_))))
    refine wpAny_mono neq (fun fin s' hv => ?_) fun e s' z => z
    obtain ⟨t, rfl, q'⟩ := hv
    exact wpAny_pure ⟨_, rfl, q'⟩
  unfold richCompare
  simp only [oneThing_ref]
  refine wpAny_holding (wpAny_bind (wpAny_cRoomFor hr.units0 ?_))
  refine wpAny_bind (J.type.here (wpAny_bind (J'.type.here ?_)))
  simp only [bne_self_eq_false, Bool.false_eq_true, if_false]
  refine wpAny_bind (wpAny_pure ?_)
  simp only [Bool.false_eq_true, if_false]
  refine wpAny_bind (wpAny_mono one (fun r s' z => ?_) fun _ _ e => e)
  obtain ⟨v, rfl, hq⟩ := z
  exact wpAny_pure hq
end
end Nw

namespace Nw
open PySem PySem.Spec PyProof.Rows L2
/-! ### an exception that was caught and is held as a value -/
def ExV (cls : Value) (d : Option Addr) (a : Addr) : HO := .ext fun h => ∃ (oe : Obj) (vs : Array Value), h.get? a = some oe ∧ Zc cls d oe ∧ oe.data = .fields vs
theorem exv_at {P : Program} {w : World} {H : Hp} {h : Heap} {cls : Value} {d : Option Addr} {a : Addr} (hok : HOk P w H h) (e : H a = some (ExV cls d a)) : ∃ (oe : Obj) (vs : Array Value), h.get? a = some oe ∧ Zc cls d oe ∧ oe.data = .fields vs := by
  have z : ObjOk P w H h a (ExV cls d a) := hok a _ e
  exact z.1
section
variable {X : Cx} {pins : List (Addr × Obj)} {σ : L2.St} {H : Hp} {s : Shared}
theorem inv_held {a : Addr} {oe : Obj} {vs : Array Value} {cls : Value} {d : Option Addr} (I : Inv X pins σ H s) (at_ : s.heap.get? a = some oe) (z : Zc cls d oe) (fl : oe.data = .fields vs) (fr : H a = none) (young : X.s_0.heap.get? a = none)
    (nl : a ≠ X.env.locals) (np : ∀ p ∈ X.pn ++ pins, p.1 ≠ a) : Inv X pins σ (upd H a (ExV cls d a)) s := by
  have nc : ∀ x c, X.env.cells.lookup x = some c → c ≠ a := fun x c e q => by
    obtain ⟨v, o, ho, hd⟩ := I.cell x c e
    rw [q, at_] at ho
    cases ho
    rw [fl] at hd
    cases hd
  refine ⟨I.ok, I.os, I.bare, { I.base with free := fun b o e n hx => ?_, tups := fun b xs e => ?_, frzs := fun b o u e => ?_, tbls := fun b ps e => ?_ }, I.loc, I.cell, ?_, fun x c e => ?_, fun p hp => ?_, ?_, I.len⟩
  · rw [upd_ne fun q => by rw [q, young] at e; cases e]
    exact I.base.free b o e n hx
  · have q := I.base.tups b xs e
    rw [upd_ne (ne_of_none q fr)]
    exact q
  · have q := I.base.frzs b o u e
    rw [upd_ne (ne_of_none q fr)]
    exact q
  · obtain ⟨more, q⟩ := I.base.tbls b ps e
    exact ⟨more, by rw [upd_ne (ne_of_none q fr)]; exact q⟩
  · rw [upd_ne nl.symm]
    exact I.free
  · rw [upd_ne (nc x c e)]
    exact I.freeC x c e
  · obtain ⟨p1, p2, p3⟩ := I.pin p hp
    exact ⟨p1, by rw [upd_ne (np p hp)]; exact p2, p3⟩
  · exact I.hok.laidN (fun _ _ q => q) fr ⟨⟨oe, vs, at_, z, fl⟩, ⟨oe, at_⟩, fun _ _ ⟨o, v, q, r⟩ k => ⟨o, v, k o q, r⟩⟩
end
/-- behind the suite the caught one stands as a value -/
def keepD (i : Nat) (a : Addr) (cls : Value) (d : Option Addr) (D : Ends) : Ends where
  nx := fun σ H => D.nx (σ.set i none) (upd H a (ExV cls d a))
  rt := fun v H => D.rt v (upd H a (ExV cls d a))
  bk := fun σ H => D.bk (σ.set i none) (upd H a (ExV cls d a))
  ct := fun σ H => D.ct (σ.set i none) (upd H a (ExV cls d a))
/-- what 'except c as n: suite' wishes, the exception being kept; one of another class isn't raised there -/
def wKeep (K : PySem.W.Frag) (c : Value) (i : Nat) (ts : Addr → Value → Option Addr → TS) (D : Ends) : WX := fun cls d σ H =>
  PySem.W.exmOne K cls c = some true ∧ ∀ a, H a = none → ts a cls d (keepD i a cls d D) (σ.set i (some (.ref a))) H
section
variable {X : Cx} {x n : Str} {c : Value} {i : Nat} {body suite : List Stmt} {b₀ : Stmt} {np pos pos' : Pos} {tb : WX → TS} {ts : Addr → Value → Option Addr → TS}
/-- an object in the air is none that stood at the call, no frame, no pinned one -/
structure Apart (X : Cx) (pins : List (Addr × Obj)) (a : Addr) : Prop where
  young : X.s_0.heap.get? a = none
  nl : a ≠ X.env.locals
  nf : a ∉ X.fs
  np : ∀ p ∈ X.pn ++ pins, p.1 ≠ a
theorem apart_of {pins : List (Addr × Obj)} {σ : L2.St} {H : Hp} {sI : Shared} {B h : Heap} {a : Addr} {Z : Obj → Prop} (hst : X.stack = X.env :: X.outer) (hfm : X.env.frame = some X.env.locals) (hex : X.ex = []) (I : Inv X pins σ H sI)
    (nb : ∀ b o, sI.heap.get? b = some o → b ∉ frs X.stack → B.get? b = some o) (fl : HandSPX.FlyingZ B (X.env :: X.outer) a Z h) : Apart X pins a := by
  obtain ⟨oe, vs, e1, e2, e3⟩ := fl.there
  have nB : B.get? a = none := fl.2.1
  have off : a ∉ frs (X.env :: X.outer) := fun hm => by
    obtain ⟨_, o', e', nofld⟩ := fl.2.2.1.mem hm
    rw [e1] at e'
    cases e'
    exact nofld _ e3
  have gone : ∀ o, sI.heap.get? a ≠ some o := fun o e => by
    have z := nb a o e (by rw [hst]; exact off)
    rw [nB] at z
    cases z
  refine ⟨?_, fun q => off (List.mem_filterMap.mpr ⟨X.env, List.mem_cons_self, by rw [hfm, q]⟩), fun hm => ?_, fun p hp q => ?_⟩
  · cases e : X.s_0.heap.get? a with
    | none => rfl
    | some o =>
      obtain ⟨o', z⟩ := I.base.there a o e (by rw [hex]; exact fun q => nomatch q)
      exact absurd z (gone o')
  · obtain ⟨ev, he, q⟩ := List.mem_filterMap.mp hm
    exact off (List.mem_filterMap.mpr ⟨ev, List.mem_cons_of_mem _ he, q⟩)
  · have z := (I.pin p hp).1
    rw [q] at z
    exact gone _ z
/-- try: body / except x as n: suite; the exception is kept behind it -/
theorem ps_try_keep (hst : X.stack = X.env :: X.outer) (hfm : X.env.frame = some X.env.locals) (hex : X.ex = []) (hN : X.N.Nodup) (hi : X.N[i]? = some n) (hln : X.env.kindOf n = some .local) (hc : Names X x c)
    (hb : ∀ (W : WX) (pn : List (Addr × Obj)) (xe : Value → Shared → Prop), Takes (X.tr pn xe) W → PSs (X.tr pn xe) body (tb W))
    (hsu : ∀ (a : Addr) (oe : Obj) (cls : Value) (d : Option Addr) (pn : List (Addr × Obj)), Zc cls d oe → (∃ vs, oe.data = .fields vs) → PSs (X.suite a ((a, oe) :: pn)) (b₀ :: suite) (ts a cls d)) :
    PS X (.Try body [.ExceptHandler (some (.Name x np)) (some n) (b₀ :: suite) pos'] [] [] pos) (fun D σ H => tb (wKeep X.K c i ts D) D σ H) := by
  refine ⟨fun pins s σ H D I wish => ?_⟩
  have hA : X.A.frames = some (X.env :: X.outer) := by rw [I.ok.frames, hst]
  -- what is raised in the body comes here
  have land : Takes (X.tr (X.pn ++ pins) fun e s1 => wpAny (model X.prog X.w) X.A (noteFrame e X.env) (fun _ s2 => wpAny (model X.prog X.w) X.A (setFlight e none) (fun _ s3 =>
      wpAny (model X.prog X.w) X.A (handleBy e X.env [.ExceptHandler (some (.Name x np)) (some n) (b₀ :: suite) pos']) (SP X pins D) X.xe s3) X.xe s2) X.xe s1) (wKeep X.K c i ts D) := by
    rintro u sx ⟨a, B, sI, pins', σx, Hx, cls, d, rfl, Ix, nb, up, sky, na, os, ag, hm, hyes⟩
    have J : Inv X pins σx Hx sI := Ix.ofTry I.ok
    show wpAny (model X.prog X.w) X.A (noteFrame (.ref a) X.env) _ _ _
    have sky2 : Sky B (X.env :: X.outer) a (Zc cls d) X.env.locals sx.heap := hst ▸ sky
    refine Sky.land Zc.steady hA hfm sky2 fun hA1 fl1 up1 => ?_
    have ap := apart_of hst hfm hex J nb fl1
    have J1 : Inv X pins σx Hx { sx with heap := hA1 } := J.landed nb fl1.1 (up.trans up1) os ag
    obtain ⟨o1, f1, g1, z1, d1⟩ := fl1.there
    have S1 := J1.suite g1 d1 na ap.nl ap.nf
    refine wpAny_handleBy_cons (codeAny_handlers_test ?_) (fun q => nomatch q)
    have LC : PySem.W.Looks (model X.prog X.w) hA1 (typeOf (.ref a)) cls := fun A1 Q1 E1 sh kk q => wpAny_typeOf_ref (kk _ _ g1) (by rw [z1.1]; exact q)
    have LM := PySem.W.exm_one (M := model X.prog X.w) (J1.kIn) LC hm
    have clause : ∀ {Q1 : Value → Shared → Prop} {E1 : Value → Shared → Prop}, Q1 c { sx with heap := hA1 } → wpAny (model X.prog X.w) (X.A.mark (some (.ref a))) (eval (.Name x np) X.env) Q1 E1 { sx with heap := hA1 } := fun {Q1 E1} q => by
      obtain ⟨hg, hdb, hm | ⟨hm, hv, hnn⟩⟩ := hc
      · exact ld_glob (X := X.suite a ((a, o1) :: (X.pn ++ pins))) S1 hg hm q hdb
      · exact ld_blt (X := X.suite a ((a, o1) :: (X.pn ++ pins))) S1 hg hm hv q hnn hdb
    refine clause (LM.here (codeAny_handlers_suite_as (HandSPX.lands_againZ fl1 fun hA2 fl2 up2 => ?_)))
    have J2 : Inv X pins σx Hx { sx with heap := hA2 } := J.landed nb fl2.1 ((up.trans up1).trans up2) os ag
    obtain ⟨o2, f2, g2, z2, d2⟩ := fl2.there
    refine store_ok (X := X.suite a ((a, o2) :: (X.pn ++ pins))) (v := .ref a) (J2.suite g2 d2 na ap.nl ap.nf) hN hi (.inl hln) rfl (fun s5 S5 => ?_) (.inr hln)
    refine wpAny_mono ((hsu a o2 cls d (X.pn ++ pins) z2 ⟨_, d2⟩).run [] s5 _ Hx _ S5 (hyes a na)) (fun f s6 hsp => ?_) (fun _ _ z => False.elim z)
    have out : ∀ {σ6 : L2.St} {H6 : Hp} {Q1 : Shared → Prop}, Inv (X.suite a ((a, o2) :: (X.pn ++ pins))) [] σ6 H6 s6 → (∀ s7, Inv X pins (σ6.set i none) (upd H6 a (ExV cls d a)) s7 → Q1 s7) →
        wpAny (model X.prog X.w) X.A (do bindName X.env n .none; unbindBehindTheSuite X.env n pos') (fun _ s7 => Q1 s7) X.xe s6 := fun {σ6 H6 Q1} S6 hq => by
      obtain ⟨p1, p2, _⟩ := S6.pin (a, o2) (List.mem_append_left _ List.mem_cons_self)
      exact gone_ok (inv_held (S6.unsuite I.ok) p1 z2 d2 p2 ap.young ap.nl ap.np) hN hi hln hq
    cases f with
    | next => exact let ⟨_, _, S6, q6⟩ := hsp; out S6 fun s7 J7 => ⟨_, _, J7, q6⟩
    | brk => exact let ⟨_, _, S6, q6⟩ := hsp; out S6 fun s7 J7 => ⟨_, _, J7, q6⟩
    | cont => exact let ⟨_, _, S6, q6⟩ := hsp; out S6 fun s7 J7 => ⟨_, _, J7, q6⟩
    | ret u => exact let ⟨_, _, _, S6, r6, q6⟩ := hsp; out S6 fun s7 J7 => ⟨_, _, _, J7, r6, q6⟩
  refine wpAny_Try_except (wpAny_mono ((hb (wKeep X.K c i ts D) _ _ land).run [] s σ H D (I.toTry _) wish) (fun f s1 hsp => ?_) (fun e s1 he => he))
  cases f with
  | next => exact let ⟨σ1, H1, J1, q⟩ := hsp; wpAny_execs_nil ⟨σ1, H1, J1.ofTry I.ok, q⟩
  | brk => exact let ⟨σ1, H1, J1, q⟩ := hsp; ⟨σ1, H1, J1.ofTry I.ok, q⟩
  | cont => exact let ⟨σ1, H1, J1, q⟩ := hsp; ⟨σ1, H1, J1.ofTry I.ok, q⟩
  | ret u => exact let ⟨v, σ1, H1, J1, r, q⟩ := hsp; ⟨v, σ1, H1, J1.ofTry I.ok, r, q⟩
end
/-! ### isinstance of such a value, its fields -/
/-- what isinstance and fields lean on, of an own exception class -/
structure ExF (K : PySem.W.Frag) (C : Addr) : Prop where
  ga : PySem.W.findIn K (.ref C) "__getattribute__" = some (some (.builtin "BaseException.__getattribute__"))
  gt : PySem.W.findIn K (.ref C) "__getattr__" = some none
  sb : PySem.W.subIn K (.ref C) (.type "BaseException") = some true
  hd : PySem.W.hasDictIn K C = true
  cl : PySem.W.findIn K (.ref C) "__class__" = some (some (.builtin "object.__class__"))
  sp : PySem.W.specialIn K (.builtin "object.__class__") "__get__" = some (some (.builtin "getset_descriptor.__get__"))
  tk : PySem.W.takesIn K (.builtin "object.__class__") = some true
  mr : PySem.W.mroIn K C (.type "object") = some true
def exfB (K : PySem.W.Frag) (C : Addr) : Bool :=
  decide (PySem.W.findIn K (.ref C) "__getattribute__" = some (some (.builtin "BaseException.__getattribute__"))) && (decide (PySem.W.findIn K (.ref C) "__getattr__" = some none) && (decide (PySem.W.subIn K (.ref C) (.type "BaseException") = some true) &&
  (PySem.W.hasDictIn K C && (decide (PySem.W.findIn K (.ref C) "__class__" = some (some (.builtin "object.__class__"))) && (decide (PySem.W.specialIn K (.builtin "object.__class__") "__get__" = some (some (.builtin "getset_descriptor.__get__"))) &&
  (decide (PySem.W.takesIn K (.builtin "object.__class__") = some true) && decide (PySem.W.mroIn K C (.type "object") = some true)))))))
theorem exfB_ok {K : PySem.W.Frag} {C : Addr} (h : exfB K C = true) : ExF K C := by
  unfold exfB at h
  simp only [Bool.and_eq_true, decide_eq_true_eq] at h
  obtain ⟨a, b, c, d, e, f, g, i⟩ := h
  exact ⟨a, b, c, d, e, f, g, i⟩
theorem clsIn_of {K : PySem.W.Frag} {C : Addr} (h : PySem.W.hasDictIn K C = true) : (PySem.W.clsIn K C).isSome = true := by
  obtain ⟨cd, hc, _⟩ := PySem.W.any_some h
  rw [hc]
  rfl
/-- the object at a of the class at C, as the library tells of instances -/
theorem exv_inst {X : Cx} {pins : List (Addr × Obj)} {σ : L2.St} {H : Hp} {s : Shared} {a C : Addr} {d : Option Addr} (I : Inv X pins σ H s) (e : H a = some (ExV (.ref C) d a)) (hd : ∀ dx, d = some dx → ∃ fs, H dx = some (.xd fs)) :
    ∃ ox od, PySem.W.InstAt s.heap a ox C od ∧ (∀ dx fs, d = some dx → H dx = some (.xd fs) → ∃ o, od = some o ∧ ∀ f, ∃ u, PySem.W.lookIn f o = some u ∧ RelO (fs.lookup f) u) := by
  obtain ⟨oe, vs, g, z, fl⟩ := exv_at I.hok e
  have nc : PySem.W.notCls oe = true := by
    unfold PySem.W.notCls
    rw [fl] <;> rfl
  cases d with
  | none => exact ⟨oe, none, ⟨g, z.1, nc, by rw [z.2]; trivial⟩, fun dx fs q => nomatch q⟩
  | some dx =>
    obtain ⟨fs, hfs⟩ := hd dx rfl
    have hx : ObjOk X.prog X.w H s.heap dx (.xd fs) := I.hok dx _ hfs
    obtain ⟨mA, hns, hr⟩ := hx
    obtain ⟨o, ho, look⟩ := lookIn_ns hns
    refine ⟨oe, some o, ⟨g, z.1, nc, by rw [z.2]; exact ho⟩, fun dx' fs' q q' => ?_⟩
    cases q
    rw [hfs] at q'
    cases q'
    exact ⟨o, rfl, fun f => ⟨mA f, look f, hr f⟩⟩
def rIsV (K : PySem.W.Frag) : List V → Hp → VK → Prop := fun xs H Q => ∃ (a C : Addr) (d : Option Addr) (c : V) (u : Value) (b : Bool), xs = [.ref a, c] ∧ H a = some (ExV (.ref C) d a) ∧ (∀ dx, d = some dx → ∃ fs, H dx = some (.xd fs)) ∧ ExF K C ∧ ClsV c u ∧ PySem.W.kitOne K (.ref C) u = some b ∧ Q (.bl b) H
theorem call_isV {X : Cx} : CallR X (.builtin "isinstance") (rIsV X.K) := by
  intro pins s σ H xs us Q I r h
  obtain ⟨a, C, d, c, u, b, rfl, e, hd, F, k, kit, q⟩ := h
  obtain ⟨u1, u2, rfl, r1, r2⟩ := vals2 r
  have e2 := k.eq r2
  subst e2
  cases r1
  obtain ⟨ox, od, J, _⟩ := exv_inst I e hd
  exact PySem.W.kia_one (PySem.W.kitx_exc (clsIn_of F.hd) F.ga F.gt F.sb F.cl F.sp F.tk F.mr) I.kIn J kit (fun z => nomatch z) fun tk => ⟨.bl b, H, I.tok tk, rfl, q⟩
/-- what may be anything: a plain value or such a one -/
def rIsA (K : PySem.W.Frag) : List V → Hp → VK → Prop := fun xs H Q => rIsi K xs H Q ∨ rIsV K xs H Q
theorem call_isA {X : Cx} : CallR X (.builtin "isinstance") (rIsA X.K) := by
  intro pins s σ H xs us Q I r h
  rcases h with h | h
  · exact call_isi pins s σ H xs us Q I r h
  · exact call_isV pins s σ H xs us Q I r h
/-- e.f of such a value -/
def tExF (K : PySem.W.Frag) (f : Str) (te : TE) : TE := fun σ H Q => te σ H fun x H1 => ∃ (a C dx : Addr) (fs : List (Str × V)) (v : V), x = .ref a ∧ H1 a = some (ExV (.ref C) (some dx) a) ∧ H1 dx = some (.xd fs) ∧ ExF K C ∧ PySem.W.findIn K (.ref C) f = some none ∧ fs.lookup f = some v ∧ Q v H1
theorem pe_exf {X : Cx} {e : Expr} {te : TE} {pos : Pos} {f : Str} (he : PE X e te) (hb : attributeBase e f X.env (eval e X.env) = eval e X.env := by rfl) : PE X (.Attribute e f pos) (tExF X.K f te) := by
  refine ⟨fun pins s σ H Q I h => ?_⟩
  refine attr_of hb (thn (he.run pins s σ H _ I h) fun u s1 ⟨x, H1, I1, rx, a, C, dx, fs, v, ex, ea, ed, F, hno, l, q⟩ => ?_)
  subst ex
  cases rx
  obtain ⟨ox, od, J, hl⟩ := exv_inst I1 ea fun dx' z => by cases z; exact ⟨fs, ed⟩
  obtain ⟨o, rfl, look⟩ := hl dx fs rfl ed
  obtain ⟨m, h1, h2⟩ := look f
  rw [l] at h2
  obtain ⟨u, hu, ru⟩ := RelO.some_of (v := v) (o := m) h2
  exact HandSPX.exc_get I1.kIn J F.ga F.gt F.sb (PySem.W.findObj_own F.hd hno rfl (by rw [h1, hu])) (handed_of ru) ⟨v, H1, I1.tok _, ru, q⟩
end Nw

namespace Nw
open PySem PySem.Spec PyProof.Rows L2
/-! ### own exception classes with fields: what the head tells of them -/
def oexC (C : Addr) (mro : List Value) (sl : List (Option Value)) : Bool := match mro, sl with
  | .ref c :: bm, [_, _, _, _, some (.builtin n), _] => decide (c = C) && (decide (n = "ValueError.__new__") && PySem.HandSPX.refsVE bm)
  | _, _ => false
def oexO (K : PySem.W.Frag) (C : Addr) : Bool := match K.lookup C with
  | some ⟨.type t, _, .cls cd, sl⟩ => decide (t = "type") && (cd.hasDict && (!cd.hasDel && oexC C cd.mro sl.toList))
  | _ => false
def oexB (K : PySem.W.Frag) (C : Addr) : Bool := oexO K C && (decide (PySem.W.findIn K (.ref C) "__setattr__" = some (some (.builtin "object.__setattr__"))) &&
  (decide (PySem.W.subIn K (.ref C) (.type "BaseException") = some true) && (decide (PySem.W.typeIn K (.ref C) = some (.type "type")) && PySem.W.keepIn K (.ref C))))
theorem oexB_ok {K : PySem.W.Frag} {C : Addr} (h : oexB K C = true) : OexC K C := by
  unfold oexB at h
  simp only [Bool.and_eq_true, decide_eq_true_eq] at h
  obtain ⟨h0, h1, h2, h3, h4⟩ := h
  refine ⟨?_, h1, h2, h3, h4⟩
  unfold oexO at h0
  split at h0
  · rename_i t dd cd sl hl
    simp only [Bool.and_eq_true, decide_eq_true_eq, Bool.not_eq_true'] at h0
    obtain ⟨rfl, hd, hdel, hc⟩ := h0
    unfold oexC at hc
    split at hc
    · rename_i c bm k0 k1 k2 k3 n k5 hm hs
      simp only [Bool.and_eq_true, decide_eq_true_eq] at hc
      obtain ⟨rfl, rfl, hb⟩ := hc
      obtain ⟨nm, bs, mro, ns, qn, hdd, sn, sub, ab, col, del⟩ := cd
      dsimp only at hm hd hdel
      subst hm hd hdel
      obtain ⟨ls⟩ := sl
      dsimp only at hs
      subst hs
      exact ⟨nm, qn, ns, bs, bm, sn, sub, ab, col, dd, k0, k1, k2, k3, k5, hl, hb⟩
    · cases hc
  · cases h0
/-- the class above them: its own __init__ is ValueError's -/
structure OeI (K : PySem.W.Frag) (C : Addr) : Prop where
  sp : PySem.W.specialIn K (.ref C) "__getattribute__" = some (some (.builtin "type.__getattribute__"))
  rd : PySem.W.readsIn K C (.type "type") = true
  at_ : PySem.W.findCls K (.ref C) (.type "type") "__init__" = some (.val (.builtin "ValueError.__init__"))
def veiB : Option PySem.W.CFound → Bool
  | some (.val (.builtin n)) => decide (n = "ValueError.__init__")
  | _ => false
theorem veiB_ok {o : Option PySem.W.CFound} (h : veiB o = true) : o = some (.val (.builtin "ValueError.__init__")) := by
  unfold veiB at h
  split at h
  · rw [of_decide_eq_true h]
  · cases h
def oeiB (K : PySem.W.Frag) (C : Addr) : Bool := decide (PySem.W.specialIn K (.ref C) "__getattribute__" = some (some (.builtin "type.__getattribute__"))) && (PySem.W.readsIn K C (.type "type") &&
  veiB (PySem.W.findCls K (.ref C) (.type "type") "__init__"))
theorem oeiB_ok {K : PySem.W.Frag} {C : Addr} (h : oeiB K C = true) : OeI K C := by
  unfold oeiB at h
  simp only [Bool.and_eq_true, decide_eq_true_eq] at h
  exact ⟨h.1, h.2.1, veiB_ok h.2.2⟩
/-- C0.__init__(self, ..) -/
theorem pe_oeinit {X : Cx} {c : Str} {C0 : Addr} {e : Expr} {es : List Expr} {ta : TA} {p1 p2 pos : Pos} {pl : Sem Bool} (F : OeI X.K C0) (hm : X.mg c = some (.ref C0)) (ha : PA X (e :: es) ta) (hg : Gl X c := by rfl) (hdb : (c == ("__debug__" : Str)) = false := by decide)
    (hc : eval (.Call (.Attribute (.Name c p1) "__init__" p2) (e :: es) [] pos) X.env = (do
      let cv ← eval (.Name c p1) X.env
      standAt p2.atName
      let (g, fst) ← holding [cv] (getMethod cv "__init__" pl)
      callWith pos g fst (backTo pos (starEach (e :: es) X.env)) (backToKw pos (keywordEach [] X.env))) := by rfl)
    (hst : starEach (e :: es) X.env = (false, eval e X.env) :: starEach es X.env := by rfl) (hpl : (backTo pos (starEach es X.env)).any (·.1) = false := by rfl) :
    PE X (.Call (.Attribute (.Name c p1) "__init__" p2) (e :: es) [] pos) (tVeI X.K ta) := by
  refine ⟨fun pins s σ H Q I h => PySem.W.methodCall_KW (ld_glob I hg hm ?_ hdb) hc⟩
  refine PySem.W.method_cls I.kIn F.sp (PySem.W.cls_value I.kIn F.rd F.at_ (by first | rfl | decide +kernel) ?_)
  have I0 := I.tok (s.toks + 1)
  refine PyProof.Rows.callWith_method1 (thn (ha.run pos pins _ σ H _ I0 h) fun us s1 ⟨vs, H1, I1, rv, a, C, ws, ev, hl, T, ea, q⟩ => ?_) hst hpl
  subst ev
  cases rv with
  | @cons _ u0 _ ur ra rw' =>
    obtain rfl : u0 = Value.ref a := ra
    refine oinit_ok T I1 ea ?_ fun s' J => ⟨.non, H1, J, rfl, q⟩
    rw [← Paired.length rw', sizeLine_eq]
    omega
/-! ### an __init__ with one field, with two -/
def spX1 (K : PySem.W.Frag) (C : Addr) (f : Str) : Sp := fun vs H Q _ => ∃ (a : Addr) (v : V), vs = [.ref a, v] ∧ H a = some (exo a C none) ∧ ∀ dx, H dx = none → dx ≠ a → Q .non (upd (upd H dx (exd dx [(f, v)])) a (exo a C (some dx)))
def spX2 (K : PySem.W.Frag) (C : Addr) (f g : Str) : Sp := fun vs H Q _ => ∃ (a : Addr) (v w : V), vs = [.ref a, v, w] ∧ H a = some (exo a C none) ∧ ∀ dx, H dx = none → dx ≠ a → Q .non (upd (upd H dx (exd dx [(g, w), (f, v)])) a (exo a C (some dx)))
theorem upd_upd {H : Hp} {a : Addr} {o o' : HO} : upd (upd H a o) a o' = upd H a o' := by
  funext b
  by_cases h : b = a
  · rw [h, upd_same, upd_same]
  · rw [upd_ne h, upd_ne h, upd_ne h]
theorem upd_comm {H : Hp} {a b : Addr} {o u : HO} (h : a ≠ b) : upd (upd H a o) b u = upd (upd H b u) a o := by
  funext c
  by_cases h1 : c = a
  · rw [h1, upd_ne h, upd_same, upd_same]
  · by_cases h2 : c = b
    · rw [h2, upd_same, upd_ne h.symm, upd_same]
    · rw [upd_ne h2, upd_ne h1, upd_ne h1, upd_ne h2]
theorem made_heap {H1 : Hp} {a dx C : Addr} {fs : List (Str × V)} (na : H1 a = none) (ne : dx ≠ a) :
    upd (del (upd (upd (upd H1 a (exo a C none)) dx (exd dx fs)) a (exo a C (some dx))) a) dx (.xd fs) = upd H1 dx (.xd fs) := by
  funext b
  by_cases h : b = dx
  · rw [h, upd_same, upd_same]
  · rw [upd_ne h, upd_ne h]
    by_cases h2 : b = a
    · rw [h2, del_same, na]
    · rw [del_ne h2, upd_ne h2, upd_ne h, upd_ne h2]
/-- what X(e) asks behind its argument -/
theorem mk1 {K : PySem.W.Frag} {C : Addr} {f : Str} {v : V} {H1 : Hp} {Q : XK} (k : ∀ dx, H1 dx = none → Q (.ref C) (some dx) (upd H1 dx (.xd [(f, v)]))) :
    [v].length ≤ 1000 ∧ ∀ a, H1 a = none → spX1 K C f (.ref a :: ([v] ++ [])) (upd H1 a (exo a C none))
      (fun w H2 => w = .non ∧ ∃ (d : Addr) (fs : List (Str × V)), H2 a = some (exo a C (some d)) ∧ H2 d = some (exd d fs) ∧ H1 d = none ∧ Q (.ref C) (some d) (upd (del H2 a) d (.xd fs))) (fun _ _ _ => False) := by
  refine ⟨by simp, fun a na => ⟨a, v, rfl, upd_same, fun dx hdx ne => ⟨rfl, dx, _, upd_same, by rw [upd_ne ne]; exact upd_same, ?_, ?_⟩⟩⟩
  · rw [upd_ne ne] at hdx
    exact hdx
  · rw [made_heap na ne]
    refine k dx ?_
    rw [upd_ne ne] at hdx
    exact hdx
theorem mk2 {K : PySem.W.Frag} {C : Addr} {f g : Str} {v w : V} {H1 : Hp} {Q : XK} (k : ∀ dx, H1 dx = none → Q (.ref C) (some dx) (upd H1 dx (.xd [(g, w), (f, v)]))) :
    [v, w].length ≤ 1000 ∧ ∀ a, H1 a = none → spX2 K C f g (.ref a :: ([v, w] ++ [])) (upd H1 a (exo a C none))
      (fun w H2 => w = .non ∧ ∃ (d : Addr) (fs : List (Str × V)), H2 a = some (exo a C (some d)) ∧ H2 d = some (exd d fs) ∧ H1 d = none ∧ Q (.ref C) (some d) (upd (del H2 a) d (.xd fs))) (fun _ _ _ => False) := by
  refine ⟨by simp, fun a na => ⟨a, v, w, rfl, upd_same, fun dx hdx ne => ⟨rfl, dx, _, upd_same, by rw [upd_ne ne]; exact upd_same, ?_, ?_⟩⟩⟩
  · rw [upd_ne ne] at hdx
    exact hdx
  · rw [made_heap na ne]
    refine k dx ?_
    rw [upd_ne ne] at hdx
    exact hdx
section
variable {X : Cx} {P : Program} {w : World} {K : PySem.W.Frag} {mg : Str → Option Value} {base : Heap} {k : Nat} {f C : Addr} {ps : List Str} {sp : Sp} {E : XK} {x m : Str} {pos ppos apos : Pos} {e o : Expr} {es : List Expr} {ta : TE} {t : TA}
/-- X(e, ..), X an own class with its own __init__ -/
theorem pmk_oexC (O : OexC X.K C) (M : Meth X.K C "__init__" f) (G : Ok X.prog X.w X.K X.mg X.base CX0 k f ps sp) (hr : Room (k + 1) X.A) (hm : X.mg x = some (.ref C)) (ha : PA X (e :: es) t) (hg : Gl X x := by rfl) (hdb : (x == ("__debug__" : Str)) = false := by decide)
    (hst : starEach (e :: es) X.env = (false, eval e X.env) :: starEach es X.env := by rfl) (hpl : (backTo pos (starEach es X.env)).any (·.1) = false := by rfl) : PMk X (.Call (.Name x ppos) (e :: es) [] pos) (tMkO C sp [] t) := by
  obtain ⟨fd, F, b, kp, _⟩ := G.ok
  exact pmk_oex O M.at_ (beq_iff_eq.mp M.fn) F hr b .nil pass0 hg hm ha hdb hst hpl
/-- a def that may let exceptions out -/
theorem ok_ofX {qual : Str} {st : Stmt} {N : List Str} (F : FnAt K x qual st f) (S : FnScope N ps (defScope st))
    (hb : ∀ (kV doc pm : Value) (an : Option Addr) (cdv ct : Value) (us : List Value), us.length = ps.length → bindArgs (PySem.W.fnOf x qual (defArgs st) (defBody st) (defScope st) .none kV doc pm an cdv ct) ⟨us, []⟩ = pure (ps.zip us))
    (len : ∀ vs H Q E, sp vs H Q E → vs.length = ps.length)
    (hbody : ∀ (cdv : Value) (A : Around) (outer : List Env) (s : Shared) (H : Hp) (vs : List V) (Q : VK) (E : XK), Room k (A.deeper (envOfC qual (defScope st) s.heap.objs.size f cdv)) → sp vs H Q E →
      ∃ t, PSs (cxOf (L2.CX P w) P w K mg base N qual (defScope st) f cdv A outer s H E) (defBody st) t ∧ t { nx := fun _ H' => Q .non H', rt := Q } (start N vs) H) : Ok P w K mg base (L2.CX P w) (k + 1) f ps sp := by
  obtain ⟨fd, F⟩ := F
  exact ⟨fd, F.ok S len hbody, F.bindsN hb, F.kp, let ⟨oc, od, _, _, _, _, _, _, _, osl, _, lk, _⟩ := F.ex; ⟨oc, od, osl, lk⟩⟩
/-- where no exception is let out, though a callee may raise at other arguments -/
theorem passN : Passes (L2.CX X.prog X.w) X E0 := passL
/-- in a def's body: what a callee lets out goes out -/
theorem passE {E1 : Value → Shared → Prop} (hs : X.stack = X.env :: X.outer := by rfl) (hf : X.env.frame = some X.env.locals := by rfl) (hex : X.ex = [] := by rfl)
    (hx : X.xe = fun e s' => wpAny (model X.prog X.w) X.A (leaving X.env e) (fun _ s'' => L2.CX X.prog X.w X.outer X.H_0 X.s_0 E e s'') E1 s' := by rfl) : Passes (L2.CX X.prog X.w) X E := passes_call (takes_of hs hf hex hx) fun _ _ _ _ z => z
/-- in a try's body: the wish, for all slots of the right number -/
def EW (n : Nat) (W : WX) : XK := fun cls d H => ∀ σ : L2.St, σ.length = n → W cls d σ H
theorem Takes.len {W : WX} (t : Takes X W) : Takes X (fun cls d σ H => σ.length = X.N.length → W cls d σ H) := fun u s' ⟨a, B, sI, pins, σ, H, cls, d, e, I, nb, up, sky, na, os, ag, h⟩ =>
  t u s' ⟨a, B, sI, pins, σ, H, cls, d, e, I, nb, up, sky, na, os, ag, h I.len⟩
theorem passW {W : WX} (n : Nat) (t : Takes X W) (hn : X.N.length = n := by rfl) : Passes (L2.CX X.prog X.w) X (EW n W) := passes_call (Nw.Takes.len t) fun _ _ σ _ z hl => z σ (hl.trans hn)
theorem pe_callX (G : Ok X.prog X.w X.K X.mg X.base (L2.CX X.prog X.w) k f ps sp) (hr : Room k X.A) (hm : X.mg x = some (.ref f)) (hx : Passes (L2.CX X.prog X.w) X E) (ha : PA X (e :: es) t) (hg : Gl X x := by rfl) (hdb : (x == ("__debug__" : Str)) = false := by decide)
    (hst : starEach (e :: es) X.env = (false, eval e X.env) :: starEach es X.env := by rfl) (hpl : (backTo pos (starEach es X.env)).any (·.1) = false := by rfl) : PE X (.Call (.Name x ppos) (e :: es) [] pos) (tCall sp [] E t) := by
  obtain ⟨fd, F, b, kp, _⟩ := G.ok
  exact pe_call F hr hg hm kp b .nil hx ha hdb hst hpl
theorem pe_makeX (M : Mk X.K C f) (G : Ok X.prog X.w X.K X.mg X.base (L2.CX X.prog X.w) k f ps sp) (hr : Room (k + 1) X.A) (hm : X.mg x = some (.ref C)) (hx : Passes (L2.CX X.prog X.w) X E) (ha : PA X (e :: es) t) (hg : Gl X x := by rfl) (hdb : (x == ("__debug__" : Str)) = false := by decide)
    (hst : starEach (e :: es) X.env = (false, eval e X.env) :: starEach es X.env := by rfl) (hpl : (backTo pos (starEach es X.env)).any (·.1) = false := by rfl) : PE X (.Call (.Name x ppos) (e :: es) [] pos) (tMake C sp [] E t) := by
  obtain ⟨fd, F, b, kp, _⟩ := G.ok
  exact pe_make M F hr hg hm b .nil hx ha hdb hst hpl
/-- a op b by the class's own method, which may raise -/
def rOwnX (C : Addr) (sp : Sp) (E : XK) : R2 := fun x y H Q => ∃ a b dx dy fs gs, x = .ref a ∧ y = .ref b ∧ H a = some (.ins C dx fs) ∧ H b = some (.ins C dy gs) ∧ sp [.ref a, .ref b] H (fun v H' => ∃ p, v = .ref p ∧ Q v H') E
theorem op_ownX {op : Operator} {nm : Str} (M : Meth X.K C nm f) (he : PySem.dunder op.info.2 = nm) (hc : PySem.W.selfFirst X.K C = true) (G : Ok X.prog X.w X.K X.mg X.base (L2.CX X.prog X.w) k f ps sp) (hr : Room k X.A) (hx : Passes (L2.CX X.prog X.w) X E) : OpR X (binaryOp op) (rOwnX C sp E) := by
  intro pins s σ H x y v u Q I rx ry h
  obtain ⟨fd, F, b, kp, _⟩ := G.ok
  obtain ⟨p, q, dx, dy, fs, gs, rfl, rfl, hp, hq, h⟩ := h
  cases rx
  cases ry
  obtain ⟨_, Jp, _⟩ := ins_get I.hok hp
  obtain ⟨_, Jq, _⟩ := ins_get I.hok hq
  obtain ⟨od, Jp, _⟩ := Jp.look
  obtain ⟨od', Jq, _⟩ := Jq.look
  obtain ⟨m, fr⟩ := I.fr
  refine PySem.W.binop_K fr I.ok.mod.kin Jp Jq.type hc (by rw [he]; exact M.at_) M.fn ?_
  refine wpAny_mono (run_fn (vs := [.ref p, .ref q]) (dvs := []) (ds := []) (E := E) F hr b .nil hx I (.cons rfl (.cons rfl .nil)) h) (fun v s' ⟨z, H', I', rz, r, e, k⟩ => ?_) fun _ _ z => z
  subst e
  cases rz
  exact ⟨.ref r, _, I', rfl, k⟩
end
end Nw

namespace Nw
open PySem PySem.Spec PyProof.Rows L2
/-! ### properties: the getter found through its class -/
def propAt (K : PySem.W.Frag) (C : Addr) (m : Str) : Addr := match PySem.W.findIn K (.ref C) m with
  | some (some (.ref p)) => p
  | _ => 0
def propGet (K : PySem.W.Frag) (C : Addr) (m : Str) : Addr := match PySem.W.recIn K (propAt K C m) "property" with
  | some (.ref g :: _) => g
  | _ => 0
def recB (K : PySem.W.Frag) (p g : Addr) : Bool := match PySem.W.recIn K p "property" with
  | some (.ref h :: _) => decide (h = g)
  | _ => false
def propB (K : PySem.W.Frag) (C : Addr) (m : Str) : Bool := decide (PySem.W.findIn K (.ref C) m = some (some (.ref (propAt K C m)))) && (decide (PySem.W.specialIn K (.ref (propAt K C m)) "__get__" = some (some (.builtin "property.__get__"))) &&
  (decide (PySem.W.takesIn K (.ref (propAt K C m)) = some true) && recB K (propAt K C m) (propGet K C m)))
theorem propB_ok {K : PySem.W.Frag} {C : Addr} {m : Str} (h : propB K C m = true) : PropOf K C m (propAt K C m) (propGet K C m) := by
  unfold propB at h
  simp only [Bool.and_eq_true, decide_eq_true_eq] at h
  obtain ⟨h1, h2, h3, h4⟩ := h
  refine ⟨h1, h2, h3, ?_⟩
  unfold recB at h4
  split at h4
  · rename_i g r e
    rw [← of_decide_eq_true h4]
    exact ⟨r, e⟩
  · cases h4
/-- a function by its address -/
def fnAtA (K : PySem.W.Frag) (f : Addr) : He.FnW := match K.lookup f with
  | some ⟨_, _, .func fd, _⟩ => some (fd.name, fd.qualname, fd.params, fd.body, fd.scope, fd.globals, fd.closure, fd.builtins)
  | _ => none
def fnOkA (K : PySem.W.Frag) (f : Addr) (q : Str) : Bool := PySem.W.keepIn K (.ref f) && (match K.lookup f with
  | some ⟨_, _, .func fd, _⟩ => PySem.W.codeIn K fd.code q && (He.dflB K fd.defaults [] && He.kwdB K fd.kwdefaults [])
  | _ => false)
theorem funD_at {K : PySem.W.Frag} {f : Addr} {d : He.DefD} (e : fnAtA K f = d.val) (c : fnOkA K f d.qual = true) : ∃ fd, FunD K d.name d.qual d.params d.body d.scope [] [] f fd := by
  unfold fnOkA at c
  rw [Bool.and_eq_true] at c
  obtain ⟨kp, c⟩ := c
  unfold fnAtA at e
  split at e
  · rename_i oc od fd osl lk
    rw [lk] at c
    obtain ⟨a1, a2, a3, a4, a5, a6, a7, a8, a9, a10, a11, a12, a13, a14, a15⟩ := fd
    unfold He.DefD.val at e
    simp only [Option.some.injEq, Prod.mk.injEq] at e
    obtain ⟨e1, e2, e3, e4, e5, e6, e7, e8⟩ := e
    subst e1 e2 e3 e4 e5 e6 e7 e8
    simp only [Bool.and_eq_true] at c
    exact ⟨_, ⟨oc, od, a8, a9, a10, a11, a12, a13, a14, osl, rfl, lk, c.1, He.dflB_ok c.2.1, He.kwdB_ok c.2.2⟩, kp⟩
  · cases e
/-- the head's look, with the getters and the model's own statics -/
abbrev GetD : Type := (Str × Str) × He.DefD
def getAd (K : PySem.W.Frag) (g : GetD) : Addr := propGet K (He.ga K g.1.1) g.1.2
abbrev AlP : Type := (He.AlD × Bool) × (List He.FnW × Bool)
def frP (n : Nat) (g : Addr → Option Obj) : PySem.W.Frag := He.frT g (cStatics :: He.asD g n)
def obsK (fa : List He.Fa) (fn : List He.DefD) (tf : List He.Defn) (ex : PySem.W.Frag → Bool) (gs : List GetD) (g : Addr → Option Obj) (K : PySem.W.Frag) : AlP :=
  ((He.obsD fa fn K, ex K && He.tabsB g tf K), (gs.map fun d => fnAtA K (getAd K d), gs.all fun d => fnOkA K (getAd K d) d.2.qual))
def obsP (n : Nat) (fa : List He.Fa) (fn : List He.DefD) (tf : List He.Defn) (ex : PySem.W.Frag → Bool) (gs : List GetD) (g : Addr → Option Obj) : AlP := obsK fa fn tf ex gs g (frP n g)
def valP (fn : List He.DefD) (gs : List GetD) : AlP := ((He.valD fn, true), (gs.map fun d => d.2.val, true))
structure SaysP (fa : List He.Fa) (fn : List He.DefD) (tf : List He.Defn) (ex : PySem.W.Frag → Bool) (gs : List GetD) (h : Heap) (K : PySem.W.Frag) : Prop where
  d : He.SaysD fa fn K
  more : ex K = true
  hd : ∀ p ∈ tf, PySem.W.codeHdIn K (He.cT K p).1 (He.cT K p).2 = true
  out : ∀ p ∈ tf, K.lookup (He.cT K p).2 = none
  empty : ∀ p ∈ tf, h.get? (He.cT K p).2 = some { cls := .none, data := .fields #[] }
  fns : (gs.map fun d => fnAtA K (getAd K d)) = gs.map fun d => d.2.val
  oks : (gs.all fun d => fnOkA K (getAd K d) d.2.qual) = true
theorem tab_at {h : Heap} {tf : List He.Defn} {K : PySem.W.Frag} (e : He.tabsB h.get? tf K = true) : ∀ p ∈ tf, PySem.W.codeHdIn K (He.cT K p).1 (He.cT K p).2 = true ∧ ∃ o, h.get? (He.cT K p).2 = some o ∧ He.emptyTab o = true := fun p hp => by
  have z := List.all_eq_true.mp e p hp
  rw [Bool.and_eq_true] at z
  refine ⟨z.1, ?_⟩
  have z2 := z.2
  split at z2
  · rename_i o q
    exact ⟨o, q, z2⟩
  · cases z2
theorem saysP_of {n : Nat} {fa : List He.Fa} {fn : List He.DefD} {tf : List He.Defn} {ex : PySem.W.Frag → Bool} {gs : List GetD} {h : Heap} (e : obsP n fa fn tf ex gs h.get? = valP fn gs) : SaysP fa fn tf ex gs h (frP n h.get?) := by
  have e2 : (ex (frP n h.get?) && He.tabsB h.get? tf (frP n h.get?)) = true := congrArg (fun z : AlP => z.1.2) e
  rw [Bool.and_eq_true] at e2
  have tb := tab_at e2.2
  refine ⟨congrArg (fun z : AlP => z.1.1) e, e2.1, fun p hp => (tb p hp).1, fun p hp => ?_, fun p hp => ?_, congrArg (fun z : AlP => z.2.1) e, congrArg (fun z : AlP => z.2.2) e⟩
  · obtain ⟨_, o, q, z⟩ := tb p hp
    exact He.frT_none q z
  · obtain ⟨_, o, q, z⟩ := tb p hp
    rw [q, He.emptyTab_eq z]
def hookP (n : Nat) (fa : List He.Fa) (fn : List He.DefD) (tf : List He.Defn) (ex : PySem.W.Frag → Bool) (gs : List GetD) : PySem.W.Hook where
  α := AlP
  obs := fun s => obsP n fa fn tf ex gs s.heap.get?
  val := fun _ => valP fn gs
  says := fun _ h => ∃ K : PySem.W.Frag, K.In h ∧ SaysP fa fn tf ex gs h K
  of := fun _ _ e => ⟨_, He.frT_in, saysP_of e⟩
  keeps := fun _ _ _ ⟨K, hK, c⟩ k => ⟨K, PySem.W.Frag.In.keeps hK k, ⟨c.d, c.more, c.hd, c.out, fun p hp => k _ _ (c.empty p hp), c.fns, c.oks⟩⟩
theorem obsP_eq {n : Nat} {fa : List He.Fa} {fn : List He.DefD} {tf : List He.Defn} {ex : PySem.W.Frag → Bool} {gs : List GetD} {g : Addr → Option Obj} {s : Shared} (h : ∀ a, g a = s.heap.get? a) : obsP n fa fn tf ex gs g = (hookP n fa fn tf ex gs).obs s := by
  obtain rfl : g = s.heap.get? := funext h
  rfl
theorem SaysP.get {fa : List He.Fa} {fn : List He.DefD} {tf : List He.Defn} {ex : PySem.W.Frag → Bool} {gs : List GetD} {h : Heap} {K : PySem.W.Frag} (c : SaysP fa fn tf ex gs h K) (i : Nat) {d : GetD} (e : gs[i]? = some d := by rfl) :
    ∃ fd, FunD K d.2.name d.2.qual d.2.params d.2.body d.2.scope [] [] (getAd K d) fd := by
  have e2 : (gs.map fun d => fnAtA K (getAd K d))[i]? = (gs.map fun d => d.2.val)[i]? := by rw [c.fns]
  rw [List.getElem?_map, List.getElem?_map, e] at e2
  exact funD_at (Option.some.inj e2) (List.all_eq_true.mp c.oks d (List.mem_of_getElem? e))
theorem pe_propC {X : Cx} {k : Nat} {C p g : Addr} {f : Str} {ps : List Str} {sp : Sp} {e : Expr} {pos : Pos} {ta : TE} (c : Cls X.K C) (hp : PropOf X.K C f p g) (G : Ok X.prog X.w X.K X.mg X.base CX0 k g ps sp) (hr : Room (k + 1) X.A) (he : PE X e ta)
    (hab : attributeBase e f X.env (eval e X.env) = eval e X.env := by rfl) : PE X (.Attribute e f pos) (tProp C sp [] E0 ta) := by
  obtain ⟨fd, F, b, _⟩ := G.ok
  exact pe_prop he c hp F hr b .nil pass0 hab
theorem xfc {K : PySem.W.Frag} {C : Addr} (F : ExF K C) : XfC K C := ⟨F.ga, F.gt, F.sb, F.hd⟩
end Nw

namespace Nw
open PySem PySem.Spec PyProof.Rows L2
/-! ### tables of code objects beside the view -/
def noTb (I : Hp) : Prop := ∀ b ps, I b ≠ some (.tbl ps)
section
variable {T : Addr → Prop} {I H I' H' H1 : Hp} {Tb : List (Addr × Str)} {D : DA} {n m : Nat}
theorem Grow.noTb (g : Grow T I H I' H') (h : noTb I) : Nw.noTb I' := fun b ps e => h b ps (g.tbl b ps e)
theorem ext_sub (sb : Same I H) (h : noTb I) (e : LamX.ExtN H H1) : Same I H1 := fun b o q => e b o (sb b o q) fun ps z => h b ps (by rw [← z]; exact q)
theorem tabs_keep (t : LamX.Tabs Tb H) (g : Grow T I H I' H') (h : ∀ b o, H b = some o → ((∃ ps, o = .tbl ps) ∨ ∃ φ, o = .ext φ) → ¬ T b) : LamX.Tabs Tb H' := fun p hp => by
  obtain ⟨ps, h1, h2, h3⟩ := t p hp
  refine ⟨ps, g.keep _ _ (h _ _ h1 (.inl ⟨_, rfl⟩)) h1, h2, fun pos cv hc => ?_⟩
  obtain ⟨c, e1, e2⟩ := h3 pos cv hc
  exact ⟨c, e1, g.keep _ _ (h _ _ e2 (.inr ⟨_, rfl⟩)) e2⟩
/-- a state of a law that makes lambdas: its draws, its tables -/
structure LSt (Tb : List (Addr × Str)) (D : DA) (n : Nat) (I H : Hp) : Prop where
  drw : Drw D n I H
  nt : noTb I
  tabs : LamX.Tabs Tb H
theorem LSt.sub (s : LSt Tb D n I H) : Same I H := s.drw.sub
theorem LSt.grow (s : LSt Tb D n I H) (g : Grow No I H I' H') : LSt Tb D n I' H' := ⟨s.drw.grow g, g.noTb s.nt, tabs_keep s.tabs g fun _ _ _ _ z => z⟩
theorem LSt.draw (s : LSt Tb D n I H) (g : Grow (TD D) I H I' H') (d : Drw D m I' H') : LSt Tb D m I' H' := by
  obtain ⟨_, _, _, _, r, _⟩ := s.drw.ex
  refine ⟨d, g.noTb s.nt, tabs_keep s.tabs g fun b o e k t => ?_⟩
  rcases t with rfl | rfl | rfl
  · rw [r.hd] at e; cases e; rcases k with ⟨_, z⟩ | ⟨_, z⟩ <;> cases z
  · rw [r.hg] at e; cases e; rcases k with ⟨_, z⟩ | ⟨_, z⟩ <;> cases z
  · rw [r.hl] at e; cases e; rcases k with ⟨_, z⟩ | ⟨_, z⟩ <;> cases z
theorem LSt.mono (s : LSt Tb D n I H) (h : n ≤ m) : LSt Tb D m I H := ⟨s.drw.mono h, s.nt, s.tabs⟩
theorem Drw.ext (d : Drw D n I H) (h : noTb I) (e : LamX.ExtN H H1) : Drw D n I H1 := by
  obtain ⟨a, b, c, f, s, r⟩ := d.ex
  exact ⟨a, b, c, f, ⟨ext_sub s.sub h e, s.vd, s.vg, s.vl, s.dg, s.dl, s.gl, e _ _ s.hd (fun _ z => nomatch z), e _ _ s.hg (fun _ z => nomatch z), e _ _ s.hl (fun _ z => nomatch z)⟩, r⟩
theorem LSt.ext (s : LSt Tb D n I H) (e : LamX.ExtN H H1) (t : LamX.Tabs Tb H1) : LSt Tb D n I H1 := ⟨s.drw.ext s.nt e, s.nt, t⟩
end
/-! ### a def that calls what it got and tells the error -/
def EO (K : PySem.W.Frag) (CO : Addr) (Q : VK) : XK := fun cls d H => PySem.W.exmOne K cls (.ref CO) = some true ∧ ∀ a, H a = none → Q (.ref a) (upd H a (ExV cls d a))
def TTo (K : PySem.W.Frag) (CO : Addr) : (XK → Hp → VK → Prop) → Hp → VK → Prop := fun tl H Q => tl (EO K CO Q) H fun _ H2 => Q .non H2
section
variable {P : Program} {w : World} {K : PySem.W.Frag} {mg : Str → Option Value} {base : Heap} {k : Nat} {ps : List Str} {sp : Sp} {N : List Str}
/-- the law's def, its own code object told -/
theorem okd_ofL {t qual : Str} {st : Stmt} {fd : FuncData} (F : FunD K t qual (defArgs st) (defBody st) (defScope st) [] [] (He.ga K t) fd) (S : FnScope N ps (defScope st)) (len : ∀ vs H Q E, sp vs H Q E → vs.length = ps.length)
    (hbody : ∀ (cdv : Value) (A : Around) (outer : List Env) (s : Shared) (H : Hp) (vs : List V) (Q : VK) (E : XK), cdv = .ref (He.codeOf K (t, none)) → Room k (A.deeper (envOfC qual (defScope st) s.heap.objs.size (He.ga K t) cdv)) → sp vs H Q E →
      ∃ u, PSs (cxOf CX0 P w K mg base N qual (defScope st) (He.ga K t) cdv A outer s H E).nox (defBody st) u ∧ u { nx := fun _ H' => Q .non H', rt := Q } (start N vs) H) : FnOk P w K mg base CX0 (k + 1) (He.ga K t) fd ps sp := by
  obtain ⟨oc, od, dV, kV, doc, pm, an, cdv, ct, osl, e, lk, hcd, _⟩ := F.ex
  obtain ⟨c, rfl⟩ := He.codeIn_ref hcd
  have hc : He.codeOf K (t, none) = c := He.codeOf_eq (p := (t, none)) lk (by rw [e])
  rw [e] at lk ⊢
  refine fn_of lk hcd S len fun A outer s H vs Q E hr h => ?_
  obtain ⟨u, h1, h2⟩ := hbody (.ref c) A outer s H vs Q E (by rw [hc]) hr h
  exact ⟨u, h1.nox, h2⟩
theorem ok_ofL {t qual : Str} {st : Stmt} (F : FnAt K t qual st (He.ga K t)) (S : FnScope N ps (defScope st))
    (hb : ∀ (kV doc pm : Value) (an : Option Addr) (cdv ct : Value) (us : List Value), us.length = ps.length → bindArgs (PySem.W.fnOf t qual (defArgs st) (defBody st) (defScope st) .none kV doc pm an cdv ct) ⟨us, []⟩ = pure (ps.zip us))
    (len : ∀ vs H Q E, sp vs H Q E → vs.length = ps.length)
    (hbody : ∀ (cdv : Value) (A : Around) (outer : List Env) (s : Shared) (H : Hp) (vs : List V) (Q : VK) (E : XK), cdv = .ref (He.codeOf K (t, none)) → Room k (A.deeper (envOfC qual (defScope st) s.heap.objs.size (He.ga K t) cdv)) → sp vs H Q E →
      ∃ u, PSs (cxOf CX0 P w K mg base N qual (defScope st) (He.ga K t) cdv A outer s H E).nox (defBody st) u ∧ u { nx := fun _ H' => Q .non H', rt := Q } (start N vs) H) : Ok P w K mg base CX0 (k + 1) (He.ga K t) ps sp := by
  obtain ⟨fd, F⟩ := F
  exact ⟨fd, okd_ofL F S len hbody, F.bindsN hb, F.kp, let ⟨oc, od, _, _, _, _, _, _, _, osl, _, lk, _⟩ := F.ex; ⟨oc, od, osl, lk⟩⟩
end
/-- x(lambda: body) -/
theorem pe_told {X : Cx} {Tb : List (Addr × Str)} {TT : (XK → Hp → VK → Prop) → Hp → VK → Prop} {x a : Str} {g c P : Addr} {k : Nat} {st : Stmt} {Ng : List Str} {params : Arguments} {body : Expr} {scope : Scope} {t : XK → TE} {p lpos pos : Pos}
    (F : FnAt X.K x x st g) (S : FnScope Ng [a] (defScope st)) (hm : X.mg x = some (.ref g)) (hG : ∀ cdv, LamX.GivesTo X Ng x (defScope st) g cdv (defBody st) a (X.env.qual ++ "<lambda>") TT)
    (TB : LamX.TabB X.base X.mg c P) (hcode : X.env.code = .ref c) (hT : Tb = [(P, X.env.qual ++ "<lambda>")]) (hr : Room (k + 2) X.A) (L : LamX.LamS X.env.scope scope)
    (hbody : ∀ (A : Around) (outer : List Env) (s : Shared) (H : Hp) (E : XK) (f c' : Addr), Room k (A.deeper (LamX.lamEnv X scope s.heap.objs.size f c')) → PE (LamX.lamCx X A outer s H E scope f c') body (t E))
    (hdef : defaultsOf params X.env = ([], []) := by rfl)
    (hbind : ∀ (q : Str) (cl : List (Str × Addr)) (pm cv ctv : Value), bindArgs (PySem.W.kla_fn "<lambda>" q params body scope cl pm cv ctv) ⟨[], []⟩ = pure [] := by intro _ _ _ _ _; rfl)
    (hb : ∀ (kV doc pm : Value) (an : Option Addr) (cdv ct : Value) (us : List Value), us.length = 1 → bindArgs (PySem.W.fnOf x x (defArgs st) (defBody st) (defScope st) .none kV doc pm an cdv ct) ⟨us, []⟩ = pure ([a].zip us) := by intro _ _ _ _ _ _ us hl; match us, hl with | [_], _ => rfl)
    (hg : Gl X x := by rfl) (hNg : Ng[0]? = some a := by rfl) (hva : Vis (defScope st) a := by first | exact Or.inl rfl | exact Or.inr (Or.inl rfl)) (hdb : (x == ("__debug__" : Str)) = false := by decide) (hd : (a == ("__debug__" : Str)) = false := by decide) (hcd : (a == ("__classdict__" : Str)) = false := by decide) :
    PE X (.Call (.Name x p) [.Lambda params body scope lpos] [] pos) (LamX.tLam Tb TT t) := by
  obtain ⟨fd, F⟩ := F
  have B := F.bindsN (ps := [a]) hb
  obtain ⟨oc, od, dV, kV, doc, pm, an, cdv, ct, osl, e, lk, hcd', _⟩ := F.ex
  subst e
  exact LamX.pe_lamcall hg hm F.kp lk hcd' B S hNg hva (hG cdv) TB hcode (by rw [hT]; exact List.mem_singleton.mpr rfl) (fun q hq _ => by rw [hT] at hq; rw [List.mem_singleton.mp hq]) hr L hdef hbind hbody hdb hd hcd
/-- where one asks within the law's text, by places -/
theorem call_isVK {X : Cx} {K : PySem.W.Frag} (h : X.K = K) : CallR X (.builtin "isinstance") (rIsV K) := h ▸ call_isV
theorem call_isAK {X : Cx} {K : PySem.W.Frag} (h : X.K = K) : CallR X (.builtin "isinstance") (rIsA K) := h ▸ call_isA
/-! ### the end -/
def noT (H : Hp) : Hp := fun b => match H b with
  | some (.tbl _) => none
  | o => o
theorem noT_sub {H : Hp} : Same (noT H) H := fun b o e => by
  unfold noT at e
  split at e
  · cases e
  · exact e
theorem noT_tb {H : Hp} : noTb (noT H) := fun b ps e => by
  unfold noT at e
  split at e
  · cases e
  · rename_i h
    exact h ps e
theorem noT_at {H : Hp} {b : Addr} {o : HO} (e : H b = some o) (n : NTb o) : noT H b = some o := by
  unfold noT
  rw [e]
  cases o <;> first | rfl | exact absurd rfl (n _)
theorem noT_seq {K : PySem.W.Frag} {H : Hp} {a : Addr} {xs : List V} (h : SqL K H a xs) : SqL K (noT H) a xs := by
  rcases h with h | h
  · refine .inl ?_
    rcases h with h | ⟨o, h⟩
    · exact .inl (noT_at h fun _ z => nomatch z)
    · exact .inr ⟨o, noT_at h fun _ z => nomatch z⟩
  · exact .inr h
end Nw

namespace Nw
open PySem PySem.Spec PyProof.Rows L2
/-! ### any value -/
inductive Dat where
  | non | bl (b : Bool) | int (i : Int) | str (l : List Nat) | tup (xs : List Dat) | lst | dic | obj
inductive isD (K : PySem.W.Frag) (I : Hp) : V → Dat → Prop where
  | non : isD K I .non .non
  | bl (b : Bool) : isD K I (.bl b) (.bl b)
  | int (i : Int) : isD K I (.int i) (.int i)
  | str (l : List Nat) (h : l.length ≤ 100000) : isD K I (.str (mk l)) (.str l)
  | tup {a : Addr} {vs : List V} {xs : List Dat} (h : I a = some (.tup vs)) (hl : vs.length = xs.length) (hd : ∀ (i : Nat) (v : V) (x : Dat), vs[i]? = some v → xs[i]? = some x → isD K I v x) : isD K I (.ref a) (.tup xs)
  | lst {a : Addr} {vs : List V} (h : I a = some (.lst vs)) : isD K I (.ref a) .lst
  | dic {a : Addr} {kvs : List (Key × V)} (h : I a = some (.dK kvs)) : isD K I (.ref a) .dic
  | obj {a C dx : Addr} {fs : List (Str × V)} (h : I a = some (.ins C dx fs)) (F : InsF K C) (c : Cls K C) (k1 : PySem.W.kitOne K (.ref C) (.type "str") = some false) (k2 : PySem.W.kitOne K (.ref C) (.type "tuple") = some false) : isD K I (.ref a) .obj
theorem isD.up {K : PySem.W.Frag} {I I' : Hp} {v : V} {x : Dat} (h : isD K I v x) (e : Same I I') : isD K I' v x := by
  induction h with
  | non => exact .non
  | bl b => exact .bl b
  | int i => exact .int i
  | str l h => exact .str l h
  | tup h hl hd ih => exact .tup (e _ _ h) hl ih
  | lst h => exact .lst (e _ _ h)
  | dic h => exact .dic (e _ _ h)
  | obj h F c k1 k2 => exact .obj (e _ _ h) F c k1 k2
def Dat.isStr : Dat → Bool
  | .str _ => true
  | _ => false
def Dat.isTup : Dat → Bool
  | .tup _ => true
  | _ => false
theorem isD.ty {K : PySem.W.Frag} {I H : Hp} {v : V} {x : Dat} (h : isD K I v x) (sb : Same I H) : ∃ t, TyX K H v t ∧ PySem.W.kitOne K t (.type "str") = some x.isStr ∧ PySem.W.kitOne K t (.type "tuple") = some x.isTup := by
  cases h with
  | non => exact ⟨_, .base .non, (show _ = some false from kit_ty (by decide +kernel)), (show _ = some false from kit_ty (by decide +kernel))⟩
  | bl b => exact ⟨_, .base (.bl b), (show _ = some false from kit_ty (by decide +kernel)), (show _ = some false from kit_ty (by decide +kernel))⟩
  | int i => exact ⟨_, .base (.int i), (show _ = some false from kit_ty (by decide +kernel)), (show _ = some false from kit_ty (by decide +kernel))⟩
  | str l h => exact ⟨_, .base (.str _), (show _ = some true from kit_ty (by decide +kernel)), (show _ = some false from kit_ty (by decide +kernel))⟩
  | tup h hl hd => exact ⟨_, .base (.tup (sb _ _ h)), (show _ = some false from kit_ty (by decide +kernel)), (show _ = some true from kit_ty (by decide +kernel))⟩
  | lst h => exact ⟨_, .base (.lst (sb _ _ h)), (show _ = some false from kit_ty (by decide +kernel)), (show _ = some false from kit_ty (by decide +kernel))⟩
  | dic h => exact ⟨_, .base (.dK (sb _ _ h)), (show _ = some false from kit_ty (by decide +kernel)), (show _ = some false from kit_ty (by decide +kernel))⟩
  | obj h F c k1 k2 => exact ⟨_, F.ty c (sb _ _ h), k1, k2⟩
theorem isD.tup3 {K : PySem.W.Frag} {I : Hp} {v : V} {x y z : Dat} (h : isD K I v (.tup [x, y, z])) : ∃ a v1 v2 v3, v = .ref a ∧ I a = some (.tup [v1, v2, v3]) ∧ isD K I v1 x ∧ isD K I v2 y ∧ isD K I v3 z := by
  cases h with
  | @tup a vs xs h hl hd =>
    match vs, hl with
    | [v1, v2, v3], _ => exact ⟨a, v1, v2, v3, rfl, h, hd 0 _ _ rfl rfl, hd 1 _ _ rfl rfl, hd 2 _ _ rfl rfl⟩
theorem isD.mk3 {K : PySem.W.Frag} {I : Hp} {a : Addr} {v1 v2 v3 : V} {x y z : Dat} (h : I a = some (.tup [v1, v2, v3])) (h1 : isD K I v1 x) (h2 : isD K I v2 y) (h3 : isD K I v3 z) : isD K I (.ref a) (.tup [x, y, z]) :=
  .tup h rfl fun i v d e1 e2 => by
    match i, e1, e2 with
    | 0, e1, e2 => cases e1; cases e2; exact h1
    | 1, e1, e2 => cases e1; cases e2; exact h2
    | 2, e1, e2 => cases e1; cases e2; exact h3
/-! ### the head's look, with dicts of texts -/
abbrev TabD : Type := Str × List Str
abbrev AlQ : Type := AlP × List (Option (List (Option (Str × Int))))
def obsQ (n : Nat) (fa : List He.Fa) (fn : List He.DefD) (tf : List He.Defn) (ex : PySem.W.Frag → Bool) (gs : List GetD) (ts : List TabD) (g : Addr → Option Obj) : AlQ := (obsP n fa fn tf ex gs g, ts.map fun t => He.dicW (frP n g) (He.ga (frP n g) t.1))
structure SaysQ (fa : List He.Fa) (fn : List He.DefD) (tf : List He.Defn) (ex : PySem.W.Frag → Bool) (gs : List GetD) (ts : List TabD) (w : World) (h : Heap) (K : PySem.W.Frag) : Prop extends SaysP fa fn tf ex gs h K where
  dics : (ts.map fun t => He.dicW K (He.ga K t.1)) = ts.map fun t => some (He.keysIn w.params t.2)
def hookQ (n : Nat) (fa : List He.Fa) (fn : List He.DefD) (tf : List He.Defn) (ex : PySem.W.Frag → Bool) (gs : List GetD) (ts : List TabD) : PySem.W.Hook where
  α := AlQ
  obs := fun s => obsQ n fa fn tf ex gs ts s.heap.get?
  val := fun w => (valP fn gs, ts.map fun t => some (He.keysIn w.params t.2))
  says := fun w h => ∃ K : PySem.W.Frag, K.In h ∧ SaysQ fa fn tf ex gs ts w h K
  of := fun w s e => by
    have z1 : obsP n fa fn tf ex gs s.heap.get? = valP fn gs := congrArg (fun z : AlQ => z.1) e
    have z2 : (ts.map fun t => He.dicW (frP n s.heap.get?) (He.ga (frP n s.heap.get?) t.1)) = ts.map fun t => some (He.keysIn w.params t.2) := congrArg (fun z : AlQ => z.2) e
    exact ⟨_, He.frT_in, saysP_of z1, z2⟩
  keeps := fun _ _ _ ⟨K, hK, c⟩ k => ⟨K, PySem.W.Frag.In.keeps hK k, ⟨c.d, c.more, c.hd, c.out, fun p hp => k _ _ (c.empty p hp), c.fns, c.oks⟩, c.dics⟩
theorem obsQ_eq {n : Nat} {fa : List He.Fa} {fn : List He.DefD} {tf : List He.Defn} {ex : PySem.W.Frag → Bool} {gs : List GetD} {ts : List TabD} {g : Addr → Option Obj} {s : Shared} (h : ∀ a, g a = s.heap.get? a) : obsQ n fa fn tf ex gs ts g = (hookQ n fa fn tf ex gs ts).obs s := by
  obtain rfl : g = s.heap.get? := funext h
  rfl
theorem SaysQ.tab {fa : List He.Fa} {fn : List He.DefD} {tf : List He.Defn} {ex : PySem.W.Frag → Bool} {gs : List GetD} {ts : List TabD} {w : World} {h : Heap} {K : PySem.W.Frag} (c : SaysQ fa fn tf ex gs ts w h K) (i : Nat) {t : TabD} (e : ts[i]? = some t := by rfl) :
    ∃ es n, KDict K w (He.ga K t.1) es n := by
  have e2 : (ts.map fun t => He.dicW K (He.ga K t.1))[i]? = (ts.map fun t => some (He.keysIn w.params t.2))[i]? := by rw [c.dics]
  rw [List.getElem?_map, List.getElem?_map, e] at e2
  exact He.dicW_ok (Option.some.inj e2)
/-- what a written dict holds -/
theorem kdct_of {K : PySem.W.Frag} {w : World} {a : Addr} {es : Array DictEntry} {n : Nat} {kvs : List (Str × He.Dv)} (D : KDict K w a es n) (h : He.valsB K a kvs = true) {q : Str × He.Dv} (hq : q ∈ kvs) : KDct K w a q.1 (q.2.v K) := by
  obtain ⟨u, h1, h2⟩ := He.valsB_ok h hq
  exact ⟨es, n, u, D.1, D.2, h1, h2⟩
end Nw

namespace Nw
open PySem PySem.Spec PyProof.Rows L2
/-! ### texts cut and doubled -/
theorem foldl_reps : ∀ (k : Nat) (l acc : List Nat), (List.replicate k l.toArray).foldl (fun x y => x ++ y) acc.toArray = (acc ++ (List.replicate k l).flatten).toArray
  | 0, _, acc => by simp
  | k + 1, l, acc => by
    rw [List.replicate_succ, List.foldl_cons, show acc.toArray ++ l.toArray = (acc ++ l).toArray by simp, foldl_reps k l (acc ++ l), List.replicate_succ, List.flatten_cons, List.append_assoc]
/-- a text times a number -/
theorem op_mulS {X : Cx} : OpR X (binaryOp .Mult) (fun x y H Q => ∃ (l : List Nat) (k : Nat), x = .str (mk l) ∧ y = .int k ∧ 2 ≤ k ∧ k ≤ 1000 ∧ l ≠ [] ∧ l.length ≤ 1000 ∧ Q (.str (mk (List.replicate k l).flatten)) H) := by
  intro pins s σ H x y v u Q I rx ry h
  obtain ⟨l, k, rfl, rfl, h1, h2, h3, h4, q⟩ := h
  obtain ⟨t, rfl⟩ := rx
  obtain ⟨t', rfl⟩ := ry
  have hlen : (mk l).length = l.length := by simp [mk, Str.length]
  have hpos : 0 < l.length := List.length_pos_iff.mpr h3
  have hn : ¬ ((k : Int) < 1) := by omega
  have hm : l.length * k ≤ 1000 * 1000 := Nat.mul_le_mul h4 h2
  have hfl : ((List.replicate k l).flatten).length = k * l.length := by simp
  have hlt : Builtin.Str.tooLong (l.length * k) = false := by
    unfold Builtin.Str.tooLong
    exact decide_eq_false (by rw [sizeLine_eq]; omega)
  refine PySem.P.mul_str (by rw [decide_eq_false (by omega), decide_eq_false (by omega)] <;> rfl) (fun _ _ => ?_) (fun _ _ => ?_) ?_
  · rw [hlen]
    have z : (1000 : Int) ≤ (2 ^ 63 - 1) / (k : Int) := Int.le_ediv_of_mul_le (by omega) (by omega)
    omega
  · rw [hlen, Int.toNat_natCast]
    exact hlt
  · rw [if_neg hn]
    have hc : ((k : Int) == 1 || (mk l).length == 0) = false := by
      rw [hlen, Bool.or_eq_false_iff]
      exact ⟨by simp; omega, by simp; exact h3⟩
    rw [hc, if_neg Bool.false_ne_true]
    have e : (⟨(List.replicate (k : Int).toNat (mk l).cps).foldl (· ++ ·) #[]⟩ : Str) = mk (List.replicate k l).flatten := by
      rw [Int.toNat_natCast]
      have z := foldl_reps k l []
      simp only [List.nil_append] at z
      show (⟨_⟩ : Str) = ⟨_⟩
      exact congrArg Str.mk z
    rw [e]
    refine ⟨?_, ⟨.str (mk (List.replicate k l).flatten), H, I.tok _, ⟨_, rfl⟩, q⟩⟩
    show (mk (List.replicate k l).flatten).length ≤ sizeLine
    have z : (mk (List.replicate k l).flatten).length = (List.replicate k l).flatten.length := by simp [mk, Str.length]
    rw [z, hfl, sizeLine_eq, Nat.mul_comm]
    omega
theorem cutS_take (l : List Nat) (k : Nat) : cutS (mk l) none (some (k : Int)) = mk (l.take k) := by
  unfold cutS HT.sIx
  have hlen : (mk l).length = l.length := by simp [mk, Str.length]
  simp only [List.drop_zero, Nat.sub_zero, hlen]
  show Str.mk _ = Str.mk _
  congr 2
  have e : (mk l).cps.toList = l := by simp [mk]
  rw [e]
  by_cases h : k ≤ l.length
  · congr 1
    rw [if_neg (by omega)]
    omega
  · rw [List.take_of_length_le (by omega : l.length ≤ k)]
    apply List.take_of_length_le
    rw [if_neg (by omega)]
    omega
theorem cutS_drop (l : List Nat) (k : Nat) : cutS (mk l) (some (k : Int)) none = mk (l.drop k) := by
  unfold cutS HT.sIx
  have hlen : (mk l).length = l.length := by simp [mk, Str.length]
  simp only [hlen]
  show Str.mk _ = Str.mk _
  congr 2
  have e : (mk l).cps.toList = l := by simp [mk]
  rw [e]
  rw [if_neg (by omega), Int.toNat_natCast]
  by_cases h : k ≤ l.length
  · rw [Nat.min_eq_left h]
    apply List.take_of_length_le
    rw [List.length_drop]
    omega
  · rw [Nat.min_eq_right (by omega), List.drop_of_length_le (Nat.le_refl _), List.drop_of_length_le (by omega)]
    simp
end Nw

namespace Nw
open PySem PySem.Spec PyProof.Rows L2
/-! ### promises of calls that stand under no guard, so that containers can be shown -/
structure FnG (P : Program) (w : World) (K : PySem.W.Frag) (mg : Str → Option Value) (base : Heap) (CX : CXT) (k : Nat) (f : Addr) (fd : FuncData) (ps : List Str) (sp : Sp) : Prop where
  len : ∀ vs H Q E, sp vs H Q E → vs.length = ps.length
  run : ∀ (A : Around) (outer : List Env) (s : Shared) (H : Hp) (args : Args) (us : List Value) (vs : List V) (Q : VK) (E : XK), Room k A → A.guards = some [] → Env0 P w K mg base A outer s H → BindsTo s fd args (ps.zip us) → Vals vs us → sp vs H Q E →
    codeAny (model P w) A (.call (.ref f) args) (CR CX outer P w H s Q E) s
structure OkG (P : Program) (w : World) (K : PySem.W.Frag) (mg : Str → Option Value) (base : Heap) (CX : CXT) (k : Nat) (f : Addr) (ps : List Str) (sp : Sp) : Prop where
  ok : ∃ fd, FnG P w K mg base CX k f fd ps sp ∧ Binds K fd ps [] ∧ PySem.W.keepIn K (.ref f) = true
section
variable {P : Program} {w : World} {K : PySem.W.Frag} {mg : Str → Option Value} {base : Heap} {X : Cx} {CX : CXT} {k : Nat} {f : Addr} {fd : FuncData} {ps N : List Str} {sp : Sp} {x qual : Str} {st : Stmt} {pos ppos : Pos} {e : Expr} {es : List Expr} {t : TA}
theorem FnG.of (F : FnOk P w K mg base CX k f fd ps sp) : FnG P w K mg base CX k f fd ps sp := ⟨F.len, fun A outer s H args us vs Q E hr _ => F.run A outer s H args us vs Q E hr⟩
theorem Ok.toG (G : Ok P w K mg base CX k f ps sp) : OkG P w K mg base CX k f ps sp := by
  obtain ⟨fd, F, b, kp, _⟩ := G.ok
  exact ⟨fd, .of F, b, kp⟩
/-- a def's body, its own code object told -/
theorem fng_of (F : FunD K x qual (defArgs st) (defBody st) (defScope st) [] [] f fd) (S : FnScope N ps (defScope st)) (len : ∀ vs H Q E, sp vs H Q E → vs.length = ps.length)
    (hbody : ∀ (cdv : Value) (A : Around) (outer : List Env) (s : Shared) (H : Hp) (vs : List V) (Q : VK) (E : XK), Room k (A.deeper (envOfC qual (defScope st) s.heap.objs.size f cdv)) → A.guards = some [] → sp vs H Q E →
      ∃ u, PSs (cxOf CX0 P w K mg base N qual (defScope st) f cdv A outer s H E).nox (defBody st) u ∧ u { nx := fun _ H' => Q .non H', rt := Q } (start N vs) H) : FnG P w K mg base CX0 (k + 1) f fd ps sp := by
  obtain ⟨oc, od, dV, kV, doc, pm, an, cdv, ct, osl, e, lk, hcd, _⟩ := F.ex
  subst e
  refine ⟨len, fun A outer s H args us vs Q E hr hg e0 hb r hsp => ?_⟩
  refine LamX.run_ofS (N := N) (ps := ps) lk hcd S hr e0 hb r (len _ _ _ _ hsp) fun hr' => ?_
  obtain ⟨u, h1, h2⟩ := hbody cdv A outer s H vs Q E hr' hg hsp
  exact ⟨u, h1.nox, h2⟩
/-- the law's own, its code object told -/
theorem fngL_of {y : Str} (F : FunD K y qual (defArgs st) (defBody st) (defScope st) [] [] (He.ga K y) fd) (S : FnScope N ps (defScope st)) (len : ∀ vs H Q E, sp vs H Q E → vs.length = ps.length)
    (hbody : ∀ (cdv : Value) (A : Around) (outer : List Env) (s : Shared) (H : Hp) (vs : List V) (Q : VK) (E : XK), cdv = .ref (He.codeOf K (y, none)) → Room k (A.deeper (envOfC qual (defScope st) s.heap.objs.size (He.ga K y) cdv)) → A.guards = some [] → sp vs H Q E →
      ∃ u, PSs (cxOf CX0 P w K mg base N qual (defScope st) (He.ga K y) cdv A outer s H E).nox (defBody st) u ∧ u { nx := fun _ H' => Q .non H', rt := Q } (start N vs) H) : FnG P w K mg base CX0 (k + 1) (He.ga K y) fd ps sp := by
  obtain ⟨oc, od, dV, kV, doc, pm, an, cdv, ct, osl, e, lk, hcd, _⟩ := F.ex
  obtain ⟨c, rfl⟩ := He.codeIn_ref hcd
  have hc : He.codeOf K (y, none) = c := He.codeOf_eq (p := (y, none)) lk (by rw [e])
  subst e
  refine ⟨len, fun A outer s H args us vs Q E hr hg e0 hb r hsp => ?_⟩
  refine LamX.run_ofS (N := N) (ps := ps) lk hcd S hr e0 hb r (len _ _ _ _ hsp) fun hr' => ?_
  obtain ⟨u, h1, h2⟩ := hbody (.ref c) A outer s H vs Q E (by rw [hc]) hr' hg hsp
  exact ⟨u, h1.nox, h2⟩
theorem okg_of (F : FnAt K x qual st f) (S : FnScope N ps (defScope st))
    (hb : ∀ (kV doc pm : Value) (an : Option Addr) (cdv ct : Value) (us : List Value), us.length = ps.length → bindArgs (PySem.W.fnOf x qual (defArgs st) (defBody st) (defScope st) .none kV doc pm an cdv ct) ⟨us, []⟩ = pure (ps.zip us))
    (len : ∀ vs H Q E, sp vs H Q E → vs.length = ps.length)
    (hbody : ∀ (cdv : Value) (A : Around) (outer : List Env) (s : Shared) (H : Hp) (vs : List V) (Q : VK) (E : XK), Room k (A.deeper (envOfC qual (defScope st) s.heap.objs.size f cdv)) → A.guards = some [] → sp vs H Q E →
      ∃ u, PSs (cxOf CX0 P w K mg base N qual (defScope st) f cdv A outer s H E).nox (defBody st) u ∧ u { nx := fun _ H' => Q .non H', rt := Q } (start N vs) H) : OkG P w K mg base CX0 (k + 1) f ps sp := by
  obtain ⟨fd, F⟩ := F
  exact ⟨fd, fng_of F S len hbody, F.bindsN hb, F.kp⟩
/-- f(e, ..) where no guard stands -/
theorem pe_callG (hgd : X.A.guards = some []) (G : OkG X.prog X.w X.K X.mg X.base CX0 k f ps sp) (hr : Room k X.A) (hm : X.mg x = some (.ref f)) (ha : PA X (e :: es) t) (hg : Gl X x := by rfl) (hdb : (x == ("__debug__" : Str)) = false := by decide)
    (he : starEach (e :: es) X.env = (false, eval e X.env) :: starEach es X.env := by rfl) (hpl : (backTo pos (starEach es X.env)).any (·.1) = false := by rfl) : PE X (.Call (.Name x ppos) (e :: es) [] pos) (tCall sp [] E0 t) := by
  obtain ⟨fd, F, b, kp⟩ := G.ok
  refine ⟨fun pins s σ H Q I h => wpAny_Call_Name_kw (ld_glob I hg hm (PySem.W.callWith_K (h₀ := X.base) I.ok.mod.kin kp (thn (ha.run pos pins s σ H _ I h) fun us s1 ⟨vs, H1, I1, r, q⟩ => ⟨I1.kIn, ?_⟩) he hpl) hdb)⟩
  have q0 : sp (vs ++ []) H1 Q E0 := q
  have q' : sp vs H1 Q E0 := by rw [List.append_nil] at q0; exact q0
  have hl : us.length = ps.length := by rw [← r.length]; exact F.len _ _ _ _ q'
  have bt := b s1 us I1.kIn (by rw [List.append_nil]; exact hl)
  rw [List.append_nil] at bt
  refine wpAny_call (codeAny_mono (F.run X.A X.stack s1 H1 ⟨us, []⟩ us vs Q E0 hr hgd I1.env0 bt r q') fun r' s' hq => ?_)
  cases r' with
  | error e => exact (show False from hq).elim
  | ok fl =>
    cases fl with
    | ret u => exact I1.after hq
    | next => exact (show False from hq).elim
    | brk => exact (show False from hq).elim
    | cont => exact (show False from hq).elim
theorem un70 {k : Nat} {A : Around} (r : Room k A) : A.units + 70 < cLine := by have := r.un; omega
/-- repr of data at any depth -/
theorem call_reprD (hgd : X.A.guards = some []) (hu : X.A.units + 70 < cLine) : CallR X (.builtin "repr") (fun xs H Q => ∃ v d, xs = [v] ∧ Dp X.K H v d ∧ d.showable = true ∧ d.hasDict = false ∧ d.depth ≤ 64 ∧ d.shown.length ≤ sizeLine ∧ Q (.str d.shown) H) := by
  intro pins s σ H xs us Q I r h
  obtain ⟨v, d, rfl, hd, h1, h2, h3, h4, q⟩ := h
  obtain ⟨u, rfl, ru⟩ := vals1 r
  cases hd with
  | non =>
    cases ru
    exact PySem.P.repr_of_none ⟨.str _, H, I.tok _, ⟨_, rfl⟩, q⟩
  | bl b =>
    cases ru
    exact PySem.P.repr_of_bool ⟨.str _, H, I.tok _, ⟨_, rfl⟩, q⟩
  | int i =>
    obtain ⟨t, rfl⟩ := ru
    exact PySem.P.repr_of_int (of_decide_eq_true h1) ⟨.str _, H, I.tok _, ⟨_, rfl⟩, q⟩
  | str z =>
    obtain ⟨t, rfl⟩ := ru
    exact PySem.P.repr_of_str ⟨.str _, H, I.tok _, ⟨_, rfl⟩, q⟩ h4
  | @lst a xs ds hs ha =>
    have hd' : Dp X.K H (.ref a) (.list ds) := .lst hs ha
    obtain ⟨as, rd⟩ := Dp.reads I _ _ _ hd' ru
    cases ru
    exact repr_of_reads' rd h1 (fun z => by rw [h2] at z; cases z) hgd (by omega) (fun _ _ z => z) (fun h' u tk hk => ⟨.str _, H, I.kept (t' := tk) hk, ⟨_, rfl⟩, q⟩) h4
  | @tup a xs ds hs ha =>
    have hd' : Dp X.K H (.ref a) (.tuple ds) := .tup hs ha
    obtain ⟨as, rd⟩ := Dp.reads I _ _ _ hd' ru
    cases ru
    exact repr_of_reads' rd h1 (fun z => by rw [h2] at z; cases z) hgd (by omega) (fun _ _ z => z) (fun h' u tk hk => ⟨.str _, H, I.kept (t' := tk) hk, ⟨_, rfl⟩, q⟩) h4
end
end Nw

namespace Nw
open PySem PySem.Spec PyProof.Rows L2
/-! ### the end, for a law that shows containers -/
section
variable {P : Program} {w : World} {K : PySem.W.Frag} {mg mb : Str → Option Value} {k : Nat} {fa a : Addr} {fd : FuncData} {x : Str} {sp : Sp} {s₁ : Shared} {vs : List Value} {ns : List Int}
/-- what is tracked at the law's call: the script, if the module's part does not tell it -/
def scr (K : PySem.W.Frag) (a : Addr) (vs : List Value) (ns : List Int) : Hp := fun b => if b = a ∧ K.lookup a = none then some (.frz { cls := .type "list", data := .seq vs.toArray } (.lst (ns.map V.int))) else none
theorem scr_at {b : Addr} {u : HO} (h : scr K a vs ns b = some u) : b = a ∧ K.lookup a = none ∧ u = .frz { cls := .type "list", data := .seq vs.toArray } (.lst (ns.map V.int)) := by
  unfold scr at h
  split at h
  · rename_i c
    exact ⟨c.1, c.2, (Option.some.inj h).symm⟩
  · cases h
theorem scr_no {b : Addr} (h : ¬ (b = a ∧ K.lookup a = none)) : scr K a vs ns b = none := if_neg h
theorem law_callG (KX : K.In s₁.heap) (hns : s₁.heap.Ns mainGlobals mg) (hb : s₁.heap.Ns builtinsNs mb) (hbb : ∀ x : Str, x ≠ "__name__" → mb x = bootBuiltins x) (hlim : s₁.heap.NoLimit) (hg : s₁.gens = #[])
    (ha : s₁.heap.get? a = some { cls := .type "list", data := .seq vs.toArray }) (hi : IntsAre vs ns) (hl : ns.length ≤ sizeLine) (hr : Room k callerA)
    (F : ∀ base : Heap, K.In base → base.Ns mainGlobals mg → FnG P w K mg base CX0 k fa fd [x] sp) (hbind : ∀ (s : Shared) (u : Value), BindsTo s fd ⟨[u], []⟩ [(x, u)])
    (hsp : ∀ H : Hp, SqL K H a (ns.map V.int) → sp [.ref a] H (fun v _ => v = .bl true) fun _ _ _ => False) :
    codeAny (model P w) callerA (.call (.ref fa) ⟨[.ref a], []⟩) (fun r s' => r = .ok (.ret (.bool true)) ∧ OldK s₁.heap s'.heap ∧ s'.os = s₁.os ∧ AllBare s'.gens) s₁ := by
  have rv := vals_ints hi
  have lenV := hi.length
  have hS : SqL K (scr K a vs ns) a (ns.map V.int) := by
    cases hk : K.lookup a with
    | some o =>
      have e := KX a o hk
      rw [ha] at e
      cases e
      exact .inr ⟨_, vs.toArray, _, hk, rfl, rfl, rfl, by rw [List.size_toArray, lenV]; exact hl, by simpa using rv⟩
    | none => exact .inl (.inr ⟨{ cls := .type "list", data := .seq vs.toArray }, if_pos ⟨rfl, hk⟩⟩)
  have hok : HOk P w (scr K a vs ns) s₁.heap := fun b u z => by
    obtain ⟨rfl, _, rfl⟩ := scr_at z
    exact ⟨ha, by rw [List.length_map]; exact hl, vs, _, rv, ha⟩
  -- a namespace is no script
  have untr : ∀ {b : Addr} {o : Obj} {es : Array DictEntry} {ep : Nat}, s₁.heap.get? b = some o → o.data = .dict es ep → scr K a vs ns b = none := fun {b o es ep} e d => by
    refine scr_no fun c => ?_
    rw [c.1, ha] at e
    cases e
    have d' : Data.seq vs.toArray _ = Data.dict es ep := d
    cases d'
  have nsK : ∀ {b : Addr} {m : Str → Option Value}, s₁.heap.Ns b m → (hidT s₁.heap (scr K a vs ns)).Ns b m := fun {b m} ⟨o, es, ep, e, d, r⟩ => ⟨o, es, ep, hidT_get e (untr e d), d, r⟩
  have hKb : K.In (hidT s₁.heap (scr K a vs ns)) := fun b o e => hidT_get (KX b o e) (scr_no fun c => by rw [c.1, c.2] at e; cases e)
  have hM : Mod K mg (hidT s₁.heap (scr K a vs ns)) := ⟨hKb, nsK hns, ⟨mb, nsK hb, hbb⟩, let ⟨mc, h1, h2⟩ := hlim; ⟨mc, nsK h1, h2⟩⟩
  have e0 : Env0 P w K mg (hidT s₁.heap (scr K a vs ns)) callerA [] s₁ (scr K a vs ns) := ⟨rfl, hM, fun b o e => of_hidT e, Nat.le_of_eq (hidT_size _ _), trivial, (fun b hb => absurd (show b ∈ ([] : List Addr) from hb) (by simp)), hok, .of_eq hg⟩
  refine codeAny_mono ((F _ hKb (nsK hns)).run callerA [] s₁ _ ⟨[.ref a], []⟩ [.ref a] [.ref a] _ _ hr rfl e0 (hbind s₁ (.ref a)) (.cons rfl .nil) (hsp _ hS)) fun r s' h => ?_
  cases r with
  | error e => exact (show False from h).elim
  | ok fl =>
    cases fl with
    | next => exact (show False from h).elim
    | brk => exact (show False from h).elim
    | cont => exact (show False from h).elim
    | ret u =>
      obtain ⟨v, H', os, bare, un, hok', r', q⟩ := h
      obtain rfl : v = .bl true := q
      obtain rfl : u = Value.bool true := r'
      refine ⟨rfl, OldK.of_keep fun b o e => ?_, os, bare⟩
      cases q : scr K a vs ns b with
      | none => exact un.keep b o e q (fun z => absurd (show b ∈ ([] : List Addr) from z) (by simp)) (by simp)
      | some u =>
        obtain ⟨rfl, hk, rfl⟩ := scr_at q
        have z2 := un.frzs b _ _ q
        obtain ⟨e2, _⟩ := hok' b _ z2
        rw [ha] at e
        cases e
        exact e2
end
theorem walk_ofG {l : PySem.W.OpenLaw} {n k : Nat} {q : Program} {loose : List Str} {XP : (Str → Option Value) → Heap → Prop} {YP : World → Heap → Prop} {d : DefRec} {x : Str}
    (hn : l.most = some n) (hn2 : n ≤ sizeLine) (hdf : d.params.defaults = []) (hr : Room k callerA)
    (F : ∀ (w : World) (mg : Str → Option Value) (fa : Addr) (h : Heap), YP w h → h.Ns mainGlobals mg → mg d.name = some (.ref fa) →
      ∃ (K : PySem.W.Frag) (fd : FuncData) (sp : Sp), K.In h ∧ (∀ (s : Shared) (u : Value), BindsTo s fd ⟨[u], []⟩ [(x, u)]) ∧
        (∀ (H : Hp) (a : Addr) (ns : List Int), ns.length ≤ n → SqL K H a (ns.map V.int) → sp [.ref a] H (fun v _ => v = .bl true) fun _ _ _ => False) ∧
        ∀ base : Heap, K.In base → base.Ns mainGlobals mg → FnG l.prog w K mg base CX0 k fa fd [x] sp) :
    PySem.W.WalkO q loose XP YP l.row.toRowW d [] (fun f vs => PySem.call f vs) := by
  refine Att.attach_call hn hdf fun w s₀ s₁ mg mb fa o pm cd doc a vs ns G Y ho hd hcd hmg hobj hints hlen hg => ?_
  obtain ⟨K, fd, sp, KX, hb, hsp, hF⟩ := F w mg fa _ Y G.T.g hmg
  exact law_callG KX G.T.g G.T.b G.T.builtins G.T.nolimit hg hobj hints (Nat.le_trans hlen hn2) hr hF hb fun H hS => hsp H a ns hlen hS
end Nw

namespace Nw
open PySem PySem.Spec PyProof.Rows L2
/-! ### the same for a law that makes lambdas, too -/
section
variable {P : Program} {w : World} {K : PySem.W.Frag} {mg mb : Str → Option Value} {k : Nat} {fa a : Addr} {fd : FuncData} {x : Str} {sp : Sp} {s₁ : Shared} {vs : List Value} {ns : List Int} {cs : List (Addr × Addr)}
/-- what is tracked: the script, if the module's part does not tell it, and the tables -/
def trt (K : PySem.W.Frag) (a : Addr) (vs : List Value) (ns : List Int) (cs : List (Addr × Addr)) : Hp := fun b => if b ∈ cs.map (·.2) then some (.tbl #[]) else scr K a vs ns b
theorem trt_at {b : Addr} {u : HO} (h : trt K a vs ns cs b = some u) : (b ∈ cs.map (·.2) ∧ u = .tbl #[]) ∨ (b ∉ cs.map (·.2) ∧ scr K a vs ns b = some u) := by
  unfold trt at h
  split at h
  · rename_i c
    exact .inl ⟨c, (Option.some.inj h).symm⟩
  · rename_i c
    exact .inr ⟨c, h⟩
theorem trt_no {b : Addr} (h1 : b ∉ cs.map (·.2)) (h2 : ¬ (b = a ∧ K.lookup a = none)) : trt K a vs ns cs b = none := (if_neg h1).trans (scr_no h2)
theorem law_callGT (KX : K.In s₁.heap) (hns : s₁.heap.Ns mainGlobals mg) (hb : s₁.heap.Ns builtinsNs mb) (hbb : ∀ x : Str, x ≠ "__name__" → mb x = bootBuiltins x) (hlim : s₁.heap.NoLimit) (hg : s₁.gens = #[])
    (hT : ∀ p ∈ cs, s₁.heap.get? p.2 = some { cls := .none, data := .fields #[] }) (nT : ∀ p ∈ cs, K.lookup p.2 = none) (hh : ∀ p ∈ cs, PySem.W.codeHdIn K p.1 p.2 = true)
    (hbm : ∃ (bm : Addr) (ob : Obj), mg "__builtins__" = some (.ref bm) ∧ bm ≠ builtinsNs ∧ s₁.heap.get? bm = some ob ∧ ob.cls = .type "module" ∧ ob.dict = some builtinsNs ∧ ob.data = .plain)
    (ha : s₁.heap.get? a = some { cls := .type "list", data := .seq vs.toArray }) (hi : IntsAre vs ns) (hl : ns.length ≤ sizeLine) (hr : Room k callerA)
    (F : ∀ base : Heap, K.In base → base.Ns mainGlobals mg → (∀ p ∈ cs, LamX.TabB base mg p.1 p.2) → FnG P w K mg base CX0 k fa fd [x] sp) (hbind : ∀ (s : Shared) (u : Value), BindsTo s fd ⟨[u], []⟩ [(x, u)])
    (hsp : ∀ H : Hp, (∀ p ∈ cs, H p.2 = some (.tbl #[])) → SqL K H a (ns.map V.int) → sp [.ref a] H (fun v _ => v = .bl true) fun _ _ _ => False) :
    codeAny (model P w) callerA (.call (.ref fa) ⟨[.ref a], []⟩) (fun r s' => r = .ok (.ret (.bool true)) ∧ OldK s₁.heap s'.heap ∧ s'.os = s₁.os ∧ AllBare s'.gens) s₁ := by
  have rv := vals_ints hi
  have lenV := hi.length
  have isT : ∀ b : Addr, b ∈ cs.map (·.2) → s₁.heap.get? b = some { cls := .none, data := .fields #[] } := fun b hb => by
    obtain ⟨p, hp, e⟩ := List.mem_map.mp hb
    rw [← e]
    exact hT p hp
  have aT : a ∉ cs.map (·.2) := fun z => by
    have q := isT a z
    rw [ha] at q
    have z' : Data.seq vs.toArray _ = Data.fields #[] := congrArg Obj.data (Option.some.inj q)
    cases z'
  have hTr : ∀ p ∈ cs, trt K a vs ns cs p.2 = some (.tbl #[]) := fun p hp => if_pos (List.mem_map.mpr ⟨p, hp, rfl⟩)
  have hS : SqL K (trt K a vs ns cs) a (ns.map V.int) := by
    cases hk : K.lookup a with
    | some o =>
      have e := KX a o hk
      rw [ha] at e
      cases e
      exact .inr ⟨_, vs.toArray, _, hk, rfl, rfl, rfl, by rw [List.size_toArray, lenV]; exact hl, by simpa using rv⟩
    | none => exact .inl (.inr ⟨{ cls := .type "list", data := .seq vs.toArray }, (if_neg aT).trans (if_pos ⟨rfl, hk⟩)⟩)
  have hok : HOk P w (trt K a vs ns cs) s₁.heap := fun b u z => by
    rcases trt_at z with ⟨hm, rfl⟩ | ⟨_, z⟩
    · exact isT b hm
    · obtain ⟨rfl, _, rfl⟩ := scr_at z
      exact ⟨ha, by rw [List.length_map]; exact hl, vs, _, rv, ha⟩
  -- neither the script nor a table
  have untr : ∀ {b : Addr} {o : Obj}, s₁.heap.get? b = some o → (∀ us n, o.data ≠ .seq us n) → o.data ≠ .fields #[] → trt K a vs ns cs b = none := fun {b o} e h1 h2 =>
    trt_no (fun m => by rw [isT b m] at e; cases e; exact h2 rfl) (fun c => by rw [c.1, ha] at e; cases e; exact h1 _ _ rfl)
  have nsK : ∀ {b : Addr} {m : Str → Option Value}, s₁.heap.Ns b m → (hidT s₁.heap (trt K a vs ns cs)).Ns b m := fun {b m} ⟨o, es, ep, e, d, r⟩ => ⟨o, es, ep, hidT_get e (untr e (fun _ _ z => by rw [d] at z; cases z) fun z => by rw [d] at z; cases z), d, r⟩
  have hKb : K.In (hidT s₁.heap (trt K a vs ns cs)) := fun b o e => hidT_get (KX b o e) (trt_no (fun m => by
    obtain ⟨p, hp, ep⟩ := List.mem_map.mp m
    rw [← ep, nT p hp] at e
    cases e) fun c => by rw [c.1, c.2] at e; cases e)
  have hM : Mod K mg (hidT s₁.heap (trt K a vs ns cs)) := ⟨hKb, nsK hns, ⟨mb, nsK hb, hbb⟩, let ⟨mc, h1, h2⟩ := hlim; ⟨mc, nsK h1, h2⟩⟩
  have gNs : ∃ o es ep, s₁.heap.get? mainGlobals = some o ∧ o.data = .dict es ep := let ⟨o, es, ep, e, d, _⟩ := hns; ⟨o, es, ep, e, d⟩
  obtain ⟨og, eg, pg, g1, g2⟩ := gNs
  have TB : ∀ p ∈ cs, LamX.TabB (hidT s₁.heap (trt K a vs ns cs)) mg p.1 p.2 := fun p hp => by
    obtain ⟨bm, ob, b1, b2, b3, b4, b5, b6⟩ := hbm
    refine ⟨PySem.W.codeHd_of_K hKb (hh p hp), ⟨bm, ob, b1, b2, fun q => ?_, fun q => ?_, hidT_get b3 (untr b3 (fun _ _ z => by rw [b6] at z; cases z) fun z => by rw [b6] at z; cases z), b4, b5, b6⟩, fun q => ?_⟩
    · rw [q, g1] at b3
      cases b3
      rw [g2] at b6
      cases b6
    · rw [q, hT p hp] at b3
      cases b3
      cases b6
    · rw [q, hT p hp] at g1
      cases g1
      cases g2
  have e0 : Env0 P w K mg (hidT s₁.heap (trt K a vs ns cs)) callerA [] s₁ (trt K a vs ns cs) := ⟨rfl, hM, fun b o e => of_hidT e, Nat.le_of_eq (hidT_size _ _), trivial, (fun b hb => absurd (show b ∈ ([] : List Addr) from hb) (by simp)), hok, .of_eq hg⟩
  refine codeAny_mono ((F _ hKb (nsK hns) TB).run callerA [] s₁ _ ⟨[.ref a], []⟩ [.ref a] [.ref a] _ _ hr rfl e0 (hbind s₁ (.ref a)) (.cons rfl .nil) (hsp _ hTr hS)) fun r s' h => ?_
  cases r with
  | error e => exact (show False from h).elim
  | ok fl =>
    cases fl with
    | next => exact (show False from h).elim
    | brk => exact (show False from h).elim
    | cont => exact (show False from h).elim
    | ret u =>
      obtain ⟨v, H', os, bare, un, hok', r', q⟩ := h
      obtain rfl : v = .bl true := q
      obtain rfl : u = Value.bool true := r'
      have same : ∀ b o, b ∉ cs.map (·.2) → s₁.heap.get? b = some o → s'.heap.get? b = some o := fun b o nb e => by
        cases q : trt K a vs ns cs b with
        | none => exact un.keep b o e q (fun z => absurd (show b ∈ ([] : List Addr) from z) (by simp)) (by simp)
        | some u =>
          rcases trt_at q with ⟨m, _⟩ | ⟨_, z⟩
          · exact absurd m nb
          · obtain ⟨rfl, hk, rfl⟩ := scr_at z
            obtain ⟨e2, _⟩ := hok' b _ (un.frzs b _ _ q)
            rw [ha] at e
            cases e
            exact e2
      have grown : ∀ b, b ∈ cs.map (·.2) → ∃ more : Array Value, s'.heap.get? b = some { cls := .none, data := .fields more } ∧ ∃ p ∈ cs, p.2 = b := fun b m => by
        obtain ⟨p, hp, rfl⟩ := List.mem_map.mp m
        obtain ⟨more, z⟩ := un.tbls p.2 #[] (hTr p hp)
        exact ⟨_, hok' p.2 _ z, p, hp, rfl⟩
      refine ⟨rfl, ⟨fun b o e => ?_, fun b o e => ?_⟩, os, bare⟩
      · by_cases m : b ∈ cs.map (·.2)
        · obtain ⟨more, hm, p, hp, rfl⟩ := grown b m
          rw [hT p hp] at e
          cases e
          exact .inr (.inl ⟨((PySem.W.codeHd_of_K KX (hh p hp)).tab (hT p hp)).isCodeTable, rfl, #[], more, rfl, by rw [Array.empty_append]; exact hm⟩)
        · exact .inl (same b o m e)
      · by_cases m : b ∈ cs.map (·.2)
        · obtain ⟨more, hm, _⟩ := grown b m
          exact ⟨_, hm⟩
        · exact ⟨o, same b o m e⟩
end
theorem walk_ofGT {l : PySem.W.OpenLaw} {n k : Nat} {q : Program} {loose : List Str} {XP : (Str → Option Value) → Heap → Prop} {YP : World → Heap → Prop} {d : DefRec} {x : Str}
    (hn : l.most = some n) (hn2 : n ≤ sizeLine) (hdf : d.params.defaults = []) (hr : Room k callerA)
    (F : ∀ (w : World) (mg : Str → Option Value) (fa : Addr) (h : Heap), YP w h → h.Ns mainGlobals mg → mg d.name = some (.ref fa) →
      ∃ (K : PySem.W.Frag) (fd : FuncData) (cs : List (Addr × Addr)) (sp : Sp), K.In h ∧ (∀ p ∈ cs, h.get? p.2 = some { cls := .none, data := .fields #[] }) ∧ (∀ p ∈ cs, K.lookup p.2 = none) ∧ (∀ p ∈ cs, PySem.W.codeHdIn K p.1 p.2 = true) ∧ (∀ (s : Shared) (u : Value), BindsTo s fd ⟨[u], []⟩ [(x, u)]) ∧
        (∀ (H : Hp) (a : Addr) (ns : List Int), ns.length ≤ n → (∀ p ∈ cs, H p.2 = some (.tbl #[])) → SqL K H a (ns.map V.int) → sp [.ref a] H (fun v _ => v = .bl true) fun _ _ _ => False) ∧
        ∀ base : Heap, K.In base → base.Ns mainGlobals mg → (∀ p ∈ cs, LamX.TabB base mg p.1 p.2) → FnG l.prog w K mg base CX0 k fa fd [x] sp) :
    PySem.W.WalkO q loose XP YP l.row.toRowW d [] (fun f vs => PySem.call f vs) := by
  refine Att.attach_call hn hdf fun w s₀ s₁ mg mb fa o pm cd doc a vs ns G Y ho hd hcd hmg hobj hints hlen hg => ?_
  obtain ⟨K, fd, cs, sp, KX, hT, nT, hh, hb, hsp, hF⟩ := F w mg fa _ Y G.T.g hmg
  exact law_callGT KX G.T.g G.T.b G.T.builtins G.T.nolimit hg hT nT hh G.T.bmain hobj hints (Nat.le_trans hlen hn2) hr hF hb fun H hH hS => hsp H a ns hlen hH hS
end Nw

namespace Nw
open PySem PySem.Spec PyProof.Rows L2
theorem len_app (a b : Str) : (a ++ b).length = a.length + b.length := by
  show (a.cps ++ b.cps).size = _
  simp [Str.length]
theorem textFrom_le : ∀ (ts : List Str) (k : Nat) (acc : Str), (textFrom k acc ts).length ≤ acc.length + piled ts
  | [], k, acc => by show acc.length ≤ _; omega
  | t :: r, k, acc => by
    have h := textFrom_le r (k + 1) (acc ++ (if k > 0 then ", " else "" : String) ++ t)
    have e : (acc ++ (if k > 0 then ", " else "" : String) ++ t : Str).length ≤ acc.length + 2 + t.length := by
      rw [len_app, len_app]
      have z : ((if k > 0 then ", " else "" : String) : Str).length ≤ 2 := by split <;> decide
      omega
    show (textFrom (k + 1) _ r).length ≤ acc.length + piled (t :: r)
    have p : piled (t :: r) = t.length + 2 + piled r := rfl
    omega
theorem listText_le (ts : List Str) : (listText ts).length ≤ piled ts + 2 := by
  unfold listText
  rw [len_app]
  have h := textFrom_le ts 0 "["
  have e1 : ("[" : Str).length = 1 := by decide
  have e2 : ("]" : Str).length = 1 := by decide
  omega
theorem tupleText_le (ts : List Str) : (tupleText ts).length ≤ piled ts + 3 := by
  unfold tupleText
  rw [len_app, len_app]
  have e1 : ("(" : Str).length = 1 := by decide
  have e2 : ((if ts.length == 1 then ",)" else ")" : String) : Str).length ≤ 2 := by split <;> decide
  cases ts with
  | nil =>
    have e3 : (Str.join ", " ([] : List Str)).length = 0 := rfl
    omega
  | cons t r =>
    have h := join_length_add (t :: r) (by simp)
    omega
theorem nat_shown : ∀ i : Fin 1001, ((toString ((i.val : Nat) : Int) : String) : Str).length ≤ 4 := by decide +kernel
end Nw

namespace Nw
open PySem PySem.Spec PyProof.Rows L2
/-! ### what repr shows of data fits a line: a measure that is easily computed -/
mutual
def rm : PyData → Nat
  | .none => 4
  | .bool _ => 5
  | .int _ => 1921
  | .str x => 10 * x.length + 2
  | .list xs => rmAll xs + 2
  | .tuple xs => rmAll xs + 3
  | .dict _ => 0
def rmAll : List PyData → Nat
  | [] => 0
  | x :: xs => (rm x + 2) + rmAll xs
end
theorem strOk_lt {x : Str} (h : PyData.strOk x = true) : ∀ c ∈ x.cps.toList, c < 16 ^ 8 := fun c hc => by
  unfold PyData.strOk at h
  rw [Array.all_eq_true'] at h
  have z := of_decide_eq_true (h c (Array.mem_toList_iff.mp hc))
  omega
mutual
theorem shown_le : ∀ d : PyData, d.canLay0 = true → d.showable = true → d.shown.length ≤ rm d
  | .none, _, _ => by simp only [PyData.shown, rm]; decide
  | .bool b, _, _ => by cases b <;> simp only [PyData.shown, rm] <;> decide
  | .int i, _, h => by
    simp only [PyData.showable, decide_eq_true_eq] at h
    simp only [PyData.shown, rm]
    exact int_text_len_1921 h
  | .str x, h, _ => by
    simp only [PyData.canLay0] at h
    simp only [PyData.shown, rm]
    exact PySem.StrLaws.reprText_len x (strOk_lt h)
  | .list xs, h, k => by
    simp only [PyData.canLay0] at h
    simp only [PyData.showable] at k
    simp only [PyData.shown, rm]
    have z := shownAll_le xs h k
    have y := listText_le (PyData.shownAll xs)
    omega
  | .tuple xs, h, k => by
    simp only [PyData.canLay0] at h
    simp only [PyData.showable] at k
    simp only [PyData.shown, rm]
    have z := shownAll_le xs h k
    have y := tupleText_le (PyData.shownAll xs)
    omega
  | .dict _, h, _ => by simp [PyData.canLay0] at h
theorem shownAll_le : ∀ xs : List PyData, PyData.canLayAll0 xs = true → PyData.showableAll xs = true → piled (PyData.shownAll xs) ≤ rmAll xs
  | [], _, _ => by simp only [PyData.shownAll, rmAll]; exact Nat.le_refl _
  | x :: xs, h, k => by
    simp only [PyData.canLayAll0, Bool.and_eq_true] at h
    simp only [PyData.showableAll, Bool.and_eq_true] at k
    simp only [PyData.shownAll, rmAll, piled_cons]
    have z := shown_le x h.1 k.1
    have y := shownAll_le xs h.2 k.2
    omega
end
/-- repr shows it -/
structure Shows (d : PyData) : Prop where
  lay : d.canLay0 = true
  sh : d.showable = true
  deep : d.depth ≤ 64
  few : rm d ≤ sizeLine
theorem Shows.len {d : PyData} (s : Shows d) : d.shown.length ≤ sizeLine := Nat.le_trans (shown_le d s.lay s.sh) s.few
theorem Shows.nd {d : PyData} (s : Shows d) : d.hasDict = false := PyData.hasDict_of_canLay d s.lay
theorem rmAll_le {n : Nat} : ∀ xs : List PyData, (∀ x ∈ xs, rm x ≤ n) → rmAll xs ≤ xs.length * (n + 2)
  | [], _ => by simp [rmAll]
  | x :: xs, h => by
    have z := rmAll_le xs fun y hy => h y (List.mem_cons_of_mem _ hy)
    have y := h x (List.mem_cons_self ..)
    simp only [rmAll, List.length_cons]
    rw [Nat.add_mul]
    omega
theorem lay_all : ∀ xs : List PyData, (∀ x ∈ xs, x.canLay0 = true) → PyData.canLayAll0 xs = true
  | [], _ => rfl
  | x :: xs, h => by
    simp only [PyData.canLayAll0, Bool.and_eq_true]
    exact ⟨h x (List.mem_cons_self ..), lay_all xs fun y hy => h y (List.mem_cons_of_mem _ hy)⟩
theorem showable_all : ∀ xs : List PyData, (∀ x ∈ xs, x.showable = true) → PyData.showableAll xs = true
  | [], _ => rfl
  | x :: xs, h => by
    simp only [PyData.showableAll, Bool.and_eq_true]
    exact ⟨h x (List.mem_cons_self ..), showable_all xs fun y hy => h y (List.mem_cons_of_mem _ hy)⟩
theorem depth_all {n : Nat} : ∀ xs : List PyData, (∀ x ∈ xs, x.depth ≤ n) → PyData.depthAll xs ≤ n
  | [], _ => by simp [PyData.depthAll]
  | x :: xs, h => by
    have z := depth_all xs fun y hy => h y (List.mem_cons_of_mem _ hy)
    have y := h x (List.mem_cons_self ..)
    simp only [PyData.depthAll]
    omega
theorem showable_int {i : Int} {k : Nat} (h : i.natAbs < 2 ^ 1920) : (PyData.int i).showable = true := by
  simp only [PyData.showable, decide_eq_true_eq]
  by_cases z : i.natAbs = 0
  · rw [z]; decide
  · exact (Nat.log2_lt z).mpr h
theorem showable_nat {i : Nat} (h : i < 100000) : (PyData.int (i : Nat)).showable = true := by
  simp only [PyData.showable, decide_eq_true_eq]
  show (i : Int).natAbs.log2 < 1920
  rw [Int.natAbs_natCast]
  by_cases z : i = 0
  · rw [z]; decide
  · refine Nat.lt_of_lt_of_le ((Nat.log2_lt z).mpr (show i < 2 ^ 17 by omega)) (by decide)
section
variable {K : PySem.W.Frag} {H H' : Hp}
theorem sqL_up {a : Addr} {xs : List V} (h : SqL K H a xs) (e : Same H H') : SqL K H' a xs := h.elim (fun z => .inl (z.elim (fun q => .inl (e _ _ q)) fun ⟨o, q⟩ => .inr ⟨o, e _ _ q⟩)) .inr
theorem sqT_up {a : Addr} {xs : List V} (h : SqT K H a xs) (e : Same H H') : SqT K H' a xs := h.elim (fun z => .inl (z.elim (fun q => .inl (e _ _ q)) fun ⟨o, q⟩ => .inr ⟨o, e _ _ q⟩)) .inr
mutual
theorem dp_up (e : Same H H') : ∀ (d : PyData) (v : V), Dp K H v d → Dp K H' v d
  | .none, _, .non => .non
  | .bool b, _, .bl _ => .bl b
  | .int i, _, .int _ => .int i
  | .str x, _, .str _ => .str x
  | .list ds, _, .lst h t => .lst (sqL_up h e) (dp_upAll e ds _ t)
  | .tuple ds, _, .tup h t => .tup (sqT_up h e) (dp_upAll e ds _ t)
theorem dp_upAll (e : Same H H') : ∀ (ds : List PyData) (vs : List V), DpAll K H vs ds → DpAll K H' vs ds
  | [], _, .nil => .nil
  | d :: ds, _, .cons h t => .cons (dp_up e d _ h) (dp_upAll e ds _ t)
end
theorem Dp.up {v : V} {d : PyData} (h : Dp K H v d) (e : Same H H') : Dp K H' v d := dp_up e d v h
end
end Nw

namespace Nw
open PySem PySem.Spec PyProof.Rows L2
/-! ### any value, with what stands in lists, too; bools and ints are told apart -/
inductive Dt where
  | non | bl (b : Bool) | int (i : Int) | str (l : List Nat) | sq (t : Bool) (xs : List Dt) | dic | obj
/-- an own class that is none of these kinds -/
structure NoKit (K : PySem.W.Frag) (C : Addr) : Prop where
  str : PySem.W.kitOne K (.ref C) (.type "str") = some false
  tup : PySem.W.kitOne K (.ref C) (.type "tuple") = some false
  lst : PySem.W.kitOne K (.ref C) (.type "list") = some false
  int : PySem.W.kitOne K (.ref C) (.type "int") = some false
  bool : PySem.W.kitOne K (.ref C) (.type "bool") = some false
inductive isE (K : PySem.W.Frag) (I : Hp) : V → Dt → Prop where
  | non : isE K I .non .non
  | bl (b : Bool) : isE K I (.bl b) (.bl b)
  | int (i : Int) : isE K I (.int i) (.int i)
  | str (l : List Nat) (h : l.length ≤ 100000) : isE K I (.str (mk l)) (.str l)
  | sq {t : Bool} {a : Addr} {vs : List V} {xs : List Dt} (h : I a = some (ho t vs)) (hl : vs.length = xs.length) (hd : ∀ (i : Nat) (v : V) (x : Dt), vs[i]? = some v → xs[i]? = some x → isE K I v x) : isE K I (.ref a) (.sq t xs)
  | dic {a : Addr} {kvs : List (Key × V)} (h : I a = some (.dK kvs)) : isE K I (.ref a) .dic
  | obj {a C dx : Addr} {fs : List (Str × V)} (h : I a = some (.ins C dx fs)) (F : InsF K C) (c : Cls K C) (k : NoKit K C) : isE K I (.ref a) .obj
/-- what stands in a list or a tuple -/
structure Es (K : PySem.W.Frag) (I : Hp) (vs : List V) (xs : List Dt) : Prop where
  len : vs.length = xs.length
  at_ : ∀ (i : Nat) (v : V) (x : Dt), vs[i]? = some v → xs[i]? = some x → isE K I v x
section
variable {K : PySem.W.Frag} {I I' H : Hp} {v : V} {x : Dt}
theorem isE.up (h : isE K I v x) (e : Same I I') : isE K I' v x := by
  induction h with
  | non => exact .non
  | bl b => exact .bl b
  | int i => exact .int i
  | str l h => exact .str l h
  | sq h hl hd ih => exact .sq (e _ _ h) hl ih
  | dic h => exact .dic (e _ _ h)
  | obj h F c k => exact .obj (e _ _ h) F c k
theorem Es.up {vs : List V} {xs : List Dt} (h : Es K I vs xs) (e : Same I I') : Es K I' vs xs := ⟨h.len, fun i v x h1 h2 => (h.at_ i v x h1 h2).up e⟩
theorem Es.nil : Es K I [] [] := ⟨rfl, fun i v x h _ => by simp at h⟩
theorem Es.cons {vs : List V} {xs : List Dt} (h : isE K I v x) (t : Es K I vs xs) : Es K I (v :: vs) (x :: xs) := ⟨congrArg (· + 1) t.len, fun i u y h1 h2 => by
  match i, h1, h2 with
  | 0, h1, h2 => cases h1; cases h2; exact h
  | i + 1, h1, h2 => exact t.at_ i u y h1 h2⟩
theorem Es.app {vs ws : List V} {xs ys : List Dt} (h : Es K I vs xs) (t : Es K I ws ys) : Es K I (vs ++ ws) (xs ++ ys) := by
  induction xs generalizing vs with
  | nil =>
    cases vs with
    | nil => exact t
    | cons v vs => exact absurd h.len (by simp)
  | cons x xs ih =>
    cases vs with
    | nil => exact absurd h.len (by simp)
    | cons v vs => exact .cons (h.at_ 0 v x rfl rfl) (ih ⟨Nat.succ.inj h.len, fun i u y h1 h2 => h.at_ (i + 1) u y h1 h2⟩)
theorem Es.mem {vs : List V} {xs : List Dt} (h : Es K I vs xs) {j : Nat} (e : vs[j]? = some v) : ∃ x, xs[j]? = some x ∧ isE K I v x := by
  have hj : j < vs.length := (List.getElem?_eq_some_iff.mp e).1
  have hk : j < xs.length := by rw [← h.len]; exact hj
  exact ⟨xs[j], List.getElem?_eq_getElem hk, h.at_ j v _ e (List.getElem?_eq_getElem hk)⟩
theorem Es.get {vs : List V} {xs : List Dt} (h : Es K I vs xs) {j : Nat} (e : xs[j]? = some x) : ∃ v, vs[j]? = some v ∧ isE K I v x := by
  have hj : j < xs.length := (List.getElem?_eq_some_iff.mp e).1
  have hk : j < vs.length := by rw [h.len]; exact hj
  exact ⟨vs[j], List.getElem?_eq_getElem hk, h.at_ j _ x (List.getElem?_eq_getElem hk) e⟩
theorem Es.take {vs : List V} {xs : List Dt} (h : Es K I vs xs) (n : Nat) : Es K I (vs.take n) (xs.take n) := ⟨by rw [List.length_take, List.length_take, h.len], fun i v x h1 h2 => by
  rw [List.getElem?_take] at h1 h2
  split at h1
  · rename_i c
    rw [if_pos c] at h2
    exact h.at_ i v x h1 h2
  · cases h1⟩
theorem Es.drop {vs : List V} {xs : List Dt} (h : Es K I vs xs) (n : Nat) : Es K I (vs.drop n) (xs.drop n) := ⟨by rw [List.length_drop, List.length_drop, h.len], fun i v x h1 h2 => by
  rw [List.getElem?_drop] at h1 h2
  exact h.at_ _ v x h1 h2⟩
theorem isE.of {t : Bool} {a : Addr} {vs : List V} {xs : List Dt} (h : I a = some (ho t vs)) (e : Es K I vs xs) : isE K I (.ref a) (.sq t xs) := .sq h e.len e.at_
theorem isE.inv {t : Bool} {xs : List Dt} (h : isE K I v (.sq t xs)) : ∃ a vs, v = .ref a ∧ I a = some (ho t vs) ∧ Es K I vs xs := by
  cases h with
  | sq h hl hd => exact ⟨_, _, rfl, h, hl, hd⟩
def Dt.isStr : Dt → Bool
  | .str _ => true
  | _ => false
def Dt.isTup : Dt → Bool
  | .sq t _ => t
  | _ => false
def Dt.isLst : Dt → Bool
  | .sq t _ => !t
  | _ => false
def Dt.isInt : Dt → Bool
  | .int _ => true
  | .bl _ => true
  | _ => false
def Dt.isBool : Dt → Bool
  | .bl _ => true
  | _ => false
def Dt.isNum : Dt → Bool
  | .int _ => true
  | _ => false
structure Kits (K : PySem.W.Frag) (t : Value) (x : Dt) : Prop where
  str : PySem.W.kitOne K t (.type "str") = some x.isStr
  tup : PySem.W.kitOne K t (.type "tuple") = some x.isTup
  lst : PySem.W.kitOne K t (.type "list") = some x.isLst
  int : PySem.W.kitOne K t (.type "int") = some x.isInt
  bool : PySem.W.kitOne K t (.type "bool") = some x.isBool
theorem isE.ty (h : isE K I v x) (sb : Same I H) : ∃ t, TyX K H v t ∧ Kits K t x := by
  cases h with
  | non => exact ⟨_, .base .non, (show _ = some false from kit_ty (by decide +kernel)), (show _ = some false from kit_ty (by decide +kernel)), (show _ = some false from kit_ty (by decide +kernel)), (show _ = some false from kit_ty (by decide +kernel)), (show _ = some false from kit_ty (by decide +kernel))⟩
  | bl b => exact ⟨_, .base (.bl b), (show _ = some false from kit_ty (by decide +kernel)), (show _ = some false from kit_ty (by decide +kernel)), (show _ = some false from kit_ty (by decide +kernel)), (show _ = some true from kit_ty (by decide +kernel)), (show _ = some true from kit_ty (by decide +kernel))⟩
  | int i => exact ⟨_, .base (.int i), (show _ = some false from kit_ty (by decide +kernel)), (show _ = some false from kit_ty (by decide +kernel)), (show _ = some false from kit_ty (by decide +kernel)), (show _ = some true from kit_ty (by decide +kernel)), (show _ = some false from kit_ty (by decide +kernel))⟩
  | str l h => exact ⟨_, .base (.str _), (show _ = some true from kit_ty (by decide +kernel)), (show _ = some false from kit_ty (by decide +kernel)), (show _ = some false from kit_ty (by decide +kernel)), (show _ = some false from kit_ty (by decide +kernel)), (show _ = some false from kit_ty (by decide +kernel))⟩
  | @sq t a vs xs h hl hd =>
    cases t
    · exact ⟨_, .base (.lst (sb _ _ h)), (show _ = some false from kit_ty (by decide +kernel)), (show _ = some false from kit_ty (by decide +kernel)), (show _ = some true from kit_ty (by decide +kernel)), (show _ = some false from kit_ty (by decide +kernel)), (show _ = some false from kit_ty (by decide +kernel))⟩
    · exact ⟨_, .base (.tup (sb _ _ h)), (show _ = some false from kit_ty (by decide +kernel)), (show _ = some true from kit_ty (by decide +kernel)), (show _ = some false from kit_ty (by decide +kernel)), (show _ = some false from kit_ty (by decide +kernel)), (show _ = some false from kit_ty (by decide +kernel))⟩
  | dic h => exact ⟨_, .base (.dK (sb _ _ h)), (show _ = some false from kit_ty (by decide +kernel)), (show _ = some false from kit_ty (by decide +kernel)), (show _ = some false from kit_ty (by decide +kernel)), (show _ = some false from kit_ty (by decide +kernel)), (show _ = some false from kit_ty (by decide +kernel))⟩
  | obj h F c k => exact ⟨_, F.ty c (sb _ _ h), k.str, k.tup, k.lst, k.int, k.bool⟩
theorem Kits.seq {t : Value} (k : Kits K t x) : PySem.W.kitAny K t [.type "list", .type "tuple"] = some (x.isLst || x.isTup) := by
  cases h : x.isLst with
  | true => exact kitAny_cons (b := true) (by rw [k.lst, h]) (fun z => nomatch z) (fun _ => rfl)
  | false => exact kitAny_cons (b := false) (by rw [k.lst, h]) (fun _ => kitAny_cons (b := x.isTup) k.tup (fun z => by rw [z]; exact kitAny_nil) (fun z => z)) (fun z => nomatch z)
end
/-! ### such values as data that are shown -/
mutual
def Dt.py : Dt → PyData
  | .non => .none
  | .bl b => .bool b
  | .int i => .int i
  | .str l => .str (mk l)
  | .sq false xs => .list (Dt.pys xs)
  | .sq true xs => .tuple (Dt.pys xs)
  | .dic => .none
  | .obj => .none
def Dt.pys : List Dt → List PyData
  | [] => []
  | x :: xs => x.py :: Dt.pys xs
end
mutual
/-- no dict, no object -/
def Dt.plain : Dt → Bool
  | .dic => false
  | .obj => false
  | .sq _ xs => Dt.plains xs
  | _ => true
def Dt.plains : List Dt → Bool
  | [] => true
  | x :: xs => x.plain && Dt.plains xs
end
mutual
theorem dp_isE {K : PySem.W.Frag} {I H : Hp} (sb : Same I H) : ∀ (x : Dt) (v : V), isE K I v x → x.plain = true → Dp K H v x.py
  | .non, _, h, _ => by cases h; exact .non
  | .bl b, _, h, _ => by cases h; exact .bl b
  | .int i, _, h, _ => by cases h; exact .int i
  | .str l, _, h, _ => by cases h; exact .str _
  | .sq t xs, _, h, p => by
    obtain ⟨a, vs, rfl, ha, es⟩ := h.inv
    have z := dp_Es sb xs vs es p
    cases t
    · exact .lst (SqL.of (sb _ _ ha)) z
    · exact .tup (SqT.of (sb _ _ ha)) z
  | .dic, _, _, p => by cases p
  | .obj, _, _, p => by cases p
theorem dp_Es {K : PySem.W.Frag} {I H : Hp} (sb : Same I H) : ∀ (xs : List Dt) (vs : List V), Es K I vs xs → Dt.plains xs = true → DpAll K H vs (Dt.pys xs)
  | [], vs, h, _ => by
    cases vs with
    | nil => exact .nil
    | cons v vs => exact absurd h.len (by simp)
  | x :: xs, vs, h, p => by
    cases vs with
    | nil => exact absurd h.len (by simp)
    | cons v vs =>
      have p' : (x.plain && Dt.plains xs) = true := p
      rw [Bool.and_eq_true] at p'
      exact .cons (dp_isE sb x v (h.at_ 0 v x rfl rfl) p'.1) (dp_Es sb xs vs ⟨Nat.succ.inj h.len, fun i u y h1 h2 => h.at_ (i + 1) u y h1 h2⟩ p'.2)
end
/-! ### a guarded def that makes lambdas, its own code object told -/
theorem okgL_of {P : Program} {w : World} {K : PySem.W.Frag} {mg : Str → Option Value} {base : Heap} {k : Nat} {ps N : List Str} {sp : Sp} {t qual : Str} {st : Stmt} (F : FnAt K t qual st (He.ga K t)) (S : FnScope N ps (defScope st))
    (hb : ∀ (kV doc pm : Value) (an : Option Addr) (cdv ct : Value) (us : List Value), us.length = ps.length → bindArgs (PySem.W.fnOf t qual (defArgs st) (defBody st) (defScope st) .none kV doc pm an cdv ct) ⟨us, []⟩ = pure (ps.zip us))
    (len : ∀ vs H Q E, sp vs H Q E → vs.length = ps.length)
    (hbody : ∀ (cdv : Value) (A : Around) (outer : List Env) (s : Shared) (H : Hp) (vs : List V) (Q : VK) (E : XK), cdv = .ref (He.codeOf K (t, none)) → Room k (A.deeper (envOfC qual (defScope st) s.heap.objs.size (He.ga K t) cdv)) → A.guards = some [] → sp vs H Q E →
      ∃ u, PSs (cxOf CX0 P w K mg base N qual (defScope st) (He.ga K t) cdv A outer s H E).nox (defBody st) u ∧ u { nx := fun _ H' => Q .non H', rt := Q } (start N vs) H) : OkG P w K mg base CX0 (k + 1) (He.ga K t) ps sp := by
  obtain ⟨fd, F⟩ := F
  exact ⟨fd, fngL_of F S len hbody, F.bindsN hb, F.kp⟩
/-- two fields: one error goes out -/
def outF (C : Addr) (fs : List (Str × V)) (E : XK) (I H : Hp) : Prop := ∀ I' H' dx, Grow No I H I' H' → H' dx = some (.xd fs) → E (.ref C) (some dx) H'
theorem outF.grow {C : Addr} {fs : List (Str × V)} {E : XK} {I H I' H' : Hp} (k : outF C fs E I H) (g : Grow No I H I' H') : outF C fs E I' H' := fun I2 H2 dx g2 h => k I2 H2 dx (g.trans g2) h
end Nw

namespace Nw
open PySem PySem.Spec PyProof.Rows L2
/-! ### xs.count(y), flat values -/
def rCntV (K : PySem.W.Frag) : V → List V → Hp → VK → Prop := fun x xs H Q => ∃ (p : Addr) (ys : List V) (y : V), x = .ref p ∧ xs = [y] ∧ SqL K H p ys ∧ flatV y = true ∧ ys.all flatV = true ∧ Q (.int (ys.countP (fun z => eqV z y) : Nat)) H
theorem count_eqU {x : V} : ∀ {xs : List V} {us : List Value}, Vals xs us → xs.all flatV = true → us.countP (eqU x) = xs.countP fun y => eqV y x
  | _, _, .nil, _ => rfl
  | y :: xs, u :: us, .cons r t, f => by
    rw [List.all_cons, Bool.and_eq_true] at f
    rw [List.countP_cons, List.countP_cons, eqU_of r f.1, count_eqU t f.2]
theorem mt_countV {X : Cx} : MtR X "list.count" (rCntV X.K) := by
  intro pins s σ H x xs v us Q I rx rxs h
  obtain ⟨p, ys, y, rfl, rfl, hs, fy, fs, q⟩ := h
  cases rx
  obtain ⟨u, rfl, ru⟩ := rxs.one
  obtain ⟨its, rv, pl, hz⟩ := I.list hs
  obtain ⟨⟨cls, dd, data, sl⟩, n, ho, hc, hdn, hd⟩ := pl
  simp only at hc hd
  subst hc hd
  have at_ : ∀ {A : Around} {s' : Shared}, ∀ w ∈ its.toArray, SeqAt.EqAt A s' w u (eqU y w) := fun w hw => mem_eqAt ru fy rv fs w (by simpa using hw)
  refine call_meets PySem.F.slot_list_count ⟨_, ho, rfl⟩ PySem.F.entry_list_count (PySem.F.args_list_count_2 _ _) (SeqAt.list_countAt p its.toArray n dd sl u (eqU y)) ⟨ho, at_, ?_⟩
  have ec : its.toArray.toList.countP (eqU y) = ys.countP fun z => eqV z y := count_eqU rv fs
  refine ⟨.int (ys.countP (fun z => eqV z y) : Nat), H, I.tok _, ⟨s.toks, ?_⟩, q⟩
  show Value.int ((its.toArray.toList.countP (eqU y) : Nat) : Int) s.toks = _
  rw [ec]
/-! ### == and != of data, within a comprehension -/
theorem op_eqDK {X : Cx} {K : PySem.W.Frag} (h : X.K = K) (hu : X.A.units + 64 < cLine) : OpR X (compareOp .Eq) (rEqD K) := h ▸ op_eqD hu
theorem op_neDK {X : Cx} {K : PySem.W.Frag} (h : X.K = K) (hu : X.A.units + 64 < cLine) : OpR X (compareOp .NotEq) (rNeD K) := h ▸ op_neD hu
end Nw

namespace Nw
open PySem PySem.Spec PyProof.Rows L2
section
variable {X : Cx} {k : Nat} {f C : Addr} {fd : FuncData} {ps : List Str} {sp : Sp}
/-- the same, a tuple at the other side -/
def rOwnBT (C : Addr) (sp : Sp) (g : Bool → Bool) : R2 := fun x y H Q => ∃ a b dx fs xs, x = .ref a ∧ y = .ref b ∧ H a = some (.ins C dx fs) ∧ H b = some (.tup xs) ∧ sp [.ref a, .ref b] H (fun v H' => ∃ t, v = .bl t ∧ Q (.bl (g t)) H') E0
theorem op_own_neT (hsub : PySem.W.subIn X.K (.type "tuple") (.ref C) = some false) (M : Meth X.K C "__eq__" f) (hne : PySem.W.findIn X.K (.ref C) "__ne__" = some (some (.builtin "object.__ne__"))) (hob : PySem.W.subIn X.K (.ref C) (.type "object") = some true)
    (F : FnOk X.prog X.w X.K X.mg X.base CX0 k f fd ps sp) (hr : Room (k + 1) X.A) (hb : Binds X.K fd ps []) : OpR X (compareOp .NotEq) (rOwnBT C sp not) := by
  intro pins s σ H x y v u Q I rx ry h
  obtain ⟨a, b, dx, fs, gs, rfl, rfl, ha, hb', q⟩ := h
  cases rx
  cases ry
  obtain ⟨mA, J, _⟩ := ins_get I.hok ha
  obtain ⟨its, rv, ⟨ob, hob2, hcb, _⟩, _⟩ := I.tuple (SqT.of hb')
  obtain ⟨od, J, _⟩ := J.look
  obtain ⟨m, hF⟩ := I.fr
  have Xk := I.kIn
  show wpAny (model X.prog X.w) X.A (richCompare .NotEq (.ref a) (.ref b)) (EP X pins σ Q) X.xe s
  have r2 : Vals [V.ref a, V.ref b] [Value.ref a, Value.ref b] := .cons rfl (.cons rfl .nil)
  have e0 : Env0 X.prog X.w X.K X.mg X.base X.A.in1 X.stack s H := I.env0.in1
  have hl : (([.ref a, .ref b] : List Value) ++ []).length = ps.length := by
    have := F.len _ _ _ _ q
    simpa using this
  -- the own ==, one deeper
  have own : wpAny (model X.prog X.w) X.A.in1 (call (.ref f) [.ref a, .ref b]) (EP X pins σ (fun v H' => ∃ t, v = .bl t ∧ Q (.bl (!t)) H')) X.xe s := by
    refine wpAny_call (codeAny_mono (F.run X.A.in1 X.stack s H ⟨[.ref a, .ref b], []⟩ [.ref a, .ref b] [.ref a, .ref b] _ E0 hr.in1 e0 (by
      have := hb s [.ref a, .ref b] I.kIn hl
      simpa using this) r2 q) fun r s' hq => ?_)
    cases r with
    | error e => exact pass0 pins σ H s e s' I hq
    | ok fl =>
      cases fl with
      | ret w => exact I.after hq
      | next => exact False.elim hq
      | brk => exact False.elim hq
      | cont => exact False.elim hq
  have neq : wpAny (model X.prog X.w) X.A.in1 (Builtin.«object.__ne__» ⟨[.ref a, .ref b], []⟩) (fun fin s' => ∃ t, fin = .done (.ret (.bool t)) ∧ EP X pins σ Q (.bool t) s') X.xe s := by
    unfold Builtin.«object.__ne__»
    refine wpAny_bind (m := slotArgs "__ne__" 1 ⟨[.ref a, .ref b], []⟩) ?_
    refine (show wpAny _ _ (pure (Value.ref a, [Value.ref b])) _ _ _ from wpAny_pure ?_)
    refine wpAny_bind (wpAny_cRoomFor hr.in1.units0 ?_)
    refine wpAny_bind (PySem.W.ifBound_K Xk J M.at_ M.fn (wpAny_mono own (fun v s' hv => ?_) fun _ _ e => e))
    obtain ⟨z, H', I', rz, t, rfl, q'⟩ := hv
    cases rz
    refine wpAny_bind (wpAny_truthy_bool ?_)
    exact wpAny_pure ⟨!t, rfl, .bl (!t), H', I', rfl, q'⟩
  have one : wpAny (model X.prog X.w) X.A (tryCompare (.ref a) "__ne__" (.ref b)) (fun r s' => ∃ v, r = some v ∧ EP X pins σ Q v s') X.xe s := by
    unfold tryCompare
    refine wpAny_bind (ifBoundB_K Xk J hne slot_ne (wpAny_call (codeAny_call_builtin slot_ne.plain PySem.F.cmpEntry_ne (check_slotK Xk J PySem.F.cmpKind_ne PySem.F.cmpSplit_ne (PySem.F.cmpArgs_ne _ _) hob ?_))))
    refine wpAny_mono neq (fun fin s' hv => ?_) fun e s' z => z
    obtain ⟨t, rfl, q'⟩ := hv
    exact wpAny_pure ⟨_, rfl, q'⟩
  unfold richCompare
  simp only [oneThing_ref]
  refine wpAny_holding (wpAny_bind (wpAny_cRoomFor hr.units0 ?_))
  refine wpAny_bind (J.type.here (wpAny_bind (wpAny_typeOf_ref hob2 ?_)))
  rw [hcb]
  have ne : (Value.ref C != Value.type "tuple") = true := rfl
  simp only [ne, if_true]
  refine wpAny_bind ((PySem.W.looks_subIn Xk hsub).here ?_)
  simp only [Bool.false_eq_true, if_false]
  refine wpAny_bind (wpAny_mono one (fun r s' z => ?_) fun _ _ e => e)
  obtain ⟨v, rfl, hq⟩ := z
  exact wpAny_pure hq
end
end Nw

namespace Nw
open PySem PySem.Spec PyProof.Rows L2
/-! ### repr of an empty dict beside a text; lambdas within comprehensions -/
section
variable {X : Cx}
/-- data as in call_reprD, or a text and an empty dict in a tuple -/
def rReprE (K : PySem.W.Frag) : List V → Hp → VK → Prop := fun xs H Q => (∃ v d, xs = [v] ∧ Dp K H v d ∧ d.showable = true ∧ d.hasDict = false ∧ d.depth ≤ 64 ∧ d.shown.length ≤ sizeLine ∧ Q (.str d.shown) H) ∨
  ∃ (a b : Addr) (z : Str), xs = [.ref a] ∧ SqT K H a [.str z, .ref b] ∧ H b = some (.dK []) ∧ (PyData.tuple [.str z, .dict []]).shown.length ≤ sizeLine ∧ Q (.str (PyData.tuple [.str z, .dict []]).shown) H
theorem call_reprE (hgd : X.A.guards = some []) (hu : X.A.units + 70 < cLine) : CallR X (.builtin "repr") (rReprE X.K) := by
  intro pins s σ H xs us Q I r h
  rcases h with h | ⟨a, b, z, rfl, ha, hb, hl, q⟩
  · exact call_reprD hgd hu pins s σ H xs us Q I r h
  · obtain ⟨u, rfl, ru⟩ := vals1 r
    cases ru
    obtain ⟨its, rv, ⟨o, ho, hc, n, hd⟩, _⟩ := I.tuple ha
    obtain ⟨u1, u2, rfl, r1, r2⟩ := vals2 rv
    cases r2
    obtain ⟨t, rfl⟩ := r1
    obtain ⟨_, hsm, vs, kv, dd⟩ := dk_of I.hok hb
    have rb : ∃ as, Reads s.heap (.ref b) (.dict []) as ∧ sysModules ∉ as := by
      obtain ⟨ob, es, ep, hob, hex, hdb, _, pr, _⟩ := dd
      cases kv
      cases hes : es.toList with
      | cons e l => rw [hes] at pr; cases pr
      | nil =>
        have rd : Reads s.heap (.ref b) (.dict []) (b :: [] ++ []) := Reads.dict hob hex.1 hdb (by rw [hes]; exact .nil) (by rw [hes]; exact .nil)
        exact ⟨_, rd, by simpa using fun z => beq_eq_false_iff_ne.mp hsm z.symm⟩
    obtain ⟨as, rb, hns⟩ := rb
    have ra : Reads s.heap (.ref a) (.tuple [.str z, .dict []]) ([] ++ (as ++ [])) := Reads.tuple ho hc hd (.cons (.str z t) (.cons rb .nil))
    have hdep : (PyData.tuple [.str z, .dict []]).depth = 2 := by simp only [PyData.depth, PyData.depthAll, PyData.depthKv]; rfl
    exact repr_of_reads' ra (by simp only [PyData.showable, PyData.showableAll, PyData.showableKv]; rfl) (fun _ => by simpa using hns) hgd (by rw [hdep]; omega) (fun _ _ z => z) (fun h' u tk hk => ⟨.str _, H, I.kept (t' := tk) hk, ⟨_, rfl⟩, q⟩) hl
end
/-! ### a lambda within a comprehension -/
theorem lookup_rel {env : Env} {x : Str} : ∀ {names : List (Str × NameKind)}, (names.lookup x = some .cell ∨ names.lookup x = some .free) →
    (names.map fun (n, k) => if (k == NameKind.free && env.scope.kind == .function && env.kindOf n == some .cell) then (n, NameKind.cell) else (n, k)).lookup x = some .cell ∨
    (names.map fun (n, k) => if (k == NameKind.free && env.scope.kind == .function && env.kindOf n == some .cell) then (n, NameKind.cell) else (n, k)).lookup x = some .free
  | [], h => by rcases h with h | h <;> cases h
  | (n, k) :: r, h => by
    have ih := @lookup_rel env x r
    show List.lookup x ((if (k == NameKind.free && env.scope.kind == .function && env.kindOf n == some .cell) = true then (n, NameKind.cell) else (n, k)) :: _) = _ ∨ List.lookup x ((if (k == NameKind.free && env.scope.kind == .function && env.kindOf n == some .cell) = true then (n, NameKind.cell) else (n, k)) :: _) = _
    cases hx : x == n with
    | true =>
      simp only [List.lookup_cons, hx] at h
      by_cases hc : (k == NameKind.free && env.scope.kind == .function && env.kindOf n == some .cell) = true
      · rw [if_pos hc]
        simp only [List.lookup_cons, hx]
        exact .inl trivial
      · rw [if_neg hc]
        simp only [List.lookup_cons, hx]
        exact h
    | false =>
      simp only [List.lookup_cons, hx] at h
      by_cases hc : (k == NameKind.free && env.scope.kind == .function && env.kindOf n == some .cell) = true
      · rw [if_pos hc]
        simp only [List.lookup_cons, hx]
        exact ih h
      · rw [if_neg hc]
        simp only [List.lookup_cons, hx]
        exact ih h
theorem lamS_rel {bs scope : Scope} {env : Env} (h : LamX.lamSB bs scope = true) : LamX.LamS (relabel bs env) scope := by
  have L := LamX.lamS_by h
  exact ⟨L.kind, L.co, L.gen, L.own, fun y hy e => lookup_rel (L.free y hy e)⟩
end Nw

namespace Nw
open PySem PySem.Spec PyProof.Rows L2
/-! ### lambdas made in several defs: a list of tables -/
theorem tb_uniq {P : Addr} {u : Str} {q : Addr × Str} : ∀ {Tb : List (Addr × Str)}, (Tb.map Prod.fst).Nodup → (P, u) ∈ Tb → q ∈ Tb → q.1 = P → q.2 = u
  | [], _, h, _, _ => nomatch h
  | y :: l, nd, hm, hq, h1 => by
    obtain ⟨n1, n2⟩ := List.nodup_cons.mp (show (y.1 :: l.map Prod.fst).Nodup from nd)
    rcases List.mem_cons.mp hq with hq | hq
    · rcases List.mem_cons.mp hm with h | h
      · rw [hq, ← h]
      · refine absurd ?_ n1
        rw [← hq, h1]
        exact List.mem_map_of_mem (f := Prod.fst) h
    · rcases List.mem_cons.mp hm with h | h
      · refine absurd ?_ n1
        rw [← h]
        show P ∈ l.map Prod.fst
        rw [← h1]
        exact List.mem_map_of_mem (f := Prod.fst) hq
      · exact tb_uniq n2 h hq h1
theorem pe_told2 {X : Cx} {Tb : List (Addr × Str)} {TT : (XK → Hp → VK → Prop) → Hp → VK → Prop} {x a : Str} {g c P : Addr} {k : Nat} {st : Stmt} {Ng : List Str} {params : Arguments} {body : Expr} {scope : Scope} {t : XK → TE} {p lpos pos : Pos} {e : Addr × Str}
    (F : FnAt X.K x x st g) (S : FnScope Ng [a] (defScope st)) (hm : X.mg x = some (.ref g)) (hG : ∀ cdv, LamX.GivesTo X Ng x (defScope st) g cdv (defBody st) a (X.env.qual ++ "<lambda>") TT)
    (TB : LamX.TabB X.base X.mg c P) (hcode : X.env.code = .ref c) (hT : (P, X.env.qual ++ "<lambda>") = e) (hmT : e ∈ Tb) (nd : (Tb.map Prod.fst).Nodup) (hr : Room (k + 2) X.A) (L : LamX.LamS X.env.scope scope)
    (hbody : ∀ (A : Around) (outer : List Env) (s : Shared) (H : Hp) (E : XK) (f c' : Addr), Room k (A.deeper (LamX.lamEnv X scope s.heap.objs.size f c')) → PE (LamX.lamCx X A outer s H E scope f c') body (t E))
    (hdef : defaultsOf params X.env = ([], []) := by rfl)
    (hbind : ∀ (q : Str) (cl : List (Str × Addr)) (pm cv ctv : Value), bindArgs (PySem.W.kla_fn "<lambda>" q params body scope cl pm cv ctv) ⟨[], []⟩ = pure [] := by intro _ _ _ _ _; rfl)
    (hb : ∀ (kV doc pm : Value) (an : Option Addr) (cdv ct : Value) (us : List Value), us.length = 1 → bindArgs (PySem.W.fnOf x x (defArgs st) (defBody st) (defScope st) .none kV doc pm an cdv ct) ⟨us, []⟩ = pure ([a].zip us) := by intro _ _ _ _ _ _ us hl; match us, hl with | [_], _ => rfl)
    (hg : Gl X x := by rfl) (hNg : Ng[0]? = some a := by rfl) (hva : Vis (defScope st) a := by first | exact Or.inl rfl | exact Or.inr (Or.inl rfl)) (hdb : (x == ("__debug__" : Str)) = false := by decide) (hd : (a == ("__debug__" : Str)) = false := by decide) (hcd : (a == ("__classdict__" : Str)) = false := by decide) :
    PE X (.Call (.Name x p) [.Lambda params body scope lpos] [] pos) (LamX.tLam Tb TT t) := by
  obtain ⟨fd, F⟩ := F
  have B := F.bindsN (ps := [a]) hb
  obtain ⟨oc, od, dV, kV, doc, pm, an, cdv, ct, osl, e', lk, hcd', _⟩ := F.ex
  subst e'
  refine LamX.pe_lamcall hg hm F.kp lk hcd' B S hNg hva (hG cdv) TB hcode (by rw [hT]; exact hmT) (fun q hq h1 => ?_) hr L hdef hbind hbody hdb hd hcd
  exact tb_uniq nd (by rw [hT]; exact hmT) hq h1
end Nw

namespace Nw
open PySem PySem.Spec PyProof.Rows L2
/-! ### a dict is no text -/
theorem dict_ne_str (l : Addr) (es : Array DictEntry) (n : Nat) (dd : Option Addr) (sl : Array (Option Value)) (b : Str) (u : Tok) :
    Meets (Builtin.«dict.__ne__» ⟨[.ref l, .str b u], []⟩) (fun _ R s => s.heap.get? l = some { cls := .type "dict", dict := dd, data := .dict es n, slots := sl } ∧ R (.ok (.ret .notImplemented)) s) :=
  .of_wp fun prog w A R s h => by obtain ⟨hp, g, d, tk, os⟩ := s; obtain ⟨hl, h⟩ := h; have f1 := F.sub_str_dict; wp_walk using wpAny_loadPart' hl; exact ⟨_, rfl, h⟩
theorem str_ne_dict (b : Str) (u : Tok) (l : Addr) (es : Array DictEntry) (n : Nat) (dd : Option Addr) (sl : Array (Option Value)) :
    Meets (Builtin.«str.__ne__» ⟨[.str b u, .ref l], []⟩) (fun _ R s => s.heap.get? l = some { cls := .type "dict", dict := dd, data := .dict es n, slots := sl } ∧ R (.ok (.ret .notImplemented)) s) :=
  .of_wp fun prog w A R s h => by obtain ⟨hp, g, d, tk, os⟩ := s; obtain ⟨hl, h⟩ := h; wp_walk using wpAny_loadPart' hl, wpAny_load hl; exact ⟨_, rfl, h⟩
def rNeS : R2 := fun x y H Q => rNe x y H Q ∨ ∃ a kvs z, x = .ref a ∧ y = .str z ∧ H a = some (.dK kvs) ∧ Q (.bl true) H
theorem op_neS {X : Cx} (hu : X.A.units + 64 < cLine) : OpR X (compareOp .NotEq) rNeS := by
  intro pins s σ H x y v u Q I rx ry h
  rcases h with h | ⟨a, kvs, z, rfl, rfl, ha, q⟩
  · exact op_ne pins s σ H x y v u Q I rx ry h
  · obtain rfl : v = Value.ref a := rx
    obtain ⟨t, rfl⟩ := ry
    obtain ⟨_, hsm, vs, kv, dd⟩ := dk_of I.hok ha
    obtain ⟨⟨cls, dc, data, sl⟩, es, ep, ho, hex, hd, _⟩ := dd
    have hc := hex.1
    simp only at hc hd
    subst hc hd
    exact SeqAt.rc_ne_decline_or (k := false) ⟨_, ho, rfl⟩ (typeIs_str s z t) (by decide) F.sub_str_dict F.slot_dict_ne F.slot_str_ne_refl
      (fun _ hq => call_meets F.slot_dict_ne ⟨_, ho, rfl⟩ F.entry_dict_ne (F.args_dict_ne_2 _ _) (dict_ne_str a es ep dc sl z t) ⟨ho, hq⟩)
      (fun _ hq => call_meets F.slot_str_ne_refl (typeIs_str s z t) F.entry_str_ne (F.args_str_ne_2 _ _) (str_ne_dict z t a es ep dc sl) ⟨ho, hq⟩)
      (fun _ hq => wpAny_of_eq (rfl : isSame (.ref a) (.str z t) = pure false) hq) (.inr (Nat.lt_of_le_of_lt (Nat.le_add_right _ _) hu)) (fin_bl I q rfl)
end Nw

namespace Nw
open PySem PySem.Spec PyProof.Rows L2
/-! ### e[b] by an own __getitem__ -/
def rGetO (C : Addr) (sp : Sp) (E : XK) : R2 := fun x y H Q => ∃ a dx fs, x = .ref a ∧ H a = some (.ins C dx fs) ∧ sp [.ref a, y] H Q E
theorem pe_getO {X : Cx} {k : Nat} {C f : Addr} {CX : CXT} {E : XK} {ps : List Str} {sp : Sp} {e b : Expr} {te tb : TE} {pos : Pos} (M : Meth X.K C "__getitem__" f) (G : Ok X.prog X.w X.K X.mg X.base CX k f ps sp) (hr : Room (k + 1) X.A) (hx : Passes CX X E)
    (he : PE X e te) (hb : PE X b tb) (hsl : ∀ o i, subscripted b true o i = runValue (.builtin "lifetime.subscript" ⟨[o, i], []⟩) := by intro _ _; with_unfolding_all rfl) : PE X (.Subscript e b pos) (tOp (rGetO C sp E) te tb) := by
  obtain ⟨fd, F, bd, _, oc, od, osl, lk⟩ := G.ok
  refine ⟨fun pins s σ H Q I h => ?_⟩
  refine Subscript_ (binT he hb I h fun v u s2 x y H2 I2 rx ry q => ?_)
  obtain ⟨a, dx, fs, rfl, ha, q⟩ := q
  obtain rfl : v = Value.ref a := rx
  obtain ⟨mA, J, _⟩ := ins_get I2.hok ha
  obtain ⟨od, J, _⟩ := J.look
  obtain ⟨m, hF⟩ := I2.fr
  have r2 : Vals [V.ref a, y] [Value.ref a, u] := .cons rfl (.cons ry .nil)
  have e0 : Env0 X.prog X.w X.K X.mg X.base X.A.in1 X.stack s2 H2 := I2.env0.in1
  have hl : (([.ref a, u] : List Value) ++ []).length = ps.length := by
    have := F.len _ _ _ _ q
    simpa using this
  refine PySem.W.sub_K hF I2.ok.mod.kin J M.at_ (by unfold PySem.W.fnIn; rw [lk]) M.fn ?_ (hsl _ _)
  refine wpAny_call (codeAny_mono (F.run X.A.in1 X.stack s2 H2 ⟨[.ref a, u], []⟩ [.ref a, u] [.ref a, y] Q E hr.in1 e0 (by
    have := bd s2 [.ref a, u] I2.kIn hl
    simpa using this) r2 q) fun r s' hq => ?_)
  cases r with
  | error e => exact hx pins σ H2 s2 e s' I2 hq
  | ok fl =>
    cases fl with
    | ret w => exact I2.after hq
    | next => exact False.elim hq
    | brk => exact False.elim hq
    | cont => exact False.elim hq
end Nw

/-! N31: list(range(a, b)) whatever the bounds are -/
namespace PySem
open Sem (wp)
section
variable {prog : Program} {w : World} {A : Around} {E : Value → Shared → Prop} {s : Shared}

theorem long_extend {R : Result → Shared → Prop} {r : Addr} {a b c : Int} {t u v : Tok} {n : Nat} (hh : A.handled = none) (hr : IsRange s.heap r a b c t u v) (hbig : Builtin.Range.small a b c = false)
    (hn : Builtin.Range.rangeSize a b c = n) (hlen : n ≤ 2 ^ 24) (S : Addr) (res : Value) (c₀ : Nat) (hS : s.heap.get? S = some { cls := .type "list", data := .seq #[] c₀ })
    (hR : ∀ h' tk acc' c', (∀ b o, b ≠ S → s.heap.get? b = some o → h'.get? b = some o) → h'.get? S = some { cls := .type "list", dict := none, data := .seq acc' c', slots := #[] } →
      ItemsOf (fun i v => ∃ t, v = .int (a + i * c) t) acc' n → R (.ok (.ret res)) { s with heap := h', toks := tk }) :
    wpAny (model prog w) A.in1 (Builtin.List.listExtendWith (.ref S) (.ref r) res)
      (fun fin s' => match fin with | .done f => R (.ok f) s' | .again c' => c'.quiet = true ∧ codeAny (model prog w) A c' R s') (fun e s' => R (.error e) s') s := by
  have hSr : S ≠ r := fun e => by rw [e, hr] at hS; simp at hS
  have hSlt : S < s.heap.objs.size := Heap.lt_size hS
  have hSI : S ≠ s.heap.objs.size := Nat.ne_of_lt hSlt
  have hSf : S ∉ [s.heap.objs.size] := fun hm => hSI (List.mem_singleton.mp hm)
  have W := (Walks.longrange (prog := prog) (w := w) (A := A.in1) hh s.heap.objs.size a c n).toS
  have key : ∀ (h : Heap) (c₁ tk : Nat), IsLongIter h s.heap.objs.size (a + ((0 : Nat) : Int) * c) ((n : Int) - ((0 : Nat) : Int)) c → (∀ b o, b ≠ S → s.heap.get? b = some o → h.get? b = some o) →
      h.get? S = some { cls := .type "list", data := .seq #[] c₁ } → codeAny (model prog w) A (.builtin "list.extend.loop" ⟨[.ref S, .ref s.heap.objs.size, res], []⟩) R { s with heap := h, toks := tk } := by
    intro h c₁ tk hit hk hS₁
    refine codeAny_extend_loopS W (by rw [sizeLine_eq]; omega) S hSf res n 0 _ #[] c₁ rfl (Nat.zero_le _) hit hS₁ (ItemsOf.nil _) fun s' acc' c' hm hS' hacc => ?_
    rw [Moved.eq_with hm]
    refine hR s'.heap s'.toks acc' c' (fun b o hb e => hm.heap b o (fun hmem => ?_) (hk b o hb e)) hS' hacc
    rcases List.mem_cons.mp hmem with e' | hmem
    · exact hb e'
    · exact absurd (Heap.lt_size e) (by rw [List.mem_singleton.mp hmem]; exact Nat.lt_irrefl _)
  unfold Builtin.List.listExtendWith
  refine wpAny_bind (wpAny_typeOf (T := "range") ⟨_, hr, rfl⟩ ?_)
  have h1 : Builtin.List.listSameRef (.ref S) (.ref r) = false := by simp [Builtin.List.listSameRef, hSr]
  have h2 : (Value.type "range" == Value.type "list") = false := by decide
  have h3 : (Value.type "range" == Value.type "tuple") = false := by decide
  simp only [h1, h2, h3, Bool.or_false, Bool.false_eq_true, if_false]
  refine wpAny_bind (wpAny_pyIter_longrange hr hbig ?_)
  refine wpAny_bind (wpAny_holding (wpAny_hint_range (n := n) (Heap.get?_push_of_some _ hr) hn hlen ?_))
  have hit₁ : IsLongIter (s.heap.push { cls := .type "longrange_iterator", data := .fields #[rawInt a, rawInt (Builtin.Range.rangeSize a b c), rawInt c] }) s.heap.objs.size (a + ((0 : Nat) : Int) * c) ((n : Int) - ((0 : Nat) : Int)) c := by
    show IsLongIter _ _ _ _ _; rw [hn]; simpa using Heap.get?_push_size _ rfl
  have hS₁ := Heap.get?_push_of_some { cls := .type "longrange_iterator", data := .fields #[rawInt a, rawInt (Builtin.Range.rangeSize a b c), rawInt c] } hS
  refine wpAny_ite_split (fun _ => ?_) (fun _ => wpAny_pure ⟨plainId_quiet F.plain_extend_loop _, key _ c₀ _ hit₁ (fun b o _ e => Heap.get?_push_of_some _ e) hS₁⟩)
  refine wpAny_bind (wpAny_rule ?_)
  refine wpAny_bind ?_
  show wpAny _ _ (updateSeq S (·.push .none) >>= fun _ => updateSeq S (·.pop)) _ _ _
  refine wpAny_bind (wpAny_updateSeq hS₁ rfl ?_)
  have hS₂ := Heap.get?_update_self (Obj.mapSeq (·.push Value.none)) hS₁ rfl
  refine wpAny_updateSeq (hz := by seq_fits) hS₂ rfl ?_
  have hS₃ := Heap.get?_update_self (Obj.mapSeq (·.pop)) hS₂ rfl
  refine wpAny_pure ⟨plainId_quiet F.plain_extend_loop _, key _ _ _ ?_ (fun b o hb e => ?_) hS₃⟩
  · exact (Heap.get?_update_other _ _ hSI).trans ((Heap.get?_update_other _ _ hSI).trans hit₁)
  · exact (Heap.get?_update_other _ _ (Ne.symm hb)).trans ((Heap.get?_update_other _ _ (Ne.symm hb)).trans (Heap.get?_push_of_some _ e))

theorem long_init {R : Result → Shared → Prop} {r : Addr} {a b c : Int} {t u v : Tok} {n : Nat} (hh : A.handled = none) (hr : IsRange s.heap r a b c t u v) (hbig : Builtin.Range.small a b c = false)
    (hn : Builtin.Range.rangeSize a b c = n) (hlen : n ≤ 2 ^ 24) (S : Addr) (hS : s.heap.get? S = some { cls := .type "list", data := .seq #[] })
    (hR : ∀ h' tk acc' c', (∀ b o, b ≠ S → s.heap.get? b = some o → h'.get? b = some o) → h'.get? S = some { cls := .type "list", dict := none, data := .seq acc' c', slots := #[] } →
      ItemsOf (fun i v => ∃ t, v = .int (a + i * c) t) acc' n → R (.ok (.ret .none)) { s with heap := h', toks := tk }) :
    wpAny (model prog w) A.in1 (Builtin.«list.__init__» ⟨[.ref S, .ref r], []⟩)
      (fun fin s' => match fin with | .done f => R (.ok f) s' | .again c' => c'.quiet = true ∧ codeAny (model prog w) A c' R s') (fun e s' => R (.error e) s') s := by
  have hSr : S ≠ r := fun e => by rw [e, hr] at hS; simp at hS
  show wpAny _ _ (do let old ← Builtin.List.listItems (.ref S); Builtin.List.listUpdate (.ref S) (fun _ => #[]); letGo old.toList.reverse; Builtin.List.listExtendWith (.ref S) (.ref r) .none) _ _ s
  refine wpAny_bind ?_
  unfold Builtin.List.listItems
  refine wpAny_bind (wpAny_seqItems hS rfl (wpAny_pure ?_))
  show wpAny _ _ (updateSeq S (fun _ => #[]) >>= fun _ => letGo (#[] : Array Value).toList.reverse >>= fun _ => Builtin.List.listExtendWith (.ref S) (.ref r) .none) _ _ s
  refine wpAny_bind (wpAny_updateSeq hS rfl ?_)
  have hS₂ := Heap.get?_update_self (Obj.mapSeq (fun _ => (#[] : Array Value))) hS rfl
  have oth : ∀ b o, b ≠ S → s.heap.get? b = some o → (s.heap.update S (Obj.mapSeq (fun _ => (#[] : Array Value)))).get? b = some o :=
    fun b o hb e => (Heap.get?_update_other _ _ (Ne.symm hb)).trans e
  refine wpAny_bind (wpAny_letGo ?_)
  refine long_extend hh (oth r _ (Ne.symm hSr) hr) hbig hn hlen S .none _ hS₂ fun h' tk acc' c' hk hS' hacc => ?_
  exact hR h' tk acc' c' (fun b o hb e => hk b o hb (oth b o hb e)) hS' hacc

theorem call_list_long {Q : Value → Shared → Prop} {r : Addr} {a b c : Int} {t u v : Tok} {n : Nat} (hh : A.handled = none) (hr : IsRange s.heap r a b c t u v) (hbig : Builtin.Range.small a b c = false)
    (hn : Builtin.Range.rangeSize a b c = n) (hlen : n ≤ 2 ^ 24)
    (hQ : ∀ h' tk acc' c', (∀ b o, s.heap.get? b = some o → h'.get? b = some o) →
      h'.get? s.heap.objs.size = some { cls := .type "list", dict := none, data := .seq acc' c', slots := #[] } → ItemsOf (fun i v => ∃ t, v = .int (a + i * c) t) acc' n → Q (.ref s.heap.objs.size) { s with heap := h', toks := tk }) :
    wpAny (model prog w) A (call (.type "list") [.ref r]) Q E s := by
  refine callType_codes (Q₁ := fun obj s₁ => obj = .ref s.heap.objs.size ∧ s₁ = { s with heap := s.heap.push { cls := .type "list", data := .seq #[] } }) F.called_list (F.typeCall_list_1 _) F.entry_list_init
    (code_list_new _ ⟨rfl, rfl⟩) fun obj s₁ h₁ => ?_
  obtain ⟨rfl, rfl⟩ := h₁
  have hS : (s.heap.push { cls := .type "list", data := .seq #[] }).get? s.heap.objs.size = some { cls := .type "list", data := .seq #[] } := Heap.get?_push_size _ rfl
  refine ⟨⟨_, hS, rfl⟩, F.args_list_init_2 _ _, long_init (A := A.in1) hh (Heap.get?_push_of_some _ hr) hbig hn hlen _ hS fun h' tk acc' c' hk hS' hacc => ?_⟩
  exact ⟨rfl, hQ h' tk acc' c' (fun b o e => hk b o (Nat.ne_of_lt (Heap.lt_size e)) (Heap.get?_push_of_some _ e)) hS' hacc⟩

theorem call_list_any {Q : Value → Shared → Prop} {r : Addr} {a b c : Int} {t u v : Tok} {n : Nat} (hh : A.handled = none) (hr : IsRange s.heap r a b c t u v)
    (hn : Builtin.Range.rangeSize a b c = n) (hlen : n ≤ 2 ^ 24)
    (hQ : ∀ h' tk acc' c', (∀ b o, s.heap.get? b = some o → h'.get? b = some o) →
      h'.get? s.heap.objs.size = some { cls := .type "list", dict := none, data := .seq acc' c', slots := #[] } → ItemsOf (fun i v => ∃ t, v = .int (a + i * c) t) acc' n → Q (.ref s.heap.objs.size) { s with heap := h', toks := tk }) :
    wpAny (model prog w) A (call (.type "list") [.ref r]) Q E s := by
  by_cases h : Builtin.Range.small a b c = true
  · exact call_list_range hh hr h hn hlen hQ
  · exact call_list_long hh hr (by simpa using h) hn hlen hQ
end
end PySem
namespace L2
open PySem PySem.Spec PyProof.Rows
section
variable {X : Cx} {e : Expr} {te : St → Hp → (Int → Int → Hp → Prop) → Prop}
/-- list(range(a, b)), whatever a and b are: not too long -/
def tLstRgB (te : St → Hp → (Int → Int → Hp → Prop) → Prop) : TE := fun σ H Q => te σ H fun a b H1 => (b - a).toNat ≤ 2 ^ 24 ∧ ∀ q, H1 q = none → Q (.ref q) (upd H1 q (.lst (rgV a b)))
theorem pe_listRgB {p pos : Pos} (hc : X.calm = true) (hg : Gl X "list") (hm : X.mg "list" = none) (he : PRg X e te) (na : starEach [e] X.env = (false, eval e X.env) :: starEach [] X.env := by rfl) : PE X (.Call (.Name "list" p) [e] [] pos) (tLstRgB te) := by
  refine ⟨fun pins s σ H Q I h => ?_⟩
  refine Call_ (ld_blt I hg hm boot_list (PyProof.Rows.callWith_type1 (args_cons (thn (he pins s σ H _ I h) fun x s1 ⟨r, a, b, t, u, v, H1, ex, hr, I1, b5, q⟩ => args_nil ?_) na) na))
  subst ex
  refine call_list_any (n := (b - a).toNat) (I1.ok.hd hc) hr (rangeSize_nat a b) b5 fun h' tk acc c' hk e' hi => ?_
  refine ⟨.ref s1.heap.objs.size, upd H1 s1.heap.objs.size (.lst (rgV a b)), I1.laid hk (Nat.le_refl _) (show ObjOk X.prog X.w _ _ _ (.lst (rgV a b)) from ⟨?_, acc.toList, c', vals_rg hi, ?_⟩), rfl, q _ (I1.hok.fresh (Nat.le_refl _))⟩
  · rw [rgV_length, sizeLine_eq]; omega
  · rw [Array.toArray_toList]; exact e'
end
end L2

/-! N32: sep.join(a dict of texts) -/
namespace PySem
open Sem (wp)
open Builtin Builtin.Str Builtin.Int
theorem nolen_kit : typeLookup (.type "dict_keyiterator") "__len__" = pure none := by rw [typeLookup_type, builtinLookup_eq_fast]; kernel_rfl
section
variable {prog : Program} {w : World} {A : Around} {E : Value → Shared → Prop} {s : Shared} {I : Addr} {fp wr : List Addr} {G : Array GenState → Array GenState → Prop} {n : Nat} {P : Nat → Value → Prop} {St : Nat → Shared → Prop}
theorem collect_kit {Q : List Value → Shared → Prop}
    (W : WalksS prog w A.in1 I fp wr G n P St) (hT : ∀ i s, St i s → s.TypeIs (.ref I) "dict_keyiterator") (hst : St 0 s) (hfp : ∀ b ∈ fp, b < s.heap.objs.size) (hI : I ∈ fp)
    (hQ : ∀ s' acc, Moved wr G s s' → ItemsOf P acc n → Q acc.toList s') (hn : n ≤ sizeLine) : wpAny (model prog w) A (collect (.ref I)) Q E s := by
  have hSf : s.heap.objs.size ∉ fp := fun hm => Nat.lt_irrefl _ (hfp _ hm)
  have hSI : s.heap.objs.size ≠ I := fun e => hSf (e ▸ hI)
  unfold collect
  refine wpAny_bind (wpAny_runValue (codeAny_builtin F.entry_proto_collect ?_))
  rw [Around.under_plainId F.plain_proto_collect _]
  show wpAny _ A.in1 (newList [] >>= fun l => again (.builtin "list.__iadd__" ⟨[l, .ref I], []⟩)) _ _ s
  refine wpAny_bind (wpAny_newObj_type ?_)
  refine wpAny_pure ⟨plainId_quiet F.plain_list_iadd _, codeAny_builtin F.entry_list_iadd ?_⟩
  rw [Around.under_plainId F.plain_list_iadd _]
  have hst₁ := W.frame 0 s (s.heap.push { cls := .type "list", data := .seq ([] : List Value).toArray }) s.toks hst (Nat.le_refl _) fun b _ o e => Heap.get?_push_of_some _ e
  have hS₁ : (s.heap.push { cls := .type "list", data := .seq ([] : List Value).toArray }).get? s.heap.objs.size = some { cls := .type "list", data := .seq ([] : List Value).toArray } := Heap.get?_push_size _ rfl
  have h1 : Builtin.List.listSameRef (.ref s.heap.objs.size) (.ref I) = false := by simp [Builtin.List.listSameRef, hSI]
  show wpAny _ A.in1 (Builtin.List.listExtendWith (.ref s.heap.objs.size) (.ref I) (.ref s.heap.objs.size)) _ _ _
  unfold Builtin.List.listExtendWith
  refine wpAny_bind (wpAny_typeOf (hT 0 _ hst₁) ?_)
  rw [if_neg (by rw [h1]; decide)]
  refine wpAny_bind (W.self 0 _ _ _ hst₁ ?_)
  refine wpAny_bind (wpAny_holding ?_)
  unfold Builtin.List.listLengthHint
  refine wpAny_bind (wpAny_specialOf (hT 0 _ hst₁) nolen_kit ?_)
  show wpAny _ A.in1 (specialOf (Value.ref I) (Str.ofString "__length_hint__") >>= _) _ _ _
  refine wpAny_bind (wpAny_specialOf (hT 0 _ hst₁) F.slot_dict_keyiterator_length_hint.lookup ?_)
  (generalize hid : ("dict_keyiterator.__length_hint__" : String) = id0; (fail_if_success (clear hid id0)); wp_delta; rw [show splitId id0 = some ("dict_keyiterator", "__length_hint__") from by subst hid; decide +kernel]; subst hid)
  refine wpAny_bind (wpAny_isInstance (b := true) (hT 0 _ hst₁) (by rw [isSubtype_type]; kernel_rfl) ?_)
  refine wpAny_pure ?_
  rw [if_neg (by decide)]
  refine wpAny_pure ⟨plainId_quiet F.plain_extend_loop _, codeAny_extend_loopS W hn _ hSf _ n 0 _ _ _ rfl (Nat.zero_le _) hst₁ hS₁ (ItemsOf.nil P) fun s' acc' c' hm hS' hacc => ?_⟩
  show wpAny _ A (load s.heap.objs.size >>= _) _ _ s'
  refine wpAny_bind (wpAny_load hS' ?_)
  exact wpAny_pure (hQ s' acc' (Moved.drop_new (o := { cls := .type "list", data := .seq ([] : List Value).toArray }) (tk := s.toks) hm (Nat.le_refl _)) hacc)
end
section
variable {prog : Program} {w : World} {A : Around} {E : Value → Shared → Prop} {s : Shared} {K : Type} [DecidableEq K] {knd : KeyKind prog w K}
theorem call_joinD {x : Str} {t : Tok} {d : Addr} {kvs : List (K × Value)} {ep : Nat} {ys : List Str} {Q : Value → Shared → Prop} (hh : A.handled = none) (lo : (d == sysModules) = false) (hm : s.heap.DictAt knd d kvs ep)
    (hP : ∀ acc : Array Value, ItemsOf (fun i v => ∃ k x, kvs[i]? = some (k, x) ∧ knd.is k v = true) acc kvs.length → PyProof.Rows.StrsAre acc.toList ys) (hok : (ys.map (·.length)).sum + ys.length * x.length ≤ 16777216)
    (hq : ∀ h', (∀ b o, s.heap.get? b = some o → h'.get? b = some o) → ∀ t' k, Q (.str (Txt.join x ys) t') { s with heap := h', toks := k }) (hn : kvs.length ≤ sizeLine) :
    wpAny (model prog w) A (call (.builtin "str.join") [.str x t, .ref d]) Q E s := by
  have hT : s.TypeIs (.ref d) "dict" := hm.dictOf.typeIs
  refine wpAny_call (codeAny_call_builtin F.slot_str_join.plain F.entry_str_join (F.slot_str_join.check _ _ _ _ _ _ _ _ (typeIs_str _ _ _) (F.args_str_join_2 _ _) ?_))
  rw [join_tree_other]
  refine wpAny_bind (wpAny_typeOf hT ?_)
  show wpAny _ A.in1 ((pyIter (.ref d)).tryCatch _ >>= fun it => collect it >>= fun items => joinTail x items) _ _ s
  refine wpAny_bind (wpAny_tryCatch (wpAny_pyIter_dict lo hm ?_))
  have hne : d ≠ s.heap.objs.size := Nat.ne_of_lt hm.lt_size
  have hh1 : A.in1.in1.handled = none := hh
  refine wpAny_bind (collect_kit (I := s.heap.objs.size) (n := kvs.length) (Walks.dictKeys (A := A.in1.in1) hh1 s.heap.objs.size d hne kvs ep).toS (fun i s' st => st.1.typeIs) ⟨⟨_, Heap.get?_push_size _ rfl, rfl, rfl⟩, hm.push _⟩ (fun b hb => ?_) (by simp) (fun s' acc hmv hacc => ?_) hn)
  · simp only [List.mem_cons, List.not_mem_nil, or_false] at hb
    rcases hb with rfl | rfl
    · simp [Heap.push]
    · exact Nat.lt_of_lt_of_le hm.lt_size (by simp [Heap.push])
  obtain ⟨l, hl, ht⟩ := PyProof.Rows.strsAre_values (hP acc hacc)
  subst ht
  rw [hl]
  have hok' := PyProof.Rows.joinOk_of hok
  unfold JoinOk at hok'
  rw [Bool.not_eq_true'] at hok'
  have g : Gives (joinTail x (strValues l)) (joinMade x l) := by
    have g0 := gives_joinTail x l hok'
    cases l with
    | nil => exact g0
    | cons p r => cases r with
      | nil => exact g0
      | cons q r' => exact g0
  refine g prog w A (wants Q E) s' (post_join l ⟨joinFit_length hok', fun t' k => ?_⟩)
  rw [Moved.eq_with hmv]
  exact hq s'.heap (fun b o e => hmv.heap b o (fun hmem => absurd (Heap.lt_size e) (by rw [List.mem_singleton.mp hmem]; exact Nat.lt_irrefl _)) (Heap.get?_push_of_some _ e)) t' k
end
end PySem
namespace L2
open PySem PySem.Spec PyProof.Rows
theorem strs_of_get : ∀ (us : List Value) (ys : List Str), us.length = ys.length → (∀ (i : Nat) (u : Value) (y : Str), us[i]? = some u → ys[i]? = some y → ∃ t, u = .str y t) → StrsAre us ys
  | [], [], _, _ => .nil
  | u :: us, y :: ys, hl, h => by
    obtain ⟨t, rfl⟩ := h 0 u y rfl rfl
    exact .cons y t (strs_of_get us ys (Nat.succ.inj hl) fun i u y h1 h2 => h (i + 1) u y h1 h2)
/-- sep.join(d): the keys of a dict, all of them texts -/
def rJoinD (K : PySem.W.Frag) : V → List V → Hp → VK → Prop := fun x xs H Q => ∃ a p kvs, ∃ ys : List Str, x = .str a ∧ xs = [.ref p] ∧ H p = some (.dK kvs) ∧ kvs.map Prod.fst = ys.map (Sum.inr : Str → Key) ∧
    (ys.map (·.length)).sum + ys.length * a.length ≤ 16777216 ∧ Q (.str (Txt.join a ys)) H
section
variable {X : Cx}
theorem kv_fst {kvs : List (Key × V)} {vs : List (Key × Value)} (h : KV kvs vs) : vs.map Prod.fst = kvs.map Prod.fst := by
  unfold KV at h
  induction h with
  | nil => rfl
  | cons h _ ih => rw [List.map_cons, List.map_cons, ih, h.1]
theorem mt_joinD (hc : X.calm = true) : MtR X "str.join" (rJoinD X.K) := by
  intro pins s σ H x xs v us Q I rx rs h
  obtain ⟨a, p, kvs, ys, rfl, rfl, hp, hk, hz, h⟩ := h
  obtain ⟨t, rfl⟩ := rx
  cases rs with
  | cons r1 rs =>
    cases rs
    cases r1
    obtain ⟨hl, lo, vs, rel, dd⟩ := dk_of I.hok hp
    obtain ⟨o, es, ep, dd⟩ := dd
    have hm : s.heap.DictAt (mixKind X.prog X.w) p vs ep := ⟨o, es, dd⟩
    have hf : vs.map Prod.fst = ys.map (Sum.inr : Str → Key) := (kv_fst rel).trans hk
    have hlen : vs.length = ys.length := by have := congrArg List.length hf; simpa using this
    have hlk : kvs.length = ys.length := by have := congrArg List.length hk; simpa using this
    refine call_joinD (ys := ys) (I.ok.hd hc) lo hm (fun acc hacc => ?_) hz (fun h' hk' t' k => ⟨.str _, H, I.kept (t' := k) hk', ⟨t', rfl⟩, h⟩) (by omega)
    refine strs_of_get _ _ (by rw [Array.length_toList]; exact hacc.1.trans hlen) fun i u y h1 h2 => ?_
    rw [Array.getElem?_toList] at h1
    obtain ⟨k, x, e1, e2⟩ := hacc.2 i u h1
    have e3 : (vs.map Prod.fst)[i]? = some k := by rw [List.getElem?_map, e1]; rfl
    rw [hf, List.getElem?_map, h2] at e3
    cases e3
    rcases keyIs_shape (k := Sum.inr y) (v := u) e2 with ⟨_, _, z, _⟩ | ⟨_, _, z, rfl⟩
    · cases z
    · cases z
      exact ⟨_, rfl⟩
theorem pe_joinD {o e : Expr} {to te : TE} {apos pos : Pos} (hc : X.calm = true) (ho : PE X o to) (he : PE X e te) (hs : starEach [e] X.env = [(false, eval e X.env)] := by rfl) (hbase : attributeBase o "join" X.env (eval o X.env) = eval o X.env := by rfl) (hline : (apos.endLine == pos.line) = true := by rfl) :
    PE X (.Call (.Attribute o "join" apos) [e] [] pos) (tM1 (rJoinD X.K) to te) :=
  pe_m1 F.slot_str_join F.type_str_join (mt_joinD hc) ho he hs hbase hline
end
end L2
namespace Nw
open PySem PySem.Spec PyProof.Rows L2
theorem call_list_ofK {X : Cx} {K : PySem.W.Frag} (h : X.K = K) : CallR X (.type "list") (fun xs H Q => ∃ p ys, xs = [.ref p] ∧ (SqL K H p ys ∨ SqT K H p ys) ∧ ∀ l, H l = none → Q (.ref l) (upd H l (.lst ys))) := h ▸ call_list_of
theorem op_eqNilK {X : Cx} {K : PySem.W.Frag} (h : X.K = K) (hu : X.A.units + 64 < cLine) : OpR X (compareOp .Eq) (rNilE K) := h ▸ op_eqNil hu
theorem op_neNilK {X : Cx} {K : PySem.W.Frag} (h : X.K = K) (hu : X.A.units + 64 < cLine) : OpR X (compareOp .NotEq) (rNilN K) := h ▸ op_neNil hu
end Nw

namespace Nw
open PySem PySem.Spec PyProof.Rows L2
def top (i : Nat) : Stmt := PySem.Challenge.pw_newsinorder_k59_whole_seen_of_a_drawn_ti.main.body.getD i (.Pass ⟨0, 0, 0, 0⟩)
abbrev s_NoLink__init : Stmt := inClass (top 7) 0
abbrev n_NoLink__init : List Str := ["self", "letter"]
theorem sc_NoLink__init : FnScope n_NoLink__init ["self", "letter"] (defScope s_NoLink__init) := ⟨rfl, rfl, rfl, by decide +kernel, rfl, by decide +kernel, by decide +kernel⟩
abbrev s_NoSeen__init : Stmt := inClass (top 9) 0
abbrev n_NoSeen__init : List Str := ["self", "at"]
theorem sc_NoSeen__init : FnScope n_NoSeen__init ["self", "at"] (defScope s_NoSeen__init) := ⟨rfl, rfl, rfl, by decide +kernel, rfl, by decide +kernel, by decide +kernel⟩
abbrev s_Clash__init : Stmt := inClass (top 10) 0
abbrev n_Clash__init : List Str := ["self", "first", "second"]
theorem sc_Clash__init : FnScope n_Clash__init ["self", "first", "second"] (defScope s_Clash__init) := ⟨rfl, rfl, rfl, by decide +kernel, rfl, by decide +kernel, by decide +kernel⟩
abbrev s_is_number : Stmt := top 16
abbrev n_is_number : List Str := ["thing"]
theorem sc_is_number : FnScope n_is_number ["thing"] (defScope s_is_number) := ⟨rfl, rfl, rfl, by decide +kernel, rfl, by decide +kernel, by decide +kernel⟩
abbrev s_is_moment : Stmt := top 17
abbrev n_is_moment : List Str := ["thing"]
theorem sc_is_moment : FnScope n_is_moment ["thing"] (defScope s_is_moment) := ⟨rfl, rfl, rfl, by decide +kernel, rfl, by decide +kernel, by decide +kernel⟩
abbrev s_need_moment : Stmt := top 18
abbrev n_need_moment : List Str := ["moment"]
theorem sc_need_moment : FnScope n_need_moment ["moment"] (defScope s_need_moment) := ⟨rfl, rfl, rfl, by decide +kernel, rfl, by decide +kernel, by decide +kernel⟩
abbrev s_is_ride : Stmt := top 21
abbrev n_is_ride : List Str := ["thing"]
theorem sc_is_ride : FnScope n_is_ride ["thing"] (defScope s_is_ride) := ⟨rfl, rfl, rfl, by decide +kernel, rfl, by decide +kernel, by decide +kernel⟩
abbrev s_ended : Stmt := top 22
abbrev n_ended : List Str := ["rides", "moment", "found", "begin", "end"]
theorem sc_ended : FnScope n_ended ["rides", "moment"] (defScope s_ended) := ⟨rfl, rfl, rfl, by decide +kernel, rfl, by decide +kernel, by decide +kernel⟩
abbrev s_needed : Stmt := top 24
abbrev n_needed : List Str := ["rides", "ends", "begin", "end", "found", "one"]
theorem sc_needed : FnScope n_needed ["rides"] (defScope s_needed) := ⟨rfl, rfl, rfl, by decide +kernel, rfl, by decide +kernel, by decide +kernel⟩
abbrev s_Link__init : Stmt := inClass (top 26) 0
abbrev n_Link__init : List Str := ["self", "rides", "at", "ride"]
theorem sc_Link__init : FnScope n_Link__init ["self", "rides"] (defScope s_Link__init) := ⟨rfl, rfl, rfl, by decide +kernel, rfl, by decide +kernel, by decide +kernel⟩
abbrev s_Link_end : Stmt := inClass (top 26) 2
abbrev n_Link_end : List Str := ["self", "moment"]
theorem sc_Link_end : FnScope n_Link_end ["self", "moment"] (defScope s_Link_end) := ⟨rfl, rfl, rfl, by decide +kernel, rfl, by decide +kernel, by decide +kernel⟩
abbrev s_is_row : Stmt := top 31
abbrev n_is_row : List Str := ["thing", "step"]
theorem sc_is_row : FnScope n_is_row ["thing"] (defScope s_is_row) := ⟨rfl, rfl, rfl, by decide +kernel, rfl, by decide +kernel, by decide +kernel⟩
abbrev s_need_row : Stmt := top 32
abbrev n_need_row : List Str := ["row"]
theorem sc_need_row : FnScope n_need_row ["row"] (defScope s_need_row) := ⟨rfl, rfl, rfl, by decide +kernel, rfl, by decide +kernel, by decide +kernel⟩
abbrev s_Timetable__init : Stmt := inClass (top 34) 0
abbrev n_Timetable__init : List Str := ["self", "links", "letter"]
theorem sc_Timetable__init : FnScope n_Timetable__init ["self", "links"] (defScope s_Timetable__init) := ⟨rfl, rfl, rfl, by decide +kernel, rfl, by decide +kernel, by decide +kernel⟩
abbrev s_Timetable__getitem : Stmt := inClass (top 34) 2
abbrev n_Timetable__getitem : List Str := ["self", "index"]
theorem sc_Timetable__getitem : FnScope n_Timetable__getitem ["self", "index"] (defScope s_Timetable__getitem) := ⟨rfl, rfl, rfl, by decide +kernel, rfl, by decide +kernel, by decide +kernel⟩
abbrev s_is_letter : Stmt := top 37
abbrev n_is_letter : List Str := ["thing"]
theorem sc_is_letter : FnScope n_is_letter ["thing"] (defScope s_is_letter) := ⟨rfl, rfl, rfl, by decide +kernel, rfl, by decide +kernel, by decide +kernel⟩
abbrev s_is_message : Stmt := top 38
abbrev n_is_message : List Str := ["thing"]
theorem sc_is_message : FnScope n_is_message ["thing"] (defScope s_is_message) := ⟨rfl, rfl, rfl, by decide +kernel, rfl, by decide +kernel, by decide +kernel⟩
abbrev s_are_against : Stmt := top 39
abbrev n_are_against : List Str := ["one", "other"]
theorem sc_are_against : FnScope n_are_against ["one", "other"] (defScope s_are_against) := ⟨rfl, rfl, rfl, by decide +kernel, rfl, by decide +kernel, by decide +kernel⟩
abbrev s_need_letter : Stmt := top 40
abbrev n_need_letter : List Str := ["letter"]
theorem sc_need_letter : FnScope n_need_letter ["letter"] (defScope s_need_letter) := ⟨rfl, rfl, rfl, by decide +kernel, rfl, by decide +kernel, by decide +kernel⟩
abbrev s_Seen__init : Stmt := inClass (top 41) 0
abbrev n_Seen__init : List Str := ["self", "messages", "at", "message", "first", "second"]
theorem sc_Seen__init : FnScope n_Seen__init ["self", "messages"] (defScope s_Seen__init) := ⟨rfl, rfl, rfl, by decide +kernel, rfl, by decide +kernel, by decide +kernel⟩
abbrev s_Seen_rides_of : Stmt := inClass (top 41) 2
abbrev n_Seen_rides_of : List Str := ["self", "letter", "message"]
theorem sc_Seen_rides_of : FnScope n_Seen_rides_of ["self", "letter"] (defScope s_Seen_rides_of) := ⟨rfl, rfl, rfl, by decide +kernel, rfl, by decide +kernel, by decide +kernel⟩
abbrev s_Seen_ends_at : Stmt := inClass (top 41) 3
abbrev n_Seen_ends_at : List Str := ["self", "letter", "moment", "rides", "earliest", "later", "begin", "end"]
theorem sc_Seen_ends_at : FnScope n_Seen_ends_at ["self", "letter", "moment"] (defScope s_Seen_ends_at) := ⟨rfl, rfl, rfl, by decide +kernel, rfl, by decide +kernel, by decide +kernel⟩
abbrev s_Seen_begins_at : Stmt := inClass (top 41) 4
abbrev n_Seen_begins_at : List Str := ["self", "letter", "moment", "rides", "before", "latest", "begin", "end"]
theorem sc_Seen_begins_at : FnScope n_Seen_begins_at ["self", "letter", "moment"] (defScope s_Seen_begins_at) := ⟨rfl, rfl, rfl, by decide +kernel, rfl, by decide +kernel, by decide +kernel⟩
abbrev s_Seen_ends : Stmt := inClass (top 41) 5
abbrev n_Seen_ends : List Str := ["self", "letter", "moment"]
theorem sc_Seen_ends : FnScope n_Seen_ends ["self", "letter", "moment"] (defScope s_Seen_ends) := ⟨rfl, rfl, rfl, by decide +kernel, rfl, by decide +kernel, by decide +kernel⟩
abbrev s_Seen_begins : Stmt := inClass (top 41) 6
abbrev n_Seen_begins : List Str := ["self", "letter", "moment"]
theorem sc_Seen_begins : FnScope n_Seen_begins ["self", "letter", "moment"] (defScope s_Seen_begins) := ⟨rfl, rfl, rfl, by decide +kernel, rfl, by decide +kernel, by decide +kernel⟩
abbrev s_Seen_bounds : Stmt := inClass (top 41) 7
abbrev n_Seen_bounds : List Str := ["self", "row", "moment", "earliest", "latest", "step", "letter"]
theorem sc_Seen_bounds : FnScope n_Seen_bounds ["self", "row", "moment"] (defScope s_Seen_bounds) := ⟨rfl, rfl, rfl, by decide +kernel, rfl, by decide +kernel, by decide +kernel⟩
abbrev s_Seen_example : Stmt := inClass (top 41) 8
abbrev n_Seen_example : List Str := ["self", "letter", "moment", "end", "earliest", "latest", "rides", "one"]
theorem sc_Seen_example : FnScope n_Seen_example ["self", "letter", "moment", "end"] (defScope s_Seen_example) := ⟨rfl, rfl, rfl, by decide +kernel, rfl, by decide +kernel, by decide +kernel⟩
abbrev s_l_begun : Stmt := top 43
abbrev n_l_begun : List Str := ["_law_script", "_law_great", "_law_lump"]
theorem sc_l_begun : FnScope n_l_begun ["_law_script"] (defScope s_l_begun) := ⟨rfl, rfl, rfl, by decide +kernel, rfl, by decide +kernel, by decide +kernel⟩
abbrev s_l_next : Stmt := top 44
abbrev n_l_next : List Str := ["_law_draw", "_law_many", "_law_found", "_law_turn", "_law_lump", "_law_mixed"]
theorem sc_l_next : FnScope n_l_next ["_law_draw", "_law_many"] (defScope s_l_next) := ⟨rfl, rfl, rfl, by decide +kernel, rfl, by decide +kernel, by decide +kernel⟩
abbrev s_l_pick : Stmt := top 45
abbrev n_l_pick : List Str := ["_law_draw", "_law_some_here"]
theorem sc_l_pick : FnScope n_l_pick ["_law_draw", "_law_some_here"] (defScope s_l_pick) := ⟨rfl, rfl, rfl, by decide +kernel, rfl, by decide +kernel, by decide +kernel⟩
abbrev s_l_shuffled : Stmt := top 46
abbrev n_l_shuffled : List Str := ["_law_draw", "_law_some_here", "_law_left", "_law_found"]
theorem sc_l_shuffled : FnScope n_l_shuffled ["_law_draw", "_law_some_here"] (defScope s_l_shuffled) := ⟨rfl, rfl, rfl, by decide +kernel, rfl, by decide +kernel, by decide +kernel⟩
abbrev s_l_some : Stmt := top 47
abbrev n_l_some : List Str := ["_law_draw", "_law_many"]
theorem sc_l_some : FnScope n_l_some ["_law_draw", "_law_many"] (defScope s_l_some) := ⟨rfl, rfl, rfl, by decide +kernel, rfl, by decide +kernel, by decide +kernel⟩
abbrev s_l_moment : Stmt := top 48
abbrev n_l_moment : List Str := ["_law_draw", "_law_wide", "_law_some_here", "_law_turn"]
theorem sc_l_moment : FnScope n_l_moment ["_law_draw", "_law_wide"] (defScope s_l_moment) := ⟨rfl, rfl, rfl, by decide +kernel, rfl, by decide +kernel, by decide +kernel⟩
abbrev s_l_end : Stmt := top 49
abbrev n_l_end : List Str := ["_law_rides", "_law_moment_here", "_law_ends", "_law_begin_here", "_law_end_here"]
theorem sc_l_end : FnScope n_l_end ["_law_rides", "_law_moment_here"] (defScope s_l_end) := ⟨rfl, rfl, rfl, by decide +kernel, rfl, by decide +kernel, by decide +kernel⟩
abbrev s_l_begin : Stmt := top 50
abbrev n_l_begin : List Str := ["_law_rides", "_law_moment_here", "_law_begins", "_law_begin_here", "_law_end_here"]
theorem sc_l_begin : FnScope n_l_begin ["_law_rides", "_law_moment_here"] (defScope s_l_begin) := ⟨rfl, rfl, rfl, by decide +kernel, rfl, by decide +kernel, by decide +kernel⟩
abbrev s_l_go : Stmt := top 51
abbrev n_l_go : List Str := ["_law_lines", "_law_row", "_law_moment_here", "_law_step", "_law_rides"]
theorem sc_l_go : FnScope n_l_go ["_law_lines", "_law_row", "_law_moment_here"] (defScope s_l_go) := ⟨rfl, rfl, rfl, by decide +kernel, rfl, by decide +kernel, by decide +kernel⟩
abbrev s_l_place : Stmt := top 52
abbrev n_l_place : List Str := ["_law_moment_here"]
theorem sc_l_place : FnScope n_l_place ["_law_moment_here"] (defScope s_l_place) := ⟨rfl, rfl, rfl, by decide +kernel, rfl, by decide +kernel, by decide +kernel⟩
abbrev s_l_seen : Stmt := top 53
abbrev n_l_seen : List Str := ["_law_draw", "_law_letters", "_law_many", "_law_wide", "_law_lines", "_law_found", "_law_letter", "_law_begin_here", "_law_end_here", "_law_rides", "_law_turn", "_law_sent"]
theorem sc_l_seen : FnScope n_l_seen ["_law_draw", "_law_letters", "_law_many", "_law_wide"] (defScope s_l_seen) := ⟨rfl, rfl, rfl, by decide +kernel, rfl, by decide +kernel, by decide +kernel⟩
abbrev s_l_word : Stmt := top 54
abbrev n_l_word : List Str := ["_law_work", "_law_e", "error", "_law_marks", "_law_word_here"]
theorem sc_l_word : FnScope n_l_word ["_law_work"] (defScope s_l_word) := ⟨rfl, rfl, rfl, by decide +kernel, rfl, by decide +kernel, by decide +kernel⟩
abbrev s_l_within : Stmt := top 55
abbrev n_l_within : List Str := ["_law_inner", "_law_outer"]
theorem sc_l_within : FnScope n_l_within ["_law_inner", "_law_outer"] (defScope s_l_within) := ⟨rfl, rfl, rfl, by decide +kernel, rfl, by decide +kernel, by decide +kernel⟩
abbrev s_l_all_within : Stmt := top 56
abbrev n_l_all_within : List Str := ["_law_draw", "_law_lines", "_law_letters", "_law_seen_here", "_law_less", "_law_letter", "_law_moment_here", "_law_end_here", "_law_begin_here", "_law_row", "_law_told", "_law_turn"]
theorem sc_l_all_within : FnScope n_l_all_within ["_law_draw", "_law_lines", "_law_letters", "_law_seen_here", "_law_less"] (defScope s_l_all_within) := ⟨rfl, rfl, rfl, by decide +kernel, rfl, by decide +kernel, by decide +kernel⟩
abbrev s_l_one_more : Stmt := top 57
abbrev n_l_one_more : List Str := ["_law_draw", "_law_items", "_law_seen_here", "_law_letter", "_law_low", "_law_high", "_law_more", "_law_word_here", "_law_is_between", "_law_told", "_law_fuller", "_law_end_here", "_law_moment_here"]
theorem sc_l_one_more : FnScope n_l_one_more ["_law_draw", "_law_items", "_law_seen_here", "_law_letter"] (defScope s_l_one_more) := ⟨rfl, rfl, rfl, by decide +kernel, rfl, by decide +kernel, by decide +kernel⟩
abbrev s_l_turned_right : Stmt := top 58
abbrev n_l_turned_right : List Str := ["_law_items", "_law_seen_here", "_law_letter", "_law_moment_here", "_law_other", "_law_low", "_law_high", "_law_turned", "_law_one"]
theorem sc_l_turned_right : FnScope n_l_turned_right ["_law_items", "_law_seen_here", "_law_letter", "_law_moment_here"] (defScope s_l_turned_right) := ⟨rfl, rfl, rfl, by decide +kernel, rfl, by decide +kernel, by decide +kernel⟩
abbrev s_law : Stmt := top 59
abbrev n_law : List Str := ["_law_script", "_law_draw", "_law_turn", "_law_letters", "_law_items", "_law_lines", "_law_seen_here", "_law_less", "_law_time", "_law_letter", "_law_moment_here"]
theorem sc_law : FnScope n_law ["_law_script"] (defScope s_law) := ⟨rfl, rfl, rfl, by decide +kernel, rfl, by decide +kernel, by decide +kernel⟩
def TbL (K : PySem.W.Frag) : List (Addr × Str) := [(He.tabOf K (He.codeOf K ("_law_one_more", none)), "_law_one_more.<locals>.<lambda>"), (He.tabOf K (He.codeOf K ("_law_turned_right", none)), "_law_turned_right.<locals>.<lambda>")]
structure Txt (K : PySem.W.Frag) (mg : Str → Option Value) : Prop where
  b_abs : mg "abs" = none
  b_all : mg "all" = none
  b_bool : mg "bool" = none
  b_dict : mg "dict" = none
  b_enumerate : mg "enumerate" = none
  b_int : mg "int" = none
  b_isinstance : mg "isinstance" = none
  b_len : mg "len" = none
  b_list : mg "list" = none
  b_max : mg "max" = none
  b_min : mg "min" = none
  b_property : mg "property" = none
  b_range : mg "range" = none
  b_sorted : mg "sorted" = none
  b_str : mg "str" = none
  b_tuple : mg "tuple" = none
  b_ValueError : mg "ValueError" = none
  g__wall : mg "_wall" = some (.ref (He.ga K "_wall"))
  g_is_number : mg "is_number" = some (.ref (He.ga K "is_number"))
  g_is_moment : mg "is_moment" = some (.ref (He.ga K "is_moment"))
  g_need_moment : mg "need_moment" = some (.ref (He.ga K "need_moment"))
  g_is_earlier : mg "is_earlier" = some (.ref (He.ga K "is_earlier"))
  g_sooner_of : mg "sooner_of" = some (.ref (He.ga K "sooner_of"))
  g_is_ride : mg "is_ride" = some (.ref (He.ga K "is_ride"))
  g_ended : mg "ended" = some (.ref (He.ga K "ended"))
  g_begun : mg "begun" = some (.ref (He.ga K "begun"))
  g_needed : mg "needed" = some (.ref (He.ga K "needed"))
  g_link_by : mg "link_by" = some (.ref (He.ga K "link_by"))
  g_is_row : mg "is_row" = some (.ref (He.ga K "is_row"))
  g_need_row : mg "need_row" = some (.ref (He.ga K "need_row"))
  g_is_letter : mg "is_letter" = some (.ref (He.ga K "is_letter"))
  g_is_message : mg "is_message" = some (.ref (He.ga K "is_message"))
  g_are_against : mg "are_against" = some (.ref (He.ga K "are_against"))
  g_need_letter : mg "need_letter" = some (.ref (He.ga K "need_letter"))
  g__law_begun : mg "_law_begun" = some (.ref (He.ga K "_law_begun"))
  g__law_next : mg "_law_next" = some (.ref (He.ga K "_law_next"))
  g__law_pick : mg "_law_pick" = some (.ref (He.ga K "_law_pick"))
  g__law_shuffled : mg "_law_shuffled" = some (.ref (He.ga K "_law_shuffled"))
  g__law_some : mg "_law_some" = some (.ref (He.ga K "_law_some"))
  g__law_moment : mg "_law_moment" = some (.ref (He.ga K "_law_moment"))
  g__law_end : mg "_law_end" = some (.ref (He.ga K "_law_end"))
  g__law_begin : mg "_law_begin" = some (.ref (He.ga K "_law_begin"))
  g__law_go : mg "_law_go" = some (.ref (He.ga K "_law_go"))
  g__law_place : mg "_law_place" = some (.ref (He.ga K "_law_place"))
  g__law_seen : mg "_law_seen" = some (.ref (He.ga K "_law_seen"))
  g__law_word : mg "_law_word" = some (.ref (He.ga K "_law_word"))
  g__law_within : mg "_law_within" = some (.ref (He.ga K "_law_within"))
  g__law_all_within : mg "_law_all_within" = some (.ref (He.ga K "_law_all_within"))
  g__law_one_more : mg "_law_one_more" = some (.ref (He.ga K "_law_one_more"))
  g__law_turned_right : mg "_law_turned_right" = some (.ref (He.ga K "_law_turned_right"))
  g_law : mg "law" = some (.ref (He.ga K "law"))
  g_OrderError : mg "OrderError" = some (.ref (He.ga K "OrderError"))
  g_NoRow : mg "NoRow" = some (.ref (He.ga K "NoRow"))
  xp_NoRow : PySem.W.excIn K (He.ga K "NoRow") He.veBase "ValueError.__new__" = true ∧ PySem.W.keepIn K (.ref (He.ga K "NoRow")) = true ∧ PySem.W.subIn K (.ref (He.ga K "NoRow")) (.type "BaseException") = some true ∧ PySem.W.typeIn K (.ref (He.ga K "NoRow")) = some (.type "type")
  g_NoMoment : mg "NoMoment" = some (.ref (He.ga K "NoMoment"))
  xp_NoMoment : PySem.W.excIn K (He.ga K "NoMoment") He.veBase "ValueError.__new__" = true ∧ PySem.W.keepIn K (.ref (He.ga K "NoMoment")) = true ∧ PySem.W.subIn K (.ref (He.ga K "NoMoment")) (.type "BaseException") = some true ∧ PySem.W.typeIn K (.ref (He.ga K "NoMoment")) = some (.type "type")
  g_NoRides : mg "NoRides" = some (.ref (He.ga K "NoRides"))
  g_NoTable : mg "NoTable" = some (.ref (He.ga K "NoTable"))
  g_NoLink : mg "NoLink" = some (.ref (He.ga K "NoLink"))
  m_NoLink___init__ : Meth K (He.ga K "NoLink") "__init__" (He.ma K (He.ga K "NoLink") "__init__")
  na_NoLink_letter : NoAttr K (He.ga K "NoLink") "letter"
  g_NoMirror : mg "NoMirror" = some (.ref (He.ga K "NoMirror"))
  xp_NoMirror : PySem.W.excIn K (He.ga K "NoMirror") He.veBase "ValueError.__new__" = true ∧ PySem.W.keepIn K (.ref (He.ga K "NoMirror")) = true ∧ PySem.W.subIn K (.ref (He.ga K "NoMirror")) (.type "BaseException") = some true ∧ PySem.W.typeIn K (.ref (He.ga K "NoMirror")) = some (.type "type")
  g_NoSeen : mg "NoSeen" = some (.ref (He.ga K "NoSeen"))
  m_NoSeen___init__ : Meth K (He.ga K "NoSeen") "__init__" (He.ma K (He.ga K "NoSeen") "__init__")
  na_NoSeen_at : NoAttr K (He.ga K "NoSeen") "at"
  g_Clash : mg "Clash" = some (.ref (He.ga K "Clash"))
  m_Clash___init__ : Meth K (He.ga K "Clash") "__init__" (He.ma K (He.ga K "Clash") "__init__")
  na_Clash_first : NoAttr K (He.ga K "Clash") "first"
  na_Clash_second : NoAttr K (He.ga K "Clash") "second"
  g_TooMany : mg "TooMany" = some (.ref (He.ga K "TooMany"))
  g_Link : mg "Link" = some (.ref (He.ga K "Link"))
  cl_Link : Cls K (He.ga K "Link")
  mk_Link : Mk K (He.ga K "Link") (He.ma K (He.ga K "Link") "__init__")
  m_Link_end : Meth K (He.ga K "Link") "end" (He.ma K (He.ga K "Link") "end")
  m_Link_begin : Meth K (He.ga K "Link") "begin" (He.ma K (He.ga K "Link") "begin")
  m_Link___eq__ : Meth K (He.ga K "Link") "__eq__" (He.ma K (He.ga K "Link") "__eq__")
  m_Link___mul__ : Meth K (He.ga K "Link") "__mul__" (He.ma K (He.ga K "Link") "__mul__")
  m_Link___or__ : Meth K (He.ga K "Link") "__or__" (He.ma K (He.ga K "Link") "__or__")
  m_Link___and__ : Meth K (He.ga K "Link") "__and__" (He.ma K (He.ga K "Link") "__and__")
  m_Link___invert__ : Meth K (He.ga K "Link") "__invert__" (He.ma K (He.ga K "Link") "__invert__")
  m_Link___le__ : Meth K (He.ga K "Link") "__le__" (He.ma K (He.ga K "Link") "__le__")
  na_Link_own_rides : NoAttr K (He.ga K "Link") "own_rides"
  g_Timetable : mg "Timetable" = some (.ref (He.ga K "Timetable"))
  cl_Timetable : Cls K (He.ga K "Timetable")
  mk_Timetable : Mk K (He.ga K "Timetable") (He.ma K (He.ga K "Timetable") "__init__")
  m_Timetable___getitem__ : Meth K (He.ga K "Timetable") "__getitem__" (He.ma K (He.ga K "Timetable") "__getitem__")
  m_Timetable___iter__ : Meth K (He.ga K "Timetable") "__iter__" (He.ma K (He.ga K "Timetable") "__iter__")
  m_Timetable___eq__ : Meth K (He.ga K "Timetable") "__eq__" (He.ma K (He.ga K "Timetable") "__eq__")
  m_Timetable_need_links : Meth K (He.ga K "Timetable") "need_links" (He.ma K (He.ga K "Timetable") "need_links")
  m_Timetable_led : Meth K (He.ga K "Timetable") "led" (He.ma K (He.ga K "Timetable") "led")
  m_Timetable_go : Meth K (He.ga K "Timetable") "go" (He.ma K (He.ga K "Timetable") "go")
  m_Timetable_track : Meth K (He.ga K "Timetable") "track" (He.ma K (He.ga K "Timetable") "track")
  m_Timetable_turned : Meth K (He.ga K "Timetable") "turned" (He.ma K (He.ga K "Timetable") "turned")
  na_Timetable_own_links : NoAttr K (He.ga K "Timetable") "own_links"
  g_Seen : mg "Seen" = some (.ref (He.ga K "Seen"))
  cl_Seen : Cls K (He.ga K "Seen")
  mk_Seen : Mk K (He.ga K "Seen") (He.ma K (He.ga K "Seen") "__init__")
  m_Seen_rides_of : Meth K (He.ga K "Seen") "rides_of" (He.ma K (He.ga K "Seen") "rides_of")
  m_Seen_ends_at : Meth K (He.ga K "Seen") "ends_at" (He.ma K (He.ga K "Seen") "ends_at")
  m_Seen_begins_at : Meth K (He.ga K "Seen") "begins_at" (He.ma K (He.ga K "Seen") "begins_at")
  m_Seen_ends : Meth K (He.ga K "Seen") "ends" (He.ma K (He.ga K "Seen") "ends")
  m_Seen_begins : Meth K (He.ga K "Seen") "begins" (He.ma K (He.ga K "Seen") "begins")
  m_Seen_bounds : Meth K (He.ga K "Seen") "bounds" (He.ma K (He.ga K "Seen") "bounds")
  m_Seen_example : Meth K (He.ga K "Seen") "example" (He.ma K (He.ga K "Seen") "example")
  na_Seen_own_messages : NoAttr K (He.ga K "Seen") "own_messages"
  c_FIRST : ∃ t, mg "FIRST" = some (.str "first" t)
  c_LAST : ∃ t, mg "LAST" = some (.str "last" t)
  c_MOST_RIDES : ∃ t, mg "MOST_RIDES" = some (.int 60 t)
  c_LINKS : ∃ t, mg "LINKS" = some (.str "abcd" t)
  c_STEPS : ∃ t, mg "STEPS" = some (.str "ABCDabcd" t)
  c_MOST_STEPS : ∃ t, mg "MOST_STEPS" = some (.int 60 t)
  c_MOST_MESSAGES : ∃ t, mg "MOST_MESSAGES" = some (.int 50 t)
  em_NoSeen_OrderError : PySem.W.exmOne K (.ref (He.ga K "NoSeen")) (.ref (He.ga K "OrderError")) = some true
  em_Clash_OrderError : PySem.W.exmOne K (.ref (He.ga K "Clash")) (.ref (He.ga K "OrderError")) = some true
  is_Seen : InsF K (He.ga K "Seen")
  is_Link : InsF K (He.ga K "Link")
  is_Timetable : InsF K (He.ga K "Timetable")
  xf_NoSeen : ExF K (He.ga K "NoSeen")
  xf_Clash : ExF K (He.ga K "Clash")
  xf_NoLink : ExF K (He.ga K "NoLink")
  xf_NoMoment : ExF K (He.ga K "NoMoment")
  xf_NoRow : ExF K (He.ga K "NoRow")
  xf_NoMirror : ExF K (He.ga K "NoMirror")
  nf_NoSeen_at : PySem.W.findIn K (.ref (He.ga K "NoSeen")) "at" = some none
  nf_Clash_first : PySem.W.findIn K (.ref (He.ga K "Clash")) "first" = some none
  nf_Clash_second : PySem.W.findIn K (.ref (He.ga K "Clash")) "second" = some none
  xo_NoSeen : OexC K (He.ga K "NoSeen")
  xo_Clash : OexC K (He.ga K "Clash")
  xo_NoLink : OexC K (He.ga K "NoLink")
  oe : OeI K (He.ga K "OrderError")
  ki_NoSeen_NoSeen : PySem.W.kitOne K (.ref (He.ga K "NoSeen")) (.ref (He.ga K "NoSeen")) = some true
  ki_NoSeen_Clash : PySem.W.kitOne K (.ref (He.ga K "NoSeen")) (.ref (He.ga K "Clash")) = some false
  ki_Clash_NoSeen : PySem.W.kitOne K (.ref (He.ga K "Clash")) (.ref (He.ga K "NoSeen")) = some false
  ki_Clash_Clash : PySem.W.kitOne K (.ref (He.ga K "Clash")) (.ref (He.ga K "Clash")) = some true
  ki_NoSeen_ValueError : PySem.W.kitOne K (.ref (He.ga K "NoSeen")) (.type "ValueError") = some true
  ki_Clash_ValueError : PySem.W.kitOne K (.ref (He.ga K "Clash")) (.type "ValueError") = some true
  tb_nd : ((TbL K).map Prod.fst).Nodup
end Nw

namespace Nw
open PySem PySem.Spec PyProof.Rows L2
/-! ### messages -/
abbrev Ms := Nat × Int × Int
def isMs (I : Hp) (v : V) (m : Ms) : Prop := ∃ a, v = .ref a ∧ I a = some (.tup [.str (sg m.1), .int m.2.1, .int m.2.2])
theorem isMs.up {I I' : Hp} {v : V} {m : Ms} (h : isMs I v m) (e : Same I I') : isMs I' v m := let ⟨a, h1, h2⟩ := h; ⟨a, h1, e _ _ h2⟩
def Dt.isLet : Dt → Bool
  | .str [c] => decide (97 ≤ c ∧ c ≤ 100)
  | _ => false
def Dt.isMsg : Dt → Bool
  | .sq true [x, y, z] => x.isLet && (y.isNum && z.isNum)
  | _ => false
def Dt.ms : Dt → Ms
  | .sq true [.str [c], .int b, .int e] => (c, b, e)
  | _ => (0, 0, 0)
theorem let_of {x : Dt} (h : x.isLet = true) : ∃ c, x = .str [c] ∧ 97 ≤ c ∧ c ≤ 100 := by
  match x, h with
  | .str [c], h => exact ⟨c, rfl, (of_decide_eq_true h).1, (of_decide_eq_true h).2⟩
theorem num_of {x : Dt} (h : x.isNum = true) : ∃ i, x = .int i := by
  match x, h with
  | .int i, _ => exact ⟨i, rfl⟩
theorem msg_of {x : Dt} (h : x.isMsg = true) : ∃ c b e, x = .sq true [.str [c], .int b, .int e] ∧ 97 ≤ c ∧ c ≤ 100 := by
  match x, h with
  | .sq true [x, y, z], h =>
    simp only [Dt.isMsg, Bool.and_eq_true] at h
    obtain ⟨c, rfl, h1, h2⟩ := let_of h.1
    obtain ⟨b, rfl⟩ := num_of h.2.1
    obtain ⟨e, rfl⟩ := num_of h.2.2
    exact ⟨c, b, e, rfl, h1, h2⟩
section
variable {K : PySem.W.Frag} {I H : Hp} {v : V} {x : Dt}
theorem isE.str1 {c : Nat} (h : isE K I v (.str [c])) : v = .str (sg c) := by
  cases h
  rfl
theorem isE.int1 {i : Int} (h : isE K I v (.int i)) : v = .int i := by
  cases h
  rfl
theorem isE.ms (h : isE K I v x) (m : x.isMsg = true) : isMs I v x.ms ∧ 97 ≤ x.ms.1 ∧ x.ms.1 ≤ 100 := by
  obtain ⟨c, b, e, rfl, h1, h2⟩ := msg_of m
  obtain ⟨a, vs, rfl, ha, es⟩ := h.inv
  match vs, es.len, es with
  | [v0, v1, v2], _, es =>
    have e0 := (es.at_ 0 v0 _ rfl rfl).str1
    have e1 := (es.at_ 1 v1 _ rfl rfl).int1
    have e2 := (es.at_ 2 v2 _ rfl rfl).int1
    subst e0 e1 e2
    exact ⟨⟨a, rfl, ha⟩, h1, h2⟩
theorem isMs.dt {m : Ms} (h : isMs I v m) : isE K I v (.sq true [.str [m.1], .int m.2.1, .int m.2.2]) := by
  obtain ⟨a, rfl, ha⟩ := h
  exact .of (t := true) ha (.cons (.str [m.1] (by show 1 ≤ 100000; decide)) (.cons (.int _) (.cons (.int _) .nil)))
end
theorem sg_inj {a b : Nat} (h : sg a = sg b) : a = b := mk_inj (a := [a]) (b := [b]) h |> List.cons.inj |>.1
theorem dec_sg (a b : Nat) : decide (V.str (sg a) = V.str (sg b)) = decide (a = b) := by
  by_cases h : a = b
  · rw [h, decide_eq_true rfl, decide_eq_true rfl]
  · rw [decide_eq_false h, decide_eq_false fun z => h (sg_inj (V.str.inj z))]
theorem in_abcd (c : Nat) : decide (c ∈ ("abcd" : Str).cps.toList) = decide (97 ≤ c ∧ c ≤ 100) := by
  have e : ("abcd" : Str).cps.toList = [97, 98, 99, 100] := by decide +kernel
  rw [e, Bool.eq_iff_iff, decide_eq_true_iff, decide_eq_true_iff]
  simp only [List.mem_cons, List.not_mem_nil, or_false]
  omega
def against (m n : Ms) : Bool := decide (m.1 = n.1) && ((decide (m.2.1 ≤ n.2.1) && decide (n.2.2 < m.2.2)) || (decide (n.2.1 ≤ m.2.1) && decide (m.2.2 < n.2.2)))
theorem at30 {a b c : V} : atI [a, b, c] 0 = some a := by rw [atI_nat' (j := 0) (by decide)]; rfl
theorem at31 {a b c : V} : atI [a, b, c] 1 = some b := by rw [atI_nat' (j := 1) (by decide)]; rfl
theorem at32 {a b c : V} : atI [a, b, c] 2 = some c := by rw [atI_nat' (j := 2) (by decide)]; rfl
def TX (x : Addr) : Addr → Prop := fun b => b = x
/-! ### what comes of a list of messages -/
inductive Wo where
  | fine | seen (i : Nat) | clash (i j : Nat)
def badAt (xs : List Dt) (i : Nat) : Prop := i = 50 ∨ ∃ x, xs[i]? = some x ∧ x.isMsg = false
def clAt (xs : List Dt) (i j : Nat) : Prop := ∃ x y, xs[i]? = some x ∧ xs[j]? = some y ∧ ((i = j ∧ x.ms.2.2 < x.ms.2.1) ∨ (i < j ∧ against x.ms y.ms = true))
def goodAll (xs : List Dt) : Prop := ∀ i, i < xs.length → ¬ badAt xs i
def Due (xs : List Dt) : Wo → Prop
  | .fine => goodAll xs ∧ ∀ i j, i ≤ j → ¬ clAt xs i j
  | .seen i => i < xs.length ∧ badAt xs i ∧ ∀ k, k < i → ¬ badAt xs k
  | .clash i j => goodAll xs ∧ i ≤ j ∧ j < xs.length ∧ clAt xs i j ∧ (∀ i' j', i' < i → i' ≤ j' → ¬ clAt xs i' j') ∧ ∀ j', i ≤ j' → j' < j → ¬ clAt xs i j'
theorem least {p : Nat → Prop} : ∀ n : Nat, p n → ∃ i, i ≤ n ∧ p i ∧ ∀ j, j < i → ¬ p j
  | 0, h => ⟨0, Nat.le_refl _, h, fun j hj => absurd hj (Nat.not_lt_zero _)⟩
  | n + 1, h => by
    by_cases e : ∃ m, m ≤ n ∧ p m
    · obtain ⟨m, hm, pm⟩ := e
      by_cases e2 : ∃ k, k ≤ n ∧ p k ∧ ∀ j, j < k → ¬ p j
      · obtain ⟨k, hk, z⟩ := e2
        exact ⟨k, by omega, z⟩
      · exfalso
        have all : ∀ k, ∀ j, j ≤ k → j ≤ n → ¬ p j := by
          intro k
          induction k with
          | zero =>
            intro j hj _ pj
            obtain rfl : j = 0 := by omega
            exact e2 ⟨0, by omega, pj, fun i hi => absurd hi (Nat.not_lt_zero _)⟩
          | succ k ih =>
            intro j hj hn pj
            exact e2 ⟨j, hn, pj, fun i hi => ih i (by omega) (by omega)⟩
        exact all n m hm hm pm
    · exact ⟨n + 1, Nat.le_refl _, h, fun j hj pj => e ⟨j, by omega, pj⟩⟩
theorem due_ex (xs : List Dt) : ∃ o, Due xs o := by
  by_cases b : ∃ i, i < xs.length ∧ badAt xs i
  · obtain ⟨n, hn, hb⟩ := b
    obtain ⟨i, hi, bi, h⟩ := least n hb
    exact ⟨.seen i, by omega, bi, h⟩
  have g : goodAll xs := fun i hi h => b ⟨i, hi, h⟩
  by_cases c : ∃ i, ∃ j, i ≤ j ∧ clAt xs i j
  · obtain ⟨n, hn⟩ := c
    obtain ⟨i, _, ⟨m, hm⟩, h⟩ := least (p := fun i => ∃ j, i ≤ j ∧ clAt xs i j) n hn
    obtain ⟨j, _, hj, h2⟩ := least (p := fun j => i ≤ j ∧ clAt xs i j) m hm
    have hjl : j < xs.length := by
      obtain ⟨x, y, _, e, _⟩ := hj.2
      exact (List.getElem?_eq_some_iff.mp e).1
    exact ⟨.clash i j, g, hj.1, hjl, hj.2, fun i' j' hi hle z => h i' hi ⟨j', hle, z⟩, fun j' h1 h3 z => h2 j' h3 ⟨h1, z⟩⟩
  · exact ⟨.fine, g, fun i j hij z => c ⟨i, j, hij, z⟩⟩
theorem good_len {xs : List Dt} (h : goodAll xs) : xs.length ≤ 50 := by
  by_cases c : 50 < xs.length
  · exact absurd (.inl rfl) (h 50 c)
  · omega
theorem good_at {xs : List Dt} (h : goodAll xs) {i : Nat} {x : Dt} (e : xs[i]? = some x) : x.isMsg = true := by
  cases z : x.isMsg with
  | true => rfl
  | false => exact absurd (.inr ⟨x, e, z⟩) (h i (List.getElem?_eq_some_iff.mp e).1)
def seenOut (K : PySem.W.Frag) (I H : Hp) (x : Addr) (vs : List V) (dx : Addr) (o : Wo) (Q : VK) (E : XK) : Prop := match o with
  | .fine => ∀ t I' H', Grow (TX x) I H I' H' → H' x = some (.ins (He.ga K "Seen") dx [("own_messages", .ref t)]) → I' t = some (.tup vs) → Q .non H'
  | .seen i => outF (He.ga K "NoSeen") [("at", .int (i : Nat))] E I H
  | .clash i j => outF (He.ga K "Clash") [("second", .int (j : Nat)), ("first", .int (i : Nat))] E I H
def sp_is_number (K : PySem.W.Frag) : Sp := fun vs H Q _ => ∃ (I : Hp) (v : V) (x : Dt), vs = [v] ∧ isE K I v x ∧ Same I H ∧ Q (.bl x.isNum) H
def sp_is_letter (K : PySem.W.Frag) : Sp := fun vs H Q _ => ∃ (I : Hp) (v : V) (x : Dt), vs = [v] ∧ isE K I v x ∧ Same I H ∧ Q (.bl x.isLet) H
def sp_is_message (K : PySem.W.Frag) : Sp := fun vs H Q _ => ∃ (I : Hp) (v : V) (x : Dt), vs = [v] ∧ isE K I v x ∧ Same I H ∧ Q (.bl x.isMsg) H
def sp_are_against (K : PySem.W.Frag) : Sp := fun vs H Q _ => ∃ (I : Hp) (v1 v2 : V) (m n : Ms), vs = [v1, v2] ∧ isMs I v1 m ∧ isMs I v2 n ∧ Same I H ∧ Q (.bl (against m n)) H
def sp_Seen__init (K : PySem.W.Frag) : Sp := fun _ _ _ _ => False
def spb_Seen__init (K : PySem.W.Frag) : Sp := fun vs H Q E => ∃ (I : Hp) (x dx : Addr) (v : V) (o : Wo) (ws : List V), vs = [.ref x, v] ∧ H x = some (.ins (He.ga K "Seen") dx []) ∧ I x = none ∧ Same I H ∧
  ((∃ d, isE K I v d ∧ (d.isLst || d.isTup) = false ∧ o = .seen 0) ∨ ∃ a t xs, v = .ref a ∧ a ≠ x ∧ H a = some (ho t ws) ∧ (t = true → I a = some (ho t ws)) ∧ Es K I ws xs ∧ xs.length ≤ 1000 ∧ Due xs o) ∧ seenOut K I H x ws dx o Q E
def sp_Seen_messages (K : PySem.W.Frag) : Sp := fun vs H Q _ => ∃ (a dx : Addr) (t : V), vs = [.ref a] ∧ H a = some (.ins (He.ga K "Seen") dx [("own_messages", t)]) ∧ Q t H
section
variable {P : Program} {w : World} {K : PySem.W.Frag} {mg : Str → Option Value} {base : Heap}
abbrev sp_NoSeen__init (K : PySem.W.Frag) : Sp := spX1 K (He.ga K "NoSeen") "at"
theorem ok_NoSeen__init (T : Txt K mg) (F : FnAt K "__init__" "NoSeen.__init__" s_NoSeen__init (He.ma K (He.ga K "NoSeen") "__init__")) : Ok P w K mg base CX0 1 (He.ma K (He.ga K "NoSeen") "__init__") ["self", "at"] (spX1 K (He.ga K "NoSeen") "at") := by
  refine ok_of F sc_NoSeen__init (fun _ _ _ _ _ _ us hl => match us, hl with | [_, _], _ => rfl) (fun vs H Q E h => ?_) (fun cdv A outer s H vs Q E hr h => ?_)
  · obtain ⟨_, _, rfl, _⟩ := h
    rfl
  · obtain ⟨a, v, rfl, ha, k⟩ := h
    exact ⟨_, (pss_cons (ps_expr (pe_oeinit T.oe T.g_OrderError (pa_cons (pv 0) (pa_cons pe_str pa_nil))))
      (pss_one (ps_ost (pv 0) (pv 1)))), _, rfl, a, _, _, rfl, by simp, T.xo_NoSeen, ha, _, rfl, _, rfl, a, _, rfl, T.xo_NoSeen, T.na_NoSeen_at, .inl ⟨ha, k⟩⟩
abbrev sp_Clash__init (K : PySem.W.Frag) : Sp := spX2 K (He.ga K "Clash") "first" "second"
theorem ok_Clash__init (T : Txt K mg) (F : FnAt K "__init__" "Clash.__init__" s_Clash__init (He.ma K (He.ga K "Clash") "__init__")) : Ok P w K mg base CX0 1 (He.ma K (He.ga K "Clash") "__init__") ["self", "first", "second"] (spX2 K (He.ga K "Clash") "first" "second") := by
  refine ok_of F sc_Clash__init (fun _ _ _ _ _ _ us hl => match us, hl with | [_, _, _], _ => rfl) (fun vs H Q E h => ?_) (fun cdv A outer s H vs Q E hr h => ?_)
  · obtain ⟨_, _, _, rfl, _⟩ := h
    rfl
  · obtain ⟨a, v, w1, rfl, ha, k⟩ := h
    refine ⟨_, (pss_cons (ps_expr (pe_oeinit T.oe T.g_OrderError (pa_cons (pv 0) (pa_cons pe_str pa_nil))))
      (pss_cons (ps_ost (pv 0) (pv 1))
      (pss_one (ps_ost (pv 0) (pv 2))))), _, rfl, a, _, _, rfl, by simp, T.xo_Clash, ha, _, rfl, _, rfl, a, _, rfl, T.xo_Clash, T.na_Clash_first, .inl ⟨ha, fun dx hdx ne => ?_⟩⟩
    refine ⟨_, rfl, _, rfl, a, _, rfl, T.xo_Clash, T.na_Clash_second, .inr ⟨dx, _, upd_same, by rw [upd_ne ne]; exact upd_same, by simp, ?_⟩⟩
    rw [upd_comm ne.symm, upd_upd]
    exact k dx hdx ne
theorem ok_is_number (T : Txt K mg) (F : FnAt K "is_number" "is_number" s_is_number (He.ga K "is_number"))  : Ok P w K mg base CX0 1 (He.ga K "is_number") ["thing"] (sp_is_number K) := by
  refine ok_of F sc_is_number (fun _ _ _ _ _ _ us hl => match us, hl with | [_], _ => rfl) (fun vs H Q E h => ?_) (fun cdv A outer s H vs Q E hr h => ?_)
  · obtain ⟨_, _, _, rfl, _⟩ := h
    rfl
  · obtain ⟨I, v, x, rfl, hx, sb, k⟩ := h
    refine ⟨_, (pss_one (ps_ret (pe_and (pe_callB call_isi (by rfl) T.b_isinstance (by decide +kernel) (pa_cons (pv 0) (pa_cons (pe_bltn (v := .ty "int") rfl T.b_int (by decide +kernel) rfl) pa_nil))) (pe_one (pe_not (pe_callB call_isi (by rfl) T.b_isinstance (by decide +kernel) (pa_cons (pv 0) (pa_cons (pe_bltn (v := .ty "bool") rfl T.b_bool (by decide +kernel) rfl) pa_nil)))))))), ?_⟩
    obtain ⟨t, ty, ks⟩ := hx.ty sb
    refine ⟨_, rfl, v, .ty "int", _, _, _, rfl, .ty _, ty, ks.int, _, rfl, ?_⟩
    cases x with
    | int i => exact iteT ⟨_, rfl, v, .ty "bool", _, _, _, rfl, .ty _, ty, ks.bool, _, rfl, k⟩
    | bl b => exact iteT ⟨_, rfl, v, .ty "bool", _, _, _, rfl, .ty _, ty, ks.bool, _, rfl, k⟩
    | non => exact iteF k
    | str l => exact iteF k
    | sq t xs => exact iteF k
    | dic => exact iteF k
    | obj => exact iteF k
theorem ok_is_letter (T : Txt K mg) (F : FnAt K "is_letter" "is_letter" s_is_letter (He.ga K "is_letter"))  : Ok P w K mg base CX0 1 (He.ga K "is_letter") ["thing"] (sp_is_letter K) := by
  refine ok_of F sc_is_letter (fun _ _ _ _ _ _ us hl => match us, hl with | [_], _ => rfl) (fun vs H Q E h => ?_) (fun cdv A outer s H vs Q E hr h => ?_)
  · obtain ⟨_, _, _, rfl, _⟩ := h
    rfl
  · obtain ⟨I, v, x, rfl, hx, sb, k⟩ := h
    refine ⟨_, (pss_one (ps_ret (pe_and (pe_callB call_isi (by rfl) T.b_isinstance (by decide +kernel) (pa_cons (pv 0) (pa_cons (pe_bltn (v := .ty "str") rfl T.b_str (by decide +kernel) rfl) pa_nil))) (pe_and (pe_cmpR op_eq (pe_callB call_len_str (by rfl) T.b_len (by decide +kernel) (pa_cons (pv 0) pa_nil)) pe_int (nomark _)) (pe_one (pe_cmpR op_in_sign (pv 0) (pe_gstr T.c_LINKS) rfl)))))), ?_⟩
    obtain ⟨t, ty, ks⟩ := hx.ty sb
    refine ⟨_, rfl, v, .ty "str", _, _, _, rfl, .ty _, ty, ks.str, _, rfl, ?_⟩
    cases x with
    | str l =>
      cases hx with
      | str l hl =>
        refine iteT ⟨_, rfl, mk l, rfl, by rw [mk_len, sizeLine_eq]; omega, rfl, _, rfl, ?_⟩
        match l, k with
        | [], k => exact iteF k
        | [c], k =>
          refine iteT ⟨_, rfl, c, _, rfl, rfl, ?_⟩
          rw [in_abcd]
          exact k
        | c :: d :: l, k => exact iteF k
    | int i => exact iteF k
    | bl b => exact iteF k
    | non => exact iteF k
    | sq t xs => exact iteF k
    | dic => exact iteF k
    | obj => exact iteF k
theorem ok_is_message (T : Txt K mg) (F : FnAt K "is_message" "is_message" s_is_message (He.ga K "is_message")) (G_is_letter : Ok P w K mg base CX0 1 (He.ga K "is_letter") ["thing"] (sp_is_letter K)) (G_is_number : Ok P w K mg base CX0 1 (He.ga K "is_number") ["thing"] (sp_is_number K)) : Ok P w K mg base CX0 2 (He.ga K "is_message") ["thing"] (sp_is_message K) := by
  refine ok_of F sc_is_message (fun _ _ _ _ _ _ us hl => match us, hl with | [_], _ => rfl) (fun vs H Q E h => ?_) (fun cdv A outer s H vs Q E hr h => ?_)
  · obtain ⟨_, _, _, rfl, _⟩ := h
    rfl
  · obtain ⟨I, v, x, rfl, hx, sb, k⟩ := h
    refine ⟨_, (pss_cons (ps_if (PW.pt (pw_or (pt_not (pt_val (pe_callB call_isi (by rfl) T.b_isinstance (by decide +kernel) (pa_cons (pv 0) (pa_cons (pe_bltn (v := .ty "tuple") rfl T.b_tuple (by decide +kernel) rfl) pa_nil))))) (pw_or1 (pt_cmpR op_ne (pe_callB call_len (by rfl) T.b_len (by decide +kernel) (pa_cons (pv 0) pa_nil)) pe_int (nomark _))))) (pss_one (ps_ret pe_bl)) pss_nil)
      (pss_one (ps_ret (pe_and (pe_callC G_is_letter (hr.mono (by decide)) T.g_is_letter (pa_cons (pe_ix ix_tup (pv 0) pe_int (fun _ _ => rfl)) pa_nil)) (pe_and (pe_callC G_is_number (hr.mono (by decide)) T.g_is_number (pa_cons (pe_ix ix_tup (pv 0) pe_int (fun _ _ => rfl)) pa_nil)) (pe_one (pe_callC G_is_number (hr.mono (by decide)) T.g_is_number (pa_cons (pe_ix ix_tup (pv 0) pe_int (fun _ _ => rfl)) pa_nil)))))))), ?_⟩
    obtain ⟨t, ty, ks⟩ := hx.ty sb
    refine ⟨_, rfl, v, .ty "tuple", _, _, _, rfl, .ty _, ty, ks.tup, _, rfl, ?_⟩
    cases x with
    | sq t xs =>
      cases t with
      | false => exact iteT k
      | true =>
        obtain ⟨a, vs, rfl, ha, es⟩ := hx.inv
        have ha := sb _ _ ha
        refine iteF ⟨_, rfl, .ref a, vs.length, rfl, .inr ⟨_, SqT.of ha, rfl⟩, rfl, _, rfl, ?_⟩
        by_cases h3 : xs.length = 3
        · match xs, vs, es.len, h3, es, ha, k with
          | [x0, x1, x2], [v0, v1, v2], _, _, es, ha, k =>
            refine iteF ⟨_, rfl, _, _, 0, _, rfl, rfl, SqT.of ha, at30, I, v0, x0, rfl, es.at_ 0 _ _ rfl rfl, sb, _, rfl, ?_⟩
            cases l0 : x0.isLet with
            | false =>
              refine iteF ?_
              have e : (Dt.sq true [x0, x1, x2]).isMsg = false := by show (x0.isLet && _) = false; rw [l0]; rfl
              rw [← e]
              exact k
            | true =>
              refine iteT ⟨_, rfl, _, _, 1, _, rfl, rfl, SqT.of ha, at31, I, v1, x1, rfl, es.at_ 1 _ _ rfl rfl, sb, _, rfl, ?_⟩
              cases l1 : x1.isNum with
              | false =>
                refine iteF ?_
                have e : (Dt.sq true [x0, x1, x2]).isMsg = false := by show (x0.isLet && (x1.isNum && _)) = false; rw [l0, l1]; rfl
                rw [← e]
                exact k
              | true =>
                refine iteT ⟨_, rfl, _, _, 2, _, rfl, rfl, SqT.of ha, at32, I, v2, x2, rfl, es.at_ 2 _ _ rfl rfl, sb, ?_⟩
                have e : (Dt.sq true [x0, x1, x2]).isMsg = x2.isNum := by show (x0.isLet && (x1.isNum && x2.isNum)) = _; rw [l0, l1]; simp
                rw [← e]
                exact k
        · have e : (Dt.sq true xs).isMsg = false := by
            match xs, h3 with
            | [], _ => rfl
            | [_], _ => rfl
            | [_, _], _ => rfl
            | [_, _, _], h3 => exact absurd rfl h3
            | _ :: _ :: _ :: _ :: _, _ => rfl
          rw [e] at k
          rw [decide_eq_false (fun z => h3 (by have := V.int.inj z; rw [← es.len]; omega))]
          exact iteT k
    | str l => exact iteT k
    | int i => exact iteT k
    | bl b => exact iteT k
    | non => exact iteT k
    | dic => exact iteT k
    | obj => exact iteT k
theorem ok_are_against (T : Txt K mg) (F : FnAt K "are_against" "are_against" s_are_against (He.ga K "are_against"))  : Ok P w K mg base CX0 1 (He.ga K "are_against") ["one", "other"] (sp_are_against K) := by
  refine ok_of F sc_are_against (fun _ _ _ _ _ _ us hl => match us, hl with | [_, _], _ => rfl) (fun vs H Q E h => ?_) (fun cdv A outer s H vs Q E hr h => ?_)
  · obtain ⟨_, _, _, _, _, rfl, _⟩ := h
    rfl
  · obtain ⟨I, v1, v2, m, n, rfl, ⟨a, rfl, ha⟩, ⟨b, rfl, hb⟩, sb, k⟩ := h
    refine ⟨_, (pss_cons (ps_if (pt_cmpR op_ne (pe_ix ix_tup (pv 0) pe_int (fun _ _ => rfl)) (pe_ix ix_tup (pv 1) pe_int (fun _ _ => rfl)) (nomark _)) (pss_one (ps_ret pe_bl)) pss_nil)
      (pss_one (ps_ret (pe_or (pe_and (pe_cmpR op_le (pe_ix ix_tup (pv 0) pe_int (fun _ _ => rfl)) (pe_ix ix_tup (pv 1) pe_int (fun _ _ => rfl)) (nomark _)) (pe_one (pe_cmpR op_gt (pe_ix ix_tup (pv 0) pe_int (fun _ _ => rfl)) (pe_ix ix_tup (pv 1) pe_int (fun _ _ => rfl)) (nomark _)))) (pe_one (pe_and (pe_cmpR op_le (pe_ix ix_tup (pv 1) pe_int (fun _ _ => rfl)) (pe_ix ix_tup (pv 0) pe_int (fun _ _ => rfl)) (nomark _)) (pe_one (pe_cmpR op_gt (pe_ix ix_tup (pv 1) pe_int (fun _ _ => rfl)) (pe_ix ix_tup (pv 0) pe_int (fun _ _ => rfl)) (nomark _))))))))), ?_⟩
    have ha := sb _ _ ha
    have hb := sb _ _ hb
    refine ⟨_, rfl, _, _, 0, _, rfl, rfl, SqT.of ha, at30, _, rfl, _, _, 0, _, rfl, rfl, SqT.of hb, at30, rfl, _, rfl, ?_⟩
    rw [dec_sg]
    unfold against at k
    by_cases e0 : m.1 = n.1
    · rw [decide_eq_true e0] at k ⊢
      rw [Bool.true_and] at k
      refine iteF ⟨_, rfl, _, _, 1, _, rfl, rfl, SqT.of ha, at31, _, rfl, _, _, 1, _, rfl, rfl, SqT.of hb, at31, _, _, rfl, rfl, _, rfl, ?_⟩
      have second : ∀ {Q2 : VK}, (Q2 (.bl (decide (n.2.1 ≤ m.2.1) && decide (m.2.2 < n.2.2))) H) → tAndV (tOp (rI0 fun i j => .bl (decide (i ≤ j))) (tOp (rIxT K) (tVar 1) (tC (.int 1))) (tOp (rIxT K) (tVar 0) (tC (.int 1)))) (tOp (rI0 fun i j => .bl (decide (j < i))) (tOp (rIxT K) (tVar 1) (tC (.int 2))) (tOp (rIxT K) (tVar 0) (tC (.int 2)))) (start n_are_against [.ref a, .ref b]) H Q2 := fun {Q2} q => by
        refine ⟨_, rfl, _, _, 1, _, rfl, rfl, SqT.of hb, at31, _, rfl, _, _, 1, _, rfl, rfl, SqT.of ha, at31, _, _, rfl, rfl, _, rfl, ?_⟩
        refine ite2 (fun c => ?_) (fun c => ?_)
        · rw [c, Bool.true_and] at q
          exact ⟨_, rfl, _, _, 2, _, rfl, rfl, SqT.of hb, at32, _, rfl, _, _, 2, _, rfl, rfl, SqT.of ha, at32, _, _, rfl, rfl, q⟩
        · rw [Bool.eq_false_iff.mpr c, Bool.false_and] at q
          exact q
      refine ite2 (fun c => ?_) (fun c => ?_)
      · refine ⟨_, rfl, _, _, 2, _, rfl, rfl, SqT.of ha, at32, _, rfl, _, _, 2, _, rfl, rfl, SqT.of hb, at32, _, _, rfl, rfl, _, rfl, ?_⟩
        rw [c, Bool.true_and] at k
        refine ite2 (fun c2 => ?_) (fun c2 => second ?_)
        · rw [c2, Bool.true_or] at k
          exact k
        · rw [Bool.eq_false_iff.mpr c2, Bool.false_or] at k
          exact k
      · rw [Bool.eq_false_iff.mpr c, Bool.false_and, Bool.false_or] at k
        exact ⟨_, rfl, iteF (second k)⟩
    · rw [decide_eq_false e0] at k ⊢
      exact iteT k
end
end Nw

namespace Nw
open PySem PySem.Spec PyProof.Rows L2
theorem seq_or {K : PySem.W.Frag} {t : Bool} {H : Hp} {a : Addr} {ws : List V} (h : H a = some (ho t ws)) : SqL K H a ws ∨ SqT K H a ws := by
  cases t
  · exact .inl (SqL.of h)
  · exact .inr (SqT.of h)
theorem ix_at {K : PySem.W.Frag} {t : Bool} {H : Hp} {a : Addr} {ws : List V} {i : Int} {j : Nat} {v : V} {Q : VK} (h : H a = some (ho t ws)) (hi : i = j) (e : ws[j]? = some v) (q : Q v H) : rIx K (.ref a) (.int i) H Q := by
  have z : atI ws i = some v := by
    rw [atI_nat' (j := j) hi]
    exact e
  cases t
  · exact .inl ⟨a, ws, i, v, rfl, rfl, SqL.of h, z, q⟩
  · exact .inr (.inl ⟨a, ws, i, v, rfl, rfl, SqT.of h, z, q⟩)
theorem due_bad {xs : List Dt} {o : Wo} {i : Nat} (d : Due xs o) (hi : i < xs.length) (b : badAt xs i) (hle : ∀ i0, o = .seen i0 → i ≤ i0) : o = .seen i := by
  cases o with
  | fine => exact absurd b (d.1 i hi)
  | clash => exact absurd b (d.1 i hi)
  | seen i0 =>
    have h := hle i0 rfl
    by_cases e : i = i0
    · rw [e]
    · exact absurd b (d.2.2 i (by omega))
theorem due_next {xs : List Dt} {o : Wo} {i : Nat} (d : Due xs o) (b : ¬ badAt xs i) (hle : ∀ i0, o = .seen i0 → i ≤ i0) : ∀ i0, o = .seen i0 → i + 1 ≤ i0 := fun i0 e => by
  have h := hle i0 e
  subst e
  by_cases z : i = i0
  · rw [z] at b
    exact absurd d.2.1 b
  · omega
theorem due_cl {xs : List Dt} {o : Wo} {i j : Nat} (d : Due xs o) (g : goodAll xs) (hij : i ≤ j) (c : clAt xs i j) (hle : ∀ i0 j0, o = .clash i0 j0 → i ≤ i0 ∧ (i = i0 → j ≤ j0)) : o = .clash i j := by
  cases o with
  | fine => exact absurd c (d.2 i j hij)
  | seen i0 => exact absurd d.2.1 (g i0 d.1)
  | clash i0 j0 =>
    obtain ⟨h1, h2⟩ := hle i0 j0 rfl
    obtain ⟨_, d1, d2, d3, d4, d5⟩ := d
    by_cases e : i = i0
    · subst e
      have h3 := h2 rfl
      by_cases e2 : j = j0
      · rw [e2]
      · exact absurd c (d5 j hij (by omega))
    · exact absurd c (d4 i j (by omega) hij)
section
variable {P : Program} {w : World} {K : PySem.W.Frag} {mg : Str → Option Value} {base : Heap}
theorem ok_Seen__init (T : Txt K mg) (F : FnAt K "__init__" "Seen.__init__" s_Seen__init (He.ma K (He.ga K "Seen") "__init__"))  : Ok P w K mg base CX0 3 (He.ma K (He.ga K "Seen") "__init__") ["self", "messages"] (sp_Seen__init K) := by
  refine ok_of F sc_Seen__init (fun _ _ _ _ _ _ us hl => match us, hl with | [_, _], _ => rfl) (fun vs H Q E h => ?_) (fun cdv A outer s H vs Q E hr h => ?_)
  · exact h.elim
  · exact h.elim
theorem okb_Seen__init (T : Txt K mg) (F : FnAt K "__init__" "Seen.__init__" s_Seen__init (He.ma K (He.ga K "Seen") "__init__")) (G_is_message : Ok P w K mg base CX0 2 (He.ga K "is_message") ["thing"] (sp_is_message K)) (G_are_against : Ok P w K mg base CX0 1 (He.ga K "are_against") ["one", "other"] (sp_are_against K)) (G_NoSeen__init : Ok P w K mg base CX0 1 (He.ma K (He.ga K "NoSeen") "__init__") ["self", "at"] (sp_NoSeen__init K)) (G_Clash__init : Ok P w K mg base CX0 1 (He.ma K (He.ga K "Clash") "__init__") ["self", "first", "second"] (sp_Clash__init K)) : Ok P w K mg base (L2.CX P w) 3 (He.ma K (He.ga K "Seen") "__init__") ["self", "messages"] (spb_Seen__init K) := by
  refine ok_ofX F sc_Seen__init (fun _ _ _ _ _ _ us hl => match us, hl with | [_, _], _ => rfl) (fun vs H Q E h => ?_) (fun cdv A outer s H vs Q E hr h => ?_)
  · obtain ⟨_, _, _, _, _, _, rfl, _⟩ := h
    rfl
  · obtain ⟨I, x, dx, v, o, ws, rfl, hx, nx, sb, hv, out⟩ := h
    refine ⟨_, (pss_cons (ps_if (pt_not (pt_val (pe_callB call_isiT (by rfl) T.b_isinstance (by decide +kernel) (pa_cons (pv 1) (pa_cons (pe_tup (pa_cons (pe_bltn (v := .ty "list") rfl T.b_list (by decide +kernel) rfl) (pa_cons (pe_bltn (v := .ty "tuple") rfl T.b_tuple (by decide +kernel) rfl) pa_nil))) pa_nil))))) (pss_one (ps_raise rfl (takes_of rfl rfl rfl rfl) (pmk_oexC T.xo_NoSeen T.m_NoSeen___init__ G_NoSeen__init (hr.mono (by decide)) T.g_NoSeen (pa_cons pe_int pa_nil)))) pss_nil)
      (pss_cons (ps_for (passes_of rfl) rfl (pi_enumS (by rfl) T.b_enumerate (pa_cons (pv 1) pa_nil)) (pg_tup (by rfl) (pgs_cons (pg_name (i := 2) sc_Seen__init.nd rfl (Or.inl rfl)) (pgs_cons (pg_name (i := 3) sc_Seen__init.nd rfl (Or.inl rfl)) pgs_nil))) (pss_one (ps_if (PW.pt (pw_or (pt_cmpR op_eq (pv 2) (pe_gint T.c_MOST_MESSAGES) (nomark _)) (pw_or1 (pt_not (pt_val (pe_callC G_is_message (hr.mono (by decide)) T.g_is_message (pa_cons (pv 3) pa_nil))))))) (pss_one (ps_raise rfl (takes_of rfl rfl rfl rfl) (pmk_oexC T.xo_NoSeen T.m_NoSeen___init__ G_NoSeen__init (hr.mono (by decide)) T.g_NoSeen (pa_cons (pv 2) pa_nil)))) pss_nil)))
      (pss_cons (ps_for (passes_of rfl) rfl (pi_enumS (by rfl) T.b_enumerate (pa_cons (pv 1) pa_nil)) (pg_tup (by rfl) (pgs_cons (pg_name (i := 4) sc_Seen__init.nd rfl (Or.inl rfl)) (pgs_cons (pg_name (i := 3) sc_Seen__init.nd rfl (Or.inl rfl)) pgs_nil))) (pss_cons (ps_if (pt_cmpR op_lt (pe_ix ix_tup (pv 3) pe_int (fun _ _ => rfl)) (pe_ix ix_tup (pv 3) pe_int (fun _ _ => rfl)) (nomark _)) (pss_one (ps_raise rfl (takes_of rfl rfl rfl rfl) (pmk_oexC T.xo_Clash T.m_Clash___init__ G_Clash__init (hr.mono (by decide)) T.g_Clash (pa_cons (pv 4) (pa_cons (pv 4) pa_nil))))) pss_nil)
      (pss_one (ps_for (passes_of rfl) rfl (pi_range2 (by rfl) T.b_range (pa_cons (pe_op op_add (pv 4) pe_int) (pa_cons (pe_callB call_len_seq (by rfl) T.b_len (by decide +kernel) (pa_cons (pv 1) pa_nil)) pa_nil))) (pg_name (i := 5) sc_Seen__init.nd rfl (Or.inl rfl)) (pss_one (ps_if (pt_val (pe_callC G_are_against (hr.mono (by decide)) T.g_are_against (pa_cons (pv 3) (pa_cons (pe_ix ix_seq (pv 1) (pv 5) (fun _ _ => rfl)) pa_nil)))) (pss_one (ps_raise rfl (takes_of rfl rfl rfl rfl) (pmk_oexC T.xo_Clash T.m_Clash___init__ G_Clash__init (hr.mono (by decide)) T.g_Clash (pa_cons (pv 4) (pa_cons (pv 5) pa_nil))))) pss_nil))))))
      (pss_one (ps_fld (pv 0) (pe_callTy call_tuple_of (by rfl) T.b_tuple (by decide +kernel) (pa_cons (pv 1) pa_nil)) rfl))))), ?_⟩
    rcases hv with ⟨d, hd, hk, rfl⟩ | ⟨a, tt, xs, rfl, nax, ha, hat, es, h1000, due⟩
    · refine ⟨_, rfl, by decide, fun p hp1 => ?_⟩
      have g1 : Grow No I H I (upd H p (.tup [V.ty "list", V.ty "tuple"])) := Grow.mine sb hp1
      obtain ⟨t, ty, ks⟩ := hd.ty g1.sub
      refine ⟨v, p, _, _, _, false, rfl, upd_same, .cons (.ty _) (.cons (.ty _) .nil), ty, ks.seq.trans (congrArg some hk), false, rfl, iteT ?_⟩
      exact mk1 fun dx hdx => out _ _ dx (g1.trans (Grow.mine g1.sub hdx)) upd_same
    refine ⟨_, rfl, by decide, fun p hp1 => ?_⟩
    have g1 : Grow No I H I (upd H p (.tup [V.ty "list", V.ty "tuple"])) := Grow.mine sb hp1
    obtain ⟨nty, hty, hkit⟩ := ty_seq (K := K) (t := tt) (a := a) (vs := ws) (g1.same _ _ ha)
    refine ⟨.ref a, p, _, _, _, true, rfl, upd_same, .cons (.ty _) (.cons (.ty _) .nil), hty, hkit, true, rfl, iteF ?_⟩
    have hx1 := g1.same _ _ hx
    have ha1 := g1.same _ _ ha
    revert g1 hx1 ha1
    generalize upd H p (.tup [V.ty "list", V.ty "tuple"]) = H1
    intro g1 hx1 ha1
    refine ⟨_, rfl, a, tt, ws, rfl, SqB.of ha1, ?_⟩
    have hlen := es.len
    refine for_it walk_enumS (fun i σ H' => ∃ (v2 v3 : Option V), σ = [some (.ref x), some (.ref a), v2, v3, none, none] ∧ Grow No I H1 I H' ∧ ∀ i0, o = .seen i0 → i ≤ i0) ⟨none, none, rfl, Grow.refl g1.sub, fun _ _ => Nat.zero_le _⟩ (fun i σ H' _ ⟨_, _, _, g, _⟩ => SqB.of (g.same _ _ ha1)) ?_ ?_
    · rintro i y σ H2 H3 hi ⟨v2, v3, rfl, g, hle⟩ ⟨t, y1, y2, rfl, ht, rfl, e1, hy⟩
      cases e1
      obtain ⟨d, hd, hde⟩ := es.mem hy
      have hil : i < xs.length := (List.getElem?_eq_some_iff.mp hd).1
      have g2 := g.trans (Grow.mine (T := No) (o := .tup [.int (i : Nat), y2]) g.sub ht)
      have stop : badAt xs i → ∀ {H4 : Hp}, Grow No I H1 I H4 → ∀ dx, H4 dx = none → E (.ref (He.ga K "NoSeen")) (some dx) (upd H4 dx (.xd [("at", .int (i : Nat))])) := fun hb H4 g4 dx hdx => by
        have e := due_bad due hil hb hle
        subst e
        exact out _ _ dx ((g1.trans g4).trans (Grow.mine g4.sub hdx)) upd_same
      refine ⟨t, _, rfl, SqT.of upd_same, rfl, _, _, rfl, _, _, rfl, rfl, ?_⟩
      refine ⟨_, rfl, rfl, _, rfl, ?_⟩
      by_cases e50 : i = 50
      · subst e50
        rw [show decide (V.int ((50 : Nat) : Int) = V.int 50) = true from decide_eq_true rfl]
        exact iteT (iteT ⟨_, rfl, mk1 fun dx hdx => stop (.inl rfl) g2 dx hdx⟩)
      · have hne : ¬ (V.int ((i : Nat) : Int) = V.int 50) := fun z => by
          have := V.int.inj z
          omega
        rw [decide_eq_false hne]
        refine iteF ⟨_, rfl, I, y2, d, rfl, hde, g2.sub, _, rfl, ?_⟩
        cases hm : d.isMsg with
        | false => exact iteT ⟨_, rfl, mk1 fun dx hdx => stop (.inr ⟨d, hd, hm⟩) g2 dx hdx⟩
        | true =>
          refine iteF ⟨_, _, rfl, g2, due_next due (fun z => ?_) hle⟩
          rcases z with z | ⟨d', h1, h2⟩
          · exact e50 z
          · rw [hd] at h1
            cases h1
            rw [hm] at h2
            cases h2
    · rintro σ H2 ⟨v2, v3, rfl, g, hle⟩
      have good : goodAll xs := by
        cases o with
        | fine => exact due.1
        | clash => exact due.1
        | seen i0 =>
          have h1 := hle i0 rfl
          have h2 := due.1
          omega
      have g2 := g1.trans g
      have ha2 := g.same _ _ ha1
      have hx2 := g.same _ _ hx1
      clear hle g hx1 ha1
      refine ⟨_, rfl, a, tt, ws, rfl, SqB.of ha2, ?_⟩
      refine for_it walk_enumS (fun i σ H' => ∃ (v2 v3 v4 v5 : Option V), σ = [some (.ref x), some (.ref a), v2, v3, v4, v5] ∧ Grow No I H2 I H' ∧ ∀ i0 j0, o = .clash i0 j0 → i ≤ i0) ⟨_, _, _, _, rfl, Grow.refl g2.sub, fun _ _ _ => Nat.zero_le _⟩ (fun i σ H' _ ⟨_, _, _, _, _, g, _⟩ => SqB.of (g.same _ _ ha2)) ?_ ?_
      · rintro i y σ H3 H4 hi ⟨v2, v3, v4, v5, rfl, g, hle⟩ ⟨t, y1, y2, rfl, ht, rfl, e1, hy⟩
        cases e1
        obtain ⟨d, hd, hde⟩ := es.mem hy
        have hil : i < xs.length := (List.getElem?_eq_some_iff.mp hd).1
        obtain ⟨⟨b, rfl, hb⟩, _⟩ := hde.ms (good_at good hd)
        have g3 := g.trans (Grow.mine (T := No) (o := .tup [.int (i : Nat), .ref b]) g.sub ht)
        refine ⟨t, _, rfl, SqT.of upd_same, rfl, _, _, rfl, _, _, rfl, rfl, ?_⟩
        revert g3
        generalize upd H3 t (.tup [.int (i : Nat), .ref b]) = H5
        intro g3
        have hb3 := g3.sub _ _ hb
        refine ⟨_, rfl, _, _, 2, _, rfl, rfl, SqT.of hb3, at32, _, rfl, _, _, 1, _, rfl, rfl, SqT.of hb3, at31, _, _, rfl, rfl, _, rfl, ?_⟩
        have stop : ∀ {j : Nat}, i ≤ j → clAt xs i j → (∀ i0 j0, o = .clash i0 j0 → i ≤ i0 ∧ (i = i0 → j ≤ j0)) → ∀ {H6 : Hp}, Grow No I H2 I H6 → ∀ dx, H6 dx = none → E (.ref (He.ga K "Clash")) (some dx) (upd H6 dx (.xd [("second", .int (j : Nat)), ("first", .int (i : Nat))])) := fun {j} hij c hle H6 g4 dx hdx => by
          have e := due_cl due good hij c hle
          subst e
          exact out _ _ dx ((g2.trans g4).trans (Grow.mine g4.sub hdx)) upd_same
        refine ite2 (fun c => ?_) (fun c => ?_)
        · have hc : clAt xs i i := ⟨d, d, hd, hd, .inl ⟨rfl, of_decide_eq_true c⟩⟩
          exact ⟨_, rfl, _, rfl, mk2 fun dx hdx => stop (Nat.le_refl _) hc (fun i0 j0 e => ⟨hle i0 j0 e, fun z => by
            subst e
            subst z
            exact due.2.1⟩) g3 dx hdx⟩
        have nself : ¬ clAt xs i i := by
          rintro ⟨x', y', h1, _, z⟩
          rw [hd] at h1
          cases h1
          rcases z with ⟨_, z⟩ | ⟨z, _⟩
          · exact c (decide_eq_true z)
          · omega
        refine ⟨_, rfl, _, _, rfl, rfl, _, rfl, a, ws, rfl, seq_or (g3.same _ _ ha2), _, _, rfl, ⟨by omega, by omega, by omega, by omega⟩, ?_⟩
        have hle2 : ∀ i0 j0, o = .clash i0 j0 → i ≤ i0 ∧ (i = i0 → i + 1 + 0 ≤ j0) := fun i0 j0 e => ⟨hle i0 j0 e, fun z => by
          subst e
          subst z
          have h1 := due.2.1
          by_cases e : i = j0
          · rw [← e] at due
            exact absurd due.2.2.2.1 nself
          · omega⟩
        refine for_it (walk_range (lo := (i : Int) + 1) (n := ((ws.length : Int) - ((i : Int) + 1)).toNat)) (fun s σ H' => ∃ (v5 : Option V), σ = [some (.ref x), some (.ref a), v2, some (.ref b), some (.int (i : Nat)), v5] ∧ Grow No I H2 I H' ∧ ∀ i0 j0, o = .clash i0 j0 → i ≤ i0 ∧ (i = i0 → i + 1 + s ≤ j0)) ⟨_, rfl, g3, hle2⟩ (fun _ _ _ _ _ => trivial) ?_ ?_
        · rintro s y σ Hy H6 hs ⟨v5, rfl, g4, hle3⟩ ⟨rfl, rfl⟩
          have hj : i + 1 + s < xs.length := by omega
          obtain ⟨v', hv', hve⟩ := es.get (List.getElem?_eq_getElem hj)
          have hgd := good_at good (List.getElem?_eq_getElem hj)
          refine ⟨_, rfl, _, rfl, _, rfl, ix_at (j := i + 1 + s) (g4.same _ _ ha2) (by omega) hv' ⟨I, .ref b, v', d.ms, (xs[i + 1 + s]).ms, rfl, ⟨b, rfl, hb⟩, (hve.ms hgd).1, g4.sub, _, rfl, ?_⟩⟩
          refine ite2 (fun c => ?_) (fun c => ?_)
          · have hc : clAt xs i (i + 1 + s) := ⟨d, _, hd, List.getElem?_eq_getElem hj, .inr ⟨by omega, c⟩⟩
            have ej : (i : Int) + 1 + (s : Nat) = ((i + 1 + s : Nat) : Int) := by omega
            exact ⟨_, rfl, V.int ((i + 1 + s : Nat) : Int), (by show some (some (V.int ((i : Int) + 1 + (s : Nat)))) = _; rw [ej]), mk2 fun dx hdx => stop (by omega) hc (fun i0 j0 e => hle3 i0 j0 e |>.imp id fun z w => z w) g4 dx hdx⟩
          · refine ⟨_, rfl, g4, fun i0 j0 e => ?_⟩
            obtain ⟨h1, h2⟩ := hle3 i0 j0 e
            refine ⟨h1, fun z => ?_⟩
            have h3 := h2 z
            by_cases e2 : i + 1 + s = j0
            · subst e
              subst z
              obtain ⟨x', y', q1, q2, q3⟩ := due.2.2.2.1
              rw [hd] at q1
              cases q1
              rw [← e2, List.getElem?_eq_getElem hj] at q2
              cases q2
              rcases q3 with ⟨q3, _⟩ | ⟨_, q3⟩
              · omega
              · exact absurd q3 c
            · omega
        · rintro σ H6 ⟨v5, rfl, g4, hle3⟩
          refine ⟨_, _, _, _, rfl, g4, fun i0 j0 e => ?_⟩
          obtain ⟨h1, h2⟩ := hle3 i0 j0 e
          by_cases z : i = i0
          · have h3 := h2 z
            subst e
            have h4 := due.2.2.1
            omega
          · omega
      · rintro σ H3 ⟨v2, v3, v4, v5, rfl, g, hle⟩
        have g3 := g2.trans g
        have fine : o = .fine := by
          cases o with
          | fine => rfl
          | seen i0 => exact absurd due.2.1 (good i0 due.1)
          | clash i0 j0 =>
            have h1 := hle i0 j0 rfl
            have h2 := due.2.1
            have h3 := due.2.2.1
            omega
        subst fine
        have ha3 := g.same _ _ ha2
        have hx3 := g.same _ _ hx2
        have ix3 : I x = none := nx
        have put : ∀ (t : Addr) (I' H' : Hp), Grow No I H I' H' → H' x = some (.ins (He.ga K "Seen") dx []) → I' t = some (.tup ws) → Q .non (upd H' x (.ins (He.ga K "Seen") dx [("own_messages", .ref t)])) := fun t I' H' g5 h5 ht => by
          have n5 : I' x = none := g5.fresh x nx (by rw [hx]; exact fun z => nomatch z)
          exact out t I' _ (g5.no.chg rfl n5) upd_same ht
        cases tt with
        | false =>
          refine ⟨_, rfl, a, ws, rfl, .inl ⟨SqL.of ha3, fun t ht => ?_⟩⟩
          have g4 := g3.trans (Grow.new (T := No) (o := .tup ws) g3.sub ht)
          have hx4 : upd H3 t (.tup ws) x = some (.ins (He.ga K "Seen") dx []) := by rw [upd_ne (ne_of_none hx3 ht)]; exact hx3
          exact ⟨_, rfl, x, _, dx, _, rfl, hx4, T.cl_Seen, T.na_Seen_own_messages, (by show 0 < 1000; decide), put t _ _ g4 hx4 upd_same⟩
        | true =>
          refine ⟨_, rfl, a, ws, rfl, .inr ⟨SqT.of ha3, ?_⟩⟩
          exact ⟨_, rfl, x, _, dx, _, rfl, hx3, T.cl_Seen, T.na_Seen_own_messages, (by show 0 < 1000; decide), put a _ _ g3 hx3 (hat rfl)⟩
end
end Nw

namespace Nw
open PySem PySem.Spec PyProof.Rows L2
/-! ### moments -/
inductive Mom where
  | first
  | num (t : Int)
  | last
  deriving DecidableEq
def Mom.v : Mom → V
  | .first => .str "first"
  | .num t => .int t
  | .last => .str "last"
theorem fl_ne : ¬ (("first" : Str) = "last") := by decide +kernel
theorem Mom.v_inj : ∀ {a b : Mom}, a.v = b.v → a = b
  | .first, .first, _ => rfl
  | .last, .last, _ => rfl
  | .num t, .num u, h => by rw [V.int.inj h]
  | .first, .last, h => absurd (V.str.inj h) fl_ne
  | .last, .first, h => absurd (V.str.inj h).symm fl_ne
  | .first, .num _, h => nomatch h
  | .last, .num _, h => nomatch h
  | .num _, .first, h => nomatch h
  | .num _, .last, h => nomatch h
theorem Mom.eqv (a b : Mom) : decide (a.v = b.v) = decide (a = b) := by
  by_cases h : a = b
  · subst h; rw [decide_eq_true rfl, decide_eq_true rfl]
  · rw [decide_eq_false h, decide_eq_false fun z => h (Mom.v_inj z)]
theorem Mom.scal (a b : Mom) : scal a.v b.v = true := by cases a <;> cases b <;> rfl
theorem Mom.flat (a : Mom) : flatV a.v = true := by cases a <;> rfl
def Mom.lt : Mom → Mom → Bool
  | .last, _ => false
  | _, .first => false
  | .first, _ => true
  | _, .last => true
  | .num a, .num b => decide (a < b)
def Mom.isNum : Mom → Bool
  | .num _ => true
  | _ => false
instance : Rep Mom := ⟨fun _ v m => v = m.v, fun _ h => h⟩
def Mom.dt : Mom → Dt
  | .first => .str [102, 105, 114, 115, 116]
  | .last => .str [108, 97, 115, 116]
  | .num t => .int t
theorem Mom.isE {K : PySem.W.Frag} {I : Hp} : ∀ m : Mom, isE K I m.v m.dt
  | .first => .str [102, 105, 114, 115, 116] (by decide)
  | .last => .str [108, 97, 115, 116] (by decide)
  | .num _ => .int _
def Dt.isMom : Dt → Bool
  | .int _ => true
  | .str l => decide (l = [102, 105, 114, 115, 116] ∨ l = [108, 97, 115, 116])
  | _ => false
theorem Mom.is_dt : ∀ m : Mom, m.dt.isMom = true
  | .first => rfl
  | .last => rfl
  | .num _ => rfl
theorem in_mom (l : List Nat) : inV (.str (mk l)) [.str "first", .str "last"] = (Dt.str l).isMom := by
  have one : ∀ (z : Str) (w : List Nat), z = mk w → eqV (.str z) (.str (mk l)) = decide (l = w) := fun z w hz => by
    show (z == mk l) = _
    rw [Bool.eq_iff_iff, beq_iff_eq, decide_eq_true_iff, hz]
    exact ⟨fun h => (mk_inj h).symm, fun h => by rw [h]⟩
  unfold inV
  simp only [List.any_cons, List.any_nil]
  rw [one "first" [102, 105, 114, 115, 116] rfl, one "last" [108, 97, 115, 116] rfl]
  show _ = decide (l = [102, 105, 114, 115, 116] ∨ l = [108, 97, 115, 116])
  rw [Bool.eq_iff_iff]
  simp
/-- one error without fields goes out -/
def out0 (C : Addr) (E : XK) (I H : Hp) : Prop := ∀ I' H', Grow No I H I' H' → E (.ref C) none H'
def sp_is_moment (K : PySem.W.Frag) : Sp := fun vs H Q _ => ∃ (I : Hp) (v : V) (x : Dt), vs = [v] ∧ isE K I v x ∧ Same I H ∧ ∀ I' H', Grow No I H I' H' → Q (.bl x.isMom) H'
def sp_need_moment (K : PySem.W.Frag) : Sp := fun vs H Q _ => ∃ (I : Hp) (m : Mom), vs = [m.v] ∧ Same I H ∧ ∀ I' H', Grow No I H I' H' → Q .non H'
def spb_need_moment (K : PySem.W.Frag) : Sp := fun vs H _ E => ∃ (I : Hp) (v : V) (x : Dt), vs = [v] ∧ isE K I v x ∧ x.isMom = false ∧ Same I H ∧ out0 (He.ga K "NoMoment") E I H
/-! ### rows: what the program's functions do, as lists of signs -/
def stepsL : List Nat := [65, 66, 67, 68, 97, 98, 99, 100]
def isStep (c : Nat) : Bool := stepsL.contains c
def isRowL (l : List Nat) : Bool := decide (l.length ≤ 60) && l.all isStep
def low (c : Nat) : Bool := decide (97 ≤ c)
def cp (c : Nat) : Nat := if 97 ≤ c then c - 32 else c + 32
theorem step_cases {c : Nat} (h : isStep c = true) : c = 65 ∨ c = 66 ∨ c = 67 ∨ c = 68 ∨ c = 97 ∨ c = 98 ∨ c = 99 ∨ c = 100 := by
  simpa [isStep, stepsL] using h
theorem cp_step {c : Nat} (h : isStep c = true) : isStep (cp c) = true := by
  rcases step_cases h with rfl | rfl | rfl | rfl | rfl | rfl | rfl | rfl <;> rfl
theorem cp_cp {c : Nat} (h : isStep c = true) : cp (cp c) = c := by
  rcases step_cases h with rfl | rfl | rfl | rfl | rfl | rfl | rfl | rfl <;> rfl
theorem row_steps {l : List Nat} (h : isRowL l = true) : l.length ≤ 60 ∧ ∀ c ∈ l, isStep c = true := by
  simpa [isRowL, Bool.and_eq_true, decide_eq_true_eq, List.all_eq_true] using h
theorem in_steps (c : Nat) : decide (c ∈ ("ABCDabcd" : Str).cps.toList) = isStep c := by
  have e : ("ABCDabcd" : Str).cps.toList = stepsL := by decide +kernel
  rw [e]
  unfold isStep
  rw [Bool.eq_iff_iff, decide_eq_true_iff, List.contains_iff_mem]
theorem links_list : ("abcd" : Str).cps.toList = [97, 98, 99, 100] := by decide +kernel
theorem in_links {c : Nat} (h : isStep c = true) : decide (c ∈ ("abcd" : Str).cps.toList) = low c := by
  rw [links_list]
  rcases step_cases h with rfl | rfl | rfl | rfl | rfl | rfl | rfl | rfl <;> rfl
def Dt.isRow : Dt → Bool
  | .str l => isRowL l
  | _ => false
def sp_is_row (K : PySem.W.Frag) : Sp := fun vs H Q _ => ∃ (I : Hp) (v : V) (x : Dt), vs = [v] ∧ isE K I v x ∧ Same I H ∧ ∀ I' H', Grow No I H I' H' → Q (.bl x.isRow) H'
def sp_need_row (K : PySem.W.Frag) : Sp := fun vs H Q _ => ∃ (I : Hp) (l : List Nat), vs = [.str (mk l)] ∧ isRowL l = true ∧ Same I H ∧ ∀ I' H', Grow No I H I' H' → Q .non H'
def spb_need_row (K : PySem.W.Frag) : Sp := fun vs H _ E => ∃ (I : Hp) (v : V) (x : Dt), vs = [v] ∧ isE K I v x ∧ x.isRow = false ∧ Same I H ∧ out0 (He.ga K "NoRow") E I H
def sp_need_letter (K : PySem.W.Frag) : Sp := fun vs H Q _ => ∃ (I : Hp) (c : Nat), vs = [.str (sg c)] ∧ 97 ≤ c ∧ c ≤ 100 ∧ Same I H ∧ ∀ I' H', Grow No I H I' H' → Q .non H'
def spb_need_letter (K : PySem.W.Frag) : Sp := fun vs H _ E => ∃ (I : Hp) (v : V) (x : Dt), vs = [v] ∧ isE K I v x ∧ x.isLet = false ∧ Same I H ∧ outF (He.ga K "NoLink") [("letter", v)] E I H
theorem isE.strE {K : PySem.W.Frag} {I : Hp} {v : V} {l : List Nat} (h : isE K I v (.str l)) : v = .str (mk l) ∧ l.length ≤ 100000 := by
  cases h with
  | str _ h => exact ⟨rfl, h⟩
section
variable {P : Program} {w : World} {K : PySem.W.Frag} {mg : Str → Option Value} {base : Heap}
abbrev sp_NoLink__init (K : PySem.W.Frag) : Sp := spX1 K (He.ga K "NoLink") "letter"
theorem ok_NoLink__init (T : Txt K mg) (F : FnAt K "__init__" "NoLink.__init__" s_NoLink__init (He.ma K (He.ga K "NoLink") "__init__")) : Ok P w K mg base CX0 1 (He.ma K (He.ga K "NoLink") "__init__") ["self", "letter"] (spX1 K (He.ga K "NoLink") "letter") := by
  refine ok_of F sc_NoLink__init (fun _ _ _ _ _ _ us hl => match us, hl with | [_, _], _ => rfl) (fun vs H Q E h => ?_) (fun cdv A outer s H vs Q E hr h => ?_)
  · obtain ⟨_, _, rfl, _⟩ := h
    rfl
  · obtain ⟨a, v, rfl, ha, k⟩ := h
    exact ⟨_, (pss_cons (ps_expr (pe_oeinit T.oe T.g_OrderError (pa_cons (pv 0) (pa_cons pe_str pa_nil))))
      (pss_one (ps_ost (pv 0) (pv 1)))), _, rfl, a, _, _, rfl, by simp, T.xo_NoLink, ha, _, rfl, _, rfl, a, _, rfl, T.xo_NoLink, T.na_NoLink_letter, .inl ⟨ha, k⟩⟩
theorem ok_is_moment (T : Txt K mg) (F : FnAt K "is_moment" "is_moment" s_is_moment (He.ga K "is_moment")) (G_is_number : Ok P w K mg base CX0 1 (He.ga K "is_number") ["thing"] (sp_is_number K)) : Ok P w K mg base CX0 2 (He.ga K "is_moment") ["thing"] (sp_is_moment K) := by
  refine ok_of F sc_is_moment (fun _ _ _ _ _ _ us hl => match us, hl with | [_], _ => rfl) (fun vs H Q E h => ?_) (fun cdv A outer s H vs Q E hr h => ?_)
  · obtain ⟨_, _, _, rfl, _⟩ := h
    rfl
  · obtain ⟨I, v, x, rfl, hx, sb, k⟩ := h
    refine ⟨_, (pss_one (ps_ret (pe_or (pe_callC G_is_number (hr.mono (by decide)) T.g_is_number (pa_cons (pv 0) pa_nil)) (pe_one (pe_and (pe_callB call_isi (by rfl) T.b_isinstance (by decide +kernel) (pa_cons (pv 0) (pa_cons (pe_bltn (v := .ty "str") rfl T.b_str (by decide +kernel) rfl) pa_nil))) (pe_one (pe_cmpR op_in_seq (pv 0) (pe_tup (pa_cons (pe_gstr T.c_FIRST) (pa_cons (pe_gstr T.c_LAST) pa_nil))) (by with_unfolding_all rfl)))))))), ?_⟩
    obtain ⟨t, ty, ks⟩ := hx.ty sb
    refine ⟨_, rfl, I, v, x, rfl, hx, sb, _, rfl, ?_⟩
    cases x with
    | int i => exact iteT (k I H (Grow.refl sb))
    | str l =>
      cases hx with
      | str l hl =>
        refine iteF ⟨_, rfl, _, .ty "str", _, _, _, rfl, .ty _, ty, ks.str, _, rfl, iteT ⟨_, rfl, by decide, fun p hp => ?_⟩⟩
        refine ⟨p, _, rfl, .inr (SqT.of upd_same), rfl, rfl, ?_⟩
        show Q (.bl (inV (.str (mk l)) [V.str "first", V.str "last"])) _
        rw [in_mom]
        exact k _ _ (Grow.new sb hp)
    | bl b => exact iteF ⟨_, rfl, v, .ty "str", _, _, _, rfl, .ty _, ty, ks.str, _, rfl, iteF (k I H (Grow.refl sb))⟩
    | non => exact iteF ⟨_, rfl, v, .ty "str", _, _, _, rfl, .ty _, ty, ks.str, _, rfl, iteF (k I H (Grow.refl sb))⟩
    | sq t xs => exact iteF ⟨_, rfl, v, .ty "str", _, _, _, rfl, .ty _, ty, ks.str, _, rfl, iteF (k I H (Grow.refl sb))⟩
    | dic => exact iteF ⟨_, rfl, v, .ty "str", _, _, _, rfl, .ty _, ty, ks.str, _, rfl, iteF (k I H (Grow.refl sb))⟩
    | obj => exact iteF ⟨_, rfl, v, .ty "str", _, _, _, rfl, .ty _, ty, ks.str, _, rfl, iteF (k I H (Grow.refl sb))⟩
theorem ok_need_moment (T : Txt K mg) (F : FnAt K "need_moment" "need_moment" s_need_moment (He.ga K "need_moment")) (G_is_moment : Ok P w K mg base CX0 2 (He.ga K "is_moment") ["thing"] (sp_is_moment K)) : Ok P w K mg base CX0 3 (He.ga K "need_moment") ["moment"] (sp_need_moment K) := by
  refine ok_of F sc_need_moment (fun _ _ _ _ _ _ us hl => match us, hl with | [_], _ => rfl) (fun vs H Q E h => ?_) (fun cdv A outer s H vs Q E hr h => ?_)
  · obtain ⟨_, _, rfl, _⟩ := h
    rfl
  · obtain ⟨I, m, rfl, sb, k⟩ := h
    refine ⟨_, (pss_one (ps_if (pt_not (pt_val (pe_callC G_is_moment (hr.mono (by decide)) T.g_is_moment (pa_cons (pv 0) pa_nil)))) (pss_one ps_never) pss_nil)), ?_⟩
    refine ⟨_, rfl, I, m.v, m.dt, rfl, m.isE, sb, fun I' H' g => ⟨_, rfl, ?_⟩⟩
    rw [m.is_dt]
    exact iteF (k I' H' g)
theorem okb_need_moment (T : Txt K mg) (F : FnAt K "need_moment" "need_moment" s_need_moment (He.ga K "need_moment")) (G_is_moment : Ok P w K mg base CX0 2 (He.ga K "is_moment") ["thing"] (sp_is_moment K)) : Ok P w K mg base (L2.CX P w) 3 (He.ga K "need_moment") ["moment"] (spb_need_moment K) := by
  refine ok_ofX F sc_need_moment (fun _ _ _ _ _ _ us hl => match us, hl with | [_], _ => rfl) (fun vs H Q E h => ?_) (fun cdv A outer s H vs Q E hr h => ?_)
  · obtain ⟨_, _, _, rfl, _⟩ := h
    rfl
  · obtain ⟨I, v, x, rfl, hx, hn, sb, k⟩ := h
    refine ⟨_, (pss_one (ps_if (pt_not (pt_val (pe_callC G_is_moment (hr.mono (by decide)) T.g_is_moment (pa_cons (pv 0) pa_nil)))) (pss_one (ps_raise rfl (takes_of rfl rfl rfl rfl) (pmk_own PySem.F.excBase_ValueError T.xp_NoMoment.1 T.g_NoMoment T.xp_NoMoment.2.1 (raises_own T.xp_NoMoment.2.2.1 T.xp_NoMoment.2.2.2) rfl))) pss_nil)), ?_⟩
    refine ⟨_, rfl, I, v, x, rfl, hx, sb, fun I' H' g => ⟨_, rfl, ?_⟩⟩
    rw [hn]
    exact iteT (k I' H' g)
theorem ok_is_row (T : Txt K mg) (F : FnAt K "is_row" "is_row" s_is_row (He.ga K "is_row"))  : Ok P w K mg base CX0 1 (He.ga K "is_row") ["thing"] (sp_is_row K) := by
  refine ok_of F sc_is_row (fun _ _ _ _ _ _ us hl => match us, hl with | [_], _ => rfl) (fun vs H Q E h => ?_) (fun cdv A outer s H vs Q E hr h => ?_)
  · obtain ⟨_, _, _, rfl, _⟩ := h
    rfl
  · obtain ⟨I, v, x, rfl, hx, sb, k⟩ := h
    refine ⟨_, (pss_one (ps_ret (pe_and (pe_callB call_isi (by rfl) T.b_isinstance (by decide +kernel) (pa_cons (pv 0) (pa_cons (pe_bltn (v := .ty "str") rfl T.b_str (by decide +kernel) rfl) pa_nil))) (pe_and (pe_cmpR op_le (pe_callB call_len_str (by rfl) T.b_len (by decide +kernel) (pa_cons (pv 0) pa_nil)) (pe_gint T.c_MOST_STEPS) (nomark _)) (pe_one (pe_callB (cr_all rfl) (by rfl) T.b_all (by decide +kernel) (pa_cons (pe_lc (own := [("step", 1)]) (g := (gName 1)) rfl sc_is_row.nd (pi_str (pv 0)) (blkOk_by (own := [("step", 1)]) (N := n_is_row) (sc := defScope s_is_row) (by decide +kernel)) (fun _ _ _ _ _ => (pg_name (i := 1) sc_is_row.nd rfl (Or.inl rfl))) (fun _ _ _ _ _ => pts_nil) (fun _ _ _ _ _ => (pe_cmpR op_in_sign (pv 1) (pe_gstr T.c_STEPS) rfl))) pa_nil))))))), ?_⟩
    obtain ⟨t, ty, ks⟩ := hx.ty sb
    refine ⟨_, rfl, v, .ty "str", _, _, x.isStr, rfl, .ty _, ty, ks.str, x.isStr, rfl, ?_⟩
    match x, hx, k with
    | .str l, hx, k =>
      obtain ⟨rfl, hz⟩ := hx.strE
      refine iteT ⟨_, rfl, mk l, rfl, by rw [mk_len, sizeLine_eq]; omega, _, _, rfl, rfl, _, rfl, ?_⟩
      refine ite2 (fun c => ?_) (fun c => ?_)
      · have c60 : l.length ≤ 60 := by
          have c1 := of_decide_eq_true c
          rw [mk_len] at c1
          omega
        refine ⟨_, rfl, _, rfl, fun L hL => ?_⟩
        refine lc_pure (β := Bool) (walk_str (z := mk l)) l (fun c => some (isStep c)) (by simp [mk]) sb hL (by show (mk l).length ≤ _; rw [mk_len]; omega) (fun _ _ _ => trivial) ?_ ?_
        · rintro i c' x I' H' H'' hc' g ⟨rfl, c, hc, rfl⟩ Kn Ky kn ky
          have ec : c = c' := by simpa [mk, hc'] using hc.symm
          subst ec
          refine ⟨rfl, lc_yes ?_⟩
          refine ⟨_, rfl, c, _, rfl, rfl, ?_⟩
          rw [in_steps]
          exact ky _ rfl _ I' H'' (Grow.refl g.sub) rfl
        · intro I1 H1 vs1 g1 ow hp
          have e2 := Paired.bls hp
          rw [fm_some] at e2
          subst e2
          refine ⟨L, _, rfl, SqL.of ow.at_, ?_⟩
          have e3 : (l.map isStep).all id = isRowL l := by
            unfold isRowL
            rw [decide_eq_true c60, Bool.true_and, List.all_map]
            rfl
          rw [e3]
          exact k I1 H1 g1
      · have c1 : isRowL l = false := by
          unfold isRowL
          rw [mk_len] at c
          rw [decide_eq_false (fun z => c (decide_eq_true (by omega))), Bool.false_and]
        have z := k I H (Grow.refl sb)
        rw [show (Dt.str l).isRow = false from c1] at z
        exact z
    | .non, _, k => exact iteF (k I H (Grow.refl sb))
    | .bl _, _, k => exact iteF (k I H (Grow.refl sb))
    | .int _, _, k => exact iteF (k I H (Grow.refl sb))
    | .sq _ _, _, k => exact iteF (k I H (Grow.refl sb))
    | .dic, _, k => exact iteF (k I H (Grow.refl sb))
    | .obj, _, k => exact iteF (k I H (Grow.refl sb))
theorem ok_need_row (T : Txt K mg) (F : FnAt K "need_row" "need_row" s_need_row (He.ga K "need_row")) (G_is_row : Ok P w K mg base CX0 1 (He.ga K "is_row") ["thing"] (sp_is_row K)) : Ok P w K mg base CX0 2 (He.ga K "need_row") ["row"] (sp_need_row K) := by
  refine ok_of F sc_need_row (fun _ _ _ _ _ _ us hl => match us, hl with | [_], _ => rfl) (fun vs H Q E h => ?_) (fun cdv A outer s H vs Q E hr h => ?_)
  · obtain ⟨_, _, rfl, _⟩ := h
    rfl
  · obtain ⟨I, l, rfl, hl, sb, k⟩ := h
    refine ⟨_, (pss_one (ps_if (pt_not (pt_val (pe_callC G_is_row (hr.mono (by decide)) T.g_is_row (pa_cons (pv 0) pa_nil)))) (pss_one ps_never) pss_nil)), ?_⟩
    refine ⟨_, rfl, I, .str (mk l), .str l, rfl, .str l (by have := (row_steps hl).1; omega), sb, fun I' H' g => ⟨_, rfl, ?_⟩⟩
    rw [show (Dt.str l).isRow = true from hl]
    exact iteF (k I' H' g)
theorem okb_need_row (T : Txt K mg) (F : FnAt K "need_row" "need_row" s_need_row (He.ga K "need_row")) (G_is_row : Ok P w K mg base CX0 1 (He.ga K "is_row") ["thing"] (sp_is_row K)) : Ok P w K mg base (L2.CX P w) 2 (He.ga K "need_row") ["row"] (spb_need_row K) := by
  refine ok_ofX F sc_need_row (fun _ _ _ _ _ _ us hl => match us, hl with | [_], _ => rfl) (fun vs H Q E h => ?_) (fun cdv A outer s H vs Q E hr h => ?_)
  · obtain ⟨_, _, _, rfl, _⟩ := h
    rfl
  · obtain ⟨I, v, x, rfl, hx, hn, sb, k⟩ := h
    refine ⟨_, (pss_one (ps_if (pt_not (pt_val (pe_callC G_is_row (hr.mono (by decide)) T.g_is_row (pa_cons (pv 0) pa_nil)))) (pss_one (ps_raise rfl (takes_of rfl rfl rfl rfl) (pmk_own PySem.F.excBase_ValueError T.xp_NoRow.1 T.g_NoRow T.xp_NoRow.2.1 (raises_own T.xp_NoRow.2.2.1 T.xp_NoRow.2.2.2) rfl))) pss_nil)), ?_⟩
    refine ⟨_, rfl, I, v, x, rfl, hx, sb, fun I' H' g => ⟨_, rfl, ?_⟩⟩
    rw [hn]
    exact iteT (k I' H' g)
theorem ok_need_letter (T : Txt K mg) (F : FnAt K "need_letter" "need_letter" s_need_letter (He.ga K "need_letter")) (G_is_letter : Ok P w K mg base CX0 1 (He.ga K "is_letter") ["thing"] (sp_is_letter K)) : Ok P w K mg base CX0 3 (He.ga K "need_letter") ["letter"] (sp_need_letter K) := by
  refine ok_of F sc_need_letter (fun _ _ _ _ _ _ us hl => match us, hl with | [_], _ => rfl) (fun vs H Q E h => ?_) (fun cdv A outer s H vs Q E hr h => ?_)
  · obtain ⟨_, _, rfl, _⟩ := h
    rfl
  · obtain ⟨I, c, rfl, h1, h2, sb, k⟩ := h
    refine ⟨_, (pss_one (ps_if (pt_not (pt_val (pe_callC G_is_letter (hr.mono (by decide)) T.g_is_letter (pa_cons (pv 0) pa_nil)))) (pss_one ps_never) pss_nil)), ?_⟩
    refine ⟨_, rfl, I, .str (sg c), .str [c], rfl, .str [c] (by show 1 ≤ 100000; decide), sb, _, rfl, ?_⟩
    rw [show (Dt.str [c]).isLet = true from decide_eq_true ⟨h1, h2⟩]
    exact iteF (k I H (Grow.refl sb))
theorem okb_need_letter (T : Txt K mg) (F : FnAt K "need_letter" "need_letter" s_need_letter (He.ga K "need_letter")) (G_is_letter : Ok P w K mg base CX0 1 (He.ga K "is_letter") ["thing"] (sp_is_letter K)) (G_NoLink__init : Ok P w K mg base CX0 1 (He.ma K (He.ga K "NoLink") "__init__") ["self", "letter"] (sp_NoLink__init K)) : Ok P w K mg base (L2.CX P w) 3 (He.ga K "need_letter") ["letter"] (spb_need_letter K) := by
  refine ok_ofX F sc_need_letter (fun _ _ _ _ _ _ us hl => match us, hl with | [_], _ => rfl) (fun vs H Q E h => ?_) (fun cdv A outer s H vs Q E hr h => ?_)
  · obtain ⟨_, _, _, rfl, _⟩ := h
    rfl
  · obtain ⟨I, v, x, rfl, hx, hn, sb, k⟩ := h
    refine ⟨_, (pss_one (ps_if (pt_not (pt_val (pe_callC G_is_letter (hr.mono (by decide)) T.g_is_letter (pa_cons (pv 0) pa_nil)))) (pss_one (ps_raise rfl (takes_of rfl rfl rfl rfl) (pmk_oexC T.xo_NoLink T.m_NoLink___init__ G_NoLink__init (hr.mono (by decide)) T.g_NoLink (pa_cons (pv 0) pa_nil)))) pss_nil)), ?_⟩
    refine ⟨_, rfl, I, v, x, rfl, hx, sb, _, rfl, ?_⟩
    rw [hn]
    exact iteT ⟨_, rfl, mk1 fun dx hdx => k _ _ dx (Grow.mine sb hdx) upd_same⟩
end
end Nw

namespace Nw
open PySem PySem.Spec PyProof.Rows L2
/-! ### bounds from messages -/
def isSeen (K : PySem.W.Frag) (I : Hp) (v : V) (ms : List Ms) : Prop := ∃ a dx t us, v = .ref a ∧ I a = some (.ins (He.ga K "Seen") dx [("own_messages", .ref t)]) ∧ I t = some (.tup us) ∧ Paired (isMs I) us ms
theorem isSeen.up {K : PySem.W.Frag} {I I' : Hp} {v : V} {ms : List Ms} (h : isSeen K I v ms) (e : Same I I') : isSeen K I' v ms := by
  obtain ⟨a, dx, t, us, h1, h2, h3, h4⟩ := h
  exact ⟨a, dx, t, us, h1, e _ _ h2, e _ _ h3, Paired.mono' (fun _ _ z => z.up e) h4⟩
def ridesL (ms : List Ms) (c : Nat) : List (Int × Int) := ms.filterMap fun m => if m.1 = c then some (m.2.1, m.2.2) else none
def maxL : Int → List Int → Int
  | t, [] => t
  | t, x :: l => maxL (max t x) l
def minL : Int → List Int → Int
  | t, [] => t
  | t, x :: l => minL (min t x) l
theorem maxL_mem : ∀ (l : List Int) (t : Int), maxL t l ∈ t :: l
  | [], t => List.mem_cons_self ..
  | x :: l, t => by
    have h := maxL_mem l (max t x)
    show maxL (max t x) l ∈ t :: x :: l
    rcases List.mem_cons.mp h with h | h
    · rw [h]
      rcases Int.le_total t x with z | z
      · rw [Int.max_eq_right z]; simp
      · rw [Int.max_eq_left z]; simp
    · exact List.mem_cons_of_mem _ (List.mem_cons_of_mem _ h)
theorem maxL_ge : ∀ (l : List Int) (t : Int), t ≤ maxL t l ∧ ∀ y ∈ l, y ≤ maxL t l
  | [], t => ⟨Int.le_refl _, fun _ h => nomatch h⟩
  | x :: l, t => by
    obtain ⟨h1, h2⟩ := maxL_ge l (max t x)
    refine ⟨Int.le_trans (Int.le_max_left ..) h1, fun y hy => ?_⟩
    rcases List.mem_cons.mp hy with rfl | hy
    · exact Int.le_trans (Int.le_max_right ..) h1
    · exact h2 y hy
theorem minL_mem : ∀ (l : List Int) (t : Int), minL t l ∈ t :: l
  | [], t => List.mem_cons_self ..
  | x :: l, t => by
    have h := minL_mem l (min t x)
    show minL (min t x) l ∈ t :: x :: l
    rcases List.mem_cons.mp h with h | h
    · rw [h]
      rcases Int.le_total t x with z | z
      · rw [Int.min_eq_left z]; simp
      · rw [Int.min_eq_right z]; simp
    · exact List.mem_cons_of_mem _ (List.mem_cons_of_mem _ h)
theorem minL_le : ∀ (l : List Int) (t : Int), minL t l ≤ t ∧ ∀ y ∈ l, minL t l ≤ y
  | [], t => ⟨Int.le_refl _, fun _ h => nomatch h⟩
  | x :: l, t => by
    obtain ⟨h1, h2⟩ := minL_le l (min t x)
    refine ⟨Int.le_trans h1 (Int.min_le_left ..), fun y hy => ?_⟩
    rcases List.mem_cons.mp hy with rfl | hy
    · exact Int.le_trans h1 (Int.min_le_right ..)
    · exact h2 y hy
theorem max_uniq {t M : Int} {l : List Int} (h : M ∈ t :: l) (g : ∀ y ∈ t :: l, y ≤ M) : M = maxL t l := by
  have h1 := g _ (maxL_mem l t)
  obtain ⟨h2, h3⟩ := maxL_ge l t
  have h4 : M ≤ maxL t l := by
    rcases List.mem_cons.mp h with rfl | h
    · exact h2
    · exact h3 _ h
  omega
theorem min_uniq {t M : Int} {l : List Int} (h : M ∈ t :: l) (g : ∀ y ∈ t :: l, M ≤ y) : M = minL t l := by
  have h1 := g _ (minL_mem l t)
  obtain ⟨h2, h3⟩ := minL_le l t
  have h4 : minL t l ≤ M := by
    rcases List.mem_cons.mp h with rfl | h
    · exact h2
    · exact h3 _ h
  omega
def numLate : List Int → Mom
  | [] => .last
  | e :: l => .num (minL e l)
def numEarly : List Int → Mom
  | [] => .first
  | b :: l => .num (maxL b l)
def endsF (rs : List (Int × Int)) : Mom → Mom × Mom
  | .num t => (.num (maxL t (rs.filterMap fun r => if r.1 ≤ t then some r.2 else none)), numLate (rs.filterMap fun r => if r.1 ≥ t then some r.2 else none))
  | m => (m, m)
def begF (rs : List (Int × Int)) : Mom → Mom × Mom
  | .num t => (numEarly (rs.filterMap fun r => if r.2 ≤ t then some r.1 else none), .num (minL t (rs.filterMap fun r => if r.2 > t then some (r.1 - 1) else none)))
  | m => (m, m)
def isMM (I : Hp) (v : V) (p : Mom × Mom) : Prop := ∃ t, v = .ref t ∧ I t = some (.tup [p.1.v, p.2.v])
theorem isMM.up {I I' : Hp} {v : V} {p : Mom × Mom} (h : isMM I v p) (e : Same I I') : isMM I' v p := let ⟨t, h1, h2⟩ := h; ⟨t, h1, e _ _ h2⟩
def sp_Seen_rides_of (K : PySem.W.Frag) : Sp := fun vs H Q _ => ∃ (I : Hp) (v : V) (ms : List Ms) (c : Nat), vs = [v, .str (sg c)] ∧ isSeen K I v ms ∧ ms.length ≤ 1000 ∧ Same I H ∧ ∀ v' I' H', Grow No I H I' H' → isL I' v' (ridesL ms c) → Q v' H'
def sp_Seen_ends_at (K : PySem.W.Frag) : Sp := fun vs H Q _ => ∃ (I : Hp) (v : V) (ms : List Ms) (c : Nat) (m : Mom), vs = [v, .str (sg c), m.v] ∧ isSeen K I v ms ∧ ms.length ≤ 1000 ∧ Same I H ∧ ∀ v' I' H', Grow No I H I' H' → isMM I' v' (endsF (ridesL ms c) m) → Q v' H'
def sp_Seen_begins_at (K : PySem.W.Frag) : Sp := fun vs H Q _ => ∃ (I : Hp) (v : V) (ms : List Ms) (c : Nat) (m : Mom), vs = [v, .str (sg c), m.v] ∧ isSeen K I v ms ∧ ms.length ≤ 1000 ∧ Same I H ∧ ∀ v' I' H', Grow No I H I' H' → isMM I' v' (begF (ridesL ms c) m) → Q v' H'
theorem rides_len (ms : List Ms) (c : Nat) : (ridesL ms c).length ≤ ms.length := List.length_filterMap_le _ _
theorem getI' {ns : List Int} {i : Nat} {x : V} (h : (ns.map V.int)[i]? = some x) : ∃ n, ns[i]? = some n ∧ x = .int n := by
  rw [List.getElem?_map] at h
  cases e : ns[i]? with
  | none => rw [e] at h; cases h
  | some n => rw [e] at h; exact ⟨n, rfl, (Option.some.inj h).symm⟩
section
variable {P : Program} {w : World} {K : PySem.W.Frag} {mg : Str → Option Value} {base : Heap}
theorem ok_Seen_rides_of (T : Txt K mg) (F : FnAt K "rides_of" "Seen.rides_of" s_Seen_rides_of (He.ma K (He.ga K "Seen") "rides_of"))  : Ok P w K mg base CX0 1 (He.ma K (He.ga K "Seen") "rides_of") ["self", "letter"] (sp_Seen_rides_of K) := by
  refine ok_of F sc_Seen_rides_of (fun _ _ _ _ _ _ us hl => match us, hl with | [_, _], _ => rfl) (fun vs H Q E h => ?_) (fun cdv A outer s H vs Q E hr h => ?_)
  · obtain ⟨_, _, _, _, rfl, _⟩ := h
    rfl
  · obtain ⟨I, v, ms, c, rfl, ⟨a, dx, t, us, rfl, ha, ht, hp⟩, hz, sb, k⟩ := h
    refine ⟨_, (pss_one (ps_ret (pe_lc (own := [("message", 2)]) (g := (gName 2)) rfl sc_Seen_rides_of.nd (pi_tup (pe_fld (pv 0) rfl)) (blkOk_by (own := [("message", 2)]) (N := n_Seen_rides_of) (sc := defScope s_Seen_rides_of) (by decide +kernel)) (fun _ _ _ _ _ => (pg_name (i := 2) sc_Seen_rides_of.nd rfl (Or.inl rfl))) (fun _ _ _ _ _ => (pts_one (pt_cmpR op_eq (pe_ix (ix_tupK (K := K) rfl) (pv 2) pe_int (fun _ _ => rfl)) (pv 1) (nomark _)))) (fun _ _ _ _ _ => (pe_tup (pa_cons (pe_ix (ix_tupK (K := K) rfl) (pv 2) pe_int (fun _ _ => rfl)) (pa_cons (pe_ix (ix_tupK (K := K) rfl) (pv 2) pe_int (fun _ _ => rfl)) pa_nil))))))), ?_⟩
    have hl := Nw.Paired.len hp
    refine ⟨_, rfl, a, _, dx, _, _, rfl, sb _ _ ha, T.cl_Seen, T.na_Seen_own_messages, rfl, t, rfl, ⟨_, SqT.of (sb _ _ ht)⟩, fun L hL => ?_⟩
    refine lc_pure (β := Int × Int) walk_tup ms (fun m => if m.1 = c then some (m.2.1, m.2.2) else none) hl.symm sb hL (by omega) (fun I' H' g => SqT.of (g.sub _ _ (g.view _ _ ht))) ?_ ?_
    · rintro i m x I' H' H'' hm g ⟨rfl, hx⟩ Kn Ky kn ky
      obtain ⟨x', hx', b, rfl, hb⟩ := Nw.Paired.at hp hm
      rw [hx] at hx'
      cases hx'
      have hbH := g.sub _ _ (g.view _ _ hb)
      refine ⟨rfl, ?_⟩
      refine ⟨_, rfl, _, _, 0, _, rfl, rfl, SqT.of hbH, at30, _, rfl, rfl, _, rfl, ?_⟩
      rw [dec_sg]
      refine ite2 (fun e => ?_) (fun e => ?_)
      · refine ⟨_, rfl, _, _, 1, _, rfl, rfl, SqT.of hbH, at31, _, rfl, _, _, 2, _, rfl, rfl, SqT.of hbH, at32, (by show 2 ≤ sizeLine; decide), fun q hq => ?_⟩
        have gq : Grow No I' H'' _ (upd H'' q (.tup [.int m.2.1, .int m.2.2])) := Grow.new g.sub hq
        exact ky _ (if_pos (of_decide_eq_true e)) _ _ _ gq ⟨q, _, _, rfl, upd_same, rfl, rfl⟩
      · exact kn (if_neg (fun z => e (decide_eq_true z))) I' H'' (Grow.refl g.sub)
    · intro I1 H1 vs1 g1 ow hp1
      have g2 := g1.give ow
      exact k (.ref L) _ _ g2 ⟨L, vs1, rfl, upd_same, Paired.mono' (fun _ _ z => Rep.mono (Same.up ow.ni) z) hp1⟩
theorem ok_Seen_ends_at (T : Txt K mg) (F : FnAt K "ends_at" "Seen.ends_at" s_Seen_ends_at (He.ma K (He.ga K "Seen") "ends_at")) (G_Seen_rides_of : Ok P w K mg base CX0 1 (He.ma K (He.ga K "Seen") "rides_of") ["self", "letter"] (sp_Seen_rides_of K)) : Ok P w K mg base CX0 2 (He.ma K (He.ga K "Seen") "ends_at") ["self", "letter", "moment"] (sp_Seen_ends_at K) := by
  obtain ⟨fd_Seen_rides_of, F_Seen_rides_of, b_Seen_rides_of, _⟩ := G_Seen_rides_of.ok
  refine ok_of F sc_Seen_ends_at (fun _ _ _ _ _ _ us hl => match us, hl with | [_, _, _], _ => rfl) (fun vs H Q E h => ?_) (fun cdv A outer s H vs Q E hr h => ?_)
  · obtain ⟨_, _, _, _, _, rfl, _⟩ := h
    rfl
  · obtain ⟨I, v, ms, c, m, rfl, hs, hz, sb, k⟩ := h
    refine ⟨_, (pss_cons (ps_if (pt_cmpR op_in_seq (pv 2) (pe_tup (pa_cons (pe_gstr T.c_FIRST) (pa_cons (pe_gstr T.c_LAST) pa_nil))) (by with_unfolding_all rfl)) (pss_one (ps_ret (pe_tup (pa_cons (pv 2) (pa_cons (pv 2) pa_nil))))) pss_nil)
      (pss_cons (ps_set (i := 3) sc_Seen_ends_at.nd rfl (Or.inl rfl) (pe_meth (pv 0) T.cl_Seen T.m_Seen_rides_of F_Seen_rides_of (hr.mono (by decide)) b_Seen_rides_of .nil pass0 (pa_cons (pv 1) pa_nil)))
      (pss_cons (ps_set (i := 4) sc_Seen_ends_at.nd rfl (Or.inl rfl) (pe_callB (cr_max rfl) (by rfl) T.b_max (by decide +kernel) (pa_cons (pe_op op_cat (pe_lst (pa_cons (pe_callTy call_int1 (by rfl) T.b_int (by decide +kernel) (pa_cons (pv 2) pa_nil)) pa_nil)) (pe_lc (own := [("begin", 6), ("end", 7)]) (g := (gTup K 2 (gCons (gName 6) (gCons (gName 7) gNil)))) rfl sc_Seen_ends_at.nd (pi_list (pv 3)) (blkOk_by (own := [("begin", 6), ("end", 7)]) (N := n_Seen_ends_at) (sc := defScope s_Seen_ends_at) (by decide +kernel)) (fun _ _ _ _ _ => (pg_tup (by rfl) (pgs_cons (pg_name (i := 6) sc_Seen_ends_at.nd rfl (Or.inl rfl)) (pgs_cons (pg_name (i := 7) sc_Seen_ends_at.nd rfl (Or.inl rfl)) pgs_nil)))) (fun _ _ _ _ _ => (pts_one (pt_cmpR op_le (pv 6) (pv 2) (nomark _)))) (fun _ _ _ _ _ => (pe_callTy call_int1 (by rfl) T.b_int (by decide +kernel) (pa_cons (pv 7) pa_nil))))) pa_nil)))
      (pss_cons (ps_setLc (i := 5) (own := [("begin", 6), ("end", 7)]) (g := (gTup K 2 (gCons (gName 6) (gCons (gName 7) gNil)))) rfl sc_Seen_ends_at.nd rfl rfl (sw_true rfl rfl rfl (by decide +kernel)) (pi_list (pv 3)) (blkOk_by (own := [("begin", 6), ("end", 7)]) (N := n_Seen_ends_at) (sc := defScope s_Seen_ends_at) (by decide +kernel)) (fun _ _ _ _ _ => (pg_tup (by rfl) (pgs_cons (pg_name (i := 6) sc_Seen_ends_at.nd rfl (Or.inl rfl)) (pgs_cons (pg_name (i := 7) sc_Seen_ends_at.nd rfl (Or.inl rfl)) pgs_nil)))) (fun _ _ _ _ _ => (pts_one (pt_cmpR op_ge (pv 6) (pv 2) (nomark _)))) (fun _ _ _ _ _ => (pe_callTy call_int1 (by rfl) T.b_int (by decide +kernel) (pa_cons (pv 7) pa_nil))))
      (pss_one (ps_ret (pe_tup (pa_cons (pv 4) (pa_cons (pe_ifExp (pt_cmpR (op_eqNil hr.units) (pv 5) (pe_lst pa_nil) (nomark _)) (pe_gstr T.c_LAST) (pe_callB (cr_min rfl) (by rfl) T.b_min (by decide +kernel) (pa_cons (pe_lc (own := [("end", 7)]) (g := (gName 7)) rfl sc_Seen_ends_at.nd (pi_list (pv 5)) (blkOk_by (own := [("end", 7)]) (N := n_Seen_ends_at) (sc := defScope s_Seen_ends_at) (by decide +kernel)) (fun _ _ _ _ _ => (pg_name (i := 7) sc_Seen_ends_at.nd rfl (Or.inl rfl))) (fun _ _ _ _ _ => pts_nil) (fun _ _ _ _ _ => (pe_callTy call_int1 (by rfl) T.b_int (by decide +kernel) (pa_cons (pv 7) pa_nil)))) pa_nil))) pa_nil))))))))), ?_⟩
    obtain ⟨a, dx, tt, us, rfl, ha, ht, hpm⟩ := id hs
    refine ⟨_, rfl, by decide, fun p hp1 => ⟨p, _, rfl, .inr (SqT.of upd_same), m.flat, rfl, _, rfl, ?_⟩⟩
    have g1 : Grow No I H _ (upd H p (.tup [V.str "first", V.str "last"])) := Grow.new sb hp1
    match m, k with
    | .first, k =>
      refine iteT ⟨_, rfl, _, rfl, (by show 2 ≤ sizeLine; decide), fun q hq => ?_⟩
      have gq : Grow No _ (upd H p (.tup [V.str "first", V.str "last"])) _ (upd (upd H p (.tup [V.str "first", V.str "last"])) q (.tup [V.str "first", V.str "first"])) := Grow.new g1.sub hq
      exact k (.ref q) _ _ (g1.trans gq) ⟨q, rfl, upd_same⟩
    | .last, k =>
      refine iteT ⟨_, rfl, _, rfl, (by show 2 ≤ sizeLine; decide), fun q hq => ?_⟩
      have gq : Grow No _ (upd H p (.tup [V.str "first", V.str "last"])) _ (upd (upd H p (.tup [V.str "first", V.str "last"])) q (.tup [V.str "last", V.str "last"])) := Grow.new g1.sub hq
      exact k (.ref q) _ _ (g1.trans gq) ⟨q, rfl, upd_same⟩
    | .num t, k =>
      refine iteF ⟨_, rfl, a, dx, _, rfl, g1.sub _ _ (g1.view _ _ ha), rfl, _, rfl, _, .ref a, ms, c, rfl, hs.up g1.view, hz, g1.sub, fun v' I2 H2 g2 hr => ?_⟩
      obtain ⟨b, ws, rfl, hb, hp⟩ := hr
      have hlen := rides_len ms c
      have hlw := Nw.Paired.len hp
      generalize ridesL ms c = rs at hp hlen hlw k
      have g12 := g1.trans g2
      refine ⟨_, rfl, .inl ⟨_, rfl, (by show 1 ≤ sizeLine; decide), fun q hq => ?_⟩⟩
      have gq : Grow No I2 H2 I2 (upd H2 q (.lst [V.int t])) := Grow.mine g2.sub hq
      have hqH : upd H2 q (.lst [V.int t]) q = some (.lst [V.int t]) := upd_same
      generalize upd H2 q (.lst [V.int t]) = H3 at gq hqH ⊢
      refine ⟨_, rfl, b, rfl, ⟨_, SqL.of (gq.sub _ _ hb)⟩, fun L hL => ?_⟩
      refine lc_pure (β := Int) walk_list rs (fun r => if r.1 ≤ t then some r.2 else none) hlw.symm gq.sub hL (by omega) (fun I' H' g => SqL.of (g.sub _ _ (g.view _ _ hb))) ?_ ?_
      · rintro i r x I' H' H'' hr g ⟨rfl, hx⟩ Kn Ky kn ky
        obtain ⟨x', hx', d, v1, v2, rfl, hd, h1, h2⟩ := Nw.Paired.at hp hr
        rw [hx] at hx'
        cases hx'
        cases h1
        cases h2
        refine ⟨d, _, rfl, SqT.of (g.sub _ _ (g.view _ _ hd)), rfl, _, _, rfl, _, _, rfl, rfl, rfl, ?_⟩
        refine ⟨_, rfl, _, rfl, _, _, rfl, rfl, _, rfl, ?_⟩
        refine ite2 (fun e => ?_) (fun e => ?_)
        · exact ⟨_, rfl, .inl ⟨_, rfl, ky _ (if_pos (of_decide_eq_true e)) _ I' H'' (Grow.refl g.sub) rfl⟩⟩
        · exact kn (if_neg (fun z => e (decide_eq_true z))) I' H'' (Grow.refl g.sub)
      intro I4 H4 vs4 g4 ow4 hp4
      have e4 := Paired.ints hp4
      subst e4
      have hle4 : (rs.filterMap fun r => if r.1 ≤ t then some r.2 else none).length ≤ rs.length := List.length_filterMap_le _ _
      have hk : endsF rs (.num t) = (.num (maxL t (rs.filterMap fun r => if r.1 ≤ t then some r.2 else none)), numLate (rs.filterMap fun r => if r.1 ≥ t then some r.2 else none)) := rfl
      rw [hk] at k
      generalize (rs.filterMap fun r => if r.1 ≤ t then some r.2 else none) = es at hle4 k ow4 hp4
      refine ⟨q, L, _, _, rfl, rfl, g4.same _ _ hqH, ow4.at_, by rw [List.length_map, sizeLine_eq]; simp only [List.length_singleton]; omega, fun p2 hp2 => ?_⟩
      refine ⟨p2, t :: es, rfl, SqL.of upd_same, Nat.succ_pos _, fun M hM hmax => ?_⟩
      cases max_uniq hM hmax
      have g5 := (gq.trans g4).trans (Grow.mine (T := No) (o := .lst ([V.int t] ++ es.map V.int)) g4.sub hp2)
      generalize upd H4 p2 (.lst ([V.int t] ++ es.map V.int)) = H5 at g5 ⊢
      refine ⟨_, rfl, b, rfl, ⟨_, SqL.of (g5.sub _ _ (g5.view _ _ hb))⟩, fun L6 hL6 => ?_⟩
      refine lc_pure (β := Int) walk_list rs (fun r => if r.1 ≥ t then some r.2 else none) hlw.symm g5.sub hL6 (by omega) (fun I' H' g => SqL.of (g.sub _ _ (g.view _ _ (g5.view _ _ hb)))) ?_ ?_
      · rintro i r x I' H' H'' hr g ⟨rfl, hx⟩ Kn Ky kn ky
        obtain ⟨x', hx', d, v1, v2, rfl, hd, h1, h2⟩ := Nw.Paired.at hp hr
        rw [hx] at hx'
        cases hx'
        cases h1
        cases h2
        refine ⟨d, _, rfl, SqT.of (g.sub _ _ (g.view _ _ (g5.view _ _ hd))), rfl, _, _, rfl, _, _, rfl, rfl, rfl, ?_⟩
        refine ⟨_, rfl, _, rfl, _, _, rfl, rfl, _, rfl, ?_⟩
        refine ite2 (fun e => ?_) (fun e => ?_)
        · exact ⟨_, rfl, .inl ⟨_, rfl, ky _ (if_pos (of_decide_eq_true e)) _ I' H'' (Grow.refl g.sub) rfl⟩⟩
        · exact kn (if_neg (fun z => e (decide_eq_true z))) I' H'' (Grow.refl g.sub)
      intro I7 H7 vs7 g7 ow7 hp7
      have e7 := Paired.ints hp7
      subst e7
      have hle7 : (rs.filterMap fun r => if r.1 ≥ t then some r.2 else none).length ≤ rs.length := List.length_filterMap_le _ _
      generalize (rs.filterMap fun r => if r.1 ≥ t then some r.2 else none) = ls at hle7 k ow7 hp7
      refine ⟨_, rfl, _, rfl, by decide, fun q8 hq8 => ⟨L6, q8, _, rfl, rfl, SqL.of (by rw [upd_ne (ne_of_none ow7.at_ hq8)]; exact ow7.at_), SqL.of upd_same, _, rfl, ?_⟩⟩
      have g8 : Grow No I7 H7 I7 (upd H7 q8 (.lst [])) := Grow.mine g7.sub hq8
      have ow8 := ow7.grow g8
      have G8 := g12.trans ((g5.trans g7).trans g8)
      cases ls with
      | nil =>
        refine iteT ⟨(by show 2 ≤ sizeLine; decide), fun q9 hq9 => ?_⟩
        have g9 : Grow No I7 _ _ (upd (upd H7 q8 (.lst [])) q9 (.tup [V.int (maxL t es), V.str "last"])) := Grow.new g8.sub hq9
        exact k (.ref q9) _ _ (G8.trans g9) ⟨q9, rfl, upd_same⟩
      | cons e r =>
        refine iteF ⟨_, rfl, L6, rfl, ⟨_, SqL.of ow8.at_⟩, fun M hM => ?_⟩
        refine lc_pure (β := Int) walk_list (e :: r) (fun e => some e) (by rw [List.length_map]) g8.sub hM (by rw [List.length_map]; omega) (fun I' H' g => SqL.of (g.same _ _ ow8.at_)) ?_ ?_
        · rintro i r x I' H' H'' hr g ⟨rfl, hx⟩ Kn Ky kn ky
          obtain ⟨r', hr', rfl⟩ := getI' hx
          rw [hr] at hr'
          cases hr'
          exact ⟨rfl, lc_yes ⟨_, rfl, .inl ⟨_, rfl, ky _ rfl _ I' H'' (Grow.refl g.sub) rfl⟩⟩⟩
        · intro I9 H9 vs9 g9 ow9 hp9
          have e9 := Paired.ints hp9
          rw [fm_some, List.map_id'] at e9
          subst e9
          refine ⟨M, e :: r, rfl, SqL.of ow9.at_, Nat.succ_pos _, fun z hz hmin => ?_⟩
          cases min_uniq hz hmin
          refine ⟨(by show 2 ≤ sizeLine; decide), fun q9 hq9 => ?_⟩
          have g10 : Grow No I9 H9 _ (upd H9 q9 (.tup [V.int (maxL t es), V.int (minL e r)])) := Grow.new g9.sub hq9
          exact k (.ref q9) _ _ (G8.trans (g9.trans g10)) ⟨q9, rfl, upd_same⟩
theorem ok_Seen_begins_at (T : Txt K mg) (F : FnAt K "begins_at" "Seen.begins_at" s_Seen_begins_at (He.ma K (He.ga K "Seen") "begins_at")) (G_Seen_rides_of : Ok P w K mg base CX0 1 (He.ma K (He.ga K "Seen") "rides_of") ["self", "letter"] (sp_Seen_rides_of K)) : Ok P w K mg base CX0 2 (He.ma K (He.ga K "Seen") "begins_at") ["self", "letter", "moment"] (sp_Seen_begins_at K) := by
  obtain ⟨fd_Seen_rides_of, F_Seen_rides_of, b_Seen_rides_of, _⟩ := G_Seen_rides_of.ok
  refine ok_of F sc_Seen_begins_at (fun _ _ _ _ _ _ us hl => match us, hl with | [_, _, _], _ => rfl) (fun vs H Q E h => ?_) (fun cdv A outer s H vs Q E hr h => ?_)
  · obtain ⟨_, _, _, _, _, rfl, _⟩ := h
    rfl
  · obtain ⟨I, v, ms, c, m, rfl, hs, hz, sb, k⟩ := h
    refine ⟨_, (pss_cons (ps_if (pt_cmpR op_in_seq (pv 2) (pe_tup (pa_cons (pe_gstr T.c_FIRST) (pa_cons (pe_gstr T.c_LAST) pa_nil))) (by with_unfolding_all rfl)) (pss_one (ps_ret (pe_tup (pa_cons (pv 2) (pa_cons (pv 2) pa_nil))))) pss_nil)
      (pss_cons (ps_set (i := 3) sc_Seen_begins_at.nd rfl (Or.inl rfl) (pe_meth (pv 0) T.cl_Seen T.m_Seen_rides_of F_Seen_rides_of (hr.mono (by decide)) b_Seen_rides_of .nil pass0 (pa_cons (pv 1) pa_nil)))
      (pss_cons (ps_setLc (i := 4) (own := [("begin", 6), ("end", 7)]) (g := (gTup K 2 (gCons (gName 6) (gCons (gName 7) gNil)))) rfl sc_Seen_begins_at.nd rfl rfl (sw_true rfl rfl rfl (by decide +kernel)) (pi_list (pv 3)) (blkOk_by (own := [("begin", 6), ("end", 7)]) (N := n_Seen_begins_at) (sc := defScope s_Seen_begins_at) (by decide +kernel)) (fun _ _ _ _ _ => (pg_tup (by rfl) (pgs_cons (pg_name (i := 6) sc_Seen_begins_at.nd rfl (Or.inl rfl)) (pgs_cons (pg_name (i := 7) sc_Seen_begins_at.nd rfl (Or.inl rfl)) pgs_nil)))) (fun _ _ _ _ _ => (pts_one (pt_cmpR op_le (pv 7) (pv 2) (nomark _)))) (fun _ _ _ _ _ => (pe_callTy call_int1 (by rfl) T.b_int (by decide +kernel) (pa_cons (pv 6) pa_nil))))
      (pss_cons (ps_set (i := 5) sc_Seen_begins_at.nd rfl (Or.inl rfl) (pe_callB (cr_min rfl) (by rfl) T.b_min (by decide +kernel) (pa_cons (pe_op op_cat (pe_lst (pa_cons (pe_callTy call_int1 (by rfl) T.b_int (by decide +kernel) (pa_cons (pv 2) pa_nil)) pa_nil)) (pe_lc (own := [("begin", 6), ("end", 7)]) (g := (gTup K 2 (gCons (gName 6) (gCons (gName 7) gNil)))) rfl sc_Seen_begins_at.nd (pi_list (pv 3)) (blkOk_by (own := [("begin", 6), ("end", 7)]) (N := n_Seen_begins_at) (sc := defScope s_Seen_begins_at) (by decide +kernel)) (fun _ _ _ _ _ => (pg_tup (by rfl) (pgs_cons (pg_name (i := 6) sc_Seen_begins_at.nd rfl (Or.inl rfl)) (pgs_cons (pg_name (i := 7) sc_Seen_begins_at.nd rfl (Or.inl rfl)) pgs_nil)))) (fun _ _ _ _ _ => (pts_one (pt_cmpR op_gt (pv 7) (pv 2) (nomark _)))) (fun _ _ _ _ _ => (pe_op op_sub (pe_callTy call_int1 (by rfl) T.b_int (by decide +kernel) (pa_cons (pv 6) pa_nil)) pe_int)))) pa_nil)))
      (pss_one (ps_ret (pe_tup (pa_cons (pe_ifExp (pt_cmpR (op_eqNil hr.units) (pv 4) (pe_lst pa_nil) (nomark _)) (pe_gstr T.c_FIRST) (pe_callB (cr_max rfl) (by rfl) T.b_max (by decide +kernel) (pa_cons (pe_lc (own := [("begin", 6)]) (g := (gName 6)) rfl sc_Seen_begins_at.nd (pi_list (pv 4)) (blkOk_by (own := [("begin", 6)]) (N := n_Seen_begins_at) (sc := defScope s_Seen_begins_at) (by decide +kernel)) (fun _ _ _ _ _ => (pg_name (i := 6) sc_Seen_begins_at.nd rfl (Or.inl rfl))) (fun _ _ _ _ _ => pts_nil) (fun _ _ _ _ _ => (pe_callTy call_int1 (by rfl) T.b_int (by decide +kernel) (pa_cons (pv 6) pa_nil)))) pa_nil))) (pa_cons (pv 5) pa_nil))))))))), ?_⟩
    obtain ⟨a, dx, tt, us, rfl, ha, ht, hpm⟩ := id hs
    refine ⟨_, rfl, by decide, fun p hp1 => ⟨p, _, rfl, .inr (SqT.of upd_same), m.flat, rfl, _, rfl, ?_⟩⟩
    have g1 : Grow No I H _ (upd H p (.tup [V.str "first", V.str "last"])) := Grow.new sb hp1
    match m, k with
    | .first, k =>
      refine iteT ⟨_, rfl, _, rfl, (by show 2 ≤ sizeLine; decide), fun q hq => ?_⟩
      have gq : Grow No _ (upd H p (.tup [V.str "first", V.str "last"])) _ (upd (upd H p (.tup [V.str "first", V.str "last"])) q (.tup [V.str "first", V.str "first"])) := Grow.new g1.sub hq
      exact k (.ref q) _ _ (g1.trans gq) ⟨q, rfl, upd_same⟩
    | .last, k =>
      refine iteT ⟨_, rfl, _, rfl, (by show 2 ≤ sizeLine; decide), fun q hq => ?_⟩
      have gq : Grow No _ (upd H p (.tup [V.str "first", V.str "last"])) _ (upd (upd H p (.tup [V.str "first", V.str "last"])) q (.tup [V.str "last", V.str "last"])) := Grow.new g1.sub hq
      exact k (.ref q) _ _ (g1.trans gq) ⟨q, rfl, upd_same⟩
    | .num t, k =>
      refine iteF ⟨_, rfl, a, dx, _, rfl, g1.sub _ _ (g1.view _ _ ha), rfl, _, rfl, _, .ref a, ms, c, rfl, hs.up g1.view, hz, g1.sub, fun v' I2 H2 g2 hr => ?_⟩
      obtain ⟨b, ws, rfl, hb, hp⟩ := hr
      have hlen := rides_len ms c
      have hlw := Nw.Paired.len hp
      generalize ridesL ms c = rs at hp hlen hlw k
      have g12 := g1.trans g2
      refine ⟨_, rfl, b, rfl, ⟨_, SqL.of (g2.sub _ _ hb)⟩, fun L6 hL6 => ?_⟩
      refine lc_pure (β := Int) walk_list rs (fun r => if r.2 ≤ t then some r.1 else none) hlw.symm g2.sub hL6 (by omega) (fun I' H' g => SqL.of (g.sub _ _ (g.view _ _ hb))) ?_ ?_
      · rintro i r x I' H' H'' hr g ⟨rfl, hx⟩ Kn Ky kn ky
        obtain ⟨x', hx', d, v1, v2, rfl, hd, h1, h2⟩ := Nw.Paired.at hp hr
        rw [hx] at hx'
        cases hx'
        cases h1
        cases h2
        refine ⟨d, _, rfl, SqT.of (g.sub _ _ (g.view _ _ hd)), rfl, _, _, rfl, _, _, rfl, rfl, rfl, ?_⟩
        refine ⟨_, rfl, _, rfl, _, _, rfl, rfl, _, rfl, ?_⟩
        refine ite2 (fun e => ?_) (fun e => ?_)
        · exact ⟨_, rfl, .inl ⟨_, rfl, ky _ (if_pos (of_decide_eq_true e)) _ I' H'' (Grow.refl g.sub) rfl⟩⟩
        · exact kn (if_neg (fun z => e (decide_eq_true z))) I' H'' (Grow.refl g.sub)
      intro I4 H4 vs4 g4 ow4 hp4
      have e4 := Paired.ints hp4
      subst e4
      have hle4 : (rs.filterMap fun r => if r.2 ≤ t then some r.1 else none).length ≤ rs.length := List.length_filterMap_le _ _
      have hk : begF rs (.num t) = (numEarly (rs.filterMap fun r => if r.2 ≤ t then some r.1 else none), .num (minL t (rs.filterMap fun r => if r.2 > t then some (r.1 - 1) else none))) := rfl
      rw [hk] at k
      generalize (rs.filterMap fun r => if r.2 ≤ t then some r.1 else none) = ls at hle4 k ow4 hp4
      refine ⟨_, rfl, .inl ⟨_, rfl, (by show 1 ≤ sizeLine; decide), fun q hq => ?_⟩⟩
      have gq : Grow No I4 H4 I4 (upd H4 q (.lst [V.int t])) := Grow.mine g4.sub hq
      have hqH : upd H4 q (.lst [V.int t]) q = some (.lst [V.int t]) := upd_same
      have ow5 := ow4.grow gq
      have g24 := (g4.trans gq)
      generalize upd H4 q (.lst [V.int t]) = H5 at gq hqH ow5 g24 ⊢
      refine ⟨_, rfl, b, rfl, ⟨_, SqL.of (g24.sub _ _ (g24.view _ _ hb))⟩, fun L hL => ?_⟩
      refine lc_pure (β := Int) walk_list rs (fun r => if r.2 > t then some (r.1 - 1) else none) hlw.symm g24.sub hL (by omega) (fun I' H' g => SqL.of (g.sub _ _ (g.view _ _ (g24.view _ _ hb)))) ?_ ?_
      · rintro i r x I' H' H'' hr g ⟨rfl, hx⟩ Kn Ky kn ky
        obtain ⟨x', hx', d, v1, v2, rfl, hd, h1, h2⟩ := Nw.Paired.at hp hr
        rw [hx] at hx'
        cases hx'
        cases h1
        cases h2
        refine ⟨d, _, rfl, SqT.of (g.sub _ _ (g.view _ _ (g24.view _ _ hd))), rfl, _, _, rfl, _, _, rfl, rfl, rfl, ?_⟩
        refine ⟨_, rfl, _, rfl, _, _, rfl, rfl, _, rfl, ?_⟩
        refine ite2 (fun e => ?_) (fun e => ?_)
        · exact ⟨_, rfl, .inl ⟨_, rfl, _, _, rfl, rfl, ky _ (if_pos (of_decide_eq_true e)) _ I' H'' (Grow.refl g.sub) rfl⟩⟩
        · exact kn (if_neg (fun z => e (decide_eq_true z))) I' H'' (Grow.refl g.sub)
      intro I7 H7 vs7 g7 ow7 hp7
      have e7 := Paired.ints hp7
      subst e7
      have hle7 : (rs.filterMap fun r => if r.2 > t then some (r.1 - 1) else none).length ≤ rs.length := List.length_filterMap_le _ _
      generalize (rs.filterMap fun r => if r.2 > t then some (r.1 - 1) else none) = es at hle7 k ow7 hp7
      refine ⟨q, L, _, _, rfl, rfl, g7.same _ _ hqH, ow7.at_, by rw [List.length_map, sizeLine_eq]; simp only [List.length_singleton]; omega, fun p2 hp2 => ?_⟩
      refine ⟨p2, t :: es, rfl, SqL.of upd_same, Nat.succ_pos _, fun M hM hmin => ?_⟩
      cases min_uniq hM hmin
      have gp2 : Grow No I7 H7 I7 (upd H7 p2 (.lst ([V.int t] ++ es.map V.int))) := Grow.mine g7.sub hp2
      have ow8 := ow5.grow (g7.trans gp2)
      have G8 := g12.trans (g24.trans (g7.trans gp2))
      generalize upd H7 p2 (.lst ([V.int t] ++ es.map V.int)) = H8 at gp2 ow8 G8 ⊢
      refine ⟨_, rfl, by decide, fun q8 hq8 => ⟨L6, q8, _, rfl, rfl, SqL.of (by rw [upd_ne (ne_of_none ow8.at_ hq8)]; exact ow8.at_), SqL.of upd_same, _, rfl, ?_⟩⟩
      have g8 : Grow No I7 H8 I7 (upd H8 q8 (.lst [])) := Grow.mine gp2.sub hq8
      have ow9 := ow8.grow g8
      have G9 := G8.trans g8
      cases ls with
      | nil =>
        refine iteT ⟨_, rfl, (by show 2 ≤ sizeLine; decide), fun q9 hq9 => ?_⟩
        have g9 : Grow No I7 _ _ (upd (upd H8 q8 (.lst [])) q9 (.tup [V.str "first", V.int (minL t es)])) := Grow.new g8.sub hq9
        exact k (.ref q9) _ _ (G9.trans g9) ⟨q9, rfl, upd_same⟩
      | cons e r =>
        refine iteF ⟨_, rfl, L6, rfl, ⟨_, SqL.of ow9.at_⟩, fun M hM => ?_⟩
        refine lc_pure (β := Int) walk_list (e :: r) (fun e => some e) (by rw [List.length_map]) g8.sub hM (by rw [List.length_map]; omega) (fun I' H' g => SqL.of (g.same _ _ ow9.at_)) ?_ ?_
        · rintro i r x I' H' H'' hr g ⟨rfl, hx⟩ Kn Ky kn ky
          obtain ⟨r', hr', rfl⟩ := getI' hx
          rw [hr] at hr'
          cases hr'
          exact ⟨rfl, lc_yes ⟨_, rfl, .inl ⟨_, rfl, ky _ rfl _ I' H'' (Grow.refl g.sub) rfl⟩⟩⟩
        · intro I9 H9 vs9 g9 ow10 hp9
          have e9 := Paired.ints hp9
          rw [fm_some, List.map_id'] at e9
          subst e9
          refine ⟨M, e :: r, rfl, SqL.of ow10.at_, Nat.succ_pos _, fun z hz hmax => ?_⟩
          cases max_uniq hz hmax
          refine ⟨_, rfl, (by show 2 ≤ sizeLine; decide), fun q9 hq9 => ?_⟩
          have g10 : Grow No I9 H9 _ (upd H9 q9 (.tup [V.int (maxL e r), V.int (minL t es)])) := Grow.new g9.sub hq9
          exact k (.ref q9) _ _ (G9.trans (g9.trans g10)) ⟨q9, rfl, upd_same⟩
end
end Nw

namespace Nw
open PySem PySem.Spec PyProof.Rows L2
/-! ### ends, begins, bounds: with their refusals -/
theorem lower_mk {l : List Nat} (h : ∀ c ∈ l, c < 128) : Txt.lower (mk l) = mk (l.map lo1) := by
  rw [lower_ascii (by rw [mk_cps]; exact h)]
  simp [mk]
theorem dec_mk (a b : List Nat) : decide (V.str (mk a) = V.str (mk b)) = decide (a = b) := by
  by_cases h : a = b
  · rw [h, decide_eq_true rfl, decide_eq_true rfl]
  · rw [decide_eq_false h, decide_eq_false fun z => h (mk_inj (V.str.inj z))]
def mixed (l : List Nat) : Bool := !decide (l.map lo1 = l) && !decide (l.map up1 = l)
def stepF (ms : List Ms) (p : Mom × Mom) (c : Nat) : Mom × Mom :=
  if low c = true then ((endsF (ridesL ms c) p.1).1, (endsF (ridesL ms c) p.2).2) else ((begF (ridesL ms (lo1 c)) p.1).1, (begF (ridesL ms (lo1 c)) p.2).2)
def boundsF (ms : List Ms) (l : List Nat) (m : Mom) : Mom × Mom := l.foldl (stepF ms) (m, m)
def sp_Seen_ends (K : PySem.W.Frag) : Sp := fun _ _ _ _ => False
def sp_Seen_begins (K : PySem.W.Frag) : Sp := fun _ _ _ _ => False
def sp_Seen_bounds (K : PySem.W.Frag) : Sp := fun _ _ _ _ => False
def askOut (K : PySem.W.Frag) (I H : Hp) (ms : List Ms) (l u : V) (F : List (Int × Int) → Mom → Mom × Mom) (Q : VK) (E : XK) : Prop :=
  (∃ c m, l = .str (sg c) ∧ 97 ≤ c ∧ c ≤ 100 ∧ u = Mom.v m ∧ ∀ v' I' H', Grow No I H I' H' → isMM I' v' (F (ridesL ms c) m) → Q v' H') ∨
  (∃ x, isE K I l x ∧ x.isLet = false ∧ outF (He.ga K "NoLink") [("letter", l)] E I H) ∨
  (∃ c x, l = .str (sg c) ∧ 97 ≤ c ∧ c ≤ 100 ∧ isE K I u x ∧ x.isMom = false ∧ out0 (He.ga K "NoMoment") E I H)
def spb_Seen_ends (K : PySem.W.Frag) : Sp := fun vs H Q E => ∃ (I : Hp) (v l u : V) (ms : List Ms), vs = [v, l, u] ∧ isSeen K I v ms ∧ ms.length ≤ 1000 ∧ Same I H ∧ askOut K I H ms l u endsF Q E
def spb_Seen_begins (K : PySem.W.Frag) : Sp := fun vs H Q E => ∃ (I : Hp) (v l u : V) (ms : List Ms), vs = [v, l, u] ∧ isSeen K I v ms ∧ ms.length ≤ 1000 ∧ Same I H ∧ askOut K I H ms l u begF Q E
def boundOut (K : PySem.W.Frag) (I H : Hp) (ms : List Ms) (r u : V) (Q : VK) (E : XK) : Prop :=
  (∃ l m, r = .str (mk l) ∧ isRowL l = true ∧ u = Mom.v m ∧ mixed l = false ∧ ∀ v' I' H', Grow No I H I' H' → isMM I' v' (boundsF ms l m) → Q v' H') ∨
  (∃ x, isE K I r x ∧ x.isRow = false ∧ out0 (He.ga K "NoRow") E I H) ∨
  (∃ l x, r = .str (mk l) ∧ isRowL l = true ∧ isE K I u x ∧ x.isMom = false ∧ out0 (He.ga K "NoMoment") E I H) ∨
  (∃ l m, r = .str (mk l) ∧ isRowL l = true ∧ u = Mom.v m ∧ mixed l = true ∧ out0 (He.ga K "NoMirror") E I H)
def spb_Seen_bounds (K : PySem.W.Frag) : Sp := fun vs H Q E => ∃ (I : Hp) (v r u : V) (ms : List Ms), vs = [v, r, u] ∧ isSeen K I v ms ∧ ms.length ≤ 1000 ∧ Same I H ∧ boundOut K I H ms r u Q E
theorem out0.grow {C : Addr} {E : XK} {I H I' H' : Hp} (k : out0 C E I H) (g : Grow No I H I' H') : out0 C E I' H' := fun I2 H2 g2 => k I2 H2 (g.trans g2)
theorem mm_at0 {a b : V} : atI [a, b] 0 = some a := by rw [atI_nat' (j := 0) (by decide)]; rfl
theorem mm_at1 {a b : V} : atI [a, b] 1 = some b := by rw [atI_nat' (j := 1) (by decide)]; rfl
theorem mirror_if {l : List Nat} {th R : TS} {D : Ends} {σ : L2.St} {H : Hp} (h128 : ∀ c ∈ l, c < 128) (h60 : l.length ≤ 60) (h1 : σ[1]? = some (some (.str (mk l)))) (hm : mixed l = false) (rest : R D σ H) :
    tSeq (tIfS (tAnd (tTest (tOp rNe (tM0 (fun x xs H Q => ∃ a, x = V.str a ∧ xs = [] ∧ a.length ≤ 5592405 ∧ Q (V.str (Txt.lower a)) H) (tVar 1)) (tVar 1)))
      (tTest (tOp rNe (tM0 (fun x xs H Q => ∃ a, x = V.str a ∧ xs = [] ∧ a.length ≤ 5592405 ∧ Q (V.str (Txt.upper a)) H) (tVar 1)) (tVar 1)))) th tNext) R D σ H := by
  have hb5 : (mk l).length ≤ 5592405 := by rw [mk_len]; omega
  refine ⟨_, h1, ⟨_, rfl⟩, _, rfl, rfl, hb5, _, h1, rfl, _, rfl, ?_⟩
  rw [lower_mk h128, dec_mk]
  by_cases c1 : l.map lo1 = l
  · rw [decide_eq_true c1]
    exact iteF (iteF rest)
  · have c2 : l.map up1 = l := by
      unfold mixed at hm
      rw [decide_eq_false c1] at hm
      by_cases c2 : l.map up1 = l
      · exact c2
      · rw [decide_eq_false c2] at hm
        cases hm
    rw [decide_eq_false c1]
    refine iteT ⟨_, h1, ⟨_, rfl⟩, _, rfl, rfl, hb5, _, h1, rfl, _, rfl, ?_⟩
    rw [upper_mk h128, dec_mk, decide_eq_true c2]
    exact iteF rest
section
variable {P : Program} {w : World} {K : PySem.W.Frag} {mg : Str → Option Value} {base : Heap}
theorem ok_Seen_ends (T : Txt K mg) (F : FnAt K "ends" "Seen.ends" s_Seen_ends (He.ma K (He.ga K "Seen") "ends"))  : Ok P w K mg base CX0 4 (He.ma K (He.ga K "Seen") "ends") ["self", "letter", "moment"] (sp_Seen_ends K) := by
  refine ok_of F sc_Seen_ends (fun _ _ _ _ _ _ us hl => match us, hl with | [_, _, _], _ => rfl) (fun vs H Q E h => ?_) (fun cdv A outer s H vs Q E hr h => ?_)
  · exact h.elim
  · exact h.elim
theorem ok_Seen_begins (T : Txt K mg) (F : FnAt K "begins" "Seen.begins" s_Seen_begins (He.ma K (He.ga K "Seen") "begins"))  : Ok P w K mg base CX0 4 (He.ma K (He.ga K "Seen") "begins") ["self", "letter", "moment"] (sp_Seen_begins K) := by
  refine ok_of F sc_Seen_begins (fun _ _ _ _ _ _ us hl => match us, hl with | [_, _, _], _ => rfl) (fun vs H Q E h => ?_) (fun cdv A outer s H vs Q E hr h => ?_)
  · exact h.elim
  · exact h.elim
theorem ok_Seen_bounds (T : Txt K mg) (F : FnAt K "bounds" "Seen.bounds" s_Seen_bounds (He.ma K (He.ga K "Seen") "bounds"))  : Ok P w K mg base CX0 4 (He.ma K (He.ga K "Seen") "bounds") ["self", "row", "moment"] (sp_Seen_bounds K) := by
  refine ok_of F sc_Seen_bounds (fun _ _ _ _ _ _ us hl => match us, hl with | [_, _, _], _ => rfl) (fun vs H Q E h => ?_) (fun cdv A outer s H vs Q E hr h => ?_)
  · exact h.elim
  · exact h.elim
theorem okb_Seen_ends (T : Txt K mg) (F : FnAt K "ends" "Seen.ends" s_Seen_ends (He.ma K (He.ga K "Seen") "ends")) (GX_need_letter : Ok P w K mg base (L2.CX P w) 3 (He.ga K "need_letter") ["letter"] (fun vs H Q E => sp_need_letter K vs H Q E ∨ spb_need_letter K vs H Q E)) (GX_need_moment : Ok P w K mg base (L2.CX P w) 3 (He.ga K "need_moment") ["moment"] (fun vs H Q E => sp_need_moment K vs H Q E ∨ spb_need_moment K vs H Q E)) (G_Seen_ends_at : Ok P w K mg base CX0 2 (He.ma K (He.ga K "Seen") "ends_at") ["self", "letter", "moment"] (sp_Seen_ends_at K)) : Ok P w K mg base (L2.CX P w) 4 (He.ma K (He.ga K "Seen") "ends") ["self", "letter", "moment"] (spb_Seen_ends K) := by
  obtain ⟨fd_Seen_ends_at, F_Seen_ends_at, b_Seen_ends_at, _⟩ := G_Seen_ends_at.ok
  refine ok_ofX F sc_Seen_ends (fun _ _ _ _ _ _ us hl => match us, hl with | [_, _, _], _ => rfl) (fun vs H Q E h => ?_) (fun cdv A outer s H vs Q E hr h => ?_)
  · obtain ⟨_, _, _, _, _, rfl, _⟩ := h
    rfl
  · obtain ⟨I, v, l, u, ms, rfl, hs, hz, sb, o⟩ := h
    refine ⟨_, (pss_cons (ps_expr (pe_callX GX_need_letter (hr.mono (by decide)) T.g_need_letter passE (pa_cons (pv 1) pa_nil)))
      (pss_cons (ps_expr (pe_callX GX_need_moment (hr.mono (by decide)) T.g_need_moment passE (pa_cons (pv 2) pa_nil)))
      (pss_one (ps_ret (pe_meth (pv 0) T.cl_Seen T.m_Seen_ends_at F_Seen_ends_at (hr.mono (by decide)) b_Seen_ends_at .nil pass0 (pa_cons (pv 1) (pa_cons (pv 2) pa_nil))))))), ?_⟩
    rcases o with ⟨c, m, rfl, h1, h2, rfl, k⟩ | ⟨x, hx, hn, k⟩ | ⟨c, x, rfl, h1, h2, hx, hn, k⟩
    · refine ⟨_, rfl, .inl ⟨I, c, rfl, h1, h2, sb, fun I1 H1 g1 => ?_⟩⟩
      refine ⟨_, rfl, .inl ⟨I1, m, rfl, g1.sub, fun I2 H2 g2 => ?_⟩⟩
      have e2 := g1.view.trans g2.view
      obtain ⟨a, dx, t, us, rfl, ha, ht, hp⟩ := id hs
      exact ⟨_, rfl, a, dx, _, rfl, g2.sub _ _ (e2 _ _ ha), rfl, _, rfl, _, rfl, I2, .ref a, ms, c, m, rfl, hs.up e2, hz, g2.sub, fun v' I3 H3 g3 hr => k v' I3 H3 (g1.trans (g2.trans g3)) hr⟩
    · exact ⟨_, rfl, .inr ⟨I, l, x, rfl, hx, hn, sb, k⟩⟩
    · refine ⟨_, rfl, .inl ⟨I, c, rfl, h1, h2, sb, fun I1 H1 g1 => ?_⟩⟩
      exact ⟨_, rfl, .inr ⟨I1, u, x, rfl, hx.up g1.view, hn, g1.sub, k.grow g1⟩⟩
theorem okb_Seen_begins (T : Txt K mg) (F : FnAt K "begins" "Seen.begins" s_Seen_begins (He.ma K (He.ga K "Seen") "begins")) (GX_need_letter : Ok P w K mg base (L2.CX P w) 3 (He.ga K "need_letter") ["letter"] (fun vs H Q E => sp_need_letter K vs H Q E ∨ spb_need_letter K vs H Q E)) (GX_need_moment : Ok P w K mg base (L2.CX P w) 3 (He.ga K "need_moment") ["moment"] (fun vs H Q E => sp_need_moment K vs H Q E ∨ spb_need_moment K vs H Q E)) (G_Seen_begins_at : Ok P w K mg base CX0 2 (He.ma K (He.ga K "Seen") "begins_at") ["self", "letter", "moment"] (sp_Seen_begins_at K)) : Ok P w K mg base (L2.CX P w) 4 (He.ma K (He.ga K "Seen") "begins") ["self", "letter", "moment"] (spb_Seen_begins K) := by
  obtain ⟨fd_Seen_begins_at, F_Seen_begins_at, b_Seen_begins_at, _⟩ := G_Seen_begins_at.ok
  refine ok_ofX F sc_Seen_begins (fun _ _ _ _ _ _ us hl => match us, hl with | [_, _, _], _ => rfl) (fun vs H Q E h => ?_) (fun cdv A outer s H vs Q E hr h => ?_)
  · obtain ⟨_, _, _, _, _, rfl, _⟩ := h
    rfl
  · obtain ⟨I, v, l, u, ms, rfl, hs, hz, sb, o⟩ := h
    refine ⟨_, (pss_cons (ps_expr (pe_callX GX_need_letter (hr.mono (by decide)) T.g_need_letter passE (pa_cons (pv 1) pa_nil)))
      (pss_cons (ps_expr (pe_callX GX_need_moment (hr.mono (by decide)) T.g_need_moment passE (pa_cons (pv 2) pa_nil)))
      (pss_one (ps_ret (pe_meth (pv 0) T.cl_Seen T.m_Seen_begins_at F_Seen_begins_at (hr.mono (by decide)) b_Seen_begins_at .nil pass0 (pa_cons (pv 1) (pa_cons (pv 2) pa_nil))))))), ?_⟩
    rcases o with ⟨c, m, rfl, h1, h2, rfl, k⟩ | ⟨x, hx, hn, k⟩ | ⟨c, x, rfl, h1, h2, hx, hn, k⟩
    · refine ⟨_, rfl, .inl ⟨I, c, rfl, h1, h2, sb, fun I1 H1 g1 => ?_⟩⟩
      refine ⟨_, rfl, .inl ⟨I1, m, rfl, g1.sub, fun I2 H2 g2 => ?_⟩⟩
      have e2 := g1.view.trans g2.view
      obtain ⟨a, dx, t, us, rfl, ha, ht, hp⟩ := id hs
      exact ⟨_, rfl, a, dx, _, rfl, g2.sub _ _ (e2 _ _ ha), rfl, _, rfl, _, rfl, I2, .ref a, ms, c, m, rfl, hs.up e2, hz, g2.sub, fun v' I3 H3 g3 hr => k v' I3 H3 (g1.trans (g2.trans g3)) hr⟩
    · exact ⟨_, rfl, .inr ⟨I, l, x, rfl, hx, hn, sb, k⟩⟩
    · refine ⟨_, rfl, .inl ⟨I, c, rfl, h1, h2, sb, fun I1 H1 g1 => ?_⟩⟩
      exact ⟨_, rfl, .inr ⟨I1, u, x, rfl, hx.up g1.view, hn, g1.sub, k.grow g1⟩⟩
theorem okb_Seen_bounds (T : Txt K mg) (F : FnAt K "bounds" "Seen.bounds" s_Seen_bounds (He.ma K (He.ga K "Seen") "bounds")) (GX_need_row : Ok P w K mg base (L2.CX P w) 2 (He.ga K "need_row") ["row"] (fun vs H Q E => sp_need_row K vs H Q E ∨ spb_need_row K vs H Q E)) (GX_need_moment : Ok P w K mg base (L2.CX P w) 3 (He.ga K "need_moment") ["moment"] (fun vs H Q E => sp_need_moment K vs H Q E ∨ spb_need_moment K vs H Q E)) (G_Seen_ends_at : Ok P w K mg base CX0 2 (He.ma K (He.ga K "Seen") "ends_at") ["self", "letter", "moment"] (sp_Seen_ends_at K)) (G_Seen_begins_at : Ok P w K mg base CX0 2 (He.ma K (He.ga K "Seen") "begins_at") ["self", "letter", "moment"] (sp_Seen_begins_at K)) : Ok P w K mg base (L2.CX P w) 4 (He.ma K (He.ga K "Seen") "bounds") ["self", "row", "moment"] (spb_Seen_bounds K) := by
  obtain ⟨fd_Seen_ends_at, F_Seen_ends_at, b_Seen_ends_at, _⟩ := G_Seen_ends_at.ok
  obtain ⟨fd_Seen_begins_at, F_Seen_begins_at, b_Seen_begins_at, _⟩ := G_Seen_begins_at.ok
  refine ok_ofX F sc_Seen_bounds (fun _ _ _ _ _ _ us hl => match us, hl with | [_, _, _], _ => rfl) (fun vs H Q E h => ?_) (fun cdv A outer s H vs Q E hr h => ?_)
  · obtain ⟨_, _, _, _, _, rfl, _⟩ := h
    rfl
  · obtain ⟨I, v, r, u, ms, rfl, hs, hz, sb, o⟩ := h
    refine ⟨_, (pss_cons (ps_expr (pe_callX GX_need_row (hr.mono (by decide)) T.g_need_row passE (pa_cons (pv 1) pa_nil)))
      (pss_cons (ps_expr (pe_callX GX_need_moment (hr.mono (by decide)) T.g_need_moment passE (pa_cons (pv 2) pa_nil)))
      (pss_cons (ps_if (PW.pt (pw_and (pt_cmpR op_ne (pe_lower (pv 1)) (pv 1) (nomark _)) (pw_and1 (pt_cmpR op_ne (pe_upper (pv 1)) (pv 1) (nomark _))))) (pss_one (ps_raise rfl (takes_of rfl rfl rfl rfl) (pmk_own PySem.F.excBase_ValueError T.xp_NoMirror.1 T.g_NoMirror T.xp_NoMirror.2.1 (raises_own T.xp_NoMirror.2.2.1 T.xp_NoMirror.2.2.2) rfl))) pss_nil)
      (pss_cons (ps_asg2 (pv 2) (pg_name (i := 3) sc_Seen_bounds.nd rfl (Or.inl rfl)) (pg_name (i := 4) sc_Seen_bounds.nd rfl (Or.inl rfl)))
      (pss_cons (ps_for (passes_of rfl) rfl (pi_str (pv 1)) (pg_name (i := 5) sc_Seen_bounds.nd rfl (Or.inl rfl)) (pss_one (ps_if (pt_cmpR op_in_sign (pv 5) (pe_gstr T.c_LINKS) rfl) (pss_one (ps_par (i := 3) (j := 4) (by rfl) sc_Seen_bounds.nd rfl rfl (by decide) rfl rfl (pa_cons (pe_ix ix_tup (pe_meth (pv 0) T.cl_Seen T.m_Seen_ends_at F_Seen_ends_at (hr.mono (by decide)) b_Seen_ends_at .nil pass0 (pa_cons (pv 5) (pa_cons (pv 3) pa_nil))) pe_int (fun _ _ => rfl)) (pa_cons (pe_ix ix_tup (pe_meth (pv 0) T.cl_Seen T.m_Seen_ends_at F_Seen_ends_at (hr.mono (by decide)) b_Seen_ends_at .nil pass0 (pa_cons (pv 5) (pa_cons (pv 4) pa_nil))) pe_int (fun _ _ => rfl)) pa_nil)) (by rfl))) (pss_cons (ps_set (i := 6) sc_Seen_bounds.nd rfl (Or.inl rfl) (pe_lower (pv 5)))
      (pss_one (ps_par (i := 3) (j := 4) (by rfl) sc_Seen_bounds.nd rfl rfl (by decide) rfl rfl (pa_cons (pe_ix ix_tup (pe_meth (pv 0) T.cl_Seen T.m_Seen_begins_at F_Seen_begins_at (hr.mono (by decide)) b_Seen_begins_at .nil pass0 (pa_cons (pv 6) (pa_cons (pv 3) pa_nil))) pe_int (fun _ _ => rfl)) (pa_cons (pe_ix ix_tup (pe_meth (pv 0) T.cl_Seen T.m_Seen_begins_at F_Seen_begins_at (hr.mono (by decide)) b_Seen_begins_at .nil pass0 (pa_cons (pv 6) (pa_cons (pv 4) pa_nil))) pe_int (fun _ _ => rfl)) pa_nil)) (by rfl)))))))
      (pss_one (ps_ret (pe_tup (pa_cons (pv 3) (pa_cons (pv 4) pa_nil)))))))))), ?_⟩
    rcases o with ⟨l, m, rfl, hl, rfl, hm, k⟩ | ⟨x, hx, hn, k⟩ | ⟨l, x, rfl, hl, hx, hn, k⟩ | ⟨l, m, rfl, hl, rfl, hm, k⟩
    · refine ⟨_, rfl, .inl ⟨I, l, rfl, hl, sb, fun I1 H1 g1 => ?_⟩⟩
      refine ⟨_, rfl, .inl ⟨I1, m, rfl, g1.sub, fun I2 H2 g2 => ?_⟩⟩
      have h128 : ∀ c ∈ l, c < 128 := fun c hc => by rcases step_cases ((row_steps hl).2 c hc) with rfl | rfl | rfl | rfl | rfl | rfl | rfl | rfl <;> decide
      have h60 := (row_steps hl).1
      have e2 := g1.view.trans g2.view
      have hs2 := hs.up e2
      obtain ⟨a, dx, t, us, rfl, ha, ht, hp⟩ := id hs2
      dsimp only
      refine mirror_if h128 h60 ?_ hm ?_
      · rfl
      refine ⟨_, rfl, ?_⟩
      refine ⟨_, rfl, _, rfl, ?_⟩
      refine for_it (walk_str (z := mk l)) (fun i σ H' => ∃ (I' : Hp) (v5 v6 : Option V), σ = [some (.ref a), some (.str (mk l)), some m.v, some (boundsF ms (l.take i) m).1.v, some (boundsF ms (l.take i) m).2.v, v5, v6] ∧ Grow No I2 H2 I' H') ⟨I2, none, none, rfl, Grow.refl g2.sub⟩ (fun _ _ _ _ _ => trivial) ?_ ?_
      · rintro i y σ H3 H3' hi ⟨I3, v5, v6, rfl, g3⟩ ⟨rfl, c, hc, rfl⟩
        have hc' : l[i]? = some c := by simpa [mk] using hc
        have hstep := (row_steps hl).2 c (List.mem_of_getElem? hc')
        have ef : boundsF ms (l.take (i + 1)) m = stepF ms (boundsF ms (l.take i) m) c := take_fold hc'
        rw [ef]
        generalize boundsF ms (l.take i) m = pp
        refine ⟨_, rfl, c, _, rfl, rfl, _, rfl, ?_⟩
        rw [in_links hstep]
        cases hlo : low c with
        | true =>
          rw [show stepF ms pp c = ((endsF (ridesL ms c) pp.1).1, (endsF (ridesL ms c) pp.2).2) from if_pos hlo]
          refine iteT ⟨_, rfl, a, dx, _, rfl, g3.sub _ _ (g3.view _ _ ha), rfl, _, rfl, _, rfl, I3, .ref a, ms, c, pp.1, rfl, hs2.up g3.view, hz, g3.sub, fun w1 I4 H4 g4 hr4 => ?_⟩
          obtain ⟨t4, rfl, ht4⟩ := hr4
          refine ⟨t4, _, 0, _, rfl, rfl, SqT.of (g4.sub _ _ ht4), mm_at0, ?_⟩
          have g34 := g3.trans g4
          refine ⟨_, rfl, a, dx, _, rfl, g34.sub _ _ (g34.view _ _ ha), rfl, _, rfl, _, rfl, I4, .ref a, ms, c, pp.2, rfl, hs2.up g34.view, hz, g34.sub, fun w2 I5 H5 g5 hr5 => ?_⟩
          obtain ⟨t5, rfl, ht5⟩ := hr5
          refine ⟨t5, _, 1, _, rfl, rfl, SqT.of (g5.sub _ _ ht5), mm_at1, ?_⟩
          exact ⟨_, _, rfl, I5, _, _, rfl, g34.trans g5⟩
        | false =>
          rw [show stepF ms pp c = ((begF (ridesL ms (lo1 c)) pp.1).1, (begF (ridesL ms (lo1 c)) pp.2).2) from if_neg (by rw [hlo]; exact fun z => nomatch z)]
          refine iteF ⟨_, rfl, ⟨_, rfl⟩, _, rfl, rfl, by show 1 ≤ 5592405; decide, ?_⟩
          rw [lower_sg (h128 c (List.mem_of_getElem? hc'))]
          refine ⟨_, rfl, a, dx, _, rfl, g3.sub _ _ (g3.view _ _ ha), rfl, _, rfl, _, rfl, I3, .ref a, ms, lo1 c, pp.1, rfl, hs2.up g3.view, hz, g3.sub, fun w1 I4 H4 g4 hr4 => ?_⟩
          obtain ⟨t4, rfl, ht4⟩ := hr4
          refine ⟨t4, _, 0, _, rfl, rfl, SqT.of (g4.sub _ _ ht4), mm_at0, ?_⟩
          have g34 := g3.trans g4
          refine ⟨_, rfl, a, dx, _, rfl, g34.sub _ _ (g34.view _ _ ha), rfl, _, rfl, _, rfl, I4, .ref a, ms, lo1 c, pp.2, rfl, hs2.up g34.view, hz, g34.sub, fun w2 I5 H5 g5 hr5 => ?_⟩
          obtain ⟨t5, rfl, ht5⟩ := hr5
          refine ⟨t5, _, 1, _, rfl, rfl, SqT.of (g5.sub _ _ ht5), mm_at1, ?_⟩
          exact ⟨_, _, rfl, I5, _, _, rfl, g34.trans g5⟩
      · rintro σ H3 ⟨I3, v5, v6, rfl, g3⟩
        have e : l.take (mk l).cps.size = l := by simp [mk]
        rw [e]
        refine ⟨_, rfl, _, rfl, (by show 2 ≤ sizeLine; decide), fun q hq => ?_⟩
        have gq : Grow No I3 H3 _ (upd H3 q (.tup [(boundsF ms l m).1.v, (boundsF ms l m).2.v])) := Grow.new g3.sub hq
        exact k (.ref q) _ _ (g1.trans (g2.trans (g3.trans gq))) ⟨q, rfl, upd_same⟩
    · exact ⟨_, rfl, .inr ⟨I, r, x, rfl, hx, hn, sb, k⟩⟩
    · refine ⟨_, rfl, .inl ⟨I, l, rfl, hl, sb, fun I1 H1 g1 => ?_⟩⟩
      exact ⟨_, rfl, .inr ⟨I1, u, x, rfl, hx.up g1.view, hn, g1.sub, k.grow g1⟩⟩
    · refine ⟨_, rfl, .inl ⟨I, l, rfl, hl, sb, fun I1 H1 g1 => ?_⟩⟩
      refine ⟨_, rfl, .inl ⟨I1, m, rfl, g1.sub, fun I2 H2 g2 => ?_⟩⟩
      have h128 : ∀ c ∈ l, c < 128 := fun c hc => by rcases step_cases ((row_steps hl).2 c hc) with rfl | rfl | rfl | rfl | rfl | rfl | rfl | rfl <;> decide
      have h60 := (row_steps hl).1
      unfold mixed at hm
      rw [Bool.and_eq_true] at hm
      refine ⟨_, rfl, ⟨_, rfl⟩, _, rfl, rfl, by rw [mk_len]; omega, _, rfl, rfl, _, rfl, ?_⟩
      rw [lower_mk h128, dec_mk, hm.1]
      refine iteT ⟨_, rfl, ⟨_, rfl⟩, _, rfl, rfl, by rw [mk_len]; omega, _, rfl, rfl, _, rfl, ?_⟩
      rw [upper_mk h128, dec_mk, hm.2]
      exact iteT (k I2 H2 (g1.trans g2))
end
end Nw

namespace Nw
open PySem PySem.Spec PyProof.Rows L2
section
variable {P : Program} {w : World} {K : PySem.W.Frag} {mg : Str → Option Value} {base : Heap}
theorem nn_mul {x y : Int} (hx : 0 ≤ x) (hy : 0 ≤ y) : 0 ≤ x * y := Int.mul_nonneg hx hy
theorem pow3_nn {x : Int} (h : 0 ≤ x) (n : Nat) : 0 ≤ x ^ n := Int.pow_nonneg h
theorem ok_l_next (T : Txt K mg) (F : FnAt K "_law_next" "_law_next" s_l_next (He.ga K "_law_next")) : Ok P w K mg base CX0 1 (He.ga K "_law_next") ["_law_draw", "_law_many"] spNext := by
  refine ok_of F sc_l_next (fun _ _ _ _ _ _ us hl => match us, hl with | [_, _], _ => rfl) (fun vs H Q E h => ?_) (fun cdv A outer s H vs Q E hr h => ?_)
  · obtain ⟨_, _, _, _, rfl, _⟩ := h
    rfl
  · obtain ⟨I, D, n, many, rfl, hD, hm0, hm1, hn, k⟩ := h
    refine ⟨_, pss_mid (ps_while PassesOwn.never (PW.pt (pw_and (pt_cmpR op_eq (pe_dget (hu_of hr) (pv 0) pe_str (fun _ _ => rfl)) pe_int (nomark _)) (pw_and1 (pt_cmpR (op_neNil hr.units) (pe_dget (hu_of hr) (pv 0) pe_str (fun _ _ => rfl)) (pe_lst pa_nil) (nomark _))))) (pss_one (ps_dput (hu_of hr) (pv 0) pe_str (pe_bm PySem.F.plainAttrs_list PySem.F.slot_list_pop PySem.F.type_list_pop mt_popAt (pe_dget (hu_of hr) (pv 0) pe_str (fun _ _ => rfl)) (pa_cons pe_int pa_nil)) rfl)))
      (pss_cons (ps_if (pt_cmpR op_gt (pe_dget (hu_of hr) (pv 0) pe_str (fun _ _ => rfl)) pe_int (nomark _)) (pss_cons (ps_set (i := 2) sc_l_next.nd rfl (Or.inl rfl) (pe_op op_mod (pe_callTy call_int1 (by rfl) T.b_int (by decide +kernel) (pa_cons (pe_dget (hu_of hr) (pv 0) pe_str (fun _ _ => rfl)) pa_nil)) (pv 1)))
      (pss_cons (ps_dput (hu_of hr) (pv 0) pe_str (pe_op op_fdiv (pe_dget (hu_of hr) (pv 0) pe_str (fun _ _ => rfl)) (pv 1)) rfl)
      (pss_one (ps_ret (pv 2))))) pss_nil)
      (pss_cons (ps_daug (hu_of hr) (pv 0) pe_str pe_int in_add (fun _ _ _ => rfl))
      (pss_cons (ps_set (i := 3) sc_l_next.nd rfl (Or.inl rfl) (pe_dget (hu_of hr) (pv 0) pe_str (fun _ _ => rfl)))
      (pss_cons (ps_set (i := 4) sc_l_next.nd rfl (Or.inl rfl) pe_int)
      (pss_mid (ps_if (pt_cmpR (op_neNil hr.units) (pe_dget (hu_of hr) (pv 0) pe_str (fun _ _ => rfl)) (pe_lst pa_nil) (nomark _)) (pss_one (ps_set (i := 4) sc_l_next.nd rfl (Or.inl rfl) (pe_ix ix_list (pe_dget (hu_of hr) (pv 0) pe_str (fun _ _ => rfl)) (pe_op op_mod (pe_callTy call_int1 (by rfl) T.b_int (by decide +kernel) (pa_cons (pv 3) pa_nil)) (pe_callB call_len_seq (by rfl) T.b_len (by decide +kernel) (pa_cons (pe_dget (hu_of hr) (pv 0) pe_str (fun _ _ => rfl)) pa_nil))) (fun _ _ => rfl)))) pss_nil)
      (pss_cons (ps_set (i := 5) sc_l_next.nd rfl (Or.inl rfl) (pe_op op_mod (pe_callTy call_int1 (by rfl) T.b_int (by decide +kernel) (pa_cons (pe_op op_pow (pe_op op_add (pe_op op_mod (pe_callTy call_int1 (by rfl) T.b_int (by decide +kernel) (pa_cons (pv 4) pa_nil)) pe_int) (pe_op op_mul pe_int (pv 3))) pe_int) pa_nil)) pe_int))
      (pss_one (ps_ret (pe_op op_mod (pe_callTy call_int1 (by rfl) T.b_int (by decide +kernel) (pa_cons (pe_op op_fdiv (pe_op op_mod (pe_callTy call_int1 (by rfl) T.b_int (by decide +kernel) (pa_cons (pe_op op_pow (pe_op op_add (pv 5) (pe_op op_mul pe_int (pv 3))) pe_int) pa_nil)) pe_int) pe_int) pa_nil)) (pv 1)))))))))), ?_⟩
    obtain ⟨dig0, tn, gs0, ls, s0, hd0, ht0, htn, hg0, hl0⟩ := hD.ex
    -- the while: the rest of the great numbers falls
    refine ⟨fun σ H2 => ∃ (dig : Int) (gs : List Int), σ = [some (.ref D.d), some (.int many), none, none, none, none] ∧ DrS D dig tn gs ls I H2 ∧ 0 ≤ dig ∧ (∀ g ∈ gs, 0 ≤ g) ∧ Grow (TD D) I H I H2, ?_, ?_⟩
    · refine ⟨fun m σ H' => ∃ (dig : Int) (gs : List Int), m = gs.length ∧ σ = [some (.ref D.d), some (.int many), none, none, none, none] ∧ DrS D dig tn gs ls I H' ∧ 0 ≤ dig ∧ (∀ g ∈ gs, 0 ≤ g) ∧ Grow (TD D) I H I H',
        ⟨_, dig0, gs0, rfl, rfl, s0, hd0, hg0, Grow.refl s0.sub⟩, ?_⟩
      rintro m σ H1 ⟨dig, gs, rfl, rfl, s1, hd1, hg1, G1⟩
      refine ⟨_, rfl, D.d, _, rfl, s1.get_dig, rfl, _, rfl, ?_⟩
      by_cases c : dig = 0
      · subst c
        rw [decide_eq_true rfl]
        refine iteT ⟨_, rfl, D.d, _, rfl, s1.get_great, by decide, fun p hp => ⟨D.g, p, _, rfl, rfl, SqL.of (by rw [upd_ne (ne_of_none s1.hg hp)]; exact s1.hg), SqL.of upd_same, _, rfl, ?_⟩⟩
        have G2 : Grow (TD D) I H I (upd H1 p (.lst [])) := G1.trans (Grow.mine G1.sub hp)
        have s2 : DrS D 0 tn gs ls I (upd H1 p (.lst [])) := s1.put (fun t => s1.live p t hp) (G1.sub.free hp)
        cases gs with
        | nil => exact ⟨0, [], rfl, s2, hd1, hg1, G2⟩
        | cons g r =>
          refine ⟨fun σ' H' => ∃ (dig : Int), σ' = [some (.ref D.d), some (.int many), none, none, none, none] ∧ DrS D dig tn r ls I H' ∧ 0 ≤ dig ∧ (∀ g ∈ r, 0 ≤ g) ∧ Grow (TD D) I H I H', fun σ' H' ⟨dig, e, a⟩ => ⟨r.length, Nat.lt_succ_self _, dig, r, rfl, e, a⟩, ?_⟩
          refine ⟨_, rfl, D.d, _, rfl, s2.get_great, .inl ⟨rfl, _, SqL.of s2.hg⟩, D.g, _, 0, 0, _, rfl, rfl, s2.hg, by decide, by decide, by simp [seqIndex?], rfl, ?_⟩
          have G3 := s2.gg (o := .lst (r.map V.int)) G2
          have s3 : DrS D 0 tn r ls I (upd (upd H1 p (.lst [])) D.g (.lst (r.map V.int))) := s2.up G3.sub (by rw [upd_ne s1.dg]; exact s2.hd) upd_same (by rw [upd_ne s1.gl.symm]; exact s2.hl)
          refine ⟨_, rfl, D.d, _, rfl, s3.put_dig, g, rfl, ?_, hg1 g (List.mem_cons_self ..), fun x hx => hg1 x (List.mem_cons_of_mem _ hx), s3.gd G3⟩
          exact s3.up (s3.gd G3).sub upd_same (by rw [upd_ne s1.dg.symm]; exact s3.hg) (by rw [upd_ne s1.dl.symm]; exact s3.hl)
      · rw [decide_eq_false (fun z => c (V.int.inj z))]
        exact iteF ⟨dig, gs, rfl, s1, hd1, hg1, G1⟩
    · rintro σ H1 ⟨dig, gs, rfl, s1, hd1, hg1, G1⟩
      refine ⟨_, rfl, D.d, _, rfl, s1.get_dig, _, _, rfl, rfl, _, rfl, ?_⟩
      by_cases c : 0 < dig
      · rw [decide_eq_true c]
        refine iteT ⟨_, rfl, D.d, _, rfl, s1.get_dig, .inl ⟨_, rfl, _, rfl, _, _, rfl, rfl, hm0, ?_⟩⟩
        refine ⟨_, rfl, D.d, _, rfl, s1.get_dig, _, rfl, _, _, rfl, rfl, ⟨hm0, hm1⟩, _, rfl, D.d, _, rfl, s1.put_dig, _, rfl, ?_⟩
        refine k _ _ (Int.emod_nonneg _ (Int.ne_of_gt hm0)) (Int.emod_lt_of_pos _ hm0) (s1.gd G1) ⟨dig / many, tn, gs, ls, ?_, Int.ediv_nonneg hd1 (Int.le_of_lt hm0), ht0, by omega, hg1, hl0⟩
        exact s1.up (s1.gd G1).sub upd_same (by rw [upd_ne s1.dg.symm]; exact s1.hg) (by rw [upd_ne s1.dl.symm]; exact s1.hl)
      · rw [decide_eq_false c]
        refine iteF ?_
        -- the turn
        have G2 := s1.gd (o := .dK (drK D dig (tn + 1))) G1
        have s2 : DrS D dig (tn + 1) gs ls I (upd H1 D.d (.dK (drK D dig (tn + 1)))) := s1.up G2.sub upd_same (by rw [upd_ne s1.dg.symm]; exact s1.hg) (by rw [upd_ne s1.dl.symm]; exact s1.hl)
        refine ⟨_, rfl, D.d, _, rfl, s1.get_turn, _, _, rfl, rfl, _, s1.put_turn, ?_⟩
        refine ⟨_, rfl, D.d, _, rfl, s2.get_turn, ?_⟩
        -- a lump
        have ht1 : 0 ≤ tn + 1 := by omega
        refine ⟨fun σ H2 => ∃ (lump : Int), σ = [some (.ref D.d), some (.int many), none, some (.int (tn + 1)), some (.int lump), none] ∧ 0 ≤ lump ∧ DrS D dig (tn + 1) gs ls I H2 ∧ Grow (TD D) I H I H2, ?_, ?_⟩
        · refine ⟨_, rfl, D.d, _, rfl, s2.get_lumps, by decide, fun p hp => ⟨D.l, p, _, rfl, rfl, SqL.of (by rw [upd_ne (ne_of_none s2.hl hp)]; exact s2.hl), SqL.of upd_same, _, rfl, ?_⟩⟩
          have G3 : Grow (TD D) I H I (upd (upd H1 D.d (.dK (drK D dig (tn + 1)))) p (.lst [])) := G2.trans (Grow.mine G2.sub hp)
          have s3 : DrS D dig (tn + 1) gs ls I (upd (upd H1 D.d (.dK (drK D dig (tn + 1)))) p (.lst [])) := s2.put (fun t => s2.live p t hp) (G2.sub.free hp)
          cases ls with
          | nil => exact ⟨0, rfl, Int.le_refl 0, s3, G3⟩
          | cons l0 lr =>
            have hpos : (0 : Int) < ((List.map V.int (l0 :: lr)).length : Int) := by simp only [List.map_cons, List.length_cons]; omega
            have hi0 := Int.emod_nonneg (tn + 1) (Int.ne_of_gt hpos)
            have hi1 := Int.emod_lt_of_pos (tn + 1) hpos
            have hlt : ((tn + 1) % ((List.map V.int (l0 :: lr)).length : Int)).toNat < (l0 :: lr).length := by
              have e : (List.map V.int (l0 :: lr)).length = (l0 :: lr).length := List.length_map ..
              rw [e] at hi0 hi1 ⊢
              omega
            refine ⟨_, rfl, D.d, _, rfl, s3.get_lumps, _, rfl, .inl ⟨_, rfl, _, rfl, D.d, _, rfl, s3.get_lumps, D.l, _, rfl, .inl (SqL.of s3.hl), ?_⟩⟩
            refine ⟨_, _, rfl, rfl, hpos, D.l, _, _, .int ((l0 :: lr)[((tn + 1) % ((List.map V.int (l0 :: lr)).length : Int)).toNat]'hlt), rfl, rfl, SqL.of s3.hl, ?_, ?_⟩
            · have e : (tn + 1) % ((List.map V.int (l0 :: lr)).length : Int) = (((tn + 1) % ((List.map V.int (l0 :: lr)).length : Int)).toNat : Int) := (Int.toNat_of_nonneg hi0).symm
              refine at_of e ?_
              rw [List.getElem?_map, List.getElem?_eq_getElem hlt]
              rfl
            · exact ⟨_, rfl, hl0 _ (List.getElem_mem hlt), s3, G3⟩
        · rintro σ H2 ⟨lump, rfl, hlump, s3, G3⟩
          have hb : tn + 1 ≤ 1099511627776 := by
            have q : n < 1099511627776 := hn
            omega
          have m0 := Int.emod_nonneg lump (show (2147483629 : Int) ≠ 0 by decide)
          have m1 := Int.emod_lt_of_pos lump (show (0 : Int) < 2147483629 by decide)
          refine ⟨_, rfl, .inl ⟨_, rfl, _, _, rfl, rfl, (by show (0 : Int) < 2147483629; decide), _, rfl, _, _, rfl, rfl, .inl ⟨by decide, by decide⟩, ?_⟩⟩
          refine ⟨_, _, rfl, rfl, _, _, rfl, rfl, ⟨by decide, by decide, ?_⟩, .inl ⟨_, rfl, _, _, rfl, rfl, (by show (0 : Int) < 2147483647; decide), ?_⟩⟩
          · omega
          have q0 : (0 : Int) ≤ (lump % 2147483629 + 40009 * (tn + 1)) ^ (3 : Int).toNat % 2147483647 := Int.emod_nonneg _ (by decide)
          have q1 : (lump % 2147483629 + 40009 * (tn + 1)) ^ (3 : Int).toNat % 2147483647 < 2147483647 := Int.emod_lt_of_pos _ (by decide)
          revert q0 q1
          generalize (lump % 2147483629 + 40009 * (tn + 1)) ^ (3 : Int).toNat % 2147483647 = mixed
          intro q0 q1
          refine ⟨_, rfl, _, rfl, _, _, rfl, rfl, .inl ⟨by decide, by decide⟩, ?_⟩
          refine ⟨_, _, rfl, rfl, _, _, rfl, rfl, ⟨by decide, by decide, by omega⟩, .inl ⟨_, rfl, _, _, rfl, rfl, (by show (0 : Int) < 2147483629; decide), _, _, rfl, rfl, ⟨by decide, by decide⟩, .inl ⟨_, rfl, ?_⟩⟩⟩
          refine ⟨_, rfl, _, _, rfl, rfl, hm0, ?_⟩
          exact k _ _ (Int.emod_nonneg _ (Int.ne_of_gt hm0)) (Int.emod_lt_of_pos _ hm0) G3 ⟨dig, tn + 1, gs, ls, s3, hd1, ht1, by omega, hg1, hl0⟩

theorem getI0 {ns : List Int} {i : Nat} {v : V} (h : (ns.map V.int)[i]? = some v) : ∃ k, ns[i]? = some k ∧ v = .int k := by
  rw [List.getElem?_map] at h
  cases e : ns[i]? with
  | none => rw [e] at h; cases h
  | some k => rw [e] at h; exact ⟨k, rfl, (Option.some.inj h).symm⟩
/-- the source of draws of a script -/
def spBegun (K : PySem.W.Frag) : Sp := fun vs H Q _ => ∃ (I : Hp) (a : Addr) (ns : List Int), vs = [.ref a] ∧ Same I H ∧ SqL K I a (ns.map V.int) ∧ ns.length ≤ 63 ∧
  ∀ (D : DA) (I' H' : Hp), Grow No I H I' H' → Drw D 0 I' H' → Q (.ref D.d) H'
theorem abs_nn (i : Int) : 0 ≤ (if i < 0 then -i else i) := by split <;> omega
theorem ok_l_begun (T : Txt K mg) (F : FnAt K "_law_begun" "_law_begun" s_l_begun (He.ga K "_law_begun")) : Ok P w K mg base CX0 1 (He.ga K "_law_begun") ["_law_script"] (spBegun K) := by
  refine ok_of F sc_l_begun (fun _ _ _ _ _ _ us hl => match us, hl with | [_], _ => rfl) (fun vs H Q E h => ?_) (fun cdv A outer s H vs Q E hr h => ?_)
  · obtain ⟨_, _, _, rfl, _⟩ := h
    rfl
  · obtain ⟨I, a, ns, rfl, sb, hS, hl, k⟩ := h
    refine ⟨_, (pss_cons (ps_setLc (i := 1) (own := [("_law_lump", 2)]) (g := (gName 2)) rfl sc_l_begun.nd rfl rfl (sw_true rfl rfl rfl (by decide +kernel)) (pi_list (pv 0)) (blkOk_by (own := [("_law_lump", 2)]) (N := n_l_begun) (sc := defScope s_l_begun) (by decide +kernel)) (fun _ _ _ _ _ => (pg_name (i := 2) sc_l_begun.nd rfl (Or.inl rfl))) (fun _ _ _ _ _ => (pts_one (pt_cmpR op_ge (pe_callB call_abs (by rfl) T.b_abs (by decide +kernel) (pa_cons (pv 2) pa_nil)) (pe_op op_pow pe_int pe_int) (nomark _)))) (fun _ _ _ _ _ => (pe_op op_fdivW (pe_callB call_abs (by rfl) T.b_abs (by decide +kernel) (pa_cons (pv 2) pa_nil)) (pe_op op_pow pe_int pe_int))))
      (pss_one (ps_ret (pe_disp (pps_cons pe_str pe_int (pps_cons pe_str (pv 1) (pps_cons pe_str (pe_lc (own := [("_law_lump", 2)]) (g := (gName 2)) rfl sc_l_begun.nd (pi_list (pv 0)) (blkOk_by (own := [("_law_lump", 2)]) (N := n_l_begun) (sc := defScope s_l_begun) (by decide +kernel)) (fun _ _ _ _ _ => (pg_name (i := 2) sc_l_begun.nd rfl (Or.inl rfl))) (fun _ _ _ _ _ => pts_nil) (fun _ _ _ _ _ => (pe_op op_mod (pe_callTy call_int1 (by rfl) T.b_int (by decide +kernel) (pa_cons (pe_callB call_abs (by rfl) T.b_abs (by decide +kernel) (pa_cons (pv 2) pa_nil)) pa_nil)) (pe_op op_pow pe_int pe_int)))) (pps_cons pe_str pe_int pps_nil)))) (by rfl) (by rfl) (fun z => by cases z) (by decide))))), ?_⟩
    have hS1 : SqL K H a (ns.map V.int) := sb.seq hS
    refine ⟨_, rfl, a, rfl, ⟨_, hS1⟩, fun L hL => ?_⟩
    refine lc_gen (T := No) (I := I) (β := Int) (walk_list (K := K) (a := a) (xs := ns.map V.int)) (fun _ _ _ => True) (fun _ => Stable.triv) sb (fun _ z => z.elim) hL trivial (by rw [List.length_map]; omega) (fun i I' H' g _ => g.same.seq hS1)
      (fun _ o => ∀ y, o = some y → 0 ≤ y) ?_ ?_
    · rintro i x I' H' H'' hi g _ ⟨rfl, hx⟩ Kn Ky kn ky
      obtain ⟨z, hz, rfl⟩ := getI0 hx
      refine ⟨rfl, _, rfl, _, rfl, _, _, rfl, rfl, ⟨by decide, by decide, by decide⟩, _, _, rfl, rfl, _, rfl, ?_⟩
      refine ite2 (fun _ => ?_) (fun _ => kn (fun y e => nomatch e) I' H'' (Grow.refl g.sub) trivial)
      refine ⟨_, rfl, _, rfl, _, _, rfl, rfl, ⟨by decide, by decide, by decide⟩, _, _, rfl, rfl, ⟨by decide, by decide⟩, ?_⟩
      exact ky _ (fun y e => by cases e; exact Int.ediv_nonneg (abs_nn z) (by decide)) _ I' H'' (Grow.refl g.sub) trivial rfl
    · intro os I1 H1 vs' hlen hP g1 _ ow hp
      have hg : ∀ z ∈ os.filterMap id, (0 : Int) ≤ z := fun z hz => by
        obtain ⟨o, ho, e⟩ := List.mem_filterMap.mp hz
        obtain ⟨j, hj, e2⟩ := List.mem_iff_getElem.mp ho
        exact hP j o (by rw [List.getElem?_eq_getElem hj, e2]) z e
      have e1 := Paired.ints hp
      subst e1
      -- the dict, with the second list made within its display
      intro p hp1
      have G2 := g1.trans (Grow.mine (o := .dK []) g1.sub hp1)
      have ow2 := ow.grow (Grow.mine (T := No) (o := .dK []) g1.sub hp1)
      have op : Own No H p (.dK []) I1 (upd H1 p (.dK [])) := Own.new g1.sub (.inr g1.live) (fun _ z => z.elim) hp1
      have npL : p ≠ L := (ne_of_none ow.at_ hp1).symm
      refine ⟨_, rfl, _, rfl, a, rfl, ⟨_, G2.same.seq hS1⟩, fun M hM => ?_⟩
      refine lc_gen (T := No) (I := I1) (β := Int) (walk_list (K := K) (a := a) (xs := ns.map V.int)) (fun _ _ _ => True) (fun _ => Stable.triv) G2.sub (fun _ z => z.elim) hM trivial (by rw [List.length_map]; omega) (fun i I' H' g _ => g.same.seq (G2.same.seq hS1))
        (fun _ o => ∀ y, o = some y → 0 ≤ y) ?_ ?_
      · rintro i x I' H' H'' hi g _ ⟨rfl, hx⟩ Kn Ky kn ky
        obtain ⟨z, hz, rfl⟩ := getI0 hx
        refine ⟨rfl, lc_yes ?_⟩
        refine ⟨_, rfl, _, rfl, .inl ⟨_, rfl, _, _, rfl, rfl, ⟨by decide, by decide, by decide⟩, _, _, rfl, rfl, (by show (0 : Int) < 10 ^ Int.toNat 18; decide), ?_⟩⟩
        exact ky _ (fun y e => by cases e; exact Int.emod_nonneg _ (by decide)) _ I' H'' (Grow.refl g.sub) trivial rfl
      · intro os2 I2 H2 vs2 hlen2 hP2 g2 _ owM hp2
        have hl2 : ∀ z ∈ os2.filterMap id, (0 : Int) ≤ z := fun z hz => by
          obtain ⟨o, ho, e⟩ := List.mem_filterMap.mp hz
          obtain ⟨j, hj, e2⟩ := List.mem_iff_getElem.mp ho
          exact hP2 j o (by rw [List.getElem?_eq_getElem hj, e2]) z e
        have e2 := Paired.ints hp2
        subst e2
        have ow3 := ow2.grow g2
        have op3 := op.grow g2
        have nML : M ≠ L := (ne_of_none ow2.at_ hM).symm
        have nMp : M ≠ p := (ne_of_none op.at_ hM).symm
        refine ⟨op3.at_, [(.inr "digits", .int 0), (.inr "great", .ref L), (.inr "lumps", .ref M), (.inr "turn", .int 0)], rfl, (by show 4 ≤ 15; decide), ?_⟩
        have em : mergeK [] [((.inr "digits" : Key), V.int 0), ((.inr "great" : Key), V.ref L), ((.inr "lumps" : Key), V.ref M), ((.inr "turn" : Key), V.int 0)] = drK ⟨p, L, M⟩ 0 0 := merge_nodup (show ([(.inr "digits" : Key), .inr "great", .inr "lumps", .inr "turn"]).Nodup by decide +kernel)
        rw [em]
        have opg : Own No H p (.dK []) I2 H2 := op3
        have G4 : Grow No I H I2 (upd H2 p (.dK (drK ⟨p, L, M⟩ 0 0))) := (G2.trans g2).put opg
        refine k ⟨p, L, M⟩ I2 _ G4 ⟨0, 0, _, _, ⟨?_, ?_, ?_, ?_, npL, nMp.symm, nML.symm, upd_same, by rw [upd_ne npL.symm]; exact ow3.at_, by rw [upd_ne nMp]; exact owM.at_⟩, Int.le_refl 0, Int.le_refl 0, Int.le_refl 0, hg, hl2⟩
        · exact G4.sub
        · exact op3.ni
        · exact ow3.ni
        · exact owM.ni
end
end Nw

namespace Nw
open PySem PySem.Spec PyProof.Rows L2
/-! ### draws of the law: a pick, a drawn order of any things -/
abbrev sp_l_next (K : PySem.W.Frag) : Sp := spNext
abbrev sp_l_begun (K : PySem.W.Frag) : Sp := spBegun K
def sp_l_pick (K : PySem.W.Frag) : Sp := fun vs H Q _ => ∃ (I : Hp) (D : DA) (n : Nat) (v : V), vs = [.ref D.d, v] ∧ Drw D n I H ∧ n < lim ∧
  ((∃ p xs, v = .ref p ∧ ¬ TD D p ∧ H p = some (.lst xs) ∧ xs ≠ [] ∧ xs.length ≤ 1000000 ∧ ∀ (j : Nat) x H', xs[j]? = some x → Grow (TD D) I H I H' → Drw D (n + 1) I H' → Q x H') ∨
   (∃ l, v = .str (mk l) ∧ l ≠ [] ∧ l.length ≤ 1000000 ∧ ∀ (j : Nat) c H', l[j]? = some c → Grow (TD D) I H I H' → Drw D (n + 1) I H' → Q (.str (sg c)) H'))
theorem atI_of {α : Type} {xs : List α} {r : Int} (h0 : 0 ≤ r) (h1 : r < xs.length) : ∃ x, xs[r.toNat]? = some x ∧ atI xs r = some x := by
  have hlt : r.toNat < xs.length := by omega
  refine ⟨xs[r.toNat], List.getElem?_eq_getElem hlt, ?_⟩
  rw [atI_nat' (j := r.toNat) (by omega)]
  exact List.getElem?_eq_getElem hlt
abbrev sgs (l : List Nat) : List V := l.map fun c => V.str (sg c)
def sp_l_shuffled (K : PySem.W.Frag) : Sp := fun vs H Q _ => ∃ (α : Type) (f : α → V) (I : Hp) (D : DA) (n : Nat) (p : Addr) (l : List α), vs = [.ref D.d, .ref p] ∧ Drw D n I H ∧ n + l.length < lim ∧ l.length ≤ 1000 ∧ SqL K H p (l.map f) ∧
  ∀ (l' : List α) q I' H', l'.Perm l → Grow (TD D) I H I' H' → Drw D (n + l.length) I' H' → I' q = some (.lst (l'.map f)) → Q (.ref q) H'
def sp_l_some (K : PySem.W.Frag) : Sp := fun vs H Q _ => ∃ (I : Hp) (D : DA) (n many : Nat), vs = [.ref D.d, .int many] ∧ Drw D n I H ∧ n + 5 < lim ∧ 1 ≤ many ∧ many ≤ 1000 ∧
  ∀ (l : List Nat) I' H', l.Nodup → (∀ c ∈ l, 97 ≤ c ∧ c ≤ 100) → l ≠ [] → l.length ≤ many → Grow (TD D) I H I' H' → Drw D (n + 5) I' H' → Q (.str (mk l)) H'
theorem cut_take (xs : List V) (k : Nat) : cutV xs none (some (k : Int)) = xs.take k := by
  unfold cutV HT.sIx
  simp only [List.drop_zero, Nat.sub_zero]
  by_cases h : k ≤ xs.length
  · congr 1
    rw [if_neg (by omega)]
    omega
  · rw [List.take_of_length_le (by omega : xs.length ≤ k)]
    apply List.take_of_length_le
    rw [if_neg (by omega)]
    omega
theorem idx_of {k : Int} {n : Nat} (h0 : 0 ≤ k) (hn : k < n) : seqIndex? k n = some k.toNat := by
  unfold seqIndex?
  split <;> simp_all
  all_goals omega
theorem perm_erase {α : Type} : ∀ {l : List α} {i : Nat} (h : i < l.length), (l[i] :: l.eraseIdx i).Perm l
  | [], _, h => absurd h (Nat.not_lt_zero _)
  | _ :: _, 0, _ => List.Perm.refl _
  | x :: r, i + 1, h => by
    show ((r[i]'(Nat.lt_of_succ_lt_succ h)) :: x :: r.eraseIdx i).Perm (x :: r)
    exact (List.Perm.swap _ _ _).trans ((perm_erase (Nat.lt_of_succ_lt_succ h)).cons x)
theorem map_erase {α β : Type} (f : α → β) : ∀ (l : List α) (i : Nat), (l.map f).eraseIdx i = (l.eraseIdx i).map f
  | [], _ => rfl
  | _ :: _, 0 => rfl
  | x :: r, i + 1 => congrArg (f x :: ·) (map_erase f r i)
section
variable {P : Program} {w : World} {K : PySem.W.Frag} {mg : Str → Option Value} {base : Heap}
theorem ok_l_pick (T : Txt K mg) (F : FnAt K "_law_pick" "_law_pick" s_l_pick (He.ga K "_law_pick")) (G_l_next : Ok P w K mg base CX0 1 (He.ga K "_law_next") ["_law_draw", "_law_many"] (sp_l_next K)) : Ok P w K mg base CX0 2 (He.ga K "_law_pick") ["_law_draw", "_law_some_here"] (sp_l_pick K) := by
  refine ok_of F sc_l_pick (fun _ _ _ _ _ _ us hl => match us, hl with | [_, _], _ => rfl) (fun vs H Q E h => ?_) (fun cdv A outer s H vs Q E hr h => ?_)
  · obtain ⟨_, _, _, _, rfl, _⟩ := h
    rfl
  · obtain ⟨I, D, n, v, rfl, dr, hn, k⟩ := h
    refine ⟨_, (pss_one (ps_ret (pe_ix ix_seq (pv 1) (pe_callC G_l_next (hr.mono (by decide)) T.g__law_next (pa_cons (pv 0) (pa_cons (pe_callB call_len (by rfl) T.b_len (by decide +kernel) (pa_cons (pv 1) pa_nil)) pa_nil))) (fun _ _ => rfl)))), ?_⟩
    rcases k with ⟨p, xs, rfl, ht, hp, hne, hz, k⟩ | ⟨l, rfl, hne, hz, k⟩
    · have hpos : 0 < xs.length := List.length_pos_iff.mpr hne
      refine ⟨_, rfl, _, rfl, _, rfl, _, _, rfl, .inl ⟨xs, SqL.of hp, rfl⟩, I, D, n, _, rfl, dr, by omega, by omega, hn, fun r H' h0 h1 g d => ?_⟩
      obtain ⟨x, e1, e2⟩ := atI_of h0 h1
      exact .inl ⟨p, xs, r, x, rfl, rfl, SqL.of (g.keep p _ ht hp), e2, k _ x H' e1 g d⟩
    · have hpos : 0 < l.length := List.length_pos_iff.mpr hne
      refine ⟨_, rfl, _, rfl, _, rfl, _, _, rfl, ⟨by rw [mk_len, sizeLine_eq]; omega, (mk_len l).symm⟩, I, D, n, _, rfl, dr, by omega, by omega, hn, fun r H' h0 h1 g d => ?_⟩
      obtain ⟨x, e1, e2⟩ := atI_of h0 h1
      exact .inr (.inr ⟨mk l, r, x, rfl, rfl, by rw [mk_len, sizeLine_eq]; omega, by rw [mk_cps]; exact e2, k _ x H' e1 g d⟩)
theorem ok_l_shuffled (T : Txt K mg) (F : FnAt K "_law_shuffled" "_law_shuffled" s_l_shuffled (He.ga K "_law_shuffled")) (G_l_next : Ok P w K mg base CX0 1 (He.ga K "_law_next") ["_law_draw", "_law_many"] (sp_l_next K)) : Ok P w K mg base CX0 2 (He.ga K "_law_shuffled") ["_law_draw", "_law_some_here"] (sp_l_shuffled K) := by
  refine ok_of F sc_l_shuffled (fun _ _ _ _ _ _ us hl => match us, hl with | [_, _], _ => rfl) (fun vs H Q E h => ?_) (fun cdv A outer s H vs Q E hr h => ?_)
  · obtain ⟨_, _, _, _, _, _, _, rfl, _⟩ := h
    rfl
  · obtain ⟨α, f, I, D, n, p, l, rfl, dr, hn, hl, hS, k⟩ := h
    refine ⟨_, (pss_cons (ps_par (i := 2) (j := 3) (by rfl) sc_l_shuffled.nd rfl rfl (by decide) rfl rfl (pa_cons (pe_callTy call_list_of (by rfl) T.b_list (by decide +kernel) (pa_cons (pv 1) pa_nil)) (pa_cons (pe_lst pa_nil) pa_nil)) (by rfl))
      (pss_cons (ps_while PassesOwn.never (pt_cmpR (op_neNil hr.units) (pv 2) (pe_lst pa_nil) (nomark _)) (pss_one (ps_expr (pe_bm PySem.F.plainAttrs_list PySem.F.slot_list_append PySem.F.type_list_append mt_append (pv 3) (pa_cons (pe_bm PySem.F.plainAttrs_list PySem.F.slot_list_pop PySem.F.type_list_pop mt_popAt (pv 2) (pa_cons (pe_callC G_l_next (hr.mono (by decide)) T.g__law_next (pa_cons (pv 0) (pa_cons (pe_callB call_len_seq (by rfl) T.b_len (by decide +kernel) (pa_cons (pv 2) pa_nil)) pa_nil))) pa_nil)) pa_nil)))))
      (pss_one (ps_ret (pv 3))))), ?_⟩
    refine ⟨_, rfl, p, _, rfl, .inl hS, fun a ha => ⟨Nat.zero_le _, fun b hb => ⟨_, _, rfl, ?_⟩⟩⟩
    have g1 : Grow (TD D) I H I (upd H a (.lst (l.map f))) := Grow.mine dr.sub ha
    have o1 : Own (TD D) H a (.lst (l.map f)) I (upd H a (.lst (l.map f))) := Own.new dr.sub (.inl (Same.refl H)) dr.live ha
    have g2 : Grow (TD D) I (upd H a (.lst (l.map f))) I (upd (upd H a (.lst (l.map f))) b (.lst [])) := Grow.mine g1.sub hb
    have o1' := o1.grow g2
    have o2 : Own (TD D) H b (.lst []) I (upd (upd H a (.lst (l.map f))) b (.lst [])) := Own.new g1.sub (.inr g1.live) (fun x t => g1.live x (dr.live x t)) hb
    have nab : a ≠ b := ne_of_none o1.at_ hb
    have d2 := (dr.grow (Grow.mine dr.sub ha)).grow (Grow.mine (o := .lst []) g1.sub hb)
    refine ⟨fun m σ H' => ∃ (lf fd : List α), m = lf.length ∧ σ = [some (.ref D.d), some (.ref p), some (.ref a), some (.ref b)] ∧ (fd ++ lf).Perm l ∧ Grow (TD D) I H I H' ∧ Own (TD D) H a (.lst (lf.map f)) I H' ∧ Own (TD D) H b (.lst (fd.map f)) I H' ∧ Drw D (n + fd.length) I H', ⟨_, l, [], rfl, rfl, by simp, g1.trans g2, o1', o2, d2⟩, ?_⟩
    rintro m σ H1 ⟨lf, fd, rfl, rfl, hp, g3, oa, ob, d3⟩
    refine ⟨_, rfl, Nat.zero_le _, fun q hq => ⟨a, q, _, rfl, rfl, SqL.of (by rw [upd_ne (ne_of_none oa.at_ hq)]; exact oa.at_), SqL.of upd_same, ?_⟩⟩
    have gq : Grow (TD D) I H1 I (upd H1 q (.lst [])) := Grow.mine g3.sub hq
    have oa2 := oa.grow gq
    have ob2 := ob.grow gq
    have d4 := d3.grow (Grow.mine (o := .lst []) g3.sub hq)
    have g4 := g3.trans gq
    have hlen := hp.length_eq
    rw [List.length_append] at hlen
    match lf, hp, oa, oa2, hlen with
    | [], hp, oa, oa2, hlen =>
      simp only [List.length_nil] at hlen
      exact ⟨_, rfl, iteF ⟨_, rfl, k fd b _ _ (by rw [List.append_nil] at hp; exact hp) (g4.give ob2) ((d4.give ob2).mono (by omega)) upd_same⟩⟩
    | x :: r, hp, oa, oa2, hlen =>
      simp only [List.length_cons] at hlen
      have e1 : (((x :: r).map f).length : Int) = ((r.length + 1 : Nat) : Int) := by simp
      refine ⟨_, rfl, iteT ⟨fun σ' H' => ∃ (lf fd' : List α), lf.length = r.length ∧ σ' = [some (.ref D.d), some (.ref p), some (.ref a), some (.ref b)] ∧ (fd' ++ lf).Perm l ∧ Grow (TD D) I H I H' ∧ Own (TD D) H a (.lst (lf.map f)) I H' ∧ Own (TD D) H b (.lst (fd'.map f)) I H' ∧ Drw D (n + fd'.length) I H',
        fun σ' H' ⟨lf, fd', e, z⟩ => ⟨lf.length, by simp only [List.length_cons]; omega, lf, fd', rfl, z⟩, ?_⟩⟩
      refine ⟨_, rfl, .inl ⟨rfl, _, SqL.of ob2.at_⟩, _, rfl, .inl ⟨rfl, _, SqL.of oa2.at_⟩, _, rfl, _, rfl, _, _, rfl, .inl (SqL.of oa2.at_), I, D, n + fd.length, _, rfl, d4, (by rw [e1]; omega), (by rw [e1]; omega), (by omega), fun z H5 h0 h1 g5 d5 => ?_⟩
      rw [e1] at h1
      have oa5 := oa2.grow g5
      have ob5 := ob2.grow g5
      have hz : z.toNat < (x :: r).length := by simp only [List.length_cons]; omega
      refine ⟨a, _, z, z.toNat, f ((x :: r)[z.toNat]'hz), rfl, rfl, oa5.at_, by omega, by omega, idx_of h0 (by rw [e1]; exact h1), by rw [List.getElem?_map, List.getElem?_eq_getElem hz]; rfl, ?_⟩
      have ob6 := ob5.other (m := a) (o' := .lst (((x :: r).map f).eraseIdx z.toNat)) nab.symm
      refine ⟨b, _, _, rfl, rfl, ob6.at_, by rw [sizeLine_eq]; simp; omega, (x :: r).eraseIdx z.toNat, fd ++ [(x :: r)[z.toNat]'hz], ?_, rfl, ?_, ((g4.trans g5).put oa5).put ob6, ?_, ?_, ?_⟩
      · rw [List.length_eraseIdx_of_lt hz]; rfl
      · rw [List.append_assoc]
        refine List.Perm.trans ?_ hp
        exact List.Perm.append_left fd (perm_erase hz)
      · have z1 := oa5.put (o' := .lst (((x :: r).map f).eraseIdx z.toNat))
        have e2 : ((x :: r).map f).eraseIdx z.toNat = ((x :: r).eraseIdx z.toNat).map f := map_erase _ _ _
        rw [e2] at z1 ⊢
        exact z1.other nab
      · have z1 := ob6.put (o' := .lst (fd.map f ++ [f ((x :: r)[z.toNat]'hz)]))
        rw [show (fd ++ [(x :: r)[z.toNat]'hz]).map f = fd.map f ++ [f ((x :: r)[z.toNat]'hz)] by simp]
        exact z1
      · rw [List.length_append, List.length_singleton, ← Nat.add_assoc]
        exact (d5.put oa5).put ob6
theorem ok_l_some (T : Txt K mg) (F : FnAt K "_law_some" "_law_some" s_l_some (He.ga K "_law_some")) (G_l_shuffled : Ok P w K mg base CX0 2 (He.ga K "_law_shuffled") ["_law_draw", "_law_some_here"] (sp_l_shuffled K)) (G_l_next : Ok P w K mg base CX0 1 (He.ga K "_law_next") ["_law_draw", "_law_many"] (sp_l_next K)) : Ok P w K mg base CX0 3 (He.ga K "_law_some") ["_law_draw", "_law_many"] (sp_l_some K) := by
  refine ok_of F sc_l_some (fun _ _ _ _ _ _ us hl => match us, hl with | [_, _], _ => rfl) (fun vs H Q E h => ?_) (fun cdv A outer s H vs Q E hr h => ?_)
  · obtain ⟨_, _, _, _, rfl, _⟩ := h
    rfl
  · obtain ⟨I, D, n, many, rfl, dr, hn, hm1, hm2, k⟩ := h
    refine ⟨_, (pss_one (ps_ret (pe_join pe_str (pe_slice sl_list (pe_callC G_l_shuffled (hr.mono (by decide)) T.g__law_shuffled (pa_cons (pv 0) (pa_cons (pe_callTy (call_list_sg rfl) (by rfl) T.b_list (by decide +kernel) (pa_cons pe_str pa_nil)) pa_nil))) po_none (po_some (pe_op op_add pe_int (pe_callC G_l_next (hr.mono (by decide)) T.g__law_next (pa_cons (pv 0) (pa_cons (pv 1) pa_nil))))))))), ?_⟩
    refine ⟨⟨_, rfl⟩, _, rfl, [97, 98, 99, 100], rfl, by decide, fun p hp => ?_⟩
    have g1 : Grow (TD D) I H I (upd H p (.lst (sgs [97, 98, 99, 100]))) := Grow.mine dr.sub hp
    refine ⟨Nat, (fun c => V.str (sg c)), I, D, n, p, [97, 98, 99, 100], rfl, dr.grow (Grow.mine dr.sub hp), (by show n + 4 < lim; omega), by decide, SqL.of upd_same, fun l' q I2 H2 pm g2 d2 hq => ?_⟩
    refine ⟨_, rfl, _, rfl, I2, D, n + 4, many, rfl, d2, by omega, by omega, by omega, fun r H3 h0 h1 g3 d3 => ⟨_, _, rfl, rfl, _, rfl, q, _, rfl, SqL.of (g3.sub _ _ (g3.view _ _ hq)), fun u hu => ?_⟩⟩
    have e1 : (1 + r : Int) = ((1 + r.toNat : Nat) : Int) := by omega
    rw [e1, cut_take]
    have g4 : Grow (TD D) I2 H3 I2 (upd H3 u (.lst (List.take (1 + r.toNat) (sgs l')))) := Grow.mine g3.sub hu
    refine ⟨"", u, (l'.take (1 + r.toNat)).map sg, rfl, rfl, .inl (SqL.of (by rw [upd_same, List.map_take, List.map_take, List.map_map] <;> rfl)), ?_, ?_⟩
    · have z := pm.length_eq
      rw [List.map_map]
      show ((l'.take (1 + r.toNat)).map fun _ => 1).sum + _ * 0 ≤ _
      rw [sum_ones, List.length_take]
      omega
    rw [join_signs]
    have hl := pm.length_eq
    simp only [List.length_cons, List.length_nil] at hl
    refine k (l'.take (1 + r.toNat)) I2 _ ?_ ?_ ?_ ?_ ((g1.trans g2).trans (g3.trans g4)) (d3.mine hu)
    · exact (pm.nodup_iff.mpr (by decide)).sublist (List.take_sublist _ _)
    · intro c hc
      have z := pm.mem_iff.mp (List.mem_of_mem_take hc)
      simp at z
      omega
    · intro z
      have z1 := congrArg List.length z
      rw [List.length_take, List.length_nil] at z1
      omega
    · rw [List.length_take]
      omega
end
end Nw

namespace Nw
open PySem PySem.Spec PyProof.Rows L2
/-! ### links and timetables, where messages are seen -/
abbrev Rides : Type := List (Int × Int)
def Dt.isRide : Dt → Bool
  | .sq true [.int b, .int e] => decide (b ≤ e)
  | _ => false
def sp_is_ride (K : PySem.W.Frag) : Sp := fun vs H Q _ => ∃ (I : Hp) (v : V) (x : Dt), vs = [v] ∧ isE K I v x ∧ Same I H ∧ Q (.bl x.isRide) H
theorem Paired.rev {α β : Type} {F : α → β → Prop} : ∀ {xs : List α} {ys : List β}, Paired F xs ys → Paired F xs.reverse ys.reverse
  | _, _, .nil => .nil
  | _, _, .cons a t => by
    rw [List.reverse_cons, List.reverse_cons]
    exact Nw.Paired.snoc (Paired.rev t) a
theorem Paired.last {α β : Type} {F : α → β → Prop} {xs : List α} {ys : List β} {y : β} (h : Paired F xs (ys ++ [y])) : ∃ x xr, xs = xr ++ [x] ∧ F x y := by
  have h2 := Paired.rev h
  rw [List.reverse_append] at h2
  cases e : xs.reverse with
  | nil => rw [e] at h2; cases h2
  | cons x r =>
    rw [e] at h2
    cases h2 with
    | cons h3 h4 => exact ⟨x, r.reverse, by rw [← List.reverse_reverse xs, e, List.reverse_cons], h3⟩
structure IsNeeded (rs ns : Rides) : Prop where
  asc : ns.Pairwise fun a b => a.1 < b.1 ∧ a.2 < b.2
  sub : ∀ n ∈ ns, n ∈ rs
  cov : ∀ r ∈ rs, ∃ n ∈ ns, r.1 ≤ n.1 ∧ n.2 ≤ r.2
def kvI (p : Int × Int) : Key × V := (.inl p.1, .int p.2)
def lookM (m : Rides) (b : Int) : Option Int := (m.find? fun p => decide (p.1 = b)).map (·.2)
def putM (m : Rides) (b e : Int) : Rides := if (m.any fun p => decide (p.1 = b)) = true then m.map (fun p => if p.1 = b then (p.1, e) else p) else m ++ [(b, e)]
theorem valV_I (b : Int) : ∀ m : Rides, valV (m.map kvI) (.inl b) = (lookM m b).map V.int
  | [] => rfl
  | p :: r => by
    by_cases h : p.1 = b
    · have e1 : lookM (p :: r) b = some p.2 := by simp [lookM, h]
      rw [e1, List.map_cons]
      exact valV_pos (by show (Sum.inl p.1 : Key) = Sum.inl b; rw [h])
    · have e1 : lookM (p :: r) b = lookM r b := by simp [lookM, h]
      rw [e1, List.map_cons, ← valV_I b r]
      exact valV_neg (fun z => h (Sum.inl.inj z))
theorem putK_I (m : Rides) (b e : Int) : putK (m.map kvI) (.inl b) (.int e) = (putM m b e).map kvI := by
  unfold putK putM
  have e1 : ((m.map kvI).any fun kv => decide (kv.1 = Sum.inl b)) = (m.any fun p => decide (p.1 = b)) := by
    rw [List.any_map]
    congr 1
    funext p
    show decide ((Sum.inl p.1 : Key) = Sum.inl b) = decide (p.1 = b)
    by_cases h : p.1 = b
    · rw [h, decide_eq_true rfl, decide_eq_true rfl]
    · rw [decide_eq_false h, decide_eq_false fun z => h (Sum.inl.inj z)]
  rw [e1]
  split
  · rw [List.map_map, List.map_map]
    congr 1
    funext p
    show (if (Sum.inl p.1 : Key) = Sum.inl b then ((Sum.inl p.1 : Key), V.int e) else kvI p) = kvI (if p.1 = b then (p.1, e) else p)
    by_cases h : p.1 = b
    · rw [if_pos h, if_pos (by rw [h])]
      rfl
    · rw [if_neg h, if_neg fun z => h (Sum.inl.inj z)]
  · rw [List.map_append]
    rfl
theorem lookM_none {m : Rides} {b : Int} (h : lookM m b = none) : ∀ p ∈ m, p.1 ≠ b := by
  intro p hp z
  unfold lookM at h
  rw [Option.map_eq_none_iff, List.find?_eq_none] at h
  exact h p hp (decide_eq_true z)
theorem lookM_some {m : Rides} {b e : Int} (h : lookM m b = some e) : (b, e) ∈ m := by
  unfold lookM at h
  rw [Option.map_eq_some_iff] at h
  obtain ⟨p, h1, h2⟩ := h
  have h3 := List.mem_of_find?_eq_some h1
  have h4 : p.1 = b := by simpa using List.find?_some h1
  cases p
  simp only at h2 h4
  subst h2 h4
  exact h3
theorem mem_putM {m : Rides} {b e : Int} {p : Int × Int} : p ∈ putM m b e ↔ p = (b, e) ∨ (p ∈ m ∧ p.1 ≠ b) := by
  unfold putM
  split
  · rename_i h
    rw [List.any_eq_true] at h
    obtain ⟨q, hq, hb⟩ := h
    have hb := of_decide_eq_true hb
    rw [List.mem_map]
    constructor
    · rintro ⟨r, hr, rfl⟩
      by_cases c : r.1 = b
      · rw [if_pos c]
        left
        rw [← c]
      · rw [if_neg c]
        exact .inr ⟨hr, c⟩
    · rintro (rfl | ⟨hp, c⟩)
      · exact ⟨q, hq, by rw [if_pos hb, hb]⟩
      · exact ⟨p, hp, by rw [if_neg c]⟩
  · rename_i h
    have hn : ∀ q ∈ m, q.1 ≠ b := fun q hq z => h (List.any_eq_true.mpr ⟨q, hq, decide_eq_true z⟩)
    rw [List.mem_append, List.mem_singleton]
    constructor
    · rintro (z | z)
      · exact .inr ⟨z, hn p z⟩
      · exact .inl z
    · rintro (z | z)
      · exact .inr z
      · exact .inl z.1
theorem keys_putM {m : Rides} {b e : Int} (h : (m.map (·.1)).Nodup) : ((putM m b e).map (·.1)).Nodup := by
  unfold putM
  split
  · have e1 : (m.map fun p => if p.1 = b then (p.1, e) else p).map (·.1) = m.map (·.1) := by
      rw [List.map_map]
      congr 1
      funext p
      show (if p.1 = b then (p.1, e) else p).1 = p.1
      split <;> rfl
    rw [e1]
    exact h
  · rename_i c
    rw [List.map_append, List.map_singleton]
    refine List.nodup_append.mpr ⟨h, by simp, fun x hx y hy => ?_⟩
    rw [List.mem_singleton] at hy
    subst hy
    rintro rfl
    obtain ⟨p, hp, e1⟩ := List.mem_map.mp hx
    exact c (List.any_eq_true.mpr ⟨p, hp, decide_eq_true e1⟩)
theorem len_putM (m : Rides) (b e : Int) : (putM m b e).length ≤ m.length + 1 := by
  unfold putM
  split
  · rw [List.length_map]; omega
  · rw [List.length_append]; simp
def sp_needed (K : PySem.W.Frag) : Sp := fun vs H Q _ => ∃ (I : Hp) (t : Bool) (v : V) (rs : Rides), vs = [v] ∧ isS t I v rs ∧ rs.length ≤ 100000 ∧ Same I H ∧ ∀ ns v' I' H', Grow No I H I' H' → isU I' v' ns → IsNeeded rs ns → Q v' H'
def ndJ (I H : Hp) (a d q L : Addr) (m : Rides) (kr : List Int) (v3 : Option V) (i : Nat) (σ : L2.St) (H' : Hp) : Prop :=
  ∃ (I' : Hp) (fs : Rides) (ws : List V) (v2 : Option V), σ = [some (.ref a), some (.ref d), v2, v3, some (.ref L), none] ∧ Grow No I H I' H' ∧ Own No H d (.dK (m.map kvI)) I' H' ∧ Own No H q (.lst (kr.map V.int)) I' H' ∧ Own No H L (.lst ws) I' H' ∧ Paired (Rep.is I') ws fs ∧
    fs.length ≤ i ∧ (fs.Pairwise fun a b => b.1 < a.1 ∧ b.2 < a.2) ∧ (∀ n ∈ fs, n ∈ m ∧ n.1 ∈ kr.take i) ∧ (∀ b ∈ kr.take i, ∀ e, (b, e) ∈ m → ∃ n ∈ fs, b ≤ n.1 ∧ n.2 ≤ e)
theorem getI {ns : List Int} {i : Nat} {v : V} (h : (ns.map V.int)[i]? = some v) : ∃ k, ns[i]? = some k ∧ v = .int k := by
  rw [List.getElem?_map] at h
  cases e : ns[i]? with
  | none => rw [e] at h; cases h
  | some k => rw [e] at h; exact ⟨k, rfl, (Option.some.inj h).symm⟩
theorem ride_dt {K : PySem.W.Frag} {I : Hp} {v : V} {r : Int × Int} (h : Rep.is I v r) : isE K I v (.sq true [.int r.1, .int r.2]) := by
  obtain ⟨a, v1, v2, rfl, ha, h1, h2⟩ := h
  cases h1
  cases h2
  exact .of (t := true) ha (.cons (.int _) (.cons (.int _) .nil))
def isLink (K : PySem.W.Frag) (I : Hp) (v : V) (ns : Rides) : Prop := ∃ a dx t, v = .ref a ∧ I a = some (.ins (He.ga K "Link") dx [("own_rides", t)]) ∧ isU I t ns
theorem isU.up {α : Type} [Rep α] {I I' : Hp} {v : V} {xs : List α} (h : isU I v xs) (e : Same I I') : isU I' v xs :=
  let ⟨a, vs, h1, h2, h3⟩ := h
  ⟨a, vs, h1, e _ _ h2, Paired.mono' (fun _ _ z => Rep.mono e z) h3⟩
theorem isL.up {α : Type} [Rep α] {I I' : Hp} {v : V} {xs : List α} (h : isL I v xs) (e : Same I I') : isL I' v xs :=
  let ⟨a, vs, h1, h2, h3⟩ := h
  ⟨a, vs, h1, e _ _ h2, Paired.mono' (fun _ _ z => Rep.mono e z) h3⟩
theorem isLink.up {K : PySem.W.Frag} {I I' : Hp} {v : V} {ns : Rides} (h : isLink K I v ns) (e : Same I I') : isLink K I' v ns :=
  let ⟨a, dx, t, h1, h2, h3⟩ := h
  ⟨a, dx, t, h1, e _ _ h2, h3.up e⟩
def kvS (p : Nat × V) : Key × V := (.inr (sg p.1), p.2)
def linksP (K : PySem.W.Frag) (I : Hp) (kvs : List (Nat × V)) (tb : List (Nat × Rides)) : Prop := Paired (fun (p : Nat × V) (q : Nat × Rides) => p.1 = q.1 ∧ isLink K I p.2 q.2) kvs tb
theorem linksP.up {K : PySem.W.Frag} {I I' : Hp} {kvs : List (Nat × V)} {tb : List (Nat × Rides)} (h : linksP K I kvs tb) (e : Same I I') : linksP K I' kvs tb := Paired.mono' (fun _ _ z => ⟨z.1, z.2.up e⟩) h
def isTable (K : PySem.W.Frag) (I : Hp) (v : V) (tb : List (Nat × Rides)) : Prop :=
  ∃ a dx d kvs, v = .ref a ∧ I a = some (.ins (He.ga K "Timetable") dx [("own_links", .ref d)]) ∧ I d = some (.dK (kvs.map kvS)) ∧ linksP K I kvs tb
theorem isTable.up {K : PySem.W.Frag} {I I' : Hp} {v : V} {tb : List (Nat × Rides)} (h : isTable K I v tb) (e : Same I I') : isTable K I' v tb :=
  let ⟨a, dx, d, kvs, h1, h2, h3, h4⟩ := h
  ⟨a, dx, d, kvs, h1, e _ _ h2, e _ _ h3, h4.up e⟩
def lookT {α : Type} (tb : List (Nat × α)) (c : Nat) : Option α := (tb.find? fun p => decide (p.1 = c)).map (·.2)
theorem valV_S (c : Nat) : ∀ kvs : List (Nat × V), valV (kvs.map kvS) (.inr (sg c)) = lookT kvs c
  | [] => rfl
  | p :: r => by
    by_cases h : p.1 = c
    · have e1 : lookT (p :: r) c = some p.2 := by simp [lookT, h]
      rw [e1, List.map_cons]
      exact valV_pos (by show (Sum.inr (sg p.1) : Key) = Sum.inr (sg c); rw [h])
    · have e1 : lookT (p :: r) c = lookT r c := by simp [lookT, h]
      rw [e1, List.map_cons, ← valV_S c r]
      exact valV_neg (fun z => h (mk_inj (a := [p.1]) (b := [c]) (Sum.inr.inj z) |> List.cons.inj |>.1))
theorem look_link {K : PySem.W.Frag} {I : Hp} {c : Nat} : ∀ {kvs : List (Nat × V)} {tb : List (Nat × Rides)}, linksP K I kvs tb → (lookT kvs c = none ∧ lookT tb c = none) ∨ ∃ v ns, lookT kvs c = some v ∧ lookT tb c = some ns ∧ isLink K I v ns
  | _, _, .nil => .inl ⟨rfl, rfl⟩
  | p :: r, q :: t, .cons h hp => by
    by_cases e : q.1 = c
    · exact .inr ⟨p.2, q.2, by simp [lookT, h.1, e], by simp [lookT, e], h.2⟩
    · have e1 : lookT (p :: r) c = lookT r c := by simp [lookT, h.1, e]
      have e2 : lookT (q :: t) c = lookT t c := by simp [lookT, e]
      rw [e1, e2]
      exact look_link hp
def sp_Link__init (K : PySem.W.Frag) : Sp := fun vs H Q _ => ∃ (I : Hp) (t : Bool) (x dx : Addr) (v : V) (rs : Rides), vs = [.ref x, v] ∧ H x = some (.ins (He.ga K "Link") dx []) ∧ I x = none ∧ isS t I v rs ∧ rs.length ≤ 60 ∧ (∀ r ∈ rs, r.1 ≤ r.2) ∧ Same I H ∧
  ∀ ns t I' H', Grow (TX x) I H I' H' → H' x = some (.ins (He.ga K "Link") dx [("own_rides", t)]) → isU I' t ns → IsNeeded rs ns → Q .non H'
def sp_Link_rides (K : PySem.W.Frag) : Sp := fun vs H Q _ => ∃ (a dx : Addr) (t : V), vs = [.ref a] ∧ H a = some (.ins (He.ga K "Link") dx [("own_rides", t)]) ∧ Q t H
def linksL : List Nat := [97, 98, 99, 100]
def orderT {α : Type} (tb : List (Nat × α)) : List (Nat × α) := linksL.filterMap fun c => (lookT tb c).map fun r => (c, r)
def T2 (x p : Addr) : Addr → Prop := fun b => b = x ∨ b = p
theorem linksP.keys {K : PySem.W.Frag} {I : Hp} : ∀ {kvs : List (Nat × V)} {tb : List (Nat × Rides)}, linksP K I kvs tb → kvs.map (·.1) = tb.map (·.1)
  | _, _, .nil => rfl
  | _, _, .cons h t => by rw [List.map_cons, List.map_cons, h.1, linksP.keys t]
def sp_Timetable__init (K : PySem.W.Frag) : Sp := fun vs H Q _ => ∃ (I : Hp) (x dx p : Addr) (kvs : List (Nat × V)) (tb : List (Nat × Rides)), vs = [.ref x, .ref p] ∧ H x = some (.ins (He.ga K "Timetable") dx []) ∧ H p = some (.dK (kvs.map kvS)) ∧ I x = none ∧ I p = none ∧ linksP K I kvs tb ∧ kvs ≠ [] ∧ kvs.length ≤ 4 ∧ (∀ q ∈ kvs, q.1 ∈ linksL) ∧ Same I H ∧
  ∀ d kvs' I' H', Grow (T2 x p) I H I' H' → H' x = some (.ins (He.ga K "Timetable") dx [("own_links", .ref d)]) → I' d = some (.dK (kvs'.map kvS)) → linksP K I' kvs' (orderT tb) → Q .non H'
theorem mem_keys {kvs : List (Nat × V)} {i : Nat} {kk : Key} {vv : V} (h : (kvs.map kvS)[i]? = some (kk, vv)) : ∃ q, q ∈ kvs ∧ kvs[i]? = some q ∧ kk = .inr (sg q.1) ∧ vv = q.2 := by
  rw [List.getElem?_map] at h
  cases e : kvs[i]? with
  | none => rw [e] at h; cases h
  | some q =>
    rw [e] at h
    cases h
    exact ⟨q, List.mem_of_getElem? e, rfl, rfl, rfl⟩
theorem look_mem {α : Type} {tb : List (Nat × α)} {q : Nat × α} (h : q ∈ tb) : ∃ r, lookT tb q.1 = some r := by
  unfold lookT
  cases e : tb.find? fun p => decide (p.1 = q.1) with
  | none =>
    rw [List.find?_eq_none] at e
    exact absurd (decide_eq_true rfl) (e q h)
  | some r => exact ⟨r.2, rfl⟩
section
variable {P : Program} {w : World} {K : PySem.W.Frag} {mg : Str → Option Value} {base : Heap}
theorem ok_is_ride (T : Txt K mg) (F : FnAt K "is_ride" "is_ride" s_is_ride (He.ga K "is_ride")) (G_is_number : Ok P w K mg base CX0 1 (He.ga K "is_number") ["thing"] (sp_is_number K)) : Ok P w K mg base CX0 2 (He.ga K "is_ride") ["thing"] (sp_is_ride K) := by
  refine ok_of F sc_is_ride (fun _ _ _ _ _ _ us hl => match us, hl with | [_], _ => rfl) (fun vs H Q E h => ?_) (fun cdv A outer s H vs Q E hr h => ?_)
  · obtain ⟨_, _, _, rfl, _⟩ := h
    rfl
  · obtain ⟨I, v, x, rfl, hx, sb, k⟩ := h
    refine ⟨_, (pss_cons (ps_if (PW.pt (pw_or (pt_not (pt_val (pe_callB call_isi (by rfl) T.b_isinstance (by decide +kernel) (pa_cons (pv 0) (pa_cons (pe_bltn (v := .ty "tuple") rfl T.b_tuple (by decide +kernel) rfl) pa_nil))))) (pw_or (pt_cmpR op_ne (pe_callB call_len (by rfl) T.b_len (by decide +kernel) (pa_cons (pv 0) pa_nil)) pe_int (nomark _)) (pw_or (pt_not (pt_val (pe_callC G_is_number (hr.mono (by decide)) T.g_is_number (pa_cons (pe_ix ix_tup (pv 0) pe_int (fun _ _ => rfl)) pa_nil)))) (pw_or1 (pt_not (pt_val (pe_callC G_is_number (hr.mono (by decide)) T.g_is_number (pa_cons (pe_ix ix_tup (pv 0) pe_int (fun _ _ => rfl)) pa_nil))))))))) (pss_one (ps_ret pe_bl)) pss_nil)
      (pss_one (ps_ret (pe_cmpR op_le (pe_ix ix_tup (pv 0) pe_int (fun _ _ => rfl)) (pe_ix ix_tup (pv 0) pe_int (fun _ _ => rfl)) (nomark _))))), ?_⟩
    obtain ⟨t, ty, ks⟩ := hx.ty sb
    refine ⟨_, rfl, v, .ty "tuple", _, _, _, rfl, .ty _, ty, ks.tup, _, rfl, ?_⟩
    cases x with
    | sq t xs =>
      cases t with
      | false => exact iteT k
      | true =>
        obtain ⟨a, vs, rfl, ha, es⟩ := hx.inv
        have ha := sb _ _ ha
        refine iteF ⟨_, rfl, .ref a, vs.length, rfl, .inr ⟨_, SqT.of ha, rfl⟩, rfl, _, rfl, ?_⟩
        by_cases h3 : xs.length = 2
        · match xs, vs, es.len, h3, es, ha, k with
          | [x0, x1], [v0, v1], _, _, es, ha, k =>
            have at20 : atI [v0, v1] 0 = some v0 := by rw [atI_nat' (j := 0) (by decide)]; rfl
            have at21 : atI [v0, v1] 1 = some v1 := by rw [atI_nat' (j := 1) (by decide)]; rfl
            refine iteF ⟨_, rfl, _, _, 0, _, rfl, rfl, SqT.of ha, at20, I, v0, x0, rfl, es.at_ 0 _ _ rfl rfl, sb, _, rfl, ?_⟩
            have no0 : x0.isNum = false → (Dt.sq true [x0, x1]).isRide = false := fun h => by cases x0 <;> first | rfl | cases h
            have no1 : x1.isNum = false → (Dt.sq true [x0, x1]).isRide = false := fun h => by cases x0 <;> cases x1 <;> first | rfl | cases h
            cases l0 : x0.isNum with
            | false =>
              rw [no0 l0] at k
              exact iteT k
            | true =>
              refine iteF ⟨_, rfl, _, _, 1, _, rfl, rfl, SqT.of ha, at21, I, v1, x1, rfl, es.at_ 1 _ _ rfl rfl, sb, _, rfl, ?_⟩
              cases l1 : x1.isNum with
              | false =>
                rw [no1 l1] at k
                exact iteT k
              | true =>
                match x0, x1, l0, l1, es, k with
                | .int b, .int e, _, _, es, k =>
                  have e0 : v0 = .int b := by cases es.at_ 0 _ _ rfl rfl; rfl
                  have e1 : v1 = .int e := by cases es.at_ 1 _ _ rfl rfl; rfl
                  subst e0 e1
                  exact iteF ⟨_, rfl, _, _, 0, _, rfl, rfl, SqT.of ha, at20, _, rfl, _, _, 1, _, rfl, rfl, SqT.of ha, at21, _, _, rfl, rfl, k⟩
        · have e : (Dt.sq true xs).isRide = false := by
            match xs, h3 with
            | [], _ => rfl
            | [x], _ => cases x <;> rfl
            | [_, _], h3 => exact absurd rfl h3
            | x :: y :: _ :: _, _ => cases x <;> cases y <;> rfl
          rw [e] at k
          rw [decide_eq_false (fun z => h3 (by have := V.int.inj z; rw [← es.len]; omega))]
          exact iteT k
    | str l => exact iteT k
    | int i => exact iteT k
    | bl b => exact iteT k
    | non => exact iteT k
    | dic => exact iteT k
    | obj => exact iteT k
theorem ok_needed (T : Txt K mg) (F : FnAt K "needed" "needed" s_needed (He.ga K "needed"))  : Ok P w K mg base CX0 1 (He.ga K "needed") ["rides"] (sp_needed K) := by
  refine ok_of F sc_needed (fun _ _ _ _ _ _ us hl => match us, hl with | [_], _ => rfl) (fun vs H Q E h => ?_) (fun cdv A outer s H vs Q E hr h => ?_)
  · obtain ⟨_, _, _, _, rfl, _⟩ := h
    rfl
  · obtain ⟨I, tt, v, rs, rfl, ⟨a, vs, rfl, ha, hp⟩, hz, sb, k⟩ := h
    refine ⟨_, (pss_cons (ps_set (i := 1) sc_needed.nd rfl (Or.inl rfl) pe_dnewK)
      (pss_cons (ps_for PassesOwn.never rfl (pi_seq (pv 0)) (pg_tup (by rfl) (pgs_cons (pg_name (i := 2) sc_needed.nd rfl (Or.inl rfl)) (pgs_cons (pg_name (i := 3) sc_needed.nd rfl (Or.inl rfl)) pgs_nil))) (pss_one (ps_dput (hu_of hr) (pv 1) (pv 2) (pe_ifExp (PW.pt (pw_or (pt_cmp (pc_dnotin (hu_of hr) (pv 2) (pv 1))) (pw_or1 (pt_cmpR op_lt (pv 3) (pe_dget (hu_of hr) (pv 1) (pv 2) (fun _ _ => rfl)) (nomark _))))) (pv 3) (pe_dget (hu_of hr) (pv 1) (pv 2) (fun _ _ => rfl))) rfl)))
      (pss_cons (ps_set (i := 4) sc_needed.nd rfl (Or.inl rfl) (pe_lst pa_nil))
      (pss_cons (ps_for PassesOwn.never rfl (pi_list (pe_revL (pe_callB cr_sortedI (by rfl) T.b_sorted (by decide +kernel) (pa_cons (pe_lock (pe_lc (own := [("one", 5)]) (g := (gName 5)) rfl sc_needed.nd (pi_keys (pv 1)) (blkOk_by (own := [("one", 5)]) (N := n_needed) (sc := defScope s_needed) (by decide +kernel)) (fun _ _ _ _ _ => (pg_name (i := 5) sc_needed.nd rfl (Or.inl rfl))) (fun _ _ _ _ _ => pts_nil) (fun _ _ _ _ _ => (pe_callTy call_int1 (by rfl) T.b_int (by decide +kernel) (pa_cons (pv 5) pa_nil))))) pa_nil)))) (pg_name (i := 2) sc_needed.nd rfl (Or.inl rfl)) (pss_one (ps_if (PW.pt (pw_or (pt_cmpR (op_eqNil hr.units) (pv 4) (pe_lst pa_nil) (nomark _)) (pw_or1 (pt_cmpR op_lt (pe_dget (hu_of hr) (pv 1) (pv 2) (fun _ _ => rfl)) (pe_ix ix_tup (pe_ix ix_list (pv 4) (pe_un un_neg pe_int) (fun _ _ => rfl)) pe_int (fun _ _ => rfl)) (nomark _))))) (pss_one (ps_expr (pe_bm PySem.F.plainAttrs_list PySem.F.slot_list_append PySem.F.type_list_append mt_append (pv 4) (pa_cons (pe_tup (pa_cons (pv 2) (pa_cons (pe_dget (hu_of hr) (pv 1) (pv 2) (fun _ _ => rfl)) pa_nil))) pa_nil)))) pss_nil)))
      (pss_one (ps_ret (pe_callTy call_tuple_of (by rfl) T.b_tuple (by decide +kernel) (pa_cons (pe_revL (pv 4)) pa_nil)))))))), ?_⟩
    intro d hd
    refine ⟨_, rfl, a, tt, rfl, ⟨_, SqB.of (by rw [upd_ne (ne_of_none (sb _ _ ha) hd)]; exact sb _ _ ha)⟩, ?_⟩
    refine for_it walk_seq (fun i σ H' => ∃ (I' : Hp) (m : Rides) (v2 v3 : Option V), σ = [some (.ref a), some (.ref d), v2, v3, none, none] ∧ Grow No I H I' H' ∧ Own No H d (.dK (m.map kvI)) I' H' ∧ (m.map (·.1)).Nodup ∧ (∀ p ∈ m, p ∈ rs.take i) ∧ (∀ r ∈ rs.take i, ∃ e, (r.1, e) ∈ m ∧ e ≤ r.2) ∧ m.length ≤ i)
      ⟨I, [], none, none, rfl, Grow.mine sb hd, Own.new sb (.inl (Same.refl H)) (fun _ z => z.elim) hd, .nil, (fun p z => nomatch z), (fun r z => by simp at z), Nat.le_refl _⟩ (fun i σ H' _ ⟨I', _, _, _, _, g, _⟩ => SqB.of (g.same _ _ (sb _ _ ha))) ?_ ?_
    · rintro i x σ H2 H3 hi ⟨I', m, v2, v3, rfl, g, ow, nd, h1, h2, hl⟩ ⟨rfl, hx⟩
      obtain ⟨r, hr, b, w1, w2, rfl, hb, e1, e2⟩ := Nw.Paired.at' hp hx
      cases e1
      cases e2
      have hi2 : i < rs.length := by
        have := Nw.Paired.len hp
        omega
      refine ⟨b, _, rfl, SqT.of (g.same _ _ (sb _ _ hb)), rfl, _, _, rfl, _, _, rfl, rfl, ?_⟩
      -- the value
      have hget : DGet H3 d (.int r.1) ((lookM m r.1).map V.int) := by
        have z := DGet.k (k := .inl r.1) ow.at_
        rw [valV_I] at z
        exact z
      have fin : ∀ e, (e = r.2 ∨ (r.1, e) ∈ m) → e ≤ r.2 → (∀ e', (r.1, e') ∈ m → e ≤ e') →
          ∃ (a2 : Addr) (H4 : Hp), (V.ref d) = V.ref a2 ∧ DPut H3 a2 (.int r.1) (.int e) H4 ∧ ∃ (I' : Hp) (m : Rides) (v2 v3 : Option V), [some (V.ref a), some (V.ref d), some (V.int r.1), some (V.int r.2), none, none] = [some (.ref a), some (.ref d), v2, v3, none, none] ∧ Grow No I H I' H4 ∧ Own No H d (.dK (m.map kvI)) I' H4 ∧ (m.map (·.1)).Nodup ∧ (∀ p ∈ m, p ∈ rs.take (i + 1)) ∧ (∀ r ∈ rs.take (i + 1), ∃ e, (r.1, e) ∈ m ∧ e ≤ r.2) ∧ m.length ≤ i + 1 := by
        intro e he hle hmin
        have z := DPut.k (k := .inl r.1) (v := .int e) ow.at_ (by rw [List.length_map, sizeLine_eq]; omega)
        rw [putK_I] at z
        refine ⟨d, _, rfl, z, I', putM m r.1 e, _, _, rfl, g.put ow, ow.put, keys_putM nd, fun p hp' => ?_, fun q hq => ?_, Nat.le_trans (len_putM _ _ _) (by omega)⟩
        · rw [mem_take hr]
          rcases mem_putM.mp hp' with rfl | ⟨z, _⟩
          · rcases he with rfl | he
            · exact .inr rfl
            · exact .inl (h1 _ he)
          · exact .inl (h1 p z)
        · rcases (mem_take hr).mp hq with q1 | rfl
          · obtain ⟨e', he', hle'⟩ := h2 q q1
            by_cases c : q.1 = r.1
            · exact ⟨e, mem_putM.mpr (.inl (by rw [c])), by rw [c] at he'; exact Int.le_trans (hmin e' he') hle'⟩
            · exact ⟨e', mem_putM.mpr (.inr ⟨he', c⟩), hle'⟩
          · exact ⟨e, mem_putM.mpr (.inl rfl), hle⟩
      have uniq : ∀ e e', (r.1, e) ∈ m → (r.1, e') ∈ m → e = e' := fun e e' p1 p2 => by
        obtain ⟨i1, l1, q1⟩ := List.mem_iff_getElem.mp p1
        obtain ⟨i2, l2, q2⟩ := List.mem_iff_getElem.mp p2
        have key : (m.map (·.1))[i1]'(by simpa using l1) = (m.map (·.1))[i2]'(by simpa using l2) := by
          rw [List.getElem_map, List.getElem_map, q1, q2]
        have ei : i1 = i2 := (List.getElem_inj nd).mp key
        subst ei
        rw [q1] at q2
        exact (Prod.mk.inj q2).2
      cases hlk : lookM m r.1 with
      | none =>
        rw [hlk] at hget
        refine ⟨_, rfl, _, rfl, d, _, rfl, hget, true, rfl, ?_⟩
        refine iteT ?_
        refine iteT ?_
        exact ⟨_, rfl, _, rfl, _, rfl, fin r.2 (.inl rfl) (Int.le_refl _) fun e' he' => (lookM_none hlk (r.1, e') he' rfl).elim⟩
      | some e0 =>
        rw [hlk] at hget
        have hm0 := lookM_some hlk
        refine ⟨_, rfl, _, rfl, d, _, rfl, hget, false, rfl, ?_⟩
        refine iteF ?_
        refine ⟨_, rfl, _, rfl, _, rfl, d, _, rfl, hget, _, _, rfl, rfl, _, rfl, ?_⟩
        by_cases c : r.2 < e0
        · rw [decide_eq_true c]
          refine iteT ?_
          exact ⟨_, rfl, _, rfl, _, rfl, fin r.2 (.inl rfl) (Int.le_refl _) fun e' he' => by rw [uniq _ _ he' hm0]; omega⟩
        · rw [decide_eq_false c]
          refine iteF ?_
          exact ⟨_, rfl, _, rfl, d, _, rfl, hget, _, rfl, _, rfl, fin e0 (.inr hm0) (by omega) fun e' he' => by rw [uniq _ _ he' hm0]; exact Int.le_refl _⟩
    · rintro σ H2 ⟨I', m, v2, v3, rfl, g, ow, nd, h1, h2, hl⟩
      have et : rs.take vs.length = rs := by rw [Nw.Paired.len hp, List.take_length]
      rw [et] at h1 h2
      refine ⟨Nat.zero_le _, fun L hL => ?_⟩
      have gL := g.trans (Grow.mine (T := No) (o := .lst []) g.sub hL)
      have owL : Own No H L (.lst []) I' (upd H2 L (.lst [])) := Own.new g.sub (.inr g.live) (fun _ z => z.elim) hL
      have owd := ow.grow (Grow.mine (T := No) (o := .lst []) g.sub hL)
      have ndL : d ≠ L := ne_of_none ow.at_ hL
      -- sorted([int(one) for one in ends])[::-1]
      refine ⟨d, _, owd.at_, trivial, fun od => ?_⟩
      have gf := gL.put (o' := .frz od (.dK (m.map kvI))) owd
      have owf : Own No H d (.frz od (.dK (m.map kvI))) I' (upd (upd H2 L (.lst [])) d (.frz od (.dK (m.map kvI)))) := owd.put
      refine ⟨_, rfl, d, od, rfl, .inl ⟨_, upd_same, fun M hM => ?_⟩⟩
      refine lc_pure (β := Int) walk_keys m (fun p => some p.1) (by rw [List.length_map]) gf.sub hM (by rw [List.length_map]; have := Nw.Paired.len hp; omega) (fun I1 H1 g1 => g1.keep _ _ (fun z => z) upd_same) ?_ ?_
      · rintro j p x I1 H1 H3 hj g1 ⟨rfl, kk, vv, hkv, rfl⟩ Kn Ky kn ky
        have ek : kvI p = (kk, vv) := by
          rw [List.getElem?_map, hj] at hkv
          exact Option.some.inj hkv
        cases ek
        refine ⟨rfl, lc_yes ?_⟩
        exact ⟨_, rfl, .inl ⟨_, rfl, ky _ rfl _ I1 H3 (Grow.refl g1.sub) rfl⟩⟩
      · intro I1 H1 vs1 g1 owM hp1
        have e1 := Paired.ints hp1
        rw [fm_some] at e1
        subst e1
        have owf1 := owf.grow g1
        have gf1 := gf.trans g1
        have ndM : M ≠ d := (ne_of_none upd_same hM).symm
        refine ⟨owf1.at_, M, _, rfl, SqL.of (by rw [upd_ne ndM]; exact owM.at_), fun ks p perm rising hpn => ?_⟩
        -- the walk from the last one on
        have gs := (gf1.put (o' := .dK (m.map kvI)) owf1)
        have owd2 : Own No H d (.dK (m.map kvI)) I1 (upd H1 d (.dK (m.map kvI))) := owf1.put
        have owL2 : Own No H L (.lst []) I1 (upd H1 d (.dK (m.map kvI))) := ((owL.other ndL.symm).grow g1).other ndL.symm
        have gp := gs.trans (Grow.mine (T := No) (o := .lst (ks.map V.int)) gs.sub hpn)
        have owd3 := owd2.grow (Grow.mine (T := No) (o := .lst (ks.map V.int)) gs.sub hpn)
        have owL3 := owL2.grow (Grow.mine (T := No) (o := .lst (ks.map V.int)) gs.sub hpn)
        refine ⟨p, _, rfl, SqL.of upd_same, fun q hq => ?_⟩
        rw [show (ks.map V.int).reverse = ks.reverse.map V.int from (List.map_reverse ..).symm]
        have gq := gp.trans (Grow.mine (T := No) (o := .lst (ks.reverse.map V.int)) gp.sub hq)
        have owd4 := owd3.grow (Grow.mine (T := No) (o := .lst (ks.reverse.map V.int)) gp.sub hq)
        have owL4 := owL3.grow (Grow.mine (T := No) (o := .lst (ks.reverse.map V.int)) gp.sub hq)
        have owq : Own No H q (.lst (ks.reverse.map V.int)) I1 _ := Own.new gp.sub (.inr gp.live) (fun _ z => z.elim) hq
        have hks : ∀ j b, ks.reverse[j]? = some b → ∃ e, (b, e) ∈ m := fun j b hj => by
          have h3 : b ∈ ks := List.mem_reverse.mp (List.mem_of_getElem? hj)
          obtain ⟨p, hp, rfl⟩ := List.mem_map.mp (perm.mem_iff.mp h3)
          exact ⟨p.2, hp⟩
        have desc : ks.reverse.Pairwise (fun a b => b < a) := by
          rw [List.pairwise_reverse]
          have ndk : ks.Nodup := perm.nodup_iff.mpr nd
          exact (List.Pairwise.and rising ndk).imp fun z => by omega
        refine ⟨q, rfl, ⟨_, SqL.of upd_same⟩, ?_⟩
        have hlk : ∀ b e, (b, e) ∈ m → lookM m b = some e := fun b e he => by
          cases hl2 : lookM m b with
          | none => exact (lookM_none hl2 (b, e) he rfl).elim
          | some e0 =>
            have p2 := lookM_some hl2
            obtain ⟨i1, l1, q1⟩ := List.mem_iff_getElem.mp he
            obtain ⟨i2, l2, q2⟩ := List.mem_iff_getElem.mp p2
            have key : (m.map (·.1))[i1]'(by simpa using l1) = (m.map (·.1))[i2]'(by simpa using l2) := by
              rw [List.getElem_map, List.getElem_map, q1, q2]
            have ei : i1 = i2 := (List.getElem_inj nd).mp key
            subst ei
            rw [q1] at q2
            rw [(Prod.mk.inj q2).2]
        have nqL : q ≠ L := (ne_of_none owL3.at_ hq).symm
        refine for_it walk_list (ndJ I H a d q L m ks.reverse v3)
          ⟨I1, [], [], v2, rfl, gq, owd4, owq, owL4, .nil, Nat.le_refl _, .nil, (fun n z => nomatch z), fun b hb => by simp at hb⟩ (fun i σ H' _ ⟨I', _, _, _, _, g, _, oq, _⟩ => SqL.of oq.at_) ?_ ?_
        · rintro j x σ H3 H4 hj ⟨I', fs, ws, v2', rfl, g3, od3, oq3, oL3, hpr, hfl, hasc, hsub, hcov⟩ ⟨rfl, hx⟩
          obtain ⟨b, hb, rfl⟩ := getI hx
          obtain ⟨e, he⟩ := hks j b hb
          have hlb := hlk b e he
          have hget : DGet H4 d (.int b) (some (.int e)) := by
            have z := DGet.k (k := .inl b) od3.at_
            rw [valV_I, hlb] at z
            exact z
          have nLd : L ≠ d := ne_of oL3.at_ od3.at_ (by intro z; cases z)
          have hjl : j < ks.reverse.length := by
            obtain ⟨h, _⟩ := List.getElem?_eq_some_iff.mp hb
            exact h
          have hkl : ks.length = m.length := by rw [perm.length_eq, List.length_map]
          have hlt : ∀ c ∈ ks.reverse.take j, b < c := fun c hc => by
            obtain ⟨i, hi, ec⟩ := List.mem_iff_getElem.mp hc
            rw [List.getElem_take] at ec
            rw [List.length_take] at hi
            have eb : ks.reverse[j] = b := by
              have := List.getElem?_eq_getElem hjl
              rw [hb] at this
              exact (Option.some.inj this).symm
            have := (List.pairwise_iff_getElem.mp desc) i j (by omega) hjl (by omega)
            rw [ec, eb] at this
            exact this
          have hcase : fs = [] ∨ ∃ fr l, fs = fr ++ [l] := by
            cases fs.eq_nil_or_concat with
            | inl h => exact .inl h
            | inr h => exact .inr (let ⟨l, x, e⟩ := h; ⟨l, x, by simpa using e⟩)
          have app : (∀ n ∈ fs, e < n.2) → ∀ H5 : Hp, Grow No I' H4 I' H5 → ∀ t, H5 t = none → ndJ I H a d q L m ks.reverse v3 (j + 1) [some (.ref a), some (.ref d), some (.int b), v3, some (.ref L), none] (upd (upd H5 t (.tup [.int b, .int e])) L (.lst (ws ++ [.ref t]))) := by
            intro hlast H5 g5 t ht
            have gt := Grow.new (T := No) (o := .tup [.int b, .int e]) g5.sub ht
            have oL5 := (oL3.grow g5).grow gt
            refine ⟨upd I' t (.tup [.int b, .int e]), fs ++ [(b, e)], ws ++ [.ref t], _, rfl, ((g3.trans g5).trans gt).put oL5, ((od3.grow g5).grow gt).other nLd.symm, ((oq3.grow g5).grow gt).other nqL, oL5.put, Nw.Paired.snoc (Paired.mono' (fun _ _ z => Rep.mono gt.view z) hpr) ⟨t, _, _, rfl, upd_same, rfl, rfl⟩, by simp; omega, ?_, fun n hn => ?_, fun b2 hb2 e2 he2 => ?_⟩
            · rw [List.pairwise_append]
              refine ⟨hasc, by simp, fun x hx y hy => ?_⟩
              rw [List.mem_singleton] at hy
              subst hy
              exact ⟨hlt x.1 (hsub x hx).2, hlast x hx⟩
            · rcases List.mem_append.mp hn with z | z
              · exact ⟨(hsub n z).1, (mem_take hb).mpr (.inl (hsub n z).2)⟩
              · rw [List.mem_singleton] at z
                subst z
                exact ⟨he, (mem_take hb).mpr (.inr rfl)⟩
            · rcases (mem_take hb).mp hb2 with z | rfl
              · obtain ⟨n, hn, q1, q2⟩ := hcov b2 z e2 he2
                exact ⟨n, List.mem_append_left _ hn, q1, q2⟩
              · have h4 := hlk b2 e2 he2
                rw [hlb] at h4
                cases h4
                exact ⟨(b2, e), List.mem_append_right _ (by simp), Int.le_refl _, Int.le_refl _⟩
          refine ⟨_, rfl, Nat.zero_le _, fun p2 hp2 => ⟨L, p2, ws, rfl, rfl, SqL.of (by rw [upd_ne (ne_of_none oL3.at_ hp2)]; exact oL3.at_), SqL.of upd_same, _, rfl, ?_⟩⟩
          have g5 := Grow.mine (T := No) (o := .lst []) g3.sub hp2
          have oL5 := oL3.grow g5
          have od5 := od3.grow g5
          have hget5 : DGet (upd H4 p2 (.lst [])) d (.int b) (some (.int e)) := by
            have z := DGet.k (k := .inl b) od5.at_
            rw [valV_I, hlb] at z
            exact z
          rcases hcase with rfl | ⟨fr, l, rfl⟩
          · have ews : ws = [] := by cases hpr; rfl
            subst ews
            refine iteT ?_
            refine iteT ?_
            refine ⟨_, rfl, .inl ⟨rfl, _, SqL.of oL5.at_⟩, _, rfl, _, rfl, _, rfl, d, _, rfl, hget5, (by show 2 ≤ sizeLine; decide), fun t ht => ?_⟩
            refine ⟨L, _, _, rfl, rfl, by rw [upd_ne (ne_of_none oL5.at_ ht)]; exact oL5.at_, by decide, ?_⟩
            exact app (fun n z => nomatch z) _ g5 t ht
          · obtain ⟨w1, wr, ew, hwl⟩ : ∃ w1 wr, ws = wr ++ [w1] ∧ Rep.is I' w1 l := Paired.last hpr
            subst ew
            have eemp : (wr ++ [w1]).isEmpty = false := by simp
            rw [eemp]
            refine iteF ?_
            obtain ⟨la, l1, l2, rfl, hla, hl1, hl2⟩ := hwl
            cases hl1
            cases hl2
            refine ⟨_, rfl, _, rfl, d, _, rfl, hget5, _, rfl, _, rfl, L, _, _, _, rfl, rfl, SqL.of oL5.at_, atI_last _ _, la, _, 1, _, rfl, rfl, SqT.of (g5.sub _ _ (g5.view _ _ hla)), rfl, _, _, rfl, rfl, _, rfl, ?_⟩
            by_cases c : e < l.2
            · rw [decide_eq_true c]
              refine iteT ?_
              refine ⟨_, rfl, .inl ⟨rfl, _, SqL.of oL5.at_⟩, _, rfl, _, rfl, _, rfl, d, _, rfl, hget5, (by show 2 ≤ sizeLine; decide), fun t ht => ?_⟩
              refine ⟨L, _, _, rfl, rfl, by rw [upd_ne (ne_of_none oL5.at_ ht)]; exact oL5.at_, ?_, ?_⟩
              · have h5 := Nw.Paired.len hpr
                have h6 := Nw.Paired.len hp
                rw [h5, sizeLine_eq]
                rw [List.length_reverse] at hjl
                omega
              · refine app (fun n hn => ?_) _ g5 t ht
                rcases List.mem_append.mp hn with z | z
                · have := (List.pairwise_append.mp hasc).2.2 n z l (by simp)
                  omega
                · rw [List.mem_singleton] at z
                  rw [z]
                  exact c
            · rw [decide_eq_false c]
              refine iteF ?_
              refine ⟨I', fr ++ [l], _, _, rfl, g3.trans g5, od5, oq3.grow g5, oL5, hpr, by omega, hasc, fun n hn => ⟨(hsub n hn).1, (mem_take hb).mpr (.inl (hsub n hn).2)⟩, fun b2 hb2 e2 he2 => ?_⟩
              rcases (mem_take hb).mp hb2 with z | rfl
              · exact hcov b2 z e2 he2
              · have h4 := hlk b2 e2 he2
                rw [hlb] at h4
                cases h4
                exact ⟨l, by simp, Int.le_of_lt (hlt l.1 (hsub l (by simp)).2), by omega⟩
        · rintro σ H3 ⟨I', fs, ws, v2', rfl, g3, od3, oq3, oL3, hpr, hfl, hasc, hsub, hcov⟩
          refine ⟨_, rfl, L, _, rfl, SqL.of oL3.at_, fun p2 hp2 => ?_⟩
          refine ⟨p2, _, rfl, .inl ⟨SqL.of upd_same, fun l hl2 => ?_⟩⟩
          have g4 := g3.trans (Grow.mine (T := No) (o := .lst ws.reverse) g3.sub hp2)
          have g5 := g4.trans (Grow.new (T := No) (o := .tup ws.reverse) g4.sub hl2)
          rw [List.length_map, List.take_length] at hsub hcov
          refine k fs.reverse _ _ _ g5 ⟨l, ws.reverse, rfl, upd_same, Paired.mono' (fun _ _ z => Rep.mono (Same.up (g4.sub.free hl2)) z) (Paired.rev hpr)⟩ ⟨?_, fun n hn => ?_, fun r hr => ?_⟩
          · rw [List.pairwise_reverse]
            exact hasc
          · exact h1 n (hsub n (List.mem_reverse.mp hn)).1
          · obtain ⟨e, he, hle⟩ := h2 r hr
            have hb : r.1 ∈ ks.reverse := List.mem_reverse.mpr (perm.mem_iff.mpr (List.mem_map.mpr ⟨_, he, rfl⟩))
            obtain ⟨n, hn, q1, q2⟩ := hcov r.1 hb e he
            exact ⟨n, List.mem_reverse.mpr hn, q1, by omega⟩
theorem ok_Link__init (T : Txt K mg) (F : FnAt K "__init__" "Link.__init__" s_Link__init (He.ma K (He.ga K "Link") "__init__")) (G_is_ride : Ok P w K mg base CX0 2 (He.ga K "is_ride") ["thing"] (sp_is_ride K)) (G_needed : Ok P w K mg base CX0 1 (He.ga K "needed") ["rides"] (sp_needed K)) : Ok P w K mg base CX0 3 (He.ma K (He.ga K "Link") "__init__") ["self", "rides"] (sp_Link__init K) := by
  refine ok_of F sc_Link__init (fun _ _ _ _ _ _ us hl => match us, hl with | [_, _], _ => rfl) (fun vs H Q E h => ?_) (fun cdv A outer s H vs Q E hr h => ?_)
  · obtain ⟨_, _, _, _, _, _, rfl, _⟩ := h
    rfl
  · obtain ⟨I, tt, x, dx, v, rs, rfl, hx, ix, ⟨a, vs, rfl, ha, hp⟩, hl, hv, sb, k⟩ := h
    refine ⟨_, (pss_cons (ps_if (pt_not (pt_val (pe_callB call_isiT (by rfl) T.b_isinstance (by decide +kernel) (pa_cons (pv 1) (pa_cons (pe_tup (pa_cons (pe_bltn (v := .ty "list") rfl T.b_list (by decide +kernel) rfl) (pa_cons (pe_bltn (v := .ty "tuple") rfl T.b_tuple (by decide +kernel) rfl) pa_nil))) pa_nil))))) (pss_one ps_never) pss_nil)
      (pss_cons (ps_for PassesOwn.never rfl (pi_enumS (by rfl) T.b_enumerate (pa_cons (pv 1) pa_nil)) (pg_tup (by rfl) (pgs_cons (pg_name (i := 2) sc_Link__init.nd rfl (Or.inl rfl)) (pgs_cons (pg_name (i := 3) sc_Link__init.nd rfl (Or.inl rfl)) pgs_nil))) (pss_one (ps_if (PW.pt (pw_or (pt_cmpR op_eq (pv 2) (pe_gint T.c_MOST_RIDES) (nomark _)) (pw_or1 (pt_not (pt_val (pe_callC G_is_ride (hr.mono (by decide)) T.g_is_ride (pa_cons (pv 3) pa_nil))))))) (pss_one ps_never) pss_nil)))
      (pss_one (ps_fld (pv 0) (pe_callC G_needed (hr.mono (by decide)) T.g_needed (pa_cons (pv 1) pa_nil)) rfl)))), ?_⟩
    have hlen := Nw.Paired.len hp
    refine ⟨_, rfl, by decide, fun p hp1 => ?_⟩
    obtain ⟨nty, hty, hkit⟩ := ty_seq (K := K) (t := tt) (H := upd H p (.tup [V.ty "list", V.ty "tuple"])) (a := a) (vs := vs) (by rw [upd_ne (ne_of_none (sb _ _ ha) hp1)]; exact sb _ _ ha)
    refine ⟨.ref a, p, _, _, _, true, rfl, upd_same, .cons (.ty _) (.cons (.ty _) .nil), hty, hkit, true, rfl, iteF ?_⟩
    have g1 : Grow (TX x) I H _ (upd H p (.tup [V.ty "list", V.ty "tuple"])) := Grow.new sb hp1
    have hx1 : upd H p (.tup [V.ty "list", V.ty "tuple"]) x = some (.ins (He.ga K "Link") dx []) := by rw [upd_ne (ne_of_none hx hp1)]; exact hx
    refine ⟨_, rfl, a, tt, vs, rfl, SqB.of (g1.sub _ _ (g1.view _ _ ha)), ?_⟩
    refine for_it walk_enumS (fun i σ H' => ∃ (I' : Hp) (v2 v3 : Option V), σ = [some (.ref x), some (.ref a), v2, v3] ∧ Grow No _ (upd H p (.tup [V.ty "list", V.ty "tuple"])) I' H') ⟨_, none, none, rfl, Grow.refl g1.sub⟩ (fun i σ H' _ ⟨I', _, _, _, g⟩ => SqB.of (g.same _ _ (g1.sub _ _ (g1.view _ _ ha)))) ?_ ?_
    · rintro i y σ H2 H3 hi ⟨I', v2, v3, rfl, g⟩ ⟨t, y1, y2, rfl, ht, rfl, e1, hy⟩
      cases e1
      obtain ⟨r, hr, hrep⟩ := Nw.Paired.at' hp hy
      have g2 := g.trans (Grow.new (T := No) (o := .tup [.int (i : Nat), y2]) g.sub ht)
      refine ⟨t, _, rfl, SqT.of upd_same, rfl, _, _, rfl, _, _, rfl, rfl, ?_⟩
      refine ⟨_, rfl, rfl, _, rfl, ?_⟩
      have hne : ¬ (V.int ((i : Nat) : Int) = V.int 60) := fun z => by
        have := V.int.inj z
        omega
      rw [decide_eq_false hne]
      refine iteF ?_
      refine ⟨_, rfl, _, y2, .sq true [.int r.1, .int r.2], rfl, ride_dt (Rep.mono (g1.view.trans g2.view) hrep), g2.sub, true, by show V.bl (decide (r.1 ≤ r.2)) = _; rw [decide_eq_true (hv r (List.mem_of_getElem? hr))], iteF ?_⟩
      exact ⟨_, _, _, rfl, g2⟩
    · rintro σ H2 ⟨I', v2, v3, rfl, g⟩
      have gx := g1.trans g.no
      refine ⟨_, rfl, I', tt, .ref a, rs, rfl, ⟨a, vs, rfl, gx.view _ _ ha, Paired.mono' (fun _ _ z => Rep.mono gx.view z) hp⟩, by omega, g.sub, fun ns t I3 H3 g3 hu hn => ?_⟩
      have g4 := gx.trans g3.no
      have hx3 : H3 x = some (.ins (He.ga K "Link") dx []) := g3.same _ _ (g.same _ _ hx1)
      have ix3 : I3 x = none := g4.fresh x ix (by rw [hx]; exact fun z => nomatch z)
      refine ⟨_, rfl, x, _, dx, _, rfl, hx3, T.cl_Link, T.na_Link_own_rides, (by show 0 < 1000; decide), ?_⟩
      refine k ns t I3 _ ⟨g4.view, fun b o e => ?_, fun b o n e => ?_, fun b e => upd_live (g4.live b e), g4.fresh, g4.tbl⟩ upd_same hu hn
      · rw [upd_ne (ne_of_none e ix3)]
        exact g4.sub b o e
      · rw [upd_ne n]
        exact g4.keep b o n e
theorem ok_Timetable__init (T : Txt K mg) (F : FnAt K "__init__" "Timetable.__init__" s_Timetable__init (He.ma K (He.ga K "Timetable") "__init__"))  : Ok P w K mg base CX0 1 (He.ma K (He.ga K "Timetable") "__init__") ["self", "links"] (sp_Timetable__init K) := by
  refine ok_of F sc_Timetable__init (fun _ _ _ _ _ _ us hl => match us, hl with | [_, _], _ => rfl) (fun vs H Q E h => ?_) (fun cdv A outer s H vs Q E hr h => ?_) 
  · obtain ⟨_, _, _, _, _, _, rfl, _⟩ := h
    rfl
  · obtain ⟨I, x, dx, p, kvs, tb, rfl, hx, hp, ix, ip, hlk, hne, h4, hin, sb, k⟩ := h
    refine ⟨_, (pss_cons (ps_if (PW.pt (pw_or (pt_not (pt_val (pe_callB call_isi (by rfl) T.b_isinstance (by decide +kernel) (pa_cons (pv 1) (pa_cons (pe_bltn (v := .ty "dict") rfl T.b_dict (by decide +kernel) rfl) pa_nil))))) (pw_or1 (pt_cmpR (op_eqDNil hr.units) (pv 1) pe_dnewK (nomark _))))) (pss_one ps_never) pss_nil)
      (pss_cons (ps_if (pt_not (pt_val (pe_callB (cr_all rfl) (by rfl) T.b_all (by decide +kernel) (pa_cons (pe_lock (pe_lc (own := [("letter", 2)]) (g := (gName 2)) rfl sc_Timetable__init.nd (pi_keys (pv 1)) (blkOk_by (own := [("letter", 2)]) (N := n_Timetable__init) (sc := defScope s_Timetable__init) (by decide +kernel)) (fun _ _ _ _ _ => (pg_name (i := 2) sc_Timetable__init.nd rfl (Or.inl rfl))) (fun _ _ _ _ _ => pts_nil) (fun _ _ _ _ _ => (pe_and (pe_callB (call_isiK (K := K) rfl) (by rfl) T.b_isinstance (by decide +kernel) (pa_cons (pv 2) (pa_cons (pe_bltn (v := .ty "str") rfl T.b_str (by decide +kernel) rfl) pa_nil))) (pe_and (pe_cmpR op_eq (pe_callB call_len_str (by rfl) T.b_len (by decide +kernel) (pa_cons (pv 2) pa_nil)) pe_int (nomark _)) (pe_one (pe_cmpR op_in_sign (pv 2) (pe_gstr T.c_LINKS) rfl))))))) pa_nil)))) (pss_one ps_never) pss_nil)
      (pss_cons (ps_if (pt_not (pt_val (pe_callB (cr_all rfl) (by rfl) T.b_all (by decide +kernel) (pa_cons (pe_lock (pe_lc (own := [("letter", 2)]) (g := (gName 2)) rfl sc_Timetable__init.nd (pi_keys (pv 1)) (blkOk_by (own := [("letter", 2)]) (N := n_Timetable__init) (sc := defScope s_Timetable__init) (by decide +kernel)) (fun _ _ _ _ _ => (pg_name (i := 2) sc_Timetable__init.nd rfl (Or.inl rfl))) (fun _ _ _ _ _ => pts_nil) (fun _ _ _ _ _ => (pe_callB (call_isiK (K := K) rfl) (by rfl) T.b_isinstance (by decide +kernel) (pa_cons (pe_dget (hu_of hr) (pv 1) (pv 2) (fun _ _ => rfl)) (pa_cons (pe_gref T.g_Link) pa_nil)))))) pa_nil)))) (pss_one ps_never) pss_nil)
      (pss_one (ps_fld (pv 0) (pe_dc (own := [("letter", 2)]) (g := (gName 2)) rfl sc_Timetable__init.nd (pi_str (pe_gstr T.c_LINKS)) (blkOk_by (own := [("letter", 2)]) (N := n_Timetable__init) (sc := defScope s_Timetable__init) (by decide +kernel)) (fun _ _ _ _ _ => (pg_name (i := 2) sc_Timetable__init.nd rfl (Or.inl rfl))) (fun _ _ _ _ _ => (pts_one (pt_cmp (pc_din (hu_of hr) (pv 2) (pv 1))))) (fun _ _ _ _ _ => (pv 2)) (fun _ _ _ _ _ => (pe_dget (hu_of hr) (pv 1) (pv 2) (fun _ _ => rfl)))) rfl))))), ?_⟩
    have nxp : x ≠ p := ne_of hx hp (by intro z; cases z)
    have hemp : (kvs.map kvS).isEmpty = false := by cases kvs with
      | nil => exact absurd rfl hne
      | cons a b => rfl
    -- links == {}
    refine ⟨_, rfl, .ref p, .ty "dict", _, _, true, rfl, .ty _, .base (.dK hp), kit_refl, true, rfl, iteF ?_⟩
    refine ⟨_, rfl, fun q hq => ⟨p, q, _, rfl, rfl, by rw [upd_ne (ne_of_none hp hq)]; exact hp, upd_same, _, rfl, ?_⟩⟩
    rw [hemp]
    refine iteF ?_
    have g1 : Grow (T2 x p) I H I (upd H q (.dK [])) := Grow.mine sb hq
    have hp1 : upd H q (.dK []) p = some (.dK (kvs.map kvS)) := by rw [upd_ne (ne_of_none hp hq)]; exact hp
    have hx1 : upd H q (.dK []) x = some (.ins (He.ga K "Timetable") dx []) := by rw [upd_ne (ne_of_none hx hq)]; exact hx
    -- the letters
    refine ⟨p, _, hp1, trivial, fun od => ?_⟩
    have g2 := g1.chg (o' := .frz od (.dK (kvs.map kvS))) (.inr rfl) ip
    refine ⟨_, rfl, p, od, rfl, .inl ⟨_, upd_same, fun L hL => ?_⟩⟩
    refine lc_pure (β := Bool) walk_keys kvs (fun q => some true) (by rw [List.length_map]) g2.sub hL (by rw [List.length_map]; omega) (fun I' H' g => g.keep _ _ (fun z => z) upd_same) ?_ ?_
    · rintro i q x' I' H2 H3 hq' g ⟨rfl, kk, vv, hkv, rfl⟩ Kn Ky kn ky
      obtain ⟨q2, hm, hq2, rfl, rfl⟩ := mem_keys hkv
      rw [hq'] at hq2
      cases hq2
      refine ⟨rfl, lc_yes ?_⟩
      refine ⟨_, rfl, .str (sg q.1), .ty "str", _, _, true, rfl, .ty _, .base (.str _), kit_refl, true, rfl, iteT ?_⟩
      refine ⟨_, rfl, sg q.1, rfl, by show 1 ≤ sizeLine; decide, rfl, true, rfl, iteT ?_⟩
      refine ⟨_, rfl, q.1, _, rfl, rfl, ?_⟩
      have e : decide (q.1 ∈ ("abcd" : Str).cps.toList) = true := by
        rw [links_list]
        exact decide_eq_true (hin q hm)
      rw [e]
      exact ky true rfl _ I' H3 (Grow.refl g.sub) rfl
    intro I1 H1 vs1 g3 ow hp3
    have e1 := Paired.bls hp3
    rw [fm_some] at e1
    subst e1
    have g4 := g2.trans g3.no
    have hp4 : H1 p = some (.frz od (.dK (kvs.map kvS))) := g3.keep _ _ (fun z => z) upd_same
    have hx4 : H1 x = some (.ins (He.ga K "Timetable") dx []) := g3.keep _ _ (fun z => z) (by rw [upd_ne nxp]; exact hx1)
    have ip1 : I1 p = none := g4.fresh p ip (by rw [hp]; exact fun z => nomatch z)
    have nLp : L ≠ p := (ne_of_none upd_same hL).symm
    refine ⟨hp4, L, _, rfl, SqL.of (by rw [upd_ne nLp]; exact ow.at_), ?_⟩
    have eall : ∀ l : List (Nat × V), (l.map fun _ => true).all id = true := fun l => by induction l with
      | nil => rfl
      | cons a r ih => rw [List.map_cons, List.all_cons, ih]; rfl
    rw [eall]
    refine ⟨true, rfl, iteF ?_⟩
    have g5 := g4.chg (o' := .dK (kvs.map kvS)) (.inr rfl) ip1
    have hx5 : upd H1 p (.dK (kvs.map kvS)) x = some (.ins (He.ga K "Timetable") dx []) := by rw [upd_ne nxp]; exact hx4
    -- the links
    refine ⟨p, _, upd_same, trivial, fun od2 => ?_⟩
    have g6 := g5.chg (o' := .frz od2 (.dK (kvs.map kvS))) (.inr rfl) ip1
    refine ⟨_, rfl, p, od2, rfl, .inl ⟨_, upd_same, fun M hM => ?_⟩⟩
    refine lc_pure (β := Bool) walk_keys kvs (fun q => some true) (by rw [List.length_map]) g6.sub hM (by rw [List.length_map]; omega) (fun I' H' g => g.keep _ _ (fun z => z) upd_same) ?_ ?_
    · rintro i q x' I' H2 H3 hq' g ⟨rfl, kk, vv, hkv, rfl⟩ Kn Ky kn ky
      obtain ⟨q2, hm, hq2, rfl, rfl⟩ := mem_keys hkv
      rw [hq'] at hq2
      cases hq2
      refine ⟨rfl, lc_yes ?_⟩
      have hfz : H3 p = some (.frz od2 (.dK (kvs.map kvS))) := g.keep _ _ (fun z => z) upd_same
      have hget : DGet H3 p (.str (sg q.1)) (lookT kvs q.1) := .inl ⟨_, .inr (sg q.1), .inr ⟨_, hfz⟩, rfl, (valV_S q.1 kvs).symm⟩
      rcases look_link (c := q.1) (hlk.up (g6.view.trans g.view)) with ⟨h1, _⟩ | ⟨v', ns, h1, _, la, ldx, t, rfl, hla, hu⟩
      · obtain ⟨r, hr⟩ := look_mem hm
        rw [hr] at h1; cases h1
      · rw [h1] at hget
        refine ⟨_, rfl, _, rfl, p, _, rfl, hget, .ref la, .ref (He.ga K "Link"), _, _, true, rfl, .own _, T.is_Link.ty T.cl_Link (g.sub _ _ hla), kit_self, ?_⟩
        exact ky true rfl _ I' H3 (Grow.refl g.sub) rfl
    intro I2 H2 vs2 g7 ow2 hp6
    have e2 := Paired.bls hp6
    rw [fm_some] at e2
    subst e2
    have g8 := g6.trans g7.no
    have hp8 : H2 p = some (.frz od2 (.dK (kvs.map kvS))) := g7.keep _ _ (fun z => z) upd_same
    have hx8 : H2 x = some (.ins (He.ga K "Timetable") dx []) := g7.keep _ _ (fun z => z) (by rw [upd_ne nxp]; exact hx5)
    have ip2 : I2 p = none := g8.fresh p ip (by rw [hp]; exact fun z => nomatch z)
    have ix2 : I2 x = none := g8.fresh x ix (by rw [hx]; exact fun z => nomatch z)
    have nMp : M ≠ p := (ne_of_none upd_same hM).symm
    refine ⟨hp8, M, _, rfl, SqL.of (by rw [upd_ne nMp]; exact ow2.at_), ?_⟩
    rw [eall]
    refine ⟨true, rfl, iteF ?_⟩
    have g9 := g8.chg (o' := .dK (kvs.map kvS)) (.inr rfl) ip2
    have hx9 : upd H2 p (.dK (kvs.map kvS)) x = some (.ins (He.ga K "Timetable") dx []) := by rw [upd_ne nxp]; exact hx8
    -- the own dict
    refine ⟨_, rfl, fun D hD => ?_⟩
    have hT : ∀ b, T2 x p b → upd H2 p (.dK (kvs.map kvS)) b ≠ none := fun b t => by
      rcases t with rfl | rfl
      · rw [hx9]; exact fun z => nomatch z
      · rw [upd_same]; exact fun z => nomatch z
    refine dc_it (walk_str (z := "abcd")) (fun i H' => ∃ I' res, Grow (T2 x p) I H I' H' ∧ Own (T2 x p) H D (.dK (res.map kvS)) I' H' ∧ H' p = some (.dK (kvs.map kvS)) ∧ H' x = some (.ins (He.ga K "Timetable") dx []) ∧ linksP K I' res ((linksL.take i).filterMap fun c => (lookT tb c).map fun r => (c, r)) ∧ res.length ≤ i)
      ⟨I2, [], g9.trans (Grow.mine g9.sub hD), Own.new g9.sub (.inr g9.live) hT hD, by rw [upd_ne (ne_of_none upd_same hD)]; exact upd_same, by rw [upd_ne (ne_of_none hx9 hD)]; exact hx9, .nil, Nat.le_refl _⟩ (fun _ _ _ _ => trivial) ?_ ?_
    · rintro i y H3 H4 hi ⟨I', res, g10, owD, hp10, hx10, hr, hrl⟩ ⟨rfl, c, hc, rfl⟩
      have hc' : linksL[i]? = some c := by
        have e : ("abcd" : Str).cps.toList = linksL := links_list
        rw [← e]
        simpa using hc
      have et : linksL.take (i + 1) = linksL.take i ++ [c] := by rw [List.take_add_one, hc']; rfl
      rw [et, List.filterMap_append]
      have hget : DGet H4 p (.str (sg c)) (lookT kvs c) := .inl ⟨_, .inr (sg c), .inl hp10, rfl, (valV_S c kvs).symm⟩
      refine ⟨rfl, _, rfl, _, rfl, p, _, rfl, hget, ?_⟩
      rcases look_link (c := c) (hlk.up g10.view) with ⟨h1, h2⟩ | ⟨v', ns, h1, h2, hlink⟩
      · rw [h1]
        refine ⟨false, rfl, iteF ⟨I', res, g10, owD, hp10, hx10, ?_, by omega⟩⟩
        rw [List.filterMap_cons, h2]
        simpa using hr
      · rw [h1] at hget ⊢
        refine ⟨true, rfl, iteT ⟨_, rfl, _, rfl, _, rfl, p, _, rfl, hget, res.map kvS, .inr (sg c), rfl, owD.at_, by rw [List.length_map, sizeLine_eq]; have hi4 : i < 4 := hi; omega, ?_⟩⟩
        have enew : putK (res.map kvS) (.inr (sg c)) v' = (res ++ [(c, v')]).map kvS := by
          rw [List.map_append]
          refine putK_new ?_
          intro z
          obtain ⟨q, hq, e⟩ := List.mem_map.mp z
          obtain ⟨q2, hq2, rfl⟩ := List.mem_map.mp hq
          have ec : q2.1 = c := mk_inj (a := [q2.1]) (b := [c]) (Sum.inr.inj e) |> List.cons.inj |>.1
          have hk : q2.1 ∈ res.map (·.1) := List.mem_map.mpr ⟨q2, hq2, rfl⟩
          rw [hr.keys, ec] at hk
          obtain ⟨q3, hq3, e3⟩ := List.mem_map.mp hk
          obtain ⟨c2, hc2, e4⟩ := List.mem_filterMap.mp hq3
          have hcc : c ∈ linksL.take i := by
            cases e5 : lookT tb c2 with
            | none => rw [e5] at e4; cases e4
            | some r5 => rw [e5] at e4; cases e4; rw [← e3]; exact hc2
          have hi4 : i < 4 := hi
          match i, hi4, hc', hcc with
          | 0, _, hc', hcc => simp at hcc
          | 1, _, hc', hcc => simp [linksL] at hc' hcc; omega
          | 2, _, hc', hcc => simp [linksL] at hc' hcc; omega
          | 3, _, hc', hcc => simp [linksL] at hc' hcc; omega
        rw [enew]
        have nDp : p ≠ D := fun z => owD.nt (.inr z.symm)
        have nDx : x ≠ D := fun z => owD.nt (.inl z.symm)
        refine ⟨I', _, g10.put owD, owD.put, by rw [upd_ne nDp]; exact hp10, by rw [upd_ne nDx]; exact hx10, ?_, by rw [List.length_append]; exact Nat.succ_le_succ hrl⟩
        rw [List.filterMap_cons, h2]
        exact Nw.Paired.snoc hr ⟨rfl, hlink⟩
    · rintro H3 ⟨I', res, g10, owD, hp10, hx10, hr, hrl⟩
      have nDx : x ≠ D := fun z => owD.nt (.inl z.symm)
      have ix3 : I' x = none := g10.fresh x ix (by rw [hx]; exact fun z => nomatch z)
      refine ⟨_, rfl, x, _, dx, _, rfl, hx10, T.cl_Timetable, T.na_Timetable_own_links, by decide, ?_⟩
      have g11 := (g10.give owD).chg (o' := .ins (He.ga K "Timetable") dx [("own_links", .ref D)]) (.inl rfl) (by rw [upd_ne nDx]; exact ix3)
      have eord : (linksL.take ("abcd" : Str).cps.size).filterMap (fun c => (lookT tb c).map fun r => (c, r)) = orderT tb := rfl
      rw [eord] at hr
      exact k D res _ _ g11 upd_same upd_same (hr.up (Same.up owD.ni))
end
end Nw

namespace Nw
open PySem PySem.Spec PyProof.Rows L2
/-! ### ends and begins by the law, at any moment; the law's own messages -/
def IsEnd (rs : Rides) (t e : Int) : Prop := (∃ r ∈ rs, t ≤ r.1 ∧ r.2 = e) ∧ ∀ q ∈ rs, t ≤ q.1 → e ≤ q.2
structure Drawn (I : Hp) (l : List Nat) (ps : List (V × Ms)) (R : Nat → Rides) : Prop where
  is : ∀ q ∈ ps, isMs I q.1 q.2
  letter : ∀ q ∈ ps, q.2.1 ∈ l
  small : ∀ q ∈ ps, q.2.2.1.natAbs ≤ 1000 ∧ q.2.2.2.natAbs ≤ 1000
  ends : ∀ q ∈ ps, IsEnd (R q.2.1) q.2.2.1 q.2.2.2
  ride : ∀ c, ∀ r ∈ R c, r.1 ≤ r.2
theorem cd62 : CDiv 6 2 := by unfold CDiv; decide
theorem pick5 {j : Nat} {x : V} (h : [V.int 0, V.int 1, V.int 1, V.int 2, V.int 3][j]? = some x) : ∃ z, x = .int z ∧ 0 ≤ z ∧ z ≤ 3 := by
  have z := List.mem_of_getElem? h
  simp only [List.mem_cons, List.not_mem_nil, or_false] at z
  rcases z with rfl | rfl | rfl | rfl | rfl
  · exact ⟨0, rfl, by decide, by decide⟩
  · exact ⟨1, rfl, by decide, by decide⟩
  · exact ⟨1, rfl, by decide, by decide⟩
  · exact ⟨2, rfl, by decide, by decide⟩
  · exact ⟨3, rfl, by decide, by decide⟩
theorem pick5b {j : Nat} {x : V} (h : [V.int 0, V.int 0, V.int 1, V.int 2, V.int 3][j]? = some x) : ∃ z, x = .int z ∧ 0 ≤ z ∧ z ≤ 3 := by
  have z := List.mem_of_getElem? h
  simp only [List.mem_cons, List.not_mem_nil, or_false] at z
  rcases z with rfl | rfl | rfl | rfl | rfl
  · exact ⟨0, rfl, by decide, by decide⟩
  · exact ⟨0, rfl, by decide, by decide⟩
  · exact ⟨1, rfl, by decide, by decide⟩
  · exact ⟨2, rfl, by decide, by decide⟩
  · exact ⟨3, rfl, by decide, by decide⟩
def placeM : Mom → Int
  | .first => 0 - 10 ^ 45
  | .last => 10 ^ 45
  | .num t => t
theorem cp10 (k : Int) (h0 : 0 ≤ k) (h : k ≤ 100) : CPow 10 k := ⟨h0, by omega, by decide⟩
def sp_l_place (K : PySem.W.Frag) : Sp := fun vs H Q _ => ∃ (I : Hp) (m : Mom), vs = [m.v] ∧ Same I H ∧ ∀ I' H', Grow No I H I' H' → Q (.int (placeM m)) H'
def sp_l_end (K : PySem.W.Frag) : Sp := fun vs H Q _ => ∃ (I : Hp) (p : Addr) (ws : List V) (rs : Rides) (m : Mom), vs = [.ref p, m.v] ∧ Same I H ∧ H p = some (.lst ws) ∧ Paired (Rep.is I) ws rs ∧ rs.length ≤ 100000 ∧ ∀ I' H', Grow No I H I' H' → Q (endsF rs m).2.v H'
def sp_l_begin (K : PySem.W.Frag) : Sp := fun vs H Q _ => ∃ (I : Hp) (p : Addr) (ws : List V) (rs : Rides) (m : Mom), vs = [.ref p, m.v] ∧ Same I H ∧ H p = some (.lst ws) ∧ Paired (Rep.is I) ws rs ∧ rs.length ≤ 100000 ∧ ∀ I' H', Grow No I H I' H' → Q (begF rs m).1.v H'
def sp_l_far (K : PySem.W.Frag) : Sp := fun vs H Q _ => ∃ (I : Hp) (D : DA) (n : Nat), vs = [.ref D.d] ∧ Drw D n I H ∧ n + 2 < lim ∧ ∀ (z : Int) I' H', z.natAbs ≤ 10 ^ 38 → Grow (TD D) I H I' H' → Drw D (n + 2) I' H' → Q (.int z) H'
theorem late_mem {rs : Rides} {t e : Int} : e ∈ (rs.filterMap fun r => if r.1 ≥ t then some r.2 else none) ↔ ∃ r ∈ rs, t ≤ r.1 ∧ r.2 = e := by
  rw [List.mem_filterMap]
  constructor
  · rintro ⟨r, hr, h⟩
    split at h
    · cases h
      exact ⟨r, hr, by assumption, rfl⟩
    · cases h
  · rintro ⟨r, hr, h, rfl⟩
    exact ⟨r, hr, if_pos h⟩
theorem early_mem {rs : Rides} {t e : Int} : e ∈ (rs.filterMap fun r => if r.2 ≤ t then some r.1 else none) ↔ ∃ r ∈ rs, r.2 ≤ t ∧ r.1 = e := by
  rw [List.mem_filterMap]
  constructor
  · rintro ⟨r, hr, h⟩
    split at h
    · cases h
      exact ⟨r, hr, by assumption, rfl⟩
    · cases h
  · rintro ⟨r, hr, h, rfl⟩
    exact ⟨r, hr, if_pos h⟩
theorem end_is {rs : Rides} {t : Int} (h : ∃ r ∈ rs, t ≤ r.1) : ∃ e, (endsF rs (.num t)).2 = .num e ∧ IsEnd rs t e := by
  have hm := @late_mem rs t
  show ∃ e, numLate (rs.filterMap fun r => if r.1 ≥ t then some r.2 else none) = .num e ∧ _
  generalize (rs.filterMap fun r => if r.1 ≥ t then some r.2 else none) = es at hm
  cases es with
  | nil =>
    obtain ⟨r, hr, h⟩ := h
    exact nomatch (hm (e := r.2)).mpr ⟨r, hr, h, rfl⟩
  | cons e l => exact ⟨minL e l, rfl, hm.mp (minL_mem l e), fun q hq hz => by
      rcases List.mem_cons.mp (hm.mpr ⟨q, hq, hz, rfl⟩) with z | z
      · rw [z]; exact (minL_le l e).1
      · exact (minL_le l e).2 _ z⟩
section
variable {P : Program} {w : World} {K : PySem.W.Frag} {mg : Str → Option Value} {base : Heap}
theorem ok_l_place (T : Txt K mg) (F : FnAt K "_law_place" "_law_place" s_l_place (He.ga K "_law_place"))  : Ok P w K mg base CX0 1 (He.ga K "_law_place") ["_law_moment_here"] (sp_l_place K) := by
  refine ok_of F sc_l_place (fun _ _ _ _ _ _ us hl => match us, hl with | [_], _ => rfl) (fun vs H Q E h => ?_) (fun cdv A outer s H vs Q E hr h => ?_)
  · obtain ⟨_, _, rfl, _⟩ := h
    rfl
  · obtain ⟨I, m, rfl, sb, k⟩ := h
    refine ⟨_, (pss_cons (ps_if (pt_cmpR op_in_seq (pv 0) (pe_tup (pa_cons pe_str (pa_cons pe_str pa_nil))) (by with_unfolding_all rfl)) (pss_one (ps_ret (pe_ifExp (pt_cmpR op_eq (pv 0) pe_str (nomark _)) (pe_op op_sub pe_int (pe_op op_pow pe_int pe_int)) (pe_op op_pow pe_int pe_int)))) pss_nil)
      (pss_one (ps_ret (pv 0)))), ?_⟩
    refine ⟨_, rfl, by decide, fun p hp1 => ⟨p, _, rfl, .inr (SqT.of upd_same), m.flat, rfl, _, rfl, ?_⟩⟩
    have g1 : Grow No I H _ (upd H p (.tup [V.str "first", V.str "last"])) := Grow.new sb hp1
    match m, k with
    | .first, k => exact iteT ⟨_, rfl, rfl, _, rfl, iteT ⟨_, _, rfl, rfl, ⟨by decide, by decide, by decide⟩, _, _, rfl, rfl, k _ _ g1⟩⟩
    | .last, k => exact iteT ⟨_, rfl, rfl, _, rfl, iteF ⟨_, _, rfl, rfl, ⟨by decide, by decide, by decide⟩, k _ _ g1⟩⟩
    | .num t, k => exact iteF ⟨_, rfl, k _ _ g1⟩
theorem ok_l_end (T : Txt K mg) (F : FnAt K "_law_end" "_law_end" s_l_end (He.ga K "_law_end"))  : Ok P w K mg base CX0 1 (He.ga K "_law_end") ["_law_rides", "_law_moment_here"] (sp_l_end K) := by
  refine ok_of F sc_l_end (fun _ _ _ _ _ _ us hl => match us, hl with | [_, _], _ => rfl) (fun vs H Q E h => ?_) (fun cdv A outer s H vs Q E hr h => ?_)
  · obtain ⟨_, _, _, _, _, rfl, _⟩ := h
    rfl
  · obtain ⟨I, a, vs, rs, m, rfl, sb, ha, hp, hz, k⟩ := h
    refine ⟨_, (pss_cons (ps_if (pt_cmpR op_in_seq (pv 1) (pe_tup (pa_cons pe_str (pa_cons pe_str pa_nil))) (by with_unfolding_all rfl)) (pss_one (ps_ret (pv 1))) pss_nil)
      (pss_cons (ps_setLc (i := 2) (own := [("_law_begin_here", 3), ("_law_end_here", 4)]) (g := (gTup K 2 (gCons (gName 3) (gCons (gName 4) gNil)))) rfl sc_l_end.nd rfl rfl (sw_true rfl rfl rfl (by decide +kernel)) (pi_list (pv 0)) (blkOk_by (own := [("_law_begin_here", 3), ("_law_end_here", 4)]) (N := n_l_end) (sc := defScope s_l_end) (by decide +kernel)) (fun _ _ _ _ _ => (pg_tup (by rfl) (pgs_cons (pg_name (i := 3) sc_l_end.nd rfl (Or.inl rfl)) (pgs_cons (pg_name (i := 4) sc_l_end.nd rfl (Or.inl rfl)) pgs_nil)))) (fun _ _ _ _ _ => (pts_one (pt_cmpR op_ge (pv 3) (pv 1) (nomark _)))) (fun _ _ _ _ _ => (pv 4)))
      (pss_one (ps_ret (pe_ifExp (pt_cmpR (op_neNil hr.units) (pv 2) (pe_lst pa_nil) (nomark _)) (pe_ix ix_list (pe_callB cr_sortedI (by rfl) T.b_sorted (by decide +kernel) (pa_cons (pe_lc (own := [("_law_end_here", 4)]) (g := (gName 4)) rfl sc_l_end.nd (pi_list (pv 2)) (blkOk_by (own := [("_law_end_here", 4)]) (N := n_l_end) (sc := defScope s_l_end) (by decide +kernel)) (fun _ _ _ _ _ => (pg_name (i := 4) sc_l_end.nd rfl (Or.inl rfl))) (fun _ _ _ _ _ => pts_nil) (fun _ _ _ _ _ => (pe_callTy call_int1 (by rfl) T.b_int (by decide +kernel) (pa_cons (pv 4) pa_nil)))) pa_nil)) pe_int (fun _ _ => rfl)) pe_str))))), ?_⟩
    refine ⟨_, rfl, by decide, fun p hp1 => ⟨p, _, rfl, .inr (SqT.of upd_same), m.flat, rfl, _, rfl, ?_⟩⟩
    have g1 : Grow No I H _ (upd H p (.tup [V.str "first", V.str "last"])) := Grow.new sb hp1
    match m, k with
    | .first, k => exact iteT ⟨_, rfl, k _ _ g1⟩
    | .last, k => exact iteT ⟨_, rfl, k _ _ g1⟩
    | .num t, k =>
      refine iteF ⟨_, rfl, a, rfl, ⟨_, SqL.of (g1.same _ _ ha)⟩, fun L hL => ?_⟩
      refine lc_pure (β := Int) walk_list rs (fun r => if r.1 ≥ t then some r.2 else none) (Nw.Paired.len hp).symm g1.sub hL (by rw [Nw.Paired.len hp]; omega) (fun I' H' g => SqL.of (g.same _ _ (g1.same _ _ ha))) ?_ ?_
      · rintro i r x I' H' H'' hr g ⟨rfl, hx⟩ Kn Ky kn ky
        obtain ⟨x', hx', b, v1, v2, rfl, hb, h1, h2⟩ := Nw.Paired.at hp hr
        rw [hx] at hx'
        cases hx'
        cases h1
        cases h2
        refine ⟨b, _, rfl, SqT.of (g.sub _ _ (g.view _ _ (g1.view _ _ hb))), rfl, _, _, rfl, _, _, rfl, rfl, rfl, ?_⟩
        refine ⟨_, rfl, _, rfl, _, _, rfl, rfl, _, rfl, ?_⟩
        refine ite2 (fun c => ?_) (fun c => ?_)
        · exact ⟨_, rfl, ky _ (if_pos (of_decide_eq_true c)) _ I' H'' (Grow.refl g.sub) rfl⟩
        · exact kn (if_neg (fun z => c (decide_eq_true z))) I' H'' (Grow.refl g.sub)
      · intro I2 H2 vs2 g2 ow hp2
        have e := Paired.ints hp2
        subst e
        have hmem : ∀ e, e ∈ rs.filterMap (fun r => if r.1 ≥ t then some r.2 else none) ↔ ∃ r ∈ rs, t ≤ r.1 ∧ r.2 = e := fun e => by
          rw [List.mem_filterMap]
          constructor
          · rintro ⟨r, hr, h⟩
            split at h
            · cases h
              exact ⟨r, hr, by assumption, rfl⟩
            · cases h
          · rintro ⟨r, hr, h, rfl⟩
            exact ⟨r, hr, if_pos h⟩
        have hle : (rs.filterMap (fun r => if r.1 ≥ t then some r.2 else none)).length ≤ rs.length := List.length_filterMap_le _ _
        have hk : (endsF rs (.num t)).2 = numLate (rs.filterMap fun r => if r.1 ≥ t then some r.2 else none) := rfl
        rw [hk] at k
        clear hmem hk
        revert hle ow hp2 k
        generalize rs.filterMap (fun r => if r.1 ≥ t then some r.2 else none) = es
        intro k ow hp2 hle
        refine ⟨_, rfl, by decide, fun q hq => ⟨L, q, _, rfl, rfl, SqL.of (by rw [upd_ne (ne_of_none ow.at_ hq)]; exact ow.at_), SqL.of upd_same, _, rfl, ?_⟩⟩
        have gq := Grow.mine (T := No) (o := .lst []) g2.sub hq
        have g3 := (g1.trans g2).trans gq
        have ow3 := ow.grow gq
        cases es with
        | nil => exact iteF (k _ _ g3)
        | cons e r =>
          refine iteT ⟨_, rfl, L, rfl, ⟨_, SqL.of ow3.at_⟩, fun M hM => ?_⟩
          refine lc_pure (β := Int) walk_list (e :: r) (fun e => some e) (by rw [List.length_map]) g3.sub hM (by rw [List.length_map]; omega) (fun I' H' g => SqL.of (g.same _ _ ow3.at_)) ?_ ?_
          · rintro i r x I' H' H'' hr g ⟨rfl, hx⟩ Kn Ky kn ky
            obtain ⟨r', hr', rfl⟩ := getI hx
            rw [hr] at hr'
            cases hr'
            exact ⟨rfl, lc_yes ⟨_, rfl, .inl ⟨_, rfl, ky _ rfl _ I' H'' (Grow.refl g.sub) rfl⟩⟩⟩
          · intro I4 H4 vs4 g4 ow4 hp4
            have e4 := Paired.ints hp4
            rw [fm_some, List.map_id'] at e4
            subst e4
            refine ⟨M, _, rfl, SqL.of ow4.at_, fun ks p perm rising hpn => ?_⟩
            have g5 := (g3.trans g4).trans (Grow.mine (T := No) (o := .lst (ks.map V.int)) g4.sub hpn)
            cases ks with
            | nil => exact nomatch perm.length_eq
            | cons y ys =>
              have hy : y ∈ e :: r := perm.mem_iff.mp (List.mem_cons_self ..)
              have hmin : ∀ z ∈ e :: r, y ≤ z := fun z hz => by
                rcases List.mem_cons.mp (perm.mem_iff.mpr hz) with rfl | h
                · exact Int.le_refl _
                · exact (List.pairwise_cons.mp rising).1 z h
              cases min_uniq hy hmin
              exact ⟨p, _, 0, .int _, rfl, rfl, SqL.of upd_same, (by rw [atI_nat' (j := 0) (by decide)]; rfl), k _ _ g5⟩
theorem ok_l_begin (T : Txt K mg) (F : FnAt K "_law_begin" "_law_begin" s_l_begin (He.ga K "_law_begin"))  : Ok P w K mg base CX0 1 (He.ga K "_law_begin") ["_law_rides", "_law_moment_here"] (sp_l_begin K) := by
  refine ok_of F sc_l_begin (fun _ _ _ _ _ _ us hl => match us, hl with | [_, _], _ => rfl) (fun vs H Q E h => ?_) (fun cdv A outer s H vs Q E hr h => ?_)
  · obtain ⟨_, _, _, _, _, rfl, _⟩ := h
    rfl
  · obtain ⟨I, a, vs, rs, m, rfl, sb, ha, hp, hz, k⟩ := h
    refine ⟨_, (pss_cons (ps_if (pt_cmpR op_in_seq (pv 1) (pe_tup (pa_cons pe_str (pa_cons pe_str pa_nil))) (by with_unfolding_all rfl)) (pss_one (ps_ret (pv 1))) pss_nil)
      (pss_cons (ps_setLc (i := 2) (own := [("_law_begin_here", 3), ("_law_end_here", 4)]) (g := (gTup K 2 (gCons (gName 3) (gCons (gName 4) gNil)))) rfl sc_l_begin.nd rfl rfl (sw_true rfl rfl rfl (by decide +kernel)) (pi_list (pv 0)) (blkOk_by (own := [("_law_begin_here", 3), ("_law_end_here", 4)]) (N := n_l_begin) (sc := defScope s_l_begin) (by decide +kernel)) (fun _ _ _ _ _ => (pg_tup (by rfl) (pgs_cons (pg_name (i := 3) sc_l_begin.nd rfl (Or.inl rfl)) (pgs_cons (pg_name (i := 4) sc_l_begin.nd rfl (Or.inl rfl)) pgs_nil)))) (fun _ _ _ _ _ => (pts_one (pt_cmpR op_le (pv 4) (pv 1) (nomark _)))) (fun _ _ _ _ _ => (pv 3)))
      (pss_one (ps_ret (pe_ifExp (pt_cmpR (op_neNil hr.units) (pv 2) (pe_lst pa_nil) (nomark _)) (pe_ix ix_list (pe_callB cr_sortedI (by rfl) T.b_sorted (by decide +kernel) (pa_cons (pe_lc (own := [("_law_begin_here", 3)]) (g := (gName 3)) rfl sc_l_begin.nd (pi_list (pv 2)) (blkOk_by (own := [("_law_begin_here", 3)]) (N := n_l_begin) (sc := defScope s_l_begin) (by decide +kernel)) (fun _ _ _ _ _ => (pg_name (i := 3) sc_l_begin.nd rfl (Or.inl rfl))) (fun _ _ _ _ _ => pts_nil) (fun _ _ _ _ _ => (pe_callTy call_int1 (by rfl) T.b_int (by decide +kernel) (pa_cons (pv 3) pa_nil)))) pa_nil)) (pe_un un_neg pe_int) (fun _ _ => rfl)) pe_str))))), ?_⟩
    refine ⟨_, rfl, by decide, fun p hp1 => ⟨p, _, rfl, .inr (SqT.of upd_same), m.flat, rfl, _, rfl, ?_⟩⟩
    have g1 : Grow No I H _ (upd H p (.tup [V.str "first", V.str "last"])) := Grow.new sb hp1
    match m, k with
    | .first, k => exact iteT ⟨_, rfl, k _ _ g1⟩
    | .last, k => exact iteT ⟨_, rfl, k _ _ g1⟩
    | .num t, k =>
      refine iteF ⟨_, rfl, a, rfl, ⟨_, SqL.of (g1.same _ _ ha)⟩, fun L hL => ?_⟩
      refine lc_pure (β := Int) walk_list rs (fun r => if r.2 ≤ t then some r.1 else none) (Nw.Paired.len hp).symm g1.sub hL (by rw [Nw.Paired.len hp]; omega) (fun I' H' g => SqL.of (g.same _ _ (g1.same _ _ ha))) ?_ ?_
      · rintro i r x I' H' H'' hr g ⟨rfl, hx⟩ Kn Ky kn ky
        obtain ⟨x', hx', b, v1, v2, rfl, hb, h1, h2⟩ := Nw.Paired.at hp hr
        rw [hx] at hx'
        cases hx'
        cases h1
        cases h2
        refine ⟨b, _, rfl, SqT.of (g.sub _ _ (g.view _ _ (g1.view _ _ hb))), rfl, _, _, rfl, _, _, rfl, rfl, rfl, ?_⟩
        refine ⟨_, rfl, _, rfl, _, _, rfl, rfl, _, rfl, ?_⟩
        refine ite2 (fun c => ?_) (fun c => ?_)
        · exact ⟨_, rfl, ky _ (if_pos (of_decide_eq_true c)) _ I' H'' (Grow.refl g.sub) rfl⟩
        · exact kn (if_neg (fun z => c (decide_eq_true z))) I' H'' (Grow.refl g.sub)
      · intro I2 H2 vs2 g2 ow hp2
        have e := Paired.ints hp2
        subst e
        have hmem : ∀ e, e ∈ rs.filterMap (fun r => if r.2 ≤ t then some r.1 else none) ↔ ∃ r ∈ rs, r.2 ≤ t ∧ r.1 = e := fun e => by
          rw [List.mem_filterMap]
          constructor
          · rintro ⟨r, hr, h⟩
            split at h
            · cases h
              exact ⟨r, hr, by assumption, rfl⟩
            · cases h
          · rintro ⟨r, hr, h, rfl⟩
            exact ⟨r, hr, if_pos h⟩
        have hle : (rs.filterMap (fun r => if r.2 ≤ t then some r.1 else none)).length ≤ rs.length := List.length_filterMap_le _ _
        have hk : (begF rs (.num t)).1 = numEarly (rs.filterMap fun r => if r.2 ≤ t then some r.1 else none) := rfl
        rw [hk] at k
        clear hmem hk
        revert hle ow hp2 k
        generalize rs.filterMap (fun r => if r.2 ≤ t then some r.1 else none) = es
        intro k ow hp2 hle
        refine ⟨_, rfl, by decide, fun q hq => ⟨L, q, _, rfl, rfl, SqL.of (by rw [upd_ne (ne_of_none ow.at_ hq)]; exact ow.at_), SqL.of upd_same, _, rfl, ?_⟩⟩
        have gq := Grow.mine (T := No) (o := .lst []) g2.sub hq
        have g3 := (g1.trans g2).trans gq
        have ow3 := ow.grow gq
        cases es with
        | nil => exact iteF (k _ _ g3)
        | cons e r =>
          refine iteT ⟨_, rfl, L, rfl, ⟨_, SqL.of ow3.at_⟩, fun M hM => ?_⟩
          refine lc_pure (β := Int) walk_list (e :: r) (fun e => some e) (by rw [List.length_map]) g3.sub hM (by rw [List.length_map]; omega) (fun I' H' g => SqL.of (g.same _ _ ow3.at_)) ?_ ?_
          · rintro i r x I' H' H'' hr g ⟨rfl, hx⟩ Kn Ky kn ky
            obtain ⟨r', hr', rfl⟩ := getI hx
            rw [hr] at hr'
            cases hr'
            exact ⟨rfl, lc_yes ⟨_, rfl, .inl ⟨_, rfl, ky _ rfl _ I' H'' (Grow.refl g.sub) rfl⟩⟩⟩
          · intro I4 H4 vs4 g4 ow4 hp4
            have e4 := Paired.ints hp4
            rw [fm_some, List.map_id'] at e4
            subst e4
            refine ⟨M, _, rfl, SqL.of ow4.at_, fun ks p perm rising hpn => ?_⟩
            have g5 := (g3.trans g4).trans (Grow.mine (T := No) (o := .lst (ks.map V.int)) g4.sub hpn)
            rcases List.eq_nil_or_concat ks with rfl | ⟨ys, y, rfl⟩
            · exact nomatch perm.length_eq
            · rw [List.concat_eq_append] at perm rising g5 ⊢
              have hy : y ∈ e :: r := perm.mem_iff.mp (List.mem_append_right _ (List.mem_singleton.mpr rfl))
              have hmax : ∀ z ∈ e :: r, z ≤ y := fun z hz => by
                rcases List.mem_append.mp (perm.mem_iff.mpr hz) with h | h
                · exact (List.pairwise_append.mp rising).2.2 z h y (List.mem_singleton.mpr rfl)
                · rw [List.mem_singleton] at h; rw [h]; exact Int.le_refl _
              cases max_uniq hy hmax
              exact ⟨_, rfl, p, _, -1, .int _, rfl, rfl, SqL.of upd_same, (by rw [List.map_append]; exact atI_last _ _), k _ _ g5⟩
end
end Nw

namespace Nw
open PySem PySem.Spec PyProof.Rows L2
/-! ### what the law looks at: rides of a letter, its own bounds, what can be an end or a begin -/
def sp_l_rides_of (K : PySem.W.Frag) : Sp := fun vs H Q _ => ∃ (I : Hp) (p : Addr) (ws : List V) (ms : List Ms) (c : Nat), vs = [.ref p, .str (sg c)] ∧ Same I H ∧ I p = some (.lst ws) ∧ Paired (isMs I) ws ms ∧ ms.length ≤ 1000 ∧ ∀ v' I' H', Grow No I H I' H' → isL I' v' (ridesL ms c) → Q v' H'
def sp_l_ends_of (K : PySem.W.Frag) : Sp := fun vs H Q _ => ∃ (I : Hp) (p : Addr) (ws : List V) (rs : Rides) (m : Mom), vs = [.ref p, m.v] ∧ Same I H ∧ I p = some (.lst ws) ∧ Paired (Rep.is I) ws rs ∧ rs.length ≤ 100000 ∧ ∀ v' I' H', Grow No I H I' H' → isMM I' v' (endsF rs m) → Q v' H'
def sp_l_begins_of (K : PySem.W.Frag) : Sp := fun vs H Q _ => ∃ (I : Hp) (p : Addr) (ws : List V) (rs : Rides) (m : Mom), vs = [.ref p, m.v] ∧ Same I H ∧ I p = some (.lst ws) ∧ Paired (Rep.is I) ws rs ∧ rs.length ≤ 100000 ∧ ∀ v' I' H', Grow No I H I' H' → isMM I' v' (begF rs m) → Q v' H'
def hasF (rs xs : Rides) : Bool := xs.all fun r => decide ((endsF rs (.num r.1)).2 = .num r.2)
def sp_l_has (K : PySem.W.Frag) : Sp := fun vs H Q _ => ∃ (I : Hp) (p q : Addr) (ws us : List V) (rs xs : Rides), vs = [.ref p, .ref q] ∧ Same I H ∧ H p = some (.lst ws) ∧ Paired (Rep.is I) ws rs ∧ rs.length ≤ 100000 ∧ I q = some (.lst us) ∧ Paired (Rep.is I) us xs ∧ xs.length ≤ 100000 ∧ ∀ I' H', Grow No I H I' H' → Q (.bl (hasF rs xs)) H'
def canE (rs : Rides) (t : Int) : Mom → Bool
  | .num e => decide (t ≤ e) && (hasF (rs ++ [(t, e)]) rs && decide ((endsF (rs ++ [(t, e)]) (.num t)).2 = .num e))
  | m => hasF rs rs && decide ((endsF rs (.num t)).2 = m)
def canB (rs : Rides) (t : Int) : Mom → Bool
  | .num b => decide (b ≤ t) && (hasF (rs ++ [(b, t)]) rs && decide ((begF (rs ++ [(b, t)]) (.num t)).1 = .num b))
  | m => hasF rs rs && decide ((begF rs (.num t)).1 = m)
def sp_l_can_end (K : PySem.W.Frag) : Sp := fun vs H Q _ => ∃ (I : Hp) (p : Addr) (ws : List V) (rs : Rides) (t : Int) (m : Mom), vs = [.ref p, .int t, m.v] ∧ Same I H ∧ I p = some (.lst ws) ∧ Paired (Rep.is I) ws rs ∧ rs.length ≤ 1000 ∧ m ≠ .first ∧ ∀ I' H', Grow No I H I' H' → Q (.bl (canE rs t m)) H'
def sp_l_can_begin (K : PySem.W.Frag) : Sp := fun vs H Q _ => ∃ (I : Hp) (p : Addr) (ws : List V) (rs : Rides) (t : Int) (m : Mom), vs = [.ref p, .int t, m.v] ∧ Same I H ∧ I p = some (.lst ws) ∧ Paired (Rep.is I) ws rs ∧ rs.length ≤ 1000 ∧ m ≠ .last ∧ ∀ I' H', Grow No I H I' H' → Q (.bl (canB rs t m)) H'
def betw (a b m : Mom) : Bool := decide (placeM a ≤ placeM m) && decide (placeM m ≤ placeM b)
def sp_l_between (K : PySem.W.Frag) : Sp := fun vs H Q _ => ∃ (I : Hp) (a b m : Mom), vs = [a.v, b.v, m.v] ∧ Same I H ∧ ∀ I' H', Grow No I H I' H' → Q (.bl (betw a b m)) H'
theorem head_min {t : Int} {es ks : List Int} (perm : ks.Perm (t :: es)) (rising : ks.Pairwise (· ≤ ·)) : ∃ ys, ks = minL t es :: ys := by
  cases ks with
  | nil => exact nomatch perm.length_eq
  | cons y ys =>
    have hy : y ∈ t :: es := perm.mem_iff.mp (List.mem_cons_self ..)
    have hmin : ∀ z ∈ t :: es, y ≤ z := fun z hz => by
      rcases List.mem_cons.mp (perm.mem_iff.mpr hz) with rfl | h
      · exact Int.le_refl _
      · exact (List.pairwise_cons.mp rising).1 z h
    exact ⟨ys, by rw [min_uniq hy hmin]⟩
theorem last_max {t : Int} {es ks : List Int} (perm : ks.Perm (t :: es)) (rising : ks.Pairwise (· ≤ ·)) : ∃ ys, ks = ys ++ [maxL t es] := by
  rcases List.eq_nil_or_concat ks with rfl | ⟨ys, y, rfl⟩
  · exact nomatch perm.length_eq
  · rw [List.concat_eq_append] at perm rising ⊢
    have hy : y ∈ t :: es := perm.mem_iff.mp (List.mem_append_right _ (List.mem_singleton.mpr rfl))
    have hmax : ∀ z ∈ t :: es, z ≤ y := fun z hz => by
      rcases List.mem_append.mp (perm.mem_iff.mpr hz) with h | h
      · exact (List.pairwise_append.mp rising).2.2 z h y (List.mem_singleton.mpr rfl)
      · rw [List.mem_singleton] at h; rw [h]; exact Int.le_refl _
    exact ⟨ys, by rw [max_uniq hy hmax]⟩
section
variable {P : Program} {w : World} {K : PySem.W.Frag} {mg : Str → Option Value} {base : Heap}
end
end Nw

namespace Nw
open PySem PySem.Spec PyProof.Rows L2
/-! ### a link of a timetable, asked for an end -/
def endedL (rs : Rides) : Mom → Mom
  | .num t => match rs.filterMap (fun r => if r.1 ≥ t then some r.2 else none) with
    | [] => .last
    | e :: _ => .num e
  | m => m
def begunL (rs : Rides) : Mom → Mom
  | .num t => match (rs.filterMap (fun r => if r.2 ≤ t then some r.1 else none)).reverse with
    | [] => .first
    | b :: _ => .num b
  | m => m
def sp_ended (K : PySem.W.Frag) : Sp := fun vs H Q _ => ∃ (I : Hp) (v : V) (rs : Rides) (m : Mom), vs = [v, m.v] ∧ isU I v rs ∧ rs.length ≤ 100000 ∧ Same I H ∧ ∀ I' H', Grow No I H I' H' → Q (endedL rs m).v H'
def sp_Link_end (K : PySem.W.Frag) : Sp := fun vs H Q _ => ∃ (I : Hp) (v : V) (ns : Rides) (m : Mom), vs = [v, m.v] ∧ isLink K I v ns ∧ ns.length ≤ 100000 ∧ Same I H ∧ ∀ I' H', Grow No I H I' H' → Q (endedL ns m).v H'
def sp_Timetable__getitem (K : PySem.W.Frag) : Sp := fun vs H Q _ => ∃ (a dx d : Addr) (kvs : List (Nat × V)) (c : Nat) (v : V), vs = [.ref a, .str (sg c)] ∧ H a = some (.ins (He.ga K "Timetable") dx [("own_links", .ref d)]) ∧ H d = some (.dK (kvs.map kvS)) ∧ lookT kvs c = some v ∧ Q v H
theorem look_at {α : Type} : ∀ {kvs : List (Nat × α)} {j c : Nat} {v : α}, (kvs.map (·.1)).Nodup → kvs[j]? = some (c, v) → lookT kvs c = some v
  | p :: kvs, 0, c, v, _, e => by
    cases e
    unfold lookT
    rw [List.find?_cons_of_pos (by exact decide_eq_true rfl)]
    rfl
  | p :: kvs, j + 1, c, v, nd, e => by
    rw [List.map_cons, List.nodup_cons] at nd
    have h := look_at (j := j) nd.2 e
    have hm : c ∈ kvs.map (·.1) := List.mem_map.mpr ⟨(c, v), List.mem_of_getElem? e, rfl⟩
    have hne : p.1 ≠ c := fun z => nd.1 (z ▸ hm)
    unfold lookT at h ⊢
    rw [List.find?_cons_of_neg (by rw [decide_eq_false hne]; exact Bool.false_ne_true)]
    exact h
section
variable {P : Program} {w : World} {K : PySem.W.Frag} {mg : Str → Option Value} {base : Heap}
theorem ok_ended (T : Txt K mg) (F : FnAt K "ended" "ended" s_ended (He.ga K "ended"))  : Ok P w K mg base CX0 1 (He.ga K "ended") ["rides", "moment"] (sp_ended K) := by
  refine ok_of F sc_ended (fun _ _ _ _ _ _ us hl => match us, hl with | [_, _], _ => rfl) (fun vs H Q E h => ?_) (fun cdv A outer s H vs Q E hr h => ?_)
  · obtain ⟨_, _, _, _, rfl, _⟩ := h
    rfl
  · obtain ⟨I, v, rs, m, rfl, ⟨a, vs, rfl, ha, hp⟩, hz, sb, k⟩ := h
    refine ⟨_, (pss_cons (ps_if (pt_cmpR op_in_seq (pv 1) (pe_tup (pa_cons (pe_gstr T.c_FIRST) (pa_cons (pe_gstr T.c_LAST) pa_nil))) (by with_unfolding_all rfl)) (pss_one (ps_ret (pv 1))) pss_nil)
      (pss_cons (ps_setLc (i := 2) (own := [("begin", 3), ("end", 4)]) (g := (gTup K 2 (gCons (gName 3) (gCons (gName 4) gNil)))) rfl sc_ended.nd rfl rfl (sw_true rfl rfl rfl (by decide +kernel)) (pi_tup (pv 0)) (blkOk_by (own := [("begin", 3), ("end", 4)]) (N := n_ended) (sc := defScope s_ended) (by decide +kernel)) (fun _ _ _ _ _ => (pg_tup (by rfl) (pgs_cons (pg_name (i := 3) sc_ended.nd rfl (Or.inl rfl)) (pgs_cons (pg_name (i := 4) sc_ended.nd rfl (Or.inl rfl)) pgs_nil)))) (fun _ _ _ _ _ => (pts_one (pt_cmpR op_ge (pv 3) (pv 1) (nomark _)))) (fun _ _ _ _ _ => (pv 4)))
      (pss_one (ps_ret (pe_ifExp (pt_cmpR (op_neNil hr.units) (pv 2) (pe_lst pa_nil) (nomark _)) (pe_ix ix_list (pv 2) pe_int (fun _ _ => rfl)) (pe_gstr T.c_LAST)))))), ?_⟩
    refine ⟨_, rfl, by decide, fun p hp1 => ⟨p, _, rfl, .inr (SqT.of upd_same), m.flat, rfl, _, rfl, ?_⟩⟩
    have g1 : Grow No I H _ (upd H p (.tup [V.str "first", V.str "last"])) := Grow.new sb hp1
    match m, k with
    | .first, k => exact iteT ⟨_, rfl, k _ _ g1⟩
    | .last, k => exact iteT ⟨_, rfl, k _ _ g1⟩
    | .num t, k =>
      refine iteF ⟨_, rfl, a, rfl, ⟨_, SqT.of (g1.sub _ _ (g1.view _ _ ha))⟩, fun L hL => ?_⟩
      refine lc_pure (β := Int) walk_tup rs (fun r => if r.1 ≥ t then some r.2 else none) (Nw.Paired.len hp).symm g1.sub hL (by rw [Nw.Paired.len hp]; omega) (fun I' H' g => SqT.of (g.sub _ _ (g.view _ _ (g1.view _ _ ha)))) ?_ ?_
      · rintro i r x I' H' H'' hr g ⟨rfl, hx⟩ Kn Ky kn ky
        obtain ⟨x', hx', b, v1, v2, rfl, hb, h1, h2⟩ := Nw.Paired.at hp hr
        rw [hx] at hx'
        cases hx'
        cases h1
        cases h2
        refine ⟨b, _, rfl, SqT.of (g.sub _ _ (g.view _ _ (g1.view _ _ hb))), rfl, _, _, rfl, _, _, rfl, rfl, rfl, ?_⟩
        refine ⟨_, rfl, _, rfl, _, _, rfl, rfl, _, rfl, ?_⟩
        refine ite2 (fun c => ?_) (fun c => ?_)
        · exact ⟨_, rfl, ky _ (if_pos (of_decide_eq_true c)) _ I' H'' (Grow.refl g.sub) rfl⟩
        · exact kn (if_neg (fun z => c (decide_eq_true z))) I' H'' (Grow.refl g.sub)
      · intro I2 H2 vs2 g2 ow hp2
        have e := Paired.ints hp2
        subst e
        have ek : endedL rs (.num t) = (match rs.filterMap (fun r => if r.1 ≥ t then some r.2 else none) with
          | [] => .last
          | e :: _ => .num e) := rfl
        rw [ek] at k
        revert ow hp2 k
        generalize rs.filterMap (fun r => if r.1 ≥ t then some r.2 else none) = es
        intro k ow hp2
        refine ⟨_, rfl, by decide, fun q hq => ⟨L, q, _, rfl, rfl, SqL.of (by rw [upd_ne (ne_of_none ow.at_ hq)]; exact ow.at_), SqL.of upd_same, _, rfl, ?_⟩⟩
        have g3 := (g1.trans g2).trans (Grow.mine (T := No) (o := .lst []) g2.sub hq)
        cases es with
        | nil => exact iteF (k _ _ g3)
        | cons e r => exact iteT ⟨_, rfl, L, _, _, _, rfl, rfl, SqL.of (by rw [upd_ne (ne_of_none ow.at_ hq)]; exact ow.at_), (by rw [atI_nat' (j := 0) (by decide)]; rfl), k _ _ g3⟩
theorem ok_Timetable__getitem (T : Txt K mg) (F : FnAt K "__getitem__" "Timetable.__getitem__" s_Timetable__getitem (He.ma K (He.ga K "Timetable") "__getitem__"))  : Ok P w K mg base CX0 2 (He.ma K (He.ga K "Timetable") "__getitem__") ["self", "index"] (sp_Timetable__getitem K) := by
  refine ok_of F sc_Timetable__getitem (fun _ _ _ _ _ _ us hl => match us, hl with | [_, _], _ => rfl) (fun vs H Q E h => ?_) (fun cdv A outer s H vs Q E hr h => ?_)
  · obtain ⟨_, _, _, _, _, _, rfl, _⟩ := h
    rfl
  · obtain ⟨a, dx, d, kvs, c, v, rfl, ha, hd, hk, k⟩ := h
    refine ⟨_, (pss_cons (ps_if (PW.pt (pw_or (pt_not (pt_val (pe_callB call_isi (by rfl) T.b_isinstance (by decide +kernel) (pa_cons (pv 1) (pa_cons (pe_bltn (v := .ty "str") rfl T.b_str (by decide +kernel) rfl) pa_nil))))) (pw_or1 (pt_cmp (pc_dnotin (hu_of hr) (pv 1) (pe_fld (pv 0) rfl)))))) (pss_one ps_never) pss_nil)
      (pss_one (ps_ret (pe_dget (hu_of hr) (pe_fld (pv 0) rfl) (pv 1) (fun _ _ => rfl))))), ?_⟩
    refine ⟨_, rfl, .str (sg c), .ty "str", _, _, true, rfl, .ty _, .base (.str _), kit_refl, true, rfl, iteF ?_⟩
    refine ⟨_, rfl, _, rfl, a, _, dx, _, _, rfl, ha, T.cl_Timetable, T.na_Timetable_own_links, rfl, d, _, rfl, DGet.k (k := .inr (sg c)) hd, ?_⟩
    rw [valV_S, hk]
    refine ⟨false, rfl, iteF ?_⟩
    refine ⟨_, rfl, a, _, dx, _, _, rfl, ha, T.cl_Timetable, T.na_Timetable_own_links, rfl, _, rfl, d, v, rfl, ?_, k⟩
    have z := DGet.k (k := .inr (sg c)) hd
    rw [valV_S, hk] at z
    exact z
theorem ok_Link_end (T : Txt K mg) (F : FnAt K "end" "Link.end" s_Link_end (He.ma K (He.ga K "Link") "end")) (GX_need_moment : Ok P w K mg base (L2.CX P w) 3 (He.ga K "need_moment") ["moment"] (fun vs H Q E => sp_need_moment K vs H Q E ∨ spb_need_moment K vs H Q E)) (G_ended : Ok P w K mg base CX0 1 (He.ga K "ended") ["rides", "moment"] (sp_ended K)) : Ok P w K mg base CX0 4 (He.ma K (He.ga K "Link") "end") ["self", "moment"] (sp_Link_end K) := by
  refine ok_of F sc_Link_end (fun _ _ _ _ _ _ us hl => match us, hl with | [_, _], _ => rfl) (fun vs H Q E h => ?_) (fun cdv A outer s H vs Q E hr h => ?_)
  · obtain ⟨_, _, _, _, rfl, _⟩ := h
    rfl
  · obtain ⟨I, v, ns, m, rfl, ⟨a, dx, t, rfl, ha, hu⟩, hz, sb, k⟩ := h
    refine ⟨_, (pss_cons (ps_expr (pe_callX GX_need_moment (hr.mono (by decide)) T.g_need_moment passN (pa_cons (pv 1) pa_nil)))
      (pss_one (ps_ret (pe_callC G_ended (hr.mono (by decide)) T.g_ended (pa_cons (pe_fld (pv 0) rfl) (pa_cons (pv 1) pa_nil)))))), ?_⟩
    refine ⟨_, rfl, .inl ⟨I, m, rfl, sb, fun I1 H1 g1 => ?_⟩⟩
    refine ⟨_, rfl, a, _, dx, _, _, rfl, g1.sub _ _ (g1.view _ _ ha), T.cl_Link, T.na_Link_own_rides, rfl, _, rfl, I1, t, ns, m, rfl, hu.up g1.view, hz, g1.sub, fun I2 H2 g2 => k I2 H2 (g1.trans g2)⟩
end
end Nw

namespace Nw
open PySem PySem.Spec PyProof.Rows L2
/-! ### the plain law: what can be is what lies between -/
theorem late_num {es : List Int} {e : Int} : numLate es = .num e ↔ e ∈ es ∧ ∀ z ∈ es, e ≤ z := by
  cases es with
  | nil => exact ⟨fun h => (nomatch h), fun h => (nomatch h.1)⟩
  | cons x l =>
    constructor
    · intro h
      have h : minL x l = e := Mom.num.inj h
      rw [← h]
      exact ⟨minL_mem l x, fun z hz => by
        rcases List.mem_cons.mp hz with z1 | z1
        · rw [z1]; exact (minL_le l x).1
        · exact (minL_le l x).2 _ z1⟩
    · rintro ⟨h1, h2⟩
      show Mom.num (minL x l) = .num e
      rw [min_uniq h1 h2]
theorem late_last {es : List Int} : numLate es = .last ↔ es = [] := by
  cases es with
  | nil => exact ⟨fun _ => rfl, fun _ => rfl⟩
  | cons x l => exact ⟨fun h => (nomatch h), fun h => (nomatch h)⟩
theorem early_num {es : List Int} {e : Int} : numEarly es = .num e ↔ e ∈ es ∧ ∀ z ∈ es, z ≤ e := by
  cases es with
  | nil => exact ⟨fun h => (nomatch h), fun h => (nomatch h.1)⟩
  | cons x l =>
    constructor
    · intro h
      have h : maxL x l = e := Mom.num.inj h
      rw [← h]
      exact ⟨maxL_mem l x, fun z hz => by
        rcases List.mem_cons.mp hz with z1 | z1
        · rw [z1]; exact (maxL_ge l x).1
        · exact (maxL_ge l x).2 _ z1⟩
    · rintro ⟨h1, h2⟩
      show Mom.num (maxL x l) = .num e
      rw [max_uniq h1 h2]
theorem early_first {es : List Int} : numEarly es = .first ↔ es = [] := by
  cases es with
  | nil => exact ⟨fun _ => rfl, fun _ => rfl⟩
  | cons x l => exact ⟨fun h => (nomatch h), fun h => (nomatch h)⟩
theorem end_num {rs : Rides} {t e : Int} : (endsF rs (.num t)).2 = .num e ↔ (∃ r ∈ rs, t ≤ r.1 ∧ r.2 = e) ∧ ∀ r ∈ rs, t ≤ r.1 → e ≤ r.2 := by
  show numLate (rs.filterMap fun r => if r.1 ≥ t then some r.2 else none) = .num e ↔ _
  rw [late_num, late_mem]
  exact ⟨fun ⟨h1, h2⟩ => ⟨h1, fun r hr hz => h2 _ (late_mem.mpr ⟨r, hr, hz, rfl⟩)⟩, fun ⟨h1, h2⟩ => ⟨h1, fun z hz => by
    obtain ⟨r, hr, h3, rfl⟩ := late_mem.mp hz
    exact h2 r hr h3⟩⟩
theorem end_last {rs : Rides} {t : Int} : (endsF rs (.num t)).2 = .last ↔ ∀ r ∈ rs, ¬ t ≤ r.1 := by
  show numLate (rs.filterMap fun r => if r.1 ≥ t then some r.2 else none) = .last ↔ _
  rw [late_last]
  constructor
  · intro h r hr hz
    have := late_mem.mpr ⟨r, hr, hz, rfl⟩
    rw [h] at this
    cases this
  · intro h
    cases e : (rs.filterMap fun r => if r.1 ≥ t then some r.2 else none) with
    | nil => rfl
    | cons x l =>
      obtain ⟨r, hr, h3, _⟩ := late_mem.mp (show x ∈ (rs.filterMap fun r => if r.1 ≥ t then some r.2 else none) by rw [e]; exact List.mem_cons_self ..)
      exact absurd h3 (h r hr)
theorem beg_num {rs : Rides} {t e : Int} : (begF rs (.num t)).1 = .num e ↔ (∃ r ∈ rs, r.2 ≤ t ∧ r.1 = e) ∧ ∀ r ∈ rs, r.2 ≤ t → r.1 ≤ e := by
  show numEarly (rs.filterMap fun r => if r.2 ≤ t then some r.1 else none) = .num e ↔ _
  rw [early_num, early_mem]
  exact ⟨fun ⟨h1, h2⟩ => ⟨h1, fun r hr hz => h2 _ (early_mem.mpr ⟨r, hr, hz, rfl⟩)⟩, fun ⟨h1, h2⟩ => ⟨h1, fun z hz => by
    obtain ⟨r, hr, h3, rfl⟩ := early_mem.mp hz
    exact h2 r hr h3⟩⟩
theorem beg_first {rs : Rides} {t : Int} : (begF rs (.num t)).1 = .first ↔ ∀ r ∈ rs, ¬ r.2 ≤ t := by
  show numEarly (rs.filterMap fun r => if r.2 ≤ t then some r.1 else none) = .first ↔ _
  rw [early_first]
  constructor
  · intro h r hr hz
    have := early_mem.mpr ⟨r, hr, hz, rfl⟩
    rw [h] at this
    cases this
  · intro h
    cases e : (rs.filterMap fun r => if r.2 ≤ t then some r.1 else none) with
    | nil => rfl
    | cons x l =>
      obtain ⟨r, hr, h3, _⟩ := early_mem.mp (show x ∈ (rs.filterMap fun r => if r.2 ≤ t then some r.1 else none) by rw [e]; exact List.mem_cons_self ..)
      exact absurd h3 (h r hr)
/-- rides that one link can have -/
def Fit (rs : Rides) : Prop := (∀ r ∈ rs, r.1 ≤ r.2) ∧ ∀ r ∈ rs, ∀ q ∈ rs, r.1 ≤ q.1 → r.2 ≤ q.2
theorem has_iff {rs xs : Rides} (h : ∀ r ∈ xs, r ∈ rs) : hasF rs xs = true ↔ ∀ r ∈ xs, ∀ q ∈ rs, r.1 ≤ q.1 → r.2 ≤ q.2 := by
  unfold hasF
  rw [List.all_eq_true]
  exact ⟨fun z r hr => (end_num.mp (of_decide_eq_true (z r hr))).2, fun z r hr => decide_eq_true (end_num.mpr ⟨⟨r, h r hr, Int.le_refl _, rfl⟩, z r hr⟩)⟩
theorem has_self {rs : Rides} (f : Fit rs) : hasF rs rs = true := (has_iff fun _ h => h).mpr f.2
theorem has_add {rs : Rides} (f : Fit rs) {a b : Int} : hasF (rs ++ [(a, b)]) rs = true ↔ ∀ r ∈ rs, r.1 ≤ a → r.2 ≤ b := by
  rw [has_iff fun r h => List.mem_append_left _ h]
  constructor
  · intro h r hr ha
    exact h r hr (a, b) (List.mem_append_right _ (List.mem_singleton.mpr rfl)) ha
  · intro h r hr q hq hz
    rcases List.mem_append.mp hq with hq | hq
    · exact f.2 r hr q hq hz
    · rw [List.mem_singleton] at hq
      subst hq
      exact h r hr hz
theorem end_add {rs : Rides} {t e : Int} : (endsF (rs ++ [(t, e)]) (.num t)).2 = .num e ↔ ∀ r ∈ rs, t ≤ r.1 → e ≤ r.2 := by
  rw [end_num]
  constructor
  · exact fun h r hr hz => h.2 r (List.mem_append_left _ hr) hz
  · intro h
    refine ⟨⟨(t, e), List.mem_append_right _ (List.mem_singleton.mpr rfl), Int.le_refl _, rfl⟩, fun r hr hz => ?_⟩
    rcases List.mem_append.mp hr with hr | hr
    · exact h r hr hz
    · rw [List.mem_singleton] at hr
      subst hr
      exact Int.le_refl _
theorem beg_add {rs : Rides} {t b : Int} : (begF (rs ++ [(b, t)]) (.num t)).1 = .num b ↔ ∀ r ∈ rs, r.2 ≤ t → r.1 ≤ b := by
  rw [beg_num]
  constructor
  · exact fun h r hr hz => h.2 r (List.mem_append_left _ hr) hz
  · intro h
    refine ⟨⟨(b, t), List.mem_append_right _ (List.mem_singleton.mpr rfl), Int.le_refl _, rfl⟩, fun r hr hz => ?_⟩
    rcases List.mem_append.mp hr with hr | hr
    · exact h r hr hz
    · rw [List.mem_singleton] at hr
      subst hr
      exact Int.le_refl _
theorem max_le {t e : Int} {es : List Int} : maxL t es ≤ e ↔ t ≤ e ∧ ∀ z ∈ es, z ≤ e := by
  constructor
  · intro h
    have := maxL_ge es t
    exact ⟨Int.le_trans this.1 h, fun z hz => Int.le_trans (this.2 z hz) h⟩
  · rintro ⟨h1, h2⟩
    rcases List.mem_cons.mp (maxL_mem es t) with z | z
    · rw [z]; exact h1
    · exact h2 _ z
theorem le_min {t e : Int} {es : List Int} : e ≤ minL t es ↔ e ≤ t ∧ ∀ z ∈ es, e ≤ z := by
  constructor
  · intro h
    have := minL_le es t
    exact ⟨Int.le_trans h this.1, fun z hz => Int.le_trans h (this.2 z hz)⟩
  · rintro ⟨h1, h2⟩
    rcases List.mem_cons.mp (minL_mem es t) with z | z
    · rw [z]; exact h1
    · exact h2 _ z
theorem le_late {e : Int} {es : List Int} (he : e ≤ 10 ^ 45) : e ≤ placeM (numLate es) ↔ ∀ z ∈ es, e ≤ z := by
  cases es with
  | nil => exact ⟨fun _ _ z => (nomatch z), fun _ => he⟩
  | cons x l =>
    show e ≤ minL x l ↔ _
    rw [le_min]
    exact ⟨fun ⟨h1, h2⟩ z hz => (List.mem_cons.mp hz).elim (fun q => q ▸ h1) (h2 z), fun h => ⟨h x (List.mem_cons_self ..), fun z hz => h z (List.mem_cons_of_mem _ hz)⟩⟩
theorem early_le {e : Int} {es : List Int} (he : 0 - 10 ^ 45 ≤ e) : placeM (numEarly es) ≤ e ↔ ∀ z ∈ es, z ≤ e := by
  cases es with
  | nil => exact ⟨fun _ _ z => (nomatch z), fun _ => he⟩
  | cons x l =>
    show maxL x l ≤ e ↔ _
    rw [max_le]
    exact ⟨fun ⟨h1, h2⟩ z hz => (List.mem_cons.mp hz).elim (fun q => q ▸ h1) (h2 z), fun h => ⟨h x (List.mem_cons_self ..), fun z hz => h z (List.mem_cons_of_mem _ hz)⟩⟩
/-- a moment that is no number, or a number not too far -/
def nearM : Mom → Prop
  | .num t => t.natAbs ≤ 10 ^ 40
  | _ => True
theorem upto_mem {rs : Rides} {t e : Int} : e ∈ (rs.filterMap fun r => if r.1 ≤ t then some r.2 else none) ↔ ∃ r ∈ rs, r.1 ≤ t ∧ r.2 = e := by
  rw [List.mem_filterMap]
  constructor
  · rintro ⟨r, hr, h⟩
    split at h
    · cases h
      exact ⟨r, hr, by assumption, rfl⟩
    · cases h
  · rintro ⟨r, hr, h, rfl⟩
    exact ⟨r, hr, if_pos h⟩
theorem over_mem {rs : Rides} {t e : Int} : e ∈ (rs.filterMap fun r => if r.2 > t then some (r.1 - 1) else none) ↔ ∃ r ∈ rs, r.2 > t ∧ r.1 - 1 = e := by
  rw [List.mem_filterMap]
  constructor
  · rintro ⟨r, hr, h⟩
    split at h
    · cases h
      exact ⟨r, hr, by assumption, rfl⟩
    · cases h
  · rintro ⟨r, hr, h, rfl⟩
    exact ⟨r, hr, if_pos h⟩
theorem canE_is {rs : Rides} {t : Int} {m : Mom} (f : Fit rs) (hr : ∀ r ∈ rs, r.1.natAbs ≤ 10 ^ 40 ∧ r.2.natAbs ≤ 10 ^ 40) (ht : t.natAbs ≤ 10 ^ 40) (hm : nearM m) (h1 : m ≠ .first) :
    canE rs t m = betw (endsF rs (.num t)).1 (endsF rs (.num t)).2 m := by
  have hlow : ∀ e : Int, placeM (endsF rs (.num t)).1 ≤ e ↔ t ≤ e ∧ ∀ r ∈ rs, r.1 ≤ t → r.2 ≤ e := fun e => by
    show maxL t (rs.filterMap fun r => if r.1 ≤ t then some r.2 else none) ≤ e ↔ _
    rw [max_le]
    exact ⟨fun ⟨a, b⟩ => ⟨a, fun r hr hz => b _ (upto_mem.mpr ⟨r, hr, hz, rfl⟩)⟩, fun ⟨a, b⟩ => ⟨a, fun z hz => by
      obtain ⟨r, hr, h3, rfl⟩ := upto_mem.mp hz
      exact b r hr h3⟩⟩
  match m, h1, hm with
  | .first, h1, _ => exact absurd rfl h1
  | .last, _, _ =>
    unfold betw
    show (hasF rs rs && decide ((endsF rs (.num t)).2 = .last)) = _
    rw [has_self f, Bool.true_and, Bool.eq_iff_iff, Bool.and_eq_true, decide_eq_true_iff, decide_eq_true_iff, decide_eq_true_iff]
    constructor
    · intro h
      rw [h]
      refine ⟨(hlow _).mpr ⟨?_, fun r hr' _ => ?_⟩, Int.le_refl _⟩
      · show t ≤ 10 ^ 45
        omega
      · have := hr r hr'
        show r.2 ≤ 10 ^ 45
        omega
    · rintro ⟨_, h⟩
      cases e : (endsF rs (.num t)).2 with
      | last => rfl
      | first =>
        rw [e] at h
        exact absurd h (by decide)
      | num x =>
        rw [e] at h
        obtain ⟨⟨r, hr', _, h3⟩, _⟩ := end_num.mp e
        have := hr r hr'
        have h : (10 : Int) ^ 45 ≤ x := h
        omega
  | .num e, _, hm =>
    have hm : e.natAbs ≤ 10 ^ 40 := hm
    have hhigh : e ≤ placeM (endsF rs (.num t)).2 ↔ ∀ r ∈ rs, t ≤ r.1 → e ≤ r.2 := by
      show e ≤ placeM (numLate (rs.filterMap fun r => if r.1 ≥ t then some r.2 else none)) ↔ _
      rw [le_late (by omega)]
      exact ⟨fun b r hr hz => b _ (late_mem.mpr ⟨r, hr, hz, rfl⟩), fun b z hz => by
        obtain ⟨r, hr, h3, rfl⟩ := late_mem.mp hz
        exact b r hr h3⟩
    unfold canE betw
    show (decide (t ≤ e) && (hasF (rs ++ [(t, e)]) rs && decide ((endsF (rs ++ [(t, e)]) (.num t)).2 = .num e))) = (decide (placeM (endsF rs (.num t)).1 ≤ e) && decide (e ≤ placeM (endsF rs (.num t)).2))
    rw [Bool.eq_iff_iff, Bool.and_eq_true, Bool.and_eq_true, Bool.and_eq_true, decide_eq_true_iff, decide_eq_true_iff, decide_eq_true_iff, decide_eq_true_iff, has_add f, end_add, hlow, hhigh]
    exact ⟨fun ⟨a, b, c⟩ => ⟨⟨a, b⟩, c⟩, fun ⟨⟨a, b⟩, c⟩ => ⟨a, b, c⟩⟩
theorem canB_is {rs : Rides} {t : Int} {m : Mom} (f : Fit rs) (hr : ∀ r ∈ rs, r.1.natAbs ≤ 10 ^ 40 ∧ r.2.natAbs ≤ 10 ^ 40) (ht : t.natAbs ≤ 10 ^ 40) (hm : nearM m) (h1 : m ≠ .last) :
    canB rs t m = betw (begF rs (.num t)).1 (begF rs (.num t)).2 m := by
  have hhigh : ∀ e : Int, e ≤ placeM (begF rs (.num t)).2 ↔ e ≤ t ∧ ∀ r ∈ rs, r.1 ≤ e → r.2 ≤ t := fun e => by
    show e ≤ minL t (rs.filterMap fun r => if r.2 > t then some (r.1 - 1) else none) ↔ _
    rw [le_min]
    refine ⟨fun ⟨a, b⟩ => ⟨a, fun r hr hz => ?_⟩, fun ⟨a, b⟩ => ⟨a, fun z hz => ?_⟩⟩
    · by_cases c : r.2 > t
      · have := b _ (over_mem.mpr ⟨r, hr, c, rfl⟩)
        omega
      · omega
    · obtain ⟨r, hr, h3, rfl⟩ := over_mem.mp hz
      have := b r hr
      omega
  match m, h1, hm with
  | .last, h1, _ => exact absurd rfl h1
  | .first, _, _ =>
    unfold betw
    show (hasF rs rs && decide ((begF rs (.num t)).1 = .first)) = _
    rw [has_self f, Bool.true_and, Bool.eq_iff_iff, Bool.and_eq_true, decide_eq_true_iff, decide_eq_true_iff, decide_eq_true_iff]
    constructor
    · intro h
      rw [h]
      refine ⟨Int.le_refl _, (hhigh _).mpr ⟨?_, fun r hr' z => ?_⟩⟩
      · show 0 - 10 ^ 45 ≤ t
        omega
      · have := hr r hr'
        have z : r.1 ≤ 0 - 10 ^ 45 := z
        omega
    · rintro ⟨h, _⟩
      cases e : (begF rs (.num t)).1 with
      | first => rfl
      | last =>
        rw [e] at h
        exact absurd h (by decide)
      | num x =>
        rw [e] at h
        obtain ⟨⟨r, hr', _, h3⟩, _⟩ := beg_num.mp e
        have := hr r hr'
        have h : x ≤ 0 - 10 ^ 45 := h
        omega
  | .num e, _, hm =>
    have hm : e.natAbs ≤ 10 ^ 40 := hm
    have hlow : placeM (begF rs (.num t)).1 ≤ e ↔ ∀ r ∈ rs, r.2 ≤ t → r.1 ≤ e := by
      show placeM (numEarly (rs.filterMap fun r => if r.2 ≤ t then some r.1 else none)) ≤ e ↔ _
      rw [early_le (by omega)]
      exact ⟨fun b r hr hz => b _ (early_mem.mpr ⟨r, hr, hz, rfl⟩), fun b z hz => by
        obtain ⟨r, hr, h3, rfl⟩ := early_mem.mp hz
        exact b r hr h3⟩
    unfold canB betw
    show (decide (e ≤ t) && (hasF (rs ++ [(e, t)]) rs && decide ((begF (rs ++ [(e, t)]) (.num t)).1 = .num e))) = (decide (placeM (begF rs (.num t)).1 ≤ e) && decide (e ≤ placeM (begF rs (.num t)).2))
    rw [Bool.eq_iff_iff, Bool.and_eq_true, Bool.and_eq_true, Bool.and_eq_true, decide_eq_true_iff, decide_eq_true_iff, decide_eq_true_iff, decide_eq_true_iff, has_add f, beg_add, hlow, hhigh]
    exact ⟨fun ⟨a, b, c⟩ => ⟨c, a, b⟩, fun ⟨c, a, b⟩ => ⟨a, b, c⟩⟩
end Nw

namespace Nw
open PySem PySem.Spec PyProof.Rows L2
/-! ### the plain law: a timetable of all messages and a ride -/
theorem late_nf {es : List Int} : numLate es ≠ .first := by cases es <;> exact fun h => (nomatch h)
theorem end_needed {rs ns : Rides} (h : IsNeeded rs ns) (t : Int) : (endsF ns (.num t)).2 = (endsF rs (.num t)).2 := by
  cases e : (endsF rs (.num t)).2 with
  | first => exact absurd e late_nf
  | last =>
    rw [end_last] at e ⊢
    exact fun n hn => e n (h.sub n hn)
  | num x =>
    rw [end_num] at e ⊢
    obtain ⟨⟨r, hr, h1, h2⟩, h3⟩ := e
    obtain ⟨n, hn, h4, h5⟩ := h.cov r hr
    have h6 := h3 n (h.sub n hn) (by omega)
    exact ⟨⟨n, hn, by omega, by omega⟩, fun q hq hz => h3 q (h.sub q hq) hz⟩
theorem has_needed {rs ns : Rides} (h : IsNeeded rs ns) (xs : Rides) : hasF ns xs = hasF rs xs := by
  unfold hasF
  congr 1
  funext r
  rw [end_needed h]
/-- the rides of an example: all messages, and the ride asked for -/
def exR (ms : List Ms) (c : Nat) (t : Int) (m : Mom) (d : Nat) : Rides := match m with
  | .num e => if d = c then ridesL ms d ++ [(t, e)] else ridesL ms d
  | _ => ridesL ms d
def exKeys (ms : List Ms) (c : Nat) : List Nat := [97, 98, 99, 100].filter fun d => decide (d = c) || !(ridesL ms d).isEmpty
theorem ex_has {ms : List Ms} {c : Nat} {t : Int} {m : Mom} (f : ∀ d, Fit (ridesL ms d)) (h : canE (ridesL ms c) t m = true) (d : Nat) : hasF (exR ms c t m d) (ridesL ms d) = true := by
  cases m with
  | num e =>
    unfold exR
    by_cases z : d = c
    · subst z
      show hasF (if d = d then _ else _) _ = true
      rw [if_pos rfl]
      have h : (decide (t ≤ e) && (hasF (ridesL ms d ++ [(t, e)]) (ridesL ms d) && _)) = true := h
      rw [Bool.and_eq_true, Bool.and_eq_true] at h
      exact h.2.1
    · show hasF (if d = c then _ else _) _ = true
      rw [if_neg z]
      exact has_self (f d)
  | first => exact has_self (f d)
  | last => exact has_self (f d)
theorem ex_end {ms : List Ms} {c : Nat} {t : Int} {m : Mom} (h : canE (ridesL ms c) t m = true) : (endsF (exR ms c t m c) (.num t)).2 = m := by
  cases m with
  | num e =>
    unfold exR
    show (endsF (if c = c then _ else _) (.num t)).2 = _
    rw [if_pos rfl]
    have h : (decide (t ≤ e) && (hasF (ridesL ms c ++ [(t, e)]) (ridesL ms c) && decide ((endsF (ridesL ms c ++ [(t, e)]) (.num t)).2 = .num e))) = true := h
    rw [Bool.and_eq_true, Bool.and_eq_true] at h
    exact of_decide_eq_true h.2.2
  | first =>
    have h : (hasF (ridesL ms c) (ridesL ms c) && decide ((endsF (ridesL ms c) (.num t)).2 = .first)) = true := h
    rw [Bool.and_eq_true] at h
    exact of_decide_eq_true h.2
  | last =>
    have h : (hasF (ridesL ms c) (ridesL ms c) && decide ((endsF (ridesL ms c) (.num t)).2 = .last)) = true := h
    rw [Bool.and_eq_true] at h
    exact of_decide_eq_true h.2
end Nw

namespace Nw
open PySem PySem.Spec PyProof.Rows L2
/-! ### the law's own messages, with the lines of which they are -/
theorem keys_kvS {kvs : List (Nat × V)} (h : (kvs.map (·.1)).Nodup) : mergeK [] (kvs.map kvS) = kvs.map kvS := by
  refine merge_nodup ?_
  have e : (kvs.map kvS).map (·.1) = (kvs.map (·.1)).map fun c => (Sum.inr (sg c) : Key) := by rw [List.map_map, List.map_map]; rfl
  rw [e]
  clear e
  induction kvs with
  | nil => exact List.nodup_nil
  | cons q r ih =>
    obtain ⟨h1, h2⟩ := List.nodup_cons.mp h
    refine List.nodup_cons.mpr ⟨fun z => ?_, ih h2⟩
    obtain ⟨c, hc, e⟩ := List.mem_map.mp z
    have e2 : sg c = sg q.1 := Sum.inr.inj e
    have e3 : c = q.1 := (List.cons.inj (mk_inj (a := [c]) (b := [q.1]) e2)).1
    rw [e3] at hc
    exact h1 hc
structure KvP (α : Type) where
  c : Nat
  x : α
instance {α : Type} [Rep α] : Rep (KvP α) := ⟨fun I v x => ∃ a v2, v = .ref a ∧ I a = some (.tup [.str (sg x.c), v2]) ∧ Rep.is I v2 x.x, fun e ⟨a, v2, h1, h2, h3⟩ => ⟨a, v2, h1, e _ _ h2, Rep.mono e h3⟩⟩
structure Lk (K : PySem.W.Frag) where
  ns : Rides
instance {K : PySem.W.Frag} : Rep (Lk K) := ⟨fun I v x => isLink K I v x.ns, fun e h => h.up e⟩
def kvP {α : Type} [Rep α] (I : Hp) (kvs : List (Nat × V)) (xs : List (KvP α)) : Prop := Paired (fun (p : Nat × V) (q : KvP α) => p.1 = q.c ∧ Rep.is I p.2 q.x) kvs xs
theorem kvP_of {α : Type} [Rep α] {K : PySem.W.Frag} {I H : Hp} (sb : Same I H) : ∀ {vs : List V} {xs : List (KvP α)}, Paired (Rep.is I) vs xs →
    ∃ (ps : List Addr) (kvs : List (Nat × V)), vs = ps.map V.ref ∧ Paired (fun p (kv : Key × V) => SqT K H p [kV kv.1, kv.2]) ps (kvs.map kvS) ∧ kvP I kvs xs
  | _, _, .nil => ⟨[], [], rfl, .nil, .nil⟩
  | _, _, .cons h t => by
    obtain ⟨ps, kvs, e, h1, h2⟩ := kvP_of (K := K) sb t
    obtain ⟨a, v2, rfl, ha, hl⟩ := h
    subst e
    exact ⟨a :: ps, (_, v2) :: kvs, rfl, .cons (SqT.of (sb _ _ ha)) h1, .cons ⟨rfl, hl⟩ h2⟩
theorem kvP.up {α : Type} [Rep α] {I I' : Hp} {kvs : List (Nat × V)} {xs : List (KvP α)} (h : kvP I kvs xs) (e : Same I I') : kvP I' kvs xs := Paired.mono' (fun _ _ z => ⟨z.1, Rep.mono e z.2⟩) h
theorem kvP.keys {α : Type} [Rep α] {I : Hp} : ∀ {kvs : List (Nat × V)} {xs : List (KvP α)}, kvP I kvs xs → kvs.map (·.1) = xs.map (·.c)
  | _, _, .nil => rfl
  | _, _, .cons h t => by rw [List.map_cons, List.map_cons, h.1, kvP.keys t]
theorem kvP.links {K : PySem.W.Frag} {I : Hp} : ∀ {kvs : List (Nat × V)} {xs : List (KvP (Lk K))}, kvP I kvs xs → linksP K I kvs (xs.map fun x => (x.c, x.x.ns))
  | _, _, .nil => .nil
  | _, _, .cons h t => .cons ⟨h.1, h.2⟩ (kvP.links t)
theorem Own.gave {T : Addr → Prop} {H0 I H : Hp} {l m : Addr} {o u : HO} (w : Own T H0 l o I H) (ne : l ≠ m) : Own T H0 l o (upd I m u) H := ⟨w.nt, w.n0, by rw [upd_ne ne]; exact w.ni, w.at_⟩
theorem cdW2 {wd : Int} : CDiv wd 2 := by unfold CDiv; exact ⟨by decide, by decide⟩
theorem pickW {wd : Int} (h8 : 8 ≤ wd) (h9 : wd ≤ 9) {j : Nat} {x : V} (h : [V.int 0, V.int 1, V.int 1, V.int 2, V.int (wd / 2)][j]? = some x) : ∃ z, x = .int z ∧ 0 ≤ z ∧ z ≤ 4 := by
  have z := List.mem_of_getElem? h
  simp only [List.mem_cons, List.not_mem_nil, or_false] at z
  rcases z with rfl | rfl | rfl | rfl | rfl
  all_goals exact ⟨_, rfl, by omega, by omega⟩
theorem pickWb {wd : Int} (h8 : 8 ≤ wd) (h9 : wd ≤ 9) {j : Nat} {x : V} (h : [V.int 0, V.int 0, V.int 1, V.int 2, V.int (wd / 2)][j]? = some x) : ∃ z, x = .int z ∧ 0 ≤ z ∧ z ≤ 4 := by
  have z := List.mem_of_getElem? h
  simp only [List.mem_cons, List.not_mem_nil, or_false] at z
  rcases z with rfl | rfl | rfl | rfl | rfl
  all_goals exact ⟨_, rfl, by omega, by omega⟩
def sp_l_seen (K : PySem.W.Frag) : Sp := fun vs H Q _ => ∃ (I : Hp) (D : DA) (n : Nat) (l : List Nat) (many : Nat) (wd : Int), vs = [.ref D.d, .str (mk l), .int many, .int wd] ∧ Drw D n I H ∧ n + 200 < lim ∧ l.length ≤ 4 ∧ l.Nodup ∧ (∀ c ∈ l, 97 ≤ c ∧ c ≤ 100) ∧ many ≤ 8 ∧ 8 ≤ wd ∧ wd ≤ 9 ∧
  ∀ ps R t p d ks I' H', Drawn I' l ps R → ps.length ≤ many * l.length → (∀ c ∈ l, (R c).length ≤ many ∧ ∀ r ∈ R c, r.1.natAbs ≤ 1000 ∧ r.2.natAbs ≤ 1000) → I' p = some (.lst (ps.map Prod.fst)) → H' t = some (.tup [.ref p, .ref d]) → Own (TD D) H d (.dK (ks.map kvS)) I' H' → kvP I' ks (l.map fun c => ⟨c, R c⟩) → Grow (TD D) I H I' H' → Drw D (n + 200) I' H' → Q (.ref t) H'
section
variable {P : Program} {w : World} {K : PySem.W.Frag} {mg : Str → Option Value} {base : Heap}
theorem ok_l_seen (T : Txt K mg) (F : FnAt K "_law_seen" "_law_seen" s_l_seen (He.ga K "_law_seen")) (G_l_next : Ok P w K mg base CX0 1 (He.ga K "_law_next") ["_law_draw", "_law_many"] (sp_l_next K)) (G_l_pick : Ok P w K mg base CX0 2 (He.ga K "_law_pick") ["_law_draw", "_law_some_here"] (sp_l_pick K)) (G_l_end : Ok P w K mg base CX0 1 (He.ga K "_law_end") ["_law_rides", "_law_moment_here"] (sp_l_end K)) (G_l_shuffled : Ok P w K mg base CX0 2 (He.ga K "_law_shuffled") ["_law_draw", "_law_some_here"] (sp_l_shuffled K)) : Ok P w K mg base CX0 4 (He.ga K "_law_seen") ["_law_draw", "_law_letters", "_law_many", "_law_wide"] (sp_l_seen K) := by
  refine ok_of F sc_l_seen (fun _ _ _ _ _ _ us hl => match us, hl with | [_, _, _, _], _ => rfl) (fun vs H Q E h => ?_) (fun cdv A outer s H vs Q E hr h => ?_)
  · obtain ⟨_, _, _, _, _, _, rfl, _⟩ := h
    rfl
  · obtain ⟨I, D, n, l, many, wd, rfl, dr, hlim, hl4, hnd, hl97, hm5, hw8, hw9, k⟩ := h
    refine ⟨_, (pss_cons (ps_par (i := 4) (j := 5) (by rfl) sc_l_seen.nd rfl rfl (by decide) rfl rfl (pa_cons pe_dnewK (pa_cons (pe_lst pa_nil) pa_nil)) (by rfl))
      (pss_cons (ps_for PassesOwn.never rfl (pi_str (pv 1)) (pg_name (i := 6) sc_l_seen.nd rfl (Or.inl rfl)) (pss_cons (ps_par3 (i := 7) (j := 8) (l := 9) (by rfl) sc_l_seen.nd rfl rfl rfl (by decide) (by decide) (by decide) rfl rfl rfl (pa_cons (pe_op op_sub pe_int (pv 3)) (pa_cons (pe_op op_sub pe_int (pv 3)) (pa_cons (pe_lst pa_nil) pa_nil))) (by rfl))
      (pss_cons (ps_for PassesOwn.never rfl (pi_range1 rfl T.b_range (pa_cons (pe_callC G_l_next (hr.mono (by decide)) T.g__law_next (pa_cons (pv 0) (pa_cons (pe_op op_add (pv 2) pe_int) pa_nil))) pa_nil)) (pg_name (i := 10) sc_l_seen.nd rfl (Or.inl rfl)) (pss_cons (ps_set (i := 7) sc_l_seen.nd rfl (Or.inl rfl) (pe_op op_add (pv 7) (pe_callC G_l_pick (hr.mono (by decide)) T.g__law_pick (pa_cons (pv 0) (pa_cons (pe_lst (pa_cons pe_int (pa_cons pe_int (pa_cons pe_int (pa_cons pe_int (pa_cons (pe_op op_fdiv (pv 3) pe_int) pa_nil)))))) pa_nil)))))
      (pss_cons (ps_set (i := 8) sc_l_seen.nd rfl (Or.inl rfl) (pe_op op_add (pe_callB (call_max2 rfl) (by rfl) T.b_max (by decide +kernel) (pa_cons (pe_callTy call_int1 (by rfl) T.b_int (by decide +kernel) (pa_cons (pv 7) pa_nil)) (pa_cons (pe_callTy call_int1 (by rfl) T.b_int (by decide +kernel) (pa_cons (pv 8) pa_nil)) pa_nil))) (pe_op op_mul (pe_callC G_l_pick (hr.mono (by decide)) T.g__law_pick (pa_cons (pv 0) (pa_cons (pe_lst (pa_cons pe_int (pa_cons pe_int (pa_cons pe_int (pa_cons pe_int (pa_cons (pe_op op_fdiv (pv 3) pe_int) pa_nil)))))) pa_nil))) (pe_callTy call_int1 (by rfl) T.b_int (by decide +kernel) (pa_cons (pe_cmpR op_gt (pe_callC G_l_next (hr.mono (by decide)) T.g__law_next (pa_cons (pv 0) (pa_cons pe_int pa_nil))) pe_int (nomark _)) pa_nil)))))
      (pss_one (ps_expr (pe_bm PySem.F.plainAttrs_list PySem.F.slot_list_append PySem.F.type_list_append mt_append (pv 9) (pa_cons (pe_tup (pa_cons (pv 7) (pa_cons (pv 8) pa_nil))) pa_nil)))))))
      (pss_cons (ps_dput (hu_of hr) (pv 4) (pv 6) (pv 9) rfl)
      (pss_one (ps_for PassesOwn.never rfl (pi_list (pv 9)) (pg_tup (by rfl) (pgs_cons (pg_name (i := 7) sc_l_seen.nd rfl (Or.inl rfl)) (pgs_cons (pg_name (i := 8) sc_l_seen.nd rfl (Or.inl rfl)) pgs_nil))) (pss_cons (ps_set (i := 11) sc_l_seen.nd rfl (Or.inl rfl) (pe_op op_sub (pv 7) (pe_callC G_l_next (hr.mono (by decide)) T.g__law_next (pa_cons (pv 0) (pa_cons pe_int pa_nil)))))
      (pss_one (ps_expr (pe_bm PySem.F.plainAttrs_list PySem.F.slot_list_append PySem.F.type_list_append mt_append (pv 5) (pa_cons (pe_tup (pa_cons (pv 6) (pa_cons (pv 11) (pa_cons (pe_callC G_l_end (hr.mono (by decide)) T.g__law_end (pa_cons (pv 9) (pa_cons (pv 11) pa_nil))) pa_nil)))) pa_nil)))))))))))
      (pss_one (ps_ret (pe_tup (pa_cons (pe_callC G_l_shuffled (hr.mono (by decide)) T.g__law_shuffled (pa_cons (pv 0) (pa_cons (pv 5) pa_nil))) (pa_cons (pv 4) pa_nil))))))), ?_⟩
    refine fun d hd => ⟨(by show 0 ≤ sizeLine; decide), fun f hf => ⟨_, _, rfl, ?_⟩⟩
    have g1 : Grow (TD D) I H I (upd H d (.dK [])) := Grow.mine dr.sub hd
    have o1 : Own (TD D) H d (.dK []) I (upd H d (.dK [])) := Own.new dr.sub (.inl (Same.refl H)) dr.live hd
    have g2 : Grow (TD D) I (upd H d (.dK [])) I (upd (upd H d (.dK [])) f (.lst [])) := Grow.mine g1.sub hf
    have o1' := o1.grow g2
    have o2 : Own (TD D) H f (.lst []) I (upd (upd H d (.dK [])) f (.lst [])) := Own.new g1.sub (.inr g1.live) (fun x t => g1.live x (dr.live x t)) hf
    have ndf : d ≠ f := ne_of_none o1.at_ hf
    have d2 := (dr.grow (Grow.mine (o := .dK []) dr.sub hd)).grow (Grow.mine (o := .lst []) g1.sub hf)
    have g12 := g1.trans g2
    revert o1' o2 d2 g12
    generalize upd (upd H d (.dK [])) f (.lst []) = H2
    intro o1' o2 d2 g12
    refine ⟨_, rfl, _, rfl, ?_⟩
    refine for_it (walk_str (z := mk l)) (fun i σ H' => ∃ (I' : Hp) (ps : List (V × Ms)) (R : Nat → Rides) (ks : List (Nat × V)) (v6 v7 v8 v9 v10 v11 : Option V), σ = [some (.ref D.d), some (.str (mk l)), some (.int many), some (.int wd), some (.ref d), some (.ref f), v6, v7, v8, v9, v10, v11] ∧
        Grow (TD D) I H I' H' ∧ Own (TD D) H d (.dK (ks.map kvS)) I' H' ∧ Own (TD D) H f (.lst (ps.map Prod.fst)) I' H' ∧ Drw D (n + 40 * i) I' H' ∧ Drawn I' (l.take i) ps R ∧ ps.length ≤ 8 * i ∧ ks.length ≤ i ∧ kvP I' ks ((l.take i).map fun c => ⟨c, R c⟩) ∧ (∀ c ∈ l.take i, (R c).length ≤ many ∧ ∀ r ∈ R c, r.1.natAbs ≤ 1000 ∧ r.2.natAbs ≤ 1000) ∧ ps.length ≤ many * i)
      ⟨I, [], fun _ => [], [], none, none, none, none, none, none, rfl, g12, o1', o2, d2, ⟨(fun _ z => nomatch z), (fun _ z => nomatch z), (fun _ z => nomatch z), (fun _ z => nomatch z), (fun _ _ z => nomatch z)⟩, Nat.le_refl _, Nat.le_refl _, .nil, (fun _ z => nomatch z), Nat.zero_le _⟩ (fun _ _ _ _ _ => trivial) ?_ ?_
    · rintro i y σ Hz H3 hi ⟨I3, ps, R, ks, v6, v7, v8, v9, v10, v11, rfl, g3, od, of_, d3, dn, hps, hkv, hkp, hRs, hpm⟩ ⟨rfl, c, hc, rfl⟩
      have hc' : l[i]? = some c := by simpa [mk] using hc
      have hil : i < l.length := (List.getElem?_eq_some_iff.mp hc').1
      have htk : l.take (i + 1) = l.take i ++ [c] := by
        rw [List.take_add_one, hc'] <;> rfl
      refine ⟨_, rfl, _, _, rfl, rfl, _, rfl, _, _, rfl, rfl, (by show 0 ≤ sizeLine; decide), fun L hL => ⟨_, _, _, rfl, ?_⟩⟩
      have gL : Grow (TD D) I3 H3 I3 (upd H3 L (.lst [])) := Grow.mine d3.sub hL
      have oL : Own (TD D) H L (.lst []) I3 (upd H3 L (.lst [])) := Own.new d3.sub (.inr g3.live) d3.live hL
      have od4 := od.grow gL
      have of4 := of_.grow gL
      have ndL : d ≠ L := ne_of_none od.at_ hL
      have nfL : f ≠ L := ne_of_none of_.at_ hL
      have d4 := d3.grow (Grow.mine (o := .lst []) d3.sub hL)
      have g4 := g3.trans gL
      revert oL od4 of4 d4 g4
      generalize upd H3 L (.lst []) = H4
      intro oL od4 of4 d4 g4
      refine ⟨_, rfl, _, rfl, _, _, rfl, rfl, I3, D, _, many + 1, (by show [V.ref D.d, V.int ((many : Int) + 1)] = _; rfl), d4, by omega, by omega, by omega, fun r H5 h0 h1 g5 d5 => ?_⟩
      refine ⟨r, rfl, by omega, by omega, ?_⟩
      have g6 := g4.trans g5
      have od6 := od4.grow g5
      have of6 := of4.grow g5
      have oL6 := oL.grow g5
      have I3v : Same I3 I3 := Same.refl I3
      refine for_it (walk_range (lo := 0) (n := r.toNat)) (fun j σ H' => ∃ (I' : Hp) (rs : Rides) (ws : List V) (bg en : Int) (v10 : Option V), σ = [some (.ref D.d), some (.str (mk l)), some (.int many), some (.int wd), some (.ref d), some (.ref f), some (.str (sg c)), some (.int bg), some (.int en), some (.ref L), v10, v11] ∧
          Grow (TD D) I H I' H' ∧ Own (TD D) H d (.dK (ks.map kvS)) I' H' ∧ Own (TD D) H f (.lst (ps.map Prod.fst)) I' H' ∧ Own (TD D) H L (.lst ws) I' H' ∧ Drw D (n + 40 * i + 1 + 3 * j) I' H' ∧ Same I3 I' ∧ Paired (Rep.is I') ws rs ∧ rs.length = j ∧
          -9 ≤ bg ∧ bg ≤ 4 * j ∧ -9 ≤ en ∧ en ≤ 8 * j ∧ ∀ q ∈ rs, q.1 ≤ q.2 ∧ -9 ≤ q.1 ∧ q.2 ≤ 100)
        ⟨I3, [], [], 0 - wd, 0 - wd, v10, rfl, g6, od6, of6, oL6, d5, I3v, .nil, rfl, by omega, by omega, by omega, by omega, fun _ z => nomatch z⟩ (fun _ _ _ _ _ => trivial) ?_ ?_
      · rintro j y σ Hz H6 hj ⟨I6, rs, ws, bg, en, v10, rfl, g7, od7, of7, oL7, d7, s7, p7, l7, b1, b2, b3, b4, b5⟩ ⟨rfl, rfl⟩
        have hj5 : j < 8 := by omega
        refine ⟨_, rfl, _, rfl, _, rfl, wd, 2, rfl, rfl, cdW2, (by show 5 ≤ sizeLine; decide), fun q hq => ?_⟩
        have dq := d7.mine (o := .lst [V.int 0, V.int 1, V.int 1, V.int 2, V.int (wd / 2)]) hq
        have gq : Grow (TD D) I6 H6 I6 (upd H6 q (.lst [V.int 0, V.int 1, V.int 1, V.int 2, V.int (wd / 2)])) := Grow.mine d7.sub hq
        refine ⟨I6, D, _, _, rfl, dq, by omega, .inl ⟨q, _, rfl, d7.not hq, upd_same, by simp, by simp, fun jx x H7 hx g8 d8 => ?_⟩⟩
        obtain ⟨z, rfl, hz0, hz3⟩ := pickW hw8 hw9 hx
        refine ⟨_, _, rfl, rfl, ?_⟩
        have G8 := gq.trans g8
        refine ⟨_, rfl, .inl ⟨_, rfl, _, rfl, .inl ⟨_, rfl, _, _, rfl, _, rfl, _, rfl, wd, 2, rfl, rfl, cdW2, (by show 5 ≤ sizeLine; decide), fun q2 hq2 => ?_⟩⟩⟩
        have gq2 : Grow (TD D) I6 H7 I6 (upd H7 q2 (.lst [V.int 0, V.int 0, V.int 1, V.int 2, V.int (wd / 2)])) := Grow.mine d8.sub hq2
        refine ⟨I6, D, _, _, rfl, d8.mine hq2, by omega, .inl ⟨q2, _, rfl, d8.not hq2, upd_same, by simp, by simp, fun jx2 x2 H8 hx2 g9 d9 => ?_⟩⟩
        obtain ⟨z2, rfl, hz20, hz23⟩ := pickWb hw8 hw9 hx2
        refine ⟨_, rfl, I6, D, _, 4, rfl, d9, by decide, by decide, by omega, fun z3 H9 hz30 hz31 g10 d10 => ⟨_, _, rfl, rfl, .inr ⟨_, rfl, _, _, rfl, rfl, .inr (by split <;> decide), _, _, rfl, rfl, ?_⟩⟩⟩
        have G10 := (G8.trans gq2).trans (g9.trans g10)
        have oL10 := oL7.grow G10
        have od10 := od7.grow G10
        have of10 := of7.grow G10
        have g11 := g7.trans G10
        generalize hm : (z2 * if decide (0 < z3) = true then (1 : Int) else 0) = m
        have hm0 : 0 ≤ m ∧ m ≤ 4 := by
          rw [← hm]
          split <;> omega
        generalize hM : (if en > bg + z then en else bg + z) = M
        have hM0 : -9 ≤ M ∧ M ≤ 8 * j + 4 ∧ bg + z ≤ M := by
          rw [← hM]
          split <;> omega
        refine ⟨_, rfl, .inl ⟨rfl, _, SqL.of oL10.at_⟩, _, rfl, _, rfl, (by show 2 ≤ sizeLine; decide), fun t ht => ?_⟩
        have gt : Grow (TD D) I6 H9 (upd I6 t (.tup [.int (bg + z), .int (M + m)])) (upd H9 t (.tup [.int (bg + z), .int (M + m)])) := Grow.new d10.sub ht
        have oL11 := oL10.grow gt
        have od11 := od10.grow gt
        have of11 := of10.grow gt
        have d11 := d10.grow (Grow.new (o := .tup [.int (bg + z), .int (M + m)]) d10.sub ht)
        have g12 := g11.trans gt
        have hlw := Nw.Paired.len p7
        refine ⟨L, ws, _, rfl, rfl, oL11.at_, by rw [sizeLine_eq]; omega, ?_⟩
        have p12 : Paired (Rep.is (upd I6 t (.tup [.int (bg + z), .int (M + m)]))) (ws ++ [V.ref t]) (rs ++ [(bg + z, M + m)]) := Paired.snoc (Paired.mono' (fun _ _ z => Rep.mono gt.view z) p7) ⟨t, _, _, rfl, upd_same, rfl, rfl⟩
        refine ⟨_, rs ++ [(bg + z, M + m)], ws ++ [.ref t], bg + z, M + m, _, rfl, g12.put oL11, od11.other ndL, of11.other nfL, oL11.put, (d11.put oL11).mono (by omega), s7.trans gt.view, p12, by rw [List.length_append, l7]; rfl, by omega, by omega, by omega, by omega, fun q hq => ?_⟩
        rcases List.mem_append.mp hq with hq | hq
        · exact b5 q hq
        · rw [List.mem_singleton.mp hq]
          exact ⟨by dsimp only; omega, by dsimp only; omega, by dsimp only; omega⟩
      · rintro σ H6 ⟨I6, rs, ws, bg, en, v10, rfl, g7, od7, of7, oL7, d7, s7, p7, l7, b1, b2, b3, b4, b5⟩
        refine ⟨_, rfl, _, rfl, _, rfl, d, _, rfl, DPut.k (k := .inr (sg c)) od7.at_ (by rw [List.length_map, sizeLine_eq]; omega), ?_⟩
        have hck : c ∉ ks.map (·.1) := fun z => by
          rw [hkp.keys, List.map_map] at z
          have h1 : c ∈ l.take i := by
            obtain ⟨x, hx, e⟩ := List.mem_map.mp z
            have e : x = c := e
            rw [← e]; exact hx
          have h2 : (l.take (i + 1)).Nodup := hnd.sublist (List.take_sublist _ _)
          rw [htk] at h2
          exact (List.nodup_append.mp h2).2.2 c h1 c (List.mem_singleton_self c) rfl
        have enew : putK (ks.map kvS) (Sum.inr (sg c) : Key) (.ref L) = (ks ++ [(c, V.ref L)]).map kvS := by
          rw [List.map_append]
          refine putK_new ?_
          intro z
          obtain ⟨q, hq, e⟩ := List.mem_map.mp z
          obtain ⟨q3, hq3, rfl⟩ := List.mem_map.mp hq
          have ec : q3.1 = c := mk_inj (a := [q3.1]) (b := [c]) (Sum.inr.inj e) |> List.cons.inj |>.1
          exact hck (by rw [← ec]; exact List.mem_map_of_mem hq3)
        rw [enew]
        have g8 := g7.put (o' := .dK ((ks ++ [(c, V.ref L)]).map kvS)) od7
        have od8 := od7.put (o' := .dK ((ks ++ [(c, V.ref L)]).map kvS))
        have of8 := of7.other (m := d) (o' := .dK ((ks ++ [(c, V.ref L)]).map kvS)) ndf.symm
        have oL8 := oL7.other (m := d) (o' := .dK ((ks ++ [(c, V.ref L)]).map kvS)) ndL.symm
        have d8 := d7.put (o' := .dK ((ks ++ [(c, V.ref L)]).map kvS)) od7
        revert g8 od8 of8 oL8 d8
        generalize upd H6 d (.dK ((ks ++ [(c, V.ref L)]).map kvS)) = H7
        intro g8 od8 of8 oL8 d8
        have g8 := g8.give oL8
        have od8 := Own.gave (u := .lst ws) od8 ndL
        have of8 := Own.gave (u := .lst ws) of8 nfL
        have d8 := d8.view oL8.nt oL8.at_
        have s7 := s7.trans (Same.up (o := .lst ws) oL8.ni)
        have p7 : Paired (Rep.is (upd I6 L (.lst ws))) ws rs := Paired.mono' (fun _ _ z => Rep.mono (Same.up oL8.ni) z) p7
        have hLI : upd I6 L (.lst ws) L = some (.lst ws) := upd_same
        revert g8 od8 of8 d8 s7 p7 hLI
        generalize upd I6 L (.lst ws) = I7
        intro g8 od8 of8 d8 s7 p7 hLI
        clear od7 of7 oL7 d7 g7 oL8
        have hlw := Nw.Paired.len p7
        refine ⟨_, rfl, L, rfl, ⟨_, SqL.of (d8.sub _ _ hLI)⟩, ?_⟩
        refine for_it (walk_list (K := K) (a := L) (xs := ws)) (fun k σ H' => ∃ (I' : Hp) (ps2 : List (V × Ms)) (v7 v8 v11 : Option V), σ = [some (.ref D.d), some (.str (mk l)), some (.int many), some (.int wd), some (.ref d), some (.ref f), some (.str (sg c)), v7, v8, some (.ref L), v10, v11] ∧
            Grow (TD D) I H I' H' ∧ Own (TD D) H d (.dK ((ks ++ [(c, V.ref L)]).map kvS)) I' H' ∧ Own (TD D) H f (.lst ((ps ++ ps2).map Prod.fst)) I' H' ∧ Drw D (n + 40 * i + 25 + k) I' H' ∧ Same I7 I' ∧ ps2.length = k ∧
            ∀ q ∈ ps2, isMs I' q.1 q.2 ∧ q.2.1 = c ∧ q.2.2.1.natAbs ≤ 1000 ∧ q.2.2.2.natAbs ≤ 1000 ∧ IsEnd rs q.2.2.1 q.2.2.2)
          ⟨I7, [], _, _, _, rfl, g8, od8, by rw [List.append_nil]; exact of8, d8.mono (by omega), Same.refl I7, rfl, fun _ z => nomatch z⟩ (fun _ _ _ _ ⟨I', _, _, _, _, _, _, _, _, d', s', _⟩ => SqL.of (d'.sub _ _ (s' _ _ hLI))) ?_ ?_
        · rintro k2 y σ Hz H8 hk ⟨I8, ps2, v7, v8, v11, rfl, g9, od9, of9, d9, s9, l9, q9⟩ ⟨rfl, hy⟩
          obtain ⟨q, hq, b', w1, w2, rfl, hb', hw1, hw2⟩ := Nw.Paired.at' p7 hy
          cases hw1
          cases hw2
          have hqm := List.mem_of_getElem? hq
          have hqb := b5 q hqm
          have hk5 : k2 < 8 := by omega
          refine ⟨b', _, rfl, SqT.of (d9.sub _ _ (s9 _ _ hb')), rfl, _, _, rfl, _, _, rfl, rfl, ?_⟩
          refine ⟨_, rfl, _, rfl, I8, D, _, 3, rfl, d9, by decide, by decide, by omega, fun z H9 hz0 hz1 g10 d10 => ⟨_, _, rfl, rfl, ?_⟩⟩
          have od10 := od9.grow g10
          have of10 := of9.grow g10
          have g11 := g9.trans g10
          obtain ⟨e, ee, he⟩ := end_is (rs := rs) (t := q.1 - z) ⟨q, hqm, by omega⟩
          refine ⟨_, rfl, .inl ⟨rfl, _, SqL.of of10.at_⟩, _, rfl, _, rfl, _, rfl, _, rfl, I8, L, ws, rs, .num (q.1 - z), rfl, d10.sub, d10.sub _ _ (s9 _ _ hLI), Paired.mono' (fun _ _ z => Rep.mono s9 z) p7, by omega, fun I9 H10 g12 => ?_⟩
          rw [ee]
          refine ⟨(by show 3 ≤ sizeLine; decide), fun t ht => ?_⟩
          have g12' : Grow (TD D) I8 H9 I9 H10 := g12.no
          have gt : Grow (TD D) I9 H10 (upd I9 t (.tup [.str (sg c), .int (q.1 - z), .int e])) (upd H10 t (.tup [.str (sg c), .int (q.1 - z), .int e])) := Grow.new g12.sub ht
          have G := g12'.trans gt
          have od11 := od10.grow G
          have of11 := of10.grow G
          have d11 := (d10.grow g12).grow (Grow.new (o := .tup [.str (sg c), .int (q.1 - z), .int e]) g12.sub ht)
          have heb : -9 ≤ e ∧ e ≤ 100 := by
            obtain ⟨r2, hr2, h1, h2⟩ := he.1
            have := b5 r2 hr2
            omega
          refine ⟨f, (ps ++ ps2).map Prod.fst, _, rfl, rfl, of11.at_, by rw [sizeLine_eq, List.length_map, List.length_append]; omega, ?_⟩
          have of12 := of11.put (o' := .lst ((ps ++ ps2).map Prod.fst ++ [V.ref t]))
          have e12 : (ps ++ ps2).map Prod.fst ++ [V.ref t] = (ps ++ (ps2 ++ [(V.ref t, ((c, q.1 - z, e) : Ms))])).map Prod.fst := by simp
          have g13 := (g11.trans G).put of11 (o' := .lst ((ps ++ ps2).map Prod.fst ++ [V.ref t]))
          have od12 := od11.other (m := f) (o' := .lst ((ps ++ ps2).map Prod.fst ++ [V.ref t])) ndf
          have d12 := d11.put (o' := .lst ((ps ++ ps2).map Prod.fst ++ [V.ref t])) of11
          rw [e12] at of12 g13 od12 d12 ⊢
          refine ⟨_, ps2 ++ [(V.ref t, ((c, q.1 - z, e) : Ms))], _, _, _, rfl, g13, od12, of12, d12.mono (by omega), s9.trans (g10.view.trans G.view), by rw [List.length_append, l9]; rfl, fun u hu => ?_⟩
          rcases List.mem_append.mp hu with hu | hu
          · obtain ⟨u1, u2⟩ := q9 u hu
            exact ⟨u1.up (g10.view.trans G.view), u2⟩
          · rw [List.mem_singleton.mp hu]
            exact ⟨⟨t, rfl, upd_same⟩, rfl, by dsimp only; omega, by dsimp only; omega, he⟩
        · rintro σ H8 ⟨I8, ps2, v7, v8, v11, rfl, g9, od9, of9, d9, s9, l9, q9⟩
          have hput : (ks ++ [(c, V.ref L)]).length = ks.length + 1 := by rw [List.length_append]; rfl
          refine ⟨I8, ps ++ ps2, fun c' => if c' = c then rs else R c', _, _, _, _, _, _, _, rfl, g9, od9, of9, d9.mono (by omega), ?_, by rw [List.length_append]; omega, by omega, ?_, ?_, by rw [List.length_append, Nat.mul_succ]; omega⟩
          have nc : ∀ q ∈ ps, ¬ q.2.1 = c := fun q hq z => by
            have h1 := dn.letter q hq
            rw [z] at h1
            have h2 : (l.take (i + 1)).Nodup := hnd.sublist (List.take_sublist _ _)
            rw [htk] at h2
            exact (List.nodup_append.mp h2).2.2 c h1 c (List.mem_singleton_self c) rfl
          have sI := s7.trans s9
          rotate_left
          · rw [htk, List.map_append]
            have e1 : ((l.take i).map fun c' => (⟨c', if c' = c then rs else R c'⟩ : KvP Rides)) = (l.take i).map fun c' => ⟨c', R c'⟩ := by
              refine List.map_congr_left fun x hx => ?_
              have nx : x ≠ c := fun z => hck (by rw [hkp.keys, List.map_map]; rw [← z]; exact List.mem_map.mpr ⟨x, hx, rfl⟩)
              rw [if_neg nx]
            rw [e1]
            refine Paired.snoc (hkp.up (s7.trans s9)) ⟨rfl, ?_⟩
            show isL _ _ (if c = c then rs else R c)
            rw [if_pos rfl]
            exact ⟨L, ws, rfl, s9 _ _ hLI, Paired.mono' (fun _ _ z => Rep.mono s9 z) p7⟩
          · intro c' hc'
            rw [htk] at hc'
            show (if c' = c then rs else R c').length ≤ many ∧ ∀ r ∈ (if c' = c then rs else R c'), _
            by_cases z : c' = c
            · rw [if_pos z]
              refine ⟨by omega, fun r hr => ?_⟩
              have := b5 r hr
              omega
            · rw [if_neg z]
              refine hRs c' ?_
              rcases List.mem_append.mp hc' with h1 | h1
              · exact h1
              · exact absurd (List.mem_singleton.mp h1) z
          refine ⟨fun u hu => ?_, fun u hu => ?_, fun u hu => ?_, fun u hu => ?_, fun c' r' hr' => ?_⟩
          · rcases List.mem_append.mp hu with hu | hu
            · exact (dn.is u hu).up sI
            · exact (q9 u hu).1
          · rw [htk]
            rcases List.mem_append.mp hu with hu | hu
            · exact List.mem_append_left _ (dn.letter u hu)
            · exact List.mem_append_right _ (by rw [(q9 u hu).2.1]; exact List.mem_singleton_self c)
          · rcases List.mem_append.mp hu with hu | hu
            · exact dn.small u hu
            · exact ⟨(q9 u hu).2.2.1, (q9 u hu).2.2.2.1⟩
          · rcases List.mem_append.mp hu with hu | hu
            · rw [if_neg (nc u hu)]
              exact dn.ends u hu
            · rw [if_pos (q9 u hu).2.1]
              exact (q9 u hu).2.2.2.2
          · split at hr'
            · exact (b5 r' hr').1
            · exact dn.ride c' r' hr'
    · rintro σ H3 ⟨I3, ps, R, ks, v6, v7, v8, v9, v10, v11, rfl, g3, od, of_, d3, dn, hps, hkv, hkp, hRs, hpm⟩
      have e : l.take (mk l).cps.size = l := List.take_of_length_le (by rw [show (mk l).cps.size = l.length from mk_len l]; exact Nat.le_refl _)
      have es : (mk l).cps.size = l.length := mk_len l
      rw [e] at dn hkp hRs
      rw [es] at d3 hps hpm
      refine ⟨_, rfl, _, rfl, V × Ms, Prod.fst, I3, D, n + 40 * l.length, f, ps, rfl, d3, by omega, by omega, SqL.of of_.at_, fun ps' q I4 H4 pm g4 d4 hq => ⟨_, rfl, (by show 2 ≤ sizeLine; decide), fun t ht => ?_⟩⟩
      have gt : Grow (TD D) I4 H4 I4 (upd H4 t (.tup [.ref q, .ref d])) := Grow.mine d4.sub ht
      refine k ps' R t q d ks I4 _ ⟨fun u hu => (dn.is u (pm.mem_iff.mp hu)).up g4.view, fun u hu => dn.letter u (pm.mem_iff.mp hu), fun u hu => dn.small u (pm.mem_iff.mp hu), fun u hu => dn.ends u (pm.mem_iff.mp hu), dn.ride⟩ (by rw [pm.length_eq]; exact hpm) hRs hq upd_same ((od.grow g4).grow gt) (hkp.up g4.view) (g3.trans (g4.trans gt)) ((d4.mine ht).mono (by omega))
end
end Nw

namespace Nw
open PySem PySem.Spec PyProof.Rows L2
/-! ### the plain law: bounds of rows are reached, and others lie between them -/
/-- what a step leads to, by the lows (or the highs) of what is known -/
def lowF (ms : List Ms) (c : Nat) (m : Mom) : Mom := if low c = true then (endsF (ridesL ms c) m).1 else (begF (ridesL ms (lo1 c)) m).1
def highF (ms : List Ms) (c : Nat) (m : Mom) : Mom := if low c = true then (endsF (ridesL ms c) m).2 else (begF (ridesL ms (lo1 c)) m).2
theorem bounds_fold (ms : List Ms) : ∀ (l : List Nat) (p : Mom × Mom), l.foldl (stepF ms) p = (l.foldl (fun m c => lowF ms c m) p.1, l.foldl (fun m c => highF ms c m) p.2)
  | [], _ => rfl
  | c :: l, p => by
    have e : stepF ms p c = (lowF ms c p.1, highF ms c p.2) := by
      unfold stepF lowF highF
      split <;> rfl
    rw [List.foldl_cons, List.foldl_cons, List.foldl_cons, e, bounds_fold ms l]
theorem late_is {rs : Rides} {t : Int} : (∃ e, (endsF rs (.num t)).2 = .num e) ∨ (endsF rs (.num t)).2 = .last := by
  show (∃ e, numLate _ = .num e) ∨ numLate _ = .last
  cases (rs.filterMap fun r => if r.1 ≥ t then some r.2 else none) with
  | nil => exact .inr rfl
  | cons e l => exact .inl ⟨_, rfl⟩
theorem early_is {rs : Rides} {t : Int} : (∃ e, (begF rs (.num t)).1 = .num e) ∨ (begF rs (.num t)).1 = .first := by
  show (∃ e, numEarly _ = .num e) ∨ numEarly _ = .first
  cases (rs.filterMap fun r => if r.2 ≤ t then some r.1 else none) with
  | nil => exact .inr rfl
  | cons e l => exact .inl ⟨_, rfl⟩
theorem low_num {rs : Rides} {t y : Int} (h : (endsF rs (.num t)).1 = .num y) : t ≤ y ∧ (∀ r ∈ rs, r.1 ≤ t → r.2 ≤ y) ∧ (y = t ∨ ∃ r ∈ rs, r.1 ≤ t ∧ r.2 = y) := by
  have h : maxL t (rs.filterMap fun r => if r.1 ≤ t then some r.2 else none) = y := Mom.num.inj h
  obtain ⟨h1, h2⟩ := maxL_ge (rs.filterMap fun r => if r.1 ≤ t then some r.2 else none) t
  have h3 := maxL_mem (rs.filterMap fun r => if r.1 ≤ t then some r.2 else none) t
  rw [h] at h1 h2 h3
  refine ⟨h1, fun r hr hz => h2 _ (upto_mem.mpr ⟨r, hr, hz, rfl⟩), ?_⟩
  rcases List.mem_cons.mp h3 with z | z
  · exact .inl z
  · exact .inr (upto_mem.mp z)
theorem high_num {rs : Rides} {t y : Int} (h : (begF rs (.num t)).2 = .num y) : y ≤ t ∧ (∀ r ∈ rs, t < r.2 → y ≤ r.1 - 1) ∧ (y = t ∨ ∃ r ∈ rs, t < r.2 ∧ r.1 - 1 = y) := by
  have h : minL t (rs.filterMap fun r => if r.2 > t then some (r.1 - 1) else none) = y := Mom.num.inj h
  obtain ⟨h1, h2⟩ := minL_le (rs.filterMap fun r => if r.2 > t then some (r.1 - 1) else none) t
  have h3 := minL_mem (rs.filterMap fun r => if r.2 > t then some (r.1 - 1) else none) t
  rw [h] at h1 h2 h3
  refine ⟨h1, fun r hr hz => h2 _ (over_mem.mpr ⟨r, hr, hz, rfl⟩), ?_⟩
  rcases List.mem_cons.mp h3 with z | z
  · exact .inl z
  · exact .inr (over_mem.mp z)
/-- what is asked of a way of bounds, forth -/
structure Forth (rs : Rides) (G : Mom → Mom) : Prop where
  fst : G .first = .first
  lst : G .last = .last
  num : ∀ x, (∃ y, G (.num x) = .num y) ∨ G (.num x) = .last
  msg : ∀ x y, G (.num x) = .num y → ∀ r ∈ rs, (x ≤ r.1 → y ≤ r.2) ∧ (r.1 ≤ x → r.2 ≤ y)
  up : ∀ x y x' y', G (.num x) = .num y → G (.num x') = .num y' → x ≤ x' → y ≤ y'
  end_ : ∀ x, G (.num x) = .last → (∀ r ∈ rs, ¬ x ≤ r.1) ∧ ∀ x' y', x ≤ x' → G (.num x') ≠ .num y'
structure Back (rs : Rides) (G : Mom → Mom) : Prop where
  fst : G .first = .first
  lst : G .last = .last
  num : ∀ x, (∃ y, G (.num x) = .num y) ∨ G (.num x) = .first
  msg : ∀ x y, G (.num x) = .num y → ∀ r ∈ rs, (r.2 ≤ x → r.1 ≤ y) ∧ (r.1 ≤ y → r.2 ≤ x)
  up : ∀ x y x' y', G (.num x) = .num y → G (.num x') = .num y' → x' ≤ x → y' ≤ y
  end_ : ∀ x, G (.num x) = .first → (∀ r ∈ rs, ¬ r.2 ≤ x) ∧ ∀ x' y', x' ≤ x → G (.num x') ≠ .num y'
theorem forth_low {rs : Rides} (f : Fit rs) : Forth rs fun m => (endsF rs m).1 where
  fst := rfl
  lst := rfl
  num := fun x => .inl ⟨_, rfl⟩
  msg := fun x y h r hr => by
    obtain ⟨h1, h2, h3⟩ := low_num h
    refine ⟨fun z => ?_, h2 r hr⟩
    have hv := f.1 r hr
    rcases h3 with h3 | ⟨q, hq, h4, h5⟩
    · omega
    · have := f.2 q hq r hr (by omega)
      omega
  up := fun x y x' y' h h' z => by
    obtain ⟨h1, h2, h3⟩ := low_num h
    obtain ⟨k1, k2, k3⟩ := low_num h'
    rcases h3 with h3 | ⟨q, hq, h4, h5⟩
    · omega
    · have := k2 q hq (by omega)
      omega
  end_ := fun x h => nomatch h
theorem forth_high {rs : Rides} (f : Fit rs) : Forth rs fun m => (endsF rs m).2 where
  fst := rfl
  lst := rfl
  num := fun x => late_is
  msg := fun x y h r hr => by
    obtain ⟨⟨q, hq, h1, h2⟩, h3⟩ := end_num.mp h
    refine ⟨h3 r hr, fun z => ?_⟩
    have := f.2 r hr q hq (by omega)
    omega
  up := fun x y x' y' h h' z => by
    obtain ⟨_, h3⟩ := end_num.mp h
    obtain ⟨⟨q, hq, h1, h2⟩, _⟩ := end_num.mp h'
    have := h3 q hq (by omega)
    omega
  end_ := fun x h => by
    have h := end_last.mp h
    refine ⟨h, fun x' y' z h' => ?_⟩
    obtain ⟨⟨q, hq, h1, h2⟩, _⟩ := end_num.mp h'
    exact h q hq (by omega)
theorem back_low {rs : Rides} (f : Fit rs) : Back rs fun m => (begF rs m).1 where
  fst := rfl
  lst := rfl
  num := fun x => early_is
  msg := fun x y h r hr => by
    obtain ⟨⟨q, hq, h1, h2⟩, h3⟩ := beg_num.mp h
    refine ⟨h3 r hr, fun z => ?_⟩
    have := f.2 r hr q hq (by omega)
    omega
  up := fun x y x' y' h h' z => by
    obtain ⟨_, h3⟩ := beg_num.mp h
    obtain ⟨⟨q, hq, h1, h2⟩, _⟩ := beg_num.mp h'
    have := h3 q hq (by omega)
    omega
  end_ := fun x h => by
    have h := beg_first.mp h
    refine ⟨h, fun x' y' z h' => ?_⟩
    obtain ⟨⟨q, hq, h1, h2⟩, _⟩ := beg_num.mp h'
    exact h q hq (by omega)
theorem back_high {rs : Rides} (f : Fit rs) : Back rs fun m => (begF rs m).2 where
  fst := rfl
  lst := rfl
  num := fun x => .inl ⟨_, rfl⟩
  msg := fun x y h r hr => by
    obtain ⟨h1, h2, h3⟩ := high_num h
    have hv := f.1 r hr
    refine ⟨fun z => ?_, fun z => ?_⟩
    · rcases h3 with h3 | ⟨q, hq, h4, h5⟩
      · omega
      · by_cases y : r.1 ≤ q.1 - 1
        · omega
        · have := f.2 q hq r hr (by omega)
          omega
    · by_cases y : x < r.2
      · have := h2 r hr y
        omega
      · omega
  up := fun x y x' y' h h' z => by
    obtain ⟨h1, h2, h3⟩ := high_num h
    obtain ⟨k1, k2, k3⟩ := high_num h'
    rcases h3 with h3 | ⟨q, hq, h4, h5⟩
    · omega
    · have := k2 q hq (by omega)
      omega
  end_ := fun x h => nomatch h
/-- rides along a way -/
structure AlongF (rs R : Rides) (G : Mom → Mom) : Prop where
  sub : ∀ r ∈ rs, r ∈ R
  is : ∀ r ∈ R, r ∈ rs ∨ G (.num r.1) = .num r.2
structure AlongB (rs R : Rides) (G : Mom → Mom) : Prop where
  sub : ∀ r ∈ rs, r ∈ R
  is : ∀ r ∈ R, r ∈ rs ∨ G (.num r.2) = .num r.1
theorem along_has {rs R : Rides} {G : Mom → Mom} (f : Fit rs) (w : Forth rs G) (a : AlongF rs R G) : hasF R rs = true :=
  (has_iff a.sub).mpr fun r hr q hq z => by
    rcases a.is q hq with h | h
    · exact f.2 r hr q h z
    · exact (w.msg _ _ h r hr).2 z
theorem alongB_has {rs R : Rides} {G : Mom → Mom} (f : Fit rs) (w : Back rs G) (a : AlongB rs R G) : hasF R rs = true :=
  (has_iff a.sub).mpr fun r hr q hq z => by
    rcases a.is q hq with h | h
    · exact f.2 r hr q h z
    · exact (w.msg _ _ h r hr).2 z
theorem along_step {rs R : Rides} {G : Mom → Mom} (w : Forth rs G) (a : AlongF rs R G) {m : Mom} (h : ∀ x y, m = .num x → G m = .num y → (x, y) ∈ R) : (endsF R m).2 = G m := by
  cases m with
  | first => exact w.fst.symm
  | last => exact w.lst.symm
  | num x =>
    rcases w.num x with ⟨y, hy⟩ | hy
    · rw [hy]
      refine end_num.mpr ⟨⟨_, h x y rfl hy, Int.le_refl _, rfl⟩, fun r hr z => ?_⟩
      rcases a.is r hr with k | k
      · exact (w.msg _ _ hy r k).1 z
      · exact w.up _ _ _ _ hy k z
    · rw [hy]
      refine end_last.mpr fun r hr z => ?_
      rcases a.is r hr with k | k
      · exact (w.end_ x hy).1 r k z
      · exact (w.end_ x hy).2 _ _ z k
theorem alongB_step {rs R : Rides} {G : Mom → Mom} (w : Back rs G) (a : AlongB rs R G) {m : Mom} (h : ∀ x y, m = .num x → G m = .num y → (y, x) ∈ R) : (begF R m).1 = G m := by
  cases m with
  | first => exact w.fst.symm
  | last => exact w.lst.symm
  | num x =>
    rcases w.num x with ⟨y, hy⟩ | hy
    · rw [hy]
      refine beg_num.mpr ⟨⟨_, h x y rfl hy, Int.le_refl _, rfl⟩, fun r hr z => ?_⟩
      rcases a.is r hr with k | k
      · exact (w.msg _ _ hy r k).1 z
      · exact w.up _ _ _ _ hy k z
    · rw [hy]
      refine beg_first.mpr fun r hr z => ?_
      rcases a.is r hr with k | k
      · exact (w.end_ x hy).1 r k z
      · exact (w.end_ x hy).2 _ _ z k
/-- what a link's needed rides lead to -/
theorem ended_is {rs ns : Rides} (h : IsNeeded rs ns) (m : Mom) : endedL ns m = (endsF rs m).2 := by
  cases m with
  | first => rfl
  | last => rfl
  | num t =>
    rw [← end_needed h]
    have hasc : (ns.filterMap fun r => if r.1 ≥ t then some r.2 else none).Pairwise (· < ·) := by
      have ha := h.asc
      rw [List.pairwise_filterMap]
      refine ha.imp fun {a b} hab x hx y hy => ?_
      split at hx
      · split at hy
        · cases hx; cases hy; exact hab.2
        · cases hy
      · cases hx
    show (match ns.filterMap (fun r => if r.1 ≥ t then some r.2 else none) with
      | [] => Mom.last
      | e :: _ => Mom.num e) = numLate (ns.filterMap fun r => if r.1 ≥ t then some r.2 else none)
    revert hasc
    generalize (ns.filterMap fun r => if r.1 ≥ t then some r.2 else none) = es
    intro hasc
    cases es with
    | nil => rfl
    | cons e l =>
      show Mom.num e = Mom.num (minL e l)
      have h1 := (minL_le l e).1
      have h2 := minL_mem l e
      have hp := (List.pairwise_cons.mp hasc).1
      congr 1
      rcases List.mem_cons.mp h2 with z | z
      · exact z.symm
      · have := hp _ z
        omega
theorem begun_is {rs ns : Rides} (h : IsNeeded rs ns) (m : Mom) : begunL ns m = (begF rs m).1 := by
  cases m with
  | first => rfl
  | last => rfl
  | num t =>
    have hasc : (ns.filterMap fun r => if r.2 ≤ t then some r.1 else none).Pairwise (· < ·) := by
      have ha := h.asc
      rw [List.pairwise_filterMap]
      refine ha.imp fun {a b} hab x hx y hy => ?_
      split at hx
      · split at hy
        · cases hx; cases hy; exact hab.1
        · cases hy
      · cases hx
    have e1 : (begF ns (.num t)).1 = begunL ns (.num t) := by
      show numEarly (ns.filterMap fun r => if r.2 ≤ t then some r.1 else none) = (match (ns.filterMap fun r => if r.2 ≤ t then some r.1 else none).reverse with
        | [] => Mom.first
        | b :: _ => Mom.num b)
      revert hasc
      generalize (ns.filterMap fun r => if r.2 ≤ t then some r.1 else none) = es
      intro hasc
      cases er : es.reverse with
      | nil =>
        have : es = [] := by rw [← List.reverse_reverse es, er]; rfl
        subst this; rfl
      | cons b l =>
        have ee : es = l.reverse ++ [b] := by rw [← List.reverse_reverse es, er, List.reverse_cons]
        have hb : ∀ z ∈ es, z ≤ b := fun z hz => by
          rw [ee] at hasc hz
          rcases List.mem_append.mp hz with hz | hz
          · have := (List.pairwise_append.mp hasc).2.2 z hz b (List.mem_singleton_self _)
            omega
          · rw [List.mem_singleton.mp hz]; exact Int.le_refl _
        have hm : b ∈ es := by rw [ee]; exact List.mem_append_right _ (List.mem_singleton_self _)
        exact early_num.mpr ⟨hm, hb⟩
    rw [← e1]
    cases e : (begF rs (.num t)).1 with
    | first =>
      rw [beg_first] at e ⊢
      exact fun n hn => e n (h.sub n hn)
    | last => rcases early_is (rs := rs) (t := t) with ⟨_, z⟩ | z <;> rw [e] at z <;> cases z
    | num x =>
      rw [beg_num] at e ⊢
      obtain ⟨⟨r, hr, h1, h2⟩, h3⟩ := e
      obtain ⟨n, hn, h4, h5⟩ := h.cov r hr
      have h6 := h3 n (h.sub n hn) (by omega)
      exact ⟨⟨n, hn, by omega, by omega⟩, fun q hq hz => h3 q (h.sub q hq) hz⟩
/-! a drawn timetable -/
def Mle (a b : Mom) : Prop := a = .first ∨ b = .last ∨ ∃ x y, a = .num x ∧ b = .num y ∧ x ≤ y
theorem Mle.refl (m : Mom) : Mle m m := by
  cases m with
  | first => exact .inl rfl
  | last => exact .inr (.inl rfl)
  | num x => exact .inr (.inr ⟨x, x, rfl, rfl, Int.le_refl _⟩)
theorem Mle.place {a b : Mom} (h : Mle a b) (ha : nearM a) (hb : nearM b) : placeM a ≤ placeM b := by
  rcases h with rfl | rfl | ⟨x, y, rfl, rfl, z⟩
  · cases b with
    | first => exact Int.le_refl _
    | last => show (0 : Int) - 10 ^ 45 ≤ 10 ^ 45; omega
    | num y => have hb : y.natAbs ≤ 10 ^ 40 := hb; show (0 : Int) - 10 ^ 45 ≤ y; omega
  · cases a with
    | first => show (0 : Int) - 10 ^ 45 ≤ 10 ^ 45; omega
    | last => exact Int.le_refl _
    | num y => have ha : y.natAbs ≤ 10 ^ 40 := ha; show y ≤ (10 : Int) ^ 45; omega
  · exact z
/-- a line that has all messages of its letter -/
structure LineOf (rs R : Rides) : Prop where
  ok : ∀ r ∈ R, r.1 ≤ r.2
  has : ∀ m ∈ rs, IsEnd R m.1 m.2
theorem line_forth {rs R : Rides} (w : LineOf rs R) {lo x hi : Mom} (h1 : Mle lo x) (h2 : Mle x hi) : Mle (endsF rs lo).1 (endsF R x).2 ∧ Mle (endsF R x).2 (endsF rs hi).2 := by
  refine ⟨?_, ?_⟩
  · rcases h1 with rfl | rfl | ⟨a, t, rfl, rfl, z⟩
    · exact .inl rfl
    · exact .inr (.inl rfl)
    · rcases late_is (rs := R) (t := t) with ⟨e, he⟩ | he
      · rw [he]
        obtain ⟨⟨q, hq, k1, k2⟩, k3⟩ := end_num.mp he
        have hv := w.ok q hq
        refine .inr (.inr ⟨_, e, rfl, rfl, ?_⟩)
        obtain ⟨y, hy⟩ : ∃ y, (endsF rs (.num a)).1 = .num y := ⟨_, rfl⟩
        obtain ⟨j1, j2, j3⟩ := low_num hy
        have hy : maxL a (rs.filterMap fun r => if r.1 ≤ a then some r.2 else none) = y := Mom.num.inj hy
        rw [hy]
        rcases j3 with j3 | ⟨r, hr, j4, j5⟩
        · omega
        · have := (w.has r hr).2 q hq (by omega)
          omega
      · exact .inr (.inl he)
  · rcases h2 with rfl | rfl | ⟨t, a, rfl, rfl, z⟩
    · exact .inl rfl
    · exact .inr (.inl rfl)
    · rcases late_is (rs := rs) (t := a) with ⟨e, he⟩ | he
      · obtain ⟨⟨r, hr, k1, k2⟩, k3⟩ := end_num.mp he
        obtain ⟨⟨q, hq, k4, k5⟩, _⟩ := w.has r hr
        rcases late_is (rs := R) (t := t) with ⟨e', he'⟩ | he'
        · have := (end_num.mp he').2 q hq (by omega)
          rw [he, he']
          exact .inr (.inr ⟨e', e, rfl, rfl, by omega⟩)
        · exact absurd (end_last.mp he' q hq) (by omega)
      · exact .inr (.inl he)
theorem line_back {rs R : Rides} (w : LineOf rs R) {lo x hi : Mom} (h1 : Mle lo x) (h2 : Mle x hi) : Mle (begF rs lo).1 (begF R x).1 ∧ Mle (begF R x).1 (begF rs hi).2 := by
  refine ⟨?_, ?_⟩
  · rcases h1 with rfl | rfl | ⟨a, t, rfl, rfl, z⟩
    · exact .inl rfl
    · exact .inr (.inl rfl)
    · rcases early_is (rs := rs) (t := a) with ⟨s, hs⟩ | hs
      · obtain ⟨⟨r, hr, k1, k2⟩, k3⟩ := beg_num.mp hs
        obtain ⟨⟨q, hq, k4, k5⟩, _⟩ := w.has r hr
        rcases early_is (rs := R) (t := t) with ⟨s', hs'⟩ | hs'
        · have := (beg_num.mp hs').2 q hq (by omega)
          rw [hs, hs']
          exact .inr (.inr ⟨s, s', rfl, rfl, by omega⟩)
        · exact absurd (beg_first.mp hs' q hq) (by omega)
      · exact .inl hs
  · rcases h2 with rfl | rfl | ⟨t, a, rfl, rfl, z⟩
    · exact .inl rfl
    · exact .inr (.inl rfl)
    · rcases early_is (rs := R) (t := t) with ⟨s, hs⟩ | hs
      · rw [hs]
        obtain ⟨⟨q, hq, k1, k2⟩, k3⟩ := beg_num.mp hs
        have hv := w.ok q hq
        obtain ⟨y, hy⟩ : ∃ y, (begF rs (.num a)).2 = .num y := ⟨_, rfl⟩
        obtain ⟨j1, j2, j3⟩ := high_num hy
        rw [hy]
        refine .inr (.inr ⟨s, y, rfl, rfl, ?_⟩)
        rcases j3 with j3 | ⟨r, hr, j4, j5⟩
        · omega
        · by_cases u : r.1 ≤ q.1
          · have := (w.has r hr).2 q hq u
            omega
          · omega
      · exact .inl hs
/-- a row by a table's rides -/
def goR (R : Nat → Rides) (c : Nat) (m : Mom) : Mom := if low c = true then (endsF (R c) m).2 else (begF (R (lo1 c)) m).1
theorem go_between {ms : List Ms} {R : Nat → Rides} : ∀ (l : List Nat) (lo x hi : Mom), (∀ c ∈ l, LineOf (ridesL ms (if low c = true then c else lo1 c)) (R (if low c = true then c else lo1 c))) → Mle lo x → Mle x hi →
    Mle (l.foldl (fun m c => lowF ms c m) lo) (l.foldl (fun m c => goR R c m) x) ∧ Mle (l.foldl (fun m c => goR R c m) x) (l.foldl (fun m c => highF ms c m) hi)
  | [], lo, x, hi, _, h1, h2 => ⟨h1, h2⟩
  | c :: l, lo, x, hi, hw, h1, h2 => by
    have hc := hw c (List.mem_cons_self ..)
    rw [List.foldl_cons, List.foldl_cons, List.foldl_cons]
    have z : Mle (lowF ms c lo) (goR R c x) ∧ Mle (goR R c x) (highF ms c hi) := by
      unfold lowF goR highF
      by_cases e : low c = true
      · rw [if_pos e] at hc
        rw [if_pos e, if_pos e, if_pos e]
        exact line_forth hc h1 h2
      · rw [if_neg e] at hc
        rw [if_neg e, if_neg e, if_neg e]
        exact line_back hc h1 h2
    exact go_between l _ _ _ (fun d hd => hw d (List.mem_cons_of_mem _ hd)) z.1 z.2
end Nw

namespace Nw
open PySem PySem.Spec PyProof.Rows L2
/-! ### an example: a timetable with all messages in which a moment's end is the one asked for -/
def highOk (e : Int) : Mom → Bool
  | .num h => decide (e ≤ h)
  | _ => true
/-- what the code asks ahead of an example -/
def exF (ms : List Ms) (c : Nat) (t : Int) : Mom → Bool
  | .first => false
  | .last => decide ((endsF (ridesL ms c) (.num t)).2 = .last)
  | .num e => decide (placeM (endsF (ridesL ms c) (.num t)).1 ≤ e) && highOk e (endsF (ridesL ms c) (.num t)).2
def ExT (ms : List Ms) (c : Nat) (t : Int) (m : Mom) (tb : List (Nat × Rides)) : Prop := tb.map (·.1) = exKeys ms c ∧ ∀ p ∈ tb, IsNeeded (exR ms c t m p.1) p.2
def sp_Seen_example (K : PySem.W.Frag) : Sp := fun _ _ _ _ => False
def exOut (K : PySem.W.Frag) (I H : Hp) (ms : List Ms) (l u e : V) (Q : VK) (E : XK) : Prop :=
  (∃ c t m, l = .str (sg c) ∧ 97 ≤ c ∧ c ≤ 100 ∧ u = .int t ∧ e = Mom.v m ∧ (∀ d, Fit (ridesL ms d)) ∧ ms.length ≤ 50 ∧
    (exF ms c t m = false → ∀ I' H', Grow No I H I' H' → Q .non H') ∧
    (exF ms c t m = true → ∀ v' tb I' H', Grow No I H I' H' → isTable K I' v' tb → ExT ms c t m tb → Q v' H')) ∨
  (∃ x, isE K I l x ∧ x.isLet = false ∧ outF (He.ga K "NoLink") [("letter", l)] E I H) ∨
  (∃ c x, l = .str (sg c) ∧ 97 ≤ c ∧ c ≤ 100 ∧ isE K I u x ∧ x.isNum = false ∧ out0 (He.ga K "NoMoment") E I H) ∨
  (∃ c t x, l = .str (sg c) ∧ 97 ≤ c ∧ c ≤ 100 ∧ u = .int t ∧ isE K I e x ∧ x.isMom = false ∧ out0 (He.ga K "NoMoment") E I H)
def spb_Seen_example (K : PySem.W.Frag) : Sp := fun vs H Q E => ∃ (I : Hp) (v l u e : V) (ms : List Ms), vs = [v, l, u, e] ∧ isSeen K I v ms ∧ ms.length ≤ 1000 ∧ Same I H ∧ exOut K I H ms l u e Q E
theorem exF_is {ms : List Ms} {c : Nat} {t : Int} {m : Mom} (hr : ∀ r ∈ ridesL ms c, r.1.natAbs ≤ 10 ^ 40 ∧ r.2.natAbs ≤ 10 ^ 40) (ht : t.natAbs ≤ 10 ^ 40) (hm : nearM m) (h1 : m ≠ .first) :
    exF ms c t m = betw (endsF (ridesL ms c) (.num t)).1 (endsF (ridesL ms c) (.num t)).2 m := by
  have hlow : (endsF (ridesL ms c) (.num t)).1 = .num (maxL t ((ridesL ms c).filterMap fun r => if r.1 ≤ t then some r.2 else none)) := rfl
  match m, h1, hm with
  | .first, h1, _ => exact absurd rfl h1
  | .last, _, _ =>
    unfold exF betw
    rw [Bool.eq_iff_iff, Bool.and_eq_true, decide_eq_true_iff, decide_eq_true_iff, decide_eq_true_iff]
    constructor
    · intro h
      rw [h]
      refine ⟨?_, Int.le_refl _⟩
      rw [hlow]
      show maxL t _ ≤ 10 ^ 45
      rw [max_le]
      refine ⟨by omega, fun z hz => ?_⟩
      obtain ⟨r, hr', _, rfl⟩ := upto_mem.mp hz
      have := hr r hr'
      omega
    · rintro ⟨_, h⟩
      cases e : (endsF (ridesL ms c) (.num t)).2 with
      | last => rfl
      | first => exact absurd e late_nf
      | num x =>
        rw [e] at h
        obtain ⟨⟨r, hr', _, h3⟩, _⟩ := end_num.mp e
        have := hr r hr'
        have h : (10 : Int) ^ 45 ≤ x := h
        omega
  | .num e, _, hm =>
    have hm : e.natAbs ≤ 10 ^ 40 := hm
    have h2 : highOk e (endsF (ridesL ms c) (.num t)).2 = decide (e ≤ placeM (endsF (ridesL ms c) (.num t)).2) := by
      cases z : (endsF (ridesL ms c) (.num t)).2 with
      | num h => rfl
      | first => exact absurd z late_nf
      | last =>
        show true = decide (e ≤ 10 ^ 45)
        rw [decide_eq_true (by omega)]
    show (decide (placeM (endsF (ridesL ms c) (.num t)).1 ≤ e) && highOk e (endsF (ridesL ms c) (.num t)).2) = (decide (placeM (endsF (ridesL ms c) (.num t)).1 ≤ e) && decide (e ≤ placeM (endsF (ridesL ms c) (.num t)).2))
    rw [h2]
end Nw

namespace Nw
open PySem PySem.Spec PyProof.Rows L2
/-! ### Seen.example, walked -/
theorem two_asks {ms : List Ms} {c : Nat} {t n : Int} {m hi : Mom} {REST : TS} {D : Ends} {σ : L2.St} {H : Hp} (elo : (endsF (ridesL ms c) (.num t)).1 = .num n) (ehi : (endsF (ridesL ms c) (.num t)).2 = hi)
    (h3 : σ[3]? = some (some m.v)) (h4 : σ[4]? = some (some (.int n))) (h5 : σ[5]? = some (some hi.v)) (no : exF ms c t m = false → D.rt V.non H) (yes : exF ms c t m = true → REST D σ H) :
    tSeq (tIfS (tOr (tTest (tOp rEq (tVar 3) (tC (.str "first")))) (tAnd (tTest (tOp rEq (tVar 3) (tC (.str "last")))) (tTest (tOp rNe (tVar 5) (tC (.str "last")))))) (tRet (tC V.non)) tNext)
     (tSeq (tIfS (tAnd (tTest (tOp rNe (tVar 3) (tC (.str "last")))) (tOr (tTest (tOp (rI0 fun i j => V.bl (decide (i < j))) (tVar 3) (tVar 4))) (tAnd (tTest (tOp rNe (tVar 5) (tC (.str "last")))) (tTest (tOp (rI0 fun i j => V.bl (decide (i < j))) (tVar 5) (tVar 3)))))) (tRet (tC V.non)) tNext) REST) D σ H := by
  cases m with
  | first => exact ⟨_, h3, rfl, _, rfl, iteT (no rfl)⟩
  | last =>
    refine ⟨_, h3, rfl, _, rfl, iteF ⟨_, h3, rfl, _, rfl, iteT ⟨_, h5, Mom.scal hi .last, _, rfl, ?_⟩⟩⟩
    have ee : exF ms c t .last = decide (hi = .last) := by unfold exF; rw [ehi]
    cases hi with
    | last => exact iteF ⟨_, h3, rfl, _, rfl, iteF (yes (by rw [ee]; rfl))⟩
    | first => exact iteT (no (by rw [ee]; rfl))
    | num h => exact iteT (no (by rw [ee]; rfl))
  | num e =>
    have ee : exF ms c t (.num e) = (decide (n ≤ e) && highOk e hi) := by
      show (decide (placeM (endsF (ridesL ms c) (.num t)).1 ≤ e) && highOk e (endsF (ridesL ms c) (.num t)).2) = _
      rw [elo, ehi]
      rfl
    refine ⟨_, h3, rfl, _, rfl, iteF ⟨_, h3, rfl, _, rfl, iteF ⟨_, h3, rfl, _, rfl, iteT ⟨_, h3, _, h4, _, _, rfl, rfl, _, rfl, ite2 (fun z => ?_) (fun z => ?_)⟩⟩⟩⟩
    · have z := of_decide_eq_true z
      exact no (by rw [ee, decide_eq_false (by omega)]; rfl)
    have z : ¬ e < n := fun q => z (decide_eq_true q)
    have z2 : decide (n ≤ e) = true := decide_eq_true (by omega)
    cases hi with
    | last => exact ⟨_, h5, rfl, _, rfl, iteF (yes (by rw [ee, z2]; rfl))⟩
    | first => exact absurd ehi late_nf
    | num h =>
      refine ⟨_, h5, rfl, _, rfl, iteT ⟨_, h5, _, h3, _, _, rfl, rfl, _, rfl, ite2 (fun y => ?_) (fun y => ?_)⟩⟩
      · have y := of_decide_eq_true y
        exact no (by rw [ee, z2]; show decide (e ≤ h) = false; exact decide_eq_false (by omega))
      · have y : ¬ h < e := fun q => y (decide_eq_true q)
        exact yes (by rw [ee, z2]; show decide (e ≤ h) = true; exact decide_eq_true (by omega))
theorem make_link {K : PySem.W.Frag} {I H : Hp} {v : V} {rs : Rides} {Q : Addr → VK} (sub : Same I H) (hv : isL I v rs) (h60 : rs.length ≤ 60) (hr : ∀ r ∈ rs, r.1 ≤ r.2) (k : ∀ x ns J H', Grow No I H J H' → isLink K J (.ref x) ns → IsNeeded rs ns → Q x .non H') :
    ∀ x dx, H x = none → H dx = none → dx ≠ x → sp_Link__init K [.ref x, v] (upd (upd H dx (.own x)) x (.ins (He.ga K "Link") dx [])) (Q x) E0 := by
  intro x dx hx hdx ne
  refine ⟨I, false, x, dx, v, rs, rfl, upd_same, sub.free hx, hv, h60, hr, (grow_made (T := No) sub hx hdx ne).sub, fun ns t I2 H2 g2 h2 hu hn => ?_⟩
  obtain ⟨g, n2⟩ := Grow.make (T := No) (o := .ins (He.ga K "Link") dx [("own_rides", t)]) (Grow.refl sub) hx hdx ne g2 (fun b z => .inr (by rw [show b = x from z]; exact hx)) h2
  exact k x ns _ _ g ⟨x, dx, t, rfl, upd_same, hu.up (Same.up n2)⟩ hn
theorem order_mem {α : Type} {tb : List (Nat × α)} {p : Nat × α} (h : p ∈ orderT tb) : p ∈ tb := by
  obtain ⟨c, _, hz⟩ := List.mem_filterMap.mp h
  unfold lookT at hz
  cases e : tb.find? fun p => decide (p.1 = c) with
  | none => rw [e] at hz; cases hz
  | some q =>
    rw [e] at hz
    cases hz
    have h1 := List.find?_some e
    have h2 := List.mem_of_find?_eq_some e
    have h3 : q.1 = c := of_decide_eq_true h1
    rw [← h3]
    exact h2
theorem tyes {σ : L2.St} {H : Hp} {A B : Hp → Prop} (h : A H) : tYes σ H (fun b H3 => if b = true then A H3 else B H3) := by
  show (if true = true then A H else B H)
  rw [if_pos rfl]
  exact h
theorem make_tableO {K : PySem.W.Frag} {I0 H0 I H : Hp} {p : Addr} {kvs : List (Nat × V)} {xs : List (KvP (Lk K))} {Q : Addr → VK} (gd : Grow No I0 H0 I H) (op : Own No H0 p (.dK (kvs.map kvS)) I H) (hlk : kvP I kvs xs) (hne : xs ≠ []) (h4 : xs.length ≤ 4) (h97 : ∀ x ∈ xs, 97 ≤ x.c ∧ x.c ≤ 100)
    (k : ∀ x J H', Grow No I0 H0 J H' → isTable K J (.ref x) (orderT (xs.map fun x => (x.c, x.x.ns))) → Q x .non H') :
    ∀ x dx, H x = none → H dx = none → dx ≠ x → sp_Timetable__init K [.ref x, .ref p] (upd (upd H dx (.own x)) x (.ins (He.ga K "Timetable") dx [])) (Q x) E0 := by
  intro x dx hx hdx ne
  have px : p ≠ x := ne_of_none op.at_ hx
  have pdx : p ≠ dx := ne_of_none op.at_ hdx
  have hkk := hlk.keys
  have hkl : kvs.length = xs.length := by have := congrArg List.length hkk; rwa [List.length_map, List.length_map] at this
  refine ⟨I, x, dx, p, kvs, xs.map fun x => (x.c, x.x.ns), rfl, upd_same, by rw [upd_ne px, upd_ne pdx, op.at_], gd.sub.free hx, op.ni, hlk.links, ?_, by omega, ?_, (grow_made (T := No) gd.sub hx hdx ne).sub, fun dd kvs2 I2 H2 g2 h2 hd2 hl2 => ?_⟩
  · intro z
    rw [z] at hkl
    exact hne (List.length_eq_zero_iff.mp hkl.symm)
  · intro q hq
    have hm : q.1 ∈ xs.map (·.c) := by rw [← hkk]; exact List.mem_map_of_mem hq
    obtain ⟨y, hy, e⟩ := List.mem_map.mp hm
    have z := h97 y hy
    rw [e] at z
    have q3 : q.1 = 97 ∨ q.1 = 98 ∨ q.1 = 99 ∨ q.1 = 100 := by omega
    rcases q3 with e | e | e | e <;> rw [e] <;> decide
  obtain ⟨g, n2⟩ := Grow.make (T := No) (o := .ins (He.ga K "Timetable") dx [("own_links", .ref dd)]) gd hx hdx ne g2 (fun b z => .inr (by rcases z with e | e <;> subst e; exact live_none gd hx; exact op.n0)) h2
  exact k x _ _ g ⟨x, dx, dd, kvs2, rfl, upd_same, Same.up n2 _ _ hd2, hl2.up (Same.up n2)⟩
theorem look_has {α : Type} {kvs : List (Nat × α)} {c : Nat} (h : c ∈ kvs.map (·.1)) : ∃ v, lookT kvs c = some v ∧ (c, v) ∈ kvs := by
  unfold lookT
  cases e : kvs.find? fun p => decide (p.1 = c) with
  | none =>
    obtain ⟨q, hq, e2⟩ := List.mem_map.mp h
    rw [List.find?_eq_none] at e
    exact absurd (decide_eq_true e2) (e q hq)
  | some r =>
    have e1 : r.1 = c := of_decide_eq_true (List.find?_some (p := fun p : Nat × α => decide (p.1 = c)) e)
    refine ⟨r.2, rfl, ?_⟩
    rw [← e1]
    exact List.mem_of_find?_eq_some e
theorem exR_len (ms : List Ms) (c : Nat) (t : Int) (m : Mom) (d : Nat) : (exR ms c t m d).length ≤ (ridesL ms d).length + 1 := by
  unfold exR
  cases m with
  | num e =>
    show (if d = c then ridesL ms d ++ [(t, e)] else ridesL ms d).length ≤ _
    split
    · rw [List.length_append]; exact Nat.le_refl _
    · omega
  | first => exact Nat.le_succ _
  | last => exact Nat.le_succ _
theorem exR_ok {ms : List Ms} {c : Nat} {t : Int} {m : Mom} (f : ∀ d, Fit (ridesL ms d)) (z : exF ms c t m = true) (d : Nat) : ∀ r ∈ exR ms c t m d, r.1 ≤ r.2 := by
  intro r hr
  unfold exR at hr
  cases m with
  | num e =>
    have hr : r ∈ (if d = c then ridesL ms d ++ [(t, e)] else ridesL ms d) := hr
    split at hr
    · rcases List.mem_append.mp hr with hr | hr
      · exact (f d).1 r hr
      · rw [List.mem_singleton.mp hr]
        have z : (decide (placeM (endsF (ridesL ms c) (.num t)).1 ≤ e) && _) = true := z
        rw [Bool.and_eq_true, decide_eq_true_iff] at z
        have h1 : maxL t ((ridesL ms c).filterMap fun r => if r.1 ≤ t then some r.2 else none) ≤ e := z.1
        have h2 := (maxL_ge ((ridesL ms c).filterMap fun r => if r.1 ≤ t then some r.2 else none) t).1
        show t ≤ e
        omega
    · exact (f d).1 r hr
  | first => exact (f d).1 r hr
  | last => exact (f d).1 r hr
theorem orderT_keys {α : Type} {tb : List (Nat × α)} {p : Nat → Bool} (h : tb.map (·.1) = [97, 98, 99, 100].filter p) : (orderT tb).map (·.1) = [97, 98, 99, 100].filter p := by
  have hs : ∀ c ∈ [97, 98, 99, 100], (lookT tb c).isSome = p c := by
    intro c hc
    rw [Bool.eq_iff_iff]
    constructor
    · intro z
      cases e : lookT tb c with
      | none => rw [e] at z; cases z
      | some v =>
        unfold lookT at e
        cases e2 : tb.find? fun p => decide (p.1 = c) with
        | none => rw [e2] at e; cases e
        | some q =>
          have e1 : q.1 = c := of_decide_eq_true (List.find?_some (p := fun p : Nat × α => decide (p.1 = c)) e2)
          have hm : q.1 ∈ tb.map (·.1) := List.mem_map_of_mem (List.mem_of_find?_eq_some e2)
          rw [h, e1] at hm
          exact (List.mem_filter.mp hm).2
    · intro z
      have hm : c ∈ tb.map (·.1) := by rw [h]; exact List.mem_filter.mpr ⟨hc, z⟩
      obtain ⟨v, hv, _⟩ := look_has hm
      rw [hv]; rfl
  have e1 : ∀ l : List Nat, (∀ c ∈ l, (lookT tb c).isSome = p c) → (l.filterMap fun c => (lookT tb c).map fun r => (c, r)).map (·.1) = l.filter p := by
    intro l
    induction l with
    | nil => intro _; rfl
    | cons x l ih =>
      intro hl
      have hx := hl x (List.mem_cons_self ..)
      have ih := ih fun c hc => hl c (List.mem_cons_of_mem _ hc)
      cases e : lookT tb x with
      | none =>
        rw [e] at hx
        have hx : p x = false := hx.symm
        rw [List.filterMap_cons, e, List.filter_cons_of_neg (by rw [hx]; exact Bool.false_ne_true)]
        exact ih
      | some v =>
        rw [e] at hx
        have hx : p x = true := hx.symm
        rw [List.filterMap_cons, e, List.filter_cons_of_pos hx]
        exact congrArg (x :: ·) ih
  exact e1 _ hs
theorem put_old {kvs : List (Nat × V)} {c : Nat} {w : V} (h : c ∈ kvs.map (·.1)) : putK (kvs.map kvS) (.inr (sg c)) w = (kvs.map fun q => if q.1 = c then (q.1, w) else q).map kvS := by
  have key : ∀ q : Nat × V, ((kvS q).1 = (Sum.inr (sg c) : Key)) ↔ q.1 = c := fun q =>
    ⟨fun z => mk_inj (a := [q.1]) (b := [c]) (Sum.inr.inj z) |> List.cons.inj |>.1, fun z => by rw [← z]; rfl⟩
  unfold putK
  rw [if_pos]
  · rw [List.map_map, List.map_map]
    refine List.map_congr_left fun q _ => ?_
    show (if (kvS q).1 = _ then _ else _) = kvS (if q.1 = c then _ else _)
    by_cases z : q.1 = c
    · rw [if_pos z, if_pos ((key q).mpr z)]; rfl
    · rw [if_neg z, if_neg fun y => z ((key q).mp y)]
  · obtain ⟨q, hq, e⟩ := List.mem_map.mp h
    rw [List.any_eq_true]
    exact ⟨kvS q, List.mem_map.mpr ⟨q, hq, rfl⟩, decide_eq_true ((key q).mpr e)⟩
theorem put_if {K : PySem.W.Frag} {ms : List Ms} {c : Nat} {t : Int} {m : Mom} {REST : TS} {Dd : Ends} {σ : L2.St} {I3 H3 I5 H5 : Hp} {D : Addr} {res : List (Nat × V)} (h1 : σ[1]? = some (some (.str (sg c)))) (h2 : σ[2]? = some (some (.int t))) (h3 : σ[3]? = some (some m.v)) (h6 : σ[6]? = some (some (.ref D)))
    (hm : m ≠ .first) (g : Grow No I3 H3 I5 H5) (o5 : Own No H3 D (.dK (res.map kvS)) I5 H5) (hk : res.map (·.1) = exKeys ms c) (hv : ∀ q ∈ res, isL I5 q.2 (ridesL ms q.1)) (hin : c ∈ exKeys ms c) (h4 : res.length ≤ 4) (hr : (ridesL ms c).length ≤ 1000)
    (rest : ∀ (I6 H6 : Hp) (res2 : List (Nat × V)), Grow No I3 H3 I6 H6 → Own No H3 D (.dK (res2.map kvS)) I6 H6 → res2.map (·.1) = exKeys ms c → (∀ q ∈ res2, isL I6 q.2 (exR ms c t m q.1)) → REST Dd σ H6) :
    tSeq (tIfS (tTest (tOp rNe (tVar 3) (tC (.str "last")))) (sDPut (tVar 6) (tVar 1) (tOp rCat (tDGet (tVar 6) (tVar 1)) (tLst (tCons (tTup (tCons (tVar 2) (tCons (tVar 3) tNil))) tNil)))) tNext) REST Dd σ H5 := by
  cases m with
  | first => exact absurd rfl hm
  | last => exact ⟨_, h3, rfl, _, rfl, iteF (rest I5 H5 res g o5 hk hv)⟩
  | num e =>
    obtain ⟨v, hl, hmem⟩ := look_has (kvs := res) (c := c) (by rw [hk]; exact hin)
    obtain ⟨b, ws, rfl, hb, hp⟩ := hv _ hmem
    have hlw : ws.length = (ridesL ms c).length := Nw.Paired.len hp
    have hget : DGet H5 D (.str (sg c)) (some (.ref b)) := by
      have z := DGet.k (k := .inr (sg c)) o5.at_
      rw [valV_S, hl] at z
      exact z
    refine ⟨_, h3, rfl, _, rfl, iteT ?_⟩
    refine ⟨_, h6, _, h1, D, _, rfl, hget, _, h2, _, h3, (by show 2 ≤ sizeLine; decide), fun u hu => ⟨(by show 1 ≤ sizeLine; decide), fun q hq => ?_⟩⟩
    have gu : Grow No I5 H5 (upd I5 u (.tup [.int t, (Mom.num e).v])) (upd H5 u (.tup [.int t, (Mom.num e).v])) := Grow.new g.sub hu
    have gq : Grow No (upd I5 u (.tup [.int t, (Mom.num e).v])) (upd H5 u (.tup [.int t, (Mom.num e).v])) (upd I5 u (.tup [.int t, (Mom.num e).v])) (upd (upd H5 u (.tup [.int t, (Mom.num e).v])) q (.lst [.ref u])) := Grow.mine gu.sub hq
    refine ⟨b, q, ws, [.ref u], rfl, rfl, (gu.trans gq).sub _ _ (gu.view _ _ hb), upd_same, by rw [sizeLine_eq]; simp only [List.length_singleton]; omega, fun r hr' => ?_⟩
    have gr : Grow No (upd I5 u (.tup [.int t, (Mom.num e).v])) (upd (upd H5 u (.tup [.int t, (Mom.num e).v])) q (.lst [.ref u])) (upd (upd I5 u (.tup [.int t, (Mom.num e).v])) r (.lst (ws ++ [.ref u]))) (upd (upd (upd H5 u (.tup [.int t, (Mom.num e).v])) q (.lst [.ref u])) r (.lst (ws ++ [.ref u]))) := Grow.new gq.sub hr'
    have G := gu.trans (gq.trans gr)
    have o6 := o5.grow G
    refine ⟨_, h6, _, h1, D, _, rfl, DPut.k (k := .inr (sg c)) o6.at_ (by rw [List.length_map, sizeLine_eq]; omega), ?_⟩
    rw [put_old (by rw [hk]; exact hin)]
    refine rest _ _ _ ((g.trans G).put o6) o6.put (by rw [List.map_map]; rw [← hk]; refine List.map_congr_left fun x _ => ?_; show (if x.1 = c then _ else _ : Nat × V).1 = x.1; split <;> rfl) fun x hx => ?_
    obtain ⟨y, hy, rfl⟩ := List.mem_map.mp hx
    by_cases z : y.1 = c
    · rw [if_pos z]
      refine ⟨r, ws ++ [.ref u], rfl, upd_same, ?_⟩
      show Paired _ _ (if y.1 = c then ridesL ms y.1 ++ [(t, e)] else ridesL ms y.1)
      rw [if_pos z, z]
      exact Paired.snoc (Paired.mono' (fun _ _ z => Rep.mono G.view z) hp) ⟨u, _, _, rfl, gr.view _ _ upd_same, rfl, rfl⟩
    · rw [if_neg z]
      show isL _ y.2 (if y.1 = c then ridesL ms y.1 ++ [(t, e)] else ridesL ms y.1)
      rw [if_neg z]
      exact (hv y hy).up G.view
section
variable {P : Program} {w : World} {K : PySem.W.Frag} {mg : Str → Option Value} {base : Heap}
theorem ok_Seen_example (T : Txt K mg) (F : FnAt K "example" "Seen.example" s_Seen_example (He.ma K (He.ga K "Seen") "example"))  : Ok P w K mg base CX0 5 (He.ma K (He.ga K "Seen") "example") ["self", "letter", "moment", "end"] (sp_Seen_example K) := by
  refine ok_of F sc_Seen_example (fun _ _ _ _ _ _ us hl => match us, hl with | [_, _, _, _], _ => rfl) (fun vs H Q E h => ?_) (fun cdv A outer s H vs Q E hr h => ?_)
  · exact h.elim
  · exact h.elim
theorem okb_Seen_example (T : Txt K mg) (F : FnAt K "example" "Seen.example" s_Seen_example (He.ma K (He.ga K "Seen") "example")) (GX_need_letter : Ok P w K mg base (L2.CX P w) 3 (He.ga K "need_letter") ["letter"] (fun vs H Q E => sp_need_letter K vs H Q E ∨ spb_need_letter K vs H Q E)) (G_is_number : Ok P w K mg base CX0 1 (He.ga K "is_number") ["thing"] (sp_is_number K)) (GX_need_moment : Ok P w K mg base (L2.CX P w) 3 (He.ga K "need_moment") ["moment"] (fun vs H Q E => sp_need_moment K vs H Q E ∨ spb_need_moment K vs H Q E)) (G_Seen_ends_at : Ok P w K mg base CX0 2 (He.ma K (He.ga K "Seen") "ends_at") ["self", "letter", "moment"] (sp_Seen_ends_at K)) (G_Seen_rides_of : Ok P w K mg base CX0 1 (He.ma K (He.ga K "Seen") "rides_of") ["self", "letter"] (sp_Seen_rides_of K)) (G_Link__init : Ok P w K mg base CX0 3 (He.ma K (He.ga K "Link") "__init__") ["self", "rides"] (sp_Link__init K)) (G_Timetable__init : Ok P w K mg base CX0 1 (He.ma K (He.ga K "Timetable") "__init__") ["self", "links"] (sp_Timetable__init K)) : Ok P w K mg base (L2.CX P w) 5 (He.ma K (He.ga K "Seen") "example") ["self", "letter", "moment", "end"] (spb_Seen_example K) := by
  obtain ⟨fd_Seen_ends_at, F_Seen_ends_at, b_Seen_ends_at, _⟩ := G_Seen_ends_at.ok
  obtain ⟨fd_Seen_rides_of, F_Seen_rides_of, b_Seen_rides_of, _⟩ := G_Seen_rides_of.ok
  refine ok_ofX F sc_Seen_example (fun _ _ _ _ _ _ us hl => match us, hl with | [_, _, _, _], _ => rfl) (fun vs H Q E h => ?_) (fun cdv A outer s H vs Q E hr h => ?_)
  · obtain ⟨_, _, _, _, _, _, rfl, _⟩ := h
    rfl
  · obtain ⟨I, v, l, u, e, ms, rfl, hs, hml, sb, k⟩ := h
    refine ⟨_, (pss_cons (ps_expr (pe_callX GX_need_letter (hr.mono (by decide)) T.g_need_letter passE (pa_cons (pv 1) pa_nil)))
      (pss_cons (ps_if (pt_not (pt_val (pe_callC G_is_number (hr.mono (by decide)) T.g_is_number (pa_cons (pv 2) pa_nil)))) (pss_one (ps_raise rfl (takes_of rfl rfl rfl rfl) (pmk_own PySem.F.excBase_ValueError T.xp_NoMoment.1 T.g_NoMoment T.xp_NoMoment.2.1 (raises_own T.xp_NoMoment.2.2.1 T.xp_NoMoment.2.2.2) rfl))) pss_nil)
      (pss_cons (ps_expr (pe_callX GX_need_moment (hr.mono (by decide)) T.g_need_moment passE (pa_cons (pv 3) pa_nil)))
      (pss_cons (ps_asg (pe_meth (pv 0) T.cl_Seen T.m_Seen_ends_at F_Seen_ends_at (hr.mono (by decide)) b_Seen_ends_at .nil pass0 (pa_cons (pv 1) (pa_cons (pv 2) pa_nil))) (pg_tup (by rfl) (pgs_cons (pg_name (i := 4) sc_Seen_example.nd rfl (Or.inl rfl)) (pgs_cons (pg_name (i := 5) sc_Seen_example.nd rfl (Or.inl rfl)) pgs_nil))))
      (pss_cons (ps_if (PW.pt (pw_or (pt_cmpR op_eq (pv 3) (pe_gstr T.c_FIRST) (nomark _)) (pw_or1 (PW.pt (pw_and (pt_cmpR op_eq (pv 3) (pe_gstr T.c_LAST) (nomark _)) (pw_and1 (pt_cmpR op_ne (pv 5) (pe_gstr T.c_LAST) (nomark _)))))))) (pss_one (ps_ret pe_non)) pss_nil)
      (pss_cons (ps_if (PW.pt (pw_and (pt_cmpR op_ne (pv 3) (pe_gstr T.c_LAST) (nomark _)) (pw_and1 (PW.pt (pw_or (pt_cmpR op_lt (pv 3) (pv 4) (nomark _)) (pw_or1 (PW.pt (pw_and (pt_cmpR op_ne (pv 5) (pe_gstr T.c_LAST) (nomark _)) (pw_and1 (pt_cmpR op_lt (pv 5) (pv 3) (nomark _))))))))))) (pss_one (ps_ret pe_non)) pss_nil)
      (pss_cons (ps_set (i := 6) sc_Seen_example.nd rfl (Or.inr rfl) (pe_dc (own := [("one", 7)]) (g := (gName 7)) rfl sc_Seen_example.nd (pi_str (pe_gstr T.c_LINKS)) (blkOk_by (own := [("one", 7)]) (N := n_Seen_example) (sc := defScope s_Seen_example) (by decide +kernel)) (fun _ _ _ _ _ => (pg_name (i := 7) sc_Seen_example.nd rfl (Or.inl rfl))) (fun _ _ _ _ _ => (pts_one (PW.pt (pw_or (pt_cmpR op_eq (pv 7) (pv 1) (nomark _)) (pw_or1 (pt_cmpR (op_neNilK (K := K) rfl hr.units) (pe_meth (pv 0) T.cl_Seen T.m_Seen_rides_of F_Seen_rides_of (hr.mono (by decide)) b_Seen_rides_of .nil pass0 (pa_cons (pv 7) pa_nil)) (pe_lst pa_nil) (nomark _))))))) (fun _ _ _ _ _ => (pv 7)) (fun _ _ _ _ _ => (pe_meth (pv 0) T.cl_Seen T.m_Seen_rides_of F_Seen_rides_of (hr.mono (by decide)) b_Seen_rides_of .nil pass0 (pa_cons (pv 7) pa_nil)))))
      (pss_cons (ps_if (pt_cmpR op_ne (pv 3) (pe_gstr T.c_LAST) (nomark _)) (pss_one (ps_dput (hu_of hr) (pv 6) (pv 1) (pe_op op_cat (pe_dget (hu_of hr) (pv 6) (pv 1) (fun _ _ => rfl)) (pe_lst (pa_cons (pe_tup (pa_cons (pv 2) (pa_cons (pv 3) pa_nil))) pa_nil))) rfl)) pss_nil)
      (pss_one (ps_ret (pe_makeC T.mk_Timetable G_Timetable__init (hr.mono (by decide)) T.g_Timetable (pa_cons (pe_lock (pe_dc (own := [("one", 7)]) (g := (gName 7)) rfl sc_Seen_example.nd (pi_keys (pv 6)) (blkOk_by (own := [("one", 7)]) (N := n_Seen_example) (sc := defScope s_Seen_example) (by decide +kernel)) (fun _ _ _ _ _ => (pg_name (i := 7) sc_Seen_example.nd rfl (Or.inl rfl))) (fun _ _ _ _ _ => pts_nil) (fun _ _ _ _ _ => (pv 7)) (fun _ _ _ _ _ => (pe_makeC T.mk_Link G_Link__init (hr.mono (by decide)) T.g_Link (pa_cons (pe_dget (hu_of hr) (pv 6) (pv 7) (fun _ _ => rfl)) pa_nil))))) pa_nil)))))))))))), ?_⟩
    rcases k with ⟨c, t, m, rfl, h1, h2, rfl, rfl, hfit, h50, kN, kT⟩ | ⟨x, hx, hn, k⟩ | ⟨c, x, rfl, h1, h2, hx, hn, k⟩ | ⟨c, t, x, rfl, h1, h2, rfl, hx, hn, k⟩
    · refine ⟨_, rfl, .inl ⟨I, c, rfl, h1, h2, sb, fun I1 H1 g1 => ?_⟩⟩
      refine ⟨_, rfl, I1, .int t, .int t, rfl, .int t, g1.sub, true, rfl, iteF ?_⟩
      refine ⟨_, rfl, .inl ⟨I1, m, rfl, g1.sub, fun I2 H2 g2 => ?_⟩⟩
      have e2 := g1.view.trans g2.view
      obtain ⟨a, dx, tt, us, rfl, ha, ht, hp⟩ := id hs
      refine ⟨_, rfl, a, dx, _, rfl, g2.sub _ _ (e2 _ _ ha), rfl, _, rfl, _, rfl, I2, .ref a, ms, c, .num t, rfl, hs.up e2, hml, g2.sub, fun v' I3 H3 g3 hv => ?_⟩
      obtain ⟨q, rfl, hq⟩ := hv
      refine ⟨q, _, rfl, SqT.of (g3.sub _ _ hq), rfl, _, _, rfl, _, _, rfl, rfl, ?_⟩
      have G := (g1.trans g2).trans g3
      refine two_asks (ms := ms) (c := c) (t := t) (m := m) rfl rfl rfl rfl rfl (fun z => kN z _ _ G) (fun z => ?_)
      have kT := kT z
      have kT0 := z
      have hmf : m ≠ .first := fun y => by rw [y] at z; cases z
      clear kN z
      have e3 := e2.trans g3.view
      have hs3 := hs.up e3
      have ha3 := e3 _ _ ha
      clear g1 g2 e2 hs ha hp ht hq
      refine ⟨_, rfl, fun D hD => ?_⟩
      have gD : Grow No I3 H3 I3 (upd H3 D (.dK [])) := Grow.mine g3.sub hD
      refine dc_it (walk_str (z := "abcd")) (fun i H' => ∃ I' res, Grow No I3 H3 I' H' ∧ Own No H3 D (.dK (res.map kvS)) I' H' ∧ res.map (·.1) = (linksL.take i).filter (fun d => decide (d = c) || !(ridesL ms d).isEmpty) ∧ (∀ q ∈ res, isL I' q.2 (ridesL ms q.1)) ∧ res.length ≤ i)
        ⟨I3, [], gD, Own.new g3.sub (.inl (Same.refl H3)) (fun _ z => z.elim) hD, rfl, (fun _ z => nomatch z), Nat.le_refl _⟩ (fun _ _ _ _ => trivial) ?_ ?_
      · rintro i y H4 H5 hi ⟨I5, res, g35, o5, hk, hv, hrl⟩ ⟨rfl, d, hd, rfl⟩
        have hi4 : i < 4 := hi
        have hc' : linksL[i]? = some d := by
          have e : ("abcd" : Str).cps.toList = linksL := links_list
          rw [← e]
          simpa using hd
        have et : linksL.take (i + 1) = linksL.take i ++ [d] := by rw [List.take_add_one, hc']; rfl
        have v5 := g35.view
        have w5 := Same.refl I5
        have g5 := Grow.refl (T := No) g35.sub
        have enew : ∀ v8 : V, putK (res.map kvS) (.inr (sg d)) v8 = (res ++ [(d, v8)]).map kvS := fun v8 => by
          rw [List.map_append]
          refine putK_new ?_
          intro z
          obtain ⟨q, hq, e⟩ := List.mem_map.mp z
          obtain ⟨q2, hq2, rfl⟩ := List.mem_map.mp hq
          have ec : q2.1 = d := mk_inj (a := [q2.1]) (b := [d]) (Sum.inr.inj e) |> List.cons.inj |>.1
          have hk1 : q2.1 ∈ res.map (·.1) := List.mem_map.mpr ⟨q2, hq2, rfl⟩
          rw [hk, ec] at hk1
          have hcc := (List.mem_filter.mp hk1).1
          match i, hi4, hc', hcc with
          | 0, _, hc', hcc => simp at hcc
          | 1, _, hc', hcc => simp [linksL] at hc' hcc; omega
          | 2, _, hc', hcc => simp [linksL] at hc' hcc; omega
          | 3, _, hc', hcc => simp [linksL] at hc' hcc; omega
        refine ⟨rfl, ?_⟩
        refine ⟨_, rfl, _, rfl, rfl, _, rfl, ?_⟩
        rw [dec_sg]
        by_cases hdc : d = c
        · rw [decide_eq_true hdc]
          refine iteT ?_
          refine ⟨_, rfl, _, rfl, a, dx, _, rfl, g5.sub _ _ (v5 _ _ ha3), rfl, _, rfl, I5, .ref a, ms, d, rfl, hs3.up v5, hml, g5.sub, fun v8 I8 H8 g8 hr8 => ⟨res.map kvS, .inr (sg d), rfl, (o5.grow g8).at_, by rw [List.length_map, sizeLine_eq]; omega, ?_⟩⟩
          rw [enew v8]
          refine ⟨I8, res ++ [(d, v8)], (g35.trans g8).put (o5.grow g8), (o5.grow g8).put, ?_, fun u hu => ?_, by rw [List.length_append]; exact Nat.succ_le_succ hrl⟩
          · rw [List.map_append, hk, et, List.filter_append, List.filter_cons_of_pos (by exact by rw [decide_eq_true hdc]; rfl)]
            rfl
          · rcases List.mem_append.mp hu with hu | hu
            · exact (hv u hu).up (w5.trans g8.view)
            · rw [List.mem_singleton.mp hu]
              exact hr8
        rw [decide_eq_false hdc]
        refine iteF ⟨_, rfl, a, dx, _, rfl, g35.sub _ _ (v5 _ _ ha3), rfl, _, rfl, I5, .ref a, ms, d, rfl, hs3.up v5, hml, g35.sub, fun v6 I6 H6 g56 hr6 => ?_⟩
        obtain ⟨b6, ws6, rfl, hb6, hp6⟩ := hr6
        have hl6 := Nw.Paired.len hp6
        refine ⟨by decide, fun q hq => ⟨b6, q, _, rfl, rfl, SqL.of (by rw [upd_ne (ne_of_none (g56.sub _ _ hb6) hq)]; exact g56.sub _ _ hb6), SqL.of upd_same, ?_⟩⟩
        have g7 : Grow No I5 H5 I6 (upd H6 q (.lst [])) := g56.trans (Grow.mine g56.sub hq)
        have g37 := g35.trans g7
        have o7 := o5.grow g7
        have v7 := v5.trans g7.view
        have w7 := g7.view
        generalize upd H6 q (.lst []) = H7 at g7 g37 o7
        generalize I6 = I7 at g7 g37 o7 v7 w7
        have ew : ws6.isEmpty = (ridesL ms d).isEmpty := by
          cases ws6 with
          | nil =>
            cases hh : ridesL ms d with
            | nil => rfl
            | cons x l => rw [hh] at hl6; cases hl6
          | cons y l6 =>
            cases hh : ridesL ms d with
            | nil => rw [hh] at hl6; cases hl6
            | cons x l => rfl
        refine ⟨_, rfl, ?_⟩
        rw [ew]
        cases hem : (ridesL ms d).isEmpty with
        | true =>
          refine iteF ⟨I7, res, g37, o7, ?_, fun u hu => (hv u hu).up w7, by omega⟩
          rw [hk, et, List.filter_append, List.filter_cons_of_neg (by rw [decide_eq_false hdc, hem]; exact Bool.false_ne_true)]
          simp
        | false =>
          refine iteT ?_
          refine ⟨_, rfl, _, rfl, a, dx, _, rfl, g7.sub _ _ (v7 _ _ ha3), rfl, _, rfl, I7, .ref a, ms, d, rfl, hs3.up v7, hml, g7.sub, fun v8 I8 H8 g8 hr8 => ⟨res.map kvS, .inr (sg d), rfl, (o7.grow g8).at_, by rw [List.length_map, sizeLine_eq]; omega, ?_⟩⟩
          rw [enew v8]
          refine ⟨I8, res ++ [(d, v8)], (g37.trans g8).put (o7.grow g8), (o7.grow g8).put, ?_, fun u hu => ?_, by rw [List.length_append]; exact Nat.succ_le_succ hrl⟩
          · rw [List.map_append, hk, et, List.filter_append, List.filter_cons_of_pos (by exact by rw [hem, decide_eq_false hdc]; rfl)]
            rfl
          · rcases List.mem_append.mp hu with hu | hu
            · exact (hv u hu).up (w7.trans g8.view)
            · rw [List.mem_singleton.mp hu]
              exact hr8
      rintro H5 ⟨I5, res, g35, o5, hk, hv, hrl⟩
      have hin4 : c ∈ [97, 98, 99, 100] := by
        have z : c = 97 ∨ c = 98 ∨ c = 99 ∨ c = 100 := by omega
        rcases z with rfl | rfl | rfl | rfl <;> simp
      have hin : c ∈ exKeys ms c := List.mem_filter.mpr ⟨hin4, by rw [decide_eq_true rfl]; rfl⟩
      have hlr := rides_len ms c
      refine put_if (K := K) (c := c) (t := t) (m := m) (res := res) rfl rfl rfl rfl hmf g35 o5 (by rw [hk]; rfl) hv hin hrl (by omega) fun I6 H6 res2 g6 o6 hk6 hv6 => ?_
      clear g35 o5 hk hv hrl hD gD hs3 ha3 hlr
      have z := kT0
      generalize he0 : ((endsF (ridesL ms c) (Mom.num t)).1).v = v4
      generalize he1 : ((endsF (ridesL ms c) (Mom.num t)).2).v = v5
      have hres4 : res2.length ≤ 4 := by
        have h1 := congrArg List.length hk6
        rw [List.length_map] at h1
        rw [h1]
        exact List.length_filter_le _ _
      refine ⟨D, _, o6.at_, trivial, fun od => ?_⟩
      have gF := g6.put (o' := .frz od (.dK (res2.map kvS))) o6
      have oF : Own No H3 D (.frz od (.dK (res2.map kvS))) I6 (upd H6 D (.frz od (.dK (res2.map kvS)))) := o6.put
      generalize upd H6 D (.frz od (.dK (res2.map kvS))) = HF at gF oF ⊢
      refine ⟨_, rfl, D, od, rfl, .inl ⟨_, oF.at_, fun D2 hD2 => ?_⟩⟩
      have nD : D ≠ D2 := ne_of_none oF.at_ hD2
      refine dc_it walk_keys (fun i H' => ∃ (I' : Hp) (res3 : List (Nat × V)) (xs : List (KvP (Lk K))), Grow No I3 H3 I' H' ∧ Same I6 I' ∧ Own No H3 D (.frz od (.dK (res2.map kvS))) I' H' ∧ Own No H3 D2 (.dK (res3.map kvS)) I' H' ∧ kvP I' res3 xs ∧ xs.map (·.c) = (res2.take i).map (·.1) ∧ ∀ x ∈ xs, IsNeeded (exR ms c t m x.c) x.x.ns)
        ⟨I6, [], [], gF.trans (Grow.mine gF.sub hD2), Same.refl _, oF.other nD, Own.new gF.sub (.inr gF.live) (fun _ z => z.elim) hD2, .nil, rfl, fun _ z => nomatch z⟩ (fun i H' _ ⟨_, _, _, _, _, o, _⟩ => o.at_) ?_ ?_
      · rintro i y H7 H8 hi ⟨I7, res3, xs, g7, s7, oD, o7, hlk, hkx, hnd⟩ ⟨rfl, kk, vv, hkv, rfl⟩
        obtain ⟨q2, hm2, hq2, rfl, rfl⟩ := mem_keys hkv
        refine ⟨rfl, tyes ?_⟩
        have hget : DGet H8 D (.str (sg q2.1)) (lookT res2 q2.1) := .inl ⟨_, .inr (sg q2.1), .inr ⟨_, oD.at_⟩, rfl, (valV_S q2.1 res2).symm⟩
        have hnk : (res2.map (·.1)).Nodup := by rw [hk6]; exact List.Nodup.sublist List.filter_sublist (by decide)
        rw [look_at hnk hq2] at hget
        refine ⟨_, rfl, _, rfl, _, rfl, _, _, rfl, hget, ?_⟩
        have hlr := rides_len ms q2.1
        have hxl := exR_len ms c t m q2.1
        refine make_link g7.sub ((hv6 q2 hm2).up s7) (by omega) (exR_ok hfit kT0 q2.1) fun x ns J H9 g9 hl hn => ⟨rfl, ?_⟩
        have o9 := o7.grow g9
        have oD9 := oD.grow g9
        have hk3 := hlk.keys
        have hi' : i < res2.length := (List.getElem?_eq_some_iff.mp hq2).1
        have hkl : res3.length = i := by
          have h1 := congrArg List.length (hk3.trans hkx)
          rw [List.length_map, List.length_map, List.length_take] at h1
          omega
        refine ⟨res3.map kvS, .inr (sg q2.1), rfl, o9.at_, by rw [List.length_map, sizeLine_eq]; omega, ?_⟩
        have enew : putK (res3.map kvS) (.inr (sg q2.1)) (V.ref x) = (res3 ++ [(q2.1, V.ref x)]).map kvS := by
          rw [List.map_append]
          refine putK_new ?_
          intro z
          obtain ⟨q, hq, e⟩ := List.mem_map.mp z
          obtain ⟨q3, hq3, rfl⟩ := List.mem_map.mp hq
          have ec : q3.1 = q2.1 := mk_inj (a := [q3.1]) (b := [q2.1]) (Sum.inr.inj e) |> List.cons.inj |>.1
          have hm3 : q2.1 ∈ (res2.take i).map (·.1) := by rw [← hkx, ← hk3, ← ec]; exact List.mem_map_of_mem hq3
          obtain ⟨q4, hq4, e4⟩ := List.mem_map.mp hm3
          obtain ⟨j, hj⟩ := List.getElem?_of_mem hq4
          have hji : j < i := by
            have := (List.getElem?_eq_some_iff.mp hj).1
            rw [List.length_take] at this
            omega
          rw [List.getElem?_take_of_lt hji] at hj
          have e5 : j = i := (List.getElem?_inj (i := j) (j := i) (l := res2.map (·.1)) (by rw [List.length_map]; omega) hnk).mp (by rw [List.getElem?_map, List.getElem?_map, hj, hq2]; exact congrArg some e4)
          omega
        rw [enew]
        refine ⟨J, res3 ++ [(q2.1, V.ref x)], xs ++ [⟨q2.1, ⟨ns⟩⟩], (g7.trans g9).put o9, s7.trans g9.view, oD9.other nD, o9.put, Paired.snoc (hlk.up g9.view) ⟨rfl, hl⟩, ?_, fun u hu => ?_⟩
        · rw [List.map_append, hkx, List.take_add_one, hq2, List.map_append]
          rfl
        · rcases List.mem_append.mp hu with hu | hu
          · exact hnd u hu
          · rw [List.mem_singleton.mp hu]
            exact hn
      rintro H7 ⟨I7, res3, xs, g7, s7, oD, o7, hlk, hkx, hnd⟩
      refine ⟨oD.at_, ?_⟩
      have g8 := g7.put (o' := .dK (res2.map kvS)) oD
      have o8 := o7.other (o' := .dK (res2.map kvS)) nD.symm
      have hkk : xs.map (·.c) = exKeys ms c := by
        rw [hkx, List.length_map, List.take_length]
        exact hk6
      refine make_tableO g8 o8 hlk ?_ ?_ ?_ fun x J H9 g9 hT => ⟨rfl, ?_⟩
      · intro z
        rw [z] at hkk
        rw [← hkk] at hin
        cases hin
      · have h1 := congrArg List.length hkk
        rw [List.length_map] at h1
        rw [h1]
        exact List.length_filter_le _ _
      · intro x hx
        have h1 : x.c ∈ exKeys ms c := by rw [← hkk]; exact List.mem_map_of_mem hx
        have h2 := (List.mem_filter.mp h1).1
        simp only [List.mem_cons, List.not_mem_nil, or_false] at h2
        omega
      · refine kT (.ref x) _ _ _ (G.trans g9) hT ⟨?_, ?_⟩
        · refine orderT_keys ?_
          rw [List.map_map]
          exact hkk
        · intro p hp
          have h1 := order_mem hp
          obtain ⟨u, hu, rfl⟩ := List.mem_map.mp h1
          exact hnd u hu
    · exact ⟨_, rfl, .inr ⟨I, l, x, rfl, hx, hn, sb, k⟩⟩
    · refine ⟨_, rfl, .inl ⟨I, c, rfl, h1, h2, sb, fun I1 H1 g1 => ?_⟩⟩
      refine ⟨_, rfl, I1, u, x, rfl, hx.up g1.view, g1.sub, _, rfl, ?_⟩
      rw [hn]
      exact iteT (k _ _ g1)
    · refine ⟨_, rfl, .inl ⟨I, c, rfl, h1, h2, sb, fun I1 H1 g1 => ?_⟩⟩
      refine ⟨_, rfl, I1, .int t, .int t, rfl, .int t, g1.sub, true, rfl, iteF ?_⟩
      exact ⟨_, rfl, .inr ⟨I1, e, x, rfl, hx.up g1.view, hn, g1.sub, k.grow g1⟩⟩
end
end Nw

namespace Nw
open PySem PySem.Spec PyProof.Rows L2
/-! ### the law's word of what is raised -/
def tAny (te : TE) : TS := fun D σ H => ∃ Kx : VK, (∀ v H', Kx v H' → D.nx σ H') ∧ te σ H Kx
theorem ps_any {X : Cx} {e : Expr} {te : TE} {pos : Pos} (he : PE X e te) (hs : swapsWith e none pos.line X.env = pure false := by rfl) : PS X (.Expr e pos) (tAny te) := by
  refine ⟨fun pins s σ H D I h => ?_⟩
  obtain ⟨Kx, h1, h2⟩ := h
  exact (ps_expr (te := fun σ H Q => (∀ v H', Kx v H' → Q v H') ∧ te σ H Kx) ⟨fun pins s σ H Q I h => wpAny_mono (he.run pins s σ H Kx I h.2) (fun v s1 ⟨x, H1, I1, r1, q1⟩ => ⟨x, H1, I1, r1, h.1 _ _ q1⟩) fun _ _ z => z⟩ hs).run pins s σ H D I ⟨fun v H' z => h1 v H' z, h2⟩
def EWo (K : PySem.W.Frag) (Q : VK) : XK := fun cls d H => PySem.W.exmOne K cls (.ref (He.ga K "OrderError")) = some true ∧ ∃ (I : Hp), Same I H ∧
  ((∃ dx v0 v1, cls = .ref (He.ga K "Clash") ∧ d = some dx ∧ H dx = some (.xd [("second", v1), ("first", v0)]) ∧ ∀ t2 t H2, Grow No I H I H2 → H2 t2 = some (.tup [v0, v1]) → H2 t = some (.tup [.str "clash", .ref t2]) → Q (.ref t) H2))
def TTw (K : PySem.W.Frag) : (XK → Hp → VK → Prop) → Hp → VK → Prop := fun tl H Q => tl (EWo K Q) H fun _ H2 => ∀ t, H2 t = none → Q (.ref t) (upd H2 t (.tup [.str "", .non]))
theorem gives_l_word {K : PySem.W.Frag} {mg : Str → Option Value} (T : Txt K mg) {X : Cx} {g : Addr} {cdg : Value} {q : Str} (hK : X.K = K) (hm : X.mg = mg) : LamX.GivesTo X n_l_word "_law_word" (defScope s_l_word) g cdg (defBody s_l_word) "_law_work" q (TTw K) := by
  subst hK
  subst hm
  intro f c' s H Q tl act hc h
  refine ⟨_, pss_cons (ps_set (i := 1) sc_l_word.nd rfl (Or.inl rfl) pe_non) (pss_cons
      (ps_try_keep (X := (cxOf C8.CX0 X.prog X.w X.K X.mg X.base n_l_word "_law_word" (defScope s_l_word) g cdg X.A X.stack s H C8.E0).nox) (i := 2) (c := .ref (He.ga X.K "OrderError"))
        (tb := fun W D σ H => ∃ Ech : XK, (∀ cls d H', Ech cls d H' → EW 5 W cls d H') ∧ ∃ Kx : VK, (∀ v H', Kx v H' → D.nx σ H') ∧ σ[0]? = some (some (.ref f)) ∧ H c' = some (LamX.CodeO c' q) ∧ tl Ech H Kx)
        (ts := fun a cls d D σ H => tVar 2 σ H fun v H1 => D.nx (σ.set 1 (some v)) H1)
        rfl rfl rfl sc_l_word.nd rfl rfl ⟨rfl, by decide, .inl T.g_OrderError⟩ (fun W pn xe tk => ?_) (fun a oe cls d pn z vs => pss_one (ps_set (i := 1) sc_l_word.nd rfl (Or.inl rfl) (pv 2))))
      (pss_cons (ps_if (pt_cmpR op_isN (pv 1) pe_non (nomark _)) (pss_one (ps_ret (pe_tup (pa_cons pe_str (pa_cons pe_non pa_nil))))) pss_nil)
      (pss_cons (ps_set (i := 3) sc_l_word.nd rfl (Or.inl rfl) (pe_lst (pa_cons (pe_callB call_isV (by rfl) T.b_isinstance (by decide +kernel) (pa_cons (pv 1) (pa_cons (pe_gref T.g_NoSeen) pa_nil))) (pa_cons (pe_callB call_isV (by rfl) T.b_isinstance (by decide +kernel) (pa_cons (pv 1) (pa_cons (pe_gref T.g_Clash) pa_nil))) pa_nil))))
      (pss_cons (ps_if (PW.pt (pw_or (pt_cmpR op_ne (pe_bm PySem.F.plainAttrs_list PySem.F.slot_list_count PySem.F.type_list_count mt_countV (pv 3) (pa_cons pe_bl pa_nil)) pe_int (nomark _)) (pw_or1 (pt_not (pt_val (pe_callB call_isV (by rfl) T.b_isinstance (by decide +kernel) (pa_cons (pv 1) (pa_cons (pe_bltn (v := .ty "ValueError") rfl T.b_ValueError (by decide +kernel) rfl) pa_nil)))))))) (pss_one (ps_ret (pe_tup (pa_cons pe_str (pa_cons pe_non pa_nil))))) pss_nil)
      (pss_cons (ps_set (i := 4) sc_l_word.nd rfl (Or.inl rfl) (pe_ix ix_list (pe_lst (pa_cons pe_str (pa_cons pe_str pa_nil))) (pe_bm PySem.F.plainAttrs_list PySem.F.slot_list_index PySem.F.type_list_index mt_index (pv 3) (pa_cons pe_bl pa_nil)) (fun _ _ => rfl)))
      (pss_cons (ps_if (pt_cmpR op_eq (pv 4) pe_str (nomark _)) (pss_one (ps_ret (pe_tup (pa_cons (pv 4) (pa_cons (pe_exf (pv 1)) pa_nil))))) pss_nil)
      (pss_cons (ps_if (pt_cmpR op_eq (pv 4) pe_str (nomark _)) (pss_one (ps_ret (pe_tup (pa_cons (pv 4) (pa_cons (pe_tup (pa_cons (pe_exf (pv 1)) (pa_cons (pe_exf (pv 1)) pa_nil))) pa_nil))))) pss_nil)
      (pss_one (ps_ret (pe_tup (pa_cons (pv 4) (pa_cons pe_non pa_nil)))))))))))), ?_⟩
  · refine ⟨fun pins s' σ H' D I h' => ?_⟩
    obtain ⟨Ech, hW, Kx, hk, h1, h2, h3⟩ := h'
    exact (pss_one (ps_any (act _ pn xe Ech _ _ (Nw.Takes.len tk) fun cls d σ' H' z hl => hW cls d H' z σ' hl))).run pins s' σ H' D I ⟨Kx, hk, h1, h2, h3⟩
  · refine ⟨EWo X.K Q, fun cls d H' ⟨z1, I, sb, z2⟩ σ hl => ⟨z1, fun a ha0 => ?_⟩, fun _ H2 => ∀ t, H2 t = none → Q (.ref t) (upd H2 t (.tup [.str "", .non])), fun _ H' z => ⟨_, rfl, rfl, true, rfl, iteT ⟨(by show 2 ≤ sizeLine; decide), fun t ht => z t ht⟩⟩, rfl, hc, h⟩
    match σ, hl with
    | [x0, x1, x2, x3, x4], _ =>
      refine ⟨_, rfl, ?_⟩
      rcases z2 with ⟨dx, v0, v1, rfl, rfl, hx, kq⟩
      · have gA : Grow No I H' I (upd H' a (ExV (.ref (He.ga X.K "Clash")) (some dx) a)) := Grow.mine sb ha0
        have ha : upd H' a (ExV (.ref (He.ga X.K "Clash")) (some dx) a) a = some (ExV (.ref (He.ga X.K "Clash")) (some dx) a) := upd_same
        have hx := gA.same _ _ hx
        unfold keepD
        dsimp only
        generalize upd H' a (ExV (.ref (He.ga X.K "Clash")) (some dx) a) = H1 at gA ha hx ⊢
        refine ⟨_, rfl, rfl, _, rfl, iteF ?_⟩
        refine ⟨_, rfl, a, He.ga X.K "Clash", some dx, .ref (He.ga X.K "NoSeen"), _, false, rfl, ha, (fun _ z => by cases z; exact ⟨_, hx⟩), T.xf_Clash, .own _, T.ki_Clash_NoSeen, _, rfl, a, He.ga X.K "Clash", some dx, .ref (He.ga X.K "Clash"), _, true, rfl, ha, (fun _ z => by cases z; exact ⟨_, hx⟩), T.xf_Clash, .own _, T.ki_Clash_Clash, (by show 2 ≤ sizeLine; decide), fun L1 hL1 => ?_⟩
        have g1 : Grow No I H1 I (upd H1 L1 (.lst [V.bl false, V.bl true])) := Grow.mine gA.sub hL1
        have ha := g1.same _ _ ha
        have hx := g1.same _ _ hx
        have a1 : upd H1 L1 (.lst [V.bl false, V.bl true]) L1 = some (.lst [V.bl false, V.bl true]) := upd_same
        generalize upd H1 L1 (.lst [V.bl false, V.bl true]) = H2 at g1 ha hx a1 ⊢
        refine ⟨_, rfl, .inl ⟨rfl, _, SqL.of a1⟩, L1, _, _, rfl, rfl, SqL.of a1, rfl, rfl, rfl, _, rfl, ?_⟩
        refine iteF ⟨_, rfl, a, He.ga X.K "Clash", some dx, .ty "ValueError", _, true, rfl, ha, (fun _ z => by cases z; exact ⟨_, hx⟩), T.xf_Clash, .ty _, T.ki_Clash_ValueError, true, rfl, iteF ?_⟩
        refine ⟨(by show 2 ≤ sizeLine; decide), fun L2 hL2 => ?_⟩
        have g2 : Grow No I H2 I (upd H2 L2 (.lst [V.str "seen", V.str "clash"])) := Grow.mine g1.sub hL2
        have ha := g2.same _ _ ha
        have hx := g2.same _ _ hx
        have a1 := g2.same _ _ a1
        have a2 : upd H2 L2 (.lst [V.str "seen", V.str "clash"]) L2 = some (.lst [V.str "seen", V.str "clash"]) := upd_same
        generalize upd H2 L2 (.lst [V.str "seen", V.str "clash"]) = H3 at g2 ha hx a1 a2 ⊢
        refine ⟨_, rfl, .inl ⟨rfl, _, SqL.of a1⟩, L1, _, .bl true, 1, .bl true, rfl, rfl, SqL.of a1, rfl, rfl, rfl, rfl, (fun m z h1 h2 => by match m, h1, h2 with | 0, _, h2 => cases h2; rfl | m + 1, h1, _ => omega), L2, _, _, _, rfl, rfl, SqL.of a2, (by rw [atI_nat' (j := 1) rfl]; rfl), ?_⟩
        have gT := (gA.trans (g1.trans g2))
        refine ⟨_, rfl, rfl, false, rfl, iteF ⟨_, rfl, rfl, true, rfl, iteT ⟨_, rfl, _, rfl, a, _, dx, _, _, rfl, ha, hx, T.xf_Clash, T.nf_Clash_first, rfl, _, rfl, a, _, dx, _, _, rfl, ha, hx, T.xf_Clash, T.nf_Clash_second, rfl, (by show 2 ≤ sizeLine; decide), fun t2 ht2 => ⟨(by show 2 ≤ sizeLine; decide), fun t ht => ?_⟩⟩⟩⟩
        have gU := gT.trans (Grow.mine (T := No) (o := .tup [v0, v1]) gT.sub ht2)
        exact kq t2 t _ (gU.trans (Grow.mine gU.sub ht)) (by rw [upd_ne (ne_of_none upd_same ht)]; exact upd_same) upd_same
end Nw

namespace Nw
open PySem PySem.Spec PyProof.Rows L2
/-! ### a row by lines; one pair within another one -/
def lowC (c : Nat) : Nat := if low c then c else c + 32
theorem lower_step {c : Nat} (h : isStep c = true) : Txt.lower (sg c) = sg (lowC c) := by
  rcases step_cases h with rfl | rfl | rfl | rfl | rfl | rfl | rfl | rfl <;> (rw [lower_sg (by decide)]; rfl)
abbrev fld (F : Nat → Mom → Mom) (l : List Nat) (m : Mom) : Mom := l.foldl (fun m c => F c m) m
theorem lowC_lo {c : Nat} (h : isStep c = true) (z : low c = false) : lo1 c = lowC c := by
  rcases step_cases h with rfl | rfl | rfl | rfl | rfl | rfl | rfl | rfl
  · rfl
  · rfl
  · rfl
  · rfl
  all_goals cases z
theorem lowC_low {c : Nat} (z : low c = true) : lowC c = c := if_pos z
abbrev Lns := List (KvP Rides)
def isLines (I : Hp) (v : V) (ls : Lns) : Prop := ∃ d kvs, v = .ref d ∧ I d = some (.dK (kvs.map kvS)) ∧ kvP I kvs ls
theorem isLines.up {I I' : Hp} {v : V} {ls : Lns} (h : isLines I v ls) (e : Same I I') : isLines I' v ls := by
  obtain ⟨d, kvs, h1, h2, h3⟩ := h
  exact ⟨d, kvs, h1, e _ _ h2, h3.up e⟩
def sp_l_go (K : PySem.W.Frag) : Sp := fun vs H Q _ => ∃ (I : Hp) (v : V) (l0 : List Nat) (R : Nat → Rides) (l : List Nat) (m : Mom), vs = [v, .str (mk l), m.v] ∧ isLines I v (l0.map fun c => ⟨c, R c⟩) ∧ (∀ c ∈ l0, (R c).length ≤ 1000) ∧ (∀ c ∈ l, isStep c = true ∧ lowC c ∈ l0) ∧ Same I H ∧ ∀ I' H', Grow No I H I' H' → Q (fld (goR R) l m).v H'
def smallM : Mom → Prop
  | .num t => t.natAbs < 10000000
  | _ => True
def sp_l_moment (K : PySem.W.Frag) : Sp := fun vs H Q _ => ∃ (I : Hp) (D : DA) (n wide : Nat), vs = [.ref D.d, .int wide] ∧ Drw D n I H ∧ n + 6 < lim ∧ 1 ≤ wide ∧ wide ≤ 1000000 ∧
  ∀ (m : Mom) I' H', smallM m → Grow (TD D) I H I' H' → Drw D (n + 6) I' H' → Q m.v H'
theorem find_line {α : Type} {l0 : List Nat} {f : Nat → α} {kvs : List (Nat × V)} {I : Hp} [Rep α] (h : kvP I kvs (l0.map fun c => ⟨c, f c⟩)) {c : Nat} (hc : c ∈ l0) : ∃ v, lookT kvs c = some v ∧ Rep.is I v (f c) := by
  induction l0 generalizing kvs with
  | nil => cases hc
  | cons d l0 ih =>
    match kvs, h with
    | q :: kvs, .cons h t =>
      obtain ⟨e1, e2⟩ := h
      have e1 : q.1 = d := e1
      by_cases z : q.1 = c
      · refine ⟨q.2, ?_, ?_⟩
        · unfold lookT
          rw [List.find?_cons_of_pos (by exact decide_eq_true z)]
          rfl
        · rw [← z, e1]; exact e2
      · have hc' : c ∈ l0 := by
          rcases List.mem_cons.mp hc with y | y
          · exact absurd (e1.trans y.symm) z
          · exact y
        obtain ⟨v, h1, h2⟩ := ih t hc'
        refine ⟨v, ?_, h2⟩
        unfold lookT at h1 ⊢
        rw [List.find?_cons_of_neg (by rw [decide_eq_false z]; exact Bool.false_ne_true)]
        exact h1
theorem low_eq {c : Nat} (h : isStep c = true) : decide (V.str (sg c) = V.str (sg (lowC c))) = low c := by
  have e : decide (V.str (sg c) = V.str (sg (lowC c))) = decide (c = lowC c) := by
    by_cases z : c = lowC c
    · rw [decide_eq_true z, decide_eq_true (by rw [← z])]
    · have n1 : ¬ V.str (sg c) = V.str (sg (lowC c)) := fun y => z (List.cons.inj (mk_inj (a := [c]) (b := [lowC c]) (V.str.inj y))).1
      rw [decide_eq_false z, decide_eq_false n1]
  rw [e]
  rcases step_cases h with rfl | rfl | rfl | rfl | rfl | rfl | rfl | rfl <;> decide

theorem step_letter {c : Nat} (h : 97 ≤ c ∧ c ≤ 100) : isStep c = true := by
  have z : c = 97 ∨ c = 98 ∨ c = 99 ∨ c = 100 := by omega
  rcases z with rfl | rfl | rfl | rfl <;> decide
theorem step_cap {c : Nat} (h : 97 ≤ c ∧ c ≤ 100) : isStep (up1 c) = true ∧ low (up1 c) = false := by
  have z : c = 97 ∨ c = 98 ∨ c = 99 ∨ c = 100 := by omega
  rcases z with rfl | rfl | rfl | rfl <;> decide
theorem signs_of {l : List Nat} : ∀ {xs : List Str}, (∀ s ∈ xs, ∃ c ∈ l, s = sg c) → ∃ cs : List Nat, xs = cs.map sg ∧ ∀ c ∈ cs, c ∈ l
  | [], _ => ⟨[], rfl, fun _ h => nomatch h⟩
  | x :: xs, h => by
    obtain ⟨c, hc, rfl⟩ := h x (List.mem_cons_self ..)
    obtain ⟨cs, e, h2⟩ := signs_of fun s hs => h s (List.mem_cons_of_mem _ hs)
    exact ⟨c :: cs, by rw [e]; rfl, fun d hd => (List.mem_cons.mp hd).elim (fun z => z ▸ hc) (h2 d)⟩
def withinB (p q : Mom × Mom) : Bool := !decide (placeM p.1 < placeM q.1) && decide (placeM p.2 ≤ placeM q.2)
def sp_l_within (K : PySem.W.Frag) : Sp := fun vs H Q _ => ∃ (I : Hp) (v w : V) (p q : Mom × Mom), vs = [v, w] ∧ isMM I v p ∧ isMM I w q ∧ Same I H ∧ ∀ I' H', Grow No I H I' H' → Q (.bl (withinB p q)) H'
section
variable {P : Program} {w : World} {K : PySem.W.Frag} {mg : Str → Option Value} {base : Heap}
theorem ok_l_moment (T : Txt K mg) (F : FnAt K "_law_moment" "_law_moment" s_l_moment (He.ga K "_law_moment")) (G_l_next : Ok P w K mg base CX0 1 (He.ga K "_law_next") ["_law_draw", "_law_many"] (sp_l_next K)) (G_l_pick : Ok P w K mg base CX0 2 (He.ga K "_law_pick") ["_law_draw", "_law_some_here"] (sp_l_pick K)) : Ok P w K mg base CX0 3 (He.ga K "_law_moment") ["_law_draw", "_law_wide"] (sp_l_moment K) := by
  refine ok_of F sc_l_moment (fun _ _ _ _ _ _ us hl => match us, hl with | [_, _], _ => rfl) (fun vs H Q E h => ?_) (fun cdv A outer s H vs Q E hr h => ?_)
  · obtain ⟨_, _, _, _, rfl, _⟩ := h
    rfl
  · obtain ⟨I, D, n, wide, rfl, dr, hn, hw0, hw1, k⟩ := h
    refine ⟨_, (pss_cons (ps_setLc (i := 2) (own := [("_law_turn", 3)]) (g := (gName 3)) rfl sc_l_moment.nd rfl rfl (sw_true rfl rfl rfl (by decide +kernel)) (pi_range1 rfl T.b_range (pa_cons pe_int pa_nil)) (blkOk_by (own := [("_law_turn", 3)]) (N := n_l_moment) (sc := defScope s_l_moment) (by decide +kernel)) (fun _ _ _ _ _ => (pg_name (i := 3) sc_l_moment.nd rfl (Or.inl rfl))) (fun _ _ _ _ _ => pts_nil) (fun _ _ _ _ _ => (pe_op op_sub (pe_op op_sub (pe_callC G_l_next (hr.mono (by decide)) T.g__law_next (pa_cons (pv 0) (pa_cons (pe_op op_mul pe_int (pv 1)) pa_nil))) (pv 1)) (pe_op op_fdiv (pv 1) pe_int))))
      (pss_one (ps_ret (pe_callC G_l_pick (hr.mono (by decide)) T.g__law_pick (pa_cons (pv 0) (pa_cons (pe_op op_cat (pv 2) (pe_lst (pa_cons pe_str (pa_cons pe_str pa_nil)))) pa_nil)))))), ?_⟩
    have hw : 0 ≤ (wide : Int) / 2 ∧ (wide : Int) / 2 ≤ wide := by omega
    refine ⟨4, rfl, by decide, by decide, fun L hL => ?_⟩
    refine lc_gen (T := TD D) (I := I) (β := Int) (walk_range (lo := 0) (n := 4)) (fun i => Drw D (n + i)) (fun _ => Stable.drw) dr.sub dr.live hL dr (by decide) (fun _ _ _ _ _ => trivial) (fun _ o => ∀ t, o = some t → t.natAbs < 10000000) ?_ ?_
    · rintro i x I1 H1 H2 hi g1 d1 ⟨rfl, rfl⟩ Kn Ky kn ky
      refine ⟨rfl, lc_yes ?_⟩
      refine ⟨_, rfl, _, rfl, _, _, rfl, rfl, .inl ⟨by decide, by decide⟩, I1, D, n + i, 3 * (wide : Int), rfl, d1, by omega, by omega, by omega, fun r H3 h0 h1 g2 d2 => ?_⟩
      refine ⟨_, rfl, _, _, rfl, rfl, _, rfl, _, _, rfl, rfl, ⟨by decide, by decide⟩, _, _, rfl, rfl, ?_⟩
      exact ky _ (fun t e => by cases e; omega) _ I1 H3 g2 d2 rfl
    · intro os I1 H1 vs' hlen hP g1 d1 ow hp
      have e1 := Paired.ints hp
      subst e1
      have hl4 : (os.filterMap id).length ≤ 4 := by rw [← hlen]; exact List.length_filterMap_le _ _
      refine ⟨_, rfl, _, rfl, by decide, fun p hp1 => ?_⟩
      have gp : Grow (TD D) I1 H1 I1 (upd H1 p (.lst [V.str "first", V.str "last"])) := Grow.mine g1.sub hp1
      have ow1 := ow.grow gp
      refine ⟨L, p, _, _, rfl, rfl, ow1.at_, upd_same, by simp [sizeLine_eq]; omega, fun q hq => ?_⟩
      have gq : Grow (TD D) I1 (upd H1 p (.lst [V.str "first", V.str "last"])) I1 (upd (upd H1 p (.lst [V.str "first", V.str "last"])) q (.lst ((os.filterMap id).map V.int ++ [V.str "first", V.str "last"]))) := Grow.mine gp.sub hq
      have d2 := (d1.grow (Grow.mine g1.sub hp1)).grow (Grow.mine (o := .lst ((os.filterMap id).map V.int ++ [V.str "first", V.str "last"])) gp.sub hq)
      refine ⟨I1, D, n + 4, _, rfl, d2, by omega, .inl ⟨q, _, rfl, fun t => (d1.grow (Grow.mine g1.sub hp1)).live q t hq, upd_same, by simp, by simp; omega, fun j x H' hx g3 d3 => ?_⟩⟩
      have hm : ∃ m : Mom, x = m.v ∧ smallM m := by
        rcases List.mem_append.mp (List.mem_of_getElem? hx) with z | z
        · obtain ⟨t, ht, rfl⟩ := List.mem_map.mp z
          obtain ⟨o, ho, he⟩ := List.mem_filterMap.mp ht
          obtain ⟨i, hi⟩ := List.getElem?_of_mem ho
          exact ⟨.num t, rfl, hP i o hi t he⟩
        · rcases List.mem_cons.mp z with rfl | z
          · exact ⟨.first, rfl, trivial⟩
          · rw [List.mem_singleton] at z
            exact ⟨.last, z, trivial⟩
      obtain ⟨m, rfl, hs⟩ := hm
      exact k m _ _ hs (((g1.trans gp).trans gq).trans g3) (d3.mono (by omega))
theorem ok_l_go (T : Txt K mg) (F : FnAt K "_law_go" "_law_go" s_l_go (He.ga K "_law_go")) (G_l_end : Ok P w K mg base CX0 1 (He.ga K "_law_end") ["_law_rides", "_law_moment_here"] (sp_l_end K)) (G_l_begin : Ok P w K mg base CX0 1 (He.ga K "_law_begin") ["_law_rides", "_law_moment_here"] (sp_l_begin K)) : Ok P w K mg base CX0 2 (He.ga K "_law_go") ["_law_lines", "_law_row", "_law_moment_here"] (sp_l_go K) := by
  refine ok_of F sc_l_go (fun _ _ _ _ _ _ us hl => match us, hl with | [_, _, _], _ => rfl) (fun vs H Q E h => ?_) (fun cdv A outer s H vs Q E hr h => ?_)
  · obtain ⟨_, _, _, _, _, _, rfl, _⟩ := h
    rfl
  · obtain ⟨I, v, l0, R, l, m, rfl, ⟨d, kvs, rfl, hd, hlk⟩, hf, hs, sb, k⟩ := h
    refine ⟨_, (pss_cons (ps_for PassesOwn.never rfl (pi_str (pv 1)) (pg_name (i := 3) sc_l_go.nd rfl (Or.inl rfl)) (pss_cons (ps_set (i := 4) sc_l_go.nd rfl (Or.inl rfl) (pe_dget (hu_of hr) (pv 0) (pe_lower (pv 3)) (fun _ _ => rfl)))
      (pss_one (ps_set (i := 2) sc_l_go.nd rfl (Or.inl rfl) (pe_ifExp (pt_cmpR op_eq (pv 3) (pe_lower (pv 3)) (nomark _)) (pe_callC G_l_end (hr.mono (by decide)) T.g__law_end (pa_cons (pv 4) (pa_cons (pv 2) pa_nil))) (pe_callC G_l_begin (hr.mono (by decide)) T.g__law_begin (pa_cons (pv 4) (pa_cons (pv 2) pa_nil))))))))
      (pss_one (ps_ret (pv 2)))), ?_⟩
    refine ⟨_, rfl, _, rfl, ?_⟩
    refine for_it (walk_str (z := mk l)) (fun i σ H' => ∃ (I' : Hp) (v3 v4 : Option V), σ = [some (.ref d), some (.str (mk l)), some (fld (goR R) (l.take i) m).v, v3, v4] ∧ Grow No I H I' H') ⟨I, none, none, rfl, Grow.refl sb⟩ (fun _ _ _ _ _ => trivial) ?_ ?_
    · rintro i y σ H2 H3 hi ⟨I', v3, v4, rfl, g⟩ ⟨rfl, c, hc, rfl⟩
      have hc' : l[i]? = some c := by simpa [mk] using hc
      obtain ⟨hstep, hin⟩ := hs c (List.mem_of_getElem? hc')
      have ef : fld (goR R) (l.take (i + 1)) m = goR R c (fld (goR R) (l.take i) m) := take_fold hc'
      rw [ef]
      generalize fld (goR R) (l.take i) m = mm
      refine ⟨_, rfl, _, rfl, ⟨_, rfl⟩, _, rfl, rfl, by show 1 ≤ 5592405; decide, d, ?_⟩
      rw [lower_step hstep]
      have hget := DGet.k (k := .inr (sg (lowC c))) (g.same _ _ (sb _ _ hd))
      rw [valV_S] at hget
      obtain ⟨v', h1, a, ws, rfl, ha, hp⟩ := find_line hlk hin
      rw [h1] at hget
      refine ⟨_, rfl, hget, ?_⟩
      refine ⟨_, rfl, _, rfl, ⟨_, rfl⟩, _, rfl, rfl, by show 1 ≤ 5592405; decide, rfl, _, rfl, ?_⟩
      rw [lower_step hstep, low_eq hstep]
      have hlen := hf _ hin
      cases hlo : low c with
      | true =>
        refine iteT ⟨_, rfl, _, rfl, I', a, ws, R (lowC c), mm, rfl, g.sub, g.same _ _ (sb _ _ ha), Paired.mono' (fun _ _ z => Rep.mono g.view z) hp, by omega, fun I4 H4 g4 => ?_⟩
        have e : goR R c mm = (endsF (R (lowC c)) mm).2 := by unfold goR; rw [if_pos hlo, lowC_low hlo]
        rw [e]
        exact ⟨I4, _, _, rfl, g.trans g4⟩
      | false =>
        refine iteF ⟨_, rfl, _, rfl, I', a, ws, R (lowC c), mm, rfl, g.sub, g.same _ _ (sb _ _ ha), Paired.mono' (fun _ _ z => Rep.mono g.view z) hp, by omega, fun I4 H4 g4 => ?_⟩
        have e : goR R c mm = (begF (R (lowC c)) mm).1 := by unfold goR; rw [if_neg (by rw [hlo]; exact Bool.false_ne_true), lowC_lo hstep hlo]
        rw [e]
        exact ⟨I4, _, _, rfl, g.trans g4⟩
    · rintro σ H2 ⟨I', v3, v4, rfl, g⟩
      have e : l.take (mk l).cps.size = l := by simp [mk]
      rw [e]
      exact ⟨_, rfl, k I' H2 g⟩
theorem ok_l_within (T : Txt K mg) (F : FnAt K "_law_within" "_law_within" s_l_within (He.ga K "_law_within")) (G_l_place : Ok P w K mg base CX0 1 (He.ga K "_law_place") ["_law_moment_here"] (sp_l_place K)) : Ok P w K mg base CX0 2 (He.ga K "_law_within") ["_law_inner", "_law_outer"] (sp_l_within K) := by
  refine ok_of F sc_l_within (fun _ _ _ _ _ _ us hl => match us, hl with | [_, _], _ => rfl) (fun vs H Q E h => ?_) (fun cdv A outer s H vs Q E hr h => ?_)
  · obtain ⟨_, _, _, _, _, rfl, _⟩ := h
    rfl
  · obtain ⟨I, _, _, p, q, rfl, ⟨t1, rfl, h1⟩, ⟨t2, rfl, h2⟩, sb, k⟩ := h
    refine ⟨_, (pss_cons (ps_if (pt_cmpR op_lt (pe_callC G_l_place (hr.mono (by decide)) T.g__law_place (pa_cons (pe_ix ix_tup (pv 0) pe_int (fun _ _ => rfl)) pa_nil)) (pe_callC G_l_place (hr.mono (by decide)) T.g__law_place (pa_cons (pe_ix ix_tup (pv 1) pe_int (fun _ _ => rfl)) pa_nil)) (nomark _)) (pss_one (ps_ret pe_bl)) pss_nil)
      (pss_one (ps_ret (pe_cmpR op_le (pe_callC G_l_place (hr.mono (by decide)) T.g__law_place (pa_cons (pe_ix ix_tup (pv 0) pe_int (fun _ _ => rfl)) pa_nil)) (pe_callC G_l_place (hr.mono (by decide)) T.g__law_place (pa_cons (pe_ix ix_tup (pv 1) pe_int (fun _ _ => rfl)) pa_nil)) (nomark _))))), ?_⟩
    refine ⟨_, rfl, t1, _, 0, _, rfl, rfl, SqT.of (sb _ _ h1), mm_at0, I, _, rfl, sb, fun I1 H1 g1 => ⟨_, rfl, t2, _, 0, _, rfl, rfl, SqT.of (g1.sub _ _ (g1.view _ _ h2)), mm_at0, I1, _, rfl, g1.sub, fun I2 H2 g2 => ⟨_, _, rfl, rfl, _, rfl, ?_⟩⟩⟩
    have g := g1.trans g2
    unfold withinB at k
    by_cases z : placeM p.1 < placeM q.1
    · rw [decide_eq_true z] at k ⊢
      exact iteT (k _ _ g)
    · rw [decide_eq_false z] at k ⊢
      refine iteF ⟨_, rfl, t1, _, 1, _, rfl, rfl, SqT.of (g.sub _ _ (g.view _ _ h1)), mm_at1, I2, _, rfl, g.sub, fun I3 H3 g3 => ⟨_, rfl, t2, _, 1, _, rfl, rfl, SqT.of (g3.sub _ _ ((g.view.trans g3.view) _ _ h2)), mm_at1, I3, _, rfl, g3.sub, fun I4 H4 g4 => ⟨_, _, rfl, rfl, ?_⟩⟩⟩
      exact k _ _ (g.trans (g3.trans g4))
end
end Nw

namespace Nw
open PySem PySem.Spec PyProof.Rows L2
/-! ### the plain law: messages that are more, one more, turned about -/
def msD (m : Ms) : Dt := .sq true [.str [m.1], .int m.2.1, .int m.2.2]
theorem ps_paired {I : Hp} : ∀ {ps : List (V × Ms)}, (∀ q ∈ ps, isMs I q.1 q.2) → Paired (isMs I) (ps.map Prod.fst) (ps.map Prod.snd)
  | [], _ => .nil
  | q :: ps, h => .cons (h q (List.mem_cons_self ..)) (ps_paired fun u hu => h u (List.mem_cons_of_mem _ hu))
theorem ms_es {K : PySem.W.Frag} {I : Hp} : ∀ {vs : List V} {ms : List Ms}, Paired (isMs I) vs ms → Es K I vs (ms.map msD)
  | _, _, .nil => .nil
  | _, _, .cons h t => .cons (isMs.dt h) (ms_es t)
theorem msD_ms {m : Ms} : (msD m).ms = m := rfl
theorem msD_msg {m : Ms} (h : 97 ≤ m.1 ∧ m.1 ≤ 100) : (msD m).isMsg = true := by
  show (decide (97 ≤ m.1 ∧ m.1 ≤ 100) && (true && true)) = true
  rw [decide_eq_true h] <;> rfl
def Nice (ms : List Ms) : Prop := (∀ m ∈ ms, 97 ≤ m.1 ∧ m.1 ≤ 100 ∧ m.2.1 ≤ m.2.2) ∧ ∀ m ∈ ms, ∀ n ∈ ms, m.1 = n.1 → m.2.1 ≤ n.2.1 → m.2.2 ≤ n.2.2
def shM (z : Int) (m : Ms) : Ms := (m.1, m.2.1 + z, m.2.2 + z)
theorem nice_drawn {I : Hp} {l : List Nat} {ps : List (V × Ms)} {R : Nat → Rides} (d : Drawn I l ps R) (hl : ∀ c ∈ l, 97 ≤ c ∧ c ≤ 100) (z : Int) : Nice (ps.map fun q => shM z q.2) := by
  refine ⟨fun m hm => ?_, fun m hm n hn e h => ?_⟩
  · obtain ⟨q, hq, rfl⟩ := List.mem_map.mp hm
    obtain ⟨⟨r, hr, h1, h2⟩, _⟩ := d.ends q hq
    have h3 := d.ride _ r hr
    have h4 := hl _ (d.letter q hq)
    exact ⟨h4.1, h4.2, by show q.2.2.1 + z ≤ q.2.2.2 + z; omega⟩
  · obtain ⟨q, hq, rfl⟩ := List.mem_map.mp hm
    obtain ⟨q2, hq2, rfl⟩ := List.mem_map.mp hn
    have e : q.2.1 = q2.2.1 := e
    have h : q.2.2.1 + z ≤ q2.2.2.1 + z := h
    obtain ⟨⟨r1, a1, a2, a3⟩, a4⟩ := d.ends q hq
    obtain ⟨⟨r2, b1, b2, b3⟩, b4⟩ := d.ends q2 hq2
    rw [← e] at b1
    have := a4 r2 b1 (by omega)
    show q.2.2.2 + z ≤ q2.2.2.2 + z
    omega
theorem rides_mem {ms : List Ms} {c : Nat} {r : Int × Int} (h : r ∈ ridesL ms c) : ∃ m ∈ ms, m.1 = c ∧ r = (m.2.1, m.2.2) := by
  obtain ⟨m, hm, h2⟩ := List.mem_filterMap.mp h
  split at h2
  · cases h2
    exact ⟨m, hm, by assumption, rfl⟩
  · cases h2
theorem nice_fit {ms : List Ms} (h : Nice ms) (c : Nat) : Fit (ridesL ms c) := by
  refine ⟨fun r hr => ?_, fun r hr q hq hz => ?_⟩
  · obtain ⟨m, hm, _, rfl⟩ := rides_mem hr
    exact (h.1 m hm).2.2
  · obtain ⟨m, hm, e1, rfl⟩ := rides_mem hr
    obtain ⟨n, hn, e2, rfl⟩ := rides_mem hq
    exact h.2 m hm n hn (e1.trans e2.symm) hz
theorem nice_fine {ms : List Ms} (h : Nice ms) (hl : ms.length ≤ 50) : Due (ms.map msD) .fine := by
  have at_ : ∀ {i : Nat} {x : Dt}, (ms.map msD)[i]? = some x → ∃ m ∈ ms, x = msD m := fun {i x} h => by
    obtain ⟨m, hm, rfl⟩ := List.mem_map.mp (List.mem_of_getElem? h)
    exact ⟨m, hm, rfl⟩
  refine ⟨fun i hi hb => ?_, fun i j hij hc => ?_⟩
  · rw [List.length_map] at hi
    rcases hb with hb | ⟨x, hx, hm⟩
    · omega
    · obtain ⟨q, hq, rfl⟩ := at_ hx
      rw [msD_msg ⟨(h.1 q hq).1, (h.1 q hq).2.1⟩] at hm
      cases hm
  · obtain ⟨x, y, hx, hy, z⟩ := hc
    obtain ⟨q, hq, rfl⟩ := at_ hx
    obtain ⟨q2, hq2, rfl⟩ := at_ hy
    rw [msD_ms, msD_ms] at z
    rcases z with ⟨_, z⟩ | ⟨_, z⟩
    · have := (h.1 q hq).2.2
      omega
    · unfold against at z
      rw [Bool.and_eq_true, Bool.or_eq_true, Bool.and_eq_true, Bool.and_eq_true, decide_eq_true_iff, decide_eq_true_iff, decide_eq_true_iff, decide_eq_true_iff, decide_eq_true_iff] at z
      obtain ⟨ec, z⟩ := z
      rcases z with ⟨z1, z2⟩ | ⟨z1, z2⟩
      · have := h.2 q hq q2 hq2 ec z1
        omega
      · have := h.2 q2 hq2 q hq ec.symm z1
        omega
def oddN : List Dt := [.str [102, 105, 114, 115, 116], .str [108, 97, 115, 116], Dt.non, .bl true, .str [53], .sq false []]
theorem Mle.anti {a b : Mom} (h : Mle a b) (h2 : Mle b a) : a = b := by
  rcases h with rfl | rfl | ⟨x, y, rfl, rfl, z⟩
  · rcases h2 with rfl | h2 | ⟨_, _, _, e, _⟩
    · rfl
    · cases h2
    · cases e
  · rcases h2 with e | rfl | ⟨_, _, e, _, _⟩
    · cases e
    · rfl
    · cases e
  · rcases h2 with e | e | ⟨_, _, e1, e2, z2⟩
    · cases e
    · cases e
    · cases e1
      cases e2
      rw [show x = y by omega]
theorem ends_low {A B : Rides} (h : ∀ r ∈ B, r ∈ A) {m m' : Mom} (z : Mle m' m) : Mle (endsF B m').1 (endsF A m).1 := by
  rcases z with rfl | rfl | ⟨x', x, rfl, rfl, z⟩
  · exact .inl rfl
  · exact .inr (.inl rfl)
  · obtain ⟨y', hy'⟩ : ∃ y, (endsF B (.num x')).1 = .num y := ⟨_, rfl⟩
    obtain ⟨y, hy⟩ : ∃ y, (endsF A (.num x)).1 = .num y := ⟨_, rfl⟩
    obtain ⟨h1, h2, h3⟩ := low_num hy'
    obtain ⟨k1, k2, k3⟩ := low_num hy
    rw [hy, hy']
    refine .inr (.inr ⟨_, _, rfl, rfl, ?_⟩)
    rcases h3 with h3 | ⟨r, hr, h4, h5⟩
    · omega
    · have := k2 r (h r hr) (by omega)
      omega
theorem ends_high {A B : Rides} (h : ∀ r ∈ B, r ∈ A) {m m' : Mom} (z : Mle m m') : Mle (endsF A m).2 (endsF B m').2 := by
  rcases z with rfl | rfl | ⟨x, x', rfl, rfl, z⟩
  · exact .inl rfl
  · exact .inr (.inl rfl)
  · rcases late_is (rs := B) (t := x') with ⟨y', hy'⟩ | hy'
    · obtain ⟨⟨q, hq, k1, k2⟩, _⟩ := end_num.mp hy'
      rcases late_is (rs := A) (t := x) with ⟨y, hy⟩ | hy
      · have := (end_num.mp hy).2 q (h q hq) (by omega)
        rw [hy, hy']
        exact .inr (.inr ⟨_, _, rfl, rfl, by omega⟩)
      · exact absurd (end_last.mp hy q (h q hq)) (by omega)
    · rw [hy']
      exact .inr (.inl rfl)
theorem beg_low {A B : Rides} (h : ∀ r ∈ B, r ∈ A) {m m' : Mom} (z : Mle m' m) : Mle (begF B m').1 (begF A m).1 := by
  rcases z with rfl | rfl | ⟨x', x, rfl, rfl, z⟩
  · exact .inl rfl
  · exact .inr (.inl rfl)
  · rcases early_is (rs := B) (t := x') with ⟨y', hy'⟩ | hy'
    · obtain ⟨⟨q, hq, k1, k2⟩, _⟩ := beg_num.mp hy'
      rcases early_is (rs := A) (t := x) with ⟨y, hy⟩ | hy
      · have := (beg_num.mp hy).2 q (h q hq) (by omega)
        rw [hy, hy']
        exact .inr (.inr ⟨_, _, rfl, rfl, by omega⟩)
      · exact absurd (beg_first.mp hy q (h q hq)) (by omega)
    · rw [hy']
      exact .inl rfl
theorem beg_high {A B : Rides} (h : ∀ r ∈ B, r ∈ A) {m m' : Mom} (z : Mle m m') : Mle (begF A m).2 (begF B m').2 := by
  rcases z with rfl | rfl | ⟨x, x', rfl, rfl, z⟩
  · exact .inl rfl
  · exact .inr (.inl rfl)
  · obtain ⟨y', hy'⟩ : ∃ y, (begF B (.num x')).2 = .num y := ⟨_, rfl⟩
    obtain ⟨y, hy⟩ : ∃ y, (begF A (.num x)).2 = .num y := ⟨_, rfl⟩
    obtain ⟨h1, h2, h3⟩ := high_num hy'
    obtain ⟨k1, k2, k3⟩ := high_num hy
    rw [hy, hy']
    refine .inr (.inr ⟨_, _, rfl, rfl, ?_⟩)
    rcases h3 with h3 | ⟨r, hr, h4, h5⟩
    · omega
    · have := k2 r (h r hr) (by omega)
      omega
theorem row_low {A B : List Ms} (h : ∀ c, ∀ r ∈ ridesL B c, r ∈ ridesL A c) : ∀ (l : List Nat) (m m' : Mom), Mle m' m → Mle (l.foldl (fun m c => lowF B c m) m') (l.foldl (fun m c => lowF A c m) m)
  | [], _, _, z => z
  | c :: l, m, m', z => by
    rw [List.foldl_cons, List.foldl_cons]
    refine row_low h l _ _ ?_
    unfold lowF
    split
    · exact ends_low (h c) z
    · exact beg_low (h _) z
theorem row_high {A B : List Ms} (h : ∀ c, ∀ r ∈ ridesL B c, r ∈ ridesL A c) : ∀ (l : List Nat) (m m' : Mom), Mle m m' → Mle (l.foldl (fun m c => highF A c m) m) (l.foldl (fun m c => highF B c m) m')
  | [], _, _, z => z
  | c :: l, m, m', z => by
    rw [List.foldl_cons, List.foldl_cons]
    refine row_high h l _ _ ?_
    unfold highF
    split
    · exact ends_high (h c) z
    · exact beg_high (h _) z
theorem rides_sub {A B : List Ms} (h : ∀ m ∈ B, m ∈ A) (c : Nat) : ∀ r ∈ ridesL B c, r ∈ ridesL A c := fun r hr => by
  obtain ⟨m, hm, e, rfl⟩ := rides_mem hr
  exact List.mem_filterMap.mpr ⟨m, h m hm, if_pos e⟩
theorem Nice.sub {A B : List Ms} (n : Nice A) (h : ∀ m ∈ B, m ∈ A) : Nice B := ⟨fun m hm => n.1 m (h m hm), fun m hm k hk => n.2 m (h m hm) k (h k hk)⟩
theorem ends_perm {A B : List Ms} (h : ∀ m, m ∈ A ↔ m ∈ B) (c : Nat) (m : Mom) : endsF (ridesL A c) m = endsF (ridesL B c) m := by
  have h1 := rides_sub (fun x hx => (h x).mp hx) c
  have h2 := rides_sub (fun x hx => (h x).mpr hx) c
  exact Prod.ext (Mle.anti (ends_low h1 (Mle.refl m)) (ends_low h2 (Mle.refl m))) (Mle.anti (ends_high h2 (Mle.refl m)) (ends_high h1 (Mle.refl m)))
/-! messages that are taken are possible -/
theorem fine_nice {ms : List Ms} (hl : ∀ m ∈ ms, 97 ≤ m.1 ∧ m.1 ≤ 100) (d : Due (ms.map msD) .fine) : Nice ms := by
  have at_ : ∀ {m : Ms}, m ∈ ms → ∃ i, (ms.map msD)[i]? = some (msD m) ∧ ms[i]? = some m := fun {m} hm => by
    obtain ⟨i, hi⟩ := List.getElem?_of_mem hm
    exact ⟨i, by rw [List.getElem?_map, hi]; rfl, hi⟩
  refine ⟨fun m hm => ⟨(hl m hm).1, (hl m hm).2, ?_⟩, fun m hm n hn e h => ?_⟩
  · obtain ⟨i, hi, _⟩ := at_ hm
    have z := d.2 i i (Nat.le_refl _)
    refine Int.not_lt.mp fun y => z ⟨_, _, hi, hi, .inl ⟨rfl, ?_⟩⟩
    rw [msD_ms]
    exact y
  · obtain ⟨i, hi, hi2⟩ := at_ hm
    obtain ⟨j, hj, hj2⟩ := at_ hn
    refine Int.not_lt.mp fun y => ?_
    have h1 : against m n = true := by
      unfold against
      rw [decide_eq_true e, decide_eq_true h, decide_eq_true y] <;> rfl
    have h2 : against n m = true := by
      unfold against
      rw [decide_eq_true e.symm, decide_eq_true h, decide_eq_true y, Bool.and_self, Bool.or_true] <;> rfl
    rcases Nat.lt_trichotomy i j with z | z | z
    · exact d.2 i j (by omega) ⟨_, _, hi, hj, .inr ⟨z, by rw [msD_ms, msD_ms]; exact h1⟩⟩
    · subst z
      rw [hi2] at hj2
      cases hj2
      omega
    · exact d.2 j i (by omega) ⟨_, _, hj, hi, .inr ⟨z, by rw [msD_ms, msD_ms]; exact h2⟩⟩
/-- one more message -/
theorem rides_more {ms : List Ms} {c : Nat} {t e : Int} : ridesL (ms ++ [(c, t, e)]) c = ridesL ms c ++ [(t, e)] := by
  unfold ridesL
  rw [List.filterMap_append]
  congr 1
  show (if c = c then some (t, e) else none).toList = _
  rw [if_pos rfl] <;> rfl
theorem more_nice {ms : List Ms} (n : Nice ms) {c : Nat} (hc : 97 ≤ c ∧ c ≤ 100) {t e : Int} : Nice (ms ++ [(c, t, e)]) ↔ exF ms c t (.num e) = true := by
  obtain ⟨lo, hlo⟩ : ∃ y, (endsF (ridesL ms c) (.num t)).1 = .num y := ⟨_, rfl⟩
  obtain ⟨l1, l2, l3⟩ := low_num hlo
  have hmem : ∀ {m : Ms}, m ∈ ms → m.1 = c → (m.2.1, m.2.2) ∈ ridesL ms c := fun {m} hm e => List.mem_filterMap.mpr ⟨m, hm, if_pos e⟩
  have hex : exF ms c t (.num e) = true ↔ lo ≤ e ∧ highOk e (endsF (ridesL ms c) (.num t)).2 = true := by
    show (decide (placeM (endsF (ridesL ms c) (.num t)).1 ≤ e) && highOk e (endsF (ridesL ms c) (.num t)).2) = true ↔ _
    rw [hlo, Bool.and_eq_true, decide_eq_true_iff] <;> rfl
  rw [hex]
  constructor
  · intro z
    refine ⟨?_, ?_⟩
    · rcases l3 with l3 | ⟨r, hr, l4, l5⟩
      · have := (z.1 _ (List.mem_append_right _ (List.mem_singleton_self _))).2.2
        have this : t ≤ e := this
        omega
      · obtain ⟨m, hm, e1, rfl⟩ := rides_mem hr
        have : m.2.2 ≤ e := z.2 m (List.mem_append_left _ hm) (c, t, e) (List.mem_append_right _ (List.mem_singleton_self _)) e1 l4
        have l5 : m.2.2 = lo := l5
        omega
    · rcases late_is (rs := ridesL ms c) (t := t) with ⟨y, hy⟩ | hy
      · rw [hy]
        obtain ⟨⟨q, hq, k1, k2⟩, _⟩ := end_num.mp hy
        obtain ⟨m, hm, e1, rfl⟩ := rides_mem hq
        have : e ≤ m.2.2 := z.2 (c, t, e) (List.mem_append_right _ (List.mem_singleton_self _)) m (List.mem_append_left _ hm) e1.symm k1
        have k2 : m.2.2 = y := k2
        exact decide_eq_true (by omega)
      · rw [hy]; rfl
  · rintro ⟨z1, z2⟩
    refine ⟨fun m hm => ?_, fun m hm k hk ec h => ?_⟩
    · rcases List.mem_append.mp hm with hm | hm
      · exact n.1 m hm
      · rw [List.mem_singleton.mp hm]
        exact ⟨hc.1, hc.2, by show t ≤ e; omega⟩
    · rcases List.mem_append.mp hm with hm | hm
      · rcases List.mem_append.mp hk with hk | hk
        · exact n.2 m hm k hk ec h
        · rw [List.mem_singleton.mp hk] at ec h ⊢
          have := l2 _ (hmem hm ec) h
          show m.2.2 ≤ e
          omega
      · rw [List.mem_singleton.mp hm] at ec h ⊢
        rcases List.mem_append.mp hk with hk | hk
        · rcases late_is (rs := ridesL ms c) (t := t) with ⟨y, hy⟩ | hy
          · rw [hy] at z2
            have z2 : e ≤ y := of_decide_eq_true z2
            have := (end_num.mp hy).2 _ (hmem hk ec.symm) h
            show e ≤ k.2.2
            omega
          · exact absurd h (end_last.mp hy _ (hmem hk ec.symm))
        · rw [List.mem_singleton.mp hk]
          exact Int.le_refl _
/-- the least end: it can be, and with it nothing else can -/
theorem least_end {rs : Rides} (f : Fit rs) {t lo : Int} (hlo : (endsF rs (.num t)).1 = .num lo) : endsF (rs ++ [(t, lo)]) (.num t) = (.num lo, .num lo) := by
  obtain ⟨l1, l2, l3⟩ := low_num hlo
  have key : ∀ r ∈ rs, t ≤ r.1 → lo ≤ r.2 := fun r hr z => by
    have := f.1 r hr
    rcases l3 with l3 | ⟨q, hq, l4, l5⟩
    · omega
    · have := f.2 q hq r hr (by omega)
      omega
  refine Prod.ext ?_ ?_
  · obtain ⟨y, hy⟩ : ∃ y, (endsF (rs ++ [(t, lo)]) (.num t)).1 = .num y := ⟨_, rfl⟩
    obtain ⟨k1, k2, k3⟩ := low_num hy
    rw [hy]
    have h1 := k2 (t, lo) (List.mem_append_right _ (List.mem_singleton_self _)) (Int.le_refl _)
    have h1 : lo ≤ y := h1
    have h2 : y ≤ lo := by
      rcases k3 with k3 | ⟨r, hr, k4, k5⟩
      · omega
      · rcases List.mem_append.mp hr with hr | hr
        · have := l2 r hr k4
          omega
        · rw [List.mem_singleton.mp hr] at k5
          have k5 : lo = y := k5
          omega
    show Mom.num y = Mom.num lo
    rw [show y = lo by omega]
  · refine end_num.mpr ⟨⟨_, List.mem_append_right _ (List.mem_singleton_self _), Int.le_refl _, rfl⟩, fun r hr z => ?_⟩
    rcases List.mem_append.mp hr with hr | hr
    · exact key r hr z
    · rw [List.mem_singleton.mp hr]
      exact Int.le_refl _
theorem least_can {ms : List Ms} {c : Nat} {t lo : Int} (f : Fit (ridesL ms c)) (hlo : (endsF (ridesL ms c) (.num t)).1 = .num lo) : exF ms c t (.num lo) = true ∧ ∀ h, (endsF (ridesL ms c) (.num t)).2 = .num h → lo ≤ h := by
  obtain ⟨l1, l2, l3⟩ := low_num hlo
  have key : ∀ h, (endsF (ridesL ms c) (.num t)).2 = .num h → lo ≤ h := fun h hh => by
    obtain ⟨⟨r, hr, k1, k2⟩, _⟩ := end_num.mp hh
    have := f.1 r hr
    rcases l3 with l3 | ⟨q, hq, l4, l5⟩
    · omega
    · have := f.2 q hq r hr (by omega)
      omega
  refine ⟨?_, key⟩
  show (decide (placeM (endsF (ridesL ms c) (.num t)).1 ≤ lo) && highOk lo (endsF (ridesL ms c) (.num t)).2) = true
  rw [hlo, Bool.and_eq_true]
  refine ⟨decide_eq_true (Int.le_refl _), ?_⟩
  rcases late_is (rs := ridesL ms c) (t := t) with ⟨y, hy⟩ | hy
  · rw [hy]
    exact decide_eq_true (key y hy)
  · rw [hy]; rfl
/-- messages turned about -/
def tuM (m : Ms) : Ms := (m.1, 0 - m.2.2, 0 - m.2.1)
theorem rides_turned {ms : List Ms} {c : Nat} {r : Int × Int} : r ∈ ridesL (ms.map tuM) c ↔ ∃ q ∈ ridesL ms c, r = (0 - q.2, 0 - q.1) := by
  constructor
  · intro h
    obtain ⟨m, hm, e, rfl⟩ := rides_mem h
    obtain ⟨n, hn, rfl⟩ := List.mem_map.mp hm
    exact ⟨(n.2.1, n.2.2), List.mem_filterMap.mpr ⟨n, hn, if_pos e⟩, rfl⟩
  · rintro ⟨q, hq, rfl⟩
    obtain ⟨n, hn, e, rfl⟩ := rides_mem hq
    exact List.mem_filterMap.mpr ⟨tuM n, List.mem_map_of_mem hn, if_pos e⟩
theorem turned_first {ms : List Ms} {c : Nat} {t : Int} (h : ∀ r ∈ ridesL ms c, ¬ t ≤ r.1) : (begF (ridesL (ms.map tuM) c) (.num (0 - t))).1 = .first :=
  beg_first.mpr fun r hr z => by
    obtain ⟨q, hq, rfl⟩ := rides_turned.mp hr
    have z : 0 - q.1 ≤ 0 - t := z
    exact h q hq (by omega)
theorem turned_num {ms : List Ms} {c : Nat} {t h : Int} (hh : (endsF (ridesL ms c) (.num t)).2 = .num h) : (begF (ridesL (ms.map tuM) c) (.num (0 - t))).1 = .num (0 - h) := by
  obtain ⟨⟨q, hq, k1, k2⟩, k3⟩ := end_num.mp hh
  refine beg_num.mpr ⟨⟨_, rides_turned.mpr ⟨q, hq, rfl⟩, by show 0 - q.1 ≤ 0 - t; omega, by show 0 - q.2 = 0 - h; omega⟩, fun r hr z => ?_⟩
  obtain ⟨u, hu, rfl⟩ := rides_turned.mp hr
  have z : 0 - u.1 ≤ 0 - t := z
  have := k3 u hu (by omega)
  show 0 - u.2 ≤ 0 - h
  omega
theorem within_of {p q : Mom × Mom} (h1 : placeM q.1 ≤ placeM p.1) (h2 : placeM p.2 ≤ placeM q.2) : withinB p q = true := by
  unfold withinB
  rw [decide_eq_false (Int.not_lt.mpr h1), decide_eq_true h2] <;> rfl
/-- lines of which messages are drawn -/
theorem drawn_line0 {I : Hp} {l : List Nat} {ps : List (V × Ms)} {R : Nat → Rides} (d : Drawn I l ps R) (c : Nat) : LineOf (ridesL (ps.map Prod.snd) c) (R c) := by
  refine ⟨fun r hr => d.ride c r hr, fun r hr => ?_⟩
  obtain ⟨m, hm, e, rfl⟩ := rides_mem hr
  obtain ⟨q, hq, rfl⟩ := List.mem_map.mp hm
  have := d.ends q hq
  rw [e] at this
  exact this
theorem nice_drawn0 {I : Hp} {l : List Nat} {ps : List (V × Ms)} {R : Nat → Rides} (d : Drawn I l ps R) (hl : ∀ c ∈ l, 97 ≤ c ∧ c ≤ 100) : Nice (ps.map Prod.snd) := by
  have h := nice_drawn d hl 0
  have e : (ps.map fun q => shM 0 q.2) = ps.map Prod.snd := List.map_congr_left fun q _ => by
    show (q.2.1, q.2.2.1 + 0, q.2.2.2 + 0) = q.2
    rw [Int.add_zero, Int.add_zero]
  rw [e] at h
  exact h
end Nw

namespace Nw
open PySem PySem.Spec PyProof.Rows L2
/-! ### _law_all_within -/
def bM (b : Nat) : Mom → Prop
  | .num t => t.natAbs ≤ b
  | _ => True
def bMM (b : Nat) (p : Mom × Mom) : Prop := bM b p.1 ∧ bM b p.2
theorem ends_b {b : Nat} {rs : List (Int × Int)} (h : ∀ r ∈ rs, r.1.natAbs ≤ b ∧ r.2.natAbs ≤ b) : ∀ m : Mom, bM b m → bMM b (endsF rs m)
  | .first, _ => ⟨trivial, trivial⟩
  | .last, _ => ⟨trivial, trivial⟩
  | .num t, ht => by
    have mem : ∀ {p : Int × Int → Bool} {e : Int}, e ∈ (rs.filterMap fun r => if p r then some r.2 else none) → e.natAbs ≤ b := fun {p e} he => by
      obtain ⟨r, hr, h2⟩ := List.mem_filterMap.mp he
      split at h2
      · cases h2
        exact (h r hr).2
      · cases h2
    have mem1 : ∀ e ∈ (rs.filterMap fun r => if r.1 ≤ t then some r.2 else none), e.natAbs ≤ b := fun e he => by
      obtain ⟨r, hr, h2⟩ := List.mem_filterMap.mp he
      split at h2
      · cases h2
        exact (h r hr).2
      · cases h2
    have mem2 : ∀ e ∈ (rs.filterMap fun r => if r.1 ≥ t then some r.2 else none), e.natAbs ≤ b := fun e he => by
      obtain ⟨r, hr, h2⟩ := List.mem_filterMap.mp he
      split at h2
      · cases h2
        exact (h r hr).2
      · cases h2
    refine ⟨?_, ?_⟩
    · rcases List.mem_cons.mp (maxL_mem (rs.filterMap fun r => if r.1 ≤ t then some r.2 else none) t) with z | z
      · show (maxL t _).natAbs ≤ b
        rw [z]
        exact ht
      · exact mem1 _ z
    · show bM b (numLate (rs.filterMap fun r => if r.1 ≥ t then some r.2 else none))
      generalize (rs.filterMap fun r => if r.1 ≥ t then some r.2 else none) = es at mem2
      cases es with
      | nil => trivial
      | cons e l => exact mem2 _ (minL_mem l e)
theorem beg_b {b : Nat} {rs : List (Int × Int)} (h : ∀ r ∈ rs, r.1.natAbs + 1 ≤ b ∧ r.2.natAbs ≤ b) : ∀ m : Mom, bM b m → bMM b (begF rs m)
  | .first, _ => ⟨trivial, trivial⟩
  | .last, _ => ⟨trivial, trivial⟩
  | .num t, ht => by
    have mem1 : ∀ e ∈ (rs.filterMap fun r => if r.2 ≤ t then some r.1 else none), e.natAbs ≤ b := fun e he => by
      obtain ⟨r, hr, h2⟩ := List.mem_filterMap.mp he
      split at h2
      · cases h2
        have := (h r hr).1
        omega
      · cases h2
    have mem2 : ∀ e ∈ (rs.filterMap fun r => if r.2 > t then some (r.1 - 1) else none), e.natAbs ≤ b := fun e he => by
      obtain ⟨r, hr, h2⟩ := List.mem_filterMap.mp he
      split at h2
      · cases h2
        have := (h r hr).1
        omega
      · cases h2
    refine ⟨?_, ?_⟩
    · show bM b (numEarly (rs.filterMap fun r => if r.2 ≤ t then some r.1 else none))
      generalize (rs.filterMap fun r => if r.2 ≤ t then some r.1 else none) = es at mem1
      cases es with
      | nil => trivial
      | cons e l => exact mem1 _ (maxL_mem l e)
    · rcases List.mem_cons.mp (minL_mem (rs.filterMap fun r => if r.2 > t then some (r.1 - 1) else none) t) with z | z
      · show (minL t _).natAbs ≤ b
        rw [z]
        exact ht
      · exact mem2 _ z
theorem rides_b {b : Nat} {ms : List Ms} (h : ∀ m ∈ ms, m.2.1.natAbs + 1 ≤ b ∧ m.2.2.natAbs + 1 ≤ b) (c : Nat) : ∀ r ∈ ridesL ms c, r.1.natAbs + 1 ≤ b ∧ r.2.natAbs + 1 ≤ b := fun r hr => by
  obtain ⟨m, hm, h2⟩ := List.mem_filterMap.mp hr
  split at h2
  · cases h2
    exact h m hm
  · cases h2
theorem bounds_b {b : Nat} {ms : List Ms} (h : ∀ m ∈ ms, m.2.1.natAbs + 1 ≤ b ∧ m.2.2.natAbs + 1 ≤ b) : ∀ (l : List Nat) (p : Mom × Mom), bMM b p → bMM b (l.foldl (stepF ms) p)
  | [], _, hp => hp
  | c :: l, p, hp => by
    refine bounds_b h l _ ?_
    unfold stepF
    split
    · have e : ∀ r ∈ ridesL ms c, r.1.natAbs ≤ b ∧ r.2.natAbs ≤ b := fun r hr => by have := rides_b h c r hr; omega
      exact ⟨(ends_b e p.1 hp.1).1, (ends_b e p.2 hp.2).2⟩
    · have e : ∀ r ∈ ridesL ms (lo1 c), r.1.natAbs + 1 ≤ b ∧ r.2.natAbs ≤ b := fun r hr => by have := rides_b h (lo1 c) r hr; omega
      exact ⟨(beg_b e p.1 hp.1).1, (beg_b e p.2 hp.2).2⟩
theorem bM_near {b : Nat} (hb : b ≤ 10 ^ 40) : ∀ {m : Mom}, bM b m → nearM m
  | .first, _ => trivial
  | .last, _ => trivial
  | .num t, h => by have h : t.natAbs ≤ b := h; show t.natAbs ≤ 10 ^ 40; omega
theorem go_b {b : Nat} {R : Nat → Rides} : ∀ (l : List Nat) (m : Mom), (∀ c ∈ l, isStep c = true ∧ ∀ r ∈ R (lowC c), r.1.natAbs + 1 ≤ b ∧ r.2.natAbs ≤ b) → bM b m → bM b (fld (goR R) l m)
  | [], _, _, hm => hm
  | c :: l, m, h, hm => by
    obtain ⟨h1, h2⟩ := h c (List.mem_cons_self ..)
    refine go_b l _ (fun d hd => h d (List.mem_cons_of_mem _ hd)) ?_
    show bM b (if low c = true then (endsF (R c) m).2 else (begF (R (lo1 c)) m).1)
    by_cases z : low c = true
    · rw [if_pos z]
      rw [lowC_low z] at h2
      exact (ends_b (fun r hr => by have := h2 r hr; omega) m hm).2
    · rw [if_neg z]
      rw [← lowC_lo h1 (by simpa using z)] at h2
      exact (beg_b h2 m hm).1
theorem not_mixed {r : List Nat} {fw : Bool} (h : ∀ c ∈ r, isStep c = true ∧ low c = fw) : mixed r = false := by
  have lo : ∀ c, isStep c = true → low c = true → lo1 c = c := fun c h z => by
    rcases step_cases h with rfl | rfl | rfl | rfl | rfl | rfl | rfl | rfl
    all_goals first | rfl | cases z
  have up : ∀ c, isStep c = true → low c = false → up1 c = c := fun c h z => by
    rcases step_cases h with rfl | rfl | rfl | rfl | rfl | rfl | rfl | rfl
    all_goals first | rfl | cases z
  unfold mixed
  cases fw with
  | true =>
    have e : r.map lo1 = r := (List.map_congr_left fun c hc => lo c (h c hc).1 (h c hc).2).trans (List.map_id' r)
    rw [decide_eq_true e]; rfl
  | false =>
    have e : r.map up1 = r := (List.map_congr_left fun c hc => up c (h c hc).1 (h c hc).2).trans (List.map_id' r)
    rw [decide_eq_true e, Bool.not_true, Bool.and_false]
def b39 : Nat := 10 ^ 39
theorem b39_le : b39 ≤ 10 ^ 40 := by decide
theorem all4 {A B : List Ms} {R : Rides} {c : Nat} {m : Mom} (hs : ∀ x ∈ B, x ∈ A) (w : LineOf (ridesL A c) R) (hbA : ∀ x ∈ A, x.2.1.natAbs + 1 ≤ b39 ∧ x.2.2.natAbs + 1 ≤ b39) (hbR : ∀ r ∈ R, r.1.natAbs + 1 ≤ b39 ∧ r.2.natAbs ≤ b39) (hm : bM b39 m) :
    withinB ((endsF R m).2, (endsF R m).2) (endsF (ridesL A c) m) = true ∧ withinB ((begF R m).1, (begF R m).1) (begF (ridesL A c) m) = true ∧ withinB (endsF (ridesL A c) m) (endsF (ridesL B c) m) = true ∧ withinB (begF (ridesL A c) m) (begF (ridesL B c) m) = true := by
  have hA := rides_b hbA c
  have hB := rides_b (fun x hx => hbA x (hs x hx)) c
  have sub := rides_sub hs c
  have eA := ends_b (b := b39) (rs := ridesL A c) (fun r hr => by have := hA r hr; omega) m hm
  have eB := ends_b (b := b39) (rs := ridesL B c) (fun r hr => by have := hB r hr; omega) m hm
  have gA := beg_b (b := b39) (rs := ridesL A c) (fun r hr => by have := hA r hr; omega) m hm
  have gB := beg_b (b := b39) (rs := ridesL B c) (fun r hr => by have := hB r hr; omega) m hm
  have eR := ends_b (b := b39) (rs := R) (fun r hr => by have := hbR r hr; omega) m hm
  have gR := beg_b (b := b39) (rs := R) hbR m hm
  have near : ∀ {x : Mom}, bM b39 x → nearM x := bM_near b39_le
  have f := line_forth w (Mle.refl m) (Mle.refl m)
  have k := line_back w (Mle.refl m) (Mle.refl m)
  exact ⟨within_of (f.1.place (near eA.1) (near eR.2)) (f.2.place (near eR.2) (near eA.2)), within_of (k.1.place (near gA.1) (near gR.1)) (k.2.place (near gR.1) (near gA.2)),
    within_of ((ends_low sub (Mle.refl m)).place (near eB.1) (near eA.1)) ((ends_high sub (Mle.refl m)).place (near eA.2) (near eB.2)),
    within_of ((beg_low sub (Mle.refl m)).place (near gB.1) (near gA.1)) ((beg_high sub (Mle.refl m)).place (near gA.2) (near gB.2))⟩
theorem row2 {A B : List Ms} {R : Nat → Rides} {l0 r : List Nat} {m : Mom} (hs : ∀ x ∈ B, x ∈ A) (w : ∀ c, LineOf (ridesL A c) (R c)) (hbA : ∀ x ∈ A, x.2.1.natAbs + 1 ≤ b39 ∧ x.2.2.natAbs + 1 ≤ b39) (hbR : ∀ c ∈ l0, ∀ q ∈ R c, q.1.natAbs + 1 ≤ b39 ∧ q.2.natAbs ≤ b39) (hr : ∀ c ∈ r, isStep c = true ∧ lowC c ∈ l0) (hm : bM b39 m) :
    withinB (fld (goR R) r m, fld (goR R) r m) (boundsF A r m) = true ∧ withinB (boundsF A r m) (boundsF B r m) = true := by
  have near : ∀ {x : Mom}, bM b39 x → nearM x := bM_near b39_le
  have hA := bounds_b hbA r (m, m) ⟨hm, hm⟩
  have hB := bounds_b (fun x hx => hbA x (hs x hx)) r (m, m) ⟨hm, hm⟩
  have hG := go_b (R := R) r m (fun c hc => ⟨(hr c hc).1, hbR _ (hr c hc).2⟩) hm
  have hmid := go_between (ms := A) (R := R) r m m m (fun c hc => by
    have e : (if low c = true then c else lo1 c) = lowC c := by
      by_cases z : low c = true
      · rw [if_pos z, lowC_low z]
      · rw [if_neg z, lowC_lo (hr c hc).1 (by simpa using z)]
    rw [e]
    exact w (lowC c)) (Mle.refl m) (Mle.refl m)
  have s1 := row_low (rides_sub hs) r m m (Mle.refl m)
  have s2 := row_high (rides_sub hs) r m m (Mle.refl m)
  have eA : boundsF A r m = (r.foldl (fun m c => lowF A c m) m, r.foldl (fun m c => highF A c m) m) := bounds_fold A r (m, m)
  have eB : boundsF B r m = (r.foldl (fun m c => lowF B c m) m, r.foldl (fun m c => highF B c m) m) := bounds_fold B r (m, m)
  have hA : bMM b39 (boundsF A r m) := hA
  have hB : bMM b39 (boundsF B r m) := hB
  rw [eA] at hA ⊢
  rw [eB] at hB ⊢
  exact ⟨within_of (hmid.1.place (near hA.1) (near hG)) (hmid.2.place (near hG) (near hA.2)), within_of (s1.place (near hB.1) (near hA.1)) (s2.place (near hA.2) (near hB.2))⟩
def sp_l_all_within (K : PySem.W.Frag) : Sp := fun vs H Q _ => ∃ (I : Hp) (D : DA) (n : Nat) (d : Addr) (l : List Nat) (v u : V) (R : Nat → Rides) (A B : List Ms), vs = [.ref D.d, .ref d, .str (mk l), v, u] ∧ Drw D n I H ∧ n + 60 < lim ∧ l ≠ [] ∧ l.length ≤ 4 ∧ (∀ c ∈ l, 97 ≤ c ∧ c ≤ 100) ∧
  isLines I (.ref d) (l.map fun c => ⟨c, R c⟩) ∧ (∀ c ∈ l, (R c).length ≤ 1000) ∧ (∀ c ∈ l, ∀ q ∈ R c, q.1.natAbs + 1 ≤ b39 ∧ q.2.natAbs ≤ b39) ∧ isSeen K I v A ∧ isSeen K I u B ∧ A.length ≤ 1000 ∧ B.length ≤ 1000 ∧ (∀ x ∈ B, x ∈ A) ∧ (∀ c, LineOf (ridesL A c) (R c)) ∧ (∀ x ∈ A, x.2.1.natAbs + 1 ≤ b39 ∧ x.2.2.natAbs + 1 ≤ b39) ∧
  ∀ I' H', Grow (TD D) I H I' H' → Drw D (n + 60) I' H' → Q (.bl true) H'
section
variable {P : Program} {w : World} {K : PySem.W.Frag} {mg : Str → Option Value} {base : Heap}
theorem ok_l_all_within (T : Txt K mg) (F : FnAt K "_law_all_within" "_law_all_within" s_l_all_within (He.ga K "_law_all_within")) (G_l_moment : Ok P w K mg base CX0 3 (He.ga K "_law_moment") ["_law_draw", "_law_wide"] (sp_l_moment K)) (G_l_end : Ok P w K mg base CX0 1 (He.ga K "_law_end") ["_law_rides", "_law_moment_here"] (sp_l_end K)) (G_l_begin : Ok P w K mg base CX0 1 (He.ga K "_law_begin") ["_law_rides", "_law_moment_here"] (sp_l_begin K)) (G_l_within : Ok P w K mg base CX0 2 (He.ga K "_law_within") ["_law_inner", "_law_outer"] (sp_l_within K)) (G_l_next : Ok P w K mg base CX0 1 (He.ga K "_law_next") ["_law_draw", "_law_many"] (sp_l_next K)) (G_l_pick : Ok P w K mg base CX0 2 (He.ga K "_law_pick") ["_law_draw", "_law_some_here"] (sp_l_pick K)) (G_l_go : Ok P w K mg base CX0 2 (He.ga K "_law_go") ["_law_lines", "_law_row", "_law_moment_here"] (sp_l_go K)) (GX_Seen_ends : Ok P w K mg base (L2.CX P w) 4 (He.ma K (He.ga K "Seen") "ends") ["self", "letter", "moment"] (fun vs H Q E => sp_Seen_ends K vs H Q E ∨ spb_Seen_ends K vs H Q E)) (GX_Seen_begins : Ok P w K mg base (L2.CX P w) 4 (He.ma K (He.ga K "Seen") "begins") ["self", "letter", "moment"] (fun vs H Q E => sp_Seen_begins K vs H Q E ∨ spb_Seen_begins K vs H Q E)) (GX_Seen_bounds : Ok P w K mg base (L2.CX P w) 4 (He.ma K (He.ga K "Seen") "bounds") ["self", "row", "moment"] (fun vs H Q E => sp_Seen_bounds K vs H Q E ∨ spb_Seen_bounds K vs H Q E)) : Ok P w K mg base CX0 6 (He.ga K "_law_all_within") ["_law_draw", "_law_lines", "_law_letters", "_law_seen_here", "_law_less"] (sp_l_all_within K) := by
  obtain ⟨fdX_Seen_ends, FX_Seen_ends, bX_Seen_ends, _⟩ := GX_Seen_ends.ok
  obtain ⟨fdX_Seen_begins, FX_Seen_begins, bX_Seen_begins, _⟩ := GX_Seen_begins.ok
  obtain ⟨fdX_Seen_bounds, FX_Seen_bounds, bX_Seen_bounds, _⟩ := GX_Seen_bounds.ok
  refine ok_of F sc_l_all_within (fun _ _ _ _ _ _ us hl => match us, hl with | [_, _, _, _, _], _ => rfl) (fun vs H Q E h => ?_) (fun cdv A outer s H vs Q E hr h => ?_)
  · obtain ⟨_, _, _, _, _, _, _, _, _, _, rfl, _⟩ := h
    rfl
  · obtain ⟨I, D, n, d, l, v, u, R, A, B, rfl, dr, hlim, hne, hl4, hl97, hln, hRl, hbR, hv, hu, hAl, hBl, hs, hline, hbA, k⟩ := h
    refine ⟨_, (pss_cons (ps_for PassesOwn.never rfl (pi_str (pv 2)) (pg_name (i := 5) sc_l_all_within.nd rfl (Or.inl rfl)) (pss_cons (ps_set (i := 6) sc_l_all_within.nd rfl (Or.inl rfl) (pe_callC G_l_moment (hr.mono (by decide)) T.g__law_moment (pa_cons (pv 0) (pa_cons pe_int pa_nil))))
      (pss_cons (ps_par (i := 7) (j := 8) (by rfl) sc_l_all_within.nd rfl rfl (by decide) rfl rfl (pa_cons (pe_callC G_l_end (hr.mono (by decide)) T.g__law_end (pa_cons (pe_dget (hu_of hr) (pv 1) (pv 5) (fun _ _ => rfl)) (pa_cons (pv 6) pa_nil))) (pa_cons (pe_callC G_l_begin (hr.mono (by decide)) T.g__law_begin (pa_cons (pe_dget (hu_of hr) (pv 1) (pv 5) (fun _ _ => rfl)) (pa_cons (pv 6) pa_nil))) pa_nil)) (by rfl))
      (pss_cons (ps_if (pt_not (pt_val (pe_callC G_l_within (hr.mono (by decide)) T.g__law_within (pa_cons (pe_tup (pa_cons (pv 7) (pa_cons (pv 7) pa_nil))) (pa_cons (pe_meth (pv 3) T.cl_Seen T.m_Seen_ends FX_Seen_ends (hr.mono (by decide)) bX_Seen_ends .nil passN (pa_cons (pv 5) (pa_cons (pv 6) pa_nil))) pa_nil))))) (pss_one (ps_ret pe_bl)) pss_nil)
      (pss_cons (ps_if (pt_not (pt_val (pe_callC G_l_within (hr.mono (by decide)) T.g__law_within (pa_cons (pe_tup (pa_cons (pv 8) (pa_cons (pv 8) pa_nil))) (pa_cons (pe_meth (pv 3) T.cl_Seen T.m_Seen_begins FX_Seen_begins (hr.mono (by decide)) bX_Seen_begins .nil passN (pa_cons (pv 5) (pa_cons (pv 6) pa_nil))) pa_nil))))) (pss_one (ps_ret pe_bl)) pss_nil)
      (pss_cons (ps_if (pt_not (pt_val (pe_callC G_l_within (hr.mono (by decide)) T.g__law_within (pa_cons (pe_meth (pv 3) T.cl_Seen T.m_Seen_ends FX_Seen_ends (hr.mono (by decide)) bX_Seen_ends .nil passN (pa_cons (pv 5) (pa_cons (pv 6) pa_nil))) (pa_cons (pe_meth (pv 4) T.cl_Seen T.m_Seen_ends FX_Seen_ends (hr.mono (by decide)) bX_Seen_ends .nil passN (pa_cons (pv 5) (pa_cons (pv 6) pa_nil))) pa_nil))))) (pss_one (ps_ret pe_bl)) pss_nil)
      (pss_one (ps_if (pt_not (pt_val (pe_callC G_l_within (hr.mono (by decide)) T.g__law_within (pa_cons (pe_meth (pv 3) T.cl_Seen T.m_Seen_begins FX_Seen_begins (hr.mono (by decide)) bX_Seen_begins .nil passN (pa_cons (pv 5) (pa_cons (pv 6) pa_nil))) (pa_cons (pe_meth (pv 4) T.cl_Seen T.m_Seen_begins FX_Seen_begins (hr.mono (by decide)) bX_Seen_begins .nil passN (pa_cons (pv 5) (pa_cons (pv 6) pa_nil))) pa_nil))))) (pss_one (ps_ret pe_bl)) pss_nil))))))))
      (pss_cons (ps_set (i := 9) sc_l_all_within.nd rfl (Or.inl rfl) (pe_join pe_str (pe_lc (own := [("_law_turn", 11)]) (g := (gName 11)) rfl sc_l_all_within.nd (pi_range1 rfl T.b_range (pa_cons (pe_callC G_l_next (hr.mono (by decide)) T.g__law_next (pa_cons (pv 0) (pa_cons pe_int pa_nil))) pa_nil)) (blkOk_by (own := [("_law_turn", 11)]) (N := n_l_all_within) (sc := defScope s_l_all_within) (by decide +kernel)) (fun _ _ _ _ _ => (pg_name (i := 11) sc_l_all_within.nd rfl (Or.inl rfl))) (fun _ _ _ _ _ => pts_nil) (fun _ _ _ _ _ => (pe_callC G_l_pick (hr.mono (by decide)) T.g__law_pick (pa_cons (pv 0) (pa_cons (pv 2) pa_nil)))))))
      (pss_cons (ps_set (i := 9) sc_l_all_within.nd rfl (Or.inl rfl) (pe_callC G_l_pick (hr.mono (by decide)) T.g__law_pick (pa_cons (pv 0) (pa_cons (pe_lst (pa_cons (pv 9) (pa_cons (pe_upper (pv 9)) pa_nil))) pa_nil))))
      (pss_cons (ps_set (i := 6) sc_l_all_within.nd rfl (Or.inl rfl) (pe_callC G_l_moment (hr.mono (by decide)) T.g__law_moment (pa_cons (pv 0) (pa_cons pe_int pa_nil))))
      (pss_cons (ps_par (i := 7) (j := 10) (by rfl) sc_l_all_within.nd rfl rfl (by decide) rfl rfl (pa_cons (pe_callC G_l_go (hr.mono (by decide)) T.g__law_go (pa_cons (pv 1) (pa_cons (pv 9) (pa_cons (pv 6) pa_nil)))) (pa_cons (pe_meth (pv 3) T.cl_Seen T.m_Seen_bounds FX_Seen_bounds (hr.mono (by decide)) bX_Seen_bounds .nil passN (pa_cons (pv 9) (pa_cons (pv 6) pa_nil))) pa_nil)) (by rfl))
      (pss_one (ps_ret (pe_and (pe_callC G_l_within (hr.mono (by decide)) T.g__law_within (pa_cons (pe_tup (pa_cons (pv 7) (pa_cons (pv 7) pa_nil))) (pa_cons (pv 10) pa_nil))) (pe_one (pe_callC G_l_within (hr.mono (by decide)) T.g__law_within (pa_cons (pv 10) (pa_cons (pe_meth (pv 4) T.cl_Seen T.m_Seen_bounds FX_Seen_bounds (hr.mono (by decide)) bX_Seen_bounds .nil passN (pa_cons (pv 9) (pa_cons (pv 6) pa_nil))) pa_nil)))))))))))), ?_⟩
    obtain ⟨xs, dx, tx, wx, rfl, hx, hxu, hxp⟩ := id hv
    obtain ⟨ys, dy, ty, wy, rfl, hy, hyu, hyp⟩ := id hu
    obtain ⟨_, kvs, ez, hd, hlk⟩ := id hln
    cases ez
    refine ⟨_, rfl, _, rfl, ?_⟩
    refine for_it (walk_str (z := mk l)) (fun i σ H' => ∃ (I' : Hp) (v5 v6 v7 v8 v9 v10 v11 : Option V), σ = [some (.ref D.d), some (.ref d), some (.str (mk l)), some (.ref xs), some (.ref ys), v5, v6, v7, v8, v9, v10, v11] ∧ Grow (TD D) I H I' H' ∧ Drw D (n + 6 * i) I' H')
      ⟨I, none, none, none, none, none, none, none, rfl, Grow.refl dr.sub, dr⟩ (fun _ _ _ _ _ => trivial) ?_ ?_
    · rintro i y σ Hz H1 hi ⟨I1, v5, v6, v7, v8, v9, v10, v11, rfl, g1, d1⟩ ⟨rfl, c, hc, rfl⟩
      have hc' : l[i]? = some c := by simpa [mk] using hc
      have hcl := List.mem_of_getElem? hc'
      have hil : i < l.length := (List.getElem?_eq_some_iff.mp hc').1
      obtain ⟨hc1, hc2⟩ := hl97 c hcl
      obtain ⟨w0, hw0, hr0⟩ := find_line hlk hcl
      obtain ⟨b0, us, rfl, hb0, hpu⟩ := hr0
      have hRc := hRl c hcl
      refine ⟨_, rfl, I1, D, _, 12, rfl, d1, by omega, by decide, by decide, fun m I2 H2 hm g2 d2 => ?_⟩
      have e2 := g1.view.trans g2.view
      have hbm : bM b39 m := by
        cases m with
        | num t =>
          have hm : t.natAbs < 10000000 := hm
          show t.natAbs ≤ b39
          unfold b39
          omega
        | first => trivial
        | last => trivial
      obtain ⟨f1, f2, f3, f4⟩ := all4 hs (hline c) hbA (hbR c hcl) hbm
      have hget : ∀ {H' : Hp}, Same I2 H' → DGet H' d (.str (sg c)) (some (.ref b0)) := fun {H'} e => by
        have z := DGet.k (k := .inr (sg c)) (e _ _ (e2 _ _ hd))
        rw [valV_S, hw0] at z
        exact z
      have hpu2 : Paired (Rep.is I2) us (R c) := Paired.mono' (fun _ _ z => Rep.mono e2 z) hpu
      have hb2 := e2 _ _ hb0
      have hx2 := e2 _ _ hx
      have hy2 := e2 _ _ hy
      have hv2 := hv.up e2
      have hu2 := hu.up e2
      refine ⟨_, rfl, _, rfl, d, _, rfl, hget d2.sub, _, rfl, I2, b0, us, R c, m, rfl, d2.sub, d2.sub _ _ hb2, hpu2, by omega, fun I3 H3 g3 => ?_⟩
      refine ⟨_, rfl, _, rfl, d, _, rfl, hget (g3.view.trans g3.sub), _, rfl, I3, b0, us, R c, m, rfl, g3.sub, g3.sub _ _ (g3.view _ _ hb2), Paired.mono' (fun _ _ z => Rep.mono g3.view z) hpu2, by omega, fun I4 H4 g4 => ?_⟩
      have g34 := g3.trans g4
      refine ⟨_, _, rfl, ?_⟩
      -- ends by the lines
      refine ⟨_, rfl, _, rfl, (by show 2 ≤ sizeLine; decide), fun t5 ht5 => ?_⟩
      have g5 : Grow No I4 H4 _ (upd H4 t5 (.tup [(endsF (R c) m).2.v, (endsF (R c) m).2.v])) := Grow.new g4.sub ht5
      have h5 : isMM (upd I4 t5 (.tup [(endsF (R c) m).2.v, (endsF (R c) m).2.v])) (.ref t5) ((endsF (R c) m).2, (endsF (R c) m).2) := ⟨t5, rfl, upd_same⟩
      have g35 := g34.trans g5
      refine ⟨_, rfl, xs, dx, _, rfl, g35.sub _ _ (g35.view _ _ hx2), rfl, _, rfl, _, rfl, .inr ⟨_, .ref xs, _, _, A, rfl, hv2.up g35.view, hAl, g35.sub, .inl ⟨c, m, rfl, hc1, hc2, rfl, fun w1 I6 H6 g6 hw1 => ?_⟩⟩⟩
      have g36 := g35.trans g6
      refine ⟨I6, _, w1, _, _, rfl, h5.up g6.view, hw1, g6.sub, fun I7 H7 g7 => ?_⟩
      rw [f1]
      refine ⟨_, rfl, iteF ?_⟩
      have g37 := g36.trans g7
      clear h5 g5 g35 g36 g6 hw1 ht5 g7
      -- begins by the lines
      refine ⟨_, rfl, _, rfl, (by show 2 ≤ sizeLine; decide), fun t8 ht8 => ?_⟩
      have g8 : Grow No I7 H7 _ (upd H7 t8 (.tup [(begF (R c) m).1.v, (begF (R c) m).1.v])) := Grow.new g37.sub ht8
      have h8 : isMM (upd I7 t8 (.tup [(begF (R c) m).1.v, (begF (R c) m).1.v])) (.ref t8) ((begF (R c) m).1, (begF (R c) m).1) := ⟨t8, rfl, upd_same⟩
      have g38 := g37.trans g8
      refine ⟨_, rfl, xs, dx, _, rfl, g38.sub _ _ (g38.view _ _ hx2), rfl, _, rfl, _, rfl, .inr ⟨_, .ref xs, _, _, A, rfl, hv2.up g38.view, hAl, g38.sub, .inl ⟨c, m, rfl, hc1, hc2, rfl, fun w1 I9 H9 g9 hw1 => ?_⟩⟩⟩
      have g39 := g38.trans g9
      refine ⟨I9, _, w1, _, _, rfl, h8.up g9.view, hw1, g9.sub, fun I10 H10 g10 => ?_⟩
      rw [f2]
      refine ⟨_, rfl, iteF ?_⟩
      have g310 := g39.trans g10
      clear h8 g8 g38 g39 g9 hw1 ht8 g10
      -- more of them: no wider
      refine ⟨_, rfl, xs, dx, _, rfl, g310.sub _ _ (g310.view _ _ hx2), rfl, _, rfl, _, rfl, .inr ⟨_, .ref xs, _, _, A, rfl, hv2.up g310.view, hAl, g310.sub, .inl ⟨c, m, rfl, hc1, hc2, rfl, fun w1 I11 H11 g11 hw1 => ?_⟩⟩⟩
      have g311 := g310.trans g11
      refine ⟨_, rfl, ys, dy, _, rfl, g311.sub _ _ (g311.view _ _ hy2), rfl, _, rfl, _, rfl, .inr ⟨_, .ref ys, _, _, B, rfl, hu2.up g311.view, hBl, g311.sub, .inl ⟨c, m, rfl, hc1, hc2, rfl, fun w2 I12 H12 g12 hw2 => ?_⟩⟩⟩
      have g312 := g311.trans g12
      refine ⟨I12, w1, w2, _, _, rfl, hw1.up g12.view, hw2, g12.sub, fun I13 H13 g13 => ?_⟩
      rw [f3]
      refine ⟨_, rfl, iteF ?_⟩
      have g313 := g312.trans g13
      clear g310 g311 g312 hw1 hw2 g11 g12 g13
      refine ⟨_, rfl, xs, dx, _, rfl, g313.sub _ _ (g313.view _ _ hx2), rfl, _, rfl, _, rfl, .inr ⟨_, .ref xs, _, _, A, rfl, hv2.up g313.view, hAl, g313.sub, .inl ⟨c, m, rfl, hc1, hc2, rfl, fun w1 I14 H14 g14 hw1 => ?_⟩⟩⟩
      have g314 := g313.trans g14
      refine ⟨_, rfl, ys, dy, _, rfl, g314.sub _ _ (g314.view _ _ hy2), rfl, _, rfl, _, rfl, .inr ⟨_, .ref ys, _, _, B, rfl, hu2.up g314.view, hBl, g314.sub, .inl ⟨c, m, rfl, hc1, hc2, rfl, fun w2 I15 H15 g15 hw2 => ?_⟩⟩⟩
      have g315 := g314.trans g15
      refine ⟨I15, w1, w2, _, _, rfl, hw1.up g15.view, hw2, g15.sub, fun I16 H16 g16 => ?_⟩
      rw [f4]
      refine ⟨_, rfl, iteF ?_⟩
      have g316 := g315.trans g16
      exact ⟨I16, _, _, _, _, _, _, _, rfl, g1.trans (g2.trans g316.no), (d2.grow g316).mono (by omega)⟩
    · rintro σ H1 ⟨I1, v5, v6, v7, v8, v9, v10, v11, rfl, g1, d1⟩
      rw [show (mk l).cps.size = l.length from mk_len l] at d1
      refine ⟨⟨_, rfl⟩, _, rfl, I1, D, _, 7, rfl, d1, by decide, by decide, by omega, fun z H2 hz0 hz1 g2 d2 => ⟨z, rfl, by omega, by omega, fun L hL => ?_⟩⟩
      refine lc_gen (T := TD D) (I := I1) (β := Str) (walk_range (lo := 0) (n := z.toNat)) (fun j => Drw D (n + 6 * l.length + 1 + j)) (fun _ => Stable.drw) d2.sub d2.live hL d2 (by omega) (fun _ _ _ _ _ => trivial) (fun _ o => ∀ s, o = some s → ∃ c ∈ l, s = sg c) ?_ ?_
      · rintro j x I3 H3 H3' hj g3 d3 ⟨rfl, rfl⟩ Kn Ky kn ky
        refine ⟨rfl, lc_yes ⟨_, rfl, _, rfl, I3, D, _, _, rfl, d3, by omega, .inr ⟨l, rfl, hne, by omega, fun i c H4 hc g4 d4 => ?_⟩⟩⟩
        exact ky (sg c) (fun s e => by cases e; exact ⟨c, List.mem_of_getElem? hc, rfl⟩) _ I3 H4 g4 d4 rfl
      intro os I3 H3 vs3 hlen hP g3 d3 ow hp3
      have e3 := Paired.strs hp3
      obtain ⟨cs, hcs, hcl⟩ : ∃ cs : List Nat, os.filterMap id = cs.map sg ∧ ∀ c ∈ cs, c ∈ l := by
        refine signs_of fun s hs => ?_
        obtain ⟨o, ho, he⟩ := List.mem_filterMap.mp hs
        obtain ⟨i, hi⟩ := List.getElem?_of_mem ho
        exact hP i o hi s he
      have hln' : cs.length ≤ z.toNat := by
        have h1 := List.length_filterMap_le id os
        rw [hcs, List.length_map] at h1
        omega
      rw [hcs] at e3
      subst e3
      refine ⟨"", L, cs.map sg, rfl, rfl, .inl (SqL.of ow.at_), ?_, ?_⟩
      · rw [List.map_map]
        show (cs.map fun _ => 1).sum + _ * 0 ≤ _
        rw [sum_ones]
        omega
      rw [join_signs]
      refine ⟨_, rfl, _, rfl, _, rfl, ⟨_, rfl⟩, _, rfl, rfl, by rw [mk_len]; omega, ?_⟩
      rw [upper_mk (fun c hc => by have h := hl97 c (hcl c hc); omega)]
      refine ⟨(by show 2 ≤ sizeLine; decide), fun q hq => ?_⟩
      refine ⟨I3, D, _, _, rfl, d3.mine hq, by omega, .inl ⟨q, _, rfl, d3.not hq, upd_same, by simp, by simp, fun j y H4 hy4 g4 d4 => ?_⟩⟩
      have G4 := g1.trans (g2.trans (g3.trans ((Grow.mine (T := TD D) d3.sub hq).trans g4)))
      obtain ⟨r, rfl, hr6, ⟨fw, hfw⟩, hrl⟩ : ∃ r : List Nat, y = .str (mk r) ∧ r.length ≤ 6 ∧ (∃ fw, ∀ c ∈ r, isStep c = true ∧ low c = fw) ∧ ∀ c ∈ r, lowC c ∈ l := by
        have z := List.mem_of_getElem? hy4
        simp only [List.mem_cons, List.not_mem_nil, or_false] at z
        rcases z with rfl | rfl
        · refine ⟨cs, rfl, by omega, ⟨true, fun c hc => ?_⟩, fun c hc => ?_⟩
          · have h := hl97 c (hcl c hc)
            exact ⟨step_letter h, decide_eq_true h.1⟩
          · have h := hl97 c (hcl c hc)
            rw [lowC_low (decide_eq_true h.1)]
            exact hcl c hc
        · refine ⟨cs.map up1, rfl, by rw [List.length_map]; omega, ⟨false, fun c hc => ?_⟩, fun c hc => ?_⟩
          · obtain ⟨b, hb, rfl⟩ := List.mem_map.mp hc
            exact step_cap (hl97 b (hcl b hb))
          · obtain ⟨b, hb, rfl⟩ := List.mem_map.mp hc
            have h := hl97 b (hcl b hb)
            have e : lowC (up1 b) = b := by
              have z : b = 97 ∨ b = 98 ∨ b = 99 ∨ b = 100 := by omega
              rcases z with rfl | rfl | rfl | rfl <;> decide
            rw [e]
            exact hcl b hb
      clear hy4 g4 hq ow hp3 hcs hP
      have hmx := not_mixed hfw
      have hrow : isRowL r = true := by
        unfold isRowL
        rw [Bool.and_eq_true, decide_eq_true_eq, List.all_eq_true]
        exact ⟨by omega, fun c hc => (hfw c hc).1⟩
      refine ⟨_, rfl, I3, D, _, 12, rfl, d4, by omega, by decide, by decide, fun m I5 H5 hm g5 d5 => ?_⟩
      have hbm : bM b39 m := by
        cases m with
        | num t =>
          have hm : t.natAbs < 10000000 := hm
          show t.natAbs ≤ b39
          unfold b39
          omega
        | first => trivial
        | last => trivial
      have hsteps : ∀ c ∈ r, isStep c = true ∧ lowC c ∈ l := fun c hc => ⟨(hfw c hc).1, hrl c hc⟩
      obtain ⟨f1, f2⟩ := row2 hs hline hbA hbR hsteps hbm
      have G5 := G4.trans g5
      have e5 := G5.view
      refine ⟨_, rfl, _, rfl, _, rfl, I5, .ref d, l, R, r, m, rfl, hln.up e5, hRl, hsteps, d5.sub, fun I6 H6 g6 => ?_⟩
      refine ⟨_, rfl, xs, dx, _, rfl, g6.sub _ _ (g6.view _ _ (e5 _ _ hx)), rfl, _, rfl, _, rfl, .inr ⟨I6, .ref xs, _, _, A, rfl, hv.up (e5.trans g6.view), hAl, g6.sub, .inl ⟨r, m, rfl, hrow, rfl, hmx, fun w1 I7 H7 g7 hw1 => ?_⟩⟩⟩
      have g67 := g6.trans g7
      have hwm := hw1
      obtain ⟨t1, rfl, ht1⟩ := hw1
      refine ⟨_, _, rfl, ?_⟩
      refine ⟨_, rfl, _, rfl, (by show 2 ≤ sizeLine; decide), fun t8 ht8 => ?_⟩
      have g8 : Grow No I7 H7 _ (upd H7 t8 (.tup [(fld (goR R) r m).v, (fld (goR R) r m).v])) := Grow.new g67.sub ht8
      have h8 : isMM (upd I7 t8 (.tup [(fld (goR R) r m).v, (fld (goR R) r m).v])) (.ref t8) (fld (goR R) r m, fld (goR R) r m) := ⟨t8, rfl, upd_same⟩
      have g68 := g67.trans g8
      refine ⟨_, rfl, _, _, _, _, _, rfl, h8, hwm.up g8.view, g68.sub, fun I9 H9 g9 => ?_⟩
      rw [f1]
      have g69 := g68.trans g9
      have v9 := g8.view.trans g9.view
      refine ⟨true, rfl, iteT ⟨_, rfl, _, rfl, ys, dy, _, rfl, g69.sub _ _ (g69.view _ _ (e5 _ _ hy)), rfl, _, rfl, _, rfl, .inr ⟨I9, .ref ys, _, _, B, rfl, hu.up (e5.trans g69.view), hBl, g69.sub, .inl ⟨r, m, rfl, hrow, rfl, hmx, fun w2 I10 H10 g10 hw2 => ?_⟩⟩⟩⟩
      refine ⟨I10, _, w2, _, _, rfl, hwm.up (v9.trans g10.view), hw2, g10.sub, fun I11 H11 g11 => ?_⟩
      rw [f2]
      have g611 := g69.trans (g10.trans g11)
      exact k _ _ (G5.trans g611.no) ((d5.grow g611).mono (by omega))
end
end Nw

namespace Nw
open PySem PySem.Spec PyProof.Rows L2
/-! ### _law_turned_right, _law_one_more -/
theorem make_seen {K : PySem.W.Frag} {I H : Hp} {a : Addr} {ws : List V} {ms : List Ms} {x dx : Addr} {Q2 : VK} (hx : H x = none) (hdx : H dx = none) (ne : dx ≠ x) (sb : Same I H) (ha : I a = some (.lst ws)) (hp : Paired (isMs I) ws ms) (hd : Due (ms.map msD) .fine)
    (k : ∀ I' H', Grow No I H I' H' → isSeen K I' (.ref x) ms → Q2 .non H') :
    spb_Seen__init K [.ref x, .ref a] (upd (upd H dx (.own x)) x (.ins (He.ga K "Seen") dx [])) Q2 E0 := by
  have gm : Grow No I H I (upd (upd H dx (.own x)) x (.ins (He.ga K "Seen") dx [])) := grow_made sb hx hdx ne
  have hH := sb _ _ ha
  have nax : a ≠ x := fun z => by rw [z, hx] at hH; cases hH
  have hl := good_len hd.1
  refine ⟨I, x, dx, .ref a, .fine, ws, rfl, upd_same, sb.free hx, gm.sub, .inr ⟨a, false, ms.map msD, rfl, nax, gm.same _ _ hH, (fun z => nomatch z), ms_es hp, by omega, hd⟩, ?_⟩
  intro t I' H' g2 hi hu
  obtain ⟨g3, n3⟩ := Grow.make (T := No) (o := .ins (He.ga K "Seen") dx [("own_messages", .ref t)]) (Grow.refl sb) hx hdx ne g2 (fun b z => .inr (by rw [show b = x from z]; exact hx)) hi
  exact k _ _ g3 ⟨x, dx, t, ws, rfl, upd_same, (Same.up n3) _ _ hu, Paired.mono' (fun _ _ z => z.up (g2.view.trans (Same.up n3))) hp⟩
structure MsR where
  m : Ms
instance : Rep MsR := ⟨fun I v x => isMs I v x.m, fun e h => h.up e⟩
theorem msr_paired {I : Hp} : ∀ {vs : List V} {xs : List MsR}, Paired (Rep.is I) vs xs → Paired (isMs I) vs (xs.map MsR.m)
  | _, _, .nil => .nil
  | _, _, .cons h t => .cons h (msr_paired t)
theorem at20 {a b : V} : atI [a, b] 0 = some a := mm_at0
def wordO : Wo → Str
  | .fine => ""
  | _ => "clash"
def noSeen : Wo → Prop
  | .seen _ => False
  | _ => True
theorem due_noSeen {ms : List Ms} (hl : ∀ m ∈ ms, 97 ≤ m.1 ∧ m.1 ≤ 100) (h : ms.length ≤ 50) : ∀ {o : Wo}, Due (ms.map msD) o → noSeen o
  | .fine, _ => trivial
  | .clash _ _, _ => trivial
  | .seen i, d => by
    obtain ⟨h1, h2, _⟩ := d
    rw [List.length_map] at h1
    rcases h2 with h2 | ⟨x, hx, hm⟩
    · omega
    · obtain ⟨m, hm2, rfl⟩ := List.mem_map.mp (List.mem_of_getElem? hx)
      rw [msD_msg (hl m hm2)] at hm
      cases hm
theorem told_init {K : PySem.W.Frag} {I H : Hp} {x dx p : Addr} {ws : List V} {ms : List Ms} {o : Wo} {Q2 : VK} {E : XK}
    (hx : H x = none) (hdx : H dx = none) (ne : dx ≠ x) (sb : Same I H) (hp : I p = some (.lst ws)) (hpp : Paired (isMs I) ws ms) (hl : ms.length ≤ 1000) (hd : Due (ms.map msD) o) (ho : noSeen o)
    (kf : o = .fine → ∀ I' H', Grow No I H I' H' → Q2 .non H')
    (kc : ∀ i j, o = .clash i j → ∀ I' H' dx2, Grow No I H I' H' → H' dx2 = some (.xd [("second", .int (j : Nat)), ("first", .int (i : Nat))]) → E (.ref (He.ga K "Clash")) (some dx2) H') :
    spb_Seen__init K [.ref x, .ref p] (upd (upd H dx (.own x)) x (.ins (He.ga K "Seen") dx [])) Q2 E := by
  have gm : Grow No I H I (upd (upd H dx (.own x)) x (.ins (He.ga K "Seen") dx [])) := grow_made sb hx hdx ne
  have hH := sb _ _ hp
  have nax : p ≠ x := fun z => by rw [z, hx] at hH; cases hH
  refine ⟨I, x, dx, .ref p, o, ws, rfl, upd_same, sb.free hx, gm.sub, .inr ⟨p, false, ms.map msD, rfl, nax, gm.same _ _ hH, (fun z => nomatch z), ms_es hpp, by rw [List.length_map]; exact hl, hd⟩, ?_⟩
  match o, ho, kf, kc with
  | .fine, _, kf, _ =>
    intro t I' H' g2 hi hu
    obtain ⟨g3, n3⟩ := Grow.make (T := No) (o := .ins (He.ga K "Seen") dx [("own_messages", .ref t)]) (Grow.refl sb) hx hdx ne g2 (fun b z => .inr (by rw [show b = x from z]; exact hx)) hi
    exact kf rfl _ _ g3
  | .clash i j, _, _, kc =>
    intro I' H' dx2 g hd
    exact kc i j rfl I' H' dx2 (gm.trans g) hd
def sp_l_turned_right (K : PySem.W.Frag) : Sp := fun vs H Q _ => ∃ (I : Hp) (D : DA) (n : Nat) (p : Addr) (v : V) (c : Nat) (t : Int) (ws : List V) (ms : List Ms), vs = [.ref p, v, .str (sg c), .int t] ∧ LSt (TbL K) D n I H ∧ I p = some (.lst ws) ∧ Paired (isMs I) ws ms ∧ ms.length ≤ 40 ∧ isSeen K I v ms ∧ Nice ms ∧ (97 ≤ c ∧ c ≤ 100) ∧
  ∀ I' H', LSt (TbL K) D n I' H' → Same I I' → Q (.bl true) H'
theorem links_at {K : PySem.W.Frag} {I : Hp} : ∀ {kvs : List (Nat × V)} {tb : List (Nat × Rides)} {j : Nat} {p : Nat × Rides}, linksP K I kvs tb → tb[j]? = some p → ∃ v, kvs[j]? = some (p.1, v) ∧ isLink K I v p.2
  | _, _, 0, _, .cons h t, e => by
    cases e
    exact ⟨_, by rw [← h.1]; rfl, h.2⟩
  | _, _, j + 1, _, .cons h t, e => links_at (j := j) t e
theorem IsNeeded.few {rs ns : Rides} (h : IsNeeded rs ns) : ns.length ≤ rs.length := by
  have nd : ns.Nodup := h.asc.imp fun {a b} hab e => by rw [e] at hab; omega
  exact List.Nodup.length_le_of_subset nd h.sub
def Mom.py : Mom → PyData
  | .first => .str "first"
  | .last => .str "last"
  | .num t => .int t
def mmPy (p : Mom × Mom) : PyData := .tuple [p.1.py, p.2.py]
theorem Mom.dp {K : PySem.W.Frag} {H : Hp} : ∀ m : Mom, Dp K H m.v m.py
  | .first => .str _
  | .last => .str _
  | .num _ => .int _
theorem isMM.dp {K : PySem.W.Frag} {I H : Hp} {v : V} {p : Mom × Mom} (h : isMM I v p) (sb : Same I H) : Dp K H v (mmPy p) := by
  obtain ⟨t, rfl, ht⟩ := h
  exact .tup (SqT.of (sb _ _ ht)) (.cons p.1.dp (.cons p.2.dp .nil))
theorem mom_lay : ∀ m : Mom, m.py.canLay0 = true ∧ m.py.depth = 0
  | .first => ⟨by decide +kernel, by decide +kernel⟩
  | .last => ⟨by decide +kernel, by decide +kernel⟩
  | .num _ => ⟨rfl, rfl⟩
theorem mm_lay (p : Mom × Mom) : SeqAt.shaped (mmPy p) = true ∧ (mmPy p).canLay0 = true := by
  obtain ⟨a1, a2⟩ := mom_lay p.1
  obtain ⟨b1, b2⟩ := mom_lay p.2
  have h : (mmPy p).canLay0 = true := by simp only [mmPy, PyData.canLay0, PyData.canLayAll0, a1, b1, Bool.and_self]
  refine ⟨?_, h⟩
  unfold SeqAt.shaped
  rw [h, Bool.true_and]
  refine decide_eq_true ?_
  simp only [mmPy, PyData.depth, PyData.depthAll, a2, b2]
  omega
theorem eqD_mm {K : PySem.W.Frag} {I H : Hp} {v w : V} {p : Mom × Mom} {Q : VK} (sb : Same I H) (h1 : isMM I v p) (h2 : isMM I w p) (k : Q (.bl true) H) : rEqD K v w H Q := by
  refine ⟨_, _, h1.dp sb, h2.dp sb, (mm_lay p).1, (mm_lay p).1, ?_⟩
  rw [SeqAt.eqv_refl _ (mm_lay p).2]
  exact k
theorem neD_mm {K : PySem.W.Frag} {I H : Hp} {v w : V} {p : Mom × Mom} {Q : VK} (sb : Same I H) (h1 : isMM I v p) (h2 : isMM I w p) (k : Q (.bl false) H) : rNeD K v w H Q := by
  refine ⟨_, _, h1.dp sb, h2.dp sb, (mm_lay p).1, (mm_lay p).1, ?_⟩
  rw [SeqAt.eqv_refl _ (mm_lay p).2]
  exact k
theorem word_eq (E : Bool) : (!decide (V.bl (decide (V.str (if E = true then "" else "clash") = V.str "")) = V.bl E)) = false := by cases E <;> decide +kernel
theorem ex_key {ms : List Ms} {c : Nat} (h : 97 ≤ c ∧ c ≤ 100) : c ∈ exKeys ms c ∧ (exKeys ms c).Nodup := by
  refine ⟨List.mem_filter.mpr ⟨?_, by rw [decide_eq_true rfl, Bool.true_or]⟩, (by decide : [97, 98, 99, 100].Nodup).sublist List.filter_sublist⟩
  have z : c = 97 ∨ c = 98 ∨ c = 99 ∨ c = 100 := by omega
  rcases z with rfl | rfl | rfl | rfl <;> decide
theorem last_ne {m : Mom} : decide (m.v = V.str "last") = decide (m = .last) := by
  cases m with
  | last => rfl
  | first => decide
  | num t => exact (decide_eq_false fun z => nomatch z).trans (decide_eq_false fun z => nomatch z).symm
theorem btw_read {lo e : Int} {hi : Mom} {σ : L2.St} {H : Hp} {Q : VK} (h4 : σ[4]? = some (some (.int lo))) (h5 : σ[5]? = some (some hi.v)) (h11 : σ[11]? = some (some (.int e))) (hf : hi ≠ .first) (k : Q (.bl (decide (lo ≤ e) && highOk e hi)) H) :
    tAndV (tOp (rI0 fun i j => V.bl (decide (i ≤ j))) (tVar 4) (tVar 11)) (tOrV (tOp rEq (tVar 5) (tC (.str "last"))) (tOp (rI0 fun i j => V.bl (decide (i ≤ j))) (tVar 11) (tVar 5))) σ H Q := by
  refine ⟨_, h4, _, h11, _, _, rfl, rfl, _, rfl, ?_⟩
  by_cases z : lo ≤ e
  · rw [decide_eq_true z] at k ⊢
    refine iteT ⟨_, h5, Mom.scal hi .last, decide (hi = .last), congrArg V.bl last_ne, ?_⟩
    match hi, hf, h5, k with
    | .last, _, h5, k => exact iteT k
    | .num h, _, h5, k => exact iteF ⟨_, h11, _, h5, _, _, rfl, rfl, k⟩
    | .first, hf, _, _ => exact absurd rfl hf
  · rw [decide_eq_false z] at k ⊢
    exact iteF k
theorem ms_snoc {I I' : Hp} {ws : List V} {ms : List Ms} {u : Addr} {m : Ms} (h : Paired (isMs I) ws ms) (e : Same I I') (hu : I' u = some (.tup [.str (sg m.1), .int m.2.1, .int m.2.2])) : Paired (isMs I') (ws ++ [.ref u]) (ms ++ [m]) :=
  Paired.snoc (Paired.mono' (fun _ _ z => z.up e) h) ⟨u, rfl, hu⟩
def sp_l_one_more (K : PySem.W.Frag) : Sp := fun vs H Q _ => ∃ (I : Hp) (D : DA) (n : Nat) (p : Addr) (v : V) (c : Nat) (ws : List V) (ms : List Ms), vs = [.ref D.d, .ref p, v, .str (sg c)] ∧ LSt (TbL K) D n I H ∧ n + 2 < lim ∧ I p = some (.lst ws) ∧ Paired (isMs I) ws ms ∧ ms.length ≤ 40 ∧ isSeen K I v ms ∧ Nice ms ∧ (97 ≤ c ∧ c ≤ 100) ∧
  ∀ I' H', LSt (TbL K) D (n + 2) I' H' → Same I I' → Q (.bl true) H'
section
variable {P : Program} {w : World} {K : PySem.W.Frag} {mg : Str → Option Value} {base : Heap}
theorem ok_l_turned_right (T : Txt K mg) (F : FnAt K "_law_turned_right" "_law_turned_right" s_l_turned_right (He.ga K "_law_turned_right")) (GX_Seen__init : Ok P w K mg base (L2.CX P w) 3 (He.ma K (He.ga K "Seen") "__init__") ["self", "messages"] (fun vs H Q E => sp_Seen__init K vs H Q E ∨ spb_Seen__init K vs H Q E)) (GX_Seen_ends : Ok P w K mg base (L2.CX P w) 4 (He.ma K (He.ga K "Seen") "ends") ["self", "letter", "moment"] (fun vs H Q E => sp_Seen_ends K vs H Q E ∨ spb_Seen_ends K vs H Q E)) (GX_Seen_begins : Ok P w K mg base (L2.CX P w) 4 (He.ma K (He.ga K "Seen") "begins") ["self", "letter", "moment"] (fun vs H Q E => sp_Seen_begins K vs H Q E ∨ spb_Seen_begins K vs H Q E)) (TB : LamX.TabB base mg (He.codeOf K ("_law_turned_right", none)) (He.tabOf K (He.codeOf K ("_law_turned_right", none)))) (F_l_word : FnAt K "_law_word" "_law_word" s_l_word (He.ga K "_law_word")) : Ok P w K mg base CX0 8 (He.ga K "_law_turned_right") ["_law_items", "_law_seen_here", "_law_letter", "_law_moment_here"] (sp_l_turned_right K) := by
  obtain ⟨fdX_Seen_ends, FX_Seen_ends, bX_Seen_ends, _⟩ := GX_Seen_ends.ok
  obtain ⟨fdX_Seen_begins, FX_Seen_begins, bX_Seen_begins, _⟩ := GX_Seen_begins.ok
  refine ok_ofL F sc_l_turned_right (fun _ _ _ _ _ _ us hl => match us, hl with | [_, _, _, _], _ => rfl) (fun vs H Q E h => ?_) (fun cdv A outer s H vs Q E hc hr h => ?_)
  · obtain ⟨_, _, _, _, _, _, _, _, _, rfl, _⟩ := h
    rfl
  · obtain ⟨I, D, n, p, v, c, t, ws, ms, rfl, s, hp, hpp, hml, hv, nice, hcl, k⟩ := h
    refine ⟨_, (pss_cons (ps_set (i := 7) sc_l_turned_right.nd rfl (Or.inr rfl) (pe_lc (own := [("_law_one", 8)]) (g := (gName 8)) rfl sc_l_turned_right.nd (pi_list (pv 0)) (blkOk_by (own := [("_law_one", 8)]) (N := n_l_turned_right) (sc := defScope s_l_turned_right) (by decide +kernel)) (fun _ _ _ _ _ => (pg_name (i := 8) sc_l_turned_right.nd rfl (Or.inl rfl))) (fun _ _ _ _ _ => pts_nil) (fun _ _ _ _ _ => (pe_tup (pa_cons (pe_ix (ix_tupK (K := K) rfl) (pv 8) pe_int (fun _ _ => rfl)) (pa_cons (pe_op op_sub pe_int (pe_ix (ix_tupK (K := K) rfl) (pv 8) pe_int (fun _ _ => rfl))) (pa_cons (pe_op op_sub pe_int (pe_ix (ix_tupK (K := K) rfl) (pv 8) pe_int (fun _ _ => rfl))) pa_nil)))))))
      (pss_cons (ps_if (pt_cmpR op_ne (pe_ix ix_tup (pe_told2 (Tb := TbL K) (e := (He.tabOf K (He.codeOf K ("_law_turned_right", none)), "_law_turned_right.<locals>.<lambda>")) (k := 5) (t := _) F_l_word sc_l_word T.g__law_word (fun _ => gives_l_word T rfl rfl) TB hc rfl (by simp [TbL]) T.tb_nd (hr.mono (by decide)) (LamX.lamS_by (show LamX.lamSB (defScope s_l_turned_right) _ = true by decide +kernel)) (fun A outer s H E f c2 hr => (pe_makeX T.mk_Seen GX_Seen__init (hr.mono (by decide)) T.g_Seen passE (pa_cons (pv 7) pa_nil)))) pe_int (fun _ _ => rfl)) pe_str (nomark _)) (pss_one (ps_ret pe_bl)) pss_nil)
      (pss_cons (ps_asg (pe_tup (pa_cons (pe_makeX T.mk_Seen GX_Seen__init (hr.mono (by decide)) T.g_Seen passN (pa_cons (pv 7) pa_nil)) (pa_cons (pe_meth (pv 1) T.cl_Seen T.m_Seen_ends FX_Seen_ends (hr.mono (by decide)) bX_Seen_ends .nil passN (pa_cons (pv 2) (pa_cons (pv 3) pa_nil))) pa_nil))) (pg_tup (by rfl) (pgs_cons (pg_name (i := 4) sc_l_turned_right.nd rfl (Or.inl rfl)) (pgs_cons (pg_tup (by rfl) (pgs_cons (pg_name (i := 5) sc_l_turned_right.nd rfl (Or.inl rfl)) (pgs_cons (pg_name (i := 6) sc_l_turned_right.nd rfl (Or.inl rfl)) pgs_nil))) pgs_nil))))
      (pss_cons (ps_if (pt_cmpR (op_eqNil hr.units) (pe_lc (own := [("_law_one", 8)]) (g := (gName 8)) rfl sc_l_turned_right.nd (pi_list (pv 0)) (blkOk_by (own := [("_law_one", 8)]) (N := n_l_turned_right) (sc := defScope s_l_turned_right) (by decide +kernel)) (fun _ _ _ _ _ => (pg_name (i := 8) sc_l_turned_right.nd rfl (Or.inl rfl))) (fun _ _ _ _ _ => (pts_one (PW.pt (pw_and (pt_cmpR op_eq (pe_ix (ix_tupK (K := K) rfl) (pv 8) pe_int (fun _ _ => rfl)) (pv 2) (nomark _)) (pw_and1 (pt_cmpR op_ge (pe_ix (ix_tupK (K := K) rfl) (pv 8) pe_int (fun _ _ => rfl)) (pv 3) (nomark _))))))) (fun _ _ _ _ _ => (pv 8))) (pe_lst pa_nil) (nomark _)) (pss_one (ps_ret (pe_cmpR op_eq (pe_ix ix_tup (pe_meth (pv 4) T.cl_Seen T.m_Seen_begins FX_Seen_begins (hr.mono (by decide)) bX_Seen_begins .nil passN (pa_cons (pv 2) (pa_cons (pe_op op_sub pe_int (pv 3)) pa_nil))) pe_int (fun _ _ => rfl)) pe_str (nomark _)))) pss_nil)
      (pss_one (ps_ret (pe_and (pe_cmpR op_eq (pe_ix ix_tup (pe_meth (pv 4) T.cl_Seen T.m_Seen_begins FX_Seen_begins (hr.mono (by decide)) bX_Seen_begins .nil passN (pa_cons (pv 2) (pa_cons (pe_op op_sub pe_int (pv 3)) pa_nil))) pe_int (fun _ _ => rfl)) (pe_op op_sub pe_int (pv 6)) (nomark _)) (pe_one (pe_cmpR op_le (pv 5) (pv 6) (nomark _)))))))))), ?_⟩
    obtain ⟨xs, dx, tx, wx, rfl, hx, hxu, hxp⟩ := id hv
    have hwl := Nw.Paired.len hpp
    refine ⟨_, rfl, p, rfl, ⟨_, SqL.of (s.sub _ _ hp)⟩, fun L hL => ?_⟩
    refine lc_pure (β := MsR) walk_list ms (fun m => some ⟨tuM m⟩) hwl.symm s.sub hL (by omega) (fun I' H' g => SqL.of (g.sub _ _ (g.view _ _ hp))) ?_ ?_
    · rintro j m y I' H' H'' hm g ⟨rfl, hy⟩ Kn Ky kn ky
      obtain ⟨v', hv', b, rfl, hb⟩ := Nw.Paired.at hpp hm
      rw [hy] at hv'
      cases hv'
      have hbH := g.sub _ _ (g.view _ _ hb)
      refine ⟨rfl, lc_yes ?_⟩
      refine ⟨_, rfl, _, _, 0, _, rfl, rfl, SqT.of hbH, at30, _, rfl, _, _, 2, _, rfl, rfl, SqT.of hbH, at32, _, _, rfl, rfl, _, rfl, _, _, 1, _, rfl, rfl, SqT.of hbH, at31, _, _, rfl, rfl, (by show 3 ≤ sizeLine; decide), fun u hu => ?_⟩
      have gu : Grow No I' H'' _ (upd H'' u (.tup [.str (sg m.1), .int (0 - m.2.2), .int (0 - m.2.1)])) := Grow.new g.sub hu
      exact ky _ rfl _ _ _ gu ⟨u, rfl, upd_same⟩
    intro I7 H7 vs7 g7 ow7 hp7
    have g8 := g7.give ow7
    have s8 := s.grow g8
    have pr : Paired (isMs (upd I7 L (.lst vs7))) vs7 (ms.map tuM) := by
      have z := msr_paired hp7
      rw [show (ms.filterMap fun m => some (⟨tuM m⟩ : MsR)).map MsR.m = ms.map tuM by rw [← List.filterMap_eq_map, ← List.filterMap_eq_map, List.filterMap_filterMap] <;> rfl] at z
      exact Paired.mono' (fun _ _ z => z.up (Same.up ow7.ni)) z
    have hL8 : upd I7 L (.lst vs7) L = some (.lst vs7) := upd_same
    have e8 := g8.view
    generalize upd I7 L (.lst vs7) = I8 at g8 s8 pr hL8 e8
    clear g7 ow7 hp7 hL g8
    have hlt : ∀ m ∈ ms.map tuM, 97 ≤ m.1 ∧ m.1 ≤ 100 := fun m hm => by
      obtain ⟨u, hu, rfl⟩ := List.mem_map.mp hm
      exact ⟨(nice.1 u hu).1, (nice.1 u hu).2.1⟩
    have htl : (ms.map tuM).length ≤ 40 := by rw [List.length_map]; exact hml
    obtain ⟨o, hdue⟩ := due_ex ((ms.map tuM).map msD)
    have hns := due_noSeen hlt (by omega) hdue
    have hfit := nice_fit nice c
    refine ⟨s8.tabs, fun HX xX tX => ?_⟩
    have sX := s8.ext xX tX
    refine ⟨_, rfl, fun x dx2 hx2 hdx2 ne2 => .inr (told_init hx2 hdx2 ne2 sX.sub hL8 pr (by omega) hdue hns (fun ho I9 H9 g9 => ⟨rfl, fun u hu => ?_⟩) fun i j ho I9 H9 dx9 g9 h9 => ⟨T.em_Clash_OrderError, I9, g9.sub, dx9, _, _, rfl, rfl, h9, fun t2 t3 H10 g10 h2 h3 => ?_⟩)⟩
    rotate_left
    · refine ⟨t3, _, 0, _, rfl, rfl, SqT.of h3, at20, rfl, true, ?_, iteT ?_⟩
      · rw [decide_eq_false (by decide)] <;> rfl
      exact k _ _ (sX.grow (g9.trans g10)) (e8.trans g9.view)
    have gu : Grow No I9 H9 I9 (upd H9 u (.tup [.str "", .non])) := Grow.mine g9.sub hu
    refine ⟨u, _, 0, _, rfl, rfl, SqT.of upd_same, at20, rfl, false, ?_, iteF ?_⟩
    · rw [decide_eq_true rfl] <;> rfl
    have s9 := sX.grow (g9.trans gu)
    generalize upd H9 u (.tup [.str "", .non]) = H10 at s9 ⊢
    have hL9 := g9.view _ _ hL8
    have pr9 : Paired (isMs I9) vs7 (ms.map tuM) := Paired.mono' (fun _ _ z => z.up g9.view) pr
    have e9 := e8.trans g9.view
    have hfine := hdue
    rw [ho] at hfine
    clear gu g9 hu hx2 hdx2 ne2 sX xX tX s8 hL8 pr
    refine ⟨_, rfl, fun x dx2 hx2 hdx2 ne2 => .inr (make_seen (K := K) hx2 hdx2 ne2 s9.sub hL9 pr9 hfine fun I11 H11 g11 hs11 => ⟨rfl, ?_⟩)⟩
    clear hx2 hdx2 ne2
    have s11 := s9.grow g11
    have e11 := e9.trans g11.view
    refine ⟨_, rfl, xs, dx, _, rfl, s11.sub _ _ (e11 _ _ hx), rfl, _, rfl, _, rfl, .inr ⟨I11, .ref xs, _, _, ms, rfl, hv.up e11, by omega, s11.sub, .inl ⟨c, .num t, rfl, hcl.1, hcl.2, rfl, fun w1 I12 H12 g12 hw1 => ?_⟩⟩⟩
    have s12 := s11.grow g12
    have e12 := e11.trans g12.view
    obtain ⟨t12, rfl, ht12⟩ := hw1
    refine ⟨(by show 2 ≤ sizeLine; decide), fun t13 ht13 => ?_⟩
    have g13 : Grow No I12 H12 _ (upd H12 t13 (.tup [.ref x, .ref t12])) := Grow.new s12.sub ht13
    have s13 := s12.grow g13
    have h13 : upd I12 t13 (.tup [.ref x, .ref t12]) t13 = some (.tup [.ref x, .ref t12]) := upd_same
    have hs13 := hs11.up (g12.view.trans g13.view)
    have ht13 := g13.view _ _ ht12
    have e13 := e12.trans g13.view
    generalize upd I12 t13 (.tup [.ref x, .ref t12]) = I13 at s13 h13 hs13 ht13 e13
    generalize upd H12 t13 (.tup [.ref x, .ref t12]) = H13 at s13 ⊢
    refine ⟨t13, _, rfl, SqT.of (s13.sub _ _ h13), rfl, _, _, rfl, _, _, rfl, t12, _, rfl, SqT.of (s13.sub _ _ ht13), rfl, _, _, rfl, _, _, rfl, rfl, rfl, ?_⟩
    have hp13 := e13 _ _ hp
    have hpp13 : Paired (isMs I13) ws ms := Paired.mono' (fun _ _ z => z.up e13) hpp
    obtain ⟨lo, hlo⟩ : ∃ y, (endsF (ridesL ms c) (.num t)).1 = .num y := ⟨_, rfl⟩
    refine ⟨_, rfl, p, rfl, ⟨_, SqL.of (s13.sub _ _ hp13)⟩, fun L2 hL2 => ?_⟩
    refine lc_pure (β := MsR) walk_list ms (fun m => if m.1 = c ∧ t ≤ m.2.1 then some ⟨m⟩ else none) hwl.symm s13.sub hL2 (by omega) (fun I' H' g => SqL.of (g.sub _ _ (g.view _ _ hp13))) ?_ ?_
    · rintro j m y I' H' H'' hm g ⟨rfl, hy⟩ Kn Ky kn ky
      obtain ⟨v', hv', b, rfl, hb⟩ := Nw.Paired.at hpp13 hm
      rw [hy] at hv'
      cases hv'
      have hbI := g.view _ _ hb
      have hbH := g.sub _ _ hbI
      refine ⟨rfl, ?_⟩
      refine ⟨_, rfl, _, _, 0, _, rfl, rfl, SqT.of hbH, at30, _, rfl, rfl, _, rfl, ?_⟩
      rw [dec_sg]
      by_cases z1 : m.1 = c
      · rw [decide_eq_true z1]
        refine iteT ⟨_, rfl, _, _, 1, _, rfl, rfl, SqT.of hbH, at31, _, rfl, _, _, rfl, rfl, _, rfl, ?_⟩
        by_cases z2 : t ≤ m.2.1
        · rw [decide_eq_true z2]
          exact iteT ⟨_, rfl, ky _ (if_pos ⟨z1, z2⟩) _ _ _ (Grow.refl g.sub) ⟨b, rfl, hbI⟩⟩
        · rw [decide_eq_false z2]
          exact iteF (kn (if_neg fun z => z2 z.2) _ _ (Grow.refl g.sub))
      · rw [decide_eq_false z1]
        exact iteF (kn (if_neg fun z => z1 z.1) _ _ (Grow.refl g.sub))
    intro I14 H14 vs14 g14 ow14 hp14
    have n2 := ow14.at_
    refine ⟨by decide, fun q2 hq2 => ⟨L2, q2, vs14, rfl, rfl, SqL.of (by rw [upd_ne (ne_of_none ow14.at_ hq2)]; exact ow14.at_), SqL.of upd_same, _, rfl, ?_⟩⟩
    have s15 := (s13.grow g14).grow (Grow.mine (T := No) (o := .lst []) g14.sub hq2)
    generalize upd H14 q2 (.lst []) = H15 at s15 ⊢
    have e14 := g14.view
    have hs15 := hs13.up e14
    obtain ⟨_, dx3, tt3, us3, ez, hx15, _, _⟩ := id hs15
    cases ez
    rcases late_is (rs := ridesL ms c) (t := t) with ⟨h, hh⟩ | hh
    · have hne : vs14.isEmpty = false := by
        obtain ⟨⟨r, hr, k1, _⟩, _⟩ := end_num.mp hh
        obtain ⟨m, hm, e1, rfl⟩ := rides_mem hr
        have hmem : (⟨m⟩ : MsR) ∈ ms.filterMap fun m => if m.1 = c ∧ t ≤ m.2.1 then some (⟨m⟩ : MsR) else none := List.mem_filterMap.mpr ⟨m, hm, if_pos ⟨e1, k1⟩⟩
        have hlen := Nw.Paired.len hp14
        cases hv : vs14 with
        | nil =>
          rw [hv, List.length_nil] at hlen
          rw [List.length_eq_zero_iff.mp hlen.symm] at hmem
          cases hmem
        | cons => rfl
      rw [hne]
      have hle := (least_can hfit hlo).2 h hh
      refine iteF ⟨_, rfl, x, dx3, _, rfl, s15.sub _ _ hx15, rfl, _, rfl, _, rfl, _, _, rfl, rfl, .inr ⟨I14, .ref x, _, _, ms.map tuM, rfl, hs15, by omega, s15.sub, .inl ⟨c, .num (0 - t), rfl, hcl.1, hcl.2, rfl, fun w1 I16 H16 g16 hw1 => ?_⟩⟩⟩
      obtain ⟨t16, rfl, ht16⟩ := hw1
      rw [turned_num hh] at ht16
      have s16 := s15.grow g16
      refine ⟨t16, _, 0, _, rfl, rfl, SqT.of (s16.sub _ _ ht16), mm_at0, ?_⟩
      rw [hh]
      refine ⟨_, rfl, _, _, rfl, rfl, Mom.scal (.num (0 - h)) (.num (0 - h)), ?_⟩
      refine ⟨true, congrArg V.bl (decide_eq_true rfl), iteT ⟨_, rfl, _, rfl, _, _, congrArg Mom.v hlo, rfl, ?_⟩⟩
      show Q (.bl (decide (lo ≤ h))) H16
      rw [decide_eq_true hle]
      exact k _ _ s16 (e13.trans (e14.trans g16.view))
    · have hem : vs14.isEmpty = true := by
        have hl := Nw.Paired.len hp14
        have e0 : (ms.filterMap fun m => if m.1 = c ∧ t ≤ m.2.1 then some (⟨m⟩ : MsR) else none) = [] := List.filterMap_eq_nil_iff.mpr fun m hm => if_neg fun z => end_last.mp hh (m.2.1, m.2.2) (List.mem_filterMap.mpr ⟨m, hm, if_pos z.1⟩) z.2
        rw [e0] at hl
        rw [List.length_eq_zero_iff.mp hl] <;> rfl
      rw [hem]
      refine iteT ⟨_, rfl, x, dx3, _, rfl, s15.sub _ _ hx15, rfl, _, rfl, _, rfl, _, _, rfl, rfl, .inr ⟨I14, .ref x, _, _, ms.map tuM, rfl, hs15, by omega, s15.sub, .inl ⟨c, .num (0 - t), rfl, hcl.1, hcl.2, rfl, fun w1 I16 H16 g16 hw1 => ?_⟩⟩⟩
      obtain ⟨t16, rfl, ht16⟩ := hw1
      rw [turned_first (end_last.mp hh)] at ht16
      have s16 := s15.grow g16
      refine ⟨t16, _, 0, _, rfl, rfl, SqT.of (s16.sub _ _ ht16), mm_at0, Mom.scal .first .first, ?_⟩
      rw [show decide (Mom.first.v = V.str "first") = true from decide_eq_true rfl]
      exact k _ _ s16 (e13.trans (e14.trans g16.view))
theorem ok_l_one_more (T : Txt K mg) (F : FnAt K "_law_one_more" "_law_one_more" s_l_one_more (He.ga K "_law_one_more")) (G_l_next : Ok P w K mg base CX0 1 (He.ga K "_law_next") ["_law_draw", "_law_many"] (sp_l_next K)) (G_l_pick : Ok P w K mg base CX0 2 (He.ga K "_law_pick") ["_law_draw", "_law_some_here"] (sp_l_pick K)) (GX_Seen__init : Ok P w K mg base (L2.CX P w) 3 (He.ma K (He.ga K "Seen") "__init__") ["self", "messages"] (fun vs H Q E => sp_Seen__init K vs H Q E ∨ spb_Seen__init K vs H Q E)) (GX_Seen_ends : Ok P w K mg base (L2.CX P w) 4 (He.ma K (He.ga K "Seen") "ends") ["self", "letter", "moment"] (fun vs H Q E => sp_Seen_ends K vs H Q E ∨ spb_Seen_ends K vs H Q E)) (GX_Seen_example : Ok P w K mg base (L2.CX P w) 5 (He.ma K (He.ga K "Seen") "example") ["self", "letter", "moment", "end"] (fun vs H Q E => sp_Seen_example K vs H Q E ∨ spb_Seen_example K vs H Q E)) (G_Timetable__getitem : Ok P w K mg base CX0 2 (He.ma K (He.ga K "Timetable") "__getitem__") ["self", "index"] (sp_Timetable__getitem K)) (G_Link_end : Ok P w K mg base CX0 4 (He.ma K (He.ga K "Link") "end") ["self", "moment"] (sp_Link_end K)) (TB : LamX.TabB base mg (He.codeOf K ("_law_one_more", none)) (He.tabOf K (He.codeOf K ("_law_one_more", none)))) (F_l_word : FnAt K "_law_word" "_law_word" s_l_word (He.ga K "_law_word")) : Ok P w K mg base CX0 8 (He.ga K "_law_one_more") ["_law_draw", "_law_items", "_law_seen_here", "_law_letter"] (sp_l_one_more K) := by
  obtain ⟨fdX_Seen_ends, FX_Seen_ends, bX_Seen_ends, _⟩ := GX_Seen_ends.ok
  obtain ⟨fdX_Seen_example, FX_Seen_example, bX_Seen_example, _⟩ := GX_Seen_example.ok
  obtain ⟨fd_Timetable__getitem, F_Timetable__getitem, b_Timetable__getitem, _⟩ := G_Timetable__getitem.ok
  obtain ⟨fd_Link_end, F_Link_end, b_Link_end, _⟩ := G_Link_end.ok
  refine ok_ofL F sc_l_one_more (fun _ _ _ _ _ _ us hl => match us, hl with | [_, _, _, _], _ => rfl) (fun vs H Q E h => ?_) (fun cdv A outer s H vs Q E hc hr h => ?_)
  · obtain ⟨_, _, _, _, _, _, _, _, rfl, _⟩ := h
    rfl
  · obtain ⟨I, D, n, p, v, c, ws, ms, rfl, s, hlim, hp, hpp, hml, hv, nice, hcl, k⟩ := h
    refine ⟨_, (pss_cons (ps_set (i := 12) sc_l_one_more.nd rfl (Or.inr rfl) (pe_op op_sub (pe_callC G_l_next (hr.mono (by decide)) T.g__law_next (pa_cons (pv 0) (pa_cons pe_int pa_nil))) pe_int))
      (pss_cons (ps_asg (pe_meth (pv 2) T.cl_Seen T.m_Seen_ends FX_Seen_ends (hr.mono (by decide)) bX_Seen_ends .nil passN (pa_cons (pv 3) (pa_cons (pv 12) pa_nil))) (pg_tup (by rfl) (pgs_cons (pg_name (i := 4) sc_l_one_more.nd rfl (Or.inl rfl)) (pgs_cons (pg_name (i := 5) sc_l_one_more.nd rfl (Or.inl rfl)) pgs_nil))))
      (pss_mid (ps_set (i := 6) sc_l_one_more.nd rfl (Or.inl rfl) (pe_ifExp (pt_cmpR op_ne (pv 5) pe_str (nomark _)) (pe_lst (pa_cons (pv 5) (pa_cons (pe_op op_add (pv 5) pe_int) pa_nil))) (pe_lst (pa_cons (pe_op op_add (pv 4) pe_int) pa_nil))))
      (pss_cons (ps_set (i := 11) sc_l_one_more.nd rfl (Or.inr rfl) (pe_callC G_l_pick (hr.mono (by decide)) T.g__law_pick (pa_cons (pv 0) (pa_cons (pe_op op_cat (pe_lst (pa_cons (pv 4) (pa_cons (pe_op op_add (pv 4) pe_int) (pa_cons (pe_op op_sub (pv 4) pe_int) pa_nil)))) (pv 6)) pa_nil))))
      (pss_mid (ps_set (i := 7) sc_l_one_more.nd rfl (Or.inl rfl) (pe_ix ix_tup (pe_told2 (Tb := TbL K) (e := (He.tabOf K (He.codeOf K ("_law_one_more", none)), "_law_one_more.<locals>.<lambda>")) (k := 5) (t := _) F_l_word sc_l_word T.g__law_word (fun _ => gives_l_word T rfl rfl) TB hc rfl (by simp [TbL]) T.tb_nd (hr.mono (by decide)) (LamX.lamS_by (show LamX.lamSB (defScope s_l_one_more) _ = true by decide +kernel)) (fun A outer s H E f c2 hr => (pe_makeX T.mk_Seen GX_Seen__init (hr.mono (by decide)) T.g_Seen passE (pa_cons (pe_op op_cat (pv 1) (pe_lst (pa_cons (pe_tup (pa_cons (pv 3) (pa_cons (pv 12) (pa_cons (pv 11) pa_nil)))) pa_nil))) pa_nil)))) pe_int (fun _ _ => rfl)))
      (pss_cons (ps_set (i := 8) sc_l_one_more.nd rfl (Or.inl rfl) (pe_and (pe_cmpR op_le (pv 4) (pv 11) (nomark _)) (pe_one (pe_or (pe_cmpR op_eq (pv 5) pe_str (nomark _)) (pe_one (pe_cmpR op_le (pv 11) (pv 5) (nomark _)))))))
      (pss_cons (ps_if (pt_cmpR op_ne (pe_cmpR op_eq (pv 7) pe_str (nomark _)) (pv 8) (nomark _)) (pss_one (ps_ret pe_bl)) pss_nil)
      (pss_cons (ps_set (i := 9) sc_l_one_more.nd rfl (Or.inl rfl) (pe_meth (pv 2) T.cl_Seen T.m_Seen_example FX_Seen_example (hr.mono (by decide)) bX_Seen_example .nil passN (pa_cons (pv 3) (pa_cons (pv 12) (pa_cons (pv 4) pa_nil)))))
      (pss_cons (ps_set (i := 10) sc_l_one_more.nd rfl (Or.inl rfl) (pe_makeX T.mk_Seen GX_Seen__init (hr.mono (by decide)) T.g_Seen passN (pa_cons (pe_op op_cat (pv 1) (pe_lst (pa_cons (pe_tup (pa_cons (pv 3) (pa_cons (pv 12) (pa_cons (pe_meth (pe_getO T.m_Timetable___getitem__ G_Timetable__getitem (hr.mono (by decide)) pass0 (pv 9) (pv 3)) T.cl_Link T.m_Link_end F_Link_end (hr.mono (by decide)) b_Link_end .nil pass0 (pa_cons (pv 12) pa_nil)) pa_nil)))) pa_nil))) pa_nil)))
      (pss_one (ps_ret (pe_cmpR (op_eqD hr.units) (pe_meth (pv 10) T.cl_Seen T.m_Seen_ends FX_Seen_ends (hr.mono (by decide)) bX_Seen_ends .nil passN (pa_cons (pv 3) (pa_cons (pv 12) pa_nil))) (pe_tup (pa_cons (pv 4) (pa_cons (pv 4) pa_nil))) (nomark _))))))))))))), ?_⟩
    obtain ⟨xs, dx, tx, wx, rfl, hx, hxu, hxp⟩ := id hv
    have hwl := Nw.Paired.len hpp
    have hfit := nice_fit nice c
    refine ⟨_, rfl, I, D, n, 24, rfl, s.drw, by decide, by decide, by omega, fun z H1 hz0 hz1 g1 d1 => ⟨_, _, rfl, rfl, ?_⟩⟩
    have s1 := s.draw g1 d1
    dsimp only
    generalize z - 12 = t
    clear hz0 hz1 g1 d1 s
    refine ⟨_, rfl, xs, dx, _, rfl, s1.sub _ _ hx, rfl, _, rfl, _, rfl, .inr ⟨I, .ref xs, _, _, ms, rfl, hv, by omega, s1.sub, .inl ⟨c, .num t, rfl, hcl.1, hcl.2, rfl, fun w1 I2 H2 g2 hw1 => ?_⟩⟩⟩
    obtain ⟨t2, rfl, ht2⟩ := hw1
    have s2 := s1.grow g2
    obtain ⟨lo, hlo⟩ : ∃ y, (endsF (ridesL ms c) (.num t)).1 = .num y := ⟨_, rfl⟩
    have hcan := least_can hfit hlo
    rw [hlo] at ht2
    refine ⟨t2, _, rfl, SqT.of (s2.sub _ _ ht2), rfl, _, _, rfl, _, _, rfl, rfl, ?_⟩
    have hhf : (endsF (ridesL ms c) (.num t)).2 ≠ .first := late_nf
    have hex : ∀ e, exF ms c t (.num e) = (decide (lo ≤ e) && highOk e (endsF (ridesL ms c) (.num t)).2) := fun e => by
      show (decide (placeM (endsF (ridesL ms c) (.num t)).1 ≤ e) && _) = _
      rw [hlo] <;> rfl
    have e2 := g2.view
    clear g2 s1
    refine ⟨fun σ' H' => ∃ (I' : Hp) (q : Addr) (es : List Int), σ' = [some (.ref D.d), some (.ref p), some (.ref xs), some (.str (sg c)), some (.int lo), some (endsF (ridesL ms c) (.num t)).2.v, some (.ref q), none, none, none, none, none, some (.int t)] ∧ LSt (TbL K) D (n + 1) I' H' ∧ Same I I' ∧ I' q = some (.lst (es.map V.int)) ∧ es.length ≤ 2, ?_, ?_⟩
    · refine ⟨_, rfl, Mom.scal (endsF (ridesL ms c) (.num t)).2 .last, !decide ((endsF (ridesL ms c) (.num t)).2 = .last), congrArg (fun b => V.bl (!b)) last_ne, ?_⟩
      rcases late_is (rs := ridesL ms c) (t := t) with ⟨h, hh⟩ | hh
      · rw [hh]
        refine iteT ⟨_, rfl, _, rfl, _, _, rfl, rfl, (by show 2 ≤ sizeLine; decide), fun q hq => ?_⟩
        have gq : Grow No I2 H2 (upd I2 q (.lst [.int h, .int (h + 1)])) (upd H2 q (.lst [.int h, .int (h + 1)])) := Grow.new s2.sub hq
        exact ⟨_, q, [h, h + 1], rfl, s2.grow gq, e2.trans gq.view, upd_same, Nat.le_refl 2⟩
      · rw [hh]
        refine iteF ⟨_, rfl, _, _, rfl, rfl, (by show 1 ≤ sizeLine; decide), fun q hq => ?_⟩
        have gq : Grow No I2 H2 (upd I2 q (.lst [.int (lo + 9)])) (upd H2 q (.lst [.int (lo + 9)])) := Grow.new s2.sub hq
        exact ⟨_, q, [lo + 9], rfl, s2.grow gq, e2.trans gq.view, upd_same, Nat.le_succ 1⟩
    rintro σ H3 ⟨I3, q, es, rfl, s3, e3, hq3, hes⟩
    clear s2 e2 ht2
    refine ⟨_, rfl, _, rfl, _, rfl, _, _, rfl, rfl, _, rfl, _, _, rfl, rfl, (by show 3 ≤ sizeLine; decide), fun q1 hq1 => ⟨_, rfl, q1, q, _, _, rfl, rfl, upd_same, by rw [upd_ne (ne_of_none (s3.sub _ _ hq3) hq1)]; exact s3.sub _ _ hq3, by rw [List.length_map, sizeLine_eq]; simp only [List.length_cons, List.length_nil]; omega, fun r hr => ?_⟩⟩
    have g4 : Grow No I3 H3 I3 (upd (upd H3 q1 (.lst [.int lo, .int (lo + 1), .int (lo - 1)])) r (.lst ([.int lo, .int (lo + 1), .int (lo - 1)] ++ es.map V.int))) := (Grow.mine (T := No) (o := .lst [.int lo, .int (lo + 1), .int (lo - 1)]) s3.sub hq1).trans (Grow.mine (s3.sub.free hq1 |> fun _ => (Grow.mine (T := No) (o := .lst [.int lo, .int (lo + 1), .int (lo - 1)]) s3.sub hq1).sub) hr)
    have s4 := s3.grow g4
    have hr4 : upd (upd H3 q1 (.lst [.int lo, .int (lo + 1), .int (lo - 1)])) r (.lst ([.int lo, .int (lo + 1), .int (lo - 1)] ++ es.map V.int)) r = some (.lst ([.int lo, .int (lo + 1), .int (lo - 1)] ++ es.map V.int)) := upd_same
    have hnr : ¬ TD D r := (s3.grow (Grow.mine (T := No) (o := .lst [.int lo, .int (lo + 1), .int (lo - 1)]) s3.sub hq1)).drw.not hr
    generalize upd (upd H3 q1 (.lst [.int lo, .int (lo + 1), .int (lo - 1)])) r (.lst ([.int lo, .int (lo + 1), .int (lo - 1)] ++ es.map V.int)) = H4 at s4 hr4 ⊢
    refine ⟨I3, D, n + 1, _, rfl, s4.drw, by omega, .inl ⟨r, _, rfl, hnr, hr4, by simp, by simp only [List.length_append, List.length_map, List.length_cons, List.length_nil]; omega, fun j y H5 hy g5 d5 => ?_⟩⟩
    obtain ⟨e, rfl⟩ : ∃ e : Int, y = .int e := by
      rcases List.mem_append.mp (List.mem_of_getElem? hy) with z | z
      · simp only [List.mem_cons, List.not_mem_nil, or_false] at z
        rcases z with rfl | rfl | rfl <;> exact ⟨_, rfl⟩
      · obtain ⟨x, _, rfl⟩ := List.mem_map.mp z
        exact ⟨_, rfl⟩
    have s5 := s4.draw g5 d5
    clear hy g5 d5 hr4 hnr s4 g4 hr hq1
    have hp3 := e3 _ _ hp
    have hx3 := e3 _ _ hx
    have hpp3 : Paired (isMs I3) ws ms := Paired.mono' (fun _ _ z => z.up e3) hpp
    have hv3 := hv.up e3
    have hlm : ∀ x : Int, ∀ m ∈ ms ++ [((c, t, x) : Ms)], 97 ≤ m.1 ∧ m.1 ≤ 100 := fun x m hm => by
      rcases List.mem_append.mp hm with hm | hm
      · exact ⟨(nice.1 m hm).1, (nice.1 m hm).2.1⟩
      · rw [List.mem_singleton.mp hm]
        exact hcl
    have hll : ∀ x : Int, (ms ++ [((c, t, x) : Ms)]).length ≤ 50 := fun x => by rw [List.length_append, List.length_singleton]; omega
    refine ⟨fun σ' H' => ∃ (I' : Hp), σ' = [some (.ref D.d), some (.ref p), some (.ref xs), some (.str (sg c)), some (.int lo), some (endsF (ridesL ms c) (.num t)).2.v, some (.ref q), some (.str (if exF ms c t (.num e) = true then "" else "clash")), none, none, none, some (.int e), some (.int t)] ∧ LSt (TbL K) D (n + 2) I' H' ∧ Same I3 I', ?_, ?_⟩
    · obtain ⟨o, hdue⟩ := due_ex ((ms ++ [((c, t, e) : Ms)]).map msD)
      have hns := due_noSeen (hlm e) (hll e) hdue
      refine ⟨s5.tabs, fun HX xX tX => ?_⟩
      have sX := s5.ext xX tX
      refine ⟨_, rfl, _, rfl, _, rfl, _, rfl, (by show 3 ≤ sizeLine; decide), fun u hu => ⟨(by show 1 ≤ sizeLine; decide), fun q6 hq6 => ?_⟩⟩
      have gu : Grow No I3 HX (upd I3 u (.tup [.str (sg c), .int t, .int e])) (upd HX u (.tup [.str (sg c), .int t, .int e])) := Grow.new sX.sub hu
      have gq : Grow No (upd I3 u (.tup [.str (sg c), .int t, .int e])) (upd HX u (.tup [.str (sg c), .int t, .int e])) (upd I3 u (.tup [.str (sg c), .int t, .int e])) (upd (upd HX u (.tup [.str (sg c), .int t, .int e])) q6 (.lst [.ref u])) := Grow.mine gu.sub hq6
      refine ⟨p, q6, ws, [.ref u], rfl, rfl, gq.sub _ _ (gu.view _ _ hp3), upd_same, by rw [sizeLine_eq]; simp only [List.length_singleton]; omega, fun r6 hr6 => ?_⟩
      have gr : Grow No (upd I3 u (.tup [.str (sg c), .int t, .int e])) (upd (upd HX u (.tup [.str (sg c), .int t, .int e])) q6 (.lst [.ref u])) (upd (upd I3 u (.tup [.str (sg c), .int t, .int e])) r6 (.lst (ws ++ [.ref u]))) (upd (upd (upd HX u (.tup [.str (sg c), .int t, .int e])) q6 (.lst [.ref u])) r6 (.lst (ws ++ [.ref u]))) := Grow.new gq.sub hr6
      have G6 := gu.trans (gq.trans gr)
      have hu6 := gr.view _ _ (upd_same : upd I3 u (.tup [.str (sg c), .int t, .int e]) u = some (.tup [.str (sg c), .int t, .int e]))
      have hr6' : upd (upd I3 u (.tup [.str (sg c), .int t, .int e])) r6 (.lst (ws ++ [.ref u])) r6 = some (.lst (ws ++ [.ref u])) := upd_same
      revert G6 hu6 hr6'
      generalize upd (upd I3 u (.tup [.str (sg c), .int t, .int e])) r6 (.lst (ws ++ [.ref u])) = I6
      generalize upd (upd (upd HX u (.tup [.str (sg c), .int t, .int e])) q6 (.lst [.ref u])) r6 (.lst (ws ++ [.ref u])) = H6
      intro G6 hu6 hr6'
      clear gr gq gu hu hq6 hr6
      have s6 := sX.grow G6
      have hpp6 := ms_snoc (m := (c, t, e)) hpp3 G6.view hu6
      refine fun x dx2 hx2 hdx2 ne2 => .inr (told_init hx2 hdx2 ne2 s6.sub hr6' hpp6 (by have := hll e; omega) hdue hns (fun ho I9 H9 g9 => ⟨rfl, fun u9 hu9 => ?_⟩) fun i j ho I9 H9 dx9 g9 h9 => ⟨T.em_Clash_OrderError, I9, g9.sub, dx9, _, _, rfl, rfl, h9, fun t2 t3 H10 g10 h2 h3 => ?_⟩)
      · have hE : exF ms c t (.num e) = true := (more_nice nice hcl).mp (fine_nice (hlm e) (by rw [ho] at hdue; exact hdue))
        have gu : Grow No I9 H9 I9 (upd H9 u9 (.tup [.str "", .non])) := Grow.mine g9.sub hu9
        refine ⟨u9, _, 0, _, rfl, rfl, SqT.of upd_same, at20, I9, ?_, s6.grow (g9.trans gu), G6.view.trans g9.view⟩
        rw [if_pos hE] <;> rfl
      · have hE : ¬ exF ms c t (.num e) = true := fun z => by
          have hf := nice_fine ((more_nice nice hcl).mpr z) (hll e)
          rw [ho] at hdue
          exact hf.2 i j hdue.2.1 hdue.2.2.2.1
        refine ⟨t3, _, 0, _, rfl, rfl, SqT.of h3, at20, I9, ?_, s6.grow (g9.trans g10), G6.view.trans g9.view⟩
        rw [if_neg hE] <;> rfl
    rintro σ H6 ⟨I6, rfl, s6, e6⟩
    refine btw_read rfl rfl rfl hhf ?_
    rw [← hex]
    refine ⟨_, rfl, rfl, _, rfl, rfl, false, congrArg V.bl (word_eq _), iteF ?_⟩
    have e6 : Same I I6 := e3.trans e6
    clear s5 hp3 hx3 hpp3 hv3 hq3 s3 e3 hes
    refine ⟨_, rfl, xs, dx, _, rfl, s6.sub _ _ (e6 _ _ hx), rfl, _, rfl, _, rfl, _, rfl, .inr ⟨I6, .ref xs, _, _, _, ms, rfl, hv.up e6, by omega, s6.sub, .inl ⟨c, t, .num lo, rfl, hcl.1, hcl.2, rfl, rfl, (fun d => nice_fit nice d), by omega, (fun z => by rw [hcan.1] at z; cases z), fun _ v' tb I7 H7 g7 hT hE => ?_⟩⟩⟩
    have s7 := s6.grow g7
    have e7 := e6.trans g7.view
    clear g7 s6 e6
    obtain ⟨ta, tdx, td, kvs, rfl, hta, htd, hlk⟩ := id hT
    have hkeys := linksP.keys hlk
    obtain ⟨hck, hknd⟩ := ex_key (ms := ms) hcl
    rw [← hE.1] at hck hknd
    obtain ⟨pq, hpq, hpc⟩ := List.mem_map.mp hck
    obtain ⟨j, hj⟩ := List.getElem?_of_mem hpq
    obtain ⟨lk, hlu, hlink⟩ := links_at hlk hj
    have hlook := look_at (by rw [hkeys]; exact hknd) hlu
    have hneed := hE.2 pq hpq
    rw [hpc] at hlook hneed
    have hexr : exR ms c t (.num lo) c = ridesL ms c ++ [(t, lo)] := if_pos rfl
    rw [hexr] at hneed
    have hend : endedL pq.2 (.num t) = .num lo := by
      rw [ended_is hneed, least_end hfit hlo]
    have hfew : pq.2.length ≤ 100000 := by
      have h1 := hneed.few
      have h2 := rides_len ms c
      rw [List.length_append, List.length_singleton] at h1
      omega
    obtain ⟨la, ldx, lt, rfl, hla, hlU⟩ := id hlink
    have hp7 := e7 _ _ hp
    have hpp7 : Paired (isMs I7) ws ms := Paired.mono' (fun _ _ z => z.up e7) hpp
    refine ⟨_, rfl, _, rfl, _, rfl, _, rfl, _, rfl, ta, tdx, _, rfl, s7.sub _ _ hta, ta, tdx, td, kvs, c, _, rfl, s7.sub _ _ hta, s7.sub _ _ htd, hlook, la, ldx, _, rfl, s7.sub _ _ hla, rfl, _, rfl, I7, .ref la, pq.2, .num t, rfl, hlink, hfew, s7.sub, fun I8 H8 g8 => ?_⟩
    rw [hend]
    have s8 := s7.grow g8
    have hp8 := g8.view _ _ hp7
    have hpp8 : Paired (isMs I8) ws ms := Paired.mono' (fun _ _ z => z.up g8.view) hpp7
    have e8 := e7.trans g8.view
    clear hT hta htd hlk hlu hlink hlook hla hlU hp7 hpp7 g8 s7 e7
    refine ⟨(by show 3 ≤ sizeLine; decide), fun u hu => ⟨(by show 1 ≤ sizeLine; decide), fun q6 hq6 => ?_⟩⟩
    have gu : Grow No I8 H8 (upd I8 u (.tup [.str (sg c), .int t, (Mom.num lo).v])) (upd H8 u (.tup [.str (sg c), .int t, (Mom.num lo).v])) := Grow.new s8.sub hu
    have gq : Grow No (upd I8 u (.tup [.str (sg c), .int t, (Mom.num lo).v])) (upd H8 u (.tup [.str (sg c), .int t, (Mom.num lo).v])) (upd I8 u (.tup [.str (sg c), .int t, (Mom.num lo).v])) (upd (upd H8 u (.tup [.str (sg c), .int t, (Mom.num lo).v])) q6 (.lst [.ref u])) := Grow.mine gu.sub hq6
    refine ⟨p, q6, ws, [.ref u], rfl, rfl, gq.sub _ _ (gu.view _ _ hp8), upd_same, by rw [sizeLine_eq]; simp only [List.length_singleton]; omega, fun r6 hr6 => ?_⟩
    have gr : Grow No (upd I8 u (.tup [.str (sg c), .int t, (Mom.num lo).v])) (upd (upd H8 u (.tup [.str (sg c), .int t, (Mom.num lo).v])) q6 (.lst [.ref u])) (upd (upd I8 u (.tup [.str (sg c), .int t, (Mom.num lo).v])) r6 (.lst (ws ++ [.ref u]))) (upd (upd (upd H8 u (.tup [.str (sg c), .int t, (Mom.num lo).v])) q6 (.lst [.ref u])) r6 (.lst (ws ++ [.ref u]))) := Grow.new gq.sub hr6
    have G9 := gu.trans (gq.trans gr)
    have hu9 := gr.view _ _ (upd_same : upd I8 u (.tup [.str (sg c), .int t, (Mom.num lo).v]) u = some (.tup [.str (sg c), .int t, (Mom.num lo).v]))
    have hr9 : upd (upd I8 u (.tup [.str (sg c), .int t, (Mom.num lo).v])) r6 (.lst (ws ++ [.ref u])) r6 = some (.lst (ws ++ [.ref u])) := upd_same
    revert G9 hu9 hr9
    generalize upd (upd I8 u (.tup [.str (sg c), .int t, (Mom.num lo).v])) r6 (.lst (ws ++ [.ref u])) = I9
    generalize upd (upd (upd H8 u (.tup [.str (sg c), .int t, (Mom.num lo).v])) q6 (.lst [.ref u])) r6 (.lst (ws ++ [.ref u])) = H9
    intro G9 hu9 hr9
    clear gr gq gu hu hq6 hr6
    have s9 := s8.grow G9
    have hpp9 := ms_snoc (m := (c, t, lo)) hpp8 G9.view hu9
    have e9 := e8.trans G9.view
    have hfine := nice_fine ((more_nice nice hcl).mpr hcan.1) (hll lo)
    refine fun x dx2 hx2 hdx2 ne2 => .inr (make_seen hx2 hdx2 ne2 s9.sub hr9 hpp9 hfine fun I10 H10 g10 hs10 => ⟨rfl, ?_⟩)
    clear hx2 hdx2 ne2
    have s10 := s9.grow g10
    obtain ⟨_, dx3, tt3, us3, ez, hx10, _, _⟩ := id hs10
    cases ez
    refine ⟨_, rfl, x, dx3, _, rfl, s10.sub _ _ hx10, rfl, _, rfl, _, rfl, .inr ⟨I10, .ref x, _, _, _, rfl, hs10, by have := hll lo; omega, s10.sub, .inl ⟨c, .num t, rfl, hcl.1, hcl.2, rfl, fun w1 I11 H11 g11 hw1 => ?_⟩⟩⟩
    rw [rides_more, least_end hfit hlo] at hw1
    have s11 := s10.grow g11
    refine ⟨_, rfl, _, rfl, (by show 2 ≤ sizeLine; decide), fun t11 ht11 => ?_⟩
    have g12 : Grow No I11 H11 (upd I11 t11 (.tup [.int lo, .int lo])) (upd H11 t11 (.tup [.int lo, .int lo])) := Grow.new s11.sub ht11
    have s12 := s11.grow g12
    exact eqD_mm (p := (.num lo, .num lo)) s12.sub (hw1.up g12.view) ⟨t11, rfl, upd_same⟩ (k _ _ s12 (e9.trans (g10.view.trans (g11.view.trans g12.view))))
end
end Nw

namespace Nw
open PySem PySem.Spec PyProof.Rows L2
/-! ### the law -/
theorem ps_perm {I I' : Hp} {ps ps' : List (V × Ms)} (h : ∀ q ∈ ps, isMs I q.1 q.2) (pm : ∀ q ∈ ps', q ∈ ps) (e : Same I I') : Paired (isMs I') (ps'.map Prod.fst) (ps'.map Prod.snd) := ps_paired fun q hq => (h q (pm q hq)).up e
theorem b39_small {z : Int} (h : z.natAbs ≤ 1000) : z.natAbs + 1 ≤ b39 := by
  unfold b39
  omega
def sp_law (K : PySem.W.Frag) : Sp := fun vs H Q _ => ∃ (I : Hp) (a : Addr) (ns : List Int), vs = [.ref a] ∧ Same I H ∧ noTb I ∧ LamX.Tabs (TbL K) H ∧ SqL K I a (ns.map V.int) ∧ ns.length ≤ 63 ∧ ∀ H', Q (.bl true) H'
section
variable {P : Program} {w : World} {K : PySem.W.Frag} {mg : Str → Option Value} {base : Heap}
theorem ok_law (T : Txt K mg) {fd : FuncData} (F : FunD K "law" "law" (defArgs s_law) (defBody s_law) (defScope s_law) [] [] (He.ga K "law") fd) (G_l_begun : Ok P w K mg base CX0 1 (He.ga K "_law_begun") ["_law_script"] (sp_l_begun K)) (G_l_next : Ok P w K mg base CX0 1 (He.ga K "_law_next") ["_law_draw", "_law_many"] (sp_l_next K)) (G_l_pick : Ok P w K mg base CX0 2 (He.ga K "_law_pick") ["_law_draw", "_law_some_here"] (sp_l_pick K)) (G_l_some : Ok P w K mg base CX0 3 (He.ga K "_law_some") ["_law_draw", "_law_many"] (sp_l_some K)) (G_l_seen : Ok P w K mg base CX0 4 (He.ga K "_law_seen") ["_law_draw", "_law_letters", "_law_many", "_law_wide"] (sp_l_seen K)) (G_l_shuffled : Ok P w K mg base CX0 2 (He.ga K "_law_shuffled") ["_law_draw", "_law_some_here"] (sp_l_shuffled K)) (G_l_all_within : Ok P w K mg base CX0 6 (He.ga K "_law_all_within") ["_law_draw", "_law_lines", "_law_letters", "_law_seen_here", "_law_less"] (sp_l_all_within K)) (G_l_one_more : Ok P w K mg base CX0 8 (He.ga K "_law_one_more") ["_law_draw", "_law_items", "_law_seen_here", "_law_letter"] (sp_l_one_more K)) (G_l_turned_right : Ok P w K mg base CX0 8 (He.ga K "_law_turned_right") ["_law_items", "_law_seen_here", "_law_letter", "_law_moment_here"] (sp_l_turned_right K)) (GX_Seen__init : Ok P w K mg base (L2.CX P w) 3 (He.ma K (He.ga K "Seen") "__init__") ["self", "messages"] (fun vs H Q E => sp_Seen__init K vs H Q E ∨ spb_Seen__init K vs H Q E)) (GX_Seen_ends : Ok P w K mg base (L2.CX P w) 4 (He.ma K (He.ga K "Seen") "ends") ["self", "letter", "moment"] (fun vs H Q E => sp_Seen_ends K vs H Q E ∨ spb_Seen_ends K vs H Q E)) : FnOk P w K mg base CX0 10 (He.ga K "law") fd ["_law_script"] (sp_law K) := by
  obtain ⟨fdX_Seen_ends, FX_Seen_ends, bX_Seen_ends, _⟩ := GX_Seen_ends.ok
  refine okd_of F sc_law (fun vs H Q E h => ?_) (fun cdv A outer s H vs Q E hr h => ?_)
  · obtain ⟨_, _, _, rfl, _⟩ := h
    rfl
  · obtain ⟨I, a, ns, rfl, sb, hnt, hTb, hS, hl, k⟩ := h
    refine ⟨_, (pss_cons (ps_set (i := 1) sc_law.nd rfl (Or.inl rfl) (pe_callC G_l_begun (hr.mono (by decide)) T.g__law_begun (pa_cons (pv 0) pa_nil)))
      (pss_cons (ps_for PassesOwn.never rfl (pi_range1 rfl T.b_range (pa_cons (pe_op op_add pe_int (pe_callB (call_min2 rfl) (by rfl) T.b_min (by decide +kernel) (pa_cons (pe_callB call_len_seq (by rfl) T.b_len (by decide +kernel) (pa_cons (pv 0) pa_nil)) (pa_cons pe_int pa_nil)))) pa_nil)) (pg_name (i := 2) sc_law.nd rfl (Or.inl rfl)) (pss_cons (ps_set (i := 3) sc_law.nd rfl (Or.inl rfl) (pe_callC G_l_some (hr.mono (by decide)) T.g__law_some (pa_cons (pv 1) (pa_cons pe_int pa_nil))))
      (pss_cons (ps_asg (pe_callC G_l_seen (hr.mono (by decide)) T.g__law_seen (pa_cons (pv 1) (pa_cons (pv 3) (pa_cons pe_int (pa_cons pe_int pa_nil))))) (pg_tup (by rfl) (pgs_cons (pg_name (i := 4) sc_law.nd rfl (Or.inl rfl)) (pgs_cons (pg_name (i := 5) sc_law.nd rfl (Or.inl rfl)) pgs_nil))))
      (pss_cons (ps_par (i := 6) (j := 7) (by rfl) sc_law.nd rfl rfl (by decide) rfl rfl (pa_cons (pe_makeX T.mk_Seen GX_Seen__init (hr.mono (by decide)) T.g_Seen passN (pa_cons (pv 4) pa_nil)) (pa_cons (pe_makeX T.mk_Seen GX_Seen__init (hr.mono (by decide)) T.g_Seen passN (pa_cons (pe_slice sl_list (pe_callC G_l_shuffled (hr.mono (by decide)) T.g__law_shuffled (pa_cons (pv 1) (pa_cons (pv 4) pa_nil))) po_none (po_some (pe_callC G_l_next (hr.mono (by decide)) T.g__law_next (pa_cons (pv 1) (pa_cons (pe_op op_add (pe_callB call_len_seq (by rfl) T.b_len (by decide +kernel) (pa_cons (pv 4) pa_nil)) pe_int) pa_nil))))) pa_nil)) pa_nil)) (by rfl))
      (pss_one (ps_for PassesOwn.never rfl (pi_range1 rfl T.b_range (pa_cons pe_int pa_nil)) (pg_name (i := 8) sc_law.nd rfl (Or.inl rfl)) (pss_cons (ps_if (pt_not (pt_val (pe_callC G_l_all_within (hr.mono (by decide)) T.g__law_all_within (pa_cons (pv 1) (pa_cons (pv 5) (pa_cons (pv 3) (pa_cons (pv 6) (pa_cons (pv 7) pa_nil)))))))) (pss_one (ps_ret pe_bl)) pss_nil)
      (pss_cons (ps_if (pt_not (pt_val (pe_callC G_l_one_more (hr.mono (by decide)) T.g__law_one_more (pa_cons (pv 1) (pa_cons (pv 4) (pa_cons (pv 6) (pa_cons (pe_callC G_l_pick (hr.mono (by decide)) T.g__law_pick (pa_cons (pv 1) (pa_cons (pv 3) pa_nil))) pa_nil))))))) (pss_one (ps_ret pe_bl)) pss_nil)
      (pss_cons (ps_par (i := 9) (j := 10) (by rfl) sc_law.nd rfl rfl (by decide) rfl rfl (pa_cons (pe_callC G_l_pick (hr.mono (by decide)) T.g__law_pick (pa_cons (pv 1) (pa_cons (pv 3) pa_nil))) (pa_cons (pe_op op_sub (pe_callC G_l_next (hr.mono (by decide)) T.g__law_next (pa_cons (pv 1) (pa_cons pe_int pa_nil))) pe_int) pa_nil)) (by rfl))
      (pss_cons (ps_if (pt_not (pt_val (pe_callC G_l_turned_right (hr.mono (by decide)) T.g__law_turned_right (pa_cons (pv 4) (pa_cons (pv 6) (pa_cons (pv 9) (pa_cons (pv 10) pa_nil))))))) (pss_one (ps_ret pe_bl)) pss_nil)
      (pss_one (ps_if (pt_cmpR (op_neD hr.units) (pe_meth (pe_makeX T.mk_Seen GX_Seen__init (hr.mono (by decide)) T.g_Seen passN (pa_cons (pe_callC G_l_shuffled (hr.mono (by decide)) T.g__law_shuffled (pa_cons (pv 1) (pa_cons (pv 4) pa_nil))) pa_nil)) T.cl_Seen T.m_Seen_ends FX_Seen_ends (hr.mono (by decide)) bX_Seen_ends .nil passN (pa_cons (pv 9) (pa_cons (pv 10) pa_nil))) (pe_meth (pv 6) T.cl_Seen T.m_Seen_ends FX_Seen_ends (hr.mono (by decide)) bX_Seen_ends .nil passN (pa_cons (pv 9) (pa_cons (pv 10) pa_nil))) (nomark _)) (pss_one (ps_ret pe_bl)) pss_nil))))))))))))
      (pss_one (ps_ret pe_bl)))), ?_⟩
    refine ⟨_, rfl, I, a, ns, rfl, sb, hS, hl, fun D I1 H1 g1 d1 => ?_⟩
    have hlim : lim = 1099511627776 := rfl
    have s1 : LSt (TbL K) D 0 I1 H1 := ⟨d1, g1.noTb hnt, tabs_keep hTb g1 fun _ _ _ _ z => z⟩
    refine ⟨_, rfl, a, _, rfl, .inl (sqL_up hS (g1.view.trans g1.sub)), _, _, rfl, _, _, rfl, rfl, 2 + min ns.length 5, ?_, by omega, by omega, ?_⟩
    · rw [List.length_map]
      show [V.int (2 + if (5 : Int) < (ns.length : Int) then (5 : Int) else (ns.length : Int))] = _
      have e : (2 + if (5 : Int) < (ns.length : Int) then (5 : Int) else (ns.length : Int)) = (2 : Int) + ((min ns.length 5 : Nat) : Int) := by split <;> omega
      rw [e]
    refine for_it (walk_range (lo := 0) (n := 2 + min ns.length 5)) (fun i σ H' => ∃ (I' : Hp) (v2 v3 v4 v5 v6 v7 v8 v9 v10 : Option V), σ = [some (.ref a), some (.ref D.d), v2, v3, v4, v5, v6, v7, v8, v9, v10] ∧ LSt (TbL K) D (700 * i) I' H')
      ⟨I1, none, none, none, none, none, none, none, none, none, rfl, s1⟩ (fun _ _ _ _ _ => trivial) ?_ ?_
    · rintro i x σ Hz H2 hi ⟨I2, v2, v3, v4, v5, v6, v7, v8, v9, v10, rfl, s2⟩ ⟨rfl, rfl⟩
      have d2 := s2.drw
      refine ⟨_, rfl, I2, D, 700 * i, 4, rfl, d2, by omega, by decide, by decide, fun l I3 H3 hnd hl97 hne hl4 g3 d3 => ?_⟩
      have s3 := s2.draw g3 d3
      refine ⟨_, rfl, _, rfl, I3, D, _, l, 8, 9, rfl, d3, by omega, by omega, hnd, hl97, by decide, by decide, by decide, fun ps R t p d ks I4 H4 dn hps hR hp4 ht4 od4 hk4 g4 d4 => ?_⟩
      refine ⟨t, _, rfl, SqT.of ht4, rfl, _, _, rfl, _, _, rfl, rfl, ?_⟩
      have hdp : d ≠ p := fun z => by rw [← z, od4.ni] at hp4; cases hp4
      have s5 := s3.draw (g4.give od4) (d4.view od4.nt od4.at_)
      have e5 : Same I4 (upd I4 d (.dK (ks.map kvS))) := Same.up od4.ni
      have hln : isLines (upd I4 d (.dK (ks.map kvS))) (.ref d) (l.map fun c => ⟨c, R c⟩) := ⟨d, ks, rfl, upd_same, hk4.up e5⟩
      have hp5 := e5 _ _ hp4
      have his : ∀ q ∈ ps, isMs (upd I4 d (.dK (ks.map kvS))) q.1 q.2 := fun q hq => (dn.is q hq).up e5
      generalize upd I4 d (.dK (ks.map kvS)) = I5 at s5 hln hp5 his
      have hps : ps.length ≤ 32 := by have := Nat.mul_le_mul_left 8 hl4; omega
      have nice := nice_drawn0 dn hl97
      have hline := drawn_line0 dn
      have hbA : ∀ m ∈ ps.map Prod.snd, m.2.1.natAbs + 1 ≤ b39 ∧ m.2.2.natAbs + 1 ≤ b39 := fun m hm => by
        obtain ⟨q, hq, rfl⟩ := List.mem_map.mp hm
        exact ⟨b39_small (dn.small q hq).1, b39_small (dn.small q hq).2⟩
      have hRl : ∀ c ∈ l, (R c).length ≤ 1000 := fun c hc => by have := (hR c hc).1; omega
      have hbR : ∀ c ∈ l, ∀ q ∈ R c, q.1.natAbs + 1 ≤ b39 ∧ q.2.natAbs ≤ b39 := fun c hc q hq => by
        have h := (hR c hc).2 q hq
        exact ⟨b39_small h.1, by have := b39_small h.2; omega⟩
      have hpr : Paired (isMs I5) (ps.map Prod.fst) (ps.map Prod.snd) := ps_paired his
      have hml : (ps.map Prod.snd).length ≤ 32 := by rw [List.length_map]; exact hps
      clear dn hR hp4 ht4 od4 hk4 g4 d4 e5 hdp s3 s2 d2 g3 d3
      -- what was seen, and less
      refine ⟨_, rfl, fun xs dx hx hdx ne => .inr (make_seen (K := K) hx hdx ne s5.sub hp5 hpr (nice_fine nice (by omega)) fun I6 H6 g6 hs6 => ⟨rfl, ?_⟩)⟩
      clear hx hdx ne
      have s6 := s5.grow g6
      have hp6 := g6.view _ _ hp5
      have his6 : ∀ q ∈ ps, isMs I6 q.1 q.2 := fun q hq => (his q hq).up g6.view
      refine ⟨_, rfl, _, rfl, V × Ms, Prod.fst, I6, D, _, p, ps, rfl, s6.drw, by omega, by omega, SqL.of (s6.sub _ _ hp6), fun ps2 q2 I7 H7 pm7 g7 d7 hq7 => ?_⟩
      have s7 := s6.draw g7 d7
      refine ⟨_, rfl, _, rfl, p, _, rfl, .inl (SqL.of (s7.sub _ _ (g7.view _ _ hp6))), _, _, rfl, rfl, I7, D, _, ps.length + 1, ?_, s7.drw, by omega, by omega, by omega, fun r H8 hr0 hr1 g8 d8 => ⟨_, rfl, q2, _, rfl, SqL.of (g8.sub _ _ (g8.view _ _ hq7)), fun u hu => ?_⟩⟩
      · show [V.ref D.d, V.int (((ps.map Prod.fst).length : Int) + 1)] = [V.ref D.d, V.int ((ps.length + 1 : Nat) : Int)]
        rw [List.length_map] <;> rfl
      have s8 := s7.draw g8 d8
      have er : r = ((r.toNat : Nat) : Int) := by omega
      rw [er, cut_take, ← List.map_take]
      have hpm : ∀ q, q ∈ ps2 ↔ q ∈ ps := fun q => pm7.mem_iff
      have h3 : ∀ q ∈ ps2.take r.toNat, q ∈ ps := fun q hq => (hpm q).mp (List.mem_of_mem_take hq)
      have h3l : (ps2.take r.toNat).length ≤ 32 := by
        have := pm7.length_eq
        rw [List.length_take]
        omega
      generalize ps2.take r.toNat = ps3 at h3 h3l ⊢
      have gu : Grow No I7 H8 (upd I7 u (.lst (ps3.map Prod.fst))) (upd H8 u (.lst (ps3.map Prod.fst))) := Grow.new s8.sub hu
      have s9 := s8.grow gu
      have hu9 : upd I7 u (.lst (ps3.map Prod.fst)) u = some (.lst (ps3.map Prod.fst)) := upd_same
      have e69 := g7.view.trans gu.view
      generalize upd I7 u (.lst (ps3.map Prod.fst)) = I9 at s9 hu9 e69
      generalize upd H8 u (.lst (ps3.map Prod.fst)) = H9 at s9 ⊢
      clear gu hu s8 g8 d8 s7 g7 d7 hq7 hpm pm7
      have hsub : ∀ m ∈ ps3.map Prod.snd, m ∈ ps.map Prod.snd := fun m hm => by
        obtain ⟨q, hq, rfl⟩ := List.mem_map.mp hm
        exact List.mem_map_of_mem (h3 q hq)
      have h3m : (ps3.map Prod.snd).length ≤ 32 := by rw [List.length_map]; exact h3l
      refine fun ys dy hy hdy ne => .inr (make_seen (K := K) hy hdy ne s9.sub hu9 (ps_perm his6 h3 e69) (nice_fine (nice.sub hsub) (by omega)) fun I10 H10 g10 hs10 => ⟨rfl, ?_⟩)
      clear hy hdy ne
      have s10 := s9.grow g10
      have e610 := e69.trans g10.view
      refine ⟨_, _, rfl, ?_⟩
      have hsA := hs6.up e610
      have hp10 := e610 _ _ hp6
      have hln10 := hln.up (g6.view.trans e610)
      have hpr10 : Paired (isMs I10) (ps.map Prod.fst) (ps.map Prod.snd) := ps_paired fun q hq => (his6 q hq).up e610
      have his10 : ∀ q ∈ ps, isMs I10 q.1 q.2 := fun q hq => (his6 q hq).up e610
      clear hu9 e69 s9 g10 e610 hs6 hp6 his6 s6 g6 s5 hln hp5 his hpr h3 h3l
      have s11 := s10.mono (m := 700 * i + 240) (by omega)
      refine ⟨3, rfl, by decide, by decide, ?_⟩
      refine for_it (walk_range (lo := 0) (n := 3)) (fun j σ H' => ∃ (I' : Hp) (u8 u9 u10 : Option V), σ = [some (.ref a), some (.ref D.d), some (.int (0 + i)), some (.str (mk l)), some (.ref p), some (.ref d), some (.ref xs), some (.ref ys), u8, u9, u10] ∧ LSt (TbL K) D (700 * i + 240 + 110 * j) I' H' ∧ Same I10 I')
        ⟨I10, _, _, _, rfl, s11.mono (by omega), Same.refl _⟩ (fun _ _ _ _ _ => trivial) ?_ ?_
      · rintro j y σ Hj H12 hj ⟨I12, u8, u9, u10, rfl, s12, e12⟩ ⟨rfl, rfl⟩
        refine ⟨_, rfl, _, rfl, _, rfl, _, rfl, _, rfl, I12, D, _, d, l, .ref xs, .ref ys, R, ps.map Prod.snd, ps3.map Prod.snd, rfl, s12.drw, by omega, hne, hl4, hl97, hln10.up e12, hRl, hbR, hsA.up e12, hs10.up e12, by omega, by omega, hsub, hline, hbA, fun I13 H13 g13 d13 => ⟨_, rfl, iteF ?_⟩⟩
        have s13 := s12.draw g13 d13
        have e13 := e12.trans g13.view
        clear g13 d13 s12 e12
        refine ⟨_, rfl, _, rfl, _, rfl, _, rfl, _, rfl, I13, D, _, _, rfl, s13.drw, by omega, .inr ⟨l, rfl, hne, by omega, fun i1 c H14 hc g14 d14 => ?_⟩⟩
        have s14 := s13.draw g14 d14
        clear g14 d14 s13
        refine ⟨I13, D, _, p, .ref xs, c, _, _, rfl, s14, by omega, e13 _ _ hp10, Paired.mono' (fun _ _ z => z.up e13) hpr10, by omega, hsA.up e13, nice, hl97 c (List.mem_of_getElem? hc), fun I15 H15 s15 e15 => ⟨_, rfl, iteF ?_⟩⟩
        have e15 := e13.trans e15
        clear s14 hc e13
        refine ⟨_, rfl, _, rfl, I15, D, _, _, rfl, s15.drw, by omega, .inr ⟨l, rfl, hne, by omega, fun i1 c2 H16 hc g16 d16 => ?_⟩⟩
        have s16 := s15.draw g16 d16
        clear g16 d16 s15
        refine ⟨_, rfl, I15, D, _, 24, rfl, s16.drw, by decide, by decide, by omega, fun z H17 hz0 hz1 g17 d17 => ⟨_, _, rfl, rfl, ?_⟩⟩
        have s17 := s16.draw g17 d17
        clear g17 d17 s16
        refine ⟨_, _, rfl, ?_⟩
        refine ⟨_, rfl, _, rfl, _, rfl, _, rfl, I15, D, _, p, .ref xs, c2, z - 12, _, _, rfl, s17, e15 _ _ hp10, Paired.mono' (fun _ _ z => z.up e15) hpr10, by omega, hsA.up e15, nice, hl97 c2 (List.mem_of_getElem? hc), fun I18 H18 s18 e18 => ⟨_, rfl, iteF ?_⟩⟩
        have e18 := e15.trans e18
        have hc2 := hl97 c2 (List.mem_of_getElem? hc)
        clear s17 e15 hc
        refine ⟨_, rfl, _, rfl, V × Ms, Prod.fst, I18, D, _, p, ps, rfl, s18.drw, by omega, by omega, SqL.of (s18.sub _ _ (e18 _ _ hp10)), fun ps4 q4 I19 H19 pm g19 d19 hq19 => ?_⟩
        have s19 := s18.draw g19 d19
        have e19 := e18.trans g19.view
        have hpm : ∀ m, m ∈ ps4.map Prod.snd ↔ m ∈ ps.map Prod.snd := fun m => (pm.map Prod.snd).mem_iff
        have h4l : (ps4.map Prod.snd).length ≤ 32 := by rw [List.length_map, pm.length_eq]; exact hps
        refine fun zs dz hz hdz ne => .inr (make_seen (K := K) hz hdz ne s19.sub hq19 (ps_perm his10 (fun q hq => pm.mem_iff.mp hq) e19) (nice_fine (nice.sub fun m hm => (hpm m).mp hm) (by omega)) fun I20 H20 g20 hs20 => ⟨rfl, ?_⟩)
        clear hz hdz ne
        have s20 := s19.grow g20
        have e20 := e19.trans g20.view
        obtain ⟨_, dz2, tz, uz, ez, hz20, _, _⟩ := id hs20
        cases ez
        obtain ⟨_, dx2, tx2, ux2, ez, hx20, _, _⟩ := id (hsA.up e20)
        cases ez
        refine ⟨zs, dz2, _, rfl, s20.sub _ _ hz20, rfl, _, rfl, _, rfl, .inr ⟨I20, .ref zs, _, _, _, rfl, hs20, by omega, s20.sub, .inl ⟨c2, .num (z - 12), rfl, hc2.1, hc2.2, rfl, fun w1 I21 H21 g21 hw1 => ?_⟩⟩⟩
        rw [ends_perm hpm] at hw1
        have s21 := s20.grow g21
        refine ⟨_, rfl, xs, dx2, _, rfl, s21.sub _ _ (g21.view _ _ hx20), rfl, _, rfl, _, rfl, .inr ⟨I21, .ref xs, _, _, ps.map Prod.snd, rfl, hsA.up (e20.trans g21.view), by omega, s21.sub, .inl ⟨c2, .num (z - 12), rfl, hc2.1, hc2.2, rfl, fun w2 I22 H22 g22 hw2 => ?_⟩⟩⟩
        have s22 := s21.grow g22
        refine neD_mm s22.sub (hw1.up g22.view) hw2 ⟨false, rfl, iteF ?_⟩
        exact ⟨I22, _, _, _, rfl, s22.mono (by omega), e20.trans (g21.view.trans g22.view)⟩
      · rintro σ H12 ⟨I12, u8, u9, u10, rfl, s12, e12⟩
        exact ⟨I12, _, _, _, _, _, _, _, _, _, rfl, s12.mono (by omega)⟩
    · rintro σ H2 ⟨I2, v2, v3, v4, v5, v6, v7, v8, v9, v10, rfl, s2⟩
      exact k _
end
end Nw
namespace Nw
open PySem PySem.Spec PyProof.Rows L2
def d_NoSeen__init : He.DefD := ⟨("NoSeen", some "__init__"), "__init__", "NoSeen.__init__", defArgs s_NoSeen__init, defBody s_NoSeen__init, defScope s_NoSeen__init, [], []⟩
def d_Clash__init : He.DefD := ⟨("Clash", some "__init__"), "__init__", "Clash.__init__", defArgs s_Clash__init, defBody s_Clash__init, defScope s_Clash__init, [], []⟩
def d_is_number : He.DefD := ⟨("is_number", none), "is_number", "is_number", defArgs s_is_number, defBody s_is_number, defScope s_is_number, [], []⟩
def d_is_letter : He.DefD := ⟨("is_letter", none), "is_letter", "is_letter", defArgs s_is_letter, defBody s_is_letter, defScope s_is_letter, [], []⟩
def d_is_message : He.DefD := ⟨("is_message", none), "is_message", "is_message", defArgs s_is_message, defBody s_is_message, defScope s_is_message, [], []⟩
def d_are_against : He.DefD := ⟨("are_against", none), "are_against", "are_against", defArgs s_are_against, defBody s_are_against, defScope s_are_against, [], []⟩
def d_Seen__init : He.DefD := ⟨("Seen", some "__init__"), "__init__", "Seen.__init__", defArgs s_Seen__init, defBody s_Seen__init, defScope s_Seen__init, [], []⟩
def d_NoLink__init : He.DefD := ⟨("NoLink", some "__init__"), "__init__", "NoLink.__init__", defArgs s_NoLink__init, defBody s_NoLink__init, defScope s_NoLink__init, [], []⟩
def d_is_moment : He.DefD := ⟨("is_moment", none), "is_moment", "is_moment", defArgs s_is_moment, defBody s_is_moment, defScope s_is_moment, [], []⟩
def d_need_moment : He.DefD := ⟨("need_moment", none), "need_moment", "need_moment", defArgs s_need_moment, defBody s_need_moment, defScope s_need_moment, [], []⟩
def d_is_row : He.DefD := ⟨("is_row", none), "is_row", "is_row", defArgs s_is_row, defBody s_is_row, defScope s_is_row, [], []⟩
def d_need_row : He.DefD := ⟨("need_row", none), "need_row", "need_row", defArgs s_need_row, defBody s_need_row, defScope s_need_row, [], []⟩
def d_need_letter : He.DefD := ⟨("need_letter", none), "need_letter", "need_letter", defArgs s_need_letter, defBody s_need_letter, defScope s_need_letter, [], []⟩
def d_Seen_rides_of : He.DefD := ⟨("Seen", some "rides_of"), "rides_of", "Seen.rides_of", defArgs s_Seen_rides_of, defBody s_Seen_rides_of, defScope s_Seen_rides_of, [], []⟩
def d_Seen_ends_at : He.DefD := ⟨("Seen", some "ends_at"), "ends_at", "Seen.ends_at", defArgs s_Seen_ends_at, defBody s_Seen_ends_at, defScope s_Seen_ends_at, [], []⟩
def d_Seen_begins_at : He.DefD := ⟨("Seen", some "begins_at"), "begins_at", "Seen.begins_at", defArgs s_Seen_begins_at, defBody s_Seen_begins_at, defScope s_Seen_begins_at, [], []⟩
def d_Seen_ends : He.DefD := ⟨("Seen", some "ends"), "ends", "Seen.ends", defArgs s_Seen_ends, defBody s_Seen_ends, defScope s_Seen_ends, [], []⟩
def d_Seen_begins : He.DefD := ⟨("Seen", some "begins"), "begins", "Seen.begins", defArgs s_Seen_begins, defBody s_Seen_begins, defScope s_Seen_begins, [], []⟩
def d_Seen_bounds : He.DefD := ⟨("Seen", some "bounds"), "bounds", "Seen.bounds", defArgs s_Seen_bounds, defBody s_Seen_bounds, defScope s_Seen_bounds, [], []⟩
def d_l_next : He.DefD := ⟨("_law_next", none), "_law_next", "_law_next", defArgs s_l_next, defBody s_l_next, defScope s_l_next, [], []⟩
def d_l_begun : He.DefD := ⟨("_law_begun", none), "_law_begun", "_law_begun", defArgs s_l_begun, defBody s_l_begun, defScope s_l_begun, [], []⟩
def d_l_pick : He.DefD := ⟨("_law_pick", none), "_law_pick", "_law_pick", defArgs s_l_pick, defBody s_l_pick, defScope s_l_pick, [], []⟩
def d_l_shuffled : He.DefD := ⟨("_law_shuffled", none), "_law_shuffled", "_law_shuffled", defArgs s_l_shuffled, defBody s_l_shuffled, defScope s_l_shuffled, [], []⟩
def d_l_some : He.DefD := ⟨("_law_some", none), "_law_some", "_law_some", defArgs s_l_some, defBody s_l_some, defScope s_l_some, [], []⟩
def d_is_ride : He.DefD := ⟨("is_ride", none), "is_ride", "is_ride", defArgs s_is_ride, defBody s_is_ride, defScope s_is_ride, [], []⟩
def d_needed : He.DefD := ⟨("needed", none), "needed", "needed", defArgs s_needed, defBody s_needed, defScope s_needed, [], []⟩
def d_Link__init : He.DefD := ⟨("Link", some "__init__"), "__init__", "Link.__init__", defArgs s_Link__init, defBody s_Link__init, defScope s_Link__init, [], []⟩
def d_Timetable__init : He.DefD := ⟨("Timetable", some "__init__"), "__init__", "Timetable.__init__", defArgs s_Timetable__init, defBody s_Timetable__init, defScope s_Timetable__init, [], []⟩
def d_l_place : He.DefD := ⟨("_law_place", none), "_law_place", "_law_place", defArgs s_l_place, defBody s_l_place, defScope s_l_place, [], []⟩
def d_l_end : He.DefD := ⟨("_law_end", none), "_law_end", "_law_end", defArgs s_l_end, defBody s_l_end, defScope s_l_end, [], []⟩
def d_l_begin : He.DefD := ⟨("_law_begin", none), "_law_begin", "_law_begin", defArgs s_l_begin, defBody s_l_begin, defScope s_l_begin, [], []⟩
def d_ended : He.DefD := ⟨("ended", none), "ended", "ended", defArgs s_ended, defBody s_ended, defScope s_ended, [], []⟩
def d_Timetable__getitem : He.DefD := ⟨("Timetable", some "__getitem__"), "__getitem__", "Timetable.__getitem__", defArgs s_Timetable__getitem, defBody s_Timetable__getitem, defScope s_Timetable__getitem, [], []⟩
def d_Link_end : He.DefD := ⟨("Link", some "end"), "end", "Link.end", defArgs s_Link_end, defBody s_Link_end, defScope s_Link_end, [], []⟩
def d_l_seen : He.DefD := ⟨("_law_seen", none), "_law_seen", "_law_seen", defArgs s_l_seen, defBody s_l_seen, defScope s_l_seen, [], []⟩
def d_Seen_example : He.DefD := ⟨("Seen", some "example"), "example", "Seen.example", defArgs s_Seen_example, defBody s_Seen_example, defScope s_Seen_example, [], []⟩
def d_l_moment : He.DefD := ⟨("_law_moment", none), "_law_moment", "_law_moment", defArgs s_l_moment, defBody s_l_moment, defScope s_l_moment, [], []⟩
def d_l_go : He.DefD := ⟨("_law_go", none), "_law_go", "_law_go", defArgs s_l_go, defBody s_l_go, defScope s_l_go, [], []⟩
def d_l_within : He.DefD := ⟨("_law_within", none), "_law_within", "_law_within", defArgs s_l_within, defBody s_l_within, defScope s_l_within, [], []⟩
def d_l_all_within : He.DefD := ⟨("_law_all_within", none), "_law_all_within", "_law_all_within", defArgs s_l_all_within, defBody s_l_all_within, defScope s_l_all_within, [], []⟩
def d_l_turned_right : He.DefD := ⟨("_law_turned_right", none), "_law_turned_right", "_law_turned_right", defArgs s_l_turned_right, defBody s_l_turned_right, defScope s_l_turned_right, [], []⟩
def d_l_one_more : He.DefD := ⟨("_law_one_more", none), "_law_one_more", "_law_one_more", defArgs s_l_one_more, defBody s_l_one_more, defScope s_l_one_more, [], []⟩
def d_law : He.DefD := ⟨("law", none), "law", "law", defArgs s_law, defBody s_law, defScope s_law, [], []⟩
def d_l_word : He.DefD := ⟨("_law_word", none), "_law_word", "_law_word", defArgs s_l_word, defBody s_l_word, defScope s_l_word, [], []⟩
def fn : List He.DefD := [d_NoSeen__init, d_Clash__init, d_is_number, d_is_letter, d_is_message, d_are_against, d_Seen__init, d_NoLink__init, d_is_moment, d_need_moment, d_is_row, d_need_row, d_need_letter, d_Seen_rides_of, d_Seen_ends_at, d_Seen_begins_at, d_Seen_ends, d_Seen_begins, d_Seen_bounds, d_l_next, d_l_begun, d_l_pick, d_l_shuffled, d_l_some, d_is_ride, d_needed, d_Link__init, d_Timetable__init, d_l_place, d_l_end, d_l_begin, d_ended, d_Timetable__getitem, d_Link_end, d_l_seen, d_Seen_example, d_l_moment, d_l_go, d_l_within, d_l_all_within, d_l_turned_right, d_l_one_more, d_law, d_l_word]
def gs : List GetD := []
def tf : List He.Defn := [("_law_one_more", none), ("_law_turned_right", none)]
def fa : List He.Fa := [.free "abs", .free "all", .free "bool", .free "dict", .free "enumerate", .free "int", .free "isinstance", .free "len", .free "list", .free "max", .free "min", .free "property", .free "range", .free "sorted", .free "str", .free "tuple", .free "ValueError", .glo "_wall", .glo "is_number", .glo "is_moment", .glo "need_moment", .glo "is_earlier", .glo "sooner_of", .glo "is_ride", .glo "ended", .glo "begun", .glo "needed", .glo "link_by", .glo "is_row", .glo "need_row", .glo "is_letter", .glo "is_message", .glo "are_against", .glo "need_letter", .glo "_law_begun", .glo "_law_next", .glo "_law_pick", .glo "_law_shuffled", .glo "_law_some", .glo "_law_moment", .glo "_law_end", .glo "_law_begin", .glo "_law_go", .glo "_law_place", .glo "_law_seen", .glo "_law_word", .glo "_law_within", .glo "_law_all_within", .glo "_law_one_more", .glo "_law_turned_right", .glo "law", .glo "OrderError", .glo "NoRow", .exc "NoRow", .glo "NoMoment", .exc "NoMoment", .glo "NoRides", .glo "NoTable", .glo "NoLink", .meth "NoLink" "__init__", .noat "NoLink" "letter", .glo "NoMirror", .exc "NoMirror", .glo "NoSeen", .meth "NoSeen" "__init__", .noat "NoSeen" "at", .glo "Clash", .meth "Clash" "__init__", .noat "Clash" "first", .noat "Clash" "second", .glo "TooMany", .glo "Link", .cls "Link", .mkr "Link", .meth "Link" "end", .meth "Link" "begin", .meth "Link" "__eq__", .meth "Link" "__mul__", .meth "Link" "__or__", .meth "Link" "__and__", .meth "Link" "__invert__", .meth "Link" "__le__", .noat "Link" "own_rides", .glo "Timetable", .cls "Timetable", .mkr "Timetable", .meth "Timetable" "__getitem__", .meth "Timetable" "__iter__", .meth "Timetable" "__eq__", .meth "Timetable" "need_links", .meth "Timetable" "led", .meth "Timetable" "go", .meth "Timetable" "track", .meth "Timetable" "turned", .noat "Timetable" "own_links", .glo "Seen", .cls "Seen", .mkr "Seen", .meth "Seen" "rides_of", .meth "Seen" "ends_at", .meth "Seen" "begins_at", .meth "Seen" "ends", .meth "Seen" "begins", .meth "Seen" "bounds", .meth "Seen" "example", .noat "Seen" "own_messages", .str "FIRST" "first", .str "LAST" "last", .int "MOST_RIDES" 60, .str "LINKS" "abcd", .str "STEPS" "ABCDabcd", .int "MOST_STEPS" 60, .int "MOST_MESSAGES" 50, .exm "NoSeen" "OrderError" true, .exm "Clash" "OrderError" true]
def loose : List Str := (["_wall", "OrderError", "NoRow", "NoMoment", "NoRides", "NoTable", "NoLink", "NoMirror", "NoSeen", "Clash", "TooMany", "FIRST", "LAST", "MOST_RIDES", "is_number", "is_moment", "need_moment", "is_earlier", "sooner_of", "is_ride", "ended", "begun", "needed", "link_by", "Link", "LINKS", "STEPS", "MOST_STEPS", "is_row", "need_row"] : List Str) ++ (["Timetable", "MOST_MESSAGES", "is_letter", "is_message", "are_against", "need_letter", "Seen", "_law_begun", "_law_next", "_law_pick", "_law_shuffled", "_law_some", "_law_moment", "_law_end", "_law_begin", "_law_go", "_law_place", "_law_seen", "_law_word", "_law_within", "_law_all_within", "_law_one_more", "_law_turned_right"] : List Str)
def ex (K : PySem.W.Frag) : Bool := (insB K (He.ga K "Seen") && (insB K (He.ga K "Link") && (insB K (He.ga K "Timetable") && (exfB K (He.ga K "NoSeen") && (exfB K (He.ga K "Clash") && (exfB K (He.ga K "NoLink") && (exfB K (He.ga K "NoMoment") && (exfB K (He.ga K "NoRow") && (exfB K (He.ga K "NoMirror") && (decide (PySem.W.findIn K (.ref (He.ga K "NoSeen")) "at" = some none) && (decide (PySem.W.findIn K (.ref (He.ga K "Clash")) "first" = some none) && (decide (PySem.W.findIn K (.ref (He.ga K "Clash")) "second" = some none) && (oexB K (He.ga K "NoSeen") && (oexB K (He.ga K "Clash") && (oexB K (He.ga K "NoLink") && (oeiB K (He.ga K "OrderError") && (decide (PySem.W.kitOne K (.ref (He.ga K "NoSeen")) (.ref (He.ga K "NoSeen")) = some true) && (decide (PySem.W.kitOne K (.ref (He.ga K "NoSeen")) (.ref (He.ga K "Clash")) = some false) && (decide (PySem.W.kitOne K (.ref (He.ga K "Clash")) (.ref (He.ga K "NoSeen")) = some false) && (decide (PySem.W.kitOne K (.ref (He.ga K "Clash")) (.ref (He.ga K "Clash")) = some true) && (decide (PySem.W.kitOne K (.ref (He.ga K "NoSeen")) (.type "ValueError") = some true) && (decide (PySem.W.kitOne K (.ref (He.ga K "Clash")) (.type "ValueError") = some true) && decide ((TbL K).map Prod.fst).Nodup))))))))))))))))))))))
abbrev R : PySem.W.OpenRow := PySem.W.OpenLaw.row PySem.Challenge.rw_newsinorder_k59_whole_seen_of_a_drawn_ti
abbrev hk : PySem.W.Hook := hookP 5 fa fn tf ex gs
def ob (s : PySem.W.SharedT) : AlP := obsP 5 fa fn tf ex gs (HandSHeadRun.getT s)
theorem ob_eq (s : PySem.W.SharedT) : ob s = hk.obs s.abs := obsP_eq (HandSHeadRun.getT_eq s)

theorem run (w : World) : HandSHeadRun.RunEq R (PySem.W.view R.prog [59]) hk ob 20000 loose w := by
  intro os
  kernel_rfl
theorem facts {P : Program} {w : World} {K : PySem.W.Frag} {h : Heap} {mg : Str → Option Value} {f : Addr} (X : K.In h) (G : h.Ns mainGlobals mg) (hfa : mg ("law" : Str) = some (.ref f)) (c : SaysP fa fn tf ex gs h K) :
    ∃ fd : FuncData, (∀ (s : Shared) (v : Value), BindsTo s fd ⟨[v], []⟩ [("_law_script", v)]) ∧ ∀ base : Heap, K.In base → base.Ns mainGlobals mg → (∀ p ∈ tf.map (He.cT K), LamX.TabB base mg p.1 p.2) → FnOk P w K mg base CX0 10 f fd ["_law_script"] (sp_law K) := by
  have cm := c.more
  unfold ex at cm
  rw [Bool.and_eq_true, Bool.and_eq_true, Bool.and_eq_true, Bool.and_eq_true, Bool.and_eq_true, Bool.and_eq_true, Bool.and_eq_true, Bool.and_eq_true, Bool.and_eq_true, Bool.and_eq_true, Bool.and_eq_true, Bool.and_eq_true, Bool.and_eq_true, Bool.and_eq_true, Bool.and_eq_true, Bool.and_eq_true, Bool.and_eq_true, Bool.and_eq_true, Bool.and_eq_true, Bool.and_eq_true, Bool.and_eq_true, Bool.and_eq_true] at cm
  obtain ⟨i_0, i_1, i_2, i_3, i_4, i_5, i_6, i_7, i_8, i_9, i_10, i_11, i_12, i_13, i_14, i_15, i_16, i_17, i_18, i_19, i_20, i_21, i_22⟩ := cm
  have x_0 : mg "abs" = none := He.free_ok X G (c.d.fact 0 (f := .free "abs") rfl)
  have x_1 : mg "all" = none := He.free_ok X G (c.d.fact 1 (f := .free "all") rfl)
  have x_2 : mg "bool" = none := He.free_ok X G (c.d.fact 2 (f := .free "bool") rfl)
  have x_3 : mg "dict" = none := He.free_ok X G (c.d.fact 3 (f := .free "dict") rfl)
  have x_4 : mg "enumerate" = none := He.free_ok X G (c.d.fact 4 (f := .free "enumerate") rfl)
  have x_5 : mg "int" = none := He.free_ok X G (c.d.fact 5 (f := .free "int") rfl)
  have x_6 : mg "isinstance" = none := He.free_ok X G (c.d.fact 6 (f := .free "isinstance") rfl)
  have x_7 : mg "len" = none := He.free_ok X G (c.d.fact 7 (f := .free "len") rfl)
  have x_8 : mg "list" = none := He.free_ok X G (c.d.fact 8 (f := .free "list") rfl)
  have x_9 : mg "max" = none := He.free_ok X G (c.d.fact 9 (f := .free "max") rfl)
  have x_10 : mg "min" = none := He.free_ok X G (c.d.fact 10 (f := .free "min") rfl)
  have x_11 : mg "property" = none := He.free_ok X G (c.d.fact 11 (f := .free "property") rfl)
  have x_12 : mg "range" = none := He.free_ok X G (c.d.fact 12 (f := .free "range") rfl)
  have x_13 : mg "sorted" = none := He.free_ok X G (c.d.fact 13 (f := .free "sorted") rfl)
  have x_14 : mg "str" = none := He.free_ok X G (c.d.fact 14 (f := .free "str") rfl)
  have x_15 : mg "tuple" = none := He.free_ok X G (c.d.fact 15 (f := .free "tuple") rfl)
  have x_16 : mg "ValueError" = none := He.free_ok X G (c.d.fact 16 (f := .free "ValueError") rfl)
  have x_17 : mg "_wall" = some (.ref (He.ga K "_wall")) := He.glo_ok X G (c.d.fact 17 (f := .glo "_wall") rfl)
  have x_18 : mg "is_number" = some (.ref (He.ga K "is_number")) := He.glo_ok X G (c.d.fact 18 (f := .glo "is_number") rfl)
  have x_19 : mg "is_moment" = some (.ref (He.ga K "is_moment")) := He.glo_ok X G (c.d.fact 19 (f := .glo "is_moment") rfl)
  have x_20 : mg "need_moment" = some (.ref (He.ga K "need_moment")) := He.glo_ok X G (c.d.fact 20 (f := .glo "need_moment") rfl)
  have x_21 : mg "is_earlier" = some (.ref (He.ga K "is_earlier")) := He.glo_ok X G (c.d.fact 21 (f := .glo "is_earlier") rfl)
  have x_22 : mg "sooner_of" = some (.ref (He.ga K "sooner_of")) := He.glo_ok X G (c.d.fact 22 (f := .glo "sooner_of") rfl)
  have x_23 : mg "is_ride" = some (.ref (He.ga K "is_ride")) := He.glo_ok X G (c.d.fact 23 (f := .glo "is_ride") rfl)
  have x_24 : mg "ended" = some (.ref (He.ga K "ended")) := He.glo_ok X G (c.d.fact 24 (f := .glo "ended") rfl)
  have x_25 : mg "begun" = some (.ref (He.ga K "begun")) := He.glo_ok X G (c.d.fact 25 (f := .glo "begun") rfl)
  have x_26 : mg "needed" = some (.ref (He.ga K "needed")) := He.glo_ok X G (c.d.fact 26 (f := .glo "needed") rfl)
  have x_27 : mg "link_by" = some (.ref (He.ga K "link_by")) := He.glo_ok X G (c.d.fact 27 (f := .glo "link_by") rfl)
  have x_28 : mg "is_row" = some (.ref (He.ga K "is_row")) := He.glo_ok X G (c.d.fact 28 (f := .glo "is_row") rfl)
  have x_29 : mg "need_row" = some (.ref (He.ga K "need_row")) := He.glo_ok X G (c.d.fact 29 (f := .glo "need_row") rfl)
  have x_30 : mg "is_letter" = some (.ref (He.ga K "is_letter")) := He.glo_ok X G (c.d.fact 30 (f := .glo "is_letter") rfl)
  have x_31 : mg "is_message" = some (.ref (He.ga K "is_message")) := He.glo_ok X G (c.d.fact 31 (f := .glo "is_message") rfl)
  have x_32 : mg "are_against" = some (.ref (He.ga K "are_against")) := He.glo_ok X G (c.d.fact 32 (f := .glo "are_against") rfl)
  have x_33 : mg "need_letter" = some (.ref (He.ga K "need_letter")) := He.glo_ok X G (c.d.fact 33 (f := .glo "need_letter") rfl)
  have x_34 : mg "_law_begun" = some (.ref (He.ga K "_law_begun")) := He.glo_ok X G (c.d.fact 34 (f := .glo "_law_begun") rfl)
  have x_35 : mg "_law_next" = some (.ref (He.ga K "_law_next")) := He.glo_ok X G (c.d.fact 35 (f := .glo "_law_next") rfl)
  have x_36 : mg "_law_pick" = some (.ref (He.ga K "_law_pick")) := He.glo_ok X G (c.d.fact 36 (f := .glo "_law_pick") rfl)
  have x_37 : mg "_law_shuffled" = some (.ref (He.ga K "_law_shuffled")) := He.glo_ok X G (c.d.fact 37 (f := .glo "_law_shuffled") rfl)
  have x_38 : mg "_law_some" = some (.ref (He.ga K "_law_some")) := He.glo_ok X G (c.d.fact 38 (f := .glo "_law_some") rfl)
  have x_39 : mg "_law_moment" = some (.ref (He.ga K "_law_moment")) := He.glo_ok X G (c.d.fact 39 (f := .glo "_law_moment") rfl)
  have x_40 : mg "_law_end" = some (.ref (He.ga K "_law_end")) := He.glo_ok X G (c.d.fact 40 (f := .glo "_law_end") rfl)
  have x_41 : mg "_law_begin" = some (.ref (He.ga K "_law_begin")) := He.glo_ok X G (c.d.fact 41 (f := .glo "_law_begin") rfl)
  have x_42 : mg "_law_go" = some (.ref (He.ga K "_law_go")) := He.glo_ok X G (c.d.fact 42 (f := .glo "_law_go") rfl)
  have x_43 : mg "_law_place" = some (.ref (He.ga K "_law_place")) := He.glo_ok X G (c.d.fact 43 (f := .glo "_law_place") rfl)
  have x_44 : mg "_law_seen" = some (.ref (He.ga K "_law_seen")) := He.glo_ok X G (c.d.fact 44 (f := .glo "_law_seen") rfl)
  have x_45 : mg "_law_word" = some (.ref (He.ga K "_law_word")) := He.glo_ok X G (c.d.fact 45 (f := .glo "_law_word") rfl)
  have x_46 : mg "_law_within" = some (.ref (He.ga K "_law_within")) := He.glo_ok X G (c.d.fact 46 (f := .glo "_law_within") rfl)
  have x_47 : mg "_law_all_within" = some (.ref (He.ga K "_law_all_within")) := He.glo_ok X G (c.d.fact 47 (f := .glo "_law_all_within") rfl)
  have x_48 : mg "_law_one_more" = some (.ref (He.ga K "_law_one_more")) := He.glo_ok X G (c.d.fact 48 (f := .glo "_law_one_more") rfl)
  have x_49 : mg "_law_turned_right" = some (.ref (He.ga K "_law_turned_right")) := He.glo_ok X G (c.d.fact 49 (f := .glo "_law_turned_right") rfl)
  have x_50 : mg "law" = some (.ref (He.ga K "law")) := He.glo_ok X G (c.d.fact 50 (f := .glo "law") rfl)
  have x_51 : mg "OrderError" = some (.ref (He.ga K "OrderError")) := He.glo_ok X G (c.d.fact 51 (f := .glo "OrderError") rfl)
  have x_52 : mg "NoRow" = some (.ref (He.ga K "NoRow")) := He.glo_ok X G (c.d.fact 52 (f := .glo "NoRow") rfl)
  have x_53 : PySem.W.excIn K (He.ga K "NoRow") He.veBase "ValueError.__new__" = true ∧ PySem.W.keepIn K (.ref (He.ga K "NoRow")) = true ∧ PySem.W.subIn K (.ref (He.ga K "NoRow")) (.type "BaseException") = some true ∧ PySem.W.typeIn K (.ref (He.ga K "NoRow")) = some (.type "type") := He.exc_ok (c.d.fact 53 (f := .exc "NoRow") rfl)
  have x_54 : mg "NoMoment" = some (.ref (He.ga K "NoMoment")) := He.glo_ok X G (c.d.fact 54 (f := .glo "NoMoment") rfl)
  have x_55 : PySem.W.excIn K (He.ga K "NoMoment") He.veBase "ValueError.__new__" = true ∧ PySem.W.keepIn K (.ref (He.ga K "NoMoment")) = true ∧ PySem.W.subIn K (.ref (He.ga K "NoMoment")) (.type "BaseException") = some true ∧ PySem.W.typeIn K (.ref (He.ga K "NoMoment")) = some (.type "type") := He.exc_ok (c.d.fact 55 (f := .exc "NoMoment") rfl)
  have x_56 : mg "NoRides" = some (.ref (He.ga K "NoRides")) := He.glo_ok X G (c.d.fact 56 (f := .glo "NoRides") rfl)
  have x_57 : mg "NoTable" = some (.ref (He.ga K "NoTable")) := He.glo_ok X G (c.d.fact 57 (f := .glo "NoTable") rfl)
  have x_58 : mg "NoLink" = some (.ref (He.ga K "NoLink")) := He.glo_ok X G (c.d.fact 58 (f := .glo "NoLink") rfl)
  have x_59 : Meth K (He.ga K "NoLink") "__init__" (He.ma K (He.ga K "NoLink") "__init__") := He.meth_ok (c.d.fact 59 (f := .meth "NoLink" "__init__") rfl)
  have x_60 : NoAttr K (He.ga K "NoLink") "letter" := He.noat_ok (c.d.fact 60 (f := .noat "NoLink" "letter") rfl)
  have x_61 : mg "NoMirror" = some (.ref (He.ga K "NoMirror")) := He.glo_ok X G (c.d.fact 61 (f := .glo "NoMirror") rfl)
  have x_62 : PySem.W.excIn K (He.ga K "NoMirror") He.veBase "ValueError.__new__" = true ∧ PySem.W.keepIn K (.ref (He.ga K "NoMirror")) = true ∧ PySem.W.subIn K (.ref (He.ga K "NoMirror")) (.type "BaseException") = some true ∧ PySem.W.typeIn K (.ref (He.ga K "NoMirror")) = some (.type "type") := He.exc_ok (c.d.fact 62 (f := .exc "NoMirror") rfl)
  have x_63 : mg "NoSeen" = some (.ref (He.ga K "NoSeen")) := He.glo_ok X G (c.d.fact 63 (f := .glo "NoSeen") rfl)
  have x_64 : Meth K (He.ga K "NoSeen") "__init__" (He.ma K (He.ga K "NoSeen") "__init__") := He.meth_ok (c.d.fact 64 (f := .meth "NoSeen" "__init__") rfl)
  have x_65 : NoAttr K (He.ga K "NoSeen") "at" := He.noat_ok (c.d.fact 65 (f := .noat "NoSeen" "at") rfl)
  have x_66 : mg "Clash" = some (.ref (He.ga K "Clash")) := He.glo_ok X G (c.d.fact 66 (f := .glo "Clash") rfl)
  have x_67 : Meth K (He.ga K "Clash") "__init__" (He.ma K (He.ga K "Clash") "__init__") := He.meth_ok (c.d.fact 67 (f := .meth "Clash" "__init__") rfl)
  have x_68 : NoAttr K (He.ga K "Clash") "first" := He.noat_ok (c.d.fact 68 (f := .noat "Clash" "first") rfl)
  have x_69 : NoAttr K (He.ga K "Clash") "second" := He.noat_ok (c.d.fact 69 (f := .noat "Clash" "second") rfl)
  have x_70 : mg "TooMany" = some (.ref (He.ga K "TooMany")) := He.glo_ok X G (c.d.fact 70 (f := .glo "TooMany") rfl)
  have x_71 : mg "Link" = some (.ref (He.ga K "Link")) := He.glo_ok X G (c.d.fact 71 (f := .glo "Link") rfl)
  have x_72 : Cls K (He.ga K "Link") := He.cls_ok (c.d.fact 72 (f := .cls "Link") rfl)
  have x_73 : Mk K (He.ga K "Link") (He.ma K (He.ga K "Link") "__init__") := He.mkr_ok (c.d.fact 73 (f := .mkr "Link") rfl)
  have x_74 : Meth K (He.ga K "Link") "end" (He.ma K (He.ga K "Link") "end") := He.meth_ok (c.d.fact 74 (f := .meth "Link" "end") rfl)
  have x_75 : Meth K (He.ga K "Link") "begin" (He.ma K (He.ga K "Link") "begin") := He.meth_ok (c.d.fact 75 (f := .meth "Link" "begin") rfl)
  have x_76 : Meth K (He.ga K "Link") "__eq__" (He.ma K (He.ga K "Link") "__eq__") := He.meth_ok (c.d.fact 76 (f := .meth "Link" "__eq__") rfl)
  have x_77 : Meth K (He.ga K "Link") "__mul__" (He.ma K (He.ga K "Link") "__mul__") := He.meth_ok (c.d.fact 77 (f := .meth "Link" "__mul__") rfl)
  have x_78 : Meth K (He.ga K "Link") "__or__" (He.ma K (He.ga K "Link") "__or__") := He.meth_ok (c.d.fact 78 (f := .meth "Link" "__or__") rfl)
  have x_79 : Meth K (He.ga K "Link") "__and__" (He.ma K (He.ga K "Link") "__and__") := He.meth_ok (c.d.fact 79 (f := .meth "Link" "__and__") rfl)
  have x_80 : Meth K (He.ga K "Link") "__invert__" (He.ma K (He.ga K "Link") "__invert__") := He.meth_ok (c.d.fact 80 (f := .meth "Link" "__invert__") rfl)
  have x_81 : Meth K (He.ga K "Link") "__le__" (He.ma K (He.ga K "Link") "__le__") := He.meth_ok (c.d.fact 81 (f := .meth "Link" "__le__") rfl)
  have x_82 : NoAttr K (He.ga K "Link") "own_rides" := He.noat_ok (c.d.fact 82 (f := .noat "Link" "own_rides") rfl)
  have x_83 : mg "Timetable" = some (.ref (He.ga K "Timetable")) := He.glo_ok X G (c.d.fact 83 (f := .glo "Timetable") rfl)
  have x_84 : Cls K (He.ga K "Timetable") := He.cls_ok (c.d.fact 84 (f := .cls "Timetable") rfl)
  have x_85 : Mk K (He.ga K "Timetable") (He.ma K (He.ga K "Timetable") "__init__") := He.mkr_ok (c.d.fact 85 (f := .mkr "Timetable") rfl)
  have x_86 : Meth K (He.ga K "Timetable") "__getitem__" (He.ma K (He.ga K "Timetable") "__getitem__") := He.meth_ok (c.d.fact 86 (f := .meth "Timetable" "__getitem__") rfl)
  have x_87 : Meth K (He.ga K "Timetable") "__iter__" (He.ma K (He.ga K "Timetable") "__iter__") := He.meth_ok (c.d.fact 87 (f := .meth "Timetable" "__iter__") rfl)
  have x_88 : Meth K (He.ga K "Timetable") "__eq__" (He.ma K (He.ga K "Timetable") "__eq__") := He.meth_ok (c.d.fact 88 (f := .meth "Timetable" "__eq__") rfl)
  have x_89 : Meth K (He.ga K "Timetable") "need_links" (He.ma K (He.ga K "Timetable") "need_links") := He.meth_ok (c.d.fact 89 (f := .meth "Timetable" "need_links") rfl)
  have x_90 : Meth K (He.ga K "Timetable") "led" (He.ma K (He.ga K "Timetable") "led") := He.meth_ok (c.d.fact 90 (f := .meth "Timetable" "led") rfl)
  have x_91 : Meth K (He.ga K "Timetable") "go" (He.ma K (He.ga K "Timetable") "go") := He.meth_ok (c.d.fact 91 (f := .meth "Timetable" "go") rfl)
  have x_92 : Meth K (He.ga K "Timetable") "track" (He.ma K (He.ga K "Timetable") "track") := He.meth_ok (c.d.fact 92 (f := .meth "Timetable" "track") rfl)
  have x_93 : Meth K (He.ga K "Timetable") "turned" (He.ma K (He.ga K "Timetable") "turned") := He.meth_ok (c.d.fact 93 (f := .meth "Timetable" "turned") rfl)
  have x_94 : NoAttr K (He.ga K "Timetable") "own_links" := He.noat_ok (c.d.fact 94 (f := .noat "Timetable" "own_links") rfl)
  have x_95 : mg "Seen" = some (.ref (He.ga K "Seen")) := He.glo_ok X G (c.d.fact 95 (f := .glo "Seen") rfl)
  have x_96 : Cls K (He.ga K "Seen") := He.cls_ok (c.d.fact 96 (f := .cls "Seen") rfl)
  have x_97 : Mk K (He.ga K "Seen") (He.ma K (He.ga K "Seen") "__init__") := He.mkr_ok (c.d.fact 97 (f := .mkr "Seen") rfl)
  have x_98 : Meth K (He.ga K "Seen") "rides_of" (He.ma K (He.ga K "Seen") "rides_of") := He.meth_ok (c.d.fact 98 (f := .meth "Seen" "rides_of") rfl)
  have x_99 : Meth K (He.ga K "Seen") "ends_at" (He.ma K (He.ga K "Seen") "ends_at") := He.meth_ok (c.d.fact 99 (f := .meth "Seen" "ends_at") rfl)
  have x_100 : Meth K (He.ga K "Seen") "begins_at" (He.ma K (He.ga K "Seen") "begins_at") := He.meth_ok (c.d.fact 100 (f := .meth "Seen" "begins_at") rfl)
  have x_101 : Meth K (He.ga K "Seen") "ends" (He.ma K (He.ga K "Seen") "ends") := He.meth_ok (c.d.fact 101 (f := .meth "Seen" "ends") rfl)
  have x_102 : Meth K (He.ga K "Seen") "begins" (He.ma K (He.ga K "Seen") "begins") := He.meth_ok (c.d.fact 102 (f := .meth "Seen" "begins") rfl)
  have x_103 : Meth K (He.ga K "Seen") "bounds" (He.ma K (He.ga K "Seen") "bounds") := He.meth_ok (c.d.fact 103 (f := .meth "Seen" "bounds") rfl)
  have x_104 : Meth K (He.ga K "Seen") "example" (He.ma K (He.ga K "Seen") "example") := He.meth_ok (c.d.fact 104 (f := .meth "Seen" "example") rfl)
  have x_105 : NoAttr K (He.ga K "Seen") "own_messages" := He.noat_ok (c.d.fact 105 (f := .noat "Seen" "own_messages") rfl)
  have x_106 : ∃ t, mg "FIRST" = some (.str "first" t) := He.str_ok X G (c.d.fact 106 (f := .str "FIRST" "first") rfl)
  have x_107 : ∃ t, mg "LAST" = some (.str "last" t) := He.str_ok X G (c.d.fact 107 (f := .str "LAST" "last") rfl)
  have x_108 : ∃ t, mg "MOST_RIDES" = some (.int 60 t) := He.int_ok X G (c.d.fact 108 (f := .int "MOST_RIDES" 60) rfl)
  have x_109 : ∃ t, mg "LINKS" = some (.str "abcd" t) := He.str_ok X G (c.d.fact 109 (f := .str "LINKS" "abcd") rfl)
  have x_110 : ∃ t, mg "STEPS" = some (.str "ABCDabcd" t) := He.str_ok X G (c.d.fact 110 (f := .str "STEPS" "ABCDabcd") rfl)
  have x_111 : ∃ t, mg "MOST_STEPS" = some (.int 60 t) := He.int_ok X G (c.d.fact 111 (f := .int "MOST_STEPS" 60) rfl)
  have x_112 : ∃ t, mg "MOST_MESSAGES" = some (.int 50 t) := He.int_ok X G (c.d.fact 112 (f := .int "MOST_MESSAGES" 50) rfl)
  have x_113 : PySem.W.exmOne K (.ref (He.ga K "NoSeen")) (.ref (He.ga K "OrderError")) = some true := He.exm_ok (c.d.fact 113 (f := .exm "NoSeen" "OrderError" true) rfl)
  have x_114 : PySem.W.exmOne K (.ref (He.ga K "Clash")) (.ref (He.ga K "OrderError")) = some true := He.exm_ok (c.d.fact 114 (f := .exm "Clash" "OrderError" true) rfl)
  have x_115 : InsF K (He.ga K "Seen") := insB_ok i_0
  have x_116 : InsF K (He.ga K "Link") := insB_ok i_1
  have x_117 : InsF K (He.ga K "Timetable") := insB_ok i_2
  have x_118 : ExF K (He.ga K "NoSeen") := exfB_ok i_3
  have x_119 : ExF K (He.ga K "Clash") := exfB_ok i_4
  have x_120 : ExF K (He.ga K "NoLink") := exfB_ok i_5
  have x_121 : ExF K (He.ga K "NoMoment") := exfB_ok i_6
  have x_122 : ExF K (He.ga K "NoRow") := exfB_ok i_7
  have x_123 : ExF K (He.ga K "NoMirror") := exfB_ok i_8
  have x_124 : PySem.W.findIn K (.ref (He.ga K "NoSeen")) "at" = some none := of_decide_eq_true i_9
  have x_125 : PySem.W.findIn K (.ref (He.ga K "Clash")) "first" = some none := of_decide_eq_true i_10
  have x_126 : PySem.W.findIn K (.ref (He.ga K "Clash")) "second" = some none := of_decide_eq_true i_11
  have x_127 : OexC K (He.ga K "NoSeen") := oexB_ok i_12
  have x_128 : OexC K (He.ga K "Clash") := oexB_ok i_13
  have x_129 : OexC K (He.ga K "NoLink") := oexB_ok i_14
  have x_130 : OeI K (He.ga K "OrderError") := oeiB_ok i_15
  have x_131 : PySem.W.kitOne K (.ref (He.ga K "NoSeen")) (.ref (He.ga K "NoSeen")) = some true := of_decide_eq_true i_16
  have x_132 : PySem.W.kitOne K (.ref (He.ga K "NoSeen")) (.ref (He.ga K "Clash")) = some false := of_decide_eq_true i_17
  have x_133 : PySem.W.kitOne K (.ref (He.ga K "Clash")) (.ref (He.ga K "NoSeen")) = some false := of_decide_eq_true i_18
  have x_134 : PySem.W.kitOne K (.ref (He.ga K "Clash")) (.ref (He.ga K "Clash")) = some true := of_decide_eq_true i_19
  have x_135 : PySem.W.kitOne K (.ref (He.ga K "NoSeen")) (.type "ValueError") = some true := of_decide_eq_true i_20
  have x_136 : PySem.W.kitOne K (.ref (He.ga K "Clash")) (.type "ValueError") = some true := of_decide_eq_true i_21
  have x_137 : ((TbL K).map Prod.fst).Nodup := of_decide_eq_true i_22
  have T : Txt K mg := ⟨x_0, x_1, x_2, x_3, x_4, x_5, x_6, x_7, x_8, x_9, x_10, x_11, x_12, x_13, x_14, x_15, x_16, x_17, x_18, x_19, x_20, x_21, x_22, x_23, x_24, x_25, x_26, x_27, x_28, x_29, x_30, x_31, x_32, x_33, x_34, x_35, x_36, x_37, x_38, x_39, x_40, x_41, x_42, x_43, x_44, x_45, x_46, x_47, x_48, x_49, x_50, x_51, x_52, x_53, x_54, x_55, x_56, x_57, x_58, x_59, x_60, x_61, x_62, x_63, x_64, x_65, x_66, x_67, x_68, x_69, x_70, x_71, x_72, x_73, x_74, x_75, x_76, x_77, x_78, x_79, x_80, x_81, x_82, x_83, x_84, x_85, x_86, x_87, x_88, x_89, x_90, x_91, x_92, x_93, x_94, x_95, x_96, x_97, x_98, x_99, x_100, x_101, x_102, x_103, x_104, x_105, x_106, x_107, x_108, x_109, x_110, x_111, x_112, x_113, x_114, x_115, x_116, x_117, x_118, x_119, x_120, x_121, x_122, x_123, x_124, x_125, x_126, x_127, x_128, x_129, x_130, x_131, x_132, x_133, x_134, x_135, x_136, x_137⟩
  have F_NoSeen__init : FnAt K "__init__" "NoSeen.__init__" s_NoSeen__init (He.ma K (He.ga K "NoSeen") "__init__") := c.d.def_ 0 (d := d_NoSeen__init) rfl
  have F_Clash__init : FnAt K "__init__" "Clash.__init__" s_Clash__init (He.ma K (He.ga K "Clash") "__init__") := c.d.def_ 1 (d := d_Clash__init) rfl
  have F_is_number : FnAt K "is_number" "is_number" s_is_number (He.ga K "is_number") := c.d.def_ 2 (d := d_is_number) rfl
  have F_is_letter : FnAt K "is_letter" "is_letter" s_is_letter (He.ga K "is_letter") := c.d.def_ 3 (d := d_is_letter) rfl
  have F_is_message : FnAt K "is_message" "is_message" s_is_message (He.ga K "is_message") := c.d.def_ 4 (d := d_is_message) rfl
  have F_are_against : FnAt K "are_against" "are_against" s_are_against (He.ga K "are_against") := c.d.def_ 5 (d := d_are_against) rfl
  have F_Seen__init : FnAt K "__init__" "Seen.__init__" s_Seen__init (He.ma K (He.ga K "Seen") "__init__") := c.d.def_ 6 (d := d_Seen__init) rfl
  have F_NoLink__init : FnAt K "__init__" "NoLink.__init__" s_NoLink__init (He.ma K (He.ga K "NoLink") "__init__") := c.d.def_ 7 (d := d_NoLink__init) rfl
  have F_is_moment : FnAt K "is_moment" "is_moment" s_is_moment (He.ga K "is_moment") := c.d.def_ 8 (d := d_is_moment) rfl
  have F_need_moment : FnAt K "need_moment" "need_moment" s_need_moment (He.ga K "need_moment") := c.d.def_ 9 (d := d_need_moment) rfl
  have F_is_row : FnAt K "is_row" "is_row" s_is_row (He.ga K "is_row") := c.d.def_ 10 (d := d_is_row) rfl
  have F_need_row : FnAt K "need_row" "need_row" s_need_row (He.ga K "need_row") := c.d.def_ 11 (d := d_need_row) rfl
  have F_need_letter : FnAt K "need_letter" "need_letter" s_need_letter (He.ga K "need_letter") := c.d.def_ 12 (d := d_need_letter) rfl
  have F_Seen_rides_of : FnAt K "rides_of" "Seen.rides_of" s_Seen_rides_of (He.ma K (He.ga K "Seen") "rides_of") := c.d.def_ 13 (d := d_Seen_rides_of) rfl
  have F_Seen_ends_at : FnAt K "ends_at" "Seen.ends_at" s_Seen_ends_at (He.ma K (He.ga K "Seen") "ends_at") := c.d.def_ 14 (d := d_Seen_ends_at) rfl
  have F_Seen_begins_at : FnAt K "begins_at" "Seen.begins_at" s_Seen_begins_at (He.ma K (He.ga K "Seen") "begins_at") := c.d.def_ 15 (d := d_Seen_begins_at) rfl
  have F_Seen_ends : FnAt K "ends" "Seen.ends" s_Seen_ends (He.ma K (He.ga K "Seen") "ends") := c.d.def_ 16 (d := d_Seen_ends) rfl
  have F_Seen_begins : FnAt K "begins" "Seen.begins" s_Seen_begins (He.ma K (He.ga K "Seen") "begins") := c.d.def_ 17 (d := d_Seen_begins) rfl
  have F_Seen_bounds : FnAt K "bounds" "Seen.bounds" s_Seen_bounds (He.ma K (He.ga K "Seen") "bounds") := c.d.def_ 18 (d := d_Seen_bounds) rfl
  have F_l_next : FnAt K "_law_next" "_law_next" s_l_next (He.ga K "_law_next") := c.d.def_ 19 (d := d_l_next) rfl
  have F_l_begun : FnAt K "_law_begun" "_law_begun" s_l_begun (He.ga K "_law_begun") := c.d.def_ 20 (d := d_l_begun) rfl
  have F_l_pick : FnAt K "_law_pick" "_law_pick" s_l_pick (He.ga K "_law_pick") := c.d.def_ 21 (d := d_l_pick) rfl
  have F_l_shuffled : FnAt K "_law_shuffled" "_law_shuffled" s_l_shuffled (He.ga K "_law_shuffled") := c.d.def_ 22 (d := d_l_shuffled) rfl
  have F_l_some : FnAt K "_law_some" "_law_some" s_l_some (He.ga K "_law_some") := c.d.def_ 23 (d := d_l_some) rfl
  have F_is_ride : FnAt K "is_ride" "is_ride" s_is_ride (He.ga K "is_ride") := c.d.def_ 24 (d := d_is_ride) rfl
  have F_needed : FnAt K "needed" "needed" s_needed (He.ga K "needed") := c.d.def_ 25 (d := d_needed) rfl
  have F_Link__init : FnAt K "__init__" "Link.__init__" s_Link__init (He.ma K (He.ga K "Link") "__init__") := c.d.def_ 26 (d := d_Link__init) rfl
  have F_Timetable__init : FnAt K "__init__" "Timetable.__init__" s_Timetable__init (He.ma K (He.ga K "Timetable") "__init__") := c.d.def_ 27 (d := d_Timetable__init) rfl
  have F_l_place : FnAt K "_law_place" "_law_place" s_l_place (He.ga K "_law_place") := c.d.def_ 28 (d := d_l_place) rfl
  have F_l_end : FnAt K "_law_end" "_law_end" s_l_end (He.ga K "_law_end") := c.d.def_ 29 (d := d_l_end) rfl
  have F_l_begin : FnAt K "_law_begin" "_law_begin" s_l_begin (He.ga K "_law_begin") := c.d.def_ 30 (d := d_l_begin) rfl
  have F_ended : FnAt K "ended" "ended" s_ended (He.ga K "ended") := c.d.def_ 31 (d := d_ended) rfl
  have F_Timetable__getitem : FnAt K "__getitem__" "Timetable.__getitem__" s_Timetable__getitem (He.ma K (He.ga K "Timetable") "__getitem__") := c.d.def_ 32 (d := d_Timetable__getitem) rfl
  have F_Link_end : FnAt K "end" "Link.end" s_Link_end (He.ma K (He.ga K "Link") "end") := c.d.def_ 33 (d := d_Link_end) rfl
  have F_l_seen : FnAt K "_law_seen" "_law_seen" s_l_seen (He.ga K "_law_seen") := c.d.def_ 34 (d := d_l_seen) rfl
  have F_Seen_example : FnAt K "example" "Seen.example" s_Seen_example (He.ma K (He.ga K "Seen") "example") := c.d.def_ 35 (d := d_Seen_example) rfl
  have F_l_moment : FnAt K "_law_moment" "_law_moment" s_l_moment (He.ga K "_law_moment") := c.d.def_ 36 (d := d_l_moment) rfl
  have F_l_go : FnAt K "_law_go" "_law_go" s_l_go (He.ga K "_law_go") := c.d.def_ 37 (d := d_l_go) rfl
  have F_l_within : FnAt K "_law_within" "_law_within" s_l_within (He.ga K "_law_within") := c.d.def_ 38 (d := d_l_within) rfl
  have F_l_all_within : FnAt K "_law_all_within" "_law_all_within" s_l_all_within (He.ga K "_law_all_within") := c.d.def_ 39 (d := d_l_all_within) rfl
  have F_l_turned_right : FnAt K "_law_turned_right" "_law_turned_right" s_l_turned_right (He.ga K "_law_turned_right") := c.d.def_ 40 (d := d_l_turned_right) rfl
  have F_l_one_more : FnAt K "_law_one_more" "_law_one_more" s_l_one_more (He.ga K "_law_one_more") := c.d.def_ 41 (d := d_l_one_more) rfl
  have F_l_word : FnAt K "_law_word" "_law_word" s_l_word (He.ga K "_law_word") := c.d.def_ 43 (d := d_l_word) rfl
  obtain ⟨fd, F⟩ := c.d.def_ 42 (d := d_law) rfl
  have e := hfa.symm.trans T.g_law
  cases e
  have b := FunD.bindsA (ps := ["_law_script"]) F fun _ _ _ _ _ _ us hl => match us, hl with | [_], _ => rfl
  refine ⟨fd, fun s v => b s [v] rfl, fun base _ _ TBs => ?_⟩
  have TB_l_one_more : LamX.TabB base mg (He.codeOf K ("_law_one_more", none)) (He.tabOf K (He.codeOf K ("_law_one_more", none))) := TBs _ (List.mem_map_of_mem (f := He.cT K) (a := (("_law_one_more", none) : He.Defn)) (by simp [tf]))
  have TB_l_turned_right : LamX.TabB base mg (He.codeOf K ("_law_turned_right", none)) (He.tabOf K (He.codeOf K ("_law_turned_right", none))) := TBs _ (List.mem_map_of_mem (f := He.cT K) (a := (("_law_turned_right", none) : He.Defn)) (by simp [tf]))
  have O_NoSeen__init := ok_NoSeen__init (P := P) (w := w) (base := base) T F_NoSeen__init 
  have O_Clash__init := ok_Clash__init (P := P) (w := w) (base := base) T F_Clash__init 
  have O_is_number := ok_is_number (P := P) (w := w) (base := base) T F_is_number 
  have O_is_letter := ok_is_letter (P := P) (w := w) (base := base) T F_is_letter 
  have O_is_message := ok_is_message (P := P) (w := w) (base := base) T F_is_message O_is_letter O_is_number
  have O_are_against := ok_are_against (P := P) (w := w) (base := base) T F_are_against 
  have O_Seen__init := ok_Seen__init (P := P) (w := w) (base := base) T F_Seen__init 
  have OB_Seen__init := okb_Seen__init (P := P) (w := w) (base := base) T F_Seen__init O_is_message O_are_against O_NoSeen__init O_Clash__init
  have OX_Seen__init := (O_Seen__init.toX (CX' := L2.CX P w)).or OB_Seen__init
  have O_NoLink__init := ok_NoLink__init (P := P) (w := w) (base := base) T F_NoLink__init 
  have O_is_moment := ok_is_moment (P := P) (w := w) (base := base) T F_is_moment O_is_number
  have O_need_moment := ok_need_moment (P := P) (w := w) (base := base) T F_need_moment O_is_moment
  have OB_need_moment := okb_need_moment (P := P) (w := w) (base := base) T F_need_moment O_is_moment
  have OX_need_moment := (O_need_moment.toX (CX' := L2.CX P w)).or OB_need_moment
  have O_is_row := ok_is_row (P := P) (w := w) (base := base) T F_is_row 
  have O_need_row := ok_need_row (P := P) (w := w) (base := base) T F_need_row O_is_row
  have OB_need_row := okb_need_row (P := P) (w := w) (base := base) T F_need_row O_is_row
  have OX_need_row := (O_need_row.toX (CX' := L2.CX P w)).or OB_need_row
  have O_need_letter := ok_need_letter (P := P) (w := w) (base := base) T F_need_letter O_is_letter
  have OB_need_letter := okb_need_letter (P := P) (w := w) (base := base) T F_need_letter O_is_letter O_NoLink__init
  have OX_need_letter := (O_need_letter.toX (CX' := L2.CX P w)).or OB_need_letter
  have O_Seen_rides_of := ok_Seen_rides_of (P := P) (w := w) (base := base) T F_Seen_rides_of 
  have O_Seen_ends_at := ok_Seen_ends_at (P := P) (w := w) (base := base) T F_Seen_ends_at O_Seen_rides_of
  have O_Seen_begins_at := ok_Seen_begins_at (P := P) (w := w) (base := base) T F_Seen_begins_at O_Seen_rides_of
  have O_Seen_ends := ok_Seen_ends (P := P) (w := w) (base := base) T F_Seen_ends 
  have O_Seen_begins := ok_Seen_begins (P := P) (w := w) (base := base) T F_Seen_begins 
  have O_Seen_bounds := ok_Seen_bounds (P := P) (w := w) (base := base) T F_Seen_bounds 
  have OB_Seen_ends := okb_Seen_ends (P := P) (w := w) (base := base) T F_Seen_ends OX_need_letter OX_need_moment O_Seen_ends_at
  have OX_Seen_ends := (O_Seen_ends.toX (CX' := L2.CX P w)).or OB_Seen_ends
  have OB_Seen_begins := okb_Seen_begins (P := P) (w := w) (base := base) T F_Seen_begins OX_need_letter OX_need_moment O_Seen_begins_at
  have OX_Seen_begins := (O_Seen_begins.toX (CX' := L2.CX P w)).or OB_Seen_begins
  have OB_Seen_bounds := okb_Seen_bounds (P := P) (w := w) (base := base) T F_Seen_bounds OX_need_row OX_need_moment O_Seen_ends_at O_Seen_begins_at
  have OX_Seen_bounds := (O_Seen_bounds.toX (CX' := L2.CX P w)).or OB_Seen_bounds
  have O_l_next := ok_l_next (P := P) (w := w) (base := base) T F_l_next 
  have O_l_begun := ok_l_begun (P := P) (w := w) (base := base) T F_l_begun 
  have O_l_pick := ok_l_pick (P := P) (w := w) (base := base) T F_l_pick O_l_next
  have O_l_shuffled := ok_l_shuffled (P := P) (w := w) (base := base) T F_l_shuffled O_l_next
  have O_l_some := ok_l_some (P := P) (w := w) (base := base) T F_l_some O_l_shuffled O_l_next
  have O_is_ride := ok_is_ride (P := P) (w := w) (base := base) T F_is_ride O_is_number
  have O_needed := ok_needed (P := P) (w := w) (base := base) T F_needed 
  have O_Link__init := ok_Link__init (P := P) (w := w) (base := base) T F_Link__init O_is_ride O_needed
  have O_Timetable__init := ok_Timetable__init (P := P) (w := w) (base := base) T F_Timetable__init 
  have O_l_place := ok_l_place (P := P) (w := w) (base := base) T F_l_place 
  have O_l_end := ok_l_end (P := P) (w := w) (base := base) T F_l_end 
  have O_l_begin := ok_l_begin (P := P) (w := w) (base := base) T F_l_begin 
  have O_ended := ok_ended (P := P) (w := w) (base := base) T F_ended 
  have O_Timetable__getitem := ok_Timetable__getitem (P := P) (w := w) (base := base) T F_Timetable__getitem 
  have O_Link_end := ok_Link_end (P := P) (w := w) (base := base) T F_Link_end OX_need_moment O_ended
  have O_l_seen := ok_l_seen (P := P) (w := w) (base := base) T F_l_seen O_l_next O_l_pick O_l_end O_l_shuffled
  have O_Seen_example := ok_Seen_example (P := P) (w := w) (base := base) T F_Seen_example 
  have OB_Seen_example := okb_Seen_example (P := P) (w := w) (base := base) T F_Seen_example OX_need_letter O_is_number OX_need_moment O_Seen_ends_at O_Seen_rides_of O_Link__init O_Timetable__init
  have OX_Seen_example := (O_Seen_example.toX (CX' := L2.CX P w)).or OB_Seen_example
  have O_l_moment := ok_l_moment (P := P) (w := w) (base := base) T F_l_moment O_l_next O_l_pick
  have O_l_go := ok_l_go (P := P) (w := w) (base := base) T F_l_go O_l_end O_l_begin
  have O_l_within := ok_l_within (P := P) (w := w) (base := base) T F_l_within O_l_place
  have O_l_all_within := ok_l_all_within (P := P) (w := w) (base := base) T F_l_all_within O_l_moment O_l_end O_l_begin O_l_within O_l_next O_l_pick O_l_go OX_Seen_ends OX_Seen_begins OX_Seen_bounds
  have O_l_turned_right := ok_l_turned_right (P := P) (w := w) (base := base) T F_l_turned_right OX_Seen__init OX_Seen_ends OX_Seen_begins TB_l_turned_right F_l_word
  have O_l_one_more := ok_l_one_more (P := P) (w := w) (base := base) T F_l_one_more O_l_next O_l_pick OX_Seen__init OX_Seen_ends OX_Seen_example O_Timetable__getitem O_Link_end TB_l_one_more F_l_word
  exact ok_law T F O_l_begun O_l_next O_l_pick O_l_some O_l_seen O_l_shuffled O_l_all_within O_l_one_more O_l_turned_right OX_Seen__init OX_Seen_ends
end Nw
open PySem PySem.W PySem.Calls PyProof.Rows
theorem PySem.Challenge.cw_newsinorder_k59_whole_seen_of_a_drawn_ti_holds : PySem.Challenge.rw_newsinorder_k59_whole_seen_of_a_drawn_ti.Holds := by
  w_on; o_law
  refine HandSHeadRun.head_any (r := OpenLaw.row PySem.Challenge.rw_newsinorder_k59_whole_seen_of_a_drawn_ti) (q := view (OpenLaw.row PySem.Challenge.rw_newsinorder_k59_whole_seen_of_a_drawn_ti).prog [59]) (H := Nw.hk) (ob := Nw.ob) (M := 20000) (loose := Nw.loose) (d := HandSHeadRun.topDef (OpenLaw.row PySem.Challenge.rw_newsinorder_k59_whole_seen_of_a_drawn_ti).prog 59) (kwd := []) Nw.ob_eq
    (by kernel_rfl) (fun s => by kernel_rfl) Nw.run (by kernel_rfl) (by kernel_rfl) (by kernel_rfl) (by rfl) (by first | assumption | decide +kernel) (by decide +kernel) ⟨rfl, rfl, rfl, rfl, rfl, by decide +kernel⟩ ?hw ?hc
  case hw => w_witness2
  case hc =>
    refine LamX.walk_ofTsE (l := PySem.Challenge.rw_newsinorder_k59_whole_seen_of_a_drawn_ti) (n := 63) (k := 10) (x := "_law_script") (CX := fun _ => L2.CX0) rfl (by decide) (by kernel_rfl) ⟨rfl, by decide, by decide⟩ ?F (fun _ _ _ _ _ z => z)
    intro w mg fa h Y G hmg0
    obtain ⟨K, KX, c⟩ := Y
    have hmg : mg ("law" : PySem.Str) = some (.ref fa) := by
      have e : (HandSHeadRun.topDef (OpenLaw.row PySem.Challenge.rw_newsinorder_k59_whole_seen_of_a_drawn_ti).prog 59).name = ("law" : PySem.Str) := by kernel_rfl
      rw [← e]
      exact hmg0
    obtain ⟨fd, hb, hF⟩ := Nw.facts (P := (PySem.Challenge.rw_newsinorder_k59_whole_seen_of_a_drawn_ti).prog) (w := w) KX G hmg c
    exact ⟨K, KX, fd, Nw.tf.map (He.cT K), Nw.sp_law K, fun p hp => by
        obtain ⟨q, hq, rfl⟩ := List.mem_map.mp hp
        exact c.empty q hq, fun p hp => by
        obtain ⟨q, hq, rfl⟩ := List.mem_map.mp hp
        exact c.out q hq, fun p hp => by
        obtain ⟨q, hq, rfl⟩ := List.mem_map.mp hp
        exact PySem.W.codeHd_of_K KX (c.hd q hq), hb, fun H a ns hl _ hT hS => ⟨Nw.noT H, a, ns, rfl, Nw.noT_sub, Nw.noT_tb, fun p hp => by
          simp only [Nw.TbL, List.mem_cons, List.not_mem_nil, or_false] at hp
          rcases hp with rfl | rfl
          · exact LamX.TabS.nil (hT (He.cT K ("_law_one_more", none)) (List.mem_map_of_mem (f := He.cT K) (a := (("_law_one_more", none) : He.Defn)) (by simp [Nw.tf])))
          · exact LamX.TabS.nil (hT (He.cT K ("_law_turned_right", none)) (List.mem_map_of_mem (f := He.cT K) (a := (("_law_turned_right", none) : He.Defn)) (by simp [Nw.tf]))), Nw.noT_seq hS, hl, fun _ => rfl⟩, hF⟩